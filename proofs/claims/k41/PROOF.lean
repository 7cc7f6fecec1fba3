import PyProof.Rows.All
import Wide.All
import OpenK.AllK
import Wide.FinOn
import HandS.ForMost
import HandS.Exc
import HandS.TryOnly
import HandS.ExcOwn
import HandS.WordsExc
import HandS.IsInst
import HandS.Deep
import HandS.Defaults
import HandS.Head2
import HandS.HeadEnd
import HandS.HeadHook1
import HandS.HeadHook2
import HandS.Nested
import HandS.NestedK
import HandS.EndTab
import HandS.HeadHook4
import HandS.CallSlots
import PyProof.NeKinds
import HandS.TupAny
import HandS.More
import HandS.Flow
import HandS.Rev
import HandS.Zip
import PyProof.StrLawsIn
import HandS.DictEq
import KE.KEqDict
import HandS.Conv
import HandS.HeadHook3
import HandS.TryMany
import HandS.ExcInit
import KE.SortData
import KE.KExcIs
import HandS.Style
import PyProof.DictValues
import PyProof.ConsumeWalk
import HandS.ListEq
import HandS.Text
import PySem.Challenge.RW_yardkeep_k41_rules_of_a_route
set_option Elab.async false
set_option linter.all false
set_option maxRecDepth 100000
set_option maxHeartbeats 1000000
/-! Yk: Python's data as trees (D), mutable objects in a store, and readings that are functions. -/
namespace Yk
open PySem L2 NdefX LamX

/-- data: trees; what may still change stands in the store, by its number -/
inductive D where
  | non | bl (b : Bool) | int (i : Int) | str (s : Str)
  | lst (xs : List D) | tup (xs : List D)
  | dic (kvs : List (Key × D)) | dit (kvs : List (List Key × D))
  | obj (c : Str) (fs : List (Str × D))
  | loc (n : Nat)
  | ty (n : String) | cls (c : Str)
  /-- a def made by a def: its name, what it captured -/
  | clo (nm : Str) (ds : List D)
  /-- the exception that is handled -/
  | xo (c : Str) (fs : List (Str × D))
  /-- the script -/
  | scr (ns : List Int)

/-- what stands in the store -/
inductive OD where
  | lst (ds : List D) | dic (kvs : List (Key × D)) | dit (kvs : List (List Key × D)) | ins (c : Str) (fs : List (Str × D)) | gone
  | lck (o : OD)
abbrev Sto := List OD
abbrev Env' := List (Option D)

inductive Res where
  | ok (d : D) (O : Sto) | exc (c : Str) (fs : List (Str × D)) (O : Sto) | stuck
def Res.bind (r : Res) (k : D → Sto → Res) : Res := match r with
  | .ok d O => k d O
  | .exc c fs O => .exc c fs O
  | .stuck => .stuck

inductive ResL where
  | ok (d : List D) (O : Sto) | exc (c : Str) (fs : List (Str × D)) (O : Sto) | stuck
def Res.bindL (r : Res) (k : D → Sto → ResL) : ResL := match r with
  | .ok d O => k d O
  | .exc c fs O => .exc c fs O
  | .stuck => .stuck
def ResL.bindL (r : ResL) (k : List D → Sto → ResL) : ResL := match r with
  | .ok d O => k d O
  | .exc c fs O => .exc c fs O
  | .stuck => .stuck
def ResL.bind (r : ResL) (k : List D → Sto → Res) : Res := match r with
  | .ok d O => k d O
  | .exc c fs O => .exc c fs O
  | .stuck => .stuck

inductive ResB where
  | ok (b : Bool) (O : Sto) | exc (c : Str) (fs : List (Str × D)) (O : Sto) | stuck
def Res.bindB (r : Res) (k : D → Sto → ResB) : ResB := match r with
  | .ok d O => k d O
  | .exc c fs O => .exc c fs O
  | .stuck => .stuck
def ResB.bindB (r : ResB) (k : Bool → Sto → ResB) : ResB := match r with
  | .ok d O => k d O
  | .exc c fs O => .exc c fs O
  | .stuck => .stuck
def ResB.bind (r : ResB) (k : Bool → Sto → Res) : Res := match r with
  | .ok d O => k d O
  | .exc c fs O => .exc c fs O
  | .stuck => .stuck

inductive Out where
  | nx (ρ : Env') (O : Sto) | bk (ρ : Env') (O : Sto) | ct (ρ : Env') (O : Sto) | rt (d : D) (O : Sto)
  | exc (c : Str) (fs : List (Str × D)) (ρ : Env') (O : Sto) | stuck

abbrev DTE := Env' → Sto → Res
abbrev DTT := Env' → Sto → ResB
abbrev DTA := Env' → Sto → ResL
abbrev DTS := Env' → Sto → Out

/-! ### what is known of the heap -/
/-- the cells of made defs: whose, what they hold; those whose def is running, the names of the running ones -/
structure ClX where
  cl : Addr → Option (Str × V) := fun _ => none
  off : List Addr := []
  bz : List Str := []
  xa : Option (Addr × Addr × Option Addr) := none
structure ClX.le (x y : ClX) : Prop where
  cl : ∀ c p, x.cl c = some p → y.cl c = some p
  off : y.off = x.off
  bz : y.bz = x.bz
  xa : y.xa = x.xa
/-- what Rep asks of it -/
structure ClX.sb (x y : ClX) : Prop where
  cl : ∀ c p, x.cl c = some p → y.cl c = some p
  xa : y.xa = x.xa
theorem ClX.sb.refl (x : ClX) : x.sb x := ⟨fun _ _ h => h, rfl⟩
theorem ClX.le.refl (x : ClX) : x.le x := ⟨fun _ _ h => h, rfl, rfl, rfl⟩
theorem ClX.le.trans {x y z : ClX} (h : x.le y) (g : y.le z) : x.le z := ⟨fun _ _ q => g.cl _ _ (h.cl _ _ q), g.off.trans h.off, g.bz.trans h.bz, g.xa.trans h.xa⟩
structure Wd where
  F : Hp
  ad : List Addr
  pv : Hp := fun _ => none
  lk : Hp := fun _ => none
  cx : ClX := {}
structure Wd.le (w w' : Wd) : Prop where
  F : ∀ a u, w.F a = some u → w'.F a = some u
  ad : ∀ (n : Nat) (a : Addr), w.ad[n]? = some a → w'.ad[n]? = some a
  pv : w'.pv = w.pv
  lk : w'.lk = w.lk
  cx : w.cx.le w'.cx
theorem Wd.le.refl (w : Wd) : w.le w := ⟨fun _ _ h => h, fun _ _ h => h, rfl, rfl, .refl _⟩
theorem Wd.le.trans {a b c : Wd} (x : a.le b) (y : b.le c) : a.le c := ⟨fun p u h => y.F _ _ (x.F _ _ h), fun n p h => y.ad _ _ (x.ad _ _ h), y.pv.trans x.pv, y.lk.trans x.lk, x.cx.trans y.cx⟩

def isDict : HO → Bool
  | .dK _ => true
  | .dT _ => true
  | _ => false
def isFrz : HO → Bool
  | .frz _ _ => true
  | _ => false
def Ext (F H : Hp) : Prop := ∀ a u, F a = some u → H a = some u ∨ (isDict u = true ∧ ∃ o, H a = some (.frz o u))

/-- a def made by a def: its text -/
structure CloS where
  name : Str
  qual : Str
  params : Arguments
  body : List Stmt
  scope : Scope
  fr : List Str
abbrev CloS.nf (S : CloS) (cl : List (Str × Addr)) (c : Addr) : NF := ⟨S.name, S.qual, S.params, S.body, S.scope, cl, c⟩
structure Cn where
  K : PySem.W.Frag
  f : Str → Option Addr
  cf : Str → Option CloS := fun _ => none
  T : List NTab := []
  bz : Option (List Str) := some []
  xa : Option (Addr × Addr × Option Addr) := none
/-- a made def's captured cells -/
structure CapC (w : Wd) (nm : Str) (cl : List (Str × Addr)) (fr : List Str) (vs : List V) : Prop where
  len : vs.length = fr.length
  sub : ∀ y c, cl.lookup y = some c → y ∈ fr
  frn : fr.Nodup
  inj : ∀ x y c, cl.lookup x = some c → cl.lookup y = some c → x = y
  has : ∀ (i : Nat) (y : Str), fr[i]? = some y → ∃ c, cl.lookup y = some c ∧ ∀ v, vs[i]? = some v → w.cx.cl c = some (nm, v)
mutual
inductive Rep (ca : Cn) (w : Wd) : V → D → Prop
  | non : Rep ca w .non .non
  | bl (b : Bool) : Rep ca w (.bl b) (.bl b)
  | int (i : Int) : Rep ca w (.int i) (.int i)
  | str (s : Str) : Rep ca w (.str s) (.str s)
  | lst {a : Addr} {vs : List V} {ds : List D} (h : w.F a = some (.lst vs)) (r : RepL ca w vs ds) : Rep ca w (.ref a) (.lst ds)
  | tup {a : Addr} {vs : List V} {ds : List D} (h : w.F a = some (.tup vs)) (r : RepL ca w vs ds) : Rep ca w (.ref a) (.tup ds)
  | dic {a : Addr} {kvs : List (Key × V)} {kds : List (Key × D)} (h : w.F a = some (.dK kvs)) (r : RepK ca w kvs kds) : Rep ca w (.ref a) (.dic kds)
  | dit {a : Addr} {kvs : List (List Key × V)} {kds : List (List Key × D)} (h : w.F a = some (.dT kvs)) (r : RepT ca w kvs kds) : Rep ca w (.ref a) (.dit kds)
  | obj {a C dx : Addr} {c : Str} {vs : List (Str × V)} {ds : List (Str × D)} (h : w.F a = some (.ins C dx vs)) (hc : ca.f c = some C) (r : RepF ca w vs ds) : Rep ca w (.ref a) (.obj c ds)
  | loc {a : Addr} {n : Nat} (h : w.ad[n]? = some a) : Rep ca w (.ref a) (.loc n)
  | ty (n : String) : Rep ca w (.ty n) (.ty n)
  | cls {C : Addr} {c : Str} (h : ca.f c = some C) : Rep ca w (.ref C) (.cls c)
  | clo {f c' : Addr} {nm : Str} {S : CloS} {cl : List (Str × Addr)} {vs : List V} {ds : List D} (hs : ca.cf nm = some S) (hf : w.F f = some (FnO f (S.nf cl c'))) (hc : w.F c' = some (CodeO c' S.qual)) (hk : CapC w nm cl S.fr vs) (r : RepL ca w vs ds) : Rep ca w (.ref f) (.clo nm ds)
  | xo0 {a C : Addr} {c : Str} (hx : w.cx.xa = some (a, C, none)) (hc : ca.f c = some C) : Rep ca w (.ref a) (.xo c [])
  | xo {a C d : Addr} {c : Str} {vs : List (Str × V)} {fs : List (Str × D)} (hx : w.cx.xa = some (a, C, some d)) (hc : ca.f c = some C) (hd : w.F d = some (.xd vs)) (r : RepF ca w vs fs) : Rep ca w (.ref a) (.xo c fs)
  | scr {a : Addr} {ns : List Int} (h : SqL ca.K w.F a (ns.map V.int)) : Rep ca w (.ref a) (.scr ns)
inductive RepL (ca : Cn) (w : Wd) : List V → List D → Prop
  | nil : RepL ca w [] []
  | cons {v : V} {d : D} {vs : List V} {ds : List D} (h : Rep ca w v d) (r : RepL ca w vs ds) : RepL ca w (v :: vs) (d :: ds)
inductive RepK (ca : Cn) (w : Wd) : List (Key × V) → List (Key × D) → Prop
  | nil : RepK ca w [] []
  | cons {k : Key} {v : V} {d : D} {vs : List (Key × V)} {ds : List (Key × D)} (h : Rep ca w v d) (r : RepK ca w vs ds) : RepK ca w ((k, v) :: vs) ((k, d) :: ds)
inductive RepT (ca : Cn) (w : Wd) : List (List Key × V) → List (List Key × D) → Prop
  | nil : RepT ca w [] []
  | cons {k : List Key} {v : V} {d : D} {vs : List (List Key × V)} {ds : List (List Key × D)} (h : Rep ca w v d) (r : RepT ca w vs ds) : RepT ca w ((k, v) :: vs) ((k, d) :: ds)
inductive RepF (ca : Cn) (w : Wd) : List (Str × V) → List (Str × D) → Prop
  | nil : RepF ca w [] []
  | cons {k : Str} {v : V} {d : D} {vs : List (Str × V)} {ds : List (Str × D)} (h : Rep ca w v d) (r : RepF ca w vs ds) : RepF ca w ((k, v) :: vs) ((k, d) :: ds)
end

theorem nodup_at {l : List Addr} (h : l.Nodup) {n m : Nat} {a : Addr} (e1 : l[n]? = some a) (e2 : l[m]? = some a) : n = m := by
  induction l generalizing n m with
  | nil => simp at e1
  | cons b l ih =>
    obtain ⟨h1, h2⟩ := List.nodup_cons.mp h
    cases n with
    | zero =>
      cases m with
      | zero => rfl
      | succ m =>
        simp at e1 e2
        subst e1
        exact absurd (List.mem_of_getElem? e2) h1
    | succ n =>
      cases m with
      | zero =>
        simp at e1 e2
        subst e2
        exact absurd (List.mem_of_getElem? e1) h1
      | succ m =>
        simp at e1 e2
        rw [ih h2 e1 e2]
theorem Rd.le {w w' : Wd} (x : w.le w') {a : Addr} {u : HO} (h : Rd w.F a u) : Rd w'.F a u := by
  rcases h with h | ⟨o, h⟩
  · exact .inl (x.F _ _ h)
  · exact .inr ⟨o, x.F _ _ h⟩
/-- what Rep asks -/
structure Wd.sb (w w' : Wd) : Prop where
  F : ∀ a u, w.F a = some u → w'.F a = some u
  ad : ∀ (n : Nat) (a : Addr), w.ad[n]? = some a → w'.ad[n]? = some a
  cx : w.cx.sb w'.cx
/-- .. and nothing runs more or less -/
structure Wd.sub (w w' : Wd) : Prop where
  F : ∀ a u, w.F a = some u → w'.F a = some u
  ad : ∀ (n : Nat) (a : Addr), w.ad[n]? = some a → w'.ad[n]? = some a
  cx : w.cx.le w'.cx
theorem Wd.le.sub {w w' : Wd} (x : w.le w') : w.sub w' := ⟨x.F, x.ad, x.cx⟩
theorem Wd.sub.sb {w w' : Wd} (x : w.sub w') : w.sb w' := ⟨x.F, x.ad, x.cx.cl, x.cx.xa⟩
theorem CapC.mono {w w' : Wd} (x : w.sb w') {nm : Str} {cl : List (Str × Addr)} {fr : List Str} {vs : List V} (h : CapC w nm cl fr vs) : CapC w' nm cl fr vs :=
  ⟨h.len, h.sub, h.frn, h.inj, fun i y e => let ⟨c, a, b⟩ := h.has i y e; ⟨c, a, fun v q => x.cx.cl _ _ (b v q)⟩⟩
theorem SqL.sub {K : PySem.W.Frag} {w w' : Wd} (x : w.sb w') {a : Addr} {vs : List V} (h : SqL K w.F a vs) : SqL K w'.F a vs := by
  rcases h with (h | ⟨o, h⟩) | h
  · exact .inl (.inl (x.F _ _ h))
  · exact .inl (.inr ⟨o, x.F _ _ h⟩)
  · exact .inr h
theorem Rd.sub {w w' : Wd} (x : w.sub w') {a : Addr} {u : HO} (h : Rd w.F a u) : Rd w'.F a u := by
  rcases h with h | ⟨o, h⟩
  · exact .inl (x.F _ _ h)
  · exact .inr ⟨o, x.F _ _ h⟩
section
variable {ca : Cn} {w w' : Wd}
mutual
theorem Rep.monoB (x : w.sb w') : ∀ {v : V} {d : D}, Rep ca w v d → Rep ca w' v d
  | _, _, .non => .non
  | _, _, .bl b => .bl b
  | _, _, .int i => .int i
  | _, _, .str s => .str s
  | _, _, .lst h r => .lst (x.F _ _ h) (RepL.monoB x r)
  | _, _, .tup h r => .tup (x.F _ _ h) (RepL.monoB x r)
  | _, _, .dic h r => .dic (x.F _ _ h) (RepK.monoB x r)
  | _, _, .dit h r => .dit (x.F _ _ h) (RepT.monoB x r)
  | _, _, .obj h hc r => .obj (x.F _ _ h) hc (RepF.monoB x r)
  | _, _, .loc h => .loc (x.ad _ _ h)
  | _, _, .ty n => .ty n
  | _, _, .cls h => .cls h
  | _, _, .clo hs hf hc hk r => .clo hs (x.F _ _ hf) (x.F _ _ hc) (hk.mono x) (RepL.monoB x r)
  | _, _, .xo0 hx hc => .xo0 (x.cx.xa.trans hx) hc
  | _, _, .xo hx hc hd r => .xo (x.cx.xa.trans hx) hc (x.F _ _ hd) (RepF.monoB x r)
  | _, _, .scr h => .scr (SqL.sub x h)
theorem RepL.monoB (x : w.sb w') : ∀ {v : List V} {d : List D}, RepL ca w v d → RepL ca w' v d
  | _, _, .nil => .nil
  | _, _, .cons h r => .cons (Rep.monoB x h) (RepL.monoB x r)
theorem RepK.monoB (x : w.sb w') : ∀ {v : List (Key × V)} {d : List (Key × D)}, RepK ca w v d → RepK ca w' v d
  | _, _, .nil => .nil
  | _, _, .cons h r => .cons (Rep.monoB x h) (RepK.monoB x r)
theorem RepT.monoB (x : w.sb w') : ∀ {v : List (List Key × V)} {d : List (List Key × D)}, RepT ca w v d → RepT ca w' v d
  | _, _, .nil => .nil
  | _, _, .cons h r => .cons (Rep.monoB x h) (RepT.monoB x r)
theorem RepF.monoB (x : w.sb w') : ∀ {v : List (Str × V)} {d : List (Str × D)}, RepF ca w v d → RepF ca w' v d
  | _, _, .nil => .nil
  | _, _, .cons h r => .cons (Rep.monoB x h) (RepF.monoB x r)
end
theorem Rep.mono' (x : w.sub w') {v : V} {d : D} (h : Rep ca w v d) : Rep ca w' v d := h.monoB x.sb
theorem RepL.mono' (x : w.sub w') {v : List V} {d : List D} (h : RepL ca w v d) : RepL ca w' v d := h.monoB x.sb
theorem RepK.mono' (x : w.sub w') {v : List (Key × V)} {d : List (Key × D)} (h : RepK ca w v d) : RepK ca w' v d := h.monoB x.sb
theorem RepT.mono' (x : w.sub w') {v : List (List Key × V)} {d : List (List Key × D)} (h : RepT ca w v d) : RepT ca w' v d := h.monoB x.sb
theorem RepF.mono' (x : w.sub w') {v : List (Str × V)} {d : List (Str × D)} (h : RepF ca w v d) : RepF ca w' v d := h.monoB x.sb
theorem Rep.mono (x : w.le w') {v : V} {d : D} (h : Rep ca w v d) : Rep ca w' v d := h.mono' x.sub
theorem RepL.mono (x : w.le w') {v : List V} {d : List D} (h : RepL ca w v d) : RepL ca w' v d := h.mono' x.sub
theorem RepK.mono (x : w.le w') {v : List (Key × V)} {d : List (Key × D)} (h : RepK ca w v d) : RepK ca w' v d := h.mono' x.sub
theorem RepT.mono (x : w.le w') {v : List (List Key × V)} {d : List (List Key × D)} (h : RepT ca w v d) : RepT ca w' v d := h.mono' x.sub
theorem RepF.mono (x : w.le w') {v : List (Str × V)} {d : List (Str × D)} (h : RepF ca w v d) : RepF ca w' v d := h.mono' x.sub
/-- what Rep asks of ca -/
structure Cn.same (ca cb : Cn) : Prop where
  K : ca.K = cb.K
  f : ca.f = cb.f
  cf : ca.cf = cb.cf
mutual
theorem Rep.conv {ca cb : Cn} (x : ca.same cb) : ∀ {v : V} {d : D}, Rep ca w v d → Rep cb w v d
  | _, _, .non => .non
  | _, _, .bl b => .bl b
  | _, _, .int i => .int i
  | _, _, .str s => .str s
  | _, _, .lst h r => .lst h (RepL.conv x r)
  | _, _, .tup h r => .tup h (RepL.conv x r)
  | _, _, .dic h r => .dic h (RepK.conv x r)
  | _, _, .dit h r => .dit h (RepT.conv x r)
  | _, _, .obj h hc r => .obj h (by rw [← x.f]; exact hc) (RepF.conv x r)
  | _, _, .loc h => .loc h
  | _, _, .ty n => .ty n
  | _, _, .cls h => .cls (by rw [← x.f]; exact h)
  | _, _, .clo hs hf hc hk r => .clo (by rw [← x.cf]; exact hs) hf hc hk (RepL.conv x r)
  | _, _, .xo0 hx hc => .xo0 hx (by rw [← x.f]; exact hc)
  | _, _, .xo hx hc hd r => .xo hx (by rw [← x.f]; exact hc) hd (RepF.conv x r)
  | _, _, .scr h => .scr (by rw [← x.K]; exact h)
theorem RepL.conv {ca cb : Cn} (x : ca.same cb) : ∀ {v : List V} {d : List D}, RepL ca w v d → RepL cb w v d
  | _, _, .nil => .nil
  | _, _, .cons h r => .cons (Rep.conv x h) (RepL.conv x r)
theorem RepK.conv {ca cb : Cn} (x : ca.same cb) : ∀ {v : List (Key × V)} {d : List (Key × D)}, RepK ca w v d → RepK cb w v d
  | _, _, .nil => .nil
  | _, _, .cons h r => .cons (Rep.conv x h) (RepK.conv x r)
theorem RepT.conv {ca cb : Cn} (x : ca.same cb) : ∀ {v : List (List Key × V)} {d : List (List Key × D)}, RepT ca w v d → RepT cb w v d
  | _, _, .nil => .nil
  | _, _, .cons h r => .cons (Rep.conv x h) (RepT.conv x r)
theorem RepF.conv {ca cb : Cn} (x : ca.same cb) : ∀ {v : List (Str × V)} {d : List (Str × D)}, RepF ca w v d → RepF cb w v d
  | _, _, .nil => .nil
  | _, _, .cons h r => .cons (Rep.conv x h) (RepF.conv x r)
end
theorem RepL.length : ∀ {vs : List V} {ds : List D}, RepL ca w vs ds → vs.length = ds.length
  | _, _, .nil => rfl
  | _, _, .cons _ r => by rw [List.length_cons, List.length_cons, RepL.length r]
theorem RepK.length : ∀ {vs : List (Key × V)} {ds : List (Key × D)}, RepK ca w vs ds → vs.length = ds.length
  | _, _, .nil => rfl
  | _, _, .cons _ r => by rw [List.length_cons, List.length_cons, RepK.length r]
theorem RepT.length : ∀ {vs : List (List Key × V)} {ds : List (List Key × D)}, RepT ca w vs ds → vs.length = ds.length
  | _, _, .nil => rfl
  | _, _, .cons _ r => by rw [List.length_cons, List.length_cons, RepT.length r]
theorem RepL.get : ∀ {vs : List V} {ds : List D} {i : Nat} {v : V}, RepL ca w vs ds → vs[i]? = some v → ∃ d, ds[i]? = some d ∧ Rep ca w v d
  | _, _, _, _, .nil, e => by simp at e
  | _, _, 0, _, .cons h r, e => by
    simp at e
    subst e
    exact ⟨_, rfl, h⟩
  | _, _, i + 1, v, .cons h r, e => by
    obtain ⟨d, h1, h2⟩ := RepL.get (i := i) (v := v) r (by simpa using e)
    exact ⟨d, by simpa using h1, h2⟩
theorem RepL.getD : ∀ {vs : List V} {ds : List D} {i : Nat} {d : D}, RepL ca w vs ds → ds[i]? = some d → ∃ v, vs[i]? = some v ∧ Rep ca w v d
  | _, _, _, _, .nil, e => by simp at e
  | _, _, 0, _, .cons h r, e => by
    simp at e
    subst e
    exact ⟨_, rfl, h⟩
  | _, _, i + 1, v, .cons h r, e => by
    obtain ⟨d, h1, h2⟩ := RepL.getD (i := i) (d := v) r (by simpa using e)
    exact ⟨d, by simpa using h1, h2⟩
theorem RepL.append : ∀ {vs us : List V} {ds es : List D}, RepL ca w vs ds → RepL ca w us es → RepL ca w (vs ++ us) (ds ++ es)
  | _, _, _, _, .nil, s => s
  | _, _, _, _, .cons h r, s => .cons h (RepL.append r s)
theorem RepL.take : ∀ {vs : List V} {ds : List D} (n : Nat), RepL ca w vs ds → RepL ca w (vs.take n) (ds.take n)
  | _, _, 0, _ => by simpa using RepL.nil
  | _, _, _ + 1, .nil => by simpa using RepL.nil
  | _, _, n + 1, .cons h r => by simpa using RepL.cons h (RepL.take n r)
theorem RepL.drop : ∀ {vs : List V} {ds : List D} (n : Nat), RepL ca w vs ds → RepL ca w (vs.drop n) (ds.drop n)
  | _, _, 0, r => by simpa using r
  | _, _, _ + 1, .nil => by simpa using RepL.nil
  | _, _, n + 1, .cons h r => by simpa using RepL.drop n r
theorem RepL.dropLast {vs : List V} {ds : List D} (r : RepL ca w vs ds) : RepL ca w vs.dropLast ds.dropLast := by
  rw [List.dropLast_eq_take, List.dropLast_eq_take, r.length]
  exact r.take _
theorem RepL.set {v : V} {d : D} (h : Rep ca w v d) : ∀ {vs : List V} {ds : List D} (i : Nat), RepL ca w vs ds → RepL ca w (vs.set i v) (ds.set i d)
  | _, _, _, .nil => by simpa using RepL.nil
  | _, _, 0, .cons _ r => .cons h r
  | _, _, i + 1, .cons g r => .cons g (RepL.set h i r)
theorem RepL.reverse : ∀ {vs : List V} {ds : List D}, RepL ca w vs ds → RepL ca w vs.reverse ds.reverse
  | _, _, .nil => .nil
  | _, _, .cons h r => by simpa using (RepL.reverse r).append (.cons h .nil)
end

/-- the store's object at an address -/
inductive RepO (ca : Cn) (w : Wd) : HO → OD → Prop
  | lst {vs : List V} {ds : List D} (r : RepL ca w vs ds) : RepO ca w (.lst vs) (.lst ds)
  | dic {kvs : List (Key × V)} {kds : List (Key × D)} (r : RepK ca w kvs kds) : RepO ca w (.dK kvs) (.dic kds)
  | dit {kvs : List (List Key × V)} {kds : List (List Key × D)} (r : RepT ca w kvs kds) : RepO ca w (.dT kvs) (.dit kds)
  | ins {C dx : Addr} {c : Str} {vs : List (Str × V)} {ds : List (Str × D)} (hc : ca.f c = some C) (r : RepF ca w vs ds) : RepO ca w (.ins C dx vs) (.ins c ds)
  | lck {o : Obj} {u : HO} {od : OD} (hu : isDict u = true) (r : RepO ca w u od) : RepO ca w (.frz o u) (.lck od)
theorem RepO.monoB {ca : Cn} {w w' : Wd} (x : w.sb w') : ∀ {u : HO} {o : OD}, RepO ca w u o → RepO ca w' u o
  | _, _, .lst r => .lst (r.monoB x)
  | _, _, .dic r => .dic (r.monoB x)
  | _, _, .dit r => .dit (r.monoB x)
  | _, _, .ins hc r => .ins hc (r.monoB x)
  | _, _, .lck hu r => .lck hu (r.monoB x)
theorem RepO.mono' {ca : Cn} {w w' : Wd} (x : w.sub w') {u : HO} {o : OD} (h : RepO ca w u o) : RepO ca w' u o := h.monoB x.sb
theorem RepO.mono {ca : Cn} {w w' : Wd} (x : w.le w') {u : HO} {o : OD} (h : RepO ca w u o) : RepO ca w' u o := h.mono' x.sub

/-- what is written and read as a whole by one owner -/
def plain : HO → Bool
  | .tbl _ => false
  | .ext _ => false
  | .xd _ => false
  | _ => true
def notTbl : HO → Bool
  | .tbl _ => false
  | _ => true
/-- no table, no thing told by a predicate -/
def dat : HO → Bool
  | .tbl _ => false
  | .ext _ => false
  | _ => true
theorem dat_nt {u : HO} (h : dat u = true) : notTbl u = true := by cases u <;> first | rfl | cases h
def CellO (c : Addr) (v : V) : HO := .ext fun h => ∃ u, L2.RelV v u ∧ h.IsCell c (some u)
structure OkX (ca : Cn) (w : Wd) (H : Hp) : Prop where
  pvp : ∀ a u, w.pv a = some u → plain u = true
  fpl : ∀ a u, w.F a = some u → notTbl u = true ∧ ∀ nm v, w.cx.cl a = some (nm, v) → a ∈ w.cx.off
  tab : TabsN ca.T H
  cel : ∀ c nm v, w.cx.cl c = some (nm, v) → c ∈ w.cx.off ∨ H c = some (CellO c v)
  offb : ∀ c, c ∈ w.cx.off → ∃ nm v, w.cx.cl c = some (nm, v) ∧ nm ∈ w.cx.bz
  bzk : ∀ l, ca.bz = some l → w.cx.bz = l
  xak : w.cx.xa = ca.xa
theorem plain_ne {a b : Addr} {H : Hp} {u : HO} (h : ∀ u, H a = some u → plain u = true) (e : H b = some u) (hu : plain u = false) : b ≠ a := fun q => by
  have := h u (q ▸ e)
  rw [hu] at this
  cases this
theorem tabs_upd {T : List NTab} {H : Hp} {a : Addr} {o : HO} (t : TabsN T H) (h : ∀ u, H a = some u → plain u = true) : TabsN T (upd H a o) := fun p hp => by
  obtain ⟨ps, h1, h2, h3⟩ := t p hp
  refine ⟨ps, (upd_ne (plain_ne h h1 rfl)).trans h1, h2, fun pos cv hc => ?_⟩
  obtain ⟨c, e1, e2⟩ := h3 pos cv hc
  exact ⟨c, e1, (upd_ne (plain_ne h e2 rfl)).trans e2⟩
section
variable {ca : Cn} {w w' : Wd} {H : Hp}
theorem OkX.upd (x : OkX ca w H) {a : Addr} {o : HO} (h : ∀ u, H a = some u → plain u = true) : OkX ca w (upd H a o) :=
  ⟨x.pvp, x.fpl, tabs_upd x.tab h, fun c nm v e => (x.cel c nm v e).imp id fun q => (upd_ne (plain_ne h q rfl)).trans q, x.offb, x.bzk, x.xak⟩
theorem OkX.new (x : OkX ca w H) {a : Addr} {o : HO} (h : H a = none) : OkX ca w (L2.upd H a o) := x.upd fun u e => by rw [h] at e; cases e
theorem OkX.wd (x : OkX ca w H) (hp : ∀ a u, w'.pv a = some u → plain u = true) (hF : ∀ a u, w'.F a = some u → notTbl u = true ∧ ∀ nm v, w.cx.cl a = some (nm, v) → a ∈ w.cx.off) (hc : w'.cx = w.cx := by rfl) : OkX ca w' H :=
  ⟨hp, by rw [hc]; exact hF, x.tab, by rw [hc]; exact x.cel, by rw [hc]; exact x.offb, by rw [hc]; exact x.bzk, by rw [hc]; exact x.xak⟩
end
structure Ok (ca : Cn) (w : Wd) (O : Sto) (H : Hp) : Prop where
  ext : Ext w.F H
  len : w.ad.length = O.length
  nd : w.ad.Nodup
  here : ∀ a ∈ w.ad, ∃ u, H a = some u ∧ plain u = true
  own : ∀ (n : Nat) (a : Addr) (o : OD), w.ad[n]? = some a → O[n]? = some o → o ≠ .gone → w.F a = none ∧ ∃ u, H a = some u ∧ RepO ca w u o
  prv : ∀ a u, w.pv a = some u → H a = some u ∧ w.F a = none ∧ a ∉ w.ad
  lks : ∀ a u, w.lk a = some u → H a = some u ∧ isFrz u = true
  x : OkX ca w H
theorem RepO.plain {ca : Cn} {w : Wd} {u : HO} {o : OD} (r : RepO ca w u o) : plain u = true := by cases r <;> rfl
theorem RepO.dat {ca : Cn} {w : Wd} {u : HO} {o : OD} (r : RepO ca w u o) : dat u = true := by cases r <;> rfl

/-- the slots -/
def RepE (ca : Cn) (w : Wd) (σ : L2.St) (ρ : Env') : Prop := σ.length = ρ.length ∧ ∀ (i : Nat) (d : D), ρ[i]? = some (some d) → ∃ v, σ[i]? = some (some v) ∧ Rep ca w v d
theorem RepE.mono' {ca : Cn} {w w' : Wd} {σ : L2.St} {ρ : Env'} (x : w.sub w') (h : RepE ca w σ ρ) : RepE ca w' σ ρ := ⟨h.1, fun i d e => let ⟨v, a, b⟩ := h.2 i d e; ⟨v, a, b.mono' x⟩⟩
theorem RepE.mono {ca : Cn} {w w' : Wd} {σ : L2.St} {ρ : Env'} (x : w.le w') (h : RepE ca w σ ρ) : RepE ca w' σ ρ := h.mono' x.sub
theorem RepE.set {ca : Cn} {w : Wd} {σ : L2.St} {ρ : Env'} {v : V} {d : D} {i : Nat} (h : RepE ca w σ ρ) (r : Rep ca w v d) : RepE ca w (σ.set i (some v)) (ρ.set i (some d)) := by
  refine ⟨by simpa using h.1, fun j e q => ?_⟩
  by_cases hij : i = j
  · subst hij
    by_cases hl : i < ρ.length
    · rw [List.getElem?_set_self hl] at q
      cases q
      exact ⟨v, by rw [List.getElem?_set_self (by rw [h.1]; exact hl)], r⟩
    · rw [List.getElem?_eq_none (by simpa using hl)] at q
      cases q
  · rw [List.getElem?_set_ne hij] at q
    obtain ⟨u, a, b⟩ := h.2 j e q
    exact ⟨u, by rw [List.getElem?_set_ne hij]; exact a, b⟩

/-- an exception -/
def RepX (ca : Cn) (w : Wd) (H : Hp) (c : Str) (fs : List (Str × D)) (cv : Value) (dx : Option Addr) : Prop :=
  ∃ C, ca.f c = some C ∧ cv = .ref C ∧ match dx with
    | none => fs = []
    | some d => ∃ vs, H d = some (.xd vs) ∧ RepF ca w vs fs

section
variable (ca : Cn) (w : Wd) (W : WX)
def Post (σ : L2.St) (Q : VK) : Res → Prop
  | .ok d O' => ∀ v w' H', w.le w' → Ok ca w' O' H' → Rep ca w' v d → Q v H'
  | .exc c fs O' => ∀ cv dx w' H', w.le w' → Ok ca w' O' H' → RepX ca w' H' c fs cv dx → W cv dx σ H'
  | .stuck => False
def PostL (σ : L2.St) (Q : List V → Hp → Prop) : ResL → Prop
  | .ok d O' => ∀ v w' H', w.le w' → Ok ca w' O' H' → RepL ca w' v d → Q v H'
  | .exc c fs O' => ∀ cv dx w' H', w.le w' → Ok ca w' O' H' → RepX ca w' H' c fs cv dx → W cv dx σ H'
  | .stuck => False
def PostB (σ : L2.St) (Q : Bool → Hp → Prop) : ResB → Prop
  | .ok b O' => ∀ w' H', w.le w' → Ok ca w' O' H' → Q b H'
  | .exc c fs O' => ∀ cv dx w' H', w.le w' → Ok ca w' O' H' → RepX ca w' H' c fs cv dx → W cv dx σ H'
  | .stuck => False
def PostS (Dn : Ends) : Out → Prop
  | .nx ρ' O' => ∀ σ' w' H', w.le w' → Ok ca w' O' H' → RepE ca w' σ' ρ' → Dn.nx σ' H'
  | .bk ρ' O' => ∀ σ' w' H', w.le w' → Ok ca w' O' H' → RepE ca w' σ' ρ' → Dn.bk σ' H'
  | .ct ρ' O' => ∀ σ' w' H', w.le w' → Ok ca w' O' H' → RepE ca w' σ' ρ' → Dn.ct σ' H'
  | .rt d O' => ∀ v w' H', w.le w' → Ok ca w' O' H' → Rep ca w' v d → Dn.rt v H'
  | .exc c fs ρ' O' => ∀ cv dx σ' w' H', w.le w' → Ok ca w' O' H' → RepE ca w' σ' ρ' → RepX ca w' H' c fs cv dx → W cv dx σ' H'
  | .stuck => False
end
section
variable {ca : Cn} {w w' : Wd} {W : WX} {σ : L2.St}
theorem Post.mono {Q : VK} {r : Res} (x : w.le w') (h : Post ca w W σ Q r) : Post ca w' W σ Q r := by
  cases r with
  | ok d O => exact fun v w2 H2 y => h v w2 H2 (x.trans y)
  | exc c fs O => exact fun cv dx w2 H2 y => h cv dx w2 H2 (x.trans y)
  | stuck => exact h
theorem PostL.mono {Q : List V → Hp → Prop} {r : ResL} (x : w.le w') (h : PostL ca w W σ Q r) : PostL ca w' W σ Q r := by
  cases r with
  | ok d O => exact fun v w2 H2 y => h v w2 H2 (x.trans y)
  | exc c fs O => exact fun cv dx w2 H2 y => h cv dx w2 H2 (x.trans y)
  | stuck => exact h
theorem PostB.mono {Q : Bool → Hp → Prop} {r : ResB} (x : w.le w') (h : PostB ca w W σ Q r) : PostB ca w' W σ Q r := by
  cases r with
  | ok d O => exact fun w2 H2 y => h w2 H2 (x.trans y)
  | exc c fs O => exact fun cv dx w2 H2 y => h cv dx w2 H2 (x.trans y)
  | stuck => exact h
theorem PostS.mono {Dn : Ends} {r : Out} (x : w.le w') (h : PostS ca w W Dn r) : PostS ca w' W Dn r := by
  cases r with
  | nx ρ O => exact fun s w2 H2 y => h s w2 H2 (x.trans y)
  | bk ρ O => exact fun s w2 H2 y => h s w2 H2 (x.trans y)
  | ct ρ O => exact fun s w2 H2 y => h s w2 H2 (x.trans y)
  | rt d O => exact fun v w2 H2 y => h v w2 H2 (x.trans y)
  | exc c fs ρ O => exact fun cv dx s w2 H2 y => h cv dx s w2 H2 (x.trans y)
  | stuck => exact h
end

/-! ### the judgements -/
section
variable (ca : Cn) (W : WX)
def SndE (t : TE) (m : DTE) : Prop := ∀ w O H σ ρ Q, Ok ca w O H → RepE ca w σ ρ → Post ca w W σ Q (m ρ O) → t σ H Q
def SndT (t : TT) (m : DTT) : Prop := ∀ w O H σ ρ Q, Ok ca w O H → RepE ca w σ ρ → PostB ca w W σ Q (m ρ O) → t σ H Q
def SndA (t : TA) (m : DTA) : Prop := ∀ w O H σ ρ Q, Ok ca w O H → RepE ca w σ ρ → PostL ca w W σ Q (m ρ O) → t σ H Q
def SndS (t : TS) (m : DTS) : Prop := ∀ w O H σ ρ Dn, Ok ca w O H → RepE ca w σ ρ → PostS ca w W Dn (m ρ O) → t Dn σ H
end
def DE (ca : Cn) (W : WX) (X : Cx) (e : Expr) (m : DTE) : Prop := ∃ t, PE X e t ∧ SndE ca W t m
def DT (ca : Cn) (W : WX) (X : Cx) (e : Expr) (m : DTT) : Prop := ∃ t, PT X e t ∧ SndT ca W t m
def DW (ca : Cn) (W : WX) (X : Cx) (e : Expr) (m : DTT) : Prop := ∃ t, PW X e t ∧ SndT ca W t m
def DA (ca : Cn) (W : WX) (X : Cx) (e : List Expr) (m : DTA) : Prop := ∃ t, PA X e t ∧ SndA ca W t m
def DS (ca : Cn) (W : WX) (X : Cx) (e : Stmt) (m : DTS) : Prop := ∃ t, PS X e t ∧ SndS ca W t m
def DSs (ca : Cn) (W : WX) (X : Cx) (e : List Stmt) (m : DTS) : Prop := ∃ t, PSs X e t ∧ SndS ca W t m

section
variable {ca : Cn} {w : Wd} {W : WX} {σ : L2.St}
/-- going on from a value -/
theorem Post.bind {Q Q1 : VK} {r : Res} {k : D → Sto → Res} (h : Post ca w W σ Q (r.bind k))
    (hk : ∀ d O' v w' H', w.le w' → Ok ca w' O' H' → Rep ca w' v d → Post ca w' W σ Q (k d O') → Q1 v H') : Post ca w W σ Q1 r := by
  cases r with
  | ok d O => exact fun v w2 H2 y o r => hk d O v w2 H2 y o r (Post.mono y h)
  | exc c fs O => exact h
  | stuck => exact h
theorem Post.bindL {Q : List V → Hp → Prop} {Q1 : VK} {r : Res} {k : D → Sto → ResL} (h : PostL ca w W σ Q (r.bindL k))
    (hk : ∀ d O' v w' H', w.le w' → Ok ca w' O' H' → Rep ca w' v d → PostL ca w' W σ Q (k d O') → Q1 v H') : Post ca w W σ Q1 r := by
  cases r with
  | ok d O => exact fun v w2 H2 y o r => hk d O v w2 H2 y o r (PostL.mono y h)
  | exc c fs O => exact h
  | stuck => exact h
theorem PostL.bindL {Q : List V → Hp → Prop} {Q1 : List V → Hp → Prop} {r : ResL} {k : List D → Sto → ResL} (h : PostL ca w W σ Q (r.bindL k))
    (hk : ∀ d O' v w' H', w.le w' → Ok ca w' O' H' → RepL ca w' v d → PostL ca w' W σ Q (k d O') → Q1 v H') : PostL ca w W σ Q1 r := by
  cases r with
  | ok d O => exact fun v w2 H2 y o r => hk d O v w2 H2 y o r (PostL.mono y h)
  | exc c fs O => exact h
  | stuck => exact h
theorem PostL.bind {Q : VK} {Q1 : List V → Hp → Prop} {r : ResL} {k : List D → Sto → Res} (h : Post ca w W σ Q (r.bind k))
    (hk : ∀ d O' v w' H', w.le w' → Ok ca w' O' H' → RepL ca w' v d → Post ca w' W σ Q (k d O') → Q1 v H') : PostL ca w W σ Q1 r := by
  cases r with
  | ok d O => exact fun v w2 H2 y o r => hk d O v w2 H2 y o r (Post.mono y h)
  | exc c fs O => exact h
  | stuck => exact h
theorem Post.bindB {Q : Bool → Hp → Prop} {Q1 : VK} {r : Res} {k : D → Sto → ResB} (h : PostB ca w W σ Q (r.bindB k))
    (hk : ∀ d O' v w' H', w.le w' → Ok ca w' O' H' → Rep ca w' v d → PostB ca w' W σ Q (k d O') → Q1 v H') : Post ca w W σ Q1 r := by
  cases r with
  | ok d O => exact fun v w2 H2 y o r => hk d O v w2 H2 y o r (PostB.mono y h)
  | exc c fs O => exact h
  | stuck => exact h
theorem PostB.bindB {Q : Bool → Hp → Prop} {Q1 : Bool → Hp → Prop} {r : ResB} {k : Bool → Sto → ResB} (h : PostB ca w W σ Q (r.bindB k))
    (hk : ∀ d O' w' H', w.le w' → Ok ca w' O' H' → PostB ca w' W σ Q (k d O') → Q1 d H') : PostB ca w W σ Q1 r := by
  cases r with
  | ok d O => exact fun w2 H2 y o => hk d O w2 H2 y o (PostB.mono y h)
  | exc c fs O => exact h
  | stuck => exact h
theorem PostB.bind {Q : VK} {Q1 : Bool → Hp → Prop} {r : ResB} {k : Bool → Sto → Res} (h : Post ca w W σ Q (r.bind k))
    (hk : ∀ d O' w' H', w.le w' → Ok ca w' O' H' → Post ca w' W σ Q (k d O') → Q1 d H') : PostB ca w W σ Q1 r := by
  cases r with
  | ok d O => exact fun w2 H2 y o => hk d O w2 H2 y o (Post.mono y h)
  | exc c fs O => exact h
  | stuck => exact h
end

/-! ### new objects, changed ones -/
section
variable {ca : Cn} {w : Wd} {O : Sto} {H : Hp}
theorem Ext.rdL {F : Hp} (x : Ext F H) {a : Addr} {u : HO} (hu : ∀ o z, u ≠ .frz o z) (h : Rd F a u) : Rd H a u := by
  rcases h with h | ⟨o, h⟩
  · rcases x a u h with h | ⟨_, h⟩
    · exact .inl h
    · exact .inr h
  · rcases x a _ h with h | ⟨h, _⟩
    · exact .inr ⟨o, h⟩
    · cases h
theorem Ext.free {F : Hp} (x : Ext F H) {a : Addr} (h : H a = none) : F a = none := by
  cases e : F a with
  | none => rfl
  | some u =>
    rcases x a u e with q | ⟨_, o, q⟩ <;> (rw [h] at q; cases q)
theorem Ok.fresh (k : Ok ca w O H) {p : Addr} (hp : H p = none) : w.F p = none ∧ p ∉ w.ad :=
  ⟨k.ext.free hp, fun m => let ⟨u, e, _⟩ := k.here p m; by rw [hp] at e; cases e⟩
/-- the heap grows by something of no concern -/
theorem Ok.more (k : Ok ca w O H) {p : Addr} {u : HO} (hp : H p = none) : Ok ca w O (upd H p u) where
  ext := fun a o e => by
    have ne : a ≠ p := fun q => by rw [q, (k.fresh hp).1] at e; cases e
    rw [upd_ne ne]
    exact k.ext a o e
  len := k.len
  nd := k.nd
  here := fun a m => by
    have ne : a ≠ p := fun q => (k.fresh hp).2 (q ▸ m)
    rw [upd_ne ne]
    exact k.here a m
  own := fun n a o e1 e2 g => by
    have ne : a ≠ p := fun q => (k.fresh hp).2 (q ▸ List.mem_of_getElem? e1)
    rw [upd_ne ne]
    exact k.own n a o e1 e2 g
  prv := fun a o e => by
    obtain ⟨h1, h2, h3⟩ := k.prv a o e
    have ne : a ≠ p := fun q => by rw [q, hp] at h1; cases h1
    exact ⟨(upd_ne ne).trans h1, h2, h3⟩
  lks := fun a o e => by
    obtain ⟨h1, h2⟩ := k.lks a o e
    have ne : a ≠ p := fun q => by rw [q, hp] at h1; cases h1
    exact ⟨(upd_ne ne).trans h1, h2⟩
  x := k.x.new hp
/-- a thing that stands there becomes known as frozen -/
def Wd.frz (w : Wd) (p : Addr) (u : HO) : Wd := ⟨upd w.F p u, w.ad, w.pv, w.lk, w.cx⟩
theorem frz_nt {w : Wd} {p : Addr} {u : HO} (h : ∀ a u, w.F a = some u → notTbl u = true ∧ ∀ nm v, w.cx.cl a = some (nm, v) → a ∈ w.cx.off) (ht : notTbl u = true ∧ ∀ nm v, w.cx.cl p = some (nm, v) → p ∈ w.cx.off) : ∀ a q, (w.frz p u).F a = some q → notTbl q = true ∧ ∀ nm v, w.cx.cl a = some (nm, v) → a ∈ w.cx.off := fun a q e => by
  by_cases z : a = p
  · subst z
    have e : upd w.F a u a = some q := e
    rw [upd_same] at e
    cases e
    exact ht
  · have e : upd w.F p u a = some q := e
    rw [upd_ne z] at e
    exact h a q e
theorem Wd.frz_le {p : Addr} {u : HO} (h : w.F p = none ∨ w.F p = some u) : w.le (w.frz p u) := ⟨fun a o e => by
  by_cases q : a = p
  · subst q
    rcases h with h | h
    · rw [h] at e; cases e
    · rw [h] at e
      cases e
      exact upd_same
  · exact (upd_ne q).trans e, fun _ _ h => h, rfl, rfl, .refl _⟩
theorem Ok.adoptC (k : Ok ca w O H) {p : Addr} {u : HO} (hp : H p = some u) (hf : w.F p = none ∨ w.F p = some u) (hv : w.pv p = none) (hn : ∀ (n : Nat) (o : OD), w.ad[n]? = some p → O[n]? = some o → o = .gone) (ht : notTbl u = true ∧ ∀ nm v, w.cx.cl p = some (nm, v) → p ∈ w.cx.off) : Ok ca (w.frz p u) O H where
  ext := fun a o e => by
    by_cases q : a = p
    · subst q
      have e2 : upd w.F a u a = some o := e
      rw [upd_same] at e2
      cases e2
      exact .inl hp
    · have e2 : upd w.F p u a = some o := e
      rw [upd_ne q] at e2
      exact k.ext a o e2
  len := k.len
  nd := k.nd
  here := k.here
  own := fun n a o e1 e2 g => by
    obtain ⟨h1, u', h2, h3⟩ := k.own n a o e1 e2 g
    have ne : a ≠ p := fun q => g (hn n o (q ▸ e1) e2)
    exact ⟨(upd_ne ne).trans h1, u', h2, h3.mono (Wd.frz_le hf)⟩
  prv := fun a o e => by
    obtain ⟨h1, h2, h3⟩ := k.prv a o e
    have ne : a ≠ p := fun q => by
      have e : w.pv a = some o := e
      rw [q, hv] at e
      cases e
    exact ⟨h1, (upd_ne ne).trans h2, h3⟩
  lks := k.lks
  x := k.x.wd k.x.pvp (frz_nt k.x.fpl ht)
theorem Ok.adopt (k : Ok ca w O H) {p : Addr} {u : HO} (hp : H p = some u) (hf : w.F p = none ∨ w.F p = some u) (hv : w.pv p = none) (hn : ∀ (n : Nat) (o : OD), w.ad[n]? = some p → O[n]? = some o → o = .gone) (ht : dat u = true := by first | rfl | assumption) : Ok ca (w.frz p u) O H :=
  k.adoptC hp hf hv hn ⟨dat_nt ht, fun nm v e => (k.x.cel p nm v e).elim id fun q => by
    rw [hp] at q
    cases q
    cases ht⟩
theorem Ok.pvFree (k : Ok ca w O H) {p : Addr} (hp : H p = none) : w.pv p = none := by
  cases e : w.pv p with
  | none => rfl
  | some u =>
    obtain ⟨h, _⟩ := k.prv p u e
    rw [hp] at h
    cases h
theorem Ok.pvAd (k : Ok ca w O H) {p : Addr} (hp : p ∈ w.ad) : w.pv p = none := by
  cases e : w.pv p with
  | none => rfl
  | some u => exact absurd hp (k.prv p u e).2.2
theorem Ok.newF (k : Ok ca w O H) {p : Addr} {u : HO} (hp : H p = none) (ht : dat u = true := by first | rfl | assumption) : Ok ca (w.frz p u) O (upd H p u) :=
  (k.more hp).adopt upd_same (.inl (k.fresh hp).1) (k.pvFree hp) (fun n o e => absurd (List.mem_of_getElem? e) (k.fresh hp).2) ht
theorem Ok.newF_le (k : Ok ca w O H) {p : Addr} {u : HO} (hp : H p = none) : w.le (w.frz p u) := Wd.frz_le (.inl (k.fresh hp).1)
theorem Wd.frz_at {p : Addr} {u : HO} : (w.frz p u).F p = some u := upd_same
/-- a new object of the store -/
def Wd.add (w : Wd) (p : Addr) : Wd := ⟨w.F, w.ad ++ [p], w.pv, w.lk, w.cx⟩
theorem Wd.add_le {p : Addr} : w.le (w.add p) := ⟨fun _ _ h => h, fun n a e => by
  show (w.ad ++ [p])[n]? = some a
  rw [List.getElem?_append_left (by exact (List.getElem?_eq_some_iff.mp e).1)]
  exact e, rfl, rfl, .refl _⟩
theorem Ok.newO (k : Ok ca w O H) {p : Addr} {u : HO} {o : OD} (hp : H p = none) (r : RepO ca w u o) : Ok ca (w.add p) (O ++ [o]) (upd H p u) where
  ext := (k.more hp).ext
  len := by
    show (w.ad ++ [p]).length = _
    rw [List.length_append, List.length_append, k.len]
    rfl
  nd := by
    refine List.nodup_append.mpr ⟨k.nd, by simp, fun a ha b hb => ?_⟩
    rw [List.mem_singleton] at hb
    exact fun q => (k.fresh hp).2 (hb ▸ q ▸ ha)
  here := fun a m => by
    rcases List.mem_append.mp m with m | m
    · exact (k.more hp).here a m
    · rw [List.mem_singleton] at m
      exact ⟨u, m ▸ upd_same, r.plain⟩
  own := fun n a q e1 e2 g => by
    have e1 : (w.ad ++ [p])[n]? = some a := e1
    by_cases hn : n < O.length
    · rw [List.getElem?_append_left hn] at e2
      rw [List.getElem?_append_left (by rw [k.len]; exact hn)] at e1
      obtain ⟨h1, u', h2, h3⟩ := (k.more (u := u) hp).own n a q e1 e2 g
      exact ⟨h1, u', h2, h3.mono Wd.add_le⟩
    · have hn2 : n = O.length := by
        have := (List.getElem?_eq_some_iff.mp e2).1
        rw [List.length_append] at this
        simp at this
        omega
      subst hn2
      rw [List.getElem?_append_right (Nat.le_refl _)] at e2
      simp at e2
      rw [← k.len, List.getElem?_append_right (Nat.le_refl _)] at e1
      simp at e1
      subst e1 e2
      exact ⟨(k.fresh hp).1, u, upd_same, r.mono Wd.add_le⟩
  prv := fun a q e => by
    obtain ⟨h1, h2, h3⟩ := (k.more (u := u) hp).prv a q e
    refine ⟨h1, h2, fun m => ?_⟩
    rcases List.mem_append.mp m with m | m
    · exact h3 m
    · rw [List.mem_singleton] at m
      subst m
      have := k.pvFree hp
      have e : w.pv a = some q := e
      rw [this] at e
      cases e
  lks := (k.more (u := u) hp).lks
  x := (k.x.new hp).wd k.x.pvp k.x.fpl
theorem Wd.add_at (k : Ok ca w O H) {p : Addr} : (w.add p).ad[O.length]? = some p := by
  show (w.ad ++ [p])[O.length]? = some p
  rw [← k.len, List.getElem?_append_right (Nat.le_refl _)]
  simp
/-- an object of the store changes -/
theorem Ok.setO (k : Ok ca w O H) {n : Nat} {a : Addr} {o : OD} {u : HO} (ha : w.ad[n]? = some a) (ho : O[n]? = some o) (hg : o ≠ .gone) (hl : w.lk a = none) {o' : OD} (r : RepO ca w u o') : Ok ca w (O.set n o') (upd H a u) where
  ext := fun b q e => by
    have ne : b ≠ a := fun z => by
      rw [z, (k.own n a o ha ho hg).1] at e
      cases e
    rw [upd_ne ne]
    exact k.ext b q e
  len := by rw [List.length_set]; exact k.len
  nd := k.nd
  here := fun b m => by
    by_cases z : b = a
    · exact ⟨u, z ▸ upd_same, r.plain⟩
    · rw [upd_ne z]
      exact k.here b m
  own := fun m b q e1 e2 g => by
    by_cases z : n = m
    · subst z
      rw [ha] at e1
      cases e1
      rw [List.getElem?_set_self (by exact (List.getElem?_eq_some_iff.mp ho).1)] at e2
      cases e2
      exact ⟨(k.own n a o ha ho hg).1, u, upd_same, r⟩
    · rw [List.getElem?_set_ne z] at e2
      have ne : b ≠ a := fun y => by
        subst y
        exact z (nodup_at k.nd ha e1)
      rw [upd_ne ne]
      exact k.own m b q e1 e2 g
  prv := fun b q e => by
    obtain ⟨h1, h2, h3⟩ := k.prv b q e
    have ne : b ≠ a := fun z => h3 (z ▸ List.mem_of_getElem? ha)
    exact ⟨(upd_ne ne).trans h1, h2, h3⟩
  lks := fun b q e => by
    obtain ⟨h1, h2⟩ := k.lks b q e
    have ne : b ≠ a := fun z => by rw [z, hl] at e; cases e
    exact ⟨(upd_ne ne).trans h1, h2⟩
  x := k.x.upd fun v e => by
    obtain ⟨_, u', h2, h3⟩ := k.own n a o ha ho hg
    rw [h2] at e
    cases e
    exact h3.plain
theorem Ok.lkFree (k : Ok ca w O H) {a : Addr} {u : HO} (h : H a = some u) (hu : isFrz u = false) : w.lk a = none := by
  cases e : w.lk a with
  | none => rfl
  | some q =>
    obtain ⟨h1, h2⟩ := k.lks a q e
    rw [h] at h1
    cases h1
    rw [hu] at h2
    cases h2
/-- an object of the store is given up -/
theorem Ok.drop (k : Ok ca w O H) {n : Nat} : Ok ca w (O.set n .gone) H where
  ext := k.ext
  len := by rw [List.length_set]; exact k.len
  nd := k.nd
  here := k.here
  own := fun m b q e1 e2 g => by
    by_cases z : n = m
    · subst z
      by_cases hl : n < O.length
      · rw [List.getElem?_set_self hl] at e2
        cases e2
        exact absurd rfl g
      · rw [List.getElem?_eq_none (by simpa using hl)] at e2
        cases e2
    · rw [List.getElem?_set_ne z] at e2
      exact k.own m b q e1 e2 g
  prv := k.prv
  lks := k.lks
  x := k.x
/-- .. and frozen -/
theorem Ok.freeze (k : Ok ca w O H) {n : Nat} {a : Addr} {o : OD} {u : HO} (ha : w.ad[n]? = some a) (ho : O[n]? = some o) (hg : o ≠ .gone) (hu : H a = some u) :
    Ok ca (w.frz a u) (O.set n .gone) H ∧ w.le (w.frz a u) := by
  have f := (k.own n a o ha ho hg).1
  have ht : dat u = true := by
    obtain ⟨_, u', h2, h3⟩ := k.own n a o ha ho hg
    rw [h2] at hu
    cases hu
    exact h3.dat
  refine ⟨(k.drop (n := n)).adopt hu (.inl f) (k.pvAd (List.mem_of_getElem? ha)) (fun m q e1 e2 => ?_) ht, Wd.frz_le (.inl f)⟩
  have z : n = m := nodup_at k.nd ha e1
  subst z
  rw [List.getElem?_set_self (by exact (List.getElem?_eq_some_iff.mp ho).1)] at e2
  exact (Option.some.inj e2).symm
/-- something of no one's concern -/
def Wd.hid (w : Wd) (p : Addr) (u : HO) : Wd := ⟨w.F, w.ad, upd w.pv p u, w.lk, w.cx⟩
theorem upd_pl {F : Hp} {p : Addr} {u : HO} (h : ∀ a u, F a = some u → plain u = true) (ht : plain u = true) : ∀ a q, upd F p u a = some q → plain q = true := fun a q e => by
  by_cases z : a = p
  · subst z
    rw [upd_same] at e
    cases e
    exact ht
  · rw [upd_ne z] at e
    exact h a q e
theorem Wd.hid_sub {p : Addr} {u : HO} : w.sub (w.hid p u) := ⟨fun _ _ h => h, fun _ _ h => h, .refl _⟩
theorem Ok.hide (k : Ok ca w O H) {p : Addr} {u : HO} (hp : H p = none) (hu : plain u = true := by rfl) : Ok ca (w.hid p u) O (upd H p u) where
  ext := (k.more hp).ext
  len := k.len
  nd := k.nd
  here := (k.more hp).here
  own := fun n a o e1 e2 g => by
    obtain ⟨h1, u', h2, h3⟩ := (k.more (u := u) hp).own n a o e1 e2 g
    exact ⟨h1, u', h2, h3.mono' Wd.hid_sub⟩
  prv := fun a o e => by
    by_cases q : a = p
    · subst q
      have e : upd w.pv a u a = some o := e
      rw [upd_same] at e
      cases e
      exact ⟨upd_same, (k.fresh hp).1, (k.fresh hp).2⟩
    · have e : upd w.pv p u a = some o := e
      rw [upd_ne q] at e
      exact (k.more (u := u) hp).prv a o e
  lks := (k.more (u := u) hp).lks
  x := (k.x.new hp).wd (upd_pl k.x.pvp hu) k.x.fpl
/-- it changes -/
theorem Ok.rehide {p : Addr} {u u' : HO} (k : Ok ca w O H) (h : w.pv p = some u) (hu : isFrz u = false) (hu' : plain u' = true := by rfl) : Ok ca ⟨w.F, w.ad, upd w.pv p u', w.lk, w.cx⟩ O (upd H p u') where
  ext := fun a o e => by
    have ne : a ≠ p := fun q => by
      rw [q, (k.prv p u h).2.1] at e
      cases e
    rw [upd_ne ne]
    exact k.ext a o e
  len := k.len
  nd := k.nd
  here := fun a m => by
    have ne : a ≠ p := fun q => (k.prv p u h).2.2 (q ▸ m)
    rw [upd_ne ne]
    exact k.here a m
  own := fun n a o e1 e2 g => by
    have ne : a ≠ p := fun q => (k.prv p u h).2.2 (q ▸ List.mem_of_getElem? e1)
    obtain ⟨h1, uu, h2, h3⟩ := k.own n a o e1 e2 g
    exact ⟨h1, uu, (upd_ne ne).trans h2, RepO.mono' (w := w) (w' := ⟨w.F, w.ad, upd w.pv p u', w.lk, w.cx⟩) ⟨fun _ _ h => h, fun _ _ h => h, .refl _⟩ h3⟩
  prv := fun a o e => by
    by_cases q : a = p
    · subst q
      have e : upd w.pv a u' a = some o := e
      rw [upd_same] at e
      cases e
      exact ⟨upd_same, (k.prv a u h).2⟩
    · have e : upd w.pv p u' a = some o := e
      rw [upd_ne q] at e
      obtain ⟨h1, h2⟩ := k.prv a o e
      exact ⟨(upd_ne q).trans h1, h2⟩
  lks := fun a o e => by
    obtain ⟨h1, h2⟩ := k.lks a o e
    have ne : a ≠ p := fun q => by
      rw [q, (k.prv p u h).1] at h1
      cases h1
      rw [hu] at h2
      cases h2
    exact ⟨(upd_ne ne).trans h1, h2⟩
  x := (k.x.upd fun v e => by
    rw [(k.prv p u h).1] at e
    cases e
    exact k.x.pvp p u h).wd (upd_pl k.x.pvp hu') k.x.fpl
/-- it is hidden no more: frozen, or in the store; pv0 is what was hidden ahead -/
theorem Ok.unhide (k : Ok ca w O H) {p : Addr} {u : HO} {pv0 : Hp} (h : w.pv = upd pv0 p u) (h0 : pv0 p = none) : Ok ca ⟨w.F, w.ad, pv0, w.lk, w.cx⟩ O H ∧ H p = some u ∧ w.F p = none ∧ p ∉ w.ad := by
  have hp : w.pv p = some u := by rw [h]; exact upd_same
  have up : ∀ a o, pv0 a = some o → w.pv a = some o := fun a o e => by
    rw [h, upd_ne (fun q => by rw [q] at e; rw [show pv0 p = some o from e] at h0; cases h0)]
    exact e
  refine ⟨⟨k.ext, k.len, k.nd, k.here, fun n a o e1 e2 g => ?_, fun a o e => ?_, k.lks, k.x.wd (fun a o e => k.x.pvp a o (up a o e)) k.x.fpl⟩, k.prv p u hp⟩
  · obtain ⟨h1, u', h2, h3⟩ := k.own n a o e1 e2 g
    exact ⟨h1, u', h2, RepO.mono' (w := w) (w' := ⟨w.F, w.ad, pv0, w.lk, w.cx⟩) ⟨fun _ _ h => h, fun _ _ h => h, .refl _⟩ h3⟩
  · refine k.prv a o ?_
    rw [h, upd_ne (fun q => by rw [q] at e; rw [show pv0 p = some o from e] at h0; cases h0)]
    exact e
/-- what stands there, unknown so far, joins the store -/
theorem Ok.join (k : Ok ca w O H) {p : Addr} {u : HO} {o : OD} (hp : H p = some u) (hf : w.F p = none) (ha : p ∉ w.ad) (hv : w.pv p = none) (r : RepO ca w u o) : Ok ca (w.add p) (O ++ [o]) H where
  ext := k.ext
  len := by
    show (w.ad ++ [p]).length = _
    rw [List.length_append, List.length_append, k.len]
    rfl
  nd := by
    refine List.nodup_append.mpr ⟨k.nd, by simp, fun a h b hb => ?_⟩
    rw [List.mem_singleton] at hb
    exact fun q => ha (hb ▸ q ▸ h)
  here := fun a m => by
    rcases List.mem_append.mp m with m | m
    · exact k.here a m
    · rw [List.mem_singleton] at m
      exact ⟨u, m ▸ hp, r.plain⟩
  own := fun n a q e1 e2 g => by
    have e1 : (w.ad ++ [p])[n]? = some a := e1
    by_cases hn : n < O.length
    · rw [List.getElem?_append_left hn] at e2
      rw [List.getElem?_append_left (by rw [k.len]; exact hn)] at e1
      obtain ⟨h1, u', h2, h3⟩ := k.own n a q e1 e2 g
      exact ⟨h1, u', h2, h3.mono Wd.add_le⟩
    · have hn2 : n = O.length := by
        have := (List.getElem?_eq_some_iff.mp e2).1
        rw [List.length_append] at this
        simp at this
        omega
      subst hn2
      rw [List.getElem?_append_right (Nat.le_refl _)] at e2
      simp at e2
      rw [← k.len, List.getElem?_append_right (Nat.le_refl _)] at e1
      simp at e1
      subst e1 e2
      exact ⟨hf, u, hp, r.mono Wd.add_le⟩
  prv := fun a q e => by
    obtain ⟨h1, h2, h3⟩ := k.prv a q e
    refine ⟨h1, h2, fun m => ?_⟩
    rcases List.mem_append.mp m with m | m
    · exact h3 m
    · rw [List.mem_singleton] at m
      subst m
      have e : w.pv a = some q := e
      rw [hv] at e
      cases e
  lks := k.lks
  x := k.x.wd k.x.pvp k.x.fpl
/-- a thing is locked, and let go -/
def Wd.lock (w : Wd) (p : Addr) (u : HO) : Wd := ⟨w.F, w.ad, w.pv, upd w.lk p u, w.cx⟩
theorem Wd.lock_sub {p : Addr} {u : HO} : w.sub (w.lock p u) := ⟨fun _ _ h => h, fun _ _ h => h, .refl _⟩
end
end Yk

set_option Elab.async false
set_option linter.all false
set_option maxRecDepth 100000
set_option maxHeartbeats 1000000
/-! Yk: expressions. -/
namespace Yk
open PySem L2

/-! ### looking at a thing -/
def look (O : Sto) : D → D
  | .loc n => match O[n]? with
    | some (.lst ds) => .lst ds
    | some (.dic k) => .dic k
    | some (.dit k) => .dit k
    | some (.lck (.dic k)) => .dic k
    | some (.lck (.dit k)) => .dit k
    | some (.ins c fs) => .obj c fs
    | _ => .loc n
  | .scr ns => .lst (ns.map .int)
  | d => d
section
variable {ca : Cn} {w : Wd} {O : Sto} {H : Hp}
theorem repL_ints (ca : Cn) (w : Wd) : ∀ ns : List Int, RepL ca w (ns.map V.int) (ns.map D.int)
  | [] => .nil
  | n :: ns => .cons (.int n) (repL_ints ca w ns)
theorem Ext.lst {F : Hp} (x : Ext F H) {a : Addr} {vs : List V} (h : F a = some (.lst vs)) : H a = some (.lst vs) := by
  rcases x a _ h with h | ⟨h, _⟩
  · exact h
  · cases h
theorem Ext.tup {F : Hp} (x : Ext F H) {a : Addr} {vs : List V} (h : F a = some (.tup vs)) : H a = some (.tup vs) := by
  rcases x a _ h with h | ⟨h, _⟩
  · exact h
  · cases h
theorem Ext.ins {F : Hp} (x : Ext F H) {a C dx : Addr} {vs : List (Str × V)} (h : F a = some (.ins C dx vs)) : H a = some (.ins C dx vs) := by
  rcases x a _ h with h | ⟨h, _⟩
  · exact h
  · cases h
theorem Ext.sqL {F : Hp} {K : PySem.W.Frag} (x : Ext F H) {a : Addr} {vs : List V} (h : SqL K F a vs) : SqL K H a vs := by
  rcases h with h | h
  · exact .inl (x.rdL (fun _ _ q => nomatch q) h)
  · exact .inr h
theorem Ext.rd {F : Hp} (x : Ext F H) {a : Addr} {u : HO} (h : F a = some u) : Rd H a u := by
  rcases x a _ h with h | ⟨_, h⟩
  · exact .inl h
  · exact .inr h
theorem look_lst (k : Ok ca w O H) {v : V} {d : D} {ds : List D} (r : Rep ca w v d) (e : look O d = .lst ds) : ∃ a vs, v = .ref a ∧ SqL ca.K H a vs ∧ RepL ca w vs ds := by
  cases r with
  | lst h r =>
    cases e
    exact ⟨_, _, rfl, .inl (.inl (k.ext.lst h)), r⟩
  | scr h =>
    cases e
    exact ⟨_, _, rfl, k.ext.sqL h, repL_ints _ _ _⟩
  | @loc a n h =>
    unfold look at e
    cases q : O[n]? with
    | none => simp only [q] at e; cases e
    | some o =>
      simp only [q] at e
      split at e <;> try (first | (cases e; done) | skip)
      rename_i q1
      cases q1
      cases e
      obtain ⟨_, u, h2, h3⟩ := k.own n a _ h q (fun z => nomatch z)
      cases h3 with
      | lst r => exact ⟨_, _, rfl, .inl (.inl h2), r⟩
  | _ => cases e
theorem look_tup (k : Ok ca w O H) {v : V} {d : D} {ds : List D} (r : Rep ca w v d) (e : look O d = .tup ds) : ∃ a vs, v = .ref a ∧ H a = some (.tup vs) ∧ w.F a = some (.tup vs) ∧ RepL ca w vs ds := by
  cases r with
  | tup h r =>
    cases e
    exact ⟨_, _, rfl, k.ext.tup h, h, r⟩
  | scr h => cases e
  | @loc a n h =>
    unfold look at e
    cases q : O[n]? with
    | none => simp only [q] at e; cases e
    | some o =>
      simp only [q] at e
      split at e <;> cases e
  | _ => cases e
theorem look_dic (k : Ok ca w O H) {v : V} {d : D} {ds : List (Key × D)} (r : Rep ca w v d) (e : look O d = .dic ds) : ∃ a vs, v = .ref a ∧ Rd H a (.dK vs) ∧ RepK ca w vs ds := by
  cases r with
  | dic h r =>
    cases e
    exact ⟨_, _, rfl, k.ext.rd h, r⟩
  | scr h => cases e
  | @loc a n h =>
    unfold look at e
    cases q : O[n]? with
    | none => simp only [q] at e; cases e
    | some o =>
      simp only [q] at e
      split at e <;> try (first | (cases e; done) | skip)
      · rename_i q1
        cases q1
        cases e
        obtain ⟨_, u, h2, h3⟩ := k.own n a _ h q (fun z => nomatch z)
        cases h3 with
        | dic r => exact ⟨_, _, rfl, .inl h2, r⟩
      · rename_i q1
        cases q1
        cases e
        obtain ⟨_, u, h2, h3⟩ := k.own n a _ h q (fun z => nomatch z)
        cases h3 with
        | lck hu r =>
          cases r with
          | dic r => exact ⟨_, _, rfl, .inr ⟨_, h2⟩, r⟩
  | _ => cases e
theorem look_dit (k : Ok ca w O H) {v : V} {d : D} {ds : List (List Key × D)} (r : Rep ca w v d) (e : look O d = .dit ds) : ∃ a vs, v = .ref a ∧ Rd H a (.dT vs) ∧ RepT ca w vs ds := by
  cases r with
  | dit h r =>
    cases e
    exact ⟨_, _, rfl, k.ext.rd h, r⟩
  | scr h => cases e
  | @loc a n h =>
    unfold look at e
    cases q : O[n]? with
    | none => simp only [q] at e; cases e
    | some o =>
      simp only [q] at e
      split at e <;> try (first | (cases e; done) | skip)
      · rename_i q1
        cases q1
        cases e
        obtain ⟨_, u, h2, h3⟩ := k.own n a _ h q (fun z => nomatch z)
        cases h3 with
        | dit r => exact ⟨_, _, rfl, .inl h2, r⟩
      · rename_i q1
        cases q1
        cases e
        obtain ⟨_, u, h2, h3⟩ := k.own n a _ h q (fun z => nomatch z)
        cases h3 with
        | lck hu r =>
          cases r with
          | dit r => exact ⟨_, _, rfl, .inr ⟨_, h2⟩, r⟩
  | _ => cases e
theorem look_obj (k : Ok ca w O H) {v : V} {d : D} {c : Str} {ds : List (Str × D)} (r : Rep ca w v d) (e : look O d = .obj c ds) : ∃ a C dx vs, v = .ref a ∧ H a = some (.ins C dx vs) ∧ ca.f c = some C ∧ RepF ca w vs ds := by
  cases r with
  | obj h hc r =>
    cases e
    exact ⟨_, _, _, _, rfl, k.ext.ins h, hc, r⟩
  | scr h => cases e
  | @loc a n h =>
    unfold look at e
    cases q : O[n]? with
    | none => simp only [q] at e; cases e
    | some o =>
      simp only [q] at e
      split at e <;> try (first | (cases e; done) | skip)
      rename_i q1
      cases q1
      cases e
      obtain ⟨_, u, h2, h3⟩ := k.own n a _ h q (fun z => nomatch z)
      cases h3 with
      | ins hc r => exact ⟨_, _, _, _, rfl, h2, hc, r⟩
  | _ => cases e
/-- the flat ones -/
theorem look_flat {v : V} {d : D} (r : Rep ca w v d) : (look O d = .non → v = .non) ∧ (∀ b, look O d = .bl b → v = .bl b) ∧ (∀ i, look O d = .int i → v = .int i) ∧ ∀ s, look O d = .str s → v = .str s := by
  cases r with
  | @loc a n h =>
    unfold look
    refine ⟨fun e => ?_, fun b e => ?_, fun i e => ?_, fun s e => ?_⟩ <;> (dsimp only at e; split at e <;> cases e)
  | _ => refine ⟨fun e => ?_, fun b e => ?_, fun i e => ?_, fun s e => ?_⟩ <;> first | (cases e; rfl) | cases e
end

section
variable {ca : Cn} {w : Wd} {W : WX} {σ : L2.St} {O : Sto} {H : Hp} {Q : VK}
theorem post_ok {d : D} {v : V} (k : Ok ca w O H) (r : Rep ca w v d) (h : Post ca w W σ Q (.ok d O)) : Q v H := h v w H (Wd.le.refl w) k r
theorem post_if {c : Prop} [Decidable c] {r : Res} (h : Post ca w W σ Q (if c then r else .stuck)) : c ∧ Post ca w W σ Q r := by
  by_cases hc : c
  · rw [if_pos hc] at h
    exact ⟨hc, h⟩
  · rw [if_neg hc] at h
    exact h.elim
/-- a new list: own = true: in the store -/
def mkL (own : Bool) (ds : List D) (O : Sto) : Res := if own then .ok (.loc O.length) (O ++ [.lst ds]) else .ok (.lst ds) O
def mkK (own : Bool) (ds : List (Key × D)) (O : Sto) : Res := if own then .ok (.loc O.length) (O ++ [.dic ds]) else .ok (.dic ds) O
def mkT (own : Bool) (ds : List (List Key × D)) (O : Sto) : Res := if own then .ok (.loc O.length) (O ++ [.dit ds]) else .ok (.dit ds) O
theorem post_mkL {own : Bool} {ds : List D} {vs : List V} {p : Addr} (k : Ok ca w O H) (r : RepL ca w vs ds) (h : Post ca w W σ Q (mkL own ds O)) (hp : H p = none) : Q (.ref p) (upd H p (.lst vs)) := by
  cases own with
  | true => exact h _ _ _ Wd.add_le (k.newO hp (.lst r)) (.loc (Wd.add_at k))
  | false => exact h _ _ _ (k.newF_le hp) (k.newF hp) (.lst Wd.frz_at (r.mono (k.newF_le hp)))
theorem post_mkK {own : Bool} {ds : List (Key × D)} {vs : List (Key × V)} {p : Addr} (k : Ok ca w O H) (r : RepK ca w vs ds) (h : Post ca w W σ Q (mkK own ds O)) (hp : H p = none) : Q (.ref p) (upd H p (.dK vs)) := by
  cases own with
  | true => exact h _ _ _ Wd.add_le (k.newO hp (.dic r)) (.loc (Wd.add_at k))
  | false => exact h _ _ _ (k.newF_le hp) (k.newF hp) (.dic Wd.frz_at (r.mono (k.newF_le hp)))
theorem post_mkT {own : Bool} {ds : List (List Key × D)} {vs : List (List Key × V)} {p : Addr} (k : Ok ca w O H) (r : RepT ca w vs ds) (h : Post ca w W σ Q (mkT own ds O)) (hp : H p = none) : Q (.ref p) (upd H p (.dT vs)) := by
  cases own with
  | true => exact h _ _ _ Wd.add_le (k.newO hp (.dit r)) (.loc (Wd.add_at k))
  | false => exact h _ _ _ (k.newF_le hp) (k.newF hp) (.dit Wd.frz_at (r.mono (k.newF_le hp)))
theorem post_tup {ds : List D} {vs : List V} {p : Addr} (k : Ok ca w O H) (r : RepL ca w vs ds) (h : Post ca w W σ Q (.ok (.tup ds) O)) (hp : H p = none) : Q (.ref p) (upd H p (.tup vs)) :=
  h _ _ _ (k.newF_le hp) (k.newF hp) (.tup Wd.frz_at (r.mono (k.newF_le hp)))
end

/-! ### operators by values -/
def OpS (ca : Cn) (r : R2) (f : D → D → Sto → Res) : Prop := ∀ (w : Wd) (O : Sto) (H : Hp) (x y : V) (dx dy : D) (W : WX) (σ : L2.St) (Q : VK), Ok ca w O H → Rep ca w x dx → Rep ca w y dy → Post ca w W σ Q (f dx dy O) → r x y H Q
def CallS (ca : Cn) (r : List V → Hp → VK → Prop) (f : List D → Sto → Res) : Prop := ∀ (w : Wd) (O : Sto) (H : Hp) (xs : List V) (ds : List D) (W : WX) (σ : L2.St) (Q : VK), Ok ca w O H → RepL ca w xs ds → Post ca w W σ Q (f ds O) → r xs H Q
def MtS (ca : Cn) (r : V → List V → Hp → VK → Prop) (f : D → List D → Sto → Res) : Prop := ∀ (w : Wd) (O : Sto) (H : Hp) (x : V) (dx : D) (xs : List V) (ds : List D) (W : WX) (σ : L2.St) (Q : VK), Ok ca w O H → Rep ca w x dx → RepL ca w xs ds → Post ca w W σ Q (f dx ds O) → r x xs H Q

def dVar (i : Nat) : DTE := fun ρ O => match ρ[i]? with
  | some (some d) => .ok d O
  | _ => .stuck
def dC (d : D) : DTE := fun _ O => .ok d O
def dOp (f : D → D → Sto → Res) (a b : DTE) : DTE := fun ρ O => (a ρ O).bind fun x O1 => (b ρ O1).bind fun y O2 => f x y O2
def dUn (f : D → Sto → Res) (a : DTE) : DTE := fun ρ O => (a ρ O).bind fun x O1 => f x O1
def dNil : DTA := fun _ O => .ok [] O
def dCons (a : DTE) (r : DTA) : DTA := fun ρ O => (a ρ O).bindL fun x O1 => (r ρ O1).bindL fun xs O2 => .ok (x :: xs) O2
def dTup (a : DTA) : DTE := fun ρ O => (a ρ O).bind fun xs O1 => if xs.length ≤ 1000 then .ok (.tup xs) O1 else .stuck
def dLst (own : Bool) (a : DTA) : DTE := fun ρ O => (a ρ O).bind fun xs O1 => if xs.length ≤ 1000 then mkL own xs O1 else .stuck
def dCB (f : List D → Sto → Res) (a : DTA) : DTE := fun ρ O => (a ρ O).bind fun xs O1 => f xs O1
def dBM (f : D → List D → Sto → Res) (o : DTE) (a : DTA) : DTE := fun ρ O => (o ρ O).bind fun x O1 => (a ρ O1).bind fun xs O2 => f x xs O2
def bool' (d : D) (O : Sto) : ResB := match d with
  | .bl b => .ok b O
  | _ => .stuck
def dVal (a : DTE) : DTT := fun ρ O => (a ρ O).bindB bool'
def dNotT (a : DTT) : DTT := fun ρ O => (a ρ O).bindB fun b O1 => .ok (!b) O1
def dAndT (a b : DTT) : DTT := fun ρ O => (a ρ O).bindB fun x O1 => if x = true then b ρ O1 else .ok false O1
def dOrT (a b : DTT) : DTT := fun ρ O => (a ρ O).bindB fun x O1 => if x = true then .ok true O1 else b ρ O1
def dAndV (a b : DTE) : DTE := fun ρ O => (a ρ O).bind fun x O1 => match x with
  | .bl true => b ρ O1
  | .bl false => .ok (.bl false) O1
  | _ => .stuck
def dOrV (a b : DTE) : DTE := fun ρ O => (a ρ O).bind fun x O1 => match x with
  | .bl true => .ok (.bl true) O1
  | .bl false => b ρ O1
  | _ => .stuck
def dNotV (a : DTE) : DTE := fun ρ O => (a ρ O).bind fun x O1 => match x with
  | .bl b => .ok (.bl (!b)) O1
  | _ => .stuck
def dChain (f g : D → D → Sto → Res) (a b c : DTE) : DTE := fun ρ O => (a ρ O).bind fun x O1 => (b ρ O1).bind fun y O2 => (f x y O2).bind fun z O3 => match z with
  | .bl true => (c ρ O3).bind fun u O4 => g y u O4
  | .bl false => .ok (.bl false) O3
  | _ => .stuck

section
variable {ca : Cn} {W : WX} {X : Cx} {a b c e o : Expr} {es : List Expr} {ma mb mc : DTE} {mr : DTA} {pos : Pos}
theorem PE.or {t u : TE} (h : PE X e t) (g : PE X e u) : PE X e (fun σ H Q => t σ H Q ∨ u σ H Q) := ⟨fun pins s σ H Q I q => by
  rcases q with q | q
  · exact h.run pins s σ H Q I q
  · exact g.run pins s σ H Q I q⟩
theorem de_var {i : Nat} (h : PE X e (tVar i)) : DE ca W X e (dVar i) := ⟨_, h, fun w O H σ ρ Q k re h => by
  unfold dVar at h
  cases q : ρ[i]? with
  | none => rw [q] at h; exact h.elim
  | some d =>
    cases d with
    | none => rw [q] at h; exact h.elim
    | some d =>
      rw [q] at h
      obtain ⟨v, h1, h2⟩ := re.2 i d q
      exact ⟨v, h1, post_ok k h2 h⟩⟩
theorem de_c {v : V} {d : D} (h : PE X e (tC v)) (r : ∀ w, Rep ca w v d) : DE ca W X e (dC d) := ⟨_, h, fun w O H σ ρ Q k re h => post_ok k (r w) h⟩
theorem de_int {i : Int} {j} : DE ca W X (.Constant (.int i) j pos) (dC (.int i)) := de_c pe_int fun _ => .int i
theorem de_bl {b j} : DE ca W X (.Constant (.bool b) j pos) (dC (.bl b)) := de_c pe_bl fun _ => .bl b
theorem de_non {j} : DE ca W X (.Constant .none j pos) (dC .non) := de_c pe_non fun _ => .non
theorem de_str {x j} : DE ca W X (.Constant (.str x) j pos) (dC (.str x)) := de_c pe_str fun _ => .str x
theorem de_op {op : Operator} {r : R2} {f : D → D → Sto → Res} (ho : OpR X (binaryOp op) r) (hf : OpS ca r f) (ha : DE ca W X a ma) (hb : DE ca W X b mb) : DE ca W X (.BinOp a op b pos) (dOp f ma mb) := by
  obtain ⟨ta, pa, sa⟩ := ha
  obtain ⟨tb, pb, sb⟩ := hb
  refine ⟨_, pe_op ho pa pb, fun w O H σ ρ Q k re h => ?_⟩
  refine sa w O H σ ρ _ k re (Post.bind h fun d O1 v w1 H1 l1 k1 r1 h1 => ?_)
  refine sb w1 O1 H1 σ ρ _ k1 (re.mono l1) (Post.bind h1 fun d2 O2 v2 w2 H2 l2 k2 r2 h2 => ?_)
  exact hf w2 O2 H2 _ _ _ _ W σ Q k2 (r1.mono l2) r2 h2
theorem de_cmp {op : CmpOp} {r : R2} {f : D → D → Sto → Res} (ho : OpR X (compareOp op) r) (hf : OpS ca r f) (hm : behindInMarks op b = false) (ha : DE ca W X a ma) (hb : DE ca W X b mb) : DE ca W X (.Compare a [op] [b] pos) (dOp f ma mb) := by
  obtain ⟨ta, pa, sa⟩ := ha
  obtain ⟨tb, pb, sb⟩ := hb
  refine ⟨_, pe_cmpR ho pa pb hm, fun w O H σ ρ Q k re h => ?_⟩
  refine sa w O H σ ρ _ k re (Post.bind h fun d O1 v w1 H1 l1 k1 r1 h1 => ?_)
  refine sb w1 O1 H1 σ ρ _ k1 (re.mono l1) (Post.bind h1 fun d2 O2 v2 w2 H2 l2 k2 r2 h2 => ?_)
  exact hf w2 O2 H2 _ _ _ _ W σ Q k2 (r1.mono l2) r2 h2
theorem dt_cmp {op : CmpOp} {r : R2} {f : D → D → Sto → Res} (ho : OpR X (compareOp op) r) (hf : OpS ca r f) (hm : behindInMarks op b = false) (ha : DE ca W X a ma) (hb : DE ca W X b mb) : DT ca W X (.Compare a [op] [b] pos) (dVal (dOp f ma mb)) := by
  obtain ⟨ta, pa, sa⟩ := ha
  obtain ⟨tb, pb, sb⟩ := hb
  refine ⟨_, pt_cmpR ho pa pb hm, fun w O H σ ρ Q k re h => ?_⟩
  have h0 : Post ca w W σ (fun x H' => ∃ k, x = .bl k ∧ Q k H') (dOp f ma mb ρ O) := Post.bindB h fun d O1 v w1 H1 l1 k1 r1 h1 => by
    cases r1 with
    | bl b => exact ⟨b, rfl, h1 w1 H1 (Wd.le.refl _) k1⟩
    | _ => exact h1.elim
  refine sa w O H σ ρ _ k re (Post.bind h0 fun d O1 v w1 H1 l1 k1 r1 h1 => ?_)
  refine sb w1 O1 H1 σ ρ _ k1 (re.mono l1) (Post.bind h1 fun d2 O2 v2 w2 H2 l2 k2 r2 h2 => ?_)
  exact hf w2 O2 H2 _ _ _ _ W σ _ k2 (r1.mono l2) r2 h2
theorem de_chain {op op' : CmpOp} {r r' : R2} {f g : D → D → Sto → Res} (ho : OpR X (compareOp op) r) (ho' : OpR X (compareOp op') r') (hf : OpS ca r f) (hg : OpS ca r' g) (ha : DE ca W X a ma) (hb : DE ca W X b mb) (hc : DE ca W X c mc)
    (hm : lastMarks [op, op'] [b, c] = false := by with_unfolding_all rfl) : DE ca W X (.Compare a [op, op'] [b, c] pos) (dChain f g ma mb mc) := by
  obtain ⟨ta, pa, sa⟩ := ha
  obtain ⟨tb, pb, sb⟩ := hb
  obtain ⟨tc, pc, sc⟩ := hc
  refine ⟨_, pe_chain ho ho' pa pb pc hm, fun w O H σ ρ Q k re h => ?_⟩
  refine sa w O H σ ρ _ k re (Post.bind h fun d O1 v w1 H1 l1 k1 r1 h1 => ?_)
  refine sb w1 O1 H1 σ ρ _ k1 (re.mono l1) (Post.bind h1 fun d2 O2 v2 w2 H2 l2 k2 r2 h2 => ?_)
  refine hf w2 O2 H2 _ _ _ _ W σ _ k2 (r1.mono l2) r2 (Post.bind h2 fun d3 O3 v3 w3 H3 l3 k3 r3 h3 => ?_)
  cases r3 with
  | bl z =>
    refine ⟨z, rfl, ?_⟩
    cases z with
    | true =>
      rw [if_pos rfl]
      refine sc w3 O3 H3 σ ρ _ k3 (re.mono ((l1.trans l2).trans l3)) (Post.bind h3 fun d4 O4 v4 w4 H4 l4 k4 r4 h4 => ?_)
      exact hg w4 O4 H4 _ _ _ _ W σ _ k4 (r2.mono (l3.trans l4)) r4 h4
    | false =>
      rw [if_neg (fun z => nomatch z)]
      exact post_ok k3 (.bl false) h3
  | _ => exact h3.elim
theorem dt_chain {op op' : CmpOp} {r r' : R2} {f g : D → D → Sto → Res} (ho : OpR X (compareOp op) r) (ho' : OpR X (compareOp op') r') (hf : OpS ca r f) (hg : OpS ca r' g) (ha : DE ca W X a ma) (hb : DE ca W X b mb) (hc : DE ca W X c mc)
    (hm : lastMarks [op, op'] [b, c] = false := by with_unfolding_all rfl) : DT ca W X (.Compare a [op, op'] [b, c] pos) (dVal (dChain f g ma mb mc)) := by
  obtain ⟨ta, pa, sa⟩ := ha
  obtain ⟨tb, pb, sb⟩ := hb
  obtain ⟨tc, pc, sc⟩ := hc
  refine ⟨_, pt_chain ho ho' pa pb pc hm, fun w O H σ ρ Q k re h => ?_⟩
  have h0 : Post ca w W σ (fun x H' => ∃ k, x = .bl k ∧ Q k H') (dChain f g ma mb mc ρ O) := Post.bindB h fun d O1 v w1 H1 l1 k1 r1 h1 => by
    cases r1 with
    | bl b => exact ⟨b, rfl, h1 w1 H1 (Wd.le.refl _) k1⟩
    | _ => exact h1.elim
  refine sa w O H σ ρ _ k re (Post.bind h0 fun d O1 v w1 H1 l1 k1 r1 h1 => ?_)
  refine sb w1 O1 H1 σ ρ _ k1 (re.mono l1) (Post.bind h1 fun d2 O2 v2 w2 H2 l2 k2 r2 h2 => ?_)
  refine hf w2 O2 H2 _ _ _ _ W σ _ k2 (r1.mono l2) r2 (Post.bind h2 fun d3 O3 v3 w3 H3 l3 k3 r3 h3 => ?_)
  cases r3 with
  | bl z =>
    refine ⟨z, rfl, ?_⟩
    cases z with
    | true =>
      rw [if_pos rfl]
      refine sc w3 O3 H3 σ ρ _ k3 (re.mono ((l1.trans l2).trans l3)) (Post.bind h3 fun d4 O4 v4 w4 H4 l4 k4 r4 h4 => ?_)
      exact hg w4 O4 H4 _ _ _ _ W σ _ k4 (r2.mono (l3.trans l4)) r4 h4
    | false =>
      rw [if_neg (fun z => nomatch z)]
      exact post_ok k3 (.bl false) h3
  | _ => exact h3.elim
theorem de_un {op : UnaryOp} {r : V → Hp → VK → Prop} {f : D → Sto → Res} (ho : UnR X (unaryOp op) r)
    (hf : ∀ (w : Wd) (O : Sto) (H : Hp) (x : V) (dx : D) (W : WX) (σ : L2.St) (Q : VK), Ok ca w O H → Rep ca w x dx → Post ca w W σ Q (f dx O) → r x H Q) (ha : DE ca W X a ma) : DE ca W X (.UnaryOp op a pos) (dUn f ma) := by
  obtain ⟨ta, pa, sa⟩ := ha
  refine ⟨_, pe_un ho pa, fun w O H σ ρ Q k re h => ?_⟩
  refine sa w O H σ ρ _ k re (Post.bind h fun d O1 v w1 H1 l1 k1 r1 h1 => ?_)
  exact hf w1 O1 H1 _ _ W σ Q k1 r1 h1
def fNeg (x : D) (O : Sto) : Res := match x with
  | .int i => .ok (.int (-i)) O
  | _ => .stuck
theorem de_neg (ha : DE ca W X a ma) : DE ca W X (.UnaryOp .USub a pos) (dUn fNeg ma) := de_un un_neg (fun w O H x dx W σ Q k r h => by
  cases r with
  | int i => exact ⟨i, rfl, post_ok k (.int _) h⟩
  | _ => exact h.elim) ha
/-- -1, written -/
theorem de_neg1 {i : Int} {j} {p2 : Pos} : DE ca W X (.UnaryOp .USub (.Constant (.int i) j p2) pos) (dC (.int (-i))) := by
  refine ⟨_, pe_un un_neg (pe_int (X := X)), fun w O H σ ρ Q k re h => ⟨i, rfl, post_ok k (.int _) h⟩⟩

theorem da_nil : DA ca W X [] dNil := ⟨_, pa_nil, fun w O H σ ρ Q k re h => h [] w H (Wd.le.refl w) k .nil⟩
theorem da_cons (ha : DE ca W X e ma) (hr : DA ca W X es mr) (hs : starEach (e :: es) X.env = (false, eval e X.env) :: starEach es X.env := by rfl) : DA ca W X (e :: es) (dCons ma mr) := by
  obtain ⟨ta, pa, sa⟩ := ha
  obtain ⟨tb, pb, sb⟩ := hr
  refine ⟨_, pa_cons pa pb hs, fun w O H σ ρ Q k re h => ?_⟩
  refine sa w O H σ ρ _ k re (Post.bindL h fun d O1 v w1 H1 l1 k1 r1 h1 => ?_)
  refine sb w1 O1 H1 σ ρ _ k1 (re.mono l1) (PostL.bindL h1 fun d2 O2 v2 w2 H2 l2 k2 r2 h2 => ?_)
  exact h2 _ w2 H2 (Wd.le.refl _) k2 (.cons (r1.mono l2) r2)
theorem small {n : Nat} (h : n ≤ 1000) : n ≤ sizeLine := Nat.le_trans h (by decide)
theorem de_tup {x1} (h : DA ca W X es mr) : DE ca W X (.Tuple es x1 pos) (dTup mr) := by
  obtain ⟨ta, pa, sa⟩ := h
  refine ⟨_, pe_tup pa, fun w O H σ ρ Q k re h => ?_⟩
  refine sa w O H σ ρ _ k re (PostL.bind h fun d O1 v w1 H1 l1 k1 r1 h1 => ?_)
  obtain ⟨hl, h1⟩ := post_if h1
  exact ⟨by rw [r1.length]; exact small hl, fun p hp => post_tup k1 r1 h1 hp⟩
theorem de_lst (own : Bool) (h : DA ca W X es mr) : DE ca W X (.List es pos) (dLst own mr) := by
  obtain ⟨ta, pa, sa⟩ := h
  refine ⟨_, pe_lst pa, fun w O H σ ρ Q k re h => ?_⟩
  refine sa w O H σ ρ _ k re (PostL.bind h fun d O1 v w1 H1 l1 k1 r1 h1 => ?_)
  obtain ⟨hl, h1⟩ := post_if h1
  exact ⟨by rw [r1.length]; exact small hl, fun p hp => post_mkL k1 r1 h1 hp⟩

/-! tests -/
theorem dt_val (h : DE ca W X e ma) (he : ∀ whole, isTrue e X.env whole = (do let v ← whole; standAt e.pos; holding [v] (truthy v)) := by intro _; rfl) : DT ca W X e (dVal ma) := by
  obtain ⟨ta, pa, sa⟩ := h
  refine ⟨_, pt_val pa he, fun w O H σ ρ Q k re h => ?_⟩
  refine sa w O H σ ρ _ k re (Post.bindB h fun d O1 v w1 H1 l1 k1 r1 h1 => ?_)
  cases r1 with
  | bl b => exact ⟨b, rfl, h1 w1 H1 (Wd.le.refl _) k1⟩
  | _ => exact h1.elim
variable {na nb : DTT} {rest : List Expr}
theorem dt_not (h : DT ca W X a na) : DT ca W X (.UnaryOp .Not a pos) (dNotT na) := by
  obtain ⟨ta, pa, sa⟩ := h
  refine ⟨_, pt_not pa, fun w O H σ ρ Q k re h => ?_⟩
  exact sa w O H σ ρ _ k re (PostB.bindB h fun d O1 w1 H1 l1 k1 h1 => h1 w1 H1 (Wd.le.refl _) k1)
theorem dw_and1 (h : DT ca W X a na) : DW ca W X (.BoolOp .And [a] pos) na := by
  obtain ⟨ta, pa, sa⟩ := h
  exact ⟨_, pw_and1 pa, sa⟩
theorem dw_or1 (h : DT ca W X a na) : DW ca W X (.BoolOp .Or [a] pos) na := by
  obtain ⟨ta, pa, sa⟩ := h
  exact ⟨_, pw_or1 pa, sa⟩
theorem dw_and (ha : DT ca W X a na) (hb : DW ca W X (.BoolOp .And (b :: rest) pos) nb) : DW ca W X (.BoolOp .And (a :: b :: rest) pos) (dAndT na nb) := by
  obtain ⟨ta, pa, sa⟩ := ha
  obtain ⟨tb, pb, sb⟩ := hb
  refine ⟨_, pw_and pa pb, fun w O H σ ρ Q k re h => ?_⟩
  refine sa w O H σ ρ _ k re (PostB.bindB h fun d O1 w1 H1 l1 k1 h1 => ?_)
  cases d with
  | true =>
    rw [if_pos rfl] at h1 ⊢
    exact sb w1 O1 H1 σ ρ _ k1 (re.mono l1) h1
  | false =>
    rw [if_neg (fun z => nomatch z)] at h1 ⊢
    exact h1 w1 H1 (Wd.le.refl _) k1
theorem dw_or (ha : DT ca W X a na) (hb : DW ca W X (.BoolOp .Or (b :: rest) pos) nb) : DW ca W X (.BoolOp .Or (a :: b :: rest) pos) (dOrT na nb) := by
  obtain ⟨ta, pa, sa⟩ := ha
  obtain ⟨tb, pb, sb⟩ := hb
  refine ⟨_, pw_or pa pb, fun w O H σ ρ Q k re h => ?_⟩
  refine sa w O H σ ρ _ k re (PostB.bindB h fun d O1 w1 H1 l1 k1 h1 => ?_)
  cases d with
  | true =>
    rw [if_pos rfl] at h1 ⊢
    exact h1 w1 H1 (Wd.le.refl _) k1
  | false =>
    rw [if_neg (fun z => nomatch z)] at h1 ⊢
    exact sb w1 O1 H1 σ ρ _ k1 (re.mono l1) h1
theorem DW.dt (h : DW ca W X e na) : DT ca W X e na := by
  obtain ⟨ta, pa, sa⟩ := h
  exact ⟨_, pa.pt, sa⟩
theorem de_one {op} (h : DE ca W X a ma) : DE ca W X (.BoolOp op [a] pos) ma := by
  obtain ⟨ta, pa, sa⟩ := h
  exact ⟨_, pe_one pa, sa⟩
theorem de_and (ha : DE ca W X a ma) (hb : DE ca W X (.BoolOp .And (b :: rest) pos) mb) : DE ca W X (.BoolOp .And (a :: b :: rest) pos) (dAndV ma mb) := by
  obtain ⟨ta, pa, sa⟩ := ha
  obtain ⟨tb, pb, sb⟩ := hb
  refine ⟨_, pe_and pa pb, fun w O H σ ρ Q k re h => ?_⟩
  refine sa w O H σ ρ _ k re (Post.bind h fun d O1 v w1 H1 l1 k1 r1 h1 => ?_)
  cases r1 with
  | bl z =>
    refine ⟨z, rfl, ?_⟩
    cases z with
    | true =>
      rw [if_pos rfl]
      exact sb w1 O1 H1 σ ρ _ k1 (re.mono l1) h1
    | false =>
      rw [if_neg (fun z => nomatch z)]
      exact post_ok k1 (.bl false) h1
  | _ => exact h1.elim
theorem de_or (ha : DE ca W X a ma) (hb : DE ca W X (.BoolOp .Or (b :: rest) pos) mb) : DE ca W X (.BoolOp .Or (a :: b :: rest) pos) (dOrV ma mb) := by
  obtain ⟨ta, pa, sa⟩ := ha
  obtain ⟨tb, pb, sb⟩ := hb
  refine ⟨_, pe_or pa pb, fun w O H σ ρ Q k re h => ?_⟩
  refine sa w O H σ ρ _ k re (Post.bind h fun d O1 v w1 H1 l1 k1 r1 h1 => ?_)
  cases r1 with
  | bl z =>
    refine ⟨z, rfl, ?_⟩
    cases z with
    | true =>
      rw [if_pos rfl]
      exact post_ok k1 (.bl true) h1
    | false =>
      rw [if_neg (fun z => nomatch z)]
      exact sb w1 O1 H1 σ ρ _ k1 (re.mono l1) h1
  | _ => exact h1.elim
theorem de_not (ha : DE ca W X a ma) : DE ca W X (.UnaryOp .Not a pos) (dNotV ma) := by
  obtain ⟨ta, pa, sa⟩ := ha
  refine ⟨_, pe_not pa, fun w O H σ ρ Q k re h => ?_⟩
  refine sa w O H σ ρ _ k re (Post.bind h fun d O1 v w1 H1 l1 k1 r1 h1 => ?_)
  cases r1 with
  | bl z => exact ⟨z, rfl, post_ok k1 (.bl (!z)) h1⟩
  | _ => exact h1.elim
end
end Yk

set_option Elab.async false
set_option linter.all false
set_option maxRecDepth 100000
set_option maxHeartbeats 1000000
/-! Yk: statements, loops, comprehensions, defs. -/
namespace Yk
open PySem L2

def Res.bindS (r : Res) (ρ : Env') (k : D → Sto → Out) : Out := match r with
  | .ok d O => k d O
  | .exc c fs O => .exc c fs ρ O
  | .stuck => .stuck
def ResB.bindS (r : ResB) (ρ : Env') (k : Bool → Sto → Out) : Out := match r with
  | .ok d O => k d O
  | .exc c fs O => .exc c fs ρ O
  | .stuck => .stuck
section
variable {ca : Cn} {w : Wd} {W : WX} {σ : L2.St}
theorem Post.bindS {Dn : Ends} {Q1 : VK} {r : Res} {ρ : Env'} {k : D → Sto → Out} (re : RepE ca w σ ρ) (h : PostS ca w W Dn (r.bindS ρ k))
    (hk : ∀ d O' v w' H', w.le w' → Ok ca w' O' H' → Rep ca w' v d → PostS ca w' W Dn (k d O') → Q1 v H') : Post ca w W σ Q1 r := by
  cases r with
  | ok d O => exact fun v w2 H2 y o r => hk d O v w2 H2 y o r (PostS.mono y h)
  | exc c fs O => exact fun cv dx w2 H2 y o x => h cv dx σ w2 H2 y o (re.mono y) x
  | stuck => exact h
theorem PostB.bindS {Dn : Ends} {Q1 : Bool → Hp → Prop} {r : ResB} {ρ : Env'} {k : Bool → Sto → Out} (re : RepE ca w σ ρ) (h : PostS ca w W Dn (r.bindS ρ k))
    (hk : ∀ d O' w' H', w.le w' → Ok ca w' O' H' → PostS ca w' W Dn (k d O') → Q1 d H') : PostB ca w W σ Q1 r := by
  cases r with
  | ok d O => exact fun w2 H2 y o => hk d O w2 H2 y o (PostS.mono y h)
  | exc c fs O => exact fun cv dx w2 H2 y o x => h cv dx σ w2 H2 y o (re.mono y) x
  | stuck => exact h
end

/-! ### statements -/
def dSkip : DTS := fun ρ O => .nx ρ O
def dSeq (a b : DTS) : DTS := fun ρ O => match a ρ O with
  | .nx ρ1 O1 => b ρ1 O1
  | r => r
def dSet (i : Nat) (m : DTE) : DTS := fun ρ O => (m ρ O).bindS ρ fun d O1 => .nx (ρ.set i (some d)) O1
def dExpr (m : DTE) : DTS := fun ρ O => (m ρ O).bindS ρ fun _ O1 => .nx ρ O1
def dRet (m : DTE) : DTS := fun ρ O => (m ρ O).bindS ρ fun d O1 => .rt d O1
def dRetN : DTS := fun _ O => .rt .non O
def dIf (c : DTT) (a b : DTS) : DTS := fun ρ O => (c ρ O).bindS ρ fun k O1 => if k = true then a ρ O1 else b ρ O1
def dBreak : DTS := fun ρ O => .bk ρ O
def dCont : DTS := fun ρ O => .ct ρ O
def dAug (i : Nat) (f : D → D → Sto → Res) (m : DTE) : DTS := fun ρ O => match ρ[i]? with
  | some (some x) => (m ρ O).bindS ρ fun y O1 => (f x y O1).bindS ρ fun z O2 => .nx (ρ.set i (some z)) O2
  | _ => .stuck
/-! targets -/
abbrev DTG := D → Env' → Option Env'
abbrev DTGs := List D → Env' → Option Env'
def gN (i : Nat) : DTG := fun d ρ => some (ρ.set i (some d))
def gNilD : DTGs := fun ds ρ => match ds with
  | [] => some ρ
  | _ => none
def gConsD (g : DTG) (gs : DTGs) : DTGs := fun ds ρ => match ds with
  | d :: ds => (g d ρ).bind fun ρ1 => gs ds ρ1
  | [] => none
def gT (gs : DTGs) : DTG := fun d ρ => match d with
  | .tup ds => gs ds ρ
  | _ => none
def SndG (ca : Cn) (g : TG) (m : DTG) : Prop := ∀ w O H σ ρ v d ρ' (Q : L2.St → Hp → Prop), Ok ca w O H → RepE ca w σ ρ → Rep ca w v d → m d ρ = some ρ' → (∀ σ', RepE ca w σ' ρ' → Q σ' H) → g v σ H Q
def SndGs (ca : Cn) (g : TGs) (m : DTGs) (n : Nat) : Prop := (∀ d ρ ρ', m d ρ = some ρ' → d.length = n) ∧ ∀ w O H σ ρ v d ρ' (Q : L2.St → Hp → Prop), Ok ca w O H → RepE ca w σ ρ → RepL ca w v d → m d ρ = some ρ' → (∀ σ', RepE ca w σ' ρ' → Q σ' H) → g v σ H Q
def DG (ca : Cn) (X : Cx) (e : Expr) (m : DTG) : Prop := ∃ g, PG X e g ∧ SndG ca g m
def DGs (ca : Cn) (X : Cx) (es : List Expr) (m : DTGs) : Prop := ∃ g, PGs X es g ∧ SndGs ca g m es.length
def dAsg (g : DTG) (m : DTE) : DTS := fun ρ O => (m ρ O).bindS ρ fun d O1 => match g d ρ with
  | some ρ1 => .nx ρ1 O1
  | none => .stuck

section
variable {ca : Cn} {W : WX} {X : Cx} {a b : List Stmt} {st : Stmt} {c e tg : Expr} {es : List Expr} {m : DTE} {n : DTT} {p q : DTS} {pos : Pos} {g : DTG} {gs : DTGs}
theorem dss_nil : DSs ca W X [] dSkip := ⟨_, pss_nil, fun w O H σ ρ Dn k re h => h σ w H (Wd.le.refl w) k re⟩
theorem dss_cons (h1 : DS ca W X st p) (h2 : DSs ca W X a q) : DSs ca W X (st :: a) (dSeq p q) := by
  obtain ⟨t, pt, sp⟩ := h1
  obtain ⟨u, pu, sq⟩ := h2
  refine ⟨_, pss_cons pt pu, fun w O H σ ρ Dn k re h => ?_⟩
  refine sp w O H σ ρ _ k re ?_
  unfold dSeq at h
  cases z : p ρ O with
  | nx ρ1 O1 =>
    rw [z] at h
    exact fun σ' w' H' l k' re' => sq w' O1 H' σ' ρ1 Dn k' re' (PostS.mono l h)
  | _ => rw [z] at h; exact h
theorem dss_one (h1 : DS ca W X st p) : DSs ca W X [st] p := by
  obtain ⟨t, pt, sp⟩ := h1
  exact ⟨_, pss_one pt, sp⟩
theorem ds_pass : DS ca W X (.Pass pos) dSkip := ⟨_, ps_pass, fun w O H σ ρ Dn k re h => h σ w H (Wd.le.refl w) k re⟩
theorem ds_doc {x j pos'} : DS ca W X (.Expr (.Constant (.str x) j pos) pos') dSkip := ⟨_, ps_doc, fun w O H σ ρ Dn k re h => h σ w H (Wd.le.refl w) k re⟩
theorem ds_break : DS ca W X (.Break pos) dBreak := ⟨_, ps_break, fun w O H σ ρ Dn k re h => h σ w H (Wd.le.refl w) k re⟩
theorem ds_cont : DS ca W X (.Continue pos) dCont := ⟨_, ps_continue, fun w O H σ ρ Dn k re h => h σ w H (Wd.le.refl w) k re⟩
theorem ds_set {i : Nat} {x : Str} {pos' : Pos} (hN : X.N.Nodup) (hi : X.N[i]? = some x) (hx : Loc X.env.scope x) (he : DE ca W X e m) (hs : swapsWith e (some (.Name x pos')) pos.line X.env = pure false := by rfl)
    (hf : X.fn x = true ∨ X.env.scope.names.lookup x = some .local := by first | exact .inl rfl | exact .inr rfl | assumption) : DS ca W X (.Assign [.Name x pos'] e pos) (dSet i m) := by
  obtain ⟨t, pt, sp⟩ := he
  refine ⟨_, ps_set hN hi hx pt hs hf, fun w O H σ ρ Dn k re h => ?_⟩
  refine sp w O H σ ρ _ k re (Post.bindS re h fun d O1 v w1 H1 l1 k1 r1 h1 => ?_)
  exact h1 _ w1 H1 (Wd.le.refl _) k1 ((re.mono l1).set r1)
theorem ds_expr (he : DE ca W X e m) (hs : swapsWith e none pos.line X.env = pure false := by rfl) : DS ca W X (.Expr e pos) (dExpr m) := by
  obtain ⟨t, pt, sp⟩ := he
  refine ⟨_, ps_expr pt hs, fun w O H σ ρ Dn k re h => ?_⟩
  refine sp w O H σ ρ _ k re (Post.bindS re h fun d O1 v w1 H1 l1 k1 r1 h1 => ?_)
  exact h1 _ w1 H1 (Wd.le.refl _) k1 (re.mono l1)
theorem ds_ret (he : DE ca W X e m) : DS ca W X (.Return (some e) pos) (dRet m) := by
  obtain ⟨t, pt, sp⟩ := he
  refine ⟨_, ps_ret pt, fun w O H σ ρ Dn k re h => ?_⟩
  refine sp w O H σ ρ _ k re (Post.bindS re h fun d O1 v w1 H1 l1 k1 r1 h1 => ?_)
  exact h1 _ w1 H1 (Wd.le.refl _) k1 r1
theorem ds_retN : DS ca W X (.Return none pos) dRetN := ⟨_, ps_retN, fun w O H σ ρ Dn k re h => h .non w H (Wd.le.refl w) k .non⟩
theorem ds_if (hc : DT ca W X c n) (ha : DSs ca W X a p) (hb : DSs ca W X b q) : DS ca W X (.If c a b pos) (dIf n p q) := by
  obtain ⟨t, pt, sp⟩ := hc
  obtain ⟨ta, pa, sa⟩ := ha
  obtain ⟨tb, pb, sb⟩ := hb
  refine ⟨_, ps_if pt pa pb, fun w O H σ ρ Dn k re h => ?_⟩
  refine sp w O H σ ρ _ k re (PostB.bindS re h fun d O1 w1 H1 l1 k1 h1 => ?_)
  cases d with
  | true =>
    rw [if_pos rfl] at h1 ⊢
    exact sa w1 O1 H1 σ ρ Dn k1 (re.mono l1) h1
  | false =>
    rw [if_neg (fun z => nomatch z)] at h1 ⊢
    exact sb w1 O1 H1 σ ρ Dn k1 (re.mono l1) h1
/-- an operator in place, by values -/
def IpS (ca : Cn) (r : TIp) (f : D → D → Sto → Res) : Prop := ∀ (w : Wd) (O : Sto) (H : Hp) (x y : V) (dx dy : D) (W : WX) (σ : L2.St) (Q : VK), Ok ca w O H → Rep ca w x dx → Rep ca w y dy → Post ca w W σ Q (f dx dy O) → r x y H Q
theorem ds_aug {i : Nat} {x : Str} {op : Operator} {ti : TIp} {f : D → D → Sto → Res} {pos' : Pos} (hN : X.N.Nodup) (hi : X.N[i]? = some x) (hx : Loc X.env.scope x) (ho : PIp X op ti) (hf' : IpS ca ti f) (he : DE ca W X e m)
    (hf : X.fn x = true ∨ X.env.scope.names.lookup x = some .local := by first | exact .inl rfl | exact .inr rfl | assumption) : DS ca W X (.AugAssign (.Name x pos') op e pos) (dAug i f m) := by
  obtain ⟨t, pt, sp⟩ := he
  refine ⟨_, ps_aug hN hi hx pt ho hf, fun w O H σ ρ Dn k re h => ?_⟩
  unfold dAug at h
  cases z : ρ[i]? with
  | none => rw [z] at h; exact h.elim
  | some d =>
    cases d with
    | none => rw [z] at h; exact h.elim
    | some d =>
      rw [z] at h
      obtain ⟨v, h1, h2⟩ := re.2 i d z
      refine ⟨v, h1, sp w O H σ ρ _ k re (Post.bindS re h fun d1 O1 v1 w1 H1 l1 k1 r1 q1 => ?_)⟩
      refine hf' w1 O1 H1 _ _ _ _ W σ _ k1 (h2.mono l1) r1 (Post.bindS (re.mono l1) q1 fun d2 O2 v2 w2 H2 l2 k2 r2 q2 => ?_)
      exact q2 _ w2 H2 (Wd.le.refl _) k2 ((re.mono (l1.trans l2)).set r2)
theorem dg_name {i : Nat} {x : Str} (hN : X.N.Nodup) (hi : X.N[i]? = some x) (hx : Loc X.env.scope x) (hf : X.fn x = true ∨ X.env.scope.names.lookup x = some .local := by first | exact .inl rfl | exact .inr rfl | assumption) : DG ca X (.Name x pos) (gN i) :=
  ⟨_, pg_name hN hi hx hf, fun w O H σ ρ v d ρ' Q k re r e h => by
    cases e
    exact h _ (re.set r)⟩
theorem dgs_nil : DGs ca X [] gNilD := by
  refine ⟨gNil, pgs_nil, fun d ρ ρ' e => ?_, fun w O H σ ρ v d ρ' Q k re r e h => ?_⟩
  · cases d with
    | nil => rfl
    | cons _ _ => cases e
  · cases r with
    | nil =>
      cases e
      exact ⟨rfl, h σ re⟩
    | cons _ _ => cases e
theorem gCons_some {d : D} {ds : List D} {ρ ρ' : Env'} (e : gConsD g gs (d :: ds) ρ = some ρ') : ∃ ρ1, g d ρ = some ρ1 ∧ gs ds ρ1 = some ρ' := by
  unfold gConsD at e
  cases z : g d ρ with
  | none =>
    simp only [z] at e
    cases e
  | some ρ1 =>
    simp only [z] at e
    exact ⟨ρ1, rfl, e⟩
theorem dgs_cons (h1 : DG ca X e g) (h2 : DGs ca X es gs) (ha : (assignEach (e :: es) X.env).map (·.2) = assign e X.env :: (assignEach es X.env).map (·.2) := by rfl) : DGs ca X (e :: es) (gConsD g gs) := by
  obtain ⟨t, pt, sp⟩ := h1
  obtain ⟨u, pu, lu, su⟩ := h2
  refine ⟨_, pgs_cons pt pu ha, fun d ρ ρ' e => ?_, fun w O H σ ρ v d ρ' Q k re r e h => ?_⟩
  · cases d with
    | nil => cases e
    | cons d ds =>
      obtain ⟨ρ1, _, e2⟩ := gCons_some e
      rw [List.length_cons, List.length_cons, lu ds ρ1 ρ' e2]
  · cases r with
    | nil => cases e
    | @cons v d vs ds r1 r2 =>
      obtain ⟨ρ1, e1, e2⟩ := gCons_some e
      exact ⟨v, vs, rfl, sp w O H σ ρ v d ρ1 _ k re r1 e1 fun σ' re' => su w O H σ' ρ1 vs ds ρ' Q k re' r2 e2 h⟩
theorem dg_tup {x1 : Nat} (hc : X.calm = true) (h : DGs ca X es gs) (hn : (assignEach es X.env).length = es.length := by rfl) (hst : (assignEach es X.env).findIdx? (·.1) = none := by rfl) : DG ca X (.Tuple es x1 pos) (gT gs) := by
  obtain ⟨u, pu, lu, su⟩ := h
  refine ⟨_, pg_tup (n := es.length) hc pu hn hst, fun w O H σ ρ v d ρ' Q k re r e h => ?_⟩
  unfold gT at e
  split at e
  · rename_i ds
    cases r with
    | tup hF rl =>
      exact ⟨_, _, rfl, .inl (.inl (k.ext.tup hF)), rl.length.trans (lu _ _ _ e), su w O H σ ρ _ _ ρ' Q k re rl e h⟩
  · cases e
theorem ds_asg (he : DE ca W X e m) (hg : DG ca X tg g) (hs : swapsWithSole [tg] e pos.line X.env = pure false := by rfl) (hw : swappedStores [tg] e X.env = pure none := by rfl) (h1 : (assignEach [tg] X.env).map (·.2) = [assign tg X.env] := by rfl) : DS ca W X (.Assign [tg] e pos) (dAsg g m) := by
  obtain ⟨t, pt, sp⟩ := he
  obtain ⟨u, pu, su⟩ := hg
  refine ⟨_, ps_asg pt pu hs hw h1, fun w O H σ ρ Dn k re h => ?_⟩
  refine sp w O H σ ρ _ k re (Post.bindS re h fun d O1 v w1 H1 l1 k1 r1 h1 => ?_)
  cases z : g d ρ with
  | none => rw [z] at h1; exact h1.elim
  | some ρ1 =>
    rw [z] at h1
    exact su w1 O1 H1 σ ρ v d ρ1 _ k1 (re.mono l1) r1 z fun σ' re' => h1 _ w1 H1 (Wd.le.refl _) k1 re'
end

/-! ### what a loop walks -/
inductive ResI where
  | ok (items : List D) (lk : Option (Nat × OD)) (O : Sto) | exc (c : Str) (fs : List (Str × D)) (O : Sto) | stuck
abbrev DTI := Env' → Sto → ResI
/-- the list walked stands as it stood -/
def Still (lk : Option (Nat × OD)) (O : Sto) : Prop := match lk with
  | none => True
  | some (n, od) => O[n]? = some od
theorem Still.none {O : Sto} : Still Option.none O := trivial
def Walks (ca : Cn) (J : It) (w : Wd) (items : List D) (lk : Option (Nat × OD)) : Prop := ∀ (w' : Wd) (O : Sto) (H : Hp) (i : Nat), w.sub w' → w'.lk = w.lk → Ok ca w' O H → Still lk O →
  (items.length ≤ i → J.stop i H) ∧ ∀ d, items[i]? = some d → J.go i H ∧ ∀ x H', J.yld i H x H' → ∃ w'', w'.le w'' ∧ Ok ca w'' O H' ∧ Rep ca w'' x d
def PostI (ca : Cn) (w : Wd) (W : WX) (σ : L2.St) (R : It → Hp → Prop) : ResI → Prop
  | .ok items lk O' => ∀ J w' H', w.le w' → Ok ca w' O' H' → Still lk O' → Walks ca J w' items lk → R J H'
  | .exc c fs O' => ∀ cv dx w' H', w.le w' → Ok ca w' O' H' → RepX ca w' H' c fs cv dx → W cv dx σ H'
  | .stuck => False
theorem PostI.mono {ca : Cn} {w w' : Wd} {W : WX} {σ : L2.St} {R : It → Hp → Prop} {r : ResI} (x : w.le w') (h : PostI ca w W σ R r) : PostI ca w' W σ R r := by
  cases r with
  | ok d lk O => exact fun v w2 H2 y => h v w2 H2 (x.trans y)
  | exc c fs O => exact fun cv dx w2 H2 y => h cv dx w2 H2 (x.trans y)
  | stuck => exact h
def SndI (ca : Cn) (W : WX) (t : TI) (m : DTI) : Prop := ∀ w O H σ ρ R, Ok ca w O H → RepE ca w σ ρ → PostI ca w W σ R (m ρ O) → t σ H R
def DI (ca : Cn) (W : WX) (X : Cx) (tg e : Expr) (m : DTI) : Prop := ∃ t, PI X tg e t ∧ SndI ca W t m
def Res.bindI (r : Res) (k : D → Sto → ResI) : ResI := match r with
  | .ok d O => k d O
  | .exc c fs O => .exc c fs O
  | .stuck => .stuck
def ResL.bindI (r : ResL) (k : List D → Sto → ResI) : ResI := match r with
  | .ok d O => k d O
  | .exc c fs O => .exc c fs O
  | .stuck => .stuck
def ResI.bindS (r : ResI) (ρ : Env') (k : List D → Option (Nat × OD) → Sto → Out) : Out := match r with
  | .ok d lk O => k d lk O
  | .exc c fs O => .exc c fs ρ O
  | .stuck => .stuck
section
variable {ca : Cn} {w : Wd} {W : WX} {σ : L2.St}
theorem Post.bindI {R : It → Hp → Prop} {Q1 : VK} {r : Res} {k : D → Sto → ResI} (h : PostI ca w W σ R (r.bindI k))
    (hk : ∀ d O' v w' H', w.le w' → Ok ca w' O' H' → Rep ca w' v d → PostI ca w' W σ R (k d O') → Q1 v H') : Post ca w W σ Q1 r := by
  cases r with
  | ok d O => exact fun v w2 H2 y o r => hk d O v w2 H2 y o r (PostI.mono y h)
  | exc c fs O => exact h
  | stuck => exact h
theorem PostL.bindI {R : It → Hp → Prop} {Q1 : List V → Hp → Prop} {r : ResL} {k : List D → Sto → ResI} (h : PostI ca w W σ R (r.bindI k))
    (hk : ∀ d O' v w' H', w.le w' → Ok ca w' O' H' → RepL ca w' v d → PostI ca w' W σ R (k d O') → Q1 v H') : PostL ca w W σ Q1 r := by
  cases r with
  | ok d O => exact fun v w2 H2 y o r => hk d O v w2 H2 y o r (PostI.mono y h)
  | exc c fs O => exact h
  | stuck => exact h
theorem PostI.bindS {Dn : Ends} {R : It → Hp → Prop} {r : ResI} {ρ : Env'} {k : List D → Option (Nat × OD) → Sto → Out} (re : RepE ca w σ ρ) (h : PostS ca w W Dn (r.bindS ρ k))
    (hk : ∀ items lk O' J w' H', w.le w' → Ok ca w' O' H' → Still lk O' → Walks ca J w' items lk → PostS ca w' W Dn (k items lk O') → R J H') : PostI ca w W σ R r := by
  cases r with
  | ok items lk O => exact fun J w2 H2 y o z wk => hk items lk O J w2 H2 y o z wk (PostS.mono y h)
  | exc c fs O => exact fun cv dx w2 H2 y o x => h cv dx σ w2 H2 y o (re.mono y) x
  | stuck => exact h
end

open Classical in
noncomputable def forL (items : List D) (lk : Option (Nat × OD)) (g : DTG) (body : DTS) : List D → Env' → Sto → Out
  | [], ρ, O => if Still lk O then .nx ρ O else .stuck
  | x :: xs, ρ, O => if Still lk O then (match g x ρ with
    | none => .stuck
    | some ρ1 => match body ρ1 O with
      | .nx ρ2 O2 => forL items lk g body xs ρ2 O2
      | .ct ρ2 O2 => forL items lk g body xs ρ2 O2
      | .bk ρ2 O2 => .nx ρ2 O2
      | r => r) else .stuck
noncomputable def dFor (src : DTI) (g : DTG) (body : DTS) : DTS := fun ρ O => (src ρ O).bindS ρ fun items lk O1 => forL items lk g body items ρ O1
/-- the loop's own step -/
theorem for_run {ca : Cn} {W : WX} {J : It} {g : TG} {mg : DTG} {tb : TS} {mb : DTS} (sg : SndG ca g mg) (sb : SndS ca W tb mb) {w : Wd} {items : List D} {lk : Option (Nat × OD)} {O : Sto} {H : Hp} {σ : L2.St} {ρ : Env'} {Dn : Ends}
    (k : Ok ca w O H) (re : RepE ca w σ ρ) (wk : Walks ca J w items lk) (h : PostS ca w W Dn (forL items lk mg mb items ρ O)) :
    ∃ W' : Nat → Nat → L2.St → Hp → Prop, (∃ m, W' 0 m σ H) ∧ ∀ i m σ H, W' i m σ H →
      (J.stop i H ∧ Dn.nx σ H) ∨ (J.go i H ∧ ∃ N : L2.St → Hp → Prop, (∀ σ' H', N σ' H' → ∃ m', m' < m ∧ W' (i + 1) m' σ' H') ∧ ∀ x H', J.yld i H x H' → g x σ H' fun σ2 H2 => tb { Dn with nx := N, ct := N, bk := Dn.nx } σ2 H2) := by
  refine ⟨fun i m σ H => m = items.length - i ∧ i ≤ items.length ∧ ∃ w' O ρ, w.le w' ∧ Ok ca w' O H ∧ RepE ca w' σ ρ ∧ PostS ca w' W Dn (forL items lk mg mb (items.drop i) ρ O), ⟨items.length, by simp, Nat.zero_le _, w, O, ρ, Wd.le.refl w, k, re, by simpa using h⟩, ?_⟩
  rintro i m σ H ⟨rfl, hi, w', O, ρ, l, k, re, h⟩
  by_cases hlt : i < items.length
  · rw [List.drop_eq_getElem_cons hlt] at h
    unfold forL at h
    by_cases st : Still lk O
    · rw [if_pos st] at h
      obtain ⟨_, go⟩ := wk w' O H i l.sub l.lk k st
      obtain ⟨g1, g2⟩ := go items[i] (by simp [hlt])
      refine .inr ⟨g1, fun σ' H' => ∃ w' O ρ, w.le w' ∧ Ok ca w' O H' ∧ RepE ca w' σ' ρ ∧ PostS ca w' W Dn (forL items lk mg mb (items.drop (i + 1)) ρ O), fun σ' H' p' => ⟨items.length - (i + 1), by omega, rfl, hlt, p'⟩, fun x H' y => ?_⟩
      obtain ⟨w2, l2, k2, r2⟩ := g2 x H' y
      cases z : mg items[i] ρ with
      | none => rw [z] at h; exact h.elim
      | some ρ1 =>
        rw [z] at h
        refine sg w2 O H' σ ρ x items[i] ρ1 _ k2 (re.mono l2) r2 z fun σ2 re2 => ?_
        refine sb w2 O H' σ2 ρ1 _ k2 re2 ?_
        have h := PostS.mono l2 h
        dsimp only at h
        cases zz : mb ρ1 O with
        | nx ρ2 O2 =>
          rw [zz] at h
          exact fun σ3 w3 H3 l3 k3 re3 => ⟨w3, O2, ρ2, (l.trans l2).trans l3, k3, re3, PostS.mono l3 h⟩
        | ct ρ2 O2 =>
          rw [zz] at h
          exact fun σ3 w3 H3 l3 k3 re3 => ⟨w3, O2, ρ2, (l.trans l2).trans l3, k3, re3, PostS.mono l3 h⟩
        | bk ρ2 O2 =>
          rw [zz] at h
          exact h
        | rt d O2 =>
          rw [zz] at h
          exact h
        | exc c fs ρ2 O2 =>
          rw [zz] at h
          exact h
        | stuck =>
          rw [zz] at h
          exact h.elim
    · rw [if_neg st] at h
      exact h.elim
  · have e : i = items.length := by omega
    subst e
    rw [List.drop_length] at h
    unfold forL at h
    by_cases st : Still lk O
    · rw [if_pos st] at h
      obtain ⟨stop, _⟩ := wk w' O H items.length l.sub l.lk k st
      exact .inl ⟨stop (Nat.le_refl _), h σ w' H (Wd.le.refl _) k re⟩
    · rw [if_neg st] at h
      exact h.elim
section
variable {ca : Cn} {W : WX} {X : Cx} {tg iter : Expr} {body : List Stmt} {src : DTI} {g : DTG} {mb : DTS} {pos : Pos}
theorem ds_for (hp : PassesOwn (model X.prog X.w) X.A X.env X.xe) (hc : X.calm = true) (hi : DI ca W X tg iter src) (hg : DG ca X tg g) (hb : DSs ca W X body mb)
    (hs : ∀ x, foldedSetIterable iter X.env x = pure x := by intro _; rfl) : DS ca W X (.For tg iter body [] pos) (dFor src g mb) := by
  obtain ⟨ti, pi, si⟩ := hi
  obtain ⟨tG, pg, sg⟩ := hg
  obtain ⟨tb, pb, sb⟩ := hb
  refine ⟨_, ps_for hp hc pi pg pb hs, fun w O H σ ρ Dn k re h => ?_⟩
  refine si w O H σ ρ _ k re (PostI.bindS re h fun items lk O1 J w1 H1 l1 k1 st wk h1 => ?_)
  exact for_run sg sb k1 (re.mono l1) wk h1
end

/-! ### while -/
def whileN (c : DTT) (body : DTS) : Nat → Env' → Sto → Out
  | 0, _, _ => .stuck
  | n + 1, ρ, O => (c ρ O).bindS ρ fun k O1 => if k = true then (match body ρ O1 with
    | .nx ρ2 O2 => whileN c body n ρ2 O2
    | .ct ρ2 O2 => whileN c body n ρ2 O2
    | .bk ρ2 O2 => .nx ρ2 O2
    | r => r) else .nx ρ O1
theorem whileN_succ (c : DTT) (body : DTS) : ∀ (n : Nat) (ρ : Env') (O : Sto), whileN c body n ρ O ≠ .stuck → whileN c body (n + 1) ρ O = whileN c body n ρ O
  | 0, _, _, h => absurd rfl h
  | n + 1, ρ, O, h => by
    have ih := whileN_succ c body n
    rw [whileN] at h ⊢
    conv => rhs; rw [whileN]
    cases z : c ρ O with
    | ok k O1 =>
      rw [z] at h
      simp only [ResB.bindS] at h ⊢
      cases k with
      | false => rfl
      | true =>
        simp only [if_true] at h ⊢
        cases zz : body ρ O1 with
        | nx ρ2 O2 =>
          rw [zz] at h
          exact ih ρ2 O2 h
        | ct ρ2 O2 =>
          rw [zz] at h
          exact ih ρ2 O2 h
        | _ => rfl
    | _ => rfl
theorem whileN_le (c : DTT) (body : DTS) {n m : Nat} (hm : n ≤ m) (ρ : Env') (O : Sto) (h : whileN c body n ρ O ≠ .stuck) : whileN c body m ρ O = whileN c body n ρ O := by
  induction m with
  | zero =>
    obtain rfl : n = 0 := by omega
    rfl
  | succ m ih =>
    by_cases e : n = m + 1
    · subst e; rfl
    · have h1 := ih (by omega)
      rw [whileN_succ c body m ρ O (by rw [h1]; exact h), h1]
open Classical in
noncomputable def dWhile (c : DTT) (body : DTS) : DTS := fun ρ O => if h : ∃ n, whileN c body n ρ O ≠ .stuck then whileN c body (Classical.choose h) ρ O else .stuck
theorem dWhile_of {c : DTT} {body : DTS} {n : Nat} {ρ : Env'} {O : Sto} {r : Out} (h : whileN c body n ρ O = r) (hr : r ≠ .stuck) : dWhile c body ρ O = r := by
  subst h
  have hh : ∃ n, whileN c body n ρ O ≠ .stuck := ⟨n, hr⟩
  unfold dWhile
  rw [dif_pos hh]
  have h2 := Classical.choose_spec hh
  rcases Nat.le_total n (Classical.choose hh) with l | l
  · exact whileN_le c body l ρ O hr
  · exact (whileN_le c body l ρ O h2).symm
section
variable {ca : Cn} {W : WX} {X : Cx} {c : Expr} {body : List Stmt} {mc : DTT} {mb : DTS} {pos : Pos}
theorem ds_while (hp : PassesOwn (model X.prog X.w) X.A X.env X.xe) (hc : DT ca W X c mc) (hb : DSs ca W X body mb) : DS ca W X (.While c body [] pos) (dWhile mc mb) := by
  obtain ⟨tc, pc, sc⟩ := hc
  obtain ⟨tb, pb, sb⟩ := hb
  refine ⟨_, ps_while hp pc pb, fun w O H σ ρ Dn k re h => ?_⟩
  have h0 : ∃ n, PostS ca w W Dn (whileN mc mb n ρ O) := by
    unfold dWhile at h
    by_cases hh : ∃ n, whileN mc mb n ρ O ≠ .stuck
    · rw [dif_pos hh] at h
      exact ⟨_, h⟩
    · rw [dif_neg hh] at h
      exact h.elim
  obtain ⟨n, h0⟩ := h0
  refine ⟨fun m σ H => ∃ w' O ρ, w.le w' ∧ Ok ca w' O H ∧ RepE ca w' σ ρ ∧ PostS ca w' W Dn (whileN mc mb m ρ O), ⟨n, w, O, ρ, Wd.le.refl w, k, re, h0⟩, ?_⟩
  rintro m σ H ⟨w', O, ρ, l, k, re, h⟩
  cases m with
  | zero => exact h.elim
  | succ m =>
    rw [whileN] at h
    refine sc w' O H σ ρ _ k re (PostB.bindS re h fun b O1 w1 H1 l1 k1 h1 => ?_)
    cases b with
    | false =>
      rw [if_neg (fun z => nomatch z)] at h1 ⊢
      exact h1 σ w1 H1 (Wd.le.refl _) k1 (re.mono l1)
    | true =>
      rw [if_pos rfl] at h1 ⊢
      refine ⟨fun σ' H' => ∃ w' O ρ, w.le w' ∧ Ok ca w' O H' ∧ RepE ca w' σ' ρ ∧ PostS ca w' W Dn (whileN mc mb m ρ O), fun σ' H' p => ⟨m, Nat.lt_succ_self m, p⟩, ?_⟩
      refine sb w1 O1 H1 σ ρ _ k1 (re.mono l1) ?_
      cases zz : mb ρ O1 with
      | nx ρ2 O2 =>
        rw [zz] at h1
        exact fun σ3 w3 H3 l3 k3 re3 => ⟨w3, O2, ρ2, (l.trans l1).trans l3, k3, re3, PostS.mono l3 h1⟩
      | ct ρ2 O2 =>
        rw [zz] at h1
        exact fun σ3 w3 H3 l3 k3 re3 => ⟨w3, O2, ρ2, (l.trans l1).trans l3, k3, re3, PostS.mono l3 h1⟩
      | bk ρ2 O2 =>
        rw [zz] at h1
        exact h1
      | rt d O2 =>
        rw [zz] at h1
        exact h1
      | exc c fs ρ2 O2 =>
        rw [zz] at h1
        exact h1
      | stuck =>
        rw [zz] at h1
        exact h1.elim
end
end Yk

set_option Elab.async false
set_option linter.all false
set_option maxRecDepth 100000
set_option maxHeartbeats 1000000
/-! Yk: comprehensions, defs, calls, what is walked. -/
namespace Yk
open PySem L2

/-! ### comprehensions -/
theorem wipe_at (σ : L2.St) (j : Nat) : ∀ vs : List Nat, (wipe σ vs)[j]? = if j ∈ vs ∧ j < σ.length then some none else σ[j]?
  | [] => by simp [wipe]
  | v :: vs => by
    unfold wipe
    have ih := wipe_at σ j vs
    by_cases e : v = j
    · subst e
      by_cases hl : v < σ.length
      · rw [List.getElem?_set_self (by rw [wipe_length]; exact hl)]
        simp [hl]
      · rw [List.getElem?_eq_none (by simp [wipe_length]; omega)]
        rw [if_neg (by simp [hl]), List.getElem?_eq_none (by omega)]
    · rw [List.getElem?_set_ne e, ih]
      by_cases h : j ∈ vs ∧ j < σ.length
      · rw [if_pos h, if_pos ⟨List.mem_cons_of_mem _ h.1, h.2⟩]
      · rw [if_neg h, if_neg (fun q => h ⟨by
          rcases List.mem_cons.mp q.1 with z | z
          · exact absurd z.symm e
          · exact z, q.2⟩)]
theorem wipe_set {σ : L2.St} {i : Nat} {v : Option V} {vs : List Nat} (h : i ∈ vs) : wipe (σ.set i v) vs = wipe σ vs := by
  apply List.ext_getElem?
  intro j
  rw [wipe_at, wipe_at, List.length_set]
  by_cases e : j ∈ vs ∧ j < σ.length
  · rw [if_pos e, if_pos e]
  · rw [if_neg e, if_neg e]
    by_cases ij : i = j
    · subst ij
      have hl : ¬ i < σ.length := fun q => e ⟨h, q⟩
      rw [List.getElem?_eq_none (by simp; omega), List.getElem?_eq_none (by omega)]
    · rw [List.getElem?_set_ne ij]
theorem wipe_wipe (σ : L2.St) (vs : List Nat) : wipe (wipe σ vs) vs = wipe σ vs := by
  apply List.ext_getElem?
  intro j
  rw [wipe_at, wipe_length]
  by_cases e : j ∈ vs ∧ j < σ.length
  · rw [if_pos e, wipe_at, if_pos e]
  · rw [if_neg e]
def wipeD (ρ : Env') : List Nat → Env'
  | [] => ρ
  | v :: vs => (wipeD ρ vs).set v none
theorem wipeD_length (ρ : Env') : ∀ vs : List Nat, (wipeD ρ vs).length = ρ.length
  | [] => rfl
  | v :: vs => by unfold wipeD; rw [List.length_set, wipeD_length ρ vs]
theorem wipeD_some {ρ : Env'} {i : Nat} {x : D} : ∀ {vs : List Nat}, (wipeD ρ vs)[i]? = some (some x) → ρ[i]? = some (some x) ∧ i ∉ vs
  | [], h => ⟨h, by simp⟩
  | v :: vs, h => by
    unfold wipeD at h
    by_cases hi : v = i
    · subst hi
      by_cases hv : v < (wipeD ρ vs).length
      · rw [List.getElem?_set_self hv] at h; cases h
      · rw [List.getElem?_eq_none (by simpa using hv)] at h; cases h
    · rw [List.getElem?_set_ne hi] at h
      obtain ⟨h1, h2⟩ := wipeD_some h
      exact ⟨h1, by simp only [List.mem_cons, not_or]; exact ⟨fun e => hi e.symm, h2⟩⟩
theorem RepE.wipe {ca : Cn} {w : Wd} {σ : L2.St} {ρ : Env'} (re : RepE ca w σ ρ) (vs : List Nat) : RepE ca w (L2.wipe σ vs) (wipeD ρ vs) := by
  refine ⟨by rw [wipe_length, wipeD_length, re.1], fun i d e => ?_⟩
  obtain ⟨h1, h2⟩ := wipeD_some e
  obtain ⟨v, h3, h4⟩ := re.2 i d h1
  exact ⟨v, by rw [wipe_at, if_neg (fun q => h2 q.1)]; exact h3, h4⟩
/-- a target that stores at vs alone -/
def SndGw (ca : Cn) (g : TG) (m : DTG) (vs : List Nat) : Prop := ∀ w O H σ ρ v d ρ' (Q : L2.St → Hp → Prop), Ok ca w O H → RepE ca w σ ρ → Rep ca w v d → m d ρ = some ρ' → (∀ σ', RepE ca w σ' ρ' → L2.wipe σ' vs = L2.wipe σ vs → Q σ' H) → g v σ H Q
def SndGsw (ca : Cn) (g : TGs) (m : DTGs) (n : Nat) (vs : List Nat) : Prop := (∀ d ρ ρ', m d ρ = some ρ' → d.length = n) ∧ ∀ w O H σ ρ v d ρ' (Q : L2.St → Hp → Prop), Ok ca w O H → RepE ca w σ ρ → RepL ca w v d → m d ρ = some ρ' → (∀ σ', RepE ca w σ' ρ' → L2.wipe σ' vs = L2.wipe σ vs → Q σ' H) → g v σ H Q
/-- in the contexts that a block has -/
def DGw (ca : Cn) (CC : Cx → Prop) (vs : List Nat) (e : Expr) (m : DTG) : Prop := ∃ g, (∀ X, CC X → PG X e g) ∧ SndGw ca g m vs
def DGsw (ca : Cn) (CC : Cx → Prop) (vs : List Nat) (e : List Expr) (m : DTGs) : Prop := ∃ g, (∀ X, CC X → PGs X e g) ∧ SndGsw ca g m e.length vs
section
variable {ca : Cn} {CC : Cx → Prop} {vs : List Nat} {e : Expr} {es : List Expr} {g : DTG} {gs : DTGs} {pos : Pos}
theorem dgw_name {i : Nat} {x : Str} (h : ∀ X, CC X → PG X (.Name x pos) (gName i)) (hi : i ∈ vs := by decide) : DGw ca CC vs (.Name x pos) (gN i) :=
  ⟨_, h, fun w O H σ ρ v d ρ' Q k re r e h => by
    cases e
    exact h _ (re.set r) (wipe_set hi)⟩
theorem dgsw_nil : DGsw ca CC vs [] gNilD := by
  refine ⟨gNil, fun X _ => pgs_nil, fun d ρ ρ' e => ?_, fun w O H σ ρ v d ρ' Q k re r e h => ?_⟩
  · cases d with
    | nil => rfl
    | cons _ _ => cases e
  · cases r with
    | nil =>
      cases e
      exact ⟨rfl, h σ re rfl⟩
    | cons _ _ => cases e
theorem dgsw_cons (h1 : DGw ca CC vs e g) (h2 : DGsw ca CC vs es gs) (ha : ∀ X, CC X → (assignEach (e :: es) X.env).map (·.2) = assign e X.env :: (assignEach es X.env).map (·.2) := by intro _ _; rfl) : DGsw ca CC vs (e :: es) (gConsD g gs) := by
  obtain ⟨t, pt, sp⟩ := h1
  obtain ⟨u, pu, lu, su⟩ := h2
  refine ⟨_, fun X c => pgs_cons (pt X c) (pu X c) (ha X c), fun d ρ ρ' e => ?_, fun w O H σ ρ v d ρ' Q k re r e h => ?_⟩
  · cases d with
    | nil => cases e
    | cons d ds =>
      obtain ⟨ρ1, _, e2⟩ := gCons_some e
      rw [List.length_cons, List.length_cons, lu ds ρ1 ρ' e2]
  · cases r with
    | nil => cases e
    | @cons v d vs ds r1 r2 =>
      obtain ⟨ρ1, e1, e2⟩ := gCons_some e
      exact ⟨v, vs, rfl, sp w O H σ ρ v d ρ1 _ k re r1 e1 fun σ' re' z => su w O H σ' ρ1 vs ds ρ' Q k re' r2 e2 fun σ2 re2 z2 => h σ2 re2 (z2.trans z)⟩
/-- K is that of all contexts of the block -/
theorem dgw_tup {x1 : Nat} {K : PySem.W.Frag} (hK : ∀ X, CC X → X.K = K) (hc : ∀ X, CC X → X.calm = true) (h : DGsw ca CC vs es gs) (hn : ∀ X, CC X → (assignEach es X.env).length = es.length := by intro _ _; rfl) (hst : ∀ X, CC X → (assignEach es X.env).findIdx? (·.1) = none := by intro _ _; rfl) : DGw ca CC vs (.Tuple es x1 pos) (gT gs) := by
  obtain ⟨u, pu, lu, su⟩ := h
  refine ⟨gTup K es.length u, fun X c => hK X c ▸ pg_tup (n := es.length) (hc X c) (pu X c) (hn X c) (hst X c), fun w O H σ ρ v d ρ' Q k re r e h => ?_⟩
  unfold gT at e
  split at e
  · rename_i ds
    cases r with
    | tup hF rl =>
      exact ⟨_, _, rfl, .inl (.inl (k.ext.tup hF)), rl.length.trans (lu _ _ _ e), su w O H σ ρ _ _ ρ' Q k re rl e h⟩
  · cases e
end
open Classical in
noncomputable def compL (items : List D) (lk : Option (Nat × OD)) (g : DTG) (tst : DTT) (elt : DTE) (ρ : Env') : List D → List D → Sto → ResL
  | [], acc, O => if Still lk O then .ok acc O else .stuck
  | x :: xs, acc, O => if Still lk O then (match g x ρ with
    | none => .stuck
    | some ρ1 => match tst ρ1 O with
      | .ok true O1 => (match elt ρ1 O1 with
        | .ok y O2 => if acc.length < 1000000 then compL items lk g tst elt ρ xs (acc ++ [y]) O2 else .stuck
        | _ => .stuck)
      | .ok false O1 => compL items lk g tst elt ρ xs acc O1
      | _ => .stuck) else .stuck
def ResI.bindL (r : ResI) (k : List D → Option (Nat × OD) → Sto → ResL) : ResL := match r with
  | .ok d lk O => k d lk O
  | .exc c fs O => .exc c fs O
  | .stuck => .stuck
noncomputable def dLc (own : Bool) (vs : List Nat) (src : DTI) (g : DTG) (tst : DTT) (elt : DTE) : DTE := fun ρ O =>
  ((src ρ O).bindL fun items lk O1 => compL items lk g tst elt (wipeD ρ vs) items [] O1).bind fun ds O2 => mkL own ds O2
abbrev W0 : WX := fun _ _ _ _ => False
theorem comp_run {ca : Cn} {W : WX} {J : It} {g : TG} {mg : DTG} {tt : TT} {mt : DTT} {te : TE} {me : DTE} {vs : List Nat} {own : Bool} (sg : SndGw ca g mg vs) (st : SndT ca W0 tt mt) (se : SndE ca W0 te me) {w : Wd} {items : List D} {lk : Option (Nat × OD)} {O : Sto} {H : Hp} {σ : L2.St} {ρ : Env'} {Q : VK}
    (k : Ok ca w O H) (re : RepE ca w σ ρ) (wk : Walks ca J w items lk) (h : Post ca w W σ Q ((compL items lk mg mt me (wipeD ρ vs) items [] O).bind fun ds O2 => mkL own ds O2)) {D : Addr} (hD : H D = none) :
    ∃ W' : Nat → Nat → Hp → Prop, (∃ m, W' 0 m (upd H D (.lst []))) ∧ ∀ i m H, W' i m H →
      (J.stop i H ∧ Q (.ref D) H) ∨ (J.go i H ∧ ∃ Nx : Hp → Prop, (∀ H', Nx H' → ∃ m', m' < m ∧ W' (i + 1) m' H') ∧ ∀ x H', J.yld i H x H' → g x (L2.wipe σ vs) H' fun σ2 H2 => L2.wipe σ2 vs = L2.wipe σ vs ∧ tt σ2 H2 fun b H3 =>
        if b = true then te σ2 H3 fun y H4 => ∃ acc, H4 D = some (.lst acc) ∧ acc.length < sizeLine ∧ Nx (upd H4 D (.lst (acc ++ [y]))) else Nx H3) := by
  refine ⟨fun i m H => m = items.length - i ∧ i ≤ items.length ∧ ∃ w' O acc av, w.sub w' ∧ w'.pv = upd w.pv D (.lst av) ∧ w'.lk = w.lk ∧ Ok ca w' O H ∧ RepL ca w' av acc ∧ Post ca w W σ Q ((compL items lk mg mt me (wipeD ρ vs) (items.drop i) acc O).bind fun ds O2 => mkL own ds O2),
    ⟨items.length, by simp, Nat.zero_le _, w.hid D (.lst []), O, [], [], Wd.hid_sub, rfl, rfl, k.hide hD, .nil, by simpa using h⟩, ?_⟩
  have hpv := k.pvFree hD
  rintro i m H ⟨rfl, hi, w', O, acc, av, l, pve, lke, k, ra, h⟩
  by_cases hlt : i < items.length
  · rw [List.drop_eq_getElem_cons hlt] at h
    unfold compL at h
    by_cases sl : Still lk O
    · rw [if_pos sl] at h
      obtain ⟨_, go⟩ := wk w' O H i l lke k sl
      obtain ⟨g1, g2⟩ := go items[i] (by simp [hlt])
      refine .inr ⟨g1, fun H' => ∃ w' O acc av, w.sub w' ∧ w'.pv = upd w.pv D (.lst av) ∧ w'.lk = w.lk ∧ Ok ca w' O H' ∧ RepL ca w' av acc ∧ Post ca w W σ Q ((compL items lk mg mt me (wipeD ρ vs) (items.drop (i + 1)) acc O).bind fun ds O2 => mkL own ds O2), fun H' p' => ⟨items.length - (i + 1), by omega, rfl, hlt, p'⟩, fun x H' y => ?_⟩
      obtain ⟨w2, l2, k2, r2⟩ := g2 x H' y
      have sub2 : w.sub w2 := ⟨fun a u e => l2.F _ _ (l.F _ _ e), fun n a e => l2.ad _ _ (l.ad _ _ e), l.cx.trans l2.cx⟩
      have rw2 : RepE ca w2 (L2.wipe σ vs) (wipeD ρ vs) := (re.wipe vs).mono' sub2
      cases z : mg items[i] (wipeD ρ vs) with
      | none => rw [z] at h; exact h.elim
      | some ρ1 =>
        rw [z] at h
        dsimp only at h
        refine sg w2 O H' _ _ x items[i] ρ1 _ k2 rw2 r2 z fun σ2 re2 wz => ⟨by rw [wz, wipe_wipe], ?_⟩
        refine st w2 O H' σ2 ρ1 _ k2 re2 ?_
        cases z1 : mt ρ1 O with
        | ok b O1 =>
          rw [z1] at h
          intro w3 H3 l3 k3
          have sub3 : w.sub w3 := ⟨fun a u e => l3.F _ _ (sub2.F _ _ e), fun n a e => l3.ad _ _ (sub2.ad _ _ e), sub2.cx.trans l3.cx⟩
          cases b with
          | false =>
            rw [if_neg (fun z => nomatch z)]
            exact ⟨w3, O1, acc, av, sub3, by rw [l3.pv, l2.pv, pve], by rw [l3.lk, l2.lk, lke], k3, (ra.mono l2).mono l3, h⟩
          | true =>
            rw [if_pos rfl]
            dsimp only at h
            refine se w3 O1 H3 σ2 ρ1 _ k3 (re2.mono l3) ?_
            cases z2 : me ρ1 O1 with
            | ok y O2 =>
              rw [z2] at h
              dsimp only at h
              by_cases hl : acc.length < 1000000
              · rw [if_pos hl] at h
                intro v w4 H4 l4 k4 r4
                have sub4 : w.sub w4 := ⟨fun a u e => l4.F _ _ (sub3.F _ _ e), fun n a e => l4.ad _ _ (sub3.ad _ _ e), sub3.cx.trans l4.cx⟩
                have ra4 : RepL ca w4 av acc := ((ra.mono l2).mono l3).mono l4
                have pv4 : w4.pv = upd w.pv D (.lst av) := by rw [l4.pv, l3.pv, l2.pv, pve]
                have pvD : w4.pv D = some (.lst av) := by rw [pv4]; exact upd_same
                refine ⟨av, (k4.prv D _ pvD).1, by rw [ra4.length]; exact Nat.lt_of_lt_of_le hl (by decide), ⟨w4.F, w4.ad, upd w4.pv D (.lst (av ++ [v])), w4.lk, w4.cx⟩, O2, acc ++ [y], av ++ [v], ⟨sub4.F, sub4.ad, sub4.cx⟩, by rw [pv4, upd_upd], by show w4.lk = w.lk; rw [l4.lk, l3.lk, l2.lk, lke], k4.rehide pvD rfl, ?_, h⟩
                exact RepL.mono' (w := w4) (w' := ⟨w4.F, w4.ad, upd w4.pv D (.lst (av ++ [v])), w4.lk, w4.cx⟩) ⟨fun _ _ h => h, fun _ _ h => h, .refl _⟩ (ra4.append (.cons r4 .nil))
              · rw [if_neg hl] at h
                exact h.elim
            | exc c fs O2 => rw [z2] at h; exact h.elim
            | stuck => rw [z2] at h; exact h.elim
        | exc c fs O2 => rw [z1] at h; exact h.elim
        | stuck => rw [z1] at h; exact h.elim
    · rw [if_neg sl] at h
      exact h.elim
  · have e : i = items.length := by omega
    subst e
    rw [List.drop_length] at h
    unfold compL at h
    by_cases sl : Still lk O
    · rw [if_pos sl] at h
      obtain ⟨stop, _⟩ := wk w' O H items.length l lke k sl
      refine .inl ⟨stop (Nat.le_refl _), ?_⟩
      obtain ⟨k2, hDH, hF, hA⟩ := k.unhide pve hpv
      have ra2 : RepL ca ⟨w'.F, w'.ad, w.pv, w'.lk, w'.cx⟩ av acc := RepL.mono' (w := w') (w' := ⟨w'.F, w'.ad, w.pv, w'.lk, w'.cx⟩) ⟨fun _ _ h => h, fun _ _ h => h, .refl _⟩ ra
      have h : Post ca w W σ Q (mkL own acc O) := h
      cases own with
      | true =>
        exact h _ _ _ (Wd.le.trans (b := ⟨w'.F, w'.ad, w.pv, w'.lk, w'.cx⟩) ⟨l.F, l.ad, rfl, lke, l.cx⟩ Wd.add_le) (k2.join hDH hF hA hpv (.lst ra2)) (.loc (Wd.add_at k2))
      | false =>
        have k3 := k2.adopt hDH (.inl hF) hpv fun n o e => absurd (List.mem_of_getElem? e) hA
        exact h _ _ _ (Wd.le.trans (b := ⟨w'.F, w'.ad, w.pv, w'.lk, w'.cx⟩) ⟨l.F, l.ad, rfl, lke, l.cx⟩ (Wd.frz_le (.inl hF))) k3 (.lst Wd.frz_at (RepL.mono (w := ⟨w'.F, w'.ad, w.pv, w'.lk, w'.cx⟩) (w' := Wd.frz ⟨w'.F, w'.ad, w.pv, w'.lk, w'.cx⟩ D (.lst av)) (Wd.frz_le (.inl hF)) ra2))
    · rw [if_neg sl] at h
      exact h.elim
/-- the contexts of a comprehension's block -/
def Blk (X : Cx) (scope : Scope) : Cx → Prop := fun Y => ∃ (s : Shared) (H : Hp) (C : Addr) (cl : List (Str × Addr)) (fp : List Addr), Y = X.blk s H scope (compEnvC scope cl C X.env) fp
def DTb (ca : Cn) (CC : Cx → Prop) (ifs : List Expr) (m : DTT) : Prop := ∃ t, (∀ X, CC X → PTs X ifs t) ∧ SndT ca W0 t m
def DEb (ca : Cn) (CC : Cx → Prop) (e : Expr) (m : DTE) : Prop := ∃ t, (∀ X, CC X → PE X e t) ∧ SndE ca W0 t m
def dYes : DTT := fun _ O => .ok true O
section
variable {ca : Cn} {W : WX} {X : Cx} {tg iter elt : Expr} {ifs : List Expr} {scope : Scope} {own : List (Str × Nat)} {src : DTI} {g : DTG} {mt : DTT} {me : DTE} {pos : Pos}
theorem dtb_nil {CC : Cx → Prop} : DTb ca CC [] dYes := ⟨_, fun X _ => pts_nil, fun w O H σ ρ Q k re h => h w H (Wd.le.refl w) k⟩
theorem de_lc (ow : Bool) (hc : X.calm = true) (hN : X.N.Nodup) (hi : DI ca W X tg iter src) (ok : BlkOk X.N X.env.scope scope own) (hg : DGw ca (Blk X scope) (own.map (·.2)) tg g) (ht : DTb ca (Blk X scope) ifs mt) (he : DEb ca (Blk X scope) elt me)
    (hs : ∀ x, foldedSetIterable iter X.env x = pure x := by intro _; rfl) : DE ca W X (.ListComp elt [⟨tg, iter, ifs, 0⟩] scope pos) (dLc ow (own.map (·.2)) src g mt me) := by
  obtain ⟨ti, pi, si⟩ := hi
  obtain ⟨tG, pg, sg⟩ := hg
  obtain ⟨tt, pt, st⟩ := ht
  obtain ⟨te, pe, se⟩ := he
  refine ⟨_, pe_lc hc hN pi ok (fun s H C cl fp => pg _ ⟨s, H, C, cl, fp, rfl⟩) (fun s H C cl fp => pt _ ⟨s, H, C, cl, fp, rfl⟩) (fun s H C cl fp => pe _ ⟨s, H, C, cl, fp, rfl⟩) hs, fun w O H σ ρ Q k re h => ?_⟩
  refine si w O H σ ρ _ k re ?_
  unfold dLc at h
  cases z : src ρ O with
  | ok items lk O1 =>
    rw [z] at h
    exact fun J w1 H1 l1 k1 sl wk D hD => comp_run sg st se k1 (re.mono l1) wk (Post.mono l1 h) hD
  | exc c fs O1 => rw [z] at h; exact h
  | stuck => rw [z] at h; exact h
/-- name = [..] on one line -/
theorem ds_setLc {i : Nat} {y : Str} {py spos : Pos} (ow : Bool) (hc : X.calm = true) (hN : X.N.Nodup) (hy : X.N[i]? = some y) (hyl : X.env.scope.names.lookup y = some .local)
    (hsw : swapsWith (.ListComp elt [⟨tg, iter, ifs, 0⟩] scope pos) (some (.Name y py)) spos.line X.env = pure true) (hi : DI ca W X tg iter src) (ok : BlkOk X.N X.env.scope scope own) (hg : DGw ca (Blk X scope) (own.map (·.2)) tg g) (ht : DTb ca (Blk X scope) ifs mt) (he : DEb ca (Blk X scope) elt me)
    (hs : ∀ x, foldedSetIterable iter X.env x = pure x := by intro _; rfl) : DS ca W X (.Assign [.Name y py] (.ListComp elt [⟨tg, iter, ifs, 0⟩] scope pos) spos) (dSet i (dLc ow (own.map (·.2)) src g mt me)) := by
  obtain ⟨ti, pi, si⟩ := hi
  obtain ⟨tG, pg, sg⟩ := hg
  obtain ⟨tt, pt, st⟩ := ht
  obtain ⟨te, pe, se⟩ := he
  refine ⟨_, ps_setLc hc hN hy hyl hsw pi ok (fun s H C cl fp => pg _ ⟨s, H, C, cl, fp, rfl⟩) (fun s H C cl fp => pt _ ⟨s, H, C, cl, fp, rfl⟩) (fun s H C cl fp => pe _ ⟨s, H, C, cl, fp, rfl⟩) hs, fun w O H σ ρ Dn k re h => ?_⟩
  have hE : SndE ca W (tLc ti tG tt te (own.map (·.2))) (dLc ow (own.map (·.2)) src g mt me) := fun w O H σ ρ Q k re h => by
    refine si w O H σ ρ _ k re ?_
    unfold dLc at h
    cases z : src ρ O with
    | ok items lk O1 =>
      rw [z] at h
      exact fun J w1 H1 l1 k1 sl wk D hD => comp_run sg st se k1 (re.mono l1) wk (Post.mono l1 h) hD
    | exc c fs O1 => rw [z] at h; exact h
    | stuck => rw [z] at h; exact h
  refine hE w O H σ ρ _ k re (Post.bindS re h fun d O1 v w1 H1 l1 k1 r1 h1 => ?_)
  exact h1 _ w1 H1 (Wd.le.refl _) k1 ((re.mono l1).set r1)
end

/-! ### defs and calls -/
/-- a def's promise: what fm says -/
def spD (ca : Cn) (n : Nat) (fm : List D → Sto → Res) : Sp := fun vs H Q E => ∃ w O ds, Ok ca w O H ∧ RepL ca w vs ds ∧ vs.length = n ∧ Post ca w (fun cv dx _ H => E cv dx H) [] Q (fm ds O)
/-- a body's end -/
def Out.res (r : Out) : Res := match r with
  | .nx _ O => .ok .non O
  | .rt d O => .ok d O
  | .exc c fs _ O => .exc c fs O
  | _ => .stuck
def startD (n : Nat) (ds : List D) : Env' := ds.map some ++ List.replicate (n - ds.length) none
theorem RepL.start {ca : Cn} {w : Wd} {vs : List V} {ds : List D} (N : List Str) (r : RepL ca w vs ds) : RepE ca w (L2.start N vs) (startD N.length ds) := by
  have hl := r.length
  refine ⟨by simp [L2.start, startD, hl], fun i d e => ?_⟩
  unfold startD at e
  by_cases hi : i < ds.length
  · rw [List.getElem?_append_left (by simpa using hi)] at e
    rw [List.getElem?_map] at e
    cases q : ds[i]? with
    | none => rw [q] at e; cases e
    | some d' =>
      rw [q] at e
      cases e
      obtain ⟨v, h1, h2⟩ := r.getD q
      refine ⟨v, ?_, h2⟩
      unfold L2.start
      rw [List.getElem?_append_left (by simpa [hl] using hi), List.getElem?_map, h1]
      rfl
  · rw [List.getElem?_append_right (by simpa using hi)] at e
    have := List.mem_of_getElem? e
    rw [List.mem_replicate] at this
    exact nomatch this.2
/-- what is raised is wished for -/
def Tk (X : Cx) (W : WX) : Prop := ∀ σ, PassesAt (L2.CX X.prog X.w) X σ (WE W σ)
theorem tk_of {X : Cx} {W : WX} (t : Takes X W) : Tk X W := fun σ => passAt t σ
theorem tk_0 {X : Cx} : Tk X W0 := fun σ pins H s e s' I c => by
  obtain ⟨_, _, _, _, _, _, _, _, _, _, _, _, z⟩ := c
  exact z.elim
def dCall (fm : List D → Sto → Res) (dfs : List D) (a : DTA) : DTE := fun ρ O => (a ρ O).bind fun xs O1 => fm (xs ++ dfs) O1
section
variable {ca : Cn} {P : Program} {w : World} {K : PySem.W.Frag} {mg : Str → Option Value} {base : Heap}
theorem fn_ok {x qual : Str} {st : Stmt} {f : Addr} {fd : FuncData} {N ps : List Str} {k n : Nat} (F : Fun K x qual st f fd) (S : FnScope N ps (defScope st)) (hn : ps.length = n) {m : DTS}
    (hbody : ∀ (cdv : Value) (A : Around) (outer : List Env) (s : Shared) (H : Hp) (E : XK), Room k (A.deeper (PyProof.Rows.envOfC qual (defScope st) s.heap.objs.size f cdv)) →
      DSs ca (fun cv dx _ H => E cv dx H) (cxOf (L2.CX P w) P w K mg base N qual (defScope st) f cdv A outer s H E) (defBody st) m) :
    FnOk P w K mg base (L2.CX P w) (k + 1) f fd ps (spD ca n fun ds O => (m (startD N.length ds) O).res) := by
  refine F.okX S (fun vs H Q E h => ?_) (fun cdv A outer s H vs Q E hr h => ?_)
  · obtain ⟨_, _, _, _, _, e, _⟩ := h
    rw [e, hn]
  · obtain ⟨w0, O, ds, k0, r, _, h⟩ := h
    obtain ⟨t, pt, sp⟩ := hbody cdv A outer s H E hr
    refine ⟨t, pt, sp w0 O H _ (startD N.length ds) _ k0 (r.start N) ?_⟩
    have h : Post ca w0 (fun cv dx _ H => E cv dx H) [] Q (m (startD N.length ds) O).res := h
    cases z : m (startD N.length ds) O with
    | nx ρ O1 => rw [z] at h; exact fun σ' w1 H1 l1 k1 _ => h .non w1 H1 l1 k1 .non
    | rt d O1 => rw [z] at h; exact fun v w1 H1 l1 k1 r1 => h v w1 H1 l1 k1 r1
    | exc c fs ρ O1 => rw [z] at h; exact fun cv dx σ' w1 H1 l1 k1 _ x => h cv dx w1 H1 l1 k1 x
    | bk ρ O1 => rw [z] at h; exact h.elim
    | ct ρ O1 => rw [z] at h; exact h.elim
    | stuck => rw [z] at h; exact h.elim
end
section
variable {ca : Cn} {W : WX} {X : Cx} {k n : Nat} {f : Addr} {fd : FuncData} {ps : List Str} {fm : List D → Sto → Res} {x : Str} {p pos : Pos} {e : Expr} {es : List Expr} {ma : DTA} {ds : List Value} {dvs : List V} {dfs : List D}
theorem de_call (F : FnOk X.prog X.w X.K X.mg X.base (L2.CX X.prog X.w) k f fd ps (spD ca n fm)) (hr : Room k X.A) (hg : Gl X x) (hm : X.mg x = some (.ref f)) (hk : PySem.W.keepIn X.K (.ref f) = true) (hb : Binds X.K fd ps ds) (hd : Vals dvs ds) (hD : ∀ w, RepL ca w dvs dfs)
    (hx : Tk X W) (hn : ∀ ρ O xs O1, ma ρ O = .ok xs O1 → (xs ++ dfs).length = n) (ha : DA ca W X (e :: es) ma) (hdb : (x == ("__debug__" : Str)) = false := by decide) (he : starEach (e :: es) X.env = (false, eval e X.env) :: starEach es X.env := by rfl) (hpl : (backTo pos (starEach es X.env)).any (·.1) = false := by rfl) :
    DE ca W X (.Call (.Name x p) (e :: es) [] pos) (dCall fm dfs ma) := by
  obtain ⟨ta, pa, sa⟩ := ha
  refine ⟨_, pe_callSD (E := WE W) F hr hg hm hk hb hd hx pa hdb he hpl, fun w O H σ ρ Q k re h => ?_⟩
  unfold dCall at h
  refine sa w O H σ ρ _ k re ?_
  cases z : ma ρ O with
  | ok xs O1 =>
    rw [z] at h
    intro vs w1 H1 l1 k1 r1
    have r2 := r1.append (hD w1)
    refine ⟨w1, O1, xs ++ dfs, k1, r2, by rw [r2.length]; exact hn _ _ _ _ z, ?_⟩
    have h2 : Post ca w1 W σ Q (fm (xs ++ dfs) O1) := Post.mono l1 h
    revert h2
    cases fm (xs ++ dfs) O1 with
    | ok d O2 => exact fun h => h
    | exc c fs O2 => exact fun h => h
    | stuck => exact fun h => h
  | exc c fs O1 => rw [z] at h; exact h
  | stuck => rw [z] at h; exact h
end

/-! ### what is walked -/
def srcSeq (m : DTE) : DTI := fun ρ O => (m ρ O).bindI fun d O1 => match d with
  | .lst ds => .ok ds none O1
  | .scr ns => .ok (ns.map D.int) none O1
  | .tup ds => .ok ds none O1
  | .str s => .ok (s.cps.toList.map fun c => .str ⟨#[c]⟩) none O1
  | .loc n => match O1[n]? with
    | some (.lst ds) => .ok ds (some (n, .lst ds)) O1
    | _ => .stuck
  | _ => .stuck
def rangeD (lo : Int) (n : Nat) : List D := (List.range n).map fun (i : Nat) => D.int (lo + (i : Int))
def srcRng (m : DTA) : DTI := fun ρ O => (m ρ O).bindI fun ds O1 => match ds with
  | [.int j] => if -(2 ^ 62) ≤ j ∧ j < 2 ^ 62 then .ok (rangeD 0 j.toNat) none O1 else .stuck
  | [.int i, .int j] => if (-(2 ^ 62) ≤ i ∧ i < 2 ^ 62) ∧ (-(2 ^ 62) ≤ j ∧ j < 2 ^ 62) then .ok (rangeD i (j - i).toNat) none O1 else .stuck
  | _ => .stuck
section
variable {ca : Cn} {w : Wd} {K : PySem.W.Frag}
theorem walks_list {a : Addr} {vs : List V} {ds : List D} (h : w.F a = some (.lst vs)) (r : RepL ca w vs ds) : Walks ca (Itl K a) w ds none := fun w' O H i l _ k _ => by
  have hL : SqL K H a vs := .inl (.inl (k.ext.lst (l.F _ _ h)))
  refine ⟨fun hi => ⟨vs, hL, by rw [r.length]; exact hi⟩, fun d hd => ?_⟩
  obtain ⟨v, h1, h2⟩ := r.getD hd
  exact ⟨⟨vs, v, hL, h1⟩, fun x H' ⟨e, y⟩ => by
    subst e
    have := y vs hL
    rw [h1] at this
    cases this
    exact ⟨w', Wd.le.refl _, k, h2.mono' l⟩⟩
theorem walks_scr {a : Addr} {ns : List Int} (h : SqL ca.K w.F a (ns.map V.int)) : Walks ca (Itl ca.K a) w (ns.map D.int) none := fun w' O H i l _ k _ => by
  have hL : SqL ca.K H a (ns.map V.int) := k.ext.sqL (SqL.sub l.sb h)
  have r := repL_ints ca w' ns
  refine ⟨fun hi => ⟨_, hL, by rw [r.length]; exact hi⟩, fun d hd => ?_⟩
  obtain ⟨v, h1, h2⟩ := r.getD hd
  exact ⟨⟨_, v, hL, h1⟩, fun x H' ⟨e, y⟩ => by
    subst e
    have := y _ hL
    rw [h1] at this
    cases this
    exact ⟨w', Wd.le.refl _, k, h2⟩⟩
theorem walks_own {a : Addr} {n : Nat} {ds : List D} (h : w.ad[n]? = some a) : Walks ca (Itl K a) w ds (some (n, .lst ds)) := fun w' O H i l _ k sl => by
  obtain ⟨_, u, h2, h3⟩ := k.own n a _ (l.ad _ _ h) sl (fun z => nomatch z)
  cases h3 with
  | @lst vs _ r =>
    have hL : SqL K H a vs := .inl (.inl h2)
    refine ⟨fun hi => ⟨vs, hL, by rw [r.length]; exact hi⟩, fun d hd => ?_⟩
    obtain ⟨v, h1, h5⟩ := r.getD hd
    exact ⟨⟨vs, v, hL, h1⟩, fun x H' ⟨e, y⟩ => by
      subst e
      have := y vs hL
      rw [h1] at this
      cases this
      exact ⟨w', Wd.le.refl _, k, h5⟩⟩
theorem walks_tup {a : Addr} {vs : List V} {ds : List D} (h : w.F a = some (.tup vs)) (r : RepL ca w vs ds) : Walks ca (Itt K a) w ds none := fun w' O H i l _ k _ => by
  have hL : SqT K H a vs := .inl (.inl (k.ext.tup (l.F _ _ h)))
  refine ⟨fun hi => ⟨vs, hL, by rw [r.length]; exact hi⟩, fun d hd => ?_⟩
  obtain ⟨v, h1, h2⟩ := r.getD hd
  exact ⟨⟨vs, v, hL, h1⟩, fun x H' ⟨e, y⟩ => by
    subst e
    have := y vs hL
    rw [h1] at this
    cases this
    exact ⟨w', Wd.le.refl _, k, h2.mono' l⟩⟩
theorem walks_str {s : Str} : Walks ca (Its s) w (s.cps.toList.map fun c => .str ⟨#[c]⟩) none := fun w' O H i l _ k _ => by
  refine ⟨fun hi => by show s.cps.size ≤ i; simpa using hi, fun d hd => ?_⟩
  rw [List.getElem?_map] at hd
  cases q : s.cps.toList[i]? with
  | none => rw [q] at hd; cases hd
  | some c =>
    rw [q] at hd
    cases hd
    have q' : s.cps[i]? = some c := by simpa using q
    refine ⟨by show i < s.cps.size; simpa using (List.getElem?_eq_some_iff.mp q).1, fun x H' ⟨e, c', e2, e3⟩ => ?_⟩
    subst e
    rw [q'] at e2
    cases e2
    subst e3
    exact ⟨w', Wd.le.refl _, k, .str _⟩
theorem walks_rng {lo : Int} {n : Nat} : Walks ca (Itr lo n) w (rangeD lo n) none := fun w' O H i l _ k _ => by
  refine ⟨fun hi => by show n ≤ i; simpa [rangeD] using hi, fun d hd => ?_⟩
  unfold rangeD at hd
  rw [List.getElem?_map] at hd
  have hl : i < n := by
    by_cases q : i < n
    · exact q
    · rw [List.getElem?_eq_none (by simpa using Nat.le_of_not_lt q)] at hd
      cases hd
  rw [List.getElem?_range hl] at hd
  cases hd
  exact ⟨hl, fun x H' ⟨e, e2⟩ => by
    subst e e2
    exact ⟨w', Wd.le.refl _, k, .int _⟩⟩
end
section
variable {ca : Cn} {W : WX} {X : Cx} {tg e : Expr} {es : List Expr} {m : DTE} {ma : DTA} {p pos : Pos}
theorem PI.or {t u : TI} (h : PI X tg e t) (g : PI X tg e u) : PI X tg e (fun σ H R => t σ H R ∨ u σ H R) := ⟨fun pins s σ H R I q => by
  rcases q with q | q
  · exact h.run pins s σ H R I q
  · exact g.run pins s σ H R I q⟩
theorem di_seq (h : DE ca W X e m) (hK : ca.K = X.K := by rfl) : DI ca W X tg e (srcSeq m) := by
  obtain ⟨t, pt, sp⟩ := h
  refine ⟨_, PI.or (pi_list pt) (PI.or (pi_tup pt) (pi_str pt)), fun w O H σ ρ R k re h => ?_⟩
  unfold srcSeq at h
  cases z : m ρ O with
  | exc c fs O1 =>
    rw [z] at h
    exact .inl (sp w O H σ ρ _ k re (by rw [z]; exact h))
  | stuck => rw [z] at h; exact h.elim
  | ok d O1 =>
    rw [z] at h
    simp only [Res.bindI] at h
    cases d with
    | lst ds =>
      refine .inl (sp w O H σ ρ _ k re ?_)
      rw [z]
      intro v w1 H1 l1 k1 r1
      cases r1 with
      | lst hF r => exact ⟨_, rfl, ⟨_, .inl (.inl (k1.ext.lst hF))⟩, h _ w1 H1 l1 k1 trivial (walks_list hF r)⟩
    | scr ns =>
      refine .inl (sp w O H σ ρ _ k re ?_)
      rw [z]
      intro v w1 H1 l1 k1 r1
      cases r1 with
      | scr hF => exact ⟨_, rfl, ⟨_, hK ▸ k1.ext.sqL hF⟩, hK ▸ h _ w1 H1 l1 k1 trivial (walks_scr hF)⟩
    | tup ds =>
      refine .inr (.inl (sp w O H σ ρ _ k re ?_))
      rw [z]
      intro v w1 H1 l1 k1 r1
      cases r1 with
      | tup hF r => exact ⟨_, rfl, ⟨_, .inl (.inl (k1.ext.tup hF))⟩, h _ w1 H1 l1 k1 trivial (walks_tup hF r)⟩
    | str s =>
      refine .inr (.inr (sp w O H σ ρ _ k re ?_))
      rw [z]
      intro v w1 H1 l1 k1 r1
      cases r1 with
      | str => exact ⟨_, rfl, h _ w1 H1 l1 k1 trivial walks_str⟩
    | loc n =>
      refine .inl (sp w O H σ ρ _ k re ?_)
      rw [z]
      intro v w1 H1 l1 k1 r1
      cases r1 with
      | loc hA =>
        dsimp only at h
        cases q : O1[n]? with
        | none => rw [q] at h; exact h.elim
        | some od =>
          rw [q] at h
          cases od with
          | lst ds =>
            obtain ⟨_, u, h2, h3⟩ := k1.own n _ _ hA q (fun z => nomatch z)
            cases h3 with
            | lst r => exact ⟨_, rfl, ⟨_, .inl (.inl h2)⟩, h _ w1 H1 l1 k1 q (walks_own hA)⟩
          | _ => exact h.elim
    | _ => exact h.elim
theorem di_range1 {a : Expr} (hg : Gl X "range") (hm : X.mg "range" = none) (ha : DA ca W X [a] ma) (hn : ∀ ρ O xs O1, ma ρ O = .ok xs O1 → xs.length = 1) (hs : starEach [a] X.env = [(false, eval a X.env)] := by rfl) : DI ca W X tg (.Call (.Name "range" p) [a] [] pos) (srcRng ma) := by
  obtain ⟨t, pt, sp⟩ := ha
  refine ⟨_, pi_range1 hg hm pt hs, fun w O H σ ρ R k re h => ?_⟩
  unfold srcRng at h
  refine sp w O H σ ρ _ k re ?_
  cases z : ma ρ O with
  | exc c fs O1 => rw [z] at h; exact h
  | stuck => rw [z] at h; exact h
  | ok ds O1 =>
    rw [z] at h
    have hl := hn _ _ _ _ z
    intro v w1 H1 l1 k1 r1
    simp only [ResL.bindI] at h
    cases r1 with
    | nil => cases hl
    | cons r r2 =>
      cases r2 with
      | cons _ _ => cases hl
      | nil =>
        cases r with
        | int j =>
          dsimp only at h
          by_cases c : -(2 ^ 62) ≤ j ∧ j < 2 ^ 62
          · rw [if_pos c] at h
            exact ⟨j, rfl, c.1, c.2, h _ w1 H1 l1 k1 trivial walks_rng⟩
          · rw [if_neg c] at h
            exact h.elim
        | _ => exact h.elim
theorem di_range2 {a b : Expr} (hg : Gl X "range") (hm : X.mg "range" = none) (ha : DA ca W X [a, b] ma) (hn : ∀ ρ O xs O1, ma ρ O = .ok xs O1 → xs.length = 2) (hs : starEach [a, b] X.env = [(false, eval a X.env), (false, eval b X.env)] := by rfl) (hs2 : starEach [b] X.env = [(false, eval b X.env)] := by rfl) : DI ca W X tg (.Call (.Name "range" p) [a, b] [] pos) (srcRng ma) := by
  obtain ⟨t, pt, sp⟩ := ha
  refine ⟨_, pi_range2 hg hm pt hs hs2, fun w O H σ ρ R k re h => ?_⟩
  unfold srcRng at h
  refine sp w O H σ ρ _ k re ?_
  cases z : ma ρ O with
  | exc c fs O1 => rw [z] at h; exact h
  | stuck => rw [z] at h; exact h
  | ok ds O1 =>
    rw [z] at h
    have hl := hn _ _ _ _ z
    intro v w1 H1 l1 k1 r1
    simp only [ResL.bindI] at h
    cases r1 with
    | nil => cases hl
    | cons r r2 =>
      cases r2 with
      | nil => cases hl
      | cons q r3 =>
        cases r3 with
        | cons _ _ => cases hl
        | nil =>
          cases r with
          | int i =>
            cases q with
            | int j =>
              dsimp only at h
              by_cases c : (-(2 ^ 62) ≤ i ∧ i < 2 ^ 62) ∧ (-(2 ^ 62) ≤ j ∧ j < 2 ^ 62)
              · rw [if_pos c] at h
                exact ⟨i, j, rfl, ⟨c.1.1, c.1.2, c.2.1, c.2.2⟩, h _ w1 H1 l1 k1 trivial walks_rng⟩
              · rw [if_neg c] at h
                exact h.elim
            | _ => exact h.elim
          | _ => exact h.elim
end
/-! the number of arguments -/
theorem len_nil {ρ : Env'} {O : Sto} {xs : List D} {O1 : Sto} (h : dNil ρ O = .ok xs O1) : xs.length = 0 := by
  cases h
  rfl
theorem len_cons {n : Nat} {a : DTE} {r : DTA} (hr : ∀ ρ O xs O1, r ρ O = .ok xs O1 → xs.length = n) : ∀ ρ O xs O1, dCons a r ρ O = .ok xs O1 → xs.length = n + 1 := fun ρ O xs O1 h => by
  unfold dCons at h
  cases z : a ρ O with
  | ok d O2 =>
    rw [z] at h
    simp only [Res.bindL] at h
    cases z2 : r ρ O2 with
    | ok ys O3 =>
      rw [z2] at h
      cases h
      rw [List.length_cons, hr _ _ _ _ z2]
    | exc c fs O3 => rw [z2] at h; cases h
    | stuck => rw [z2] at h; cases h
  | exc c fs O3 => rw [z] at h; cases h
  | stuck => rw [z] at h; cases h
end Yk

set_option Elab.async false
set_option linter.all false
set_option maxRecDepth 100000
set_option maxHeartbeats 1000000
/-! Yk: equality. -/
namespace Yk
open PySem L2

def deqL (f : D → D → Option Bool) : List D → List D → Option Bool
  | x :: xs, y :: ys => match f x y, deqL f xs ys with
    | some a, some b => some (a && b)
    | _, _ => none
  | _, _ => some true
/-- == of data of nesting below n (no dicts, no instances) -/
def deqN : Nat → D → D → Option Bool
  | 0, _, _ => none
  | n + 1, d, e => match d, e with
    | .non, .non => some true
    | .non, .bl _ => some false
    | .non, .int _ => some false
    | .non, .str _ => some false
    | .non, .lst _ => some false
    | .non, .tup _ => some false
    | .bl _, .non => some false
    | .bl a, .bl b => some (a == b)
    | .bl a, .int b => some ((if a then 1 else 0) == b)
    | .bl _, .str _ => some false
    | .bl _, .lst _ => some false
    | .bl _, .tup _ => some false
    | .int _, .non => some false
    | .int a, .bl b => some (a == (if b then 1 else 0))
    | .int a, .int b => some (a == b)
    | .int _, .str _ => some false
    | .int _, .lst _ => some false
    | .int _, .tup _ => some false
    | .str _, .non => some false
    | .str _, .bl _ => some false
    | .str _, .int _ => some false
    | .str a, .str b => some (a == b)
    | .str _, .lst _ => some false
    | .str _, .tup _ => some false
    | .lst _, .non => some false
    | .lst _, .bl _ => some false
    | .lst _, .int _ => some false
    | .lst _, .str _ => some false
    | .lst xs, .lst ys => if xs.length = ys.length then deqL (deqN n) xs ys else some false
    | .lst _, .tup _ => some false
    | .tup _, .non => some false
    | .tup _, .bl _ => some false
    | .tup _, .int _ => some false
    | .tup _, .str _ => some false
    | .tup _, .lst _ => some false
    | .tup xs, .tup ys => (deqL (deqN n) xs ys).map fun b => b && decide (xs.length = ys.length)
    | _, _ => none

theorem deqL_all {f : D → D → Option Bool} : ∀ {xs ys : List D} {b : Bool}, deqL f xs ys = some b →
    (∀ (j : Nat) x y, xs[j]? = some x → ys[j]? = some y → ∃ c, f x y = some c) ∧ b = (List.range (min xs.length ys.length)).all fun j => match xs[j]?, ys[j]? with
      | some x, some y => (f x y).getD true
      | _, _ => true
  | [], ys, b, h => by
    cases h
    refine ⟨fun j x y e => by simp at e, by simp⟩
  | x :: xs, [], b, h => by
    cases h
    refine ⟨fun j x y _ e => by simp at e, by simp⟩
  | x :: xs, y :: ys, b, h => by
    unfold deqL at h
    cases h1 : f x y with
    | none => simp only [h1] at h; cases h
    | some c =>
      cases h2 : deqL f xs ys with
      | none => simp only [h1, h2] at h; cases h
      | some d =>
        simp only [h1, h2] at h
        cases h
        obtain ⟨i1, i2⟩ := deqL_all h2
        refine ⟨fun j x' y' e1 e2 => ?_, ?_⟩
        · cases j with
          | zero =>
            simp at e1 e2
            subst e1 e2
            exact ⟨c, h1⟩
          | succ j => exact i1 j x' y' (by simpa using e1) (by simpa using e2)
        · have hm : min (x :: xs).length (y :: ys).length = min xs.length ys.length + 1 := by simp [Nat.succ_min_succ]
          rw [hm, List.range_succ_eq_map, List.all_cons, List.all_map, i2]
          simp [h1, Function.comp_def]
section
variable {ca : Cn} {w : Wd}
theorem repL_det {f : D → D → Option Bool} (hf : ∀ v d e b, Rep ca w v d → Rep ca w v e → f d e = some b → b = true) : ∀ {vs : List V} {xs ys : List D} {b : Bool}, RepL ca w vs xs → RepL ca w vs ys → deqL f xs ys = some b → b = true ∧ xs.length = ys.length
  | _, _, _, _, .nil, .nil, h => by
    cases h
    exact ⟨rfl, rfl⟩
  | _, _, _, _, .cons h1 r1, .cons h2 r2, h => by
    unfold deqL at h
    split at h
    · rename_i a b e1 e2
      cases h
      obtain ⟨q1, q2⟩ := repL_det hf r1 r2 e2
      rw [hf _ _ _ _ h1 h2 e1, q1]
      exact ⟨rfl, by simp [q2]⟩
    · cases h
theorem deq_same : ∀ (n : Nat) (v : V) (d e : D) (b : Bool), Rep ca w v d → Rep ca w v e → deqN n d e = some b → b = true
  | 0, _, _, _, _, _, _, h => by cases h
  | n + 1, v, d, e, b, r1, r2, h => by
    cases r1 with
    | non => cases r2; cases h; rfl
    | bl x => cases r2; simp [deqN] at h; exact h
    | int x => cases r2; simp [deqN] at h; exact h
    | str x => cases r2; simp [deqN] at h; exact h
    | lst h1 q1 =>
      cases r2 with
      | lst h2 q2 =>
        rw [h1] at h2
        cases h2
        have hl : q1.length = q1.length := rfl
        simp only [deqN] at h
        rw [if_pos (q1.length.symm.trans q2.length)] at h
        exact (repL_det (deq_same n) q1 q2 h).1
      | tup h2 q2 =>
        rw [h1] at h2
        cases h2
      | _ => simp [deqN] at h
    | tup h1 q1 =>
      cases r2 with
      | tup h2 q2 =>
        rw [h1] at h2
        cases h2
        simp only [deqN] at h
        cases z : deqL (deqN n) _ _ with
        | none => rw [z] at h; cases h
        | some c =>
          rw [z] at h
          cases h
          obtain ⟨e1, e2⟩ := repL_det (deq_same n) q1 q2 z
          simp [e1, e2]
      | lst h2 q2 =>
        rw [h1] at h2
        cases h2
      | _ => simp [deqN] at h
    | _ => simp [deqN] at h
end
/-- what a looked thing is -/
inductive RepV (ca : Cn) (w : Wd) (H : Hp) : V → D → Prop
  | non : RepV ca w H .non .non
  | bl (b : Bool) : RepV ca w H (.bl b) (.bl b)
  | int (i : Int) : RepV ca w H (.int i) (.int i)
  | str (s : Str) : RepV ca w H (.str s) (.str s)
  | lst {a : Addr} {vs : List V} {ds : List D} (h : SqL ca.K H a vs) (r : RepL ca w vs ds) : RepV ca w H (.ref a) (.lst ds)
  | tup {a : Addr} {vs : List V} {ds : List D} (h : H a = some (.tup vs)) (r : RepL ca w vs ds) : RepV ca w H (.ref a) (.tup ds)
def isData : D → Bool
  | .non => true
  | .bl _ => true
  | .int _ => true
  | .str _ => true
  | .lst _ => true
  | .tup _ => true
  | _ => false
theorem deqN_data {n : Nat} {d e : D} {b : Bool} (h : deqN n d e = some b) : isData d = true ∧ isData e = true := by
  cases n with
  | zero => cases h
  | succ n => cases d <;> cases e <;> first | exact ⟨rfl, rfl⟩ | (simp [deqN] at h)
section
variable {ca : Cn} {w : Wd} {O : Sto} {H : Hp}
theorem look_rep (k : Ok ca w O H) {v : V} {d : D} (r : Rep ca w v d) (h : isData (look O d) = true) : RepV ca w H v (look O d) := by
  obtain ⟨f1, f2, f3, f4⟩ := look_flat (O := O) r
  cases z : look O d with
  | non => rw [f1 z]; exact .non
  | bl b => rw [f2 b z]; exact .bl b
  | int i => rw [f3 i z]; exact .int i
  | str s => rw [f4 s z]; exact .str s
  | lst ds =>
    obtain ⟨a, vs, rfl, h1, h2⟩ := look_lst k r z
    exact .lst h1 h2
  | tup ds =>
    obtain ⟨a, vs, rfl, h1, _, h2⟩ := look_tup k r z
    exact .tup h1 h2
  | _ => rw [z] at h; cases h
theorem rep_repV (k : Ok ca w O H) {v : V} {d : D} (r : Rep ca w v d) (h : isData d = true) : RepV ca w H v d := by
  cases r with
  | non => exact .non
  | bl b => exact .bl b
  | int i => exact .int i
  | str s => exact .str s
  | lst h1 r => exact .lst (.inl (.inl (k.ext.lst h1))) r
  | tup h1 r => exact .tup (k.ext.tup h1) r
  | _ => cases h
variable {X : Cx} {pins : List (Addr × Obj)} {σ : L2.St} {s : Shared}
/-- one step: == and != of looked things, the items' == known -/
theorem rc_step (I : Inv X pins σ H s) (hK : ca.K = X.K) {n : Nat} {A : Around} (hu : A.units < cLine)
    (ih : ∀ (v u : V) (v' u' : Value) (d e : D) (b : Bool), Rep ca w v d → Rep ca w u e → RelV v v' → RelV u u' → deqN n d e = some b → SeqAt.EqAt A.in1 s v' u' b)
    {v u : V} {v' u' : Value} {d e : D} {b : Bool} (r1 : RepV ca w H v d) (r2 : RepV ca w H u e) (q1 : RelV v v') (q2 : RelV u u') (h : deqN (n + 1) d e = some b) : SeqAt.RcAt A s v' u' b ∧ SeqAt.RcNeAt A s v' u' (!b) := by
  have items : ∀ {vs us : List V} {its its2 : List Value} {xs ys : List D} {c : Bool}, Vals vs its → Vals us its2 → RepL ca w vs xs → RepL ca w us ys → deqL (deqN n) xs ys = some c →
      ∀ j (h1 : j < its.toArray.size) (h2 : j < its2.toArray.size), SeqAt.EqAt A.in1 s its.toArray[j] its2.toArray[j] (match xs[j]?, ys[j]? with
        | some x, some y => (deqN n x y).getD true
        | _, _ => true) := by
    intro vs us its its2 xs ys c hv hu' rx ry hc j h1 h2
    have l1 : j < its.length := by simpa using h1
    have l2 : j < its2.length := by simpa using h2
    have k1 : j < vs.length := by rw [hv.length]; exact l1
    have k2 : j < us.length := by rw [hu'.length]; exact l2
    obtain ⟨x, e1, p1⟩ := rx.get (List.getElem?_eq_getElem k1)
    obtain ⟨y, e2, p2⟩ := ry.get (List.getElem?_eq_getElem k2)
    obtain ⟨z1, f1, g1⟩ := hv.get (List.getElem?_eq_getElem k1)
    obtain ⟨z2, f2, g2⟩ := hu'.get (List.getElem?_eq_getElem k2)
    obtain ⟨c', hc'⟩ := (deqL_all hc).1 j x y e1 e2
    rw [e1, e2]
    simp only [hc', Option.getD_some]
    have m1 : its.toArray[j] = z1 := by
      rw [List.getElem?_eq_getElem l1] at f1
      simpa using Option.some.inj f1
    have m2 : its2.toArray[j] = z2 := by
      rw [List.getElem?_eq_getElem l2] at f2
      simpa using Option.some.inj f2
    rw [m1, m2]
    exact ih _ _ _ _ _ _ _ p1 p2 g1 g2 hc'
  have lis : ∀ {a : Addr} {vs : List V}, SqL ca.K H a vs → ∃ its, Vals vs its ∧ s.heap.IsList a its.toArray := fun h => by
    obtain ⟨its, a1, a2, _⟩ := I.list (hK ▸ h)
    exact ⟨its, a1, a2.isList⟩
  have tus : ∀ {a : Addr} {vs : List V}, H a = some (.tup vs) → ∃ its, Vals vs its ∧ s.heap.IsTuple a its.toArray := fun h => by
    obtain ⟨its, a1, a2, _⟩ := I.tuple (.inl (.inl h))
    exact ⟨its, a1, a2⟩
  cases r1 with
  | non =>
    cases q1
    cases r2 with
    | non => cases q2; cases h; exact ⟨.none_none, .none_none⟩
    | bl y => cases q2; cases h; exact ⟨.none_bool y, .none_bool y⟩
    | int y => obtain ⟨t, rfl⟩ := q2; cases h; exact ⟨.none_int y t, .none_int y t⟩
    | str y => obtain ⟨t, rfl⟩ := q2; cases h; exact ⟨.none_str y t, .none_str y t⟩
    | lst hy ry => cases q2; cases h; obtain ⟨_, _, hl⟩ := lis hy; exact ⟨.none_list hl hu, .none_list hl hu⟩
    | tup hy ry => cases q2; cases h; obtain ⟨_, _, hl⟩ := tus hy; exact ⟨.none_tuple hl hu, .none_tuple hl hu⟩
  | bl x =>
    cases q1
    cases r2 with
    | non => cases q2; cases h; exact ⟨.bool_none x, .bool_none x⟩
    | bl y => cases q2; cases h; exact ⟨.bool_bool x y, .bool_bool x y⟩
    | int y => obtain ⟨t, rfl⟩ := q2; cases h; exact ⟨.bool_int x y t, .bool_int x y t⟩
    | str y => obtain ⟨t, rfl⟩ := q2; cases h; exact ⟨.bool_str x y t, .bool_str x y t⟩
    | lst hy ry => cases q2; cases h; obtain ⟨_, _, hl⟩ := lis hy; exact ⟨.bool_list x hl hu, .bool_list x hl hu⟩
    | tup hy ry => cases q2; cases h; obtain ⟨_, _, hl⟩ := tus hy; exact ⟨.bool_tuple x hl hu, .bool_tuple x hl hu⟩
  | int x =>
    obtain ⟨t1, rfl⟩ := q1
    cases r2 with
    | non => cases q2; cases h; exact ⟨.int_none x t1, .int_none x t1⟩
    | bl y => cases q2; cases h; exact ⟨.int_bool x t1 y, .int_bool x t1 y⟩
    | int y => obtain ⟨t, rfl⟩ := q2; cases h; exact ⟨.int_int x t1 y t, .int_int x t1 y t⟩
    | str y => obtain ⟨t, rfl⟩ := q2; cases h; exact ⟨.int_str x t1 y t, .int_str x t1 y t⟩
    | lst hy ry => cases q2; cases h; obtain ⟨_, _, hl⟩ := lis hy; exact ⟨.int_list x t1 hl hu, .int_list x t1 hl hu⟩
    | tup hy ry => cases q2; cases h; obtain ⟨_, _, hl⟩ := tus hy; exact ⟨.int_tuple x t1 hl hu, .int_tuple x t1 hl hu⟩
  | str x =>
    obtain ⟨t1, rfl⟩ := q1
    cases r2 with
    | non => cases q2; cases h; exact ⟨.str_none x t1, .str_none x t1⟩
    | bl y => cases q2; cases h; exact ⟨.str_bool x t1 y, .str_bool x t1 y⟩
    | int y => obtain ⟨t, rfl⟩ := q2; cases h; exact ⟨.str_int x t1 y t, .str_int x t1 y t⟩
    | str y => obtain ⟨t, rfl⟩ := q2; cases h; exact ⟨.str_str x t1 y t, .str_str x t1 y t⟩
    | lst hy ry => cases q2; cases h; obtain ⟨_, _, hl⟩ := lis hy; exact ⟨.str_list x t1 hl hu, .str_list x t1 hl hu⟩
    | tup hy ry => cases q2; cases h; obtain ⟨_, _, hl⟩ := tus hy; exact ⟨.str_tuple x t1 hl hu, .str_tuple x t1 hl hu⟩
  | @lst a vs xs hx rx =>
    cases q1
    obtain ⟨its, v1, hl⟩ := lis hx
    cases r2 with
    | non => cases q2; cases h; exact ⟨.list_none hl hu, .list_none hl hu⟩
    | bl y => cases q2; cases h; exact ⟨.list_bool y hl hu, .list_bool y hl hu⟩
    | int y => obtain ⟨t, rfl⟩ := q2; cases h; exact ⟨.list_int y t hl hu, .list_int y t hl hu⟩
    | str y => obtain ⟨t, rfl⟩ := q2; cases h; exact ⟨.list_str y t hl hu, .list_str y t hl hu⟩
    | tup hy ry => cases q2; cases h; obtain ⟨_, _, hl2⟩ := tus hy; exact ⟨.list_tuple hl hl2 hu, .list_tuple hl hl2 hu⟩
    | @lst a2 us ys hy ry =>
      cases q2
      obtain ⟨its2, v2, hl2⟩ := lis hy
      have s1 : its.toArray.size = xs.length := by rw [List.size_toArray, ← v1.length, rx.length]
      have s2 : its2.toArray.size = ys.length := by rw [List.size_toArray, ← v2.length, ry.length]
      simp only [deqN] at h
      by_cases e : xs.length = ys.length
      · rw [if_pos e] at h
        have hb := (deqL_all h).2
        have sz : its.toArray.size = its2.toArray.size := by rw [s1, s2, e]
        have it := items v1 v2 rx ry h
        rw [← e, Nat.min_self, ← s1] at hb
        rw [hb]
        exact ⟨.lists hl hl2 sz hu it, .lists hl hl2 sz hu it⟩
      · rw [if_neg e] at h
        cases h
        have sz : (its.toArray.size != its2.toArray.size) = true := by
          rw [s1, s2]
          simpa using e
        exact ⟨.lists_lengths hl hl2 sz hu, .lists_lengths hl hl2 sz hu⟩
  | @tup a vs xs hx rx =>
    cases q1
    obtain ⟨its, v1, hl⟩ := tus hx
    cases r2 with
    | non => cases q2; cases h; exact ⟨.tuple_none hl hu, .tuple_none hl hu⟩
    | bl y => cases q2; cases h; exact ⟨.tuple_bool y hl hu, .tuple_bool y hl hu⟩
    | int y => obtain ⟨t, rfl⟩ := q2; cases h; exact ⟨.tuple_int y t hl hu, .tuple_int y t hl hu⟩
    | str y => obtain ⟨t, rfl⟩ := q2; cases h; exact ⟨.tuple_str y t hl hu, .tuple_str y t hl hu⟩
    | lst hy ry => cases q2; cases h; obtain ⟨_, _, hl2⟩ := lis hy; exact ⟨.tuple_list hl hl2 hu, .tuple_list hl hl2 hu⟩
    | @tup a2 us ys hy ry =>
      cases q2
      obtain ⟨its2, v2, hl2⟩ := tus hy
      have s1 : its.toArray.size = xs.length := by rw [List.size_toArray, ← v1.length, rx.length]
      have s2 : its2.toArray.size = ys.length := by rw [List.size_toArray, ← v2.length, ry.length]
      simp only [deqN] at h
      cases z : deqL (deqN n) xs ys with
      | none => rw [z] at h; cases h
      | some c =>
        rw [z] at h
        cases h
        have hb := (deqL_all z).2
        have it := items v1 v2 rx ry z
        have e2 : decide (xs.length = ys.length) = (its.toArray.size == its2.toArray.size) := by
          rw [s1, s2]
          by_cases e : xs.length = ys.length <;> simp [e]
        rw [← s1, ← s2] at hb
        rw [e2, hb]
        exact ⟨.tuples hl hl2 hu it, .tuples hl hl2 hu it⟩
theorem eq_at (I : Inv X pins σ H s) (hK : ca.K = X.K) (k : Ok ca w O H) : ∀ (n : Nat) (A : Around), A.units + n < cLine → ∀ (v u : V) (v' u' : Value) (d e : D) (b : Bool), Rep ca w v d → Rep ca w u e → RelV v v' → RelV u u' → deqN n d e = some b → SeqAt.EqAt A s v' u' b
  | 0, _, _, _, _, _, _, _, _, _, _, _, _, _, h => by cases h
  | n + 1, A, hu, v, u, v', u', d, e, b, r1, r2, q1, q2, h => by
    obtain ⟨dd, de⟩ := deqN_data h
    have rc := (rc_step I hK (A := A) (by omega) (fun v u v' u' d e b a1 a2 a3 a4 a5 => eq_at I hK k n A.in1 (by show A.units + 1 + n < cLine; omega) v u v' u' d e b a1 a2 a3 a4 a5) (rep_repV k r1 dd) (rep_repV k r2 de) q1 q2 h).1
    by_cases hv : v = u
    · subst hv
      have hb := deq_same (n + 1) v d e b r1 r2 h
      subst hb
      -- the same value: flat, or the very object
      cases r1 with
      | non => cases q1; cases q2; exact SeqAt.EqAt.same _
      | bl x => cases q1; cases q2; exact SeqAt.EqAt.same _
      | int x =>
        obtain ⟨t1, rfl⟩ := q1
        obtain ⟨t2, rfl⟩ := q2
        have := SeqAt.EqAt.int_int (A := A) (s := s) x t1 x t2
        simpa using this
      | str x =>
        obtain ⟨t1, rfl⟩ := q1
        obtain ⟨t2, rfl⟩ := q2
        have := SeqAt.EqAt.str_str (A := A) (s := s) x t1 x t2
        simpa using this
      | lst _ _ => cases q1; cases q2; exact SeqAt.EqAt.same _
      | tup _ _ => cases q1; cases q2; exact SeqAt.EqAt.same _
      | _ => cases dd
    · have fl : ∀ {y x : V}, RelV y v' → RelV x u' → flatV y = true → flatV x = true → SeqAt.EqAt A s v' u' (eqV y x) := fun a1 a2 a3 a4 => eqAt_V a1 a2 a3 a4
      cases r1 with
      | lst h1 p1 =>
        cases q1
        cases r2 with
        | lst h2 p2 => cases q2; exact SeqAt.EqAt.of_refs (fun z => hv (by rw [z])) rc
        | tup h2 p2 => cases q2; exact SeqAt.EqAt.of_refs (fun z => hv (by rw [z])) rc
        | non =>
          cases q2; cases h
          obtain ⟨_, _, a2, _⟩ := I.list (.inl (.inl (k.ext.lst h1)))
          exact .list_none a2.isList (by omega)
        | bl y =>
          cases q2; cases h
          obtain ⟨_, _, a2, _⟩ := I.list (.inl (.inl (k.ext.lst h1)))
          exact .list_bool y a2.isList (by omega)
        | int y =>
          obtain ⟨t, rfl⟩ := q2; cases h
          obtain ⟨_, _, a2, _⟩ := I.list (.inl (.inl (k.ext.lst h1)))
          exact .list_int y t a2.isList (by omega)
        | str y =>
          obtain ⟨t, rfl⟩ := q2; cases h
          obtain ⟨_, _, a2, _⟩ := I.list (.inl (.inl (k.ext.lst h1)))
          exact .list_str y t a2.isList (by omega)
        | _ => cases de
      | tup h1 p1 =>
        cases q1
        cases r2 with
        | lst h2 p2 => cases q2; exact SeqAt.EqAt.of_refs (fun z => hv (by rw [z])) rc
        | tup h2 p2 => cases q2; exact SeqAt.EqAt.of_refs (fun z => hv (by rw [z])) rc
        | non =>
          cases q2; cases h
          obtain ⟨_, _, a2, _⟩ := I.tuple (.inl (.inl (k.ext.tup h1)))
          exact .tuple_none a2 (by omega)
        | bl y =>
          cases q2; cases h
          obtain ⟨_, _, a2, _⟩ := I.tuple (.inl (.inl (k.ext.tup h1)))
          exact .tuple_bool y a2 (by omega)
        | int y =>
          obtain ⟨t, rfl⟩ := q2; cases h
          obtain ⟨_, _, a2, _⟩ := I.tuple (.inl (.inl (k.ext.tup h1)))
          exact .tuple_int y t a2 (by omega)
        | str y =>
          obtain ⟨t, rfl⟩ := q2; cases h
          obtain ⟨_, _, a2, _⟩ := I.tuple (.inl (.inl (k.ext.tup h1)))
          exact .tuple_str y t a2 (by omega)
        | _ => cases de
      | non =>
        cases r2 with
        | lst h2 p2 =>
          cases q1; cases q2; cases h
          obtain ⟨_, _, a2, _⟩ := I.list (.inl (.inl (k.ext.lst h2)))
          exact .none_list a2.isList (by omega)
        | tup h2 p2 =>
          cases q1; cases q2; cases h
          obtain ⟨_, _, a2, _⟩ := I.tuple (.inl (.inl (k.ext.tup h2)))
          exact .none_tuple a2 (by omega)
        | non => exact absurd rfl hv
        | bl y => cases h; exact fl q1 q2 rfl rfl
        | int y => cases h; exact fl q1 q2 rfl rfl
        | str y => cases h; exact fl q1 q2 rfl rfl
        | _ => cases de
      | bl x =>
        cases r2 with
        | lst h2 p2 =>
          cases q1; cases q2; cases h
          obtain ⟨_, _, a2, _⟩ := I.list (.inl (.inl (k.ext.lst h2)))
          exact .bool_list x a2.isList (by omega)
        | tup h2 p2 =>
          cases q1; cases q2; cases h
          obtain ⟨_, _, a2, _⟩ := I.tuple (.inl (.inl (k.ext.tup h2)))
          exact .bool_tuple x a2 (by omega)
        | non => cases h; exact fl q1 q2 rfl rfl
        | bl y => cases h; exact fl q1 q2 rfl rfl
        | int y => cases h; exact fl q1 q2 rfl rfl
        | str y => cases h; exact fl q1 q2 rfl rfl
        | _ => cases de
      | int x =>
        cases r2 with
        | lst h2 p2 =>
          obtain ⟨t, rfl⟩ := q1; cases q2; cases h
          obtain ⟨_, _, a2, _⟩ := I.list (.inl (.inl (k.ext.lst h2)))
          exact .int_list x t a2.isList (by omega)
        | tup h2 p2 =>
          obtain ⟨t, rfl⟩ := q1; cases q2; cases h
          obtain ⟨_, _, a2, _⟩ := I.tuple (.inl (.inl (k.ext.tup h2)))
          exact .int_tuple x t a2 (by omega)
        | non => cases h; exact fl q1 q2 rfl rfl
        | bl y => cases h; exact fl q1 q2 rfl rfl
        | int y => cases h; exact fl q1 q2 rfl rfl
        | str y => cases h; exact fl q1 q2 rfl rfl
        | _ => cases de
      | str x =>
        cases r2 with
        | lst h2 p2 =>
          obtain ⟨t, rfl⟩ := q1; cases q2; cases h
          obtain ⟨_, _, a2, _⟩ := I.list (.inl (.inl (k.ext.lst h2)))
          exact .str_list x t a2.isList (by omega)
        | tup h2 p2 =>
          obtain ⟨t, rfl⟩ := q1; cases q2; cases h
          obtain ⟨_, _, a2, _⟩ := I.tuple (.inl (.inl (k.ext.tup h2)))
          exact .str_tuple x t a2 (by omega)
        | non => cases h; exact fl q1 q2 rfl rfl
        | bl y => cases h; exact fl q1 q2 rfl rfl
        | int y => cases h; exact fl q1 q2 rfl rfl
        | str y => cases h; exact fl q1 q2 rfl rfl
        | _ => cases de
      | _ => cases dd
end
/-- == and != by values; the lists of the store are looked at -/
def fEq (x y : D) (O : Sto) : Res := match deqN 60 (look O x) (look O y) with
  | some b => .ok (.bl b) O
  | none => .stuck
def fNe (x y : D) (O : Sto) : Res := match deqN 60 (look O x) (look O y) with
  | some b => .ok (.bl (!b)) O
  | none => .stuck
/-- the reading: some world in which the two are data -/
def rEqY (ca : Cn) : R2 := fun x y H Q => ∃ w O dx dy b, Ok ca w O H ∧ Rep ca w x dx ∧ Rep ca w y dy ∧ deqN 60 (look O dx) (look O dy) = some b ∧ Q (.bl b) H
def rNeY (ca : Cn) : R2 := fun x y H Q => ∃ w O dx dy b, Ok ca w O H ∧ Rep ca w x dx ∧ Rep ca w y dy ∧ deqN 60 (look O dx) (look O dy) = some b ∧ Q (.bl (!b)) H
section
variable {ca : Cn} {X : Cx}
theorem op_eqY (hu : X.A.units + 64 < cLine) (hK : ca.K = X.K := by rfl) : OpR X (compareOp .Eq) (rEqY ca) := by
  intro pins s σ H x y v u Q I rx ry h
  obtain ⟨w, O, dx, dy, b, k, r1, r2, e, q⟩ := h
  obtain ⟨d1, d2⟩ := deqN_data e
  exact (rc_step (n := 59) I hK (A := X.A) (by omega) (fun v u v' u' d e b a1 a2 a3 a4 a5 => eq_at I hK k 59 X.A.in1 (by show X.A.units + 1 + 59 < cLine; omega) v u v' u' d e b a1 a2 a3 a4 a5) (look_rep k r1 d1) (look_rep k r2 d2) rx ry e).1 X.prog X.w _ _ ⟨.bl b, H, I, rfl, q⟩
theorem op_neY (hu : X.A.units + 64 < cLine) (hK : ca.K = X.K := by rfl) : OpR X (compareOp .NotEq) (rNeY ca) := by
  intro pins s σ H x y v u Q I rx ry h
  obtain ⟨w, O, dx, dy, b, k, r1, r2, e, q⟩ := h
  obtain ⟨d1, d2⟩ := deqN_data e
  exact (rc_step (n := 59) I hK (A := X.A) (by omega) (fun v u v' u' d e b a1 a2 a3 a4 a5 => eq_at I hK k 59 X.A.in1 (by show X.A.units + 1 + 59 < cLine; omega) v u v' u' d e b a1 a2 a3 a4 a5) (look_rep k r1 d1) (look_rep k r2 d2) rx ry e).2 X.prog X.w _ _ ⟨.bl (!b), H, I, rfl, q⟩
theorem ops_eq : OpS ca (rEqY ca) fEq := fun w O H x y dx dy W σ Q k r1 r2 h => by
  unfold fEq at h
  cases z : deqN 60 (look O dx) (look O dy) with
  | none => rw [z] at h; exact h.elim
  | some b =>
    rw [z] at h
    exact ⟨w, O, dx, dy, b, k, r1, r2, z, post_ok k (.bl b) h⟩
theorem ops_ne : OpS ca (rNeY ca) fNe := fun w O H x y dx dy W σ Q k r1 r2 h => by
  unfold fNe at h
  cases z : deqN 60 (look O dx) (look O dy) with
  | none => rw [z] at h; exact h.elim
  | some b =>
    rw [z] at h
    exact ⟨w, O, dx, dy, b, k, r1, r2, z, post_ok k (.bl (!b)) h⟩
end
end Yk

set_option Elab.async false
set_option linter.all false
set_option maxRecDepth 100000
set_option maxHeartbeats 1000000
/-! Yk: operators, built-ins and methods by values. -/
namespace Yk
open PySem L2

abbrev big : Nat := 1000000
theorem big_le {n : Nat} (h : n ≤ 1000000) : n ≤ sizeLine := Nat.le_trans h (by decide)
theorem big_lt {n : Nat} (h : n < 1000000) : n < sizeLine := Nat.lt_of_lt_of_le h (by decide)
/-- as look, but the script is left alone (a list that may be taken as a whole) -/
def lookX (O : Sto) (d : D) : D := match d with
  | .scr ns => .scr ns
  | d => look O d
section
variable {ca : Cn} {w : Wd} {O : Sto} {H : Hp}
theorem lookX_lst (k : Ok ca w O H) {v : V} {d : D} {ds : List D} (r : Rep ca w v d) (e : lookX O d = .lst ds) : ∃ a vs, v = .ref a ∧ H a = some (.lst vs) ∧ RepL ca w vs ds := by
  cases r with
  | lst h r =>
    cases e
    exact ⟨_, _, rfl, k.ext.lst h, r⟩
  | scr h => cases e
  | @loc a n h =>
    have e : look O (.loc n) = .lst ds := e
    unfold look at e
    cases q : O[n]? with
    | none => simp only [q] at e; cases e
    | some o =>
      simp only [q] at e
      split at e <;> try (first | (cases e; done) | skip)
      rename_i q1
      cases q1
      cases e
      obtain ⟨_, u, h2, h3⟩ := k.own n a _ h q (fun z => nomatch z)
      cases h3 with
      | lst r => exact ⟨_, _, rfl, h2, r⟩
  | _ => cases e
theorem lookX_tup (k : Ok ca w O H) {v : V} {d : D} {ds : List D} (r : Rep ca w v d) (e : lookX O d = .tup ds) : d = .tup ds ∧ ∃ a vs, v = .ref a ∧ H a = some (.tup vs) ∧ w.F a = some (.tup vs) ∧ RepL ca w vs ds := by
  cases d with
  | scr ns => cases e
  | tup xs =>
    cases e
    exact ⟨rfl, look_tup k r rfl⟩
  | loc n =>
    have e : look O (.loc n) = .tup ds := e
    unfold look at e
    cases q : O[n]? with
    | none => simp only [q] at e; cases e
    | some o => simp only [q] at e; split at e <;> cases e
  | _ => cases e
theorem lookX_str (k : Ok ca w O H) {v : V} {d : D} {s : Str} (r : Rep ca w v d) (e : lookX O d = .str s) : v = .str s := by
  cases d with
  | scr ns => cases e
  | _ => exact (look_flat (O := O) r).2.2.2 s e
theorem lookX_int (k : Ok ca w O H) {v : V} {d : D} {s : Int} (r : Rep ca w v d) (e : lookX O d = .int s) : v = .int s := by
  cases d with
  | scr ns => cases e
  | _ => exact (look_flat (O := O) r).2.2.1 s e
end

/-! ### + - * // % -/
def fAdd (own : Bool) (x y : D) (O : Sto) : Res := match lookX O x, lookX O y with
  | .int i, .int j => .ok (.int (i + j)) O
  | .str a, .str b => if a.length + b.length ≤ 1000000 then .ok (.str (a ++ b)) O else .stuck
  | .lst xs, .lst ys => if xs.length + ys.length ≤ 1000000 then mkL own (xs ++ ys) O else .stuck
  | .tup xs, .tup ys => if xs.length + ys.length ≤ 1000000 then .ok (.tup (xs ++ ys)) O else .stuck
  | _, _ => .stuck
def fSub (x y : D) (O : Sto) : Res := match x, y with
  | .int i, .int j => .ok (.int (i - j)) O
  | _, _ => .stuck
def fMul (x y : D) (O : Sto) : Res := match x, y with
  | .int i, .int j => if (-(2 ^ 64) < i ∧ i < 2 ^ 64) ∨ (-(2 ^ 64) < j ∧ j < 2 ^ 64) then .ok (.int (i * j)) O else .stuck
  | _, _ => .stuck
def fDiv (x y : D) (O : Sto) : Res := match x, y with
  | .int i, .int j => if 0 < j ∧ j < 1073741824 then .ok (.int (i / j)) O else .stuck
  | _, _ => .stuck
def fAddI (x y : D) (O : Sto) : Res := match x, y with
  | .int i, .int j => .ok (.int (i + j)) O
  | _, _ => .stuck
def fMod (x y : D) (O : Sto) : Res := match x, y with
  | .int i, .int j => if 0 < j then .ok (.int (i % j)) O else .stuck
  | _, _ => .stuck
abbrev rStrCat : R2 := fun x y H Q => ∃ i j, x = .str i ∧ y = .str j ∧ i.length + j.length ≤ sizeLine ∧ Q (.str (i ++ j)) H
abbrev rAddAll (K : PySem.W.Frag) : R2 := fun x y H Q => rI0 (fun i j => .int (i + j)) x y H Q ∨ (rStrCat x y H Q ∨ (rCat x y H Q ∨ rCatA K x y H Q))
section
variable {ca : Cn} {X : Cx}
theorem opr_add : OpR X (binaryOp .Add) (rAddAll X.K) := op_add.or (op_add_str.or (op_cat.or op_catA))
theorem ops_add {K : PySem.W.Frag} (own : Bool) : OpS ca (rAddAll K) (fAdd own) := fun w O H x y dx dy W σ Q k r1 r2 h => by
  unfold fAdd at h
  split at h
  · rename_i i j e1 e2
    rw [lookX_int k r1 e1, lookX_int k r2 e2]
    exact .inl ⟨i, j, rfl, rfl, post_ok k (.int _) h⟩
  · rename_i a b e1 e2
    rw [lookX_str k r1 e1, lookX_str k r2 e2]
    obtain ⟨c, h⟩ := post_if h
    exact .inr (.inl ⟨a, b, rfl, rfl, big_le c, post_ok k (.str _) h⟩)
  · rename_i xs ys e1 e2
    obtain ⟨a, vs, rfl, ha, ra⟩ := lookX_lst k r1 e1
    obtain ⟨b, us, rfl, hb, rb⟩ := lookX_lst k r2 e2
    obtain ⟨c, h⟩ := post_if h
    exact .inr (.inr (.inl ⟨a, b, vs, us, rfl, rfl, ha, hb, by rw [ra.length, rb.length]; exact big_le c, fun p hp => post_mkL k (ra.append rb) h hp⟩))
  · rename_i xs ys e1 e2
    obtain ⟨rfl, a, vs, rfl, ha, _, ra⟩ := lookX_tup k r1 e1
    obtain ⟨rfl, b, us, rfl, hb, _, rb⟩ := lookX_tup k r2 e2
    obtain ⟨c, h⟩ := post_if h
    refine .inr (.inr (.inr ⟨a, b, vs, us, rfl, rfl, .inl (.inl ha), .inl (.inl hb), by rw [ra.length, rb.length]; exact big_le c, fun e => ?_, fun e e' => ?_, fun e e' p hp => post_tup k (ra.append rb) h hp⟩))
    · subst e
      cases ra
      exact post_ok k r2 h
    · subst e'
      cases rb
      rw [List.append_nil] at h
      exact post_ok k r1 h
  · exact h.elim
theorem ops_sub : OpS ca (rI0 fun i j => .int (i - j)) fSub := fun w O H x y dx dy W σ Q k r1 r2 h => by
  unfold fSub at h
  split at h
  · cases r1
    cases r2
    exact ⟨_, _, rfl, rfl, post_ok k (.int _) h⟩
  · exact h.elim
theorem ops_mul : OpS ca (rI CMul fun i j => .int (i * j)) fMul := fun w O H x y dx dy W σ Q k r1 r2 h => by
  unfold fMul at h
  split at h
  · cases r1
    cases r2
    obtain ⟨c, h⟩ := post_if h
    exact ⟨_, _, rfl, rfl, c, post_ok k (.int _) h⟩
  · exact h.elim
theorem ops_div : OpS ca (rI CDiv fun i j => .int (i / j)) fDiv := fun w O H x y dx dy W σ Q k r1 r2 h => by
  unfold fDiv at h
  split at h
  · cases r1
    cases r2
    obtain ⟨c, h⟩ := post_if h
    exact ⟨_, _, rfl, rfl, c, post_ok k (.int _) h⟩
  · exact h.elim
theorem ops_mod : OpS ca (rI (fun _ j => 0 < j) fun i j => .int (i % j)) fMod := fun w O H x y dx dy W σ Q k r1 r2 h => by
  unfold fMod at h
  split at h
  · cases r1
    cases r2
    obtain ⟨c, h⟩ := post_if h
    exact ⟨_, _, rfl, rfl, c, post_ok k (.int _) h⟩
  · exact h.elim
theorem ip_addI : IpS ca (ipI fun i j => i + j) fAddI := fun w O H x y dx dy W σ Q k r1 r2 h => by
  unfold fAddI at h
  split at h
  · cases r1
    cases r2
    exact ⟨_, _, rfl, rfl, post_ok k (.int _) h⟩
  · exact h.elim
end

/-! ### < <= > >= is in -/
def ltS (a b : Str) : Bool := decide (a.cps.toList < b.cps.toList)
def fLt (x y : D) (O : Sto) : Res := match x, y with
  | .int i, .int j => .ok (.bl (decide (i < j))) O
  | .str i, .str j => .ok (.bl (ltS i j)) O
  | _, _ => .stuck
def fLe (x y : D) (O : Sto) : Res := match x, y with
  | .int i, .int j => .ok (.bl (decide (i ≤ j))) O
  | .str i, .str j => .ok (.bl (!ltS j i)) O
  | _, _ => .stuck
def fGt (x y : D) (O : Sto) : Res := match x, y with
  | .int i, .int j => .ok (.bl (decide (j < i))) O
  | .str i, .str j => .ok (.bl (ltS j i)) O
  | _, _ => .stuck
def fGe (x y : D) (O : Sto) : Res := match x, y with
  | .int i, .int j => .ok (.bl (decide (j ≤ i))) O
  | .str i, .str j => .ok (.bl (!ltS i j)) O
  | _, _ => .stuck
def isNon : D → Bool
  | .non => true
  | _ => false
def fIs (x y : D) (O : Sto) : Res := match y with
  | .non => .ok (.bl (isNon x)) O
  | _ => .stuck
def fIsNot (x y : D) (O : Sto) : Res := match y with
  | .non => .ok (.bl (!isNon x)) O
  | _ => .stuck
def flatD : D → Bool
  | .non => true
  | .bl _ => true
  | .int _ => true
  | .str _ => true
  | _ => false
def eqF : D → D → Bool
  | .non, .non => true
  | .bl a, .bl b => a == b
  | .bl a, .int b => (if a then 1 else 0) == b
  | .int a, .bl b => a == (if b then 1 else 0)
  | .int a, .int b => a == b
  | .str a, .str b => a == b
  | _, _ => false
def inD (x : D) (xs : List D) : Bool := xs.any fun y => eqF y x
def subS (t s : Str) : Bool := !(Builtin.Str.occurrences s t 0 s.length 1).isEmpty
section
variable {ca : Cn} {X : Cx}
abbrev rLt : R2 := fun x y H Q => rI0 (fun i j => .bl (decide (i < j))) x y H Q ∨ ∃ i j, x = .str i ∧ y = .str j ∧ Q (.bl (decide (i.cps.toList < j.cps.toList))) H
abbrev rLe : R2 := fun x y H Q => rI0 (fun i j => .bl (decide (i ≤ j))) x y H Q ∨ ∃ i j, x = .str i ∧ y = .str j ∧ Q (.bl (!decide (j.cps.toList < i.cps.toList))) H
abbrev rGt : R2 := fun x y H Q => rI0 (fun i j => .bl (decide (j < i))) x y H Q ∨ ∃ i j, x = .str i ∧ y = .str j ∧ Q (.bl (decide (j.cps.toList < i.cps.toList))) H
abbrev rGe : R2 := fun x y H Q => rI0 (fun i j => .bl (decide (j ≤ i))) x y H Q ∨ ∃ i j, x = .str i ∧ y = .str j ∧ Q (.bl (!decide (i.cps.toList < j.cps.toList))) H
theorem opr_lt : OpR X (compareOp .Lt) rLt := op_lt.or op_lt_str
theorem opr_le : OpR X (compareOp .LtE) rLe := op_le.or op_le_str
theorem opr_gt : OpR X (compareOp .Gt) rGt := op_gt.or op_gt_str
theorem opr_ge : OpR X (compareOp .GtE) rGe := op_ge.or op_ge_str
theorem ops_lt : OpS ca rLt fLt := fun w O H x y dx dy W σ Q k r1 r2 h => by
  unfold fLt at h
  split at h
  · cases r1; cases r2; exact .inl ⟨_, _, rfl, rfl, post_ok k (.bl _) h⟩
  · cases r1; cases r2; exact .inr ⟨_, _, rfl, rfl, post_ok k (.bl _) h⟩
  · exact h.elim
theorem ops_le : OpS ca rLe fLe := fun w O H x y dx dy W σ Q k r1 r2 h => by
  unfold fLe at h
  split at h
  · cases r1; cases r2; exact .inl ⟨_, _, rfl, rfl, post_ok k (.bl _) h⟩
  · cases r1; cases r2; exact .inr ⟨_, _, rfl, rfl, post_ok k (.bl _) h⟩
  · exact h.elim
theorem ops_gt : OpS ca rGt fGt := fun w O H x y dx dy W σ Q k r1 r2 h => by
  unfold fGt at h
  split at h
  · cases r1; cases r2; exact .inl ⟨_, _, rfl, rfl, post_ok k (.bl _) h⟩
  · cases r1; cases r2; exact .inr ⟨_, _, rfl, rfl, post_ok k (.bl _) h⟩
  · exact h.elim
theorem ops_ge : OpS ca rGe fGe := fun w O H x y dx dy W σ Q k r1 r2 h => by
  unfold fGe at h
  split at h
  · cases r1; cases r2; exact .inl ⟨_, _, rfl, rfl, post_ok k (.bl _) h⟩
  · cases r1; cases r2; exact .inr ⟨_, _, rfl, rfl, post_ok k (.bl _) h⟩
  · exact h.elim
theorem isNon_dec {w : Wd} {v : V} {d : D} (r : Rep ca w v d) : decide (v = V.non) = isNon d := by
  cases r <;> first | rfl | exact decide_eq_false (fun z => nomatch z)
theorem ops_is : OpS ca (fun x y H Q => y = .non ∧ Q (.bl (decide (x = .non))) H) fIs := fun w O H x y dx dy W σ Q k r1 r2 h => by
  unfold fIs at h
  split at h
  · cases r2
    refine ⟨rfl, ?_⟩
    rw [isNon_dec r1]
    exact post_ok k (.bl _) h
  · exact h.elim
theorem ops_isnot : OpS ca (fun x y H Q => y = .non ∧ Q (.bl (!decide (x = .non))) H) fIsNot := fun w O H x y dx dy W σ Q k r1 r2 h => by
  unfold fIsNot at h
  split at h
  · cases r2
    refine ⟨rfl, ?_⟩
    rw [isNon_dec r1]
    exact post_ok k (.bl _) h
  · exact h.elim
theorem flat_rep {w : Wd} {v : V} {d : D} (r : Rep ca w v d) (h : flatD d = true) : flatV v = true := by
  cases r <;> first | rfl | cases h
theorem flat_all {w : Wd} : ∀ {vs : List V} {ds : List D}, RepL ca w vs ds → ds.all flatD = true → vs.all flatV = true
  | _, _, .nil, _ => rfl
  | _, _, .cons h r, q => by
    rw [List.all_cons, Bool.and_eq_true] at q ⊢
    exact ⟨flat_rep h q.1, flat_all r q.2⟩
theorem eqV_rep {w : Wd} {v u : V} {d e : D} (r1 : Rep ca w v d) (r2 : Rep ca w u e) (h1 : flatD d = true) (h2 : flatD e = true) : eqV v u = eqF d e := by
  cases r1 <;> cases r2 <;> first | rfl | cases h1 | cases h2
theorem inV_rep {w : Wd} {x : V} {dx : D} (r : Rep ca w x dx) (h : flatD dx = true) : ∀ {vs : List V} {ds : List D}, RepL ca w vs ds → ds.all flatD = true → inV x vs = inD dx ds
  | _, _, .nil, _ => rfl
  | _, _, .cons h1 r1, q => by
    rw [List.all_cons, Bool.and_eq_true] at q
    have ih := inV_rep r h r1 q.2
    unfold inV inD at ih ⊢
    rw [List.any_cons, List.any_cons, ih, eqV_rep h1 r q.1 h]
end

/-! ### dicts: what is at a key -/
def keyD : D → Option Key
  | .int i => some (.inl i)
  | .str s => some (.inr s)
  | _ => none
def keysD : List D → Option (List Key)
  | [] => some []
  | d :: ds => match keyD d, keysD ds with
    | some k, some ks => some (k :: ks)
    | _, _ => none
def getK {κ : Type} [DecidableEq κ] (kvs : List (κ × D)) (k : κ) : Option D := (kvs.find? fun kv => decide (kv.1 = k)).map (·.2)
def setK {κ : Type} [DecidableEq κ] (kvs : List (κ × D)) (k : κ) (d : D) : List (κ × D) := if (kvs.any fun kv => decide (kv.1 = k)) = true then kvs.map fun kv => if kv.1 = k then (k, d) else kv else kvs ++ [(k, d)]
/-- what a dict holds at a key: none: the key or the dict is no such thing -/
def dGetD (O : Sto) (d key : D) : Option (Option D) := match look O d with
  | .dic kvs => (keyD key).map fun k => getK kvs k
  | .dit kvs => match key with
    | .tup ds => (keysD ds).map fun k => getK kvs k
    | _ => none
  | _ => none
section
variable {ca : Cn} {w : Wd} {O : Sto} {H : Hp}
theorem keyD_rep {v : V} {d : D} {k : Key} (r : Rep ca w v d) (h : keyD d = some k) : v = kV k := by
  cases r <;> first | (cases h; rfl) | cases h
theorem keysD_rep : ∀ {vs : List V} {ds : List D} {ks : List Key}, RepL ca w vs ds → keysD ds = some ks → vs = ks.map kV
  | _, _, _, .nil, h => by
    cases h
    rfl
  | _, _, _, .cons h1 r1, h => by
    unfold keysD at h
    split at h
    · rename_i k ks e1 e2
      cases h
      rw [keyD_rep h1 e1, keysD_rep r1 e2]
      rfl
    · cases h
/-- the value at a key, both sides -/
def RelGet (ca : Cn) (w : Wd) : Option V → Option D → Prop
  | some v, some d => Rep ca w v d
  | none, none => True
  | _, _ => False
theorem getK_rep (k : Key) : ∀ {vs : List (Key × V)} {ds : List (Key × D)}, RepK ca w vs ds → RelGet ca w (valV vs k) (getK ds k)
  | _, _, .nil => trivial
  | _, _, .cons (k := k') h r => by
    unfold valV getK
    by_cases e : k' = k
    · rw [List.find?_cons_of_pos (by simpa using e), List.find?_cons_of_pos (by simpa using e)]
      exact h
    · rw [List.find?_cons_of_neg (by simpa using e), List.find?_cons_of_neg (by simpa using e)]
      exact getK_rep k r
theorem getT_rep (k : List Key) : ∀ {vs : List (List Key × V)} {ds : List (List Key × D)}, RepT ca w vs ds → RelGet ca w (valV vs k) (getK ds k)
  | _, _, .nil => trivial
  | _, _, .cons (k := k') h r => by
    unfold valV getK
    by_cases e : k' = k
    · rw [List.find?_cons_of_pos (by simpa using e), List.find?_cons_of_pos (by simpa using e)]
      exact h
    · rw [List.find?_cons_of_neg (by simpa using e), List.find?_cons_of_neg (by simpa using e)]
      exact getT_rep k r
theorem dget_rep (k : Ok ca w O H) {x y : V} {dx dy : D} {o : Option D} (r1 : Rep ca w x dx) (r2 : Rep ca w y dy) (h : dGetD O dx dy = some o) : ∃ a vo, x = .ref a ∧ IsD H a ∧ DGet H a y vo ∧ RelGet ca w vo o := by
  unfold dGetD at h
  split at h
  · rename_i kvs e
    obtain ⟨a, vs, rfl, ha, rk⟩ := look_dic k r1 e
    cases q : keyD dy with
    | none => rw [q] at h; cases h
    | some key =>
      rw [q] at h
      cases h
      exact ⟨a, valV vs key, rfl, .inl ⟨_, ha⟩, .inl ⟨vs, key, ha, keyD_rep r2 q, rfl⟩, getK_rep key rk⟩
  · rename_i kvs e
    obtain ⟨a, vs, rfl, ha, rk⟩ := look_dit k r1 e
    split at h
    · rename_i ds
      cases q : keysD ds with
      | none => rw [q] at h; cases h
      | some key =>
        rw [q] at h
        cases h
        cases r2 with
        | tup hF rl =>
          have := keysD_rep rl q
          subst this
          exact ⟨a, valV vs key, rfl, .inr ⟨_, ha⟩, .inr ⟨vs, key, _, ha, rfl, k.ext.tup hF, rfl⟩, getT_rep key rk⟩
    · cases h
  · cases h
end
end Yk

set_option Elab.async false
set_option linter.all false
set_option maxRecDepth 100000
set_option maxHeartbeats 1000000
/-! Yk: subscripts, slices, in, built-ins, methods, stores. -/
namespace Yk
open PySem L2

section
variable {ca : Cn} {W : WX} {X : Cx} {a b c e o i v : Expr} {es : List Expr} {ma mb mc : DTE} {mr : DTA} {pos : Pos}
theorem PT.or {t u : TT} (h : PT X e t) (g : PT X e u) : PT X e (fun σ H Q => t σ H Q ∨ u σ H Q) := ⟨fun pins s σ H Q I q => by
  rcases q with q | q
  · exact h.run pins s σ H Q I q
  · exact g.run pins s σ H Q I q⟩
theorem PS.or {st : Stmt} {t u : TS} (h : PS X st t) (g : PS X st u) : PS X st (fun D σ H => t D σ H ∨ u D σ H) := ⟨fun pins s σ H D I q => by
  rcases q with q | q
  · exact h.run pins s σ H D I q
  · exact g.run pins s σ H D I q⟩

/-! ### a[i] -/
def fIx (x y : D) (O : Sto) : Res := match dGetD O x y with
  | some (some d) => .ok d O
  | some none => .stuck
  | none => match look O x, y with
    | .lst ds, .int i => (match atI ds i with
      | some d => .ok d O
      | none => .stuck)
    | .tup ds, .int i => (match atI ds i with
      | some d => .ok d O
      | none => .stuck)
    | .str s, .int i => (match atI s.cps.toList i with
      | some c => if s.length ≤ 1000000 then .ok (.str ⟨#[c]⟩) O else .stuck
      | none => .stuck)
    | _, _ => .stuck
theorem atI_rep {w : Wd} {vs : List V} {ds : List D} (r : RepL ca w vs ds) {j : Int} {d : D} (h : atI ds j = some d) : ∃ v, atI vs j = some v ∧ Rep ca w v d := by
  unfold atI at h ⊢
  rw [r.length]
  cases q : ixN ds.length j with
  | none => rw [q] at h; cases h
  | some m =>
    rw [q] at h
    exact r.getD h
theorem de_ix (hu : X.A.units + 1 < cLine) (ha : DE ca W X a ma) (hb : DE ca W X b mb) (hs : PlainIx b) (hK : ca.K = X.K := by rfl) : DE ca W X (.Subscript a b pos) (dOp fIx ma mb) := by
  obtain ⟨ta, pa, sa⟩ := ha
  obtain ⟨tb, pb, sb⟩ := hb
  refine ⟨_, PE.or (pe_dget hu pa pb hs) (pe_ix ix_seq pa pb hs), fun w O H σ ρ Q k re h => ?_⟩
  unfold dOp at h
  cases z1 : ma ρ O with
  | stuck => rw [z1] at h; exact h.elim
  | exc c fs O1 =>
    rw [z1] at h
    exact .inl (sa w O H σ ρ _ k re (by rw [z1]; exact h))
  | ok x O1 =>
    rw [z1] at h
    simp only [Res.bind] at h
    cases z2 : mb ρ O1 with
    | stuck => rw [z2] at h; exact h.elim
    | exc c fs O2 =>
      rw [z2] at h
      refine .inl (sa w O H σ ρ _ k re ?_)
      rw [z1]
      exact fun v w1 H1 l1 k1 r1 => sb w1 O1 H1 σ ρ _ k1 (re.mono l1) (by rw [z2]; exact Post.mono (r := .exc c fs O2) (Q := fun _ _ => True) l1 h)
    | ok y O2 =>
      rw [z2] at h
      simp only at h
      unfold fIx at h
      cases q : dGetD O2 x y with
      | some o =>
        rw [q] at h
        cases o with
        | none => exact h.elim
        | some d =>
          refine .inl (sa w O H σ ρ _ k re ?_)
          rw [z1]
          intro v w1 H1 l1 k1 r1
          refine sb w1 O1 H1 σ ρ _ k1 (re.mono l1) ?_
          rw [z2]
          intro u w2 H2 l2 k2 r2
          obtain ⟨p, vo, e1, _, e2, e3⟩ := dget_rep k2 (r1.mono l2) r2 q
          cases vo with
          | none => exact e3.elim
          | some vv => exact ⟨p, vv, e1, e2, post_ok k2 e3 (Post.mono (l1.trans l2) h)⟩
      | none =>
        rw [q] at h
        simp only at h
        refine .inr (sa w O H σ ρ _ k re ?_)
        rw [z1]
        intro v w1 H1 l1 k1 r1
        refine sb w1 O1 H1 σ ρ _ k1 (re.mono l1) ?_
        rw [z2]
        intro u w2 H2 l2 k2 r2
        replace h := Post.mono (l1.trans l2) h
        split at h
        · rename_i ds j e1
          obtain ⟨p, vs, rfl, hp, rl⟩ := look_lst k2 (r1.mono l2) e1
          cases r2
          cases q2 : atI ds j with
          | none => rw [q2] at h; exact h.elim
          | some d =>
            rw [q2] at h
            obtain ⟨vv, g1, g2⟩ := atI_rep rl q2
            exact .inl ⟨p, vs, j, vv, rfl, rfl, hK ▸ hp, g1, post_ok k2 g2 h⟩
        · rename_i ds j e1
          obtain ⟨p, vs, rfl, hp, _, rl⟩ := look_tup k2 (r1.mono l2) e1
          cases r2
          cases q2 : atI ds j with
          | none => rw [q2] at h; exact h.elim
          | some d =>
            rw [q2] at h
            obtain ⟨vv, g1, g2⟩ := atI_rep rl q2
            exact .inr (.inl ⟨p, vs, j, vv, rfl, rfl, .inl (.inl hp), g1, post_ok k2 g2 h⟩)
        · rename_i s j e1
          have e3 := (look_flat (O := O2) (r1.mono l2)).2.2.2 s e1
          subst e3
          cases r2
          cases q2 : atI s.cps.toList j with
          | none => rw [q2] at h; exact h.elim
          | some d =>
            rw [q2] at h
            obtain ⟨c, h⟩ := post_if h
            exact .inr (.inr ⟨s, j, d, rfl, rfl, big_le c, q2, post_ok k2 (.str _) h⟩)
        · exact h.elim

/-! ### a[i:j] -/
def cutD (ds : List D) (lo hi : Option Int) : List D := (ds.drop (HT.sIx ds.length 0 lo)).take (HT.sIx ds.length ds.length hi - HT.sIx ds.length 0 lo)
theorem cut_rep {w : Wd} {vs : List V} {ds : List D} (r : RepL ca w vs ds) (lo hi : Option Int) : RepL ca w (cutV vs lo hi) (cutD ds lo hi) := by
  unfold cutV cutD
  rw [r.length]
  exact (r.drop _).take _
def fSl (own : Bool) (x : D) (lo hi : Option Int) (O : Sto) : Res := match look O x with
  | .lst ds => mkL own (cutD ds lo hi) O
  | .tup ds => .ok (.tup (cutD ds lo hi)) O
  | .str s => if s.length ≤ 1000000 then .ok (.str (cutS s lo hi)) O else .stuck
  | _ => .stuck
abbrev rSlAll (K : PySem.W.Frag) : V → Option Int → Option Int → Hp → VK → Prop := fun x lo hi H Q => rSlL K x lo hi H Q ∨ (rSlA K x lo hi H Q ∨ rSlS x lo hi H Q)
theorem sl_all : SlR X (rSlAll X.K) := SlR.or sl_list (SlR.or sl_tupA sl_str)
/-- a part of a slice: none, or an int -/
abbrev DTO := Env' → Sto → Option (Option (D × Sto)) 
inductive ResO where
  | ok (i : Option Int) (O : Sto) | exc (c : Str) (fs : List (Str × D)) (O : Sto) | stuck
def PostO (ca : Cn) (w : Wd) (W : WX) (σ : L2.St) (Q : Option Int → Hp → Prop) : ResO → Prop
  | .ok i O' => ∀ w' H', w.le w' → Ok ca w' O' H' → Q i H'
  | .exc c fs O' => ∀ cv dx w' H', w.le w' → Ok ca w' O' H' → RepX ca w' H' c fs cv dx → W cv dx σ H'
  | .stuck => False
def SndO (ca : Cn) (W : WX) (t : TO) (m : Env' → Sto → ResO) : Prop := ∀ w O H σ ρ Q, Ok ca w O H → RepE ca w σ ρ → PostO ca w W σ Q (m ρ O) → t σ H Q
def DO (ca : Cn) (W : WX) (X : Cx) (e : Option Expr) (m : Env' → Sto → ResO) : Prop := ∃ t, PO X e t ∧ SndO ca W t m
def dNoP : Env' → Sto → ResO := fun _ O => .ok none O
def dPart (m : DTE) : Env' → Sto → ResO := fun ρ O => match m ρ O with
  | .ok (.int i) O1 => .ok (some i) O1
  | .ok _ _ => .stuck
  | .exc c fs O1 => .exc c fs O1
  | .stuck => .stuck
def dSl (own : Bool) (m : DTE) (lo hi : Env' → Sto → ResO) : DTE := fun ρ O => (m ρ O).bind fun x O1 => match lo ρ O1 with
  | .ok l O2 => (match hi ρ O2 with
    | .ok u O3 => fSl own x l u O3
    | .exc c fs O3 => .exc c fs O3
    | .stuck => .stuck)
  | .exc c fs O2 => .exc c fs O2
  | .stuck => .stuck
theorem do_none : DO ca W X none dNoP := ⟨_, po_none, fun w O H σ ρ Q k re h => h w H (Wd.le.refl w) k⟩
theorem do_some (h : DE ca W X e ma) : DO ca W X (some e) (dPart ma) := by
  obtain ⟨t, pt, sp⟩ := h
  refine ⟨_, po_some pt, fun w O H σ ρ Q k re h => ?_⟩
  unfold dPart at h
  refine sp w O H σ ρ _ k re ?_
  cases z : ma ρ O with
  | stuck => rw [z] at h; exact h.elim
  | exc c fs O1 => rw [z] at h; exact h
  | ok d O1 =>
    rw [z] at h
    intro v w1 H1 l1 k1 r1
    cases r1 with
    | int j => exact ⟨j, rfl, h w1 H1 l1 k1⟩
    | _ => exact h.elim
theorem de_slice {lo hi : Option Expr} {ml mh : Env' → Sto → ResO} {p2 : Pos} (own : Bool) (he : DE ca W X e ma) (hl : DO ca W X lo ml) (hh : DO ca W X hi mh) (hK : ca.K = X.K := by rfl) : DE ca W X (.Subscript e (.Slice lo hi none p2) pos) (dSl own ma ml mh) := by
  obtain ⟨ta, pa, sa⟩ := he
  obtain ⟨tl, pl, sl⟩ := hl
  obtain ⟨th, ph, sh⟩ := hh
  refine ⟨_, pe_slice sl_all pa pl ph, fun w O H σ ρ Q k re h => ?_⟩
  refine sa w O H σ ρ _ k re (Post.bind h fun x O1 v w1 H1 l1 k1 r1 h1 => ?_)
  refine sl w1 O1 H1 σ ρ _ k1 (re.mono l1) ?_
  cases z : ml ρ O1 with
  | stuck => rw [z] at h1; exact h1.elim
  | exc c fs O2 => rw [z] at h1; exact h1
  | ok l O2 =>
    rw [z] at h1
    intro w2 H2 l2 k2
    refine sh w2 O2 H2 σ ρ _ k2 (re.mono (l1.trans l2)) ?_
    have h2 := Post.mono l2 h1
    cases z2 : mh ρ O2 with
    | stuck => simp only [z2] at h2; exact h2.elim
    | exc c fs O3 => simp only [z2] at h2; exact h2
    | ok u O3 =>
      simp only [z2] at h2
      intro w3 H3 l3 k3
      have h3 := Post.mono l3 h2
      have r3 := r1.mono (l2.trans l3)
      unfold fSl at h3
      split at h3
      · rename_i ds e1
        obtain ⟨p, vs, rfl, hp, rl⟩ := look_lst k3 r3 e1
        exact .inl ⟨p, vs, rfl, hK ▸ hp, fun q hq => post_mkL k3 (cut_rep rl l u) h3 hq⟩
      · rename_i ds e1
        obtain ⟨p, vs, rfl, hp, hF, rl⟩ := look_tup k3 r3 e1
        refine .inr (.inl ⟨p, vs, rfl, .inl (.inl hp), fun hw => ?_, fun _ q hq => post_tup k3 (cut_rep rl l u) h3 hq⟩)
        have : cutD ds l u = ds := by
          rw [rl.length] at hw
          unfold cutD
          rw [hw.1, hw.2]
          simp
        rw [this] at h3
        exact post_ok k3 (.tup hF rl) h3
      · rename_i s e1
        have e3 := (look_flat (O := O3) r3).2.2.2 s e1
        subst e3
        obtain ⟨c, h3⟩ := post_if h3
        exact .inr (.inr ⟨s, rfl, big_le c, post_ok k3 (.str _) h3⟩)
      · exact h3.elim

/-! ### in, not in -/
def inRes (x y : D) (O : Sto) : Option Bool := match dGetD O y x with
  | some o => some o.isSome
  | none => match look O y, x with
    | .lst ds, x => if flatD x = true ∧ ds.all flatD = true then some (inD x ds) else none
    | .tup ds, x => if flatD x = true ∧ ds.all flatD = true then some (inD x ds) else none
    | .str s, .str t => some (subS t s)
    | _, _ => none
def fIn (x y : D) (O : Sto) : Res := match inRes x y O with
  | some b => .ok (.bl b) O
  | none => .stuck
def fNotIn (x y : D) (O : Sto) : Res := match inRes x y O with
  | some b => .ok (.bl (!b)) O
  | none => .stuck
theorem in_seq {neg : Bool} {w : Wd} {O : Sto} {H : Hp} {x y : V} {dx dy : D} {σ : L2.St} {Q : VK} (k : Ok ca w O H) (r1 : Rep ca w x dx) (r2 : Rep ca w y dy) (q : dGetD O dy dx = none) (h : Post ca w W σ Q (match inRes dx dy O with
    | some b => .ok (.bl (if neg then !b else b)) O
    | none => .stuck)) : rIn ca.K neg x y H Q ∨ ∃ i j, x = .str i ∧ y = .str j ∧ Q (.bl (if neg then !subS i j else subS i j)) H := by
  cases z : inRes dx dy O with
  | none => rw [z] at h; exact h.elim
  | some b =>
    rw [z] at h
    have fin : Q (.bl (if neg then !b else b)) H := post_ok k (.bl _) h
    unfold inRes at z
    rw [q] at z
    simp only at z
    split at z
    · rename_i ds e1
      obtain ⟨p, vs, rfl, hp, rl⟩ := look_lst k r2 e1
      split at z
      · rename_i c
        cases z
        exact .inl ⟨p, vs, rfl, .inl hp, flat_rep r1 c.1, flat_all rl c.2, by rw [inV_rep r1 c.1 rl c.2]; exact fin⟩
      · cases z
    · rename_i ds e1
      obtain ⟨p, vs, rfl, hp, _, rl⟩ := look_tup k r2 e1
      split at z
      · rename_i c
        cases z
        exact .inl ⟨p, vs, rfl, .inr (.inl (.inl hp)), flat_rep r1 c.1, flat_all rl c.2, by rw [inV_rep r1 c.1 rl c.2]; exact fin⟩
      · cases z
    · rename_i s t e1
      have e3 := (look_flat (O := O) r2).2.2.2 s e1
      subst e3
      cases r1
      cases z
      exact .inr ⟨_, _, rfl, rfl, fin⟩
    · cases z
/-! comparisons as values and as tests -/
def DC (ca : Cn) (W : WX) (X : Cx) (op : CmpOp) (a b : Expr) (m : DTE) : Prop := ∃ t, PC X op a b t ∧ SndE ca W t m
theorem PC.or {op : CmpOp} {t u : TE} (h : PC X op a b t) (g : PC X op a b u) : PC X op a b (fun σ H Q => t σ H Q ∨ u σ H Q) := ⟨fun pins s σ H Q I q => by
  rcases q with q | q
  · exact h.run pins s σ H Q I q
  · exact g.run pins s σ H Q I q⟩
theorem pc_of {op : CmpOp} {r : R2} {ta tb : TE} (ho : OpR X (compareOp op) r) (ha : PE X a ta) (hb : PE X b tb) : PC X op a b (tOp r ta tb) := ⟨fun pins s σ H Q I h =>
  binT ha hb I h fun v u s2 x y H2 I2 rx ry q => ho pins s2 σ H2 x y v u Q I2 rx ry q⟩
theorem dc_op {op : CmpOp} {r : R2} {f : D → D → Sto → Res} (ho : OpR X (compareOp op) r) (hf : OpS ca r f) (ha : DE ca W X a ma) (hb : DE ca W X b mb) : DC ca W X op a b (dOp f ma mb) := by
  obtain ⟨ta, pa, sa⟩ := ha
  obtain ⟨tb, pb, sb⟩ := hb
  refine ⟨_, pc_of ho pa pb, fun w O H σ ρ Q k re h => ?_⟩
  refine sa w O H σ ρ _ k re (Post.bind h fun d O1 v w1 H1 l1 k1 r1 h1 => ?_)
  refine sb w1 O1 H1 σ ρ _ k1 (re.mono l1) (Post.bind h1 fun d2 O2 v2 w2 H2 l2 k2 r2 h2 => ?_)
  exact hf w2 O2 H2 _ _ _ _ W σ Q k2 (r1.mono l2) r2 h2
theorem DC.ee {op : CmpOp} {m : DTE} (h : DC ca W X op a b m) (hm : behindInMarks op b = false := by first | exact nomark _ | rfl) : DE ca W X (.Compare a [op] [b] pos) m := by
  obtain ⟨t, pt, sp⟩ := h
  exact ⟨_, pe_cmp pt hm, sp⟩
theorem DC.tt {op : CmpOp} {m : DTE} (h : DC ca W X op a b m) (hm : behindInMarks op b = false := by first | exact nomark _ | rfl) : DT ca W X (.Compare a [op] [b] pos) (dVal m) := by
  obtain ⟨t, pt, sp⟩ := h
  refine ⟨_, pt_cmp pt hm, fun w O H σ ρ Q k re h => ?_⟩
  refine sp w O H σ ρ _ k re (Post.bindB h fun d O1 v w1 H1 l1 k1 r1 h1 => ?_)
  cases r1 with
  | bl b => exact ⟨b, rfl, h1 w1 H1 (Wd.le.refl _) k1⟩
  | _ => exact h1.elim
/-- the dict's rule as an operator's -/
theorem dc_in (hu : X.A.units + 1 < cLine) (hK : ca.K = X.K := by rfl) : (DE ca W X a ma → DE ca W X b mb → DC ca W X .In a b (dOp fIn ma mb)) := fun ha hb => by
  obtain ⟨ta, pa, sa⟩ := ha
  obtain ⟨tb, pb, sb⟩ := hb
  refine ⟨_, PC.or (pc_din hu pa pb) (pc_of (op_in_seq.or op_in_str) pa pb), fun w O H σ ρ Q k re h => ?_⟩
  unfold dOp at h
  cases z1 : ma ρ O with
  | stuck => rw [z1] at h; exact h.elim
  | exc c fs O1 =>
    rw [z1] at h
    exact .inl (sa w O H σ ρ _ k re (by rw [z1]; exact h))
  | ok x O1 =>
    rw [z1] at h
    simp only [Res.bind] at h
    cases z2 : mb ρ O1 with
    | stuck => rw [z2] at h; exact h.elim
    | exc c fs O2 =>
      rw [z2] at h
      refine .inl (sa w O H σ ρ _ k re ?_)
      rw [z1]
      exact fun v w1 H1 l1 k1 r1 => sb w1 O1 H1 σ ρ _ k1 (re.mono l1) (by rw [z2]; exact Post.mono (r := .exc c fs O2) (Q := fun _ _ => True) l1 h)
    | ok y O2 =>
      rw [z2] at h
      simp only at h
      replace h : Post ca w W σ Q (match inRes x y O2 with
        | some b => .ok (.bl (if false then !b else b)) O2
        | none => .stuck) := by
        unfold fIn at h
        cases q : inRes x y O2 with
        | none => rw [q] at h; exact h
        | some b => rw [q] at h; exact h
      -- the choice by the data
      cases q : dGetD O2 y x with
      | some oo =>
        refine .inl (sa w O H σ ρ _ k re ?_)
        rw [z1]
        intro v w1 H1 l1 k1 r1
        refine sb w1 O1 H1 σ ρ _ k1 (re.mono l1) ?_
        rw [z2]
        intro u w2 H2 l2 k2 r2
        have h2 := Post.mono (l1.trans l2) h
        obtain ⟨p, vo, e1, _, e2, e3⟩ := dget_rep k2 r2 (r1.mono l2) q
        refine ⟨p, vo, e1, e2, ?_⟩
        have : vo.isSome = oo.isSome := by cases vo <;> cases oo <;> first | rfl | exact e3.elim
        rw [this]
        have q3 : inRes x y O2 = some oo.isSome := by unfold inRes; rw [q]
        rw [q3] at h2
        exact post_ok k2 (.bl _) h2
      | none =>
        refine .inr (sa w O H σ ρ _ k re ?_)
        rw [z1]
        intro v w1 H1 l1 k1 r1
        refine sb w1 O1 H1 σ ρ _ k1 (re.mono l1) ?_
        rw [z2]
        intro u w2 H2 l2 k2 r2
        have h2 := Post.mono (l1.trans l2) h
        rcases in_seq (neg := false) k2 (r1.mono l2) r2 q h2 with hd | hd
        · exact .inl (hK ▸ hd)
        · exact .inr hd

theorem dc_notin (hu : X.A.units + 1 < cLine) (hK : ca.K = X.K := by rfl) : (DE ca W X a ma → DE ca W X b mb → DC ca W X .NotIn a b (dOp fNotIn ma mb)) := fun ha hb => by
  obtain ⟨ta, pa, sa⟩ := ha
  obtain ⟨tb, pb, sb⟩ := hb
  refine ⟨_, PC.or (pc_dnotin hu pa pb) (pc_of (op_notIn_seq.or op_notin_str) pa pb), fun w O H σ ρ Q k re h => ?_⟩
  unfold dOp at h
  cases z1 : ma ρ O with
  | stuck => rw [z1] at h; exact h.elim
  | exc c fs O1 =>
    rw [z1] at h
    exact .inl (sa w O H σ ρ _ k re (by rw [z1]; exact h))
  | ok x O1 =>
    rw [z1] at h
    simp only [Res.bind] at h
    cases z2 : mb ρ O1 with
    | stuck => rw [z2] at h; exact h.elim
    | exc c fs O2 =>
      rw [z2] at h
      refine .inl (sa w O H σ ρ _ k re ?_)
      rw [z1]
      exact fun v w1 H1 l1 k1 r1 => sb w1 O1 H1 σ ρ _ k1 (re.mono l1) (by rw [z2]; exact Post.mono (r := .exc c fs O2) (Q := fun _ _ => True) l1 h)
    | ok y O2 =>
      rw [z2] at h
      simp only at h
      replace h : Post ca w W σ Q (match inRes x y O2 with
        | some b => .ok (.bl (if true then !b else b)) O2
        | none => .stuck) := by
        unfold fNotIn at h
        cases q : inRes x y O2 with
        | none => rw [q] at h; exact h
        | some b => rw [q] at h; exact h
      -- the choice by the data
      cases q : dGetD O2 y x with
      | some oo =>
        refine .inl (sa w O H σ ρ _ k re ?_)
        rw [z1]
        intro v w1 H1 l1 k1 r1
        refine sb w1 O1 H1 σ ρ _ k1 (re.mono l1) ?_
        rw [z2]
        intro u w2 H2 l2 k2 r2
        have h2 := Post.mono (l1.trans l2) h
        obtain ⟨p, vo, e1, _, e2, e3⟩ := dget_rep k2 r2 (r1.mono l2) q
        refine ⟨p, vo, e1, e2, ?_⟩
        have : vo.isSome = oo.isSome := by cases vo <;> cases oo <;> first | rfl | exact e3.elim
        rw [this]
        have q3 : inRes x y O2 = some oo.isSome := by unfold inRes; rw [q]
        rw [q3] at h2
        exact post_ok k2 (.bl _) h2
      | none =>
        refine .inr (sa w O H σ ρ _ k re ?_)
        rw [z1]
        intro v w1 H1 l1 k1 r1
        refine sb w1 O1 H1 σ ρ _ k1 (re.mono l1) ?_
        rw [z2]
        intro u w2 H2 l2 k2 r2
        have h2 := Post.mono (l1.trans l2) h
        rcases in_seq (neg := true) k2 (r1.mono l2) r2 q h2 with hd | hd
        · exact .inl (hK ▸ hd)
        · exact .inr hd
end
end Yk

set_option Elab.async false
set_option linter.all false
set_option maxRecDepth 100000
set_option maxHeartbeats 1000000
/-! Yk: built-ins, methods, stores. -/
namespace Yk
open PySem L2

section
variable {ca : Cn} {W : WX} {X : Cx} {a b c e o i v : Expr} {es : List Expr} {ma mb mc mo mv : DTE} {mr : DTA} {pos p : Pos} {x : Str}

/-! ### calls of built-ins -/
theorem de_cb {f : Value} {r : List V → Hp → VK → Prop} {g : List D → Sto → Res} (hp : ∀ {t : TA}, PA X es t → PE X (.Call (.Name x p) es [] pos) (tCB r t)) (hg : CallS ca r g) (ha : DA ca W X es mr) : DE ca W X (.Call (.Name x p) es [] pos) (dCB g mr) := by
  obtain ⟨t, pt, sp⟩ := ha
  refine ⟨_, hp pt, fun w O H σ ρ Q k re h => ?_⟩
  refine sp w O H σ ρ _ k re (PostL.bind h fun d O1 v w1 H1 l1 k1 r1 h1 => ?_)
  exact hg w1 O1 H1 _ _ W σ Q k1 r1 h1
def fLen (xs : List D) (O : Sto) : Res := match xs with
  | [x] => (match look O x with
    | .lst ds => .ok (.int (ds.length : Int)) O
    | .tup ds => .ok (.int (ds.length : Int)) O
    | .str s => if s.length ≤ 1000000 then .ok (.int (s.length : Int)) O else .stuck
    | _ => .stuck)
  | _ => .stuck
theorem one_rep {w : Wd} {vs : List V} {d : D} (r : RepL ca w vs [d]) : ∃ v, vs = [v] ∧ Rep ca w v d := by
  cases r with
  | cons h r => cases r; exact ⟨_, rfl, h⟩
theorem two_rep {w : Wd} {vs : List V} {d d' : D} (r : RepL ca w vs [d, d']) : ∃ v u, vs = [v, u] ∧ Rep ca w v d ∧ Rep ca w u d' := by
  cases r with
  | cons h r =>
    obtain ⟨u, rfl, h2⟩ := one_rep r
    exact ⟨_, u, rfl, h, h2⟩
theorem cs_len : CallS ca (fun xs H Q => ∃ x n, xs = [x] ∧ LenV ca.K x H n ∧ Q (.int n) H) fLen := fun w O H xs ds W σ Q k r h => by
  unfold fLen at h
  split at h
  · rename_i d
    obtain ⟨v, rfl, r1⟩ := one_rep r
    split at h
    · rename_i ds e1
      obtain ⟨q, vs, rfl, hp, rl⟩ := look_lst k r1 e1
      refine ⟨_, vs.length, rfl, .inl ⟨vs, hp, rfl⟩, ?_⟩
      rw [rl.length]
      exact post_ok k (.int _) h
    · rename_i ds e1
      obtain ⟨q, vs, rfl, hp, _, rl⟩ := look_tup k r1 e1
      refine ⟨_, vs.length, rfl, .inr ⟨vs, .inl (.inl hp), rfl⟩, ?_⟩
      rw [rl.length]
      exact post_ok k (.int _) h
    · rename_i s e1
      have e3 := (look_flat (O := O) r1).2.2.2 s e1
      subst e3
      obtain ⟨c, h⟩ := post_if h
      exact ⟨_, s.length, rfl, ⟨big_le c, rfl⟩, post_ok k (.int _) h⟩
    · exact h.elim
  · exact h.elim
def fList (own : Bool) (xs : List D) (O : Sto) : Res := match xs with
  | [x] => (match look O x with
    | .lst ds => mkL own ds O
    | .tup ds => mkL own ds O
    | _ => .stuck)
  | _ => .stuck
theorem cs_list (own : Bool) : CallS ca (fun xs H Q => ∃ p ys, xs = [.ref p] ∧ (SqL ca.K H p ys ∨ SqT ca.K H p ys) ∧ ∀ l, H l = none → Q (.ref l) (upd H l (.lst ys))) (fList own) := fun w O H xs ds W σ Q k r h => by
  unfold fList at h
  split at h
  · rename_i d
    obtain ⟨v, rfl, r1⟩ := one_rep r
    split at h
    · rename_i ds e1
      obtain ⟨q, vs, rfl, hp, rl⟩ := look_lst k r1 e1
      exact ⟨q, vs, rfl, .inl hp, fun l hl => post_mkL k rl h hl⟩
    · rename_i ds e1
      obtain ⟨q, vs, rfl, hp, _, rl⟩ := look_tup k r1 e1
      exact ⟨q, vs, rfl, .inr (.inl (.inl hp)), fun l hl => post_mkL k rl h hl⟩
    · exact h.elim
  · exact h.elim
def fTuple (xs : List D) (O : Sto) : Res := match xs with
  | [x] => (match look O x with
    | .lst ds => .ok (.tup ds) O
    | .tup ds => .ok (.tup ds) O
    | _ => .stuck)
  | _ => .stuck
theorem cs_tuple : CallS ca (fun xs H Q => ∃ p ys, xs = [.ref p] ∧ ((SqL ca.K H p ys ∧ ∀ l, H l = none → Q (.ref l) (upd H l (.tup ys))) ∨ (SqT ca.K H p ys ∧ Q (.ref p) H))) fTuple := fun w O H xs ds W σ Q k r h => by
  unfold fTuple at h
  split at h
  · rename_i d
    obtain ⟨v, rfl, r1⟩ := one_rep r
    split at h
    · rename_i ds e1
      obtain ⟨q, vs, rfl, hp, rl⟩ := look_lst k r1 e1
      exact ⟨q, vs, rfl, .inl ⟨hp, fun l hl => post_tup k rl h hl⟩⟩
    · rename_i ds e1
      obtain ⟨q, vs, rfl, hp, hF, rl⟩ := look_tup k r1 e1
      exact ⟨q, vs, rfl, .inr ⟨.inl (.inl hp), post_ok k (.tup hF rl) h⟩⟩
    · exact h.elim
  · exact h.elim
def fDict (own : Bool) (xs : List D) (O : Sto) : Res := match xs with
  | [x] => (match look O x with
    | .dic kvs => mkK own kvs O
    | _ => .stuck)
  | _ => .stuck
theorem cs_dict (own : Bool) : CallS ca (fun xs H Q => ∃ (a : Addr) (kvs : List (Key × V)), xs = [.ref a] ∧ Rd H a (.dK kvs) ∧ ∀ p, H p = none → Q (.ref p) (upd H p (.dK kvs))) (fDict own) := fun w O H xs ds W σ Q k r h => by
  unfold fDict at h
  split at h
  · rename_i d
    obtain ⟨v, rfl, r1⟩ := one_rep r
    split at h
    · rename_i ds e1
      obtain ⟨q, vs, rfl, hp, rl⟩ := look_dic k r1 e1
      exact ⟨q, vs, rfl, hp, fun l hl => post_mkK k rl h hl⟩
    · exact h.elim
  · exact h.elim
def fInt (xs : List D) (O : Sto) : Res := match xs with
  | [.int i] => .ok (.int i) O
  | [.bl b] => .ok (.int (if b then 1 else 0)) O
  | _ => .stuck
theorem cs_int : CallS ca (fun xs H Q => (∃ i, xs = [.int i] ∧ Q (.int i) H) ∨ ∃ k, xs = [.bl k] ∧ Q (.int (if k then 1 else 0)) H) fInt := fun w O H xs ds W σ Q k r h => by
  unfold fInt at h
  split at h
  · obtain ⟨v, rfl, r1⟩ := one_rep r
    cases r1
    exact .inl ⟨_, rfl, post_ok k (.int _) h⟩
  · obtain ⟨v, rfl, r1⟩ := one_rep r
    cases r1
    exact .inr ⟨_, rfl, post_ok k (.int _) h⟩
  · exact h.elim
def fStr (xs : List D) (O : Sto) : Res := match xs with
  | [.int i] => if i.natAbs.log2 < 1920 then .ok (.str (toString i)) O else .stuck
  | _ => .stuck
theorem cs_str : CallS ca (fun xs H Q => ∃ i, xs = [.int i] ∧ i.natAbs.log2 < 1920 ∧ Q (.str (toString i)) H) fStr := fun w O H xs ds W σ Q k r h => by
  unfold fStr at h
  split at h
  · obtain ⟨v, rfl, r1⟩ := one_rep r
    cases r1
    obtain ⟨c, h⟩ := post_if h
    exact ⟨_, rfl, c, post_ok k (.str _) h⟩
  · exact h.elim
def fMax2 (xs : List D) (O : Sto) : Res := match xs with
  | [.int i, .int j] => .ok (.int (if j > i then j else i)) O
  | _ => .stuck
def fMin2 (xs : List D) (O : Sto) : Res := match xs with
  | [.int i, .int j] => .ok (.int (if j < i then j else i)) O
  | _ => .stuck
theorem cs_max2 : CallS ca (fun xs H Q => ∃ i j, xs = [.int i, .int j] ∧ Q (.int (if j > i then j else i)) H) fMax2 := fun w O H xs ds W σ Q k r h => by
  unfold fMax2 at h
  split at h
  · obtain ⟨v, u, rfl, r1, r2⟩ := two_rep r
    cases r1
    cases r2
    exact ⟨_, _, rfl, post_ok k (.int _) h⟩
  · exact h.elim
theorem cs_min2 : CallS ca (fun xs H Q => ∃ i j, xs = [.int i, .int j] ∧ Q (.int (if j < i then j else i)) H) fMin2 := fun w O H xs ds W σ Q k r h => by
  unfold fMin2 at h
  split at h
  · obtain ⟨v, u, rfl, r1, r2⟩ := two_rep r
    cases r1
    cases r2
    exact ⟨_, _, rfl, post_ok k (.int _) h⟩
  · exact h.elim
def boolsD : List D → Option (List Bool)
  | [] => some []
  | .bl b :: r => (boolsD r).map (b :: ·)
  | _ => none
theorem bools_rep {w : Wd} : ∀ {vs : List V} {ds : List D} {bs : List Bool}, RepL ca w vs ds → boolsD ds = some bs → vs = bs.map V.bl
  | _, _, _, .nil, h => by
    cases h
    rfl
  | _, _, _, .cons h1 r1, h => by
    cases h1 with
    | bl b =>
      unfold boolsD at h
      rename_i vs ds
      cases q : boolsD ds with
      | none => rw [q] at h; cases h
      | some bs =>
        rw [q] at h
        cases h
        rw [bools_rep r1 q]
        rfl
    | _ => cases h
def fAll (xs : List D) (O : Sto) : Res := match xs with
  | [x] => (match look O x with
    | .lst ds => (match boolsD ds with
      | some bs => .ok (.bl (bs.all id)) O
      | none => .stuck)
    | _ => .stuck)
  | _ => .stuck
theorem cs_all : CallS ca (rAll ca.K) fAll := fun w O H xs ds W σ Q k r h => by
  unfold fAll at h
  split at h
  · rename_i d
    obtain ⟨v, rfl, r1⟩ := one_rep r
    split at h
    · rename_i ds e1
      obtain ⟨q, vs, rfl, hp, rl⟩ := look_lst k r1 e1
      cases z : boolsD ds with
      | none => rw [z] at h; exact h.elim
      | some bs =>
        rw [z] at h
        have := bools_rep rl z
        subst this
        exact ⟨q, bs, rfl, hp, post_ok k (.bl _) h⟩
    · exact h.elim
  · exact h.elim
def intsD : List D → Option (List Int)
  | [] => some []
  | .int b :: r => (intsD r).map (b :: ·)
  | _ => none
theorem ints_rep {w : Wd} : ∀ {vs : List V} {ds : List D} {bs : List Int}, RepL ca w vs ds → intsD ds = some bs → vs = bs.map V.int
  | _, _, _, .nil, h => by
    cases h
    rfl
  | _, _, _, .cons h1 r1, h => by
    cases h1 with
    | int b =>
      unfold intsD at h
      rename_i vs ds
      cases q : intsD ds with
      | none => rw [q] at h; cases h
      | some bs =>
        rw [q] at h
        cases h
        rw [ints_rep r1 q]
        rfl
    | _ => cases h
def fSum (xs : List D) (O : Sto) : Res := match xs with
  | [x] => (match look O x with
    | .lst ds => (match intsD ds with
      | some bs => .ok (.int bs.sum) O
      | none => .stuck)
    | _ => .stuck)
  | _ => .stuck
theorem cs_sum : CallS ca (rSum ca.K) fSum := fun w O H xs ds W σ Q k r h => by
  unfold fSum at h
  split at h
  · rename_i d
    obtain ⟨v, rfl, r1⟩ := one_rep r
    split at h
    · rename_i ds e1
      obtain ⟨q, vs, rfl, hp, rl⟩ := look_lst k r1 e1
      cases z : intsD ds with
      | none => rw [z] at h; exact h.elim
      | some bs =>
        rw [z] at h
        have := ints_rep rl z
        subst this
        exact ⟨q, bs, rfl, hp, post_ok k (.int _) h⟩
    · exact h.elim
  · exact h.elim

/-! ### isinstance with one built-in type -/
def tyName (O : Sto) (x : D) : Option String := match look O x with
  | .non => some "NoneType"
  | .bl _ => some "bool"
  | .int _ => some "int"
  | .str _ => some "str"
  | .lst _ => some "list"
  | .tup _ => some "tuple"
  | .dic _ => some "dict"
  | _ => none
def fIsT (xs : List D) (O : Sto) : Res := match xs with
  | [x, .ty n] => (match tyName O x with
    | some m => (match kitB m n with
      | some b => .ok (.bl b) O
      | none => .stuck)
    | none => .stuck)
  | _ => .stuck
theorem tyX_rep {w : Wd} {O : Sto} {H : Hp} (k : Ok ca w O H) {v : V} {d : D} (r : Rep ca w v d) {m : String} (h : tyName O d = some m) : TyX ca.K H v (.type m) := by
  unfold tyName at h
  obtain ⟨f1, f2, f3, f4⟩ := look_flat (O := O) r
  split at h <;> try (cases h; done)
  · rename_i e; cases h; rw [f1 e]; exact .base .non
  · rename_i e; cases h; rw [f2 _ e]; exact .base (.bl _)
  · rename_i e; cases h; rw [f3 _ e]; exact .base (.int _)
  · rename_i e; cases h; rw [f4 _ e]; exact .base (.str _)
  · rename_i e
    cases h
    obtain ⟨q, vs, rfl, hp, _⟩ := look_lst k r e
    rcases hp with (hp | ⟨o, hp⟩) | ⟨o, its, n, hp, hc, _⟩
    · exact .base (.lst hp)
    · exact .base (.frz hp)
    · exact .kList hp hc
  · rename_i e
    cases h
    obtain ⟨q, vs, rfl, hp, _⟩ := look_tup k r e
    exact .base (.tup hp)
  · rename_i e
    cases h
    obtain ⟨q, vs, rfl, hp, _⟩ := look_dic k r e
    rcases hp with hp | ⟨o, hp⟩
    · exact .base (.dK hp)
    · exact .fDict hp
theorem cs_isT : CallS ca (rIsi ca.K) fIsT := fun w O H xs ds W σ Q k r h => by
  unfold fIsT at h
  split at h
  · rename_i d n
    obtain ⟨v, u, rfl, r1, r2⟩ := two_rep r
    cases r2
    cases z : tyName O d with
    | none => rw [z] at h; exact h.elim
    | some m =>
      rw [z] at h
      simp only at h
      cases z2 : kitB m n with
      | none => rw [z2] at h; exact h.elim
      | some b =>
        rw [z2] at h
        exact ⟨v, _, .type m, .type n, b, rfl, .ty n, tyX_rep k r1 z, kit_ty z2, post_ok k (.bl _) h⟩
  · exact h.elim

/-! ### methods of lists -/
def dBMi (ok : Sto → D → Bool) (f : D → List D → Sto → Res) (o : DTE) (a : DTA) : DTE := fun ρ O => (o ρ O).bind fun x O1 => if ok O1 x = true then (a ρ O1).bind fun xs O2 => f x xs O2 else .stuck
/-- the receiver is a list, a text -/
def isL (O : Sto) (x : D) : Bool := match look O x with
  | .lst _ => true
  | _ => false
def isS (_ : Sto) (x : D) : Bool := match x with
  | .str _ => true
  | _ => false
def TyS (ca : Cn) (K : PySem.W.Frag) (T : String) (ok : Sto → D → Bool) : Prop := ∀ (w : Wd) (O : Sto) (H : Hp) (v : V) (d : D), Ok ca w O H → Rep ca w v d → ok O d = true → tyV K T v H
theorem ty_list : TyS ca ca.K "list" isL := fun w O H v d k r h => by
  unfold isL at h
  split at h
  · rename_i e
    obtain ⟨q, vs, rfl, hp, _⟩ := look_lst k r e
    exact .inl ⟨rfl, vs, hp⟩
  · cases h
theorem ty_str {K : PySem.W.Frag} : TyS ca K "str" isS := fun w O H v d k r h => by
  unfold isS at h
  split at h
  · cases r
    exact rfl
  · cases h
theorem de_bm {T : String} {ok : Sto → D → Bool} {r : V → List V → Hp → VK → Prop} {f : D → List D → Sto → Res} {name : Str} {apos : Pos} (hp : ∀ {to : TE} {t : TA}, PE X o to → PA X es t → PE X (.Call (.Attribute o name apos) es [] pos) (tBM X.K T r to t))
    (ty : TyS ca X.K T ok) (hf : MtS ca r f) (ho : DE ca W X o mo) (ha : DA ca W X es mr) : DE ca W X (.Call (.Attribute o name apos) es [] pos) (dBMi ok f mo mr) := by
  obtain ⟨to, po, so⟩ := ho
  obtain ⟨t, pt, sp⟩ := ha
  refine ⟨_, hp po pt, fun w O H σ ρ Q k re h => ?_⟩
  refine so w O H σ ρ _ k re (Post.bind h fun d O1 v w1 H1 l1 k1 r1 h1 => ?_)
  obtain ⟨c, h1⟩ := post_if h1
  refine ⟨ty w1 O1 H1 v d k1 r1 c, ?_⟩
  refine sp w1 O1 H1 σ ρ _ k1 (re.mono l1) (PostL.bind h1 fun d2 O2 v2 w2 H2 l2 k2 r2 h2 => ?_)
  exact hf w2 O2 H2 _ _ _ _ W σ Q k2 (r1.mono l2) r2 h2
/-- the same without arguments -/
def dBM0 (ok : Sto → D → Bool) (f : D → List D → Sto → Res) (o : DTE) : DTE := fun ρ O => (o ρ O).bind fun x O1 => if ok O1 x = true then f x [] O1 else .stuck
theorem de_bm0 {T : String} {ok : Sto → D → Bool} {r : V → List V → Hp → VK → Prop} {f : D → List D → Sto → Res} {name : Str} {apos : Pos} (hp : ∀ {to : TE}, PE X o to → PE X (.Call (.Attribute o name apos) [] [] pos) (tBM0 X.K T r to))
    (ty : TyS ca X.K T ok) (hf : MtS ca r f) (ho : DE ca W X o mo) : DE ca W X (.Call (.Attribute o name apos) [] [] pos) (dBM0 ok f mo) := by
  obtain ⟨to, po, so⟩ := ho
  refine ⟨_, hp po, fun w O H σ ρ Q k re h => ?_⟩
  refine so w O H σ ρ _ k re (Post.bind h fun d O1 v w1 H1 l1 k1 r1 h1 => ?_)
  obtain ⟨c, h1⟩ := post_if h1
  exact ⟨ty w1 O1 H1 v d k1 r1 c, hf w1 O1 H1 _ _ [] [] W σ Q k1 r1 .nil h1⟩
/-- the store's list at n -/
def ownL (O : Sto) (x : D) : Option (Nat × List D) := match x with
  | .loc n => (match O[n]? with
    | some (.lst ds) => some (n, ds)
    | _ => none)
  | _ => none
theorem ownL_rep {w : Wd} {O : Sto} {H : Hp} (k : Ok ca w O H) {v : V} {d : D} (r : Rep ca w v d) {n : Nat} {ds : List D} (h : ownL O d = some (n, ds)) : ∃ a vs, v = .ref a ∧ w.ad[n]? = some a ∧ O[n]? = some (.lst ds) ∧ H a = some (.lst vs) ∧ RepL ca w vs ds := by
  unfold ownL at h
  split at h
  · split at h
    · rename_i q
      cases h
      cases r with
      | loc hA =>
        obtain ⟨_, u, h2, h3⟩ := k.own _ _ _ hA q (fun z => nomatch z)
        cases h3 with
        | lst r => exact ⟨_, _, rfl, hA, q, h2, r⟩
    · cases h
  · cases h
def fAppend (x : D) (xs : List D) (O : Sto) : Res := match ownL O x, xs with
  | some (n, ds), [y] => if ds.length < 1000000 then .ok .non (O.set n (.lst (ds ++ [y]))) else .stuck
  | _, _ => .stuck
theorem ms_append : MtS ca rAppend fAppend := fun w O H x dx xs ds W σ Q k r1 r2 h => by
  unfold fAppend at h
  split at h
  · rename_i n ls y e
    obtain ⟨a, vs, rfl, hA, hO, hH, rl⟩ := ownL_rep k r1 e
    obtain ⟨u, rfl, ru⟩ := one_rep r2
    obtain ⟨c, h⟩ := post_if h
    have rn := rl.append (.cons ru .nil)
    exact ⟨a, vs, u, rfl, rfl, hH, by rw [rl.length]; exact big_lt c, h .non w _ (Wd.le.refl w) (k.setO hA hO (fun z => nomatch z) (k.lkFree hH rfl) (.lst rn)) .non⟩
  · exact h.elim
def fClear (x : D) (xs : List D) (O : Sto) : Res := match ownL O x, xs with
  | some (n, _), [] => .ok .non (O.set n (.lst []))
  | _, _ => .stuck
theorem ms_clear : MtS ca rClear fClear := fun w O H x dx xs ds W σ Q k r1 r2 h => by
  unfold fClear at h
  split at h
  · rename_i n ls e
    obtain ⟨a, vs, rfl, hA, hO, hH, rl⟩ := ownL_rep k r1 e
    cases r2
    exact ⟨a, vs, rfl, rfl, hH, h .non w _ (Wd.le.refl w) (k.setO hA hO (fun z => nomatch z) (k.lkFree hH rfl) (.lst .nil)) .non⟩
  · exact h.elim
def fReverse (x : D) (xs : List D) (O : Sto) : Res := match ownL O x, xs with
  | some (n, ds), [] => .ok .non (O.set n (.lst ds.reverse))
  | _, _ => .stuck
theorem ms_reverse : MtS ca rReverse fReverse := fun w O H x dx xs ds W σ Q k r1 r2 h => by
  unfold fReverse at h
  split at h
  · rename_i n ls e
    obtain ⟨a, vs, rfl, hA, hO, hH, rl⟩ := ownL_rep k r1 e
    cases r2
    exact ⟨a, vs, rfl, rfl, hH, h .non w _ (Wd.le.refl w) (k.setO hA hO (fun z => nomatch z) (k.lkFree hH rfl) (.lst rl.reverse)) .non⟩
  · exact h.elim
def fPop (x : D) (xs : List D) (O : Sto) : Res := match ownL O x, xs with
  | some (n, ds), [] => (match ds[ds.length - 1]? with
    | some d => .ok d (O.set n (.lst ds.dropLast))
    | none => .stuck)
  | _, _ => .stuck
theorem ms_pop : MtS ca rPop fPop := fun w O H x dx xs ds W σ Q k r1 r2 h => by
  unfold fPop at h
  split at h
  · rename_i n ls e
    obtain ⟨a, vs, rfl, hA, hO, hH, rl⟩ := ownL_rep k r1 e
    cases r2
    cases z : ls[ls.length - 1]? with
    | none => rw [z] at h; exact h.elim
    | some d =>
      rw [z] at h
      obtain ⟨u, e1, e2⟩ := rl.getD z
      exact ⟨a, vs, u, rfl, rfl, hH, by rw [rl.length]; exact e1, h u w _ (Wd.le.refl w) (k.setO hA hO (fun z => nomatch z) (k.lkFree hH rfl) (.lst rl.dropLast)) e2⟩
  · exact h.elim

def fInsert (x : D) (xs : List D) (O : Sto) : Res := .stuck
/-! ### dicts: get, pop, a store -/
def isDc (O : Sto) (x : D) : Bool := match look O x with
  | .dic _ => true
  | .dit _ => true
  | _ => false
theorem isDc_rep {w : Wd} {O : Sto} {H : Hp} (k : Ok ca w O H) {v : V} {d : D} (r : Rep ca w v d) (h : isDc O d = true) : ∃ a, v = .ref a ∧ IsD H a := by
  unfold isDc at h
  split at h
  · rename_i e
    obtain ⟨a, vs, rfl, ha, _⟩ := look_dic k r e
    exact ⟨a, rfl, .inl ⟨vs, ha⟩⟩
  · rename_i e
    obtain ⟨a, vs, rfl, ha, _⟩ := look_dit k r e
    exact ⟨a, rfl, .inr ⟨vs, ha⟩⟩
  · cases h
def fGet (x key dflt : D) (O : Sto) : Res := match dGetD O x key with
  | some (some d) => .ok d O
  | some none => .ok dflt O
  | none => .stuck
def dGet2 (md mk mx : DTE) : DTE := fun ρ O => (md ρ O).bind fun x O1 => if isDc O1 x = true then (mk ρ O1).bind fun y O2 => (mx ρ O2).bind fun z O3 => fGet x y z O3 else .stuck
theorem de_get2 {f : Expr} {mk mx : DTE} {apos : Pos} (hu : X.A.units + 1 < cLine) (ho : DE ca W X o mo) (he : DE ca W X e mk) (hf : DE ca W X f mx) (m : M2 X o "get" apos e f pos) : DE ca W X (.Call (.Attribute o "get" apos) [e, f] [] pos) (dGet2 mo mk mx) := by
  obtain ⟨to, po, so⟩ := ho
  obtain ⟨te, pe, se⟩ := he
  obtain ⟨tf, pf, sf⟩ := hf
  refine ⟨_, pe_dget2 hu po pe pf m, fun w O H σ ρ Q k re h => ?_⟩
  refine so w O H σ ρ _ k re (Post.bind h fun d O1 v w1 H1 l1 k1 r1 h1 => ?_)
  obtain ⟨c, h1⟩ := post_if h1
  obtain ⟨a, ea, hd⟩ := isDc_rep k1 r1 c
  refine ⟨a, ea, hd, ?_⟩
  refine se w1 O1 H1 σ ρ _ k1 (re.mono l1) (Post.bind h1 fun d2 O2 v2 w2 H2 l2 k2 r2 h2 => ?_)
  refine sf w2 O2 H2 σ ρ _ k2 (re.mono (l1.trans l2)) (Post.bind h2 fun d3 O3 v3 w3 H3 l3 k3 r3 h3 => ?_)
  unfold fGet at h3
  cases z : dGetD O3 d d2 with
  | none => rw [z] at h3; exact h3.elim
  | some oo =>
    rw [z] at h3
    obtain ⟨p, vo, e1, _, e2, e3⟩ := dget_rep k3 (r1.mono (l2.trans l3)) (r2.mono l3) z
    rw [ea] at e1
    cases e1
    refine ⟨vo, e2, ?_⟩
    cases oo with
    | none =>
      cases vo with
      | none => exact post_ok k3 r3 h3
      | some _ => exact e3.elim
    | some dd =>
      cases vo with
      | none => exact e3.elim
      | some vv => exact post_ok k3 e3 h3
def ownK (O : Sto) (x : D) : Option (Nat × List (Key × D)) := match x with
  | .loc n => (match O[n]? with
    | some (.dic ds) => some (n, ds)
    | _ => none)
  | _ => none
def ownT (O : Sto) (x : D) : Option (Nat × List (List Key × D)) := match x with
  | .loc n => (match O[n]? with
    | some (.dit ds) => some (n, ds)
    | _ => none)
  | _ => none
theorem ownK_rep {w : Wd} {O : Sto} {H : Hp} (k : Ok ca w O H) {v : V} {d : D} (r : Rep ca w v d) {n : Nat} {ds : List (Key × D)} (h : ownK O d = some (n, ds)) : ∃ a vs, v = .ref a ∧ w.ad[n]? = some a ∧ O[n]? = some (.dic ds) ∧ H a = some (.dK vs) ∧ RepK ca w vs ds := by
  unfold ownK at h
  split at h
  · split at h
    · rename_i q
      cases h
      cases r with
      | loc hA =>
        obtain ⟨_, u, h2, h3⟩ := k.own _ _ _ hA q (fun z => nomatch z)
        cases h3 with
        | dic r => exact ⟨_, _, rfl, hA, q, h2, r⟩
    · cases h
  · cases h
theorem ownT_rep {w : Wd} {O : Sto} {H : Hp} (k : Ok ca w O H) {v : V} {d : D} (r : Rep ca w v d) {n : Nat} {ds : List (List Key × D)} (h : ownT O d = some (n, ds)) : ∃ a vs, v = .ref a ∧ w.ad[n]? = some a ∧ O[n]? = some (.dit ds) ∧ H a = some (.dT vs) ∧ RepT ca w vs ds := by
  unfold ownT at h
  split at h
  · split at h
    · rename_i q
      cases h
      cases r with
      | loc hA =>
        obtain ⟨_, u, h2, h3⟩ := k.own _ _ _ hA q (fun z => nomatch z)
        cases h3 with
        | dit r => exact ⟨_, _, rfl, hA, q, h2, r⟩
    · cases h
  · cases h
theorem repK_any {w : Wd} (k : Key) : ∀ {vs : List (Key × V)} {ds : List (Key × D)}, RepK ca w vs ds → (vs.any fun kv => decide (kv.1 = k)) = ds.any fun kv => decide (kv.1 = k)
  | _, _, .nil => rfl
  | _, _, .cons _ r => by rw [List.any_cons, List.any_cons, repK_any k r]
theorem repK_repl {w : Wd} (k : Key) {v : V} {d : D} (h : Rep ca w v d) : ∀ {vs : List (Key × V)} {ds : List (Key × D)}, RepK ca w vs ds → RepK ca w (vs.map fun kv => if kv.1 = k then (kv.1, v) else kv) (ds.map fun kv => if kv.1 = k then (k, d) else kv)
  | _, _, .nil => .nil
  | _, _, .cons (k := k') h1 r => by
    rw [List.map_cons, List.map_cons]
    by_cases e : k' = k
    · subst e
      rw [if_pos rfl, if_pos rfl]
      exact .cons h (repK_repl k' h r)
    · rw [if_neg e, if_neg e]
      exact .cons h1 (repK_repl k h r)
theorem RepK.append {w : Wd} : ∀ {vs us : List (Key × V)} {ds es : List (Key × D)}, RepK ca w vs ds → RepK ca w us es → RepK ca w (vs ++ us) (ds ++ es)
  | _, _, _, _, .nil, s => s
  | _, _, _, _, .cons h r, s => .cons h (RepK.append r s)
theorem repK_put {w : Wd} (k : Key) {v : V} {d : D} (h : Rep ca w v d) {vs : List (Key × V)} {ds : List (Key × D)} (r : RepK ca w vs ds) : RepK ca w (putK vs k v) (setK ds k d) := by
  unfold putK setK
  rw [repK_any k r]
  split
  · exact repK_repl k h r
  · exact r.append (.cons h .nil)
theorem repT_any {w : Wd} (k : List Key) : ∀ {vs : List (List Key × V)} {ds : List (List Key × D)}, RepT ca w vs ds → (vs.any fun kv => decide (kv.1 = k)) = ds.any fun kv => decide (kv.1 = k)
  | _, _, .nil => rfl
  | _, _, .cons _ r => by rw [List.any_cons, List.any_cons, repT_any k r]
theorem repT_repl {w : Wd} (k : List Key) {v : V} {d : D} (h : Rep ca w v d) : ∀ {vs : List (List Key × V)} {ds : List (List Key × D)}, RepT ca w vs ds → RepT ca w (vs.map fun kv => if kv.1 = k then (kv.1, v) else kv) (ds.map fun kv => if kv.1 = k then (k, d) else kv)
  | _, _, .nil => .nil
  | _, _, .cons (k := k') h1 r => by
    rw [List.map_cons, List.map_cons]
    by_cases e : k' = k
    · subst e
      rw [if_pos rfl, if_pos rfl]
      exact .cons h (repT_repl k' h r)
    · rw [if_neg e, if_neg e]
      exact .cons h1 (repT_repl k h r)
theorem RepT.append {w : Wd} : ∀ {vs us : List (List Key × V)} {ds es : List (List Key × D)}, RepT ca w vs ds → RepT ca w us es → RepT ca w (vs ++ us) (ds ++ es)
  | _, _, _, _, .nil, s => s
  | _, _, _, _, .cons h r, s => .cons h (RepT.append r s)
theorem repT_put {w : Wd} (k : List Key) {v : V} {d : D} (h : Rep ca w v d) {vs : List (List Key × V)} {ds : List (List Key × D)} (r : RepT ca w vs ds) : RepT ca w (putK vs k v) (setK ds k d) := by
  unfold putK setK
  rw [repT_any k r]
  split
  · exact repT_repl k h r
  · exact r.append (.cons h .nil)
theorem repK_drop {w : Wd} (k : Key) : ∀ {vs : List (Key × V)} {ds : List (Key × D)}, RepK ca w vs ds → RepK ca w (dropK vs k) (ds.filter fun kv => decide (kv.1 ≠ k))
  | _, _, .nil => .nil
  | _, _, .cons (k := k') h1 r => by
    have ih := repK_drop k r
    unfold dropK at ih ⊢
    by_cases e : k' = k
    · rw [List.filter_cons_of_neg (by simpa using e), List.filter_cons_of_neg (by simpa using e)]
      exact ih
    · rw [List.filter_cons_of_pos (by simpa using e), List.filter_cons_of_pos (by simpa using e)]
      exact .cons h1 ih
/-- d[k] = v, xs[i] = v: the store behind it -/
def putD (O : Sto) (x key val : D) : Option Sto := match ownK O x with
  | some (n, ds) => (match keyD key with
    | some k => if ds.length < 1000000 then some (O.set n (.dic (setK ds k val))) else none
    | none => none)
  | none => match ownT O x with
    | some (n, ds) => (match key with
      | .tup ks => (match keysD ks with
        | some k => if ds.length < 1000000 then some (O.set n (.dit (setK ds k val))) else none
        | none => none)
      | _ => none)
    | none => none
def setL (O : Sto) (x key val : D) : Option Sto := match ownL O x, key with
  | some (n, ds), .int i => (match ixN ds.length i with
    | some j => some (O.set n (.lst (ds.set j val)))
    | none => none)
  | _, _ => none
def dPut (md mk mv : DTE) : DTS := fun ρ O => (mv ρ O).bindS ρ fun v O1 => (md ρ O1).bindS ρ fun x O2 => (mk ρ O2).bindS ρ fun y O3 => match putD O3 x y v with
  | some O4 => .nx ρ O4
  | none => match setL O3 x y v with
    | some O4 => .nx ρ O4
    | none => .stuck
theorem ds_put {value : Expr} {pos' : Pos} {mk : DTE} (hu : X.A.units + 1 < cLine) (ho : DE ca W X o mo) (hi : DE ca W X i mk) (hv : DE ca W X value mv) (hs : swapsWith value (some (.Subscript o i pos')) pos.line X.env = pure false := by rfl)
    (hs1 : swapsWithSole [.Subscript o i pos'] value pos.line X.env = pure false := by rfl) (hw : swappedStores [.Subscript o i pos'] value X.env = pure none := by rfl) (h1 : (assignEach [.Subscript o i pos'] X.env).map (·.2) = [assign (.Subscript o i pos') X.env] := by rfl)
    (hg : ∀ {to ti : TE}, PE X o to → PE X i ti → PG X (.Subscript o i pos') (gSub to ti rSetL)) : DS ca W X (.Assign [.Subscript o i pos'] value pos) (dPut mo mk mv) := by
  obtain ⟨to, po, so⟩ := ho
  obtain ⟨ti, pi, si⟩ := hi
  obtain ⟨tv, pv, sv⟩ := hv
  refine ⟨_, PS.or (ps_dput hu po pi pv hs) (ps_asg pv (hg po pi) hs1 hw h1), fun w O H σ ρ Dn k re h => ?_⟩
  unfold dPut at h
  cases z1 : mv ρ O with
  | stuck => rw [z1] at h; exact h.elim
  | exc c fs O1 =>
    rw [z1] at h
    exact .inl (sv w O H σ ρ _ k re (by rw [z1]; exact fun cv dx w2 H2 y o x => h cv dx σ w2 H2 y o (re.mono y) x))
  | ok v O1 =>
    rw [z1] at h
    simp only [Res.bindS] at h
    cases z2 : mo ρ O1 with
    | stuck => rw [z2] at h; exact h.elim
    | exc c fs O2 =>
      rw [z2] at h
      refine .inl (sv w O H σ ρ _ k re ?_)
      rw [z1]
      intro u w1 H1 l1 k1 r1
      refine so w1 O1 H1 σ ρ _ k1 (re.mono l1) ?_
      rw [z2]
      exact fun cv dx w2 H2 y o x => h cv dx σ w2 H2 (l1.trans y) o (re.mono (l1.trans y)) x
    | ok x O2 =>
      rw [z2] at h
      simp only at h
      cases z3 : mk ρ O2 with
      | stuck => rw [z3] at h; exact h.elim
      | exc c fs O3 =>
        rw [z3] at h
        refine .inl (sv w O H σ ρ _ k re ?_)
        rw [z1]
        intro u w1 H1 l1 k1 r1
        refine so w1 O1 H1 σ ρ _ k1 (re.mono l1) ?_
        rw [z2]
        intro u2 w2 H2 l2 k2 r2
        refine si w2 O2 H2 σ ρ _ k2 (re.mono (l1.trans l2)) ?_
        rw [z3]
        exact fun cv dx w3 H3 y o x => h cv dx σ w3 H3 ((l1.trans l2).trans y) o (re.mono ((l1.trans l2).trans y)) x
      | ok y O3 =>
        rw [z3] at h
        simp only at h
        cases z4 : putD O3 x y v with
        | some O4 =>
          rw [z4] at h
          refine .inl (sv w O H σ ρ _ k re ?_)
          rw [z1]
          intro u w1 H1 l1 k1 r1
          refine so w1 O1 H1 σ ρ _ k1 (re.mono l1) ?_
          rw [z2]
          intro u2 w2 H2 l2 k2 r2
          refine si w2 O2 H2 σ ρ _ k2 (re.mono (l1.trans l2)) ?_
          rw [z3]
          intro u3 w3 H3 l3 k3 r3
          have rv := r1.mono (l2.trans l3)
          have rx := r2.mono l3
          have le := (l1.trans l2).trans l3
          unfold putD at z4
          cases q : ownK O3 x with
          | some p =>
            obtain ⟨n, ds⟩ := p
            rw [q] at z4
            simp only at z4
            obtain ⟨a, vs, rfl, hA, hO, hH, rl⟩ := ownK_rep k3 rx q
            cases q2 : keyD y with
            | none => rw [q2] at z4; cases z4
            | some key =>
              rw [q2] at z4
              simp only at z4
              by_cases c : ds.length < 1000000
              · rw [if_pos c] at z4
                cases z4
                have rn := repK_put key rv rl
                exact ⟨a, _, rfl, .inl ⟨vs, key, hH, keyD_rep r3 q2, by rw [rl.length]; exact big_lt c, rfl⟩, h σ w3 _ le (k3.setO hA hO (fun z => nomatch z) (k3.lkFree hH rfl) (.dic rn)) (re.mono le)⟩
              · rw [if_neg c] at z4
                cases z4
          | none =>
            rw [q] at z4
            simp only at z4
            cases q1 : ownT O3 x with
            | none => rw [q1] at z4; cases z4
            | some p =>
              obtain ⟨n, ds⟩ := p
              rw [q1] at z4
              simp only at z4
              obtain ⟨a, vs, rfl, hA, hO, hH, rl⟩ := ownT_rep k3 rx q1
              cases r3 with
              | tup hF rt =>
                simp only at z4
                cases q2 : keysD _ with
                | none => rw [q2] at z4; cases z4
                | some key =>
                  rw [q2] at z4
                  simp only at z4
                  by_cases c : ds.length < 1000000
                  · rw [if_pos c] at z4
                    cases z4
                    have ek := keysD_rep rt q2
                    subst ek
                    have rn := repT_put key rv rl
                    exact ⟨a, _, rfl, .inr ⟨vs, key, _, hH, rfl, k3.ext.tup hF, by rw [rl.length]; exact big_lt c, rfl⟩, h σ w3 _ le (k3.setO hA hO (fun z => nomatch z) (k3.lkFree hH rfl) (.dit rn)) (re.mono le)⟩
                  · rw [if_neg c] at z4
                    cases z4
              | _ => cases z4
        | none =>
          rw [z4] at h
          simp only at h
          cases z5 : setL O3 x y v with
          | none => rw [z5] at h; exact h.elim
          | some O4 =>
            rw [z5] at h
            refine .inr (sv w O H σ ρ _ k re ?_)
            rw [z1]
            intro u w1 H1 l1 k1 r1
            refine so w1 O1 H1 σ ρ _ k1 (re.mono l1) ?_
            rw [z2]
            intro u2 w2 H2 l2 k2 r2
            refine si w2 O2 H2 σ ρ _ k2 (re.mono (l1.trans l2)) ?_
            rw [z3]
            intro u3 w3 H3 l3 k3 r3
            have rv := r1.mono (l2.trans l3)
            have rx := r2.mono l3
            have le := (l1.trans l2).trans l3
            unfold setL at z5
            split at z5
            · rename_i n ds j q
              obtain ⟨a, vs, rfl, hA, hO, hH, rl⟩ := ownL_rep k3 rx q
              cases r3
              cases q2 : ixN ds.length j with
              | none => rw [q2] at z5; cases z5
              | some m =>
                rw [q2] at z5
                cases z5
                exact ⟨a, vs, j, m, rfl, rfl, hH, by rw [rl.length]; exact q2, h σ w3 _ le (k3.setO hA hO (fun z => nomatch z) (k3.lkFree hH rfl) (.lst (RepL.set rv m rl))) (re.mono le)⟩
            · cases z5
end
end Yk

set_option Elab.async false
set_option linter.all false
set_option maxRecDepth 100000
set_option maxHeartbeats 1000000
/-! Yk: dict loops, enumerate, zip, reversed, displays. -/
namespace Yk
open PySem L2

/-! ### locks -/
section
variable {ca : Cn} {w : Wd} {O : Sto} {H : Hp}
theorem mut_dict {u : HO} (h : isDict u = true) : Mut (some u) := by
  cases u <;> first | trivial | cases h
theorem not_frz {u : HO} (h : isDict u = true) : ∀ o z, u ≠ .frz o z := fun o z e => by
  subst e
  cases h
/-- a frozen dict is locked -/
theorem Ok.lockF (k : Ok ca w O H) {a : Addr} {u : HO} (hF : w.F a = some u) (hH : H a = some u) (hd : isDict u = true) (o : Obj) : Ok ca (w.lock a (.frz o u)) O (upd H a (.frz o u)) where
  ext := fun b q e => by
    by_cases z : b = a
    · subst z
      have e : w.F b = some q := e
      rw [hF] at e
      cases e
      exact .inr ⟨hd, o, upd_same⟩
    · rw [upd_ne z]
      exact k.ext b q e
  len := k.len
  nd := k.nd
  here := fun b m => by
    by_cases z : b = a
    · exact ⟨_, by rw [z]; exact upd_same, rfl⟩
    · rw [upd_ne z]
      exact k.here b m
  own := fun n b q e1 e2 g => by
    obtain ⟨h1, u', h2, h3⟩ := k.own n b q e1 e2 g
    have ne : b ≠ a := fun z => by rw [z, hF] at h1; cases h1
    exact ⟨h1, u', (upd_ne ne).trans h2, h3.mono' Wd.lock_sub⟩
  prv := fun b q e => by
    obtain ⟨h1, h2, h3⟩ := k.prv b q e
    have ne : b ≠ a := fun z => by rw [z, hF] at h2; cases h2
    exact ⟨(upd_ne ne).trans h1, h2, h3⟩
  lks := fun b q e => by
    by_cases z : b = a
    · subst z
      have e : upd w.lk b (.frz o u) b = some q := e
      rw [upd_same] at e
      cases e
      exact ⟨upd_same, rfl⟩
    · have e : upd w.lk a (.frz o u) b = some q := e
      rw [upd_ne z] at e
      obtain ⟨h1, h2⟩ := k.lks b q e
      exact ⟨(upd_ne z).trans h1, h2⟩
  x := (k.x.upd fun v e => by
    rw [hH] at e
    cases e
    cases u <;> first | rfl | cases hd).wd k.x.pvp k.x.fpl
/-- .. and let go; lk0: what was locked ahead -/
theorem Ok.unlockF (k : Ok ca w O H) {a : Addr} {u : HO} {o : Obj} {lk0 : Hp} (hF : w.F a = some u) (hd : isDict u = true) (hl : w.lk = upd lk0 a (.frz o u)) (h0 : lk0 a = none) : H a = some (.frz o u) ∧ Ok ca ⟨w.F, w.ad, w.pv, lk0, w.cx⟩ O (upd H a u) := by
  have hH := (k.lks a _ (by rw [hl]; exact upd_same)).1
  refine ⟨hH, fun b q e => ?_, k.len, k.nd, fun b m => ?_, fun n b q e1 e2 g => ?_, fun b q e => ?_, fun b q e => ?_, (k.x.upd fun v e => by rw [hH] at e; cases e; rfl).wd k.x.pvp k.x.fpl⟩
  · by_cases z : b = a
    · subst z
      have e : w.F b = some q := e
      rw [hF] at e
      cases e
      exact .inl upd_same
    · rw [upd_ne z]
      exact k.ext b q e
  · by_cases z : b = a
    · exact ⟨_, by rw [z]; exact upd_same, by cases u <;> first | rfl | cases hd⟩
    · rw [upd_ne z]
      exact k.here b m
  · obtain ⟨h1, u', h2, h3⟩ := k.own n b q e1 e2 g
    have ne : b ≠ a := fun z => by rw [z, hF] at h1; cases h1
    exact ⟨h1, u', (upd_ne ne).trans h2, RepO.mono' (w := w) (w' := ⟨w.F, w.ad, w.pv, lk0, w.cx⟩) ⟨fun _ _ h => h, fun _ _ h => h, .refl _⟩ h3⟩
  · obtain ⟨h1, h2, h3⟩ := k.prv b q e
    have ne : b ≠ a := fun z => by rw [z, hF] at h2; cases h2
    exact ⟨(upd_ne ne).trans h1, h2, h3⟩
  · have e : lk0 b = some q := e
    have ne : b ≠ a := fun z => by rw [z, h0] at e; cases e
    obtain ⟨h1, h2⟩ := k.lks b q (by rw [hl, upd_ne ne]; exact e)
    exact ⟨(upd_ne ne).trans h1, h2⟩
/-- a dict of the store is locked -/
theorem Ok.lockO (k : Ok ca w O H) {n : Nat} {a : Addr} {od : OD} {u : HO} (hA : w.ad[n]? = some a) (hO : O[n]? = some od) (hg : od ≠ .gone) (hH : H a = some u) (hd : isDict u = true) (r : RepO ca w u od) (o : Obj) :
    Ok ca (w.lock a (.frz o u)) (O.set n (.lck od)) (upd H a (.frz o u)) where
  ext := fun b q e => by
    have ne : b ≠ a := fun z => by
      have e : w.F b = some q := e
      rw [z, (k.own n a od hA hO hg).1] at e
      cases e
    rw [upd_ne ne]
    exact k.ext b q e
  len := by rw [List.length_set]; exact k.len
  nd := k.nd
  here := fun b m => by
    by_cases z : b = a
    · exact ⟨_, by rw [z]; exact upd_same, rfl⟩
    · rw [upd_ne z]
      exact k.here b m
  own := fun m b q e1 e2 g => by
    by_cases z : n = m
    · subst z
      have e1 : w.ad[n]? = some b := e1
      rw [hA] at e1
      cases e1
      rw [List.getElem?_set_self (by exact (List.getElem?_eq_some_iff.mp hO).1)] at e2
      cases e2
      exact ⟨(k.own n a od hA hO hg).1, _, upd_same, .lck hd (r.mono' Wd.lock_sub)⟩
    · rw [List.getElem?_set_ne z] at e2
      have ne : b ≠ a := fun y => by
        subst y
        exact z (nodup_at k.nd hA e1)
      obtain ⟨h1, u', h2, h3⟩ := k.own m b q e1 e2 g
      exact ⟨h1, u', (upd_ne ne).trans h2, h3.mono' Wd.lock_sub⟩
  prv := fun b q e => by
    obtain ⟨h1, h2, h3⟩ := k.prv b q e
    have ne : b ≠ a := fun z => h3 (z ▸ List.mem_of_getElem? hA)
    exact ⟨(upd_ne ne).trans h1, h2, h3⟩
  lks := fun b q e => by
    by_cases z : b = a
    · subst z
      have e : upd w.lk b (.frz o u) b = some q := e
      rw [upd_same] at e
      cases e
      exact ⟨upd_same, rfl⟩
    · have e : upd w.lk a (.frz o u) b = some q := e
      rw [upd_ne z] at e
      obtain ⟨h1, h2⟩ := k.lks b q e
      exact ⟨(upd_ne z).trans h1, h2⟩
  x := (k.x.upd fun v e => by
    rw [hH] at e
    cases e
    cases u <;> first | rfl | cases hd).wd k.x.pvp k.x.fpl
theorem Ok.unlockO (k : Ok ca w O H) {n : Nat} {a : Addr} {od : OD} {u : HO} {o : Obj} {lk0 : Hp} (hA : w.ad[n]? = some a) (hO : O[n]? = some (.lck od)) (hd : isDict u = true) (hl : w.lk = upd lk0 a (.frz o u)) (h0 : lk0 a = none) : H a = some (.frz o u) ∧ Ok ca ⟨w.F, w.ad, w.pv, lk0, w.cx⟩ (O.set n od) (upd H a u) := by
  have hH := (k.lks a _ (by rw [hl]; exact upd_same)).1
  obtain ⟨hFn, u2, hu2, r2⟩ := k.own n a _ hA hO (fun z => nomatch z)
  rw [hH] at hu2
  cases hu2
  have sub : w.sub ⟨w.F, w.ad, w.pv, lk0, w.cx⟩ := ⟨fun _ _ h => h, fun _ _ h => h, .refl _⟩
  cases r2 with
  | lck hd2 r =>
  refine ⟨hH, fun b q e => ?_, by rw [List.length_set]; exact k.len, k.nd, fun b m => ?_, fun m b q e1 e2 g => ?_, fun b q e => ?_, fun b q e => ?_, (k.x.upd fun v e => by rw [hH] at e; cases e; rfl).wd k.x.pvp k.x.fpl⟩
  · have ne : b ≠ a := fun z => by
      have e : w.F b = some q := e
      rw [z, hFn] at e
      cases e
    rw [upd_ne ne]
    exact k.ext b q e
  · by_cases z : b = a
    · exact ⟨_, by rw [z]; exact upd_same, by cases u <;> first | rfl | cases hd2⟩
    · rw [upd_ne z]
      exact k.here b m
  · by_cases z : n = m
    · subst z
      have e1 : w.ad[n]? = some b := e1
      rw [hA] at e1
      cases e1
      rw [List.getElem?_set_self (by exact (List.getElem?_eq_some_iff.mp hO).1)] at e2
      cases e2
      exact ⟨hFn, _, upd_same, RepO.mono' (w' := ⟨w.F, w.ad, w.pv, lk0, w.cx⟩) sub r⟩
    · rw [List.getElem?_set_ne z] at e2
      have ne : b ≠ a := fun y => by
        subst y
        exact z (nodup_at k.nd hA e1)
      obtain ⟨h1, u', h2, h3⟩ := k.own m b q e1 e2 g
      exact ⟨h1, u', (upd_ne ne).trans h2, RepO.mono' (w' := ⟨w.F, w.ad, w.pv, lk0, w.cx⟩) sub h3⟩
  · obtain ⟨h1, h2, h3⟩ := k.prv b q e
    have ne : b ≠ a := fun z => h3 (z ▸ List.mem_of_getElem? hA)
    exact ⟨(upd_ne ne).trans h1, h2, h3⟩
  · have e : lk0 b = some q := e
    have ne : b ≠ a := fun z => by rw [z, h0] at e; cases e
    obtain ⟨h1, h2⟩ := k.lks b q (by rw [hl, upd_ne ne]; exact e)
    exact ⟨(upd_ne ne).trans h1, h2⟩
end

/-! ### a name, a field of a name ..: what stands still while a dict is locked -/
abbrev DPV := Env' → Sto → Option D
def PathS (ca : Cn) (te : TE) (pv : DPV) : Prop := ∀ w O H σ ρ d, Ok ca w O H → RepE ca w σ ρ → pv ρ O = some d → ∃ v, Rep ca w v d ∧ ∀ (H' : Hp) (Q : VK), (∀ a u, isDict u = false → H a = some u → H' a = some u) → Q v H' → te σ H' Q
def DP (ca : Cn) (X : Cx) (e : Expr) (pv : DPV) : Prop := ∃ te, PE X e te ∧ PathS ca te pv
def pVar (i : Nat) : DPV := fun ρ _ => match ρ[i]? with
  | some (some d) => some d
  | _ => none
theorem dp_var {ca : Cn} {X : Cx} {e : Expr} {i : Nat} (h : PE X e (tVar i)) : DP ca X e (pVar i) := ⟨_, h, fun w O H σ ρ d k re e => by
  unfold pVar at e
  split at e
  · rename_i d' q
    cases e
    obtain ⟨v, h1, h2⟩ := re.2 i _ q
    exact ⟨v, h2, fun H' Q _ hq => ⟨v, h1, hq⟩⟩
  · cases e⟩

/-! ### for k in d, for k, v in d.items(), for v in d.values() -/
def kD : Key → D
  | .inl i => .int i
  | .inr s => .str s
theorem kD_rep {ca : Cn} {w : Wd} : ∀ k : Key, Rep ca w (kV k) (kD k)
  | .inl i => .int i
  | .inr s => .str s
/-- what is walked of a dict: 0 its keys, 1 its values, 2 its pairs -/
def dItems (kind : Nat) (kvs : List (Key × D)) : List D := match kind with
  | 0 => kvs.map fun kv => kD kv.1
  | 1 => kvs.map fun kv => kv.2
  | _ => kvs.map fun kv => .tup [kD kv.1, kv.2]
def Jof (kind : Nat) (d : Addr) (o : Obj) (kvs : List (Key × V)) : It := match kind with
  | 0 => Itk d o kvs
  | 1 => Itd d o kvs
  | _ => Iti d o kvs
section
variable {ca : Cn} {w : Wd}
theorem RepK.at_ : ∀ {vs : List (Key × V)} {ds : List (Key × D)} {i : Nat} {k : Key} {v : V}, RepK ca w vs ds → vs[i]? = some (k, v) → ∃ d, ds[i]? = some (k, d) ∧ Rep ca w v d
  | _, _, _, _, _, .nil, e => by simp at e
  | _, _, 0, _, _, .cons h r, e => by
    simp at e
    obtain ⟨e1, e2⟩ := e
    subst e1 e2
    exact ⟨_, rfl, h⟩
  | _, _, i + 1, k, v, .cons h r, e => by
    obtain ⟨d, h1, h2⟩ := RepK.at_ (i := i) (k := k) (v := v) r (by simpa using e)
    exact ⟨d, by simpa using h1, h2⟩
theorem walks_dict {a : Addr} {o : Obj} {vs : List (Key × V)} {ds : List (Key × D)} (kind : Nat) (hk : w.lk a = some (.frz o (.dK vs))) (r : RepK ca w vs ds) (lk : Option (Nat × OD)) : Walks ca (Jof kind a o vs) w (dItems kind ds) lk := fun w' O H i l ll k _ => by
  have hH : H a = some (.frz o (.dK vs)) := (k.lks a _ (by rw [ll]; exact hk)).1
  have hlen : (dItems kind ds).length = vs.length := by
    rw [r.length]
    unfold dItems
    split <;> rw [List.length_map]
  refine ⟨fun hi => ?_, fun d hd => ?_⟩
  · rw [hlen] at hi
    unfold Jof
    split <;> exact ⟨hH, hi⟩
  · have hi : i < vs.length := by
      rw [← hlen]
      exact (List.getElem?_eq_some_iff.mp hd).1
    have e1 : vs[i]? = some ((vs[i]).1, (vs[i]).2) := by simp [hi]
    obtain ⟨dd, e2, r2⟩ := r.at_ e1
    have r3 := r2.mono' l
    unfold dItems at hd
    unfold Jof
    split at hd
    · rw [List.getElem?_map, e2] at hd
      cases hd
      refine ⟨⟨hH, hi⟩, fun x H' ⟨e, key, v, e3, e4⟩ => ?_⟩
      subst e
      rw [e1] at e3
      cases e3
      exact ⟨w', Wd.le.refl _, k, e4 ▸ kD_rep _⟩
    · rw [List.getElem?_map, e2] at hd
      cases hd
      refine ⟨⟨hH, hi⟩, fun x H' ⟨e, key, e3⟩ => ?_⟩
      subst e
      rw [e1] at e3
      cases e3
      exact ⟨w', Wd.le.refl _, k, r3⟩
    · rename_i n0 n1
      rw [List.getElem?_map, e2] at hd
      cases hd
      match kind, n0, n1 with
      | 0, n0, _ => exact absurd rfl n0
      | 1, _, n1 => exact absurd rfl n1
      | kk + 2, _, _ =>
        refine ⟨⟨hH, hi⟩, fun x H' ⟨T, key, v, e3, e4, hT, eH⟩ => ?_⟩
        subst eH e4
        rw [e1] at e3
        cases e3
        exact ⟨w'.frz T _, k.newF_le hT, k.newF hT, .tup Wd.frz_at (.cons (kD_rep _) (.cons (r3.mono (k.newF_le hT)) .nil))⟩
end
open Classical in
/-- the store behind the loop: the dict at n let go -/
noncomputable def unlS (n : Nat) (od : OD) (O : Sto) (f : Sto → Out) : Out := if O[n]? = some (.lck od) then f (O.set n od) else .stuck
noncomputable def Out.unl (n : Nat) (od : OD) : Out → Out
  | .nx ρ O => unlS n od O (.nx ρ)
  | .bk ρ O => unlS n od O (.bk ρ)
  | .ct ρ O => unlS n od O (.ct ρ)
  | .rt d O => unlS n od O (.rt d)
  | .exc c fs ρ O => .exc c fs ρ O
  | .stuck => .stuck
noncomputable def dForD (kind : Nat) (pv : DPV) (g : DTG) (body : DTS) : DTS := fun ρ O => match pv ρ O with
  | some (.dic kvs) => forL (dItems kind kvs) none g body (dItems kind kvs) ρ O
  | some (.loc n) => (match O[n]? with
    | some (.dic kvs) => (forL (dItems kind kvs) none g body (dItems kind kvs) ρ (O.set n (.lck (.dic kvs)))).unl n (.dic kvs)
    | _ => .stuck)
  | _ => .stuck
/-- fewer locks are known -/
theorem Ok.less {ca : Cn} {w : Wd} {O : Sto} {H : Hp} (k : Ok ca w O H) {lk0 : Hp} (h : ∀ b q, lk0 b = some q → w.lk b = some q) : Ok ca ⟨w.F, w.ad, w.pv, lk0, w.cx⟩ O H where
  ext := k.ext
  len := k.len
  nd := k.nd
  here := k.here
  own := fun n b q e1 e2 g => by
    obtain ⟨h1, u', h2, h3⟩ := k.own n b q e1 e2 g
    exact ⟨h1, u', h2, RepO.mono' (w := w) (w' := ⟨w.F, w.ad, w.pv, lk0, w.cx⟩) ⟨fun _ _ h => h, fun _ _ h => h, .refl _⟩ h3⟩
  prv := k.prv
  lks := fun b q e => k.lks b q (h b q e)
  x := k.x.wd k.x.pvp k.x.fpl
theorem RepX.mono' {ca : Cn} {w w' : Wd} (x : w.sub w') {H : Hp} {c : Str} {fs : List (Str × D)} {cv : Value} {dx : Option Addr} (h : RepX ca w H c fs cv dx) : RepX ca w' H c fs cv dx := by
  obtain ⟨C, h1, h2, h3⟩ := h
  refine ⟨C, h1, h2, ?_⟩
  cases dx with
  | none => exact h3
  | some d =>
    obtain ⟨vs, a, b⟩ := h3
    exact ⟨vs, a, b.mono' x⟩
/-- the ends of a locked run, seen from within -/
abbrev Ends.lk (Dn : Ends) (a : Addr) (o : Obj) (u : HO) : Ends := ⟨fun σ' H' => H' a = some (.frz o u) ∧ Dn.nx σ' (upd H' a u), fun v H' => H' a = some (.frz o u) ∧ Dn.rt v (upd H' a u), fun σ' H' => H' a = some (.frz o u) ∧ Dn.bk σ' (upd H' a u), fun σ' H' => H' a = some (.frz o u) ∧ Dn.ct σ' (upd H' a u)⟩
section
variable {ca : Cn} {w w0 : Wd} {W : WX} {n : Nat} {od : OD} {Dn : Ends} {r : Out} {a : Addr} {u : HO} {o : Obj}
theorem lk_sub {lk0 : Hp} (h0 : lk0 a = none) : ∀ b q, lk0 b = some q → upd lk0 a (.frz o u) b = some q := fun b q e => by
  have ne : b ≠ a := fun z => by rw [z, h0] at e; cases e
  rw [upd_ne ne]
  exact e
theorem PostS.unlO (hA : w.ad[n]? = some a) (hd : isDict u = true) (hl : w.lk = upd w0.lk a (.frz o u)) (h0 : w0.lk a = none) (sub : w0.sub w) (hpv : w.pv = w0.pv) (h : PostS ca w0 W Dn (r.unl n od)) : PostS ca w W (Ends.lk Dn a o u) r := by
  have le2 : ∀ {w' : Wd}, w.le w' → w0.le ⟨w'.F, w'.ad, w'.pv, w0.lk, w'.cx⟩ := fun l => ⟨fun b q e => l.F _ _ (sub.F _ _ e), fun m b e => l.ad _ _ (sub.ad _ _ e), l.pv.trans hpv, rfl, sub.cx.trans l.cx⟩
  have key : ∀ {O' : Sto} {w' : Wd} {H' : Hp}, O'[n]? = some (.lck od) → w.le w' → Ok ca w' O' H' → H' a = some (.frz o u) ∧ Ok ca ⟨w'.F, w'.ad, w'.pv, w0.lk, w'.cx⟩ (O'.set n od) (upd H' a u) := fun e l k => k.unlockO (l.ad _ _ hA) e hd (by rw [l.lk]; exact hl) h0
  have s2 : ∀ {w' : Wd}, w'.sub ⟨w'.F, w'.ad, w'.pv, w0.lk, w'.cx⟩ := ⟨fun _ _ h => h, fun _ _ h => h, .refl _⟩
  cases r with
  | nx ρ O =>
    have h : PostS ca w0 W Dn (unlS n od O (.nx ρ)) := h
    unfold unlS at h
    by_cases c : O[n]? = some (.lck od)
    · rw [if_pos c] at h
      exact fun σ' w' H' l k re => ⟨(key c l k).1, h σ' _ _ (le2 l) (key c l k).2 (re.mono' s2)⟩
    · rw [if_neg c] at h
      exact h.elim
  | bk ρ O =>
    have h : PostS ca w0 W Dn (unlS n od O (.bk ρ)) := h
    unfold unlS at h
    by_cases c : O[n]? = some (.lck od)
    · rw [if_pos c] at h
      exact fun σ' w' H' l k re => ⟨(key c l k).1, h σ' _ _ (le2 l) (key c l k).2 (re.mono' s2)⟩
    · rw [if_neg c] at h
      exact h.elim
  | ct ρ O =>
    have h : PostS ca w0 W Dn (unlS n od O (.ct ρ)) := h
    unfold unlS at h
    by_cases c : O[n]? = some (.lck od)
    · rw [if_pos c] at h
      exact fun σ' w' H' l k re => ⟨(key c l k).1, h σ' _ _ (le2 l) (key c l k).2 (re.mono' s2)⟩
    · rw [if_neg c] at h
      exact h.elim
  | rt d O =>
    have h : PostS ca w0 W Dn (unlS n od O (.rt d)) := h
    unfold unlS at h
    by_cases c : O[n]? = some (.lck od)
    · rw [if_pos c] at h
      exact fun v w' H' l k r => ⟨(key c l k).1, h v _ _ (le2 l) (key c l k).2 (r.mono' s2)⟩
    · rw [if_neg c] at h
      exact h.elim
  | exc c fs ρ O =>
    exact fun cv dx σ' w' H' l k re x => h cv dx σ' _ H' (le2 l) (k.less (by rw [l.lk, hl]; exact lk_sub h0)) (re.mono' s2) (x.mono' s2)
  | stuck => exact h.elim
theorem PostS.unlF (hF : w.F a = some u) (hd : isDict u = true) (hl : w.lk = upd w0.lk a (.frz o u)) (h0 : w0.lk a = none) (sub : w0.sub w) (hpv : w.pv = w0.pv) (h : PostS ca w0 W Dn r) : PostS ca w W (Ends.lk Dn a o u) r := by
  have le2 : ∀ {w' : Wd}, w.le w' → w0.le ⟨w'.F, w'.ad, w'.pv, w0.lk, w'.cx⟩ := fun l => ⟨fun b q e => l.F _ _ (sub.F _ _ e), fun m b e => l.ad _ _ (sub.ad _ _ e), l.pv.trans hpv, rfl, sub.cx.trans l.cx⟩
  have key : ∀ {O' : Sto} {w' : Wd} {H' : Hp}, w.le w' → Ok ca w' O' H' → H' a = some (.frz o u) ∧ Ok ca ⟨w'.F, w'.ad, w'.pv, w0.lk, w'.cx⟩ O' (upd H' a u) := fun l k => k.unlockF (l.F _ _ hF) hd (by rw [l.lk]; exact hl) h0
  have s2 : ∀ {w' : Wd}, w'.sub ⟨w'.F, w'.ad, w'.pv, w0.lk, w'.cx⟩ := ⟨fun _ _ h => h, fun _ _ h => h, .refl _⟩
  cases r with
  | nx ρ O => exact fun σ' w' H' l k re => ⟨(key l k).1, h σ' _ _ (le2 l) (key l k).2 (re.mono' s2)⟩
  | bk ρ O => exact fun σ' w' H' l k re => ⟨(key l k).1, h σ' _ _ (le2 l) (key l k).2 (re.mono' s2)⟩
  | ct ρ O => exact fun σ' w' H' l k re => ⟨(key l k).1, h σ' _ _ (le2 l) (key l k).2 (re.mono' s2)⟩
  | rt d O => exact fun v w' H' l k r => ⟨(key l k).1, h v _ _ (le2 l) (key l k).2 (r.mono' s2)⟩
  | exc c fs ρ O =>
    exact fun cv dx σ' w' H' l k re x => h cv dx σ' _ H' (le2 l) (k.less (by rw [l.lk, hl]; exact lk_sub h0)) (re.mono' s2) (x.mono' s2)
  | stuck => exact h.elim
end
/-- how a dict is walked, by its locked object -/
def IDict (X : Cx) (tg e : Expr) (te : TE) (kind : Nat) (wi : TI) : Prop := PI X tg e wi ∧ ∀ σ H R d o kvs, (∀ Q : VK, Q (.ref d) H → te σ H Q) → H d = some (.frz o (.dK kvs)) → R (Jof kind d o kvs) H → wi σ H R
theorem idict_keys {X : Cx} {tg e : Expr} {te : TE} (he : PE X e te) : IDict X tg e te 0 (iKeys te) := ⟨pi_keys he, fun σ H R d o kvs h hH hR => h _ ⟨d, o, rfl, .inl ⟨kvs, hH, hR⟩⟩⟩
theorem idict_values {X : Cx} {tg e : Expr} {te : TE} {apos cpos : Pos} (he : PE X e te) (hbase : attributeBase e "values" X.env (eval e X.env) = eval e X.env := by rfl) (hline : (apos.endLine == cpos.line) = true := by rfl) : IDict X tg (.Call (.Attribute e "values" apos) [] [] cpos) te 1 (iVals te) :=
  ⟨pi_values he hbase hline, fun σ H R d o kvs h hH hR => h _ ⟨d, o, kvs, rfl, hH, hR⟩⟩
theorem idict_items {X : Cx} {e : Expr} {te : TE} {apos cpos tpos : Pos} {elts : List Expr} {kk : Nat} (he : PE X e te) (hbase : attributeBase e "items" X.env (eval e X.env) = eval e X.env := by rfl) (hline : (apos.endLine == cpos.line) = true := by rfl) : IDict X (.Tuple elts kk tpos) (.Call (.Attribute e "items" apos) [] [] cpos) te 2 (iItems te) :=
  ⟨pi_items he hbase hline, fun σ H R d o kvs h hH hR => h _ ⟨d, o, kvs, rfl, hH, hR⟩⟩
theorem ins_lock {H : Hp} {a : Addr} {u q : HO} (hH : H a = some u) (hu : isDict u = true) : ∀ b v, isDict v = false → H b = some v → upd H a q b = some v := fun b v hv e => by
  have ne : b ≠ a := fun z => by rw [z, hH] at e; cases e; rw [hu] at hv; cases hv
  rw [upd_ne ne]
  exact e
theorem ds_forD {ca : Cn} {W : WX} {X : Cx} {tg iter e : Expr} {body : List Stmt} {pv : DPV} {g : DTG} {mb : DTS} {pos : Pos} {kind : Nat} (hp : PassesOwn (model X.prog X.w) X.A X.env X.xe) (hc : X.calm = true) (he : DP ca X e pv) (hi : ∀ te, PE X e te → ∃ wi, IDict X tg iter te kind wi) (hg : DG ca X tg g) (hb : DSs ca W X body mb)
    (hs : ∀ x, foldedSetIterable iter X.env x = pure x := by intro _; rfl) : DS ca W X (.For tg iter body [] pos) (dForD kind pv g mb) := by
  obtain ⟨te, pe, se⟩ := he
  obtain ⟨wi, pi, si⟩ := hi te pe
  obtain ⟨tG, pg, sg⟩ := hg
  obtain ⟨tb, pb, sb⟩ := hb
  have base := ps_for (pos := pos) hp hc pi pg pb hs
  refine ⟨_, PS.or (ps_lock base) base, fun w O H σ ρ Dn k re h => ?_⟩
  unfold dForD at h
  cases z : pv ρ O with
  | none => rw [z] at h; exact h.elim
  | some d =>
    rw [z] at h
    obtain ⟨v, rv, hv⟩ := se w O H σ ρ d k re z
    cases d with
    | dic kvs =>
      simp only at h
      cases rv with
      | @dic a vs _ hF r =>
        rcases k.ext a _ hF with hH | ⟨_, o, hH⟩
        · -- not locked yet
          refine .inl ⟨a, _, hH, trivial, fun o => ?_⟩
          have k2 := k.lockF hF hH rfl o
          have l0 : w.lk a = none := k.lkFree hH rfl
          refine si σ _ _ a o vs (fun Q hq => hv _ Q (ins_lock hH rfl) hq) upd_same ?_
          refine for_run (J := Jof kind a o vs) sg sb k2 (re.mono' Wd.lock_sub) (walks_dict kind (show (w.lock a _).lk a = _ from upd_same) (r.mono' Wd.lock_sub) none) ?_
          exact PostS.unlF (w := w.lock a (.frz o (.dK vs))) (w0 := w) hF rfl rfl l0 Wd.lock_sub rfl h
        · refine .inr (si σ H _ a o vs (fun Q hq => hv H Q (fun _ _ _ h => h) hq) hH ?_)
          -- locked by another loop: the lock is taken over for the run
          have hl : Ok ca (w.lock a (.frz o (.dK vs))) O H := ⟨k.ext, k.len, k.nd, k.here, fun n b q e1 e2 g => let ⟨h1, u', h2, h3⟩ := k.own n b q e1 e2 g; ⟨h1, u', h2, h3.mono' Wd.lock_sub⟩, k.prv, fun b q e => by
            by_cases zz : b = a
            · subst zz
              have e : upd w.lk b (.frz o (.dK vs)) b = some q := e
              rw [upd_same] at e
              cases e
              exact ⟨hH, rfl⟩
            · have e : upd w.lk a (.frz o (.dK vs)) b = some q := e
              rw [upd_ne zz] at e
              exact k.lks b q e, k.x.wd k.x.pvp k.x.fpl⟩
          refine for_run (J := Jof kind a o vs) sg sb hl (re.mono' Wd.lock_sub) (walks_dict kind (show (w.lock a _).lk a = _ from upd_same) (r.mono' Wd.lock_sub) none) ?_
          -- what follows asks less
          have less : ∀ {w' : Wd}, (w.lock a (.frz o (.dK vs))).le w' → w.le ⟨w'.F, w'.ad, w'.pv, w.lk, w'.cx⟩ := fun l => ⟨fun b q e => l.F _ _ e, fun m b e => l.ad _ _ e, l.pv, rfl, l.cx⟩
          have s2 : ∀ {w' : Wd}, w'.sub ⟨w'.F, w'.ad, w'.pv, w.lk, w'.cx⟩ := ⟨fun _ _ h => h, fun _ _ h => h, .refl _⟩
          have ol : ∀ {w' : Wd} {O' : Sto} {H' : Hp}, (w.lock a (.frz o (.dK vs))).le w' → Ok ca w' O' H' → Ok ca ⟨w'.F, w'.ad, w'.pv, w.lk, w'.cx⟩ O' H' := fun l k' => k'.less (fun b q e => by
            rw [l.lk]
            show upd w.lk a _ b = some q
            by_cases zz : b = a
            · subst zz
              have e1 := (k.lks b q e).1
              rw [hH] at e1
              cases e1
              exact upd_same
            · rw [upd_ne zz]
              exact e)
          revert h
          generalize forL (dItems kind kvs) none g mb (dItems kind kvs) ρ O = rr
          intro h
          cases rr with
          | nx ρ O => exact fun σ' w' H' l k' re' => h σ' _ _ (less l) (ol l k') (re'.mono' s2)
          | bk ρ O => exact fun σ' w' H' l k' re' => h σ' _ _ (less l) (ol l k') (re'.mono' s2)
          | ct ρ O => exact fun σ' w' H' l k' re' => h σ' _ _ (less l) (ol l k') (re'.mono' s2)
          | rt d O => exact fun v w' H' l k' r' => h v _ _ (less l) (ol l k') (r'.mono' s2)
          | exc c fs ρ O => exact fun cv dx σ' w' H' l k' re' x => h cv dx σ' _ H' (less l) (ol l k') (re'.mono' s2) (x.mono' s2)
          | stuck => exact h.elim
    | loc n =>
      simp only at h
      cases rv with
      | @loc a _ hA =>
        cases q : O[n]? with
        | none => rw [q] at h; exact h.elim
        | some od =>
          rw [q] at h
          split at h
          · rename_i od2 kvs q2
            cases q2
            obtain ⟨hFn, u, hH, ro⟩ := k.own n a _ hA q (fun z => nomatch z)
            cases ro with
            | @dic vs _ r =>
              refine .inl ⟨a, _, hH, trivial, fun o => ?_⟩
              have k2 := k.lockO hA q (fun z => nomatch z) hH rfl (.dic r) o
              have l0 : w.lk a = none := k.lkFree hH rfl
              refine si σ _ _ a o vs (fun Q hq => hv _ Q (ins_lock hH rfl) hq) upd_same ?_
              refine for_run (J := Jof kind a o vs) sg sb k2 (re.mono' Wd.lock_sub) (walks_dict kind (show (w.lock a _).lk a = _ from upd_same) (r.mono' Wd.lock_sub) none) ?_
              exact PostS.unlO (w := w.lock a (.frz o (.dK vs))) (w0 := w) hA rfl rfl l0 Wd.lock_sub rfl h
          · exact h.elim
    | _ => exact h.elim
end Yk

set_option Elab.async false
set_option linter.all false
set_option maxRecDepth 100000
set_option maxHeartbeats 1000000
/-! Yk: enumerate, zip, reversed, displays, comprehensions over dicts. -/
namespace Yk
open PySem L2

/-- a list that is walked: its items, what must stand still -/
def listOf (O : Sto) : D → Option (List D × Option (Nat × OD))
  | .lst ds => some (ds, none)
  | .scr ns => some (ns.map D.int, none)
  | .loc n => match O[n]? with
    | some (.lst ds) => some (ds, some (n, .lst ds))
    | _ => none
  | _ => none
theorem listOf_rep {ca : Cn} {w : Wd} {O : Sto} {H : Hp} (k : Ok ca w O H) {v : V} {d : D} (r : Rep ca w v d) {ds : List D} {lk : Option (Nat × OD)} (h : listOf O d = some (ds, lk)) :
    ∃ a, v = .ref a ∧ Still lk O ∧ ∀ (w' : Wd) (O' : Sto) (H' : Hp), w.sub w' → Ok ca w' O' H' → Still lk O' → ∃ vs, SqL ca.K H' a vs ∧ RepL ca w' vs ds := by
  cases r with
  | lst hF r =>
    cases h
    exact ⟨_, rfl, trivial, fun w' O' H' l k' _ => ⟨_, .inl (.inl (k'.ext.lst (l.F _ _ hF))), r.mono' l⟩⟩
  | scr hF =>
    cases h
    exact ⟨_, rfl, trivial, fun w' O' H' l k' _ => ⟨_, k'.ext.sqL (SqL.sub l.sb hF), repL_ints _ _ _⟩⟩
  | @loc a n hA =>
    unfold listOf at h
    cases q : O[n]? with
    | none => simp only [q] at h; cases h
    | some od =>
      simp only [q] at h
      split at h
      · rename_i q2
        cases q2
        cases h
        refine ⟨_, rfl, q, fun w' O' H' l k' st => ?_⟩
        obtain ⟨_, u, h2, h3⟩ := k'.own _ _ _ (l.ad _ _ hA) st (fun z => nomatch z)
        cases h3 with
        | lst r => exact ⟨_, .inl (.inl h2), r⟩
      · cases h
  | _ => cases h
def enumD (ds : List D) : List D := ds.zipIdx.map fun p => .tup [.int (p.2 : Int), p.1]
def zipD (xs ys : List D) : List D := (xs.zip ys).map fun p => .tup [p.1, p.2]
def srcEnum (m : DTE) : DTI := fun ρ O => (m ρ O).bindI fun d O1 => match listOf O1 d with
  | some (ds, lk) => .ok (enumD ds) lk O1
  | none => .stuck
def srcZip (m1 m2 : DTE) : DTI := fun ρ O => (m1 ρ O).bindI fun d O1 => (m2 ρ O1).bindI fun e O2 => match listOf O2 d, listOf O2 e with
  | some (ds, none), some (es, lk) => .ok (zipD ds es) lk O2
  | some (ds, lk), some (es, none) => .ok (zipD ds es) lk O2
  | _, _ => .stuck
def srcRev (m : DTE) : DTI := fun ρ O => (m ρ O).bindI fun d O1 => match listOf O1 d with
  | some (ds, lk) => .ok ds.reverse lk O1
  | none => match d with
    | .tup ds => .ok ds.reverse none O1
    | _ => .stuck
section
variable {ca : Cn} {W : WX} {X : Cx} {tg e e2 : Expr} {elts : List Expr} {m m2 : DTE} {p pos tpos : Pos} {kk : Nat}
theorem walks_enum {w : Wd} {a : Addr} {ds : List D} {lk : Option (Nat × OD)} (h : ∀ (w' : Wd) (O' : Sto) (H' : Hp), w.sub w' → Ok ca w' O' H' → Still lk O' → ∃ vs, SqL ca.K H' a vs ∧ RepL ca w' vs ds) : Walks ca (Ite ca.K a) w (enumD ds) lk := fun w' O H i l _ k st => by
  obtain ⟨vs, hL, r⟩ := h w' O H l k st
  refine ⟨fun hi => ⟨vs, hL, by rw [r.length]; simpa [enumD] using hi⟩, fun d hd => ?_⟩
  unfold enumD at hd
  rw [List.getElem?_map, List.getElem?_zipIdx] at hd
  cases q : ds[i]? with
  | none => rw [q] at hd; cases hd
  | some dd =>
    rw [q] at hd
    simp at hd
    subst hd
    obtain ⟨v, h1, h2⟩ := r.getD q
    refine ⟨⟨vs, v, hL, h1⟩, fun x H' ⟨T, x', e1, hT, eH, hx⟩ => ?_⟩
    subst e1 eH
    have := hx vs hL
    rw [h1] at this
    cases this
    exact ⟨w'.frz T _, k.newF_le hT, k.newF hT, .tup Wd.frz_at (.cons (.int _) (.cons (h2.mono (k.newF_le hT)) .nil))⟩
theorem di_enum (hK : ca.K = X.K) (hg : Gl X "enumerate") (hm : X.mg "enumerate" = none) (he : DE ca W X e m) (hs1 : starEach [e] X.env = (false, eval e X.env) :: starEach [] X.env := by rfl) (hs : starEach [e] X.env = [(false, eval e X.env)] := by rfl) : DI ca W X (.Tuple elts kk tpos) (.Call (.Name "enumerate" p) [e] [] pos) (srcEnum m) := by
  obtain ⟨t, pt, sp⟩ := he
  refine ⟨_, pi_enum hg hm (pa_cons pt pa_nil hs1) hs, fun w O H σ ρ R k re h => ?_⟩
  refine sp w O H σ ρ _ k re (Post.bindI h fun d O1 v w1 H1 l1 k1 r1 h1 => ?_)
  split at h1
  · rename_i ds lk q
    obtain ⟨a, rfl, st, hL⟩ := listOf_rep k1 r1 q
    obtain ⟨vs, hv, _⟩ := hL w1 O1 H1 ⟨fun _ _ h => h, fun _ _ h => h, .refl _⟩ k1 st
    exact ⟨a, vs, rfl, hK ▸ hv, hK ▸ h1 _ w1 H1 (Wd.le.refl _) k1 st (walks_enum hL)⟩
  · exact h1.elim
theorem walks_zip {w : Wd} {a b : Addr} {ds es : List D} {lk : Option (Nat × OD)} (h : ∀ (w' : Wd) (O' : Sto) (H' : Hp), w.sub w' → Ok ca w' O' H' → Still lk O' → ∃ vs, SqL ca.K H' a vs ∧ RepL ca w' vs ds)
    (g : ∀ (w' : Wd) (O' : Sto) (H' : Hp), w.sub w' → Ok ca w' O' H' → Still lk O' → ∃ vs, SqL ca.K H' b vs ∧ RepL ca w' vs es) : Walks ca (Itz ca.K a b) w (zipD ds es) lk := fun w' O H i l _ k st => by
  obtain ⟨vs, hL, r⟩ := h w' O H l k st
  obtain ⟨us, hL2, r2⟩ := g w' O H l k st
  refine ⟨fun hi => ⟨vs, us, hL, hL2, by
    rw [r.length, r2.length]
    simp [zipD] at hi
    omega⟩, fun d hd => ?_⟩
  unfold zipD at hd
  rw [List.getElem?_map] at hd
  cases q : (ds.zip es)[i]? with
  | none => rw [q] at hd; cases hd
  | some pq =>
    rw [q] at hd
    cases hd
    obtain ⟨q1, q2⟩ := List.getElem?_zip_eq_some.mp q
    obtain ⟨v, h1, h2⟩ := r.getD q1
    obtain ⟨u, g1, g2⟩ := r2.getD q2
    refine ⟨⟨vs, us, v, u, hL, hL2, h1, g1⟩, fun x H' ⟨T, x1, x2, e1, hT, eH, hx, hy⟩ => ?_⟩
    subst e1 eH
    have := hx vs hL
    rw [h1] at this
    cases this
    have := hy us hL2
    rw [g1] at this
    cases this
    exact ⟨w'.frz T _, k.newF_le hT, k.newF hT, .tup Wd.frz_at (.cons (h2.mono (k.newF_le hT)) (.cons (g2.mono (k.newF_le hT)) .nil))⟩
theorem walks_rev {w : Wd} {a : Addr} {ds : List D} {lk : Option (Nat × OD)} (h : ∀ (w' : Wd) (O' : Sto) (H' : Hp), w.sub w' → Ok ca w' O' H' → Still lk O' → ∃ vs, SqL ca.K H' a vs ∧ RepL ca w' vs ds) : Walks ca (Itv ca.K a ds.length) w ds.reverse lk := fun w' O H i l _ k st => by
  obtain ⟨vs, hL, r⟩ := h w' O H l k st
  refine ⟨fun hi => by show ds.length ≤ i; simpa using hi, fun d hd => ?_⟩
  have hi : i < ds.length := by
    have := (List.getElem?_eq_some_iff.mp hd).1
    simpa using this
  rw [List.getElem?_reverse hi] at hd
  obtain ⟨v, h1, h2⟩ := r.getD hd
  exact ⟨⟨hi, vs, v, hL, h1⟩, fun x H' ⟨e1, hx⟩ => by
    subst e1
    have := hx vs hL
    rw [h1] at this
    cases this
    exact ⟨w', Wd.le.refl _, k, h2⟩⟩
theorem walks_revT {w : Wd} {K : PySem.W.Frag} {a : Addr} {vs : List V} {ds : List D} (h : w.F a = some (.tup vs)) (r : RepL ca w vs ds) : Walks ca (RT.ItvT K a ds.length) w ds.reverse none := fun w' O H i l _ k st => by
  have hL : SqT K H a vs := .inl (.inl (k.ext.tup (l.F _ _ h)))
  refine ⟨fun hi => by show ds.length ≤ i; simpa using hi, fun d hd => ?_⟩
  have hi : i < ds.length := by
    have := (List.getElem?_eq_some_iff.mp hd).1
    simpa using this
  rw [List.getElem?_reverse hi] at hd
  obtain ⟨v, h1, h2⟩ := r.getD hd
  exact ⟨⟨hi, vs, v, hL, h1⟩, fun x H' ⟨e1, hx⟩ => by
    subst e1
    have := hx vs hL
    rw [h1] at this
    cases this
    exact ⟨w', Wd.le.refl _, k, h2.mono' l⟩⟩
theorem di_rev (hK : ca.K = X.K) (hg : Gl X "reversed") (hm : X.mg "reversed" = none) (he : DE ca W X e m) (hs : starEach [e] X.env = (false, eval e X.env) :: starEach [] X.env := by rfl) : DI ca W X tg (.Call (.Name "reversed" p) [e] [] pos) (srcRev m) := by
  obtain ⟨t, pt, sp⟩ := he
  refine ⟨_, RT.pi_revA hg hm pt hs, fun w O H σ ρ R k re h => ?_⟩
  refine sp w O H σ ρ _ k re (Post.bindI h fun d O1 v w1 H1 l1 k1 r1 h1 => ?_)
  split at h1
  · rename_i ds lk q
    obtain ⟨a, rfl, st, hL⟩ := listOf_rep k1 r1 q
    obtain ⟨vs, hv, rl⟩ := hL w1 O1 H1 ⟨fun _ _ h => h, fun _ _ h => h, .refl _⟩ k1 st
    refine ⟨a, vs, rfl, .inl ⟨hK ▸ hv, ?_⟩⟩
    rw [rl.length]
    exact hK ▸ h1 _ w1 H1 (Wd.le.refl _) k1 st (walks_rev hL)
  · split at h1
    · cases r1 with
      | tup hF rl =>
        refine ⟨_, _, rfl, .inr ⟨.inl (.inl (k1.ext.tup hF)), ?_⟩⟩
        rw [rl.length]
        exact h1 _ w1 H1 (Wd.le.refl _) k1 trivial (walks_revT hF rl)
    · exact h1.elim
theorem di_zip (hK : ca.K = X.K) (hg : Gl X "zip") (hm : X.mg "zip" = none) (he : DE ca W X e m) (he2 : DE ca W X e2 m2) (hs1 : starEach [e, e2] X.env = (false, eval e X.env) :: starEach [e2] X.env := by rfl) (hs2 : starEach [e2] X.env = (false, eval e2 X.env) :: starEach [] X.env := by rfl) (hpl : (backTo pos (starEach [e2] X.env)).any (·.1) = false := by rfl) : DI ca W X (.Tuple elts kk tpos) (.Call (.Name "zip" p) [e, e2] [] pos) (srcZip m m2) := by
  obtain ⟨t, pt, sp⟩ := he
  obtain ⟨t2, pt2, sp2⟩ := he2
  refine ⟨_, pi_zip hg hm (pa_cons pt (pa_cons pt2 pa_nil hs2) hs1) hs1 hpl, fun w O H σ ρ R k re h => ?_⟩
  refine sp w O H σ ρ _ k re (Post.bindI h fun d O1 v w1 H1 l1 k1 r1 h1 => ?_)
  refine sp2 w1 O1 H1 σ ρ _ k1 (re.mono l1) (Post.bindI h1 fun d2 O2 v2 w2 H2 l2 k2 r2 h2 => ?_)
  split at h2
  · rename_i ds es lk q1 q2
    obtain ⟨a, rfl, st, hL⟩ := listOf_rep k2 (r1.mono l2) q1
    obtain ⟨b, rfl, st2, hL2⟩ := listOf_rep k2 r2 q2
    obtain ⟨vs, hv, _⟩ := hL w2 O2 H2 ⟨fun _ _ h => h, fun _ _ h => h, .refl _⟩ k2 st
    obtain ⟨us, hu, _⟩ := hL2 w2 O2 H2 ⟨fun _ _ h => h, fun _ _ h => h, .refl _⟩ k2 st2
    exact ⟨a, b, vs, us, rfl, hK ▸ hv, hK ▸ hu, hK ▸ h2 _ w2 H2 (Wd.le.refl _) k2 st2 (walks_zip (fun w' O' H' a1 a2 _ => hL w' O' H' a1 a2 trivial) hL2)⟩
  · rename_i ds lk es _ q1 q2
    obtain ⟨a, rfl, st, hL⟩ := listOf_rep k2 (r1.mono l2) q1
    obtain ⟨b, rfl, st2, hL2⟩ := listOf_rep k2 r2 q2
    obtain ⟨vs, hv, _⟩ := hL w2 O2 H2 ⟨fun _ _ h => h, fun _ _ h => h, .refl _⟩ k2 st
    obtain ⟨us, hu, _⟩ := hL2 w2 O2 H2 ⟨fun _ _ h => h, fun _ _ h => h, .refl _⟩ k2 st2
    exact ⟨a, b, vs, us, rfl, hK ▸ hv, hK ▸ hu, hK ▸ h2 _ w2 H2 (Wd.le.refl _) k2 st (walks_zip hL (fun w' O' H' a1 a2 _ => hL2 w' O' H' a1 a2 trivial))⟩
  · exact h2.elim
end

/-! ### displays of dicts -/
def dDict0 : DTE := fun _ O => .ok (.dic []) O
def dNewK (own : Bool) : DTE := fun _ O => mkK own [] O
def dNewT (own : Bool) : DTE := fun _ O => mkT own [] O
def mergeD (kvs : List (Key × D)) (more : List (Key × D)) : List (Key × D) := more.foldl (fun acc kv => setK acc kv.1 kv.2) kvs
def evPairs : List (DTE × DTE) → Env' → Sto → Option (List (Key × D) × Sto)
  | [], _, O => some ([], O)
  | (mk, mv) :: r, ρ, O => match mk ρ O with
    | .ok x O1 => (match keyD x, mv ρ O1 with
      | some k, .ok y O2 => (match evPairs r ρ O2 with
        | some (l, O3) => some ((k, y) :: l, O3)
        | none => none)
      | _, _ => none)
    | _ => none
def dDisp (own : Bool) (prs : List (DTE × DTE)) : DTE := fun ρ O => match evPairs prs ρ O with
  | some (kvs, O1) => if kvs.length ≤ 15 then mkK own (mergeD [] kvs) O1 else .stuck
  | none => .stuck
inductive SndPs (ca : Cn) (X : Cx) : List (Option Expr) → List Expr → List (TE × TE) → List (DTE × DTE) → Prop
  | nil : SndPs ca X [] [] [] []
  | cons {k v : Expr} {ks : List (Option Expr)} {vs : List Expr} {tk tv : TE} {trs : List (TE × TE)} {mk mv : DTE} {ms : List (DTE × DTE)} (hk : PE X k tk) (sk : SndE ca W0 tk mk) (hv : PE X v tv) (sv : SndE ca W0 tv mv) (r : SndPs ca X ks vs trs ms) :
      SndPs ca X (some k :: ks) (v :: vs) ((tk, tv) :: trs) ((mk, mv) :: ms)
def DPs (ca : Cn) (X : Cx) (ks : List (Option Expr)) (vs : List Expr) (ms : List (DTE × DTE)) : Prop := ∃ trs, SndPs ca X ks vs trs ms
section
variable {ca : Cn} {W : WX} {X : Cx} {pos : Pos}
theorem de_newK (own : Bool) : DE ca W X (.Dict [] [] pos) (dNewK own) := ⟨_, pe_dnewK, fun w O H σ ρ Q k re h p hp => post_mkK k .nil h hp⟩
theorem de_newT (own : Bool) : DE ca W X (.Dict [] [] pos) (dNewT own) := ⟨_, pe_dnewT, fun w O H σ ρ Q k re h p hp => post_mkT k .nil h hp⟩
theorem dps_nil : DPs ca X [] [] [] := ⟨_, .nil⟩
theorem dps_cons {k v : Expr} {ks : List (Option Expr)} {vs : List Expr} {mk mv : DTE} {ms : List (DTE × DTE)} (hk : DE ca W0 X k mk) (hv : DE ca W0 X v mv) (r : DPs ca X ks vs ms) : DPs ca X (some k :: ks) (v :: vs) ((mk, mv) :: ms) := by
  obtain ⟨_, a, b⟩ := hk
  obtain ⟨_, c, d⟩ := hv
  obtain ⟨_, e⟩ := r
  exact ⟨_, .cons a b c d e⟩
theorem SndPs.pps {ks : List (Option Expr)} {vs : List Expr} {trs : List (TE × TE)} {ms : List (DTE × DTE)} (h : SndPs ca X ks vs trs ms) : PPs X pos ks vs trs := by
  induction h with
  | nil => exact pps_nil
  | cons hk _ hv _ _ ih => exact pps_cons hk hv ih
theorem SndPs.run {ks : List (Option Expr)} {vs : List Expr} {trs : List (TE × TE)} {ms : List (DTE × DTE)} (h : SndPs ca X ks vs trs ms) : ∀ (w : Wd) (O : Sto) (H : Hp) (σ : L2.St) (ρ : Env') (Q : List (V × V) → Hp → Prop) (l : List (Key × D)) (O' : Sto), Ok ca w O H → RepE ca w σ ρ → evPairs ms ρ O = some (l, O') →
    (∀ ls w' H', w.le w' → Ok ca w' O' H' → RepK ca w' ls l → Q (ls.map fun kv => (kV kv.1, kv.2)) H') → tPairs trs σ H Q := by
  induction h with
  | nil =>
    intro w O H σ ρ Q l O' k re e hq
    cases e
    exact hq [] w H (Wd.le.refl w) k .nil
  | cons hk sk hv sv r ih =>
    intro w O H σ ρ Q l O' k re e hq
    unfold evPairs at e
    rename_i mk mv ms
    cases z1 : mk ρ O with
    | ok x O1 =>
      rw [z1] at e
      simp only at e
      cases z2 : keyD x with
      | none => rw [z2] at e; cases e
      | some key =>
        rw [z2] at e
        cases z3 : mv ρ O1 with
        | ok y O2 =>
          rw [z3] at e
          simp only at e
          cases z4 : evPairs ms ρ O2 with
          | none => rw [z4] at e; cases e
          | some p =>
            obtain ⟨l2, O3⟩ := p
            rw [z4] at e
            cases e
            refine sk w O H σ ρ _ k re ?_
            rw [z1]
            intro v1 w1 H1 l1 k1 r1
            refine sv w1 O1 H1 σ ρ _ k1 (re.mono l1) ?_
            rw [z3]
            intro v2 w2 H2 le2 k2 r2
            refine ih w2 O2 H2 σ ρ _ l2 _ k2 (re.mono (l1.trans le2)) z4 fun ls w3 H3 l3 k3 r3 => ?_
            have := hq ((key, v2) :: ls) w3 H3 ((l1.trans le2).trans l3) k3 (.cons (r2.mono l3) r3)
            rw [keyD_rep r1 z2]
            exact this
        | exc c fs O2 => rw [z3] at e; cases e
        | stuck => rw [z3] at e; cases e
    | exc c fs O2 => rw [z1] at e; cases e
    | stuck => rw [z1] at e; cases e
theorem merge_rep {w : Wd} : ∀ {more : List (Key × V)} {md : List (Key × D)} {kvs : List (Key × V)} {kd : List (Key × D)}, RepK ca w more md → RepK ca w kvs kd → RepK ca w (mergeK kvs more) (mergeD kd md)
  | _, _, _, _, .nil, r => r
  | _, _, _, _, .cons (k := k) h r, q => by
    unfold mergeK mergeD
    rw [List.foldl_cons, List.foldl_cons]
    exact merge_rep r (repK_put k h q)
theorem de_disp {keys : List (Option Expr)} {values : List Expr} {ms : List (DTE × DTE)} (own : Bool) (h : DPs ca X keys values ms) (hall : keys.all (·.isSome) = true := by rfl) (hl : keys.length = values.length := by rfl) (h0 : keys ≠ [] := by exact (fun z => nomatch z)) (h15 : keys.length ≤ 15 := by decide) : DE ca W X (.Dict keys values pos) (dDisp own ms) := by
  obtain ⟨trs, sp⟩ := h
  refine ⟨_, pe_disp sp.pps hall hl h0 h15, fun w O H σ ρ Q k re h p hp => ?_⟩
  unfold dDisp at h
  cases z : evPairs ms ρ O with
  | none => rw [z] at h; exact h.elim
  | some q =>
    obtain ⟨kvs, O1⟩ := q
    rw [z] at h
    obtain ⟨c, h⟩ := post_if h
    have hpv := k.pvFree hp
    refine sp.run (w.hid p (.dK [])) O _ σ ρ _ kvs O1 (k.hide hp) (re.mono' Wd.hid_sub) z fun ls w1 H1 l1 k1 r1 => ?_
    have pv1 : w1.pv = upd w.pv p (.dK []) := l1.pv
    obtain ⟨k2, hH, hF, hA⟩ := k1.unhide pv1 hpv
    refine ⟨hH, ls, rfl, by rw [r1.length]; exact c, ?_⟩
    have sub : w1.sub ⟨w1.F, w1.ad, w.pv, w1.lk, w1.cx⟩ := ⟨fun _ _ h => h, fun _ _ h => h, .refl _⟩
    have le0 : w.le ⟨w1.F, w1.ad, w.pv, w1.lk, w1.cx⟩ := ⟨fun b q e => l1.F _ _ e, fun m b e => l1.ad _ _ e, rfl, l1.lk, l1.cx⟩
    have rk : RepK ca ⟨w1.F, w1.ad, w.pv, w1.lk, w1.cx⟩ (mergeK [] ls) (mergeD [] kvs) := merge_rep (r1.mono' sub) .nil
    -- the dict's own address: let it change while hidden
    have k3 := (k1.rehide (p := p) (u' := .dK (mergeK [] ls)) (by rw [pv1]; exact upd_same) rfl)
    have pv3 : (⟨w1.F, w1.ad, upd w1.pv p (.dK (mergeK [] ls)), w1.lk, w1.cx⟩ : Wd).pv = upd w.pv p (.dK (mergeK [] ls)) := by
      show upd w1.pv p _ = _
      rw [pv1, upd_upd]
    obtain ⟨k4, hH4, hF4, hA4⟩ := k3.unhide pv3 hpv
    cases own with
    | true => exact h _ _ _ (le0.trans Wd.add_le) (k4.join hH4 hF4 hA4 hpv (.dic rk)) (.loc (Wd.add_at k4))
    | false =>
      have k5 := k4.adopt hH4 (.inl hF4) hpv fun n o e => absurd (List.mem_of_getElem? e) hA4
      exact h _ _ _ (le0.trans (Wd.frz_le (.inl hF4))) k5 (.dic Wd.frz_at (RepK.mono (w := ⟨w1.F, w1.ad, w.pv, w1.lk, w1.cx⟩) (w' := Wd.frz ⟨w1.F, w1.ad, w.pv, w1.lk, w1.cx⟩ p (.dK (mergeK [] ls))) (Wd.frz_le (.inl hF4)) rk))
end
end Yk

set_option Elab.async false
set_option linter.all false
set_option maxRecDepth 100000
set_option maxHeartbeats 1000000
/-! Yk: the store behind a call is cut back; freezing; a law's end. -/
namespace Yk
open PySem L2 NdefX LamX

/-! ### places of the store below n alone -/
mutual
inductive Below (n : Nat) : D → Prop
  | non : Below n .non
  | bl (b : Bool) : Below n (.bl b)
  | int (i : Int) : Below n (.int i)
  | str (s : Str) : Below n (.str s)
  | lst {ds : List D} (h : BelowL n ds) : Below n (.lst ds)
  | tup {ds : List D} (h : BelowL n ds) : Below n (.tup ds)
  | dic {ds : List (Key × D)} (h : BelowK n ds) : Below n (.dic ds)
  | dit {ds : List (List Key × D)} (h : BelowT n ds) : Below n (.dit ds)
  | obj {c : Str} {ds : List (Str × D)} (h : BelowF n ds) : Below n (.obj c ds)
  | loc {m : Nat} (h : m < n) : Below n (.loc m)
  | ty (s : String) : Below n (.ty s)
  | cls (c : Str) : Below n (.cls c)
  | clo {nm : Str} {ds : List D} (h : BelowL n ds) : Below n (.clo nm ds)
  | xo {c : Str} {ds : List (Str × D)} (h : BelowF n ds) : Below n (.xo c ds)
  | scr (ns : List Int) : Below n (.scr ns)
inductive BelowL (n : Nat) : List D → Prop
  | nil : BelowL n []
  | cons {d : D} {ds : List D} (h : Below n d) (r : BelowL n ds) : BelowL n (d :: ds)
inductive BelowK (n : Nat) : List (Key × D) → Prop
  | nil : BelowK n []
  | cons {k : Key} {d : D} {ds : List (Key × D)} (h : Below n d) (r : BelowK n ds) : BelowK n ((k, d) :: ds)
inductive BelowT (n : Nat) : List (List Key × D) → Prop
  | nil : BelowT n []
  | cons {k : List Key} {d : D} {ds : List (List Key × D)} (h : Below n d) (r : BelowT n ds) : BelowT n ((k, d) :: ds)
inductive BelowF (n : Nat) : List (Str × D) → Prop
  | nil : BelowF n []
  | cons {k : Str} {d : D} {ds : List (Str × D)} (h : Below n d) (r : BelowF n ds) : BelowF n ((k, d) :: ds)
end
inductive BelowO (n : Nat) : OD → Prop
  | lst {ds : List D} (h : BelowL n ds) : BelowO n (.lst ds)
  | dic {ds : List (Key × D)} (h : BelowK n ds) : BelowO n (.dic ds)
  | dit {ds : List (List Key × D)} (h : BelowT n ds) : BelowO n (.dit ds)
  | ins {c : Str} {ds : List (Str × D)} (h : BelowF n ds) : BelowO n (.ins c ds)
  | gone : BelowO n .gone
  | lck {o : OD} (h : BelowO n o) : BelowO n (.lck o)
/-- the world's places cut back to n -/
def Wd.cut (w : Wd) (n : Nat) : Wd := ⟨w.F, w.ad.take n, w.pv, w.lk, w.cx⟩
section
variable {ca : Cn} {w : Wd} {n : Nat}
mutual
theorem Rep.cut : ∀ {v : V} {d : D}, Rep ca w v d → Below n d → Rep ca (w.cut n) v d
  | _, _, .non, _ => .non
  | _, _, .bl b, _ => .bl b
  | _, _, .int i, _ => .int i
  | _, _, .str s, _ => .str s
  | _, _, .lst h r, .lst b => .lst h (RepL.cut r b)
  | _, _, .tup h r, .tup b => .tup h (RepL.cut r b)
  | _, _, .dic h r, .dic b => .dic h (RepK.cut r b)
  | _, _, .dit h r, .dit b => .dit h (RepT.cut r b)
  | _, _, .obj h hc r, .obj b => .obj h hc (RepF.cut r b)
  | _, _, .loc h, .loc b => .loc (by
    show (w.ad.take n)[_]? = _
    rw [List.getElem?_take_of_lt b]
    exact h)
  | _, _, .ty n, _ => .ty n
  | _, _, .cls h, _ => .cls h
  | _, _, .clo hs hf hc hk r, .clo b => .clo hs hf hc ⟨hk.len, hk.sub, hk.frn, hk.inj, hk.has⟩ (RepL.cut r b)
  | _, _, .xo0 hx hc, _ => .xo0 hx hc
  | _, _, .xo hx hc hd r, .xo b => .xo hx hc hd (RepF.cut r b)
  | _, _, .scr h, _ => .scr h
theorem RepL.cut : ∀ {v : List V} {d : List D}, RepL ca w v d → BelowL n d → RepL ca (w.cut n) v d
  | _, _, .nil, _ => .nil
  | _, _, .cons h r, .cons a b => .cons (Rep.cut h a) (RepL.cut r b)
theorem RepK.cut : ∀ {v : List (Key × V)} {d : List (Key × D)}, RepK ca w v d → BelowK n d → RepK ca (w.cut n) v d
  | _, _, .nil, _ => .nil
  | _, _, .cons h r, .cons a b => .cons (Rep.cut h a) (RepK.cut r b)
theorem RepT.cut : ∀ {v : List (List Key × V)} {d : List (List Key × D)}, RepT ca w v d → BelowT n d → RepT ca (w.cut n) v d
  | _, _, .nil, _ => .nil
  | _, _, .cons h r, .cons a b => .cons (Rep.cut h a) (RepT.cut r b)
theorem RepF.cut : ∀ {v : List (Str × V)} {d : List (Str × D)}, RepF ca w v d → BelowF n d → RepF ca (w.cut n) v d
  | _, _, .nil, _ => .nil
  | _, _, .cons h r, .cons a b => .cons (Rep.cut h a) (RepF.cut r b)
end
mutual
theorem Rep.blw : ∀ {v : V} {d : D}, Rep ca w v d → Below w.ad.length d
  | _, _, .non => .non
  | _, _, .bl b => .bl b
  | _, _, .int i => .int i
  | _, _, .str s => .str s
  | _, _, .lst h r => .lst (RepL.blw r)
  | _, _, .tup h r => .tup (RepL.blw r)
  | _, _, .dic h r => .dic (RepK.blw r)
  | _, _, .dit h r => .dit (RepT.blw r)
  | _, _, .obj h hc r => .obj (RepF.blw r)
  | _, _, .loc h => .loc (List.getElem?_eq_some_iff.mp h).1
  | _, _, .ty n => .ty n
  | _, _, .cls (c := c) h => .cls c
  | _, _, .clo hs hf hc hk r => .clo (RepL.blw r)
  | _, _, .xo0 hx hc => .xo .nil
  | _, _, .xo hx hc hd r => .xo (RepF.blw r)
  | _, _, .scr (ns := ns) h => .scr ns
theorem RepL.blw : ∀ {v : List V} {d : List D}, RepL ca w v d → BelowL w.ad.length d
  | _, _, .nil => .nil
  | _, _, .cons h r => .cons (Rep.blw h) (RepL.blw r)
theorem RepK.blw : ∀ {v : List (Key × V)} {d : List (Key × D)}, RepK ca w v d → BelowK w.ad.length d
  | _, _, .nil => .nil
  | _, _, .cons h r => .cons (Rep.blw h) (RepK.blw r)
theorem RepT.blw : ∀ {v : List (List Key × V)} {d : List (List Key × D)}, RepT ca w v d → BelowT w.ad.length d
  | _, _, .nil => .nil
  | _, _, .cons h r => .cons (Rep.blw h) (RepT.blw r)
theorem RepF.blw : ∀ {v : List (Str × V)} {d : List (Str × D)}, RepF ca w v d → BelowF w.ad.length d
  | _, _, .nil => .nil
  | _, _, .cons h r => .cons (Rep.blw h) (RepF.blw r)
end
theorem RepO.cut : ∀ {u : HO} {o : OD}, RepO ca w u o → BelowO n o → RepO ca (w.cut n) u o
  | _, _, .lst r, .lst b => .lst (r.cut b)
  | _, _, .dic r, .dic b => .dic (r.cut b)
  | _, _, .dit r, .dit b => .dit (r.cut b)
  | _, _, .ins hc r, .ins b => .ins hc (r.cut b)
  | _, _, .lck hu r, .lck b => .lck hu (RepO.cut r b)
theorem RepO.blw : ∀ {u : HO} {o : OD}, RepO ca w u o → BelowO w.ad.length o
  | _, _, .lst r => .lst r.blw
  | _, _, .dic r => .dic r.blw
  | _, _, .dit r => .dit r.blw
  | _, _, .ins hc r => .ins r.blw
  | _, _, .lck hu r => .lck (RepO.blw r)
end
/-- what a call hands back: what it made in the store and hands on to nobody is forgotten -/
def Kept (O O' : Sto) : Prop := O.length ≤ O'.length ∧ ∀ i o, i < O.length → O'[i]? = some o → O[i]? = some o ∨ BelowO O.length o
open Classical in
noncomputable def trimR (O : Sto) : Res → Res
  | .ok d O' => if Below O.length d ∧ Kept O O' then .ok d (O'.take O.length) else .ok d O'
  | .exc c fs O' => if BelowF O.length fs ∧ Kept O O' then .exc c fs (O'.take O.length) else .exc c fs O'
  | .stuck => .stuck
theorem Kept.refl (O : Sto) : Kept O O := ⟨Nat.le_refl _, fun _ _ _ h => .inl h⟩
theorem Kept.app (O G : Sto) : Kept O (O ++ G) := ⟨by simp, fun i o hi h => .inl (by rwa [List.getElem?_append_left hi] at h)⟩
theorem trim_same {O : Sto} {d : D} (h : Below O.length d) : trimR O (.ok d O) = .ok d O := by
  unfold trimR
  dsimp only
  rw [if_pos ⟨h, Kept.refl O⟩, List.take_length]
theorem trim_app {O G : Sto} {d : D} (h : Below O.length d) : trimR O (.ok d (O ++ G)) = .ok d O := by
  unfold trimR
  dsimp only
  rw [if_pos ⟨h, Kept.app O G⟩, List.take_left']
  rfl
section
variable {ca : Cn} {w w' : Wd} {O O' : Sto} {H H' : Hp}
theorem Ok.cut (k : Ok ca w O H) (l : w.le w') (k' : Ok ca w' O' H') (h : Kept O O') : Ok ca (w'.cut O.length) (O'.take O.length) H' ∧ w.le (w'.cut O.length) := by
  have hl : w'.ad.length = O'.length := k'.len
  refine ⟨⟨k'.ext, ?_, k'.nd.sublist (List.take_sublist _ _), fun a m => k'.here a (List.mem_of_mem_take m), fun n a o e1 e2 g => ?_, fun a u e => ?_, k'.lks, k'.x.wd k'.x.pvp k'.x.fpl⟩, ⟨l.F, fun n a e => ?_, l.pv, l.lk, l.cx⟩⟩
  · show (w'.ad.take O.length).length = _
    rw [List.length_take, List.length_take, hl]
  · have e1 : (w'.ad.take O.length)[n]? = some a := e1
    have hn : n < O.length := by
      have := (List.getElem?_eq_some_iff.mp e1).1
      rw [List.length_take] at this
      omega
    rw [List.getElem?_take_of_lt hn] at e1 e2
    obtain ⟨h1, u, h2, h3⟩ := k'.own n a o e1 e2 g
    refine ⟨h1, u, h2, h3.cut ?_⟩
    rcases h.2 n o hn e2 with q | q
    · -- as it was ahead
      have hn2 : n < w.ad.length := by rw [k.len]; exact hn
      obtain ⟨_, u0, _, r0⟩ := k.own n _ o (List.getElem?_eq_getElem hn2) q g
      have := r0.blw
      rw [k.len] at this
      exact this
    · exact q
  · obtain ⟨h1, h2, h3⟩ := k'.prv a u e
    exact ⟨h1, h2, fun m => h3 (List.mem_of_mem_take m)⟩
  · have hn : n < O.length := by
      have := (List.getElem?_eq_some_iff.mp e).1
      rw [k.len] at this
      exact this
    show (w'.ad.take O.length)[n]? = some a
    rw [List.getElem?_take_of_lt hn]
    exact l.ad _ _ e
theorem Post.trim {W : WX} {σ : L2.St} {Q : VK} {r : Res} (k : Ok ca w O H) (h : Post ca w W σ Q (trimR O r)) : Post ca w W σ Q r := by
  cases r with
  | ok d O' =>
    unfold trimR at h
    dsimp only at h
    by_cases c : Below O.length d ∧ Kept O O'
    · rw [if_pos c] at h
      intro v w' H' l k' r
      obtain ⟨k2, l2⟩ := k.cut l k' c.2
      exact h v _ H' l2 k2 (r.cut c.1)
    · rw [if_neg c] at h
      exact h
  | exc c fs O' =>
    unfold trimR at h
    dsimp only at h
    by_cases cc : BelowF O.length fs ∧ Kept O O'
    · rw [if_pos cc] at h
      intro cv dx w' H' l k' x
      obtain ⟨k2, l2⟩ := k.cut l k' cc.2
      refine h cv dx _ H' l2 k2 ?_
      obtain ⟨C, h1, h2, h3⟩ := x
      refine ⟨C, h1, h2, ?_⟩
      cases dx with
      | none => exact h3
      | some dd =>
        obtain ⟨vs, a, b⟩ := h3
        exact ⟨vs, a, b.cut cc.1⟩
    · rw [if_neg cc] at h
      exact h
  | stuck => exact h
end

/-! ### freezing -/
def frz1 (d : D) (O : Sto) : Option (D × Sto) := match d with
  | .loc n => (match O[n]? with
    | some (.lst ds) => some (.lst ds, O.set n .gone)
    | some (.dic ds) => some (.dic ds, O.set n .gone)
    | some (.dit ds) => some (.dit ds, O.set n .gone)
    | some (.ins c fs) => some (.obj c fs, O.set n .gone)
    | _ => none)
  | d => some (d, O)
theorem frz1_ok {ca : Cn} {w : Wd} {O O' : Sto} {H : Hp} {v : V} {d d' : D} (k : Ok ca w O H) (r : Rep ca w v d) (h : frz1 d O = some (d', O')) : ∃ w', w.le w' ∧ Ok ca w' O' H ∧ Rep ca w' v d' := by
  cases r with
  | @loc a n hA =>
    unfold frz1 at h
    cases q : O[n]? with
    | none => simp only [q] at h; cases h
    | some od =>
      simp only [q] at h
      have fin : ∀ {u : HO}, od ≠ .gone → H a = some u → Ok ca (w.frz a u) (O.set n .gone) H ∧ w.le (w.frz a u) := fun hg hu => k.freeze hA q hg hu
      split at h
      · rename_i q2
        cases q2
        cases h
        obtain ⟨_, u, h2, h3⟩ := k.own _ _ _ hA q (fun z => nomatch z)
        obtain ⟨f1, f2⟩ := fin (fun z => nomatch z) h2
        cases h3 with
        | lst r => exact ⟨_, f2, f1, .lst Wd.frz_at (r.mono f2)⟩
      · rename_i q2
        cases q2
        cases h
        obtain ⟨_, u, h2, h3⟩ := k.own _ _ _ hA q (fun z => nomatch z)
        obtain ⟨f1, f2⟩ := fin (fun z => nomatch z) h2
        cases h3 with
        | dic r => exact ⟨_, f2, f1, .dic Wd.frz_at (r.mono f2)⟩
      · rename_i q2
        cases q2
        cases h
        obtain ⟨_, u, h2, h3⟩ := k.own _ _ _ hA q (fun z => nomatch z)
        obtain ⟨f1, f2⟩ := fin (fun z => nomatch z) h2
        cases h3 with
        | dit r => exact ⟨_, f2, f1, .dit Wd.frz_at (r.mono f2)⟩
      · rename_i q2
        cases q2
        cases h
        obtain ⟨_, u, h2, h3⟩ := k.own _ _ _ hA q (fun z => nomatch z)
        obtain ⟨f1, f2⟩ := fin (fun z => nomatch z) h2
        cases h3 with
        | ins hc r => exact ⟨_, f2, f1, .obj Wd.frz_at hc (r.mono f2)⟩
      · cases h
  | non => cases h; exact ⟨w, Wd.le.refl w, k, .non⟩
  | bl b => cases h; exact ⟨w, Wd.le.refl w, k, .bl b⟩
  | int i => cases h; exact ⟨w, Wd.le.refl w, k, .int i⟩
  | str s => cases h; exact ⟨w, Wd.le.refl w, k, .str s⟩
  | lst a b => cases h; exact ⟨w, Wd.le.refl w, k, .lst a b⟩
  | tup a b => cases h; exact ⟨w, Wd.le.refl w, k, .tup a b⟩
  | dic a b => cases h; exact ⟨w, Wd.le.refl w, k, .dic a b⟩
  | dit a b => cases h; exact ⟨w, Wd.le.refl w, k, .dit a b⟩
  | obj a b c => cases h; exact ⟨w, Wd.le.refl w, k, .obj a b c⟩
  | ty n => cases h; exact ⟨w, Wd.le.refl w, k, .ty n⟩
  | cls a => cases h; exact ⟨w, Wd.le.refl w, k, .cls a⟩
  | clo a b c d e => cases h; exact ⟨w, Wd.le.refl w, k, .clo a b c d e⟩
  | xo0 a b => cases h; exact ⟨w, Wd.le.refl w, k, .xo0 a b⟩
  | xo a b c d => cases h; exact ⟨w, Wd.le.refl w, k, .xo a b c d⟩
  | scr a => cases h; exact ⟨w, Wd.le.refl w, k, .scr a⟩
def dFrz (m : DTE) : DTE := fun ρ O => (m ρ O).bind fun d O1 => match frz1 d O1 with
  | some (d', O2) => .ok d' O2
  | none => .stuck
section
variable {ca : Cn} {W : WX} {X : Cx} {e : Expr} {m : DTE}
theorem de_frz (h : DE ca W X e m) : DE ca W X e (dFrz m) := by
  obtain ⟨t, pt, sp⟩ := h
  refine ⟨t, pt, fun w O H σ ρ Q k re h => ?_⟩
  refine sp w O H σ ρ _ k re (Post.bind h fun d O1 v w1 H1 l1 k1 r1 h1 => ?_)
  cases z : frz1 d O1 with
  | none => rw [z] at h1; exact h1.elim
  | some p =>
    obtain ⟨d', O2⟩ := p
    rw [z] at h1
    obtain ⟨w2, l2, k2, r2⟩ := frz1_ok k1 r1 z
    exact h1 v w2 H1 l2 k2 r2
/-- in every context of a block -/
theorem deb_of {CC : Cx → Prop} (h : ∀ X, CC X → DE ca W0 X e m) : DEb ca CC e m := by
  refine ⟨fun σ H Q => ∀ X, CC X → ∃ t, PE X e t ∧ t σ H Q, fun X hX => ⟨fun pins s σ H Q I q => ?_⟩, fun w O H σ ρ Q k re q X hX => ?_⟩
  · obtain ⟨t, pt, ht⟩ := q X hX
    exact pt.run pins s σ H Q I ht
  · obtain ⟨t, pt, st⟩ := h X hX
    exact ⟨t, pt, st w O H σ ρ Q k re q⟩
theorem dtb_of {CC : Cx → Prop} {mt : DTT} (h : ∀ X, CC X → DT ca W0 X e mt) : DTb ca CC [e] mt := by
  refine ⟨fun σ H Q => ∀ X, CC X → ∃ t, PT X e t ∧ t σ H Q, fun X hX => pts_one ⟨fun pins s σ H Q I q => ?_⟩, fun w O H σ ρ Q k re q X hX => ?_⟩
  · obtain ⟨t, pt, ht⟩ := q X hX
    exact pt.run pins s σ H Q I ht
  · obtain ⟨t, pt, st⟩ := h X hX
    exact ⟨t, pt, st w O H σ ρ Q k re q⟩
end

/-! ### a def of the text, as the head tells it -/
/-- a law's own: the texts of made defs, the tables of their code, which of them run -/
structure LwB where
  cf : Str → Option CloS
  T : PySem.W.Frag → List NTab
  bz : Option (List Str)
  xa : Option (Addr × Addr × Option Addr)
abbrev cao (B : LwB) (K : PySem.W.Frag) : Cn := ⟨K, fun c => some (He.ga K c), B.cf, B.T K, B.bz, B.xa⟩
/-- a law without made defs -/
def B0 : LwB := ⟨fun _ => none, fun _ => [], some [], none⟩
variable {B : LwB}
noncomputable def mFn (N : List Str) (m : DTS) : List D → Sto → Res := fun ds O => trimR O (m (startD N.length ds) O).res
/-- a def that stands at the module's name x and does what m says -/
structure Good (B : LwB) (P : Program) (w : World) (K : PySem.W.Frag) (mg : Str → Option Value) (base : Heap) (x : Str) (fd : FuncData) (k : Nat) (ps : List Str) (n : Nat) (m : List D → Sto → Res) : Prop where
  ex : FnOk P w K mg base (L2.CX P w) k (He.ga K x) fd ps (spD (cao B K) n m) ∧ (∀ (s : Shared) (us : List Value), us.length = ps.length → BindsTo s fd ⟨us, []⟩ (ps.zip us)) ∧ PySem.W.keepIn K (.ref (He.ga K x)) = true
  at_ : mg x = some (.ref (He.ga K x))
theorem Good.mono {P : Program} {w : World} {K : PySem.W.Frag} {mg : Str → Option Value} {base : Heap} {x : Str} {fd : FuncData} {j k : Nat} {ps : List Str} {n : Nat} {m : List D → Sto → Res} (h : Good B P w K mg base x fd j ps n m) (hk : j ≤ k) : Good B P w K mg base x fd k ps n m := by
  obtain ⟨⟨a, b, c⟩, d⟩ := h
  exact ⟨⟨a.mono hk, b, c⟩, d⟩
section
variable {P : Program} {w : World} {K : PySem.W.Frag} {mg : Str → Option Value} {base : Heap}
theorem good_of {x qual : Str} {st : Stmt} {fd : FuncData} {N ps : List Str} {k n : Nat} (F : FunD K x qual (defArgs st) (defBody st) (defScope st) [] [] (He.ga K x) fd) (hm : mg x = some (.ref (He.ga K x))) (S : FnScope N ps (defScope st)) (hn : ps.length = n)
    (hb : ∀ (kV doc pm : Value) (an : Option Addr) (cdv ct : Value) (us : List Value), us.length = ps.length → bindArgs (PySem.W.fnOf x qual (defArgs st) (defBody st) (defScope st) .none kV doc pm an cdv ct) ⟨us, []⟩ = pure (ps.zip us)) {m : DTS}
    (hbody : ∀ (cdv : Value) (A : Around) (outer : List Env) (s : Shared) (H : Hp) (E : XK), Room k (A.deeper (PyProof.Rows.envOfC qual (defScope st) s.heap.objs.size (He.ga K x) cdv)) →
      DSs (cao B K) (fun cv dx _ H => E cv dx H) (cxOf (L2.CX P w) P w K mg base N qual (defScope st) (He.ga K x) cdv A outer s H E) (defBody st) m) : Good B P w K mg base x fd (k + 1) ps n (mFn N m) := by
  refine ⟨⟨?_, F.bindsA hb, F.kp⟩, hm⟩
  refine F.ok S (fun vs H Q E h => ?_) (fun cdv A outer s H vs Q E hr h => ?_)
  · obtain ⟨_, _, _, _, _, e, _⟩ := h
    rw [e, hn]
  · obtain ⟨w0, O, ds, k0, r, _, h⟩ := h
    obtain ⟨t, pt, sp⟩ := hbody cdv A outer s H E hr
    refine ⟨t, pt, sp w0 O H _ (startD N.length ds) _ k0 (r.start N) ?_⟩
    have h : Post (cao B K) w0 (fun cv dx _ H => E cv dx H) [] Q (m (startD N.length ds) O).res := Post.trim k0 h
    cases z : m (startD N.length ds) O with
    | nx ρ O1 => rw [z] at h; exact fun σ' w1 H1 l1 k1 _ => h .non w1 H1 l1 k1 .non
    | rt d O1 => rw [z] at h; exact fun v w1 H1 l1 k1 r1 => h v w1 H1 l1 k1 r1
    | exc c fs ρ O1 => rw [z] at h; exact fun cv dx σ' w1 H1 l1 k1 _ x => h cv dx w1 H1 l1 k1 x
    | bk ρ O1 => rw [z] at h; exact h.elim
    | ct ρ O1 => rw [z] at h; exact h.elim
    | stuck => rw [z] at h; exact h.elim
end
section
variable {W : WX} {X : Cx} {k n : Nat} {ps : List Str} {fm : List D → Sto → Res} {x : Str} {p pos : Pos} {e : Expr} {es : List Expr} {ma : DTA}
/-- a call by the name -/
theorem de_fn {j : Nat} {fd : FuncData} (G : Good B X.prog X.w X.K X.mg X.base x fd j ps n fm) (hr : Room k X.A) (hj : j ≤ k) (hg : Gl X x) (hx : Tk X W) (ha : DA (cao B X.K) W X (e :: es) ma) (hn : ∀ ρ O xs O1, ma ρ O = .ok xs O1 → xs.length = n)
    (hdb : (x == ("__debug__" : Str)) = false := by decide) (he : starEach (e :: es) X.env = (false, eval e X.env) :: starEach es X.env := by rfl) (hpl : (backTo pos (starEach es X.env)).any (·.1) = false := by rfl) :
    DE (cao B X.K) W X (.Call (.Name x p) (e :: es) [] pos) (dCall fm [] ma) := by
  obtain ⟨⟨F, b, kp⟩, hm⟩ := G
  exact de_call (F.mono hj) hr hg hm kp (fun s us _ hl => by
    rw [List.append_nil] at hl ⊢
    exact b s us hl) .nil (fun _ => .nil) hx (fun ρ O xs O1 h => by rw [List.append_nil]; exact hn _ _ _ _ h) ha hdb he hpl
end
/-- the law's own end: m says True of every script -/
theorem law_spT {K : PySem.W.Frag} {m : List D → Sto → Res} {H : Hp} {a : Addr} {ns : List Int} (hT : ∀ p ∈ B.T K, H p.1 = some (.tbl #[])) (hb : B.bz = some []) (hx : B.xa = none) (hS : SqL K H a (ns.map V.int)) (hm : ∃ O, m [.scr ns] [] = .ok (.bl true) O) :
    spD (cao B K) 1 m [.ref a] H (fun v _ => v = .bl true) fun _ _ _ => False := by
  obtain ⟨O, hm⟩ := hm
  have keep : ∀ b u, notTbl u = true → H b = some u → (fun b => match H b with | some (.tbl _) => none | u => u) b = some u := fun b u hu e => by
    dsimp only
    rw [e]
    cases u <;> first | rfl | cases hu
  have back : ∀ b u, (fun b => match H b with | some (.tbl _) => none | u => u) b = some u → H b = some u ∧ notTbl u = true := fun b u e => by
    dsimp only at e
    cases q : H b with
    | none => rw [q] at e; cases e
    | some v =>
      rw [q] at e
      cases v <;> cases e <;> exact ⟨rfl, rfl⟩
  refine ⟨⟨fun b => match H b with | some (.tbl _) => none | u => u, [], fun _ => none, fun _ => none, {}⟩, [], [.scr ns], ⟨fun b u e => .inl (back b u e).1, rfl, List.nodup_nil, fun _ h => (nomatch h), fun n a o e => by simp at e, fun a u e => (nomatch e), fun a u e => (nomatch e), ⟨fun a u e => (nomatch e), fun b u e => ⟨(back b u e).2, fun nm v e => (nomatch e)⟩, fun p hp => TabN.nil (hT p hp), fun c nm v e => (nomatch e), fun c h => (nomatch h), fun l e => ?_, hx.symm⟩⟩, .cons (.scr ?_) .nil, rfl, ?_⟩
  · have e : B.bz = some l := e
    rw [hb] at e
    exact Option.some.inj e
  · rcases hS with (h | ⟨o, h⟩) | h
    · exact .inl (.inl (keep _ _ rfl h))
    · exact .inl (.inr ⟨o, keep _ _ rfl h⟩)
    · exact .inr h
  rw [hm]
  intro v w' H' _ _ r
  cases r
  rfl
theorem law_sp {K : PySem.W.Frag} {m : List D → Sto → Res} {H : Hp} {a : Addr} {ns : List Int} (hT : B.T K = []) (hb : B.bz = some []) (hx : B.xa = none) (hO : Only H) (hS : SqL K H a (ns.map V.int)) (hm : ∃ O, m [.scr ns] [] = .ok (.bl true) O) :
    spD (cao B K) 1 m [.ref a] H (fun v _ => v = .bl true) fun _ _ _ => False := law_spT (fun p hp => by rw [hT] at hp; cases hp) hb hx hS hm
end Yk

set_option Elab.async false
set_option linter.all false
set_option maxRecDepth 100000
set_option maxHeartbeats 2000000
/-! YkM: how the functions over data are worked out; the law's end. -/
namespace Yk
open PySem PySem.Spec PyProof.Rows L2
section
variable {d : D} {O : Sto} {ρ : Env'} {c : Str} {fs : List (Str × D)}
@[simp] theorem bind_ok {k : D → Sto → Res} : (Res.ok d O).bind k = k d O := Eq.trans rfl rfl
@[simp] theorem bindL_ok {k : D → Sto → ResL} : (Res.ok d O).bindL k = k d O := Eq.trans rfl rfl
@[simp] theorem bindB_ok {k : D → Sto → ResB} : (Res.ok d O).bindB k = k d O := Eq.trans rfl rfl
@[simp] theorem bindS_ok {k : D → Sto → Out} : (Res.ok d O).bindS ρ k = k d O := Eq.trans rfl rfl
@[simp] theorem bindI_ok {k : D → Sto → ResI} : (Res.ok d O).bindI k = k d O := Eq.trans rfl rfl
@[simp] theorem lbind_ok {l : List D} {k : List D → Sto → Res} : (ResL.ok l O).bind k = k l O := Eq.trans rfl rfl
@[simp] theorem lbindL_ok {l : List D} {k : List D → Sto → ResL} : (ResL.ok l O).bindL k = k l O := Eq.trans rfl rfl
@[simp] theorem lbindI_ok {l : List D} {k : List D → Sto → ResI} : (ResL.ok l O).bindI k = k l O := Eq.trans rfl rfl
@[simp] theorem bbindB_ok {b : Bool} {k : Bool → Sto → ResB} : (ResB.ok b O).bindB k = k b O := Eq.trans rfl rfl
@[simp] theorem bbindS_ok {b : Bool} {k : Bool → Sto → Out} : (ResB.ok b O).bindS ρ k = k b O := Eq.trans rfl rfl
@[simp] theorem ibindS_ok {l : List D} {q : Option (Nat × OD)} {k : List D → Option (Nat × OD) → Sto → Out} : (ResI.ok l q O).bindS ρ k = k l q O := Eq.trans rfl rfl
@[simp] theorem ibindL_ok {l : List D} {q : Option (Nat × OD)} {k : List D → Option (Nat × OD) → Sto → ResL} : (ResI.ok l q O).bindL k = k l q O := Eq.trans rfl rfl
@[simp] theorem still_none : Still none O ↔ True := Iff.rfl
@[simp] theorem res_rt : (Out.rt d O).res = .ok d O := Eq.trans rfl rfl
@[simp] theorem res_nx : (Out.nx ρ O).res = .ok .non O := Eq.trans rfl rfl
@[simp] theorem trim_int {i : Int} : trimR O (.ok (.int i) O) = .ok (.int i) O := trim_same (.int _)
@[simp] theorem trim_bl {i : Bool} : trimR O (.ok (.bl i) O) = .ok (.bl i) O := trim_same (.bl _)
@[simp] theorem trim_str {i : Str} : trimR O (.ok (.str i) O) = .ok (.str i) O := trim_same (.str _)
@[simp] theorem trim_non : trimR O (.ok .non O) = .ok .non O := trim_same .non
/-- one step of a block -/
theorem seq_nx {a b : DTS} {ρ1 : Env'} {O1 : Sto} (h : a ρ O = .nx ρ1 O1) : dSeq a b ρ O = b ρ1 O1 := by unfold dSeq; rw [h]
theorem seq_rt {a b : DTS} {O1 : Sto} (h : a ρ O = .rt d O1) : dSeq a b ρ O = .rt d O1 := by unfold dSeq; rw [h]
theorem seq_step {a b : DTS} {ρ1 : Env'} {O1 : Sto} {r : Out} (h : a ρ O = .nx ρ1 O1) (h2 : b ρ1 O1 = r) : dSeq a b ρ O = r := (seq_nx h).trans h2
theorem if_t {c : DTT} {a b : DTS} {O1 : Sto} (h : c ρ O = .ok true O1) : dIf c a b ρ O = a ρ O1 := by unfold dIf; rw [h]; rfl
theorem if_f {c : DTT} {a b : DTS} {O1 : Sto} (h : c ρ O = .ok false O1) : dIf c a b ρ O = b ρ O1 := by unfold dIf; rw [h]; rfl
theorem if_b {c : DTT} {a b : DTS} {O1 : Sto} {k : Bool} (h : c ρ O = .ok k O1) : dIf c a b ρ O = if k = true then a ρ O1 else b ρ O1 := by unfold dIf; rw [h]; rfl
theorem set_ok {m : DTE} {i : Nat} {O1 : Sto} (h : m ρ O = .ok d O1) : dSet i m ρ O = .nx (ρ.set i (some d)) O1 := by unfold dSet; rw [h]; rfl
theorem ret_ok {m : DTE} {O1 : Sto} (h : m ρ O = .ok d O1) : dRet m ρ O = .rt d O1 := by unfold dRet; rw [h]; rfl
/-- a loop that never stops early: step by step -/
theorem forL_run {items : List D} {lk : Option (Nat × OD)} {g : DTG} {body : DTS} (I : List D → Env' → Sto → Prop) (hs : ∀ xs ρ O, I xs ρ O → Still lk O)
    (hst : ∀ x xs ρ O, I (x :: xs) ρ O → ∃ ρ1, g x ρ = some ρ1 ∧ ∃ ρ2 O2, (body ρ1 O = .nx ρ2 O2 ∨ body ρ1 O = .ct ρ2 O2) ∧ I xs ρ2 O2) :
    ∀ (xs : List D) (ρ : Env') (O : Sto), I xs ρ O → ∃ ρ' O', forL items lk g body xs ρ O = .nx ρ' O' ∧ I [] ρ' O'
  | [], ρ, O, h => ⟨ρ, O, by unfold forL; rw [if_pos (hs _ _ _ h)], h⟩
  | x :: xs, ρ, O, h => by
    obtain ⟨ρ1, e1, ρ2, O2, e2, h2⟩ := hst x xs ρ O h
    obtain ⟨ρ', O', e3, h3⟩ := forL_run I hs hst xs ρ2 O2 h2
    refine ⟨ρ', O', ?_, h3⟩
    unfold forL
    rw [if_pos (hs _ _ _ h), e1]
    dsimp only
    rcases e2 with e2 | e2 <;> rw [e2] <;> exact e3
/-- a loop over 0 .. n - 1, by what holds ahead of round i -/
theorem forL_rng {items : List D} {g : DTG} {body : DTS} {lo : Int} (n : Nat) (I : Nat → Env' → Sto → Prop) {ρ : Env'} {O : Sto}
    (hst : ∀ i, i < n → ∀ ρ O, I i ρ O → ∃ ρ1, g (.int (lo + (i : Int))) ρ = some ρ1 ∧ ∃ ρ2 O2, (body ρ1 O = .nx ρ2 O2 ∨ body ρ1 O = .ct ρ2 O2) ∧ I (i + 1) ρ2 O2) (h0 : I 0 ρ O) :
    ∃ ρ' O', forL items none g body (rangeD lo n) ρ O = .nx ρ' O' ∧ I n ρ' O' := by
  have hh := forL_run (items := items) (lk := none) (g := g) (body := body) (fun xs ρ O => ∃ i, i ≤ n ∧ xs = (rangeD lo n).drop i ∧ I i ρ O) (fun _ _ _ _ => trivial) (fun x xs ρ O hx => by
    obtain ⟨i, hi, e, hI⟩ := hx
    have hlen : (rangeD lo n).length = n := by unfold rangeD; simp
    have hi2 : i < n := by
      rcases Nat.lt_or_ge i n with q | q
      · exact q
      · rw [List.drop_of_length_le (by rw [hlen]; exact q)] at e; cases e
    rw [List.drop_eq_getElem_cons (by rw [hlen]; exact hi2)] at e
    obtain ⟨e1, e2⟩ := List.cons.inj e
    have e3 : x = .int (lo + (i : Int)) := by rw [e1]; unfold rangeD; simp
    obtain ⟨ρ1, q1, ρ2, O2, q2, q3⟩ := hst i hi2 ρ O hI
    exact ⟨ρ1, by rw [e3]; exact q1, ρ2, O2, q2, i + 1, hi2, e2, q3⟩) (rangeD lo n) ρ O ⟨0, Nat.zero_le _, by simp, h0⟩
  obtain ⟨ρ', O', e, i, hi, e2, hI⟩ := hh
  have hlen : (rangeD lo n).length = n := by unfold rangeD; simp
  have : i = n := by
    have z := congrArg List.length e2
    simp [hlen] at z
    omega
  subst this
  exact ⟨ρ', O', e, hI⟩
/-- a comprehension, each element by f -/
theorem compL_map {items : List D} {lk : Option (Nat × OD)} {g : DTG} {tst : DTT} {elt : DTE} {ρ : Env'} {O : Sto} (hs : Still lk O) (f : D → D) :
    ∀ (xs acc : List D), (∀ x, x ∈ xs → ∃ ρ1, g x ρ = some ρ1 ∧ tst ρ1 O = .ok true O ∧ elt ρ1 O = .ok (f x) O) → acc.length + xs.length ≤ 1000000 →
      compL items lk g tst elt ρ xs acc O = .ok (acc ++ xs.map f) O
  | [], acc, _, _ => by unfold compL; rw [if_pos hs]; simp
  | x :: xs, acc, h, hl => by
    obtain ⟨ρ1, e1, e2, e3⟩ := h x (List.mem_cons_self ..)
    have hl' : acc.length + (xs.length + 1) ≤ 1000000 := by simpa using hl
    unfold compL
    rw [if_pos hs, e1]
    dsimp only
    rw [e2]
    dsimp only
    rw [e3]
    dsimp only
    rw [if_pos (by omega), compL_map hs f xs (acc ++ [f x]) (fun y hy => h y (List.mem_cons_of_mem _ hy)) (by simp; omega)]
    simp
/-- .. with a test -/
theorem compL_filter {items : List D} {lk : Option (Nat × OD)} {g : DTG} {tst : DTT} {elt : DTE} {ρ : Env'} {O : Sto} (hs : Still lk O) (p : D → Bool) (f : D → D) :
    ∀ (xs acc : List D), (∀ x, x ∈ xs → ∃ ρ1, g x ρ = some ρ1 ∧ tst ρ1 O = .ok (p x) O ∧ (p x = true → elt ρ1 O = .ok (f x) O)) → acc.length + xs.length ≤ 1000000 →
      compL items lk g tst elt ρ xs acc O = .ok (acc ++ (xs.filter p).map f) O
  | [], acc, _, _ => by unfold compL; rw [if_pos hs]; simp
  | x :: xs, acc, h, hl => by
    obtain ⟨ρ1, e1, e2, e3⟩ := h x (List.mem_cons_self ..)
    have hl' : acc.length + (xs.length + 1) ≤ 1000000 := by simpa using hl
    unfold compL
    rw [if_pos hs, e1]
    dsimp only
    rw [e2]
    cases hp : p x with
    | true =>
      dsimp only
      rw [e3 hp]
      dsimp only
      rw [if_pos (by omega), compL_filter hs p f xs (acc ++ [f x]) (fun y hy => h y (List.mem_cons_of_mem _ hy)) (by simp; omega)]
      simp [hp]
    | false =>
      dsimp only
      rw [compL_filter hs p f xs acc (fun y hy => h y (List.mem_cons_of_mem _ hy)) (by omega)]
      simp [hp]
end
/-! ### the law's end -/
theorem endOf {B : LwB} (hTB : ∀ K, B.T K = []) (hbz : B.bz = some []) (hxa : B.xa = none) {l : PySem.W.OpenLaw} {n k : Nat} {q : Program} {loose : List Str} {XP : (Str → Option Value) → Heap → Prop} {d : DefRec} {x : Str} {YP : World → Heap → Prop}
    (hn : l.most = some n) (hn2 : n ≤ sizeLine) (hdf : d.params.defaults = []) (hr : Room k callerA)
    (F : ∀ (w : World) (mg : Str → Option Value) (fa : Addr) (h : Heap), YP w h → h.Ns mainGlobals mg → mg d.name = some (.ref fa) →
      ∃ (K : PySem.W.Frag) (fd : FuncData) (m : List D → Sto → Res), K.In h ∧ (∀ (s : Shared) (u : Value), BindsTo s fd ⟨[u], []⟩ [(x, u)]) ∧
        (∀ (ns : List Int), ns.length ≤ n → ∃ O, m [.scr ns] [] = .ok (.bl true) O) ∧
        ∀ base : Heap, K.In base → base.Ns mainGlobals mg → FnOk l.prog w K mg base (L2.CX l.prog w) k fa fd [x] (spD (cao B K) 1 m)) :
    PySem.W.WalkO q loose XP YP l.row.toRowW d [] (fun f vs => PySem.call f vs) := by
  refine Att.attach_call hn hdf ?_
  intro w s0 s1 mg mb fa o pm cd doc a vs ns G Y ho hd hcd hmg hobj hints hlen hg
  obtain ⟨K, fd, m, KX, hb, hsp, hF⟩ := F w mg fa _ Y G.T.g hmg
  refine law_call KX G.T.g G.T.b G.T.builtins G.T.nolimit hg hobj hints (Nat.le_trans hlen hn2) hr hF hb (fun H hO hS => ?_) ?_
  · exact law_sp (hTB K) hbz hxa hO hS (hsp ns hlen)
  · rintro H e s' ⟨_, _, _, _, _, _, _, _, _, _, _, _, z⟩
    exact z
end Yk

set_option Elab.async false
set_option linter.all false
set_option maxRecDepth 100000
set_option maxHeartbeats 2000000
/-! YkN: the functions over data, worked out by simp. -/
namespace Yk
open PySem PySem.Spec PyProof.Rows L2
def Out.then (r : Out) (b : DTS) : Out := match r with
  | .nx ρ O => b ρ O
  | r => r
section
variable {d : D} {O : Sto} {ρ : Env'} {c : Str} {fs : List (Str × D)} {a b e : DTE} {s t : DTS} {p q : DTT} {l : DTA}
@[simp] theorem then_nx : (Out.nx ρ O).then t = t ρ O := Eq.trans rfl rfl
@[simp] theorem then_rt : (Out.rt d O).then t = .rt d O := Eq.trans rfl rfl
@[simp] theorem then_bk : (Out.bk ρ O).then t = .bk ρ O := Eq.trans rfl rfl
@[simp] theorem then_ct : (Out.ct ρ O).then t = .ct ρ O := Eq.trans rfl rfl
@[simp] theorem ap_seq : dSeq s t ρ O = (s ρ O).then t := Eq.trans rfl rfl
@[simp] theorem ap_skip : dSkip ρ O = .nx ρ O := Eq.trans rfl rfl
@[simp] theorem ap_set {i : Nat} : dSet i a ρ O = (a ρ O).bindS ρ fun d O1 => .nx (ρ.set i (some d)) O1 := Eq.trans rfl rfl
@[simp] theorem ap_expr : dExpr a ρ O = (a ρ O).bindS ρ fun _ O1 => .nx ρ O1 := Eq.trans rfl rfl
@[simp] theorem ap_ret : dRet a ρ O = (a ρ O).bindS ρ fun d O1 => .rt d O1 := Eq.trans rfl rfl
@[simp] theorem ap_retN : dRetN ρ O = .rt .non O := Eq.trans rfl rfl
@[simp] theorem ap_break : dBreak ρ O = .bk ρ O := Eq.trans rfl rfl
@[simp] theorem ap_cont : dCont ρ O = .ct ρ O := Eq.trans rfl rfl
theorem ap_if : dIf p s t ρ O = (p ρ O).bindS ρ fun k O1 => if k = true then s ρ O1 else t ρ O1 := Eq.trans rfl rfl
@[simp] theorem ap_c : dC d ρ O = .ok d O := Eq.trans rfl rfl
@[simp] theorem ap_op {f : D → D → Sto → Res} : dOp f a b ρ O = (a ρ O).bind fun x O1 => (b ρ O1).bind fun y O2 => f x y O2 := Eq.trans rfl rfl
@[simp] theorem ap_un {f : D → Sto → Res} : dUn f a ρ O = (a ρ O).bind fun x O1 => f x O1 := Eq.trans rfl rfl
@[simp] theorem ap_nil : dNil ρ O = .ok [] O := Eq.trans rfl rfl
@[simp] theorem ap_cons : dCons a l ρ O = (a ρ O).bindL fun x O1 => (l ρ O1).bindL fun xs O2 => .ok (x :: xs) O2 := Eq.trans rfl rfl
@[simp] theorem ap_cb {f : List D → Sto → Res} : dCB f l ρ O = (l ρ O).bind fun xs O1 => f xs O1 := Eq.trans rfl rfl
@[simp] theorem ap_call {f : List D → Sto → Res} {dfs : List D} : dCall f dfs l ρ O = (l ρ O).bind fun xs O1 => f (xs ++ dfs) O1 := Eq.trans rfl rfl
@[simp] theorem ap_bm {f : D → List D → Sto → Res} {ok : Sto → D → Bool} : dBMi ok f a l ρ O = (a ρ O).bind fun x O1 => if ok O1 x = true then (l ρ O1).bind fun xs O2 => f x xs O2 else .stuck := Eq.trans rfl rfl
@[simp] theorem ap_bm0 {f : D → List D → Sto → Res} {ok : Sto → D → Bool} : dBM0 ok f a ρ O = (a ρ O).bind fun x O1 => if ok O1 x = true then f x [] O1 else .stuck := Eq.trans rfl rfl
@[simp] theorem ap_get2 : dGet2 a b e ρ O = (a ρ O).bind fun x O1 => if isDc O1 x = true then (b ρ O1).bind fun y O2 => (e ρ O2).bind fun z O3 => fGet x y z O3 else .stuck := Eq.trans rfl rfl
@[simp] theorem ap_tup : dTup l ρ O = (l ρ O).bind fun xs O1 => if xs.length ≤ 1000 then .ok (.tup xs) O1 else .stuck := Eq.trans rfl rfl
@[simp] theorem ap_lst {own : Bool} : dLst own l ρ O = (l ρ O).bind fun xs O1 => if xs.length ≤ 1000 then mkL own xs O1 else .stuck := Eq.trans rfl rfl
@[simp] theorem mkL_f {ds : List D} : mkL false ds O = .ok (.lst ds) O := Eq.trans rfl rfl
@[simp] theorem mkL_t {ds : List D} : mkL true ds O = .ok (.loc O.length) (O ++ [.lst ds]) := Eq.trans rfl rfl
@[simp] theorem mkK_f {ds : List (Key × D)} : mkK false ds O = .ok (.dic ds) O := Eq.trans rfl rfl
@[simp] theorem mkK_t {ds : List (Key × D)} : mkK true ds O = .ok (.loc O.length) (O ++ [.dic ds]) := Eq.trans rfl rfl
@[simp] theorem ap_val : dVal a ρ O = (a ρ O).bindB bool' := Eq.trans rfl rfl
@[simp] theorem bool_bl {k : Bool} : bool' (.bl k) O = .ok k O := Eq.trans rfl rfl
@[simp] theorem ap_notT : dNotT p ρ O = (p ρ O).bindB fun b O1 => .ok (!b) O1 := Eq.trans rfl rfl
@[simp] theorem ap_andT : dAndT p q ρ O = (p ρ O).bindB fun x O1 => if x = true then q ρ O1 else .ok false O1 := Eq.trans rfl rfl
@[simp] theorem ap_orT : dOrT p q ρ O = (p ρ O).bindB fun x O1 => if x = true then .ok true O1 else q ρ O1 := Eq.trans rfl rfl
def andK (b : DTE) (ρ : Env') (x : D) (O : Sto) : Res := match x with
  | .bl true => b ρ O
  | .bl false => .ok (.bl false) O
  | _ => .stuck
def orK (b : DTE) (ρ : Env') (x : D) (O : Sto) : Res := match x with
  | .bl true => .ok (.bl true) O
  | .bl false => b ρ O
  | _ => .stuck
def notK (x : D) (O : Sto) : Res := match x with
  | .bl b => .ok (.bl (!b)) O
  | _ => .stuck
def chK (g : D → D → Sto → Res) (y : D) (c : DTE) (ρ : Env') (z : D) (O : Sto) : Res := match z with
  | .bl true => (c ρ O).bind fun u O4 => g y u O4
  | .bl false => .ok (.bl false) O
  | _ => .stuck
@[simp] theorem ap_andV : dAndV a b ρ O = (a ρ O).bind (andK b ρ) := Eq.trans rfl rfl
@[simp] theorem ap_orV : dOrV a b ρ O = (a ρ O).bind (orK b ρ) := Eq.trans rfl rfl
@[simp] theorem ap_notV : dNotV a ρ O = (a ρ O).bind notK := Eq.trans rfl rfl
@[simp] theorem ap_chain {f g : D → D → Sto → Res} : dChain f g a b e ρ O = (a ρ O).bind fun x O1 => (b ρ O1).bind fun y O2 => (f x y O2).bind (chK g y e ρ) := Eq.trans rfl rfl
@[simp] theorem andK_bl {k : Bool} : andK b ρ (.bl k) O = if k = true then b ρ O else .ok (.bl false) O := by cases k <;> rfl
@[simp] theorem orK_bl {k : Bool} : orK b ρ (.bl k) O = if k = true then .ok (.bl true) O else b ρ O := by cases k <;> rfl
@[simp] theorem notK_bl {k : Bool} : notK (.bl k) O = .ok (.bl (!k)) O := Eq.trans rfl rfl
@[simp] theorem chK_bl {g : D → D → Sto → Res} {y : D} {k : Bool} : chK g y e ρ (.bl k) O = if k = true then (e ρ O).bind fun u O4 => g y u O4 else .ok (.bl false) O := by cases k <;> rfl
@[simp] theorem var_0 {r : Env'} : dVar 0 (some d :: r) O = .ok d O := Eq.trans rfl rfl
@[simp] theorem var_s {r : Env'} {x : Option D} {i : Nat} : dVar (i + 1) (x :: r) O = dVar i r O := Eq.trans rfl rfl
@[simp] theorem pvar_0 {r : Env'} : pVar 0 (some d :: r) O = some d := Eq.trans rfl rfl
@[simp] theorem pvar_s {r : Env'} {x : Option D} {i : Nat} : pVar (i + 1) (x :: r) O = pVar i r O := Eq.trans rfl rfl
@[simp] theorem gN_ap {i : Nat} : gN i d ρ = some (ρ.set i (some d)) := Eq.trans rfl rfl
@[simp] theorem gT_ap {g : DTGs} {ds : List D} : gT g (.tup ds) ρ = g ds ρ := Eq.trans rfl rfl
@[simp] theorem gC_ap {g : DTG} {gs : DTGs} {ds : List D} : gConsD g gs (d :: ds) ρ = (g d ρ).bind fun ρ1 => gs ds ρ1 := Eq.trans rfl rfl
@[simp] theorem gNil_ap : gNilD [] ρ = some ρ := Eq.trans rfl rfl
@[simp] theorem yes_ap : dYes ρ O = .ok true O := Eq.trans rfl rfl
def asgK (g : DTG) (ρ : Env') (d : D) (O : Sto) : Out := match g d ρ with
  | some ρ1 => .nx ρ1 O
  | none => .stuck
@[simp] theorem ap_asg {g : DTG} : dAsg g a ρ O = (a ρ O).bindS ρ (asgK g ρ) := Eq.trans rfl rfl
theorem asgK_ok {g : DTG} {ρ1 : Env'} (h : g d ρ = some ρ1) : asgK g ρ d O = .nx ρ1 O := by unfold asgK; rw [h]
@[simp] theorem asgK_if {g : DTG} : asgK g ρ d O = (match g d ρ with | some ρ1 => Out.nx ρ1 O | none => .stuck) := Eq.trans rfl rfl
@[simp] theorem ap_for {src : DTI} {g : DTG} : dFor src g t ρ O = (src ρ O).bindS ρ fun items lk O1 => forL items lk g t items ρ O1 := Eq.trans rfl rfl
@[simp] theorem ap_aug_0 {r : Env'} {f : D → D → Sto → Res} {x : D} : dAug 0 f a (some x :: r) O = (a (some x :: r) O).bindS (some x :: r) fun y O1 => (f x y O1).bindS (some x :: r) fun z O2 => .nx (some z :: r) O2 := Eq.trans rfl rfl
theorem ap_aug {i : Nat} {f : D → D → Sto → Res} {x : D} (h : ρ[i]? = some (some x)) : dAug i f a ρ O = (a ρ O).bindS ρ fun y O1 => (f x y O1).bindS ρ fun z O2 => .nx (ρ.set i (some z)) O2 := by unfold dAug; rw [h]
@[simp] theorem ap_lc {own : Bool} {vs : List Nat} {src : DTI} {g : DTG} : dLc own vs src g p e ρ O = ((src ρ O).bindL fun items lk O1 => compL items lk g p e (wipeD ρ vs) items [] O1).bind fun ds O2 => mkL own ds O2 := Eq.trans rfl rfl
@[simp] theorem wipe_nil : wipeD ρ [] = ρ := Eq.trans rfl rfl
@[simp] theorem wipe_cons {v : Nat} {vs : List Nat} : wipeD ρ (v :: vs) = (wipeD ρ vs).set v none := Eq.trans rfl rfl
/-! sources -/
def seqK (d : D) (O1 : Sto) : ResI := match d with
  | .lst ds => .ok ds none O1
  | .scr ns => .ok (ns.map D.int) none O1
  | .tup ds => .ok ds none O1
  | .str s => .ok (s.cps.toList.map fun c => .str ⟨#[c]⟩) none O1
  | .loc n => match O1[n]? with
    | some (.lst ds) => .ok ds (some (n, .lst ds)) O1
    | _ => .stuck
  | _ => .stuck
@[simp] theorem ap_srcSeq : srcSeq a ρ O = (a ρ O).bindI seqK := Eq.trans rfl rfl
@[simp] theorem seqK_lst {ds : List D} : seqK (.lst ds) O = .ok ds none O := Eq.trans rfl rfl
@[simp] theorem seqK_tup {ds : List D} : seqK (.tup ds) O = .ok ds none O := Eq.trans rfl rfl
@[simp] theorem seqK_scr {ns : List Int} : seqK (.scr ns) O = .ok (ns.map D.int) none O := Eq.trans rfl rfl
@[simp] theorem seqK_str {s : Str} : seqK (.str s) O = .ok (s.cps.toList.map fun c => .str ⟨#[c]⟩) none O := Eq.trans rfl rfl
theorem seqK_loc {n : Nat} {ds : List D} (h : O[n]? = some (.lst ds)) : seqK (.loc n) O = .ok ds (some (n, .lst ds)) O := by unfold seqK; simp only [h]
def rngK (ds : List D) (O : Sto) : ResI := match ds with
  | [.int j] => if -(2 ^ 62) ≤ j ∧ j < 2 ^ 62 then .ok (rangeD 0 j.toNat) none O else .stuck
  | [.int i, .int j] => if (-(2 ^ 62) ≤ i ∧ i < 2 ^ 62) ∧ (-(2 ^ 62) ≤ j ∧ j < 2 ^ 62) then .ok (rangeD i (j - i).toNat) none O else .stuck
  | _ => .stuck
@[simp] theorem ap_srcRng : srcRng l ρ O = (l ρ O).bindI rngK := Eq.trans rfl rfl
theorem rngK_1 {j : Int} (h1 : -4611686018427387904 ≤ j) (h2 : j < 4611686018427387904) : rngK [.int j] O = .ok (rangeD 0 j.toNat) none O := by
  unfold rngK; exact if_pos ⟨h1, h2⟩
theorem rngK_2 {i j : Int} (h1 : -4611686018427387904 ≤ i) (h2 : i < 4611686018427387904) (h3 : -4611686018427387904 ≤ j) (h4 : j < 4611686018427387904) : rngK [.int i, .int j] O = .ok (rangeD i (j - i).toNat) none O := by
  unfold rngK; exact if_pos ⟨⟨h1, h2⟩, h3, h4⟩
theorem srcRng_1 {j : Int} {O1 : Sto} (h : a ρ O = .ok (.int j) O1) (h1 : -4611686018427387904 ≤ j) (h2 : j < 4611686018427387904) : srcRng (dCons a dNil) ρ O = .ok (rangeD 0 j.toNat) none O1 := by
  rw [ap_srcRng, ap_cons, h, bindL_ok, ap_nil, lbindL_ok, lbindI_ok]
  exact rngK_1 h1 h2
/-! operations -/
variable {i j : Int} {x y : Str} {own : Bool}
@[simp] theorem add_ii : fAdd own (.int i) (.int j) O = .ok (.int (i + j)) O := Eq.trans rfl rfl
theorem add_ss (h : x.length + y.length ≤ 1000000) : fAdd own (.str x) (.str y) O = .ok (.str (x ++ y)) O := if_pos h
theorem add_tt {xs ys : List D} (h : xs.length + ys.length ≤ 1000000) : fAdd own (.tup xs) (.tup ys) O = .ok (.tup (xs ++ ys)) O := if_pos h
theorem add_ll {xs ys : List D} (h : xs.length + ys.length ≤ 1000000) : fAdd own (.lst xs) (.lst ys) O = mkL own (xs ++ ys) O := if_pos h
@[simp] theorem sub_ii : fSub (.int i) (.int j) O = .ok (.int (i - j)) O := Eq.trans rfl rfl
@[simp] theorem addI_ii : fAddI (.int i) (.int j) O = .ok (.int (i + j)) O := Eq.trans rfl rfl
theorem mul_l (h1 : -18446744073709551616 < i) (h2 : i < 18446744073709551616) : fMul (.int i) (.int j) O = .ok (.int (i * j)) O := if_pos (.inl ⟨h1, h2⟩)
theorem mul_r (h1 : -18446744073709551616 < j) (h2 : j < 18446744073709551616) : fMul (.int i) (.int j) O = .ok (.int (i * j)) O := if_pos (.inr ⟨h1, h2⟩)
theorem div_ii (h1 : 0 < j) (h2 : j < 1073741824) : fDiv (.int i) (.int j) O = .ok (.int (i / j)) O := if_pos ⟨h1, h2⟩
theorem mod_ii (h1 : 0 < j) : fMod (.int i) (.int j) O = .ok (.int (i % j)) O := if_pos h1
@[simp] theorem lt_ii : fLt (.int i) (.int j) O = .ok (.bl (decide (i < j))) O := Eq.trans rfl rfl
@[simp] theorem le_ii : fLe (.int i) (.int j) O = .ok (.bl (decide (i ≤ j))) O := Eq.trans rfl rfl
@[simp] theorem gt_ii : fGt (.int i) (.int j) O = .ok (.bl (decide (j < i))) O := Eq.trans rfl rfl
@[simp] theorem ge_ii : fGe (.int i) (.int j) O = .ok (.bl (decide (j ≤ i))) O := Eq.trans rfl rfl
@[simp] theorem is_n : fIs d .non O = .ok (.bl (isNon d)) O := Eq.trans rfl rfl
@[simp] theorem isnot_n : fIsNot d .non O = .ok (.bl (!isNon d)) O := Eq.trans rfl rfl
@[simp] theorem isNon_non : isNon .non = true := Eq.trans rfl rfl
@[simp] theorem isNon_int : isNon (.int i) = false := Eq.trans rfl rfl
@[simp] theorem isNon_bl {k : Bool} : isNon (.bl k) = false := Eq.trans rfl rfl
@[simp] theorem isNon_str : isNon (.str x) = false := Eq.trans rfl rfl
@[simp] theorem isNon_lst {ds : List D} : isNon (.lst ds) = false := Eq.trans rfl rfl
@[simp] theorem isNon_tup {ds : List D} : isNon (.tup ds) = false := Eq.trans rfl rfl
@[simp] theorem isNon_loc {n : Nat} : isNon (.loc n) = false := Eq.trans rfl rfl
@[simp] theorem eq_ii : fEq (.int i) (.int j) O = .ok (.bl (i == j)) O := Eq.trans rfl rfl
@[simp] theorem eq_bb {k m : Bool} : fEq (.bl k) (.bl m) O = .ok (.bl (k == m)) O := Eq.trans rfl rfl
@[simp] theorem eq_ss : fEq (.str x) (.str y) O = .ok (.bl (x == y)) O := Eq.trans rfl rfl
@[simp] theorem ne_ii : fNe (.int i) (.int j) O = .ok (.bl (!(i == j))) O := Eq.trans rfl rfl
@[simp] theorem ne_bb {k m : Bool} : fNe (.bl k) (.bl m) O = .ok (.bl (!(k == m))) O := Eq.trans rfl rfl
@[simp] theorem ne_ss : fNe (.str x) (.str y) O = .ok (.bl (!(x == y))) O := Eq.trans rfl rfl
@[simp] theorem len_lst {ds : List D} : fLen [.lst ds] O = .ok (.int (ds.length : Int)) O := Eq.trans rfl rfl
@[simp] theorem len_tup {ds : List D} : fLen [.tup ds] O = .ok (.int (ds.length : Int)) O := Eq.trans rfl rfl
@[simp] theorem len_scr {ns : List Int} : fLen [.scr ns] O = .ok (.int (ns.length : Int)) O := by simp [fLen, look]
theorem len_str (h : x.length ≤ 1000000) : fLen [.str x] O = .ok (.int (x.length : Int)) O := if_pos h
@[simp] theorem int_bl {k : Bool} : fInt [.bl k] O = .ok (.int (if k then 1 else 0)) O := Eq.trans rfl rfl
@[simp] theorem int_int : fInt [.int i] O = .ok (.int i) O := Eq.trans rfl rfl
@[simp] theorem min2_ii : fMin2 [.int i, .int j] O = .ok (.int (if j < i then j else i)) O := Eq.trans rfl rfl
@[simp] theorem max2_ii : fMax2 [.int i, .int j] O = .ok (.int (if j > i then j else i)) O := Eq.trans rfl rfl
theorem ix_lst {ds : List D} (h : atI ds i = some d) : fIx (.lst ds) (.int i) O = .ok d O := by simp [fIx, dGetD, look, h]
theorem ix_tup {ds : List D} (h : atI ds i = some d) : fIx (.tup ds) (.int i) O = .ok d O := by simp [fIx, dGetD, look, h]
theorem ix_scr {ns : List Int} (h : atI ns i = some j) : fIx (.scr ns) (.int i) O = .ok (.int j) O := by
  have e : atI (ns.map D.int) i = some (.int j) := by
    unfold atI at h ⊢
    rw [List.length_map]
    cases q : ixN ns.length i with
    | none => rw [q] at h; cases h
    | some n => rw [q] at h; simp only [Option.bind] at h ⊢; rw [List.getElem?_map, h]; rfl
  simp [fIx, dGetD, look, e]
theorem ix_str {c : Nat} (h : atI x.cps.toList i = some c) (hl : x.length ≤ 1000000) : fIx (.str x) (.int i) O = .ok (.str ⟨#[c]⟩) O := by
  simp [fIx, dGetD, look, h, hl]
theorem atI_nat {α : Type} {xs : List α} {n : Nat} (h : n < xs.length) : atI xs (n : Int) = some xs[n] := by simp [atI, ixN, h]
theorem atI_int {α : Type} {xs : List α} {k : Int} (h0 : 0 ≤ k) (h : k < xs.length) : atI xs k = xs[k.toNat]? := by simp [atI, ixN, h, h0]
@[simp] theorem in_str : fIn (.str y) (.str x) O = .ok (.bl (subS y x)) O := Eq.trans rfl rfl
@[simp] theorem notin_str : fNotIn (.str y) (.str x) O = .ok (.bl (!subS y x)) O := Eq.trans rfl rfl
theorem subS_one {c : Nat} : subS ⟨#[c]⟩ x = decide (c ∈ x.cps.toList) := PySem.StrLaws.found_one x c
@[simp] theorem sl_lst {ds : List D} {lo hi : Option Int} : fSl own (.lst ds) lo hi O = mkL own (cutD ds lo hi) O := Eq.trans rfl rfl
@[simp] theorem sl_tup {ds : List D} {lo hi : Option Int} : fSl own (.tup ds) lo hi O = .ok (.tup (cutD ds lo hi)) O := Eq.trans rfl rfl
theorem sl_str {lo hi : Option Int} (h : x.length ≤ 1000000) : fSl own (.str x) lo hi O = .ok (.str (cutS x lo hi)) O := if_pos h
theorem all_lst {bs : List Bool} : fAll [.lst (bs.map D.bl)] O = .ok (.bl (bs.all id)) O := by
  have e : ∀ bs : List Bool, boolsD (bs.map D.bl) = some bs := fun bs => by induction bs with
    | nil => rfl
    | cons b bs ih => simp [boolsD, ih]
  show (match boolsD (bs.map D.bl) with | some bs => Res.ok (.bl (bs.all id)) O | none => .stuck) = _
  rw [e]
theorem startD_1 {n : Nat} {a : D} : startD n [a] = some a :: List.replicate (n - 1) none := rfl
end
end Yk

set_option Elab.async false
set_option linter.all false
set_option maxRecDepth 100000
set_option maxHeartbeats 2000000
/-! YkO: == and != of dicts; their values are data, or lists of the store. -/
namespace Yk
open PySem PySem.Spec PyProof.Rows L2
/-- a list of the store as it stands -/
def lookL (O : Sto) (d : D) : D := match d with
  | .loc n => look O (.loc n)
  | d => d
def isLoc : D → Bool
  | .loc _ => true
  | _ => false
def isSeq : D → Bool
  | .lst _ => true
  | .tup _ => true
  | _ => false
/-- == of a dict's values: both data; or one of the store with a list or tuple -/
def deqV (O : Sto) (d e : D) : Option Bool :=
  if isLoc d = false ∧ isLoc e = false then deqN 40 d e
  else if isSeq (lookL O d) = true ∧ isSeq (lookL O e) = true then deqN 40 (lookL O d) (lookL O e) else none
def eqKs (f : D → D → Option Bool) (kb : List (Key × D)) : List (Key × D) → Option Bool
  | [] => some true
  | (k, v) :: r => match getK kb k with
    | none => some false
    | some y => match f v y, eqKs f kb r with
      | some a, some b => some (a && b)
      | _, _ => none
def deqD (O : Sto) (x y : D) : Option Bool := match look O x, look O y with
  | .dic ka, .dic kb => if ka.length = kb.length then eqKs (deqV O) kb ka else some false
  | a, b => deqN 60 a b
def fEqZ (x y : D) (O : Sto) : Res := match deqD O x y with
  | some b => .ok (.bl b) O
  | none => .stuck
theorem deqL_refl {f : D → D → Option Bool} (hf : ∀ d b, f d d = some b → b = true) : ∀ (xs : List D) (b : Bool), deqL f xs xs = some b → b = true
  | [], b, h => by cases h; rfl
  | x :: xs, b, h => by
    unfold deqL at h
    split at h
    · rename_i a c e1 e2
      cases h
      rw [hf _ _ e1, deqL_refl hf xs _ e2]
      rfl
    · cases h
theorem deqN_refl : ∀ (n : Nat) (d : D) (b : Bool), deqN n d d = some b → b = true
  | 0, _, _, h => by cases h
  | n + 1, d, b, h => by
    cases d with
    | non => cases h; rfl
    | bl x => simp [deqN] at h; exact h
    | int x => simp [deqN] at h; exact h
    | str x => simp [deqN] at h; exact h
    | lst xs =>
      simp only [deqN] at h
      simp only [if_true] at h
      exact deqL_refl (deqN_refl n) xs _ h
    | tup xs =>
      simp only [deqN] at h
      cases z : deqL (deqN n) xs xs with
      | none => rw [z] at h; cases h
      | some c =>
        rw [z] at h
        cases h
        rw [deqL_refl (deqN_refl n) xs _ z]
        simp
    | _ => simp [deqN] at h
theorem nd_inj {l : List Addr} (h : l.Nodup) {i j : Nat} (hi : i < l.length) (hj : j < l.length) (e : l[i] = l[j]) : i = j := by
  unfold List.Nodup at h
  rw [List.pairwise_iff_getElem] at h
  rcases Nat.lt_trichotomy i j with q | q | q
  · exact absurd e (h i j hi hj q)
  · exact q
  · exact absurd e.symm (h j i hj hi q)
section
variable {ca : Cn} {w : Wd} {O : Sto} {H : Hp} {X : Cx} {pins : List (Addr × Obj)} {σ : L2.St} {s : Shared}
theorem lookL_eq {d : D} (h : isLoc d = false) : lookL O d = d := by cases d <;> first | rfl | cases h
theorem loc_addr (k : Ok ca w O H) {v : V} {d : D} (r : Rep ca w v d) (h : isSeq (lookL O d) = true) : ∃ a, v = .ref a ∧ RepV ca w H v (lookL O d) ∧ ((isLoc d = true ∧ ∃ n, d = .loc n ∧ w.ad[n]? = some a ∧ w.F a = none) ∨ (isLoc d = false ∧ w.F a ≠ none)) := by
  cases r with
  | lst h1 r1 => exact ⟨_, rfl, .lst (.inl (.inl (k.ext.lst h1))) r1, .inr ⟨rfl, by rw [h1]; exact fun z => nomatch z⟩⟩
  | tup h1 r1 => exact ⟨_, rfl, .tup (k.ext.tup h1) r1, .inr ⟨rfl, by rw [h1]; exact fun z => nomatch z⟩⟩
  | loc hA =>
    rename_i a n
    have hd : isData (look O (.loc n)) = true := by
      have h' : isSeq (look O (.loc n)) = true := h
      cases z : look O (.loc n) <;> rw [z] at h' <;> first | rfl | cases h'
    have rv := look_rep k (Rep.loc hA) hd
    refine ⟨a, rfl, rv, .inl ⟨rfl, n, rfl, hA, ?_⟩⟩
    have h' : isSeq (look O (.loc n)) = true := h
    cases q : O[n]? with
    | none => simp [look, q, isSeq] at h'
    | some od =>
      refine (k.own n a od hA q ?_).1
      rintro rfl
      simp [look, q, isSeq] at h'
  | _ => cases h
theorem eqv_at (I : Inv X pins σ H s) (hK : ca.K = X.K) (k : Ok ca w O H) {A : Around} (hu : A.units + 45 < cLine) {v u : V} {v' u' : Value} {d e : D} {b : Bool}
    (r1 : Rep ca w v d) (r2 : Rep ca w u e) (q1 : RelV v v') (q2 : RelV u u') (h : deqV O d e = some b) : SeqAt.EqAt A s v' u' b := by
  unfold deqV at h
  by_cases hl : isLoc d = false ∧ isLoc e = false
  · rw [if_pos hl] at h
    exact eq_at I hK k 40 A (by omega) _ _ _ _ _ _ _ r1 r2 q1 q2 h
  · rw [if_neg hl] at h
    by_cases hs : isSeq (lookL O d) = true ∧ isSeq (lookL O e) = true
    · rw [if_pos hs] at h
      obtain ⟨a, rfl, p1, c1⟩ := loc_addr k r1 hs.1
      obtain ⟨b', rfl, p2, c2⟩ := loc_addr k r2 hs.2
      cases q1
      cases q2
      have rc := (rc_step I hK (A := A) (n := 39) (by omega) (fun v u v' u' d e b a1 a2 a3 a4 a5 => eq_at I hK k 39 A.in1 (by show A.units + 1 + 39 < cLine; omega) v u v' u' d e b a1 a2 a3 a4 a5) p1 p2 rfl rfl h).1
      by_cases hab : a = b'
      · subst hab
        have hb : b = true := by
          rcases c1 with ⟨_, n, rfl, g1, f1⟩ | ⟨l1, f1⟩
          · rcases c2 with ⟨_, m, rfl, g2, f2⟩ | ⟨l2, f2⟩
            · have hnm : n = m := by
                obtain ⟨i1, j1⟩ := List.getElem?_eq_some_iff.mp g1
                obtain ⟨i2, j2⟩ := List.getElem?_eq_some_iff.mp g2
                exact nd_inj k.nd i1 i2 (j1.trans j2.symm)
              subst hnm
              exact deqN_refl _ _ _ h
            · exact absurd f1 f2
          · rcases c2 with ⟨_, m, rfl, g2, f2⟩ | ⟨l2, f2⟩
            · exact absurd f2 f1
            · exact absurd ⟨l1, l2⟩ hl
        subst hb
        exact SeqAt.EqAt.same _
      · exact SeqAt.EqAt.of_refs hab rc
    · rw [if_neg hs] at h; cases h
theorem valueAt_rep {kb : List (Key × V)} {vb : List (Key × Value)} (r : KV kb vb) (key : Key) : RelO (valV kb key) (PySem.valueAt vb key) := by
  induction r with
  | nil => exact trivial
  | @cons a b as bs h r ih =>
    unfold valV PySem.valueAt
    by_cases e : a.1 = key
    · rw [List.find?_cons_of_pos (by simpa using e), List.find?_cons_of_pos (by simpa [← h.1] using e)]
      exact h.2
    · rw [List.find?_cons_of_neg (by simpa using e), List.find?_cons_of_neg (by simpa [← h.1] using e)]
      exact ih
theorem keq_hits (I : Inv X pins σ H s) (hK : ca.K = X.K) (k : Ok ca w O H) {A : Around} (hu : A.units + 45 < cLine) {prog : Program} {wd : World} {vb : List (Key × V)} {ub : List (Key × Value)} {kb : List (Key × D)} (rb : RepK ca w vb kb) (qb : KV vb ub) :
    ∀ {va : List (Key × V)} {ua : List (Key × Value)} {ka : List (Key × D)} {b : Bool}, RepK ca w va ka → KV va ua → eqKs (deqV O) kb ka = some b → PySem.W.KeqHitsP prog wd A s ub ua b
  | _, _, _, _, .nil, .nil, h => by
    cases h
    exact .nil
  | _, _, _, _, .cons (k := key) (v := v) (vs := vs) (d := d) (ds := ds) h1 r1, .cons (a := _) (b := u) h2 r2, h => by
    obtain ⟨uk, uv⟩ := u
    obtain ⟨e1, e2⟩ := h2
    have e1' : key = uk := e1
    subst e1'
    unfold eqKs at h
    have g1 := getK_rep key rb
    have g2 := valueAt_rep qb key
    cases z : getK kb key with
    | none =>
      rw [z] at h
      cases h
      rw [z] at g1
      cases z2 : valV vb key with
      | some _ => rw [z2] at g1; exact g1.elim
      | none =>
        rw [z2] at g2
        cases z3 : PySem.valueAt ub key with
        | some _ => rw [z3] at g2; exact g2.elim
        | none => exact .miss z3
    | some y =>
      rw [z] at h g1
      cases z2 : valV vb key with
      | none => rw [z2] at g1; exact g1.elim
      | some vy =>
        rw [z2] at g1 g2
        cases z3 : PySem.valueAt ub key with
        | none => rw [z3] at g2; exact g2.elim
        | some uy =>
          rw [z3] at g2
          dsimp only at h
          split at h
          · rename_i x1 x2 c1 c2
            cases h
            exact .hit z3 ((eqv_at I hK k hu h1 g1 e2 g2 c1).eqP) (keq_hits I hK k hu rb qb r1 r2 c2)
          · cases h
end
/-- the reading -/
def rEqZ (ca : Cn) : R2 := fun x y H Q => ∃ w O dx dy b, Ok ca w O H ∧ Rep ca w x dx ∧ Rep ca w y dy ∧ deqD O dx dy = some b ∧ Q (.bl b) H
section
variable {ca : Cn} {X : Cx}
theorem op_eqZ (hu : X.A.units + 64 < cLine) (hK : ca.K = X.K := by rfl) : OpR X (compareOp .Eq) (rEqZ ca) := by
  intro pins s σ H x y v u Q I rx ry h
  obtain ⟨w, O, dx, dy, b, k, r1, r2, e, q⟩ := h
  unfold deqD at e
  split at e
  · rename_i ka kb e1 e2
    obtain ⟨a, va, rfl, hA, ra⟩ := look_dic k r1 e1
    obtain ⟨a', vb, rfl, hB, rb⟩ := look_dic k r2 e2
    cases rx
    cases ry
    obtain ⟨_, m1, ua, qa, da⟩ := dk_rd I.hok hA
    obtain ⟨_, m2, ub, qb, db⟩ := dk_rd I.hok hB
    have la : ua.length = ka.length := qa.length.symm.trans ra.length
    have lb : ub.length = kb.length := qb.length.symm.trans rb.length
    show wpAny (model X.prog X.w) X.A (richCompare .Eq (.ref a) (.ref a')) _ _ s
    by_cases hl : ka.length = kb.length
    · rw [if_pos hl] at e
      refine PySem.W.rcP_dicts m1 m2 da db (by omega) (fun _ => keq_hits I hK k (A := X.A.in1) (by show X.A.units + 1 + 45 < cLine; omega) rb qb ra qa e) _ _ ?_
      have : (ua.length == ub.length) = true := by rw [la, lb]; simpa using hl
      rw [this, Bool.true_and]
      exact ⟨.bl b, H, I, rfl, q⟩
    · rw [if_neg hl] at e
      cases e
      refine PySem.W.rcP_dicts (r := true) m1 m2 da db (by omega) (fun h => absurd (by rw [← la, ← lb]; exact h) hl) _ _ ?_
      have : (ua.length == ub.length) = false := by rw [la, lb]; simpa using hl
      rw [this, Bool.false_and]
      exact ⟨.bl false, H, I, rfl, q⟩
  · exact op_eqY hu hK pins s σ H x y v u Q I rx ry ⟨w, O, dx, dy, b, k, r1, r2, e, q⟩
theorem ops_eqZ : OpS ca (rEqZ ca) fEqZ := fun w O H x y dx dy W σ Q k r1 r2 h => by
  unfold fEqZ at h
  cases z : deqD O dx dy with
  | none => rw [z] at h; exact h.elim
  | some b =>
    rw [z] at h
    exact ⟨w, O, dx, dy, b, k, r1, r2, z, post_ok k (.bl b) h⟩
end
/-! what it says of a dict and its like -/
theorem getK_self {ka : List (Key × D)} (h : (ka.map (·.1)).Nodup) : ∀ kv ∈ ka, getK ka kv.1 = some kv.2 := by
  induction ka with
  | nil => simp
  | cons a r ih =>
    intro kv hkv
    simp only [List.map_cons, List.nodup_cons] at h
    unfold getK
    rcases List.mem_cons.mp hkv with rfl | hm
    · simp
    · have hne : a.1 ≠ kv.1 := fun e => h.1 (by rw [e]; exact List.mem_map_of_mem hm)
      rw [List.find?_cons_of_neg (by simpa using hne)]
      exact ih h.2 kv hm
theorem eqKs_all {f : D → D → Option Bool} {kb : List (Key × D)} : ∀ {ka : List (Key × D)}, (∀ kv ∈ ka, ∃ y, getK kb kv.1 = some y ∧ f kv.2 y = some true) → eqKs f kb ka = some true
  | [], _ => rfl
  | (k, v) :: r, h => by
    obtain ⟨y, e1, e2⟩ := h (k, v) (List.mem_cons_self ..)
    unfold eqKs
    rw [e1]
    dsimp only
    rw [e2, eqKs_all fun kv hkv => h kv (List.mem_cons_of_mem _ hkv)]
    rfl
end Yk

set_option Elab.async false
set_option linter.all false
set_option maxRecDepth 100000
set_option maxHeartbeats 2000000
/-! YkP: the laws' own helpers that draw names: cell, mixed, name, names (of a path's laws). -/
namespace Yk.Nm
open PySem PySem.Spec PyProof.Rows L2 Yk
/-! ### numbers -/
theorem hit (p a i : Int) (hp : 0 < p) (h : a * i % p = 1) (b v : Int) (h0 : 0 ≤ v) (h1 : v < p) (K : Nat) : ∃ j : Nat, K ≤ j ∧ (b + a * (j : Int)) % p = v := by
  have hx0 : 0 ≤ (v - b) * i % p := Int.emod_nonneg _ (by omega)
  refine ⟨((v - b) * i % p).toNat + p.toNat * K, ?_, ?_⟩
  · have : 1 ≤ p.toNat := by omega
    have := Nat.mul_le_mul_right K this
    omega
  · have e1 : ((((v - b) * i % p).toNat + p.toNat * K : Nat) : Int) = (v - b) * i % p + p * K := by
      rw [Int.natCast_add, Int.natCast_mul, Int.toNat_of_nonneg hx0, Int.toNat_of_nonneg (by omega)]
    rw [e1]
    have e2 := Int.emod_add_mul_ediv ((v - b) * i) p
    have e3 := Int.emod_add_mul_ediv (a * i) p
    rw [h] at e3
    generalize (v - b) * i % p = x at *
    generalize (v - b) * i / p = y at *
    generalize a * i / p = z at *
    have e4 : b + a * (x + p * (K : Int)) = v + p * ((v - b) * z - a * y + a * K) := by grind
    rw [e4, Int.add_mul_emod_self_left]
    exact Int.emod_eq_of_lt h0 h1
def invA : List Int := [0, 1035609595, 1591546621, 1776858963, 1869515134, 207121919, 1962171305, 454727606, 934757567, 592286321, 1177302783, 484597899, 2054827476, 1896763824, 227363803, 784868522, 1541120607, 2082079291, 1369884984, 958709409, 1662393215, 867403751, 1316040773, 418501921, 1027413738, 1329914572, 948381912, 913256656, 1187423725, 1664836201, 392434261, 1903795744, 1844302127, 161532633, 2114781469, 949938980, 684942492, 1304871617, 1553096528, 632254608, 1904938431, 1177567069, 1507443699, 923030587, 1731762210, 977450723, 1282992784, 1986753328, 513706869, 985311221, 664957286, 2125682195, 474190956, 1235096585, 456628328, 1385409768, 1667453686, 319569803, 1906159924, 17552705, 1269958954, 1073116705, 951897872, 1004962466]
def invB : List Int := [0, 2087831306, 1043915653, 1411771645, 1595699641, 847062987, 1779627637, 1832178493, 1871591635, 1902246301, 1497273308, 189802846, 1963555633, 1812512892, 1989831061, 282354329, 2009537632, 1891329536, 2024864965, 675013129, 748636654, 2042381917, 94901423, 1771414636, 2055519631, 1028406049, 906256446, 2065737853, 2068657345, 1627068535, 1214918979, 1452822706, 1004768816, 1494923368, 945664768, 1654925876, 2086174297, 1391350129, 1411248379, 604170964, 374318327, 1255608653, 2094932773, 1496857129, 1121192526, 809945986, 885707318, 1460847315, 2101501630, 1488873287, 1587944839, 1346271055, 453128223, 566134311, 2106610741, 467457295, 2108070487, 1656660129, 1887276082, 435765275, 1681201304, 210249991, 726411353, 2112449725]
theorem invA_ok : ∀ n : Nat, 0 < n → n < 64 → (7919 * (n : Int) * 48271) * invA.getD n 0 % 2147483647 = 1 := by
  have h : ∀ n ∈ List.range 64, 0 < n → (7919 * (n : Int) * 48271) * invA.getD n 0 % 2147483647 = 1 := by decide +kernel
  exact fun n h0 h1 => h n (List.mem_range.mpr h1) h0
theorem invB_ok : ∀ n : Nat, 0 < n → n < 64 → (2 * (n : Int) * 2147483647) * invB.getD n 0 % 2147483629 = 1 := by
  have h : ∀ n ∈ List.range 64, 0 < n → (2 * (n : Int) * 2147483647) * invB.getD n 0 % 2147483629 = 1 := by decide +kernel
  exact fun n h0 h1 => h n (List.mem_range.mpr h1) h0
def mixI (c k : Int) : Int := (c + 7919 * k) * 48271 % 2147483647 * ((c + 7919 * k) * 48271 % 2147483647 + 2 * k + 1) % 2147483629
def cellOf (ns : List Int) (k : Nat) : Int := if 0 < ns.length then ns.getD (k % ns.length) 0 else 0
def mixV (ns : List Int) (k : Nat) : Nat := (mixI (cellOf ns k) k).toNat
theorem mixI_nn (c k : Int) : 0 ≤ mixI c k := Int.emod_nonneg _ (by decide)
theorem mixV_cast (ns : List Int) (k : Nat) : ((mixV ns k : Nat) : Int) = mixI (cellOf ns k) k := Int.toNat_of_nonneg (mixI_nn _ _)
/-- every number comes, as late as one likes -/
theorem mix_hit (ns : List Int) (hl : ns.length ≤ 63) (v : Nat) (hv : v < 2147483629) (K : Nat) : ∃ k, K ≤ k ∧ mixV ns k = v := by
  obtain ⟨n, hn0, hn1, hc⟩ : ∃ n : Nat, 0 < n ∧ n < 64 ∧ ∀ j, cellOf ns (n * j) = ns.getD 0 0 := by
    by_cases h : 0 < ns.length
    · exact ⟨ns.length, h, by omega, fun j => by unfold cellOf; rw [if_pos h, Nat.mul_mod_right]⟩
    · refine ⟨1, by decide, by decide, fun j => ?_⟩
      have : ns = [] := List.eq_nil_of_length_eq_zero (by omega)
      subst this
      rfl
  generalize ns.getD 0 0 = c at hc
  obtain ⟨j0, _, e0⟩ := hit 2147483647 (7919 * (n : Int) * 48271) _ (by decide) (invA_ok n hn0 hn1) (c * 48271) 1 (by decide) (by decide) 0
  obtain ⟨t, ht, e1⟩ := hit 2147483629 (2 * (n : Int) * 2147483647) _ (by decide) (invB_ok n hn0 hn1) (2 + 2 * n * j0) v (by omega) (by omega) K
  refine ⟨n * (j0 + 2147483647 * t), ?_, ?_⟩
  · have h1 : j0 + 2147483647 * t ≤ n * (j0 + 2147483647 * t) := Nat.le_mul_of_pos_left _ hn0
    omega
  · have hk : ((n * (j0 + 2147483647 * t) : Nat) : Int) = (n : Int) * ((j0 : Int) + 2147483647 * t) := by simp
    have l1 : (c + 7919 * ((n : Int) * ((j0 : Int) + 2147483647 * t))) * 48271 % 2147483647 = 1 := by
      have : (c + 7919 * ((n : Int) * ((j0 : Int) + 2147483647 * t))) * 48271 = (c * 48271 + 7919 * (n : Int) * 48271 * j0) + 2147483647 * (7919 * n * t * 48271) := by grind
      rw [this, Int.add_mul_emod_self_left]
      exact e0
    have l2 : mixI c ((n : Int) * ((j0 : Int) + 2147483647 * t)) = v := by
      unfold mixI
      rw [l1]
      have : (1 : Int) * (1 + 2 * ((n : Int) * ((j0 : Int) + 2147483647 * t)) + 1) = (2 + 2 * n * j0) + 2 * (n : Int) * 2147483647 * t := by grind
      rw [this]
      exact e1
    unfold mixV
    rw [hc, hk, l2]
    rfl
/-! ### names -/
def ch (i : Nat) : Nat := if i < 26 then 97 + i else 48 + (i - 26)
def nameL (n : Nat) : List Nat := ch (n % 26) :: (List.range (n / 26 % 6)).map fun k => ch ((n / 26 / 6 + 7 * k) / (k + 1) % 36)
def T (l : List Nat) : Str := ⟨l.toArray⟩
theorem T_len (l : List Nat) : (T l).length = l.length := by simp [T, Str.length]
theorem T_l (l : List Nat) : (T l).cps.toList = l := by simp [T]
theorem T_inj {a b : List Nat} (h : T a = T b) : a = b := by
  have := congrArg (fun s : Str => s.cps.toList) h
  simpa [T] using this
theorem T_app (a b : List Nat) : T a ++ T b = T (a ++ b) := by
  show Str.append (T a) (T b) = _
  unfold Str.append T
  simp
/-- sixty-two names of one or two letters -/
def pool : List Nat := List.range 26 ++ (List.range 36).map fun m => 26 * (1 + 6 * m)
theorem pool_len : (pool.map nameL).length = 62 := by decide +kernel
theorem pool_nodup : (pool.map nameL).Nodup := by decide +kernel
theorem pool_small : ∀ v ∈ pool, v < 2147483629 := by decide +kernel
theorem nodup_sub : ∀ {a b : List (List Nat)}, a.Nodup → (∀ x ∈ a, x ∈ b) → a.length ≤ b.length
  | [], _, _, _ => Nat.zero_le _
  | x :: a, b, h, hs => by
    have hx : x ∈ b := hs x (List.mem_cons_self ..)
    have h2 := List.nodup_cons.mp h
    have := nodup_sub (a := a) (b := b.erase x) h2.2 (fun y hy => (List.mem_erase_of_ne (fun (e : y = x) => h2.1 (by rw [← e]; exact hy))).mpr (hs y (List.mem_cons_of_mem _ hy)))
    rw [List.length_erase_of_mem hx] at this
    have hb : 0 < b.length := List.length_pos_of_mem hx
    simp only [List.length_cons]
    omega
/-- a name that is not there yet comes -/
theorem fresh_comes (ns : List Int) (hl : ns.length ≤ 63) (L : List (List Nat)) (h : L.length < 62) (K : Nat) : ∃ k, K ≤ k ∧ nameL (mixV ns k) ∉ L := by
  obtain ⟨v, hv, hn⟩ : ∃ v ∈ pool, nameL v ∉ L := by
    refine Classical.byContradiction fun hc => ?_
    have hall : ∀ x ∈ pool.map nameL, x ∈ L := fun x hx => by
      obtain ⟨v, hv, rfl⟩ := List.mem_map.mp hx
      exact Classical.byContradiction fun h => hc ⟨v, hv, h⟩
    have := nodup_sub pool_nodup hall
    rw [pool_len] at this
    omega
  obtain ⟨k, hk, e⟩ := mix_hit ns hl v (pool_small v hv) K
  exact ⟨k, hk, by rw [e]; exact hn⟩
/-! ### the helpers themselves -/
noncomputable def cell : List D → Sto → Res := mFn ["_law_script", "_law_k"] (dSeq (dIf (dVal (dOp fLt (dVar 1) (dCB fLen (dCons (dVar 0) dNil))))
  (dRet (dOp fIx (dVar 0) (dVar 1)))
  dSkip)
  (dRet (dC (.int 0))))
noncomputable def mixed : List D → Sto → Res := mFn ["_law_script", "_law_k", "_law_cell_here", "_law_number"] (dSeq (dSet 2 (dC (.int 0)))
  (dSeq (dIf (dVal (dOp fGt (dCB fLen (dCons (dVar 0) dNil)) (dC (.int 0))))
  (dSet 2 (dOp fIx (dVar 0) (dOp fMod (dVar 1) (dCB fLen (dCons (dVar 0) dNil)))))
  dSkip)
  (dSeq (dSet 3 (dOp fMod (dOp fMul (dOp (fAdd false) (dVar 2) (dOp fMul (dC (.int 7919)) (dVar 1))) (dC (.int 48271))) (dC (.int 2147483647))))
  (dRet (dOp fMod (dOp fMul (dVar 3) (dOp (fAdd false) (dOp (fAdd false) (dVar 3) (dOp fMul (dC (.int 2)) (dVar 1))) (dC (.int 1)))) (dC (.int 2147483629)))))))
noncomputable def nameB : DTS := (dSet 2 (dOp (fAdd false) (dVar 2) (dOp fIx (dOp (fAdd false) (dVar 1) (dC (.str "0123456789"))) (dOp fMod (dOp fDiv (dOp (fAdd false) (dOp fDiv (dVar 0) (dC (.int 6))) (dOp fMul (dC (.int 7)) (dVar 3))) (dOp (fAdd false) (dVar 3) (dC (.int 1)))) (dC (.int 36))))))
noncomputable def name : List D → Sto → Res := mFn ["_law_number", "_law_letters", "_law_name_here", "_law_k"] (dSeq (dSet 1 (dC (.str "abcdefghijklmnopqrstuvwxyz")))
  (dSeq (dSet 2 (dOp fIx (dVar 1) (dOp fMod (dVar 0) (dC (.int 26)))))
  (dSeq (dSet 0 (dOp fDiv (dVar 0) (dC (.int 26))))
  (dSeq (dFor (srcRng (dCons (dOp fMod (dVar 0) (dC (.int 6))) dNil)) (gN 3) nameB)
  (dRet (dVar 2))))))
noncomputable def namesB : DTS := (dSeq (dSet 5 (dCall name [] (dCons (dCall mixed [] (dCons (dVar 0) (dCons (dVar 4) dNil))) dNil)))
  (dSeq (dIf (dVal (dOp fNotIn (dVar 5) (dVar 3)))
  (dExpr (dBMi isL fAppend (dVar 3) (dCons (dVar 5) dNil)))
  dSkip)
  (dSet 4 (dOp (fAdd false) (dVar 4) (dC (.int 1))))))
noncomputable def namesC : DTT := dVal (dOp fLt (dCB fLen (dCons (dVar 3) dNil)) (dVar 2))
noncomputable def names : List D → Sto → Res := mFn ["_law_script", "_law_at", "_law_many", "_law_found", "_law_k", "_law_name_here"] (dSeq (dSet 3 (dLst true dNil))
  (dSeq (dSet 4 (dVar 1))
  (dSeq (dWhile namesC namesB)
  (dRet (dFrz (dVar 3))))))
theorem cell_ok (ns : List Int) (k : Nat) (O : Sto) : cell [.scr ns, .int k] O = .ok (.int (ns.getD k 0)) O := by
  by_cases h : k < ns.length
  · have e : atI ns (k : Int) = some (ns.getD k 0) := by rw [atI_nat h]; simp [List.getD, h]
    simp [cell, mFn, startD, ap_if, h, ix_scr e]
  · simp [cell, mFn, startD, ap_if, h]
theorem mixed_ok (ns : List Int) (k : Nat) (O : Sto) : mixed [.scr ns, .int k] O = .ok (.int (mixV ns k)) O := by
  rw [mixV_cast]
  have e1 : ∀ (c j : Int) (O : Sto), fMul (.int ((c + 7919 * k) * 48271 % 2147483647)) (.int j) O = .ok (.int ((c + 7919 * k) * 48271 % 2147483647 * j)) O := fun c j O => by
    have h1 : 0 ≤ (c + 7919 * k) * 48271 % 2147483647 := Int.emod_nonneg _ (by decide)
    have h2 : (c + 7919 * k) * 48271 % 2147483647 < 2147483647 := Int.emod_lt_of_pos _ (by decide)
    exact mul_l (by omega) (by omega)
  by_cases h : 0 < ns.length
  · have hm : k % ns.length < ns.length := Nat.mod_lt _ h
    have e : atI ns ((k : Int) % (ns.length : Int)) = some (ns.getD (k % ns.length) 0) := by
      rw [show (k : Int) % (ns.length : Int) = ((k % ns.length : Nat) : Int) from (Int.natCast_emod ..).symm ▸ rfl, atI_nat hm]; simp [List.getD, hm]
    have h' : (0 : Int) < (ns.length : Int) := by omega
    have hf : fMod (.int k) (.int (ns.length : Int)) O = .ok (.int ((k : Int) % (ns.length : Int))) O := mod_ii h'
    simp [mixed, mFn, startD, ap_if, h, hf, ix_scr e, mul_l, mul_r, mod_ii, e1, mixI, cellOf]
  · have h' : ¬ (0 : Int) < (ns.length : Int) := by omega
    have h0 : ns.length = 0 := by omega
    have h0' : ns = [] := List.eq_nil_of_length_eq_zero h0
    subst h0'
    have e1' := e1 0
    simp only [Int.zero_add] at e1'
    simp [mixed, mFn, startD, ap_if, mul_l, mul_r, mod_ii, e1', mixI, cellOf]
theorem let_ix {i : Nat} (h : i < 26) (O : Sto) : fIx (.str "abcdefghijklmnopqrstuvwxyz") (.int i) O = .ok (.str (T [ch i])) O := by
  have hall : ∀ i < 26, (Str.ofString "abcdefghijklmnopqrstuvwxyz").cps.toList[i]? = some (ch i) := by decide +kernel
  have hl : (Str.ofString "abcdefghijklmnopqrstuvwxyz").cps.toList.length = 26 := by decide +kernel
  have hl2 : (Str.ofString "abcdefghijklmnopqrstuvwxyz").length = 26 := by decide +kernel
  exact ix_str (by rw [atI_int (by omega) (by rw [hl]; omega)]; exact hall i h) (by rw [hl2]; decide)
theorem all_ix {i : Nat} (h : i < 36) (O : Sto) : fIx (.str (Str.ofString "abcdefghijklmnopqrstuvwxyz" ++ Str.ofString "0123456789")) (.int i) O = .ok (.str (T [ch i])) O := by
  have hall : ∀ i < 36, (Str.ofString "abcdefghijklmnopqrstuvwxyz" ++ Str.ofString "0123456789").cps.toList[i]? = some (ch i) := by decide +kernel
  have hl : (Str.ofString "abcdefghijklmnopqrstuvwxyz" ++ Str.ofString "0123456789").cps.toList.length = 36 := by decide +kernel
  have hl2 : (Str.ofString "abcdefghijklmnopqrstuvwxyz" ++ Str.ofString "0123456789").length = 36 := by decide +kernel
  exact ix_str (by rw [atI_int (by omega) (by rw [hl]; omega)]; exact hall i h) (by rw [hl2]; decide)
theorem add_TT {a b : List Nat} {O : Sto} {own : Bool} (h : a.length + b.length ≤ 1000000) : fAdd own (.str (T a)) (.str (T b)) O = .ok (.str (T (a ++ b))) O := by rw [add_ss (by rw [T_len, T_len]; exact h), T_app]
theorem name_ok (n : Nat) (O : Sto) : name [.int n] O = .ok (.str (T (nameL n))) O := by
  have lp := forL_rng (items := rangeD 0 (n / 26 % 6)) (g := gN 3) (body := nameB) (lo := 0) (n / 26 % 6)
    (fun i ρ O' => O' = O ∧ ∃ x, ρ = [some (.int (n / 26 : Nat)), some (.str "abcdefghijklmnopqrstuvwxyz"), some (.str (T (ch (n % 26) :: (List.range i).map fun k => ch ((n / 26 / 6 + 7 * k) / (k + 1) % 36)))), x])
    (ρ := [some (.int (n / 26 : Nat)), some (.str "abcdefghijklmnopqrstuvwxyz"), some (.str (T [ch (n % 26)])), none]) (O := O) (fun i hi ρ O' hI => by
      obtain ⟨rfl, x, rfl⟩ := hI
      refine ⟨_, rfl, _, _, .inl ?_, rfl, some (.int (0 + (i : Int))), rfl⟩
      have hi6 : i < 6 := by omega
      have q : (Str.ofString "abcdefghijklmnopqrstuvwxyz").length + (Str.ofString "0123456789").length ≤ 1000000 := by decide +kernel
      have d1 : fDiv (.int ((n / 26 : Nat) : Int)) (.int 6) O' = .ok (.int ((n / 26 / 6 : Nat) : Int)) O' := by rw [div_ii (by decide) (by decide)]; rfl
      have d2 : fMul (.int 7) (.int (0 + (i : Int))) O' = .ok (.int ((7 * i : Nat) : Int)) O' := by rw [mul_l (by decide) (by decide)]; simp
      have d3 : fDiv (.int (((n / 26 / 6 : Nat) : Int) + ((7 * i : Nat) : Int))) (.int (0 + (i : Int) + 1)) O' = .ok (.int (((n / 26 / 6 + 7 * i) / (i + 1) : Nat) : Int)) O' := by
        rw [div_ii (by omega) (by omega)]
        simp
      have d4 : fMod (.int (((n / 26 / 6 + 7 * i) / (i + 1) : Nat) : Int)) (.int 36) O' = .ok (.int (((n / 26 / 6 + 7 * i) / (i + 1) % 36 : Nat) : Int)) O' := by rw [mod_ii (by decide)]; rfl
      have d5 := all_ix (i := (n / 26 / 6 + 7 * i) / (i + 1) % 36) (Nat.mod_lt _ (by decide)) O'
      have d6 := add_TT (own := false) (O := O') (a := ch (n % 26) :: (List.range i).map fun k => ch ((n / 26 / 6 + 7 * k) / (k + 1) % 36)) (b := [ch ((n / 26 / 6 + 7 * i) / (i + 1) % 36)]) (by simp; omega)
      unfold nameB
      refine (set_ok (d := .str (T ((ch (n % 26) :: (List.range i).map fun k => ch ((n / 26 / 6 + 7 * k) / (k + 1) % 36)) ++ [ch ((n / 26 / 6 + 7 * i) / (i + 1) % 36)]))) (O1 := O') ?_).trans ?_
      · simp only [ap_op, ap_c, List.set_cons_zero, List.set_cons_succ, var_s, var_0, bind_ok, add_ss q, d1, d2, add_ii, d3, d4, d5, d6]
      · simp [List.range_succ])
    ⟨rfl, none, by simp⟩
  obtain ⟨ρ', O', ef, rfl, x, rfl⟩ := lp
  have m1 : fMod (.int (n : Int)) (.int 26) O' = .ok (.int ((n % 26 : Nat) : Int)) O' := by rw [mod_ii (by decide)]; rfl
  have m2 : fDiv (.int (n : Int)) (.int 26) O' = .ok (.int ((n / 26 : Nat) : Int)) O' := by rw [div_ii (by decide) (by decide)]; rfl
  have m3 : fMod (.int ((n / 26 : Nat) : Int)) (.int 6) O' = .ok (.int ((n / 26 % 6 : Nat) : Int)) O' := by rw [mod_ii (by decide)]; rfl
  have m4 := let_ix (i := n % 26) (Nat.mod_lt _ (by decide)) O'
  have rk : rngK [.int ((n / 26 % 6 : Nat) : Int)] O' = .ok (rangeD 0 (n / 26 % 6)) none O' := by
    have h := rngK_1 (O := O') (j := ((n / 26 % 6 : Nat) : Int)) (by omega) (by omega)
    rw [Int.toNat_natCast] at h
    exact h
  generalize hq : n / 26 % 6 = q at *
  generalize hr : n / 26 = r at *
  generalize hs : n % 26 = t at *
  simp [-Int.natCast_ediv, -Int.natCast_emod, name, mFn, startD, m1, m2, m3, m4, rk, ef]
  unfold nameL
  rw [hs, hr, hq]
def S (l : List Nat) : D := .str (T l)
theorem inD_S (l : List Nat) (L : List (List Nat)) : inD (S l) (L.map S) = decide (l ∈ L) := by
  unfold inD
  induction L with
  | nil => rfl
  | cons a L ih =>
    rw [List.map_cons, List.any_cons, ih]
    have : eqF (S a) (S l) = decide (l = a) := by
      show (T a == T l) = _
      by_cases h : l = a
      · subst h; simp
      · have : T a ≠ T l := fun e => h (T_inj e).symm
        simp [h, this]
    rw [this]
    by_cases h : l = a
    · simp [h]
    · by_cases h2 : l ∈ L <;> simp [h, h2]
theorem flat_S (L : List (List Nat)) : (L.map S).all flatD = true := by
  rw [List.all_eq_true]
  intro x hx
  obtain ⟨l, _, rfl⟩ := List.mem_map.mp hx
  rfl
theorem in_S (l : List Nat) (L : List (List Nat)) (d : D) (O : Sto) (h : look O d = .lst (L.map S)) : inRes (S l) d O = some (decide (l ∈ L)) := by
  unfold inRes dGetD
  rw [h]
  dsimp only
  rw [flat_S, inD_S]
  rfl
theorem look_last (O : Sto) (ds : List D) : look (O ++ [.lst ds]) (.loc O.length) = .lst ds := by simp [look]
theorem below_S (n : Nat) : ∀ L : List (List Nat), BelowL n (L.map S)
  | [] => .nil
  | _ :: L => .cons (.str _) (below_S n L)
abbrev nenv (ns : List Int) (at_ many : Nat) (n k : Nat) (x : Option D) : Env' := [some (.scr ns), some (.int (at_ : Int)), some (.int (many : Int)), some (.loc n), some (.int (k : Int)), x]
theorem names_c (ns : List Int) (a m k : Nat) (x : Option D) (O : Sto) (L : List (List Nat)) : namesC (nenv ns a m O.length k x) (O ++ [.lst (L.map S)]) = .ok (decide (L.length < m)) (O ++ [.lst (L.map S)]) := by
  have e : fLen [.loc O.length] (O ++ [.lst (L.map S)]) = .ok (.int (L.length : Int)) (O ++ [.lst (L.map S)]) := by
    unfold fLen
    dsimp only
    rw [look_last]
    simp
  have e2 : decide ((L.length : Int) < (m : Int)) = decide (L.length < m) := by simp
  simp [namesC, e]
theorem names_b (ns : List Int) (a m k : Nat) (x : Option D) (O : Sto) (L : List (List Nat)) (hL : L.length < 1000) :
    namesB (nenv ns a m O.length k x) (O ++ [.lst (L.map S)]) = .nx (nenv ns a m O.length (k + 1) (some (S (nameL (mixV ns k))))) (O ++ [.lst ((if nameL (mixV ns k) ∈ L then L else L ++ [nameL (mixV ns k)]).map S)]) := by
  have e1 : fNotIn (.str (T (nameL (mixV ns k)))) (.loc O.length) (O ++ [.lst (L.map S)]) = .ok (.bl (!decide (nameL (mixV ns k) ∈ L))) (O ++ [.lst (L.map S)]) := by
    unfold fNotIn
    rw [show D.str (T (nameL (mixV ns k))) = S (nameL (mixV ns k)) from rfl, in_S _ L _ _ (look_last O _)]
  have e2 : isL (O ++ [.lst (L.map S)]) (.loc O.length) = true := by
    unfold isL
    rw [look_last]
  have e3 : fAppend (.loc O.length) [.str (T (nameL (mixV ns k)))] (O ++ [.lst (L.map S)]) = .ok .non (O ++ [.lst ((L ++ [nameL (mixV ns k)]).map S)]) := by
    have h : ownL (O ++ [.lst (L.map S)]) (.loc O.length) = some (O.length, L.map S) := by simp [ownL]
    unfold fAppend
    rw [h]
    dsimp only
    rw [if_pos (by simp; omega)]
    simp [S]
  by_cases h : nameL (mixV ns k) ∈ L
  · rw [if_pos h]
    simp [namesB, ap_if, mixed_ok, name_ok, e1, h]
    rfl
  · rw [if_neg h]
    simp [-List.map_append, namesB, ap_if, mixed_ok, name_ok, e1, e2, e3, h]
    rfl
theorem names_w (ns : List Int) (hl : ns.length ≤ 63) (a m : Nat) (hm : m ≤ 62) (O : Sto) : ∀ (r : Nat) (L : List (List Nat)) (k : Nat) (x : Option D), L.length + r = m → L.Nodup → (∀ l ∈ L, ∃ n, l = nameL n) →
    ∃ (n : Nat) (L' : List (List Nat)) (k' : Nat) (x' : Option D), whileN namesC namesB n (nenv ns a m O.length k x) (O ++ [.lst (L.map S)]) = .nx (nenv ns a m O.length k' x') (O ++ [.lst (L'.map S)]) ∧ L'.length = m ∧ L'.Nodup ∧ ∀ l ∈ L', ∃ n, l = nameL n := by
  intro r
  induction r with
  | zero =>
    intro L k x h1 h2 h3
    refine ⟨1, L, k, x, ?_, h1, h2, h3⟩
    unfold whileN
    rw [names_c, show decide (L.length < m) = false from decide_eq_false (by omega)]
    rfl
  | succ r ih =>
    intro L k x h1 h2 h3
    obtain ⟨k1, hk, hn⟩ := fresh_comes ns hl L (by omega) k
    have inner : ∀ d k x, k + d = k1 → ∃ (n : Nat) (L' : List (List Nat)) (k' : Nat) (x' : Option D), whileN namesC namesB n (nenv ns a m O.length k x) (O ++ [.lst (L.map S)]) = .nx (nenv ns a m O.length k' x') (O ++ [.lst (L'.map S)]) ∧ L'.length = m ∧ L'.Nodup ∧ ∀ l ∈ L', ∃ n, l = nameL n := by
      intro d
      induction d with
      | zero =>
        intro k x hd
        obtain rfl : k = k1 := by omega
        obtain ⟨n, L', k', x', e, q⟩ := ih (L ++ [nameL (mixV ns k)]) (k + 1) (some (S (nameL (mixV ns k)))) (by simp; omega) (by
          rw [List.nodup_append]
          exact ⟨h2, by simp, fun y hy z hz => by rw [List.mem_singleton.mp hz]; exact fun e => hn (e ▸ hy)⟩) (fun l hm => by
          rcases List.mem_append.mp hm with h | h
          · exact h3 l h
          · exact ⟨_, List.mem_singleton.mp h⟩)
        refine ⟨n + 1, L', k', x', ?_, q⟩
        unfold whileN
        rw [names_c, show decide (L.length < m) = true from decide_eq_true (by omega), bbindS_ok, if_pos rfl, names_b _ _ _ _ _ _ _ (by omega), if_neg hn]
        exact e
      | succ d ihd =>
        intro k x hd
        by_cases hin : nameL (mixV ns k) ∈ L
        · obtain ⟨n, L', k', x', e, q⟩ := ihd (k + 1) (some (S (nameL (mixV ns k)))) (by omega)
          refine ⟨n + 1, L', k', x', ?_, q⟩
          unfold whileN
          rw [names_c, show decide (L.length < m) = true from decide_eq_true (by omega), bbindS_ok, if_pos rfl, names_b _ _ _ _ _ _ _ (by omega), if_pos hin]
          exact e
        · obtain ⟨n, L', k', x', e, q⟩ := ih (L ++ [nameL (mixV ns k)]) (k + 1) (some (S (nameL (mixV ns k)))) (by simp; omega) (by
            rw [List.nodup_append]
            exact ⟨h2, by simp, fun y hy z hz => by rw [List.mem_singleton.mp hz]; exact fun e => hin (e ▸ hy)⟩) (fun l hm => by
            rcases List.mem_append.mp hm with h | h
            · exact h3 l h
            · exact ⟨_, List.mem_singleton.mp h⟩)
          refine ⟨n + 1, L', k', x', ?_, q⟩
          unfold whileN
          rw [names_c, show decide (L.length < m) = true from decide_eq_true (by omega), bbindS_ok, if_pos rfl, names_b _ _ _ _ _ _ _ (by omega), if_neg hin]
          exact e
    exact inner (k1 - k) k x (by omega)
theorem kept_set {O : Sto} {o o' : OD} : Kept O ((O ++ [o]).set O.length o') := by
  have : (O ++ [o]).set O.length o' = O ++ [o'] := by simp
  rw [this]
  exact Kept.app O _
theorem names_ok (ns : List Int) (hl : ns.length ≤ 63) (a m : Nat) (hm : m ≤ 62) (O : Sto) :
    ∃ L : List (List Nat), L.length = m ∧ L.Nodup ∧ (∀ l ∈ L, ∃ n, l = nameL n) ∧ names [.scr ns, .int (a : Int), .int (m : Int)] O = .ok (.lst (L.map S)) O := by
  obtain ⟨n, L, k, x, e, h1, h2, h3⟩ := names_w ns hl a m hm O m [] a none (by simp) (by simp) (by simp)
  refine ⟨L, h1, h2, h3, ?_⟩
  have ew : dWhile namesC namesB (nenv ns a m O.length a none) (O ++ [.lst []]) = .nx (nenv ns a m O.length k x) (O ++ [.lst (L.map S)]) := dWhile_of e (by simp)
  have ef : frz1 (.loc O.length) (O ++ [.lst (L.map S)]) = some (.lst (L.map S), O ++ [.gone]) := by simp [frz1]
  have ed : (dFrz (dVar 3)) (nenv ns a m O.length k x) (O ++ [.lst (L.map S)]) = .ok (.lst (L.map S)) (O ++ [.gone]) := by
    unfold dFrz
    rw [show dVar 3 (nenv ns a m O.length k x) (O ++ [.lst (L.map S)]) = .ok (.loc O.length) (O ++ [.lst (L.map S)]) from rfl, bind_ok, ef]
  simp only [names, mFn, startD, List.map_cons, List.map_nil, List.length_cons, List.length_nil, ap_seq, ap_set, ap_lst, ap_nil, lbind_ok, mkL_t, bindS_ok, then_nx]
  simp [ew, ed]
  exact trim_app (.lst (below_S _ L))
end Yk.Nm

set_option Elab.async false
set_option linter.all false
set_option maxRecDepth 100000
set_option maxHeartbeats 2000000
/-! YkQ: slices, comprehensions, loops that stop early, dicts of names. -/
namespace Yk
open PySem PySem.Spec PyProof.Rows L2 Nm
section
variable {O : Sto} {ρ : Env'}
theorem cutD_from (ds : List D) (i : Nat) : cutD ds (some (i : Int)) none = ds.drop i := by
  unfold cutD
  rw [HT.sIx_nat]
  show (ds.drop (min i ds.length)).take (ds.length - min i ds.length) = _
  rcases Nat.le_total i ds.length with h | h
  · rw [Nat.min_eq_left h, List.take_of_length_le (by simp)]
  · rw [Nat.min_eq_right h, List.drop_of_length_le (Nat.le_refl _), List.drop_of_length_le h]; simp
theorem cutD_to (ds : List D) (i : Nat) : cutD ds none (some (i : Int)) = ds.take i := by
  unfold cutD
  rw [HT.sIx_nat]
  show (ds.drop 0).take (min i ds.length - 0) = _
  rw [List.drop_zero, Nat.sub_zero]
  rcases Nat.le_total i ds.length with h | h
  · rw [Nat.min_eq_left h]
  · rw [Nat.min_eq_right h, List.take_of_length_le (Nat.le_refl _), List.take_of_length_le h]
theorem cutD_all (ds : List D) : cutD ds none none = ds := by
  unfold cutD
  show (ds.drop 0).take (ds.length - 0) = _
  simp
/-- a slice from a place on, up to a place -/
theorem sl_from {a b : DTE} {ds : List D} {i : Nat} {O1 O2 : Sto} {own : Bool} {d : D} (h1 : a ρ O = .ok d O1) (h2 : b ρ O1 = .ok (.int (i : Int)) O2) (h3 : look O2 d = .lst ds) : dSl own a (dPart b) dNoP ρ O = mkL own (ds.drop i) O2 := by
  unfold dSl dPart
  rw [h1, bind_ok, h2]
  show fSl own d (some (i : Int)) none O2 = _
  unfold fSl
  rw [h3]
  show mkL own (cutD ds (some (i : Int)) none) O2 = _
  rw [cutD_from]
theorem sl_to {a b : DTE} {ds : List D} {i : Nat} {O1 O2 : Sto} {own : Bool} {d : D} (h1 : a ρ O = .ok d O1) (h2 : b ρ O1 = .ok (.int (i : Int)) O2) (h3 : look O2 d = .lst ds) : dSl own a dNoP (dPart b) ρ O = mkL own (ds.take i) O2 := by
  unfold dSl dPart
  rw [h1, bind_ok]
  show (match (match b ρ O1 with
    | .ok (.int i) O1 => ResO.ok (some i) O1
    | .ok _ _ => .stuck
    | .exc c fs O1 => .exc c fs O1
    | .stuck => .stuck) with
    | .ok u O3 => fSl own d none u O3
    | .exc c fs O3 => .exc c fs O3
    | .stuck => .stuck) = _
  rw [h2]
  show fSl own d none (some (i : Int)) O2 = _
  unfold fSl
  rw [h3]
  show mkL own (cutD ds none (some (i : Int))) O2 = _
  rw [cutD_to]
section
variable {items xs : List D} {lk : Option (Nat × OD)} {g : DTG} {body : DTS} {x d : D} {ρ1 ρ2 : Env'} {O2 : Sto}
theorem forL_nil (hs : Still lk O) : forL items lk g body [] ρ O = .nx ρ O := by unfold forL; exact if_pos hs
theorem forL_nx (hs : Still lk O) (h1 : g x ρ = some ρ1) (h2 : body ρ1 O = .nx ρ2 O2) : forL items lk g body (x :: xs) ρ O = forL items lk g body xs ρ2 O2 := by
  conv => lhs; unfold forL
  rw [if_pos hs, h1]
  dsimp only
  rw [h2]
theorem forL_ct (hs : Still lk O) (h1 : g x ρ = some ρ1) (h2 : body ρ1 O = .ct ρ2 O2) : forL items lk g body (x :: xs) ρ O = forL items lk g body xs ρ2 O2 := by
  conv => lhs; unfold forL
  rw [if_pos hs, h1]
  dsimp only
  rw [h2]
theorem forL_bk (hs : Still lk O) (h1 : g x ρ = some ρ1) (h2 : body ρ1 O = .bk ρ2 O2) : forL items lk g body (x :: xs) ρ O = .nx ρ2 O2 := by
  unfold forL
  rw [if_pos hs, h1]
  dsimp only
  rw [h2]
theorem forL_rt (hs : Still lk O) (h1 : g x ρ = some ρ1) (h2 : body ρ1 O = .rt d O2) : forL items lk g body (x :: xs) ρ O = .rt d O2 := by
  unfold forL
  rw [if_pos hs, h1]
  dsimp only
  rw [h2]
end
/-- a loop that never stops early, by what holds when vs are done and us are left -/
theorem forL_parts {items : List D} {g : DTG} {body : DTS} {xs : List D} (I : List D → List D → Env' → Sto → Prop)
    (hst : ∀ vs x us ρ O, vs ++ x :: us = xs → I vs (x :: us) ρ O → ∃ ρ1, g x ρ = some ρ1 ∧ ∃ ρ2 O2, (body ρ1 O = .nx ρ2 O2 ∨ body ρ1 O = .ct ρ2 O2) ∧ I (vs ++ [x]) us ρ2 O2) :
    ∀ (us vs : List D) (ρ : Env') (O : Sto), vs ++ us = xs → I vs us ρ O → ∃ ρ' O', forL items none g body us ρ O = .nx ρ' O' ∧ I xs [] ρ' O'
  | [], vs, ρ, O, e, h => ⟨ρ, O, forL_nil (still_none.mpr trivial), by rw [List.append_nil] at e; rw [← e]; exact h⟩
  | x :: us, vs, ρ, O, e, h => by
    obtain ⟨ρ1, e1, ρ2, O2, e2, h2⟩ := hst vs x us ρ O e h
    obtain ⟨ρ', O', e3, h3⟩ := forL_parts (items := items) I hst us (vs ++ [x]) ρ2 O2 (by rw [List.append_assoc]; exact e) h2
    refine ⟨ρ', O', ?_, h3⟩
    rcases e2 with e2 | e2
    · rw [forL_nx (still_none.mpr trivial) e1 e2]; exact e3
    · rw [forL_ct (still_none.mpr trivial) e1 e2]; exact e3
/-- a comprehension, each element something that P says -/
theorem compL_ex {items : List D} {lk : Option (Nat × OD)} {g : DTG} {elt : DTE} (P : D → D → Prop) (hs : Still lk O) :
    ∀ (xs acc : List D), (∀ x, x ∈ xs → ∃ ρ1, g x ρ = some ρ1 ∧ ∃ y, elt ρ1 O = .ok y O ∧ P x y) → acc.length + xs.length ≤ 1000000 →
      ∃ ys, compL items lk g dYes elt ρ xs acc O = .ok (acc ++ ys) O ∧ Paired P xs ys
  | [], acc, _, _ => ⟨[], by unfold compL; rw [if_pos hs]; simp, .nil⟩
  | x :: xs, acc, h, hl => by
    obtain ⟨ρ1, e1, y, e2, hp⟩ := h x (List.mem_cons_self ..)
    have hl' : acc.length + (xs.length + 1) ≤ 1000000 := by simpa using hl
    obtain ⟨ys, e3, pr⟩ := compL_ex P hs xs (acc ++ [y]) (fun z hz => h z (List.mem_cons_of_mem _ hz)) (by simp; omega)
    refine ⟨y :: ys, ?_, .cons hp pr⟩
    unfold compL
    rw [if_pos hs, e1]
    show (match elt ρ1 O with
        | .ok y O2 => if acc.length < 1000000 then compL items lk g dYes elt ρ xs (acc ++ [y]) O2 else .stuck
        | _ => .stuck) = _
    rw [e2]
    dsimp only
    rw [if_pos (by omega), e3]
    simp
/-- a loop whose body goes on, or ends the call -/
theorem forL_find {items : List D} {lk : Option (Nat × OD)} {g : DTG} {body : DTS} (hs : Still lk O) (p : D → Bool) (d : D) (I : Env' → Prop) :
    ∀ (xs : List D) (ρ : Env'), I ρ → (∀ x ∈ xs, ∀ ρ, I ρ → ∃ ρ1, g x ρ = some ρ1 ∧ (if p x = true then body ρ1 O = .rt d O else ∃ ρ2, body ρ1 O = .nx ρ2 O ∧ I ρ2)) →
      (if xs.any p = true then forL items lk g body xs ρ O = .rt d O else ∃ ρ2, forL items lk g body xs ρ O = .nx ρ2 O ∧ I ρ2)
  | [], ρ, hI, h => by
    rw [if_neg (by simp)]
    exact ⟨ρ, by unfold forL; rw [if_pos hs], hI⟩
  | x :: xs, ρ, hI, h => by
    obtain ⟨ρ1, e1, e2⟩ := h x (List.mem_cons_self ..) ρ hI
    cases hp : p x with
    | true =>
      rw [if_pos hp] at e2
      rw [if_pos (by simp [hp])]
      unfold forL
      rw [if_pos hs, e1]
      dsimp only
      rw [e2]
    | false =>
      rw [if_neg (by simp [hp])] at e2
      obtain ⟨ρ2, e3, hI2⟩ := e2
      have ih := forL_find (items := items) hs p d I xs ρ2 hI2 (fun y hy => h y (List.mem_cons_of_mem _ hy))
      have ha : (x :: xs).any p = xs.any p := by simp [hp]
      rw [ha]
      have hf : forL items lk g body (x :: xs) ρ O = forL items lk g body xs ρ2 O := by
        conv => lhs; unfold forL
        rw [if_pos hs, e1]
        dsimp only
        rw [e3]
      rw [hf]
      exact ih
/-- a loop that ends the call at the first that p likes -/
theorem forL_first {items : List D} {lk : Option (Nat × OD)} {g : DTG} {body : DTS} (hs : Still lk O) (p : D → Bool) (f : D → D) (I : Env' → Prop) :
    ∀ (xs : List D) (ρ : Env'), I ρ → (∀ x ∈ xs, ∀ ρ, I ρ → ∃ ρ1, g x ρ = some ρ1 ∧ (if p x = true then body ρ1 O = .rt (f x) O else ∃ ρ2, body ρ1 O = .nx ρ2 O ∧ I ρ2)) →
      (match xs.find? p with
        | some x => forL items lk g body xs ρ O = .rt (f x) O
        | none => ∃ ρ2, forL items lk g body xs ρ O = .nx ρ2 O ∧ I ρ2)
  | [], ρ, hI, h => ⟨ρ, forL_nil hs, hI⟩
  | x :: xs, ρ, hI, h => by
    obtain ⟨ρ1, e1, e2⟩ := h x (List.mem_cons_self ..) ρ hI
    cases hp : p x with
    | true =>
      rw [if_pos hp] at e2
      rw [List.find?_cons_of_pos hp]
      exact forL_rt hs e1 e2
    | false =>
      rw [if_neg (by simp [hp])] at e2
      obtain ⟨ρ2, e3, hI2⟩ := e2
      rw [List.find?_cons_of_neg (by simp [hp]), forL_nx hs e1 e3]
      exact forL_first (items := items) hs p f I xs ρ2 hI2 (fun y hy => h y (List.mem_cons_of_mem _ hy))
/-! dicts whose keys are names -/
def getB (kvs : List (Key × D)) (k : Key) (dflt : D) : D := (getK kvs k).getD dflt
theorem get2_dic {kvs : List (Key × D)} {x y : D} {s : Str} (h : look O x = .dic kvs) : fGet x (.str s) y O = .ok (getB kvs (.inr s) y) O := by
  unfold fGet dGetD
  rw [h]
  dsimp only [keyD]
  show (match Option.some (getK kvs (.inr s)) with
    | some (some d) => Res.ok d O
    | some none => .ok y O
    | none => .stuck) = _
  unfold getB
  cases getK kvs (Sum.inr s) <;> rfl
theorem isDc_dic {kvs : List (Key × D)} {x : D} (h : look O x = .dic kvs) : isDc O x = true := by
  unfold isDc
  rw [h]
theorem getK_mem {kvs : List (Key × D)} {k : Key} {d : D} (h : getK kvs k = some d) : (k, d) ∈ kvs := by
  unfold getK at h
  cases z : kvs.find? fun kv => decide (kv.1 = k) with
  | none => rw [z] at h; cases h
  | some kv =>
    rw [z] at h
    cases h
    have h1 := List.find?_some z
    have h2 := List.mem_of_find?_eq_some z
    have h3 : kv.1 = k := by simpa using h1
    rw [← h3]
    exact h2
theorem setK_keys {kvs : List (Key × D)} {k : Key} {d : D} (h : (kvs.map (·.1)).Nodup) : ((setK kvs k d).map (·.1)).Nodup := by
  unfold setK
  by_cases ha : (kvs.any fun kv => decide (kv.1 = k)) = true
  · rw [if_pos ha]
    have : (kvs.map fun kv => if kv.1 = k then (k, d) else kv).map (·.1) = kvs.map (·.1) := by
      rw [List.map_map]
      refine List.map_congr_left fun kv _ => ?_
      by_cases e : kv.1 = k <;> simp [e]
    rw [this]
    exact h
  · rw [if_neg ha, List.map_append, List.nodup_append]
    refine ⟨h, by simp, fun a ha' b hb => ?_⟩
    have hb' : b = k := by simpa using hb
    rintro rfl
    subst hb'
    obtain ⟨kv, h1, h2⟩ := List.mem_map.mp ha'
    exact ha (List.any_eq_true.mpr ⟨kv, h1, by simpa using h2⟩)
theorem setK_mem {kvs : List (Key × D)} {k : Key} {d : D} {x : Key × D} (h : x ∈ setK kvs k d) : x = (k, d) ∨ x ∈ kvs := by
  unfold setK at h
  split at h
  · obtain ⟨kv, h1, h2⟩ := List.mem_map.mp h
    split at h2
    · exact .inl h2.symm
    · exact .inr (h2 ▸ h1)
  · rcases List.mem_append.mp h with h | h
    · exact .inr h
    · exact .inl (by simpa using h)
theorem setK_len {kvs : List (Key × D)} {k : Key} {d : D} : (setK kvs k d).length ≤ kvs.length + 1 := by
  unfold setK
  split <;> simp
theorem getK_set_eq {kvs : List (Key × D)} {k : Key} {d : D} : getK (setK kvs k d) k = some d := by
  unfold setK
  by_cases ha : (kvs.any fun kv => decide (kv.1 = k)) = true
  · rw [if_pos ha]
    induction kvs with
    | nil => simp at ha
    | cons a r ih =>
      by_cases e : a.1 = k
      · unfold getK; simp [e]
      · have ha' : (r.any fun kv => decide (kv.1 = k)) = true := by simpa [e] using ha
        have := ih ha'
        unfold getK at this ⊢
        rw [List.map_cons, if_neg e, List.find?_cons_of_neg (by simpa using e)]
        exact this
  · rw [if_neg ha]
    unfold getK
    have : kvs.find? (fun kv => decide (kv.1 = k)) = none := by
      rw [List.find?_eq_none]
      intro x hx
      have hf : ¬ (kvs.any fun kv => decide (kv.1 = k)) = true := ha
      intro h
      exact hf (List.any_eq_true.mpr ⟨x, hx, h⟩)
    rw [List.find?_append, this]
    simp
theorem getK_set_ne {kvs : List (Key × D)} {k k' : Key} {d : D} (h : k' ≠ k) : getK (setK kvs k d) k' = getK kvs k' := by
  unfold setK
  by_cases ha : (kvs.any fun kv => decide (kv.1 = k)) = true
  · rw [if_pos ha]
    clear ha
    induction kvs with
    | nil => rfl
    | cons a r ih =>
      unfold getK at ih ⊢
      by_cases e : a.1 = k
      · rw [List.map_cons, if_pos e, List.find?_cons_of_neg (by simpa using Ne.symm h), List.find?_cons_of_neg (by rw [e]; simpa using Ne.symm h)]
        exact ih
      · rw [List.map_cons, if_neg e]
        by_cases e2 : a.1 = k'
        · rw [List.find?_cons_of_pos (by simpa using e2), List.find?_cons_of_pos (by simpa using e2)]
        · rw [List.find?_cons_of_neg (by simpa using e2), List.find?_cons_of_neg (by simpa using e2)]
          exact ih
  · rw [if_neg ha]
    unfold getK
    rw [List.find?_append]
    cases kvs.find? fun kv => decide (kv.1 = k') with
    | some x => rfl
    | none => simp [Ne.symm h]
/-! == of a thing and itself -/
theorem deqL_true {f : D → D → Option Bool} : ∀ {xs : List D}, (∀ x ∈ xs, f x x = some true) → deqL f xs xs = some true
  | [], _ => rfl
  | x :: xs, h => by
    unfold deqL
    rw [h x (List.mem_cons_self ..), deqL_true fun y hy => h y (List.mem_cons_of_mem _ hy)]
    rfl
def flatS : D → Bool
  | .str _ => true
  | .int _ => true
  | .bl _ => true
  | .non => true
  | _ => false
theorem deqN_flat {n : Nat} {d : D} (h : flatS d = true) : deqN (n + 1) d d = some true := by
  cases d <;> first | (simp [deqN]; done) | cases h
theorem deqN_lst {n : Nat} {xs : List D} (h : ∀ x ∈ xs, deqN n x x = some true) : deqN (n + 1) (.lst xs) (.lst xs) = some true := by
  simp only [deqN]
  rw [if_pos trivial]
  exact deqL_true h
theorem deqN_tup {n : Nat} {xs : List D} (h : ∀ x ∈ xs, deqN n x x = some true) : deqN (n + 1) (.tup xs) (.tup xs) = some true := by
  simp only [deqN]
  rw [deqL_true h]
  simp
/-- a step: a tuple of flat things -/
def isStep : D → Bool
  | .tup ds => ds.all flatS
  | _ => false
theorem deqN_step {n : Nat} {d : D} (h : isStep d = true) : deqN (n + 2) d d = some true := by
  cases d with
  | tup ds => exact deqN_tup fun x hx => deqN_flat (List.all_eq_true.mp h x hx)
  | _ => cases h
theorem eq_steps {xs : List D} (h : ∀ x ∈ xs, isStep x = true) : fEq (.lst xs) (.lst xs) O = .ok (.bl true) O := by
  show (match deqN 60 (.lst xs) (.lst xs) with | some b => Res.ok (.bl b) O | none => .stuck) = _
  rw [deqN_lst fun x hx => deqN_step (h x hx)]
theorem eqZ_self {kvs : List (Key × D)} {x y : D} (h1 : look O x = .dic kvs) (h2 : look O y = .dic kvs) (hn : (kvs.map (·.1)).Nodup) (hv : ∀ kv ∈ kvs, deqV O kv.2 kv.2 = some true) : fEqZ x y O = .ok (.bl true) O := by
  unfold fEqZ deqD
  rw [h1, h2]
  dsimp only
  rw [if_pos rfl, eqKs_all fun kv hkv => ⟨kv.2, getK_self hn kv hkv, hv kv hkv⟩]
theorem below_flat {n : Nat} {d : D} (h : flatS d = true) : Below n d := by
  cases d <;> first | exact .non | exact .bl _ | exact .int _ | exact .str _ | cases h
theorem belowL_flat {n : Nat} : ∀ {ds : List D}, (∀ d ∈ ds, flatS d = true) → BelowL n ds
  | [], _ => .nil
  | d :: ds, h => .cons (below_flat (h d (List.mem_cons_self ..))) (belowL_flat fun x hx => h x (List.mem_cons_of_mem _ hx))
theorem below_step {n : Nat} {d : D} (h : isStep d = true) : Below n d := by
  cases d with
  | tup ds => exact .tup (belowL_flat fun x hx => List.all_eq_true.mp h x hx)
  | _ => cases h
theorem belowL_step {n : Nat} : ∀ {ds : List D}, (∀ d ∈ ds, isStep d = true) → BelowL n ds
  | [], _ => .nil
  | d :: ds, h => .cons (below_step (h d (List.mem_cons_self ..))) (belowL_step fun x hx => h x (List.mem_cons_of_mem _ hx))
theorem belowK_flat {n : Nat} : ∀ {ds : List (Key × D)}, (∀ d ∈ ds, flatS d.2 = true) → BelowK n ds
  | [], _ => .nil
  | (k, d) :: ds, h => .cons (below_flat (h (k, d) (List.mem_cons_self ..))) (belowK_flat fun x hx => h x (List.mem_cons_of_mem _ hx))
theorem putD_last {kvs : List (Key × D)} {l : List Nat} {v : D} (h : kvs.length < 1000000) : putD (O ++ [.dic kvs]) (.loc O.length) (S l) v = some (O ++ [.dic (setK kvs (.inr (T l)) v)]) := by
  have e : ownK (O ++ [.dic kvs]) (.loc O.length) = some (O.length, kvs) := by simp [ownK]
  unfold putD
  rw [e]
  dsimp only [S, keyD]
  rw [if_pos h]
  simp
theorem frz_last {kvs : List (Key × D)} : frz1 (.loc O.length) (O ++ [.dic kvs]) = some (.dic kvs, O ++ [.gone]) := by simp [frz1]
theorem frz_lastL {ds : List D} : frz1 (.loc O.length) (O ++ [.lst ds]) = some (.lst ds, O ++ [.gone]) := by simp [frz1]
theorem ap_frz {m : DTE} {d d' : D} {O1 O2 : Sto} (h : m ρ O = .ok d O1) (h2 : frz1 d O1 = some (d', O2)) : dFrz m ρ O = .ok d' O2 := by
  unfold dFrz
  rw [h, bind_ok, h2]
theorem put_ok {a b e : DTE} {x y v : D} {O1 O2 O3 O4 : Sto} (h1 : e ρ O = .ok v O1) (h2 : a ρ O1 = .ok x O2) (h3 : b ρ O2 = .ok y O3) (h4 : putD O3 x y v = some O4) : dPut a b e ρ O = .nx ρ O4 := by
  unfold dPut
  rw [h1, bindS_ok, h2, bindS_ok, h3, bindS_ok, h4]
end
end Yk

set_option Elab.async false
set_option linter.all false
set_option maxRecDepth 100000
set_option maxHeartbeats 2000000
/-! YkR: steps, paths that are dealt and copied. -/
namespace Yk.Pt
open PySem PySem.Spec PyProof.Rows L2 Yk Yk.Nm
noncomputable def step : List D → Sto → Res := mFn ["_law_part", "_law_number", "_law_whole", "_law_entry", "_law_out", "_law_lie"] (dSeq (dSet 2 (dLst false (dCons (dTup (dCons (dC (.str "a")) (dCons (dC (.str "b")) (dCons (dC (.str "")) dNil)))) (dCons (dTup (dCons (dC (.str "b")) (dCons (dC (.str "a")) (dCons (dC (.str "")) dNil)))) (dCons (dTup (dCons (dC (.str "c")) (dCons (dC (.str "d")) (dCons (dC (.str "")) dNil)))) (dCons (dTup (dCons (dC (.str "d")) (dCons (dC (.str "c")) (dCons (dC (.str "")) dNil)))) (dCons (dTup (dCons (dC (.str "a")) (dCons (dC (.str "")) (dCons (dC (.str "")) dNil)))) (dCons (dTup (dCons (dC (.str "")) (dCons (dC (.str "a")) (dCons (dC (.str "")) dNil)))) dNil))))))))
  (dSeq (dSet 2 (dOp (fAdd false) (dVar 2) (dLst false (dCons (dTup (dCons (dC (.str "stem")) (dCons (dC (.str "left")) (dCons (dC (.str "left")) dNil)))) (dCons (dTup (dCons (dC (.str "left")) (dCons (dC (.str "stem")) (dCons (dC (.str "left")) dNil)))) dNil)))))
  (dSeq (dSet 2 (dOp (fAdd false) (dVar 2) (dLst false (dCons (dTup (dCons (dC (.str "stem")) (dCons (dC (.str "right")) (dCons (dC (.str "right")) dNil)))) (dCons (dTup (dCons (dC (.str "right")) (dCons (dC (.str "stem")) (dCons (dC (.str "right")) dNil)))) dNil)))))
  (dSeq (dAsg (gT (gConsD (gN 3) (gConsD (gN 4) (gConsD (gN 5) gNilD)))) (dOp fIx (dVar 2) (dOp fMod (dVar 1) (dC (.int 10)))))
  (dRet (dTup (dCons (dVar 0) (dCons (dVar 3) (dCons (dVar 4) (dCons (dVar 5) dNil))))))))))
abbrev wholeT : List (String × String × String) := [("a", "b", ""), ("b", "a", ""), ("c", "d", ""), ("d", "c", ""), ("a", "", ""), ("", "a", ""), ("stem", "left", "left"), ("left", "stem", "left"), ("stem", "right", "right"), ("right", "stem", "right")]
def w3 (x : String × String × String) : D := .tup [.str x.1, .str x.2.1, .str x.2.2]
def stepOf (l : List Nat) (d : D) : Prop := ∃ e o i : Str, d = .tup [S l, .str e, .str o, .str i]
theorem step_ok (l : List Nat) (n : Nat) (O : Sto) : ∃ y, step [S l, .int n] O = .ok y O ∧ stepOf l y := by
  have hm : fMod (.int (n : Int)) (.int 10) O = .ok (.int ((n % 10 : Nat) : Int)) O := by rw [mod_ii (by decide)]; rfl
  have h10 : n % 10 < 10 := Nat.mod_lt _ (by decide)
  have hw : ∃ x : String × String × String, wholeT[n % 10]? = some x := ⟨_, List.getElem?_eq_getElem (show n % 10 < wholeT.length from h10)⟩
  obtain ⟨x, hx⟩ := hw
  have hi : fIx (.lst (wholeT.map w3)) (.int ((n % 10 : Nat) : Int)) O = .ok (w3 x) O := by
    refine ix_lst ?_
    rw [atI_int (by omega) (by simp; omega)]
    rw [Int.toNat_natCast, List.getElem?_map, hx]
    rfl
  generalize hk : n % 10 = k at *
  refine ⟨.tup [S l, .str x.1, .str x.2.1, .str x.2.2], ?_, x.1, x.2.1, x.2.2, rfl⟩
  have a1 : ∀ a b : List D, a.length + b.length ≤ 1000000 → fAdd false (.lst a) (.lst b) O = .ok (.lst (a ++ b)) O := fun a b h => by rw [add_ll h, mkL_f]
  have ef := hi
  simp only [wholeT, w3, List.map_cons, List.map_nil] at ef
  simp [step, mFn, startD, hm, a1, ef, w3]
  exact trim_same (.tup (belowL_flat (by intro d hd; simp at hd; rcases hd with rfl | rfl | rfl | rfl <;> rfl)))
theorem stepOf_step {l : List Nat} {d : D} (h : stepOf l d) : isStep d = true := by
  obtain ⟨e, o, i, rfl⟩ := h
  rfl
/-- a step's part -/
def hd : D → D
  | .tup (x :: _) => x
  | _ => .non
theorem stepOf_hd {l : List Nat} {d : D} (h : stepOf l d) : hd d = S l := by
  obtain ⟨e, o, i, rfl⟩ := h
  rfl
/-! ### stores -/
theorem look_loc {O : Sto} {n : Nat} {ds : List D} (h : O[n]? = some (.lst ds)) : look O (.loc n) = .lst ds := by
  unfold look
  simp only [h]
theorem get_mid {O R : Sto} {o : OD} : (O ++ o :: R)[O.length]? = some o := by simp
theorem set_mid {O R : Sto} {o o' : OD} : (O ++ o :: R).set O.length o' = O ++ o' :: R := by simp
theorem get_in {O R : Sto} {o : OD} (j : Nat) : (O ++ o :: R)[O.length + 1 + j]? = R[j]? := by
  rw [List.getElem?_append_right (by omega)]
  rw [show O.length + 1 + j - O.length = j + 1 by omega, List.getElem?_cons_succ]
theorem set_in {O R : Sto} {o o' : OD} (j : Nat) : (O ++ o :: R).set (O.length + 1 + j) o' = O ++ o :: R.set j o' := by
  rw [List.set_append_right _ _ (by omega), show O.length + 1 + j - O.length = j + 1 by omega, List.set_cons_succ]
theorem put_mid {O R : Sto} {kvs : List (Key × D)} {t : Str} {v : D} (h : kvs.length < 1000000) : putD (O ++ .dic kvs :: R) (.loc O.length) (.str t) v = some (O ++ .dic (setK kvs (.inr t) v) :: R) := by
  have e : ownK (O ++ .dic kvs :: R) (.loc O.length) = some (O.length, kvs) := by simp [ownK]
  unfold putD
  rw [e]
  dsimp only [keyD]
  rw [if_pos h, set_mid]
theorem look_mid {O R : Sto} {kvs : List (Key × D)} : look (O ++ .dic kvs :: R) (.loc O.length) = .dic kvs := by simp [look]
theorem ix_dic {O : Sto} {kvs : List (Key × D)} {x d : D} {t : Str} (h : look O x = .dic kvs) (h2 : getK kvs (.inr t) = some d) : fIx x (.str t) O = .ok d O := by
  unfold fIx dGetD
  rw [h]
  dsimp only [keyD]
  show (match Option.some (getK kvs (.inr t)) with
    | some (some d) => Res.ok d O
    | some none => .stuck
    | none => _) = _
  rw [h2]
/-! ### paths that are dealt -/
/-- the dict of the trains: each its list's place -/
def locK (n : Nat) (Tn : List (List Nat)) : List (Key × D) := (Tn.zipIdx n).map fun p => (.inr (T p.1), .loc p.2)
theorem setK_new {kvs : List (Key × D)} {k : Key} {d : D} (h : ∀ kv ∈ kvs, kv.1 ≠ k) : setK kvs k d = kvs ++ [(k, d)] := by
  unfold setK
  rw [if_neg]
  intro ha
  obtain ⟨kv, h1, h2⟩ := List.any_eq_true.mp ha
  exact h kv h1 (by simpa using h2)
theorem zipIdx_snoc {α : Type} (l : List α) (x : α) (n : Nat) : (l ++ [x]).zipIdx n = l.zipIdx n ++ [(x, n + l.length)] := by
  rw [List.zipIdx_append]
  rfl
theorem locK_snoc (n : Nat) (Tn : List (List Nat)) (t : List Nat) (h : t ∉ Tn) : setK (locK n Tn) (.inr (T t)) (.loc (n + Tn.length)) = locK n (Tn ++ [t]) := by
  rw [setK_new]
  · unfold locK
    rw [zipIdx_snoc, List.map_append]
    rfl
  · intro kv hkv e
    unfold locK at hkv
    obtain ⟨p, hp, rfl⟩ := List.mem_map.mp hkv
    have e' : T p.1 = T t := Sum.inr.inj e
    have := T_inj e'
    obtain ⟨h1, h2, h3⟩ := List.mem_zipIdx hp
    exact h (by rw [← this, h3]; exact List.getElem_mem _)
theorem locK_get (n : Nat) : ∀ (Tn : List (List Nat)) (j : Nat) (h : j < Tn.length), Tn.Nodup → ∀ n, getK (locK n Tn) (.inr (T Tn[j])) = some (.loc (n + j))
  | [], j, h, _, n => by simp at h
  | t :: Tn, 0, h, hn, n => by
    unfold getK locK
    simp
  | t :: Tn, j + 1, h, hn, n => by
    have h2 := List.nodup_cons.mp hn
    have hj : j < Tn.length := by simpa using h
    have ih := locK_get n Tn j hj h2.2 (n + 1)
    unfold getK locK at ih ⊢
    rw [List.zipIdx_cons, List.map_cons, List.getElem_cons_succ, List.find?_cons_of_neg]
    · rw [ih, Nat.add_assoc, Nat.add_comm 1 j]
    · simp only [decide_eq_true_eq]
      intro e
      have := T_inj (Sum.inr.inj e)
      exact h2.1 (by rw [this]; exact List.getElem_mem _)
structure Dealt (L : List (List Nat)) (n : Nat) (PP : List (List D)) : Prop where
  len : PP.length = n
  st : ∀ ds ∈ PP, ∀ d ∈ ds, ∃ l ∈ L, stepOf l d
  dis : ∀ (i j : Nat) (ds es : List D) (x y : D), PP[i]? = some ds → PP[j]? = some es → x ∈ ds → y ∈ es → hd x = hd y → i = j
  all : ∀ l ∈ L, ∃ ds ∈ PP, ∃ d ∈ ds, stepOf l d
theorem Dealt.nil (Tn : List (List Nat)) : Dealt [] Tn.length (Tn.map fun _ => []) where
  len := by simp
  st := fun ds hds d hd => by
    obtain ⟨_, _, rfl⟩ := List.mem_map.mp hds
    cases hd
  dis := fun i j ds es x y h1 h2 hx hy e => by
    have := List.mem_of_getElem? h1
    obtain ⟨_, _, rfl⟩ := List.mem_map.mp this
    cases hx
  all := fun l hl => nomatch hl
theorem Dealt.add {L : List (List Nat)} {n : Nat} {PP : List (List D)} (h : Dealt L n PP) {l : List Nat} (hl : l ∉ L) {j : Nat} {ds : List D} (hj : PP[j]? = some ds) {y : D} (hy : stepOf l y) : Dealt (L ++ [l]) n (PP.set j (ds ++ [y])) where
  len := by rw [List.length_set]; exact h.len
  st := fun es hes d hd => by
    have hjl : j < PP.length := (List.getElem?_eq_some_iff.mp hj).1
    rcases List.mem_or_eq_of_mem_set hes with he | rfl
    · obtain ⟨l', h1, h2⟩ := h.st es he d hd
      exact ⟨l', List.mem_append_left _ h1, h2⟩
    · rcases List.mem_append.mp hd with hd | hd
      · obtain ⟨l', h1, h2⟩ := h.st ds (List.mem_of_getElem? hj) d hd
        exact ⟨l', List.mem_append_left _ h1, h2⟩
      · rw [List.mem_singleton.mp hd]
        exact ⟨l, by simp, hy⟩
  dis := fun a b us vs x z ha hb hx hz e => by
    have hjl : j < PP.length := (List.getElem?_eq_some_iff.mp hj).1
    have old : ∀ (a : Nat) us x, (PP.set j (ds ++ [y]))[a]? = some us → x ∈ us → (∃ us', PP[a]? = some us' ∧ x ∈ us') ∨ (a = j ∧ x = y) := by
      intro a us x ha hx
      by_cases haj : j = a
      · subst haj
        rw [List.getElem?_set_self hjl] at ha
        cases ha
        rcases List.mem_append.mp hx with hx | hx
        · exact .inl ⟨ds, hj, hx⟩
        · exact .inr ⟨rfl, List.mem_singleton.mp hx⟩
      · rw [List.getElem?_set_ne haj] at ha
        exact .inl ⟨us, ha, hx⟩
    have nw : ∀ (a : Nat) us' x, PP[a]? = some us' → x ∈ us' → hd x ≠ hd y := by
      intro a us' x ha hx e
      obtain ⟨l', h1, h2⟩ := h.st us' (List.mem_of_getElem? ha) x hx
      rw [stepOf_hd h2, stepOf_hd hy] at e
      have : l' = l := by
        injection e with e
        exact T_inj e
      exact hl (this ▸ h1)
    rcases old a us x ha hx with ⟨us', h1, h2⟩ | ⟨rfl, rfl⟩
    · rcases old b vs z hb hz with ⟨vs', h3, h4⟩ | ⟨rfl, rfl⟩
      · exact h.dis a b us' vs' x z h1 h3 h2 h4 e
      · exact absurd e (nw a us' x h1 h2)
    · rcases old b vs z hb hz with ⟨vs', h3, h4⟩ | ⟨rfl, rfl⟩
      · exact absurd e.symm (nw b vs' z h3 h4)
      · rfl
  all := fun u hu => by
    have hjl : j < PP.length := (List.getElem?_eq_some_iff.mp hj).1
    rcases List.mem_append.mp hu with hu | hu
    · obtain ⟨es, hes, d, hd, hst⟩ := h.all u hu
      obtain ⟨i, hi⟩ := List.mem_iff_getElem?.mp hes
      by_cases hij : j = i
      · subst hij
        rw [hj] at hi
        cases hi
        exact ⟨ds ++ [y], List.mem_of_getElem? (List.getElem?_set_self hjl), d, List.mem_append_left _ hd, hst⟩
      · exact ⟨es, List.mem_of_getElem? (by rw [List.getElem?_set_ne hij]; exact hi), d, hd, hst⟩
    · rw [List.mem_singleton.mp hu]
      exact ⟨ds ++ [y], List.mem_of_getElem? (List.getElem?_set_self hjl), y, by simp, hy⟩
noncomputable def dealt1 : DTS := (dPut (dVar 4) (dVar 5) (dLst true dNil))
noncomputable def dealt2 : DTS := (dSeq (dSet 7 (dCall mixed [] (dCons (dVar 0) (dCons (dOp (fAdd false) (dVar 3) (dVar 6)) dNil))))
  (dSeq (dSet 5 (dOp fIx (dVar 2) (dOp fMod (dVar 7) (dCB fLen (dCons (dVar 2) dNil)))))
  (dExpr (dBMi isL fAppend (dOp fIx (dVar 4) (dVar 5)) (dCons (dCall step [] (dCons (dOp fIx (dVar 1) (dVar 6)) (dCons (dOp fDiv (dVar 7) (dC (.int 7))) dNil))) dNil)))))
noncomputable def dealt : List D → Sto → Res := mFn ["_law_script", "_law_names_here", "_law_trains", "_law_at", "_law_paths", "_law_train", "_law_k", "_law_number"] (dSeq (dSet 4 (dNewK true))
  (dSeq (dFor (srcSeq (dVar 2)) (gN 5) dealt1)
  (dSeq (dFor (srcRng (dCons (dCB fLen (dCons (dVar 1) dNil)) dNil)) (gN 6) dealt2)
  (dRet (dFrz (dVar 4))))))
abbrev env8 (ns : List Int) (L Tn : List (List Nat)) (at_ : Nat) (n : Nat) (x5 x6 x7 : Option D) : Env' := [some (.scr ns), some (.lst (L.map S)), some (.lst (Tn.map S)), some (.int (at_ : Int)), some (.loc n), x5, x6, x7]
theorem dealt1_run (ns : List Int) (L Tn : List (List Nat)) (a : Nat) (O : Sto) (hn : Tn.Nodup) (hlen : Tn.length < 1000) :
    ∃ x5, forL (Tn.map S) none (gN 5) dealt1 (Tn.map S) (env8 ns L Tn a O.length none none none) (O ++ [.dic []]) = .nx (env8 ns L Tn a O.length x5 none none) (O ++ .dic (locK (O.length + 1) Tn) :: Tn.map fun _ => .lst []) := by
  have gen : ∀ (us vs : List (List Nat)) (x5 : Option D), vs ++ us = Tn → ∃ x5', forL (Tn.map S) none (gN 5) dealt1 (us.map S) (env8 ns L Tn a O.length x5 none none) (O ++ .dic (locK (O.length + 1) vs) :: vs.map fun _ => .lst []) = .nx (env8 ns L Tn a O.length x5' none none) (O ++ .dic (locK (O.length + 1) Tn) :: Tn.map fun _ => .lst []) := by
    intro us
    induction us with
    | nil =>
      intro vs x5 e
      rw [List.append_nil] at e
      subst e
      exact ⟨x5, forL_nil (still_none.mpr trivial)⟩
    | cons t us ih =>
      intro vs x5 e
      have hnt : t ∉ vs := by
        rw [← e, List.nodup_append] at hn
        exact fun h => hn.2.2 t h t (List.mem_cons_self ..) rfl
      obtain ⟨x5', h⟩ := ih (vs ++ [t]) (some (S t)) (by rw [List.append_assoc]; exact e)
      refine ⟨x5', ?_⟩
      have hv : dLst true dNil (env8 ns L Tn a O.length (some (S t)) none none) (O ++ .dic (locK (O.length + 1) vs) :: vs.map fun _ => .lst []) = .ok (.loc (O.length + 1 + vs.length)) (O ++ .dic (locK (O.length + 1) vs) :: (vs ++ [t]).map fun _ => .lst []) := by
        rw [ap_lst, ap_nil, lbind_ok, if_pos (by simp), mkL_t]
        simp
        omega
      have hb : dealt1 (env8 ns L Tn a O.length (some (S t)) none none) (O ++ .dic (locK (O.length + 1) vs) :: vs.map fun _ => .lst []) = .nx (env8 ns L Tn a O.length (some (S t)) none none) (O ++ .dic (locK (O.length + 1) (vs ++ [t])) :: (vs ++ [t]).map fun _ => .lst []) := by
        unfold dealt1
        refine put_ok hv rfl rfl ?_
        rw [show S t = .str (T t) from rfl, put_mid]
        · rw [locK_snoc _ _ _ hnt]
        · have : (locK (O.length + 1) vs).length = vs.length := by simp [locK]
          have h3 : vs.length ≤ Tn.length := by rw [← e]; simp
          omega
      rw [List.map_cons, forL_nx (still_none.mpr trivial) rfl hb]
      exact h
  exact gen Tn [] none rfl
theorem dealt2_step (ns : List Int) (L Tn : List (List Nat)) (a : Nat) (O : Sto) (x5 x7 : Option D) (hn : Tn.Nodup) (ht : 0 < Tn.length) (i : Nat) (hi : i < L.length) (PP : List (List D)) (hP : PP.length = Tn.length) (hbig : ∀ ds ∈ PP, ds.length < 1000) :
    ∃ j ds y x7', PP[j]? = some ds ∧ stepOf L[i] y ∧ dealt2 (env8 ns L Tn a O.length x5 (some (.int (i : Int))) x7) (O ++ .dic (locK (O.length + 1) Tn) :: PP.map .lst) =
      .nx (env8 ns L Tn a O.length (some (S (Tn.getD j []))) (some (.int (i : Int))) x7') (O ++ .dic (locK (O.length + 1) Tn) :: (PP.set j (ds ++ [y])).map .lst) := by
  have hmx : mixed [.scr ns, .int ((a : Int) + (i : Int))] (O ++ .dic (locK (O.length + 1) Tn) :: PP.map .lst) = .ok (.int (mixV ns (a + i))) (O ++ .dic (locK (O.length + 1) Tn) :: PP.map .lst) := mixed_ok ns (a + i) _
  generalize mixV ns (a + i) = num at hmx
  obtain ⟨j, hj, hjv⟩ : ∃ j, j < Tn.length ∧ num % Tn.length = j := ⟨_, Nat.mod_lt _ ht, rfl⟩
  obtain ⟨ds, hds⟩ : ∃ ds, PP[j]? = some ds := ⟨_, List.getElem?_eq_getElem (by omega)⟩
  obtain ⟨y, e1, e2⟩ := step_ok L[i] (num / 7) (O ++ .dic (locK (O.length + 1) Tn) :: PP.map .lst)
  refine ⟨j, ds, y, some (.int (num : Int)), hds, e2, ?_⟩
  generalize hST : O ++ .dic (locK (O.length + 1) Tn) :: PP.map .lst = ST at *
  have hm : fMod (.int (num : Int)) (.int (Tn.length : Int)) ST = .ok (.int (j : Int)) ST := by
    rw [mod_ii (by omega), ← hjv]
    simp
  have hx : fIx (.lst (Tn.map S)) (.int (j : Int)) ST = .ok (S Tn[j]) ST := ix_lst (by rw [atI_nat (by simpa using hj)]; simp)
  have hx2 : fIx (.lst (L.map S)) (.int (i : Int)) ST = .ok (S L[i]) ST := ix_lst (by rw [atI_nat (by simpa using hi)]; simp)
  have hd : fDiv (.int (num : Int)) (.int 7) ST = .ok (.int ((num / 7 : Nat) : Int)) ST := by rw [div_ii (by decide) (by decide)]; rfl
  have hlk : look ST (.loc O.length) = .dic (locK (O.length + 1) Tn) := by rw [← hST]; exact look_mid
  have hx3 : fIx (.loc O.length) (S Tn[j]) ST = .ok (.loc (O.length + 1 + j)) ST := ix_dic hlk (locK_get 0 Tn j hj hn _)
  have hg : ST[O.length + 1 + j]? = some (.lst ds) := by rw [← hST, get_in, List.getElem?_map, hds]; rfl
  have hil : isL ST (.loc (O.length + 1 + j)) = true := by simp [isL, look, hg]
  have hap : fAppend (.loc (O.length + 1 + j)) [y] ST = .ok .non (O ++ .dic (locK (O.length + 1) Tn) :: (PP.set j (ds ++ [y])).map .lst) := by
    have ho : ownL ST (.loc (O.length + 1 + j)) = some (O.length + 1 + j, ds) := by simp [ownL, hg]
    unfold fAppend
    rw [ho]
    dsimp only
    rw [if_pos (by have := hbig ds (List.mem_of_getElem? hds); omega), ← hST, set_in, List.map_set]
  have hgd : Tn.getD j [] = Tn[j] := by simp [List.getD, hj]
  rw [hgd]
  unfold dealt2
  simp only [ap_seq, ap_set, ap_call, ap_cons, ap_op, ap_c, ap_nil, ap_cb, var_s, var_0, bind_ok, bindL_ok, lbindL_ok, lbind_ok, add_ii, List.append_nil, hmx, bindS_ok, List.set_cons_zero, List.set_cons_succ, then_nx, len_lst, List.length_map, hm, hx, ap_expr, ap_bm, hx3, hil, if_true, hx2, hd, e1, hap]
theorem dealt_ok (ns : List Int) (L Tn : List (List Nat)) (a : Nat) (O : Sto) (hL : L.Nodup) (hL9 : L.length < 900) (hn : Tn.Nodup) (ht : 0 < Tn.length) (ht9 : Tn.length < 900) :
    ∃ PP, Dealt L Tn.length PP ∧ (∀ ds ∈ PP, ds.length ≤ L.length) ∧ dealt [.scr ns, .lst (L.map S), .lst (Tn.map S), .int (a : Int)] O = .ok (.dic (locK (O.length + 1) Tn)) (O ++ .gone :: PP.map .lst) := by
  obtain ⟨x5, e1⟩ := dealt1_run ns L Tn a O hn (by omega)
  have lp := forL_rng (items := rangeD 0 L.length) (g := gN 6) (body := dealt2) (lo := 0) L.length
    (fun i ρ O' => ∃ PP x5 x6 x7, Dealt (L.take i) Tn.length PP ∧ (∀ ds ∈ PP, ds.length ≤ i) ∧ O' = O ++ .dic (locK (O.length + 1) Tn) :: PP.map .lst ∧ ρ = env8 ns L Tn a O.length x5 x6 x7)
    (ρ := env8 ns L Tn a O.length x5 none none) (O := O ++ .dic (locK (O.length + 1) Tn) :: Tn.map fun _ => .lst []) (fun i hi ρ O' hI => by
      obtain ⟨PP, x5, x6, x7, hD, hbig, rfl, rfl⟩ := hI
      obtain ⟨j, ds, y, x7', h1, h2, h3⟩ := dealt2_step ns L Tn a O x5 x7 hn ht i hi PP hD.len (fun ds hds => by have := hbig ds hds; omega)
      have hz : (0 : Int) + (i : Int) = (i : Int) := Int.zero_add _
      refine ⟨_, rfl, _, _, .inl (by rw [hz]; exact h3), PP.set j (ds ++ [y]), some (S (Tn.getD j [])), some (.int (i : Int)), x7', ?_, ?_, rfl, rfl⟩
      · rw [List.take_succ, List.getElem?_eq_getElem hi]
        refine hD.add ?_ h1 h2
        intro hm
        obtain ⟨k, hk, e⟩ := List.mem_iff_getElem.mp hm
        have hk' : k < i := by simp at hk; omega
        rw [List.getElem_take] at e
        have hp := List.pairwise_iff_getElem.mp hL k i (by omega) hi hk'
        exact hp e
      · intro es hes
        rcases List.mem_or_eq_of_mem_set hes with he | rfl
        · have := hbig es he; omega
        · have := hbig ds (List.mem_of_getElem? h1)
          simp
          omega)
    ⟨Tn.map fun _ => [], x5, none, none, Dealt.nil Tn, by simp, by rw [List.map_map]; rfl, rfl⟩
  obtain ⟨ρ', O', ef, PP, x5', x6', x7', hD, hsz, rfl, rfl⟩ := lp
  rw [List.take_length] at hD
  refine ⟨PP, hD, hsz, ?_⟩
  have rk : ∀ O : Sto, rngK [.int (L.length : Int)] O = .ok (rangeD 0 L.length) none O := fun O => by
    have h := rngK_1 (O := O) (j := (L.length : Int)) (by omega) (by omega)
    rw [Int.toNat_natCast] at h
    exact h
  have hf : frz1 (.loc O.length) (O ++ .dic (locK (O.length + 1) Tn) :: PP.map .lst) = some (.dic (locK (O.length + 1) Tn), O ++ .gone :: PP.map .lst) := by
    simp only [frz1, get_mid, set_mid]
  have hr : dFrz (dVar 4) (env8 ns L Tn a O.length x5' x6' x7') (O ++ .dic (locK (O.length + 1) Tn) :: PP.map .lst) = .ok (.dic (locK (O.length + 1) Tn)) (O ++ .gone :: PP.map .lst) := ap_frz rfl hf
  have hnew : dNewK true [some (.scr ns), some (.lst (L.map S)), some (.lst (Tn.map S)), some (.int (a : Int)), none, none, none, none] O = .ok (.loc O.length) (O ++ [.dic []]) := rfl
  have htr : trimR O (.ok (.dic (locK (O.length + 1) Tn)) (O ++ .gone :: PP.map .lst)) = .ok (.dic (locK (O.length + 1) Tn)) (O ++ .gone :: PP.map .lst) := by
    unfold trimR
    dsimp only
    rw [if_neg]
    rintro ⟨hb, _⟩
    cases Tn with
    | nil => cases ht
    | cons t Tn =>
      cases hb with
      | dic hb =>
        unfold locK at hb
        rw [List.zipIdx_cons, List.map_cons] at hb
        cases hb with
        | cons h _ =>
          cases h with
          | loc h => omega
  simp [dealt, mFn, startD, hnew, e1, rk, ef, hr, htr]
/-! ### paths that are copied -/
noncomputable def copied1 : DTS := (dPut (dVar 1) (dVar 2) (dCB (fList false) (dCons (dOp fIx (dVar 0) (dVar 2)) dNil)))
noncomputable def copied : List D → Sto → Res := mFn ["_law_paths", "_law_found", "_law_train"] (dSeq (dSet 1 (dNewK true))
  (dSeq (dForD 0 (pVar 0) (gN 2) copied1)
  (dRet (dFrz (dVar 1)))))
def lstOf (d : D) : List D := match d with
  | .lst ds => ds
  | _ => []
/-- the dict with lists of its own: each value a list that stands in the store, or is done with -/
def cpK (O : Sto) (kvs : List (Key × D)) : List (Key × D) := kvs.map fun kv => (kv.1, .lst (lstOf (look O kv.2)))
structure Lists (O : Sto) (kvs : List (Key × D)) : Prop where
  keys : (kvs.map (·.1)).Nodup
  str : ∀ kv ∈ kvs, ∃ t, kv.1 = .inr t
  lst : ∀ kv ∈ kvs, ∃ ds, (∀ R, look (O ++ R) kv.2 = .lst ds) ∧ ∀ d ∈ ds, isStep d = true
theorem Lists.at {O : Sto} {kvs : List (Key × D)} (h : Lists O kvs) {kv : Key × D} (hm : kv ∈ kvs) (R : Sto) : look (O ++ R) kv.2 = .lst (lstOf (look O kv.2)) := by
  obtain ⟨ds, h1, _⟩ := h.lst kv hm
  have h0 := h1 []
  rw [List.append_nil] at h0
  rw [h1 R, h0]
  rfl
theorem Lists.steps {O : Sto} {kvs : List (Key × D)} (h : Lists O kvs) {kv : Key × D} (hm : kv ∈ kvs) : ∀ d ∈ lstOf (look O kv.2), isStep d = true := by
  obtain ⟨ds, h1, h2⟩ := h.lst kv hm
  have h0 := h1 []
  rw [List.append_nil] at h0
  rw [h0]
  exact h2
theorem copied_ok {O : Sto} {kvs : List (Key × D)} (h : Lists O kvs) (hl : kvs.length < 1000) : copied [.dic kvs] O = .ok (.dic (cpK O kvs)) O := by
  have gen : ∀ (us vs : List (Key × D)) (x : Option D), vs ++ us = kvs → ∃ x', forL (dItems 0 kvs) none (gN 2) copied1 (dItems 0 us) [some (.dic kvs), some (.loc O.length), x] (O ++ [.dic (cpK O vs)]) = .nx [some (.dic kvs), some (.loc O.length), x'] (O ++ [.dic (cpK O kvs)]) := by
    intro us
    induction us with
    | nil =>
      intro vs x e
      rw [List.append_nil] at e
      subst e
      exact ⟨x, forL_nil (still_none.mpr trivial)⟩
    | cons kv us ih =>
      intro vs x e
      have hm : kv ∈ kvs := by rw [← e]; simp
      obtain ⟨t, ht⟩ := h.str kv hm
      obtain ⟨x', h2⟩ := ih (vs ++ [kv]) (some (.str t)) (by rw [List.append_assoc]; exact e)
      refine ⟨x', ?_⟩
      have hx : fIx (.dic kvs) (.str t) (O ++ [.dic (cpK O vs)]) = .ok kv.2 (O ++ [.dic (cpK O vs)]) := ix_dic rfl (by rw [← ht]; exact getK_self h.keys kv hm)
      have hv : (dCB (fList false) (dCons (dOp fIx (dVar 0) (dVar 2)) dNil)) [some (.dic kvs), some (.loc O.length), some (.str t)] (O ++ [.dic (cpK O vs)]) = .ok (.lst (lstOf (look O kv.2))) (O ++ [.dic (cpK O vs)]) := by
        simp only [ap_cb, ap_cons, ap_op, var_s, var_0, bind_ok, bindL_ok, lbindL_ok, lbind_ok, ap_nil, hx]
        unfold fList
        dsimp only
        rw [h.at hm]
        rfl
      have hlv : (cpK O vs).length < 1000000 := by
        have : vs.length ≤ kvs.length := by rw [← e]; simp
        simp [cpK]
        omega
      have hset : setK (cpK O vs) (.inr t) (.lst (lstOf (look O kv.2))) = cpK O (vs ++ [kv]) := by
        rw [setK_new]
        · unfold cpK
          rw [List.map_append]
          simp [ht]
        · intro kv' hkv' e'
          obtain ⟨kv2, h3, rfl⟩ := List.mem_map.mp hkv'
          have hn := h.keys
          rw [← e, List.map_append, List.nodup_append] at hn
          exact hn.2.2 kv2.1 (List.mem_map_of_mem h3) kv.1 (by simp) (by rw [ht]; exact e')
      have hb : copied1 [some (.dic kvs), some (.loc O.length), some (.str t)] (O ++ [.dic (cpK O vs)]) = .nx [some (.dic kvs), some (.loc O.length), some (.str t)] (O ++ [.dic (cpK O (vs ++ [kv]))]) := by
        unfold copied1
        refine put_ok hv rfl rfl ?_
        rw [put_mid hlv, hset]
      have hc : dItems 0 (kv :: us) = .str t :: dItems 0 us := by
        show kD kv.1 :: _ = _
        rw [ht]
        rfl
      rw [hc, forL_nx (still_none.mpr trivial) rfl hb]
      exact h2
  obtain ⟨x', e⟩ := gen kvs [] none rfl
  have hf : frz1 (.loc O.length) (O ++ [.dic (cpK O kvs)]) = some (.dic (cpK O kvs), O ++ [.gone]) := frz_last
  have hr : dFrz (dVar 1) [some (.dic kvs), some (.loc O.length), x'] (O ++ [.dic (cpK O kvs)]) = .ok (.dic (cpK O kvs)) (O ++ [.gone]) := ap_frz rfl hf
  have hnew : dNewK true [some (.dic kvs), none, none] O = .ok (.loc O.length) (O ++ [.dic []]) := rfl
  have hfor : dForD 0 (pVar 0) (gN 2) copied1 [some (.dic kvs), some (.loc O.length), none] (O ++ [.dic []]) = .nx [some (.dic kvs), some (.loc O.length), x'] (O ++ [.dic (cpK O kvs)]) := e
  simp [copied, mFn, startD, hnew, hfor, hr]
  exact trim_app (.dic (by
    have hb : ∀ vs : List (Key × D), (∀ kv ∈ vs, kv ∈ kvs) → BelowK O.length (cpK O vs) := by
      intro vs
      induction vs with
      | nil => exact fun _ => .nil
      | cons kv vs ih => exact fun hs => .cons (.lst (belowL_step (h.steps (hs kv (List.mem_cons_self ..))))) (ih fun x hx => hs x (List.mem_cons_of_mem _ hx))
    exact hb kvs fun _ h => h))
/-! ### the parts of a path; the dealt paths as a list of pairs -/
abbrev TPs := List (List Nat × List D)
def dicOf (TP : TPs) : List (Key × D) := TP.map fun p => (.inr (T p.1), .lst p.2)
theorem locK_lists {Tn : List (List Nat)} {PP : List (List D)} {L : List (List Nat)} (hn : Tn.Nodup) (hD : Dealt L Tn.length PP) (O : Sto) : Lists (O ++ .gone :: PP.map .lst) (locK (O.length + 1) Tn) where
  keys := by
    unfold locK
    rw [List.map_map]
    have : ∀ (Tn : List (List Nat)) n, (Tn.zipIdx n).map (fun p => (Sum.inr (T p.1) : Key)) = Tn.map fun t => (Sum.inr (T t) : Key) := fun Tn => by
      induction Tn with
      | nil => exact fun _ => rfl
      | cons t Tn ih => exact fun n => by rw [List.zipIdx_cons, List.map_cons, List.map_cons, ih]
    refine (this Tn _).symm ▸ ?_
    rw [List.nodup_iff_pairwise_ne, List.pairwise_map]
    exact hn.imp fun h e => h (T_inj (Sum.inr.inj e))
  str := fun kv hkv => by
    obtain ⟨p, _, rfl⟩ := List.mem_map.mp hkv
    exact ⟨_, rfl⟩
  lst := fun kv hkv => by
    obtain ⟨p, hp, rfl⟩ := List.mem_map.mp hkv
    obtain ⟨h1, h2, h3⟩ := List.mem_zipIdx hp
    have hj : p.2 - (O.length + 1) < PP.length := by rw [hD.len]; omega
    refine ⟨PP[p.2 - (O.length + 1)], fun R => ?_, fun d hd => ?_⟩
    · have e : ((O ++ .gone :: PP.map .lst) ++ R)[p.2]? = some (.lst PP[p.2 - (O.length + 1)]) := by
        rw [List.getElem?_append_left (by simp; omega)]
        have := get_in (O := O) (R := PP.map .lst) (o := .gone) (p.2 - (O.length + 1))
        rw [show O.length + 1 + (p.2 - (O.length + 1)) = p.2 by omega] at this
        rw [this, List.getElem?_map, List.getElem?_eq_getElem hj]
        rfl
      exact look_loc e
    · obtain ⟨l, _, h⟩ := hD.st _ (List.getElem_mem hj) d hd
      exact stepOf_step h
theorem cpK_dealt {Tn : List (List Nat)} {PP : List (List D)} (hlen : PP.length = Tn.length) (O : Sto) : cpK (O ++ .gone :: PP.map .lst) (locK (O.length + 1) Tn) = dicOf (Tn.zip PP) := by
  have gen : ∀ (us : List (List Nat)) (qs ps : List (List D)) (n : Nat), n = ps.length → qs.length = us.length → ps ++ qs = PP → cpK (O ++ .gone :: PP.map .lst) (locK (O.length + 1 + n) us) = dicOf (us.zip qs) := by
    intro us
    induction us with
    | nil => intro qs ps n hn hq e; rfl
    | cons u us ih =>
      intro qs ps n hn hq e
      cases qs with
      | nil => simp at hq
      | cons q qs =>
        have ih' := ih qs (ps ++ [q]) (n + 1) (by simp [hn]) (by simpa using hq) (by rw [List.append_assoc]; exact e)
        have hg : look (O ++ .gone :: PP.map .lst) (.loc (O.length + 1 + n)) = .lst q := by
          have e1 : (O ++ .gone :: PP.map .lst)[O.length + 1 + n]? = some (.lst q) := by
            rw [get_in, List.getElem?_map, ← e, List.getElem?_append_right (by omega), hn]
            simp
          simp [look, e1]
        unfold cpK locK dicOf at ih' ⊢
        rw [List.zipIdx_cons, List.map_cons, List.map_cons, List.zip_cons_cons, List.map_cons]
        refine congr (congrArg List.cons ?_) ih'
        show (Sum.inr (T u), D.lst (lstOf (look _ (.loc (O.length + 1 + n))))) = _
        rw [hg]
        rfl
  exact gen Tn PP [] 0 rfl hlen rfl
theorem dicOf_keys {TP : TPs} (h : (TP.map (·.1)).Nodup) : ((dicOf TP).map (·.1)).Nodup := by
  unfold dicOf
  rw [List.map_map]
  have : TP.map ((fun x : Key × D => x.1) ∘ fun p => (Sum.inr (T p.1), D.lst p.2)) = (TP.map (·.1)).map fun t => (Sum.inr (T t) : Key) := by rw [List.map_map]; rfl
  rw [this, List.nodup_iff_pairwise_ne, List.pairwise_map]
  exact List.Pairwise.imp (fun h e => h (T_inj (Sum.inr.inj e))) h
theorem dicOf_get {TP : TPs} (h : (TP.map (·.1)).Nodup) {p : List Nat × List D} (hp : p ∈ TP) : getK (dicOf TP) (.inr (T p.1)) = some (.lst p.2) :=
  getK_self (dicOf_keys h) _ (List.mem_map_of_mem (f := fun p : List Nat × List D => ((Sum.inr (T p.1) : Key), D.lst p.2)) hp)
noncomputable def partsOf : List D → Sto → Res := mFn ["steps", "step"] (dRet (dLc false [1] (srcSeq (dVar 0)) (gN 1) dYes (dOp fIx (dVar 1) (dC (.int 0)))))
theorem parts_comp {ds : List D} (h : ∀ d ∈ ds, ∃ l, stepOf l d) (hl : ds.length < 1000) {items : List D} {lk : Option (Nat × OD)} {O : Sto} (hs : Still lk O) {ρ : Env'} (i : Nat) (hi : i < ρ.length) :
    compL items lk (gN i) dYes (dOp fIx (dVar i) (dC (.int 0))) ρ ds [] O = .ok (ds.map hd) O := by
  have := compL_map (items := items) (lk := lk) (g := gN i) (tst := dYes) (elt := dOp fIx (dVar i) (dC (.int 0))) (ρ := ρ) (O := O) hs hd ds [] (fun x hx => by
    obtain ⟨l, hst⟩ := h x hx
    refine ⟨_, rfl, rfl, ?_⟩
    have e1 : dVar i (ρ.set i (some x)) O = .ok x O := by
      unfold dVar
      rw [List.getElem?_set_self hi]
    have e2 : fIx x (.int 0) O = .ok (hd x) O := by
      obtain ⟨e, o, j, rfl⟩ := hst
      exact ix_tup (by simp [atI, ixN]; rfl)
    rw [ap_op, e1, bind_ok, ap_c, bind_ok, e2]) (by simp; omega)
  rw [this, List.nil_append]
theorem partsOf_ok {ds : List D} (h : ∀ d ∈ ds, ∃ l, stepOf l d) (hl : ds.length < 1000) (O : Sto) : partsOf [.lst ds] O = .ok (.lst (ds.map hd)) O := by
  have := parts_comp h hl (items := ds) (lk := none) (O := O) (still_none.mpr trivial) (ρ := [some (.lst ds), none]) 1 (by simp)
  simp [partsOf, mFn, startD, this]
  refine trim_same (.lst (belowL_flat fun x hx => ?_))
  obtain ⟨d, hd', rfl⟩ := List.mem_map.mp hx
  obtain ⟨l, hst⟩ := h d hd'
  rw [stepOf_hd hst]
  rfl
/-- the first that holds a part -/
def inn (t : Str) (ds : List D) : Bool := inD (.str t) (ds.map hd)
def holderD (TP : TPs) (t : Str) : D := match TP.find? fun p => inn t p.2 with
  | some p => S p.1
  | none => .str ""
noncomputable def holder1 : DTS := (dIf (dVal (dOp fIn (dVar 1) (dCall partsOf [] (dCons (dOp fIx (dVar 0) (dVar 2)) dNil))))
  (dRet (dVar 2))
  dSkip)
noncomputable def holder : List D → Sto → Res := mFn ["paths", "part", "train"] (dSeq (dForD 0 (pVar 0) (gN 2) holder1)
  (dRet (dC (.str ""))))
theorem in_parts {ds : List D} (h : ∀ d ∈ ds, ∃ l, stepOf l d) (t : Str) (O : Sto) : fIn (.str t) (.lst (ds.map hd)) O = .ok (.bl (inn t ds)) O := by
  have hf : (ds.map hd).all flatD = true := by
    rw [List.all_eq_true]
    intro x hx
    obtain ⟨d, hd', rfl⟩ := List.mem_map.mp hx
    obtain ⟨l, hst⟩ := h d hd'
    rw [stepOf_hd hst]
    rfl
  have hr : inRes (.str t) (.lst (ds.map hd)) O = some (inn t ds) := by
    unfold inRes dGetD
    show (if flatD (.str t) = true ∧ ((ds.map hd).all flatD) = true then some (inD (.str t) (ds.map hd)) else none) = _
    rw [if_pos ⟨rfl, hf⟩]
    rfl
  unfold fIn
  rw [hr]
structure Good' (TP : TPs) : Prop where
  nd : (TP.map (·.1)).Nodup
  st : ∀ p ∈ TP, ∀ d ∈ p.2, ∃ l, stepOf l d
  sz : ∀ p ∈ TP, p.2.length < 1000
theorem holder_ok {TP : TPs} (g : Good' TP) (t : Str) (O : Sto) : holder [.dic (dicOf TP), .str t] O = .ok (holderD TP t) O := by
  have gen : ∀ (us vs : TPs) (x : Option D), vs ++ us = TP →
      (match us.find? fun p => inn t p.2 with
        | some p => forL (dItems 0 (dicOf TP)) none (gN 2) holder1 (dItems 0 (dicOf us)) [some (.dic (dicOf TP)), some (.str t), x] O = .rt (S p.1) O
        | none => ∃ x', forL (dItems 0 (dicOf TP)) none (gN 2) holder1 (dItems 0 (dicOf us)) [some (.dic (dicOf TP)), some (.str t), x] O = .nx [some (.dic (dicOf TP)), some (.str t), x'] O) := by
    intro us
    induction us with
    | nil => exact fun vs x _ => ⟨x, forL_nil (still_none.mpr trivial)⟩
    | cons p us ih =>
      intro vs x e
      have hm : p ∈ TP := by rw [← e]; simp
      have hx : fIx (.dic (dicOf TP)) (S p.1) O = .ok (.lst p.2) O := ix_dic rfl (dicOf_get g.nd hm)
      have hp := partsOf_ok (g.st p hm) (g.sz p hm) O
      have hc : dVal (dOp fIn (dVar 1) (dCall partsOf [] (dCons (dOp fIx (dVar 0) (dVar 2)) dNil))) [some (.dic (dicOf TP)), some (.str t), some (S p.1)] O = .ok (inn t p.2) O := by
        simp [hx, hp, in_parts (g.st p hm)]
      have hcons : dItems 0 (dicOf (p :: us)) = S p.1 :: dItems 0 (dicOf us) := rfl
      rw [hcons]
      cases hi : inn t p.2 with
      | true =>
        rw [List.find?_cons_of_pos (p := fun p : List Nat × List D => inn t p.2) hi]
        rw [hi] at hc
        exact forL_rt (still_none.mpr trivial) rfl ((if_t hc).trans rfl)
      | false =>
        rw [List.find?_cons_of_neg (p := fun p : List Nat × List D => inn t p.2) (by simp [hi])]
        rw [hi] at hc
        have hb : holder1 [some (.dic (dicOf TP)), some (.str t), some (S p.1)] O = .nx [some (.dic (dicOf TP)), some (.str t), some (S p.1)] O := (if_f hc).trans rfl
        rw [forL_nx (still_none.mpr trivial) rfl hb]
        exact ih (vs ++ [p]) (some (S p.1)) (by rw [List.append_assoc]; exact e)
  have h := gen TP [] none rfl
  unfold holderD
  cases z : TP.find? fun p => inn t p.2 with
  | some p =>
    rw [z] at h
    have hfor : dForD 0 (pVar 0) (gN 2) holder1 [some (.dic (dicOf TP)), some (.str t), none] O = .rt (S p.1) O := h
    simp [holder, mFn, startD, hfor]
    exact trim_same (.str _)
  | none =>
    rw [z] at h
    obtain ⟨x', h⟩ := h
    have hfor : dForD 0 (pVar 0) (gN 2) holder1 [some (.dic (dicOf TP)), some (.str t), none] O = .nx [some (.dic (dicOf TP)), some (.str t), x'] O := h
    simp [holder, mFn, startD, hfor]
end Yk.Pt

set_option Elab.async false
set_option linter.all false
set_option maxRecDepth 100000
set_option maxHeartbeats 2000000
/-! YkS: != of dicts. -/
namespace Yk
open PySem PySem.Spec PyProof.Rows L2 PySem.W
theorem ne_dicts {K : Type} [DecidableEq K] {prog : Program} {w : World} {knd : KeyKind prog w K} {A : Around} {s : Shared} {p q : Addr} {kp kq : List (K × Value)} {r : Bool} (hp : (p == sysModules) = false) (hq : (q == sysModules) = false)
    (dp : s.heap.DictOf knd p kp) (dq : s.heap.DictOf knd q kq) (hu : A.units < cLine) (hits : kp.length = kq.length → KeqHitsP prog w A.in1 s kq kp r) (E Q : Value → Shared → Prop) (h : Q (.bool (!(kp.length == kq.length && r))) s) : wpAny (model prog w) A (richCompare .NotEq (.ref p) (.ref q)) Q E s := by
  have body : wpAny (model prog w) A.in1 (Builtin.Dict.dictSlotArgs "__ne__" ⟨[.ref p, .ref q], []⟩) (fun v s' => v = (Value.ref p, Value.ref q) ∧ s' = s) E s := by
    unfold Builtin.Dict.dictSlotArgs
    exact wpAny_bind (wpAny_notOrdered_dict dp.typeIs (show wpAny _ _ (pure (Value.ref p, Value.ref q)) _ _ s from wpAny_pure ⟨rfl, rfl⟩))
  refine wpAny_richCompare_same_room (op := .NotEq) dp.typeIs dq.typeIs PySem.F.slot_dict_ne
    (wpAny_call_entry PySem.F.slot_dict_ne dp.typeIs PySem.F.entry_dict_ne ?_ (PySem.F.args_dict_ne_2 _ _)) hu
  show wpAny _ _ (Builtin.Dict.dictSlotArgs "__ne__" ⟨[.ref p, .ref q], []⟩ >>= _) _ _ s
  refine wpAny_bind (thn body fun v s' hv => ?_)
  obtain ⟨rfl, rfl⟩ := hv
  refine wpAny_bind (wpAny_isInstance (T := "dict") dq.typeIs PySem.F.sub_dict_dict ?_)
  simp only [if_false, Bool.false_eq_true, Bool.not_true]
  refine wpAny_bind (wpAny_pure (wpAny_bind (wpAny_pure (wpAny_bind (samePairsP hp hq dp dq hits ?_)))))
  exact wpAny_pure ⟨_, rfl, (fun x => nomatch x), by simpa using h⟩
def fNeZ (x y : D) (O : Sto) : Res := match deqD O x y with
  | some b => .ok (.bl (!b)) O
  | none => .stuck
def rNeZ (ca : Cn) : R2 := fun x y H Q => ∃ w O dx dy b, Ok ca w O H ∧ Rep ca w x dx ∧ Rep ca w y dy ∧ deqD O dx dy = some b ∧ Q (.bl (!b)) H
section
variable {ca : Cn} {X : Cx}
theorem op_neZ (hu : X.A.units + 64 < cLine) (hK : ca.K = X.K := by rfl) : OpR X (compareOp .NotEq) (rNeZ ca) := by
  intro pins s σ H x y v u Q I rx ry h
  obtain ⟨w, O, dx, dy, b, k, r1, r2, e, q⟩ := h
  unfold deqD at e
  split at e
  · rename_i ka kb e1 e2
    obtain ⟨a, va, rfl, hA, ra⟩ := look_dic k r1 e1
    obtain ⟨a', vb, rfl, hB, rb⟩ := look_dic k r2 e2
    cases rx
    cases ry
    obtain ⟨_, m1, ua, qa, da⟩ := dk_rd I.hok hA
    obtain ⟨_, m2, ub, qb, db⟩ := dk_rd I.hok hB
    have la : ua.length = ka.length := qa.length.symm.trans ra.length
    have lb : ub.length = kb.length := qb.length.symm.trans rb.length
    show wpAny (model X.prog X.w) X.A (richCompare .NotEq (.ref a) (.ref a')) _ _ s
    by_cases hl : ka.length = kb.length
    · rw [if_pos hl] at e
      refine ne_dicts m1 m2 da db (by omega) (fun _ => keq_hits I hK k (A := X.A.in1) (by show X.A.units + 1 + 45 < cLine; omega) rb qb ra qa e) _ _ ?_
      have : (ua.length == ub.length) = true := by rw [la, lb]; simpa using hl
      rw [this, Bool.true_and]
      exact ⟨.bl (!b), H, I, rfl, q⟩
    · rw [if_neg hl] at e
      cases e
      refine ne_dicts (r := true) m1 m2 da db (by omega) (fun h => absurd (by rw [← la, ← lb]; exact h) hl) _ _ ?_
      have : (ua.length == ub.length) = false := by rw [la, lb]; simpa using hl
      rw [this, Bool.false_and]
      exact ⟨.bl true, H, I, rfl, q⟩
  · exact op_neY hu hK pins s σ H x y v u Q I rx ry ⟨w, O, dx, dy, b, k, r1, r2, e, q⟩
theorem ops_neZ : OpS ca (rNeZ ca) fNeZ := fun w O H x y dx dy W σ Q k r1 r2 h => by
  unfold fNeZ at h
  cases z : deqD O dx dy with
  | none => rw [z] at h; exact h.elim
  | some b =>
    rw [z] at h
    exact ⟨w, O, dx, dy, b, k, r1, r2, z, post_ok k (.bl (!b)) h⟩
end
theorem neZ_self {O : Sto} {kvs : List (Key × D)} {x y : D} (h1 : look O x = .dic kvs) (h2 : look O y = .dic kvs) (hn : (kvs.map (·.1)).Nodup) (hv : ∀ kv ∈ kvs, deqV O kv.2 kv.2 = some true) : fNeZ x y O = .ok (.bl false) O := by
  unfold fNeZ deqD
  rw [h1, h2]
  dsimp only
  rw [if_pos rfl, eqKs_all fun kv hkv => ⟨kv.2, getK_self hn kv hkv, hv kv hkv⟩]
  rfl
end Yk

set_option Elab.async false
set_option linter.all false
set_option maxRecDepth 100000
set_option maxHeartbeats 2000000
/-! YkT: list(d), list(range(..)), in over things that are no flat data, d.pop. -/
namespace Yk
open PySem PySem.Spec PyProof.Rows L2
section
variable {ca : Cn} {W : WX} {X : Cx} {a b e o : Expr} {es : List Expr} {ma mb mo : DTE} {mr : DTA} {pos : Pos}
theorem CallR.either {f : Value} {r1 r2 : List V → Hp → VK → Prop} (h1 : CallR X f r1) (h2 : CallR X f r2) : CallR X f fun xs H Q => r1 xs H Q ∨ r2 xs H Q := fun pins s σ H xs us Q I r h => by
  rcases h with h | h
  · exact h1 pins s σ H xs us Q I r h
  · exact h2 pins s σ H xs us Q I r h
/-! ### list(d) -/
def fListK (own : Bool) (xs : List D) (O : Sto) : Res := match xs with
  | [x] => (match look O x with
    | .dic kvs => mkL own (kvs.map fun kv => kD kv.1) O
    | _ => .stuck)
  | _ => .stuck
abbrev rListK : List V → Hp → VK → Prop := fun xs H Q => ∃ (a : Addr) (kvs : List (Key × V)), xs = [.ref a] ∧ Rd H a (.dK kvs) ∧ ∀ p, H p = none → Q (.ref p) (upd H p (.lst (kvs.map fun kv => kV kv.1)))
theorem repL_keys {w : Wd} : ∀ {vs : List (Key × V)} {ds : List (Key × D)}, RepK ca w vs ds → RepL ca w (vs.map fun kv => kV kv.1) (ds.map fun kv => kD kv.1)
  | _, _, .nil => .nil
  | _, _, .cons (k := k) _ r => .cons (kD_rep k) (repL_keys r)
theorem cs_listK (own : Bool) : CallS ca rListK (fListK own) := fun w O H xs ds W σ Q k r h => by
  unfold fListK at h
  split at h
  · rename_i d
    obtain ⟨v, rfl, r1⟩ := one_rep r
    split at h
    · rename_i ds e1
      obtain ⟨q, vs, rfl, hp, rl⟩ := look_dic k r1 e1
      exact ⟨q, vs, rfl, hp, fun l hl => post_mkL k (repL_keys rl) h hl⟩
    · exact h.elim
  · exact h.elim
/-! ### list(range(..)) -/
def lrg (own : Bool) (i j : Int) (O : Sto) : Res := if (-(2 ^ 61) ≤ i ∧ i ≤ 2 ^ 61) ∧ (-(2 ^ 61) ≤ j ∧ j ≤ 2 ^ 61) ∧ (j - i).toNat ≤ 100000 then mkL own (rangeD i (j - i).toNat) O else .stuck
def fLR1 (own : Bool) (x : D) (O : Sto) : Res := match x with
  | .int j => lrg own 0 j O
  | _ => .stuck
def fLR2 (own : Bool) (x y : D) (O : Sto) : Res := match x, y with
  | .int i, .int j => lrg own i j O
  | _, _ => .stuck
theorem rep_rg {w : Wd} (i j : Int) : RepL ca w (rgV i j) (rangeD i (j - i).toNat) := by
  unfold rgV rangeD
  generalize List.range (j - i).toNat = l
  induction l with
  | nil => exact .nil
  | cons n l ih => exact .cons (.int _) ih
theorem lrg_ok {w : Wd} {O : Sto} {H : Hp} {own : Bool} {i j : Int} {σ : L2.St} {Q : VK} (k : Ok ca w O H) (h : Post ca w W σ Q (lrg own i j O)) : RgOk i j ∧ ∀ q, H q = none → Q (.ref q) (upd H q (.lst (rgV i j))) := by
  unfold lrg at h
  by_cases c : (-(2 ^ 61) ≤ i ∧ i ≤ 2 ^ 61) ∧ (-(2 ^ 61) ≤ j ∧ j ≤ 2 ^ 61) ∧ (j - i).toNat ≤ 100000
  · rw [if_pos c] at h
    refine ⟨⟨by omega, by omega, by omega, by omega, by omega⟩, fun q hq => post_mkL k (rep_rg i j) h hq⟩
  · rw [if_neg c] at h
    exact h.elim
theorem de_lrg1 (own : Bool) {p p2 pos2 : Pos} (hc : X.calm = true) (hg : Gl X "list") (hm : X.mg "list" = none) (hg2 : Gl X "range") (hm2 : X.mg "range" = none) (ha : DE ca W X a ma) (na : starEach [a] X.env = (false, eval a X.env) :: starEach [] X.env := by rfl)
    (na2 : starEach [.Call (.Name "range" p2) [a] [] pos2] X.env = (false, eval (.Call (.Name "range" p2) [a] [] pos2) X.env) :: starEach [] X.env := by rfl) : DE ca W X (.Call (.Name "list" p) [.Call (.Name "range" p2) [a] [] pos2] [] pos) (dUn (fLR1 own) ma) := by
  obtain ⟨ta, pa, sa⟩ := ha
  refine ⟨_, pe_listRg hc hg hm (prg_1 hg2 hm2 pa na) na2, fun w O H σ ρ Q k re h => ?_⟩
  refine sa w O H σ ρ _ k re (Post.bind h fun x O1 v w1 H1 l1 k1 r1 h1 => ?_)
  cases r1 with
  | int i => exact ⟨i, rfl, lrg_ok k1 h1⟩
  | _ => exact h1.elim
theorem de_lrg2 (own : Bool) {p p2 pos2 : Pos} (hc : X.calm = true) (hg : Gl X "list") (hm : X.mg "list" = none) (hg2 : Gl X "range") (hm2 : X.mg "range" = none) (ha : DE ca W X a ma) (hb : DE ca W X b mb) (na : starEach [a, b] X.env = (false, eval a X.env) :: starEach [b] X.env := by rfl) (nb : starEach [b] X.env = (false, eval b X.env) :: starEach [] X.env := by rfl)
    (hp : (backTo pos2 (starEach [b] X.env)).any (·.1) = false := by rfl) (na2 : starEach [.Call (.Name "range" p2) [a, b] [] pos2] X.env = (false, eval (.Call (.Name "range" p2) [a, b] [] pos2) X.env) :: starEach [] X.env := by rfl) : DE ca W X (.Call (.Name "list" p) [.Call (.Name "range" p2) [a, b] [] pos2] [] pos) (dOp (fLR2 own) ma mb) := by
  obtain ⟨ta, pa, sa⟩ := ha
  obtain ⟨tb, pb, sb⟩ := hb
  refine ⟨_, pe_listRg hc hg hm (prg_2 hg2 hm2 pa pb na nb hp) na2, fun w O H σ ρ Q k re h => ?_⟩
  refine sa w O H σ ρ _ k re (Post.bind h fun x O1 v w1 H1 l1 k1 r1 h1 => ?_)
  refine sb w1 O1 H1 σ ρ _ k1 (re.mono l1) (Post.bind h1 fun y O2 u w2 H2 l2 k2 r2 h2 => ?_)
  cases r1 with
  | int i =>
    cases r2 with
    | int j => exact ⟨i, j, rfl, rfl, lrg_ok k2 h2⟩
    | _ => exact h2.elim
  | _ => cases r2 <;> exact h2.elim
/-! ### in, by == of the things -/
def anyEq (x : D) : List D → Option Bool
  | [] => some false
  | d :: ds => match deqN 40 d x, anyEq x ds with
    | some a, some b => some (a || b)
    | _, _ => none
def inY (x y : D) (O : Sto) : Option Bool := match inRes x y O with
  | some b => some b
  | none => match look O y with
    | .lst ds => anyEq x ds
    | .tup ds => anyEq x ds
    | _ => none
def fInY (x y : D) (O : Sto) : Res := match inY x y O with
  | some b => .ok (.bl b) O
  | none => .stuck
def fNotInY (x y : D) (O : Sto) : Res := match inY x y O with
  | some b => .ok (.bl (!b)) O
  | none => .stuck
theorem anyEq_each {x : D} : ∀ {ds : List D} {b : Bool}, anyEq x ds = some b → (∀ d ∈ ds, ∃ c, deqN 40 d x = some c) ∧ (b = true → ∃ d ∈ ds, deqN 40 d x = some true) ∧ (b = false → ∀ d ∈ ds, deqN 40 d x = some false)
  | [], b, h => by
    cases h
    exact ⟨by simp, fun z => (nomatch z), by simp⟩
  | d :: ds, b, h => by
    unfold anyEq at h
    split at h
    · rename_i p q e1 e2
      cases h
      obtain ⟨i1, i2, i3⟩ := anyEq_each e2
      refine ⟨fun z hz => ?_, fun hb => ?_, fun hb => ?_⟩
      · rcases List.mem_cons.mp hz with rfl | hz
        · exact ⟨p, e1⟩
        · exact i1 z hz
      · cases p with
        | true => exact ⟨d, List.mem_cons_self .., e1⟩
        | false =>
          obtain ⟨z, hz, e⟩ := i2 (by simpa using hb)
          exact ⟨z, List.mem_cons_of_mem _ hz, e⟩
      · rw [Bool.or_eq_false_iff] at hb
        intro z hz
        rcases List.mem_cons.mp hz with rfl | hz
        · rw [e1, hb.1]
        · exact i3 hb.2 z hz
    · cases h
open Classical in
/-- a test for the items: true at what is equal for sure -/
noncomputable def tst (A : Around) (s : Shared) (x : Value) (b : Bool) (y : Value) : Bool := if b = true then decide (SeqAt.EqAt A s y x true) else false
open Classical in
theorem tst_any {A : Around} {s : Shared} {x : Value} {b : Bool} {items : Array Value} (h1 : ∀ y, y ∈ items → ∃ c, SeqAt.EqAt A s y x c) (h2 : b = true → ∃ y, y ∈ items ∧ SeqAt.EqAt A s y x true) (h3 : b = false → ∀ y, y ∈ items → SeqAt.EqAt A s y x false) :
    (∀ y, y ∈ items → SeqAt.EqAt A s y x (tst A s x b y)) ∧ items.any (tst A s x b) = b := by
  cases b with
  | false => exact ⟨fun y hy => h3 rfl y hy, by rw [Array.any_eq_false]; intro i hi; simp [tst]⟩
  | true =>
    refine ⟨fun y hy => ?_, ?_⟩
    · obtain ⟨c, hc⟩ := h1 y hy
      unfold tst
      rw [if_pos rfl]
      by_cases z : SeqAt.EqAt A s y x true
      · rw [decide_eq_true z]; exact z
      · rw [decide_eq_false z]
        cases c with
        | true => exact absurd hc z
        | false => exact hc
    · obtain ⟨y, hy, z⟩ := h2 rfl
      rw [Array.any_eq_true]
      obtain ⟨i, hi, e⟩ := Array.mem_iff_getElem.mp hy
      refine ⟨i, hi, ?_⟩
      unfold tst
      rw [if_pos rfl, e, decide_eq_true z]
abbrev rAnyE (ca : Cn) (neg : Bool) : R2 := fun x y H Q => ∃ w O dx ds b p vs, Ok ca w O H ∧ Rep ca w x dx ∧ y = .ref p ∧ (SqL ca.K H p vs ∨ H p = some (.tup vs)) ∧ RepL ca w vs ds ∧ anyEq dx ds = some b ∧ Q (.bl (if neg then !b else b)) H
theorem RepL.memV {w : Wd} : ∀ {vs : List V} {ds : List D}, RepL ca w vs ds → (∀ v ∈ vs, ∃ d ∈ ds, Rep ca w v d) ∧ ∀ d ∈ ds, ∃ v ∈ vs, Rep ca w v d
  | _, _, .nil => ⟨by simp, by simp⟩
  | _, _, .cons h r => by
    obtain ⟨i1, i2⟩ := RepL.memV r
    refine ⟨fun v hv => ?_, fun d hd => ?_⟩
    · rcases List.mem_cons.mp hv with rfl | hv
      · exact ⟨_, List.mem_cons_self .., h⟩
      · obtain ⟨d, h1, h2⟩ := i1 v hv
        exact ⟨d, List.mem_cons_of_mem _ h1, h2⟩
    · rcases List.mem_cons.mp hd with rfl | hd
      · exact ⟨_, List.mem_cons_self .., h⟩
      · obtain ⟨v, h1, h2⟩ := i2 d hd
        exact ⟨v, List.mem_cons_of_mem _ h1, h2⟩
theorem Vals.memV : ∀ {vs : List V} {us : List Value}, Vals vs us → (∀ u ∈ us, ∃ v ∈ vs, RelV v u) ∧ ∀ v ∈ vs, ∃ u ∈ us, RelV v u
  | _, _, .nil => ⟨by simp, by simp⟩
  | _, _, .cons h r => by
    obtain ⟨i1, i2⟩ := Vals.memV r
    refine ⟨fun v hv => ?_, fun d hd => ?_⟩
    · rcases List.mem_cons.mp hv with rfl | hv
      · exact ⟨_, List.mem_cons_self .., h⟩
      · obtain ⟨d, h1, h2⟩ := i1 v hv
        exact ⟨d, List.mem_cons_of_mem _ h1, h2⟩
    · rcases List.mem_cons.mp hd with rfl | hd
      · exact ⟨_, List.mem_cons_self .., h⟩
      · obtain ⟨v, h1, h2⟩ := i2 d hd
        exact ⟨v, List.mem_cons_of_mem _ h1, h2⟩
theorem items_tst {w : Wd} {O : Sto} {H : Hp} {pins : List (Addr × Obj)} {σ : L2.St} {s : Shared} (I : Inv X pins σ H s) (hK : ca.K = X.K) (k : Ok ca w O H) (hu : X.A.units + 64 < cLine) {x : V} {u : Value} {dx : D} {ds : List D} {b : Bool} {vs : List V} {its : List Value} (rx : Rep ca w x dx) (qx : RelV x u) (rl : RepL ca w vs ds) (ql : Vals vs its) (h : anyEq dx ds = some b) :
    (∀ y, y ∈ its.toArray → SeqAt.EqAt X.A.in1 s y u (tst X.A.in1 s u b y)) ∧ its.toArray.any (tst X.A.in1 s u b) = b := by
  obtain ⟨e1, e2, e3⟩ := anyEq_each h
  have one : ∀ (v : V) (y : Value) (d : D) (c : Bool), Rep ca w v d → RelV v y → deqN 40 d dx = some c → SeqAt.EqAt X.A.in1 s y u c := fun v y d c h1 h2 h3 =>
    eq_at I hK k 40 X.A.in1 (by show X.A.units + 1 + 40 < cLine; omega) _ _ _ _ _ _ _ h1 rx h2 qx h3
  refine tst_any (fun y hy => ?_) (fun hb => ?_) (fun hb y hy => ?_)
  · obtain ⟨v, hv, h1⟩ := (Vals.memV ql).1 y (by simpa using hy)
    obtain ⟨d, hd, h2⟩ := (RepL.memV rl).1 v hv
    obtain ⟨c, hc⟩ := e1 d hd
    exact ⟨c, one v y d c h2 h1 hc⟩
  · obtain ⟨d, hd, hc⟩ := e2 hb
    obtain ⟨v, hv, h2⟩ := (RepL.memV rl).2 d hd
    obtain ⟨y, hy, h1⟩ := (Vals.memV ql).2 v hv
    exact ⟨y, by simpa using hy, one v y d true h2 h1 hc⟩
  · obtain ⟨v, hv, h1⟩ := (Vals.memV ql).1 y (by simpa using hy)
    obtain ⟨d, hd, h2⟩ := (RepL.memV rl).1 v hv
    exact one v y d false h2 h1 (e3 hb d hd)
theorem op_inE (hu : X.A.units + 64 < cLine) (hK : ca.K = X.K := by rfl) : OpR X (compareOp .In) (rAnyE ca false) := by
  intro pins s σ H x y v u Q I rx ry h
  obtain ⟨w, O, dx, ds, b, p, vs, k, r1, rfl, hp, rl, e, q⟩ := h
  cases ry
  rcases hp with hp | hp
  · obtain ⟨its, a1, a2, _⟩ := I.list (hK ▸ hp)
    obtain ⟨t1, t2⟩ := items_tst I hK k hu r1 rx rl a1 e
    exact SeqAt.in_listAt _ a2.isList t1 (by rw [t2]; exact ⟨.bl b, H, I, rfl, q⟩)
  · obtain ⟨its, a1, a2, _⟩ := I.tuple (.inl (.inl hp))
    obtain ⟨t1, t2⟩ := items_tst I hK k hu r1 rx rl a1 e
    exact SeqAt.in_tupleAt _ a2 t1 (by rw [t2]; exact ⟨.bl b, H, I, rfl, q⟩)
theorem op_notinE (hu : X.A.units + 64 < cLine) (hK : ca.K = X.K := by rfl) : OpR X (compareOp .NotIn) (rAnyE ca true) := by
  intro pins s σ H x y v u Q I rx ry h
  obtain ⟨w, O, dx, ds, b, p, vs, k, r1, rfl, hp, rl, e, q⟩ := h
  cases ry
  rcases hp with hp | hp
  · obtain ⟨its, a1, a2, _⟩ := I.list (hK ▸ hp)
    obtain ⟨t1, t2⟩ := items_tst I hK k hu r1 rx rl a1 e
    exact SeqAt.notIn_listAt _ a2.isList t1 (by rw [t2]; exact ⟨.bl (!b), H, I, rfl, q⟩)
  · obtain ⟨its, a1, a2, _⟩ := I.tuple (.inl (.inl hp))
    obtain ⟨t1, t2⟩ := items_tst I hK k hu r1 rx rl a1 e
    exact SeqAt.notIn_tupleAt _ a2 t1 (by rw [t2]; exact ⟨.bl (!b), H, I, rfl, q⟩)
def fAny (neg : Bool) (x y : D) (O : Sto) : Res := match (match look O y with
    | .lst ds => anyEq x ds
    | .tup ds => anyEq x ds
    | _ => none) with
  | some b => .ok (.bl (if neg then !b else b)) O
  | none => .stuck
theorem ops_any (neg : Bool) : OpS ca (rAnyE ca neg) (fAny neg) := fun w O H x y dx dy W σ Q k r1 r2 h => by
  unfold fAny at h
  split at h
  · rename_i b z
    split at z
    · rename_i ds e1
      obtain ⟨p, vs, rfl, hp, rl⟩ := look_lst k r2 e1
      exact ⟨w, O, dx, ds, b, p, vs, k, r1, rfl, .inl hp, rl, z, post_ok k (.bl _) h⟩
    · rename_i ds e1
      obtain ⟨p, vs, rfl, hp, _, rl⟩ := look_tup k r2 e1
      exact ⟨w, O, dx, ds, b, p, vs, k, r1, rfl, .inr hp, rl, z, post_ok k (.bl _) h⟩
    · cases z
  · exact h.elim
/-! ### d.pop -/
def dropD (kvs : List (Key × D)) (k : Key) : List (Key × D) := kvs.filter fun kv => decide (kv.1 ≠ k)
def fDPop (x key : D) (O : Sto) : Res := match ownK O x, keyD key with
  | some (n, ds), some k => (match getK ds k with
    | some d => .ok d (O.set n (.dic (dropD ds k)))
    | none => .stuck)
  | _, _ => .stuck
def dDPop1 (md mk : DTE) : DTE := fun ρ O => (md ρ O).bind fun x O1 => if isDc O1 x = true then (mk ρ O1).bind fun y O2 => fDPop x y O2 else .stuck
def fDPopD (x key dflt : D) (O : Sto) : Res := match ownK O x, keyD key with
  | some (n, ds), some k => (match getK ds k with
    | some d => .ok d (O.set n (.dic (dropD ds k)))
    | none => .ok dflt O)
  | _, _ => .stuck
def dDPop2 (md mk mx : DTE) : DTE := fun ρ O => (md ρ O).bind fun x O1 => if isDc O1 x = true then (mk ρ O1).bind fun y O2 => (mx ρ O2).bind fun z O3 => fDPopD x y z O3 else .stuck
theorem keyD_repV {w : Wd} {v : V} {d : D} {k : Key} (r : Rep ca w v d) (h : keyD d = some k) : v = kV k := by
  cases r <;> first | (cases h; rfl) | cases h
theorem de_dpop1 {mk : DTE} {apos : Pos} (ho : DE ca W X o mo) (he : DE ca W X e mk) (m : M1 X o "pop" apos e pos) : DE ca W X (.Call (.Attribute o "pop" apos) [e] [] pos) (dDPop1 mo mk) := by
  obtain ⟨to, po, so⟩ := ho
  obtain ⟨te, pe, se⟩ := he
  refine ⟨_, pe_dpop1 po pe m, fun w O H σ ρ Q k re h => ?_⟩
  refine so w O H σ ρ _ k re (Post.bind h fun d O1 v w1 H1 l1 k1 r1 h1 => ?_)
  obtain ⟨c, h1⟩ := post_if h1
  obtain ⟨a, ea, hd⟩ := isDc_rep k1 r1 c
  refine ⟨a, ea, hd, ?_⟩
  refine se w1 O1 H1 σ ρ _ k1 (re.mono l1) (Post.bind h1 fun d2 O2 v2 w2 H2 l2 k2 r2 h2 => ?_)
  unfold fDPop at h2
  split at h2
  · rename_i n ds key q1 q2
    obtain ⟨p, vs, e1, hA, hO, hH, rk⟩ := ownK_rep k2 (r1.mono l2) q1
    rw [ea] at e1
    cases e1
    split at h2
    · rename_i dd q3
      have g := getK_rep key rk
      rw [q3] at g
      cases z : valV vs key with
      | none => rw [z] at g; exact g.elim
      | some vv =>
        rw [z] at g
        have k3 := k2.setO hA hO (fun z => nomatch z) (k2.lkFree hH rfl) (.dic (repK_drop key rk))
        exact ⟨vs, key, vv, hH, keyD_repV r2 q2, z, h2 vv w2 _ (Wd.le.refl w2) k3 g⟩
    · exact h2.elim
  · exact h2.elim
theorem de_dpop2 {f : Expr} {mk mx : DTE} {apos : Pos} (ho : DE ca W X o mo) (he : DE ca W X e mk) (hf : DE ca W X f mx) (m : M2 X o "pop" apos e f pos) : DE ca W X (.Call (.Attribute o "pop" apos) [e, f] [] pos) (dDPop2 mo mk mx) := by
  obtain ⟨to, po, so⟩ := ho
  obtain ⟨te, pe, se⟩ := he
  obtain ⟨tf, pf, sf⟩ := hf
  refine ⟨_, pe_dpop2 po pe pf m, fun w O H σ ρ Q k re h => ?_⟩
  refine so w O H σ ρ _ k re (Post.bind h fun d O1 v w1 H1 l1 k1 r1 h1 => ?_)
  obtain ⟨c, h1⟩ := post_if h1
  obtain ⟨a, ea, hd⟩ := isDc_rep k1 r1 c
  refine ⟨a, ea, hd, ?_⟩
  refine se w1 O1 H1 σ ρ _ k1 (re.mono l1) (Post.bind h1 fun d2 O2 v2 w2 H2 l2 k2 r2 h2 => ?_)
  refine sf w2 O2 H2 σ ρ _ k2 (re.mono (l1.trans l2)) (Post.bind h2 fun d3 O3 v3 w3 H3 l3 k3 r3 h3 => ?_)
  unfold fDPopD at h3
  split at h3
  · rename_i n ds key q1 q2
    obtain ⟨p, vs, e1, hA, hO, hH, rk⟩ := ownK_rep k3 (r1.mono (l2.trans l3)) q1
    rw [ea] at e1
    cases e1
    have g := getK_rep key rk
    refine ⟨vs, key, hH, keyD_repV r2 q2, fun vv z => ?_, fun z => ?_⟩
    · rw [z] at g
      cases q3 : getK ds key with
      | none => rw [q3] at g; exact g.elim
      | some dd =>
        rw [q3] at g h3
        have k4 := k3.setO hA hO (fun z => nomatch z) (k3.lkFree hH rfl) (.dic (repK_drop key rk))
        exact h3 vv w3 _ (Wd.le.refl w3) k4 g
    · rw [z] at g
      cases q3 : getK ds key with
      | some _ => rw [q3] at g; exact g.elim
      | none =>
        rw [q3] at h3
        exact post_ok k3 r3 h3
  · exact h3.elim
end
end Yk

set_option Elab.async false
set_option linter.all false
set_option maxRecDepth 100000
set_option maxHeartbeats 2000000
/-! YkU: how far a path is given back; paths shortened. -/
namespace Yk.Gb
open PySem PySem.Spec PyProof.Rows L2 Yk Yk.Nm Yk.Pt
/-- a list, frozen or of the store, that can be walked -/
structure IsSeq (O : Sto) (d : D) (ps : List D) : Prop where
  look : look O d = .lst ps
  walk : ∃ lk, seqK d O = .ok ps lk O ∧ Still lk O
theorem IsSeq.lst {O : Sto} {ps : List D} : IsSeq O (.lst ps) ps := ⟨rfl, none, rfl, still_none.mpr trivial⟩
theorem IsSeq.loc {O : Sto} {n : Nat} {ps : List D} (h : O[n]? = some (.lst ps)) : IsSeq O (.loc n) ps := ⟨look_loc h, _, seqK_loc h, h⟩
/-- a step: its first is a text -/
def isSt (d : D) : Prop := ∃ t r, d = .tup (.str t :: r)
theorem isSt_of {l : List Nat} {d : D} (h : stepOf l d) : isSt d := by
  obtain ⟨e, o, i, rfl⟩ := h
  exact ⟨_, _, rfl⟩
/-- eyes: a dict of truths -/
def okSeen (kvs : List (Key × D)) : Prop := (kvs.map (·.1)).Nodup ∧ ∀ kv ∈ kvs, ∃ b, kv.2 = .bl b
def sv (kvs : List (Key × D)) (t : Str) : Bool := match getK kvs (.inr t) with
  | some (.bl b) => b
  | _ => false
def pd (kvs : List (Key × D)) (d : D) : Bool := match d with
  | .tup (.str t :: _) => sv kvs t
  | _ => false
theorem getB_sv {kvs : List (Key × D)} (ok : okSeen kvs) (t : Str) : getB kvs (.inr t) (.bl false) = .bl (sv kvs t) := by
  unfold getB sv
  cases z : getK kvs (.inr t) with
  | none => rfl
  | some d =>
    obtain ⟨b, e⟩ := ok.2 _ (getK_mem z)
    have e' : d = .bl b := e
    rw [e']
    rfl
def du (bs : List Bool) (n : Nat) : Nat → List Bool → Nat
  | i, [] => i
  | i, b :: r => if (b || !((bs.drop (i + n)).any id)) = true then i else du bs n (i + 1) r
/-- how many go -/
def gone (kvs : List (Key × D)) (ps : List D) (n : Nat) : Nat := du (ps.map (pd kvs)) n 0 (ps.map (pd kvs))
noncomputable def told1 : DTS := (dIf (dVal (dGet2 (dVar 2) (dOp fIx (dVar 3) (dC (.int 0))) (dC (.bl false))))
  (dRet (dC (.bl true)))
  dSkip)
noncomputable def told : List D → Sto → Res := mFn ["path", "place", "seen", "step"] (dSeq (dFor (srcSeq (dSl false (dVar 0) (dPart (dVar 1)) dNoP)) (gN 3) told1)
  (dRet (dC (.bl false))))
noncomputable def back1 : DTS := (dSeq (dIf (dOrT (dVal (dGet2 (dVar 2) (dOp fIx (dVar 4) (dC (.int 0))) (dC (.bl false)))) (dNotT (dVal (dCall told [] (dCons (dVar 0) (dCons (dOp (fAdd false) (dVar 3) (dVar 1)) (dCons (dVar 2) dNil)))))))
  dBreak
  dSkip)
  (dAug 3 fAddI (dC (.int 1))))
noncomputable def back : List D → Sto → Res := mFn ["path", "length", "seen", "many", "step"] (dSeq (dSet 3 (dC (.int 0)))
  (dSeq (dFor (srcSeq (dVar 0)) (gN 4) back1)
  (dRet (dVar 3))))
section
variable {O : Sto} {kvs : List (Key × D)} {ps : List D} {dp ds : D}
theorem told_ok (ok : okSeen kvs) (hs : look O ds = .dic kvs) (hd : look O dp = .lst ps) (hp : ∀ d ∈ ps, isSt d) (place : Nat) :
    told [dp, .int (place : Int), ds] O = .ok (.bl ((ps.drop place).any (pd kvs))) O := by
  have hsl : dSl false (dVar 0) (dPart (dVar 1)) dNoP [some dp, some (.int (place : Int)), some ds, none] O = .ok (.lst (ps.drop place)) O := sl_from (d := dp) rfl rfl hd
  have lp := forL_find (items := ps.drop place) (lk := none) (g := gN 3) (body := told1) (O := O) (still_none.mpr trivial) (pd kvs) (.bl true) (fun ρ => ∃ x, ρ = [some dp, some (.int (place : Int)), some ds, x]) (ps.drop place)
    [some dp, some (.int (place : Int)), some ds, none] ⟨none, rfl⟩ (fun d hd ρ hI => by
      obtain ⟨x, rfl⟩ := hI
      obtain ⟨t, r, rfl⟩ := hp d (List.mem_of_mem_drop hd)
      refine ⟨_, rfl, ?_⟩
      have h0 : fIx (.tup (.str t :: r)) (.int 0) O = .ok (.str t) O := ix_tup (by simp [atI, ixN])
      have hd := isDc_dic hs
      have hg : fGet ds (.str t) (.bl false) O = .ok (.bl (sv kvs t)) O := by rw [get2_dic hs, getB_sv ok]
      have hc : dVal (dGet2 (dVar 2) (dOp fIx (dVar 3) (dC (.int 0))) (dC (.bl false))) [some dp, some (.int (place : Int)), some ds, some (.tup (.str t :: r))] O = .ok (sv kvs t) O := by
        simp [h0, hd, hg]
      have hpd : pd kvs (.tup (.str t :: r)) = sv kvs t := rfl
      rw [hpd]
      unfold told1
      cases hs : sv kvs t with
      | true =>
        rw [if_pos rfl]
        rw [hs] at hc
        exact (if_t hc).trans rfl
      | false =>
        rw [if_neg Bool.false_ne_true]
        rw [hs] at hc
        exact ⟨_, (if_f hc).trans rfl, _, rfl⟩)
  by_cases ha : ((ps.drop place).any (pd kvs)) = true
  · rw [if_pos ha] at lp
    rw [ha]
    simp [told, mFn, startD, hsl, lp]
  · rw [if_neg ha] at lp
    obtain ⟨ρ2, e2, _⟩ := lp
    rw [Bool.eq_false_iff.mpr ha]
    simp [told, mFn, startD, hsl, e2]
abbrev genv (dp : D) (n : Nat) (ds : D) (i : Nat) (x : Option D) : Env' := [some dp, some (.int (n : Int)), some ds, some (.int (i : Int)), x]
theorem back_loop (ok : okSeen kvs) (hs : look O ds = .dic kvs) (hd : look O dp = .lst ps) (hp : ∀ d ∈ ps, isSt d) (n : Nat) (xs : List D) {lk : Option (Nat × OD)} (hst : Still lk O) :
    ∀ (rest : List D) (i : Nat) (x : Option D), (∀ d ∈ rest, isSt d) → ∃ x', forL xs lk (gN 4) back1 rest (genv dp n ds i x) O = .nx (genv dp n ds (du (ps.map (pd kvs)) n i (rest.map (pd kvs))) x') O
  | [], i, x, _ => ⟨x, forL_nil hst⟩
  | d :: rest, i, x, hr => by
    obtain ⟨t, r, rfl⟩ := hr d (List.mem_cons_self ..)
    have h0 : fIx (.tup (.str t :: r)) (.int 0) O = .ok (.str t) O := ix_tup (by simp [atI, ixN])
    have hdc := isDc_dic hs
    have hg : fGet ds (.str t) (.bl false) O = .ok (.bl (sv kvs t)) O := by rw [get2_dic hs, getB_sv ok]
    have ht := told_ok ok hs hd hp (i + n)
    have hcast : ((i : Int) + (n : Int)) = ((i + n : Nat) : Int) := by simp
    have hany : (ps.drop (i + n)).any (pd kvs) = ((ps.map (pd kvs)).drop (i + n)).any id := by rw [← List.map_drop, List.any_map]; rfl
    have hc : dOrT (dVal (dGet2 (dVar 2) (dOp fIx (dVar 4) (dC (.int 0))) (dC (.bl false)))) (dNotT (dVal (dCall told [] (dCons (dVar 0) (dCons (dOp (fAdd false) (dVar 3) (dVar 1)) (dCons (dVar 2) dNil))))))
        (genv dp n ds i (some (.tup (.str t :: r)))) O = .ok (sv kvs t || !(((ps.map (pd kvs)).drop (i + n)).any id)) O := by
      rw [← hany]
      cases hs : sv kvs t with
      | true => simp [h0, hdc, hg, hs]
      | false => simp [h0, hdc, hg, hs, hcast, ht, -Int.natCast_add]
    have hdu : du (ps.map (pd kvs)) n i ((D.tup (.str t :: r) :: rest).map (pd kvs)) = if (sv kvs t || !(((ps.map (pd kvs)).drop (i + n)).any id)) = true then i else du (ps.map (pd kvs)) n (i + 1) (rest.map (pd kvs)) := rfl
    rw [hdu]
    by_cases hb : (sv kvs t || !(((ps.map (pd kvs)).drop (i + n)).any id)) = true
    · rw [if_pos hb]
      rw [hb] at hc
      refine ⟨some (.tup (.str t :: r)), forL_bk (ρ1 := genv dp n ds i (some (.tup (.str t :: r)))) hst rfl ?_⟩
      unfold back1
      rw [ap_seq, if_t hc]
      rfl
    · rw [if_neg hb]
      rw [Bool.eq_false_iff.mpr hb] at hc
      obtain ⟨x', ih⟩ := back_loop ok hs hd hp n xs hst rest (i + 1) (some (.tup (.str t :: r))) (fun d hd => hr d (List.mem_cons_of_mem _ hd))
      refine ⟨x', ?_⟩
      have hbd : back1 (genv dp n ds i (some (.tup (.str t :: r)))) O = .nx (genv dp n ds (i + 1) (some (.tup (.str t :: r)))) O := by
        unfold back1
        rw [ap_seq, if_f hc]
        rfl
      rw [forL_nx hst rfl hbd]
      exact ih
theorem back_ok (ok : okSeen kvs) (hs : look O ds = .dic kvs) (hq : IsSeq O dp ps) (hp : ∀ d ∈ ps, isSt d) (n : Nat) : back [dp, .int (n : Int), ds] O = .ok (.int (gone kvs ps n : Nat)) O := by
  obtain ⟨lk, hw, hst⟩ := hq.walk
  obtain ⟨x', e⟩ := back_loop ok hs hq.look hp n ps hst ps 0 none hp
  have e' : forL ps lk (gN 4) back1 ps [some dp, some (.int (n : Int)), some ds, some (.int 0), none] O = _ := e
  simp [back, mFn, startD, hw, e']
  rfl
end
/-! ### plain laws of it -/
theorem du_spec (bs : List Bool) (n : Nat) : ∀ (r : List Bool) (i : Nat), i ≤ du bs n i r ∧ du bs n i r ≤ i + r.length ∧ (∀ j, i ≤ j → j < du bs n i r → r[j - i]? = some false ∧ (bs.drop (j + n)).any id = true) ∧
    (du bs n i r < i + r.length → (r[du bs n i r - i]? = some true ∨ (bs.drop (du bs n i r + n)).any id = false))
  | [], i => by
    unfold du
    exact ⟨Nat.le_refl _, by simp, fun j h1 h2 => by omega, fun h => by simp at h⟩
  | b :: r, i => by
    unfold du
    by_cases h : (b || !((bs.drop (i + n)).any id)) = true
    · rw [if_pos h]
      refine ⟨Nat.le_refl _, by simp, fun j h1 h2 => by omega, fun _ => ?_⟩
      rw [Nat.sub_self]
      rcases Bool.or_eq_true _ _ |>.mp h with h | h
      · exact .inl (by simp [h])
      · exact .inr (by simpa using h)
    · rw [if_neg h]
      obtain ⟨h1, h2, h3, h4⟩ := du_spec bs n r (i + 1)
      have hb : b = false ∧ (bs.drop (i + n)).any id = true := by
        cases b with
        | true => simp at h
        | false => exact ⟨rfl, by simpa using h⟩
      refine ⟨by omega, by simp; omega, fun j hj1 hj2 => ?_, fun hlt => ?_⟩
      · by_cases e : j = i
        · subst e
          rw [Nat.sub_self]
          exact ⟨by simp [hb.1], hb.2⟩
        · obtain ⟨q1, q2⟩ := h3 j (by omega) hj2
          refine ⟨?_, q2⟩
          rw [show j - i = (j - (i + 1)) + 1 by omega, List.getElem?_cons_succ]
          exact q1
      · have h5 := h4 (by simp at hlt; omega)
        rw [show du bs n (i + 1) r - i = (du bs n (i + 1) r - (i + 1)) + 1 by omega, List.getElem?_cons_succ]
        exact h5
theorem gone_spec (kvs : List (Key × D)) (ps : List D) (n : Nat) : gone kvs ps n ≤ ps.length ∧ (∀ j, j < gone kvs ps n → (ps.map (pd kvs))[j]? = some false ∧ ((ps.map (pd kvs)).drop (j + n)).any id = true) ∧
    (gone kvs ps n < ps.length → ((ps.map (pd kvs))[gone kvs ps n]? = some true ∨ ((ps.map (pd kvs)).drop (gone kvs ps n + n)).any id = false)) := by
  obtain ⟨_, h2, h3, h4⟩ := du_spec (ps.map (pd kvs)) n (ps.map (pd kvs)) 0
  refine ⟨by simpa [gone] using h2, fun j hj => ?_, fun hlt => ?_⟩
  · have := h3 j (Nat.zero_le _) hj
    rw [Nat.sub_zero] at this
    exact this
  · have := h4 (by simpa [gone] using hlt)
    rw [Nat.sub_zero] at this
    exact this
/-- what is left begins with a step that stays -/
theorem gone_again (kvs : List (Key × D)) (ps : List D) (n : Nat) : gone kvs (ps.drop (gone kvs ps n)) n = 0 := by
  obtain ⟨h1, _, h3⟩ := gone_spec kvs ps n
  generalize hg : gone kvs ps n = g at h1 h3
  by_cases hlt : g < ps.length
  · have h4 := h3 hlt
    have hd : (ps.drop g).map (pd kvs) = (ps.map (pd kvs)).drop g := by rw [List.map_drop]
    unfold gone
    rw [hd]
    have hgl : g < (ps.map (pd kvs)).length := by simpa using hlt
    have hc : (ps.map (pd kvs)).drop g = (ps.map (pd kvs))[g] :: (ps.map (pd kvs)).drop (g + 1) := List.drop_eq_getElem_cons hgl
    generalize hX : (ps.map (pd kvs)).drop g = X at *
    have : (X.drop (0 + n)).any id = ((ps.map (pd kvs)).drop (g + n)).any id := by rw [← hX, List.drop_drop, Nat.zero_add]
    rw [hc]
    unfold du
    rw [if_pos]
    rw [← hc, this]
    rcases h4 with h4 | h4
    · rw [List.getElem?_eq_getElem hgl] at h4
      rw [Option.some.inj h4]
      rfl
    · rw [h4]
      simp
  · rw [List.drop_of_length_le (by omega)]
    rfl
/-! ### paths shortened -/
structure Tr where
  t : Str
  v : D
  ps : List D
  n : Nat
def pk (PL : List Tr) : List (Key × D) := PL.map fun q => (.inr q.t, q.v)
def sh (kvs : List (Key × D)) (PL : List Tr) : List (Key × D) := PL.map fun q => (.inr q.t, .lst (q.ps.drop (gone kvs q.ps q.n)))
noncomputable def short1 : DTS := (dPut (dVar 3) (dVar 4) (dSl false (dVar 5) (dPart (dCall back [] (dCons (dVar 5) (dCons (dOp fIx (dVar 1) (dVar 4)) (dCons (dVar 2) dNil))))) dNoP))
noncomputable def short : List D → Sto → Res := mFn ["paths", "lengths", "seen", "found", "train", "path"] (dSeq (dSet 3 (dNewK true))
  (dSeq (dForD 2 (pVar 0) (gT (gConsD (gN 4) (gConsD (gN 5) gNilD))) short1)
  (dRet (dFrz (dVar 3)))))
/-- what the dicts tell, whatever stands behind in the store -/
structure Sh (B : Sto) (kvs lens : List (Key × D)) (PL : List Tr) (dl ds : D) : Prop where
  ok : okSeen kvs
  seen : ∀ R, look (B ++ R) ds = .dic kvs
  lenv : ∀ R, look (B ++ R) dl = .dic lens
  nd : (PL.map (·.t)).Nodup
  len : ∀ q ∈ PL, getK lens (.inr q.t) = some (.int (q.n : Int))
  seq : ∀ q ∈ PL, ∀ R, IsSeq (B ++ R) q.v q.ps
  st : ∀ q ∈ PL, ∀ d ∈ q.ps, isSt d ∧ isStep d = true
  few : PL.length < 900
theorem short_run {B : Sto} {kvs lens : List (Key × D)} {PL : List Tr} {dl ds : D} (h : Sh B kvs lens PL dl ds) (dp : D) (xs : List D) :
    ∃ x4 x5, forL xs none (gT (gConsD (gN 4) (gConsD (gN 5) gNilD))) short1 (dItems 2 (pk PL)) [some dp, some dl, some ds, some (.loc B.length), none, none] (B ++ [.dic []]) = .nx [some dp, some dl, some ds, some (.loc B.length), x4, x5] (B ++ [.dic (sh kvs PL)]) := by
  have gen : ∀ (us vs : List Tr) (x4 x5 : Option D), vs ++ us = PL → ∃ x4' x5', forL xs none (gT (gConsD (gN 4) (gConsD (gN 5) gNilD))) short1 (dItems 2 (pk us)) [some dp, some dl, some ds, some (.loc B.length), x4, x5] (B ++ [.dic (sh kvs vs)]) = .nx [some dp, some dl, some ds, some (.loc B.length), x4', x5'] (B ++ [.dic (sh kvs PL)]) := by
    intro us
    induction us with
    | nil =>
      intro vs x4 x5 e
      rw [List.append_nil] at e
      subst e
      exact ⟨x4, x5, forL_nil (still_none.mpr trivial)⟩
    | cons q us ih =>
      intro vs x4 x5 e
      have hm : q ∈ PL := by rw [← e]; simp
      obtain ⟨a, b, h2⟩ := ih (vs ++ [q]) (some (.str q.t)) (some q.v) (by rw [List.append_assoc]; exact e)
      refine ⟨a, b, ?_⟩
      have hl : vs.length < 900 := by
        have := h.few
        rw [← e] at this
        simp at this
        omega
      have hb := back_ok h.ok (h.seen [.dic (sh kvs vs)]) (h.seq q hm [.dic (sh kvs vs)]) (fun d hd => (h.st q hm d hd).1) q.n
      have hx : fIx dl (.str q.t) (B ++ [.dic (sh kvs vs)]) = .ok (.int (q.n : Int)) (B ++ [.dic (sh kvs vs)]) := ix_dic (h.lenv _) (h.len q hm)
      have hv : dSl false (dVar 5) (dPart (dCall back [] (dCons (dVar 5) (dCons (dOp fIx (dVar 1) (dVar 4)) (dCons (dVar 2) dNil))))) dNoP [some dp, some dl, some ds, some (.loc B.length), some (.str q.t), some q.v] (B ++ [.dic (sh kvs vs)]) = .ok (.lst (q.ps.drop (gone kvs q.ps q.n))) (B ++ [.dic (sh kvs vs)]) := by
        refine sl_from (d := q.v) (O2 := B ++ [OD.dic (sh kvs vs)]) rfl ?_ (h.seq q hm _).look
        simp only [ap_call, ap_cons, ap_op, ap_nil, var_s, var_0, bind_ok, bindL_ok, lbindL_ok, lbind_ok, hx, List.append_nil, hb]
      have hnew : setK (sh kvs vs) (.inr q.t) (.lst (q.ps.drop (gone kvs q.ps q.n))) = sh kvs (vs ++ [q]) := by
        rw [setK_new]
        · unfold sh
          rw [List.map_append]
          rfl
        · intro kv hkv e'
          obtain ⟨q2, h3, rfl⟩ := List.mem_map.mp hkv
          have hn := h.nd
          rw [← e, List.map_append, List.nodup_append] at hn
          exact hn.2.2 q2.t (List.mem_map_of_mem h3) q.t (by simp) (Sum.inr.inj e')
      have hbd : short1 [some dp, some dl, some ds, some (.loc B.length), some (.str q.t), some q.v] (B ++ [.dic (sh kvs vs)]) = .nx [some dp, some dl, some ds, some (.loc B.length), some (.str q.t), some q.v] (B ++ [.dic (sh kvs (vs ++ [q]))]) := by
        unfold short1
        refine put_ok hv rfl rfl ?_
        rw [put_mid (by simp [sh]; omega), hnew]
      have hc : dItems 2 (pk (q :: us)) = .tup [.str q.t, q.v] :: dItems 2 (pk us) := rfl
      rw [hc, forL_nx (still_none.mpr trivial) rfl hbd]
      exact h2
  exact gen PL [] none none rfl
theorem sh_below {B : Sto} {kvs lens : List (Key × D)} {PL : List Tr} {dl ds : D} (h : Sh B kvs lens PL dl ds) (n : Nat) : Below n (.dic (sh kvs PL)) := by
  refine .dic ?_
  have gen : ∀ us : List Tr, (∀ q ∈ us, q ∈ PL) → BelowK n (sh kvs us) := by
    intro us
    induction us with
    | nil => exact fun _ => .nil
    | cons q us ih => exact fun hs => .cons (.lst (belowL_step fun d hd => (h.st q (hs q (List.mem_cons_self ..)) d (List.mem_of_mem_drop hd)).2)) (ih fun x hx => hs x (List.mem_cons_of_mem _ hx))
  exact gen PL fun _ h => h
theorem short_frz {O : Sto} {kvs lens : List (Key × D)} {PL : List Tr} {dl ds : D} (h : Sh O kvs lens PL dl ds) : short [.dic (pk PL), dl, ds] O = .ok (.dic (sh kvs PL)) O := by
  obtain ⟨x4, x5, e⟩ := short_run h (.dic (pk PL)) (dItems 2 (pk PL))
  have hfor : dForD 2 (pVar 0) (gT (gConsD (gN 4) (gConsD (gN 5) gNilD))) short1 [some (.dic (pk PL)), some dl, some ds, some (.loc O.length), none, none] (O ++ [.dic []]) = .nx [some (.dic (pk PL)), some dl, some ds, some (.loc O.length), x4, x5] (O ++ [.dic (sh kvs PL)]) := e
  have hnew : dNewK true [some (.dic (pk PL)), some dl, some ds, none, none, none] O = .ok (.loc O.length) (O ++ [.dic []]) := rfl
  have hf : dFrz (dVar 3) [some (.dic (pk PL)), some dl, some ds, some (.loc O.length), x4, x5] (O ++ [.dic (sh kvs PL)]) = .ok (.dic (sh kvs PL)) (O ++ [.gone]) := ap_frz rfl frz_last
  simp [short, mFn, startD, hnew, hfor, hf]
  exact trim_app (sh_below h _)
theorem set_same {O : Sto} {m : Nat} {od : OD} (h : O[m]? = some od) : O.set m od = O := by
  obtain ⟨hl, e⟩ := List.getElem?_eq_some_iff.mp h
  rw [← e]
  exact List.set_getElem_self hl
theorem unl_nx {O R : Sto} {m : Nat} {od : OD} {ρ : Env'} (h : O[m]? = some od) : (Out.nx ρ (O.set m (.lck od) ++ R)).unl m od = .nx ρ (O ++ R) := by
  have hl := (List.getElem?_eq_some_iff.mp h).1
  show unlS m od (O.set m (.lck od) ++ R) (.nx ρ) = _
  unfold unlS
  rw [if_pos (by rw [List.getElem?_append_left (by simpa using hl), List.getElem?_set_self hl]), List.set_append_left _ _ (by simpa using hl), List.set_set, set_same h]
theorem short_loc {O : Sto} {m : Nat} {kvs lens : List (Key × D)} {PL : List Tr} {dl ds : D} (hm : O[m]? = some (.dic (pk PL))) (h : Sh (O.set m (.lck (.dic (pk PL)))) kvs lens PL dl ds) : short [.loc m, dl, ds] O = .ok (.dic (sh kvs PL)) O := by
  have hml : m < O.length := (List.getElem?_eq_some_iff.mp hm).1
  obtain ⟨x4, x5, e⟩ := short_run h (.loc m) (dItems 2 (pk PL))
  rw [List.length_set] at e
  have hm2 : (O ++ [OD.dic []])[m]? = some (.dic (pk PL)) := by rw [List.getElem?_append_left hml]; exact hm
  have hs2 : (O ++ [OD.dic []]).set m (.lck (.dic (pk PL))) = O.set m (.lck (.dic (pk PL))) ++ [.dic []] := by rw [List.set_append_left _ _ hml]
  have hfor : dForD 2 (pVar 0) (gT (gConsD (gN 4) (gConsD (gN 5) gNilD))) short1 [some (.loc m), some dl, some ds, some (.loc O.length), none, none] (O ++ [.dic []]) = .nx [some (.loc m), some dl, some ds, some (.loc O.length), x4, x5] (O ++ [.dic (sh kvs PL)]) := by
    show (match (O ++ [OD.dic []])[m]? with
      | some (.dic kvs) => (forL (dItems 2 kvs) none (gT (gConsD (gN 4) (gConsD (gN 5) gNilD))) short1 (dItems 2 kvs) [some (.loc m), some dl, some ds, some (.loc O.length), none, none] ((O ++ [OD.dic []]).set m (.lck (.dic kvs)))).unl m (.dic kvs)
      | _ => .stuck) = _
    rw [hm2]
    dsimp only
    rw [hs2, e]
    exact unl_nx hm
  have hnew : dNewK true [some (.loc m), some dl, some ds, none, none, none] O = .ok (.loc O.length) (O ++ [.dic []]) := rfl
  have hf : dFrz (dVar 3) [some (.loc m), some dl, some ds, some (.loc O.length), x4, x5] (O ++ [.dic (sh kvs PL)]) = .ok (.dic (sh kvs PL)) (O ++ [.gone]) := ap_frz rfl frz_last
  simp [short, mFn, startD, hnew, hfor, hf]
  exact trim_app (sh_below h _)
end Yk.Gb

set_option Elab.async false
set_option linter.all false
set_option maxRecDepth 100000
set_option maxHeartbeats 2000000
/-! YkV: instances: fields read and set, instances made, methods called. -/
namespace Yk
open PySem PySem.Spec PyProof.Rows L2
/-! ### fields -/
def fFld (cs : List Str) (f : Str) (x : D) (O : Sto) : Res := match look O x with
  | .obj c fs => if c ∈ cs then (match fs.lookup f with
    | some d => .ok d O
    | none => .stuck) else .stuck
  | _ => .stuck
structure FldOk (ca : Cn) (K : PySem.W.Frag) (cs : List Str) (f : Str) : Prop where
  ok : ∀ c ∈ cs, ∀ C, ca.f c = some C → Cls K C ∧ NoAttr K C f
section
variable {ca : Cn} {W : WX} {X : Cx} {w : Wd} {O : Sto} {H : Hp}
theorem repF_lookup {f : Str} : ∀ {vs : List (Str × V)} {ds : List (Str × D)} {d : D}, RepF ca w vs ds → ds.lookup f = some d → ∃ v, vs.lookup f = some v ∧ Rep ca w v d
  | _, _, _, .nil, e => by cases e
  | _, _, d, .cons (k := k) (v := v) (d := d') (vs := vs) (ds := ds) h r, e => by
    rw [List.lookup_cons] at e ⊢
    cases hk : f == k with
    | true =>
      rw [hk] at e
      exact ⟨v, rfl, by rw [← Option.some.inj e]; exact h⟩
    | false =>
      rw [hk] at e
      exact repF_lookup r e
theorem repF_none {f : Str} : ∀ {vs : List (Str × V)} {ds : List (Str × D)}, RepF ca w vs ds → ds.lookup f = none → vs.lookup f = none
  | _, _, .nil, e => rfl
  | _, _, .cons (k := k) h r, e => by
    rw [List.lookup_cons] at e ⊢
    cases hk : f == k with
    | true => rw [hk] at e; cases e
    | false =>
      rw [hk] at e
      exact repF_none r e
theorem de_fld {o : Expr} {mo : DTE} {f : Str} {pos : Pos} {cs : List Str} (F : FldOk ca X.K cs f) (ho : DE ca W X o mo) (hb : attributeBase o f X.env (eval o X.env) = eval o X.env := by rfl) : DE ca W X (.Attribute o f pos) (dUn (fFld cs f) mo) := by
  obtain ⟨to, po, so⟩ := ho
  refine ⟨_, pe_fld po hb, fun w O H σ ρ Q k re h => ?_⟩
  refine so w O H σ ρ _ k re (Post.bind h fun d O1 v w1 H1 l1 k1 r1 h1 => ?_)
  unfold fFld at h1
  split at h1
  · rename_i c fs e
    obtain ⟨a, C, dx, vs, rfl, hA, hC, rf⟩ := look_obj k1 r1 e
    obtain ⟨hc, h1⟩ := post_if h1
    obtain ⟨F1, F2⟩ := F.ok c hc C hC
    cases z : fs.lookup f with
    | none => rw [z] at h1; exact h1.elim
    | some d =>
      rw [z] at h1
      obtain ⟨vv, e1, e2⟩ := repF_lookup rf z
      exact ⟨a, C, dx, vs, vv, rfl, hA, F1, F2, e1, post_ok k1 e2 h1⟩
  · exact h1.elim
def putFD (f : Str) (d : D) : List (Str × D) → List (Str × D)
  | [] => [(f, d)]
  | (g, x) :: r => if g = f then (g, d) :: r else (g, x) :: putFD f d r
theorem repF_put {f : Str} {v : V} {d : D} (h : Rep ca w v d) : ∀ {vs : List (Str × V)} {ds : List (Str × D)}, RepF ca w vs ds → RepF ca w (putF f v vs) (putFD f d ds)
  | _, _, .nil => .cons h .nil
  | _, _, .cons (k := k) h1 r => by
    unfold putF putFD
    by_cases e : k = f
    · rw [if_pos e, if_pos e]
      exact .cons h r
    · rw [if_neg e, if_neg e]
      exact .cons h1 (repF_put h r)
theorem RepF.length : ∀ {vs : List (Str × V)} {ds : List (Str × D)}, RepF ca w vs ds → vs.length = ds.length
  | _, _, .nil => rfl
  | _, _, .cons _ r => by rw [List.length_cons, List.length_cons, RepF.length r]
/-- the instance of the store -/
def ownI (O : Sto) (x : D) : Option (Nat × Str × List (Str × D)) := match x with
  | .loc n => (match O[n]? with
    | some (.ins c fs) => some (n, c, fs)
    | _ => none)
  | _ => none
theorem ownI_rep (k : Ok ca w O H) {v : V} {d : D} (r : Rep ca w v d) {n : Nat} {c : Str} {fs : List (Str × D)} (h : ownI O d = some (n, c, fs)) : ∃ a C dx vs, v = .ref a ∧ w.ad[n]? = some a ∧ O[n]? = some (.ins c fs) ∧ H a = some (.ins C dx vs) ∧ ca.f c = some C ∧ RepF ca w vs fs := by
  unfold ownI at h
  split at h
  · split at h
    · rename_i q
      cases h
      cases r with
      | loc hA =>
        obtain ⟨_, u, h2, h3⟩ := k.own _ _ _ hA q (fun z => nomatch z)
        cases h3 with
        | ins hc r => exact ⟨_, _, _, _, rfl, hA, q, h2, hc, r⟩
    · cases h
  · cases h
def dFldSet (cs : List Str) (f : Str) (mo mv : DTE) : DTS := fun ρ O => (mv ρ O).bindS ρ fun v O1 => (mo ρ O1).bindS ρ fun x O2 => match ownI O2 x with
  | some (n, c, fs) => if c ∈ cs ∧ fs.length < 900 then .nx ρ (O2.set n (.ins c (putFD f v fs))) else .stuck
  | none => .stuck
theorem ds_fld {o value : Expr} {mo mv : DTE} {f : Str} {pos pos' : Pos} {cs : List Str} (F : FldOk ca X.K cs f) (ho : DE ca W X o mo) (hv : DE ca W X value mv) (hs : swapsWith value (some (.Attribute o f pos')) pos.line X.env = pure false := by rfl) : DS ca W X (.Assign [.Attribute o f pos'] value pos) (dFldSet cs f mo mv) := by
  obtain ⟨to, po, so⟩ := ho
  obtain ⟨tv, pv, sv⟩ := hv
  refine ⟨_, ps_fld po pv hs, fun w O H σ ρ Dn k re h => ?_⟩
  unfold dFldSet at h
  refine sv w O H σ ρ _ k re (Post.bindS re h fun d O1 v w1 H1 l1 k1 r1 h1 => ?_)
  refine so w1 O1 H1 σ ρ _ k1 (re.mono l1) (Post.bindS (re.mono l1) h1 fun d2 O2 v2 w2 H2 l2 k2 r2 h2 => ?_)
  split at h2
  · rename_i n c fs e
    obtain ⟨a, C, dx, vs, rfl, hA, hO, hH, hC, rf⟩ := ownI_rep k2 r2 e
    by_cases hc : c ∈ cs ∧ fs.length < 900
    · rw [if_pos hc] at h2
      obtain ⟨F1, F2⟩ := F.ok c hc.1 C hC
      have k3 := k2.setO hA hO (fun z => nomatch z) (k2.lkFree hH rfl) (.ins (dx := dx) hC (repF_put (f := f) (r1.mono l2) rf))
      exact ⟨a, C, dx, vs, rfl, hH, F1, F2, by rw [rf.length]; omega, h2 σ w2 _ (Wd.le.refl w2) k3 (re.mono (l1.trans l2))⟩
    · rw [if_neg hc] at h2
      exact h2.elim
  · exact h2.elim
end
end Yk

set_option Elab.async false
set_option linter.all false
set_option maxRecDepth 100000
set_option maxHeartbeats 2000000
/-! YkW: methods called, instances made; what a callee raises is wished for at the caller's slots. -/
namespace Yk
open PySem PySem.Spec PyProof.Rows L2
section
variable {ca : Cn} {W : WX} {X : Cx} {C g : Addr} {m x : Str} {pos apos : Pos} {e o : Expr} {es : List Expr} {ta : TE} {t : TA} {k : Nat} {fd : FuncData} {ps : List Str} {sp : Sp} {dvs : List V} {ds : List Value} {E : L2.St → XK} {pl : Sem Bool}
/-- one reading out of many -/
theorem PE.ex {ι : Type} {t : ι → TE} (h : ∀ i, PE X e (t i)) : PE X e (fun σ H Q => ∃ i, t i σ H Q) := ⟨fun pins s σ H Q I ⟨i, q⟩ => (h i).run pins s σ H Q I q⟩
/-- how a method's call reads -/
def MForm (X : Cx) (o : Expr) (m : Str) (es : List Expr) (apos pos : Pos) (pl : Sem Bool) : Prop := eval (.Call (.Attribute o m apos) es [] pos) X.env =
  (do let z ← eval o X.env; standAt apos.atName; let (q, first) ← holding [z] (getMethod z m pl); callWith pos q first (backTo pos (starEach es X.env)) (backToKw pos (keywordEach [] X.env)))
def tMethD (C : Addr) (m : Str) (sp : Sp) (dvs : List V) (E : L2.St → XK) (ta : TE) (t : TA) : TE := fun σ H Q => ta σ H fun y H1 => ∃ a dx fs, y = .ref a ∧ H1 a = some (.ins C dx fs) ∧ fs.lookup m = none ∧ t σ H1 fun vs H2 => sp (y :: (vs ++ dvs)) H2 Q (E σ)
theorem pe_methD (he : PE X o ta) (c : Cls X.K C) (hm : Meth X.K C m g) (F : FnOk X.prog X.w X.K X.mg X.base (L2.CX X.prog X.w) k g fd ps sp) (hr : Room k X.A) (hb : Binds X.K fd ps ds) (hd : Vals dvs ds) (hx : ∀ σ, PassesAt (L2.CX X.prog X.w) X σ (E σ))
    (ha : PA X (e :: es) t) (ht : MForm X o m (e :: es) apos pos pl) (st : starEach (e :: es) X.env = (false, eval e X.env) :: starEach es X.env) (hp : (backTo pos (starEach es X.env)).any (·.1) = false) : PE X (.Call (.Attribute o m apos) (e :: es) [] pos) (tMethD C m sp dvs E ta t) := by
  constructor
  intro pins s σ H Q I h
  refine PySem.W.methodCall_KW (pl := pl) (thn (he.run pins s σ H _ I h) ?_) ht
  rintro u s1 ⟨y, H1, I1, ry, a, dx, fs, rfl, ea, l, q⟩
  cases ry
  refine getmeth_ok I1 ea c hm l (PySem.W.callWith_K (first := [.ref a]) (h₀ := X.base) I1.ok.mod.kin hm.kp (thn (ha.run pos pins s1 σ H1 _ I1 q) ?_) st hp)
  rintro us s2 ⟨vs, H2, I2, r, q2⟩
  exact ⟨I2.kIn, run_fnSD (us := .ref a :: us) (vs := .ref a :: vs) F hr hb hd (hx σ) I2 (.cons rfl r) q2⟩
theorem pe_methD0 (he : PE X o ta) (c : Cls X.K C) (hm : Meth X.K C m g) (F : FnOk X.prog X.w X.K X.mg X.base (L2.CX X.prog X.w) k g fd ps sp) (hr : Room k X.A) (hb : Binds X.K fd ps ds) (hd : Vals dvs ds) (hx : ∀ σ, PassesAt (L2.CX X.prog X.w) X σ (E σ))
    (ht : MForm X o m [] apos pos pl) : PE X (.Call (.Attribute o m apos) [] [] pos) (tMethD C m sp dvs E ta tNil) := by
  constructor
  intro pins s σ H Q I h
  refine PySem.W.methodCall_KW (pl := pl) (thn (he.run pins s σ H _ I h) ?_) ht
  rintro u s1 ⟨y, H1, I1, ry, a, dx, fs, rfl, ea, l, q⟩
  cases ry
  exact getmeth_ok I1 ea c hm l (PySem.W.callWith_K0 (first := [.ref a]) I1.kIn hm.kp (run_fnSD (us := [.ref a]) (vs := [.ref a]) F hr hb hd (hx σ) I1 (.cons rfl .nil) q))
/-! ### C(..) -/
def tMakeD (C : Addr) (sp : Sp) (dvs : List V) (E : L2.St → XK) (t : TA) : TE := fun σ H Q => t σ H fun vs H1 => ∀ y dx, H1 y = none → H1 dx = none → dx ≠ y → sp (.ref y :: (vs ++ dvs)) (upd (upd H1 dx (.own y)) y (.ins C dx [])) (fun v H2 => v = .non ∧ Q (.ref y) H2) (E σ)
theorem run_mkD {pins : List (Addr × Obj)} {σ : L2.St} {H : Hp} {s : Shared} {Q : VK} {us : List Value} {vs : List V} (M : Mk X.K C g) (F : FnOk X.prog X.w X.K X.mg X.base (L2.CX X.prog X.w) k g fd ps sp) (hr : Room (k + 1) X.A) (hb : Binds X.K fd ps ds) (hd : Vals dvs ds)
    (hx : PassesAt (L2.CX X.prog X.w) X σ (E σ)) (I : Inv X pins σ H s) (r : Vals vs us) (h : ∀ y dx, H y = none → H dx = none → dx ≠ y → sp (.ref y :: (vs ++ dvs)) (upd (upd H dx (.own y)) y (.ins C dx [])) (fun v H2 => v = .non ∧ Q (.ref y) H2) (E σ)) :
    wpAny (model X.prog X.w) X.A (call (.ref C) us) (EP X pins σ Q) X.xe s := by
  have q := h (s.heap.objs.size + 1) s.heap.objs.size (I.hok.fresh (Nat.le_succ _)) (I.hok.fresh (Nat.le_refl _)) (Nat.ne_of_lt (Nat.lt_succ_self _))
  have J := Inv.made (C := C) I
  have rr : Vals (V.ref (s.heap.objs.size + 1) :: (vs ++ dvs)) (Value.ref (s.heap.objs.size + 1) :: (us ++ ds)) := .cons rfl (r.append hd)
  have len : (Value.ref (s.heap.objs.size + 1) :: us ++ ds).length = ps.length := rr.length.symm.trans (F.len _ _ _ _ q)
  have body := F.run _ X.stack _ _ ⟨Value.ref (s.heap.objs.size + 1) :: us, []⟩ (Value.ref (s.heap.objs.size + 1) :: (us ++ ds)) _ _ (E σ) (hr.make C us []) (J.env0.make C us []) (hb _ (Value.ref (s.heap.objs.size + 1) :: us) J.kIn len) rr q
  refine wpAny_call (make_map (f := g) I.kIn M.makes M.init (beq_iff_eq.mp M.fn) (codeAny_mono body ?_))
  intro res s' z
  cases res with
  | error e => exact hx pins _ _ e s' J z
  | ok fl =>
    cases fl with
    | ret u =>
      obtain ⟨v, H', J2, rv, ev, q3⟩ := J.after z
      subst ev
      exact ⟨rv, V.ref (s.heap.objs.size + 1), H', J2, rfl, q3⟩
    | next => exact z.elim
    | brk => exact z.elim
    | cont => exact z.elim
theorem pe_makeD {p : Pos} (M : Mk X.K C g) (F : FnOk X.prog X.w X.K X.mg X.base (L2.CX X.prog X.w) k g fd ps sp) (hr : Room (k + 1) X.A) (hg : Gl X x) (hm : X.mg x = some (.ref C)) (hb : Binds X.K fd ps ds) (hd : Vals dvs ds) (hx : ∀ σ, PassesAt (L2.CX X.prog X.w) X σ (E σ))
    (ha : PA X (e :: es) t) (hdb : (x == ("__debug__" : Str)) = false) (st : starEach (e :: es) X.env = (false, eval e X.env) :: starEach es X.env) (hp : (backTo pos (starEach es X.env)).any (·.1) = false) : PE X (.Call (.Name x p) (e :: es) [] pos) (tMakeD C sp dvs E t) := by
  constructor
  intro pins s σ H Q I h
  refine wpAny_Call_Name_kw (ld_glob I hg hm (PySem.W.callWith_K (h₀ := X.base) I.ok.mod.kin M.kp (thn (ha.run pos pins s σ H _ I h) ?_) st hp) hdb)
  rintro us s1 ⟨vs, H1, I1, r, q⟩
  exact ⟨I1.kIn, run_mkD M F hr hb hd (hx σ) I1 r q⟩
end
end Yk

set_option Elab.async false
set_option linter.all false
set_option maxRecDepth 100000
set_option maxHeartbeats 2000000
/-! YkX: the readings of methods and of making, over data. -/
namespace Yk
open PySem PySem.Spec PyProof.Rows L2
variable {B : LwB}
abbrev Fm := List D → Sto → Res
/-- the def that the class c finds at m -/
structure GoodM (B : LwB) (P : Program) (w : World) (K : PySem.W.Frag) (mg : Str → Option Value) (base : Heap) (c m : Str) (k n : Nat) (fm : Fm) (dfl : List D) : Prop where
  cl : Cls K (He.ga K c)
  me : Meth K (He.ga K c) m (He.ma K (He.ga K c) m)
  ex : ∃ fd ps, FnOk P w K mg base (L2.CX P w) k (He.ma K (He.ga K c) m) fd ps (spD (cao B K) n fm) ∧ ∀ j, j ≤ dfl.length → ∃ (dvs : List V) (ds : List Value), Vals dvs ds ∧ Binds K fd ps ds ∧ ∀ w, RepL (cao B K) w dvs (dfl.drop j)
/-- what makes an instance of c -/
structure GoodI (B : LwB) (P : Program) (w : World) (K : PySem.W.Frag) (mg : Str → Option Value) (base : Heap) (c : Str) (k n : Nat) (fm : Fm) (dfl : List D) : Prop where
  mkr : Mk K (He.ga K c) (He.ma K (He.ga K c) "__init__")
  at_ : mg c = some (.ref (He.ga K c))
  ex : ∃ fd ps, FnOk P w K mg base (L2.CX P w) k (He.ma K (He.ga K c) "__init__") fd ps (spD (cao B K) n fm) ∧ ∀ j, j ≤ dfl.length → ∃ (dvs : List V) (ds : List Value), Vals dvs ds ∧ Binds K fd ps ds ∧ ∀ w, RepL (cao B K) w dvs (dfl.drop j)
structure MRow where
  c : Str
  n : Nat
  fm : Fm
  dfl : List D
  j : Nat
def rowOf (tb : List MRow) (x : D) (m : Str) (O : Sto) : Option MRow := match look O x with
  | .obj c fs => if fs.lookup m = none then tb.find? fun r => decide (r.c = c) else none
  | _ => none
theorem rowOf_some {tb : List MRow} {x : D} {m : Str} {O : Sto} {r : MRow} (h : rowOf tb x m O = some r) : ∃ fs, look O x = .obj r.c fs ∧ fs.lookup m = none ∧ r ∈ tb := by
  unfold rowOf at h
  split at h
  · rename_i c fs q
    split at h
    · rename_i l
      have hc := List.find?_some h
      have hc : r.c = c := by simpa using hc
      subst hc
      exact ⟨fs, q, l, List.mem_of_find?_eq_some h⟩
    · cases h
  · cases h
def dMeth (m : Str) (tb : List MRow) (mo : DTE) (mr : DTA) : DTE := fun ρ O => (mo ρ O).bind fun x O1 => match rowOf tb x m O1 with
  | some r => (mr ρ O1).bind fun xs O2 => r.fm (x :: (xs ++ r.dfl.drop r.j)) O2
  | none => .stuck
section
variable {W : WX} {X : Cx} {m : Str} {pos apos : Pos} {e o : Expr} {es : List Expr} {mo : DTE} {mr : DTA} {pl : Sem Bool} {k : Nat}
/-- each row is true of what stands there -/
def RowsOk (B : LwB) (X : Cx) (m : Str) (k a : Nat) (tb : List MRow) : Prop := ∀ r ∈ tb, ∃ kr, kr ≤ k ∧ GoodM B X.prog X.w X.K X.mg X.base r.c m kr r.n r.fm r.dfl ∧ r.j ≤ r.dfl.length ∧ r.n = 1 + a + (r.dfl.length - r.j)
theorem rows_nil {a : Nat} : RowsOk B X m k a [] := fun _ h => (nomatch h)
theorem rows_cons {a kr n j : Nat} {c : Str} {fm : Fm} {dfl : List D} {tb : List MRow} (hk : kr ≤ k) (G : GoodM B X.prog X.w X.K X.mg X.base c m kr n fm dfl) (hj : j ≤ dfl.length) (hn : n = 1 + a + (dfl.length - j)) (R : RowsOk B X m k a tb) : RowsOk B X m k a (⟨c, n, fm, dfl, j⟩ :: tb) := fun r hr => by
  rcases List.mem_cons.mp hr with rfl | hr
  · exact ⟨kr, hk, G, hj, hn⟩
  · exact R r hr
theorem de_meth {tb : List MRow} {a : Nat} (R : RowsOk B X m k a tb) (h0 : tb ≠ []) (hr : Room k X.A) (hx : Tk X W) (ho : DE (cao B X.K) W X o mo) (ha : DA (cao B X.K) W X (e :: es) mr) (hn : ∀ ρ O xs O1, mr ρ O = .ok xs O1 → xs.length = a)
    (ht : MForm X o m (e :: es) apos pos pl) (st : starEach (e :: es) X.env = (false, eval e X.env) :: starEach es X.env := by rfl) (hp : (backTo pos (starEach es X.env)).any (·.1) = false := by rfl) :
    DE (cao B X.K) W X (.Call (.Attribute o m apos) (e :: es) [] pos) (dMeth m tb mo mr) := by
  obtain ⟨to, po, so⟩ := ho
  obtain ⟨ta, pa, sa⟩ := ha
  have row : ∀ r ∈ tb, ∃ (n : Nat) (dvs : List V), PE X (.Call (.Attribute o m apos) (e :: es) [] pos) (tMethD (He.ga X.K r.c) m (spD (cao B X.K) n r.fm) dvs (WE W) to ta) ∧ n = 1 + a + (r.dfl.length - r.j) ∧ ∀ w, RepL (cao B X.K) w dvs (r.dfl.drop r.j) := by
    intro r hm
    obtain ⟨kr, hk, G, hj, hnn⟩ := R r hm
    obtain ⟨fd, ps, F, B⟩ := G.ex
    obtain ⟨dvs, ds, b1, b2, b3⟩ := B r.j hj
    exact ⟨r.n, dvs, pe_methD po G.cl G.me (F.mono hk) hr b2 b1 hx pa ht st hp, hnn, b3⟩
  refine ⟨_, PE.ex (ι := { z : Str × Nat × Fm × List V // PE X (.Call (.Attribute o m apos) (e :: es) [] pos) (tMethD (He.ga X.K z.1) m (spD (cao B X.K) z.2.1 z.2.2.1) z.2.2.2 (WE W) to ta) }) fun i => i.2, fun w O H σ ρ Q kk re h => ?_⟩
  unfold dMeth at h
  cases z : mo ρ O with
  | stuck => rw [z] at h; exact h.elim
  | exc c fs O1 =>
    rw [z] at h
    cases tb with
    | nil => exact absurd rfl h0
    | cons r tb =>
      obtain ⟨n, dvs, p, _⟩ := row r (List.mem_cons_self ..)
      exact ⟨⟨(r.c, n, r.fm, dvs), p⟩, so w O H σ ρ _ kk re (by rw [z]; exact h)⟩
  | ok x O1 =>
    rw [z, bind_ok] at h
    cases hrow : rowOf tb x m O1 with
    | none => rw [hrow] at h; exact h.elim
    | some r =>
      rw [hrow] at h
      obtain ⟨fs, hl, hno, hm⟩ := rowOf_some hrow
      obtain ⟨n, dvs, p, hn2, hd⟩ := row r hm
      refine ⟨⟨(r.c, n, r.fm, dvs), p⟩, (?_ : tMethD (He.ga X.K r.c) m (spD (cao B X.K) n r.fm) dvs (WE W) to ta σ H Q)⟩
      refine so w O H σ ρ _ kk re ?_
      rw [z]
      intro v w1 H1 l1 k1 r1
      obtain ⟨ad, C, dx, vs, rfl, hA, hC, rf⟩ := look_obj k1 r1 hl
      obtain rfl : He.ga X.K r.c = C := Option.some.inj hC
      refine ⟨ad, dx, vs, rfl, hA, repF_none rf hno, sa w1 O1 H1 σ ρ _ k1 (re.mono l1) ?_⟩
      have h := Post.mono l1 h
      dsimp only at h
      cases z2 : mr ρ O1 with
      | stuck => rw [z2] at h; exact h.elim
      | exc c fs O2 =>
        rw [z2] at h
        exact h
      | ok xs O2 =>
        rw [z2, lbind_ok] at h
        intro us w2 H2 l2 k2 r2
        refine ⟨w2, O2, x :: (xs ++ r.dfl.drop r.j), k2, .cons (r1.mono l2) (r2.append (hd w2)), ?_, ?_⟩
        · have e1 := r2.length
          have e2 := (hd w2).length
          rw [List.length_cons, List.length_append, e1, e2, hn _ _ _ _ z2, List.length_drop]
          omega
        · have h2 := Post.mono l2 h
          revert h2
          cases r.fm (x :: (xs ++ r.dfl.drop r.j)) O2 with
          | ok d O3 => exact fun h => h
          | exc c fs O3 => exact fun h => h
          | stuck => exact fun h => h
def dMeth0 (m : Str) (tb : List MRow) (mo : DTE) : DTE := fun ρ O => (mo ρ O).bind fun x O1 => match rowOf tb x m O1 with
  | some r => r.fm (x :: r.dfl.drop r.j) O1
  | none => .stuck
theorem de_meth0 {tb : List MRow} (R : RowsOk B X m k 0 tb) (h0 : tb ≠ []) (hr : Room k X.A) (hx : Tk X W) (ho : DE (cao B X.K) W X o mo) (ht : MForm X o m [] apos pos pl) : DE (cao B X.K) W X (.Call (.Attribute o m apos) [] [] pos) (dMeth0 m tb mo) := by
  obtain ⟨to, po, so⟩ := ho
  have row : ∀ r ∈ tb, ∃ (n : Nat) (dvs : List V), PE X (.Call (.Attribute o m apos) [] [] pos) (tMethD (He.ga X.K r.c) m (spD (cao B X.K) n r.fm) dvs (WE W) to tNil) ∧ n = 1 + 0 + (r.dfl.length - r.j) ∧ ∀ w, RepL (cao B X.K) w dvs (r.dfl.drop r.j) := by
    intro r hm
    obtain ⟨kr, hk, G, hj, hnn⟩ := R r hm
    obtain ⟨fd, ps, F, B⟩ := G.ex
    obtain ⟨dvs, ds, b1, b2, b3⟩ := B r.j hj
    exact ⟨r.n, dvs, pe_methD0 po G.cl G.me (F.mono hk) hr b2 b1 hx ht, hnn, b3⟩
  refine ⟨_, PE.ex (ι := { z : Str × Nat × Fm × List V // PE X (.Call (.Attribute o m apos) [] [] pos) (tMethD (He.ga X.K z.1) m (spD (cao B X.K) z.2.1 z.2.2.1) z.2.2.2 (WE W) to tNil) }) fun i => i.2, fun w O H σ ρ Q kk re h => ?_⟩
  unfold dMeth0 at h
  cases z : mo ρ O with
  | stuck => rw [z] at h; exact h.elim
  | exc c fs O1 =>
    rw [z] at h
    cases tb with
    | nil => exact absurd rfl h0
    | cons r tb =>
      obtain ⟨n, dvs, p, _⟩ := row r (List.mem_cons_self ..)
      exact ⟨⟨(r.c, n, r.fm, dvs), p⟩, so w O H σ ρ _ kk re (by rw [z]; exact h)⟩
  | ok x O1 =>
    rw [z, bind_ok] at h
    cases hrow : rowOf tb x m O1 with
    | none => rw [hrow] at h; exact h.elim
    | some r =>
      rw [hrow] at h
      obtain ⟨fs, hl, hno, hm⟩ := rowOf_some hrow
      obtain ⟨n, dvs, p, hn2, hd⟩ := row r hm
      refine ⟨⟨(r.c, n, r.fm, dvs), p⟩, (?_ : tMethD (He.ga X.K r.c) m (spD (cao B X.K) n r.fm) dvs (WE W) to tNil σ H Q)⟩
      refine so w O H σ ρ _ kk re ?_
      rw [z]
      intro v w1 H1 l1 k1 r1
      obtain ⟨ad, C, dx, vs, rfl, hA, hC, rf⟩ := look_obj k1 r1 hl
      obtain rfl : He.ga X.K r.c = C := Option.some.inj hC
      have h := Post.mono l1 h
      refine ⟨ad, dx, vs, rfl, hA, repF_none rf hno, w1, O1, x :: r.dfl.drop r.j, k1, .cons r1 (hd w1), ?_, ?_⟩
      · have e2 := (hd w1).length
        rw [List.length_cons, List.nil_append, e2, List.length_drop]
        omega
      · revert h
        dsimp only
        cases r.fm (x :: r.dfl.drop r.j) O1 with
        | ok d O3 => exact fun h => h
        | exc c fs O3 => exact fun h => h
        | stuck => exact fun h => h
/-! ### C(..) -/
def mkRes (n : Nat) : Res → Res
  | .ok .non O => .ok (.loc n) O
  | .ok _ _ => .stuck
  | .exc c fs O => .exc c fs O
  | .stuck => .stuck
def dMake (c : Str) (fm : Fm) (dfs : List D) (mr : DTA) : DTE := fun ρ O => (mr ρ O).bind fun xs O1 => mkRes O1.length (fm (.loc O1.length :: (xs ++ dfs)) (O1 ++ [.ins c []]))
theorem de_make {c : Str} {p : Pos} {ki n a j : Nat} {fm : Fm} {dfl : List D} (G : GoodI B X.prog X.w X.K X.mg X.base c ki n fm dfl) (hr : Room k X.A) (hk : ki + 1 ≤ k) (hg : Gl X c) (hx : Tk X W) (ha : DA (cao B X.K) W X (e :: es) mr) (hn : ∀ ρ O xs O1, mr ρ O = .ok xs O1 → xs.length = a)
    (hj : j ≤ dfl.length) (hnn : n = 1 + a + (dfl.length - j)) (hdb : (c == ("__debug__" : Str)) = false := by decide) (st : starEach (e :: es) X.env = (false, eval e X.env) :: starEach es X.env := by rfl) (hp : (backTo pos (starEach es X.env)).any (·.1) = false := by rfl) :
    DE (cao B X.K) W X (.Call (.Name c p) (e :: es) [] pos) (dMake c fm (dfl.drop j) mr) := by
  obtain ⟨ta, pa, sa⟩ := ha
  obtain ⟨fd, ps, F, B⟩ := G.ex
  obtain ⟨dvs, ds, b1, b2, b3⟩ := B j hj
  refine ⟨_, pe_makeD (E := WE W) G.mkr F (hr.mono hk) hg G.at_ b2 b1 hx pa hdb st hp, fun w O H σ ρ Q kk re h => ?_⟩
  unfold dMake at h
  refine sa w O H σ ρ _ kk re ?_
  cases z : mr ρ O with
  | stuck => rw [z] at h; exact h.elim
  | exc c fs O1 => rw [z] at h; exact h
  | ok xs O1 =>
    rw [z, lbind_ok] at h
    intro us w1 H1 l1 k1 r1 y dx hy hdx hne
    have h := Post.mono l1 h
    have kd := k1.more (u := .own y) hdx
    have hy2 : upd H1 dx (.own y) y = none := by rw [upd_ne (Ne.symm hne)]; exact hy
    have kn := kd.newO (u := .ins (He.ga X.K c) dx []) (o := .ins c []) hy2 (.ins rfl .nil)
    have hle : w1.le (w1.add y) := Wd.add_le
    refine ⟨w1.add y, O1 ++ [.ins c []], .loc O1.length :: (xs ++ dfl.drop j), kn, .cons (.loc (Wd.add_at k1)) ((r1.mono hle).append (b3 _)), ?_, ?_⟩
    · have e1 := r1.length
      have e2 := (b3 w1).length
      rw [List.length_cons, List.length_append, e1, e2, hn _ _ _ _ z, List.length_drop]
      omega
    · have h2 := Post.mono hle h
      revert h2
      cases fm (.loc O1.length :: (xs ++ dfl.drop j)) (O1 ++ [.ins c []]) with
      | stuck => exact fun h => h
      | exc c fs O3 => exact fun h => h
      | ok d O3 =>
        intro h v w2 H2 l2 k2 r2
        cases r2 with
        | non => exact ⟨rfl, h (.ref y) w2 H2 l2 k2 ((Rep.loc (Wd.add_at k1)).mono l2)⟩
        | _ => exact h.elim
end
end Yk

set_option Elab.async false
set_option linter.all false
set_option maxRecDepth 100000
set_option maxHeartbeats 2000000
/-! YkY: defs of classes, with their defaults. -/
namespace Yk
open PySem PySem.Spec PyProof.Rows L2
variable {B : LwB}
def clsBody : Stmt → List Stmt
  | .ClassDef _ _ _ b _ _ _ _ _ _ _ => b
  | _ => []
section
variable {P : Program} {w : World} {K : PySem.W.Frag} {mg : Str → Option Value} {base : Heap}
theorem fnD_of {x qual : Str} {st : Stmt} {fd : FuncData} {f : Addr} {dvs : List V} {kws : List (Str × V)} {N ps : List Str} {k n : Nat} (F : FunD K x qual (defArgs st) (defBody st) (defScope st) dvs kws f fd) (S : FnScope N ps (defScope st)) (hn : ps.length = n) {m : DTS}
    (hbody : ∀ (cdv : Value) (A : Around) (outer : List Env) (s : Shared) (H : Hp) (E : XK), Room k (A.deeper (PyProof.Rows.envOfC qual (defScope st) s.heap.objs.size f cdv)) →
      DSs (cao B K) (fun cv dx _ H => E cv dx H) (cxOf (L2.CX P w) P w K mg base N qual (defScope st) f cdv A outer s H E) (defBody st) m) : FnOk P w K mg base (L2.CX P w) (k + 1) f fd ps (spD (cao B K) n (mFn N m)) := by
  refine F.ok S (fun vs H Q E h => ?_) (fun cdv A outer s H vs Q E hr h => ?_)
  · obtain ⟨_, _, _, _, _, e, _⟩ := h
    rw [e, hn]
  · obtain ⟨w0, O, ds, k0, r, _, h⟩ := h
    obtain ⟨t, pt, sp⟩ := hbody cdv A outer s H E hr
    refine ⟨t, pt, sp w0 O H _ (startD N.length ds) _ k0 (r.start N) ?_⟩
    have h : Post (cao B K) w0 (fun cv dx _ H => E cv dx H) [] Q (m (startD N.length ds) O).res := Post.trim k0 h
    cases z : m (startD N.length ds) O with
    | nx ρ O1 => rw [z] at h; exact fun σ' w1 H1 l1 k1 _ => h .non w1 H1 l1 k1 .non
    | rt d O1 => rw [z] at h; exact fun v w1 H1 l1 k1 r1 => h v w1 H1 l1 k1 r1
    | exc c fs ρ O1 => rw [z] at h; exact fun cv dx σ' w1 H1 l1 k1 _ rx => h cv dx w1 H1 l1 k1 rx
    | bk ρ O1 => rw [z] at h; exact h.elim
    | ct ρ O1 => rw [z] at h; exact h.elim
    | stuck => rw [z] at h; exact h.elim
/-- how many defaults are given: each way binds -/
def BindAll (B : LwB) (K : PySem.W.Frag) (fd : FuncData) (ps : List Str) (dfl : List D) : Prop := ∀ j, j ≤ dfl.length → ∃ (dvs : List V) (ds : List Value), Vals dvs ds ∧ Binds K fd ps ds ∧ ∀ w, RepL (cao B K) w dvs (dfl.drop j)
theorem bind_none {x qual : Str} {st : Stmt} {fd : FuncData} {f : Addr} {kws : List (Str × V)} {ps : List Str} (F : FunD K x qual (defArgs st) (defBody st) (defScope st) [] kws f fd)
    (h : ∀ (kV doc pm : Value) (an : Option Addr) (cdv ct : Value) (us : List Value), us.length = ps.length → bindArgs (PySem.W.fnOf x qual (defArgs st) (defBody st) (defScope st) .none kV doc pm an cdv ct) ⟨us, []⟩ = pure (ps.zip us)) : BindAll B K fd ps [] := fun j hj => by
  obtain rfl : j = 0 := by simpa using hj
  exact ⟨[], [], .nil, F.bindsN h, fun _ => .nil⟩
theorem repL_drop {w : Wd} : ∀ {vs : List V} {ds : List D} (j : Nat), RepL (cao B K) w vs ds → RepL (cao B K) w (vs.drop j) (ds.drop j)
  | _, _, 0, r => r
  | _, _, _ + 1, .nil => .nil
  | _, _, j + 1, .cons _ r => repL_drop j r
theorem bind_dfl {x qual : Str} {st : Stmt} {fd : FuncData} {f : Addr} {kws : List (Str × V)} {dvs : List V} {dfl : List D} {ps : List Str} (F : FunD K x qual (defArgs st) (defBody st) (defScope st) dvs kws f fd) (hne : dvs ≠ []) (hrep : ∀ w, RepL (cao B K) w dvs dfl) (hlen : dfl.length ≤ ps.length)
    (h : ∀ j, j ≤ dfl.length → ∀ (T : Addr) (kV doc pm : Value) (an : Option Addr) (cdv ct : Value) (us its : List Value), us.length + (dfl.length - j) = ps.length → its.length = dfl.length →
      ∃ k, bindArgs (PySem.W.fnOf x qual (defArgs st) (defBody st) (defScope st) (.ref T) kV doc pm an cdv ct) ⟨us, []⟩ = seqItems? (.ref T) >>= k ∧ k (some its.toArray) = pure (ps.zip (us ++ its.drop j))) : BindAll B K fd ps dfl := fun j hj => by
  have hl : dvs.length = dfl.length := (hrep ⟨fun _ => none, [], fun _ => none, fun _ => none, {}⟩).length
  obtain ⟨ds, b1, b2⟩ := F.binds1 (ps := ps) (ps.length - (dfl.length - j)) j hne (by rw [hl]; omega) (fun T kV doc pm an cdv ct us its hu hi => h j hj T kV doc pm an cdv ct us its (by omega) (by rw [hi, hl]))
  exact ⟨dvs.drop j, ds, b1, b2, fun w => repL_drop j (hrep w)⟩
theorem good_m {c m qual : Str} {st : Stmt} {fd : FuncData} {dvs : List V} {kws : List (Str × V)} {dfl : List D} {N ps : List Str} {k n : Nat} (cl : Cls K (He.ga K c)) (me : Meth K (He.ga K c) m (He.ma K (He.ga K c) m)) (F : FunD K m qual (defArgs st) (defBody st) (defScope st) dvs kws (He.ma K (He.ga K c) m) fd)
    (S : FnScope N ps (defScope st)) (hn : ps.length = n) (Bd : BindAll B K fd ps dfl) {b : DTS}
    (hbody : ∀ (cdv : Value) (A : Around) (outer : List Env) (s : Shared) (H : Hp) (E : XK), Room k (A.deeper (PyProof.Rows.envOfC qual (defScope st) s.heap.objs.size (He.ma K (He.ga K c) m) cdv)) →
      DSs (cao B K) (fun cv dx _ H => E cv dx H) (cxOf (L2.CX P w) P w K mg base N qual (defScope st) (He.ma K (He.ga K c) m) cdv A outer s H E) (defBody st) b) : GoodM B P w K mg base c m (k + 1) n (mFn N b) dfl :=
  ⟨cl, me, fd, ps, fnD_of F S hn hbody, Bd⟩
theorem good_i {c qual : Str} {st : Stmt} {fd : FuncData} {dvs : List V} {kws : List (Str × V)} {dfl : List D} {N ps : List Str} {k n : Nat} (mk : Mk K (He.ga K c) (He.ma K (He.ga K c) "__init__")) (hat : mg c = some (.ref (He.ga K c))) (F : FunD K "__init__" qual (defArgs st) (defBody st) (defScope st) dvs kws (He.ma K (He.ga K c) "__init__") fd)
    (S : FnScope N ps (defScope st)) (hn : ps.length = n) (Bd : BindAll B K fd ps dfl) {b : DTS}
    (hbody : ∀ (cdv : Value) (A : Around) (outer : List Env) (s : Shared) (H : Hp) (E : XK), Room k (A.deeper (PyProof.Rows.envOfC qual (defScope st) s.heap.objs.size (He.ma K (He.ga K c) "__init__") cdv)) →
      DSs (cao B K) (fun cv dx _ H => E cv dx H) (cxOf (L2.CX P w) P w K mg base N qual (defScope st) (He.ma K (He.ga K c) "__init__") cdv A outer s H E) (defBody st) b) : GoodI B P w K mg base c (k + 1) n (mFn N b) dfl :=
  ⟨mk, hat, fd, ps, fnD_of F S hn hbody, Bd⟩
end
end Yk

set_option Elab.async false
set_option linter.all false
set_option maxRecDepth 100000
set_option maxHeartbeats 2000000
/-! YkZ: isinstance with the program's own classes. -/
namespace Yk
open PySem PySem.Spec PyProof.Rows L2
variable {B : LwB}
/-- asked of the written part: class by class the answer -/
def isB (tt : List (Str × Str × Bool)) (K : PySem.W.Frag) : Bool := tt.all fun q => decide (PySem.W.kitOne K (.ref (He.ga K q.1)) (.ref (He.ga K q.2.1)) = some q.2.2) &&
  ((He.Fa.cls q.1).ok K && (He.eqO (PySem.W.findIn K (.ref (He.ga K q.1)) "__class__") (some (some (.builtin "object.__class__"))) &&
  (He.eqO (PySem.W.specialIn K (.builtin "object.__class__") "__get__") (some (some (.builtin "getset_descriptor.__get__"))) &&
  (decide (PySem.W.takesIn K (.builtin "object.__class__") = some true) && decide (PySem.W.mroIn K (He.ga K q.1) (.type "object") = some true)))))
structure IsOk (K : PySem.W.Frag) (tt : List (Str × Str × Bool)) : Prop where
  ok : ∀ q ∈ tt, PySem.W.kitOne K (.ref (He.ga K q.1)) (.ref (He.ga K q.2.1)) = some q.2.2 ∧ ∀ (H : Hp) (a dx : Addr) (fs : List (Str × V)), H a = some (.ins (He.ga K q.1) dx fs) → TyOf K H (.ref a) (.ref (He.ga K q.1))
theorem isB_ok {tt : List (Str × Str × Bool)} {K : PySem.W.Frag} (h : isB tt K = true) : IsOk K tt := ⟨fun q hq => by
  obtain ⟨h1, h2⟩ := He.ba (List.all_eq_true.mp h q hq)
  obtain ⟨h3, h4⟩ := He.ba h2
  obtain ⟨h5, h6⟩ := He.ba h4
  obtain ⟨h7, h8⟩ := He.ba h6
  obtain ⟨h9, h10⟩ := He.ba h8
  exact ⟨of_decide_eq_true h1, fun H a dx fs e => .ins e (He.cls_ok h3) (He.eqO_ok h5) (He.eqO_ok h7) (of_decide_eq_true h9) (of_decide_eq_true h10)⟩⟩
def fIsC (tt : List (Str × Str × Bool)) (xs : List D) (O : Sto) : Res := match xs with
  | [x, .cls d] => (match look O x with
    | .obj c _ => (match tt.find? fun q => decide (q.1 = c ∧ q.2.1 = d) with
      | some q => .ok (.bl q.2.2) O
      | none => .stuck)
    | _ => .stuck)
  | _ => .stuck
theorem cs_isC {K : PySem.W.Frag} {tt : List (Str × Str × Bool)} (T : IsOk K tt) : CallS (cao B K) (rIsi K) (fIsC tt) := fun w O H xs ds W σ Q k r h => by
  unfold fIsC at h
  split at h
  · rename_i x d
    obtain ⟨v, u, rfl, r1, r2⟩ := two_rep r
    split at h
    · rename_i c fs e
      obtain ⟨a, C, dx, vs, rfl, hA, hC, _⟩ := look_obj k r1 e
      split at h
      · rename_i q hf
        have hq := List.find?_some hf
        obtain ⟨e1, e2⟩ : q.1 = c ∧ q.2.1 = d := by simpa using hq
        obtain ⟨t1, t2⟩ := T.ok q (List.mem_of_find?_eq_some hf)
        rw [e1] at t1 t2
        rw [e2] at t1
        obtain rfl : He.ga K c = C := Option.some.inj hC
        cases r2 with
        | cls hD =>
          obtain rfl := Option.some.inj hD
          exact ⟨_, _, .ref (He.ga K c), .ref (He.ga K d), q.2.2, rfl, .own _, .base (t2 H a dx vs hA), t1, post_ok k (.bl _) h⟩
      · exact h.elim
    · exact h.elim
  · exact h.elim
theorem fld_cons {K : PySem.W.Frag} {c : Str} {cs : List Str} {f : Str} (h1 : Cls K (He.ga K c)) (h2 : NoAttr K (He.ga K c) f) (h : ∀ d ∈ cs, ∀ C, (cao B K).f d = some C → Cls K C ∧ NoAttr K C f) : ∀ d ∈ c :: cs, ∀ C, (cao B K).f d = some C → Cls K C ∧ NoAttr K C f := fun d hd C hC => by
  rcases List.mem_cons.mp hd with rfl | hd
  · obtain rfl := Option.some.inj hC
    exact ⟨h1, h2⟩
  · exact h d hd C hC
/-- a class by its name -/
theorem de_cls {W : WX} {X : Cx} {c : Str} {pos : Pos} (hg : Gl X c) (hm : X.mg c = some (.ref (He.ga X.K c))) (hd : (c == ("__debug__" : Str)) = false := by decide) : DE (cao B X.K) W X (.Name c pos) (dC (.cls c)) :=
  de_c (pe_glob (v := .ref (He.ga X.K c)) hg hm rfl hd) fun _ => .cls rfl
end Yk

set_option Elab.async false
set_option linter.all false
set_option maxRecDepth 100000
set_option maxHeartbeats 2000000
/-! YlA: == and != of lists whose items are lists of the store. -/
namespace Yk
open PySem PySem.Spec PyProof.Rows L2
def deqLL (O : Sto) (x y : D) : Option Bool := match look O x, look O y with
  | .lst xs, .lst ys => if xs.length = ys.length then deqL (deqV O) xs ys else some false
  | _, _ => none
def fEqL (x y : D) (O : Sto) : Res := match deqLL O x y with
  | some b => .ok (.bl b) O
  | none => .stuck
def fNeL (x y : D) (O : Sto) : Res := match deqLL O x y with
  | some b => .ok (.bl (!b)) O
  | none => .stuck
def rEqL (ca : Cn) : R2 := fun x y H Q => ∃ w O dx dy b, Ok ca w O H ∧ Rep ca w x dx ∧ Rep ca w y dy ∧ deqLL O dx dy = some b ∧ Q (.bl b) H
def rNeL (ca : Cn) : R2 := fun x y H Q => ∃ w O dx dy b, Ok ca w O H ∧ Rep ca w x dx ∧ Rep ca w y dy ∧ deqLL O dx dy = some b ∧ Q (.bl (!b)) H
section
variable {ca : Cn} {X : Cx}
theorem ll_rc {w : Wd} {O : Sto} {H : Hp} {pins : List (Addr × Obj)} {σ : L2.St} {s : Shared} (I : Inv X pins σ H s) (hK : ca.K = X.K) (k : Ok ca w O H) (hu : X.A.units + 64 < cLine) {x y : V} {x' y' : Value} {dx dy : D} {b : Bool} (r1 : Rep ca w x dx) (r2 : Rep ca w y dy) (q1 : RelV x x') (q2 : RelV y y') (h : deqLL O dx dy = some b) :
    SeqAt.RcAt X.A s x' y' b ∧ SeqAt.RcNeAt X.A s x' y' (!b) := by
  unfold deqLL at h
  split at h
  · rename_i xs ys e1 e2
    obtain ⟨a1, vs, rfl, hx, rx⟩ := look_lst k r1 e1
    obtain ⟨a2, us, rfl, hy, ry⟩ := look_lst k r2 e2
    cases q1
    cases q2
    obtain ⟨its, v1, hl1, _⟩ := I.list (hK ▸ hx)
    obtain ⟨its2, v2, hl2, _⟩ := I.list (hK ▸ hy)
    have hl1 := hl1.isList
    have hl2 := hl2.isList
    have s1 : its.toArray.size = xs.length := by rw [List.size_toArray, ← v1.length, rx.length]
    have s2 : its2.toArray.size = ys.length := by rw [List.size_toArray, ← v2.length, ry.length]
    by_cases e : xs.length = ys.length
    · rw [if_pos e] at h
      obtain ⟨al1, al2⟩ := deqL_all h
      have it : ∀ j (h1 : j < its.toArray.size) (h2 : j < its2.toArray.size), SeqAt.EqAt X.A.in1 s its.toArray[j] its2.toArray[j] (match xs[j]?, ys[j]? with
          | some p, some q => (deqV O p q).getD true
          | _, _ => true) := by
        intro j h1 h2
        have l1 : j < its.length := by simpa using h1
        have l2 : j < its2.length := by simpa using h2
        have k1 : j < vs.length := by rw [v1.length]; exact l1
        have k2 : j < us.length := by rw [v2.length]; exact l2
        obtain ⟨p, f1, p1⟩ := rx.get (List.getElem?_eq_getElem k1)
        obtain ⟨q, f2, p2⟩ := ry.get (List.getElem?_eq_getElem k2)
        obtain ⟨z1, g1, m1⟩ := v1.get (List.getElem?_eq_getElem k1)
        obtain ⟨z2, g2, m2⟩ := v2.get (List.getElem?_eq_getElem k2)
        obtain ⟨c, hc⟩ := al1 j p q f1 f2
        rw [f1, f2]
        simp only [hc, Option.getD_some]
        have n1 : its.toArray[j] = z1 := by
          rw [List.getElem?_eq_getElem l1] at g1
          simpa using Option.some.inj g1
        have n2 : its2.toArray[j] = z2 := by
          rw [List.getElem?_eq_getElem l2] at g2
          simpa using Option.some.inj g2
        rw [n1, n2]
        exact eqv_at I hK k (A := X.A.in1) (by show X.A.units + 1 + 45 < cLine; omega) p1 p2 m1 m2 hc
      have sz : its.toArray.size = its2.toArray.size := by rw [s1, s2, e]
      rw [← e, Nat.min_self, ← s1] at al2
      rw [al2]
      exact ⟨.lists hl1 hl2 sz (by omega) it, .lists hl1 hl2 sz (by omega) it⟩
    · rw [if_neg e] at h
      cases h
      have sz : (its.toArray.size != its2.toArray.size) = true := by
        rw [s1, s2]
        simpa using e
      exact ⟨.lists_lengths hl1 hl2 sz (by omega), .lists_lengths hl1 hl2 sz (by omega)⟩
  · cases h
theorem op_eqL (hu : X.A.units + 64 < cLine) (hK : ca.K = X.K := by rfl) : OpR X (compareOp .Eq) (rEqL ca) := by
  intro pins s σ H x y v u Q I rx ry h
  obtain ⟨w, O, dx, dy, b, k, r1, r2, e, q⟩ := h
  exact (ll_rc I hK k hu r1 r2 rx ry e).1 X.prog X.w _ _ ⟨.bl b, H, I, rfl, q⟩
theorem op_neL (hu : X.A.units + 64 < cLine) (hK : ca.K = X.K := by rfl) : OpR X (compareOp .NotEq) (rNeL ca) := by
  intro pins s σ H x y v u Q I rx ry h
  obtain ⟨w, O, dx, dy, b, k, r1, r2, e, q⟩ := h
  exact (ll_rc I hK k hu r1 r2 rx ry e).2 X.prog X.w _ _ ⟨.bl (!b), H, I, rfl, q⟩
theorem ops_eqL : OpS ca (rEqL ca) fEqL := fun w O H x y dx dy W σ Q k r1 r2 h => by
  unfold fEqL at h
  cases z : deqLL O dx dy with
  | none => rw [z] at h; exact h.elim
  | some b =>
    rw [z] at h
    exact ⟨w, O, dx, dy, b, k, r1, r2, z, post_ok k (.bl b) h⟩
theorem ops_neL : OpS ca (rNeL ca) fNeL := fun w O H x y dx dy W σ Q k r1 r2 h => by
  unfold fNeL at h
  cases z : deqLL O dx dy with
  | none => rw [z] at h; exact h.elim
  | some b =>
    rw [z] at h
    exact ⟨w, O, dx, dy, b, k, r1, r2, z, post_ok k (.bl (!b)) h⟩
end
end Yk

set_option Elab.async false
set_option linter.all false
set_option maxRecDepth 100000
set_option maxHeartbeats 2000000
/-! YlB: own exceptions: raise, try. -/
namespace Yk
open PySem PySem.Spec PyProof.Rows L2
/-- an exception class without own __init__, as the written part tells it -/
def ExS (K : PySem.W.Frag) (c : Str) : Prop := PySem.W.excIn K (He.ga K c) He.veBase "ValueError.__new__" = true ∧ PySem.W.keepIn K (.ref (He.ga K c)) = true ∧ PySem.W.subIn K (.ref (He.ga K c)) (.type "BaseException") = some true ∧ PySem.W.typeIn K (.ref (He.ga K c)) = some (.type "type")
/-- which class a clause takes -/
def exmB (xt : List (Str × Str × Bool)) (K : PySem.W.Frag) : Bool := xt.all fun q => decide (PySem.W.exmOne K (.ref (He.ga K q.1)) (.ref (He.ga K q.2.1)) = some q.2.2)
structure XtOk (K : PySem.W.Frag) (xt : List (Str × Str × Bool)) : Prop where
  ok : ∀ q ∈ xt, PySem.W.exmOne K (.ref (He.ga K q.1)) (.ref (He.ga K q.2.1)) = some q.2.2
theorem exmB_ok {xt : List (Str × Str × Bool)} {K : PySem.W.Frag} (h : exmB xt K = true) : XtOk K xt := ⟨fun q hq => of_decide_eq_true (List.all_eq_true.mp h q hq)⟩
def xtOf (xt : List (Str × Str × Bool)) (c h : Str) : Option Bool := (xt.find? fun q => decide (q.1 = c ∧ q.2.1 = h)).map (·.2.2)
theorem XtOk.of {K : PySem.W.Frag} {xt : List (Str × Str × Bool)} (T : XtOk K xt) {c h : Str} {b : Bool} (e : xtOf xt c h = some b) : PySem.W.exmOne K (.ref (He.ga K c)) (.ref (He.ga K h)) = some b := by
  unfold xtOf at e
  cases q : xt.find? fun q => decide (q.1 = c ∧ q.2.1 = h) with
  | none => rw [q] at e; cases e
  | some p =>
    rw [q] at e
    have h1 := List.find?_some q
    have h2 := T.ok p (List.mem_of_find?_eq_some q)
    obtain ⟨e1, e2⟩ := of_decide_eq_true h1
    rw [e1, e2] at h2
    rw [h2]
    exact e
def dRaise (c : Str) : DTS := fun ρ O => .exc c [] ρ O
def noX : Out → Out
  | .exc _ _ _ _ => .stuck
  | r => r
def catchX (xt : List (Str × Str × Bool)) (c : Str) (fs : List (Str × D)) (ρ : Env') (O : Sto) : List (Str × DTS) → Out
  | [] => .exc c fs ρ O
  | (h, m) :: hs => match xtOf xt c h with
    | some true => noX (m ρ O)
    | some false => catchX xt c fs ρ O hs
    | none => .stuck
def dTry (xt : List (Str × Str × Bool)) (mb : DTS) (hs : List (Str × DTS)) : DTS := fun ρ O => match mb ρ O with
  | .exc c fs ρ' O' => catchX xt c fs ρ' O' hs
  | r => r
section
variable {B : LwB} {W : WX} {X : Cx} {pos : Pos}
theorem ds_raise {c m : Str} {j} {p p2 pos' : Pos} (hc : X.calm = true) (tk : Takes X W) (E : ExS X.K c) (hm : X.mg c = some (.ref (He.ga X.K c))) (hg : Gl X c) (hdb : (c == ("__debug__" : Str)) = false := by decide) :
    DS (cao B X.K) W X (.Raise (some (.Call (.Name c p) [.Constant (.str m) j p2] [] pos')) none pos) (dRaise c) :=
  ⟨_, ps_raise hc tk (pmk_own PySem.F.excBase_ValueError E.1 hm E.2.1 (raises_own E.2.2.1 E.2.2.2) hg hdb), fun w O H σ ρ Dn k re h => h (.ref (He.ga X.K c)) none σ w H (Wd.le.refl w) k re ⟨_, rfl, rfl, rfl⟩⟩
/-- the clauses of a try, without names -/
inductive HdsD (ca : Cn) (X : Cx) : List ExceptHandler → List (Str × DTS) → Prop
  | nil : HdsD ca X [] []
  | cons {c : Str} {m : DTS} {b₀ : Stmt} {suite : List Stmt} {np pos' : Pos} {hds : List ExceptHandler} {l : List (Str × DTS)} (hc : Names X c (.ref (He.ga X.K c)))
      (hsu : ∀ (a : Addr) (oe : Obj) (pn : List (Addr × Obj)), DSs ca W0 (X.suite a ((a, oe) :: pn)) (b₀ :: suite) m) (r : HdsD ca X hds l) : HdsD ca X (.ExceptHandler (some (.Name c np)) none (b₀ :: suite) pos' :: hds) ((c, m) :: l)
theorem PostS.noX {ca : Cn} {w : Wd} {W W' : WX} {Dn : Ends} {r : Out} (h : PostS ca w W Dn (noX r)) : PostS ca w W' Dn r := by
  cases r with
  | exc c fs ρ O => exact h.elim
  | nx ρ O => exact h
  | bk ρ O => exact h
  | ct ρ O => exact h
  | rt d O => exact h
  | stuck => exact h
theorem hdsD_ok {xt : List (Str × Str × Bool)} (XT : XtOk X.K xt) : ∀ {hds : List ExceptHandler} {l : List (Str × DTS)}, HdsD (cao B X.K) X hds l →
    ∃ l', HdsOk X hds l' ∧ ∀ (w : Wd) (O : Sto) (H : Hp) (σ : L2.St) (ρ : Env') (Dn : Ends) (c : Str) (fs : List (Str × D)) (cv : Value) (dx : Option Addr), Ok (cao B X.K) w O H → RepE (cao B X.K) w σ ρ → RepX (cao B X.K) w H c fs cv dx →
      PostS (cao B X.K) w W Dn (catchX xt c fs ρ O l) → wMany X.K W Dn l' cv dx σ H
  | _, _, .nil => ⟨[], .nil, fun w O H σ ρ Dn c fs cv dx k re rx h => h cv dx σ w H (Wd.le.refl w) k re rx⟩
  | _, _, .cons (c := h) (m := m) (b₀ := b₀) (suite := suite) hc hsu r => by
    obtain ⟨l', h1, h2⟩ := hdsD_ok XT r
    refine ⟨(.ref (He.ga X.K h), fun a _ _ D σ H => ∀ oe pn, ∃ t, PSs (X.suite a ((a, oe) :: pn)) (b₀ :: suite) t ∧ t D σ H) :: l', .cons hc (fun a oe cls d pn _ _ => ⟨fun pins s σ H D I q => ?_⟩) h1, fun w O H σ ρ Dn c fs cv dx k re rx q => ?_⟩
    · obtain ⟨t, pt, ht⟩ := q oe pn
      exact pt.run pins s σ H D I ht
    · unfold catchX at q
      obtain ⟨C, e1, e2, _⟩ := id rx
      cases e1
      cases z : xtOf xt c h with
      | none => rw [z] at q; exact q.elim
      | some b =>
        rw [z] at q
        refine ⟨b, by rw [e2]; exact XT.of z, fun hb a ha oe pn => ?_, fun hb => ?_⟩
        · subst hb
          obtain ⟨t, pt, st⟩ := hsu a oe pn
          exact ⟨t, pt, st w O H σ ρ Dn k re q.noX⟩
        · subst hb
          exact h2 w O H σ ρ Dn c fs cv dx k re rx q
theorem ds_try {xt : List (Str × Str × Bool)} {body : List Stmt} {h₀ : ExceptHandler} {hds : List ExceptHandler} {l : List (Str × DTS)} {mb : DTS} (hs : X.stack = X.env :: X.outer) (hf : X.env.frame = some X.env.locals) (tk : Takes X W) (XT : XtOk X.K xt)
    (hb : ∀ (W' : WX) (pn : List (Addr × Obj)) (xe : Value → Shared → Prop), Takes (X.tr pn xe) W' → PassesOwn (model X.prog X.w) X.A X.env xe → DSs (cao B X.K) W' (X.tr pn xe) body mb)
    (hh : HdsD (cao B X.K) X (h₀ :: hds) l) : DS (cao B X.K) W X (.Try body (h₀ :: hds) [] [] pos) (dTry xt mb l) := by
  obtain ⟨l', h1, h2⟩ := hdsD_ok (W := W) XT hh
  refine ⟨_, ps_try_many (tb := fun W' D σ H => ∀ pn xe, Takes (X.tr pn xe) W' → PassesOwn (model X.prog X.w) X.A X.env xe → ∃ t, PSs (X.tr pn xe) body t ∧ t D σ H) hs hf tk (fun W' pn xe t1 p1 => ⟨fun pins s σ H D I q => ?_⟩) h1, fun w O H σ ρ Dn k re h => fun pn xe t1 p1 => ?_⟩
  · obtain ⟨t, pt, ht⟩ := q pn xe t1 p1
    exact pt.run pins s σ H D I ht
  · obtain ⟨t, pt, st⟩ := hb _ pn xe t1 p1
    refine ⟨t, pt, st w O H σ ρ Dn k re ?_⟩
    unfold dTry at h
    cases z : mb ρ O with
    | exc c fs ρ' O' =>
      rw [z] at h
      intro cv dx σ' w' H' l1 k1 re1 rx1
      exact h2 w' O' H' σ' ρ' Dn c fs cv dx k1 re1 rx1 (PostS.mono l1 h)
    | nx ρ' O' => rw [z] at h; exact h
    | bk ρ' O' => rw [z] at h; exact h
    | ct ρ' O' => rw [z] at h; exact h
    | rt d O' => rw [z] at h; exact h
    | stuck => rw [z] at h; exact h
end
end Yk

set_option Elab.async false
set_option linter.all false
set_option maxRecDepth 100000
set_option maxHeartbeats 2000000
/-! YlC: sorted. -/
namespace Yk
open PySem PySem.Spec PyProof.Rows L2
mutual
def encD : D → PyData
  | .str s => .str s
  | .int i => .int i
  | .bl b => .bool b
  | .tup ds => .tuple (encDL ds)
  | _ => .none
def encDL : List D → List PyData
  | [] => []
  | d :: ds => encD d :: encDL ds
end
mutual
def sdD : D → Bool
  | .str _ => true
  | .int _ => true
  | .bl _ => true
  | .tup ds => sdDL ds
  | _ => false
def sdDL : List D → Bool
  | [] => true
  | d :: ds => sdD d && sdDL ds
end
section
variable {ca : Cn} {w : Wd} {O : Sto} {H : Hp} {X : Cx} {pins : List (Addr × Obj)} {σ : L2.St} {s : Shared}
mutual
theorem reads_of (I : Inv X pins σ H s) (k : Ok ca w O H) : ∀ {d : D} {v : V} {u : Value}, sdD d = true → Rep ca w v d → L2.RelV v u → ∃ as, Reads s.heap u (encD d) as
  | .str x, _, _, _, .str _, r => by
    obtain ⟨t, e⟩ := r
    subst e
    exact ⟨_, .str x t⟩
  | .int i, _, _, _, .int _, r => by
    obtain ⟨t, e⟩ := r
    subst e
    exact ⟨_, .int i t⟩
  | .bl b, _, _, _, .bl _, r => by
    cases r
    exact ⟨_, .bool b⟩
  | .tup ds, _, _, hd, .tup (a := a) h rl, r => by
    cases r
    obtain ⟨_, its, rv, o, h1, h2, n, h3⟩ := (show ObjOk X.prog X.w H s.heap a (.tup _) from I.hok a _ (k.ext.tup h))
    obtain ⟨as, q⟩ := readsL_of I k (ds := ds) (by unfold sdD at hd; exact hd) rl rv
    exact ⟨as, .tuple h1 h2 h3 q⟩
theorem readsL_of (I : Inv X pins σ H s) (k : Ok ca w O H) : ∀ {ds : List D} {vs : List V} {us : List Value}, sdDL ds = true → RepL ca w vs ds → Vals vs us → ∃ as, ReadsAll s.heap us (encDL ds) as
  | [], _, _, _, .nil, .nil => ⟨_, .nil⟩
  | d :: ds, _, _, hd, .cons h r, .cons q t => by
    unfold sdDL at hd
    obtain ⟨h1, h2⟩ := He.ba hd
    obtain ⟨as, a1⟩ := reads_of I k h1 h q
    obtain ⟨bs, a2⟩ := readsL_of I k h2 r t
    exact ⟨_, .cons a1 a2⟩
end
theorem each_of {vs : List V} : ∀ {us : List Value} {ds : List D}, Vals vs us → RepL ca w vs ds → PySem.W.EachIs (fun u d => ∃ v, L2.RelV v u ∧ Rep ca w v d) us ds
  | _, _, .nil, .nil => .nil
  | _, _, .cons r t, .cons h q => .cons ⟨_, r, h⟩ (each_of t q)
theorem of_each : ∀ {us : List Value} {ds : List D}, PySem.W.EachIs (fun u d => ∃ v, L2.RelV v u ∧ Rep ca w v d) us ds → ∃ vs, Vals vs us ∧ RepL ca w vs ds
  | _, _, .nil => ⟨[], .nil, .nil⟩
  | _, _, .cons ⟨v, h1, h2⟩ t => by
    obtain ⟨vs, a, b⟩ := of_each t
    exact ⟨v :: vs, .cons h1 a, .cons h2 b⟩
theorem each_reads (I : Inv X pins σ H s) (k : Ok ca w O H) : ∀ {us : List Value} {ds : List D}, (∀ d ∈ ds, sdD d = true) → PySem.W.EachIs (fun u d => ∃ v, L2.RelV v u ∧ Rep ca w v d) us ds → PySem.W.EachIs (fun u d => ∃ as, Reads s.heap u (encD d) as) us ds
  | _, _, _, .nil => .nil
  | _, _, hd, .cons ⟨v, h1, h2⟩ t => .cons (reads_of I k (hd _ (List.mem_cons_self ..)) h2 h1) (each_reads I k (fun d h => hd d (List.mem_cons_of_mem _ h)) t)
end
/-- what sorted asks -/
structure SortOk (ds : List D) : Prop where
  sd : ∀ d ∈ ds, sdD d = true
  al : PySem.W.AllAlike (ds.map encD)
  so : PySem.W.Sortable (ds.map encD)
  len : ds.length ≤ 1000000
  dep : ∀ d ∈ ds, (encD d).depth ≤ 16
def sortD (ds : List D) : List D := ds.mergeSort (PySem.W.dataLe false encD)
open Classical in
noncomputable def fSorted (own : Bool) (xs : List D) (O : Sto) : Res := match xs with
  | [x] => (match look O x with
    | .lst ds => if SortOk ds then mkL own (sortD ds) O else .stuck
    | _ => .stuck)
  | _ => .stuck
def rSortD (ca : Cn) : List V → Hp → VK → Prop := fun xs H Q => ∃ (a : Addr) (vs : List V) (w : Wd) (O : Sto) (ds : List D), xs = [.ref a] ∧ Ok ca w O H ∧ SqL ca.K H a vs ∧ RepL ca w vs ds ∧ SortOk ds ∧
  ∀ (vs' : List V) (p : Addr), RepL ca w vs' (sortD ds) → H p = none → Q (.ref p) (upd H p (.lst vs'))
section
variable {ca : Cn} {X : Cx}
theorem cr_sortD (hu : X.A.units + 64 < cLine) (hK : ca.K = X.K := by rfl) : CallR X (.builtin "sorted") (rSortD ca) := by
  intro pins s σ H vs us Q I r h
  obtain ⟨a, vs0, w, O, ds, rfl, k, hs, rl, ok, q⟩ := h
  obtain ⟨its, rv, hl, _⟩ := I.list (hK ▸ hs)
  rw [Vals.ref1 r]
  have e := each_of rv rl
  have lenD : its.length = ds.length := e.length
  refine PySem.W.sorted_data hl.isList e (each_reads I k ok.sd e) ok.al ok.so (by rw [sizeLine_eq]; have := ok.len; omega) (fun b hb => by have := ok.dep b hb; omega) fun out hlen eo => ?_
  obtain ⟨vs', v1, v2⟩ := of_each eo
  obtain ⟨ep, he'⟩ := PyProof.Rows.sortedAll_at s.heap its (List.toArray out)
  have hl2 : vs'.length ≤ sizeLine := by rw [v1.length, hlen, sizeLine_eq]; have := ok.len; omega
  exact ⟨.ref _, upd H (s.heap.objs.size + 1) (.lst vs'), I.laid (t' := s.toks) (fun _ _ => PyProof.Rows.sortedAll_old) (Nat.le_succ _) ⟨hl2, out, ep, v1, by simpa using he'⟩, rfl, q vs' _ v2 (I.hok.fresh (Nat.le_succ _))⟩
theorem cs_sortD (own : Bool) : CallS ca (rSortD ca) (fSorted own) := fun w O H xs ds W σ Q k r h => by
  unfold fSorted at h
  split at h
  · rename_i x
    cases r with
    | cons r1 r2 =>
      cases r2
      cases z : look O x with
      | lst es =>
        rw [z] at h
        obtain ⟨a, vs, e, hs, rl⟩ := look_lst k r1 z
        subst e
        by_cases c : SortOk es
        · dsimp only at h
          rw [if_pos c] at h
          exact ⟨a, vs, w, O, es, rfl, k, hs, rl, c, fun vs' p r' hp => post_mkL k r' h hp⟩
        · dsimp only at h
          rw [if_neg c] at h
          exact h.elim
      | _ => rw [z] at h; exact h.elim
  · exact h.elim
end
end Yk

set_option Elab.async false
set_option linter.all false
set_option maxRecDepth 100000
set_option maxHeartbeats 2000000
/-! YlD: try .. except X as n: the exception that is handled. -/
namespace Yk
open PySem PySem.Spec PyProof.Rows L2 NdefX LamX
/-! ### without the handled exception -/
mutual
def nxD : D → Bool
  | .lst ds => nxL ds
  | .tup ds => nxL ds
  | .dic ds => nxK ds
  | .dit ds => nxT ds
  | .obj _ ds => nxF ds
  | .clo _ ds => nxL ds
  | .xo _ _ => false
  | _ => true
def nxL : List D → Bool
  | [] => true
  | d :: ds => nxD d && nxL ds
def nxK : List (Key × D) → Bool
  | [] => true
  | (_, d) :: ds => nxD d && nxK ds
def nxT : List (List Key × D) → Bool
  | [] => true
  | (_, d) :: ds => nxD d && nxT ds
def nxF : List (Str × D) → Bool
  | [] => true
  | (_, d) :: ds => nxD d && nxF ds
end
def nxO : OD → Bool
  | .lst ds => nxL ds
  | .dic ds => nxK ds
  | .dit ds => nxT ds
  | .ins _ ds => nxF ds
  | .gone => true
  | .lck o => nxO o
def Wd.xaS (w : Wd) (x : Option (Addr × Addr × Option Addr)) : Wd := ⟨w.F, w.ad, w.pv, w.lk, { w.cx with xa := x }⟩
section
variable {ca : Cn} {w : Wd}
mutual
theorem nx_of (hx : w.cx.xa = none) : ∀ {v : V} {d : D}, Rep ca w v d → nxD d = true
  | _, _, .non => by simp [nxD]
  | _, _, .bl b => by simp [nxD]
  | _, _, .int i => by simp [nxD]
  | _, _, .str s => by simp [nxD]
  | _, _, .lst h r => by unfold nxD; exact nxL_of hx r
  | _, _, .tup h r => by unfold nxD; exact nxL_of hx r
  | _, _, .dic h r => by unfold nxD; exact nxK_of hx r
  | _, _, .dit h r => by unfold nxD; exact nxT_of hx r
  | _, _, .obj h hc r => by unfold nxD; exact nxF_of hx r
  | _, _, .loc h => by simp [nxD]
  | _, _, .ty n => by simp [nxD]
  | _, _, .cls h => by simp [nxD]
  | _, _, .clo hs hf hc hk r => by unfold nxD; exact nxL_of hx r
  | _, _, .xo0 h hc => by rw [hx] at h; cases h
  | _, _, .xo h hc hd r => by rw [hx] at h; cases h
  | _, _, .scr h => by simp [nxD]
theorem nxL_of (hx : w.cx.xa = none) : ∀ {v : List V} {d : List D}, RepL ca w v d → nxL d = true
  | _, _, .nil => by simp [nxL]
  | _, _, .cons h r => by unfold nxL; rw [nx_of hx h, nxL_of hx r]; rfl
theorem nxK_of (hx : w.cx.xa = none) : ∀ {v : List (Key × V)} {d : List (Key × D)}, RepK ca w v d → nxK d = true
  | _, _, .nil => by simp [nxK]
  | _, _, .cons h r => by unfold nxK; rw [nx_of hx h, nxK_of hx r]; rfl
theorem nxT_of (hx : w.cx.xa = none) : ∀ {v : List (List Key × V)} {d : List (List Key × D)}, RepT ca w v d → nxT d = true
  | _, _, .nil => by simp [nxT]
  | _, _, .cons h r => by unfold nxT; rw [nx_of hx h, nxT_of hx r]; rfl
theorem nxF_of (hx : w.cx.xa = none) : ∀ {v : List (Str × V)} {d : List (Str × D)}, RepF ca w v d → nxF d = true
  | _, _, .nil => by simp [nxF]
  | _, _, .cons h r => by unfold nxF; rw [nx_of hx h, nxF_of hx r]; rfl
end
theorem nxO_of (hx : w.cx.xa = none) : ∀ {u : HO} {o : OD}, RepO ca w u o → nxO o = true
  | _, _, .lst r => by unfold nxO; exact nxL_of hx r
  | _, _, .dic r => by unfold nxO; exact nxK_of hx r
  | _, _, .dit r => by unfold nxO; exact nxT_of hx r
  | _, _, .ins hc r => by unfold nxO; exact nxF_of hx r
  | _, _, .lck hu r => by unfold nxO; exact nxO_of hx r
variable {x : Option (Addr × Addr × Option Addr)}
theorem xaS_cap {nm : Str} {cl : List (Str × Addr)} {fr : List Str} {vs : List V} (h : CapC w nm cl fr vs) : CapC (w.xaS x) nm cl fr vs := ⟨h.len, h.sub, h.frn, h.inj, h.has⟩
mutual
theorem Rep.xaS : ∀ {v : V} {d : D}, nxD d = true → Rep ca w v d → Rep ca (w.xaS x) v d
  | _, _, _, .non => .non
  | _, _, _, .bl b => .bl b
  | _, _, _, .int i => .int i
  | _, _, _, .str s => .str s
  | _, _, e, .lst h r => .lst h (RepL.xaS (by unfold nxD at e; exact e) r)
  | _, _, e, .tup h r => .tup h (RepL.xaS (by unfold nxD at e; exact e) r)
  | _, _, e, .dic h r => .dic h (RepK.xaS (by unfold nxD at e; exact e) r)
  | _, _, e, .dit h r => .dit h (RepT.xaS (by unfold nxD at e; exact e) r)
  | _, _, e, .obj h hc r => .obj h hc (RepF.xaS (by unfold nxD at e; exact e) r)
  | _, _, _, .loc h => .loc h
  | _, _, _, .ty n => .ty n
  | _, _, _, .cls h => .cls h
  | _, _, e, .clo hs hf hc hk r => .clo hs hf hc (xaS_cap hk) (RepL.xaS (by unfold nxD at e; exact e) r)
  | _, _, e, .xo0 h hc => by simp [nxD] at e
  | _, _, e, .xo h hc hd r => by simp [nxD] at e
  | _, _, _, .scr h => .scr h
theorem RepL.xaS : ∀ {v : List V} {d : List D}, nxL d = true → RepL ca w v d → RepL ca (w.xaS x) v d
  | _, _, _, .nil => .nil
  | _, _, e, .cons h r => .cons (Rep.xaS (by unfold nxL at e; exact (He.ba e).1) h) (RepL.xaS (by unfold nxL at e; exact (He.ba e).2) r)
theorem RepK.xaS : ∀ {v : List (Key × V)} {d : List (Key × D)}, nxK d = true → RepK ca w v d → RepK ca (w.xaS x) v d
  | _, _, _, .nil => .nil
  | _, _, e, .cons h r => .cons (Rep.xaS (by unfold nxK at e; exact (He.ba e).1) h) (RepK.xaS (by unfold nxK at e; exact (He.ba e).2) r)
theorem RepT.xaS : ∀ {v : List (List Key × V)} {d : List (List Key × D)}, nxT d = true → RepT ca w v d → RepT ca (w.xaS x) v d
  | _, _, _, .nil => .nil
  | _, _, e, .cons h r => .cons (Rep.xaS (by unfold nxT at e; exact (He.ba e).1) h) (RepT.xaS (by unfold nxT at e; exact (He.ba e).2) r)
theorem RepF.xaS : ∀ {v : List (Str × V)} {d : List (Str × D)}, nxF d = true → RepF ca w v d → RepF ca (w.xaS x) v d
  | _, _, _, .nil => .nil
  | _, _, e, .cons h r => .cons (Rep.xaS (by unfold nxF at e; exact (He.ba e).1) h) (RepF.xaS (by unfold nxF at e; exact (He.ba e).2) r)
end
theorem RepO.xaS : ∀ {u : HO} {o : OD}, nxO o = true → RepO ca w u o → RepO ca (w.xaS x) u o
  | _, _, e, .lst r => .lst (r.xaS (by unfold nxO at e; exact e))
  | _, _, e, .dic r => .dic (r.xaS (by unfold nxO at e; exact e))
  | _, _, e, .dit r => .dit (r.xaS (by unfold nxO at e; exact e))
  | _, _, e, .ins hc r => .ins hc (r.xaS (by unfold nxO at e; exact e))
  | _, _, e, .lck hu r => .lck hu (RepO.xaS (by unfold nxO at e; exact e) r)
theorem RepO.conv {cb : Cn} (y : ca.same cb) : ∀ {u : HO} {o : OD}, RepO ca w u o → RepO cb w u o
  | _, _, .lst r => .lst (r.conv y)
  | _, _, .dic r => .dic (r.conv y)
  | _, _, .dit r => .dit (r.conv y)
  | _, _, .ins hc r => .ins (by rw [← y.f]; exact hc) (r.conv y)
  | _, _, .lck hu r => .lck hu (RepO.conv y r)
/-- the handled exception is another one from now on -/
theorem Ok.xaS {cb : Cn} {O : Sto} {H : Hp} (k : Ok ca w O H) (y : ca.same cb) (hT : cb.T = ca.T) (hb : cb.bz = ca.bz) (hx : cb.xa = x) (hn : ∀ (i : Nat) (o : OD), O[i]? = some o → nxO o = true) : Ok cb (w.xaS x) O H where
  ext := k.ext
  len := k.len
  nd := k.nd
  here := k.here
  own := fun n a o e1 e2 g => by
    obtain ⟨h1, u, h2, h3⟩ := k.own n a o e1 e2 g
    exact ⟨h1, u, h2, (h3.xaS (hn n o e2)).conv y⟩
  prv := k.prv
  lks := k.lks
  x := ⟨k.x.pvp, k.x.fpl, by rw [hT]; exact k.x.tab, k.x.cel, k.x.offb, by rw [hb]; exact k.x.bzk, hx.symm⟩
end

/-- an exception's dict becomes known -/
theorem Ok.adoptX {ca : Cn} {w : Wd} {O : Sto} {H : Hp} (k : Ok ca w O H) {d : Addr} {vs : List (Str × V)} (h : H d = some (.xd vs)) : Ok ca (w.frz d (.xd vs)) O H ∧ w.le (w.frz d (.xd vs)) := by
  have hf : w.F d = none ∨ w.F d = some (.xd vs) := by
    cases e : w.F d with
    | none => exact .inl rfl
    | some u =>
      rcases k.ext d u e with q | ⟨_, o, q⟩
      · rw [h] at q
        exact .inr q.symm
      · rw [h] at q
        cases q
  refine ⟨k.adopt h hf ?_ fun n o e1 e2 => ?_, Wd.frz_le hf⟩
  · cases e : w.pv d with
    | none => rfl
    | some u =>
      have h1 := (k.prv d u e).1
      have h2 := k.x.pvp d u e
      rw [h] at h1
      cases h1
      cases h2
  · by_cases g : o = .gone
    · exact g
    · obtain ⟨_, u, h2, h3⟩ := k.own n d o e1 e2 g
      rw [h] at h2
      cases h2
      cases h3
def LwB.inX (B : LwB) (a C : Addr) (d : Option Addr) : LwB := { B with xa := some (a, C, d) }
theorem same_inX {B : LwB} {K : PySem.W.Frag} {a C : Addr} {d : Option Addr} : (cao B K).same (cao (B.inX a C d) K) := ⟨rfl, rfl, rfl⟩
theorem same_outX {B : LwB} {K : PySem.W.Frag} {a C : Addr} {d : Option Addr} : (cao (B.inX a C d) K).same (cao B K) := ⟨rfl, rfl, rfl⟩
def nxE (ρ : Env') : Prop := ∀ (j : Nat) (d : D), ρ[j]? = some (some d) → nxD d = true
def StoNx (O O2 : Sto) : Prop := ∀ (i : Nat) (o : OD), O2[i]? = some o → O[i]? = some o ∨ nxO o = true
def EnvNx (ρ ρ2 : Env') : Prop := ∀ (j : Nat) (d : D), ρ2[j]? = some (some d) → ρ[j]? = some (some d) ∨ nxD d = true
open Classical in
/-- the end of a suite with a name in slot i -/
noncomputable def chkX (i : Nat) (ρ : Env') (O : Sto) : Out → Out
  | .nx ρ2 O2 => if EnvNx ρ (ρ2.set i none) ∧ StoNx O O2 then .nx (ρ2.set i none) O2 else .stuck
  | .bk ρ2 O2 => if EnvNx ρ (ρ2.set i none) ∧ StoNx O O2 then .bk (ρ2.set i none) O2 else .stuck
  | .ct ρ2 O2 => if EnvNx ρ (ρ2.set i none) ∧ StoNx O O2 then .ct (ρ2.set i none) O2 else .stuck
  | .rt d O2 => if nxD d = true ∧ StoNx O O2 then .rt d O2 else .stuck
  | _ => .stuck
noncomputable def dTryA (xt : List (Str × Str × Bool)) (mb : DTS) (h : Str) (i : Nat) (m : DTS) : DTS := fun ρ O => match mb ρ O with
  | .exc c fs ρ' O' => (match xtOf xt c h with
    | some true => chkX i ρ' O' (m (ρ'.set i (some (.xo c fs))) O')
    | some false => .exc c fs ρ' O'
    | none => .stuck)
  | r => r
/-- the ends of a named suite -/
abbrev Ends.un (D : Ends) (i : Nat) : Ends := { nx := fun σ' H' => D.nx (σ'.set i none) H', rt := D.rt, bk := fun σ' H' => D.bk (σ'.set i none) H', ct := fun σ' H' => D.ct (σ'.set i none) H' }
theorem repE_none {ca : Cn} {w : Wd} {σ : L2.St} {ρ : Env'} {i : Nat} (h : RepE ca w σ ρ) : RepE ca w (σ.set i none) (ρ.set i none) := by
  refine ⟨by simpa using h.1, fun j d e => ?_⟩
  by_cases hij : i = j
  · subst hij
    by_cases hl : i < ρ.length
    · rw [List.getElem?_set_self hl] at e
      cases e
    · rw [List.getElem?_eq_none (by simpa using hl)] at e
      cases e
  · rw [List.getElem?_set_ne hij] at e
    obtain ⟨v, a, b⟩ := h.2 j d e
    exact ⟨v, by rw [List.getElem?_set_ne hij]; exact a, b⟩
section
variable {B : LwB} {W : WX} {X : Cx} {pos : Pos}
theorem chk_ok {K : PySem.W.Frag} {w w1 : Wd} {O : Sto} {H : Hp} {σ : L2.St} {ρ : Env'} {a C : Addr} {d : Option Addr} {i : Nat} {r : Out} {Dn : Ends} (hB : B.xa = none) (hwx : w.cx.xa = none) (hw1 : w1.cx.xa = some (a, C, d)) (hF : ∀ b u, w.F b = some u → w1.F b = some u) (ha : ∀ (n : Nat) (b : Addr), w.ad[n]? = some b → w1.ad[n]? = some b) (hp : w1.pv = w.pv) (hl : w1.lk = w.lk) (hcl : w1.cx.cl = w.cx.cl) (hof : w1.cx.off = w.cx.off) (hbz : w1.cx.bz = w.cx.bz)
    (k : Ok (cao B K) w O H) (re : RepE (cao B K) w σ ρ) (h : PostS (cao B K) w W Dn (chkX i ρ O r)) : PostS (cao (B.inX a C d) K) w1 W0 (Ends.un Dn i) r := by
  have oldO : ∀ {O2 : Sto}, StoNx O O2 → ∀ (n : Nat) (o : OD), O2[n]? = some o → nxO o = true := fun {O2} hs n o e => by
    rcases hs n o e with q | q
    · by_cases g : o = .gone
      · rw [g] <;> rfl
      · have hn : n < w.ad.length := by rw [k.len]; exact (List.getElem?_eq_some_iff.mp q).1
        obtain ⟨_, u, _, h3⟩ := k.own n _ o (List.getElem?_eq_getElem hn) q g
        exact nxO_of hwx h3
    · exact q
  have oldE : ∀ {ρ2 : Env'}, EnvNx ρ ρ2 → ∀ (j : Nat) (dd : D), ρ2[j]? = some (some dd) → nxD dd = true := fun {ρ2} hs j dd e => by
    rcases hs j dd e with q | q
    · obtain ⟨v, _, r⟩ := re.2 j dd q
      exact nx_of hwx r
    · exact q
  have leq : ∀ {w' : Wd}, w1.le w' → w.le (w'.xaS none) := fun {w'} l => ⟨fun b u e => l.F _ _ (hF b u e), fun n b e => l.ad _ _ (ha n b e), l.pv.trans hp, l.lk.trans hl, ⟨fun c p e => l.cx.cl c p (by rw [hcl]; exact e), l.cx.off.trans hof, l.cx.bz.trans hbz, hwx.symm⟩⟩
  have okq : ∀ {w' : Wd} {O2 : Sto} {H2 : Hp}, StoNx O O2 → Ok (cao (B.inX a C d) K) w' O2 H2 → Ok (cao B K) (w'.xaS none) O2 H2 := fun hs k2 => k2.xaS same_outX rfl rfl hB (oldO hs)
  have envq : ∀ {w' : Wd} {σ2 : L2.St} {ρ2 : Env'}, EnvNx ρ (ρ2.set i none) → RepE (cao (B.inX a C d) K) w' σ2 ρ2 → RepE (cao B K) (w'.xaS none) (σ2.set i none) (ρ2.set i none) := fun {w' σ2 ρ2} hs r2 => by
    have r3 := repE_none (i := i) r2
    exact ⟨r3.1, fun j dd e => let ⟨v, q1, q2⟩ := r3.2 j dd e; ⟨v, q1, (q2.xaS (oldE hs j dd e)).conv same_outX⟩⟩
  cases r with
  | nx ρ2 O2 =>
    unfold chkX at h
    dsimp only at h
    by_cases c : EnvNx ρ (ρ2.set i none) ∧ StoNx O O2
    · rw [if_pos c] at h
      exact fun σ' w' H' l k2 r2 => h _ _ _ (leq l) (okq c.2 k2) (envq c.1 r2)
    · rw [if_neg c] at h; exact h.elim
  | bk ρ2 O2 =>
    unfold chkX at h
    dsimp only at h
    by_cases c : EnvNx ρ (ρ2.set i none) ∧ StoNx O O2
    · rw [if_pos c] at h
      exact fun σ' w' H' l k2 r2 => h _ _ _ (leq l) (okq c.2 k2) (envq c.1 r2)
    · rw [if_neg c] at h; exact h.elim
  | ct ρ2 O2 =>
    unfold chkX at h
    dsimp only at h
    by_cases c : EnvNx ρ (ρ2.set i none) ∧ StoNx O O2
    · rw [if_pos c] at h
      exact fun σ' w' H' l k2 r2 => h _ _ _ (leq l) (okq c.2 k2) (envq c.1 r2)
    · rw [if_neg c] at h; exact h.elim
  | rt dd O2 =>
    unfold chkX at h
    dsimp only at h
    by_cases c : nxD dd = true ∧ StoNx O O2
    · rw [if_pos c] at h
      exact fun v w' H' l k2 r2 => h v _ _ (leq l) (okq c.2 k2) ((r2.xaS c.1).conv same_outX)
    · rw [if_neg c] at h; exact h.elim
  | exc c fs ρ2 O2 => exact h.elim
  | stuck => exact h.elim
theorem ds_tryA {xt : List (Str × Str × Bool)} {body : List Stmt} {b₀ : Stmt} {suite : List Stmt} {np pos' : Pos} {mb m : DTS} {h n : Str} {i : Nat} (hs : X.stack = X.env :: X.outer) (hf : X.env.frame = some X.env.locals) (hN : X.N.Nodup) (hi : X.N[i]? = some n) (hln : X.env.kindOf n = some .local) (hc : Names X h (.ref (He.ga X.K h))) (tk : Takes X W) (XT : XtOk X.K xt) (hB : B.xa = none)
    (hb : ∀ (W' : WX) (pn : List (Addr × Obj)) (xe : Value → Shared → Prop), Takes (X.tr pn xe) W' → PassesOwn (model X.prog X.w) X.A X.env xe → DSs (cao B X.K) W' (X.tr pn xe) body mb)
    (hsu : ∀ (a C : Addr) (d : Option Addr) (oe : Obj) (pn : List (Addr × Obj)), Zc (.ref C) d oe → (∃ vs, oe.data = .fields vs) → DSs (cao (B.inX a C d) X.K) W0 (X.suite a ((a, oe) :: pn)) (b₀ :: suite) m) :
    DS (cao B X.K) W X (.Try body [.ExceptHandler (some (.Name h np)) (some n) (b₀ :: suite) pos'] [] [] pos) (dTryA xt mb h i m) := by
  refine ⟨_, ps_try_as (i := i) (tb := fun W' D σ H => ∀ pn xe, Takes (X.tr pn xe) W' → PassesOwn (model X.prog X.w) X.A X.env xe → ∃ t, PSs (X.tr pn xe) body t ∧ t D σ H)
    (ts := fun a cls d D σ H => ∃ C, cls = .ref C ∧ ∀ oe pn, Zc (.ref C) d oe → (∃ vs, oe.data = .fields vs) → ∃ t, PSs (X.suite a ((a, oe) :: pn)) (b₀ :: suite) t ∧ t D σ H) hs hf hN hi hln hc tk (fun W' pn xe t1 p1 => ⟨fun pins s σ H D I q => ?_⟩) (fun a oe cls d pn hz hfl => ⟨fun pins s σ H D I q => ?_⟩), fun w O H σ ρ Dn k re h => fun pn xe t1 p1 => ?_⟩
  · obtain ⟨t, pt, ht⟩ := q pn xe t1 p1
    exact pt.run pins s σ H D I ht
  · obtain ⟨C, rfl, q⟩ := q
    obtain ⟨t, pt, ht⟩ := q oe pn hz hfl
    exact pt.run pins s σ H D I ht
  · obtain ⟨t, pt, st⟩ := hb _ pn xe t1 p1
    refine ⟨t, pt, st w O H σ ρ Dn k re ?_⟩
    unfold dTryA at h
    cases z : mb ρ O with
    | exc c fs ρ' O' =>
      rw [z] at h
      intro cv dx σ' w' H' l1 k1 re1 rx1
      dsimp only at h
      obtain ⟨C, e1, e2, e3⟩ := id rx1
      cases e1
      cases zt : xtOf xt c _ with
      | none => rw [zt] at h; exact h.elim
      | some b =>
        rw [zt] at h
        refine ⟨b, by rw [e2]; exact XT.of zt, fun hb2 a hna => ?_, fun hb2 => ?_⟩
        · subst hb2
          refine ⟨_, e2, fun oe pn2 hz hfl => ?_⟩
          obtain ⟨t2, pt2, st2⟩ := hsu a _ dx oe pn2 hz hfl
          refine ⟨t2, pt2, ?_⟩
          have hwx : w'.cx.xa = none := k1.x.xak.trans hB
          have oldO : ∀ (n : Nat) (o : OD), O'[n]? = some o → nxO o = true := fun n o e => by
            by_cases g : o = .gone
            · rw [g] <;> rfl
            · have hn : n < w'.ad.length := by rw [k1.len]; exact (List.getElem?_eq_some_iff.mp e).1
              obtain ⟨_, u, _, h3⟩ := k1.own n _ o (List.getElem?_eq_getElem hn) e g
              exact nxO_of hwx h3
          have h3 : PostS (cao B X.K) w' W Dn (chkX i ρ' O' (m (ρ'.set i (some (.xo c fs))) O')) := PostS.mono l1 h
          have go : ∀ wA : Wd, w'.le wA → Ok (cao B X.K) wA O' H' → Rep (cao (B.inX a (He.ga X.K c) dx) X.K) (wA.xaS (some (a, He.ga X.K c, dx))) (.ref a) (.xo c fs) → t2 (Ends.un Dn i) (σ'.set i (some (.ref a))) H' := fun wA lA kA rA => by
            have hwa : wA.cx.xa = none := lA.cx.xa.trans hwx
            refine st2 (wA.xaS (some (a, He.ga X.K c, dx))) O' H' _ (ρ'.set i (some (.xo c fs))) _ (kA.xaS same_inX rfl rfl rfl oldO) (RepE.set ?_ rA) ?_
            · have := re1.mono lA
              exact ⟨this.1, fun j dd e => let ⟨v, q1, q2⟩ := this.2 j dd e; ⟨v, q1, (q2.xaS (nx_of hwa q2)).conv same_inX⟩⟩
            · exact chk_ok hB hwa rfl (fun _ _ e => e) (fun _ _ e => e) rfl rfl rfl rfl rfl kA (re1.mono lA) (PostS.mono lA h3)
          cases dx with
          | none =>
            have e3 : fs = [] := e3
            subst e3
            exact go w' (Wd.le.refl _) k1 (.xo0 rfl rfl)
          | some d =>
            obtain ⟨vs, hd, rf⟩ := (show ∃ vs, H' d = some (.xd vs) ∧ RepF (cao B X.K) w' vs fs from e3)
            obtain ⟨kA, lA⟩ := k1.adoptX hd
            exact go _ lA kA (.xo rfl rfl Wd.frz_at (((rf.mono lA).xaS (nxF_of hwx rf)).conv same_inX))
        · subst hb2
          exact PostS.mono l1 h cv dx σ' w' H' (Wd.le.refl _) k1 re1 rx1
    | nx ρ' O' => rw [z] at h; exact h
    | bk ρ' O' => rw [z] at h; exact h
    | ct ρ' O' => rw [z] at h; exact h
    | rt d O' => rw [z] at h; exact h
    | stuck => rw [z] at h; exact h
end
end Yk

set_option Elab.async false
set_option linter.all false
set_option maxRecDepth 100000
set_option maxHeartbeats 2000000
/-! YlE: the handled exception looked at; exceptions with a field. -/
namespace Yk
open PySem PySem.Spec PyProof.Rows L2 NdefX LamX
/-- what the written part tells of an exception class whose things are looked at -/
structure ExI (K : PySem.W.Frag) (C : Addr) : Prop where
  cl : (PySem.W.clsIn K C).isSome = true
  ga : PySem.W.findIn K (.ref C) "__getattribute__" = some (some (.builtin "BaseException.__getattribute__"))
  gg : PySem.W.findIn K (.ref C) "__getattr__" = some none
  sub : PySem.W.subIn K (.ref C) (.type "BaseException") = some true
  ca : PySem.W.findIn K (.ref C) "__class__" = some (some (.builtin "object.__class__"))
  cg : PySem.W.specialIn K (.builtin "object.__class__") "__get__" = some (some (.builtin "getset_descriptor.__get__"))
  tk : PySem.W.takesIn K (.builtin "object.__class__") = some true
  mo : PySem.W.mroIn K C (.type "object") = some true
def exiB1 (K : PySem.W.Frag) (C : Addr) : Bool := (PySem.W.clsIn K C).isSome && (He.eqO (PySem.W.findIn K (.ref C) "__getattribute__") (some (some (.builtin "BaseException.__getattribute__"))) && (He.eqO (PySem.W.findIn K (.ref C) "__getattr__") (some none) &&
  (decide (PySem.W.subIn K (.ref C) (.type "BaseException") = some true) && (He.eqO (PySem.W.findIn K (.ref C) "__class__") (some (some (.builtin "object.__class__"))) && (He.eqO (PySem.W.specialIn K (.builtin "object.__class__") "__get__") (some (some (.builtin "getset_descriptor.__get__"))) &&
  (decide (PySem.W.takesIn K (.builtin "object.__class__") = some true) && decide (PySem.W.mroIn K C (.type "object") = some true)))))))
theorem exiB1_ok {K : PySem.W.Frag} {C : Addr} (h : exiB1 K C = true) : ExI K C := by
  obtain ⟨h1, h⟩ := He.ba h
  obtain ⟨h2, h⟩ := He.ba h
  obtain ⟨h3, h⟩ := He.ba h
  obtain ⟨h4, h⟩ := He.ba h
  obtain ⟨h5, h⟩ := He.ba h
  obtain ⟨h6, h⟩ := He.ba h
  obtain ⟨h7, h8⟩ := He.ba h
  exact ⟨h1, He.eqO_ok h2, He.eqO_ok h3, of_decide_eq_true h4, He.eqO_ok h5, He.eqO_ok h6, of_decide_eq_true h7, of_decide_eq_true h8⟩
/-- an exception's class against others: own ones, built-in ones -/
structure XTab where
  own : List (Str × Str × Bool)
  blt : List (Str × String × Bool)
def xisB (t : XTab) (K : PySem.W.Frag) : Bool := (t.own.all fun q => decide (PySem.W.kitOne K (.ref (He.ga K q.1)) (.ref (He.ga K q.2.1)) = some q.2.2) && exiB1 K (He.ga K q.1)) && t.blt.all fun q => decide (PySem.W.kitOne K (.ref (He.ga K q.1)) (.type q.2.1) = some q.2.2) && exiB1 K (He.ga K q.1)
structure XisOk (K : PySem.W.Frag) (t : XTab) : Prop where
  own : ∀ q ∈ t.own, PySem.W.kitOne K (.ref (He.ga K q.1)) (.ref (He.ga K q.2.1)) = some q.2.2 ∧ ExI K (He.ga K q.1)
  blt : ∀ q ∈ t.blt, PySem.W.kitOne K (.ref (He.ga K q.1)) (.type q.2.1) = some q.2.2 ∧ ExI K (He.ga K q.1)
theorem xisB_ok {t : XTab} {K : PySem.W.Frag} (h : xisB t K = true) : XisOk K t := by
  obtain ⟨h1, h2⟩ := He.ba h
  refine ⟨fun q hq => ?_, fun q hq => ?_⟩
  · obtain ⟨a, b⟩ := He.ba (List.all_eq_true.mp h1 q hq)
    exact ⟨of_decide_eq_true a, exiB1_ok b⟩
  · obtain ⟨a, b⟩ := He.ba (List.all_eq_true.mp h2 q hq)
    exact ⟨of_decide_eq_true a, exiB1_ok b⟩
def isX1 (t : XTab) (c : Str) : D → Option Bool
  | .cls h => (t.own.find? fun q => decide (q.1 = c ∧ q.2.1 = h)).map (·.2.2)
  | .ty n => (t.blt.find? fun q => decide (q.1 = c ∧ q.2.1 = n)).map (·.2.2)
  | _ => none
def isXL (t : XTab) (c : Str) : List D → Option Bool
  | [] => some false
  | d :: ds => match isX1 t c d with
    | some true => some true
    | some false => isXL t c ds
    | none => none
def isXall (t : XTab) (c : Str) (ds : List D) : Bool := ds.all fun d => (isX1 t c d).isSome
def fIsX (t : XTab) (xs : List D) (O : Sto) : Res := match xs with
  | [.xo c _, .tup ds] => if (isXall t c ds && !ds.isEmpty) = true then (match isXL t c ds with
    | some b => .ok (.bl b) O
    | none => .stuck) else .stuck
  | [.xo c _, d] => (match isX1 t c d with
    | some b => .ok (.bl b) O
    | none => .stuck)
  | _ => .stuck
/-- isinstance of the handled exception at a, of the class at C, its dict at d -/
def rIsX (K : PySem.W.Frag) (a C : Addr) (d : Option Addr) : List V → Hp → VK → Prop := fun xs H Q => ExI K C ∧ (d = none ∨ ∃ dd vs, d = some dd ∧ H dd = some (.xd vs)) ∧
  ((∃ (c : V) (u : Value) (b : Bool), xs = [.ref a, c] ∧ ClsV c u ∧ PySem.W.kitOne K (.ref C) u = some b ∧ Q (.bl b) H) ∨
   ∃ (tp : Addr) (cs : List V) (us : List Value) (b : Bool), xs = [.ref a, .ref tp] ∧ H tp = some (.tup cs) ∧ Paired ClsV cs us ∧ PySem.W.kitAny K (.ref C) us = some b ∧ Q (.bl b) H)
section
variable {B : LwB} {X : Cx} {a C : Addr} {d : Option Addr} {oe : Obj} {pn : List (Addr × Obj)}
theorem inst_x {pins : List (Addr × Obj)} {σ : L2.St} {H : Hp} {s : Shared} (hz : Zc (.ref C) d oe) (hfl : ∃ vs, oe.data = .fields vs) (I : Inv (X.suite a ((a, oe) :: pn)) pins σ H s) (hd : d = none ∨ ∃ dd vs, d = some dd ∧ H dd = some (.xd vs)) : ∃ od, PySem.W.InstAt s.heap a oe C od := by
  obtain ⟨ha, _⟩ := I.pin (a, oe) (List.mem_append_left _ List.mem_cons_self)
  obtain ⟨vs, hv⟩ := hfl
  have nc : PySem.W.notCls oe := by unfold PySem.W.notCls; rw [hv] <;> rfl
  rcases hd with hd | ⟨dd, fs, hd, hx⟩
  · subst hd
    exact ⟨none, ha, hz.1, nc, by rw [hz.2]; trivial⟩
  · subst hd
    obtain ⟨mA, hns, _⟩ := (show ObjOk X.prog X.w H s.heap dd (.xd fs) from I.hok dd _ hx)
    obtain ⟨od, ho, _⟩ := lookIn_ns hns
    exact ⟨some od, ha, hz.1, nc, by rw [hz.2]; exact ho⟩
theorem call_isX (hz : Zc (.ref C) d oe) (hfl : ∃ vs, oe.data = .fields vs) : CallR (X.suite a ((a, oe) :: pn)) (.builtin "isinstance") (rIsX X.K a C d) := by
  intro pins s σ H xs us Q I r h
  obtain ⟨E, hd, h⟩ := h
  obtain ⟨od, J⟩ := inst_x hz hfl I hd
  have Z : PySem.W.KitX X.K (.ref a) (.ref C) (fun h => PySem.W.InstAt h a oe C od) := PySem.W.kitx_exc E.cl E.ga E.gg E.sub E.ca E.cg E.tk E.mo
  rcases h with ⟨c, u, b, rfl, k, e, q⟩ | ⟨tp, cs, ws, b, rfl, hT, k, e, q⟩
  · obtain ⟨u1, u2, rfl, r1, r2⟩ := vals2 r
    cases (show u1 = Value.ref a from r1)
    have e2 := k.eq r2
    subst e2
    exact PySem.W.kia_one Z I.kIn J e (fun z => nomatch z) fun tk => ⟨.bl b, H, I.tok tk, rfl, q⟩
  · obtain ⟨u1, u2, rfl, r1, r2⟩ := vals2 r
    cases (show u1 = Value.ref a from r1)
    cases (show u2 = Value.ref tp from r2)
    obtain ⟨_, its, rv, o, h1, h2, n, h3⟩ := (show ObjOk X.prog X.w H s.heap tp (.tup cs) from I.hok tp _ hT)
    have e3 := ClsV.all k rv
    subst e3
    obtain ⟨oc, od', dt, sl⟩ := o
    simp only at h2 h3
    subst h2 h3
    exact PySem.W.kia_tup Z I.kIn J h1 e (fun z => nomatch z) fun tk => ⟨.bl b, H, I.tok tk, rfl, q⟩
theorem isX1_ok {K : PySem.W.Frag} {t : XTab} (T : XisOk K t) {w : Wd} {c : Str} {dv : D} {v : V} {b : Bool} (r : Rep (cao B K) w v dv) (e : isX1 t c dv = some b) : ∃ u, ClsV v u ∧ PySem.W.kitOne K (.ref (He.ga K c)) u = some b ∧ ExI K (He.ga K c) := by
  cases r with
  | @cls CC h hC =>
    have hC : some (He.ga K h) = some CC := hC
    cases hC
    unfold isX1 at e
    dsimp only at e
    cases q : t.own.find? fun q => decide (q.1 = c ∧ q.2.1 = h) with
    | none => rw [q] at e; cases e
    | some p =>
      rw [q] at e
      have q1 := List.find?_some q
      obtain ⟨e1, e2⟩ := of_decide_eq_true q1
      obtain ⟨h1, h2⟩ := T.own p (List.mem_of_find?_eq_some q)
      rw [e1, e2] at h1
      rw [e1] at h2
      exact ⟨_, .own _, by rw [h1]; exact e, h2⟩
  | ty n =>
    unfold isX1 at e
    dsimp only at e
    cases q : t.blt.find? fun q => decide (q.1 = c ∧ q.2.1 = n) with
    | none => rw [q] at e; cases e
    | some p =>
      rw [q] at e
      have q1 := List.find?_some q
      obtain ⟨e1, e2⟩ := of_decide_eq_true q1
      obtain ⟨h1, h2⟩ := T.blt p (List.mem_of_find?_eq_some q)
      rw [e1, e2] at h1
      rw [e1] at h2
      exact ⟨_, .ty n, by rw [h1]; exact e, h2⟩
  | _ => simp [isX1] at e
theorem isXL_ok {K : PySem.W.Frag} {t : XTab} (T : XisOk K t) {w : Wd} {c : Str} : ∀ {ds : List D} {vs : List V} {b : Bool}, (∀ dv ∈ ds, ∃ b, isX1 t c dv = some b) → RepL (cao B K) w vs ds → isXL t c ds = some b → ∃ us, Paired ClsV vs us ∧ PySem.W.kitAny K (.ref (He.ga K c)) us = some b
  | [], _, b, _, .nil, e => by
    unfold isXL at e
    cases e
    exact ⟨[], .nil, kitAny_nil⟩
  | dv :: ds, _, b, hall, .cons r1 r2, e => by
    obtain ⟨b1, hb1⟩ := hall dv (List.mem_cons_self ..)
    obtain ⟨u, k1, k2, _⟩ := isX1_ok T r1 hb1
    unfold isXL at e
    rw [hb1] at e
    have rest : ∀ b', isXL t c ds = some b' → ∃ us, Paired ClsV _ us ∧ PySem.W.kitAny K (.ref (He.ga K c)) us = some b' := fun b' e' => isXL_ok T (fun x hx => hall x (List.mem_cons_of_mem _ hx)) r2 e'
    have hasr : ∃ b', isXL t c ds = some b' := by
      have : ∀ {ds : List D}, (∀ dv ∈ ds, ∃ b, isX1 t c dv = some b) → ∃ b', isXL t c ds = some b' := by
        intro ds
        induction ds with
        | nil => exact fun _ => ⟨false, rfl⟩
        | cons x xs ih =>
          intro h
          obtain ⟨b2, hb2⟩ := h x (List.mem_cons_self ..)
          unfold isXL
          rw [hb2]
          cases b2 with
          | true => exact ⟨true, rfl⟩
          | false => exact ih fun y hy => h y (List.mem_cons_of_mem _ hy)
      exact this fun x hx => hall x (List.mem_cons_of_mem _ hx)
    cases b1 with
    | true =>
      cases e
      obtain ⟨b', e'⟩ := hasr
      obtain ⟨us, p1, p2⟩ := rest b' e'
      exact ⟨u :: us, .cons k1 p1, kitAny_cons k2 (fun z => nomatch z) fun _ => rfl⟩
    | false =>
      obtain ⟨us, p1, p2⟩ := rest b e
      exact ⟨u :: us, .cons k1 p1, kitAny_cons k2 (fun _ => p2) fun z => nomatch z⟩
theorem cs_isX {K : PySem.W.Frag} {t : XTab} (T : XisOk K t) : CallS (cao (B.inX a C d) K) (rIsX K a C d) (fIsX t) := fun w O H xs ds W σ Q k r h => by
  have hxa : w.cx.xa = some (a, C, d) := k.x.xak
  have key : ∀ {v : V} {c : Str} {fs : List (Str × D)}, Rep (cao (B.inX a C d) K) w v (.xo c fs) → v = .ref a ∧ He.ga K c = C ∧ (d = none ∨ ∃ dd vs, d = some dd ∧ H dd = some (.xd vs)) := fun {v c fs} r => by
    cases r with
    | xo0 hx hc =>
      rw [hxa] at hx
      cases hx
      exact ⟨rfl, Option.some.inj hc, .inl rfl⟩
    | @xo _ _ _ _ vs _ hx hc hd rf =>
      rw [hxa] at hx
      cases hx
      refine ⟨rfl, Option.some.inj hc, .inr ⟨_, vs, rfl, ?_⟩⟩
      rcases k.ext _ _ hd with q | ⟨q, _⟩
      · exact q
      · cases q
  unfold fIsX at h
  split at h
  · rename_i c fs es
    cases r with
    | cons r1 r2 =>
      cases r2 with
      | cons r3 r4 =>
        cases r4
        obtain ⟨e1, e2, e3⟩ := key r1
        subst e1
        split at h
        · rename_i hc
          cases r3 with
          | @tup tp vs _ hF rl =>
            have hall : ∀ dv ∈ es, ∃ b, isX1 t c dv = some b := fun dv hdv => Option.isSome_iff_exists.mp (List.all_eq_true.mp (He.ba hc).1 dv hdv)
            cases z : isXL t c es with
            | none => rw [z] at h; exact h.elim
            | some b =>
              rw [z] at h
              obtain ⟨us, p1, p2⟩ := isXL_ok T hall rl z
              cases es with
              | nil => have := (He.ba hc).2; simp at this
              | cons e0 es =>
                cases rl with
                | cons q1 q2 =>
                  obtain ⟨b0, hb0⟩ := hall e0 (List.mem_cons_self ..)
                  obtain ⟨_, _, _, E⟩ := isX1_ok T q1 hb0
                  rw [e2] at E p2
                  exact ⟨E, e3, .inr ⟨tp, _, us, b, rfl, k.ext.tup hF, p1, p2, post_ok k (.bl b) h⟩⟩
        · exact h.elim
  · rename_i c fs dv _
    cases r with
    | cons r1 r2 =>
      cases r2 with
      | cons r3 r4 =>
        cases r4
        obtain ⟨e1, e2, e3⟩ := key r1
        subst e1
        cases z : isX1 t c dv with
        | none => rw [z] at h; exact h.elim
        | some b =>
          rw [z] at h
          obtain ⟨u, p1, p2, E⟩ := isX1_ok T r3 z
          rw [e2] at E p2
          exact ⟨E, e3, .inl ⟨_, u, b, rfl, p1, p2, post_ok k (.bl b) h⟩⟩
  · exact h.elim
end
end Yk

set_option Elab.async false
set_option linter.all false
set_option maxRecDepth 100000
set_option maxHeartbeats 2000000
/-! YlF: list.count, list.index of flat things; a field of the handled exception; raise X(e). -/
namespace Yk
open PySem PySem.Spec PyProof.Rows L2 NdefX LamX
/-! ### count, index -/
def vOf : D → Option V
  | .non => some .non
  | .bl b => some (.bl b)
  | .int i => some (.int i)
  | .str s => some (.str s)
  | _ => none
def vsOf : List D → Option (List V)
  | [] => some []
  | d :: ds => (vOf d).bind fun v => (vsOf ds).map (v :: ·)
theorem vOf_rep {ca : Cn} {w : Wd} {v u : V} {d : D} (r : Rep ca w v d) (e : vOf d = some u) : v = u ∧ flatV u = true := by
  cases r <;> simp only [vOf, Option.some.injEq, reduceCtorEq] at e <;> (subst e; exact ⟨rfl, rfl⟩)
theorem vsOf_rep {ca : Cn} {w : Wd} : ∀ {vs us : List V} {ds : List D}, RepL ca w vs ds → vsOf ds = some us → vs = us ∧ us.all flatV = true
  | _, _, _, .nil, e => by
    simp only [vsOf, Option.some.injEq] at e
    subst e
    exact ⟨rfl, rfl⟩
  | _, us, _, .cons (d := d) (ds := ds) h r, e => by
    unfold vsOf at e
    cases q : vOf d with
    | none => rw [q] at e; cases e
    | some u =>
      rw [q] at e
      cases q2 : vsOf ds with
      | none => rw [q2] at e; cases e
      | some ws =>
        rw [q2] at e
        cases e
        obtain ⟨e1, f1⟩ := vOf_rep h q
        obtain ⟨e2, f2⟩ := vsOf_rep r q2
        subst e1 e2
        exact ⟨rfl, by rw [List.all_cons, f1, f2] <;> rfl⟩
def rCountF (K : PySem.W.Frag) : V → List V → Hp → VK → Prop := fun x xs H Q => ∃ (a : Addr) (ys : List V) (y : V), x = V.ref a ∧ xs = [y] ∧ SqL K H a ys ∧ flatV y = true ∧ ys.all flatV = true ∧ Q (.int (ys.countP fun z => eqV z y : Nat)) H
theorem countP_vals {y : V} : ∀ {ys : List V} {us : List Value}, Vals ys us → ys.all flatV = true → us.countP (eqU y) = ys.countP fun z => eqV z y
  | _, _, .nil, _ => rfl
  | _, _, .cons r t, f => by
    rw [List.all_cons] at f
    obtain ⟨f1, f2⟩ := He.ba f
    rw [List.countP_cons, List.countP_cons, countP_vals t f2, eqU_of r f1]
theorem mt_countF {X : Cx} : MtR X "list.count" (rCountF X.K) := by
  intro pins s σ H x xs v us Q I rx rxs h
  obtain ⟨a, ys, y, rfl, rfl, hs, fy, fys, q⟩ := h
  cases rx
  cases rxs with
  | cons ry rt =>
    rename_i uy ut
    cases rt
    obtain ⟨its, rv, ⟨⟨cls, dd, data, sl⟩, n, ho, hc, hdn, hd⟩, hlen⟩ := I.list hs
    simp only at hc hd
    subst hc hd
    refine call_meets PySem.F.slot_list_count ⟨_, ho, rfl⟩ PySem.F.entry_list_count (PySem.F.args_list_count_2 _ _)
      (SeqAt.list_countAt a its.toArray n dd sl uy (eqU y)) ⟨ho, fun u' hu' => mem_eqAt ry fy rv fys u' (by simpa using hu'), ?_⟩
    have ec : its.toArray.toList.countP (eqU y) = ys.countP fun z => eqV z y := countP_vals rv fys
    refine ⟨.int (ys.countP (fun z => eqV z y) : Nat), H, I.tok _, ⟨s.toks, ?_⟩, q⟩
    show Value.int ((its.toArray.toList.countP (eqU y) : Nat) : Int) s.toks = _
    rw [ec]
def fCount (x : D) (xs : List D) (O : Sto) : Res := match look O x, xs with
  | .lst ds, [y] => (match vsOf ds, vOf y with
    | some vs, some v => .ok (.int (vs.countP fun z => eqV z v : Nat)) O
    | _, _ => .stuck)
  | _, _ => .stuck
theorem ms_count {ca : Cn} : MtS ca (rCountF ca.K) fCount := fun w O H x dx xs ds W σ Q k r1 r2 h => by
  unfold fCount at h
  split at h
  · rename_i es y e
    obtain ⟨a, vs, rfl, hs, rl⟩ := look_lst k r1 e
    obtain ⟨u, rfl, ru⟩ := one_rep r2
    split at h
    · rename_i vs' v e1 e2
      obtain ⟨q1, f1⟩ := vsOf_rep rl e1
      obtain ⟨q2, f2⟩ := vOf_rep ru e2
      subst q1 q2
      exact ⟨a, _, _, rfl, rfl, hs, f2, f1, post_ok k (.int _) h⟩
    · exact h.elim
  · exact h.elim
def fIndexF (x : D) (xs : List D) (O : Sto) : Res := match look O x, xs with
  | .lst ds, [y] => (match vsOf ds, vOf y with
    | some vs, some v => (match vs.findIdx? fun z => eqV z v with
      | some j => .ok (.int (j : Nat)) O
      | none => .stuck)
    | _, _ => .stuck)
  | _, _ => .stuck
theorem ms_indexF {ca : Cn} : MtS ca (rIndex ca.K) fIndexF := fun w O H x dx xs ds W σ Q k r1 r2 h => by
  unfold fIndexF at h
  split at h
  · rename_i es y e
    obtain ⟨a, vs, rfl, hs, rl⟩ := look_lst k r1 e
    obtain ⟨u, rfl, ru⟩ := one_rep r2
    split at h
    · rename_i vs' v e1 e2
      obtain ⟨q1, f1⟩ := vsOf_rep rl e1
      obtain ⟨q2, f2⟩ := vOf_rep ru e2
      subst q1 q2
      split at h
      · rename_i j ej
        obtain ⟨hj, h1, h2⟩ := List.findIdx?_eq_some_iff_getElem.mp ej
        refine ⟨a, _, _, j, _, rfl, rfl, hs, f2, f1, List.getElem?_eq_getElem hj, h1, fun m z' hm hz => ?_, post_ok k (.int _) h⟩
        obtain ⟨hm2, hz2⟩ := List.getElem?_eq_some_iff.mp hz
        have := h2 m hm
        rw [← hz2]
        simpa using this
      · exact h.elim
    · exact h.elim
  · exact h.elim
/-! ### e.f, e the exception that is handled -/
structure ExA (K : PySem.W.Frag) (C : Addr) (f : Str) : Prop where
  i : ExI K C
  hd : PySem.W.hasDictIn K C = true
  no : PySem.W.findIn K (.ref C) f = some none
def exaB (cs : List Str) (f : Str) (K : PySem.W.Frag) : Bool := cs.all fun c => exiB1 K (He.ga K c) && (PySem.W.hasDictIn K (He.ga K c) && He.eqO (PySem.W.findIn K (.ref (He.ga K c)) f) (some none))
structure XaOk (K : PySem.W.Frag) (cs : List Str) (f : Str) : Prop where
  ok : ∀ c ∈ cs, ExA K (He.ga K c) f
theorem exaB_ok {cs : List Str} {f : Str} {K : PySem.W.Frag} (h : exaB cs f K = true) : XaOk K cs f := ⟨fun c hc => by
  obtain ⟨h1, h2⟩ := He.ba (List.all_eq_true.mp h c hc)
  obtain ⟨h3, h4⟩ := He.ba h2
  exact ⟨exiB1_ok h1, h3, He.eqO_ok h4⟩⟩
def fFldX (cs : List Str) (f : Str) (x : D) (O : Sto) : Res := match x with
  | .xo c fs => if c ∈ cs then (match fs.lookup f with
    | some d => .ok d O
    | none => .stuck) else .stuck
  | _ => .stuck
section
variable {B : LwB} {X : Cx} {a C : Addr} {d : Option Addr} {oe : Obj} {pn : List (Addr × Obj)} {W : WX}
theorem de_fldX {o : Expr} {mo : DTE} {f : Str} {cs : List Str} {pos : Pos} (T : XaOk X.K cs f) (hz : Zc (.ref C) d oe) (hfl : ∃ vs, oe.data = .fields vs) (ho : DE (cao (B.inX a C d) X.K) W (X.suite a ((a, oe) :: pn)) o mo)
    (hb : attributeBase o f X.env (eval o X.env) = eval o X.env := by rfl) : DE (cao (B.inX a C d) X.K) W (X.suite a ((a, oe) :: pn)) (.Attribute o f pos) (dUn (fFldX cs f) mo) := by
  obtain ⟨to, po, so⟩ := ho
  refine ⟨fun σ H Q => to σ H fun x H1 => x = .ref a ∧ ExA X.K C f ∧ ∃ (dd : Addr) (vs : List (Str × V)) (v : V), d = some dd ∧ H1 dd = some (.xd vs) ∧ vs.lookup f = some v ∧ Q v H1, ⟨fun pins s σ H Q I h => ?_⟩, fun w O H σ ρ Q k re h => ?_⟩
  · refine attr_of hb (thn (po.run pins s σ H _ I h) fun u s1 hh => ?_)
    obtain ⟨x, H1, I1, rx, ex, E, dd, vs, v, ed, ea, el, q⟩ := hh
    subst ex
    obtain rfl : u = Value.ref a := rx
    obtain ⟨od, J⟩ := inst_x hz hfl I1 (.inr ⟨dd, vs, ed, ea⟩)
    subst ed
    obtain ⟨mA, hns, hr⟩ := (show ObjOk X.prog X.w H1 s1.heap dd (.xd vs) from I1.hok dd _ ea)
    obtain ⟨od2, ho2, hl⟩ := lookIn_ns hns
    obtain ⟨u, hu, ru⟩ := RelO.some_of (v := v) (o := mA f) (by rw [← el]; exact hr f)
    have J2 : PySem.W.InstAt s1.heap a oe C (some od2) := ⟨J.1, hz.1, J.3, by rw [hz.2]; exact ho2⟩
    exact HandSPX.exc_get I1.kIn J2 E.i.ga E.i.gg E.i.sub (PySem.W.findObj_own E.hd E.no rfl (by rw [hl, hu])) (handed_of ru) ⟨v, H1, I1.tok _, ru, q⟩
  · refine so w O H σ ρ _ k re (Post.bind h fun x O1 v w1 H1 l1 k1 r1 h1 => ?_)
    have hxa : w1.cx.xa = some (a, C, d) := k1.x.xak
    unfold fFldX at h1
    cases r1 with
    | xo0 hx hc =>
      dsimp only at h1
      split at h1
      · exact h1.elim
      · exact h1.elim
    | xo hx hc hd rf =>
      rw [hxa] at hx
      cases hx
      dsimp only at h1
      split at h1
      · rename_i hcs
        have hc : some (He.ga X.K _) = some C := hc
        cases hc
        split at h1
        · rename_i dv e
          obtain ⟨v2, e2, r2⟩ := repF_lookup rf e
          refine ⟨rfl, T.ok _ hcs, _, _, v2, rfl, ?_, e2, post_ok k1 r2 h1⟩
          rcases k1.ext _ _ hd with q | ⟨q, _⟩
          · exact q
          · cases q
        · exact h1.elim
      · exact h1.elim
    | _ => exact h1.elim
end
/-! ### raise X(e): X's __init__ hands a text on to its base and keeps the field -/
/-- the base class whose __init__ is the built-in one -/
structure BsOk (K : PySem.W.Frag) (b : Str) : Prop where
  sp : PySem.W.specialIn K (.ref (He.ga K b)) "__getattribute__" = some (some (.builtin "type.__getattribute__"))
  rd : PySem.W.readsIn K (He.ga K b) (.type "type") = true
  fi : PySem.W.findCls K (.ref (He.ga K b)) (.type "type") "__init__" = some (.val (.builtin "ValueError.__init__"))
def bsB (K : PySem.W.Frag) (b : Str) : Bool := He.eqO (PySem.W.specialIn K (.ref (He.ga K b)) "__getattribute__") (some (some (.builtin "type.__getattribute__"))) && (PySem.W.readsIn K (He.ga K b) (.type "type") &&
  (match PySem.W.findCls K (.ref (He.ga K b)) (.type "type") "__init__" with
    | some (.val (.builtin x)) => decide (x = "ValueError.__init__")
    | _ => false))
theorem bsB_ok {K : PySem.W.Frag} {b : Str} (h : bsB K b = true) : BsOk K b := by
  obtain ⟨h1, h⟩ := He.ba h
  obtain ⟨h2, h3⟩ := He.ba h
  refine ⟨He.eqO_ok h1, h2, ?_⟩
  split at h3
  · rename_i x e
    rw [e, of_decide_eq_true h3]
  · cases h3
/-- the class that is raised -/
structure ExO1 (K : PySem.W.Frag) (c f : Str) : Prop where
  ox : OexC K (He.ga K c)
  ic : PySem.W.findIn K (.ref (He.ga K c)) "__init__" = some (some (.ref (He.ma K (He.ga K c) "__init__")))
  ti : PySem.W.typeIn K (.ref (He.ma K (He.ga K c) "__init__")) = some (.type "function")
  no : PySem.W.findIn K (.ref (He.ga K c)) f = some none
def oexB (K : PySem.W.Frag) (C : Addr) : Bool := match K.lookup C with
  | some ⟨.type ty, dd, .cls cd, sl⟩ => decide (ty = "type") && (match cd.mro, sl.toList with
    | .ref C' :: bm, [_, _, _, _, some (.builtin n), _] => C' == C && (n == "ValueError.__new__" && (!cd.hasDel && (cd.hasDict && PySem.HandSPX.refsVE bm)))
    | _, _ => false)
  | _ => false
theorem oexB_ok {K : PySem.W.Frag} {C : Addr} (h : oexB K C = true) : ∃ nm q N bs bm sn sub ab col dd k0 k1 k2 k3 k5, K.lookup C = some (excClassObj nm q C N bs bm true sn sub ab col dd k0 k1 k2 k3 k5 "ValueError.__new__") ∧ PySem.HandSPX.refsVE bm = true := by
  unfold oexB at h
  split at h
  · rename_i ty dd cd sl ho
    obtain ⟨ht, hh⟩ := He.ba h
    have ht := of_decide_eq_true ht
    subst ht
    split at hh
    · rename_i C' bm k0 k1 k2 k3 n k5 hm hs
      obtain ⟨h1, g1⟩ := He.ba hh
      obtain ⟨h2, g2⟩ := He.ba g1
      obtain ⟨h3, g3⟩ := He.ba g2
      obtain ⟨h4, h5⟩ := He.ba g3
      have h1 := beq_iff_eq.mp h1
      have h2 := beq_iff_eq.mp h2
      have h3d : cd.hasDel = false := by cases q : cd.hasDel with
        | false => rfl
        | true => rw [q] at h3; cases h3
      subst h1 h2
      obtain ⟨nm, bs, mro, ns, qn, hd, sn, sub, ab, col, del⟩ := cd
      dsimp only at hm h3d h4
      subst hm h3d h4
      have hsl : sl = #[k0, k1, k2, k3, some (.builtin "ValueError.__new__"), k5] := by
        obtain ⟨l⟩ := sl
        simp only at hs
        rw [hs]
      subst hsl
      exact ⟨nm, qn, ns, bs, bm, sn, sub, ab, col, dd, k0, k1, k2, k3, k5, ho, h5⟩
    · cases hh
  · cases h
def exo1B (K : PySem.W.Frag) (c f : Str) : Bool := oexB K (He.ga K c) && (He.eqO (PySem.W.findIn K (.ref (He.ga K c)) "__setattr__") (some (some (.builtin "object.__setattr__"))) && (decide (PySem.W.subIn K (.ref (He.ga K c)) (.type "BaseException") = some true) && (decide (PySem.W.typeIn K (.ref (He.ga K c)) = some (.type "type")) &&
  (PySem.W.keepIn K (.ref (He.ga K c)) && (He.eqO (PySem.W.findIn K (.ref (He.ga K c)) "__init__") (some (some (.ref (He.ma K (He.ga K c) "__init__")))) && (decide (PySem.W.typeIn K (.ref (He.ma K (He.ga K c) "__init__")) = some (.type "function")) && He.eqO (PySem.W.findIn K (.ref (He.ga K c)) f) (some none)))))))
theorem exo1B_ok {K : PySem.W.Frag} {c f : Str} (h : exo1B K c f = true) : ExO1 K c f := by
  obtain ⟨h1, h⟩ := He.ba h
  obtain ⟨h2, h⟩ := He.ba h
  obtain ⟨h3, h⟩ := He.ba h
  obtain ⟨h4, h⟩ := He.ba h
  obtain ⟨h5, h⟩ := He.ba h
  obtain ⟨h6, h⟩ := He.ba h
  obtain ⟨h7, h8⟩ := He.ba h
  exact ⟨⟨oexB_ok h1, He.eqO_ok h2, of_decide_eq_true h3, of_decide_eq_true h4, h5⟩, He.eqO_ok h6, of_decide_eq_true h7, He.eqO_ok h8⟩
section
variable {X : Cx} {e : Expr} {es : List Expr} {ta : TA} {b : Str} {p1 p2 pos : Pos}
theorem pe_bsinit {pl : Sem Bool} (T : BsOk X.K b) (hg : Gl X b) (hm : X.mg b = some (.ref (He.ga X.K b))) (ha : PA X (e :: es) ta) (hdb : (b == ("__debug__" : Str)) = false := by decide)
    (hc : eval (.Call (.Attribute (.Name b p1) "__init__" p2) (e :: es) [] pos) X.env = (do
      let ov ← eval (.Name b p1) X.env
      standAt p2.atName
      let (f, first) ← holding [ov] (getMethod ov "__init__" pl)
      callWith pos f first (backTo pos (starEach (e :: es) X.env)) (backToKw pos (keywordEach [] X.env))) := by rfl)
    (he : starEach (e :: es) X.env = (false, eval e X.env) :: starEach es X.env := by rfl) (hpl : (backTo pos (starEach es X.env)).any (·.1) = false := by rfl) :
    PE X (.Call (.Attribute (.Name b p1) "__init__" p2) (e :: es) [] pos) (tVeI X.K ta) := by
  refine ⟨fun pins s σ H Q I h => ?_⟩
  refine PySem.W.methodCall_KW (ld_glob I hg hm ?_ hdb) hc
  refine PySem.W.method_cls I.kIn T.sp (PySem.W.cls_value I.kIn T.rd T.fi (by decide +kernel) ?_)
  show wpAny _ _ (callWith pos (Value.builtin "ValueError.__init__") [] (backTo pos (starEach (e :: es) X.env)) []) _ _ _
  refine PyProof.Rows.callWith_method1 (thn (ha.run pos pins _ σ H _ (I.tok _) h) fun us s1 ⟨vs, H1, I1, r1, a, C, ws, ev, hl, T, ea, q⟩ => ?_) he hpl
  subst ev
  cases r1 with
  | @cons _ u0 _ ur ra rw' =>
    obtain rfl : u0 = Value.ref a := ra
    have hlen : ur.length ≤ sizeLine := by
      rw [← Paired.length rw', sizeLine_eq]
      omega
    exact oinit_ok T I1 ea hlen fun s' J => ⟨.non, H1, J, rfl, q⟩
end
/-- what such an __init__ promises -/
def spEI (C : Addr) (f : Str) : Sp := fun vs H Q _ => ∃ a y, vs = [.ref a, y] ∧ H a = some (exo a C none) ∧ ∀ dx, H dx = none → dx ≠ a → Q .non (upd (upd H dx (exd dx [(f, y)])) a (exo a C (some dx)))
theorem ei_ok {P : Program} {w : World} {K : PySem.W.Frag} {mg : Str → Option Value} {base : Heap} {qual c f b m : Str} {st : Stmt} {fd : FuncData} {N : List Str} {k : Nat} {a1 a2 : Str} (F : FunD K "__init__" qual (defArgs st) (defBody st) (defScope st) [] [] (He.ma K (He.ga K c) "__init__") fd) (S : FnScope N [a1, a2] (defScope st)) (E : ExO1 K c f)
    (hbody : ∀ (cdv : Value) (A : Around) (outer : List Env) (s : Shared) (H : Hp) (Ex : XK),
      ∃ t1 t2, PSs (cxOf (L2.CX P w) P w K mg base N qual (defScope st) (He.ma K (He.ga K c) "__init__") cdv A outer s H Ex) (defBody st) (tSeq t1 t2) ∧ t1 = (fun D σ H => tVeI K (tCons (tVar 0) (tCons (tC (.str m)) tNil)) σ H fun _ H1 => D.nx σ H1) ∧ t2 = tOst K f (tVar 0) (tVar 1)) :
    FnOk P w K mg base (L2.CX P w) (k + 1) (He.ma K (He.ga K c) "__init__") fd [a1, a2] (spEI (He.ga K c) f) := by
  refine F.ok S (fun vs H Q E h => ?_) (fun cdv A outer s H vs Q Ex hr h => ?_)
  · obtain ⟨a, y, e, _⟩ := h
    rw [e] <;> rfl
  · obtain ⟨a, y, e, ha, hq⟩ := h
    subst e
    obtain ⟨t1, t2, ht, e1, e2⟩ := hbody cdv A outer s H Ex
    refine ⟨_, ht, ?_⟩
    subst e1 e2
    have hN2 : N.take 2 = [a1, a2] := S.pre
    have g0 : (start N [V.ref a, y])[0]? = some (some (.ref a)) := rfl
    have g1 : (start N [V.ref a, y])[1]? = some (some y) := rfl
    refine ⟨.ref a, g0, a, _, [.str m], rfl, (by show 1 ≤ 1000; decide), E.ox, ha, y, g1, .ref a, g0, a, _, rfl, E.ox, E.no, .inl ⟨ha, fun dx hdx hne => hq dx hdx hne⟩⟩
/-- an exception class with a field, ready to be raised -/
structure GoodE (P : Program) (w : World) (K : PySem.W.Frag) (mg : Str → Option Value) (base : Heap) (c f : Str) (k : Nat) : Prop where
  e : ExO1 K c f
  at_ : mg c = some (.ref (He.ga K c))
  ex : ∃ fd ps, FnOk P w K mg base (L2.CX P w) k (He.ma K (He.ga K c) "__init__") fd ps (spEI (He.ga K c) f) ∧ Binds K fd ps []
def dRaise1 (c f : Str) (m : DTE) : DTS := fun ρ O => (m ρ O).bindS ρ fun d O1 => .exc c [(f, d)] ρ O1
section
variable {B : LwB} {W : WX} {X : Cx} {pos : Pos}
theorem ds_raise1 {c f : Str} {k j : Nat} {p pos' : Pos} {e : Expr} {m : DTE} (hc : X.calm = true) (tk : Takes X W) (G : GoodE X.prog X.w X.K X.mg X.base c f k) (hr : Room j X.A) (hk : k + 1 ≤ j) (hg : Gl X c) (ha : DE (cao B X.K) W X e m) (hdb : (c == ("__debug__" : Str)) = false := by decide)
    (he : starEach [e] X.env = (false, eval e X.env) :: starEach [] X.env := by rfl) (hpl : (backTo pos' (starEach [] X.env)).any (·.1) = false := by rfl) :
    DS (cao B X.K) W X (.Raise (some (.Call (.Name c p) [e] [] pos')) none pos) (dRaise1 c f m) := by
  obtain ⟨te, pe, se⟩ := ha
  obtain ⟨fd, ps, F, hb⟩ := G.ex
  refine ⟨_, ps_raise hc tk (pmk_oex G.e.ox G.e.ic G.e.ti F (hr.mono hk) hb .nil (passes_call tk fun _ _ _ _ h => h.elim) hg G.at_ (pa_cons pe pa_nil (hs := he)) hdb he hpl), fun w O H σ ρ Dn k re h => ?_⟩
  refine se w O H σ ρ _ k re (Post.bindS re h fun d O1 v w1 H1 l1 k1 r1 h1 => ?_)
  refine ⟨(by show 1 ≤ 1000; decide), fun a ha => ⟨a, v, rfl, upd_same, fun dx hdx hne => ⟨rfl, dx, [(f, v)], ?_, ?_, ?_, ?_⟩⟩⟩
  · exact upd_same
  · rw [upd_ne hne]
    exact upd_same
  · rw [upd_ne hne] at hdx
    exact hdx
  · rw [upd_ne hne] at hdx
    have eH : upd (del (upd (upd (upd H1 a (exo a (He.ga X.K c) none)) dx (exd dx [(f, v)])) a (exo a (He.ga X.K c) (some dx))) a) dx (.xd [(f, v)]) = upd H1 dx (.xd [(f, v)]) := by
      funext b
      by_cases hb1 : b = dx
      · rw [hb1, upd_same, upd_same]
      · rw [upd_ne hb1, upd_ne hb1]
        by_cases hb2 : b = a
        · rw [hb2, del_same, ha]
        · rw [del_ne hb2, upd_ne hb2, upd_ne hb1, upd_ne hb2]
    rw [eH]
    exact h1 (.ref (He.ga X.K c)) (some dx) σ w1 _ (Wd.le.refl _) (k1.more hdx) (re.mono l1) ⟨_, rfl, rfl, [(f, v)], upd_same, .cons r1 .nil⟩
end
end Yk

set_option Elab.async false
set_option linter.all false
set_option maxRecDepth 100000
set_option maxHeartbeats 2000000
/-! YlG: the head's look, the interpreter's own table with it. -/
namespace Yk
open PySem PySem.Spec PyProof.Rows L2 He
def asY (g : Addr → Option Obj) (n : Nat) : List Addr := He.asD g n ++ [cStatics]
def obsY (n : Nat) (fa : List Fa) (fn : List DefD) (tf : List Defn) (ex : PySem.W.Frag → Bool) (g : Addr → Option Obj) : AlX := (obsT fa fn [] (frT g (asY g n)), ex (frT g (asY g n)) && tabsB g tf (frT g (asY g n)))
theorem saysY_of {n : Nat} {fa : List Fa} {fn : List DefD} {tf : List Defn} {ex : PySem.W.Frag → Bool} {w : World} {h : Heap} (e : obsY n fa fn tf ex h.get? = valX fn [] w) : SaysX fa fn [] tf ex w h (frT h.get? (asY h.get? n)) := by
  have e1 : obsT fa fn [] (frT h.get? (asY h.get? n)) = valT fn [] w := congrArg (fun z : AlX => z.1) e
  have e2 : (ex (frT h.get? (asY h.get? n)) && tabsB h.get? tf (frT h.get? (asY h.get? n))) = true := congrArg (fun z : AlX => z.2) e
  obtain ⟨h1, h2⟩ := ba e2
  have key : ∀ p ∈ tf, PySem.W.codeHdIn (frT h.get? (asY h.get? n)) (cT (frT h.get? (asY h.get? n)) p).1 (cT (frT h.get? (asY h.get? n)) p).2 = true ∧ ∃ o, h.get? (cT (frT h.get? (asY h.get? n)) p).2 = some o ∧ emptyTab o = true := fun p hp => by
    obtain ⟨h3, h4⟩ := ba (List.all_eq_true.mp h2 p hp)
    refine ⟨h3, ?_⟩
    cases q : h.get? (cT (frT h.get? (asY h.get? n)) p).2 with
    | none =>
      rw [q] at h4
      cases h4
    | some o =>
      rw [q] at h4
      exact ⟨o, rfl, h4⟩
  exact ⟨e1, h1, fun p hp => (key p hp).1, fun p hp => by
    obtain ⟨_, o, q, z⟩ := key p hp
    exact frT_none q z, fun p hp => by
    obtain ⟨_, o, q, z⟩ := key p hp
    rw [q, emptyTab_eq z]⟩
def hookY (n : Nat) (fa : List Fa) (fn : List DefD) (tf : List Defn) (ex : PySem.W.Frag → Bool) : PySem.W.Hook where
  α := AlX
  obs := fun s => obsY n fa fn tf ex s.heap.get?
  val := fun w => valX fn [] w
  says := fun w h => ∃ K : PySem.W.Frag, K.In h ∧ SaysX fa fn [] tf ex w h K
  of := fun _ _ e => ⟨_, frT_in, saysY_of e⟩
  keeps := fun _ _ _ ⟨K, hK, c⟩ k => ⟨K, PySem.W.Frag.In.keeps hK k, ⟨c.t, c.more, c.hd, c.out, fun p hp => k _ _ (c.empty p hp)⟩⟩
theorem obsY_eq {n : Nat} {fa : List Fa} {fn : List DefD} {tf : List Defn} {ex : PySem.W.Frag → Bool} {g : Addr → Option Obj} {s : Shared} (h : ∀ a, g a = s.heap.get? a) : obsY n fa fn tf ex g = (hookY n fa fn tf ex).obs s := by
  have e : g = s.heap.get? := funext h
  rw [e] <;> rfl
end Yk

set_option Elab.async false
set_option linter.all false
set_option maxRecDepth 100000
set_option maxHeartbeats 2000000
/-! YlH: paths to dicts; comprehensions over dicts. -/
namespace Yk
open PySem PySem.Spec PyProof.Rows L2
theorem lk_sub2 {w : Wd} {l : Hp} : w.sub ⟨w.F, w.ad, w.pv, l, w.cx⟩ := ⟨fun _ _ h => h, fun _ _ h => h, .refl _⟩
/-! ### paths -/
def pFld (cs : List Str) (f : Str) (pv : DPV) : DPV := fun ρ O => match pv ρ O with
  | some x => (match look O x with
    | .obj c fs => if c ∈ cs then fs.lookup f else none
    | _ => none)
  | none => none
def pIx (i : Int) (pv : DPV) : DPV := fun ρ O => match pv ρ O with
  | some x => (match look O x with
    | .lst ds => atI ds i
    | .tup ds => atI ds i
    | _ => none)
  | none => none
section
variable {ca : Cn} {X : Cx} {o : Expr} {pv : DPV} {pos : Pos}
theorem dp_fld {f : Str} {cs : List Str} (F : FldOk ca X.K cs f) (ho : DP ca X o pv) (hb : attributeBase o f X.env (eval o X.env) = eval o X.env := by rfl) : DP ca X (.Attribute o f pos) (pFld cs f pv) := by
  obtain ⟨to, po, so⟩ := ho
  refine ⟨_, pe_fld po hb, fun w O H σ ρ d k re e => ?_⟩
  unfold pFld at e
  cases z : pv ρ O with
  | none => rw [z] at e; cases e
  | some x =>
    rw [z] at e
    obtain ⟨v, r1, hv⟩ := so w O H σ ρ x k re z
    dsimp only at e
    split at e
    · rename_i c fs ex
      obtain ⟨a, C, dx, vs, rfl, hA, hC, rf⟩ := look_obj k r1 ex
      by_cases hc : c ∈ cs
      · rw [if_pos hc] at e
        obtain ⟨F1, F2⟩ := F.ok c hc C hC
        obtain ⟨vv, e1, e2⟩ := repF_lookup rf e
        exact ⟨vv, e2, fun H' Q hk hq => hv H' _ hk ⟨a, C, dx, vs, vv, rfl, hk _ _ rfl hA, F1, F2, e1, hq⟩⟩
      · rw [if_neg hc] at e
        cases e
    · cases e
theorem Sq_keep {K : PySem.W.Frag} {H H' : Hp} (hk : ∀ a u, isDict u = false → H a = some u → H' a = some u) {a : Addr} {vs : List V} (h : SqL K H a vs) : SqL K H' a vs := by
  rcases h with (h | ⟨o, h⟩) | h
  · exact .inl (.inl (hk _ _ rfl h))
  · exact .inl (.inr ⟨o, hk _ _ rfl h⟩)
  · exact .inr h
theorem dp_ix {i : Int} {j : Nat} {p2 : Pos} (ho : DP ca X o pv) (hK : ca.K = X.K := by rfl) (hs : PlainIx (.Constant (.int i) j p2) := by exact fun _ _ => rfl) : DP ca X (.Subscript o (.Constant (.int i) j p2) pos) (pIx i pv) := by
  obtain ⟨to, po, so⟩ := ho
  refine ⟨_, pe_ix ix_seq po pe_int hs, fun w O H σ ρ d k re e => ?_⟩
  unfold pIx at e
  cases z : pv ρ O with
  | none => rw [z] at e; cases e
  | some x =>
    rw [z] at e
    obtain ⟨v, r1, hv⟩ := so w O H σ ρ x k re z
    dsimp only at e
    split at e
    · rename_i ds ex
      obtain ⟨a, vs, rfl, hA, rl⟩ := look_lst k r1 ex
      obtain ⟨u, e1, e2⟩ := atI_rep rl e
      exact ⟨u, e2, fun H' Q hk hq => hv H' _ hk (.inl ⟨a, vs, i, u, rfl, rfl, hK ▸ Sq_keep hk hA, e1, hq⟩)⟩
    · rename_i ds ex
      obtain ⟨a, vs, rfl, hA, _, rl⟩ := look_tup k r1 ex
      obtain ⟨u, e1, e2⟩ := atI_rep rl e
      exact ⟨u, e2, fun H' Q hk hq => hv H' _ hk (.inr (.inl ⟨a, vs, i, u, rfl, rfl, .inl (.inl (hk _ _ rfl hA)), e1, hq⟩))⟩
    · cases e
end
/-! ### comprehensions -/
open Classical in
noncomputable def Res.unl (n : Nat) (od : OD) : Res → Res
  | .ok d O => if O[n]? = some (.lck od) then .ok d (O.set n od) else .stuck
  | _ => .stuck
noncomputable def dLcD (own : Bool) (vs : List Nat) (kind : Nat) (pv : DPV) (g : DTG) (tst : DTT) (elt : DTE) : DTE := fun ρ O => match pv ρ O with
  | some (.dic kvs) => (compL (dItems kind kvs) none g tst elt (wipeD ρ vs) (dItems kind kvs) [] O).bind fun ds O2 => mkL own ds O2
  | some (.loc n) => (match O[n]? with
    | some (.dic kvs) => Res.unl n (.dic kvs) ((compL (dItems kind kvs) none g tst elt (wipeD ρ vs) (dItems kind kvs) [] (O.set n (.lck (.dic kvs)))).bind fun ds O2 => mkL own ds O2)
    | _ => .stuck)
  | _ => .stuck
section
variable {ca : Cn} {w w0 : Wd} {W W' : WX} {σ : L2.St} {n : Nat} {od : OD} {Q : VK} {r : Res} {a : Addr} {u : HO} {o : Obj}
theorem Post.unlO (hA : w.ad[n]? = some a) (hd : isDict u = true) (hl : w.lk = upd w0.lk a (.frz o u)) (h0 : w0.lk a = none) (sub : w0.sub w) (hpv : w.pv = w0.pv) (h : Post ca w0 W σ Q (r.unl n od)) : Post ca w W' σ (fun v H' => H' a = some (.frz o u) ∧ Q v (upd H' a u)) r := by
  cases r with
  | ok d O =>
    intro v w' H' l k r
    unfold Res.unl at h
    dsimp only at h
    by_cases c : O[n]? = some (.lck od)
    · rw [if_pos c] at h
      obtain ⟨e1, k2⟩ := k.unlockO (lk0 := w0.lk) (l.ad _ _ hA) c hd (by rw [l.lk]; exact hl) h0
      exact ⟨e1, h v ⟨w'.F, w'.ad, w'.pv, w0.lk, w'.cx⟩ _ ⟨fun b q e => l.F _ _ (sub.F _ _ e), fun m b e => l.ad _ _ (sub.ad _ _ e), l.pv.trans hpv, rfl, sub.cx.trans l.cx⟩ k2 (r.mono' lk_sub2)⟩
    · rw [if_neg c] at h
      exact h.elim
  | exc c fs O => exact h.elim
  | stuck => exact h.elim
theorem Post.unlF (hF : w.F a = some u) (hd : isDict u = true) (hl : w.lk = upd w0.lk a (.frz o u)) (h0 : w0.lk a = none) (sub : w0.sub w) (hpv : w.pv = w0.pv) (hx : ∀ c fs O, r ≠ .exc c fs O) (h : Post ca w0 W σ Q r) : Post ca w W' σ (fun v H' => H' a = some (.frz o u) ∧ Q v (upd H' a u)) r := by
  cases r with
  | ok d O =>
    intro v w' H' l k r
    obtain ⟨e1, k2⟩ := k.unlockF (lk0 := w0.lk) (l.F _ _ hF) hd (by rw [l.lk]; exact hl) h0
    exact ⟨e1, h v ⟨w'.F, w'.ad, w'.pv, w0.lk, w'.cx⟩ _ ⟨fun b q e => l.F _ _ (sub.F _ _ e), fun m b e => l.ad _ _ (sub.ad _ _ e), l.pv.trans hpv, rfl, sub.cx.trans l.cx⟩ k2 (r.mono' lk_sub2)⟩
  | exc c fs O => exact absurd rfl (hx c fs O)
  | stuck => exact h.elim
end
theorem compL_nx {items : List D} {lk : Option (Nat × OD)} {g : DTG} {tst : DTT} {elt : DTE} {ρ : Env'} : ∀ {xs acc : List D} {O : Sto} {c : Str} {fs : List (Str × D)} {O' : Sto}, compL items lk g tst elt ρ xs acc O ≠ .exc c fs O'
  | [], acc, O, c, fs, O' => by
    unfold compL
    split <;> exact fun z => nomatch z
  | x :: xs, acc, O, c, fs, O' => by
    unfold compL
    split
    · split
      · exact fun z => nomatch z
      · split
        · split
          · split
            · exact compL_nx
            · exact fun z => nomatch z
          · exact fun z => nomatch z
        · exact compL_nx
        · exact fun z => nomatch z
    · exact fun z => nomatch z
theorem comp_nx {own : Bool} {items : List D} {lk : Option (Nat × OD)} {g : DTG} {tst : DTT} {elt : DTE} {ρ : Env'} {xs acc : List D} {O : Sto} : ∀ c fs O', (compL items lk g tst elt ρ xs acc O).bind (fun ds O2 => mkL own ds O2) ≠ .exc c fs O' := fun c fs O' => by
  cases z : compL items lk g tst elt ρ xs acc O with
  | ok ds O2 => cases own <;> exact fun z => nomatch z
  | exc c2 fs2 O2 => exact absurd z compL_nx
  | stuck => exact fun z => nomatch z
section
variable {ca : Cn} {W : WX} {X : Cx} {tg iter elt e : Expr} {ifs : List Expr} {scope : Scope} {own : List (Str × Nat)} {pv : DPV} {g : DTG} {mt : DTT} {me : DTE} {pos : Pos} {kind : Nat}
theorem lcD_core (ow : Bool) (hp : DP ca X e pv) (hi : ∀ te, PE X e te → ∃ wi, IDict X tg iter te kind wi) (hg : DGw ca (Blk X scope) (own.map (·.2)) tg g) (ht : DTb ca (Blk X scope) ifs mt) (he : DEb ca (Blk X scope) elt me) :
    ∃ (wi : TI) (tG : TG) (tt : TT) (te : TE), PI X tg iter wi ∧ (∀ Y, Blk X scope Y → PG Y tg tG) ∧ (∀ Y, Blk X scope Y → PTs Y ifs tt) ∧ (∀ Y, Blk X scope Y → PE Y elt te) ∧
      SndE ca W (fun σ H Q => tLockE (tLc wi tG tt te (own.map (·.2))) σ H Q ∨ tLc wi tG tt te (own.map (·.2)) σ H Q) (dLcD ow (own.map (·.2)) kind pv g mt me) := by
  obtain ⟨te0, pe0, se0⟩ := hp
  obtain ⟨wi, pi, si⟩ := hi te0 pe0
  obtain ⟨tG, pg, sg⟩ := hg
  obtain ⟨tt, pt, st⟩ := ht
  obtain ⟨te, pe, se⟩ := he
  refine ⟨wi, tG, tt, te, pi, pg, pt, pe, fun w O H σ ρ Q k re h => ?_⟩
  unfold dLcD at h
  cases z : pv ρ O with
  | none => rw [z] at h; exact h.elim
  | some d =>
    rw [z] at h
    obtain ⟨v, rv, hv⟩ := se0 w O H σ ρ d k re z
    cases d with
    | dic kvs =>
      simp only at h
      cases rv with
      | @dic a vs _ hF r =>
        rcases k.ext a _ hF with hH | ⟨_, o, hH⟩
        · refine .inl ⟨a, _, hH, trivial, fun o => ?_⟩
          have k2 := k.lockF hF hH rfl o
          have l0 : w.lk a = none := k.lkFree hH rfl
          refine si σ _ _ a o vs (fun Q hq => hv _ Q (ins_lock hH rfl) hq) upd_same ?_
          refine fun D hD => comp_run (own := ow) (J := Jof kind a o vs) (W := W) (Q := fun v H' => H' a = some (.frz o (.dK vs)) ∧ Q v (upd H' a (.dK vs))) sg st se k2 (re.mono' Wd.lock_sub) (walks_dict kind (show (w.lock a _).lk a = _ from upd_same) (r.mono' Wd.lock_sub) none) ?_ hD
          exact Post.unlF (w := w.lock a (.frz o (.dK vs))) (w0 := w) hF rfl rfl l0 Wd.lock_sub rfl comp_nx h
        · refine .inr (si σ H _ a o vs (fun Q hq => hv H Q (fun _ _ _ h => h) hq) hH ?_)
          have hl : Ok ca (w.lock a (.frz o (.dK vs))) O H := ⟨k.ext, k.len, k.nd, k.here, fun n b q e1 e2 g => let ⟨h1, u', h2, h3⟩ := k.own n b q e1 e2 g; ⟨h1, u', h2, h3.mono' Wd.lock_sub⟩, k.prv, fun b q e => by
            by_cases zz : b = a
            · subst zz
              have e : upd w.lk b (.frz o (.dK vs)) b = some q := e
              rw [upd_same] at e
              cases e
              exact ⟨hH, rfl⟩
            · have e : upd w.lk a (.frz o (.dK vs)) b = some q := e
              rw [upd_ne zz] at e
              exact k.lks b q e, k.x.wd k.x.pvp k.x.fpl⟩
          refine fun D hD => comp_run (own := ow) (J := Jof kind a o vs) (W := W) sg st se hl (re.mono' Wd.lock_sub) (walks_dict kind (show (w.lock a _).lk a = _ from upd_same) (r.mono' Wd.lock_sub) none) ?_ hD
          revert h
          have nx := comp_nx (own := ow) (items := dItems kind kvs) (lk := none) (g := g) (tst := mt) (elt := me) (ρ := wipeD ρ (own.map (·.2))) (xs := dItems kind kvs) (acc := []) (O := O)
          generalize ((compL (dItems kind kvs) none g mt me (wipeD ρ (own.map (·.2))) (dItems kind kvs) [] O).bind fun ds O2 => mkL ow ds O2) = rr at nx ⊢
          intro h
          cases rr with
          | ok dd O' =>
            intro v w' H' l k' r'
            refine h v ⟨w'.F, w'.ad, w'.pv, w.lk, w'.cx⟩ H' ⟨fun b q e => l.F _ _ e, fun m b e => l.ad _ _ e, l.pv, rfl, l.cx⟩ (k'.less fun b q e => ?_) (r'.mono' lk_sub2)
            rw [l.lk]
            show upd w.lk a _ b = some q
            by_cases zz : b = a
            · subst zz
              have e1 := (k.lks b q e).1
              rw [hH] at e1
              cases e1
              exact upd_same
            · rw [upd_ne zz]
              exact e
          | exc c fs O' => exact absurd rfl (nx c fs O')
          | stuck => exact h.elim
    | loc n =>
      simp only at h
      cases rv with
      | @loc a _ hA =>
        cases q : O[n]? with
        | none => rw [q] at h; exact h.elim
        | some od =>
          rw [q] at h
          split at h
          · rename_i od2 kvs q2
            cases q2
            obtain ⟨hFn, u, hH, ro⟩ := k.own n a _ hA q (fun z => nomatch z)
            cases ro with
            | @dic vs _ r =>
              refine .inl ⟨a, _, hH, trivial, fun o => ?_⟩
              have k2 := k.lockO hA q (fun z => nomatch z) hH rfl (.dic r) o
              have l0 : w.lk a = none := k.lkFree hH rfl
              refine si σ _ _ a o vs (fun Q hq => hv _ Q (ins_lock hH rfl) hq) upd_same ?_
              refine fun D hD => comp_run (own := ow) (J := Jof kind a o vs) (W := W) (Q := fun v H' => H' a = some (.frz o (.dK vs)) ∧ Q v (upd H' a (.dK vs))) sg st se k2 (re.mono' Wd.lock_sub) (walks_dict kind (show (w.lock a _).lk a = _ from upd_same) (r.mono' Wd.lock_sub) none) ?_ hD
              exact Post.unlO (w := w.lock a (.frz o (.dK vs))) (w0 := w) hA rfl rfl l0 Wd.lock_sub rfl h
          · exact h.elim
    | _ => exact h.elim
theorem de_lcD (ow : Bool) (hc : X.calm = true) (hN : X.N.Nodup) (hp : DP ca X e pv) (hi : ∀ te, PE X e te → ∃ wi, IDict X tg iter te kind wi) (ok : BlkOk X.N X.env.scope scope own) (hg : DGw ca (Blk X scope) (own.map (·.2)) tg g) (ht : DTb ca (Blk X scope) ifs mt) (he : DEb ca (Blk X scope) elt me)
    (hs : ∀ x, foldedSetIterable iter X.env x = pure x := by intro _; rfl) : DE ca W X (.ListComp elt [⟨tg, iter, ifs, 0⟩] scope pos) (dLcD ow (own.map (·.2)) kind pv g mt me) := by
  obtain ⟨wi, tG, tt, te, pi, pg, pt, pe, sn⟩ := lcD_core (W := W) (own := own) ow hp hi hg ht he
  have base := pe_lc (pos := pos) hc hN pi ok (fun s H C cl fp => pg _ ⟨s, H, C, cl, fp, rfl⟩) (fun s H C cl fp => pt _ ⟨s, H, C, cl, fp, rfl⟩) (fun s H C cl fp => pe _ ⟨s, H, C, cl, fp, rfl⟩) hs
  exact ⟨_, PE.or (pe_lock base) base, sn⟩
/-- y = [.. for .. in a dict ..] -/
theorem ds_setLcD {i : Nat} {y : Str} {py spos : Pos} (ow : Bool) (hc : X.calm = true) (hN : X.N.Nodup) (hy : X.N[i]? = some y) (hyl : X.env.scope.names.lookup y = some .local)
    (hsw : swapsWith (.ListComp elt [⟨tg, iter, ifs, 0⟩] scope pos) (some (.Name y py)) spos.line X.env = pure true) (hp : DP ca X e pv) (hi : ∀ te, PE X e te → ∃ wi, IDict X tg iter te kind wi) (ok : BlkOk X.N X.env.scope scope own) (hg : DGw ca (Blk X scope) (own.map (·.2)) tg g) (ht : DTb ca (Blk X scope) ifs mt) (he : DEb ca (Blk X scope) elt me)
    (hs : ∀ x, foldedSetIterable iter X.env x = pure x := by intro _; rfl) : DS ca W X (.Assign [.Name y py] (.ListComp elt [⟨tg, iter, ifs, 0⟩] scope pos) spos) (dSet i (dLcD ow (own.map (·.2)) kind pv g mt me)) := by
  obtain ⟨wi, tG, tt, te, pi, pg, pt, pe, sn⟩ := lcD_core (W := W) (own := own) ow hp hi hg ht he
  have base := ps_setLc (i := i) (py := py) (pos := pos) (spos := spos) hc hN hy hyl hsw pi ok (fun s H C cl fp => pg _ ⟨s, H, C, cl, fp, rfl⟩) (fun s H C cl fp => pt _ ⟨s, H, C, cl, fp, rfl⟩) (fun s H C cl fp => pe _ ⟨s, H, C, cl, fp, rfl⟩) hs
  refine ⟨_, PS.or (ps_lock base) base, fun w O H σ ρ Dn k re h => ?_⟩
  have := sn w O H σ ρ (fun x H1 => Dn.nx (σ.set i (some x)) H1) k re (Post.bindS re h fun d O1 v w1 H1 l1 k1 r1 h1 => h1 _ w1 H1 (Wd.le.refl _) k1 ((re.mono l1).set r1))
  exact this
/-- a, b = x, y -/
def dPar (i j : Nat) (ma : DTA) : DTS := fun ρ O => match ma ρ O with
  | .ok [a, b] O1 => .nx ((ρ.set i (some a)).set j (some b)) O1
  | .exc c fs O1 => .exc c fs ρ O1
  | _ => .stuck
theorem ds_par {i j : Nat} {x y : Str} {a b : Expr} {ma : DTA} {px py pt : Pos} {kt k2 pt2} (hc : X.calm = true) (hN : X.N.Nodup) (hi : X.N[i]? = some x) (hj : X.N[j]? = some y) (hij : i ≠ j)
    (hx : X.env.scope.names.lookup x = some .local) (hy : X.env.scope.names.lookup y = some .local) (ha : DA ca W X [a, b] ma)
    (hw : swappedStores [.Tuple [.Name x px, .Name y py] kt pt] (.Tuple [a, b] k2 pt2) X.env = pure (some [x, y]) := by rfl)
    (hs : swapsWithSole [.Tuple [.Name x px, .Name y py] kt pt] (.Tuple [a, b] k2 pt2) pos.line X.env = pure false := by rfl) :
    DS ca W X (.Assign [.Tuple [.Name x px, .Name y py] kt pt] (.Tuple [a, b] k2 pt2) pos) (dPar i j ma) := by
  obtain ⟨ta, pa, sa⟩ := ha
  refine ⟨_, ps_par hc hN hi hj hij hx hy pa hw hs, fun w O H σ ρ Dn k re h => ?_⟩
  unfold dPar at h
  refine sa w O H σ ρ _ k re ?_
  cases z : ma ρ O with
  | stuck => rw [z] at h; exact h.elim
  | exc c fs O1 =>
    rw [z] at h
    exact fun cv dx w1 H1 l1 k1 x => h cv dx σ w1 H1 l1 k1 (re.mono l1) x
  | ok ds O1 =>
    rw [z] at h
    intro vs w1 H1 l1 k1 r1
    match ds, r1, h with
    | [], _, h => exact h.elim
    | [_], _, h => exact h.elim
    | [d1, d2], .cons q1 (.cons q2 .nil), h => exact ⟨_, _, rfl, h _ w1 H1 l1 k1 (((re.mono l1).set q1).set q2)⟩
    | _ :: _ :: _ :: _, _, h => exact h.elim
end
end Yk

set_option Elab.async false
set_option linter.all false
set_option maxRecDepth 100000
set_option maxHeartbeats 2000000
/-! YlI: is True, is not True. -/
namespace Yk
open PySem PySem.Spec PyProof.Rows L2
def fIsB (x y : D) (O : Sto) : Res := match x, y with
  | .bl a, .bl b => .ok (.bl (decide (a = b))) O
  | _, _ => .stuck
def fIsNotB (x y : D) (O : Sto) : Res := match x, y with
  | .bl a, .bl b => .ok (.bl (!decide (a = b))) O
  | _, _ => .stuck
section
variable {ca : Cn} {X : Cx}
def rIsNotB : R2 := fun x y H Q => ∃ a b : Bool, x = .bl a ∧ y = .bl b ∧ Q (.bl (!decide (a = b))) H
theorem op_isNotBl : OpR X (compareOp .IsNot) rIsNotB := by
  intro pins s σ H x y v u Q I rx ry h
  obtain ⟨a, b, rfl, rfl, q⟩ := h
  cases (show v = Value.bool a from rx)
  cases (show u = Value.bool b from ry)
  by_cases e : a = b
  · subst e
    exact wpAny_isNot_self rfl ⟨.bl false, H, I, rfl, by simpa using q⟩
  · exact wpAny_isNot_other rfl (fun z => e (Value.bool.inj z)) ⟨.bl true, H, I, rfl, by simpa [e] using q⟩
theorem ops_isB : OpS ca rIsB fIsB := fun w O H x y dx dy W σ Q k r1 r2 h => by
  unfold fIsB at h
  split at h
  · cases r1
    cases r2
    exact ⟨_, _, rfl, rfl, post_ok k (.bl _) h⟩
  · exact h.elim
theorem ops_isNotB : OpS ca rIsNotB fIsNotB := fun w O H x y dx dy W σ Q k r1 r2 h => by
  unfold fIsNotB at h
  split at h
  · cases r1
    cases r2
    exact ⟨_, _, rfl, rfl, post_ok k (.bl _) h⟩
  · exact h.elim
end
end Yk

set_option Elab.async false
set_option linter.all false
set_option maxRecDepth 100000
set_option maxHeartbeats 2000000
/-! YlJ: for the plain laws: exceptions worked out, methods worked out, a dict walked under its lock -/
namespace Yk
open PySem L2
section
variable {c : Str} {fs : List (Str × D)} {O : Sto} {ρ : Env'} {d : D}
@[simp] theorem bind_exc {k : D → Sto → Res} : (Res.exc c fs O).bind k = .exc c fs O := Eq.trans rfl rfl
@[simp] theorem bindL_exc {k : D → Sto → ResL} : (Res.exc c fs O).bindL k = .exc c fs O := Eq.trans rfl rfl
@[simp] theorem bindB_exc {k : D → Sto → ResB} : (Res.exc c fs O).bindB k = .exc c fs O := Eq.trans rfl rfl
@[simp] theorem bindS_exc {k : D → Sto → Out} : (Res.exc c fs O).bindS ρ k = .exc c fs ρ O := Eq.trans rfl rfl
@[simp] theorem then_exc {t : DTS} : (Out.exc c fs ρ O).then t = .exc c fs ρ O := Eq.trans rfl rfl
@[simp] theorem res_exc : (Out.exc c fs ρ O).res = .exc c fs O := Eq.trans rfl rfl
@[simp] theorem ap_raise : dRaise c ρ O = .exc c [] ρ O := Eq.trans rfl rfl
@[simp] theorem ap_raise1 {f : Str} {m : DTE} : dRaise1 c f m ρ O = (m ρ O).bindS ρ fun d O1 => .exc c [(f, d)] ρ O1 := Eq.trans rfl rfl
theorem trim_len {O O' : Sto} {d : D} (h : O'.length = O.length) : trimR O (.ok d O') = .ok d O' := by
  unfold trimR
  dsimp only
  split
  · rw [← h, List.take_length]
  · rfl
theorem trim_exc : trimR O (.exc c fs O) = .exc c fs O := by
  unfold trimR
  dsimp only
  split
  · rw [List.take_length]
  · rfl
theorem trim_excA {G : Sto} (h : BelowF O.length fs) : trimR O (.exc c fs (O ++ G)) = .exc c fs O := by
  unfold trimR
  dsimp only
  rw [if_pos ⟨h, Kept.app O G⟩, List.take_left]
@[simp] theorem ap_meth0 {m : Str} {tb : List MRow} {a : DTE} : dMeth0 m tb a ρ O = (a ρ O).bind fun x O1 => match rowOf tb x m O1 with
  | some r => r.fm (x :: r.dfl.drop r.j) O1
  | none => .stuck := Eq.trans rfl rfl
@[simp] theorem ap_meth {m : Str} {tb : List MRow} {a : DTE} {l : DTA} : dMeth m tb a l ρ O = (a ρ O).bind fun x O1 => match rowOf tb x m O1 with
  | some r => (l ρ O1).bind fun xs O2 => r.fm (x :: (xs ++ r.dfl.drop r.j)) O2
  | none => .stuck := Eq.trans rfl rfl
theorem forL_exc {items : List D} {lk : Option (Nat × OD)} {g : DTG} {body : DTS} {O2 : Sto} {ρ1 ρ2 : Env'} {x : D} {xs : List D} (hs : Still lk O) (h1 : g x ρ = some ρ1) (h2 : body ρ1 O = .exc c fs ρ2 O2) : forL items lk g body (x :: xs) ρ O = .exc c fs ρ2 O2 := by
  unfold forL
  rw [if_pos hs, h1]
  dsimp only
  rw [h2]
theorem set_itself {m : Nat} {od : OD} (h : O[m]? = some od) : O.set m od = O := by
  obtain ⟨hl, e⟩ := List.getElem?_eq_some_iff.mp h
  rw [← e]
  exact List.set_getElem_self hl
theorem unl_rt {R : Sto} {m : Nat} {od : OD} {x : D} (h : O[m]? = some od) : (Out.rt x (O.set m (.lck od) ++ R)).unl m od = .rt x (O ++ R) := by
  have hl := (List.getElem?_eq_some_iff.mp h).1
  show unlS m od (O.set m (.lck od) ++ R) (.rt x) = _
  unfold unlS
  rw [if_pos (by rw [List.getElem?_append_left (by simpa using hl), List.getElem?_set_self hl]), List.set_append_left _ _ (by simpa using hl), List.set_set, set_itself h]
theorem belowK_all {n : Nat} {kvs : List (Key × D)} (h : ∀ kv ∈ kvs, Below n kv.2) : BelowK n kvs := by
  induction kvs with
  | nil => exact .nil
  | cons kv kvs ih => exact .cons (h kv (List.mem_cons_self ..)) (ih fun x hx => h x (List.mem_cons_of_mem _ hx))
theorem StoNx.refl : StoNx O O := fun i o h => .inl h
theorem tryA_ok {xt : List (Str × Str × Bool)} {mb m : DTS} {h : Str} {i : Nat} (e : ∀ c fs ρ' O', mb ρ O ≠ .exc c fs ρ' O') : dTryA xt mb h i m ρ O = mb ρ O := by
  unfold dTryA
  split
  · rename_i c fs ρ' O' e2
    exact absurd e2 (e c fs ρ' O')
  · rfl
theorem tryA_rt {xt : List (Str × Str × Bool)} {mb m : DTS} {h : Str} {i : Nat} {ρ' : Env'} {O' O2 : Sto} (e1 : mb ρ O = .exc c fs ρ' O') (e2 : xtOf xt c h = some true) (e3 : m (ρ'.set i (some (.xo c fs))) O' = .rt d O2) (e4 : nxD d = true) (e5 : StoNx O' O2) : dTryA xt mb h i m ρ O = .rt d O2 := by
  unfold dTryA
  rw [e1]
  dsimp only
  rw [e2]
  dsimp only
  rw [e3]
  unfold chkX
  dsimp only
  rw [if_pos ⟨e4, e5⟩]
end
end Yk

set_option Elab.async false
set_option linter.all false
set_option maxRecDepth 100000
set_option maxHeartbeats 2000000
/-! YlK: defs that a def makes and hands on: their cells, their calls. -/
namespace Yk
open PySem PySem.Spec PyProof.Rows L2 NdefX LamX
/-! ### things told by predicates, apart -/
def onlyHeap (c : Addr) (o : Obj) : Heap := { objs := (List.replicate (c + 1) o).toArray }
theorem onlyHeap_get {c : Addr} {oc : Value} {d : Option Addr} {vs : Array Value} {sl : Array (Option Value)} : (onlyHeap c ⟨oc, d, .fields vs, sl⟩).get? c = some ⟨oc, d, .fields vs, sl⟩ := by
  have e : (onlyHeap c ⟨oc, d, .fields vs, sl⟩).objs[c]? = some ⟨oc, d, .fields vs, sl⟩ := by simp [onlyHeap]
  unfold Heap.get?
  rw [e]
theorem onlyHeap_fn {c : Addr} {oc : Value} {d : Option Addr} {fd : FuncData} {sl : Array (Option Value)} : (onlyHeap c ⟨oc, d, .func fd, sl⟩).get? c = some ⟨oc, d, .func fd, sl⟩ := by
  have e : (onlyHeap c ⟨oc, d, .func fd, sl⟩).objs[c]? = some ⟨oc, d, .func fd, sl⟩ := by simp [onlyHeap]
  unfold Heap.get?
  rw [e]
theorem code_ne_cell {c : Addr} {q : Str} {v : V} : CodeO c q ≠ CellO c v := fun z => by
  have e := HO.ext.inj z
  have p := congrFun e (onlyHeap c ⟨.none, none, .fields #[.none, .str q 0], #[]⟩)
  have p2 : ∃ u, RelV v u ∧ (onlyHeap c ⟨.none, none, .fields #[.none, .str q 0], #[]⟩).IsCell c (some u) := p ▸ ⟨_, _, _, onlyHeap_get, rfl, rfl⟩
  obtain ⟨u, _, o, h1, h2⟩ := p2
  rw [onlyHeap_get] at h1
  cases h1
  cases h2
theorem fn_ne_cell {f : Addr} {F : NF} {v : V} : FnO f F ≠ CellO f v := fun z => by
  have e := HO.ext.inj z
  have p := congrFun e (onlyHeap f ⟨.type "function", none, .func (F.fd .none .none .none), #[]⟩)
  have p2 : ∃ u, RelV v u ∧ (onlyHeap f ⟨.type "function", none, .func (F.fd .none .none .none), #[]⟩).IsCell f (some u) := p ▸ ⟨_, _, _, _, _, onlyHeap_fn⟩
  obtain ⟨u, _, o, h1, h2⟩ := p2
  rw [onlyHeap_fn] at h1
  cases h1
  cases h2
theorem fn_ne_code {f : Addr} {F : NF} {q : Str} : FnO f F ≠ CodeO f q := fun z => by
  have e := HO.ext.inj z
  have p := congrFun e (onlyHeap f ⟨.type "function", none, .func (F.fd .none .none .none), #[]⟩)
  have p2 : ∃ (oc : Obj) (vs : Array Value) (t : Tok), (onlyHeap f ⟨.type "function", none, .func (F.fd .none .none .none), #[]⟩).get? f = some oc ∧ oc.data = .fields vs ∧ vs[1]? = some (.str q t) := p ▸ ⟨_, _, _, _, _, onlyHeap_fn⟩
  obtain ⟨o, _, _, h1, h2, _⟩ := p2
  rw [onlyHeap_fn] at h1
  cases h1
  cases h2
/-! ### cells followed, cells let go -/
def trk : List (Addr × V) → Hp → Hp
  | [], H => H
  | p :: r, H => upd (trk r H) p.1 (CellO p.1 p.2)
open Classical in
noncomputable def utr (cs : List (Addr × V)) (H : Hp) : Hp := fun b => if b ∈ cs.map (·.1) then none else H b
section
variable {cs : List (Addr × V)} {H : Hp} {P : Program} {w : World} {h h' : Heap}
theorem trk_out {b : Addr} (hb : b ∉ cs.map (·.1)) : trk cs H b = H b := by
  induction cs with
  | nil => rfl
  | cons p r ih =>
    rw [List.map_cons, List.mem_cons] at hb
    unfold trk
    rw [upd_ne fun e => hb (.inl e)]
    exact ih fun e => hb (.inr e)
theorem trk_in (hn : (cs.map (·.1)).Nodup) {p : Addr × V} (hp : p ∈ cs) : trk cs H p.1 = some (CellO p.1 p.2) := by
  induction cs with
  | nil => cases hp
  | cons q r ih =>
    rw [List.map_cons, List.nodup_cons] at hn
    unfold trk
    rcases List.mem_cons.mp hp with rfl | hp
    · exact upd_same
    · have hm : p.1 ∈ r.map (·.1) := List.mem_map_of_mem (f := fun q : Addr × V => q.1) hp
      rw [upd_ne fun e => hn.1 (by rw [← e]; exact hm)]
      exact ih hn.2 hp
theorem trk_none {b : Addr} (hn : (cs.map (·.1)).Nodup) (e : trk cs H b = none) : b ∉ cs.map (·.1) ∧ H b = none := by
  by_cases hb : b ∈ cs.map (·.1)
  · obtain ⟨p, hp, rfl⟩ := List.mem_map.mp hb
    rw [trk_in hn hp] at e
    cases e
  · exact ⟨hb, by rw [trk_out hb] at e; exact e⟩
theorem utr_out {b : Addr} (hb : b ∉ cs.map (·.1)) : utr cs H b = H b := if_neg hb
theorem utr_in {b : Addr} (hb : b ∈ cs.map (·.1)) : utr cs H b = none := if_pos hb
theorem utr_some {b : Addr} {o : HO} (e : utr cs H b = some o) : b ∉ cs.map (·.1) ∧ H b = some o := by
  by_cases hb : b ∈ cs.map (·.1)
  · rw [utr_in hb] at e
    cases e
  · exact ⟨hb, by rw [utr_out hb] at e; exact e⟩
theorem cellO_ok {H : Hp} {c : Addr} {v : V} (hc : ∃ u, RelV v u ∧ h.IsCell c (some u)) : ObjOk P w H h c (CellO c v) := by
  obtain ⟨u, r, o, ho, hd⟩ := hc
  exact ⟨⟨u, r, o, ho, hd⟩, ⟨o, ho⟩, fun h1 h2 ⟨u, r, o, ho, hd⟩ st => ⟨u, r, o, st o ho, hd⟩⟩
theorem cellO_at (x : ObjOk P w H h c (CellO c v)) : ∃ u, RelV v u ∧ h.IsCell c (some u) := x.1
theorem hok_trk (x : HOk P w H h) (hn : (cs.map (·.1)).Nodup) (h0 : ∀ p ∈ cs, H p.1 = none) (hc : ∀ p ∈ cs, ∃ u, RelV p.2 u ∧ h.IsCell p.1 (some u)) : HOk P w (trk cs H) h := fun a o e => by
  by_cases ha : a ∈ cs.map (·.1)
  · obtain ⟨p, hp, rfl⟩ := List.mem_map.mp ha
    rw [trk_in hn hp] at e
    cases e
    exact cellO_ok (hc p hp)
  · rw [trk_out ha] at e
    have keep : ∀ b u, H b = some u → trk cs H b = some u := fun b u q => by
      rw [trk_out]
      · exact q
      · intro hb
        obtain ⟨p, hp, rfl⟩ := List.mem_map.mp hb
        rw [h0 p hp] at q
        cases q
    exact (x a o e).stay (fun b u _ q => q) (fun b q => keep _ _ q) fun b xs q => keep _ _ q
theorem hok_utr (x : HOk P w H h) (hc : ∀ p ∈ cs, H p.1 = some (CellO p.1 p.2)) : HOk P w (utr cs H) h := fun a o e => by
  obtain ⟨_, e⟩ := utr_some e
  have keep : ∀ b u, (∀ p ∈ cs, u ≠ CellO p.1 p.2) → H b = some u → utr cs H b = some u := fun b u hu q => by
    rw [utr_out]
    · exact q
    · intro hb
      obtain ⟨p, hp, rfl⟩ := List.mem_map.mp hb
      rw [hc p hp] at q
      exact hu p hp (Option.some.inj q).symm
  exact (x a o e).stay (fun b u _ q => q) (fun b q => keep _ _ (fun p _ z => by cases z) q) fun b xs q => keep _ _ (fun p _ z => by cases z) q
theorem un_gone {fs : List Addr} {H' : Hp} (hk : HOk P w H h) (hc : ∀ p ∈ cs, H p.1 = some (CellO p.1 p.2)) (un : Un fs [] (utr cs H) H' h h') : (∀ p ∈ cs, H' p.1 = none) ∧ ∀ p ∈ cs, ∃ u, RelV p.2 u ∧ h'.IsCell p.1 (some u) := by
  have at_ : ∀ p ∈ cs, ∃ u, RelV p.2 u ∧ h.IsCell p.1 (some u) := fun p hp => cellO_at (hk p.1 _ (hc p hp))
  have un0 : ∀ p ∈ cs, utr cs H p.1 = none := fun p hp => utr_in (List.mem_map_of_mem (f := fun q : Addr × V => q.1) hp)
  refine ⟨fun p hp => ?_, fun p hp => ?_⟩
  · obtain ⟨u, _, o, ho, _⟩ := at_ p hp
    exact un.free p.1 o ho (un0 p hp) (by simp)
  · obtain ⟨u, r, o, ho, hd⟩ := at_ p hp
    by_cases hf : p.1 ∈ fs
    · obtain ⟨sl, e⟩ := un.slot p.1 o ho (un0 p hp) hf (by simp)
      exact ⟨u, r, _, e, hd⟩
    · exact ⟨u, r, o, un.keep p.1 o ho (un0 p hp) hf (by simp), hd⟩
theorem un_trk {fs : List Addr} {H' : Hp} (hn : (cs.map (·.1)).Nodup) (hc : ∀ p ∈ cs, H p.1 = some (CellO p.1 p.2)) (h0 : ∀ p ∈ cs, H' p.1 = none) (un : Un fs [] (utr cs H) H' h h') : Un fs [] H (trk cs H') h h' := by
  have low : ∀ b, H b = none → utr cs H b = none ∧ b ∉ cs.map (·.1) := fun b e => by
    have hb : b ∉ cs.map (·.1) := fun hb => by
      obtain ⟨p, hp, rfl⟩ := List.mem_map.mp hb
      rw [hc p hp] at e
      cases e
    exact ⟨by rw [utr_out hb]; exact e, hb⟩
  have up : ∀ b u, H b = some u → (∀ p ∈ cs, u ≠ CellO p.1 p.2) → utr cs H b = some u := fun b u q hu => by
    rw [utr_out]
    · exact q
    · intro hb
      obtain ⟨p, hp, rfl⟩ := List.mem_map.mp hb
      rw [hc p hp] at q
      exact hu p hp (Option.some.inj q).symm
  have back : ∀ b u, H' b = some u → trk cs H' b = some u := fun b u q => by
    rw [trk_out]
    · exact q
    · intro hb
      obtain ⟨p, hp, rfl⟩ := List.mem_map.mp hb
      rw [h0 p hp] at q
      cases q
  exact ⟨fun b o e n a d => un.keep b o e (low b n).1 a d, fun b o e n a d => un.slot b o e (low b n).1 a d, fun b o e n d => by rw [trk_out (low b n).2]; exact un.free b o e (low b n).1 d, un.there,
    fun b xs e => back _ _ (un.tups b xs (up b _ e fun p _ z => by cases z)), fun b o u e => back _ _ (un.frzs b o u (up b _ e fun p _ z => by cases z)), fun b ps e => by
      obtain ⟨more, q⟩ := un.tbls b ps (up b _ e fun p _ z => by cases z)
      exact ⟨more, back _ _ q⟩⟩
end
/-! ### a made def's cells -/
structure ClE (cl : List (Str × Addr)) (fr : List Str) : Prop where
  sub : ∀ y c, cl.lookup y = some c → y ∈ fr
  frn : fr.Nodup
  inj : ∀ x y c, cl.lookup x = some c → cl.lookup y = some c → x = y
  tot : ∀ y ∈ fr, ∃ c, cl.lookup y = some c
def cellsOf (cl : List (Str × Addr)) (fr : List Str) (vs : List V) : List (Addr × V) := (fr.zip vs).map fun p => ((cl.lookup p.1).getD 0, p.2)
section
variable {cl : List (Str × Addr)} {fr : List Str} {vs : List V}
theorem cells_mem (E : ClE cl fr) {c : Addr} {v : V} (h : (c, v) ∈ cellsOf cl fr vs) : ∃ (i : Nat) (y : Str), fr[i]? = some y ∧ vs[i]? = some v ∧ cl.lookup y = some c := by
  obtain ⟨p, hp, e⟩ := List.mem_map.mp h
  obtain ⟨i, hi⟩ := List.mem_iff_getElem?.mp hp
  obtain ⟨h1, h2⟩ := List.getElem?_zip_eq_some.mp hi
  obtain ⟨c', hc⟩ := E.tot p.1 (List.mem_of_getElem? h1)
  rw [hc] at e
  cases e
  exact ⟨i, p.1, h1, h2, hc⟩
theorem mem_cells {i : Nat} {y : Str} {c : Addr} {v : V} (h1 : fr[i]? = some y) (h2 : vs[i]? = some v) (h3 : cl.lookup y = some c) : (c, v) ∈ cellsOf cl fr vs := by
  refine List.mem_map.mpr ⟨(y, v), List.mem_of_getElem? (i := i) (List.getElem?_zip_eq_some.mpr ⟨h1, h2⟩), ?_⟩
  rw [h3]
  rfl
theorem cells_nd (E : ClE cl fr) (hl : vs.length = fr.length) : ((cellsOf cl fr vs).map (·.1)).Nodup := by
  unfold cellsOf
  rw [List.map_map]
  have : (fr.zip vs).map ((fun q : Addr × V => q.1) ∘ fun p => ((cl.lookup p.1).getD 0, p.2)) = fr.map fun y => (cl.lookup y).getD 0 := by
    have h2 : (fr.zip vs).map (fun p => p.1) = fr := List.map_fst_zip (by omega)
    conv => rhs; rw [← h2]
    rw [List.map_map]
    rfl
  rw [this, List.nodup_iff_pairwise_ne, List.pairwise_map]
  have hp := E.frn
  rw [List.nodup_iff_pairwise_ne] at hp
  have ht := E.tot
  have hi := E.inj
  clear this
  refine List.Pairwise.imp_of_mem (fun {a b} ha hb hne e => ?_) hp
  obtain ⟨c1, e1⟩ := ht a ha
  obtain ⟨c2, e2⟩ := ht b hb
  rw [e1, e2] at e
  have e : c1 = c2 := e
  subst e
  exact hne (hi a b c1 e1 e2)
theorem cellsAt_of {P : Program} {w : World} {h : Heap} {H : Hp} (E : ClE cl fr) (hl : vs.length = fr.length) (hk : HOk P w H h) (hc : ∀ p ∈ cellsOf cl fr vs, H p.1 = some (CellO p.1 p.2)) : CellsAt cl fr (vs.map some) h (utr (cellsOf cl fr vs) H) := by
  have atC : ∀ {i : Nat} {y : Str} {c : Addr} {v : V}, fr[i]? = some y → vs[i]? = some v → cl.lookup y = some c → ∃ u, RelV v u ∧ h.IsCell c (some u) := fun h1 h2 h3 => cellO_at (hk _ _ (hc _ (mem_cells h1 h2 h3)))
  refine ⟨by simpa using hl, fun y c e => ?_, E.inj, fun i y e => ?_⟩
  · obtain ⟨i, hi⟩ := List.mem_iff_getElem?.mp (E.sub y c e)
    obtain ⟨v, hv⟩ : ∃ v, vs[i]? = some v := ⟨_, List.getElem?_eq_getElem (by rw [hl]; exact (List.getElem?_eq_some_iff.mp hi).1)⟩
    refine ⟨utr_in (List.mem_map.mpr ⟨(c, v), mem_cells hi hv e, rfl⟩), ?_⟩
    obtain ⟨u, _, z⟩ := atC hi hv e
    exact ⟨_, z⟩
  · obtain ⟨c, hcy⟩ := E.tot y (List.mem_of_getElem? e)
    refine ⟨c, hcy, fun v hv => ?_⟩
    rw [List.getElem?_map] at hv
    cases hq : vs[i]? with
    | none => rw [hq] at hv; cases hv
    | some v' =>
      rw [hq] at hv
      cases hv
      exact atC e hq hcy
end
/-! ### its call -/
def tClo (X : Cx) (i k : Nat) (t : TA) : TE := fun σ H Q => ∃ (f : Addr) (F : NF), σ[i]? = some (some (.ref f)) ∧ H f = some (FnO f F) ∧
  t σ H fun xs H1 => ∃ (ps fr : List Str) (vs : List V) (sp : List (Option V) → Sp), NOk X.prog X.w X.K X.mg X.base (L2.CX X.prog X.w) k f F ps fr sp ∧ H1 f = some (FnO f F) ∧ H1 F.c = some (CodeO F.c F.qual) ∧ ClE F.cl fr ∧ vs.length = fr.length ∧ (∀ p ∈ cellsOf F.cl fr vs, H1 p.1 = some (CellO p.1 p.2)) ∧
    sp (vs.map some) xs (utr (cellsOf F.cl fr vs) H1) (fun v H' => (∀ p ∈ cellsOf F.cl fr vs, H' p.1 = none) → Q v (trk (cellsOf F.cl fr vs) H')) fun _ _ _ => False
section
variable {X : Cx} {i j k : Nat} {x : Str} {t : TA} {e : Expr} {es : List Expr} {p pos : Pos}
theorem pe_clo (hr : Room j X.A) (hk : k ≤ j) (hN : X.N[i]? = some x) (hv : Vis X.env.scope x) (ha : PA X (e :: es) t)
    (hd : (x == ("__debug__" : Str)) = false := by decide) (hcd : (x == ("__classdict__" : Str)) = false := by decide)
    (he : starEach (e :: es) X.env = (false, eval e X.env) :: starEach es X.env := by rfl) (hpl : (backTo pos (starEach es X.env)).any (·.1) = false := by rfl) :
    PE X (.Call (.Name x p) (e :: es) [] pos) (tClo X i k t) := by
  refine ⟨fun pins s σ H Q I h => ?_⟩
  obtain ⟨f, F, hs, hf, ht⟩ := h
  refine wpAny_Call_Name_kw (thn ((pe_var (pos := p) hN hv hd hcd).run pins s σ H (fun v H1 => v = .ref f ∧ H1 = H) I ⟨.ref f, hs, rfl, rfl⟩) fun u s1 ⟨v, H1, I1, r1, q1⟩ => ?_)
  obtain ⟨ev, eH⟩ := q1
  subst ev
  rw [eH] at I1
  obtain rfl : u = Value.ref f := r1
  refine PySem.W.callWith_F (first := []) (fnAt_of I1 hf) (thn (ha.run pos pins s1 σ H _ I1 ht) fun us s2 ⟨xs, H2, I2, r, q⟩ => ?_) he hpl
  obtain ⟨ps, fr, vs, sp, Fn, h1, h2, E, hl, hc, q⟩ := q
  refine ⟨fnAt_of I2 h1, ?_⟩
  show wpAny _ _ (call (.ref f) us) _ _ _
  have nd := cells_nd E hl
  have e0 := I2.env0
  have out : ∀ b u, (∀ p ∈ cellsOf F.cl fr vs, p.1 = b → u ≠ CellO p.1 p.2) → H2 b = some u → utr (cellsOf F.cl fr vs) H2 b = some u := fun b u hu z => by
    rw [utr_out]
    · exact z
    · intro hb
      obtain ⟨p, hp, rfl⟩ := List.mem_map.mp hb
      rw [hc p hp] at z
      exact hu p hp rfl (Option.some.inj z).symm
  have low : ∀ b, H2 b = none → utr (cellsOf F.cl fr vs) H2 b = none := fun b z => by
    by_cases hb : b ∈ (cellsOf F.cl fr vs).map (·.1)
    · exact utr_in hb
    · rw [utr_out hb]
      exact z
  have e1 : Env0 X.prog X.w X.K X.mg X.base X.A X.stack s2 (utr (cellsOf F.cl fr vs) H2) := ⟨e0.frames, e0.mod, fun b o z => ⟨(e0.bs b o z).1, low b (e0.bs b o z).2⟩, e0.bsz, e0.funs, fun b hb => low b (e0.frf b hb), hok_utr e0.hok hc, e0.bare⟩
  have hf' := out f (FnO f F) (fun p hp z y => fn_ne_cell (f := f) (F := F) (v := p.2) (by rw [z] at y; exact y)) h1
  have hc' := out F.c (CodeO F.c F.qual) (fun p hp z y => code_ne_cell (c := F.c) (q := F.qual) (v := p.2) (by rw [z] at y; exact y)) h2
  refine wpAny_call (codeAny_mono (Fn.run X.A X.stack s2 (utr (cellsOf F.cl fr vs) H2) us xs (vs.map some) _ _ (hr.mono hk) e1 hf' hc' (cellsAt_of E hl e0.hok hc) r q) fun r s' hq => ?_)
  cases r with
  | error e =>
    obtain ⟨_, _, _, _, _, _, _, _, _, _, _, _, z⟩ := hq
    exact z.elim
  | ok fl =>
    cases fl with
    | ret u =>
      obtain ⟨v, H', os, bare, un, hok, rv, qq⟩ := hq
      obtain ⟨g0, g1⟩ := un_gone e0.hok hc un
      exact I2.after ⟨v, trk (cellsOf F.cl fr vs) H', os, bare, un_trk nd hc g0 un, hok_trk hok nd g0 g1, rv, qq g0⟩
    | next => exact False.elim hq
    | brk => exact False.elim hq
    | cont => exact False.elim hq
end
/-! ### a def that makes one -/
structure PM (X : Cx) (body : List Stmt) (t : (V → L2.St → Hp → Prop) → L2.St → Hp → Prop) : Prop where
  run : ∀ (s : Shared) (σ : L2.St) (H : Hp) (R : V → L2.St → Hp → Prop), Inv X [] σ H s → t R σ H → wpAny (model X.prog X.w) X.A (execs body X.env) (fun fl s' => ∃ u v σ' H', fl = .ret u ∧ Inv X [] σ' H' s' ∧ RelV v u ∧ R v σ' H') X.xe s
section
variable {X : Cx} {st : Stmt} {rest : List Stmt} {t : TS} {u : (V → L2.St → Hp → Prop) → L2.St → Hp → Prop}
theorem pm_cons (h1 : PS X st t) (h2 : PM X rest u) : PM X (st :: rest) fun R σ H => t { nx := u R, rt := fun _ _ => False } σ H := by
  refine ⟨fun s σ H R I h => ?_⟩
  refine wpAny_execs_cons (thn (h1.run [] s σ H _ I h) fun f s1 q => ?_)
  cases f with
  | next =>
    obtain ⟨σ', H', I', q⟩ := q
    exact h2.run s1 σ' H' R I' q
  | ret v =>
    obtain ⟨_, _, _, _, _, z⟩ := q
    exact z.elim
  | brk =>
    obtain ⟨_, _, _, z⟩ := q
    exact z.elim
  | cont =>
    obtain ⟨_, _, _, z⟩ := q
    exact z.elim
theorem pm_ret {i : Nat} {x : Str} {p pos : Pos} (hN : X.N[i]? = some x) (hv : Vis X.env.scope x) (hd : (x == ("__debug__" : Str)) = false := by decide) (hcd : (x == ("__classdict__" : Str)) = false := by decide) :
    PM X [.Return (some (.Name x p)) pos] fun R σ H => ∃ v, σ[i]? = some (some v) ∧ R v σ H := by
  refine ⟨fun s σ H R I h => ?_⟩
  obtain ⟨v, hs, hR⟩ := h
  refine wpAny_execs_cons (wpAny_Return_some (thn ((pe_var (pos := p) hN hv hd hcd).run [] s σ H (fun v' H1 => v' = v ∧ H1 = H) I ⟨v, hs, rfl, rfl⟩) fun u s1 ⟨v', H1, I1, r1, q1⟩ => ?_))
  obtain ⟨rfl, rfl⟩ := q1
  exact ⟨u, v', σ, H1, rfl, I1, r1, hR⟩
end
/-- what the maker's end is owed -/
def RM (X : Cx) (Q : VK) : V → L2.St → Hp → Prop := fun v σ' H' => ∃ (cl : List (Str × Addr)) (fr : List Str) (js : List Nat) (ws : List V), (X.Ok → Caps X cl fr js) ∧ (∀ y c, cl.lookup y = some c → y ∈ fr) ∧ fr.Nodup ∧ js.map (slotAt σ') = ws.map some ∧
  (ClE cl fr → ws.length = fr.length → (∀ p ∈ cellsOf cl fr ws, H' p.1 = none) → Q v (trk (cellsOf cl fr ws) H'))
section
variable {P : Program} {w : World} {K : PySem.W.Frag} {mg : Str → Option Value} {base : Heap} {x qual : Str} {params : Arguments} {body : List Stmt} {scope : Scope} {f : Addr} {fd : FuncData}
theorem okM {CX : CXT} {N ps : List Str} {k : Nat} {sp : Sp} (F : FunD K x qual params body scope [] [] f fd) (S : FnScope N ps scope) (len : ∀ vs H Q E, sp vs H Q E → vs.length = ps.length)
    (hbody : ∀ (cdv : Value) (A : Around) (outer : List Env) (s : Shared) (H : Hp) (vs : List V) (Q : VK) (E : XK), fd.code = cdv → Room k (A.deeper (envOfC qual scope s.heap.objs.size f cdv)) → sp vs H Q E →
      ∃ t, PM (cxOf CX P w K mg base N qual scope f cdv A outer s H E) body t ∧ t (RM (cxOf CX P w K mg base N qual scope f cdv A outer s H E) Q) (start N vs) H) : FnOk P w K mg base CX (k + 1) f fd ps sp := by
  obtain ⟨oc, od, dV, kV, doc, pm, an, cdv, ct, osl, rfl, lk, hcd, _, _⟩ := F.ex
  refine ⟨len, fun A outer s H args us vs Q E hr e0 hb r hsp => ?_⟩
  have hl := len _ _ _ _ hsp
  have KX : K.In s.heap := e0.mod.kin.keeps fun b o e => (e0.bs b o e).1
  have lim : s.heap.NoLimit := e0.mod.nolimit.keeps fun b o e => (e0.bs b o e).1
  have hkind : ∀ y ∈ ps.zip us, scope.names.lookup y.1 = some .local ∨ (scope.names.lookup y.1 = some .cell ∧ ((cellsFrom (s.heap.objs.size + 1) scope.names []).lookup y.1).isSome = true) := fun ⟨n, v⟩ hy => by
    rcases S.par n (List.of_mem_zip hy).1 with q | q
    · exact .inl q
    · exact .inr ⟨q, PySem.W.cellsFrom_some _ _ _ (.inl q)⟩
  refine codeAny_call_function hr.depth (KX _ _ lk) rfl S.co S.gen rfl (PySem.W.codeRec_of KX hcd) (hb _ _ _ _ ?_)
  refine wpAny_newFunctionEnv_cells S.kind hkind fun env he s1 x1 => ?_
  subst he
  refine ⟨lim.keeps x1.toInCall.keep, codeAny_func ?_⟩
  obtain ⟨t, ht, hq⟩ := hbody cdv A outer s H vs Q E rfl (hr.deeper _) hsp
  have I : Inv (cxOf CX P w K mg base N qual scope f cdv A outer s H E) [] (start N vs) H s1 := inv_start S hr.hd e0 hl r x1
  refine wpAny_mono (ht.run s1 (start N vs) H _ I hq) (fun fl s' hs => ?_) fun e s' hs => hs
  obtain ⟨u, v, σ', H', rfl, J, rv, cl, fr, js, ws, cp, hsub, hfr, hws, hQ⟩ := hs
  have C := cells_of J (cp J.ok)
  rw [hws] at C
  have hlen : ws.length = fr.length := by simpa using C.len
  have E1 : ClE cl fr := ⟨hsub, hfr, C.inj, fun y hy => by
    obtain ⟨i, hi⟩ := List.mem_iff_getElem?.mp hy
    obtain ⟨c, hc, _⟩ := C.has i y hi
    exact ⟨c, hc⟩⟩
  have nd := cells_nd E1 hlen
  have h0 : ∀ p ∈ cellsOf cl fr ws, H' p.1 = none := fun p hp => by
    obtain ⟨i, y, _, _, hy⟩ := cells_mem (c := p.1) (v := p.2) E1 hp
    exact (C.all y p.1 hy).1
  have hce : ∀ p ∈ cellsOf cl fr ws, ∃ u, RelV p.2 u ∧ s'.heap.IsCell p.1 (some u) := fun p hp => by
    obtain ⟨i, y, h1, h2, hy⟩ := cells_mem (c := p.1) (v := p.2) E1 hp
    obtain ⟨c, hc, hh⟩ := C.has i y h1
    rw [hy] at hc
    cases hc
    exact hh p.2 (by rw [List.getElem?_map, h2]; rfl)
  have hge : ∀ p ∈ cellsOf cl fr ws, s.heap.objs.size ≤ p.1 := fun p hp => by
    obtain ⟨i, y, _, _, hy⟩ := cells_mem (c := p.1) (v := p.2) E1 hp
    exact J.ok.cab y p.1 rfl ((cp J.ok).sub y p.1 hy)
  have un : Un (frs outer) [] H H' s.heap s'.heap := J.base
  have back : ∀ b u, H' b = some u → trk (cellsOf cl fr ws) H' b = some u := fun b u q => by
    rw [trk_out]
    · exact q
    · intro hb
      obtain ⟨p, hp, rfl⟩ := List.mem_map.mp hb
      rw [h0 p hp] at q
      cases q
  refine ⟨v, trk (cellsOf cl fr ws) H', J.os, J.bare, ⟨un.keep, un.slot, fun b o e n d => ?_, un.there, fun b xs e => back _ _ (un.tups b xs e), fun b o u e => back _ _ (un.frzs b o u e), fun b ps e => ?_⟩, hok_trk J.hok nd h0 hce, rv, hQ E1 hlen h0⟩
  · rw [trk_out]
    · exact un.free b o e n d
    · intro hb
      obtain ⟨p, hp, rfl⟩ := List.mem_map.mp hb
      exact absurd (Heap.lt_size e) (Nat.not_lt.mpr (hge p hp))
  · obtain ⟨more, q⟩ := un.tbls b ps e
    exact ⟨more, back _ _ q⟩
end
end Yk

set_option Elab.async false
set_option linter.all false
set_option maxRecDepth 100000
set_option maxHeartbeats 2000000
/-! YlL: made defs over data. -/
namespace Yk
open PySem PySem.Spec PyProof.Rows L2 NdefX LamX
def LwB.run (B : LwB) (nm : Str) : LwB := { B with bz := B.bz.map (nm :: ·) }
theorem same_run {B : LwB} {K : PySem.W.Frag} {nm : Str} : (cao B K).same (cao (B.run nm) K) := ⟨rfl, rfl, rfl⟩
theorem same_run' {B : LwB} {K : PySem.W.Frag} {nm : Str} : (cao (B.run nm) K).same (cao B K) := ⟨rfl, rfl, rfl⟩
/-! ### a made def begins to run, and ends -/
def Wd.ent (w : Wd) (nm : Str) (as : List Addr) : Wd := ⟨w.F, w.ad, w.pv, w.lk, { w.cx with off := as ++ w.cx.off, bz := nm :: w.cx.bz }⟩
def Wd.lv (w2 w : Wd) : Wd := ⟨w2.F, w2.ad, w2.pv, w2.lk, { w2.cx with off := w.cx.off, bz := w.cx.bz }⟩
theorem Wd.ent_sb {w : Wd} {nm : Str} {as : List Addr} : w.sb (w.ent nm as) := ⟨fun _ _ h => h, fun _ _ h => h, fun _ _ h => h, rfl⟩
theorem Wd.lv_sb {w2 w : Wd} : w2.sb (w2.lv w) := ⟨fun _ _ h => h, fun _ _ h => h, fun _ _ h => h, rfl⟩
section
variable {B : LwB} {K : PySem.W.Frag} {w w2 : Wd} {O O2 : Sto} {H H2 : Hp} {nm : Str} {l : List Str} {cs : List (Addr × V)}
theorem cell_on (k : Ok (cao B K) w O H) (hB : B.bz = some l) (hn : nm ∉ l) {c : Addr} {v : V} (hc : w.cx.cl c = some (nm, v)) : c ∉ w.cx.off ∧ H c = some (CellO c v) := by
  have h0 : c ∉ w.cx.off := fun m => by
    obtain ⟨nm', v', e, m2⟩ := k.x.offb c m
    rw [hc] at e
    cases e
    rw [k.x.bzk l hB] at m2
    exact hn m2
  exact ⟨h0, (k.x.cel c nm v hc).resolve_left h0⟩
theorem Ok.enter (k : Ok (cao B K) w O H) (hB : B.bz = some l) (hn : nm ∉ l) (hc : ∀ p ∈ cs, w.cx.cl p.1 = some (nm, p.2)) : Ok (cao (B.run nm) K) (w.ent nm (cs.map (·.1))) O (utr cs H) := by
  have on : ∀ p ∈ cs, p.1 ∉ w.cx.off ∧ H p.1 = some (CellO p.1 p.2) := fun p hp => cell_on k hB hn (hc p hp)
  have out : ∀ {b : Addr} {u : HO}, H b = some u → (∀ p ∈ cs, p.1 = b → u ≠ CellO p.1 p.2) → utr cs H b = some u := fun {b u} e hu => by
    rw [utr_out]
    · exact e
    · intro hb
      obtain ⟨p, hp, rfl⟩ := List.mem_map.mp hb
      rw [(on p hp).2] at e
      exact hu p hp rfl (Option.some.inj e).symm
  have outp : ∀ {b : Addr} {u : HO}, H b = some u → plain u = true → utr cs H b = some u := fun e hu => out e fun p _ _ z => by
    rw [z] at hu
    cases hu
  refine ⟨fun a u e => ?_, k.len, k.nd, fun a m => ?_, fun n a o e1 e2 g => ?_, fun a u e => ?_, fun a u e => ?_, ⟨k.x.pvp, fun a u e => ?_, fun p hp => ?_, fun c nm' v e => ?_, fun c m => ?_, fun l' e => ?_, k.x.xak⟩⟩
  · have hF : w.F a = some u := e
    have ne : a ∉ cs.map (·.1) := fun hb => by
      obtain ⟨p, hp, rfl⟩ := List.mem_map.mp hb
      exact (on p hp).1 ((k.x.fpl _ _ hF).2 _ _ (hc p hp))
    rw [utr_out ne]
    exact k.ext a u hF
  · obtain ⟨u, e, q⟩ := k.here a m
    exact ⟨u, outp e q, q⟩
  · obtain ⟨h1, u, h2, h3⟩ := k.own n a o e1 e2 g
    exact ⟨h1, u, outp h2 h3.plain, (h3.monoB Wd.ent_sb).conv same_run⟩
  · obtain ⟨h1, h2, h3⟩ := k.prv a u e
    exact ⟨outp h1 (k.x.pvp a u e), h2, h3⟩
  · obtain ⟨h1, h2⟩ := k.lks a u e
    refine ⟨outp h1 ?_, h2⟩
    cases u <;> first | rfl | cases h2
  · obtain ⟨h1, h2⟩ := k.x.fpl a u e
    exact ⟨h1, fun nm v q => List.mem_append_right _ (h2 nm v q)⟩
  · obtain ⟨ps, h1, h2, h3⟩ := k.x.tab p hp
    refine ⟨ps, out h1 (fun p _ _ z => by cases z), h2, fun pos cv hcv => ?_⟩
    obtain ⟨c, e1, e2⟩ := h3 pos cv hcv
    exact ⟨c, e1, out e2 fun p _ q z => by
      subst q
      exact code_ne_cell z⟩
  · by_cases hb : c ∈ cs.map (·.1)
    · exact .inl (List.mem_append_left _ hb)
    · rcases k.x.cel c nm' v e with q | q
      · exact .inl (List.mem_append_right _ q)
      · exact .inr (by rw [utr_out hb]; exact q)
  · have m : c ∈ cs.map (·.1) ++ w.cx.off := m
    rcases List.mem_append.mp m with m | m
    · obtain ⟨p, hp, rfl⟩ := List.mem_map.mp m
      exact ⟨nm, p.2, hc p hp, List.mem_cons_self ..⟩
    · obtain ⟨nm', v, e, q⟩ := k.x.offb c m
      exact ⟨nm', v, e, List.mem_cons_of_mem _ q⟩
  · have e : B.bz.map (nm :: ·) = some l' := e
    rw [hB] at e
    cases e
    show nm :: w.cx.bz = nm :: l
    rw [k.x.bzk l hB]
theorem Ok.leave (k : Ok (cao B K) w O H) (hc : ∀ p ∈ cs, w.cx.cl p.1 = some (nm, p.2)) (hd : (cs.map (·.1)).Nodup) (le : (w.ent nm (cs.map (·.1))).le w2) (k2 : Ok (cao (B.run nm) K) w2 O2 H2) (h0 : ∀ p ∈ cs, H2 p.1 = none) : Ok (cao B K) (w2.lv w) O2 (trk cs H2) ∧ w.le (w2.lv w) := by
  have back : ∀ {b : Addr} {u : HO}, H2 b = some u → trk cs H2 b = some u := fun {b u} q => by
    rw [trk_out]
    · exact q
    · intro hb
      obtain ⟨p, hp, rfl⟩ := List.mem_map.mp hb
      rw [h0 p hp] at q
      cases q
  refine ⟨⟨fun a u e => ?_, k2.len, k2.nd, fun a m => ?_, fun n a o e1 e2 g => ?_, fun a u e => ?_, fun a u e => ?_, ⟨k2.x.pvp, fun a u e => ?_, fun p hp => ?_, fun c nm' v e => ?_, fun c m => ?_, k.x.bzk, ?_⟩⟩, ⟨le.F, le.ad, le.pv, le.lk, le.cx.cl, rfl, rfl, le.cx.xa⟩⟩
  · rcases k2.ext a u e with q | ⟨q, o, q2⟩
    · exact .inl (back q)
    · exact .inr ⟨q, o, back q2⟩
  · obtain ⟨u, e, q⟩ := k2.here a m
    exact ⟨u, back e, q⟩
  · obtain ⟨h1, u, h2, h3⟩ := k2.own n a o e1 e2 g
    exact ⟨h1, u, back h2, (h3.monoB Wd.lv_sb).conv same_run'⟩
  · obtain ⟨h1, h2, h3⟩ := k2.prv a u e
    exact ⟨back h1, h2, h3⟩
  · obtain ⟨h1, h2⟩ := k2.lks a u e
    exact ⟨back h1, h2⟩
  · obtain ⟨h1, h2⟩ := k2.x.fpl a u e
    refine ⟨h1, fun nm' v q => ?_⟩
    have m := h2 nm' v q
    rw [le.cx.off] at m
    have m : a ∈ cs.map (·.1) ++ w.cx.off := m
    rcases List.mem_append.mp m with m | m
    · obtain ⟨p, hp, rfl⟩ := List.mem_map.mp m
      have := k2.ext.free (h0 p hp)
      have e : w2.F p.1 = some u := e
      rw [this] at e
      cases e
    · exact m
  · obtain ⟨ps, h1, h2, h3⟩ := k2.x.tab p hp
    exact ⟨ps, back h1, h2, fun pos cv hcv => by
      obtain ⟨c, e1, e2⟩ := h3 pos cv hcv
      exact ⟨c, e1, back e2⟩⟩
  · rcases k2.x.cel c nm' v e with m | q
    · rw [le.cx.off] at m
      have m : c ∈ cs.map (·.1) ++ w.cx.off := m
      rcases List.mem_append.mp m with m | m
      · obtain ⟨p, hp, rfl⟩ := List.mem_map.mp m
        have e2 := le.cx.cl p.1 _ (hc p hp)
        have e : w2.cx.cl p.1 = some (nm', v) := e
        rw [e] at e2
        cases e2
        exact .inr (trk_in hd hp)
      · exact .inl m
    · exact .inr (back q)
  · obtain ⟨nm', v, e, q⟩ := k.x.offb c m
    exact ⟨nm', v, le.cx.cl c _ e, q⟩
  · exact le.cx.xa.trans k.x.xak
end
/-! ### what a made def does -/
def spN (ca : Cn) (n : Nat) (m : Fm) : List (Option V) → Sp := fun ws vs H Q E => ∃ (w : Wd) (O : Sto) (ds es : List D) (us : List V), Ok ca w O H ∧ RepL ca w vs ds ∧ RepL ca w us es ∧ ws = us.map some ∧ vs.length = n ∧ Post ca w (fun cv dx _ H => E cv dx H) [] Q (m (ds ++ es) O)
/-- B: as it is while it runs -/
structure GoodC (B : LwB) (P : Program) (w : World) (K : PySem.W.Frag) (mg : Str → Option Value) (base : Heap) (S : CloS) (k n : Nat) (fm : Fm) : Prop where
  ex : ∃ ps : List Str, ∀ (cl : List (Str × Addr)) (c' f : Addr), NOk P w K mg base (L2.CX P w) k f (S.nf cl c') ps S.fr (spN (cao B K) n fm)
theorem GoodC.mono {B : LwB} {P : Program} {w : World} {K : PySem.W.Frag} {mg : Str → Option Value} {base : Heap} {S : CloS} {j k n : Nat} {fm : Fm} (h : GoodC B P w K mg base S j n fm) (hk : j ≤ k) : GoodC B P w K mg base S k n fm := by
  obtain ⟨ps, F⟩ := h.ex
  exact ⟨ps, fun cl c' f => (F cl c' f).mono hk⟩
section
variable {B : LwB} {P : Program} {w : World} {K : PySem.W.Frag} {mg : Str → Option Value} {base : Heap}
theorem goodC_of {S : CloS} {N ps : List Str} {k n : Nat} {m : DTS} (NS : NScope N ps S.fr S.scope) (hn : ps.length = n) (hb : ∀ (cl : List (Str × Addr)) (c' : Addr) (doc pm ctv : Value) (us : List Value), us.length = ps.length → bindArgs ((S.nf cl c').fd doc pm ctv) ⟨us, []⟩ = pure (ps.zip us))
    (hbody : ∀ (cl : List (Str × Addr)) (c' f : Addr) (A : Around) (outer : List Env) (s : Shared) (H : Hp) (E : XK), Room k (A.deeper (envF (S.nf cl c') f s.heap.objs.size)) → DSs (cao B K) (fun cv dx _ H => E cv dx H) (ncx (L2.CX P w) P w K mg base N (S.nf cl c') f A outer s H E) S.body m) :
    GoodC B P w K mg base S (k + 1) n (mFn N m) := by
  refine ⟨ps, fun cl c' f => nok_of (F := S.nf cl c') NS (hb cl c') (fun ws vs H Q E h => ?_) fun A outer s H vs ws Q E hr hf hc hl h => ?_⟩
  · obtain ⟨_, _, _, _, _, _, _, _, _, e, _⟩ := h
    rw [e, hn]
  · obtain ⟨w0, O, ds, es, us, k0, r, r2, rfl, hvn, h⟩ := h
    obtain ⟨t, pt, sp⟩ := hbody cl c' f A outer s H E hr
    have hst : startF N vs (us.map some) = L2.start N (vs ++ us) := by
      unfold startF L2.start
      rw [List.map_append, List.append_assoc, List.length_map, List.length_append, Nat.sub_sub]
    refine ⟨t, pt, sp w0 O H _ (startD N.length (ds ++ es)) _ k0 (by rw [hst]; exact (r.append r2).start N) ?_⟩
    have h : Post (cao B K) w0 (fun cv dx _ H => E cv dx H) [] Q (m (startD N.length (ds ++ es)) O).res := Post.trim k0 h
    cases z : m (startD N.length (ds ++ es)) O with
    | nx ρ O1 => rw [z] at h; exact fun σ' w1 H1 l1 k1 _ => h .non w1 H1 l1 k1 .non
    | rt d O1 => rw [z] at h; exact fun v w1 H1 l1 k1 r1 => h v w1 H1 l1 k1 r1
    | exc c fs ρ O1 => rw [z] at h; exact fun cv dx σ' w1 H1 l1 k1 _ x => h cv dx w1 H1 l1 k1 x
    | bk ρ O1 => rw [z] at h; exact h.elim
    | ct ρ O1 => rw [z] at h; exact h.elim
    | stuck => rw [z] at h; exact h.elim
end
/-- its call raises nothing -/
def noXR : Res → Res
  | .ok d O => .ok d O
  | _ => .stuck
def dClo (l : List Str) (tb : List (Str × Fm)) (i : Nat) (ma : DTA) : DTE := fun ρ O => match ρ[i]? with
  | some (some (.clo nm ds)) => (ma ρ O).bind fun xs O1 => if nm ∈ l then .stuck else match tb.lookup nm with
    | some fm => noXR (fm (xs ++ ds) O1)
    | none => .stuck
  | _ => .stuck
section
variable {B : LwB} {W : WX} {X : Cx} {i j k n : Nat} {x : Str} {ma : DTA} {e : Expr} {es : List Expr} {p pos : Pos} {l : List Str} {tb : List (Str × Fm)}
theorem de_clo (hB : B.bz = some l) (G : ∀ nm fm, tb.lookup nm = some fm → nm ∉ l → ∃ S, B.cf nm = some S ∧ GoodC (B.run nm) X.prog X.w X.K X.mg X.base S k n fm) (hr : Room j X.A) (hk : k ≤ j) (hN : X.N[i]? = some x) (hv : Vis X.env.scope x) (ha : DA (cao B X.K) W X (e :: es) ma)
    (hn : ∀ ρ O xs O1, ma ρ O = .ok xs O1 → xs.length = n) (hd : (x == ("__debug__" : Str)) = false := by decide) (hcd : (x == ("__classdict__" : Str)) = false := by decide)
    (he : starEach (e :: es) X.env = (false, eval e X.env) :: starEach es X.env := by rfl) (hpl : (backTo pos (starEach es X.env)).any (·.1) = false := by rfl) :
    DE (cao B X.K) W X (.Call (.Name x p) (e :: es) [] pos) (dClo l tb i ma) := by
  obtain ⟨ta, pa, sa⟩ := ha
  refine ⟨_, pe_clo (k := k) hr hk hN hv pa hd hcd he hpl, fun w O H σ ρ Q k0 re h => ?_⟩
  unfold dClo at h
  split at h
  · rename_i nm ds hρ
    obtain ⟨v, e1, r⟩ := re.2 i _ hρ
    cases r with
    | @clo f c' nm S cl vs ds hs hf hc hk2 r =>
      have hF : H f = some (FnO f (S.nf cl c')) := (k0.ext f _ hf).resolve_right fun ⟨z, _⟩ => by cases z
      refine ⟨f, S.nf cl c', e1, hF, ?_⟩
      have hma := hn ρ O
      refine sa w O H σ ρ _ k0 re ?_
      cases hq : ma ρ O with
      | stuck => rw [hq] at h; exact h.elim
      | exc c fs O1 =>
        rw [hq] at h
        exact h
      | ok xs O1 =>
        rw [hq] at h
        intro us w1 H1 l1 k1 r1
        have h1 : Post (cao B X.K) w W σ Q (if nm ∈ l then .stuck else match tb.lookup nm with
          | some fm => noXR (fm (xs ++ ds) O1)
          | none => .stuck) := h
        have h1 := h1.mono l1
        by_cases hnl : nm ∈ l
        · rw [if_pos hnl] at h1
          exact h1.elim
        · rw [if_neg hnl] at h1
          cases htb : tb.lookup nm with
          | none => rw [htb] at h1; exact h1.elim
          | some fm =>
            rw [htb] at h1
            have h1 : Post (cao B X.K) w1 W σ Q (noXR (fm (xs ++ ds) O1)) := h1
            obtain ⟨S', hs', G'⟩ := G nm fm htb hnl
            have hs : B.cf nm = some S := hs
            rw [hs] at hs'
            cases hs'
            obtain ⟨ps, Fn⟩ := G'.ex
            have hF1 : H1 f = some (FnO f (S.nf cl c')) := (k1.ext f _ (l1.F _ _ hf)).resolve_right fun ⟨z, _⟩ => by cases z
            have hC1 : H1 c' = some (CodeO c' S.qual) := (k1.ext c' _ (l1.F _ _ hc)).resolve_right fun ⟨z, _⟩ => by cases z
            have E : ClE cl S.fr := ⟨hk2.sub, hk2.frn, hk2.inj, fun y hy => by
              obtain ⟨m, hm⟩ := List.mem_iff_getElem?.mp hy
              obtain ⟨c, q, _⟩ := hk2.has m y hm
              exact ⟨c, q⟩⟩
            have hcl : ∀ p ∈ cellsOf cl S.fr vs, w1.cx.cl p.1 = some (nm, p.2) := fun p hp => by
              obtain ⟨m, y, q1, q2, q3⟩ := cells_mem (c := p.1) (v := p.2) E hp
              obtain ⟨c, q4, q5⟩ := hk2.has m y q1
              rw [q3] at q4
              cases q4
              exact l1.cx.cl _ _ (q5 _ q2)
            refine ⟨ps, S.fr, vs, spN (cao (B.run nm) X.K) n fm, Fn cl c' f, hF1, hC1, E, hk2.len, fun p hp => (cell_on k1 hB hnl (hcl p hp)).2, w1.ent nm ((cellsOf cl S.fr vs).map (·.1)), O1, xs, ds, vs, k1.enter hB hnl hcl, (r1.monoB Wd.ent_sb).conv same_run, ((r.mono l1).monoB Wd.ent_sb).conv same_run, rfl, by rw [r1.length]; exact hma xs O1 hq, ?_⟩
            cases hfm : fm (xs ++ ds) O1 with
            | stuck => rw [hfm] at h1; exact h1.elim
            | exc c fs O2 => rw [hfm] at h1; exact h1.elim
            | ok d O2 =>
              rw [hfm] at h1
              intro v w2 H2 l2 k2 r2 h0
              obtain ⟨k3, l3⟩ := k1.leave hcl (cells_nd E hk2.len) l2 k2 h0
              exact h1 v _ _ l3 k3 ((r2.monoB Wd.lv_sb).conv same_run')
  · exact h.elim
end
/-! ### a def that makes one -/
def DM (B : LwB) (E : XK) (X : Cx) (body : List Stmt) (m : Env' → Sto → Res) : Prop := ∃ t, PM X body t ∧ ∀ w O H σ ρ Q, Ok (cao B X.K) w O H → RepE (cao B X.K) w σ ρ → Post (cao B X.K) w (fun cv dx _ H => E cv dx H) [] Q (m ρ O) → t (RM X Q) σ H
def mkCons (m1 : DTS) (m2 : Env' → Sto → Res) : Env' → Sto → Res := fun ρ O => match m1 ρ O with
  | .nx ρ1 O1 => m2 ρ1 O1
  | .exc c fs _ O1 => .exc c fs O1
  | _ => .stuck
def allD : List (Option D) → Option (List D)
  | [] => some []
  | some d :: r => (allD r).map (d :: ·)
  | none :: _ => none
def dMkE (nm : Str) (i : Nat) (js : List Nat) : Env' → Sto → Res := fun ρ O => if i < ρ.length then (match allD (js.map fun j => (ρ[j]?).getD none) with
  | some es => .ok (.clo nm es) O
  | none => .stuck) else .stuck
noncomputable def mMk (N : List Str) (m : Env' → Sto → Res) : Fm := fun ds O => trimR O (m (startD N.length ds) O)
theorem allD_rep {ca : Cn} {w : Wd} {σ : L2.St} {ρ : Env'} (re : RepE ca w σ ρ) : ∀ (js : List Nat) (es : List D), allD (js.map fun j => (ρ[j]?).getD none) = some es → ∃ ws : List V, js.map (slotAt σ) = ws.map some ∧ RepL ca w ws es
  | [], es, h => by
    cases h
    exact ⟨[], rfl, .nil⟩
  | j :: js, es, h => by
    rw [List.map_cons] at h
    cases hj : (ρ[j]?).getD none with
    | none => rw [hj] at h; cases h
    | some d =>
      rw [hj] at h
      have h : (allD (js.map fun j => (ρ[j]?).getD none)).map (d :: ·) = some es := h
      cases hr : allD (js.map fun j => (ρ[j]?).getD none) with
      | none => rw [hr] at h; cases h
      | some es' =>
        rw [hr] at h
        cases h
        obtain ⟨ws, h1, h2⟩ := allD_rep re js es' hr
        have hd : ρ[j]? = some (some d) := by
          cases q : ρ[j]? with
          | none => rw [q] at hj; cases hj
          | some o => rw [q] at hj; exact congrArg some hj
        obtain ⟨v, e1, e2⟩ := re.2 j d hd
        exact ⟨v :: ws, by rw [List.map_cons, List.map_cons, h1, slotAt_of e1], .cons e2 h2⟩
section
variable {B : LwB} {E : XK} {X : Cx}
theorem dm_cons {st : Stmt} {rest : List Stmt} {m1 : DTS} {m2 : Env' → Sto → Res} (h1 : DS (cao B X.K) (fun cv dx _ H => E cv dx H) X st m1) (h2 : DM B E X rest m2) : DM B E X (st :: rest) (mkCons m1 m2) := by
  obtain ⟨t1, p1, s1⟩ := h1
  obtain ⟨t2, p2, s2⟩ := h2
  refine ⟨_, pm_cons p1 p2, fun w O H σ ρ Q k re h => ?_⟩
  refine s1 w O H σ ρ _ k re ?_
  unfold mkCons at h
  cases z : m1 ρ O with
  | nx ρ1 O1 =>
    rw [z] at h
    exact fun σ' w1 H1 l1 k1 r1 => s2 w1 O1 H1 σ' ρ1 Q k1 r1 (Post.mono l1 h)
  | exc c fs ρ1 O1 =>
    rw [z] at h
    exact fun cv dx σ' w1 H1 l1 k1 _ x => h cv dx w1 H1 l1 k1 x
  | rt d O1 => rw [z] at h; exact h.elim
  | bk ρ1 O1 => rw [z] at h; exact h.elim
  | ct ρ1 O1 => rw [z] at h; exact h.elim
  | stuck => rw [z] at h; exact h.elim
end
def clW (cs : List (Addr × V)) (nm : Str) (g : Addr → Option (Str × V)) : Addr → Option (Str × V) := fun c => match cs.find? fun p => decide (p.1 = c) with
  | some p => some (nm, p.2)
  | none => g c
theorem clW_in {cs : List (Addr × V)} {nm : Str} {g : Addr → Option (Str × V)} (hd : (cs.map (·.1)).Nodup) {p : Addr × V} (hp : p ∈ cs) : clW cs nm g p.1 = some (nm, p.2) := by
  unfold clW
  have : cs.find? (fun q => decide (q.1 = p.1)) = some p := by
    induction cs with
    | nil => cases hp
    | cons q r ih =>
      rw [List.map_cons, List.nodup_cons] at hd
      rcases List.mem_cons.mp hp with rfl | hp
      · rw [List.find?_cons_of_pos (by simp)]
      · have hm : p.1 ∈ r.map (·.1) := List.mem_map_of_mem (f := fun q : Addr × V => q.1) hp
        rw [List.find?_cons_of_neg (by simp only [decide_eq_true_eq]; exact fun e => hd.1 (by rw [e]; exact hm))]
        exact ih hd.2 hp
  rw [this]
theorem clW_out {cs : List (Addr × V)} {nm : Str} {g : Addr → Option (Str × V)} {c : Addr} (h : c ∉ cs.map (·.1)) : clW cs nm g c = g c := by
  unfold clW
  have : cs.find? (fun q => decide (q.1 = c)) = none := by
    rw [List.find?_eq_none]
    intro p hp
    simp only [decide_eq_true_eq]
    exact fun e => h (e ▸ List.mem_map_of_mem (f := fun q : Addr × V => q.1) hp)
  rw [this]
def Wd.mk' (w : Wd) (f : Addr) (F : NF) (c' : Addr) (q : Str) (nm : Str) (cs : List (Addr × V)) : Wd := ⟨upd (upd w.F c' (CodeO c' q)) f (FnO f F), w.ad, w.pv, w.lk, { w.cx with cl := clW cs nm w.cx.cl }⟩
section
variable {B : LwB} {K : PySem.W.Frag} {w : Wd} {O : Sto} {H H1 : Hp} {nm q : Str} {cs : List (Addr × V)} {f c' : Addr} {F : NF}
theorem Ok.made (k : Ok (cao B K) w O H) (hB : B.bz = some []) (en : ExtN H H1) (te : TabsN (B.T K) H1) (nn : ∀ b, H1 b = none → H b = none) (f0 : H f = none) (f1 : H1 f = some (FnO f F)) (c1 : H1 c' = some (CodeO c' q)) (hd : (cs.map (·.1)).Nodup) (h0 : ∀ p ∈ cs, H1 p.1 = none) :
    Ok (cao B K) (w.mk' f F c' q nm cs) O (trk cs H1) ∧ w.le (w.mk' f F c' q nm cs) := by
  have off0 : w.cx.off = [] := by
    cases ho : w.cx.off with
    | nil => rfl
    | cons c r =>
      obtain ⟨nm', v, _, m⟩ := k.x.offb c (by rw [ho]; exact List.mem_cons_self ..)
      rw [k.x.bzk [] hB] at m
      cases m
  have on : ∀ {c : Addr} {nm' : Str} {v : V}, w.cx.cl c = some (nm', v) → H c = some (CellO c v) := fun {c nm' v} e => (k.x.cel c nm' v e).resolve_left fun m => by
    rw [off0] at m
    cases m
  have notc : ∀ {c : Addr} {p : Str × V}, w.cx.cl c = some p → c ∉ cs.map (·.1) := fun {c p} e hb => by
    obtain ⟨r, hr, rfl⟩ := List.mem_map.mp hb
    have h1 := on (v := p.2) (nm' := p.1) e
    rw [nn _ (h0 r hr)] at h1
    cases h1
  have back : ∀ {b : Addr} {u : HO}, H1 b = some u → trk cs H1 b = some u := fun {b u} e => by
    rw [trk_out]
    · exact e
    · intro hb
      obtain ⟨p, hp, rfl⟩ := List.mem_map.mp hb
      rw [h0 p hp] at e
      cases e
  have up : ∀ {b : Addr} {u : HO}, H b = some u → notTbl u = true → H1 b = some u := fun {b u} e hu => en b u e fun ps z => by
    rw [z] at hu
    cases hu
  have pn : ∀ {u : HO}, plain u = true → notTbl u = true := fun {u} h => by cases u <;> first | rfl | cases h
  have Fc : ∀ u, w.F c' = some u → u = CodeO c' q := fun u e => by
    rcases k.ext c' u e with z | ⟨z, o, z2⟩
    · have := up z (k.x.fpl _ _ e).1
      rw [c1] at this
      exact (Option.some.inj this).symm
    · have := up z2 rfl
      rw [c1] at this
      cases this
  have Ff : w.F f = none := k.ext.free f0
  have hF : ∀ {a : Addr} {u : HO}, w.F a = some u → (w.mk' f F c' q nm cs).F a = some u := fun {a u} e => by
    have ne : a ≠ f := fun z => by rw [z, Ff] at e; cases e
    show upd (upd w.F c' (CodeO c' q)) f (FnO f F) a = some u
    rw [upd_ne ne]
    by_cases z : a = c'
    · subst z
      rw [upd_same, Fc u e]
    · rw [upd_ne z]
      exact e
  have le : w.le (w.mk' f F c' q nm cs) := ⟨fun a u e => hF e, fun _ _ h => h, rfl, rfl, fun c p e => by
    show clW cs nm w.cx.cl c = some p
    rw [clW_out (notc e)]
    exact e, rfl, rfl, rfl⟩
  have Fcase : ∀ a u, (w.mk' f F c' q nm cs).F a = some u → (a = f ∧ u = FnO f F) ∨ (a = c' ∧ u = CodeO c' q) ∨ w.F a = some u := fun a u e => by
    have e : upd (upd w.F c' (CodeO c' q)) f (FnO f F) a = some u := e
    by_cases z : a = f
    · subst z
      rw [upd_same] at e
      exact .inl ⟨rfl, (Option.some.inj e).symm⟩
    · rw [upd_ne z] at e
      by_cases z2 : a = c'
      · subst z2
        rw [upd_same] at e
        exact .inr (.inl ⟨rfl, (Option.some.inj e).symm⟩)
      · rw [upd_ne z2] at e
        exact .inr (.inr e)
  have Fnone : ∀ {a : Addr} {u : HO}, H a = some u → plain u = true → w.F a = none → (w.mk' f F c' q nm cs).F a = none := fun {a u} e hu h => by
    show upd (upd w.F c' (CodeO c' q)) f (FnO f F) a = none
    rw [upd_ne (fun z => by rw [z, f0] at e; cases e), upd_ne (fun z => ?_)]
    · exact h
    · have := up e (pn hu)
      rw [z, c1] at this
      cases this
      cases hu
  refine ⟨⟨fun a u e => ?_, k.len, k.nd, fun a m => ?_, fun n a o e1 e2 g => ?_, fun a u e => ?_, fun a u e => ?_, ⟨k.x.pvp, fun a u e => ?_, fun p hp => ?_, fun c nm' v e => ?_, fun c m => ?_, k.x.bzk, k.x.xak⟩⟩, le⟩
  · rcases Fcase a u e with ⟨rfl, rfl⟩ | ⟨rfl, rfl⟩ | e
    · exact .inl (back f1)
    · exact .inl (back c1)
    · rcases k.ext a u e with z | ⟨z, o, z2⟩
      · exact .inl (back (up z (k.x.fpl _ _ e).1))
      · exact .inr ⟨z, o, back (up z2 rfl)⟩
  · obtain ⟨u, e, h⟩ := k.here a m
    exact ⟨u, back (up e (pn h)), h⟩
  · obtain ⟨h1, u, h2, h3⟩ := k.own n a o e1 e2 g
    exact ⟨Fnone h2 h3.plain h1, u, back (up h2 (pn h3.plain)), h3.mono le⟩
  · obtain ⟨h1, h2, h3⟩ := k.prv a u e
    have hp := k.x.pvp a u e
    exact ⟨back (up h1 (pn hp)), Fnone h1 hp h2, h3⟩
  · obtain ⟨h1, h2⟩ := k.lks a u e
    refine ⟨back (up h1 ?_), h2⟩
    cases u <;> first | rfl | cases h2
  · have cl : ∀ nm' v, clW cs nm w.cx.cl a = some (nm', v) → H1 a ≠ none → w.cx.cl a = some (nm', v) := fun nm' v z hne => by
      have : a ∉ cs.map (·.1) := fun hb => by
        obtain ⟨p, hp, rfl⟩ := List.mem_map.mp hb
        exact hne (h0 p hp)
      rw [clW_out this] at z
      exact z
    rcases Fcase a u e with ⟨rfl, rfl⟩ | ⟨rfl, rfl⟩ | e
    · refine ⟨rfl, fun nm' v z => ?_⟩
      have := on (cl nm' v z (by rw [f1]; exact fun z => nomatch z))
      rw [f0] at this
      cases this
    · refine ⟨rfl, fun nm' v z => ?_⟩
      have := up (on (cl nm' v z (by rw [c1]; exact fun z => nomatch z))) rfl
      rw [c1] at this
      exact absurd (Option.some.inj this) code_ne_cell
    · obtain ⟨h1, h2⟩ := k.x.fpl a u e
      refine ⟨h1, fun nm' v z => h2 nm' v (cl nm' v z fun hn => ?_)⟩
      have := k.ext.free (nn _ hn)
      rw [this] at e
      cases e
  · obtain ⟨ps, h1, h2, h3⟩ := te p hp
    exact ⟨ps, back h1, h2, fun pos cv hcv => by
      obtain ⟨c, e1, e2⟩ := h3 pos cv hcv
      exact ⟨c, e1, back e2⟩⟩
  · have e : clW cs nm w.cx.cl c = some (nm', v) := e
    by_cases hb : c ∈ cs.map (·.1)
    · obtain ⟨p, hp, rfl⟩ := List.mem_map.mp hb
      rw [clW_in hd hp] at e
      cases e
      exact .inr (trk_in hd hp)
    · rw [clW_out hb] at e
      exact .inr (back (up (on e) rfl))
  · have m : c ∈ w.cx.off := m
    rw [off0] at m
    cases m
end
section
variable {B : LwB} {E : XK} {X : Cx}
theorem dm_end {g : Stmt} {gname nm : Str} {fr : List Str} {nmF : Nat → Nat → Str} {c Pt : Addr} {pos p pos2 : Pos} {i : Nat} {js : List Nat} (hB : B.bz = some []) (hcf : B.cf nm = some ⟨gname, X.env.qual ++ gname, C8.fnArgs g, C8.fnBody g, C8.fnScope g, fr⟩)
    (hst : g = .FunctionDef gname (C8.fnArgs g) (C8.fnBody g) [] none [] (C8.fnScope g) none gname pos) (TB : TabB X.base X.mg c Pt) (hcode : X.env.code = .ref c) (hm : (Pt, nmF) ∈ B.T X.K) (hnF : nmF pos.line pos.col = X.env.qual ++ gname) (hu : ∀ r ∈ B.T X.K, r.1 = Pt → r.2 = nmF)
    (hdf : ndefB X.env.scope (C8.fnScope g) fr = true) (hsub : ∀ y ∈ (C8.fnScope g).names, y.2 = .free → y.1 ∈ fr) (hfn : fr.Nodup) (hd0 : (C8.fnArgs g).defaults = []) (hk0 : (C8.fnArgs g).kw_defaults = []) (hat : annTrees (C8.fnArgs g) none X.env = [])
    (hN : X.N.Nodup) (hi : X.N[i]? = some gname) (hx : Loc X.env.scope gname) (hf : X.fn gname = true ∨ X.env.scope.names.lookup gname = some .local) (hv : Vis X.env.scope gname) (hjs : js.map (fun j => X.N[j]?) = fr.map some) (hij : i ∉ js)
    (hdb : (gname == ("__debug__" : Str)) = false := by decide) (hcd : (gname == ("__classdict__" : Str)) = false := by decide) : DM B E X [g, .Return (some (.Name gname p)) pos2] (dMkE nm i js) := by
  refine ⟨_, pm_cons (ps_ndefMS hst TB hcode hm hnF hu (ndef_free hdf) hd0 hk0 hat hN hi hx hf) (pm_ret hi hv hdb hcd), fun w O H σ ρ Q k re h => ?_⟩
  unfold dMkE at h
  by_cases hil : i < ρ.length
  case neg => rw [if_neg hil] at h; exact h.elim
  rw [if_pos hil] at h
  cases hes : allD (js.map fun j => (ρ[j]?).getD none) with
  | none => rw [hes] at h; exact h.elim
  | some es =>
    rw [hes] at h
    have h : Post (cao B X.K) w (fun cv dx _ H => E cv dx H) [] Q (.ok (.clo nm es) O) := h
    obtain ⟨ws, hws, rl⟩ := allD_rep re js es hes
    refine ⟨k.x.tab, fun f c' H1 en nn te f0 f1 c1 => ?_⟩
    have hsl : ∀ (σ' : L2.St), js.map (slotAt (σ'.set i (some (.ref f)))) = js.map (slotAt σ') := fun σ' => List.map_congr_left fun j hj => by
      unfold NdefX.slotAt
      have ne : i ≠ j := fun e => hij (by rw [e]; exact hj)
      rw [List.getElem?_set_ne ne]
    have fin : RM X Q (.ref f) (σ.set i (some (.ref f))) H1 := by
      refine ⟨cloFrom X.env.cells (C8.fnScope g).names [], fr, js, ws, fun ok => Caps.made ok (ndef_free hdf) (ndef_fr hdf) hjs, fun y a e => ?_, hfn, by rw [hsl]; exact hws, fun CE hlen h0 => ?_⟩
      · rcases cloFrom_mem (PySem.mem_of_lookup e) with z | ⟨z, _⟩
        · cases z
        · exact hsub _ z rfl
      · have hd := cells_nd CE hlen
        obtain ⟨k2, l2⟩ := k.made (nm := nm) hB en te nn f0 f1 c1 hd h0
        refine h (.ref f) _ _ l2 k2 (.clo (S := ⟨gname, X.env.qual ++ gname, C8.fnArgs g, C8.fnBody g, C8.fnScope g, fr⟩) (cl := cloFrom X.env.cells (C8.fnScope g).names []) (c' := c') hcf upd_same ?_ ⟨hlen, CE.sub, CE.frn, CE.inj, fun m y e => ?_⟩ (rl.mono l2))
        · show upd (upd w.F c' _) f _ c' = _
          rw [upd_ne fun e => ?_, upd_same]
          · rfl
          · rw [e, f1] at c1
            exact fn_ne_code (Option.some.inj c1)
        · obtain ⟨a, ha⟩ := CE.tot y (List.mem_of_getElem? e)
          exact ⟨a, ha, fun v hv => clW_in hd (mem_cells e hv ha)⟩
    exact ⟨.ref f, List.getElem?_set_self (by rw [re.1]; exact hil), fin⟩
end
end Yk

set_option Elab.async false
set_option linter.all false
set_option maxRecDepth 100000
set_option maxHeartbeats 2000000
/-! YlM: a def that makes one, as the head tells it; the law's end with tables. -/
namespace Yk
open PySem PySem.Spec PyProof.Rows L2 NdefX LamX
section
variable {B : LwB} {P : Program} {w : World} {K : PySem.W.Frag} {mg : Str → Option Value} {base : Heap}
theorem code_ref {x qual : Str} {params : Arguments} {body : List Stmt} {scope : Scope} {fd : FuncData} (F : FunD K x qual params body scope [] [] (He.ga K x) fd) : fd.code = .ref (He.cT K (x, none)).1 := by
  obtain ⟨oc, od, dV, kV, doc, pm, an, cdv, ct, osl, rfl, lk, hcd, _, _⟩ := F.ex
  obtain ⟨c, rfl⟩ := He.codeIn_ref hcd
  have : He.codeOf K (x, none) = c := He.codeOf_eq (p := (x, none)) lk rfl
  show Value.ref c = .ref (He.codeOf K (x, none))
  rw [this]
theorem good_mk {x qual : Str} {st : Stmt} {fd : FuncData} {N ps : List Str} {k n : Nat} (F : FunD K x qual (defArgs st) (defBody st) (defScope st) [] [] (He.ga K x) fd) (hm : mg x = some (.ref (He.ga K x))) (S : FnScope N ps (defScope st)) (hn : ps.length = n)
    (hb : ∀ (kV doc pm : Value) (an : Option Addr) (cdv ct : Value) (us : List Value), us.length = ps.length → bindArgs (PySem.W.fnOf x qual (defArgs st) (defBody st) (defScope st) .none kV doc pm an cdv ct) ⟨us, []⟩ = pure (ps.zip us)) {m : Env' → Sto → Res}
    (hbody : ∀ (cdv : Value) (A : Around) (outer : List Env) (s : Shared) (H : Hp) (E : XK), cdv = .ref (He.cT K (x, none)).1 → Room k (A.deeper (PyProof.Rows.envOfC qual (defScope st) s.heap.objs.size (He.ga K x) cdv)) →
      DM B E (cxOf (L2.CX P w) P w K mg base N qual (defScope st) (He.ga K x) cdv A outer s H E) (defBody st) m) : Good B P w K mg base x fd (k + 1) ps n (mMk N m) := by
  refine ⟨⟨?_, F.bindsA hb, F.kp⟩, hm⟩
  refine okM F S (fun vs H Q E h => ?_) (fun cdv A outer s H vs Q E hc hr h => ?_)
  · obtain ⟨_, _, _, _, _, e, _⟩ := h
    rw [e, hn]
  · obtain ⟨w0, O, ds, k0, r, _, h⟩ := h
    obtain ⟨t, pt, sp⟩ := hbody cdv A outer s H E (by rw [← hc]; exact code_ref F) hr
    refine ⟨t, pt, sp w0 O H _ (startD N.length ds) _ k0 (r.start N) ?_⟩
    exact Post.trim k0 h
end
theorem endOfT {B : LwB} {tf : List He.Defn} {nmF : Nat → Nat → Str} (hTB : ∀ K, B.T K = tf.map fun p => ((He.cT K p).2, nmF)) (hbz : B.bz = some []) (hxa : B.xa = none) {l : PySem.W.OpenLaw} {n k : Nat} {q : Program} {loose : List Str} {XP : (Str → Option Value) → Heap → Prop} {d : DefRec} {x : Str} {YP : World → Heap → Prop}
    (hn : l.most = some n) (hn2 : n ≤ sizeLine) (hdf : d.params.defaults = []) (hr : Room k callerA)
    (F : ∀ (w : World) (mg : Str → Option Value) (fa : Addr) (h : Heap), YP w h → h.Ns mainGlobals mg → mg d.name = some (.ref fa) →
      ∃ (K : PySem.W.Frag) (fd : FuncData) (m : List D → Sto → Res), K.In h ∧ (∀ (s : Shared) (u : Value), BindsTo s fd ⟨[u], []⟩ [(x, u)]) ∧
        (∀ (ns : List Int), ns.length ≤ n → ∃ O, m [.scr ns] [] = .ok (.bl true) O) ∧
        (∀ p ∈ tf, h.get? (He.cT K p).2 = some { cls := .none, data := .fields #[] } ∧ K.lookup (He.cT K p).2 = none ∧ PySem.W.codeHdIn K (He.cT K p).1 (He.cT K p).2 = true) ∧
        ∀ base : Heap, K.In base → base.Ns mainGlobals mg → (∀ p ∈ tf, TabB base mg (He.cT K p).1 (He.cT K p).2) → FnOk l.prog w K mg base (L2.CX l.prog w) k fa fd [x] (spD (cao B K) 1 m)) :
    PySem.W.WalkO q loose XP YP l.row.toRowW d [] (fun f vs => PySem.call f vs) := by
  refine Att.attach_call hn hdf ?_
  intro w s0 s1 mg mb fa o pm cd doc a vs ns G Y ho hd hcd hmg hobj hints hlen hg
  obtain ⟨K, fd, m, KX, hb, hsp, hT, hF⟩ := F w mg fa _ Y G.T.g hmg
  refine law_callTs (cs := tf.map fun p => He.cT K p) KX G.T.g G.T.b G.T.builtins G.T.nolimit hg (fun p hp => ?_) (fun p hp => ?_) (fun p hp => ?_) G.T.bmain hobj hints (Nat.le_trans hlen hn2) hr (fun base h1 h2 h3 => hF base h1 h2 fun p hp => h3 _ (List.mem_map_of_mem (f := fun p => He.cT K p) hp)) hb (fun H hH hS => ?_) ?_
  · obtain ⟨r, hr, rfl⟩ := List.mem_map.mp hp
    exact (hT r hr).1
  · obtain ⟨r, hr, rfl⟩ := List.mem_map.mp hp
    exact (hT r hr).2.1
  · obtain ⟨r, hr, rfl⟩ := List.mem_map.mp hp
    exact PySem.W.codeHd_of_K KX (hT r hr).2.2
  · refine law_spT (fun p hp => ?_) hbz hxa hS (hsp ns hlen)
    rw [hTB] at hp
    obtain ⟨r, hr, rfl⟩ := List.mem_map.mp hp
    exact hH _ (List.mem_map_of_mem (f := fun p => He.cT K p) hr)
  · rintro H e s' ⟨_, _, _, _, _, _, _, _, _, _, _, _, z⟩
    exact z
end Yk
namespace Yk
open PySem PySem.Spec PyProof.Rows L2 NdefX LamX
/-- the made defs that a call may meet -/
def CloTb (B : LwB) (l : List Str) (P : Program) (w : World) (K : PySem.W.Frag) (mg : Str → Option Value) (base : Heap) (k n : Nat) (tb : List (Str × Fm)) : Prop := ∀ nm fm, tb.lookup nm = some fm → nm ∉ l → ∃ S, B.cf nm = some S ∧ GoodC (B.run nm) P w K mg base S k n fm
section
variable {B : LwB} {l : List Str} {P : Program} {w : World} {K : PySem.W.Frag} {mg : Str → Option Value} {base : Heap} {k n : Nat} {tb : List (Str × Fm)}
theorem clo_nil : CloTb B l P w K mg base k n [] := fun _ _ h => nomatch h
theorem clo_cons {nm : Str} {S : CloS} {j : Nat} {fm : Fm} (hc : B.cf nm = some S) (g : GoodC (B.run nm) P w K mg base S j n fm) (hj : j ≤ k) (r : CloTb B l P w K mg base k n tb) : CloTb B l P w K mg base k n ((nm, fm) :: tb) := fun nm' fm' h hn => by
  rw [List.lookup_cons] at h
  cases e : nm' == nm with
  | true =>
    rw [e] at h
    cases h
    rw [beq_iff_eq.mp e]
    exact ⟨S, hc, g.mono hj⟩
  | false =>
    rw [e] at h
    exact r nm' fm' h hn
end
end Yk

set_option Elab.async false
set_option linter.all false
set_option maxRecDepth 100000
set_option maxHeartbeats 2000000
/-! YlN: `x in d.values()`. -/
namespace Yk
open PySem PySem.Spec PyProof.Rows L2
theorem plain_cit : plainId "proto.contains_iter" = true := by decide +kernel
theorem entry_cit : entryFor table "proto.contains_iter" = some Builtin.«proto.contains_iter» := entryFor_of_fast (by kernel_rfl)
theorem no_contains_values : typeLookup (.type "dict_values") "__contains__" = pure none := by rw [typeLookup_type, builtinLookup_eq_fast]; kernel_rfl
section
variable {prog : Program} {w : World} {K : Type} [DecidableEq K] {knd : KeyKind prog w K}
/-- the heap grows, or `it` changes -/
def Grew (s0 : Shared) (s : Shared) : Prop := ∃ h' tk, s = { s0 with heap := h', toks := tk } ∧ ∀ b u, s0.heap.get? b = some u → h'.get? b = some u
theorem cit_loop {A : Around} (hh : A.handled = none) {R : Result → Shared → Prop} {s0 : Shared} {it d : Addr} {x : Value} {kvs : List (K × Value)} {ep : Nat} {cs : List Bool} (hl : cs.length = kvs.length) (hit : s0.heap.objs.size ≤ it)
    (hE : ∀ s, Grew s0 s → ∀ (i : Nat) k v c, kvs[i]? = some (k, v) → cs[i]? = some c → SeqAt.EqAt A.in1 s v x c)
    (hR : ∀ s, Grew s0 s → R (.ok (.ret (.bool (cs.any id)))) s) :
    ∀ (k i : Nat) (s : Shared), kvs.length - i = k → i ≤ kvs.length → Grew s0 s → s.heap.IsValIter it d i kvs.length ep → s.heap.DictAt knd d kvs ep → s0.heap.get? d ≠ none → ((cs.take i).any id = false) →
      codeAny (model prog w) A (.builtin "proto.contains_iter" ⟨[.ref it, x], []⟩) R s := by
  intro k
  induction k with
  | zero =>
    intro i s hk hi hg st hm hd hp
    have hin : i = kvs.length := by omega
    subst hin
    refine codeAny_builtin entry_cit ?_
    rw [Around.under_plainId plain_cit _]
    show wpAny _ A.in1 (pyNext (.ref it) >>= _) _ _ s
    refine wpAny_bind (wpAny_pyNext_values_end (by exact hh) st hm (List.getElem?_eq_none (Nat.le_refl _)) fun h' hk' => ?_)
    refine wpAny_bind (wpAny_rule (wpAny_pure ?_))
    have ha : cs.any id = false := by rw [← hl, List.take_length] at hp; exact hp
    have := hR { s with heap := h' } (by
      obtain ⟨h1, tk, rfl, k1⟩ := hg
      exact ⟨h', tk, rfl, fun b u e => hk' b u (fun z => Nat.not_lt.mpr hit (z ▸ Heap.lt_size e)) (k1 b u e)⟩)
    rw [ha] at this
    exact this
  | succ k ih =>
    intro i s hk hi hg st hm hd hp
    have hlt : i < kvs.length := by omega
    obtain ⟨⟨key, v⟩, hkv⟩ : ∃ p, kvs[i]? = some p := ⟨kvs[i], List.getElem?_eq_getElem hlt⟩
    obtain ⟨c, hc⟩ : ∃ c, cs[i]? = some c := ⟨cs[i]'(by omega), List.getElem?_eq_getElem (by omega)⟩
    refine codeAny_builtin entry_cit ?_
    rw [Around.under_plainId plain_cit _]
    show wpAny _ A.in1 (pyNext (.ref it) >>= _) _ _ s
    refine wpAny_bind (wpAny_pyNext_values_item st hm hkv fun h' st' sb => ?_)
    have hg' : Grew s0 { s with heap := h' } := by
      obtain ⟨h1, tk, rfl, k1⟩ := hg
      exact ⟨h', tk, rfl, fun b u e => (sb.2 b (fun z => Nat.not_lt.mpr hit (z ▸ Heap.lt_size e))).trans (k1 b u e)⟩
    have hm' : h'.DictAt knd d kvs ep := by
      obtain ⟨o, es, ho, r⟩ := hm
      exact ⟨o, es, (sb.2 d (fun z => by
        cases q : s0.heap.get? d with
        | none => exact hd q
        | some u =>
          exact Nat.not_lt.mpr hit (z ▸ Heap.lt_size q))).trans ho, r⟩
    refine wpAny_bind (hE _ hg' i key v c hkv hc prog w _ _ ?_)
    have htk : (cs.take (i + 1)).any id = c := by
      have : cs.take (i + 1) = cs.take i ++ [c] := by rw [List.take_add_one, hc]; rfl
      rw [this, List.any_append, hp]
      simp
    cases c with
    | false =>
      simp only [Bool.false_eq_true, if_false]
      exact wpAny_pure ⟨plainId_quiet plain_cit _, ih (i + 1) _ (by omega) hlt hg' st' hm' hd htk⟩
    | true =>
      simp only [if_true]
      refine wpAny_bind (wpAny_rule (wpAny_pure ?_))
      have ha : cs.any id = true := by
        rw [← List.take_append_drop (i + 1) cs, List.any_append, htk, Bool.true_or]
      have := hR _ hg'
      rw [ha] at this
      exact this
/-- x in a view of a dict's values -/
theorem in_values {A : Around} (hh : A.handled = none) {E : Value → Shared → Prop} {s0 s : Shared} {Q : Bool → Shared → Prop} {v d : Addr} {x : Value} {kvs : List (K × Value)} {ep : Nat} {cs : List Bool} (hl : cs.length = kvs.length)
    (hv : s.heap.IsValuesView v d) (hm : s.heap.DictAt knd d kvs ep) (hg : Grew s0 s) (hs : s0.heap.objs.size ≤ s.heap.objs.size) (hd : s0.heap.get? d ≠ none)
    (hE : ∀ s, Grew s0 s → ∀ (i : Nat) k u c, kvs[i]? = some (k, u) → cs[i]? = some c → SeqAt.EqAt A.in1 s u x c)
    (hQ : ∀ s, Grew s0 s → Q (cs.any id) s) : wpAny (model prog w) A (contains (.ref v) x) Q E s := by
  unfold contains
  refine wpAny_holding ?_
  rw [stdlibNamesSay?_of_typeIs hv.typeIs]
  refine wpAny_bind (wpAny_specialOf hv.typeIs no_contains_values ?_)
  show wpAny _ A (if ((none : Option Value) == some Value.none) = true then _ else _) Q E s
  rw [if_neg (by simp)]
  refine wpAny_bind (wpAny_callSpecialUnlessNone?_none hv.typeIs no_contains_values ?_)
  refine wpAny_bind (wpAny_rule ?_)
  refine wpAny_bind (wpAny_tryCatch (wpAny_pyIter_values (knd := knd) hv hm ?_))
  refine wpAny_bind (wpAny_runValue ?_)
  refine cit_loop (knd := knd) hh hl hs hE (fun s hg => ?_) kvs.length 0 _ (by omega) (Nat.zero_le _) ?_ ⟨_, Heap.get?_push_size _ rfl, rfl, rfl⟩ (hm.push _) hd rfl
  · exact wpAny_pure (hQ s hg)
  · obtain ⟨h1, tk, rfl, k1⟩ := hg
    exact ⟨_, _, rfl, fun b u e => Heap.get?_push_of_some _ (k1 b u e)⟩
end
end Yk

set_option Elab.async false
set_option linter.all false
set_option maxRecDepth 100000
set_option maxHeartbeats 2000000
/-! YlO: == and != of nested things: lists, tuples, dicts, also of the store. -/
namespace PySem.SeqAt
open AutoSeq1 (wpAny_loadPart')
open MeetsSeq MeetsSeq2 MeetsSeq3 SeqRoads2
section
variable {P : Program} {W : World}
abbrev LObj (T : String) (u : Array Value) (nn : Nat) (dc : Option Addr) (sx : Array (Option Value)) : Obj := { cls := .type T, dict := dc, data := .seq u nn, slots := sx }
theorem yk_ne_loop (p q : Addr) (us vs : Array Value) (nu nv : Nat) (du dv : Option Addr) (su sv : Array (Option Value)) (hz : us.size = vs.size) (t : Nat → Bool) (m : Nat) :
    ∀ i : Nat, us.size - i = m → MeetsIn P W (Builtin.«list.__eq__.loop» ⟨[.ref p, .ref q, rawInt i, rawInt 3], []⟩)
      (fun A R z => z.heap.get? p = some (LObj "list" us nu du su) ∧ z.heap.get? q = some (LObj "list" vs nv dv sv) ∧
        (∀ j (h1 : j < us.size) (h2 : j < vs.size), EqP P W A.in1 z us[j] vs[j] (t j)) ∧ R (.ok (.ret (.bool (!((List.range us.size).drop i).all t)))) z) := by
  induction m with
  | zero =>
    intro i hi A R z hyp
    obtain ⟨h0, g0, d0, t0, o0⟩ := z; obtain ⟨ap, aq, at_, ar⟩ := hyp
    have hu0 : us[((i : Nat) : Int).toNat]? = none := by simp; omega
    have hv0 : vs[((i : Nat) : Int).toNat]? = none := by simp; omega
    have hdr : (List.range us.size).drop i = [] := by simp; omega
    wp_walk using wpAny_loadPart' ap, wpAny_loadPart' aq
    rw [hu0, hv0]
    wp_walk using wpAny_loadPart' ap, wpAny_loadPart' aq
    show R (.ok (.ret (.bool (us.size != vs.size)))) _
    rw [hdr] at ar
    rw [hz]
    simpa using ar
  | succ m ih =>
    intro i hi A R z hyp
    obtain ⟨h0, g0, d0, t0, o0⟩ := z; obtain ⟨ap, aq, at_, ar⟩ := hyp
    have lu : i < us.size := by omega
    have lv : i < vs.size := by omega
    have hu0 : us[((i : Nat) : Int).toNat]? = some us[i] := by simp [lu]
    have hv0 : vs[((i : Nat) : Int).toNat]? = some vs[i] := by simp [lv]
    have hdr : (List.range us.size).drop i = i :: (List.range us.size).drop (i + 1) := by rw [List.drop_eq_getElem_cons (by simpa using lu)]; simp
    have hpc : ((i : Int) + 1) = ((i + 1 : Nat) : Int) := by omega
    wp_walk using wpAny_loadPart' ap, wpAny_loadPart' aq
    rw [hu0, hv0]
    rw [hdr, List.all_cons] at ar
    refine wpAny_bind (at_ i lu lv _ _ ?_)
    cases ht : t i with
    | true =>
      rw [ht] at ar
      wp_walk
      rw [hpc]
      refine ⟨plainId_quiet plain_eq_loop _, codeAny_builtin entry_eq_loop ?_⟩
      rw [Around.under_plainId plain_eq_loop _]
      exact ih (i + 1) (by omega) A R _ ⟨ap, aq, at_, by simpa using ar⟩
    | false =>
      rw [ht] at ar
      wp_walk using wpAny_loadPart' ap, wpAny_loadPart' aq
      rw [hu0, hv0]
      wp_walk
      simpa using ar
theorem yk_list_ne (p q : Addr) (us vs : Array Value) (nu nv : Nat) (du dv : Option Addr) (su sv : Array (Option Value)) (hz : us.size = vs.size) (t : Nat → Bool) :
    MeetsIn P W (Builtin.«list.__ne__» ⟨[.ref p, .ref q], []⟩)
      (fun A R z => z.heap.get? p = some (LObj "list" us nu du su) ∧ z.heap.get? q = some (LObj "list" vs nv dv sv) ∧
        (∀ j (h1 : j < us.size) (h2 : j < vs.size), EqP P W A.in1 z us[j] vs[j] (t j)) ∧ R (.ok (.ret (.bool (!(List.range us.size).all t)))) z) := by
  intro A R z hyp
  obtain ⟨h0, g0, d0, t0, o0⟩ := z; obtain ⟨ap, aq, at_, ar⟩ := hyp
  have sub := AutoSeq1.sub_list_list
  have same : ¬ (us.size != vs.size) = true := by simp [hz]
  wp_walk using wpAny_loadPart' ap, wpAny_loadPart' aq
  refine ⟨plainId_quiet plain_eq_loop _, codeAny_builtin entry_eq_loop ?_⟩
  rw [Around.under_plainId plain_eq_loop _]
  exact yk_ne_loop p q us vs nu nv du dv su sv hz t _ 0 rfl A R _ ⟨ap, aq, at_, by simpa using ar⟩
theorem yk_tuple (ne : Bool) (p q : Addr) (us vs : Array Value) (nu nv : Nat) (du dv : Option Addr) (su sv : Array (Option Value)) (t : Nat → Bool) :
    MeetsIn P W ((if ne then Builtin.«tuple.__ne__» else Builtin.«tuple.__eq__») ⟨[.ref p, .ref q], []⟩)
      (fun A R z => z.heap.get? p = some (LObj "tuple" us nu du su) ∧ z.heap.get? q = some (LObj "tuple" vs nv dv sv) ∧
        (∀ j (h1 : j < us.size) (h2 : j < vs.size), EqP P W A.in1 z us[j] vs[j] (t j)) ∧
        R (.ok (.ret (.bool (ne != ((List.range (min us.size vs.size)).all t && us.size == vs.size))))) z) :=
  .of_wp fun A R z hyp => by
    obtain ⟨h0, g0, d0, t0, o0⟩ := z; obtain ⟨ap, aq, at_, ar⟩ := hyp
    have sub := AutoSeq1.sub_tuple_tuple
    have hlen : (us.toList.zip vs.toList).length = min us.size vs.size := by simp
    cases ne with
    | true =>
      rw [if_pos rfl]
      wp_walk using wpAny_loadPart' ap, wpAny_loadPart' aq, wpAny_forIn_list _ (fun rest b s' => b.1 = none ∧ s' = ⟨h0, g0, d0, t0, o0⟩ ∧ ∃ i, rest = (us.toList.zip vs.toList).drop i ∧
        R (.ok (.ret (.bool (true != (((List.range (min us.size vs.size)).drop i).all t && us.size == vs.size))))) ⟨h0, g0, d0, t0, o0⟩) _
      case turn =>
        rintro ⟨y, x⟩ rest b s' ⟨hb', rfl, i, hq, hR⟩
        have hi : i < (us.toList.zip vs.toList).length := by
          refine Nat.lt_of_not_le fun hc => ?_
          rw [List.drop_of_length_le hc] at hq; cases hq
        have hm : i < min us.size vs.size := by rw [← hlen]; exact hi
        have lu : i < us.size := by omega
        have lv : i < vs.size := by omega
        rw [List.drop_eq_getElem_cons hi] at hq
        obtain ⟨hq1, hq2⟩ := List.cons.inj hq
        have ey : y = us[i] := by simpa using congrArg Prod.fst hq1
        have ex : x = vs[i] := by simpa using congrArg Prod.snd hq1
        subst ey ex
        rw [show (List.range (min us.size vs.size)).drop i = i :: (List.range (min us.size vs.size)).drop (i + 1) by rw [List.drop_eq_getElem_cons (by simpa using hm)]; simp, List.all_cons] at hR
        refine wpAny_bind (at_ i lu lv _ _ ?_)
        cases ht : t i with
        | true =>
          rw [ht] at hR
          wp_walk
          exact ⟨rfl, rfl, i + 1, hq2, by simpa using hR⟩
        | false =>
          rw [ht] at hR
          wp_walk
          exact ⟨_, rfl, by simpa using hR⟩
      case fin =>
        rintro ⟨b1, b2⟩ s' ⟨hb', rfl, i, hq, hR⟩
        simp only at hb'
        subst hb'
        have hi : min us.size vs.size ≤ i := by
          refine Nat.le_of_not_lt fun hc => ?_
          rw [List.drop_eq_getElem_cons (by rw [hlen]; exact hc)] at hq; cases hq
        rw [List.drop_of_length_le (by simpa using hi)] at hR
        wp_walk
        exact ⟨_, rfl, by simpa [Builtin.Tuple.tupleCompareSizes, bne] using hR⟩
      case h => exact ⟨rfl, rfl, 0, rfl, by simpa using ar⟩
    | false =>
      rw [if_neg (by simp)]
      wp_walk using wpAny_loadPart' ap, wpAny_loadPart' aq, wpAny_forIn_list _ (fun rest b s' => b.1 = none ∧ s' = ⟨h0, g0, d0, t0, o0⟩ ∧ ∃ i, rest = (us.toList.zip vs.toList).drop i ∧
        R (.ok (.ret (.bool (false != (((List.range (min us.size vs.size)).drop i).all t && us.size == vs.size))))) ⟨h0, g0, d0, t0, o0⟩) _
      case turn =>
        rintro ⟨y, x⟩ rest b s' ⟨hb', rfl, i, hq, hR⟩
        have hi : i < (us.toList.zip vs.toList).length := by
          refine Nat.lt_of_not_le fun hc => ?_
          rw [List.drop_of_length_le hc] at hq; cases hq
        have hm : i < min us.size vs.size := by rw [← hlen]; exact hi
        have lu : i < us.size := by omega
        have lv : i < vs.size := by omega
        rw [List.drop_eq_getElem_cons hi] at hq
        obtain ⟨hq1, hq2⟩ := List.cons.inj hq
        have ey : y = us[i] := by simpa using congrArg Prod.fst hq1
        have ex : x = vs[i] := by simpa using congrArg Prod.snd hq1
        subst ey ex
        rw [show (List.range (min us.size vs.size)).drop i = i :: (List.range (min us.size vs.size)).drop (i + 1) by rw [List.drop_eq_getElem_cons (by simpa using hm)]; simp, List.all_cons] at hR
        refine wpAny_bind (at_ i lu lv _ _ ?_)
        cases ht : t i with
        | true =>
          rw [ht] at hR
          wp_walk
          exact ⟨rfl, rfl, i + 1, hq2, by simpa using hR⟩
        | false =>
          rw [ht] at hR
          wp_walk
          exact ⟨_, rfl, by simpa using hR⟩
      case fin =>
        rintro ⟨b1, b2⟩ s' ⟨hb', rfl, i, hq, hR⟩
        simp only at hb'
        subst hb'
        have hi : min us.size vs.size ≤ i := by
          refine Nat.le_of_not_lt fun hc => ?_
          rw [List.drop_eq_getElem_cons (by rw [hlen]; exact hc)] at hq; cases hq
        rw [List.drop_of_length_le (by simpa using hi)] at hR
        wp_walk
        exact ⟨_, rfl, by simpa [Builtin.Tuple.tupleCompareSizes] using hR⟩
      case h => exact ⟨rfl, rfl, 0, rfl, by simpa using ar⟩
section
variable {A : Around} {s : Shared} {p q : Addr} {us vs : Array Value} {t : Nat → Bool}
theorem yk_lists_ne (hp : s.heap.IsList p us) (hq : s.heap.IsList q vs) (hz : us.size = vs.size) (hu : A.units < cLine) (ht : ∀ j (h1 : j < us.size) (h2 : j < vs.size), EqP P W A.in1 s us[j] vs[j] (t j))
    (E Q : Value → Shared → Prop) (h : Q (.bool (!(List.range us.size).all t)) s) : wpAny (model P W) A (richCompare .NotEq (.ref p) (.ref q)) Q E s := by
  obtain ⟨⟨c1, d1, dt1, s1⟩, o1, e1, n1, f1⟩ := id hp
  obtain ⟨⟨c2, d2, dt2, s2⟩, o2, e2, n2, f2⟩ := id hq
  simp only at e1 f1 e2 f2
  subst e1 f1 e2 f2
  have ta : s.TypeIs (.ref p) "list" := ⟨_, o1, rfl⟩
  have tb : s.TypeIs (.ref q) "list" := ⟨_, o2, rfl⟩
  refine wpAny_richCompare_same_room (op := .NotEq) ta tb F.slot_list_ne (call_meetsIn F.slot_list_ne ta F.entry_list_ne (F.args_list_ne_2 _ _) (yk_list_ne p q us vs n1 n2 d1 d2 s1 s2 hz t) ⟨o1, o2, ht, ?_⟩) hu
  exact (show Value.bool (!(List.range us.size).all t) ≠ Value.notImplemented ∧ Q (.bool (!(List.range us.size).all t)) s from ⟨(fun x => nomatch x), h⟩)
theorem yk_tuples (ne : Bool) (hp : s.heap.IsTuple p us) (hq : s.heap.IsTuple q vs) (hu : A.units < cLine) (ht : ∀ j (h1 : j < us.size) (h2 : j < vs.size), EqP P W A.in1 s us[j] vs[j] (t j))
    (E Q : Value → Shared → Prop) (h : Q (.bool (ne != ((List.range (min us.size vs.size)).all t && us.size == vs.size))) s) : wpAny (model P W) A (richCompare (if ne then .NotEq else .Eq) (.ref p) (.ref q)) Q E s := by
  obtain ⟨⟨c1, d1, dt1, s1⟩, o1, e1, n1, f1⟩ := id hp
  obtain ⟨⟨c2, d2, dt2, s2⟩, o2, e2, n2, f2⟩ := id hq
  simp only at e1 f1 e2 f2
  subst e1 f1 e2 f2
  have ta : s.TypeIs (.ref p) "tuple" := ⟨_, o1, rfl⟩
  have tb : s.TypeIs (.ref q) "tuple" := ⟨_, o2, rfl⟩
  have fin : ∀ b : Bool, Q (.bool b) s → (Value.bool b ≠ Value.notImplemented ∧ Q (.bool b) s) := fun b h => ⟨(fun x => nomatch x), h⟩
  have mt := yk_tuple (P := P) (W := W) ne p q us vs n1 n2 d1 d2 s1 s2 t
  cases ne with
  | true => exact wpAny_richCompare_same_room (op := .NotEq) ta tb F.slot_tuple_ne (call_meetsIn F.slot_tuple_ne ta F.entry_tuple_ne (F.args_tuple_ne_2 _ _) mt ⟨o1, o2, ht, fin _ h⟩) hu
  | false => exact wpAny_richCompare_same_room (op := .Eq) ta tb F.slot_tuple_eq (call_meetsIn F.slot_tuple_eq ta F.entry_tuple_eq (F.args_tuple_eq_2 _ _) mt ⟨o1, o2, ht, fin _ h⟩) hu
end
end
end PySem.SeqAt

set_option Elab.async false
set_option linter.all false
set_option maxRecDepth 100000
set_option maxHeartbeats 2000000
/-! YlP: == and != of nested things, over data; `x in d.values()`. -/
namespace Yk
open PySem PySem.Spec PyProof.Rows L2
def deqG (O : Sto) : Nat → D → D → Option Bool
  | 0, _, _ => none
  | n + 1, d, e => match lookL O d, lookL O e with
    | .lst xs, .lst ys => if xs.length = ys.length then deqL (deqG O n) xs ys else some false
    | .tup xs, .tup ys => (deqL (deqG O n) xs ys).map fun b => b && decide (xs.length = ys.length)
    | .dic ka, .dic kb => if ka.length = kb.length then eqKs (deqG O n) kb ka else some false
    | _, _ => deqN (n + 1) d e
def fEqG (x y : D) (O : Sto) : Res := match deqG O 60 x y with
  | some b => .ok (.bl b) O
  | none => .stuck
def fNeG (x y : D) (O : Sto) : Res := match deqG O 60 x y with
  | some b => .ok (.bl (!b)) O
  | none => .stuck
section
variable {ca : Cn} {w : Wd} {O : Sto} {H : Hp} {X : Cx} {pins : List (Addr × Obj)} {σ : L2.St} {s : Shared}
theorem lookL_lst (k : Ok ca w O H) {v : V} {d : D} {ds : List D} (r : Rep ca w v d) (e : lookL O d = .lst ds) : ∃ a vs, v = .ref a ∧ H a = some (.lst vs) ∧ RepL ca w vs ds := by
  cases r with
  | lst h r =>
    cases e
    exact ⟨_, _, rfl, k.ext.lst h, r⟩
  | @loc a n h =>
    have e : look O (.loc n) = .lst ds := e
    unfold look at e
    cases q : O[n]? with
    | none => simp only [q] at e; cases e
    | some o =>
      simp only [q] at e
      split at e <;> try (first | (cases e; done) | skip)
      rename_i q1
      cases q1
      cases e
      obtain ⟨_, u, h2, h3⟩ := k.own n a _ h q (fun z => nomatch z)
      cases h3 with
      | lst r => exact ⟨_, _, rfl, h2, r⟩
  | _ => cases e
theorem lookL_tup (k : Ok ca w O H) {v : V} {d : D} {ds : List D} (r : Rep ca w v d) (e : lookL O d = .tup ds) : ∃ a vs, v = .ref a ∧ H a = some (.tup vs) ∧ RepL ca w vs ds := by
  cases r with
  | tup h r =>
    cases e
    exact ⟨_, _, rfl, k.ext.tup h, r⟩
  | @loc a n h =>
    obtain ⟨a, vs, e1, e2, _, e4⟩ := look_tup k (Rep.loc h) e
    exact ⟨a, vs, e1, e2, e4⟩
  | _ => cases e
theorem lookL_dic (k : Ok ca w O H) {v : V} {d : D} {ds : List (Key × D)} (r : Rep ca w v d) (e : lookL O d = .dic ds) : ∃ a vs, v = .ref a ∧ Rd H a (.dK vs) ∧ RepK ca w vs ds := by
  cases r with
  | dic h r =>
    cases e
    exact ⟨_, _, rfl, k.ext.rd h, r⟩
  | @loc a n h => exact look_dic k (Rep.loc h) e
  | _ => cases e
theorem repL_same {f : D → D → Option Bool} (hf : ∀ v d e b, Rep ca w v d → Rep ca w v e → f d e = some b → b = true) : ∀ {vs : List V} {xs ys : List D} {b : Bool}, RepL ca w vs xs → RepL ca w vs ys → deqL f xs ys = some b → b = true
  | _, _, _, _, .nil, .nil, h => by cases h; rfl
  | _, _, _, _, .cons h1 r1, .cons h2 r2, h => by
    unfold deqL at h
    split at h
    · rename_i x y e1 e2
      cases h
      rw [hf _ _ _ _ h1 h2 e1, repL_same hf r1 r2 e2]
      rfl
    · cases h
theorem repK_find {k : Key} {v : V} : ∀ {vs : List (Key × V)} {kb : List (Key × D)}, RepK ca w vs kb → (vs.map (·.1)).Nodup → (k, v) ∈ vs → ∃ y, getK kb k = some y ∧ Rep ca w v y
  | _, _, .nil, _, h => by cases h
  | _, _, .cons (k := k1) (v := v1) (vs := vs) (d := d1) (ds := ds) h1 r1, hn, h => by
    rw [List.map_cons, List.nodup_cons] at hn
    rcases List.mem_cons.mp h with e | h
    · cases e
      exact ⟨d1, by unfold getK; rw [List.find?_cons_of_pos (by simp)]; rfl, h1⟩
    · have ne : k1 ≠ k := fun e => hn.1 (by
        rw [e]
        exact List.mem_map.mpr ⟨_, h, rfl⟩)
      obtain ⟨y, e1, e2⟩ := repK_find r1 hn.2 h
      refine ⟨y, ?_, e2⟩
      unfold getK
      rw [List.find?_cons_of_neg (by simpa using ne)]
      exact e1
theorem eqKs_same {f : D → D → Option Bool} (hf : ∀ v d e b, Rep ca w v d → Rep ca w v e → f d e = some b → b = true) {vs : List (Key × V)} {kb : List (Key × D)} (rb : RepK ca w vs kb) (hn : (vs.map (·.1)).Nodup) :
    ∀ {us : List (Key × V)} {ka : List (Key × D)} {b : Bool}, RepK ca w us ka → (∀ p ∈ us, p ∈ vs) → eqKs f kb ka = some b → b = true
  | _, _, _, .nil, _, h => by cases h; rfl
  | _, _, _, .cons h1 r1, hs, h => by
    obtain ⟨y, e1, e2⟩ := repK_find rb hn (hs _ (List.mem_cons_self ..))
    unfold eqKs at h
    rw [e1] at h
    dsimp only at h
    split at h
    · rename_i x1 x2 c1 c2
      cases h
      rw [hf _ _ _ _ h1 e2 c1, eqKs_same hf rb hn r1 (fun p hp => hs p (List.mem_cons_of_mem _ hp)) c2]
      rfl
    · cases h
theorem kv_keys : ∀ {vs : List (Key × V)} {us : List (Key × Value)}, KV vs us → vs.map (·.1) = us.map (·.1)
  | _, _, .nil => rfl
  | _, _, .cons h r => by rw [List.map_cons, List.map_cons, h.1, kv_keys r]
theorem dk_nodup (I : Inv X pins σ H s) {a : Addr} {vs : List (Key × V)} (h : Rd H a (.dK vs)) : (vs.map (·.1)).Nodup := by
  obtain ⟨_, _, us, q, o⟩ := dk_rd I.hok h
  rw [kv_keys q]
  obtain ⟨ep, hm⟩ := o.dictAt
  exact hm.nodup
theorem deqG_same (I : Inv X pins σ H s) (k : Ok ca w O H) : ∀ (n : Nat) (v : V) (d e : D) (b : Bool), Rep ca w v d → Rep ca w v e → deqG O n d e = some b → b = true
  | 0, _, _, _, _, _, _, h => by cases h
  | n + 1, v, d, e, b, r1, r2, h => by
    unfold deqG at h
    split at h
    · rename_i xs ys e1 e2
      obtain ⟨a, vs, rfl, h1, p1⟩ := lookL_lst k r1 e1
      obtain ⟨a', us, z, h2, p2⟩ := lookL_lst k r2 e2
      cases z
      rw [h1] at h2
      cases h2
      rw [if_pos (p1.length.symm.trans p2.length)] at h
      exact repL_same (deqG_same I k n) p1 p2 h
    · rename_i xs ys e1 e2
      obtain ⟨a, vs, rfl, h1, p1⟩ := lookL_tup k r1 e1
      obtain ⟨a', us, z, h2, p2⟩ := lookL_tup k r2 e2
      cases z
      rw [h1] at h2
      cases h2
      cases z : deqL (deqG O n) xs ys with
      | none => rw [z] at h; cases h
      | some c =>
        rw [z] at h
        cases h
        rw [repL_same (deqG_same I k n) p1 p2 z]
        simpa using p1.length.symm.trans p2.length
    · rename_i xs ys e1 e2
      obtain ⟨a, vs, rfl, h1, p1⟩ := lookL_dic k r1 e1
      obtain ⟨a', us, z, h2, p2⟩ := lookL_dic k r2 e2
      cases z
      have hv : vs = us := by
        rcases h1 with h1 | ⟨o1, h1⟩ <;> rcases h2 with h2 | ⟨o2, h2⟩ <;> (rw [h1] at h2; cases h2 <;> rfl)
      subst hv
      rw [if_pos (p1.length.symm.trans p2.length)] at h
      exact eqKs_same (deqG_same I k n) p2 (dk_nodup I h1) p1 (fun _ h => h) h
    · exact deq_same (n + 1) v d e b r1 r2 h
theorem keqG_hits {f : D → D → Option Bool} {P : Program} {wd : World} {A : Around} (hf : ∀ (v u : V) (v' u' : Value) (d e : D) (b : Bool), Rep ca w v d → Rep ca w u e → RelV v v' → RelV u u' → f d e = some b → SeqAt.EqP P wd A s v' u' b)
    {vb : List (Key × V)} {ub : List (Key × Value)} {kb : List (Key × D)} (rb : RepK ca w vb kb) (qb : KV vb ub) :
    ∀ {va : List (Key × V)} {ua : List (Key × Value)} {ka : List (Key × D)} {b : Bool}, RepK ca w va ka → KV va ua → eqKs f kb ka = some b → PySem.W.KeqHitsP P wd A s ub ua b
  | _, _, _, _, .nil, .nil, h => by
    cases h
    exact .nil
  | _, _, _, _, .cons (k := key) h1 r1, .cons (b := u) h2 r2, h => by
    obtain ⟨uk, uv⟩ := u
    obtain ⟨e1, e2⟩ := h2
    have e1' : key = uk := e1
    subst e1'
    unfold eqKs at h
    have g1 := getK_rep key rb
    have g2 := valueAt_rep qb key
    cases z : getK kb key with
    | none =>
      rw [z] at h g1
      cases h
      cases z2 : valV vb key with
      | some _ => rw [z2] at g1; exact g1.elim
      | none =>
        rw [z2] at g2
        cases z3 : PySem.valueAt ub key with
        | some _ => rw [z3] at g2; exact g2.elim
        | none => exact .miss z3
    | some y =>
      rw [z] at h g1
      cases z2 : valV vb key with
      | none => rw [z2] at g1; exact g1.elim
      | some vy =>
        rw [z2] at g1 g2
        cases z3 : PySem.valueAt ub key with
        | none => rw [z3] at g2; exact g2.elim
        | some uy =>
          rw [z3] at g2
          dsimp only at h
          split at h
          · rename_i x1 x2 c1 c2
            cases h
            exact .hit z3 (hf _ _ _ _ _ _ _ h1 g1 e2 g2 c1) (keqG_hits hf rb qb r1 r2 c2)
          · cases h
/-- == and != once the items are known -/
theorem rcG_step (I : Inv X pins σ H s) (hK : ca.K = X.K) (k : Ok ca w O H) {n : Nat} {A : Around} (hu : A.units + n + 2 < cLine)
    (ih : ∀ (v u : V) (v' u' : Value) (d e : D) (b : Bool), Rep ca w v d → Rep ca w u e → RelV v v' → RelV u u' → deqG O n d e = some b → SeqAt.EqP X.prog X.w A.in1 s v' u' b)
    {v u : V} {v' u' : Value} {d e : D} {b : Bool} (r1 : Rep ca w v d) (r2 : Rep ca w u e) (q1 : RelV v v') (q2 : RelV u u') (h : deqG O (n + 1) d e = some b) (ne : Bool) (E Q : Value → Shared → Prop) (hq : Q (.bool (ne != b)) s) :
    wpAny (model X.prog X.w) A (richCompare (if ne then .NotEq else .Eq) v' u') Q E s := by
  have items : ∀ {vs us : List V} {its its2 : List Value} {xs ys : List D} {c : Bool}, Vals vs its → Vals us its2 → RepL ca w vs xs → RepL ca w us ys → deqL (deqG O n) xs ys = some c →
      ∀ j (h1 : j < its.toArray.size) (h2 : j < its2.toArray.size), SeqAt.EqP X.prog X.w A.in1 s its.toArray[j] its2.toArray[j] (match xs[j]?, ys[j]? with
        | some x, some y => (deqG O n x y).getD true
        | _, _ => true) := by
    intro vs us its its2 xs ys c hv hu' rx ry hc j h1 h2
    have l1 : j < its.length := by simpa using h1
    have l2 : j < its2.length := by simpa using h2
    have k1 : j < vs.length := by rw [hv.length]; exact l1
    have k2 : j < us.length := by rw [hu'.length]; exact l2
    obtain ⟨x, e1, p1⟩ := rx.get (List.getElem?_eq_getElem k1)
    obtain ⟨y, e2, p2⟩ := ry.get (List.getElem?_eq_getElem k2)
    obtain ⟨z1, f1, g1⟩ := hv.get (List.getElem?_eq_getElem k1)
    obtain ⟨z2, f2, g2⟩ := hu'.get (List.getElem?_eq_getElem k2)
    obtain ⟨c', hc'⟩ := (deqL_all hc).1 j x y e1 e2
    rw [e1, e2]
    simp only [hc', Option.getD_some]
    have m1 : its.toArray[j] = z1 := by
      rw [List.getElem?_eq_getElem l1] at f1
      simpa using Option.some.inj f1
    have m2 : its2.toArray[j] = z2 := by
      rw [List.getElem?_eq_getElem l2] at f2
      simpa using Option.some.inj f2
    rw [m1, m2]
    exact ih _ _ _ _ _ _ _ p1 p2 g1 g2 hc'
  unfold deqG at h
  split at h
  · rename_i xs ys e1 e2
    obtain ⟨a, vs, rfl, h1, rx⟩ := lookL_lst k r1 e1
    obtain ⟨a', us, rfl, h2, ry⟩ := lookL_lst k r2 e2
    cases q1
    cases q2
    obtain ⟨its, v1, hl, _⟩ := I.list (.inl (.inl h1))
    obtain ⟨its2, v2, hl2, _⟩ := I.list (.inl (.inl h2))
    have s1 : its.toArray.size = xs.length := by rw [List.size_toArray, ← v1.length, rx.length]
    have s2 : its2.toArray.size = ys.length := by rw [List.size_toArray, ← v2.length, ry.length]
    by_cases ee : xs.length = ys.length
    · rw [if_pos ee] at h
      have hb := (deqL_all h).2
      have sz : its.toArray.size = its2.toArray.size := by rw [s1, s2, ee]
      have it := items v1 v2 rx ry h
      rw [← ee, Nat.min_self, ← s1] at hb
      cases ne with
      | false =>
        have hq2 : Q (.bool b) s := by simpa using hq
        rw [hb] at hq2
        exact SeqAt.rcP_lists hl.isList hl2.isList sz (by omega) it _ _ hq2
      | true =>
        have hq2 : Q (.bool (!b)) s := by simpa using hq
        rw [hb] at hq2
        exact SeqAt.yk_lists_ne hl.isList hl2.isList sz (by omega) it _ _ hq2
    · rw [if_neg ee] at h
      cases h
      have sz : (its.toArray.size != its2.toArray.size) = true := by
        rw [s1, s2]
        simpa using ee
      cases ne with
      | false => exact SeqAt.RcAt.lists_lengths hl.isList hl2.isList sz (by omega) X.prog X.w _ _ (by simpa using hq)
      | true => exact SeqAt.RcNeAt.lists_lengths hl.isList hl2.isList sz (by omega) X.prog X.w _ _ (by simpa using hq)
  · rename_i xs ys e1 e2
    obtain ⟨a, vs, rfl, h1, rx⟩ := lookL_tup k r1 e1
    obtain ⟨a', us, rfl, h2, ry⟩ := lookL_tup k r2 e2
    cases q1
    cases q2
    obtain ⟨its, v1, hl, _⟩ := I.tuple (.inl (.inl h1))
    obtain ⟨its2, v2, hl2, _⟩ := I.tuple (.inl (.inl h2))
    have s1 : its.toArray.size = xs.length := by rw [List.size_toArray, ← v1.length, rx.length]
    have s2 : its2.toArray.size = ys.length := by rw [List.size_toArray, ← v2.length, ry.length]
    cases z : deqL (deqG O n) xs ys with
    | none => rw [z] at h; cases h
    | some c =>
      rw [z] at h
      cases h
      have hb := (deqL_all z).2
      have it := items v1 v2 rx ry z
      have e3 : decide (xs.length = ys.length) = (its.toArray.size == its2.toArray.size) := by
        rw [s1, s2]
        by_cases e : xs.length = ys.length <;> simp [e]
      rw [← s1, ← s2] at hb
      rw [e3, hb] at hq
      exact SeqAt.yk_tuples ne hl hl2 (by omega) it _ _ hq
  · rename_i ka kb e1 e2
    obtain ⟨a, va, rfl, hA, ra⟩ := lookL_dic k r1 e1
    obtain ⟨a', vb, rfl, hB, rb⟩ := lookL_dic k r2 e2
    cases q1
    cases q2
    obtain ⟨_, m1, ua, qa, da⟩ := dk_rd I.hok hA
    obtain ⟨_, m2, ub, qb, db⟩ := dk_rd I.hok hB
    have la : ua.length = ka.length := qa.length.symm.trans ra.length
    have lb : ub.length = kb.length := qb.length.symm.trans rb.length
    by_cases hl : ka.length = kb.length
    · rw [if_pos hl] at h
      have hz : (ua.length == ub.length) = true := by rw [la, lb]; simpa using hl
      have hits := keqG_hits (P := X.prog) (wd := X.w) (A := A.in1) ih rb qb ra qa h
      cases ne with
      | false => exact PySem.W.rcP_dicts m1 m2 da db (by omega) (fun _ => hits) _ _ (by rw [hz, Bool.true_and]; simpa using hq)
      | true => exact ne_dicts m1 m2 da db (by omega) (fun _ => hits) _ _ (by rw [hz, Bool.true_and]; simpa using hq)
    · rw [if_neg hl] at h
      cases h
      have hz : (ua.length == ub.length) = false := by rw [la, lb]; simpa using hl
      cases ne with
      | false => exact PySem.W.rcP_dicts (r := true) m1 m2 da db (by omega) (fun h => absurd (by rw [← la, ← lb]; exact h) hl) _ _ (by rw [hz, Bool.false_and]; simpa using hq)
      | true => exact ne_dicts (r := true) m1 m2 da db (by omega) (fun h => absurd (by rw [← la, ← lb]; exact h) hl) _ _ (by rw [hz, Bool.false_and]; simpa using hq)
  · obtain ⟨dd, de⟩ := deqN_data h
    have rc := rc_step I hK (A := A) (by omega) (fun v u v' u' d e b a1 a2 a3 a4 a5 => eq_at I hK k n A.in1 (by show A.units + 1 + n < cLine; omega) v u v' u' d e b a1 a2 a3 a4 a5) (rep_repV k r1 dd) (rep_repV k r2 de) q1 q2 h
    cases ne with
    | false => exact rc.1 X.prog X.w _ _ (by simpa using hq)
    | true => exact rc.2 X.prog X.w _ _ (by simpa using hq)
theorem eqG_at (I : Inv X pins σ H s) (hK : ca.K = X.K) (k : Ok ca w O H) : ∀ (n : Nat) (A : Around), A.units + n + 2 < cLine → ∀ (v u : V) (v' u' : Value) (d e : D) (b : Bool), Rep ca w v d → Rep ca w u e → RelV v v' → RelV u u' → deqG O n d e = some b → SeqAt.EqP X.prog X.w A s v' u' b
  | 0, _, _, _, _, _, _, _, _, _, _, _, _, _, h => by cases h
  | n + 1, A, hu, v, u, v', u', d, e, b, r1, r2, q1, q2, h => by
    have step := rcG_step I hK k (n := n) (A := A) (by omega) (fun v u v' u' d e b a1 a2 a3 a4 a5 => eqG_at I hK k n A.in1 (by show A.units + 1 + n + 2 < cLine; omega) v u v' u' d e b a1 a2 a3 a4 a5) r1 r2 q1 q2 h false
    have refs : ∀ a a' : Addr, v = .ref a → u = .ref a' → SeqAt.EqP X.prog X.w A s v' u' b := fun a a' e1 e2 => by
      subst e1 e2
      by_cases ha : a = a'
      · subst ha
        rw [deqG_same I k (n + 1) _ d e b r1 r2 h]
        cases q1
        cases q2
        exact (SeqAt.EqAt.same _).eqP
      · cases q1
        cases q2
        exact SeqAt.eqP_refs ha fun E Q hq => step E Q (by simpa using hq)
    unfold deqG at h
    split at h
    · rename_i xs ys e1 e2
      obtain ⟨a, vs, z1, _, _⟩ := lookL_lst k r1 e1
      obtain ⟨a', us, z2, _, _⟩ := lookL_lst k r2 e2
      exact refs a a' z1 z2
    · rename_i xs ys e1 e2
      obtain ⟨a, vs, z1, _, _⟩ := lookL_tup k r1 e1
      obtain ⟨a', us, z2, _, _⟩ := lookL_tup k r2 e2
      exact refs a a' z1 z2
    · rename_i xs ys e1 e2
      obtain ⟨a, vs, z1, _, _⟩ := lookL_dic k r1 e1
      obtain ⟨a', us, z2, _, _⟩ := lookL_dic k r2 e2
      exact refs a a' z1 z2
    · exact (eq_at I hK k (n + 1) A (by omega) v u v' u' d e b r1 r2 q1 q2 h).eqP
end
def rCmpG (ca : Cn) (ne : Bool) : R2 := fun x y H Q => ∃ w O dx dy b, Ok ca w O H ∧ Rep ca w x dx ∧ Rep ca w y dy ∧ deqG O 60 dx dy = some b ∧ Q (.bl (ne != b)) H
section
variable {ca : Cn} {X : Cx}
theorem op_cmpG (ne : Bool) (hu : X.A.units + 64 < cLine) (hK : ca.K = X.K) : OpR X (compareOp (if ne then .NotEq else .Eq)) (rCmpG ca ne) := by
  intro pins s σ H x y v u Q I rx ry h
  obtain ⟨w, O, dx, dy, b, k, r1, r2, e, q⟩ := h
  have := rcG_step I hK k (n := 59) (A := X.A) (by omega) (fun v u v' u' d e b a1 a2 a3 a4 a5 => eqG_at I hK k 59 X.A.in1 (by show X.A.units + 1 + 59 + 2 < cLine; omega) v u v' u' d e b a1 a2 a3 a4 a5) r1 r2 rx ry e ne X.xe (fun v' s' => ∃ y H', Inv X pins σ H' s' ∧ RelV y v' ∧ Q y H') ⟨.bl (ne != b), H, I, rfl, q⟩
  cases ne with
  | false => exact this
  | true => exact this
theorem op_eqG (hu : X.A.units + 64 < cLine) (hK : ca.K = X.K := by rfl) : OpR X (compareOp .Eq) (rCmpG ca false) := op_cmpG false hu hK
theorem op_neG (hu : X.A.units + 64 < cLine) (hK : ca.K = X.K := by rfl) : OpR X (compareOp .NotEq) (rCmpG ca true) := op_cmpG true hu hK
theorem ops_eqG : OpS ca (rCmpG ca false) fEqG := fun w O H x y dx dy W σ Q k r1 r2 h => by
  unfold fEqG at h
  cases z : deqG O 60 dx dy with
  | none => rw [z] at h; exact h.elim
  | some b =>
    rw [z] at h
    exact ⟨w, O, dx, dy, b, k, r1, r2, z, by simpa using post_ok k (.bl b) h⟩
theorem ops_neG : OpS ca (rCmpG ca true) fNeG := fun w O H x y dx dy W σ Q k r1 r2 h => by
  unfold fNeG at h
  cases z : deqG O 60 dx dy with
  | none => rw [z] at h; exact h.elim
  | some b =>
    rw [z] at h
    exact ⟨w, O, dx, dy, b, k, r1, r2, z, by simpa using post_ok k (.bl (!b)) h⟩
end
/-! ### x in d.values() -/
def fInV (neg : Bool) (x y : D) (O : Sto) : Res := match look O y with
  | .dic kvs => match anyEq x (kvs.map (·.2)) with
    | some b => .ok (.bl (neg != b)) O
    | none => .stuck
  | _ => .stuck
theorem anyEq_any {x : D} : ∀ {ds : List D} {b : Bool}, anyEq x ds = some b → (ds.map fun d => (deqN 40 d x).getD false).any id = b
  | [], b, h => by cases h; rfl
  | d :: ds, b, h => by
    unfold anyEq at h
    split at h
    · rename_i p q e1 e2
      cases h
      rw [List.map_cons, List.any_cons, anyEq_any e2, e1]
      rfl
    · cases h
theorem RepK.getV {ca : Cn} {w : Wd} : ∀ {vs : List (Key × V)} {ds : List (Key × D)} {i : Nat} {k : Key} {v : V}, RepK ca w vs ds → vs[i]? = some (k, v) → ∃ d, ds[i]? = some (k, d) ∧ Rep ca w v d
  | _, _, _, _, _, .nil, e => by simp at e
  | _, _, 0, _, _, .cons h r, e => by
    simp at e
    obtain ⟨rfl, rfl⟩ := e
    exact ⟨_, rfl, h⟩
  | _, _, i + 1, k, v, .cons h r, e => by
    obtain ⟨d, h1, h2⟩ := RepK.getV (i := i) r (by simpa using e)
    exact ⟨d, by simpa using h1, h2⟩
theorem kv_back : ∀ {vs : List (Key × V)} {us : List (Key × Value)} {i : Nat} {k : Key} {u : Value}, KV vs us → us[i]? = some (k, u) → ∃ v, vs[i]? = some (k, v) ∧ RelV v u
  | _, _, _, _, _, .nil, e => by simp at e
  | _, _, 0, _, _, .cons (a := a) h r, e => by
    simp at e
    subst e
    obtain ⟨a1, a2⟩ := a
    obtain ⟨h1, h2⟩ := h
    cases h1
    exact ⟨a2, rfl, h2⟩
  | _, _, i + 1, k, v, .cons h r, e => by
    obtain ⟨d, h1, h2⟩ := kv_back (i := i) r (by simpa using e)
    exact ⟨d, by simpa using h1, h2⟩
def tInV (ca : Cn) (neg : Bool) (ta te : TE) : TE := fun σ H Q => ta σ H fun x H1 => te σ H1 fun y H2 => ∃ w O dx kvs b d vs, Ok ca w O H2 ∧ Rep ca w x dx ∧ y = .ref d ∧ Rd H2 d (.dK vs) ∧ RepK ca w vs kvs ∧ anyEq dx (kvs.map (·.2)) = some b ∧ Q (.bl (neg != b)) H2
section
variable {ca : Cn} {W : WX} {X : Cx} {a e : Expr} {ma me : DTE} {apos cpos : Pos} {ta te : TE}
theorem pc_inV (neg : Bool) (hc : X.calm = true) (hK : ca.K = X.K) (hu : X.A.units + 64 < cLine) (ha : PE X a ta) (he : PE X e te) (hbase : attributeBase e "values" X.env (eval e X.env) = eval e X.env) (hline : (apos.endLine == cpos.line) = true) :
    PC X (if neg then .NotIn else .In) a (.Call (.Attribute e "values" apos) [] [] cpos) (tInV ca neg ta te) := ⟨fun pins s σ H Q I h => by
  refine thn (ha.run pins s σ H _ I h) fun v s1 ⟨x, H1, I1, r1, q1⟩ => ?_
  refine wpAny_Call_method (T := "dict") (id := "dict.values") hbase rfl hline F.plainAttrs_dict F.slot_dict_values F.type_dict_values (thn (he.run pins s1 σ H1 _ I1 q1) fun u s2 ⟨y, H2, I2, r2, w, O, dx, kvs, b, d, vs, k, rx, ey, hd, rk, an, q⟩ => ?_)
  subst ey
  obtain rfl : u = Value.ref d := r2
  obtain ⟨_, hs, us, qv, hm⟩ := dk_rd I2.hok hd
  obtain ⟨ep, hm⟩ := hm.dictAt
  refine ⟨hm.dictOf.typeIs, hm.dictOf.mapOf.noDict, ?_⟩
  have hd0 : s2.heap.get? d ≠ none := by
    obtain ⟨o, es, ho, _⟩ := id hm
    rw [ho]
    exact fun z => nomatch z
  have I3 : Inv X pins σ H2 { s2 with heap := s2.heap.push { cls := .type "dict_values", data := .fields #[.ref d] } } := I2.kept (t' := s2.toks) fun b ob q => Heap.get?_push_of_some _ q
  have hcs : ((kvs.map (·.2)).map fun d => (deqN 40 d dx).getD false).length = us.length := by
    rw [List.length_map, List.length_map, ← rk.length, qv.length]
  have fin : wpAny (model X.prog X.w) X.A (contains (.ref s2.heap.objs.size) v) (fun r s' => Inv X pins σ H2 s' ∧ r = b) X.xe { s2 with heap := s2.heap.push { cls := .type "dict_values", data := .fields #[.ref d] } } := by
    refine in_values (knd := mixKind X.prog X.w) (s0 := s2) (d := d) (kvs := us) (ep := ep) (I2.ok.hd hc) hcs ⟨_, Heap.get?_push_size _ rfl, rfl, rfl⟩ (hm.push _) ⟨_, _, rfl, fun b u e => Heap.get?_push_of_some _ e⟩ (by simp [Heap.push]) hd0 (fun s' hg i kk uu c e1 e2 => ?_) (fun s' hg => ?_)
    · obtain ⟨h', tk, rfl, kp⟩ := hg
      have I' : Inv X pins σ H2 { s2 with heap := h', toks := tk } := I2.kept kp
      obtain ⟨vv, f1, f2⟩ := kv_back qv e1
      obtain ⟨dd, g1, g2⟩ := rk.getV f1
      have hmem : dd ∈ kvs.map (·.2) := List.mem_map.mpr ⟨_, List.mem_of_getElem? g1, rfl⟩
      obtain ⟨c', hc'⟩ := (anyEq_each an).1 dd hmem
      have : c = c' := by
        rw [List.getElem?_map, List.getElem?_map, g1] at e2
        simp [hc'] at e2
        exact e2.symm
      subst this
      exact eq_at I' hK k 40 X.A.in1 (by show X.A.units + 1 + 40 < cLine; omega) _ _ _ _ _ _ _ g2 rx f2 r1 hc'
    · obtain ⟨h', tk, rfl, kp⟩ := hg
      exact ⟨I2.kept kp, anyEq_any an⟩
  show wpAny _ _ (callWith cpos (.builtin "dict.values") [.ref d] [] []) _ X.xe s2
  refine method_meetsIn F.slot_dict_values F.entry_dict_values rfl (PySem.evalArgs_none ⟨rfl, hm.dictOf.typeIs, F.args_dict_values_1 _, _, meets_dict_values (mixKind X.prog X.w) d hs, ⟨us, hm.dictOf⟩, ?_⟩)
  cases neg with
  | false =>
    show wpAny (model X.prog X.w) X.A (do return Value.bool (← contains (.ref s2.heap.objs.size) v)) (EP X pins σ Q) X.xe { s2 with heap := s2.heap.push { cls := .type "dict_values", data := .fields #[.ref d] } }
    exact wpAny_bind (thn fin fun r s' ⟨i, e⟩ => wpAny_pure ⟨.bl b, H2, i, by rw [e]; rfl, by simpa using q⟩)
  | true =>
    show wpAny (model X.prog X.w) X.A (do return Value.bool (!(← contains (.ref s2.heap.objs.size) v))) (EP X pins σ Q) X.xe { s2 with heap := s2.heap.push { cls := .type "dict_values", data := .fields #[.ref d] } }
    exact wpAny_bind (thn fin fun r s' ⟨i, e⟩ => wpAny_pure ⟨.bl (!b), H2, i, by rw [e]; rfl, by simpa using q⟩)⟩
theorem dc_inV (neg : Bool) (hu : X.A.units + 64 < cLine) (ha : DE ca W X a ma) (he : DE ca W X e me) (hc : X.calm = true := by rfl) (hK : ca.K = X.K := by rfl) (hbase : attributeBase e "values" X.env (eval e X.env) = eval e X.env := by rfl) (hline : (apos.endLine == cpos.line) = true := by rfl) :
    DC ca W X (if neg then .NotIn else .In) a (.Call (.Attribute e "values" apos) [] [] cpos) (dOp (fInV neg) ma me) := by
  obtain ⟨ta, pa, sa⟩ := ha
  obtain ⟨te, pe, se⟩ := he
  refine ⟨_, pc_inV neg hc hK hu pa pe hbase hline, fun w O H σ ρ Q k re h => ?_⟩
  refine sa w O H σ ρ _ k re (Post.bind h fun d O1 v w1 H1 l1 k1 r1 h1 => ?_)
  refine se w1 O1 H1 σ ρ _ k1 (re.mono l1) (Post.bind h1 fun d2 O2 v2 w2 H2 l2 k2 r2 h2 => ?_)
  unfold fInV at h2
  split at h2
  · rename_i kvs e1
    split at h2
    · rename_i b e2
      obtain ⟨a, vs, rfl, hA, rk⟩ := look_dic k2 r2 e1
      exact ⟨w2, O2, d, kvs, b, a, vs, k2, r1.mono l2, rfl, hA, rk, e2, post_ok k2 (.bl _) h2⟩
    · exact h2.elim
  · exact h2.elim
end
end Yk

set_option Elab.async false
set_option linter.all false
set_option maxRecDepth 100000
set_option maxHeartbeats 2000000
/-! YlQ: xs.pop(i), d.get(k), xs[::-1], s.join(xs), s * n. -/
namespace Yk
open PySem PySem.Spec PyProof.Rows L2
section
variable {ca : Cn} {W : WX} {X : Cx} {a b e o : Expr} {ma mb mo me mk : DTE} {apos pos : Pos}
def fPopAt (x : D) (xs : List D) (O : Sto) : Res := match ownL O x, xs with
  | some (n, ds), [.int i] => (match ixN ds.length i with
    | some k => if -(2 ^ 63) ≤ i ∧ i < 2 ^ 63 then (match ds[k]? with
      | some d => .ok d (O.set n (.lst (ds.eraseIdx k)))
      | none => .stuck) else .stuck
    | none => .stuck)
  | _, _ => .stuck
theorem RepL.eraseIdx {w : Wd} : ∀ {vs : List V} {ds : List D} (k : Nat), RepL ca w vs ds → RepL ca w (vs.eraseIdx k) (ds.eraseIdx k)
  | _, _, k, .nil => by simpa using RepL.nil
  | _, _, 0, .cons h r => by simpa using r
  | _, _, k + 1, .cons h r => by simpa using RepL.cons h (RepL.eraseIdx k r)
theorem ms_popAt : MtS ca rPopAt fPopAt := fun w O H x dx xs ds W σ Q k r1 r2 h => by
  unfold fPopAt at h
  split at h
  · rename_i n ls i e
    obtain ⟨a, vs, rfl, hA, hO, hH, rl⟩ := ownL_rep k r1 e
    obtain ⟨u, rfl, ru⟩ := one_rep r2
    cases ru
    split at h
    · rename_i j ej
      obtain ⟨c, h⟩ := post_if h
      obtain ⟨q1, q2, _, _⟩ := ixN_seq ej
      split at h
      · rename_i d ed
        obtain ⟨y, e1, e2⟩ := rl.getD ed
        exact ⟨a, vs, i, j, y, rfl, rfl, hH, c.1, c.2, by rw [rl.length]; exact q1, e1, h y w _ (Wd.le.refl w) (k.setO hA hO (fun z => nomatch z) (k.lkFree hH rfl) (.lst (rl.eraseIdx j))) e2⟩
      · exact h.elim
    · exact h.elim
  · exact h.elim
/-- d.get(k) -/
def dGet1 (md mk : DTE) : DTE := fun ρ O => (md ρ O).bind fun x O1 => if isDc O1 x = true then (mk ρ O1).bind fun y O2 => fGet x y .non O2 else .stuck
theorem de_get1 (hu : X.A.units + 1 < cLine) (ho : DE ca W X o mo) (he : DE ca W X e mk) (m : M1 X o "get" apos e pos) : DE ca W X (.Call (.Attribute o "get" apos) [e] [] pos) (dGet1 mo mk) := by
  obtain ⟨to, po, so⟩ := ho
  obtain ⟨te, pe, se⟩ := he
  refine ⟨_, pe_dget1 hu po pe m, fun w O H σ ρ Q k re h => ?_⟩
  refine so w O H σ ρ _ k re (Post.bind h fun d O1 v w1 H1 l1 k1 r1 h1 => ?_)
  obtain ⟨c, h1⟩ := post_if h1
  obtain ⟨a, ea, hd⟩ := isDc_rep k1 r1 c
  refine ⟨a, ea, hd, ?_⟩
  refine se w1 O1 H1 σ ρ _ k1 (re.mono l1) (Post.bind h1 fun d2 O2 v2 w2 H2 l2 k2 r2 h2 => ?_)
  unfold fGet at h2
  cases z : dGetD O2 d d2 with
  | none => rw [z] at h2; exact h2.elim
  | some oo =>
    rw [z] at h2
    obtain ⟨p, vo, e1, _, e2, e3⟩ := dget_rep k2 (r1.mono l2) r2 z
    rw [ea] at e1
    cases e1
    refine ⟨vo, e2, ?_⟩
    cases oo with
    | none =>
      cases vo with
      | none => exact post_ok k2 .non h2
      | some _ => exact e3.elim
    | some dd =>
      cases vo with
      | none => exact e3.elim
      | some vv => exact post_ok k2 e3 h2
/-- xs[::-1] -/
def fRevL (own : Bool) (x : D) (O : Sto) : Res := match look O x with
  | .lst ds => mkL own ds.reverse O
  | _ => .stuck
theorem de_revL {k : Nat} {p1 p2 p3 : Pos} (own : Bool) (he : DE ca W X e me) (hK : ca.K = X.K := by rfl) : DE ca W X (.Subscript e (.Slice none none (some (.UnaryOp .USub (.Constant (.int 1) k p1) p2)) p3) pos) (dUn (fRevL own) me) := by
  obtain ⟨te, pe, se⟩ := he
  refine ⟨_, pe_revL pe, fun w O H σ ρ Q k re h => ?_⟩
  refine se w O H σ ρ _ k re (Post.bind h fun d O1 v w1 H1 l1 k1 r1 h1 => ?_)
  unfold fRevL at h1
  split at h1
  · rename_i ds e1
    obtain ⟨p, vs, rfl, hp, rl⟩ := look_lst k1 r1 e1
    exact ⟨p, vs, rfl, hK ▸ hp, fun q hq => post_mkL k1 rl.reverse h1 hq⟩
  · exact h1.elim
/-- s.join(xs) -/
def strsOf : List D → Option (List Str)
  | [] => some []
  | .str s :: r => (strsOf r).map (s :: ·)
  | _ => none
theorem strsOf_rep {w : Wd} : ∀ {vs : List V} {ds : List D} {ys : List Str}, RepL ca w vs ds → strsOf ds = some ys → vs = ys.map V.str
  | _, _, _, .nil, h => by cases h; rfl
  | _, _, ys, .cons (d := d) h r, e => by
    cases d with
    | str s =>
      cases h
      unfold strsOf at e
      cases z : strsOf _ with
      | none => rw [z] at e; cases e
      | some zs =>
        rw [z] at e
        cases e
        rw [strsOf_rep r z]
        rfl
    | _ => cases e
def fJoin (x : D) (xs : D) (O : Sto) : Res := match x with
  | .str s => (match look O xs with
    | .lst ds => (match strsOf ds with
      | some ys => if (ys.map (·.length)).sum + ys.length * s.length ≤ 16777216 then .ok (.str (Txt.join s ys)) O else .stuck
      | none => .stuck)
    | .tup ds => (match strsOf ds with
      | some ys => if (ys.map (·.length)).sum + ys.length * s.length ≤ 16777216 then .ok (.str (Txt.join s ys)) O else .stuck
      | none => .stuck)
    | _ => .stuck)
  | _ => .stuck
def dJoin (mo me : DTE) : DTE := fun ρ O => (mo ρ O).bind fun x O1 => match x with
  | .str s => (me ρ O1).bind fun y O2 => fJoin (.str s) y O2
  | _ => .stuck
theorem de_join (ho : DE ca W X o mo) (he : DE ca W X e me) (hK : ca.K = X.K := by rfl) (hs : starEach [e] X.env = [(false, eval e X.env)] := by rfl) (hbase : attributeBase o "join" X.env (eval o X.env) = eval o X.env := by rfl) (hline : (apos.endLine == pos.line) = true := by rfl) :
    DE ca W X (.Call (.Attribute o "join" apos) [e] [] pos) (dJoin mo me) := by
  obtain ⟨to, po, so⟩ := ho
  obtain ⟨te, pe, se⟩ := he
  refine ⟨_, pe_join po pe hs hbase hline, fun w O H σ ρ Q k re h => ?_⟩
  refine so w O H σ ρ _ k re (Post.bind h fun d O1 v w1 H1 l1 k1 r1 h1 => ?_)
  cases r1 with
  | str s =>
    refine ⟨⟨s, rfl⟩, ?_⟩
    refine se w1 O1 H1 σ ρ _ k1 (re.mono l1) (Post.bind h1 fun d2 O2 v2 w2 H2 l2 k2 r2 h2 => ?_)
    unfold fJoin at h2
    dsimp only at h2
    split at h2
    · rename_i ds e1
      obtain ⟨p, vs, rfl, hp, rl⟩ := look_lst k2 r2 e1
      split at h2
      · rename_i ys e2
        obtain ⟨c, h2⟩ := post_if h2
        rw [strsOf_rep rl e2] at hp
        exact ⟨s, p, ys, rfl, rfl, .inl (hK ▸ hp), c, post_ok k2 (.str _) h2⟩
      · exact h2.elim
    · rename_i ds e1
      obtain ⟨p, vs, rfl, hp, _, rl⟩ := look_tup k2 r2 e1
      split at h2
      · rename_i ys e2
        obtain ⟨c, h2⟩ := post_if h2
        rw [strsOf_rep rl e2] at hp
        exact ⟨s, p, ys, rfl, rfl, .inr (.inl (.inl hp)), c, post_ok k2 (.str _) h2⟩
      · exact h2.elim
    · exact h2.elim
  | _ => exact h1.elim
/-- s * n -/
def fMulS (x y : D) (O : Sto) : Res := match x, y with
  | .str s, .int n => if s.length ≤ 1000 ∧ 0 ≤ n ∧ n ≤ 1000 then .ok (.str (Txt.mul s n)) O else .stuck
  | _, _ => .stuck
abbrev rMulS : R2 := fun x y H Q => ∃ s n, x = .str s ∧ y = .int n ∧ (s.length ≤ 1000 ∧ 0 ≤ n ∧ n ≤ 1000) ∧ Q (.str (Txt.mul s n)) H
theorem mulOk_small {s : Str} {n : Int} (h : s.length ≤ 1000 ∧ 0 ≤ n ∧ n ≤ 1000) : MulOk s n := by
  obtain ⟨h1, h2, h3⟩ := h
  refine ⟨by simp; omega, fun h4 _ => ?_, fun h4 _ => ?_⟩
  · have : (1000 : Int) ≤ (2 ^ 63 - 1) / n := by
      refine Int.le_ediv_of_mul_le (by omega) ?_
      omega
    omega
  · have hn : n.toNat ≤ 1000 := by omega
    have : s.length * n.toNat ≤ 1000 * 1000 := Nat.mul_le_mul h1 hn
    unfold Builtin.Str.tooLong sizeLine
    simp
    omega
theorem op_mulS : OpR X (binaryOp .Mult) rMulS := by
  intro pins s σ H x y v u Q I rx ry h
  obtain ⟨i, j, rfl, rfl, hz, q⟩ := h
  obtain ⟨t, rfl⟩ := rx
  obtain ⟨t', rfl⟩ := ry
  exact SB.mul (mulOk_small hz) fun t' k => ⟨.str (Txt.mul i j), H, I.tok _, ⟨_, rfl⟩, q⟩
theorem ops_mulS : OpS ca rMulS fMulS := fun w O H x y dx dy W σ Q k r1 r2 h => by
  unfold fMulS at h
  split at h
  · cases r1
    cases r2
    obtain ⟨c, h⟩ := post_if h
    exact ⟨_, _, rfl, rfl, c, post_ok k (.str _) h⟩
  · exact h.elim
end
end Yk

set_option Elab.async false
set_option linter.all false
set_option maxRecDepth 100000
set_option maxHeartbeats 2000000
/-! YlR: things frozen with what they hold. -/
namespace Yk
open PySem PySem.Spec PyProof.Rows L2
section
variable {α : Type}
def frzLs (f : D → Sto → Option (D × Sto)) : List D → Sto → Option (List D × Sto)
  | [], O => some ([], O)
  | d :: ds, O => (f d O).bind fun p => (frzLs f ds p.2).map fun q => (p.1 :: q.1, q.2)
def frzPs (f : D → Sto → Option (D × Sto)) : List (α × D) → Sto → Option (List (α × D) × Sto)
  | [], O => some ([], O)
  | (k, d) :: ds, O => (f d O).bind fun p => (frzPs f ds p.2).map fun q => ((k, p.1) :: q.1, q.2)
end
def frzD : Nat → D → Sto → Option (D × Sto)
  | 0, d, O => frz1 d O
  | n + 1, d, O => (frz1 d O).bind fun p => match p.1 with
    | .lst ds => (frzLs (frzD n) ds p.2).map fun q => (.lst q.1, q.2)
    | .tup ds => (frzLs (frzD n) ds p.2).map fun q => (.tup q.1, q.2)
    | .dic ds => (frzPs (frzD n) ds p.2).map fun q => (.dic q.1, q.2)
    | .dit ds => (frzPs (frzD n) ds p.2).map fun q => (.dit q.1, q.2)
    | .obj c ds => (frzPs (frzD n) ds p.2).map fun q => (.obj c q.1, q.2)
    | d => some (d, p.2)
def FrzS (ca : Cn) (H : Hp) (f : D → Sto → Option (D × Sto)) : Prop := ∀ (w : Wd) (O O' : Sto) (v : V) (d d' : D), Ok ca w O H → Rep ca w v d → f d O = some (d', O') → ∃ w', w.le w' ∧ Ok ca w' O' H ∧ Rep ca w' v d'
section
variable {ca : Cn} {H : Hp} {f : D → Sto → Option (D × Sto)}
theorem frzLs_ok (hf : FrzS ca H f) : ∀ (ds ds' : List D) (vs : List V) (w : Wd) (O O' : Sto), Ok ca w O H → RepL ca w vs ds → frzLs f ds O = some (ds', O') → ∃ w', w.le w' ∧ Ok ca w' O' H ∧ RepL ca w' vs ds'
  | [], ds', vs, w, O, O', k, r, h => by
    cases h
    exact ⟨w, Wd.le.refl w, k, r⟩
  | d :: ds, ds', vs, w, O, O', k, r, h => by
    cases r with
    | cons h1 r1 =>
      unfold frzLs at h
      cases z : f d O with
      | none => rw [z] at h; cases h
      | some p =>
        obtain ⟨d1, O1⟩ := p
        rw [z] at h
        obtain ⟨w1, l1, k1, q1⟩ := hf w O O1 _ d d1 k h1 z
        dsimp only [Option.bind] at h
        cases z2 : frzLs f ds O1 with
        | none => rw [z2] at h; cases h
        | some q =>
          obtain ⟨ds1, O2⟩ := q
          rw [z2] at h
          cases h
          obtain ⟨w2, l2, k2, q2⟩ := frzLs_ok hf ds ds1 _ w1 O1 O2 k1 (r1.mono l1) z2
          exact ⟨w2, l1.trans l2, k2, .cons (q1.mono l2) q2⟩
theorem frzK_ok (hf : FrzS ca H f) : ∀ (ds ds' : List (Key × D)) (vs : List (Key × V)) (w : Wd) (O O' : Sto), Ok ca w O H → RepK ca w vs ds → frzPs f ds O = some (ds', O') → ∃ w', w.le w' ∧ Ok ca w' O' H ∧ RepK ca w' vs ds'
  | [], ds', vs, w, O, O', k, r, h => by
    cases h
    exact ⟨w, Wd.le.refl w, k, r⟩
  | (key, d) :: ds, ds', vs, w, O, O', k, r, h => by
    cases r with
    | cons h1 r1 =>
      unfold frzPs at h
      cases z : f d O with
      | none => rw [z] at h; cases h
      | some p =>
        obtain ⟨d1, O1⟩ := p
        rw [z] at h
        obtain ⟨w1, l1, k1, q1⟩ := hf w O O1 _ d d1 k h1 z
        dsimp only [Option.bind] at h
        cases z2 : frzPs f ds O1 with
        | none => rw [z2] at h; cases h
        | some q =>
          obtain ⟨ds1, O2⟩ := q
          rw [z2] at h
          cases h
          obtain ⟨w2, l2, k2, q2⟩ := frzK_ok hf ds ds1 _ w1 O1 O2 k1 (r1.mono l1) z2
          exact ⟨w2, l1.trans l2, k2, .cons (q1.mono l2) q2⟩
theorem frzT_ok (hf : FrzS ca H f) : ∀ (ds ds' : List (List Key × D)) (vs : List (List Key × V)) (w : Wd) (O O' : Sto), Ok ca w O H → RepT ca w vs ds → frzPs f ds O = some (ds', O') → ∃ w', w.le w' ∧ Ok ca w' O' H ∧ RepT ca w' vs ds'
  | [], ds', vs, w, O, O', k, r, h => by
    cases h
    exact ⟨w, Wd.le.refl w, k, r⟩
  | (key, d) :: ds, ds', vs, w, O, O', k, r, h => by
    cases r with
    | cons h1 r1 =>
      unfold frzPs at h
      cases z : f d O with
      | none => rw [z] at h; cases h
      | some p =>
        obtain ⟨d1, O1⟩ := p
        rw [z] at h
        obtain ⟨w1, l1, k1, q1⟩ := hf w O O1 _ d d1 k h1 z
        dsimp only [Option.bind] at h
        cases z2 : frzPs f ds O1 with
        | none => rw [z2] at h; cases h
        | some q =>
          obtain ⟨ds1, O2⟩ := q
          rw [z2] at h
          cases h
          obtain ⟨w2, l2, k2, q2⟩ := frzT_ok hf ds ds1 _ w1 O1 O2 k1 (r1.mono l1) z2
          exact ⟨w2, l1.trans l2, k2, .cons (q1.mono l2) q2⟩
theorem frzF_ok (hf : FrzS ca H f) : ∀ (ds ds' : List (Str × D)) (vs : List (Str × V)) (w : Wd) (O O' : Sto), Ok ca w O H → RepF ca w vs ds → frzPs f ds O = some (ds', O') → ∃ w', w.le w' ∧ Ok ca w' O' H ∧ RepF ca w' vs ds'
  | [], ds', vs, w, O, O', k, r, h => by
    cases h
    exact ⟨w, Wd.le.refl w, k, r⟩
  | (key, d) :: ds, ds', vs, w, O, O', k, r, h => by
    cases r with
    | cons h1 r1 =>
      unfold frzPs at h
      cases z : f d O with
      | none => rw [z] at h; cases h
      | some p =>
        obtain ⟨d1, O1⟩ := p
        rw [z] at h
        obtain ⟨w1, l1, k1, q1⟩ := hf w O O1 _ d d1 k h1 z
        dsimp only [Option.bind] at h
        cases z2 : frzPs f ds O1 with
        | none => rw [z2] at h; cases h
        | some q =>
          obtain ⟨ds1, O2⟩ := q
          rw [z2] at h
          cases h
          obtain ⟨w2, l2, k2, q2⟩ := frzF_ok hf ds ds1 _ w1 O1 O2 k1 (r1.mono l1) z2
          exact ⟨w2, l1.trans l2, k2, .cons (q1.mono l2) q2⟩
theorem frzD_ok (ca : Cn) (H : Hp) : ∀ n, FrzS ca H (frzD n)
  | 0 => fun w O O' v d d' k r h => frz1_ok k r h
  | n + 1 => fun w O O' v d d' k r h => by
    unfold frzD at h
    cases z : frz1 d O with
    | none => rw [z] at h; cases h
    | some p =>
      obtain ⟨d1, O1⟩ := p
      rw [z] at h
      obtain ⟨w1, l1, k1, r1⟩ := frz1_ok k r z
      dsimp only [Option.bind] at h
      split at h
      · rename_i ds
        cases z2 : frzLs (frzD n) ds O1 with
        | none => rw [z2] at h; cases h
        | some q =>
          rw [z2] at h
          cases h
          cases r1 with
          | lst hF rl =>
            obtain ⟨w2, l2, k2, q2⟩ := frzLs_ok (frzD_ok ca H n) ds q.1 _ w1 O1 q.2 k1 rl z2
            exact ⟨w2, l1.trans l2, k2, .lst (l2.F _ _ hF) q2⟩
      · rename_i ds
        cases z2 : frzLs (frzD n) ds O1 with
        | none => rw [z2] at h; cases h
        | some q =>
          rw [z2] at h
          cases h
          cases r1 with
          | tup hF rl =>
            obtain ⟨w2, l2, k2, q2⟩ := frzLs_ok (frzD_ok ca H n) ds q.1 _ w1 O1 q.2 k1 rl z2
            exact ⟨w2, l1.trans l2, k2, .tup (l2.F _ _ hF) q2⟩
      · rename_i ds
        cases z2 : frzPs (frzD n) ds O1 with
        | none => rw [z2] at h; cases h
        | some q =>
          rw [z2] at h
          cases h
          cases r1 with
          | dic hF rl =>
            obtain ⟨w2, l2, k2, q2⟩ := frzK_ok (frzD_ok ca H n) ds q.1 _ w1 O1 q.2 k1 rl z2
            exact ⟨w2, l1.trans l2, k2, .dic (l2.F _ _ hF) q2⟩
      · rename_i ds
        cases z2 : frzPs (frzD n) ds O1 with
        | none => rw [z2] at h; cases h
        | some q =>
          rw [z2] at h
          cases h
          cases r1 with
          | dit hF rl =>
            obtain ⟨w2, l2, k2, q2⟩ := frzT_ok (frzD_ok ca H n) ds q.1 _ w1 O1 q.2 k1 rl z2
            exact ⟨w2, l1.trans l2, k2, .dit (l2.F _ _ hF) q2⟩
      · rename_i c ds
        cases z2 : frzPs (frzD n) ds O1 with
        | none => rw [z2] at h; cases h
        | some q =>
          rw [z2] at h
          cases h
          cases r1 with
          | obj hF hc rl =>
            obtain ⟨w2, l2, k2, q2⟩ := frzF_ok (frzD_ok ca H n) ds q.1 _ w1 O1 q.2 k1 rl z2
            exact ⟨w2, l1.trans l2, k2, .obj (l2.F _ _ hF) hc q2⟩
      · cases h
        exact ⟨w1, l1, k1, r1⟩
end
def dFrzN (n : Nat) (m : DTE) : DTE := fun ρ O => (m ρ O).bind fun d O1 => match frzD n d O1 with
  | some (d', O2) => .ok d' O2
  | none => .stuck
section
variable {ca : Cn} {W : WX} {X : Cx} {e : Expr} {m : DTE}
theorem de_frzN (n : Nat) (h : DE ca W X e m) : DE ca W X e (dFrzN n m) := by
  obtain ⟨t, pt, sp⟩ := h
  refine ⟨t, pt, fun w O H σ ρ Q k re h => ?_⟩
  refine sp w O H σ ρ _ k re (Post.bind h fun d O1 v w1 H1 l1 k1 r1 h1 => ?_)
  cases z : frzD n d O1 with
  | none => rw [z] at h1; exact h1.elim
  | some p =>
    obtain ⟨d', O2⟩ := p
    rw [z] at h1
    obtain ⟨w2, l2, k2, r2⟩ := frzD_ok ca H1 n w1 O1 O2 v d d' k1 r1 z
    exact h1 v w2 H1 l2 k2 r2
end
end Yk

set_option Elab.async false
set_option linter.all false
set_option maxRecDepth 100000
set_option maxHeartbeats 2000000
/-! YlS: for the plain laws: typed data, loops as folds over typed lists, what a call leaves. -/
namespace Yk
open PySem PySem.Spec PyProof.Rows L2
/-! ### no loc beyond -/
section
variable {n : Nat}
theorem bw_non : Below n .non ↔ True := ⟨fun _ => trivial, fun _ => .non⟩
theorem bw_bl {b : Bool} : Below n (.bl b) ↔ True := ⟨fun _ => trivial, fun _ => .bl b⟩
theorem bw_int {b : Int} : Below n (.int b) ↔ True := ⟨fun _ => trivial, fun _ => .int b⟩
theorem bw_str {b : Str} : Below n (.str b) ↔ True := ⟨fun _ => trivial, fun _ => .str b⟩
theorem bw_scr {b : List Int} : Below n (.scr b) ↔ True := ⟨fun _ => trivial, fun _ => .scr b⟩
theorem bw_ty {b : String} : Below n (.ty b) ↔ True := ⟨fun _ => trivial, fun _ => .ty b⟩
theorem bw_cls {b : Str} : Below n (.cls b) ↔ True := ⟨fun _ => trivial, fun _ => .cls b⟩
theorem bw_lst {ds : List D} : Below n (.lst ds) ↔ BelowL n ds := ⟨fun h => by cases h; assumption, .lst⟩
theorem bw_tup {ds : List D} : Below n (.tup ds) ↔ BelowL n ds := ⟨fun h => by cases h; assumption, .tup⟩
theorem bw_dic {ds : List (Key × D)} : Below n (.dic ds) ↔ BelowK n ds := ⟨fun h => by cases h; assumption, .dic⟩
theorem bw_dit {ds : List (List Key × D)} : Below n (.dit ds) ↔ BelowT n ds := ⟨fun h => by cases h; assumption, .dit⟩
theorem bw_obj {c : Str} {ds : List (Str × D)} : Below n (.obj c ds) ↔ BelowF n ds := ⟨fun h => by cases h; assumption, .obj⟩
theorem bw_clo {c : Str} {ds : List D} : Below n (.clo c ds) ↔ BelowL n ds := ⟨fun h => by cases h; assumption, .clo⟩
theorem bw_loc {m : Nat} : Below n (.loc m) ↔ m < n := ⟨fun h => by cases h; assumption, .loc⟩
theorem bwL {ds : List D} : BelowL n ds ↔ ∀ d ∈ ds, Below n d := by
  induction ds with
  | nil => exact ⟨fun _ _ h => (nomatch h), fun _ => .nil⟩
  | cons d ds ih =>
    refine ⟨fun h => ?_, fun h => .cons (h d (List.mem_cons_self ..)) (ih.mpr fun x hx => h x (List.mem_cons_of_mem _ hx))⟩
    cases h with
    | cons h r =>
      intro x hx
      rcases List.mem_cons.mp hx with rfl | hx
      · exact h
      · exact ih.mp r x hx
theorem bwK {ds : List (Key × D)} : BelowK n ds ↔ ∀ d ∈ ds, Below n d.2 := by
  induction ds with
  | nil => exact ⟨fun _ _ h => (nomatch h), fun _ => .nil⟩
  | cons d ds ih =>
    obtain ⟨k, d⟩ := d
    refine ⟨fun h => ?_, fun h => .cons (h (k, d) (List.mem_cons_self ..)) (ih.mpr fun x hx => h x (List.mem_cons_of_mem _ hx))⟩
    cases h with
    | cons h r =>
      intro x hx
      rcases List.mem_cons.mp hx with rfl | hx
      · exact h
      · exact ih.mp r x hx
theorem bwT {ds : List (List Key × D)} : BelowT n ds ↔ ∀ d ∈ ds, Below n d.2 := by
  induction ds with
  | nil => exact ⟨fun _ _ h => (nomatch h), fun _ => .nil⟩
  | cons d ds ih =>
    obtain ⟨k, d⟩ := d
    refine ⟨fun h => ?_, fun h => .cons (h (k, d) (List.mem_cons_self ..)) (ih.mpr fun x hx => h x (List.mem_cons_of_mem _ hx))⟩
    cases h with
    | cons h r =>
      intro x hx
      rcases List.mem_cons.mp hx with rfl | hx
      · exact h
      · exact ih.mp r x hx
theorem bwF_nil : BelowF n [] ↔ True := ⟨fun _ => trivial, fun _ => .nil⟩
theorem bwF_cons {k : Str} {d : D} {ds : List (Str × D)} : BelowF n ((k, d) :: ds) ↔ Below n d ∧ BelowF n ds := ⟨fun h => by cases h with | cons h r => exact ⟨h, r⟩, fun h => .cons h.1 h.2⟩
theorem bwL_nil : BelowL n [] ↔ True := ⟨fun _ => trivial, fun _ => .nil⟩
theorem bwL_cons {d : D} {ds : List D} : BelowL n (d :: ds) ↔ Below n d ∧ BelowL n ds := ⟨fun h => by cases h with | cons h r => exact ⟨h, r⟩, fun h => .cons h.1 h.2⟩
theorem bwL_app {a b : List D} : BelowL n (a ++ b) ↔ BelowL n a ∧ BelowL n b := by
  rw [bwL, bwL, bwL]
  simp only [List.mem_append]
  exact ⟨fun h => ⟨fun d hd => h d (.inl hd), fun d hd => h d (.inr hd)⟩, fun h d hd => hd.elim (h.1 d) (h.2 d)⟩
theorem bwL_map {β : Type} {e : β → D} (h : ∀ b, Below n (e b)) {bs : List β} : BelowL n (bs.map e) := bwL.mpr fun d hd => by
  obtain ⟨b, _, rfl⟩ := List.mem_map.mp hd
  exact h b
end
/-! ### typed data -/
class En (α : Type) where
  e : α → D
  dec : DecidableEq α
  bl : ∀ n a, Below n (e a)
  dq : ∀ n a b, deqN (n + 8) (e a) (e b) = some (decide (a = b))
  fl : ∀ O a, look O (e a) = e a
@[reducible] instance enDec {α : Type} [E : En α] : DecidableEq α := E.dec
instance enStr : En Str where
  e := .str
  dec := inferInstance
  bl := fun n a => .str a
  dq := fun n a b => by
    show some (a == b) = _
    by_cases h : a = b <;> simp [h]
  fl := fun _ _ => rfl
instance enInt : En Int where
  e := .int
  dec := inferInstance
  bl := fun n a => .int a
  dq := fun n a b => by
    show some (a == b) = _
    by_cases h : a = b <;> simp [h]
  fl := fun _ _ => rfl
theorem deqL_strs (n : Nat) : ∀ (xs ys : List Str), deqL (deqN (n + 1)) (xs.map .str) (ys.map .str) = some (decide (xs.take ys.length = ys.take xs.length))
  | [], ys => by simp [deqL]
  | _ :: _, [] => by simp [deqL]
  | x :: xs, y :: ys => by
    show (match deqN (n + 1) (.str x) (.str y), deqL (deqN (n + 1)) (xs.map .str) (ys.map .str) with
      | some a, some b => some (a && b)
      | _, _ => none) = _
    rw [deqL_strs n xs ys]
    show some ((x == y) && decide (xs.take ys.length = ys.take xs.length)) = _
    by_cases h : x = y <;> simp [h]
/-- a tuple of texts -/
abbrev tS (l : List Str) : D := .tup (l.map .str)
theorem deq_tS (n : Nat) (a b : List Str) : deqN (n + 2) (tS a) (tS b) = some (decide (a = b)) := by
  show (deqL (deqN (n + 1)) (a.map .str) (b.map .str)).map (fun c => c && decide ((a.map D.str).length = (b.map D.str).length)) = _
  rw [deqL_strs]
  simp only [Option.map_some, List.length_map, Option.some.injEq]
  by_cases h : a = b
  · subst h; simp
  · have : ¬ (a.take b.length = b.take a.length ∧ a.length = b.length) := fun ⟨h1, h2⟩ => by
      rw [← h2, List.take_length, h2, List.take_length] at h1
      exact h h1
    rw [decide_eq_false h]
    rw [Bool.and_eq_false_iff]
    by_cases h1 : a.take b.length = b.take a.length
    · exact .inr (decide_eq_false fun h2 => this ⟨h1, h2⟩)
    · exact .inl (decide_eq_false h1)
theorem bl_tS (n : Nat) (a : List Str) : Below n (tS a) := .tup (bwL_map fun s => .str s)
instance enP : En (Str × Str) where
  e := fun p => tS [p.1, p.2]
  dec := inferInstance
  bl := fun n a => bl_tS n _
  dq := fun n a b => by
    rw [show n + 8 = (n + 6) + 2 from rfl, deq_tS]
    obtain ⟨a1, a2⟩ := a
    obtain ⟨b1, b2⟩ := b
    simp
  fl := fun _ _ => rfl
instance enT : En (Str × Str × Str) where
  e := fun p => tS [p.1, p.2.1, p.2.2]
  dec := inferInstance
  bl := fun n a => bl_tS n _
  dq := fun n a b => by
    rw [show n + 8 = (n + 6) + 2 from rfl, deq_tS]
    obtain ⟨a1, a2, a3⟩ := a
    obtain ⟨b1, b2, b3⟩ := b
    simp
  fl := fun _ _ => rfl
instance enQ : En (Str × Str × Str × Str) where
  e := fun p => tS [p.1, p.2.1, p.2.2.1, p.2.2.2]
  dec := inferInstance
  bl := fun n a => bl_tS n _
  dq := fun n a b => by
    rw [show n + 8 = (n + 6) + 2 from rfl, deq_tS]
    obtain ⟨a1, a2, a3, a4⟩ := a
    obtain ⟨b1, b2, b3, b4⟩ := b
    simp
  fl := fun _ _ => rfl
instance enJ : En ((Str × Str) × (Str × Str)) where
  e := fun p => .tup [En.e p.1, En.e p.2]
  dec := inferInstance
  bl := fun n a => .tup (.cons (En.bl _ _) (.cons (En.bl _ _) .nil))
  dq := fun n a b => by
    have one : ∀ x y : Str × Str, deqN (n + 7) (En.e x) (En.e y) = some (decide (x = y)) := fun x y => by
      show deqN (n + 7) (tS [x.1, x.2]) (tS [y.1, y.2]) = _
      rw [show n + 7 = (n + 5) + 2 from rfl, deq_tS]
      obtain ⟨a1, a2⟩ := x
      obtain ⟨b1, b2⟩ := y
      simp
    show (deqL (deqN (n + 7)) [En.e a.1, En.e a.2] [En.e b.1, En.e b.2]).map (fun c => c && decide (([En.e a.1, En.e a.2] : List D).length = [En.e b.1, En.e b.2].length)) = _
    obtain ⟨a1, a2⟩ := a
    obtain ⟨b1, b2⟩ := b
    simp only [deqL, one, Option.map_some, List.length_cons, List.length_nil, decide_true, Bool.and_true, Option.some.injEq, Prod.mk.injEq]
    by_cases h1 : a1 = b1 <;> by_cases h2 : a2 = b2 <;> simp [h1, h2]
  fl := fun _ _ => rfl
section
variable {α : Type} [En α] {O : Sto}
theorem eq_en (a b : α) : fEq (En.e a) (En.e b) O = .ok (.bl (decide (a = b))) O := by unfold fEq; rw [En.fl, En.fl, En.dq 52]
theorem ne_en (a b : α) : fNe (En.e a) (En.e b) O = .ok (.bl (!decide (a = b))) O := by unfold fNe; rw [En.fl, En.fl, En.dq 52]
theorem deqL_en (n : Nat) : ∀ (xs ys : List α), deqL (deqN (n + 8)) (xs.map En.e) (ys.map En.e) = some (decide (xs.take ys.length = ys.take xs.length))
  | [], ys => by simp [deqL]
  | _ :: _, [] => by simp [deqL]
  | x :: xs, y :: ys => by
    show (match deqN (n + 8) (En.e x) (En.e y), deqL (deqN (n + 8)) (xs.map En.e) (ys.map En.e) with
      | some a, some b => some (a && b)
      | _, _ => none) = _
    rw [deqL_en n xs ys, En.dq]
    by_cases h : x = y <;> simp [h]
theorem dq_lst (n : Nat) (a b : List α) : deqN (n + 9) (.lst (a.map En.e)) (.lst (b.map En.e)) = some (decide (a = b)) := by
  show (if (a.map (En.e (α := α))).length = (b.map En.e).length then deqL (deqN (n + 8)) (a.map En.e) (b.map En.e) else some false) = _
  rw [List.length_map, List.length_map]
  by_cases h : a.length = b.length
  · rw [if_pos h, deqL_en, ← h, List.take_length, h, List.take_length]
  · rw [if_neg h, decide_eq_false fun e => h (by rw [e])]
theorem eq_lst (a b : List α) : fEq (.lst (a.map En.e)) (.lst (b.map En.e)) O = .ok (.bl (decide (a = b))) O := by
  unfold fEq
  show (match deqN 60 (.lst (a.map En.e)) (.lst (b.map En.e)) with | some b => Res.ok (.bl b) O | none => .stuck) = _
  rw [dq_lst 51]
theorem ne_lst (a b : List α) : fNe (.lst (a.map En.e)) (.lst (b.map En.e)) O = .ok (.bl (!decide (a = b))) O := by
  unfold fNe
  show (match deqN 60 (.lst (a.map En.e)) (.lst (b.map En.e)) with | some b => Res.ok (.bl (!b)) O | none => .stuck) = _
  rw [dq_lst 51]
theorem anyEq_en (x : α) : ∀ ds : List α, anyEq (En.e x) (ds.map En.e) = some (decide (x ∈ ds))
  | [] => by simp [anyEq]
  | d :: ds => by
    show (match deqN 40 (En.e d) (En.e x), anyEq (En.e x) (ds.map En.e) with
      | some a, some b => some (a || b)
      | _, _ => none) = _
    rw [anyEq_en x ds, En.dq 32]
    by_cases h : d = x
    · simp [h]
    · have : ¬ x = d := fun e => h e.symm
      simp [h, this]
theorem any_en (neg : Bool) (x : α) (ds : List α) : fAny neg (En.e x) (.lst (ds.map En.e)) O = .ok (.bl (if neg then !decide (x ∈ ds) else decide (x ∈ ds))) O := by
  show (match anyEq (En.e x) (ds.map En.e) with
    | some b => Res.ok (.bl (if neg then !b else b)) O
    | none => .stuck) = _
  rw [anyEq_en]
theorem below_en {n : Nat} {ds : List α} : BelowL n (ds.map En.e) := bwL_map fun a => En.bl n a
end
theorem inRes_str (s : Str) (l : List Str) {d : D} {O : Sto} (h : look O d = .lst (l.map .str)) : inRes (.str s) d O = some (decide (s ∈ l)) := by
  unfold inRes dGetD
  rw [h]
  dsimp only
  rw [if_pos ⟨rfl, by simp [flatD]⟩]
  congr 1
  unfold inD
  clear h
  induction l with
  | nil => rfl
  | cons a l ih =>
    have e : eqF (D.str a) (D.str s) = (a == s) := rfl
    rw [List.map_cons, List.any_cons, e, ih]
    by_cases q : a = s
    · simp [q]
    · have : ¬ s = a := fun e => q e.symm
      simp [q, this]
theorem in_strs (s : Str) (l : List Str) {O : Sto} : fIn (.str s) (.lst (l.map .str)) O = .ok (.bl (decide (s ∈ l))) O := by unfold fIn; rw [inRes_str s l rfl]
theorem notin_strs (s : Str) (l : List Str) {O : Sto} : fNotIn (.str s) (.lst (l.map .str)) O = .ok (.bl (!decide (s ∈ l))) O := by unfold fNotIn; rw [inRes_str s l rfl]
theorem ixI {ds : List D} {i : Int} {d : D} {O : Sto} (h0 : 0 ≤ i) (h : ds[i.toNat]? = some d) : fIx (.lst ds) (.int i) O = .ok d O := by
  have hl := (List.getElem?_eq_some_iff.mp h).1
  exact ix_lst (by rw [atI_int h0 (by omega)]; exact h)
theorem ix_neg1 {ds : List D} {d : D} {O : Sto} (h : ds.getLast? = some d) : fIx (.lst ds) (.int (-1)) O = .ok d O := by
  cases ds with
  | nil => cases h
  | cons x xs =>
    refine ix_lst ?_
    unfold atI ixN
    rw [if_neg (by omega), if_pos (by simp; omega)]
    rw [List.getLast?_eq_getElem?] at h
    show (x :: xs)[((-1 : Int) + ((x :: xs).length : Nat)).toNat]? = some d
    rw [← h]
    congr 1
    simp only [List.length_cons]
    omega
/-! ### what a call leaves -/
section
variable {N : List Str} {b : DTS} {args : List D} {O G O' : Sto} {d : D}
theorem fn_app (h : (b (startD N.length args) O).res = .ok d (O ++ G)) (hb : Below O.length d) : mFn N b args O = .ok d O := by
  unfold mFn
  rw [h]
  exact trim_app hb
theorem fn_same (h : (b (startD N.length args) O).res = .ok d O) (hb : Below O.length d) : mFn N b args O = .ok d O := by
  unfold mFn
  rw [h]
  exact trim_same hb
/-- .. the store changed where it stood, and longer -/
theorem fn_set (h : (b (startD N.length args) O).res = .ok d (O' ++ G)) (hl : O'.length = O.length) (hk : ∀ (i : Nat) (o : OD), i < O.length → O'[i]? = some o → O[i]? = some o ∨ BelowO O.length o) (hb : Below O.length d) : mFn N b args O = .ok d O' := by
  unfold mFn
  rw [h]
  unfold trimR
  dsimp only
  rw [if_pos ⟨hb, by simp; omega, fun i o hi e => hk i o hi (by rwa [List.getElem?_append_left (by omega)] at e)⟩, ← hl, List.take_left]
theorem fn_exc {c : Str} {fs : List (Str × D)} (h : (b (startD N.length args) O).res = .exc c fs (O ++ G)) (hb : BelowF O.length fs) : mFn N b args O = .exc c fs O := by
  unfold mFn
  rw [h]
  exact trim_excA hb
end
/-! ### loops over typed lists -/
inductive Lp (α : Type) where
  | go (a : α) | brk (a : α) | ret (a : α) (d : D) | exc (a : α) (c : Str) (fs : List (Str × D))
def runT {α β : Type} (f : α → β → Lp α) : List β → α → Lp α
  | [], a => .go a
  | u :: us, a => match f a u with
    | .go a' => runT f us a'
    | .brk a' => .brk a'
    | .ret a' d => .ret a' d
    | .exc a' c fs => .exc a' c fs
def LpOk {α : Type} (E : α → Env' → Sto → Prop) (r : Lp α) (o : Out) : Prop := match r with
  | .go a => ∃ ρ O, o = .nx ρ O ∧ E a ρ O
  | .brk a => ∃ ρ O, o = .nx ρ O ∧ E a ρ O
  | .ret a d => ∃ ρ O, o = .rt d O ∧ E a ρ O
  | .exc a c fs => ∃ ρ O, o = .exc c fs ρ O ∧ E a ρ O
def BdOk {α : Type} (E : α → Env' → Sto → Prop) (r : Lp α) (o : Out) : Prop := match r with
  | .go a => ∃ ρ O, (o = .nx ρ O ∨ o = .ct ρ O) ∧ E a ρ O
  | .brk a => ∃ ρ O, o = .bk ρ O ∧ E a ρ O
  | .ret a d => ∃ ρ O, o = .rt d O ∧ E a ρ O
  | .exc a c fs => ∃ ρ O, o = .exc c fs ρ O ∧ E a ρ O
theorem forL_T {α β : Type} {items : List D} {lk : Option (Nat × OD)} {g : DTG} {body : DTS} (enc : β → D) (f : α → β → Lp α) (E : α → Env' → Sto → Prop) (P : List β → α → Prop)
    (hs : ∀ a ρ O, E a ρ O → Still lk O)
    (step : ∀ u us a ρ O, P (u :: us) a → E a ρ O → ∃ ρ1, g (enc u) ρ = some ρ1 ∧ BdOk E (f a u) (body ρ1 O) ∧ ∀ a', f a u = .go a' → P us a') :
    ∀ (us : List β) (a : α) (ρ : Env') (O : Sto), P us a → E a ρ O → LpOk E (runT f us a) (forL items lk g body (us.map enc) ρ O)
  | [], a, ρ, O, hp, he => ⟨ρ, O, forL_nil (hs a ρ O he), he⟩
  | u :: us, a, ρ, O, hp, he => by
    obtain ⟨ρ1, e1, hb, hp'⟩ := step u us a ρ O hp he
    have st := hs a ρ O he
    rw [List.map_cons]
    unfold runT
    cases z : f a u with
    | go a' =>
      rw [z] at hb
      obtain ⟨ρ2, O2, e2, he2⟩ := hb
      have ih := forL_T (items := items) (lk := lk) (g := g) (body := body) enc f E P hs step us a' ρ2 O2 (hp' a' z) he2
      rcases e2 with e2 | e2
      · rw [forL_nx st e1 e2]; exact ih
      · rw [forL_ct st e1 e2]; exact ih
    | brk a' =>
      rw [z] at hb
      obtain ⟨ρ2, O2, e2, he2⟩ := hb
      exact ⟨ρ2, O2, forL_bk st e1 e2, he2⟩
    | ret a' d =>
      rw [z] at hb
      obtain ⟨ρ2, O2, e2, he2⟩ := hb
      exact ⟨ρ2, O2, forL_rt st e1 e2, he2⟩
    | exc a' c fs =>
      rw [z] at hb
      obtain ⟨ρ2, O2, e2, he2⟩ := hb
      exact ⟨ρ2, O2, forL_exc st e1 e2, he2⟩
/-- a loop that goes through -/
theorem forL_F {α β : Type} {items : List D} {lk : Option (Nat × OD)} {g : DTG} {body : DTS} (enc : β → D) (f : α → β → α) (E : α → Env' → Sto → Prop) (P : List β → α → Prop)
    (hs : ∀ a ρ O, E a ρ O → Still lk O)
    (step : ∀ u us a ρ O, P (u :: us) a → E a ρ O → (∃ ρ1, g (enc u) ρ = some ρ1 ∧ ∃ ρ2 O2, (body ρ1 O = .nx ρ2 O2 ∨ body ρ1 O = .ct ρ2 O2) ∧ E (f a u) ρ2 O2) ∧ P us (f a u))
    (us : List β) (a : α) (ρ : Env') (O : Sto) (hp : P us a) (he : E a ρ O) : ∃ ρ' O', forL items lk g body (us.map enc) ρ O = .nx ρ' O' ∧ E (us.foldl f a) ρ' O' ∧ P [] (us.foldl f a) := by
  induction us generalizing a ρ O with
  | nil => exact ⟨ρ, O, forL_nil (hs a ρ O he), he, hp⟩
  | cons u us ih =>
    obtain ⟨⟨ρ1, e1, ρ2, O2, e2, he2⟩, hp2⟩ := step u us a ρ O hp he
    obtain ⟨ρ', O', e3, h3⟩ := ih (f a u) ρ2 O2 hp2 he2
    refine ⟨ρ', O', ?_, h3⟩
    rw [List.map_cons]
    rcases e2 with e2 | e2
    · rw [forL_nx (hs a ρ O he) e1 e2]; exact e3
    · rw [forL_ct (hs a ρ O he) e1 e2]; exact e3
/-- a comprehension over a typed list -/
theorem compL_T {β : Type} {items : List D} {lk : Option (Nat × OD)} {g : DTG} {tst : DTT} {elt : DTE} {ρ : Env'} {O : Sto} (hs : Still lk O) (enc : β → D) (t : β → Bool) (h : β → D) :
    ∀ (us : List β) (acc : List D), (∀ u ∈ us, ∃ ρ1, g (enc u) ρ = some ρ1 ∧ tst ρ1 O = .ok (t u) O ∧ (t u = true → elt ρ1 O = .ok (h u) O)) → acc.length + us.length ≤ 1000000 →
      compL items lk g tst elt ρ (us.map enc) acc O = .ok (acc ++ (us.filter t).map h) O
  | [], acc, _, _ => by
    show compL items lk g tst elt ρ [] acc O = _
    unfold compL
    rw [if_pos hs]
    simp
  | u :: us, acc, hh, hl => by
    obtain ⟨ρ1, e1, e2, e3⟩ := hh u (List.mem_cons_self ..)
    simp only [List.length_cons] at hl
    rw [List.map_cons]
    unfold compL
    rw [if_pos hs, e1]
    dsimp only
    rw [e2]
    cases q : t u with
    | true =>
      dsimp only
      rw [e3 q]
      dsimp only
      rw [if_pos (by omega), compL_T hs enc t h us (acc ++ [h u]) (fun y hy => hh y (List.mem_cons_of_mem _ hy)) (by simp; omega)]
      simp [q]
    | false =>
      dsimp only
      rw [compL_T hs enc t h us acc (fun y hy => hh y (List.mem_cons_of_mem _ hy)) (by omega)]
      simp [q]
theorem lc_T {β : Type} {own : Bool} {vs : List Nat} {src : DTI} {g : DTG} {tst : DTT} {elt : DTE} {ρ : Env'} {O O1 : Sto} {lk : Option (Nat × OD)} (enc : β → D) (t : β → Bool) (h : β → D) (us : List β) (hsrc : src ρ O = .ok (us.map enc) lk O1) (hs : Still lk O1)
    (hh : ∀ u ∈ us, ∃ ρ1, g (enc u) (wipeD ρ vs) = some ρ1 ∧ tst ρ1 O1 = .ok (t u) O1 ∧ (t u = true → elt ρ1 O1 = .ok (h u) O1)) (hl : us.length ≤ 1000000) : dLc own vs src g tst elt ρ O = mkL own ((us.filter t).map h) O1 := by
  rw [ap_lc, hsrc, ibindL_ok]
  have := compL_T (items := us.map enc) (lk := lk) (g := g) (tst := tst) (elt := elt) (ρ := wipeD ρ vs) hs enc t h us [] hh (by simpa using hl)
  rw [this]
  rfl
/-- .. without a test -/
theorem lc_M {β : Type} {own : Bool} {vs : List Nat} {src : DTI} {g : DTG} {elt : DTE} {ρ : Env'} {O O1 : Sto} {lk : Option (Nat × OD)} (enc : β → D) (h : β → D) (us : List β) (hsrc : src ρ O = .ok (us.map enc) lk O1) (hs : Still lk O1)
    (hh : ∀ u ∈ us, ∃ ρ1, g (enc u) (wipeD ρ vs) = some ρ1 ∧ elt ρ1 O1 = .ok (h u) O1) (hl : us.length ≤ 1000000) : dLc own vs src g dYes elt ρ O = mkL own (us.map h) O1 := by
  have := lc_T (own := own) (vs := vs) (src := src) (g := g) (tst := dYes) (elt := elt) (ρ := ρ) (O := O) enc (fun _ => true) h us hsrc hs (fun u hu => by
    obtain ⟨ρ1, e1, e2⟩ := hh u hu
    exact ⟨ρ1, e1, rfl, fun _ => e2⟩) hl
  rw [this, List.filter_eq_self.mpr fun _ _ => rfl]
theorem enum_map {β : Type} (enc : β → D) (us : List β) : enumD (us.map enc) = us.zipIdx.map fun p => .tup [.int (p.2 : Int), enc p.1] := by
  unfold enumD
  have : ∀ (us : List β) (n : Nat), ((us.map enc).zipIdx n).map (fun p => D.tup [.int (p.2 : Int), p.1]) = (us.zipIdx n).map fun p => .tup [.int (p.2 : Int), enc p.1] := fun us => by
    induction us with
    | nil => exact fun _ => rfl
    | cons u us ih => intro n; rw [List.map_cons, List.zipIdx_cons, List.zipIdx_cons, List.map_cons, List.map_cons, ih]
  exact this us 0
theorem rng_map (n : Nat) : rangeD 0 n = (List.range n).map fun (i : Nat) => D.int (i : Int) := List.map_congr_left fun i _ => congrArg D.int (Int.zero_add _)
/-! ### a, b = xs, a list -/
def gTL (gs : DTGs) : DTG := fun d ρ => match d with
  | .lst ds => gs ds ρ
  | _ => none
theorem dg_lst {ca : Cn} {X : Cx} {es : List Expr} {gs : DTGs} {pos : Pos} {x1 : Nat} (hc : X.calm = true) (h : DGs ca X es gs) (hK : ca.K = X.K := by rfl) (hn : (assignEach es X.env).length = es.length := by rfl) (hst : (assignEach es X.env).findIdx? (·.1) = none := by rfl) : DG ca X (.Tuple es x1 pos) (gTL gs) := by
  obtain ⟨u, pu, lu, su⟩ := h
  refine ⟨_, pg_lst (n := es.length) hc pu hn hst, fun w O H σ ρ v d ρ' Q k re r e h => ?_⟩
  unfold gTL at e
  split at e
  · rename_i ds
    cases r with
    | lst hF rl =>
      exact ⟨_, _, rfl, hK ▸ .inl (.inl (k.ext.lst hF)), rl.length.trans (lu _ _ _ e), su w O H σ ρ _ _ ρ' Q k re rl e h⟩
  · cases e
theorem gTL_ap {g : DTGs} {ds : List D} {ρ : Env'} : gTL g (.lst ds) ρ = g ds ρ := Eq.trans rfl rfl
end Yk

set_option Elab.async false
set_option linter.all false
set_option maxRecDepth 100000
set_option maxHeartbeats 4000000
namespace Lw
open PySem L2 Yk
def top (i : Nat) : Stmt := PySem.Challenge.pw_yardkeep_k41_rules_of_a_route.main.body.getD i (.Pass ⟨0, 0, 0, 0⟩)
def ctop (i j : Nat) : Stmt := (clsBody (top i)).getD j (.Pass ⟨0, 0, 0, 0⟩)
abbrev fc_lie_of : List Str := ["Ground"]
abbrev fc_path_of : List Str := ["Ground"]
abbrev fc_stiff_ones : List Str := ["Ground"]
abbrev fc_told : List Str := ["Ground"]
def xT : List (Str × Str × Bool) := []
def xisT : XTab := ⟨[], []⟩
def isT : List (Str × Str × Bool) := []
def exK (K : PySem.W.Frag) : Bool := isB isT K
abbrev s_not_stiff : Stmt := top 6
abbrev s_lying_so : Stmt := top 7
abbrev s_not_held : Stmt := top 4
abbrev s_not_taken : Stmt := top 5
abbrev s__law_cell : Stmt := top 12
abbrev N__law_cell : List Str := ["_law_script", "_law_k"]
theorem sc__law_cell : FnScope N__law_cell ["_law_script", "_law_k"] (defScope s__law_cell) := ⟨rfl, rfl, rfl, by decide +kernel, rfl, by decide +kernel, by decide +kernel⟩
noncomputable def b__law_cell : DTS := (dSeq (dIf (dVal (dOp fLt (dVar 1) (dCB fLen (dCons (dVar 0) dNil))))
  (dRet (dOp fIx (dVar 0) (dVar 1)))
  dSkip)
  (dRet (dC (.int 0))))
noncomputable def m__law_cell : List D → Sto → Res := mFn N__law_cell b__law_cell
abbrev s__law_fields : Stmt := top 25
abbrev N__law_fields : List Str := ["_law_ground_here"]
theorem sc__law_fields : FnScope N__law_fields ["_law_ground_here"] (defScope s__law_fields) := ⟨rfl, rfl, rfl, by decide +kernel, rfl, by decide +kernel, by decide +kernel⟩
noncomputable def b__law_fields : DTS := (dRet (dLst false (dCons (dUn (fFld fc_lie_of "lie_of") (dVar 0)) (dCons (dUn (fFld fc_stiff_ones "stiff_ones") (dVar 0)) (dCons (dUn (fFld fc_path_of "path_of") (dVar 0)) (dCons (dUn (fFld fc_told "told") (dVar 0)) dNil))))))
noncomputable def m__law_fields : List D → Sto → Res := mFn N__law_fields b__law_fields
abbrev s__law_mixed : Stmt := top 13
abbrev N__law_mixed : List Str := ["_law_script", "_law_k", "_law_cell_here", "_law_number"]
theorem sc__law_mixed : FnScope N__law_mixed ["_law_script", "_law_k"] (defScope s__law_mixed) := ⟨rfl, rfl, rfl, by decide +kernel, rfl, by decide +kernel, by decide +kernel⟩
noncomputable def r1__law_mixed : DTS := (dSeq (dSet 3 (dOp fMod (dOp fMul (dOp (fAdd false) (dVar 2) (dOp fMul (dC (.int 7919)) (dVar 1))) (dC (.int 48271))) (dC (.int 2147483647))))
  (dRet (dOp fMod (dOp fMul (dVar 3) (dOp (fAdd false) (dOp (fAdd false) (dVar 3) (dOp fMul (dC (.int 2)) (dVar 1))) (dC (.int 1)))) (dC (.int 2147483629)))))
noncomputable def b__law_mixed : DTS := (dSeq (dSet 2 (dC (.int 0)))
  (dSeq (dIf (dVal (dOp fGt (dCB fLen (dCons (dVar 0) dNil)) (dC (.int 0))))
  (dSet 2 (dOp fIx (dVar 0) (dOp fMod (dVar 1) (dCB fLen (dCons (dVar 0) dNil)))))
  dSkip)
  r1__law_mixed))
noncomputable def m__law_mixed : List D → Sto → Res := mFn N__law_mixed b__law_mixed
abbrev s__law_whole_step : Stmt := top 16
abbrev N__law_whole_step : List Str := ["_law_part", "_law_lie", "_law_number", "_law_entry"]
theorem sc__law_whole_step : FnScope N__law_whole_step ["_law_part", "_law_lie", "_law_number"] (defScope s__law_whole_step) := ⟨rfl, rfl, rfl, by decide +kernel, rfl, by decide +kernel, by decide +kernel⟩
noncomputable def r1__law_whole_step : DTS := (dRet (dTup (dCons (dVar 0) (dCons (dVar 1) (dCons (dC (.str "stem")) (dCons (dVar 1) dNil))))))
noncomputable def r2__law_whole_step : DTS := (dSeq (dIf (dVal (dOp fEq (dOp fMod (dVar 2) (dC (.int 2))) (dC (.int 0))))
  (dRet (dTup (dCons (dVar 0) (dCons (dC (.str "stem")) (dCons (dVar 1) (dCons (dVar 1) dNil))))))
  dSkip)
  r1__law_whole_step)
noncomputable def b__law_whole_step : DTS := (dSeq (dIf (dVal (dOp fEq (dVar 1) (dC (.str ""))))
  (dSeq (dSet 3 (dOp fIx (dLst false (dCons (dC (.str "a")) (dCons (dC (.str "b")) (dCons (dC (.str "c")) (dCons (dC (.str "d")) dNil))))) (dOp fMod (dVar 2) (dC (.int 4)))))
  (dRet (dTup (dCons (dVar 0) (dCons (dVar 3) (dCons (dOp fIx (dDisp false [((dC (.str "a")), (dC (.str "b"))), ((dC (.str "b")), (dC (.str "a"))), ((dC (.str "c")), (dC (.str "d"))), ((dC (.str "d")), (dC (.str "c")))]) (dVar 3)) (dCons (dC (.str "")) dNil)))))))
  dSkip)
  r2__law_whole_step)
noncomputable def m__law_whole_step : List D → Sto → Res := mFn N__law_whole_step b__law_whole_step
abbrev s__law_ground : Stmt := top 18
abbrev N__law_ground : List Str := ["_law_script", "_law_names_here", "_law_points", "_law_trains", "_law_at", "_law_rare", "_law_lies", "_law_stiff", "_law_paths", "_law_told_here", "_law_train", "_law_k", "_law_number", "_law_lie", "_law_step"]
theorem sc__law_ground : FnScope N__law_ground ["_law_script", "_law_names_here", "_law_points", "_law_trains", "_law_at", "_law_rare"] (defScope s__law_ground) := ⟨rfl, rfl, rfl, by decide +kernel, rfl, by decide +kernel, by decide +kernel⟩
noncomputable def r1__law_ground : DTS := (dIf (dVal (dOp fGt (dOp fMod (dOp fDiv (dVar 12) (dC (.int 300))) (dC (.int 5))) (dC (.int 0))))
  (dPut (dVar 9) (dOp fIx (dVar 1) (dVar 11)) (dOp fEq (dOp fMod (dOp fDiv (dVar 12) (dC (.int 3000))) (dVar 5)) (dC (.int 0))))
  dSkip)
noncomputable def r2__law_ground : DTS := (dSeq (dIf (dVal (dOp fEq (dOp fMod (dOp fDiv (dVar 12) (dC (.int 30))) (dVar 5)) (dC (.int 0))))
  (dSeq (dSet 14 (dCall m__law_whole_step [] (dCons (dOp fIx (dVar 1) (dVar 11)) (dCons (dVar 13) (dCons (dOp fDiv (dVar 12) (dC (.int 7))) dNil)))))
  (dExpr (dBMi isL fAppend (dOp fIx (dVar 8) (dOp fIx (dVar 3) (dOp fMod (dOp fDiv (dVar 12) (dC (.int 1000))) (dCB fLen (dCons (dVar 3) dNil))))) (dCons (dVar 14) dNil))))
  dSkip)
  r1__law_ground)
noncomputable def l1__law_ground : DTS := (dSeq (dSet 12 (dCall m__law_mixed [] (dCons (dVar 0) (dCons (dOp (fAdd false) (dVar 4) (dVar 11)) dNil))))
  (dSeq (dSet 13 (dC (.str "")))
  (dSeq (dIf (dVal (dOp fIn (dOp fIx (dVar 1) (dVar 11)) (dVar 2)))
  (dSeq (dSet 13 (dOp fIx (dLst false (dCons (dC (.str "left")) (dCons (dC (.str "right")) dNil))) (dOp fMod (dVar 12) (dC (.int 2)))))
  (dSeq (dPut (dVar 6) (dOp fIx (dVar 1) (dVar 11)) (dVar 13))
  (dIf (dVal (dOp fEq (dOp fMod (dOp fDiv (dVar 12) (dC (.int 2))) (dVar 5)) (dC (.int 0))))
  (dPut (dVar 7) (dOp fIx (dVar 1) (dVar 11)) (dC (.bl true)))
  dSkip)))
  dSkip)
  r2__law_ground)))
noncomputable def r3__law_ground : DTS := (dRet (dLst false (dCons (dVar 6) (dCons (dVar 7) (dCons (dVar 8) (dCons (dVar 9) dNil))))))
noncomputable def l2__law_ground : DTS := (dPut (dVar 8) (dVar 10) (dLst true dNil))
noncomputable def r4__law_ground : DTS := (dSeq (dFor (srcRng (dCons (dCB fLen (dCons (dVar 1) dNil)) dNil)) (gN 11)
  l1__law_ground)
  r3__law_ground)
noncomputable def b__law_ground : DTS := (dSeq (dSet 6 (dNewK true))
  (dSeq (dSet 7 (dNewK true))
  (dSeq (dSet 8 (dNewK true))
  (dSeq (dSet 9 (dNewK true))
  (dSeq (dFor (srcSeq (dVar 3)) (gN 10)
  l2__law_ground)
  r4__law_ground)))))
noncomputable def m__law_ground : List D → Sto → Res := mFn N__law_ground b__law_ground
abbrev s_Ground___init__ : Stmt := ctop 10 0
abbrev N_Ground___init__ : List Str := ["self", "lie_of", "stiff_ones", "path_of", "told"]
theorem sc_Ground___init__ : FnScope N_Ground___init__ ["self", "lie_of", "stiff_ones", "path_of", "told"] (defScope s_Ground___init__) := ⟨rfl, rfl, rfl, by decide +kernel, rfl, by decide +kernel, by decide +kernel⟩
noncomputable def b_Ground___init__ : DTS := (dSeq (dFldSet fc_lie_of "lie_of" (dVar 0) (dVar 1))
  (dSeq (dFldSet fc_stiff_ones "stiff_ones" (dVar 0) (dVar 2))
  (dSeq (dFldSet fc_path_of "path_of" (dVar 0) (dVar 3))
  (dFldSet fc_told "told" (dVar 0) (dVar 4)))))
noncomputable def m_Ground___init__ : List D → Sto → Res := mFn N_Ground___init__ b_Ground___init__
abbrev s__law_made : Stmt := top 19
abbrev N__law_made : List Str := ["_law_rows", "_law_paths", "_law_train"]
theorem sc__law_made : FnScope N__law_made ["_law_rows"] (defScope s__law_made) := ⟨rfl, rfl, rfl, by decide +kernel, rfl, by decide +kernel, by decide +kernel⟩
noncomputable def l1__law_made : DTS := (dPut (dVar 1) (dVar 2) (dCB (fList true) (dCons (dOp fIx (dOp fIx (dVar 0) (dC (.int 2))) (dVar 2)) dNil)))
noncomputable def r1__law_made : DTS := (dRet (dFrz (dMake "Ground" m_Ground___init__ [] (dCons (dCB (fDict true) (dCons (dOp fIx (dVar 0) (dC (.int 0))) dNil)) (dCons (dCB (fDict true) (dCons (dOp fIx (dVar 0) (dC (.int 1))) dNil)) (dCons (dVar 1) (dCons (dCB (fDict true) (dCons (dOp fIx (dVar 0) (dC (.int 3))) dNil)) dNil)))))))
noncomputable def b__law_made : DTS := (dSeq (dSet 1 (dNewK true))
  (dSeq (dForD 0 (pIx 2 (pVar 0)) (gN 2)
  l1__law_made)
  r1__law_made))
noncomputable def m__law_made : List D → Sto → Res := mFn N__law_made b__law_made
abbrev s__law_name : Stmt := top 14
abbrev N__law_name : List Str := ["_law_number", "_law_letters", "_law_name_here", "_law_k"]
theorem sc__law_name : FnScope N__law_name ["_law_number"] (defScope s__law_name) := ⟨rfl, rfl, rfl, by decide +kernel, rfl, by decide +kernel, by decide +kernel⟩
noncomputable def l1__law_name : DTS := (dSet 2 (dOp (fAdd false) (dVar 2) (dOp fIx (dOp (fAdd false) (dVar 1) (dC (.str "0123456789"))) (dOp fMod (dOp fDiv (dOp (fAdd false) (dOp fDiv (dVar 0) (dC (.int 6))) (dOp fMul (dC (.int 7)) (dVar 3))) (dOp (fAdd false) (dVar 3) (dC (.int 1)))) (dC (.int 36))))))
noncomputable def b__law_name : DTS := (dSeq (dSet 1 (dC (.str "abcdefghijklmnopqrstuvwxyz")))
  (dSeq (dSet 2 (dOp fIx (dVar 1) (dOp fMod (dVar 0) (dC (.int 26)))))
  (dSeq (dSet 0 (dOp fDiv (dVar 0) (dC (.int 26))))
  (dSeq (dFor (srcRng (dCons (dOp fMod (dVar 0) (dC (.int 6))) dNil)) (gN 3)
  l1__law_name)
  (dRet (dVar 2))))))
noncomputable def m__law_name : List D → Sto → Res := mFn N__law_name b__law_name
abbrev s__law_names : Stmt := top 15
abbrev N__law_names : List Str := ["_law_script", "_law_at", "_law_many", "_law_found", "_law_k", "_law_name_here"]
theorem sc__law_names : FnScope N__law_names ["_law_script", "_law_at", "_law_many"] (defScope s__law_names) := ⟨rfl, rfl, rfl, by decide +kernel, rfl, by decide +kernel, by decide +kernel⟩
noncomputable def r1__law_names : DTS := (dSet 4 (dOp (fAdd false) (dVar 4) (dC (.int 1))))
noncomputable def l1__law_names : DTS := (dSeq (dSet 5 (dCall m__law_name [] (dCons (dCall m__law_mixed [] (dCons (dVar 0) (dCons (dVar 4) dNil))) dNil)))
  (dSeq (dIf (dVal (dOp fNotIn (dVar 5) (dVar 3)))
  (dExpr (dBMi isL fAppend (dVar 3) (dCons (dVar 5) dNil)))
  dSkip)
  r1__law_names))
noncomputable def b__law_names : DTS := (dSeq (dSet 3 (dLst true dNil))
  (dSeq (dSet 4 (dVar 1))
  (dSeq (dWhile (dVal (dOp fLt (dCB fLen (dCons (dVar 3) dNil)) (dVar 2)))
  l1__law_names)
  (dRet (dFrz (dVar 3))))))
noncomputable def m__law_names : List D → Sto → Res := mFn N__law_names b__law_names
abbrev s__law_route : Stmt := top 17
abbrev N__law_route : List Str := ["_law_script", "_law_names_here", "_law_at", "_law_steps", "_law_k", "_law_number"]
theorem sc__law_route : FnScope N__law_route ["_law_script", "_law_names_here", "_law_at"] (defScope s__law_route) := ⟨rfl, rfl, rfl, by decide +kernel, rfl, by decide +kernel, by decide +kernel⟩
noncomputable def r1__law_route : DTS := (dRet (dCB fTuple (dCons (dOp (fAdd false) (dLst false (dCons (dC (.str "sig")) dNil)) (dVar 3)) dNil)))
noncomputable def l1__law_route : DTS := (dSeq (dSet 5 (dCall m__law_mixed [] (dCons (dVar 0) (dCons (dOp (fAdd false) (dVar 2) (dVar 4)) dNil))))
  (dExpr (dBMi isL fAppend (dVar 3) (dCons (dCall m__law_whole_step [] (dCons (dOp fIx (dVar 1) (dVar 4)) (dCons (dOp fIx (dLst false (dCons (dC (.str "")) (dCons (dC (.str "")) (dCons (dC (.str "left")) (dCons (dC (.str "right")) dNil))))) (dOp fMod (dVar 5) (dC (.int 4)))) (dCons (dOp fDiv (dVar 5) (dC (.int 4))) dNil)))) dNil))))
noncomputable def r2__law_route : DTS := (dSeq (dIf (dAndT (dVal (dOp fEq (dOp fIx (dOp fIx (dVar 3) (dC (.int (-1)))) (dC (.int 3))) (dC (.str "")))) (dVal (dOp fEq (dOp fMod (dOp fDiv (dCall m__law_mixed [] (dCons (dVar 0) (dCons (dVar 2) dNil))) (dC (.int 64))) (dC (.int 3))) (dC (.int 0)))))
  (dPut (dVar 3) (dC (.int (-1))) (dTup (dCons (dOp fIx (dVar 1) (dC (.int (-1)))) (dCons (dC (.str "a")) (dCons (dC (.str "")) (dCons (dC (.str "")) dNil))))))
  dSkip)
  r1__law_route)
noncomputable def b__law_route : DTS := (dSeq (dSet 3 (dLst true dNil))
  (dSeq (dFor (srcRng (dCons (dCB fLen (dCons (dVar 1) dNil)) dNil)) (gN 4)
  l1__law_route)
  r2__law_route))
noncomputable def m__law_route : List D → Sto → Res := mFn N__law_route b__law_route
abbrev s__law_alike : Stmt := top 22
abbrev N__law_alike : List Str := ["_law_found", "_law_due"]
theorem sc__law_alike : FnScope N__law_alike ["_law_found", "_law_due"] (defScope s__law_alike) := ⟨rfl, rfl, rfl, by decide +kernel, rfl, by decide +kernel, by decide +kernel⟩
noncomputable def r1__law_alike : DTS := (dRet (dAndV (dCB fIsT (dCons (dOp fIx (dVar 0) (dC (.int 0))) (dCons (dC (.ty "str")) dNil))) (dAndV (dCB fIsT (dCons (dOp fIx (dVar 0) (dC (.int 1))) (dCons (dC (.ty "str")) dNil))) (dOp fEq (dVar 0) (dVar 1)))))
noncomputable def r2__law_alike : DTS := (dSeq (dIf (dOrT (dNotT (dVal (dCB fIsT (dCons (dVar 0) (dCons (dC (.ty "tuple")) dNil))))) (dVal (dOp fNe (dCB fLen (dCons (dVar 0) dNil)) (dC (.int 2)))))
  (dRet (dC (.bl false)))
  dSkip)
  r1__law_alike)
noncomputable def b__law_alike : DTS := (dSeq (dIf (dVal (dOp fIs (dVar 1) (dC .non)))
  (dRet (dOp fIs (dVar 0) (dC .non)))
  dSkip)
  r2__law_alike)
noncomputable def m__law_alike : List D → Sto → Res := mFn N__law_alike b__law_alike
abbrev s_parts_of : Stmt := top 1
abbrev N_parts_of : List Str := ["steps", "step"]
theorem sc_parts_of : FnScope N_parts_of ["steps"] (defScope s_parts_of) := ⟨rfl, rfl, rfl, by decide +kernel, rfl, by decide +kernel, by decide +kernel⟩
noncomputable def b_parts_of : DTS := (dRet (dLc false [1] (srcSeq (dVar 0)) (gN 1) dYes (dOp fIx (dVar 1) (dC (.int 0)))))
noncomputable def m_parts_of : List D → Sto → Res := mFn N_parts_of b_parts_of
abbrev s_holder : Stmt := top 2
abbrev N_holder : List Str := ["paths", "part", "train"]
theorem sc_holder : FnScope N_holder ["paths", "part"] (defScope s_holder) := ⟨rfl, rfl, rfl, by decide +kernel, rfl, by decide +kernel, by decide +kernel⟩
noncomputable def l1_holder : DTS := (dIf (dVal (dOp fIn (dVar 1) (dCall m_parts_of [] (dCons (dOp fIx (dVar 0) (dVar 2)) dNil))))
  (dRet (dVar 2))
  dSkip)
noncomputable def b_holder : DTS := (dSeq (dForD 0 (pVar 0) (gN 2)
  l1_holder)
  (dRet (dC (.str ""))))
noncomputable def m_holder : List D → Sto → Res := mFn N_holder b_holder
abbrev i_not_held : Stmt := (defBody s_not_held).getD 0 (.Pass ⟨0, 0, 0, 0⟩)
abbrev N_c_not_held : List Str := ["ground", "part"]
theorem sc_c_not_held : NdefX.NScope N_c_not_held ["ground"] ["part"] (C8.fnScope i_not_held) := NdefX.nscope_by (by decide +kernel)
noncomputable def b_c_not_held : DTS := (dSeq (dIf (dVal (dOp fNe (dCall m_holder [] (dCons (dUn (fFld fc_path_of "path_of") (dVar 0)) (dCons (dVar 1) dNil))) (dC (.str ""))))
  (dRet (dTup (dCons (dC (.str "held")) (dCons (dVar 1) dNil))))
  dSkip)
  (dRet (dC .non)))
noncomputable def m_c_not_held : List D → Sto → Res := mFn N_c_not_held b_c_not_held
theorem ndf_not_held : NdefX.ndefB (defScope s_not_held) (C8.fnScope i_not_held) ["part"] = true := by decide +kernel
def S_not_held : CloS := ⟨"asked", (("not_held" : Str) ++ ".<locals>.") ++ "asked", C8.fnArgs i_not_held, C8.fnBody i_not_held, C8.fnScope i_not_held, ["part"]⟩
abbrev i_not_taken : Stmt := (defBody s_not_taken).getD 0 (.Pass ⟨0, 0, 0, 0⟩)
abbrev N_c_not_taken : List Str := ["ground", "part"]
theorem sc_c_not_taken : NdefX.NScope N_c_not_taken ["ground"] ["part"] (C8.fnScope i_not_taken) := NdefX.nscope_by (by decide +kernel)
noncomputable def b_c_not_taken : DTS := (dSeq (dIf (dVal (dGet2 (dUn (fFld fc_told "told") (dVar 0)) (dVar 1) (dC (.bl false))))
  (dRet (dTup (dCons (dC (.str "taken")) (dCons (dVar 1) dNil))))
  dSkip)
  (dRet (dC .non)))
noncomputable def m_c_not_taken : List D → Sto → Res := mFn N_c_not_taken b_c_not_taken
theorem ndf_not_taken : NdefX.ndefB (defScope s_not_taken) (C8.fnScope i_not_taken) ["part"] = true := by decide +kernel
def S_not_taken : CloS := ⟨"asked", (("not_taken" : Str) ++ ".<locals>.") ++ "asked", C8.fnArgs i_not_taken, C8.fnBody i_not_taken, C8.fnScope i_not_taken, ["part"]⟩
abbrev i_not_stiff : Stmt := (defBody s_not_stiff).getD 0 (.Pass ⟨0, 0, 0, 0⟩)
abbrev N_c_not_stiff : List Str := ["ground", "points"]
theorem sc_c_not_stiff : NdefX.NScope N_c_not_stiff ["ground"] ["points"] (C8.fnScope i_not_stiff) := NdefX.nscope_by (by decide +kernel)
noncomputable def b_c_not_stiff : DTS := (dSeq (dIf (dVal (dGet2 (dUn (fFld fc_stiff_ones "stiff_ones") (dVar 0)) (dVar 1) (dC (.bl false))))
  (dRet (dTup (dCons (dC (.str "stiff")) (dCons (dVar 1) dNil))))
  dSkip)
  (dRet (dC .non)))
noncomputable def m_c_not_stiff : List D → Sto → Res := mFn N_c_not_stiff b_c_not_stiff
theorem ndf_not_stiff : NdefX.ndefB (defScope s_not_stiff) (C8.fnScope i_not_stiff) ["points"] = true := by decide +kernel
def S_not_stiff : CloS := ⟨"asked", (("not_stiff" : Str) ++ ".<locals>.") ++ "asked", C8.fnArgs i_not_stiff, C8.fnBody i_not_stiff, C8.fnScope i_not_stiff, ["points"]⟩
abbrev i_lying_so : Stmt := (defBody s_lying_so).getD 1 (.Pass ⟨0, 0, 0, 0⟩)
abbrev N_c_lying_so : List Str := ["ground", "lie", "points", "turned"]
theorem sc_c_lying_so : NdefX.NScope N_c_lying_so ["ground"] ["lie", "points", "turned"] (C8.fnScope i_lying_so) := NdefX.nscope_by (by decide +kernel)
noncomputable def tbc1_c_lying_so : List (Str × Fm) := [("not_held", m_c_not_held), ("not_taken", m_c_not_taken), ("not_stiff", m_c_not_stiff)]
noncomputable def r1_c_lying_so : DTS := (dRet (dClo ["lying_so"] tbc1_c_lying_so 3 (dCons (dVar 0) dNil)))
noncomputable def b_c_lying_so : DTS := (dSeq (dIf (dVal (dOp fEq (dGet2 (dUn (fFld fc_lie_of "lie_of") (dVar 0)) (dVar 2) (dC (.str ""))) (dVar 1)))
  (dRet (dC .non))
  dSkip)
  r1_c_lying_so)
noncomputable def m_c_lying_so : List D → Sto → Res := mFn N_c_lying_so b_c_lying_so
theorem ndf_lying_so : NdefX.ndefB (defScope s_lying_so) (C8.fnScope i_lying_so) ["lie", "points", "turned"] = true := by decide +kernel
def S_lying_so : CloS := ⟨"asked", (("lying_so" : Str) ++ ".<locals>.") ++ "asked", C8.fnArgs i_lying_so, C8.fnBody i_lying_so, C8.fnScope i_lying_so, ["lie", "points", "turned"]⟩
abbrev s__law_told : Stmt := top 23
abbrev N__law_told : List Str := ["_law_rules", "_law_ground_here", "_law_due", "_law_rule", "_law_word"]
theorem sc__law_told : FnScope N__law_told ["_law_rules", "_law_ground_here", "_law_due"] (defScope s__law_told) := ⟨rfl, rfl, rfl, by decide +kernel, rfl, by decide +kernel, by decide +kernel⟩
noncomputable def tbc1__law_told : List (Str × Fm) := [("not_held", m_c_not_held), ("not_taken", m_c_not_taken), ("not_stiff", m_c_not_stiff), ("lying_so", m_c_lying_so)]
noncomputable def l1__law_told : DTS := (dIf (dNotT (dVal (dCall m__law_alike [] (dCons (dClo [] tbc1__law_told 3 (dCons (dVar 1) dNil)) (dCons (dVar 4) dNil)))))
  (dRet (dC (.bl false)))
  dSkip)
noncomputable def r1__law_told : DTS := (dSeq (dFor (srcZip (dVar 0) (dVar 2)) (gT (gConsD (gN 3) (gConsD (gN 4) gNilD)))
  l1__law_told)
  (dRet (dC (.bl true))))
noncomputable def b__law_told : DTS := (dSeq (dIf (dOrT (dNotT (dVal (dCB fIsT (dCons (dVar 0) (dCons (dC (.ty "list")) dNil))))) (dVal (dOp fNe (dCB fLen (dCons (dVar 0) dNil)) (dCB fLen (dCons (dVar 2) dNil)))))
  (dRet (dC (.bl false)))
  dSkip)
  r1__law_told)
noncomputable def m__law_told : List D → Sto → Res := mFn N__law_told b__law_told
abbrev s__law_held : Stmt := top 20
abbrev N__law_held : List Str := ["_law_paths", "_law_part", "_law_train", "_law_step"]
theorem sc__law_held : FnScope N__law_held ["_law_paths", "_law_part"] (defScope s__law_held) := ⟨rfl, rfl, rfl, by decide +kernel, rfl, by decide +kernel, by decide +kernel⟩
noncomputable def l1__law_held : DTS := (dIf (dVal (dOp fIn (dVar 1) (dLc false [3] (srcSeq (dOp fIx (dVar 0) (dVar 2))) (gN 3) dYes (dOp fIx (dVar 3) (dC (.int 0))))))
  (dRet (dC (.bl true)))
  dSkip)
noncomputable def b__law_held : DTS := (dSeq (dForD 0 (pVar 0) (gN 2)
  l1__law_held)
  (dRet (dC (.bl false))))
noncomputable def m__law_held : List D → Sto → Res := mFn N__law_held b__law_held
abbrev s__law_turned : Stmt := top 24
abbrev N__law_turned : List Str := ["_law_rows", "_law_names_here", "_law_trains", "_law_number", "_law_part", "_law_way", "_law_train", "_law_step"]
theorem sc__law_turned : FnScope N__law_turned ["_law_rows", "_law_names_here", "_law_trains", "_law_number"] (defScope s__law_turned) := ⟨rfl, rfl, rfl, by decide +kernel, rfl, by decide +kernel, by decide +kernel⟩
noncomputable def t1__law_turned : DTT := (dVal (dOp fNe (dOp fIx (dVar 7) (dC (.int 0))) (dVar 4)))
noncomputable def l1__law_turned : DTS := (dPut (dOp fIx (dVar 0) (dC (.int 2))) (dVar 6) (dLc true [7] (srcSeq (dOp fIx (dOp fIx (dVar 0) (dC (.int 2))) (dVar 6))) (gN 7) t1__law_turned (dVar 7)))
noncomputable def b__law_turned : DTS := (dSeq (dSet 4 (dOp fIx (dVar 1) (dOp fMod (dVar 3) (dCB fLen (dCons (dVar 1) dNil)))))
  (dSeq (dSet 5 (dOp fMod (dOp fDiv (dVar 3) (dC (.int 16))) (dC (.int 4))))
  (dIf (dAndT (dVal (dOp fEq (dVar 5) (dC (.int 0)))) (dNotT (dVal (dCall m__law_held [] (dCons (dOp fIx (dVar 0) (dC (.int 2))) (dCons (dVar 4) dNil))))))
  (dExpr (dBMi isL fAppend (dOp fIx (dOp fIx (dVar 0) (dC (.int 2))) (dOp fIx (dVar 2) (dC (.int 0)))) (dCons (dCall m__law_whole_step [] (dCons (dVar 4) (dCons (dGet2 (dOp fIx (dVar 0) (dC (.int 0))) (dVar 4) (dC (.str ""))) (dCons (dOp fDiv (dVar 3) (dC (.int 64))) dNil)))) dNil)))
  (dIf (dVal (dOp fEq (dVar 5) (dC (.int 0))))
  (dFor (srcSeq (dVar 2)) (gN 6)
  l1__law_turned)
  (dIf (dVal (dOp fEq (dVar 5) (dC (.int 1))))
  (dPut (dOp fIx (dVar 0) (dC (.int 3))) (dVar 4) (dNotV (dGet2 (dOp fIx (dVar 0) (dC (.int 3))) (dVar 4) (dC (.bl false)))))
  (dIf (dVal (dOp fNotIn (dVar 4) (dOp fIx (dVar 0) (dC (.int 0)))))
  (dPut (dOp fIx (dVar 0) (dC (.int 3))) (dVar 4) (dC (.bl true)))
  (dIf (dAndT (dVal (dOp fEq (dVar 5) (dC (.int 2)))) (dVal (dOp fIn (dVar 4) (dOp fIx (dVar 0) (dC (.int 1))))))
  (dExpr (dDPop1 (dOp fIx (dVar 0) (dC (.int 1))) (dVar 4)))
  (dIf (dVal (dOp fEq (dVar 5) (dC (.int 2))))
  (dPut (dOp fIx (dVar 0) (dC (.int 1))) (dVar 4) (dC (.bl true)))
  (dPut (dOp fIx (dVar 0) (dC (.int 0))) (dVar 4) (dOp fIx (dDisp false [((dC (.str "left")), (dC (.str "right"))), ((dC (.str "right")), (dC (.str "left")))]) (dOp fIx (dOp fIx (dVar 0) (dC (.int 0))) (dVar 4))))))))))))
noncomputable def m__law_turned : List D → Sto → Res := mFn N__law_turned b__law_turned
abbrev s__law_words : Stmt := top 21
abbrev N__law_words : List Str := ["_law_route_here", "_law_rows", "_law_found", "_law_step", "_law_part"]
theorem sc__law_words : FnScope N__law_words ["_law_route_here", "_law_rows"] (defScope s__law_words) := ⟨rfl, rfl, rfl, by decide +kernel, rfl, by decide +kernel, by decide +kernel⟩
noncomputable def l1__law_words : DTS := (dSeq (dSet 4 (dOp fIx (dVar 3) (dC (.int 0))))
  (dSeq (dExpr (dBMi isL fAppend (dVar 2) (dCons (dOp fIx (dLst false (dCons (dC .non) (dCons (dTup (dCons (dC (.str "held")) (dCons (dVar 4) dNil))) dNil))) (dCB fInt (dCons (dCall m__law_held [] (dCons (dOp fIx (dVar 1) (dC (.int 2))) (dCons (dVar 4) dNil))) dNil))) dNil)))
  (dSeq (dExpr (dBMi isL fAppend (dVar 2) (dCons (dOp fIx (dLst false (dCons (dC .non) (dCons (dTup (dCons (dC (.str "taken")) (dCons (dVar 4) dNil))) dNil))) (dCB fInt (dCons (dGet2 (dOp fIx (dVar 1) (dC (.int 3))) (dVar 4) (dC (.bl false))) dNil))) dNil)))
  (dIf (dVal (dOp fNe (dOp fIx (dVar 3) (dC (.int 3))) (dC (.str ""))))
  (dExpr (dBMi isL fAppend (dVar 2) (dCons (dOp fIx (dLst false (dCons (dC .non) (dCons (dTup (dCons (dC (.str "stiff")) (dCons (dVar 4) dNil))) dNil))) (dCB fInt (dCons (dAndV (dOp fNe (dOp fIx (dOp fIx (dVar 1) (dC (.int 0))) (dVar 4)) (dOp fIx (dVar 3) (dC (.int 3)))) (dOp fIn (dVar 4) (dOp fIx (dVar 1) (dC (.int 1))))) dNil))) dNil)))
  dSkip))))
noncomputable def b__law_words : DTS := (dSeq (dSet 2 (dLst true dNil))
  (dSeq (dFor (srcSeq (dSl false (dVar 0) (dPart (dC (.int 1))) dNoP)) (gN 3)
  l1__law_words)
  (dRet (dFrz (dVar 2)))))
noncomputable def m__law_words : List D → Sto → Res := mFn N__law_words b__law_words
abbrev N_not_stiff : List Str := ["points", "asked"]
theorem sc_not_stiff : FnScope N_not_stiff ["points"] (defScope s_not_stiff) := ⟨rfl, rfl, rfl, by decide +kernel, rfl, by decide +kernel, by decide +kernel⟩
noncomputable def b_not_stiff : Env' → Sto → Res := (dMkE "not_stiff" 1 [0])
noncomputable def m_not_stiff : List D → Sto → Res := mMk N_not_stiff b_not_stiff
abbrev N_lying_so : List Str := ["points", "lie", "asked", "turned"]
theorem sc_lying_so : FnScope N_lying_so ["points", "lie"] (defScope s_lying_so) := ⟨rfl, rfl, rfl, by decide +kernel, rfl, by decide +kernel, by decide +kernel⟩
noncomputable def b_lying_so : Env' → Sto → Res := (mkCons (dSet 3 (dCall m_not_stiff [] (dCons (dVar 0) dNil)))
  (dMkE "lying_so" 2 [1, 0, 3]))
noncomputable def m_lying_so : List D → Sto → Res := mMk N_lying_so b_lying_so
abbrev N_not_held : List Str := ["part", "asked"]
theorem sc_not_held : FnScope N_not_held ["part"] (defScope s_not_held) := ⟨rfl, rfl, rfl, by decide +kernel, rfl, by decide +kernel, by decide +kernel⟩
noncomputable def b_not_held : Env' → Sto → Res := (dMkE "not_held" 1 [0])
noncomputable def m_not_held : List D → Sto → Res := mMk N_not_held b_not_held
abbrev N_not_taken : List Str := ["part", "asked"]
theorem sc_not_taken : FnScope N_not_taken ["part"] (defScope s_not_taken) := ⟨rfl, rfl, rfl, by decide +kernel, rfl, by decide +kernel, by decide +kernel⟩
noncomputable def b_not_taken : Env' → Sto → Res := (dMkE "not_taken" 1 [0])
noncomputable def m_not_taken : List D → Sto → Res := mMk N_not_taken b_not_taken
abbrev s_rules_of : Stmt := top 8
abbrev N_rules_of : List Str := ["route", "found", "step"]
theorem sc_rules_of : FnScope N_rules_of ["route"] (defScope s_rules_of) := ⟨rfl, rfl, rfl, by decide +kernel, rfl, by decide +kernel, by decide +kernel⟩
noncomputable def l1_rules_of : DTS := (dSeq (dExpr (dBMi isL fAppend (dVar 1) (dCons (dCall m_not_held [] (dCons (dOp fIx (dVar 2) (dC (.int 0))) dNil)) dNil)))
  (dSeq (dExpr (dBMi isL fAppend (dVar 1) (dCons (dCall m_not_taken [] (dCons (dOp fIx (dVar 2) (dC (.int 0))) dNil)) dNil)))
  (dIf (dVal (dOp fNe (dOp fIx (dVar 2) (dC (.int 3))) (dC (.str ""))))
  (dExpr (dBMi isL fAppend (dVar 1) (dCons (dCall m_lying_so [] (dCons (dOp fIx (dVar 2) (dC (.int 0))) (dCons (dOp fIx (dVar 2) (dC (.int 3))) dNil))) dNil)))
  dSkip)))
noncomputable def b_rules_of : DTS := (dSeq (dSet 1 (dLst true dNil))
  (dSeq (dFor (srcSeq (dSl false (dVar 0) (dPart (dC (.int 1))) dNoP)) (gN 2)
  l1_rules_of)
  (dRet (dVar 1))))
noncomputable def m_rules_of : List D → Sto → Res := mFn N_rules_of b_rules_of
abbrev s_law : Stmt := top 26
abbrev N_law : List Str := ["_law_script", "_law_names_here", "_law_trains", "_law_route_here", "_law_points", "_law_one", "_law_other", "_law_grounds", "_law_rules", "_law_k", "_law_again", "_law_step"]
theorem sc_law : FnScope N_law ["_law_script"] (defScope s_law) := ⟨rfl, rfl, rfl, by decide +kernel, rfl, by decide +kernel, by decide +kernel⟩
noncomputable def l1_law : DTS := (dSeq (dExpr (dCall m__law_turned [] (dCons (dVar 5) (dCons (dVar 1) (dCons (dVar 2) (dCons (dCall m__law_mixed [] (dCons (dVar 0) (dCons (dOp (fAdd false) (dC (.int 300)) (dVar 9)) dNil))) dNil))))))
  (dSeq (dExpr (dCall m__law_turned [] (dCons (dCall m__law_fields [] (dCons (dOp fIx (dVar 7) (dC (.int 0))) dNil)) (dCons (dVar 1) (dCons (dVar 2) (dCons (dCall m__law_mixed [] (dCons (dVar 0) (dCons (dOp (fAdd false) (dC (.int 300)) (dVar 9)) dNil))) dNil))))))
  (dIf (dNotT (dVal (dCall m__law_told [] (dCons (dVar 8) (dCons (dOp fIx (dVar 7) (dC (.int 0))) (dCons (dCall m__law_words [] (dCons (dVar 3) (dCons (dVar 5) dNil))) dNil))))))
  (dRet (dC (.bl false)))
  dSkip)))
noncomputable def r1_law : DTS := (dRet (dCall m__law_told [] (dCons (dVar 8) (dCons (dOp fIx (dVar 7) (dC (.int 1))) (dCons (dCall m__law_words [] (dCons (dVar 3) (dCons (dVar 6) dNil))) dNil)))))
noncomputable def r2_law : DTS := (dSeq (dFor (srcRng (dCons (dC (.int 4)) dNil)) (gN 9)
  l1_law)
  r1_law)
noncomputable def r3_law : DTS := (dSeq (dIf (dOrT (dVal (dOp fNeG (dCall m__law_fields [] (dCons (dOp fIx (dVar 7) (dC (.int 0))) dNil)) (dVar 5))) (dVal (dOp fNeG (dCall m__law_fields [] (dCons (dOp fIx (dVar 7) (dC (.int 1))) dNil)) (dVar 6))))
  (dRet (dC (.bl false)))
  dSkip)
  r2_law)
noncomputable def l2_law : DTS := (dIf (dNotT (dVal (dCall m__law_told [] (dCons (dVar 8) (dCons (dOp fIx (dVar 7) (dVar 9)) (dCons (dCall m__law_words [] (dCons (dVar 3) (dCons (dOp fIx (dLst false (dCons (dVar 5) (dCons (dVar 6) dNil))) (dVar 9)) dNil))) dNil))))))
  (dRet (dC (.bl false)))
  dSkip)
noncomputable def r4_law : DTS := (dSeq (dSet 10 (dCall m_rules_of [] (dCons (dVar 3) dNil)))
  (dSeq (dExpr (dBM0 isL fReverse (dVar 10)))
  (dSeq (dIf (dNotT (dVal (dCall m__law_told [] (dCons (dCall m_rules_of [] (dCons (dVar 3) dNil)) (dCons (dOp fIx (dVar 7) (dC (.int 1))) (dCons (dCall m__law_words [] (dCons (dVar 3) (dCons (dVar 6) dNil))) dNil))))))
  (dRet (dC (.bl false)))
  dSkip)
  r3_law)))
noncomputable def r5_law : DTS := (dSeq (dSet 8 (dCall m_rules_of [] (dCons (dVar 3) dNil)))
  (dSeq (dFor (srcSeq (dLst false (dCons (dC (.int 0)) (dCons (dC (.int 1)) (dCons (dC (.int 0)) dNil))))) (gN 9)
  l2_law)
  r4_law))
noncomputable def t1_law : DTT := (dVal (dOp fNe (dOp fIx (dVar 11) (dC (.int 3))) (dC (.str ""))))
noncomputable def b_law : DTS := (dSeq (dSet 1 (dCall m__law_names [] (dCons (dVar 0) (dCons (dC (.int 10)) (dCons (dOp (fAdd false) (dC (.int 1)) (dOp fMod (dCall m__law_cell [] (dCons (dVar 0) (dCons (dC (.int 0)) dNil))) (dC (.int 12)))) dNil)))))
  (dSeq (dSet 2 (dCall m__law_names [] (dCons (dVar 0) (dCons (dC (.int 1000)) (dCons (dOp (fAdd false) (dC (.int 1)) (dOp fMod (dCall m__law_cell [] (dCons (dVar 0) (dCons (dC (.int 1)) dNil))) (dC (.int 3)))) dNil)))))
  (dSeq (dSet 3 (dCall m__law_route [] (dCons (dVar 0) (dCons (dVar 1) (dCons (dC (.int 50)) dNil)))))
  (dSeq (dSet 4 (dLc false [11] (srcSeq (dSl false (dVar 3) (dPart (dC (.int 1))) dNoP)) (gN 11) t1_law (dOp fIx (dVar 11) (dC (.int 0)))))
  (dSeq (dSet 5 (dCall m__law_ground [] (dCons (dVar 0) (dCons (dVar 1) (dCons (dVar 4) (dCons (dVar 2) (dCons (dC (.int 100)) (dCons (dOp (fAdd false) (dC (.int 2)) (dOp fMod (dCall m__law_cell [] (dCons (dVar 0) (dCons (dC (.int 2)) dNil))) (dC (.int 6)))) dNil))))))))
  (dSeq (dSet 6 (dCall m__law_ground [] (dCons (dVar 0) (dCons (dVar 1) (dCons (dVar 4) (dCons (dVar 2) (dCons (dC (.int 200)) (dCons (dOp (fAdd false) (dC (.int 2)) (dOp fMod (dCall m__law_cell [] (dCons (dVar 0) (dCons (dC (.int 3)) dNil))) (dC (.int 6)))) dNil))))))))
  (dSeq (dSet 7 (dLst false (dCons (dCall m__law_made [] (dCons (dVar 5) dNil)) (dCons (dCall m__law_made [] (dCons (dVar 6) dNil)) dNil))))
  (dSeq (dIf (dOrT (dVal (dOp fNeG (dCall m__law_fields [] (dCons (dOp fIx (dVar 7) (dC (.int 0))) dNil)) (dVar 5))) (dVal (dOp fNeG (dCall m__law_fields [] (dCons (dOp fIx (dVar 7) (dC (.int 1))) dNil)) (dVar 6))))
  (dRet (dC (.bl false)))
  dSkip)
  r5_law))))))))
noncomputable def m_law : List D → Sto → Res := mFn N_law b_law
def cfL : List (Str × CloS) := [("not_stiff", S_not_stiff), ("lying_so", S_lying_so), ("not_held", S_not_held), ("not_taken", S_not_taken)]
def tfL : List He.Defn := [("not_stiff", none), ("lying_so", none), ("not_held", none), ("not_taken", none)]
def nmF : Nat → Nat → Str := fun l c => if l = 26 ∧ c = 4 then ((("not_stiff" : Str) ++ ".<locals>.") ++ "asked") else if l = 34 ∧ c = 4 then ((("lying_so" : Str) ++ ".<locals>.") ++ "asked") else if l = 12 ∧ c = 4 then ((("not_held" : Str) ++ ".<locals>.") ++ "asked") else if l = 19 ∧ c = 4 then ((("not_taken" : Str) ++ ".<locals>.") ++ "asked") else ""
def TL (K : PySem.W.Frag) : List NdefX.NTab := tfL.map fun p => ((He.cT K p).2, nmF)
def BL : LwB := ⟨fun nm => cfL.lookup nm, TL, some [], none⟩
/-! what the top has left -/
structure Tx (B : LwB) (K : PySem.W.Frag) (mg : Str → Option Value) : Prop where
  b_dict : mg "dict" = none
  b_int : mg "int" = none
  b_isinstance : mg "isinstance" = none
  b_len : mg "len" = none
  b_list : mg "list" = none
  b_range : mg "range" = none
  b_str : mg "str" = none
  b_tuple : mg "tuple" = none
  b_zip : mg "zip" = none
  f_lie_of : FldOk (cao B K) K fc_lie_of "lie_of"
  f_path_of : FldOk (cao B K) K fc_path_of "path_of"
  f_stiff_ones : FldOk (cao B K) K fc_stiff_ones "stiff_ones"
  f_told : FldOk (cao B K) K fc_told "told"
  is_ : IsOk K isT
theorem Tx.run {B : LwB} {K : PySem.W.Frag} {mg : Str → Option Value} {nm : Str} (T : Tx B K mg) : Tx (B.run nm) K mg := ⟨T.b_dict, T.b_int, T.b_isinstance, T.b_len, T.b_list, T.b_range, T.b_str, T.b_tuple, T.b_zip, ⟨T.f_lie_of.ok⟩, ⟨T.f_path_of.ok⟩, ⟨T.f_stiff_ones.ok⟩, ⟨T.f_told.ok⟩, T.is_⟩
abbrev FnP (K : PySem.W.Frag) (mg : Str → Option Value) (x : Str) (st : Stmt) (fd : FuncData) : Prop := FunD K x x (defArgs st) (defBody st) (defScope st) [] [] (He.ga K x) fd ∧ mg x = some (.ref (He.ga K x))
section
variable {B : LwB} {P : Program} {w : World} {K : PySem.W.Frag} {mg : Str → Option Value} {base : Heap}
theorem ok__law_cell (T : Tx B K mg) {fd : FuncData} (F : FnP K mg "_law_cell" s__law_cell fd)  : Good B P w K mg base "_law_cell" fd 1 ["_law_script", "_law_k"] 2 m__law_cell := by
  obtain ⟨F, hm⟩ := F
  refine good_of (k := 0) F hm sc__law_cell rfl (fun _ _ _ _ _ _ us hl => match us, hl with | [_, _], _ => rfl) (fun cdv A outer s H E hr => ?_)
  have tk1 := takes_of (X := cxOf (L2.CX P w) P w K mg base N__law_cell "_law_cell" (defScope s__law_cell) (He.ga K "_law_cell") cdv A outer s H E) rfl rfl rfl (E₁ := _) rfl
  have tk := tk_of tk1
  exact (dss_cons (ds_if (dc_op opr_lt ops_lt (de_var (pv 1)) (de_cb (f := .builtin "len") (fun h => pe_callB call_len (by rfl) T.b_len (by decide +kernel) h) cs_len (da_cons (de_var (pv 0)) da_nil))).tt
    (dss_one (ds_ret (de_ix (hu_of hr) (de_var (pv 0)) (de_var (pv 1)) (fun _ _ => rfl))))
    dss_nil)
    (dss_one (ds_ret de_int)))
theorem ok__law_fields (T : Tx B K mg) {fd : FuncData} (F : FnP K mg "_law_fields" s__law_fields fd)  : Good B P w K mg base "_law_fields" fd 1 ["_law_ground_here"] 1 m__law_fields := by
  obtain ⟨F, hm⟩ := F
  refine good_of (k := 0) F hm sc__law_fields rfl (fun _ _ _ _ _ _ us hl => match us, hl with | [_], _ => rfl) (fun cdv A outer s H E hr => ?_)
  have tk1 := takes_of (X := cxOf (L2.CX P w) P w K mg base N__law_fields "_law_fields" (defScope s__law_fields) (He.ga K "_law_fields") cdv A outer s H E) rfl rfl rfl (E₁ := _) rfl
  have tk := tk_of tk1
  exact (dss_one (ds_ret (de_lst false (da_cons (de_fld T.f_lie_of (de_var (pv 0))) (da_cons (de_fld T.f_stiff_ones (de_var (pv 0))) (da_cons (de_fld T.f_path_of (de_var (pv 0))) (da_cons (de_fld T.f_told (de_var (pv 0))) da_nil)))))))
theorem ok__law_mixed (T : Tx B K mg) {fd : FuncData} (F : FnP K mg "_law_mixed" s__law_mixed fd)  : Good B P w K mg base "_law_mixed" fd 1 ["_law_script", "_law_k"] 2 m__law_mixed := by
  obtain ⟨F, hm⟩ := F
  refine good_of (k := 0) F hm sc__law_mixed rfl (fun _ _ _ _ _ _ us hl => match us, hl with | [_, _], _ => rfl) (fun cdv A outer s H E hr => ?_)
  have tk1 := takes_of (X := cxOf (L2.CX P w) P w K mg base N__law_mixed "_law_mixed" (defScope s__law_mixed) (He.ga K "_law_mixed") cdv A outer s H E) rfl rfl rfl (E₁ := _) rfl
  have tk := tk_of tk1
  exact (dss_cons (ds_set (i := 2) sc__law_mixed.nd rfl (Or.inl rfl) de_int)
    (dss_cons (ds_if (dc_op opr_gt ops_gt (de_cb (f := .builtin "len") (fun h => pe_callB call_len (by rfl) T.b_len (by decide +kernel) h) cs_len (da_cons (de_var (pv 0)) da_nil)) de_int).tt
    (dss_one (ds_set (i := 2) sc__law_mixed.nd rfl (Or.inl rfl) (de_ix (hu_of hr) (de_var (pv 0)) (de_op op_mod ops_mod (de_var (pv 1)) (de_cb (f := .builtin "len") (fun h => pe_callB call_len (by rfl) T.b_len (by decide +kernel) h) cs_len (da_cons (de_var (pv 0)) da_nil))) (fun _ _ => rfl))))
    dss_nil)
    (dss_cons (ds_set (i := 3) sc__law_mixed.nd rfl (Or.inl rfl) (de_op op_mod ops_mod (de_op op_mul ops_mul (de_op opr_add (ops_add false) (de_var (pv 2)) (de_op op_mul ops_mul de_int (de_var (pv 1)))) de_int) de_int))
    (dss_one (ds_ret (de_op op_mod ops_mod (de_op op_mul ops_mul (de_var (pv 3)) (de_op opr_add (ops_add false) (de_op opr_add (ops_add false) (de_var (pv 3)) (de_op op_mul ops_mul de_int (de_var (pv 1)))) de_int)) de_int))))))
theorem ok__law_whole_step (T : Tx B K mg) {fd : FuncData} (F : FnP K mg "_law_whole_step" s__law_whole_step fd)  : Good B P w K mg base "_law_whole_step" fd 1 ["_law_part", "_law_lie", "_law_number"] 3 m__law_whole_step := by
  obtain ⟨F, hm⟩ := F
  refine good_of (k := 0) F hm sc__law_whole_step rfl (fun _ _ _ _ _ _ us hl => match us, hl with | [_, _, _], _ => rfl) (fun cdv A outer s H E hr => ?_)
  have tk1 := takes_of (X := cxOf (L2.CX P w) P w K mg base N__law_whole_step "_law_whole_step" (defScope s__law_whole_step) (He.ga K "_law_whole_step") cdv A outer s H E) rfl rfl rfl (E₁ := _) rfl
  have tk := tk_of tk1
  exact (dss_cons (ds_if (dc_op (op_eqY hr.units) ops_eq (de_var (pv 1)) de_str).tt
    (dss_cons (ds_set (i := 3) sc__law_whole_step.nd rfl (Or.inl rfl) (de_ix (hu_of hr) (de_lst false (da_cons de_str (da_cons de_str (da_cons de_str (da_cons de_str da_nil))))) (de_op op_mod ops_mod (de_var (pv 2)) de_int) (fun _ _ => rfl)))
    (dss_one (ds_ret (de_tup (da_cons (de_var (pv 0)) (da_cons (de_var (pv 3)) (da_cons (de_ix (hu_of hr) (de_disp false (dps_cons de_str de_str (dps_cons de_str de_str (dps_cons de_str de_str (dps_cons de_str de_str dps_nil))))) (de_var (pv 3)) (fun _ _ => rfl)) (da_cons de_str da_nil))))))))
    dss_nil)
    (dss_cons (ds_if (dc_op (op_eqY hr.units) ops_eq (de_op op_mod ops_mod (de_var (pv 2)) de_int) de_int).tt
    (dss_one (ds_ret (de_tup (da_cons (de_var (pv 0)) (da_cons de_str (da_cons (de_var (pv 1)) (da_cons (de_var (pv 1)) da_nil)))))))
    dss_nil)
    (dss_one (ds_ret (de_tup (da_cons (de_var (pv 0)) (da_cons (de_var (pv 1)) (da_cons de_str (da_cons (de_var (pv 1)) da_nil)))))))))
theorem ok__law_ground (T : Tx B K mg) {fd : FuncData} (F : FnP K mg "_law_ground" s__law_ground fd) {fd__law_mixed : FuncData} (g__law_mixed : Good B P w K mg base "_law_mixed" fd__law_mixed 1 ["_law_script", "_law_k"] 2 m__law_mixed) {fd__law_whole_step : FuncData} (g__law_whole_step : Good B P w K mg base "_law_whole_step" fd__law_whole_step 1 ["_law_part", "_law_lie", "_law_number"] 3 m__law_whole_step) : Good B P w K mg base "_law_ground" fd 2 ["_law_script", "_law_names_here", "_law_points", "_law_trains", "_law_at", "_law_rare"] 6 m__law_ground := by
  obtain ⟨F, hm⟩ := F
  refine good_of (k := 1) F hm sc__law_ground rfl (fun _ _ _ _ _ _ us hl => match us, hl with | [_, _, _, _, _, _], _ => rfl) (fun cdv A outer s H E hr => ?_)
  have tk1 := takes_of (X := cxOf (L2.CX P w) P w K mg base N__law_ground "_law_ground" (defScope s__law_ground) (He.ga K "_law_ground") cdv A outer s H E) rfl rfl rfl (E₁ := _) rfl
  have tk := tk_of tk1
  exact (dss_cons (ds_set (i := 6) sc__law_ground.nd rfl (Or.inl rfl) (de_newK true))
    (dss_cons (ds_set (i := 7) sc__law_ground.nd rfl (Or.inl rfl) (de_newK true))
    (dss_cons (ds_set (i := 8) sc__law_ground.nd rfl (Or.inl rfl) (de_newK true))
    (dss_cons (ds_set (i := 9) sc__law_ground.nd rfl (Or.inl rfl) (de_newK true))
    (dss_cons (ds_for (passes_of rfl) rfl (di_seq (de_var (pv 3))) (dg_name (i := 10) sc__law_ground.nd rfl (Or.inl rfl))
    (dss_one (ds_put (hu_of hr) (de_var (pv 8)) (de_var (pv 10)) (de_lst true da_nil) (hg := fun a b => pg_sub a b set_list))))
    (dss_cons (ds_for (passes_of rfl) rfl (di_range1 (by rfl) T.b_range (da_cons (de_cb (f := .builtin "len") (fun h => pe_callB call_len (by rfl) T.b_len (by decide +kernel) h) cs_len (da_cons (de_var (pv 1)) da_nil)) da_nil) (len_cons (fun _ _ _ _ h => len_nil h))) (dg_name (i := 11) sc__law_ground.nd rfl (Or.inl rfl))
    (dss_cons (ds_set (i := 12) sc__law_ground.nd rfl (Or.inl rfl) (de_fn g__law_mixed hr (by decide) (by rfl) tk (da_cons (de_var (pv 0)) (da_cons (de_op opr_add (ops_add false) (de_var (pv 4)) (de_var (pv 11))) da_nil)) (len_cons (len_cons (fun _ _ _ _ h => len_nil h)))))
    (dss_cons (ds_set (i := 13) sc__law_ground.nd rfl (Or.inl rfl) de_str)
    (dss_cons (ds_if (dc_in (hu_of hr) rfl (de_ix (hu_of hr) (de_var (pv 1)) (de_var (pv 11)) (fun _ _ => rfl)) (de_var (pv 2))).tt
    (dss_cons (ds_set (i := 13) sc__law_ground.nd rfl (Or.inl rfl) (de_ix (hu_of hr) (de_lst false (da_cons de_str (da_cons de_str da_nil))) (de_op op_mod ops_mod (de_var (pv 12)) de_int) (fun _ _ => rfl)))
    (dss_cons (ds_put (hu_of hr) (de_var (pv 6)) (de_ix (hu_of hr) (de_var (pv 1)) (de_var (pv 11)) (fun _ _ => rfl)) (de_var (pv 13)) (hg := fun a b => pg_sub a b set_list))
    (dss_one (ds_if (dc_op (op_eqY hr.units) ops_eq (de_op op_mod ops_mod (de_op op_fdiv ops_div (de_var (pv 12)) de_int) (de_var (pv 5))) de_int).tt
    (dss_one (ds_put (hu_of hr) (de_var (pv 7)) (de_ix (hu_of hr) (de_var (pv 1)) (de_var (pv 11)) (fun _ _ => rfl)) de_bl (hg := fun a b => pg_sub a b set_list)))
    dss_nil))))
    dss_nil)
    (dss_cons (ds_if (dc_op (op_eqY hr.units) ops_eq (de_op op_mod ops_mod (de_op op_fdiv ops_div (de_var (pv 12)) de_int) (de_var (pv 5))) de_int).tt
    (dss_cons (ds_set (i := 14) sc__law_ground.nd rfl (Or.inl rfl) (de_fn g__law_whole_step hr (by decide) (by rfl) tk (da_cons (de_ix (hu_of hr) (de_var (pv 1)) (de_var (pv 11)) (fun _ _ => rfl)) (da_cons (de_var (pv 13)) (da_cons (de_op op_fdiv ops_div (de_var (pv 12)) de_int) da_nil))) (len_cons (len_cons (len_cons (fun _ _ _ _ h => len_nil h))))))
    (dss_one (ds_expr (de_bm (fun h g => pe_bm PySem.F.plainAttrs_list PySem.F.slot_list_append PySem.F.type_list_append mt_append h g) ty_list ms_append (de_ix (hu_of hr) (de_var (pv 8)) (de_ix (hu_of hr) (de_var (pv 3)) (de_op op_mod ops_mod (de_op op_fdiv ops_div (de_var (pv 12)) de_int) (de_cb (f := .builtin "len") (fun h => pe_callB call_len (by rfl) T.b_len (by decide +kernel) h) cs_len (da_cons (de_var (pv 3)) da_nil))) (fun _ _ => rfl)) (fun _ _ => rfl)) (da_cons (de_var (pv 14)) da_nil)))))
    dss_nil)
    (dss_one (ds_if (dc_op opr_gt ops_gt (de_op op_mod ops_mod (de_op op_fdiv ops_div (de_var (pv 12)) de_int) de_int) de_int).tt
    (dss_one (ds_put (hu_of hr) (de_var (pv 9)) (de_ix (hu_of hr) (de_var (pv 1)) (de_var (pv 11)) (fun _ _ => rfl)) (dc_op (op_eqY hr.units) ops_eq (de_op op_mod ops_mod (de_op op_fdiv ops_div (de_var (pv 12)) de_int) (de_var (pv 5))) de_int).ee (hg := fun a b => pg_sub a b set_list)))
    dss_nil)))))))
    (dss_one (ds_ret (de_lst false (da_cons (de_var (pv 6)) (da_cons (de_var (pv 7)) (da_cons (de_var (pv 8)) (da_cons (de_var (pv 9)) da_nil)))))))))))))
theorem ok_Ground___init__ (T : Tx B K mg) {c : Str} (mk : Mk K (He.ga K c) (He.ma K (He.ga K c) "__init__")) (hat : mg c = some (.ref (He.ga K c))) {fd : FuncData} (F : FunD K "__init__" "Ground.__init__" (defArgs s_Ground___init__) (defBody s_Ground___init__) (defScope s_Ground___init__) [] [] (He.ma K (He.ga K c) "__init__") fd)  : GoodI B P w K mg base c 1 5 m_Ground___init__ [] := by
  refine good_i mk hat (k := 0) F sc_Ground___init__ rfl (bind_none F (fun _ _ _ _ _ _ us hl => match us, hl with | [_, _, _, _, _], _ => rfl)) (fun cdv A outer s H E hr => ?_)
  have tk1 := takes_of (X := cxOf (L2.CX P w) P w K mg base N_Ground___init__ "Ground.__init__" (defScope s_Ground___init__) (He.ma K (He.ga K c) "__init__") cdv A outer s H E) rfl rfl rfl (E₁ := _) rfl
  have tk := tk_of tk1
  exact (dss_cons (ds_fld T.f_lie_of (de_var (pv 0)) (de_var (pv 1)))
    (dss_cons (ds_fld T.f_stiff_ones (de_var (pv 0)) (de_var (pv 2)))
    (dss_cons (ds_fld T.f_path_of (de_var (pv 0)) (de_var (pv 3)))
    (dss_one (ds_fld T.f_told (de_var (pv 0)) (de_var (pv 4)))))))
theorem ok__law_made (T : Tx B K mg) {fd : FuncData} (F : FnP K mg "_law_made" s__law_made fd) (i_Ground : GoodI B P w K mg base "Ground" 1 5 m_Ground___init__ []) : Good B P w K mg base "_law_made" fd 3 ["_law_rows"] 1 m__law_made := by
  obtain ⟨F, hm⟩ := F
  refine good_of (k := 2) F hm sc__law_made rfl (fun _ _ _ _ _ _ us hl => match us, hl with | [_], _ => rfl) (fun cdv A outer s H E hr => ?_)
  have tk1 := takes_of (X := cxOf (L2.CX P w) P w K mg base N__law_made "_law_made" (defScope s__law_made) (He.ga K "_law_made") cdv A outer s H E) rfl rfl rfl (E₁ := _) rfl
  have tk := tk_of tk1
  exact (dss_cons (ds_set (i := 1) sc__law_made.nd rfl (Or.inl rfl) (de_newK true))
    (dss_cons (ds_forD (kind := 0) (passes_of rfl) rfl (dp_ix (dp_var (pv 0))) (fun _ h => ⟨_, idict_keys h⟩) (dg_name (i := 2) sc__law_made.nd rfl (Or.inl rfl))
    (dss_one (ds_put (hu_of hr) (de_var (pv 1)) (de_var (pv 2)) (de_cb (f := .type "list") (fun h => pe_callTy call_list_of (by rfl) T.b_list (by decide +kernel) h) (cs_list true) (da_cons (de_ix (hu_of hr) (de_ix (hu_of hr) (de_var (pv 0)) de_int (fun _ _ => rfl)) (de_var (pv 2)) (fun _ _ => rfl)) da_nil)) (hg := fun a b => pg_sub a b set_list))))
    (dss_one (ds_ret (de_frz (de_make (a := 4) (j := 0) (dfl := []) i_Ground hr (by decide) (by rfl) tk (da_cons (de_cb (f := .type "dict") (fun h => pe_callTy call_dictD (by rfl) T.b_dict (by decide +kernel) h) (cs_dict true) (da_cons (de_ix (hu_of hr) (de_var (pv 0)) de_int (fun _ _ => rfl)) da_nil)) (da_cons (de_cb (f := .type "dict") (fun h => pe_callTy call_dictD (by rfl) T.b_dict (by decide +kernel) h) (cs_dict true) (da_cons (de_ix (hu_of hr) (de_var (pv 0)) de_int (fun _ _ => rfl)) da_nil)) (da_cons (de_var (pv 1)) (da_cons (de_cb (f := .type "dict") (fun h => pe_callTy call_dictD (by rfl) T.b_dict (by decide +kernel) h) (cs_dict true) (da_cons (de_ix (hu_of hr) (de_var (pv 0)) de_int (fun _ _ => rfl)) da_nil)) da_nil)))) (len_cons (len_cons (len_cons (len_cons (fun _ _ _ _ h => len_nil h))))) (by decide) rfl))))))
theorem ok__law_name (T : Tx B K mg) {fd : FuncData} (F : FnP K mg "_law_name" s__law_name fd)  : Good B P w K mg base "_law_name" fd 1 ["_law_number"] 1 m__law_name := by
  obtain ⟨F, hm⟩ := F
  refine good_of (k := 0) F hm sc__law_name rfl (fun _ _ _ _ _ _ us hl => match us, hl with | [_], _ => rfl) (fun cdv A outer s H E hr => ?_)
  have tk1 := takes_of (X := cxOf (L2.CX P w) P w K mg base N__law_name "_law_name" (defScope s__law_name) (He.ga K "_law_name") cdv A outer s H E) rfl rfl rfl (E₁ := _) rfl
  have tk := tk_of tk1
  exact (dss_cons (ds_set (i := 1) sc__law_name.nd rfl (Or.inl rfl) de_str)
    (dss_cons (ds_set (i := 2) sc__law_name.nd rfl (Or.inl rfl) (de_ix (hu_of hr) (de_var (pv 1)) (de_op op_mod ops_mod (de_var (pv 0)) de_int) (fun _ _ => rfl)))
    (dss_cons (ds_set (i := 0) sc__law_name.nd rfl (Or.inl rfl) (de_op op_fdiv ops_div (de_var (pv 0)) de_int))
    (dss_cons (ds_for (passes_of rfl) rfl (di_range1 (by rfl) T.b_range (da_cons (de_op op_mod ops_mod (de_var (pv 0)) de_int) da_nil) (len_cons (fun _ _ _ _ h => len_nil h))) (dg_name (i := 3) sc__law_name.nd rfl (Or.inl rfl))
    (dss_one (ds_set (i := 2) sc__law_name.nd rfl (Or.inl rfl) (de_op opr_add (ops_add false) (de_var (pv 2)) (de_ix (hu_of hr) (de_op opr_add (ops_add false) (de_var (pv 1)) de_str) (de_op op_mod ops_mod (de_op op_fdiv ops_div (de_op opr_add (ops_add false) (de_op op_fdiv ops_div (de_var (pv 0)) de_int) (de_op op_mul ops_mul de_int (de_var (pv 3)))) (de_op opr_add (ops_add false) (de_var (pv 3)) de_int)) de_int) (fun _ _ => rfl))))))
    (dss_one (ds_ret (de_var (pv 2))))))))
theorem ok__law_names (T : Tx B K mg) {fd : FuncData} (F : FnP K mg "_law_names" s__law_names fd) {fd__law_mixed : FuncData} (g__law_mixed : Good B P w K mg base "_law_mixed" fd__law_mixed 1 ["_law_script", "_law_k"] 2 m__law_mixed) {fd__law_name : FuncData} (g__law_name : Good B P w K mg base "_law_name" fd__law_name 1 ["_law_number"] 1 m__law_name) : Good B P w K mg base "_law_names" fd 2 ["_law_script", "_law_at", "_law_many"] 3 m__law_names := by
  obtain ⟨F, hm⟩ := F
  refine good_of (k := 1) F hm sc__law_names rfl (fun _ _ _ _ _ _ us hl => match us, hl with | [_, _, _], _ => rfl) (fun cdv A outer s H E hr => ?_)
  have tk1 := takes_of (X := cxOf (L2.CX P w) P w K mg base N__law_names "_law_names" (defScope s__law_names) (He.ga K "_law_names") cdv A outer s H E) rfl rfl rfl (E₁ := _) rfl
  have tk := tk_of tk1
  exact (dss_cons (ds_set (i := 3) sc__law_names.nd rfl (Or.inl rfl) (de_lst true da_nil))
    (dss_cons (ds_set (i := 4) sc__law_names.nd rfl (Or.inl rfl) (de_var (pv 1)))
    (dss_cons (ds_while (passes_of rfl) (dc_op opr_lt ops_lt (de_cb (f := .builtin "len") (fun h => pe_callB call_len (by rfl) T.b_len (by decide +kernel) h) cs_len (da_cons (de_var (pv 3)) da_nil)) (de_var (pv 2))).tt
    (dss_cons (ds_set (i := 5) sc__law_names.nd rfl (Or.inl rfl) (de_fn g__law_name hr (by decide) (by rfl) tk (da_cons (de_fn g__law_mixed hr (by decide) (by rfl) tk (da_cons (de_var (pv 0)) (da_cons (de_var (pv 4)) da_nil)) (len_cons (len_cons (fun _ _ _ _ h => len_nil h)))) da_nil) (len_cons (fun _ _ _ _ h => len_nil h))))
    (dss_cons (ds_if (dc_notin (hu_of hr) rfl (de_var (pv 5)) (de_var (pv 3))).tt
    (dss_one (ds_expr (de_bm (fun h g => pe_bm PySem.F.plainAttrs_list PySem.F.slot_list_append PySem.F.type_list_append mt_append h g) ty_list ms_append (de_var (pv 3)) (da_cons (de_var (pv 5)) da_nil))))
    dss_nil)
    (dss_one (ds_set (i := 4) sc__law_names.nd rfl (Or.inl rfl) (de_op opr_add (ops_add false) (de_var (pv 4)) de_int))))))
    (dss_one (ds_ret (de_frz (de_var (pv 3))))))))
theorem ok__law_route (T : Tx B K mg) {fd : FuncData} (F : FnP K mg "_law_route" s__law_route fd) {fd__law_mixed : FuncData} (g__law_mixed : Good B P w K mg base "_law_mixed" fd__law_mixed 1 ["_law_script", "_law_k"] 2 m__law_mixed) {fd__law_whole_step : FuncData} (g__law_whole_step : Good B P w K mg base "_law_whole_step" fd__law_whole_step 1 ["_law_part", "_law_lie", "_law_number"] 3 m__law_whole_step) : Good B P w K mg base "_law_route" fd 2 ["_law_script", "_law_names_here", "_law_at"] 3 m__law_route := by
  obtain ⟨F, hm⟩ := F
  refine good_of (k := 1) F hm sc__law_route rfl (fun _ _ _ _ _ _ us hl => match us, hl with | [_, _, _], _ => rfl) (fun cdv A outer s H E hr => ?_)
  have tk1 := takes_of (X := cxOf (L2.CX P w) P w K mg base N__law_route "_law_route" (defScope s__law_route) (He.ga K "_law_route") cdv A outer s H E) rfl rfl rfl (E₁ := _) rfl
  have tk := tk_of tk1
  exact (dss_cons (ds_set (i := 3) sc__law_route.nd rfl (Or.inl rfl) (de_lst true da_nil))
    (dss_cons (ds_for (passes_of rfl) rfl (di_range1 (by rfl) T.b_range (da_cons (de_cb (f := .builtin "len") (fun h => pe_callB call_len (by rfl) T.b_len (by decide +kernel) h) cs_len (da_cons (de_var (pv 1)) da_nil)) da_nil) (len_cons (fun _ _ _ _ h => len_nil h))) (dg_name (i := 4) sc__law_route.nd rfl (Or.inl rfl))
    (dss_cons (ds_set (i := 5) sc__law_route.nd rfl (Or.inl rfl) (de_fn g__law_mixed hr (by decide) (by rfl) tk (da_cons (de_var (pv 0)) (da_cons (de_op opr_add (ops_add false) (de_var (pv 2)) (de_var (pv 4))) da_nil)) (len_cons (len_cons (fun _ _ _ _ h => len_nil h)))))
    (dss_one (ds_expr (de_bm (fun h g => pe_bm PySem.F.plainAttrs_list PySem.F.slot_list_append PySem.F.type_list_append mt_append h g) ty_list ms_append (de_var (pv 3)) (da_cons (de_fn g__law_whole_step hr (by decide) (by rfl) tk (da_cons (de_ix (hu_of hr) (de_var (pv 1)) (de_var (pv 4)) (fun _ _ => rfl)) (da_cons (de_ix (hu_of hr) (de_lst false (da_cons de_str (da_cons de_str (da_cons de_str (da_cons de_str da_nil))))) (de_op op_mod ops_mod (de_var (pv 5)) de_int) (fun _ _ => rfl)) (da_cons (de_op op_fdiv ops_div (de_var (pv 5)) de_int) da_nil))) (len_cons (len_cons (len_cons (fun _ _ _ _ h => len_nil h))))) da_nil))))))
    (dss_cons (ds_if (DW.dt (dw_and (dc_op (op_eqY hr.units) ops_eq (de_ix (hu_of hr) (de_ix (hu_of hr) (de_var (pv 3)) de_neg1 (fun _ _ => rfl)) de_int (fun _ _ => rfl)) de_str).tt (dw_and1 (dc_op (op_eqY hr.units) ops_eq (de_op op_mod ops_mod (de_op op_fdiv ops_div (de_fn g__law_mixed hr (by decide) (by rfl) tk (da_cons (de_var (pv 0)) (da_cons (de_var (pv 2)) da_nil)) (len_cons (len_cons (fun _ _ _ _ h => len_nil h)))) de_int) de_int) de_int).tt)))
    (dss_one (ds_put (hu_of hr) (de_var (pv 3)) de_neg1 (de_tup (da_cons (de_ix (hu_of hr) (de_var (pv 1)) de_neg1 (fun _ _ => rfl)) (da_cons de_str (da_cons de_str (da_cons de_str da_nil))))) (hg := fun a b => pg_sub a b set_list)))
    dss_nil)
    (dss_one (ds_ret (de_cb (f := .type "tuple") (fun h => pe_callTy call_tuple_of (by rfl) T.b_tuple (by decide +kernel) h) cs_tuple (da_cons (de_op opr_add (ops_add false) (de_lst false (da_cons de_str da_nil)) (de_var (pv 3))) da_nil)))))))
theorem ok__law_alike (T : Tx B K mg) {fd : FuncData} (F : FnP K mg "_law_alike" s__law_alike fd)  : Good B P w K mg base "_law_alike" fd 1 ["_law_found", "_law_due"] 2 m__law_alike := by
  obtain ⟨F, hm⟩ := F
  refine good_of (k := 0) F hm sc__law_alike rfl (fun _ _ _ _ _ _ us hl => match us, hl with | [_, _], _ => rfl) (fun cdv A outer s H E hr => ?_)
  have tk1 := takes_of (X := cxOf (L2.CX P w) P w K mg base N__law_alike "_law_alike" (defScope s__law_alike) (He.ga K "_law_alike") cdv A outer s H E) rfl rfl rfl (E₁ := _) rfl
  have tk := tk_of tk1
  exact (dss_cons (ds_if (dc_op op_isN ops_is (de_var (pv 1)) de_non).tt
    (dss_one (ds_ret (dc_op op_isN ops_is (de_var (pv 0)) de_non).ee))
    dss_nil)
    (dss_cons (ds_if (DW.dt (dw_or (dt_not (dt_val (de_cb (f := .builtin "isinstance") (fun h => pe_callB call_isi (by rfl) T.b_isinstance (by decide +kernel) h) cs_isT (da_cons (de_var (pv 0)) (da_cons (de_c (pe_bltn (v := .ty "tuple") (by rfl) T.b_tuple (by decide +kernel) rfl) (fun _ => .ty "tuple")) da_nil))))) (dw_or1 (dc_op (op_neY hr.units) ops_ne (de_cb (f := .builtin "len") (fun h => pe_callB call_len (by rfl) T.b_len (by decide +kernel) h) cs_len (da_cons (de_var (pv 0)) da_nil)) de_int).tt)))
    (dss_one (ds_ret de_bl))
    dss_nil)
    (dss_one (ds_ret (de_and (de_cb (f := .builtin "isinstance") (fun h => pe_callB call_isi (by rfl) T.b_isinstance (by decide +kernel) h) cs_isT (da_cons (de_ix (hu_of hr) (de_var (pv 0)) de_int (fun _ _ => rfl)) (da_cons (de_c (pe_bltn (v := .ty "str") (by rfl) T.b_str (by decide +kernel) rfl) (fun _ => .ty "str")) da_nil))) (de_and (de_cb (f := .builtin "isinstance") (fun h => pe_callB call_isi (by rfl) T.b_isinstance (by decide +kernel) h) cs_isT (da_cons (de_ix (hu_of hr) (de_var (pv 0)) de_int (fun _ _ => rfl)) (da_cons (de_c (pe_bltn (v := .ty "str") (by rfl) T.b_str (by decide +kernel) rfl) (fun _ => .ty "str")) da_nil))) (de_one (dc_op (op_eqY hr.units) ops_eq (de_var (pv 0)) (de_var (pv 1))).ee)))))))
theorem ok_parts_of (T : Tx B K mg) {fd : FuncData} (F : FnP K mg "parts_of" s_parts_of fd)  : Good B P w K mg base "parts_of" fd 1 ["steps"] 1 m_parts_of := by
  obtain ⟨F, hm⟩ := F
  refine good_of (k := 0) F hm sc_parts_of rfl (fun _ _ _ _ _ _ us hl => match us, hl with | [_], _ => rfl) (fun cdv A outer s H E hr => ?_)
  have tk1 := takes_of (X := cxOf (L2.CX P w) P w K mg base N_parts_of "parts_of" (defScope s_parts_of) (He.ga K "parts_of") cdv A outer s H E) rfl rfl rfl (E₁ := _) rfl
  have tk := tk_of tk1
  exact (dss_one (ds_ret (de_lc (own := [("step", 1)]) false rfl sc_parts_of.nd (di_seq (de_var (pv 0))) (blkOk_by (N := N_parts_of) (sc := defScope s_parts_of) (own := [("step", 1)]) (by decide +kernel)) (dgw_name (i := 1) (by rintro _ ⟨s1, H1, C1, cl1, fp1, rfl⟩; exact pg_name (i := 1) sc_parts_of.nd rfl (Or.inl rfl))) dtb_nil (deb_of (by rintro _ ⟨s1, H1, C1, cl1, fp1, rfl⟩; exact (de_ix (hu_of hr) (de_var (pv 1)) de_int (fun _ _ => rfl)))))))
theorem ok_holder (T : Tx B K mg) {fd : FuncData} (F : FnP K mg "holder" s_holder fd) {fd_parts_of : FuncData} (g_parts_of : Good B P w K mg base "parts_of" fd_parts_of 1 ["steps"] 1 m_parts_of) : Good B P w K mg base "holder" fd 2 ["paths", "part"] 2 m_holder := by
  obtain ⟨F, hm⟩ := F
  refine good_of (k := 1) F hm sc_holder rfl (fun _ _ _ _ _ _ us hl => match us, hl with | [_, _], _ => rfl) (fun cdv A outer s H E hr => ?_)
  have tk1 := takes_of (X := cxOf (L2.CX P w) P w K mg base N_holder "holder" (defScope s_holder) (He.ga K "holder") cdv A outer s H E) rfl rfl rfl (E₁ := _) rfl
  have tk := tk_of tk1
  exact (dss_cons (ds_forD (kind := 0) (passes_of rfl) rfl (dp_var (pv 0)) (fun _ h => ⟨_, idict_keys h⟩) (dg_name (i := 2) sc_holder.nd rfl (Or.inl rfl))
    (dss_one (ds_if (dc_in (hu_of hr) rfl (de_var (pv 1)) (de_fn g_parts_of hr (by decide) (by rfl) tk (da_cons (de_ix (hu_of hr) (de_var (pv 0)) (de_var (pv 2)) (fun _ _ => rfl)) da_nil) (len_cons (fun _ _ _ _ h => len_nil h)))).tt
    (dss_one (ds_ret (de_var (pv 2))))
    dss_nil)))
    (dss_one (ds_ret de_str)))
theorem okc_not_held (T : Tx B K mg) {fd_holder : FuncData} (g_holder : Good B P w K mg base "holder" fd_holder 2 ["paths", "part"] 2 m_holder) : GoodC B P w K mg base S_not_held 3 1 m_c_not_held := by
  refine goodC_of (k := 2) sc_c_not_held rfl (fun _ _ _ _ _ us hl => match us, hl with | [_], _ => rfl) (fun cl c' f A outer s H E hr => ?_)
  have tk1 := takes_of (X := NdefX.ncx (L2.CX P w) P w K mg base N_c_not_held (S_not_held.nf cl c') f A outer s H E) rfl rfl rfl (E₁ := _) rfl
  have tk := tk_of tk1
  exact (dss_cons (ds_if (dc_op (op_neY hr.units) ops_ne (de_fn g_holder hr (by decide) (by rfl) tk (da_cons (de_fld T.f_path_of (de_var (pv 0))) (da_cons (de_var (pv 1)) da_nil)) (len_cons (len_cons (fun _ _ _ _ h => len_nil h)))) de_str).tt
    (dss_one (ds_ret (de_tup (da_cons de_str (da_cons (de_var (pv 1)) da_nil)))))
    dss_nil)
    (dss_one (ds_ret de_non)))
theorem okc_not_taken (T : Tx B K mg)  : GoodC B P w K mg base S_not_taken 1 1 m_c_not_taken := by
  refine goodC_of (k := 0) sc_c_not_taken rfl (fun _ _ _ _ _ us hl => match us, hl with | [_], _ => rfl) (fun cl c' f A outer s H E hr => ?_)
  have tk1 := takes_of (X := NdefX.ncx (L2.CX P w) P w K mg base N_c_not_taken (S_not_taken.nf cl c') f A outer s H E) rfl rfl rfl (E₁ := _) rfl
  have tk := tk_of tk1
  exact (dss_cons (ds_if (dt_val (de_get2 (hu_of hr) (de_fld T.f_told (de_var (pv 0))) (de_var (pv 1)) de_bl ⟨rfl, rfl, rfl, rfl⟩))
    (dss_one (ds_ret (de_tup (da_cons de_str (da_cons (de_var (pv 1)) da_nil)))))
    dss_nil)
    (dss_one (ds_ret de_non)))
theorem okc_not_stiff (T : Tx B K mg)  : GoodC B P w K mg base S_not_stiff 1 1 m_c_not_stiff := by
  refine goodC_of (k := 0) sc_c_not_stiff rfl (fun _ _ _ _ _ us hl => match us, hl with | [_], _ => rfl) (fun cl c' f A outer s H E hr => ?_)
  have tk1 := takes_of (X := NdefX.ncx (L2.CX P w) P w K mg base N_c_not_stiff (S_not_stiff.nf cl c') f A outer s H E) rfl rfl rfl (E₁ := _) rfl
  have tk := tk_of tk1
  exact (dss_cons (ds_if (dt_val (de_get2 (hu_of hr) (de_fld T.f_stiff_ones (de_var (pv 0))) (de_var (pv 1)) de_bl ⟨rfl, rfl, rfl, rfl⟩))
    (dss_one (ds_ret (de_tup (da_cons de_str (da_cons (de_var (pv 1)) da_nil)))))
    dss_nil)
    (dss_one (ds_ret de_non)))
theorem okc_lying_so (T : Tx B K mg) (hB : B.bz = some [("lying_so" : Str)]) (gt_tbc1_c_lying_so : CloTb B ["lying_so"] P w K mg base 3 1 tbc1_c_lying_so) : GoodC B P w K mg base S_lying_so 4 1 m_c_lying_so := by
  refine goodC_of (k := 3) sc_c_lying_so rfl (fun _ _ _ _ _ us hl => match us, hl with | [_], _ => rfl) (fun cl c' f A outer s H E hr => ?_)
  have tk1 := takes_of (X := NdefX.ncx (L2.CX P w) P w K mg base N_c_lying_so (S_lying_so.nf cl c') f A outer s H E) rfl rfl rfl (E₁ := _) rfl
  have tk := tk_of tk1
  exact (dss_cons (ds_if (dc_op (op_eqY hr.units) ops_eq (de_get2 (hu_of hr) (de_fld T.f_lie_of (de_var (pv 0))) (de_var (pv 2)) de_str ⟨rfl, rfl, rfl, rfl⟩) (de_var (pv 1))).tt
    (dss_one (ds_ret de_non))
    dss_nil)
    (dss_one (ds_ret (de_clo (i := 3) (tb := tbc1_c_lying_so) (l := ["lying_so"]) hB gt_tbc1_c_lying_so hr (by decide) rfl (by first | exact Or.inl rfl | exact Or.inr (Or.inl rfl) | exact Or.inr (Or.inr rfl)) (da_cons (de_var (pv 0)) da_nil) (len_cons (fun _ _ _ _ h => len_nil h))))))
theorem ok__law_told (T : Tx B K mg) {fd : FuncData} (F : FnP K mg "_law_told" s__law_told fd) (hB : B.bz = some []) {fd__law_alike : FuncData} (g__law_alike : Good B P w K mg base "_law_alike" fd__law_alike 1 ["_law_found", "_law_due"] 2 m__law_alike) (gt_tbc1__law_told : CloTb B [] P w K mg base 4 1 tbc1__law_told) : Good B P w K mg base "_law_told" fd 5 ["_law_rules", "_law_ground_here", "_law_due"] 3 m__law_told := by
  obtain ⟨F, hm⟩ := F
  refine good_of (k := 4) F hm sc__law_told rfl (fun _ _ _ _ _ _ us hl => match us, hl with | [_, _, _], _ => rfl) (fun cdv A outer s H E hr => ?_)
  have tk1 := takes_of (X := cxOf (L2.CX P w) P w K mg base N__law_told "_law_told" (defScope s__law_told) (He.ga K "_law_told") cdv A outer s H E) rfl rfl rfl (E₁ := _) rfl
  have tk := tk_of tk1
  exact (dss_cons (ds_if (DW.dt (dw_or (dt_not (dt_val (de_cb (f := .builtin "isinstance") (fun h => pe_callB call_isi (by rfl) T.b_isinstance (by decide +kernel) h) cs_isT (da_cons (de_var (pv 0)) (da_cons (de_c (pe_bltn (v := .ty "list") (by rfl) T.b_list (by decide +kernel) rfl) (fun _ => .ty "list")) da_nil))))) (dw_or1 (dc_op (op_neY hr.units) ops_ne (de_cb (f := .builtin "len") (fun h => pe_callB call_len (by rfl) T.b_len (by decide +kernel) h) cs_len (da_cons (de_var (pv 0)) da_nil)) (de_cb (f := .builtin "len") (fun h => pe_callB call_len (by rfl) T.b_len (by decide +kernel) h) cs_len (da_cons (de_var (pv 2)) da_nil))).tt)))
    (dss_one (ds_ret de_bl))
    dss_nil)
    (dss_cons (ds_for (passes_of rfl) rfl (di_zip rfl (by rfl) T.b_zip (de_var (pv 0)) (de_var (pv 2))) (dg_tup rfl (dgs_cons (dg_name (i := 3) sc__law_told.nd rfl (Or.inl rfl)) (dgs_cons (dg_name (i := 4) sc__law_told.nd rfl (Or.inl rfl)) dgs_nil)))
    (dss_one (ds_if (dt_not (dt_val (de_fn g__law_alike hr (by decide) (by rfl) tk (da_cons (de_clo (i := 3) (tb := tbc1__law_told) (l := []) hB gt_tbc1__law_told hr (by decide) rfl (by first | exact Or.inl rfl | exact Or.inr (Or.inl rfl) | exact Or.inr (Or.inr rfl)) (da_cons (de_var (pv 1)) da_nil) (len_cons (fun _ _ _ _ h => len_nil h))) (da_cons (de_var (pv 4)) da_nil)) (len_cons (len_cons (fun _ _ _ _ h => len_nil h))))))
    (dss_one (ds_ret de_bl))
    dss_nil)))
    (dss_one (ds_ret de_bl))))
theorem ok__law_held (T : Tx B K mg) {fd : FuncData} (F : FnP K mg "_law_held" s__law_held fd)  : Good B P w K mg base "_law_held" fd 1 ["_law_paths", "_law_part"] 2 m__law_held := by
  obtain ⟨F, hm⟩ := F
  refine good_of (k := 0) F hm sc__law_held rfl (fun _ _ _ _ _ _ us hl => match us, hl with | [_, _], _ => rfl) (fun cdv A outer s H E hr => ?_)
  have tk1 := takes_of (X := cxOf (L2.CX P w) P w K mg base N__law_held "_law_held" (defScope s__law_held) (He.ga K "_law_held") cdv A outer s H E) rfl rfl rfl (E₁ := _) rfl
  have tk := tk_of tk1
  exact (dss_cons (ds_forD (kind := 0) (passes_of rfl) rfl (dp_var (pv 0)) (fun _ h => ⟨_, idict_keys h⟩) (dg_name (i := 2) sc__law_held.nd rfl (Or.inl rfl))
    (dss_one (ds_if (dc_in (hu_of hr) rfl (de_var (pv 1)) (de_lc (own := [("_law_step", 3)]) false rfl sc__law_held.nd (di_seq (de_ix (hu_of hr) (de_var (pv 0)) (de_var (pv 2)) (fun _ _ => rfl))) (blkOk_by (N := N__law_held) (sc := defScope s__law_held) (own := [("_law_step", 3)]) (by decide +kernel)) (dgw_name (i := 3) (by rintro _ ⟨s1, H1, C1, cl1, fp1, rfl⟩; exact pg_name (i := 3) sc__law_held.nd rfl (Or.inl rfl))) dtb_nil (deb_of (by rintro _ ⟨s1, H1, C1, cl1, fp1, rfl⟩; exact (de_ix (hu_of hr) (de_var (pv 3)) de_int (fun _ _ => rfl)))))).tt
    (dss_one (ds_ret de_bl))
    dss_nil)))
    (dss_one (ds_ret de_bl)))
theorem ok__law_turned (T : Tx B K mg) {fd : FuncData} (F : FnP K mg "_law_turned" s__law_turned fd) {fd__law_held : FuncData} (g__law_held : Good B P w K mg base "_law_held" fd__law_held 1 ["_law_paths", "_law_part"] 2 m__law_held) {fd__law_whole_step : FuncData} (g__law_whole_step : Good B P w K mg base "_law_whole_step" fd__law_whole_step 1 ["_law_part", "_law_lie", "_law_number"] 3 m__law_whole_step) : Good B P w K mg base "_law_turned" fd 2 ["_law_rows", "_law_names_here", "_law_trains", "_law_number"] 4 m__law_turned := by
  obtain ⟨F, hm⟩ := F
  refine good_of (k := 1) F hm sc__law_turned rfl (fun _ _ _ _ _ _ us hl => match us, hl with | [_, _, _, _], _ => rfl) (fun cdv A outer s H E hr => ?_)
  have tk1 := takes_of (X := cxOf (L2.CX P w) P w K mg base N__law_turned "_law_turned" (defScope s__law_turned) (He.ga K "_law_turned") cdv A outer s H E) rfl rfl rfl (E₁ := _) rfl
  have tk := tk_of tk1
  exact (dss_cons (ds_set (i := 4) sc__law_turned.nd rfl (Or.inr rfl) (de_ix (hu_of hr) (de_var (pv 1)) (de_op op_mod ops_mod (de_var (pv 3)) (de_cb (f := .builtin "len") (fun h => pe_callB call_len (by rfl) T.b_len (by decide +kernel) h) cs_len (da_cons (de_var (pv 1)) da_nil))) (fun _ _ => rfl)))
    (dss_cons (ds_set (i := 5) sc__law_turned.nd rfl (Or.inl rfl) (de_op op_mod ops_mod (de_op op_fdiv ops_div (de_var (pv 3)) de_int) de_int))
    (dss_one (ds_if (DW.dt (dw_and (dc_op (op_eqY hr.units) ops_eq (de_var (pv 5)) de_int).tt (dw_and1 (dt_not (dt_val (de_fn g__law_held hr (by decide) (by rfl) tk (da_cons (de_ix (hu_of hr) (de_var (pv 0)) de_int (fun _ _ => rfl)) (da_cons (de_var (pv 4)) da_nil)) (len_cons (len_cons (fun _ _ _ _ h => len_nil h)))))))))
    (dss_one (ds_expr (de_bm (fun h g => pe_bm PySem.F.plainAttrs_list PySem.F.slot_list_append PySem.F.type_list_append mt_append h g) ty_list ms_append (de_ix (hu_of hr) (de_ix (hu_of hr) (de_var (pv 0)) de_int (fun _ _ => rfl)) (de_ix (hu_of hr) (de_var (pv 2)) de_int (fun _ _ => rfl)) (fun _ _ => rfl)) (da_cons (de_fn g__law_whole_step hr (by decide) (by rfl) tk (da_cons (de_var (pv 4)) (da_cons (de_get2 (hu_of hr) (de_ix (hu_of hr) (de_var (pv 0)) de_int (fun _ _ => rfl)) (de_var (pv 4)) de_str ⟨rfl, rfl, rfl, rfl⟩) (da_cons (de_op op_fdiv ops_div (de_var (pv 3)) de_int) da_nil))) (len_cons (len_cons (len_cons (fun _ _ _ _ h => len_nil h))))) da_nil))))
    (dss_one (ds_if (dc_op (op_eqY hr.units) ops_eq (de_var (pv 5)) de_int).tt
    (dss_one (ds_for (passes_of rfl) rfl (di_seq (de_var (pv 2))) (dg_name (i := 6) sc__law_turned.nd rfl (Or.inl rfl))
    (dss_one (ds_put (hu_of hr) (de_ix (hu_of hr) (de_var (pv 0)) de_int (fun _ _ => rfl)) (de_var (pv 6)) (de_lc (own := [("_law_step", 7)]) true rfl sc__law_turned.nd (di_seq (de_ix (hu_of hr) (de_ix (hu_of hr) (de_var (pv 0)) de_int (fun _ _ => rfl)) (de_var (pv 6)) (fun _ _ => rfl))) (blkOk_by (N := N__law_turned) (sc := defScope s__law_turned) (own := [("_law_step", 7)]) (by decide +kernel)) (dgw_name (i := 7) (by rintro _ ⟨s1, H1, C1, cl1, fp1, rfl⟩; exact pg_name (i := 7) sc__law_turned.nd rfl (Or.inl rfl))) (dtb_of (by rintro _ ⟨s1, H1, C1, cl1, fp1, rfl⟩; exact (dc_op (op_neY hr.units) ops_ne (de_ix (hu_of hr) (de_var (pv 7)) de_int (fun _ _ => rfl)) (de_var (pv 4))).tt)) (deb_of (by rintro _ ⟨s1, H1, C1, cl1, fp1, rfl⟩; exact (de_var (pv 7))))) (hg := fun a b => pg_sub a b set_list)))))
    (dss_one (ds_if (dc_op (op_eqY hr.units) ops_eq (de_var (pv 5)) de_int).tt
    (dss_one (ds_put (hu_of hr) (de_ix (hu_of hr) (de_var (pv 0)) de_int (fun _ _ => rfl)) (de_var (pv 4)) (de_not (de_get2 (hu_of hr) (de_ix (hu_of hr) (de_var (pv 0)) de_int (fun _ _ => rfl)) (de_var (pv 4)) de_bl ⟨rfl, rfl, rfl, rfl⟩)) (hg := fun a b => pg_sub a b set_list)))
    (dss_one (ds_if (dc_notin (hu_of hr) rfl (de_var (pv 4)) (de_ix (hu_of hr) (de_var (pv 0)) de_int (fun _ _ => rfl))).tt
    (dss_one (ds_put (hu_of hr) (de_ix (hu_of hr) (de_var (pv 0)) de_int (fun _ _ => rfl)) (de_var (pv 4)) de_bl (hg := fun a b => pg_sub a b set_list)))
    (dss_one (ds_if (DW.dt (dw_and (dc_op (op_eqY hr.units) ops_eq (de_var (pv 5)) de_int).tt (dw_and1 (dc_in (hu_of hr) rfl (de_var (pv 4)) (de_ix (hu_of hr) (de_var (pv 0)) de_int (fun _ _ => rfl))).tt)))
    (dss_one (ds_expr (de_dpop1 (de_ix (hu_of hr) (de_var (pv 0)) de_int (fun _ _ => rfl)) (de_var (pv 4)) ⟨rfl, rfl, rfl, rfl⟩)))
    (dss_one (ds_if (dc_op (op_eqY hr.units) ops_eq (de_var (pv 5)) de_int).tt
    (dss_one (ds_put (hu_of hr) (de_ix (hu_of hr) (de_var (pv 0)) de_int (fun _ _ => rfl)) (de_var (pv 4)) de_bl (hg := fun a b => pg_sub a b set_list)))
    (dss_one (ds_put (hu_of hr) (de_ix (hu_of hr) (de_var (pv 0)) de_int (fun _ _ => rfl)) (de_var (pv 4)) (de_ix (hu_of hr) (de_disp false (dps_cons de_str de_str (dps_cons de_str de_str dps_nil))) (de_ix (hu_of hr) (de_ix (hu_of hr) (de_var (pv 0)) de_int (fun _ _ => rfl)) (de_var (pv 4)) (fun _ _ => rfl)) (fun _ _ => rfl)) (hg := fun a b => pg_sub a b set_list)))))))))))))))))
theorem ok__law_words (T : Tx B K mg) {fd : FuncData} (F : FnP K mg "_law_words" s__law_words fd) {fd__law_held : FuncData} (g__law_held : Good B P w K mg base "_law_held" fd__law_held 1 ["_law_paths", "_law_part"] 2 m__law_held) : Good B P w K mg base "_law_words" fd 2 ["_law_route_here", "_law_rows"] 2 m__law_words := by
  obtain ⟨F, hm⟩ := F
  refine good_of (k := 1) F hm sc__law_words rfl (fun _ _ _ _ _ _ us hl => match us, hl with | [_, _], _ => rfl) (fun cdv A outer s H E hr => ?_)
  have tk1 := takes_of (X := cxOf (L2.CX P w) P w K mg base N__law_words "_law_words" (defScope s__law_words) (He.ga K "_law_words") cdv A outer s H E) rfl rfl rfl (E₁ := _) rfl
  have tk := tk_of tk1
  exact (dss_cons (ds_set (i := 2) sc__law_words.nd rfl (Or.inl rfl) (de_lst true da_nil))
    (dss_cons (ds_for (passes_of rfl) rfl (di_seq (de_slice false (de_var (pv 0)) (do_some de_int) do_none)) (dg_name (i := 3) sc__law_words.nd rfl (Or.inl rfl))
    (dss_cons (ds_set (i := 4) sc__law_words.nd rfl (Or.inl rfl) (de_ix (hu_of hr) (de_var (pv 3)) de_int (fun _ _ => rfl)))
    (dss_cons (ds_expr (de_bm (fun h g => pe_bm PySem.F.plainAttrs_list PySem.F.slot_list_append PySem.F.type_list_append mt_append h g) ty_list ms_append (de_var (pv 2)) (da_cons (de_ix (hu_of hr) (de_lst false (da_cons de_non (da_cons (de_tup (da_cons de_str (da_cons (de_var (pv 4)) da_nil))) da_nil))) (de_cb (f := .type "int") (fun h => pe_callTy call_int1 (by rfl) T.b_int (by decide +kernel) h) cs_int (da_cons (de_fn g__law_held hr (by decide) (by rfl) tk (da_cons (de_ix (hu_of hr) (de_var (pv 1)) de_int (fun _ _ => rfl)) (da_cons (de_var (pv 4)) da_nil)) (len_cons (len_cons (fun _ _ _ _ h => len_nil h)))) da_nil)) (fun _ _ => rfl)) da_nil)))
    (dss_cons (ds_expr (de_bm (fun h g => pe_bm PySem.F.plainAttrs_list PySem.F.slot_list_append PySem.F.type_list_append mt_append h g) ty_list ms_append (de_var (pv 2)) (da_cons (de_ix (hu_of hr) (de_lst false (da_cons de_non (da_cons (de_tup (da_cons de_str (da_cons (de_var (pv 4)) da_nil))) da_nil))) (de_cb (f := .type "int") (fun h => pe_callTy call_int1 (by rfl) T.b_int (by decide +kernel) h) cs_int (da_cons (de_get2 (hu_of hr) (de_ix (hu_of hr) (de_var (pv 1)) de_int (fun _ _ => rfl)) (de_var (pv 4)) de_bl ⟨rfl, rfl, rfl, rfl⟩) da_nil)) (fun _ _ => rfl)) da_nil)))
    (dss_one (ds_if (dc_op (op_neY hr.units) ops_ne (de_ix (hu_of hr) (de_var (pv 3)) de_int (fun _ _ => rfl)) de_str).tt
    (dss_one (ds_expr (de_bm (fun h g => pe_bm PySem.F.plainAttrs_list PySem.F.slot_list_append PySem.F.type_list_append mt_append h g) ty_list ms_append (de_var (pv 2)) (da_cons (de_ix (hu_of hr) (de_lst false (da_cons de_non (da_cons (de_tup (da_cons de_str (da_cons (de_var (pv 4)) da_nil))) da_nil))) (de_cb (f := .type "int") (fun h => pe_callTy call_int1 (by rfl) T.b_int (by decide +kernel) h) cs_int (da_cons (de_and (dc_op (op_neY hr.units) ops_ne (de_ix (hu_of hr) (de_ix (hu_of hr) (de_var (pv 1)) de_int (fun _ _ => rfl)) (de_var (pv 4)) (fun _ _ => rfl)) (de_ix (hu_of hr) (de_var (pv 3)) de_int (fun _ _ => rfl))).ee (de_one (dc_in (hu_of hr) rfl (de_var (pv 4)) (de_ix (hu_of hr) (de_var (pv 1)) de_int (fun _ _ => rfl))).ee)) da_nil)) (fun _ _ => rfl)) da_nil))))
    dss_nil))))))
    (dss_one (ds_ret (de_frz (de_var (pv 2)))))))
theorem ok_not_stiff (T : Tx B K mg) {fd : FuncData} (F : FnP K mg "not_stiff" s_not_stiff fd) (hB : B.bz = some []) (hcf : B.cf "not_stiff" = some S_not_stiff) (hT : B.T = TL) (TB : LamX.TabB base mg (He.cT K ("not_stiff", none)).1 (He.cT K ("not_stiff", none)).2) : Good B P w K mg base "not_stiff" fd 1 ["points"] 1 m_not_stiff := by
  obtain ⟨F, hm⟩ := F
  refine good_mk (k := 0) F hm sc_not_stiff rfl (fun _ _ _ _ _ _ us hl => match us, hl with | [_], _ => rfl) (fun cdv A outer s H E hc hr => ?_)
  have tk1 := takes_of (X := cxOf (L2.CX P w) P w K mg base N_not_stiff "not_stiff" (defScope s_not_stiff) (He.ga K "not_stiff") cdv A outer s H E) rfl rfl rfl (E₁ := _) rfl
  have tk := tk_of tk1
  exact (dm_end (i := 1) (js := [0]) hB hcf (by rfl) TB hc (by rw [hT]; exact List.mem_map.mpr ⟨("not_stiff", none), by decide, rfl⟩) (by kernel_rfl) (fun r hr _ => by rw [hT] at hr; obtain ⟨_, _, rfl⟩ := List.mem_map.mp hr; rfl) ndf_not_stiff (by decide +kernel) (by decide) rfl rfl rfl sc_not_stiff.nd rfl (Or.inl rfl) (Or.inl rfl) (Or.inl rfl) rfl (by decide))
theorem ok_lying_so (T : Tx B K mg) {fd : FuncData} (F : FnP K mg "lying_so" s_lying_so fd) (hB : B.bz = some []) (hcf : B.cf "lying_so" = some S_lying_so) (hT : B.T = TL) (TB : LamX.TabB base mg (He.cT K ("lying_so", none)).1 (He.cT K ("lying_so", none)).2) {fd_not_stiff : FuncData} (g_not_stiff : Good B P w K mg base "not_stiff" fd_not_stiff 1 ["points"] 1 m_not_stiff) : Good B P w K mg base "lying_so" fd 2 ["points", "lie"] 2 m_lying_so := by
  obtain ⟨F, hm⟩ := F
  refine good_mk (k := 1) F hm sc_lying_so rfl (fun _ _ _ _ _ _ us hl => match us, hl with | [_, _], _ => rfl) (fun cdv A outer s H E hc hr => ?_)
  have tk1 := takes_of (X := cxOf (L2.CX P w) P w K mg base N_lying_so "lying_so" (defScope s_lying_so) (He.ga K "lying_so") cdv A outer s H E) rfl rfl rfl (E₁ := _) rfl
  have tk := tk_of tk1
  exact (dm_cons (ds_set (i := 3) sc_lying_so.nd rfl (Or.inr rfl) (de_fn g_not_stiff hr (by decide) (by rfl) tk (da_cons (de_var (pv 0)) da_nil) (len_cons (fun _ _ _ _ h => len_nil h))))
    (dm_end (i := 2) (js := [1, 0, 3]) hB hcf (by rfl) TB hc (by rw [hT]; exact List.mem_map.mpr ⟨("lying_so", none), by decide, rfl⟩) (by kernel_rfl) (fun r hr _ => by rw [hT] at hr; obtain ⟨_, _, rfl⟩ := List.mem_map.mp hr; rfl) ndf_lying_so (by decide +kernel) (by decide) rfl rfl rfl sc_lying_so.nd rfl (Or.inl rfl) (Or.inl rfl) (Or.inl rfl) rfl (by decide)))
theorem ok_not_held (T : Tx B K mg) {fd : FuncData} (F : FnP K mg "not_held" s_not_held fd) (hB : B.bz = some []) (hcf : B.cf "not_held" = some S_not_held) (hT : B.T = TL) (TB : LamX.TabB base mg (He.cT K ("not_held", none)).1 (He.cT K ("not_held", none)).2) : Good B P w K mg base "not_held" fd 1 ["part"] 1 m_not_held := by
  obtain ⟨F, hm⟩ := F
  refine good_mk (k := 0) F hm sc_not_held rfl (fun _ _ _ _ _ _ us hl => match us, hl with | [_], _ => rfl) (fun cdv A outer s H E hc hr => ?_)
  have tk1 := takes_of (X := cxOf (L2.CX P w) P w K mg base N_not_held "not_held" (defScope s_not_held) (He.ga K "not_held") cdv A outer s H E) rfl rfl rfl (E₁ := _) rfl
  have tk := tk_of tk1
  exact (dm_end (i := 1) (js := [0]) hB hcf (by rfl) TB hc (by rw [hT]; exact List.mem_map.mpr ⟨("not_held", none), by decide, rfl⟩) (by kernel_rfl) (fun r hr _ => by rw [hT] at hr; obtain ⟨_, _, rfl⟩ := List.mem_map.mp hr; rfl) ndf_not_held (by decide +kernel) (by decide) rfl rfl rfl sc_not_held.nd rfl (Or.inl rfl) (Or.inl rfl) (Or.inl rfl) rfl (by decide))
theorem ok_not_taken (T : Tx B K mg) {fd : FuncData} (F : FnP K mg "not_taken" s_not_taken fd) (hB : B.bz = some []) (hcf : B.cf "not_taken" = some S_not_taken) (hT : B.T = TL) (TB : LamX.TabB base mg (He.cT K ("not_taken", none)).1 (He.cT K ("not_taken", none)).2) : Good B P w K mg base "not_taken" fd 1 ["part"] 1 m_not_taken := by
  obtain ⟨F, hm⟩ := F
  refine good_mk (k := 0) F hm sc_not_taken rfl (fun _ _ _ _ _ _ us hl => match us, hl with | [_], _ => rfl) (fun cdv A outer s H E hc hr => ?_)
  have tk1 := takes_of (X := cxOf (L2.CX P w) P w K mg base N_not_taken "not_taken" (defScope s_not_taken) (He.ga K "not_taken") cdv A outer s H E) rfl rfl rfl (E₁ := _) rfl
  have tk := tk_of tk1
  exact (dm_end (i := 1) (js := [0]) hB hcf (by rfl) TB hc (by rw [hT]; exact List.mem_map.mpr ⟨("not_taken", none), by decide, rfl⟩) (by kernel_rfl) (fun r hr _ => by rw [hT] at hr; obtain ⟨_, _, rfl⟩ := List.mem_map.mp hr; rfl) ndf_not_taken (by decide +kernel) (by decide) rfl rfl rfl sc_not_taken.nd rfl (Or.inl rfl) (Or.inl rfl) (Or.inl rfl) rfl (by decide))
theorem ok_rules_of (T : Tx B K mg) {fd : FuncData} (F : FnP K mg "rules_of" s_rules_of fd) {fd_lying_so : FuncData} (g_lying_so : Good B P w K mg base "lying_so" fd_lying_so 2 ["points", "lie"] 2 m_lying_so) {fd_not_held : FuncData} (g_not_held : Good B P w K mg base "not_held" fd_not_held 1 ["part"] 1 m_not_held) {fd_not_taken : FuncData} (g_not_taken : Good B P w K mg base "not_taken" fd_not_taken 1 ["part"] 1 m_not_taken) : Good B P w K mg base "rules_of" fd 3 ["route"] 1 m_rules_of := by
  obtain ⟨F, hm⟩ := F
  refine good_of (k := 2) F hm sc_rules_of rfl (fun _ _ _ _ _ _ us hl => match us, hl with | [_], _ => rfl) (fun cdv A outer s H E hr => ?_)
  have tk1 := takes_of (X := cxOf (L2.CX P w) P w K mg base N_rules_of "rules_of" (defScope s_rules_of) (He.ga K "rules_of") cdv A outer s H E) rfl rfl rfl (E₁ := _) rfl
  have tk := tk_of tk1
  exact (dss_cons (ds_set (i := 1) sc_rules_of.nd rfl (Or.inl rfl) (de_lst true da_nil))
    (dss_cons (ds_for (passes_of rfl) rfl (di_seq (de_slice false (de_var (pv 0)) (do_some de_int) do_none)) (dg_name (i := 2) sc_rules_of.nd rfl (Or.inl rfl))
    (dss_cons (ds_expr (de_bm (fun h g => pe_bm PySem.F.plainAttrs_list PySem.F.slot_list_append PySem.F.type_list_append mt_append h g) ty_list ms_append (de_var (pv 1)) (da_cons (de_fn g_not_held hr (by decide) (by rfl) tk (da_cons (de_ix (hu_of hr) (de_var (pv 2)) de_int (fun _ _ => rfl)) da_nil) (len_cons (fun _ _ _ _ h => len_nil h))) da_nil)))
    (dss_cons (ds_expr (de_bm (fun h g => pe_bm PySem.F.plainAttrs_list PySem.F.slot_list_append PySem.F.type_list_append mt_append h g) ty_list ms_append (de_var (pv 1)) (da_cons (de_fn g_not_taken hr (by decide) (by rfl) tk (da_cons (de_ix (hu_of hr) (de_var (pv 2)) de_int (fun _ _ => rfl)) da_nil) (len_cons (fun _ _ _ _ h => len_nil h))) da_nil)))
    (dss_one (ds_if (dc_op (op_neY hr.units) ops_ne (de_ix (hu_of hr) (de_var (pv 2)) de_int (fun _ _ => rfl)) de_str).tt
    (dss_one (ds_expr (de_bm (fun h g => pe_bm PySem.F.plainAttrs_list PySem.F.slot_list_append PySem.F.type_list_append mt_append h g) ty_list ms_append (de_var (pv 1)) (da_cons (de_fn g_lying_so hr (by decide) (by rfl) tk (da_cons (de_ix (hu_of hr) (de_var (pv 2)) de_int (fun _ _ => rfl)) (da_cons (de_ix (hu_of hr) (de_var (pv 2)) de_int (fun _ _ => rfl)) da_nil)) (len_cons (len_cons (fun _ _ _ _ h => len_nil h)))) da_nil))))
    dss_nil)))))
    (dss_one (ds_ret (de_var (pv 1))))))
theorem ok_law (T : Tx B K mg) {fd : FuncData} (F : FnP K mg "law" s_law fd) {fd__law_cell : FuncData} (g__law_cell : Good B P w K mg base "_law_cell" fd__law_cell 1 ["_law_script", "_law_k"] 2 m__law_cell) {fd__law_fields : FuncData} (g__law_fields : Good B P w K mg base "_law_fields" fd__law_fields 1 ["_law_ground_here"] 1 m__law_fields) {fd__law_ground : FuncData} (g__law_ground : Good B P w K mg base "_law_ground" fd__law_ground 2 ["_law_script", "_law_names_here", "_law_points", "_law_trains", "_law_at", "_law_rare"] 6 m__law_ground) {fd__law_made : FuncData} (g__law_made : Good B P w K mg base "_law_made" fd__law_made 3 ["_law_rows"] 1 m__law_made) {fd__law_mixed : FuncData} (g__law_mixed : Good B P w K mg base "_law_mixed" fd__law_mixed 1 ["_law_script", "_law_k"] 2 m__law_mixed) {fd__law_names : FuncData} (g__law_names : Good B P w K mg base "_law_names" fd__law_names 2 ["_law_script", "_law_at", "_law_many"] 3 m__law_names) {fd__law_route : FuncData} (g__law_route : Good B P w K mg base "_law_route" fd__law_route 2 ["_law_script", "_law_names_here", "_law_at"] 3 m__law_route) {fd__law_told : FuncData} (g__law_told : Good B P w K mg base "_law_told" fd__law_told 5 ["_law_rules", "_law_ground_here", "_law_due"] 3 m__law_told) {fd__law_turned : FuncData} (g__law_turned : Good B P w K mg base "_law_turned" fd__law_turned 2 ["_law_rows", "_law_names_here", "_law_trains", "_law_number"] 4 m__law_turned) {fd__law_words : FuncData} (g__law_words : Good B P w K mg base "_law_words" fd__law_words 2 ["_law_route_here", "_law_rows"] 2 m__law_words) {fd_rules_of : FuncData} (g_rules_of : Good B P w K mg base "rules_of" fd_rules_of 3 ["route"] 1 m_rules_of) : Good B P w K mg base "law" fd 6 ["_law_script"] 1 m_law := by
  obtain ⟨F, hm⟩ := F
  refine good_of (k := 5) F hm sc_law rfl (fun _ _ _ _ _ _ us hl => match us, hl with | [_], _ => rfl) (fun cdv A outer s H E hr => ?_)
  have tk1 := takes_of (X := cxOf (L2.CX P w) P w K mg base N_law "law" (defScope s_law) (He.ga K "law") cdv A outer s H E) rfl rfl rfl (E₁ := _) rfl
  have tk := tk_of tk1
  exact (dss_cons (ds_set (i := 1) sc_law.nd rfl (Or.inl rfl) (de_fn g__law_names hr (by decide) (by rfl) tk (da_cons (de_var (pv 0)) (da_cons de_int (da_cons (de_op opr_add (ops_add false) de_int (de_op op_mod ops_mod (de_fn g__law_cell hr (by decide) (by rfl) tk (da_cons (de_var (pv 0)) (da_cons de_int da_nil)) (len_cons (len_cons (fun _ _ _ _ h => len_nil h)))) de_int)) da_nil))) (len_cons (len_cons (len_cons (fun _ _ _ _ h => len_nil h))))))
    (dss_cons (ds_set (i := 2) sc_law.nd rfl (Or.inl rfl) (de_fn g__law_names hr (by decide) (by rfl) tk (da_cons (de_var (pv 0)) (da_cons de_int (da_cons (de_op opr_add (ops_add false) de_int (de_op op_mod ops_mod (de_fn g__law_cell hr (by decide) (by rfl) tk (da_cons (de_var (pv 0)) (da_cons de_int da_nil)) (len_cons (len_cons (fun _ _ _ _ h => len_nil h)))) de_int)) da_nil))) (len_cons (len_cons (len_cons (fun _ _ _ _ h => len_nil h))))))
    (dss_cons (ds_set (i := 3) sc_law.nd rfl (Or.inl rfl) (de_fn g__law_route hr (by decide) (by rfl) tk (da_cons (de_var (pv 0)) (da_cons (de_var (pv 1)) (da_cons de_int da_nil))) (len_cons (len_cons (len_cons (fun _ _ _ _ h => len_nil h))))))
    (dss_cons (ds_setLc (i := 4) (own := [("_law_step", 11)]) false rfl sc_law.nd rfl rfl (sw_true rfl rfl rfl (by decide +kernel)) (di_seq (de_slice false (de_var (pv 3)) (do_some de_int) do_none)) (blkOk_by (N := N_law) (sc := defScope s_law) (own := [("_law_step", 11)]) (by decide +kernel)) (dgw_name (i := 11) (by rintro _ ⟨s1, H1, C1, cl1, fp1, rfl⟩; exact pg_name (i := 11) sc_law.nd rfl (Or.inl rfl))) (dtb_of (by rintro _ ⟨s1, H1, C1, cl1, fp1, rfl⟩; exact (dc_op (op_neY hr.units) ops_ne (de_ix (hu_of hr) (de_var (pv 11)) de_int (fun _ _ => rfl)) de_str).tt)) (deb_of (by rintro _ ⟨s1, H1, C1, cl1, fp1, rfl⟩; exact (de_ix (hu_of hr) (de_var (pv 11)) de_int (fun _ _ => rfl)))))
    (dss_cons (ds_set (i := 5) sc_law.nd rfl (Or.inl rfl) (de_fn g__law_ground hr (by decide) (by rfl) tk (da_cons (de_var (pv 0)) (da_cons (de_var (pv 1)) (da_cons (de_var (pv 4)) (da_cons (de_var (pv 2)) (da_cons de_int (da_cons (de_op opr_add (ops_add false) de_int (de_op op_mod ops_mod (de_fn g__law_cell hr (by decide) (by rfl) tk (da_cons (de_var (pv 0)) (da_cons de_int da_nil)) (len_cons (len_cons (fun _ _ _ _ h => len_nil h)))) de_int)) da_nil)))))) (len_cons (len_cons (len_cons (len_cons (len_cons (len_cons (fun _ _ _ _ h => len_nil h)))))))))
    (dss_cons (ds_set (i := 6) sc_law.nd rfl (Or.inl rfl) (de_fn g__law_ground hr (by decide) (by rfl) tk (da_cons (de_var (pv 0)) (da_cons (de_var (pv 1)) (da_cons (de_var (pv 4)) (da_cons (de_var (pv 2)) (da_cons de_int (da_cons (de_op opr_add (ops_add false) de_int (de_op op_mod ops_mod (de_fn g__law_cell hr (by decide) (by rfl) tk (da_cons (de_var (pv 0)) (da_cons de_int da_nil)) (len_cons (len_cons (fun _ _ _ _ h => len_nil h)))) de_int)) da_nil)))))) (len_cons (len_cons (len_cons (len_cons (len_cons (len_cons (fun _ _ _ _ h => len_nil h)))))))))
    (dss_cons (ds_set (i := 7) sc_law.nd rfl (Or.inl rfl) (de_lst false (da_cons (de_fn g__law_made hr (by decide) (by rfl) tk (da_cons (de_var (pv 5)) da_nil) (len_cons (fun _ _ _ _ h => len_nil h))) (da_cons (de_fn g__law_made hr (by decide) (by rfl) tk (da_cons (de_var (pv 6)) da_nil) (len_cons (fun _ _ _ _ h => len_nil h))) da_nil))))
    (dss_cons (ds_if (DW.dt (dw_or (dc_op (op_neG hr.units) ops_neG (de_fn g__law_fields hr (by decide) (by rfl) tk (da_cons (de_ix (hu_of hr) (de_var (pv 7)) de_int (fun _ _ => rfl)) da_nil) (len_cons (fun _ _ _ _ h => len_nil h))) (de_var (pv 5))).tt (dw_or1 (dc_op (op_neG hr.units) ops_neG (de_fn g__law_fields hr (by decide) (by rfl) tk (da_cons (de_ix (hu_of hr) (de_var (pv 7)) de_int (fun _ _ => rfl)) da_nil) (len_cons (fun _ _ _ _ h => len_nil h))) (de_var (pv 6))).tt)))
    (dss_one (ds_ret de_bl))
    dss_nil)
    (dss_cons (ds_set (i := 8) sc_law.nd rfl (Or.inl rfl) (de_fn g_rules_of hr (by decide) (by rfl) tk (da_cons (de_var (pv 3)) da_nil) (len_cons (fun _ _ _ _ h => len_nil h))))
    (dss_cons (ds_for (passes_of rfl) rfl (di_seq (de_lst false (da_cons de_int (da_cons de_int (da_cons de_int da_nil))))) (dg_name (i := 9) sc_law.nd rfl (Or.inl rfl))
    (dss_one (ds_if (dt_not (dt_val (de_fn g__law_told hr (by decide) (by rfl) tk (da_cons (de_var (pv 8)) (da_cons (de_ix (hu_of hr) (de_var (pv 7)) (de_var (pv 9)) (fun _ _ => rfl)) (da_cons (de_fn g__law_words hr (by decide) (by rfl) tk (da_cons (de_var (pv 3)) (da_cons (de_ix (hu_of hr) (de_lst false (da_cons (de_var (pv 5)) (da_cons (de_var (pv 6)) da_nil))) (de_var (pv 9)) (fun _ _ => rfl)) da_nil)) (len_cons (len_cons (fun _ _ _ _ h => len_nil h)))) da_nil))) (len_cons (len_cons (len_cons (fun _ _ _ _ h => len_nil h)))))))
    (dss_one (ds_ret de_bl))
    dss_nil)))
    (dss_cons (ds_set (i := 10) sc_law.nd rfl (Or.inl rfl) (de_fn g_rules_of hr (by decide) (by rfl) tk (da_cons (de_var (pv 3)) da_nil) (len_cons (fun _ _ _ _ h => len_nil h))))
    (dss_cons (ds_expr (de_bm0 (fun h => pe_bm0 PySem.F.plainAttrs_list PySem.F.slot_list_reverse PySem.F.type_list_reverse mt_reverse h) ty_list ms_reverse (de_var (pv 10))))
    (dss_cons (ds_if (dt_not (dt_val (de_fn g__law_told hr (by decide) (by rfl) tk (da_cons (de_fn g_rules_of hr (by decide) (by rfl) tk (da_cons (de_var (pv 3)) da_nil) (len_cons (fun _ _ _ _ h => len_nil h))) (da_cons (de_ix (hu_of hr) (de_var (pv 7)) de_int (fun _ _ => rfl)) (da_cons (de_fn g__law_words hr (by decide) (by rfl) tk (da_cons (de_var (pv 3)) (da_cons (de_var (pv 6)) da_nil)) (len_cons (len_cons (fun _ _ _ _ h => len_nil h)))) da_nil))) (len_cons (len_cons (len_cons (fun _ _ _ _ h => len_nil h)))))))
    (dss_one (ds_ret de_bl))
    dss_nil)
    (dss_cons (ds_if (DW.dt (dw_or (dc_op (op_neG hr.units) ops_neG (de_fn g__law_fields hr (by decide) (by rfl) tk (da_cons (de_ix (hu_of hr) (de_var (pv 7)) de_int (fun _ _ => rfl)) da_nil) (len_cons (fun _ _ _ _ h => len_nil h))) (de_var (pv 5))).tt (dw_or1 (dc_op (op_neG hr.units) ops_neG (de_fn g__law_fields hr (by decide) (by rfl) tk (da_cons (de_ix (hu_of hr) (de_var (pv 7)) de_int (fun _ _ => rfl)) da_nil) (len_cons (fun _ _ _ _ h => len_nil h))) (de_var (pv 6))).tt)))
    (dss_one (ds_ret de_bl))
    dss_nil)
    (dss_cons (ds_for (passes_of rfl) rfl (di_range1 (by rfl) T.b_range (da_cons de_int da_nil) (len_cons (fun _ _ _ _ h => len_nil h))) (dg_name (i := 9) sc_law.nd rfl (Or.inl rfl))
    (dss_cons (ds_expr (de_fn g__law_turned hr (by decide) (by rfl) tk (da_cons (de_var (pv 5)) (da_cons (de_var (pv 1)) (da_cons (de_var (pv 2)) (da_cons (de_fn g__law_mixed hr (by decide) (by rfl) tk (da_cons (de_var (pv 0)) (da_cons (de_op opr_add (ops_add false) de_int (de_var (pv 9))) da_nil)) (len_cons (len_cons (fun _ _ _ _ h => len_nil h)))) da_nil)))) (len_cons (len_cons (len_cons (len_cons (fun _ _ _ _ h => len_nil h)))))))
    (dss_cons (ds_expr (de_fn g__law_turned hr (by decide) (by rfl) tk (da_cons (de_fn g__law_fields hr (by decide) (by rfl) tk (da_cons (de_ix (hu_of hr) (de_var (pv 7)) de_int (fun _ _ => rfl)) da_nil) (len_cons (fun _ _ _ _ h => len_nil h))) (da_cons (de_var (pv 1)) (da_cons (de_var (pv 2)) (da_cons (de_fn g__law_mixed hr (by decide) (by rfl) tk (da_cons (de_var (pv 0)) (da_cons (de_op opr_add (ops_add false) de_int (de_var (pv 9))) da_nil)) (len_cons (len_cons (fun _ _ _ _ h => len_nil h)))) da_nil)))) (len_cons (len_cons (len_cons (len_cons (fun _ _ _ _ h => len_nil h)))))))
    (dss_one (ds_if (dt_not (dt_val (de_fn g__law_told hr (by decide) (by rfl) tk (da_cons (de_var (pv 8)) (da_cons (de_ix (hu_of hr) (de_var (pv 7)) de_int (fun _ _ => rfl)) (da_cons (de_fn g__law_words hr (by decide) (by rfl) tk (da_cons (de_var (pv 3)) (da_cons (de_var (pv 5)) da_nil)) (len_cons (len_cons (fun _ _ _ _ h => len_nil h)))) da_nil))) (len_cons (len_cons (len_cons (fun _ _ _ _ h => len_nil h)))))))
    (dss_one (ds_ret de_bl))
    dss_nil)))))
    (dss_one (ds_ret (de_fn g__law_told hr (by decide) (by rfl) tk (da_cons (de_var (pv 8)) (da_cons (de_ix (hu_of hr) (de_var (pv 7)) de_int (fun _ _ => rfl)) (da_cons (de_fn g__law_words hr (by decide) (by rfl) tk (da_cons (de_var (pv 3)) (da_cons (de_var (pv 6)) da_nil)) (len_cons (len_cons (fun _ _ _ _ h => len_nil h)))) da_nil))) (len_cons (len_cons (len_cons (fun _ _ _ _ h => len_nil h))))))))))))))))))))))
end
/-! the head -/
def d__law_cell : He.DefD := ⟨("_law_cell", none), "_law_cell", "_law_cell", defArgs s__law_cell, defBody s__law_cell, defScope s__law_cell, [], []⟩
def d__law_fields : He.DefD := ⟨("_law_fields", none), "_law_fields", "_law_fields", defArgs s__law_fields, defBody s__law_fields, defScope s__law_fields, [], []⟩
def d__law_mixed : He.DefD := ⟨("_law_mixed", none), "_law_mixed", "_law_mixed", defArgs s__law_mixed, defBody s__law_mixed, defScope s__law_mixed, [], []⟩
def d__law_whole_step : He.DefD := ⟨("_law_whole_step", none), "_law_whole_step", "_law_whole_step", defArgs s__law_whole_step, defBody s__law_whole_step, defScope s__law_whole_step, [], []⟩
def d__law_ground : He.DefD := ⟨("_law_ground", none), "_law_ground", "_law_ground", defArgs s__law_ground, defBody s__law_ground, defScope s__law_ground, [], []⟩
def d__law_made : He.DefD := ⟨("_law_made", none), "_law_made", "_law_made", defArgs s__law_made, defBody s__law_made, defScope s__law_made, [], []⟩
def d__law_name : He.DefD := ⟨("_law_name", none), "_law_name", "_law_name", defArgs s__law_name, defBody s__law_name, defScope s__law_name, [], []⟩
def d__law_names : He.DefD := ⟨("_law_names", none), "_law_names", "_law_names", defArgs s__law_names, defBody s__law_names, defScope s__law_names, [], []⟩
def d__law_route : He.DefD := ⟨("_law_route", none), "_law_route", "_law_route", defArgs s__law_route, defBody s__law_route, defScope s__law_route, [], []⟩
def d__law_alike : He.DefD := ⟨("_law_alike", none), "_law_alike", "_law_alike", defArgs s__law_alike, defBody s__law_alike, defScope s__law_alike, [], []⟩
def d_parts_of : He.DefD := ⟨("parts_of", none), "parts_of", "parts_of", defArgs s_parts_of, defBody s_parts_of, defScope s_parts_of, [], []⟩
def d_holder : He.DefD := ⟨("holder", none), "holder", "holder", defArgs s_holder, defBody s_holder, defScope s_holder, [], []⟩
def d__law_told : He.DefD := ⟨("_law_told", none), "_law_told", "_law_told", defArgs s__law_told, defBody s__law_told, defScope s__law_told, [], []⟩
def d__law_held : He.DefD := ⟨("_law_held", none), "_law_held", "_law_held", defArgs s__law_held, defBody s__law_held, defScope s__law_held, [], []⟩
def d__law_turned : He.DefD := ⟨("_law_turned", none), "_law_turned", "_law_turned", defArgs s__law_turned, defBody s__law_turned, defScope s__law_turned, [], []⟩
def d__law_words : He.DefD := ⟨("_law_words", none), "_law_words", "_law_words", defArgs s__law_words, defBody s__law_words, defScope s__law_words, [], []⟩
def d_not_stiff : He.DefD := ⟨("not_stiff", none), "not_stiff", "not_stiff", defArgs s_not_stiff, defBody s_not_stiff, defScope s_not_stiff, [], []⟩
def d_lying_so : He.DefD := ⟨("lying_so", none), "lying_so", "lying_so", defArgs s_lying_so, defBody s_lying_so, defScope s_lying_so, [], []⟩
def d_not_held : He.DefD := ⟨("not_held", none), "not_held", "not_held", defArgs s_not_held, defBody s_not_held, defScope s_not_held, [], []⟩
def d_not_taken : He.DefD := ⟨("not_taken", none), "not_taken", "not_taken", defArgs s_not_taken, defBody s_not_taken, defScope s_not_taken, [], []⟩
def d_rules_of : He.DefD := ⟨("rules_of", none), "rules_of", "rules_of", defArgs s_rules_of, defBody s_rules_of, defScope s_rules_of, [], []⟩
def d_law : He.DefD := ⟨("law", none), "law", "law", defArgs s_law, defBody s_law, defScope s_law, [], []⟩
def d_Ground____init__ : He.DefD := ⟨("Ground", some "__init__"), "__init__", "Ground.__init__", defArgs s_Ground___init__, defBody s_Ground___init__, defScope s_Ground___init__, [], []⟩
def fn : List He.DefD := [d__law_cell, d__law_fields, d__law_mixed, d__law_whole_step, d__law_ground, d__law_made, d__law_name, d__law_names, d__law_route, d__law_alike, d_parts_of, d_holder, d__law_told, d__law_held, d__law_turned, d__law_words, d_not_stiff, d_lying_so, d_not_held, d_not_taken, d_rules_of, d_law, d_Ground____init__]
def fa : List He.Fa := [.glo "_law_cell", .glo "_law_fields", .glo "_law_mixed", .glo "_law_whole_step", .glo "_law_ground", .glo "_law_made", .glo "_law_name", .glo "_law_names", .glo "_law_route", .glo "_law_alike", .glo "parts_of", .glo "holder", .glo "_law_told", .glo "_law_held", .glo "_law_turned", .glo "_law_words", .glo "not_stiff", .glo "lying_so", .glo "not_held", .glo "not_taken", .glo "rules_of", .glo "law", .free "dict", .free "int", .free "isinstance", .free "len", .free "list", .free "range", .free "str", .free "tuple", .free "zip", .cls "Ground", .noat "Ground" "lie_of", .noat "Ground" "path_of", .noat "Ground" "stiff_ones", .noat "Ground" "told", .mkr "Ground", .glo "Ground"]
abbrev R : PySem.W.OpenRow := PySem.W.OpenLaw.row PySem.Challenge.rw_yardkeep_k41_rules_of_a_route
abbrev hk : PySem.W.Hook := hookY 6 fa fn tfL exK
def ob (s : PySem.W.SharedT) : He.AlX := obsY 6 fa fn tfL exK (HandSHeadRun.getT s)
theorem ob_eq (s : PySem.W.SharedT) : ob s = hk.obs s.abs := obsY_eq (HandSHeadRun.getT_eq s)
def loose : List PySem.Str := [("parts_of" : PySem.Str), ("holder" : PySem.Str), ("not_held" : PySem.Str), ("not_taken" : PySem.Str), ("not_stiff" : PySem.Str), ("lying_so" : PySem.Str), ("rules_of" : PySem.Str), ("Ground" : PySem.Str), ("_law_cell" : PySem.Str), ("_law_mixed" : PySem.Str), ("_law_name" : PySem.Str), ("_law_names" : PySem.Str), ("_law_whole_step" : PySem.Str), ("_law_route" : PySem.Str), ("_law_ground" : PySem.Str), ("_law_made" : PySem.Str), ("_law_held" : PySem.Str), ("_law_words" : PySem.Str), ("_law_alike" : PySem.Str), ("_law_told" : PySem.Str), ("_law_turned" : PySem.Str), ("_law_fields" : PySem.Str)]
theorem run (w : World) : HandSHeadRun.RunEq R (PySem.W.view R.prog [26]) hk ob 31200 loose w := by
  intro os
  kernel_rfl
theorem facts {P : Program} {w : World} {K : PySem.W.Frag} {h : Heap} {mg : Str → Option Value} {f : Addr} (X : K.In h) (G : h.Ns mainGlobals mg) (hfa : mg ("law" : Str) = some (.ref f)) (c : He.SaysD fa fn K) (ci : exK K = true) :
    ∃ fd : FuncData, (∀ (s : Shared) (v : Value), BindsTo s fd ⟨[v], []⟩ [("_law_script", v)]) ∧ ∀ base : Heap, K.In base → base.Ns mainGlobals mg → (∀ p ∈ tfL, LamX.TabB base mg (He.cT K p).1 (He.cT K p).2) → FnOk P w K mg base (L2.CX P w) 6 f fd ["_law_script"] (spD (cao BL K) 1 m_law) := by
  obtain ⟨fd__law_cell, F__law_cell⟩ := c.def_ 0 (d := d__law_cell) rfl
  have M__law_cell := He.glo_ok X G (c.fact 0 (f := .glo "_law_cell") rfl)
  obtain ⟨fd__law_fields, F__law_fields⟩ := c.def_ 1 (d := d__law_fields) rfl
  have M__law_fields := He.glo_ok X G (c.fact 1 (f := .glo "_law_fields") rfl)
  obtain ⟨fd__law_mixed, F__law_mixed⟩ := c.def_ 2 (d := d__law_mixed) rfl
  have M__law_mixed := He.glo_ok X G (c.fact 2 (f := .glo "_law_mixed") rfl)
  obtain ⟨fd__law_whole_step, F__law_whole_step⟩ := c.def_ 3 (d := d__law_whole_step) rfl
  have M__law_whole_step := He.glo_ok X G (c.fact 3 (f := .glo "_law_whole_step") rfl)
  obtain ⟨fd__law_ground, F__law_ground⟩ := c.def_ 4 (d := d__law_ground) rfl
  have M__law_ground := He.glo_ok X G (c.fact 4 (f := .glo "_law_ground") rfl)
  obtain ⟨fd__law_made, F__law_made⟩ := c.def_ 5 (d := d__law_made) rfl
  have M__law_made := He.glo_ok X G (c.fact 5 (f := .glo "_law_made") rfl)
  obtain ⟨fd__law_name, F__law_name⟩ := c.def_ 6 (d := d__law_name) rfl
  have M__law_name := He.glo_ok X G (c.fact 6 (f := .glo "_law_name") rfl)
  obtain ⟨fd__law_names, F__law_names⟩ := c.def_ 7 (d := d__law_names) rfl
  have M__law_names := He.glo_ok X G (c.fact 7 (f := .glo "_law_names") rfl)
  obtain ⟨fd__law_route, F__law_route⟩ := c.def_ 8 (d := d__law_route) rfl
  have M__law_route := He.glo_ok X G (c.fact 8 (f := .glo "_law_route") rfl)
  obtain ⟨fd__law_alike, F__law_alike⟩ := c.def_ 9 (d := d__law_alike) rfl
  have M__law_alike := He.glo_ok X G (c.fact 9 (f := .glo "_law_alike") rfl)
  obtain ⟨fd_parts_of, F_parts_of⟩ := c.def_ 10 (d := d_parts_of) rfl
  have M_parts_of := He.glo_ok X G (c.fact 10 (f := .glo "parts_of") rfl)
  obtain ⟨fd_holder, F_holder⟩ := c.def_ 11 (d := d_holder) rfl
  have M_holder := He.glo_ok X G (c.fact 11 (f := .glo "holder") rfl)
  obtain ⟨fd__law_told, F__law_told⟩ := c.def_ 12 (d := d__law_told) rfl
  have M__law_told := He.glo_ok X G (c.fact 12 (f := .glo "_law_told") rfl)
  obtain ⟨fd__law_held, F__law_held⟩ := c.def_ 13 (d := d__law_held) rfl
  have M__law_held := He.glo_ok X G (c.fact 13 (f := .glo "_law_held") rfl)
  obtain ⟨fd__law_turned, F__law_turned⟩ := c.def_ 14 (d := d__law_turned) rfl
  have M__law_turned := He.glo_ok X G (c.fact 14 (f := .glo "_law_turned") rfl)
  obtain ⟨fd__law_words, F__law_words⟩ := c.def_ 15 (d := d__law_words) rfl
  have M__law_words := He.glo_ok X G (c.fact 15 (f := .glo "_law_words") rfl)
  obtain ⟨fd_not_stiff, F_not_stiff⟩ := c.def_ 16 (d := d_not_stiff) rfl
  have M_not_stiff := He.glo_ok X G (c.fact 16 (f := .glo "not_stiff") rfl)
  obtain ⟨fd_lying_so, F_lying_so⟩ := c.def_ 17 (d := d_lying_so) rfl
  have M_lying_so := He.glo_ok X G (c.fact 17 (f := .glo "lying_so") rfl)
  obtain ⟨fd_not_held, F_not_held⟩ := c.def_ 18 (d := d_not_held) rfl
  have M_not_held := He.glo_ok X G (c.fact 18 (f := .glo "not_held") rfl)
  obtain ⟨fd_not_taken, F_not_taken⟩ := c.def_ 19 (d := d_not_taken) rfl
  have M_not_taken := He.glo_ok X G (c.fact 19 (f := .glo "not_taken") rfl)
  obtain ⟨fd_rules_of, F_rules_of⟩ := c.def_ 20 (d := d_rules_of) rfl
  have M_rules_of := He.glo_ok X G (c.fact 20 (f := .glo "rules_of") rfl)
  obtain ⟨fd_law, F_law⟩ := c.def_ 21 (d := d_law) rfl
  have M_law := He.glo_ok X G (c.fact 21 (f := .glo "law") rfl)
  have ci0 : isB isT K = true := ci
  have T : Tx BL K mg := ⟨He.free_ok X G (c.fact 22 (f := .free "dict") rfl),
    He.free_ok X G (c.fact 23 (f := .free "int") rfl),
    He.free_ok X G (c.fact 24 (f := .free "isinstance") rfl),
    He.free_ok X G (c.fact 25 (f := .free "len") rfl),
    He.free_ok X G (c.fact 26 (f := .free "list") rfl),
    He.free_ok X G (c.fact 27 (f := .free "range") rfl),
    He.free_ok X G (c.fact 28 (f := .free "str") rfl),
    He.free_ok X G (c.fact 29 (f := .free "tuple") rfl),
    He.free_ok X G (c.fact 30 (f := .free "zip") rfl),
    ⟨fld_cons (He.cls_ok (c.fact 31 (f := .cls "Ground") rfl)) (He.noat_ok (c.fact 32 (f := .noat "Ground" "lie_of") rfl)) ((fun _ h => (nomatch h)))⟩,
    ⟨fld_cons (He.cls_ok (c.fact 31 (f := .cls "Ground") rfl)) (He.noat_ok (c.fact 33 (f := .noat "Ground" "path_of") rfl)) ((fun _ h => (nomatch h)))⟩,
    ⟨fld_cons (He.cls_ok (c.fact 31 (f := .cls "Ground") rfl)) (He.noat_ok (c.fact 34 (f := .noat "Ground" "stiff_ones") rfl)) ((fun _ h => (nomatch h)))⟩,
    ⟨fld_cons (He.cls_ok (c.fact 31 (f := .cls "Ground") rfl)) (He.noat_ok (c.fact 35 (f := .noat "Ground" "told") rfl)) ((fun _ h => (nomatch h)))⟩,
    isB_ok ci0⟩
  have e := hfa.symm.trans M_law
  cases e
  have b := FunD.bindsA (ps := ["_law_script"]) F_law fun _ _ _ _ _ _ us hl => match us, hl with | [_], _ => rfl
  refine ⟨fd_law, fun s v => b s [v] rfl, fun base _ _ TB => ?_⟩
  have g__law_cell := ok__law_cell (P := P) (w := w) (base := base) T ⟨F__law_cell, M__law_cell⟩ 
  have g__law_fields := ok__law_fields (P := P) (w := w) (base := base) T ⟨F__law_fields, M__law_fields⟩ 
  have g__law_mixed := ok__law_mixed (P := P) (w := w) (base := base) T ⟨F__law_mixed, M__law_mixed⟩ 
  have g__law_whole_step := ok__law_whole_step (P := P) (w := w) (base := base) T ⟨F__law_whole_step, M__law_whole_step⟩ 
  have g__law_ground := ok__law_ground (P := P) (w := w) (base := base) T ⟨F__law_ground, M__law_ground⟩ g__law_mixed g__law_whole_step
  obtain ⟨fd_Ground____init__, F_Ground____init__⟩ := c.def_ 22 (d := d_Ground____init__) rfl
  have i_Ground := ok_Ground___init__ (P := P) (w := w) (base := base) T (c := "Ground") (He.mkr_ok (c.fact 36 (f := .mkr "Ground") rfl)) (He.glo_ok X G (c.fact 37 (f := .glo "Ground") rfl)) F_Ground____init__ 
  have g__law_made := ok__law_made (P := P) (w := w) (base := base) T ⟨F__law_made, M__law_made⟩ i_Ground
  have g__law_name := ok__law_name (P := P) (w := w) (base := base) T ⟨F__law_name, M__law_name⟩ 
  have g__law_names := ok__law_names (P := P) (w := w) (base := base) T ⟨F__law_names, M__law_names⟩ g__law_mixed g__law_name
  have g__law_route := ok__law_route (P := P) (w := w) (base := base) T ⟨F__law_route, M__law_route⟩ g__law_mixed g__law_whole_step
  have g__law_alike := ok__law_alike (P := P) (w := w) (base := base) T ⟨F__law_alike, M__law_alike⟩ 
  have g_parts_of := ok_parts_of (P := P) (w := w) (base := base) T ⟨F_parts_of, M_parts_of⟩ 
  have g_holder := ok_holder (P := P) (w := w) (base := base) T ⟨F_holder, M_holder⟩ g_parts_of
  have T_r_not_held : Tx ((BL).run "not_held") K mg := (T).run (nm := "not_held")
  have g_parts_of_r_not_held := ok_parts_of (B := (BL).run "not_held") (P := P) (w := w) (base := base) T_r_not_held ⟨F_parts_of, M_parts_of⟩ 
  have g_holder_r_not_held := ok_holder (B := (BL).run "not_held") (P := P) (w := w) (base := base) T_r_not_held ⟨F_holder, M_holder⟩ g_parts_of_r_not_held
  have gc_r_not_held := okc_not_held (B := (BL).run "not_held") (P := P) (w := w) (base := base) T_r_not_held g_holder_r_not_held
  have T_r_not_taken : Tx ((BL).run "not_taken") K mg := (T).run (nm := "not_taken")
  have gc_r_not_taken := okc_not_taken (B := (BL).run "not_taken") (P := P) (w := w) (base := base) T_r_not_taken 
  have T_r_not_stiff : Tx ((BL).run "not_stiff") K mg := (T).run (nm := "not_stiff")
  have gc_r_not_stiff := okc_not_stiff (B := (BL).run "not_stiff") (P := P) (w := w) (base := base) T_r_not_stiff 
  have T_r_lying_so : Tx ((BL).run "lying_so") K mg := (T).run (nm := "lying_so")
  have T_r_lying_so_not_held : Tx (((BL).run "lying_so").run "not_held") K mg := ((T).run (nm := "lying_so")).run (nm := "not_held")
  have g_parts_of_r_lying_so_not_held := ok_parts_of (B := ((BL).run "lying_so").run "not_held") (P := P) (w := w) (base := base) T_r_lying_so_not_held ⟨F_parts_of, M_parts_of⟩ 
  have g_holder_r_lying_so_not_held := ok_holder (B := ((BL).run "lying_so").run "not_held") (P := P) (w := w) (base := base) T_r_lying_so_not_held ⟨F_holder, M_holder⟩ g_parts_of_r_lying_so_not_held
  have gc_r_lying_so_not_held := okc_not_held (B := ((BL).run "lying_so").run "not_held") (P := P) (w := w) (base := base) T_r_lying_so_not_held g_holder_r_lying_so_not_held
  have T_r_lying_so_not_taken : Tx (((BL).run "lying_so").run "not_taken") K mg := ((T).run (nm := "lying_so")).run (nm := "not_taken")
  have gc_r_lying_so_not_taken := okc_not_taken (B := ((BL).run "lying_so").run "not_taken") (P := P) (w := w) (base := base) T_r_lying_so_not_taken 
  have T_r_lying_so_not_stiff : Tx (((BL).run "lying_so").run "not_stiff") K mg := ((T).run (nm := "lying_so")).run (nm := "not_stiff")
  have gc_r_lying_so_not_stiff := okc_not_stiff (B := ((BL).run "lying_so").run "not_stiff") (P := P) (w := w) (base := base) T_r_lying_so_not_stiff 
  have gt_tbc1_c_lying_so_r_lying_so : CloTb ((BL).run "lying_so") ["lying_so"] P w K mg base 3 1 tbc1_c_lying_so := (clo_cons (by rfl) gc_r_lying_so_not_held (by decide) (clo_cons (by rfl) gc_r_lying_so_not_taken (by decide) (clo_cons (by rfl) gc_r_lying_so_not_stiff (by decide) clo_nil)))
  have gc_r_lying_so := okc_lying_so (B := (BL).run "lying_so") (P := P) (w := w) (base := base) T_r_lying_so rfl gt_tbc1_c_lying_so_r_lying_so
  have gt_tbc1__law_told : CloTb (BL) [] P w K mg base 4 1 tbc1__law_told := (clo_cons (by rfl) gc_r_not_held (by decide) (clo_cons (by rfl) gc_r_not_taken (by decide) (clo_cons (by rfl) gc_r_not_stiff (by decide) (clo_cons (by rfl) gc_r_lying_so (by decide) clo_nil))))
  have g__law_told := ok__law_told (P := P) (w := w) (base := base) T ⟨F__law_told, M__law_told⟩ rfl g__law_alike gt_tbc1__law_told
  have g__law_held := ok__law_held (P := P) (w := w) (base := base) T ⟨F__law_held, M__law_held⟩ 
  have g__law_turned := ok__law_turned (P := P) (w := w) (base := base) T ⟨F__law_turned, M__law_turned⟩ g__law_held g__law_whole_step
  have g__law_words := ok__law_words (P := P) (w := w) (base := base) T ⟨F__law_words, M__law_words⟩ g__law_held
  have g_not_stiff := ok_not_stiff (P := P) (w := w) (base := base) T ⟨F_not_stiff, M_not_stiff⟩ rfl rfl rfl (TB ("not_stiff", none) (by decide))
  have g_lying_so := ok_lying_so (P := P) (w := w) (base := base) T ⟨F_lying_so, M_lying_so⟩ rfl rfl rfl (TB ("lying_so", none) (by decide)) g_not_stiff
  have g_not_held := ok_not_held (P := P) (w := w) (base := base) T ⟨F_not_held, M_not_held⟩ rfl rfl rfl (TB ("not_held", none) (by decide))
  have g_not_taken := ok_not_taken (P := P) (w := w) (base := base) T ⟨F_not_taken, M_not_taken⟩ rfl rfl rfl (TB ("not_taken", none) (by decide))
  have g_rules_of := ok_rules_of (P := P) (w := w) (base := base) T ⟨F_rules_of, M_rules_of⟩ g_lying_so g_not_held g_not_taken
  exact (ok_law (P := P) (w := w) (base := base) T ⟨F_law, M_law⟩ g__law_cell g__law_fields g__law_ground g__law_made g__law_mixed g__law_names g__law_route g__law_told g__law_turned g__law_words g_rules_of).ex.1
end Lw

set_option Elab.async false
set_option linter.all false
set_option maxRecDepth 100000
set_option maxHeartbeats 4000000
namespace Lw
open PySem L2 Yk
open Yk.Nm Yk.Pt Yk.Gb
theorem c_cell : m__law_cell = cell := rfl
theorem c_mixed : m__law_mixed = mixed := rfl
theorem c_names : m__law_names = names := rfl
theorem c_parts : m_parts_of = partsOf := rfl
theorem c_holder : m_holder = holder := rfl
/-! ### steps -/
abbrev Stq := List Nat × Str × Str × Str
def stD (q : Stq) : D := .tup [S q.1, .str q.2.1, .str q.2.2.1, .str q.2.2.2]
theorem stD_of (q : Stq) : stepOf q.1 (stD q) := ⟨_, _, _, rfl⟩
theorem whole_ok (l : List Nat) (lie : Str) (n : Nat) : ∃ q : Stq, q.1 = l ∧ q.2.2.2 = lie ∧ ∀ O, m__law_whole_step [S l, .str lie, .int (n : Int)] O = .ok (stD q) O := by
  have fin : ∀ (q : Stq) O, trimR O (.ok (stD q) O) = .ok (stD q) O := fun q O => trim_same (.tup (.cons (.str _) (.cons (.str _) (.cons (.str _) (.cons (.str _) .nil)))))
  by_cases hl : lie = ""
  · subst hl
    have m4 : ∀ O, fMod (.int (n : Int)) (.int 4) O = .ok (.int ((n % 4 : Nat) : Int)) O := fun O => by rw [mod_ii (by decide)]; rfl
    obtain ⟨e, o, h1, h2⟩ : ∃ e o : Str, (∀ O, fIx (.lst [.str "a", .str "b", .str "c", .str "d"]) (.int ((n % 4 : Nat) : Int)) O = .ok (.str e) O) ∧
        (∀ O, (dOp fIx (dDisp false [((dC (.str "a")), (dC (.str "b"))), ((dC (.str "b")), (dC (.str "a"))), ((dC (.str "c")), (dC (.str "d"))), ((dC (.str "d")), (dC (.str "c")))]) (dVar 3)) [some (S l), some (.str ""), some (.int (n : Int)), some (.str e)] O = .ok (.str o) O) := by
      have : n % 4 < 4 := Nat.mod_lt _ (by decide)
      generalize n % 4 = r at this
      match r, this with
      | 0, _ => exact ⟨"a", "b", fun O => rfl, fun O => by kernel_rfl⟩
      | 1, _ => exact ⟨"b", "a", fun O => rfl, fun O => by kernel_rfl⟩
      | 2, _ => exact ⟨"c", "d", fun O => rfl, fun O => by kernel_rfl⟩
      | 3, _ => exact ⟨"d", "c", fun O => rfl, fun O => by kernel_rfl⟩
    refine ⟨(l, e, o, ""), rfl, rfl, fun O => ?_⟩
    have hb : b__law_whole_step [some (S l), some (.str ""), some (.int (n : Int)), none] O = .rt (stD (l, e, o, "")) O := by
      unfold b__law_whole_step
      have hc : dVal (dOp fEq (dVar 1) (dC (.str ""))) [some (S l), some (.str ""), some (.int (n : Int)), none] O = .ok true O := rfl
      rw [ap_seq, if_t hc]
      have s3 : dSet 3 (dOp fIx (dLst false (dCons (dC (.str "a")) (dCons (dC (.str "b")) (dCons (dC (.str "c")) (dCons (dC (.str "d")) dNil))))) (dOp fMod (dVar 2) (dC (.int 4)))) [some (S l), some (.str ""), some (.int (n : Int)), none] O = .nx [some (S l), some (.str ""), some (.int (n : Int)), some (.str e)] O := by
        refine (set_ok (d := .str e) (O1 := O) ?_).trans rfl
        have e0 : dLst false (dCons (dC (.str "a")) (dCons (dC (.str "b")) (dCons (dC (.str "c")) (dCons (dC (.str "d")) dNil)))) [some (S l), some (.str ""), some (.int (n : Int)), none] O = .ok (.lst [.str "a", .str "b", .str "c", .str "d"]) O := rfl
        rw [ap_op, e0, bind_ok, ap_op]
        simp only [var_s, var_0, bind_ok, ap_c, m4, h1]
      rw [seq_nx s3]
      have hr : dRet (dTup (dCons (dVar 0) (dCons (dVar 3) (dCons (dOp fIx (dDisp false [((dC (.str "a")), (dC (.str "b"))), ((dC (.str "b")), (dC (.str "a"))), ((dC (.str "c")), (dC (.str "d"))), ((dC (.str "d")), (dC (.str "c")))]) (dVar 3)) (dCons (dC (.str "")) dNil))))) [some (S l), some (.str ""), some (.int (n : Int)), some (.str e)] O = .rt (stD (l, e, o, "")) O := by
        refine ret_ok ?_
        simp only [ap_tup, ap_cons, ap_nil, var_s, var_0, bindL_ok, lbindL_ok, lbind_ok, h2, ap_c]
        rfl
      rw [hr]
      rfl
    show trimR O (b__law_whole_step [some (S l), some (.str ""), some (.int (n : Int)), none] O).res = _
    rw [hb]
    exact fin _ O
  · have hc : ∀ O, dVal (dOp fEq (dVar 1) (dC (.str ""))) [some (S l), some (.str lie), some (.int (n : Int)), none] O = .ok false O := fun O => by
      have : fEq (.str lie) (.str "") O = .ok (.bl (lie == ("" : Str))) O := rfl
      have h2 : (lie == ("" : Str)) = false := by simpa using hl
      simp only [ap_val, ap_op, var_s, var_0, bind_ok, ap_c, this, h2, bindB_ok, bool_bl]
    have m2 : ∀ O, fMod (.int (n : Int)) (.int 2) O = .ok (.int ((n % 2 : Nat) : Int)) O := fun O => by rw [mod_ii (by decide)]; rfl
    have hr : ∃ q : Stq, q.1 = l ∧ q.2.2.2 = lie ∧ ∀ O, r2__law_whole_step [some (S l), some (.str lie), some (.int (n : Int)), none] O = .rt (stD q) O := by
      by_cases h : (((n % 2 : Nat) : Int) == 0) = true
      · refine ⟨(l, "stem", lie, lie), rfl, rfl, fun O => ?_⟩
        unfold r2__law_whole_step
        have hc2 : dVal (dOp fEq (dOp fMod (dVar 2) (dC (.int 2))) (dC (.int 0))) [some (S l), some (.str lie), some (.int (n : Int)), none] O = .ok true O := by
          simp only [ap_val, ap_op, var_s, var_0, bind_ok, ap_c, m2, eq_ii, h, bindB_ok, bool_bl]
        rw [ap_seq, if_t hc2]
        rfl
      · refine ⟨(l, lie, "stem", lie), rfl, rfl, fun O => ?_⟩
        unfold r2__law_whole_step
        have hc2 : dVal (dOp fEq (dOp fMod (dVar 2) (dC (.int 2))) (dC (.int 0))) [some (S l), some (.str lie), some (.int (n : Int)), none] O = .ok false O := by
          simp only [ap_val, ap_op, var_s, var_0, bind_ok, ap_c, m2, eq_ii, Bool.eq_false_iff.mpr h, bindB_ok, bool_bl]
        rw [ap_seq, if_f hc2]
        rfl
    obtain ⟨q, h1, h2, h3⟩ := hr
    refine ⟨q, h1, h2, fun O => ?_⟩
    show trimR O (b__law_whole_step [some (S l), some (.str lie), some (.int (n : Int)), none] O).res = _
    have hb : b__law_whole_step [some (S l), some (.str lie), some (.int (n : Int)), none] O = .rt (stD q) O := by
      unfold b__law_whole_step
      rw [ap_seq, if_f (hc O)]
      exact h3 O
    rw [hb]
    exact fin q O
/-! ### what is made -/
theorem held_mk (l : List Nat) (O : Sto) : m_not_held [S l] O = .ok (.clo "not_held" [S l]) O := (trim_same (.clo (.cons (.str _) .nil)) : trimR O (.ok (.clo "not_held" [S l]) O) = _)
theorem taken_mk (l : List Nat) (O : Sto) : m_not_taken [S l] O = .ok (.clo "not_taken" [S l]) O := (trim_same (.clo (.cons (.str _) .nil)) : trimR O (.ok (.clo "not_taken" [S l]) O) = _)
theorem stiff_mk (l : List Nat) (O : Sto) : m_not_stiff [S l] O = .ok (.clo "not_stiff" [S l]) O := (trim_same (.clo (.cons (.str _) .nil)) : trimR O (.ok (.clo "not_stiff" [S l]) O) = _)
theorem lying_mk (l : List Nat) (lie : Str) (O : Sto) : m_lying_so [S l, .str lie] O = .ok (.clo "lying_so" [.str lie, S l, .clo "not_stiff" [S l]]) O := by
  have h : b_lying_so [some (S l), some (.str lie), none, none] O = .ok (.clo "lying_so" [.str lie, S l, .clo "not_stiff" [S l]]) O := by
    have s : dSet 3 (dCall m_not_stiff [] (dCons (dVar 0) dNil)) [some (S l), some (.str lie), none, none] O = .nx [some (S l), some (.str lie), none, some (.clo "not_stiff" [S l])] O :=
      (set_ok (d := .clo "not_stiff" [S l]) (O1 := O) (by simp [stiff_mk])).trans rfl
    unfold b_lying_so mkCons
    rw [s]
    rfl
  show trimR O (b_lying_so [some (S l), some (.str lie), none, none] O) = _
  rw [h]
  exact trim_same (.clo (.cons (.str _) (.cons (.str _) (.cons (.clo (.cons (.str _) .nil)) .nil))))
/-! ### words -/
theorem T_ne {t : List Nat} (h : t ≠ []) : T t ≠ ("" : Str) := fun e => by
  have := congrArg Str.length e
  rw [T_len] at this
  have h0 : Str.length (Str.ofString "") = 0 := by decide +kernel
  rw [h0] at this
  exact h (List.eq_nil_of_length_eq_zero this)
def heldZ (Z : TPs) (l : List Nat) : Bool := Z.any fun p => inn (T l) p.2
/-- a word, or nothing -/
def wd (b : Bool) (k : Str) (l : List Nat) : D := if b = true then .tup [.str k, S l] else .non
theorem wd_trim {b : Bool} {k : Str} {l : List Nat} {O : Sto} : trimR O (.ok (wd b k l) O) = .ok (wd b k l) O := by
  unfold wd
  split
  · exact trim_same (.tup (.cons (.str _) (.cons (.str _) .nil)))
  · exact trim_same .non
/-! ### paths in a dict, wherever they lie -/
inductive Sq (O : Sto) : D → List D → Prop
  | lst {ps : List D} : Sq O (.lst ps) ps
  | loc {m : Nat} {ps : List D} (h : O[m]? = some (.lst ps)) : Sq O (.loc m) ps
theorem Sq.is {O : Sto} {d : D} {ps : List D} (h : Sq O d ps) : IsSeq O d ps := by
  cases h with
  | lst => exact IsSeq.lst
  | loc h => exact IsSeq.loc h
theorem Sq.set {O : Sto} {n : Nat} {od x : OD} (hn : O[n]? = some od) (hl : ∀ ps, od ≠ .lst ps) {d : D} {ps : List D} (h : Sq O d ps) : Sq (O.set n x) d ps := by
  cases h with
  | lst => exact .lst
  | @loc m ps h =>
    refine .loc ?_
    rw [List.getElem?_set]
    split
    · rename_i e
      subst e
      rw [hn] at h
      exact absurd (Option.some.inj h) (hl ps)
    · exact h
theorem Sq.app {O R : Sto} {d : D} {ps : List D} (h : Sq O d ps) : Sq (O ++ R) d ps := by
  cases h with
  | lst => exact .lst
  | loc h => exact .loc (by rw [List.getElem?_append_left (List.getElem?_eq_some_iff.mp h).1]; exact h)
inductive Pv (O : Sto) : List (Key × D) → TPs → Prop
  | nil : Pv O [] []
  | cons {t : List Nat} {d : D} {ps : List D} {kvs : List (Key × D)} {Z : TPs} (h : Sq O d ps) (r : Pv O kvs Z) : Pv O ((.inr (T t), d) :: kvs) ((t, ps) :: Z)
theorem Pv.mono {O O' : Sto} (f : ∀ d ps, Sq O d ps → Sq O' d ps) {kvs : List (Key × D)} {Z : TPs} (h : Pv O kvs Z) : Pv O' kvs Z := by
  induction h with
  | nil => exact .nil
  | cons h _ ih => exact .cons (f _ _ h) ih
theorem Pv.items {O : Sto} {kvs : List (Key × D)} {Z : TPs} (h : Pv O kvs Z) : dItems 0 kvs = Z.map fun p => S p.1 := by
  induction h with
  | nil => rfl
  | @cons t d ps kvs Z h r ih =>
    show S t :: dItems 0 kvs = _
    rw [ih]
    rfl
theorem Pv.keys {O : Sto} {kvs : List (Key × D)} {Z : TPs} (h : Pv O kvs Z) : kvs.map (·.1) = Z.map fun p => (.inr (T p.1) : Key) := by
  induction h with
  | nil => rfl
  | @cons t d ps kvs Z h r ih => rw [List.map_cons, List.map_cons, ih]
theorem Pv.nodup {O : Sto} {kvs : List (Key × D)} {Z : TPs} (h : Pv O kvs Z) (hn : (Z.map (·.1)).Nodup) : (kvs.map (·.1)).Nodup := by
  rw [h.keys]
  have : (Z.map fun p => (.inr (T p.1) : Key)) = (Z.map (·.1)).map fun t => (.inr (T t) : Key) := by rw [List.map_map]; rfl
  rw [this, List.nodup_iff_pairwise_ne, List.pairwise_map]
  exact List.Pairwise.imp (fun h e => h (T_inj (Sum.inr.inj e))) hn
theorem Pv.mem {O : Sto} {kvs : List (Key × D)} {Z : TPs} (h : Pv O kvs Z) {p : List Nat × List D} (hp : p ∈ Z) : ∃ d, ((.inr (T p.1) : Key), d) ∈ kvs ∧ Sq O d p.2 := by
  induction h with
  | nil => cases hp
  | @cons t d ps kvs Z h r ih =>
    rcases List.mem_cons.mp hp with rfl | hp
    · exact ⟨d, List.mem_cons_self .., h⟩
    · obtain ⟨d', h1, h2⟩ := ih hp
      exact ⟨d', List.mem_cons_of_mem _ h1, h2⟩
theorem Pv.get {O : Sto} {kvs : List (Key × D)} {Z : TPs} (h : Pv O kvs Z) (hn : (Z.map (·.1)).Nodup) {p : List Nat × List D} (hp : p ∈ Z) : ∃ d, getK kvs (.inr (T p.1)) = some d ∧ Sq O d p.2 := by
  obtain ⟨d, h1, h2⟩ := h.mem hp
  exact ⟨d, getK_self (h.nodup hn) _ h1, h2⟩
/-- the dict of the paths: what it is and where -/
def Pd (O : Sto) (P : D) (kvs : List (Key × D)) : Prop := P = .dic kvs ∨ ∃ n, P = .loc n ∧ O[n]? = some (.dic kvs)
theorem Pd.look {O : Sto} {P : D} {kvs : List (Key × D)} (h : Pd O P kvs) : look O P = .dic kvs := by
  rcases h with rfl | ⟨n, rfl, h⟩
  · rfl
  · unfold Yk.look
    simp only [h]
structure Zok (Z : TPs) : Prop where
  nd : (Z.map (·.1)).Nodup
  st : ∀ p ∈ Z, ∀ d ∈ p.2, ∃ l, stepOf l d
  sz : ∀ p ∈ Z, p.2.length < 900
  ne : ∀ p ∈ Z, p.1 ≠ []
theorem dfor_pd {O : Sto} {P : D} {kvs : List (Key × D)} {Z : TPs} (h : Pd O P kvs) (hv : Pv O kvs Z) (g : DTG) (body : DTS) (ρ : Env') (hρ : ρ[0]? = some (some P)) :
    ∃ B : Sto, look B P = .dic kvs ∧ Pv B kvs Z ∧ (∀ v, forL (Z.map fun p => S p.1) none g body (Z.map fun p => S p.1) ρ B = .rt v B → dForD 0 (pVar 0) g body ρ O = .rt v O) ∧ (∀ ρ', forL (Z.map fun p => S p.1) none g body (Z.map fun p => S p.1) ρ B = .nx ρ' B → dForD 0 (pVar 0) g body ρ O = .nx ρ' O) := by
  rcases h with rfl | ⟨n, rfl, h⟩
  · have e : dForD 0 (pVar 0) g body ρ O = forL (Z.map fun p => S p.1) none g body (Z.map fun p => S p.1) ρ O := by
      unfold dForD pVar
      rw [hρ]
      dsimp only
      rw [hv.items]
    exact ⟨O, rfl, hv, fun v k => e.trans k, fun ρ' k => e.trans k⟩
  · have e : dForD 0 (pVar 0) g body ρ O = (forL (Z.map fun p => S p.1) none g body (Z.map fun p => S p.1) ρ (O.set n (.lck (.dic kvs)))).unl n (.dic kvs) := by
      unfold dForD pVar
      rw [hρ]
      show (match O[n]? with
        | some (.dic kvs) => (forL (dItems 0 kvs) none g body (dItems 0 kvs) ρ (O.set n (.lck (.dic kvs)))).unl n (.dic kvs)
        | _ => .stuck) = _
      rw [h]
      dsimp only
      rw [hv.items]
    have hlt := (List.getElem?_eq_some_iff.mp h).1
    refine ⟨O.set n (.lck (.dic kvs)), ?_, hv.mono fun d ps q => q.set h (fun _ z => nomatch z), fun v k => ?_, fun ρ' k => ?_⟩
    · have hs : (O.set n (.lck (.dic kvs)))[n]? = some (.lck (.dic kvs)) := List.getElem?_set_self hlt
      unfold Yk.look
      simp only [hs]
    · have e3 := unl_rt (R := []) (x := v) h
      rw [List.append_nil, List.append_nil] at e3
      rw [e, k, e3]
    · have e3 := unl_nx (R := []) (ρ := ρ') h
      rw [List.append_nil, List.append_nil] at e3
      rw [e, k, e3]
theorem parts_seq {ds : List D} {dp : D} {O : Sto} (hq : IsSeq O dp ds) (h : ∀ d ∈ ds, ∃ l, stepOf l d) (hl : ds.length < 1000) : partsOf [dp] O = .ok (.lst (ds.map hd)) O := by
  obtain ⟨lk, hw, hst⟩ := hq.walk
  have hc : ∀ items, compL items lk (gN 1) dYes (dOp fIx (dVar 1) (dC (.int 0))) [some dp, none] ds [] O = .ok (ds.map hd) O := fun items => parts_comp h hl hst 1 (by simp)
  simp [partsOf, mFn, startD, hw, hc]
  refine trim_same (.lst (belowL_flat fun x hx => ?_))
  obtain ⟨d, hd', rfl⟩ := List.mem_map.mp hx
  obtain ⟨l, hst⟩ := h d hd'
  rw [stepOf_hd hst]
  rfl
theorem hold_pv {B : Sto} {P : D} {kvs : List (Key × D)} {Z : TPs} (hd : look B P = .dic kvs) (hv : Pv B kvs Z) (z : Zok Z) (l : List Nat) (xs : List D) : ∀ (us : TPs) (x : Option D), (∀ p ∈ us, p ∈ Z) →
      (if heldZ us l = true then forL xs none (gN 2) l1__law_held (us.map fun p => S p.1) [some P, some (S l), x, none] B = .rt (.bl true) B
       else ∃ x', forL xs none (gN 2) l1__law_held (us.map fun p => S p.1) [some P, some (S l), x, none] B = .nx [some P, some (S l), x', none] B)
  | [], x, _ => ⟨x, forL_nil (still_none.mpr trivial)⟩
  | p :: us, x, hm => by
    have hp := hm p (List.mem_cons_self ..)
    obtain ⟨d, h1, h2⟩ := hv.get z.nd hp
    have hx : fIx P (S p.1) B = .ok d B := ix_dic hd h1
    obtain ⟨lk, hw, hs⟩ := h2.is.walk
    have pc := fun items => parts_comp (z.st p hp) (by have := z.sz p hp; omega) (items := items) hs (ρ := [some P, some (S l), some (S p.1), none]) 3 (by simp)
    have hc1 : dLc false [3] (srcSeq (dOp fIx (dVar 0) (dVar 2))) (gN 3) dYes (dOp fIx (dVar 3) (dC (.int 0))) [some P, some (S l), some (S p.1), none] B = .ok (.lst (p.2.map Yk.Pt.hd)) B := by
      simp [hx, hw, pc]
    have hin : fIn (S l) (.lst (p.2.map Yk.Pt.hd)) B = .ok (.bl (inn (T l) p.2)) B := in_parts (z.st p hp) (T l) B
    have hc : dVal (dOp fIn (dVar 1) (dLc false [3] (srcSeq (dOp fIx (dVar 0) (dVar 2))) (gN 3) dYes (dOp fIx (dVar 3) (dC (.int 0))))) [some P, some (S l), some (S p.1), none] B = .ok (inn (T l) p.2) B := by
      rw [ap_val, ap_op (f := fIn)]
      simp only [var_s, var_0, bind_ok, hc1, hin, bindB_ok, bool_bl]
    rw [List.map_cons]
    have hcs : heldZ (p :: us) l = (inn (T l) p.2 || heldZ us l) := rfl
    cases hi : inn (T l) p.2 with
    | true =>
      rw [hi] at hc
      rw [if_pos (by rw [hcs, hi]; rfl)]
      exact forL_rt (still_none.mpr trivial) rfl ((if_t hc).trans rfl)
    | false =>
      rw [hi] at hc
      have hb : l1__law_held [some P, some (S l), some (S p.1), none] B = .nx [some P, some (S l), some (S p.1), none] B := (if_f hc).trans rfl
      rw [forL_nx (still_none.mpr trivial) rfl hb, hcs, hi, Bool.false_or]
      exact hold_pv hd hv z l xs us (some (S p.1)) fun q hq => hm q (List.mem_cons_of_mem _ hq)
theorem lheld_ok {O : Sto} {P : D} {kvs : List (Key × D)} {Z : TPs} (h : Pd O P kvs) (hv : Pv O kvs Z) (z : Zok Z) (l : List Nat) : m__law_held [P, S l] O = .ok (.bl (heldZ Z l)) O := by
  obtain ⟨B, b1, b2, b3, b4⟩ := dfor_pd h hv (gN 2) l1__law_held [some P, some (S l), none, none] rfl
  have hr := hold_pv b1 b2 z l (Z.map fun p => S p.1) Z none fun _ h => h
  by_cases hh : heldZ Z l = true
  · rw [if_pos hh] at hr
    have e2 := b3 _ hr
    simp [m__law_held, mFn, b__law_held, startD, e2, hh]
  · rw [if_neg hh] at hr
    obtain ⟨x', e⟩ := hr
    have e2 := b4 _ e
    simp [m__law_held, mFn, b__law_held, startD, e2, hh]
theorem holder_pv {B : Sto} {P : D} {kvs : List (Key × D)} {Z : TPs} (hd : look B P = .dic kvs) (hv : Pv B kvs Z) (z : Zok Z) (l : List Nat) (xs : List D) : ∀ (us : TPs) (x : Option D), (∀ p ∈ us, p ∈ Z) →
      (if heldZ us l = true then ∃ p ∈ us, forL xs none (gN 2) holder1 (us.map fun p => S p.1) [some P, some (S l), x] B = .rt (S p.1) B
       else ∃ x', forL xs none (gN 2) holder1 (us.map fun p => S p.1) [some P, some (S l), x] B = .nx [some P, some (S l), x'] B)
  | [], x, _ => ⟨x, forL_nil (still_none.mpr trivial)⟩
  | p :: us, x, hm => by
    have hp := hm p (List.mem_cons_self ..)
    obtain ⟨d, h1, h2⟩ := hv.get z.nd hp
    have hx : fIx P (S p.1) B = .ok d B := ix_dic hd h1
    have hpa : partsOf [d] B = .ok (.lst (p.2.map Yk.Pt.hd)) B := parts_seq h2.is (z.st p hp) (by have := z.sz p hp; omega)
    have hin : fIn (S l) (.lst (p.2.map Yk.Pt.hd)) B = .ok (.bl (inn (T l) p.2)) B := in_parts (z.st p hp) (T l) B
    have hc : dVal (dOp fIn (dVar 1) (dCall partsOf [] (dCons (dOp fIx (dVar 0) (dVar 2)) dNil))) [some P, some (S l), some (S p.1)] B = .ok (inn (T l) p.2) B := by
      simp [hx, hpa, hin]
    rw [List.map_cons]
    have hcs : heldZ (p :: us) l = (inn (T l) p.2 || heldZ us l) := rfl
    cases hi : inn (T l) p.2 with
    | true =>
      rw [hi] at hc
      rw [if_pos (by rw [hcs, hi]; rfl)]
      exact ⟨p, List.mem_cons_self .., forL_rt (still_none.mpr trivial) rfl ((if_t hc).trans rfl)⟩
    | false =>
      rw [hi] at hc
      have hb : holder1 [some P, some (S l), some (S p.1)] B = .nx [some P, some (S l), some (S p.1)] B := (if_f hc).trans rfl
      rw [forL_nx (still_none.mpr trivial) rfl hb, hcs, hi, Bool.false_or]
      have ih := holder_pv hd hv z l xs us (some (S p.1)) fun q hq => hm q (List.mem_cons_of_mem _ hq)
      by_cases hh : heldZ us l = true
      · rw [if_pos hh] at ih ⊢
        obtain ⟨u, h1, h2⟩ := ih
        exact ⟨u, List.mem_cons_of_mem _ h1, h2⟩
      · rw [if_neg hh] at ih ⊢
        exact ih
theorem holder_pd {O : Sto} {P : D} {kvs : List (Key × D)} {Z : TPs} (h : Pd O P kvs) (hv : Pv O kvs Z) (z : Zok Z) (l : List Nat) : ∃ s : Str, holder [P, S l] O = .ok (.str s) O ∧ (s == ("" : Str)) = !(heldZ Z l) := by
  obtain ⟨B, b1, b2, b3, b4⟩ := dfor_pd h hv (gN 2) holder1 [some P, some (S l), none] rfl
  have hr := holder_pv b1 b2 z l (Z.map fun p => S p.1) Z none fun _ h => h
  by_cases hh : heldZ Z l = true
  · rw [if_pos hh] at hr
    obtain ⟨p, hp, e⟩ := hr
    refine ⟨T p.1, ?_, ?_⟩
    · have e2 := b3 _ e
      simp [holder, mFn, startD, e2]
      exact trim_same (.str _)
    · rw [hh]
      have := T_ne (z.ne p hp)
      simpa using this
  · rw [if_neg hh] at hr
    obtain ⟨x', e⟩ := hr
    refine ⟨"", ?_, by rw [Bool.eq_false_iff.mpr hh]; rfl⟩
    have e2 := b4 _ e
    simp [holder, mFn, startD, e2]
/-! ### the ground -/
abbrev grL (x1 x2 x3 x4 : D) : D := .obj "Ground" [("lie_of", x1), ("stiff_ones", x2), ("path_of", x3), ("told", x4)]
section
variable {x1 x2 x3 x4 : D} {lies stiff told kvs : List (Key × D)} {Z : TPs} {O : Sto}
theorem f_lie : fFld fc_lie_of "lie_of" (grL x1 x2 x3 x4) O = .ok x1 O := by kernel_rfl
theorem f_stiff : fFld fc_stiff_ones "stiff_ones" (grL x1 x2 x3 x4) O = .ok x2 O := by kernel_rfl
theorem f_path : fFld fc_path_of "path_of" (grL x1 x2 x3 x4) O = .ok x3 O := by kernel_rfl
theorem f_told : fFld fc_told "told" (grL x1 x2 x3 x4) O = .ok x4 O := by kernel_rfl
/-- the four, wherever they lie -/
structure Gr (O : Sto) (x2 x3 x4 : D) (stiff kvs told : List (Key × D)) (Z : TPs) : Prop where
  lst : look O x2 = .dic stiff
  ltd : look O x4 = .dic told
  pd : Pd O x3 kvs
  pv : Pv O kvs Z
  z : Zok Z
  st : okSeen stiff
  tr : ∀ kv ∈ stiff, kv.2 = .bl true
  td : okSeen told
theorem ask_held (g : Gr O x2 x3 x4 stiff kvs told Z) (l : List Nat) : m_c_not_held [grL x1 x2 x3 x4, S l] O = .ok (wd (heldZ Z l) "held" l) O := by
  obtain ⟨s, h1, h2⟩ := holder_pd g.pd g.pv g.z l
  have h3 : fNe (.str s) (.str "") O = .ok (.bl (heldZ Z l)) O := by
    show Res.ok (.bl (!(s == ("" : Str)))) O = _
    rw [h2, Bool.not_not]
  obtain ⟨gr, hgr⟩ : ∃ gr, grL x1 x2 x3 x4 = gr := ⟨_, rfl⟩
  have hf := f_path (x1 := x1) (x2 := x2) (x3 := x3) (x4 := x4) (O := O)
  rw [hgr] at hf ⊢
  have hb : (b_c_not_held [some gr, some (S l)] O).res = .ok (wd (heldZ Z l) "held" l) O := by
    unfold b_c_not_held
    have hc : dVal (dOp fNe (dCall m_holder [] (dCons (dUn (fFld fc_path_of "path_of") (dVar 0)) (dCons (dVar 1) dNil))) (dC (.str ""))) [some gr, some (S l)] O = .ok (heldZ Z l) O := by
      rw [c_holder]
      simp only [ap_val, ap_op, ap_call, ap_cons, ap_un, ap_nil, ap_c, var_s, var_0, bind_ok, bindL_ok, lbindL_ok, lbind_ok, List.append_nil, hf, h1, h3, bindB_ok, bool_bl]
    cases hh : heldZ Z l with
    | true => rw [hh] at hc; rw [ap_seq, if_t hc]; rfl
    | false => rw [hh] at hc; rw [ap_seq, if_f hc]; rfl
  show trimR O (b_c_not_held [some gr, some (S l)] O).res = _
  rw [hb]
  exact wd_trim
theorem ask_taken (g : Gr O x2 x3 x4 stiff kvs told Z) (l : List Nat) : m_c_not_taken [grL x1 x2 x3 x4, S l] O = .ok (wd (sv told (T l)) "taken" l) O := by
  have hg : fGet x4 (S l) (.bl false) O = .ok (.bl (sv told (T l))) O := by rw [show S l = .str (T l) from rfl, get2_dic g.ltd, getB_sv g.td]
  have hd := isDc_dic g.ltd
  obtain ⟨gr, hgr⟩ : ∃ gr, grL x1 x2 x3 x4 = gr := ⟨_, rfl⟩
  have hf := f_told (x1 := x1) (x2 := x2) (x3 := x3) (x4 := x4) (O := O)
  rw [hgr] at hf ⊢
  have hb : (b_c_not_taken [some gr, some (S l)] O).res = .ok (wd (sv told (T l)) "taken" l) O := by
    unfold b_c_not_taken
    have hc : dVal (dGet2 (dUn (fFld fc_told "told") (dVar 0)) (dVar 1) (dC (.bl false))) [some gr, some (S l)] O = .ok (sv told (T l)) O := by
      simp only [ap_val, ap_get2, ap_un, ap_c, var_s, var_0, bind_ok, hf, hd, if_true, hg, bindB_ok, bool_bl]
    cases hh : sv told (T l) with
    | true => rw [hh] at hc; rw [ap_seq, if_t hc]; rfl
    | false => rw [hh] at hc; rw [ap_seq, if_f hc]; rfl
  show trimR O (b_c_not_taken [some gr, some (S l)] O).res = _
  rw [hb]
  exact wd_trim
theorem ask_stiff (g : Gr O x2 x3 x4 stiff kvs told Z) (l : List Nat) : m_c_not_stiff [grL x1 x2 x3 x4, S l] O = .ok (wd (sv stiff (T l)) "stiff" l) O := by
  have hg : fGet x2 (S l) (.bl false) O = .ok (.bl (sv stiff (T l))) O := by rw [show S l = .str (T l) from rfl, get2_dic g.lst, getB_sv g.st]
  have hd := isDc_dic g.lst
  obtain ⟨gr, hgr⟩ : ∃ gr, grL x1 x2 x3 x4 = gr := ⟨_, rfl⟩
  have hf := f_stiff (x1 := x1) (x2 := x2) (x3 := x3) (x4 := x4) (O := O)
  rw [hgr] at hf ⊢
  have hb : (b_c_not_stiff [some gr, some (S l)] O).res = .ok (wd (sv stiff (T l)) "stiff" l) O := by
    unfold b_c_not_stiff
    have hc : dVal (dGet2 (dUn (fFld fc_stiff_ones "stiff_ones") (dVar 0)) (dVar 1) (dC (.bl false))) [some gr, some (S l)] O = .ok (sv stiff (T l)) O := by
      simp only [ap_val, ap_get2, ap_un, ap_c, var_s, var_0, bind_ok, hf, hd, if_true, hg, bindB_ok, bool_bl]
    cases hh : sv stiff (T l) with
    | true => rw [hh] at hc; rw [ap_seq, if_t hc]; rfl
    | false => rw [hh] at hc; rw [ap_seq, if_f hc]; rfl
  show trimR O (b_c_not_stiff [some gr, some (S l)] O).res = _
  rw [hb]
  exact wd_trim
theorem ask_lying (g : Gr O x2 x3 x4 stiff kvs told Z) (h1 : look O x1 = .dic lies) (l : List Nat) (lie v : Str) (hv : getK lies (.inr (T l)) = some (.str v)) : m_c_lying_so [grL x1 x2 x3 x4, .str lie, S l, .clo "not_stiff" [S l]] O = .ok (wd (!(v == lie) && sv stiff (T l)) "stiff" l) O := by
  have hg : fGet x1 (S l) (.str "") O = .ok (.str v) O := by
    rw [show S l = .str (T l) from rfl, get2_dic h1]
    unfold getB
    rw [hv]
    rfl
  have hd := isDc_dic h1
  have as := ask_stiff (x1 := x1) g l
  have he : fEq (.str v) (.str lie) O = .ok (.bl (v == lie)) O := rfl
  obtain ⟨gr, hgr⟩ : ∃ gr, grL x1 x2 x3 x4 = gr := ⟨_, rfl⟩
  have hf := f_lie (x1 := x1) (x2 := x2) (x3 := x3) (x4 := x4) (O := O)
  rw [hgr] at hf as ⊢
  have hb : (b_c_lying_so [some gr, some (.str lie), some (S l), some (.clo "not_stiff" [S l])] O).res = .ok (wd (!(v == lie) && sv stiff (T l)) "stiff" l) O := by
    unfold b_c_lying_so
    have hc : dVal (dOp fEq (dGet2 (dUn (fFld fc_lie_of "lie_of") (dVar 0)) (dVar 2) (dC (.str ""))) (dVar 1)) [some gr, some (.str lie), some (S l), some (.clo "not_stiff" [S l])] O = .ok (v == lie) O := by
      simp only [ap_val, ap_op, ap_get2, ap_un, ap_c, var_s, var_0, bind_ok, hf, hd, if_true, hg, he, bindB_ok, bool_bl]
    cases hh : (v == lie) with
    | true => rw [hh] at hc; rw [ap_seq, if_t hc]; rfl
    | false =>
      rw [hh] at hc
      rw [ap_seq, if_f hc]
      have hk : dClo ["lying_so"] tbc1_c_lying_so 3 (dCons (dVar 0) dNil) [some gr, some (.str lie), some (S l), some (.clo "not_stiff" [S l])] O = .ok (wd (sv stiff (T l)) "stiff" l) O := by
        show (if ("not_stiff" : Str) ∈ [("lying_so" : Str)] then Res.stuck else match tbc1_c_lying_so.lookup ("not_stiff" : Str) with
          | some fm => noXR (fm ([gr] ++ [S l]) O)
          | none => .stuck) = _
        rw [if_neg (by decide)]
        have : tbc1_c_lying_so.lookup ("not_stiff" : Str) = some m_c_not_stiff := by kernel_rfl
        rw [this]
        show noXR (m_c_not_stiff [gr, S l] O) = _
        rw [as]
        rfl
      show (r1_c_lying_so [some gr, some (.str lie), some (S l), some (.clo "not_stiff" [S l])] O).res = _
      unfold r1_c_lying_so
      rw [ret_ok hk]
      rfl
  show trimR O (b_c_lying_so [some gr, some (.str lie), some (S l), some (.clo "not_stiff" [S l])] O).res = _
  rw [hb]
  exact wd_trim
end

open Yk.Nm Yk.Pt Yk.Gb
/-! ### rules and words -/
def Rl (O : Sto) (g r w : D) : Prop := ∃ nm ds fm, r = .clo nm ds ∧ tbc1__law_told.lookup nm = some fm ∧ fm (g :: ds) O = .ok w O ∧ (w = .non ∨ ∃ (k : Str) (l : List Nat), w = .tup [.str k, S l])
inductive Rls (O : Sto) (g : D) : List D → List D → Prop
  | nil : Rls O g [] []
  | cons {r w : D} {rs ws : List D} (h : Rl O g r w) (t : Rls O g rs ws) : Rls O g (r :: rs) (w :: ws)
theorem Rls.app {O : Sto} {g : D} {a b c d : List D} (h : Rls O g a b) (t : Rls O g c d) : Rls O g (a ++ c) (b ++ d) := by
  induction h with
  | nil => exact t
  | cons h _ ih => exact .cons h ih
theorem Rls.len {O : Sto} {g : D} {a b : List D} (h : Rls O g a b) : a.length = b.length := by
  induction h with
  | nil => rfl
  | cons h _ ih => rw [List.length_cons, List.length_cons, ih]
theorem Rls.drop {O : Sto} {g : D} {a b : List D} (h : Rls O g a b) (n : Nat) : Rls O g (a.drop n) (b.drop n) := by
  induction n generalizing a b with
  | zero => exact h
  | succ n ih =>
    cases h with
    | nil => exact .nil
    | cons _ t => exact ih t
def isW (w : D) : Prop := w = .non ∨ ∃ (k : Str) (l : List Nat), w = .tup [.str k, S l]
theorem Rls.isW {O : Sto} {g : D} {a b : List D} (h : Rls O g a b) : ∀ w ∈ b, isW w := by
  induction h with
  | nil => exact fun _ h => nomatch h
  | cons h _ ih =>
    intro w hw
    rcases List.mem_cons.mp hw with rfl | hw
    · obtain ⟨_, _, _, _, _, _, q⟩ := h
      exact q
    · exact ih w hw
theorem isW_trim {w : D} (h : isW w) {O : Sto} : trimR O (.ok w O) = .ok w O := by
  rcases h with rfl | ⟨k, l, rfl⟩
  · exact trim_same .non
  · exact trim_same (.tup (.cons (.str _) (.cons (.str _) .nil)))
theorem alike_ok {w : D} (h : isW w) (O : Sto) : m__law_alike [w, w] O = .ok (.bl true) O := by
  rcases h with rfl | ⟨k, l, rfl⟩
  · show trimR O (b__law_alike [some .non, some .non] O).res = _
    exact trim_same (.bl _)
  · have e1 : fEq (.tup [.str k, S l]) (.tup [.str k, S l]) O = .ok (.bl true) O := by
      show (match deqN 60 (.tup [.str k, S l]) (.tup [.str k, S l]) with | some b => Res.ok (.bl b) O | none => .stuck) = _
      rw [deqN_tup fun x hx => by
        simp at hx
        rcases hx with rfl | rfl <;> exact deqN_flat rfl]
    have i0 : fIx (.tup [.str k, S l]) (.int 0) O = .ok (.str k) O := rfl
    have i1 : fIx (.tup [.str k, S l]) (.int 1) O = .ok (S l) O := rfl
    have t0 : fIsT [.tup [.str k, S l], .ty "tuple"] O = .ok (.bl true) O := rfl
    have t1 : fIsT [.str k, .ty "str"] O = .ok (.bl true) O := rfl
    have t2 : fIsT [S l, .ty "str"] O = .ok (.bl true) O := rfl
    have n0 : fIs (.tup [.str k, S l]) .non O = .ok (.bl false) O := rfl
    simp [m__law_alike, mFn, b__law_alike, startD, r2__law_alike, r1__law_alike, ap_if, n0, t0, t1, t2, i0, i1, e1]
def rulesOf (q : Stq) : List D := [.clo "not_held" [S q.1], .clo "not_taken" [S q.1]] ++ if q.2.2.2 = "" then [] else [.clo "lying_so" [.str q.2.2.2, S q.1, .clo "not_stiff" [S q.1]]]
def lieOf (lies : List (Key × D)) (l : List Nat) : Str := match getK lies (.inr (T l)) with
  | some (.str v) => v
  | _ => ""
def wordsOf (lies stiff told : List (Key × D)) (Z : TPs) (q : Stq) : List D := [wd (heldZ Z q.1) "held" q.1, wd (sv told (T q.1)) "taken" q.1] ++ if q.2.2.2 = "" then [] else [wd (!(lieOf lies q.1 == q.2.2.2) && sv stiff (T q.1)) "stiff" q.1]
theorem wd_is {b : Bool} {k : Str} {l : List Nat} : wd b k l = .non ∨ ∃ (k' : Str) (l' : List Nat), wd b k l = .tup [.str k', S l'] := by
  unfold wd
  split
  · exact .inr ⟨_, _, rfl⟩
  · exact .inl rfl
section
variable {x1 x2 x3 x4 : D} {lies stiff told kvs : List (Key × D)} {Z : TPs} {O : Sto}
theorem rule_of (g : Gr O x2 x3 x4 stiff kvs told Z) (h1 : look O x1 = .dic lies) (q : Stq) (hl : q.2.2.2 ≠ "" → ∃ v, getK lies (.inr (T q.1)) = some (.str v)) : Rls O (grL x1 x2 x3 x4) (rulesOf q) (wordsOf lies stiff told Z q) := by
  have e1 := ask_held (x1 := x1) g q.1
  have e2 := ask_taken (x1 := x1) g q.1
  have e3 := fun v hv => ask_lying g h1 q.1 q.2.2.2 v hv
  obtain ⟨gr, hgr⟩ : ∃ gr, grL x1 x2 x3 x4 = gr := ⟨_, rfl⟩
  rw [hgr] at e1 e2 ⊢
  unfold rulesOf wordsOf
  refine (Rls.cons ⟨_, _, m_c_not_held, rfl, by kernel_rfl, e1, wd_is⟩ (.cons ⟨_, _, m_c_not_taken, rfl, by kernel_rfl, e2, wd_is⟩ .nil)).app ?_
  by_cases h : q.2.2.2 = ""
  · rw [if_pos h, if_pos h]
    exact .nil
  · rw [if_neg h, if_neg h]
    obtain ⟨v, hv⟩ := hl h
    have : lieOf lies q.1 = v := by unfold lieOf; rw [hv]
    rw [this]
    have e3 := e3 v hv
    rw [hgr] at e3
    exact .cons ⟨_, _, m_c_lying_so, rfl, by kernel_rfl, e3, wd_is⟩ .nil
theorem rls_of (g : Gr O x2 x3 x4 stiff kvs told Z) (h1 : look O x1 = .dic lies) : ∀ R : List Stq, (∀ q ∈ R, q.2.2.2 ≠ "" → ∃ v, getK lies (.inr (T q.1)) = some (.str v)) → Rls O (grL x1 x2 x3 x4) (R.flatMap rulesOf) (R.flatMap (wordsOf lies stiff told Z))
  | [], _ => .nil
  | q :: R, h => by
    rw [List.flatMap_cons, List.flatMap_cons]
    exact (rule_of g h1 q (h q (List.mem_cons_self ..))).app (rls_of g h1 R fun x hx => h x (List.mem_cons_of_mem _ hx))
end
theorem flat_len (R : List Stq) : (R.flatMap rulesOf).length ≤ 3 * R.length := by
  induction R with
  | nil => exact Nat.zero_le _
  | cons q R ih =>
    rw [List.flatMap_cons, List.length_append, List.length_cons]
    have : (rulesOf q).length ≤ 3 := by unfold rulesOf; split <;> simp
    omega
theorem app_last {O : Sto} {acc : List D} {d : D} (h : acc.length < 10000) : fAppend (.loc O.length) [d] (O ++ [.lst acc]) = .ok .non (O ++ [.lst (acc ++ [d])]) := by
  have ho : ownL (O ++ [.lst acc]) (.loc O.length) = some (O.length, acc) := by simp [ownL]
  unfold fAppend
  rw [ho]
  dsimp only
  rw [if_pos (by omega)]
  simp
theorem isL_last {O : Sto} {acc : List D} : isL (O ++ [.lst acc]) (.loc O.length) = true := by simp [isL, look_last]
theorem st_0 (q : Stq) (O : Sto) : fIx (stD q) (.int 0) O = .ok (S q.1) O := rfl
theorem st_3 (q : Stq) (O : Sto) : fIx (stD q) (.int 3) O = .ok (.str q.2.2.2) O := rfl
theorem ne_e (q : Stq) (O : Sto) : fNe (.str q.2.2.2) (.str "") O = .ok (.bl (!(q.2.2.2 == ("" : Str)))) O := rfl
theorem rules_ok (R : List Stq) (hl : R.length < 900) (O : Sto) : m_rules_of [.tup (.str "sig" :: R.map stD)] O = .ok (.loc O.length) (O ++ [.lst (R.flatMap rulesOf)]) := by
  have gen : ∀ (xs : List D) (us vs : List Stq) (x2 : Option D), vs.length + us.length < 900 → ∃ x2', forL xs none (gN 2) l1_rules_of (us.map stD) [some (.tup (.str "sig" :: R.map stD)), some (.loc O.length), x2] (O ++ [.lst (vs.flatMap rulesOf)]) = .nx [some (.tup (.str "sig" :: R.map stD)), some (.loc O.length), x2'] (O ++ [.lst ((vs ++ us).flatMap rulesOf)]) := by
    intro xs us
    induction us with
    | nil => intro vs x2 h; rw [List.append_nil]; exact ⟨x2, forL_nil (still_none.mpr trivial)⟩
    | cons q us ih =>
      intro vs x2 h
      simp only [List.length_cons] at h
      have hv := flat_len vs
      have e : (vs ++ [q]).flatMap rulesOf = vs.flatMap rulesOf ++ rulesOf q := by simp
      have hb : l1_rules_of [some (.tup (.str "sig" :: R.map stD)), some (.loc O.length), some (stD q)] (O ++ [.lst (vs.flatMap rulesOf)]) = .nx [some (.tup (.str "sig" :: R.map stD)), some (.loc O.length), some (stD q)] (O ++ [.lst ((vs ++ [q]).flatMap rulesOf)]) := by
        rw [e]
        generalize vs.flatMap rulesOf = acc at hv
        have a1 := app_last (O := O) (acc := acc) (d := .clo "not_held" [S q.1]) (by omega)
        have a2 := app_last (O := O) (acc := acc ++ [.clo "not_held" [S q.1]]) (d := .clo "not_taken" [S q.1]) (by simp only [List.length_append, List.length_cons, List.length_nil]; omega)
        have a3 := app_last (O := O) (acc := acc ++ [.clo "not_held" [S q.1]] ++ [.clo "not_taken" [S q.1]]) (d := .clo "lying_so" [.str q.2.2.2, S q.1, .clo "not_stiff" [S q.1]]) (by simp only [List.length_append, List.length_cons, List.length_nil]; omega)
        unfold l1_rules_of rulesOf
        by_cases h0 : q.2.2.2 = ""
        · have hc : (!(q.2.2.2 == ("" : Str))) = false := by simp [h0]
          rw [if_pos h0]
          simp only [ap_seq, ap_expr, ap_bm, ap_call, ap_cons, ap_op, ap_c, ap_nil, var_s, var_0, bind_ok, bindL_ok, lbindL_ok, lbind_ok, List.append_nil, isL_last, if_true, st_0, st_3, held_mk, taken_mk, a1, a2, bindS_ok, then_nx, ap_if, ap_val, ne_e, hc, bindB_ok, bool_bl, bbindS_ok, Bool.false_eq_true, if_false, ap_skip]
          simp
        · have hc : (!(q.2.2.2 == ("" : Str))) = true := by simpa using h0
          rw [if_neg h0]
          simp only [ap_seq, ap_expr, ap_bm, ap_call, ap_cons, ap_op, ap_c, ap_nil, var_s, var_0, bind_ok, bindL_ok, lbindL_ok, lbind_ok, List.append_nil, isL_last, if_true, st_0, st_3, held_mk, taken_mk, lying_mk, a1, a2, a3, bindS_ok, then_nx, ap_if, ap_val, ne_e, hc, bindB_ok, bool_bl, bbindS_ok]
          simp
      obtain ⟨x2', e⟩ := ih (vs ++ [q]) (some (stD q)) (by simp; omega)
      refine ⟨x2', ?_⟩
      rw [List.map_cons, forL_nx (still_none.mpr trivial) rfl hb, e]
      simp
  obtain ⟨x2, e⟩ := gen (R.map stD) R [] none (by simpa using hl)
  have e : forL (R.map stD) none (gN 2) l1_rules_of (R.map stD) [some (.tup (.str "sig" :: R.map stD)), some (.loc O.length), none] (O ++ [.lst []]) = .nx [some (.tup (.str "sig" :: R.map stD)), some (.loc O.length), x2] (O ++ [.lst (R.flatMap rulesOf)]) := e
  have hsl : dSl false (dVar 0) (dPart (dC (.int 1))) dNoP [some (.tup (.str "sig" :: R.map stD)), some (.loc O.length), none] (O ++ [.lst []]) = .ok (.tup (R.map stD)) (O ++ [.lst []]) := by
    show Res.ok (.tup (cutD (.str "sig" :: R.map stD) (some ((1 : Nat) : Int)) none)) (O ++ [OD.lst []]) = _
    rw [cutD_from]
    rfl
  have hb : b_rules_of [some (.tup (.str "sig" :: R.map stD)), none, none] O = .rt (.loc O.length) (O ++ [.lst (R.flatMap rulesOf)]) := by
    unfold b_rules_of
    rw [seq_nx (show dSet 1 (dLst true dNil) [some (.tup (.str "sig" :: R.map stD)), none, none] O = .nx [some (.tup (.str "sig" :: R.map stD)), some (.loc O.length), none] (O ++ [.lst []]) from rfl)]
    have hf : dFor (srcSeq (dSl false (dVar 0) (dPart (dC (.int 1))) dNoP)) (gN 2) l1_rules_of [some (.tup (.str "sig" :: R.map stD)), some (.loc O.length), none] (O ++ [.lst []]) = .nx [some (.tup (.str "sig" :: R.map stD)), some (.loc O.length), x2] (O ++ [.lst (R.flatMap rulesOf)]) := by
      unfold dFor srcSeq
      rw [hsl]
      exact e
    rw [seq_nx hf]
    exact ret_ok rfl
  show trimR O (b_rules_of [some (.tup (.str "sig" :: R.map stD)), none, none] O).res = _
  rw [hb]
  show trimR O (.ok (.loc O.length) (O ++ [.lst (R.flatMap rulesOf)])) = _
  unfold trimR
  dsimp only
  rw [if_neg]
  rintro ⟨hb, _⟩
  cases hb with
  | loc h => omega
/-- the rules, asked -/
theorem told_ok {O : Sto} {g : D} {r : Nat} {rs ws : List D} (hr : O[r]? = some (.lst rs)) (h : Rls O g rs ws) : m__law_told [.loc r, g, .lst ws] O = .ok (.bl true) O := by
  have st : Still (some (r, OD.lst rs)) O := hr
  have gen : ∀ (xs : List D) (us vs : List D) (x3 x4 : Option D), Rls O g us vs → ∃ x3' x4', forL xs (some (r, .lst rs)) (gT (gConsD (gN 3) (gConsD (gN 4) gNilD))) l1__law_told (zipD us vs) [some (.loc r), some g, some (.lst ws), x3, x4] O = .nx [some (.loc r), some g, some (.lst ws), x3', x4'] O := by
    intro xs us vs x3 x4 h
    induction h generalizing x3 x4 with
    | nil => exact ⟨x3, x4, forL_nil st⟩
    | @cons u w us vs hu _ ih =>
      obtain ⟨nm, ds, fm, rfl, htb, hfm, hw⟩ := hu
      have hk : dClo [] tbc1__law_told 3 (dCons (dVar 1) dNil) [some (.loc r), some g, some (.lst ws), some (.clo nm ds), some w] O = .ok w O := by
        show (if nm ∈ [] then Res.stuck else match tbc1__law_told.lookup nm with
          | some fm => noXR (fm ([g] ++ ds) O)
          | none => .stuck) = _
        rw [if_neg (by simp), htb]
        show noXR (fm (g :: ds) O) = _
        rw [hfm]
        rfl
      have ha := alike_ok hw O
      have hb : l1__law_told [some (.loc r), some g, some (.lst ws), some (.clo nm ds), some w] O = .nx [some (.loc r), some g, some (.lst ws), some (.clo nm ds), some w] O := by
        refine (if_f (O1 := O) ?_).trans rfl
        simp only [ap_notT, ap_val, ap_call, ap_cons, ap_nil, hk, var_s, var_0, bind_ok, bindL_ok, lbindL_ok, lbind_ok, List.append_nil, ha, bindB_ok, bool_bl, bbindB_ok, Bool.not_true]
      obtain ⟨x3', x4', e⟩ := ih (some (.clo nm ds)) (some w)
      refine ⟨x3', x4', ?_⟩
      show forL xs (some (r, .lst rs)) (gT (gConsD (gN 3) (gConsD (gN 4) gNilD))) l1__law_told (.tup [.clo nm ds, w] :: zipD us vs) _ O = _
      rw [forL_nx (lk := some (r, .lst rs)) st rfl hb]
      exact e
  obtain ⟨x3, x4, e⟩ := gen (zipD rs ws) rs ws none none h
  have hl := h.len
  have lk : look O (.loc r) = .lst rs := look_loc hr
  have hi : fIsT [.loc r, .ty "list"] O = .ok (.bl true) O := by
    have : tyName O (.loc r) = some "list" := by unfold tyName; rw [lk]
    unfold fIsT
    simp only [this]
    rfl
  have h1 : fLen [.loc r] O = .ok (.int (rs.length : Int)) O := by
    unfold fLen
    simp only [lk]
  have h2 : fLen [.lst ws] O = .ok (.int (ws.length : Int)) O := len_lst
  have hb : b__law_told [some (.loc r), some g, some (.lst ws), none, none] O = .rt (.bl true) O := by
    unfold b__law_told
    have hc : dOrT (dNotT (dVal (dCB fIsT (dCons (dVar 0) (dCons (dC (.ty "list")) dNil))))) (dVal (dOp fNe (dCB fLen (dCons (dVar 0) dNil)) (dCB fLen (dCons (dVar 2) dNil)))) [some (.loc r), some g, some (.lst ws), none, none] O = .ok false O := by
      have hne : fNe (.int (rs.length : Int)) (.int (ws.length : Int)) O = .ok (.bl false) O := by
        rw [hl]
        show Res.ok (.bl (!((ws.length : Int) == (ws.length : Int)))) O = _
        simp
      simp only [ap_orT, ap_notT, ap_val, ap_cb, ap_cons, ap_c, ap_nil, ap_op, var_s, var_0, bind_ok, bindL_ok, lbindL_ok, lbind_ok, hi, h1, h2, hne, bindB_ok, bool_bl, bbindB_ok, Bool.not_true]
      rfl
    rw [ap_seq, if_f hc]
    show r1__law_told [some (.loc r), some g, some (.lst ws), none, none] O = _
    unfold r1__law_told
    have hf : dFor (srcZip (dVar 0) (dVar 2)) (gT (gConsD (gN 3) (gConsD (gN 4) gNilD))) l1__law_told [some (.loc r), some g, some (.lst ws), none, none] O = .nx [some (.loc r), some g, some (.lst ws), x3, x4] O := by
      have hz : srcZip (dVar 0) (dVar 2) [some (.loc r), some g, some (.lst ws), none, none] O = .ok (zipD rs ws) (some (r, .lst rs)) O := by
        show (match Yk.listOf O (.loc r), Yk.listOf O (.lst ws) with
          | some (ds, none), some (es, lk) => ResI.ok (zipD ds es) lk O
          | some (ds, lk), some (es, none) => .ok (zipD ds es) lk O
          | _, _ => .stuck) = _
        have l1 : Yk.listOf O (.loc r) = some (rs, some (r, .lst rs)) := by
          unfold Yk.listOf
          simp only [hr]
        rw [l1]
        rfl
      rw [ap_for, hz]
      exact e
    rw [seq_nx hf]
    rfl
  show trimR O (b__law_told [some (.loc r), some g, some (.lst ws), none, none] O).res = _
  rw [hb]
  exact trim_same (.bl _)

open Yk.Nm Yk.Pt Yk.Gb
/-! ### four dicts and their lists, in the store -/
theorem gA (G R : Sto) (k : Nat) : (G ++ R)[G.length + k]? = R[k]? := by rw [List.getElem?_append_right (by omega), show G.length + k - G.length = k by omega]
theorem sA (G R : Sto) (k : Nat) (x : OD) : (G ++ R).set (G.length + k) x = G ++ R.set k x := by rw [List.set_append_right _ _ (by omega), show G.length + k - G.length = k by omega]
theorem put_at {O : Sto} {n : Nat} {kvs : List (Key × D)} {t : Str} {v : D} (h : O[n]? = some (.dic kvs)) (hl : kvs.length < 1000000) : putD O (.loc n) (.str t) v = some (O.set n (.dic (setK kvs (.inr t) v))) := by
  have e : ownK O (.loc n) = some (n, kvs) := by simp [ownK, h]
  unfold putD
  rw [e]
  dsimp only [keyD]
  rw [if_pos hl]
structure Dat where
  lies : List (Key × D)
  stiff : List (Key × D)
  told : List (Key × D)
  PP : List (List D)
structure Four where
  a : Nat
  b : Nat
  c : Nat
  d : Nat
  ls : List Nat
def Four.foot (f : Four) : List Nat := f.a :: f.b :: f.c :: f.d :: f.ls
abbrev Four.rows (f : Four) : D := .lst [.loc f.a, .loc f.b, .loc f.c, .loc f.d]
abbrev Four.gr (f : Four) : D := grL (.loc f.a) (.loc f.b) (.loc f.c) (.loc f.d)
def lkT (Tn : List (List Nat)) (ls : List Nat) : List (Key × D) := (Tn.zip ls).map fun p => (.inr (T p.1), .loc p.2)
structure Inv (Tn Pn : List (List Nat)) (n : Nat) (x : Dat) : Prop where
  ll : x.lies.length ≤ n
  sl : x.stiff.length ≤ n
  tl : x.told.length ≤ n
  lr : ∀ kv ∈ x.lies, kv.2 = .str "left" ∨ kv.2 = .str "right"
  ln : (x.lies.map (·.1)).Nodup
  st : okSeen x.stiff
  tr : ∀ kv ∈ x.stiff, kv.2 = .bl true
  td : okSeen x.told
  pl : x.PP.length = Tn.length
  ps : ∀ ps ∈ x.PP, ∀ d ∈ ps, ∃ l, stepOf l d
  pz : ∀ ps ∈ x.PP, ps.length ≤ n
  has : ∀ p ∈ Pn, ∃ v, getK x.lies (.inr (T p)) = some (.str v)
structure Tk (Tn : List (List Nat)) : Prop where
  nd : Tn.Nodup
  pos : 0 < Tn.length
  few : Tn.length < 900
  ne : ∀ t ∈ Tn, t ≠ []
structure Fo (Tn : List (List Nat)) (O : Sto) (f : Four) (x : Dat) : Prop where
  a : O[f.a]? = some (.dic x.lies)
  b : O[f.b]? = some (.dic x.stiff)
  c : O[f.c]? = some (.dic (lkT Tn f.ls))
  d : O[f.d]? = some (.dic x.told)
  ll : f.ls.length = Tn.length
  pl : x.PP.length = Tn.length
  at_ : ∀ (i m : Nat) (ps : List D), f.ls[i]? = some m → x.PP[i]? = some ps → O[m]? = some (.lst ps)
  inj : ∀ (i j m : Nat), f.ls[i]? = some m → f.ls[j]? = some m → i = j
  ab : f.a ≠ f.b
  ac : f.a ≠ f.c
  ad : f.a ≠ f.d
  bc : f.b ≠ f.c
  bd : f.b ≠ f.d
  cd : f.c ≠ f.d
theorem ltO {O : Sto} {m : Nat} {o : OD} (h : O[m]? = some o) : m < O.length := (List.getElem?_eq_some_iff.mp h).1
section
variable {Tn Pn : List (List Nat)} {n : Nat} {x : Dat} {O O' : Sto} {f : Four}
theorem Fo.lsAt (h : Fo Tn O f x) {m : Nat} (hm : m ∈ f.ls) : ∃ ps, O[m]? = some (.lst ps) := by
  obtain ⟨i, hi, e⟩ := List.mem_iff_getElem.mp hm
  have h1 : f.ls[i]? = some m := by rw [List.getElem?_eq_getElem hi, e]
  have h2 : i < x.PP.length := by rw [h.pl, ← h.ll]; exact hi
  exact ⟨_, h.at_ i m _ h1 (List.getElem?_eq_getElem h2)⟩
theorem Fo.lt (h : Fo Tn O f x) : ∀ m ∈ f.foot, m < O.length := fun m hm => by
  unfold Four.foot at hm
  rcases List.mem_cons.mp hm with rfl | hm
  · exact ltO h.a
  rcases List.mem_cons.mp hm with rfl | hm
  · exact ltO h.b
  rcases List.mem_cons.mp hm with rfl | hm
  · exact ltO h.c
  rcases List.mem_cons.mp hm with rfl | hm
  · exact ltO h.d
  obtain ⟨ps, h⟩ := h.lsAt hm
  exact ltO h
theorem Fo.keep (h : Fo Tn O f x) (k : ∀ m ∈ f.foot, O'[m]? = O[m]?) : Fo Tn O' f x :=
  ⟨(k _ (by simp [Four.foot])).trans h.a, (k _ (by simp [Four.foot])).trans h.b, (k _ (by simp [Four.foot])).trans h.c, (k _ (by simp [Four.foot])).trans h.d, h.ll, h.pl, fun i m ps e1 e2 => (k m (by
    unfold Four.foot
    exact List.mem_cons_of_mem _ (List.mem_cons_of_mem _ (List.mem_cons_of_mem _ (List.mem_cons_of_mem _ (List.mem_of_getElem? e1)))))).trans (h.at_ i m ps e1 e2), h.inj, h.ab, h.ac, h.ad, h.bc, h.bd, h.cd⟩
theorem Fo.app (h : Fo Tn O f x) (R : Sto) : Fo Tn (O ++ R) f x := h.keep fun m hm => by rw [List.getElem?_append_left (h.lt m hm)]
theorem Fo.pv (h : Fo Tn O f x) : Pv O (lkT Tn f.ls) (Tn.zip x.PP) := by
  have gen : ∀ (Tn : List (List Nat)) (ls : List Nat) (PP : List (List D)), ls.length = Tn.length → PP.length = Tn.length → (∀ (i m : Nat) (ps : List D), ls[i]? = some m → PP[i]? = some ps → O[m]? = some (.lst ps)) → Pv O (lkT Tn ls) (Tn.zip PP) := by
    intro Tn
    induction Tn with
    | nil => intro ls PP _ _ _; exact .nil
    | cons t Tn ih =>
      intro ls PP h1 h2 h
      cases ls with
      | nil => cases h1
      | cons m ls =>
        cases PP with
        | nil => cases h2
        | cons p PP =>
          refine .cons (.loc (h 0 m p rfl rfl)) (ih ls PP (by simpa using h1) (by simpa using h2) fun i m ps e1 e2 => h (i + 1) m ps e1 e2)
  exact gen Tn f.ls x.PP h.ll h.pl h.at_
theorem Inv.zok (i : Inv Tn Pn n x) (t : Tk Tn) (hn : n < 900) : Zok (Tn.zip x.PP) :=
  ⟨by rw [List.map_fst_zip (by rw [i.pl]; exact Nat.le_refl _)]; exact t.nd, fun p hp => i.ps p.2 (List.of_mem_zip hp).2, fun p hp => by have := i.pz p.2 (List.of_mem_zip hp).2; omega, fun p hp => t.ne p.1 (List.of_mem_zip hp).1⟩
theorem look_dic {O : Sto} {m : Nat} {kvs : List (Key × D)} (h : O[m]? = some (.dic kvs)) : look O (.loc m) = .dic kvs := by
  unfold look
  simp only [h]
theorem Fo.gr_ (h : Fo Tn O f x) (i : Inv Tn Pn n x) (t : Tk Tn) (hn : n < 900) : Gr O (.loc f.b) (.loc f.c) (.loc f.d) x.stiff (lkT Tn f.ls) x.told (Tn.zip x.PP) :=
  ⟨look_dic h.b, look_dic h.d, .inr ⟨_, rfl, h.c⟩, h.pv, i.zok t hn, i.st, i.tr, i.td⟩
/-! what is set -/
theorem Fo.setD (h : Fo Tn O f x) (t' : List (Key × D)) : Fo Tn (O.set f.d (.dic t')) f { x with told := t' } := by
  have hl := ltO h.d
  refine ⟨?_, ?_, ?_, List.getElem?_set_self hl, h.ll, h.pl, fun i m ps e1 e2 => ?_, h.inj, h.ab, h.ac, h.ad, h.bc, h.bd, h.cd⟩
  · rw [List.getElem?_set_ne (Ne.symm h.ad)]; exact h.a
  · rw [List.getElem?_set_ne (Ne.symm h.bd)]; exact h.b
  · rw [List.getElem?_set_ne (Ne.symm h.cd)]; exact h.c
  · have := h.at_ i m ps e1 e2
    rw [List.getElem?_set_ne fun e => by rw [← e, h.d] at this; cases this]
    exact this
theorem Fo.setB (h : Fo Tn O f x) (t' : List (Key × D)) : Fo Tn (O.set f.b (.dic t')) f { x with stiff := t' } := by
  have hl := ltO h.b
  refine ⟨?_, List.getElem?_set_self hl, ?_, ?_, h.ll, h.pl, fun i m ps e1 e2 => ?_, h.inj, h.ab, h.ac, h.ad, h.bc, h.bd, h.cd⟩
  · rw [List.getElem?_set_ne (Ne.symm h.ab)]; exact h.a
  · rw [List.getElem?_set_ne h.bc]; exact h.c
  · rw [List.getElem?_set_ne h.bd]; exact h.d
  · have := h.at_ i m ps e1 e2
    rw [List.getElem?_set_ne fun e => by rw [← e, h.b] at this; cases this]
    exact this
theorem Fo.setA (h : Fo Tn O f x) (t' : List (Key × D)) : Fo Tn (O.set f.a (.dic t')) f { x with lies := t' } := by
  have hl := ltO h.a
  refine ⟨List.getElem?_set_self hl, ?_, ?_, ?_, h.ll, h.pl, fun i m ps e1 e2 => ?_, h.inj, h.ab, h.ac, h.ad, h.bc, h.bd, h.cd⟩
  · rw [List.getElem?_set_ne h.ab]; exact h.b
  · rw [List.getElem?_set_ne h.ac]; exact h.c
  · rw [List.getElem?_set_ne h.ad]; exact h.d
  · have := h.at_ i m ps e1 e2
    rw [List.getElem?_set_ne fun e => by rw [← e, h.a] at this; cases this]
    exact this
theorem Fo.setL (h : Fo Tn O f x) {j m : Nat} (hm : f.ls[j]? = some m) (ps' : List D) : Fo Tn (O.set m (.lst ps')) f { x with PP := x.PP.set j ps' } := by
  obtain ⟨ps0, h0⟩ := h.lsAt (List.mem_of_getElem? hm)
  have hl := ltO h0
  have ne : ∀ {k : Nat} {kvs : List (Key × D)}, O[k]? = some (.dic kvs) → m ≠ k := fun hk e => by rw [e, hk] at h0; cases h0
  refine ⟨?_, ?_, ?_, ?_, h.ll, by rw [List.length_set]; exact h.pl, fun i k ps e1 e2 => ?_, h.inj, h.ab, h.ac, h.ad, h.bc, h.bd, h.cd⟩
  · rw [List.getElem?_set_ne (ne h.a)]; exact h.a
  · rw [List.getElem?_set_ne (ne h.b)]; exact h.b
  · rw [List.getElem?_set_ne (ne h.c)]; exact h.c
  · rw [List.getElem?_set_ne (ne h.d)]; exact h.d
  · by_cases hij : j = i
    · subst hij
      rw [hm] at e1
      cases e1
      have hj : j < x.PP.length := by
        have := (List.getElem?_eq_some_iff.mp hm).1
        rw [h.ll] at this
        rw [h.pl]
        exact this
      rw [List.getElem?_set_self hj] at e2
      cases e2
      exact List.getElem?_set_self hl
    · rw [List.getElem?_set_ne hij] at e2
      rw [List.getElem?_set_ne fun e => hij (h.inj j i m hm (by rw [e]; exact e1))]
      exact h.at_ i k ps e1 e2
/-! a new list in the place of one -/
theorem lkT_get {ls : List Nat} (hl : ls.length = Tn.length) (hn : Tn.Nodup) {i m : Nat} {t : List Nat} (h1 : Tn[i]? = some t) (h2 : ls[i]? = some m) : getK (lkT Tn ls) (.inr (T t)) = some (.loc m) := by
  have hk : ((lkT Tn ls).map (·.1)).Nodup := by
    unfold lkT
    rw [List.map_map]
    have : (Tn.zip ls).map ((fun kv : Key × D => kv.1) ∘ fun p : List Nat × Nat => (.inr (T p.1), .loc p.2)) = Tn.map fun t => (.inr (T t) : Key) := by
      rw [show ((fun kv : Key × D => kv.1) ∘ fun p : List Nat × Nat => (.inr (T p.1), .loc p.2)) = (fun t => (.inr (T t) : Key)) ∘ Prod.fst from rfl, ← List.map_map, List.map_fst_zip (by rw [hl]; exact Nat.le_refl _)]
    rw [this, List.nodup_iff_pairwise_ne, List.pairwise_map]
    exact List.Pairwise.imp (fun h e => h (T_inj (Sum.inr.inj e))) hn
  have hm : ((.inr (T t) : Key), D.loc m) ∈ lkT Tn ls := by
    unfold lkT
    exact List.mem_map.mpr ⟨(t, m), List.mem_of_getElem? (i := i) (by rw [List.getElem?_zip_eq_some]; exact ⟨h1, h2⟩), rfl⟩
  exact getK_self hk _ hm
theorem lkT_set (hn : Tn.Nodup) : ∀ {Tn : List (List Nat)} {ls : List Nat}, ls.length = Tn.length → Tn.Nodup → ∀ {i m : Nat} {t : List Nat}, Tn[i]? = some t → setK (lkT Tn ls) (.inr (T t)) (.loc m) = lkT Tn (ls.set i m) := by
  intro Tn ls hl hn i m t h1
  have gen : ∀ (Tn : List (List Nat)) (ls : List Nat) (i : Nat), ls.length = Tn.length → Tn.Nodup → Tn[i]? = some t → (lkT Tn ls).map (fun kv => if kv.1 = (.inr (T t) : Key) then ((.inr (T t) : Key), D.loc m) else kv) = lkT Tn (ls.set i m) := by
    intro Tn
    induction Tn with
    | nil => intro ls i _ _ h; cases h
    | cons u Tn ih =>
      intro ls i hl hn h
      cases ls with
      | nil => cases hl
      | cons k ls =>
        rw [List.nodup_cons] at hn
        have e : ∀ k ls, lkT (u :: Tn) (k :: ls) = ((.inr (T u) : Key), D.loc k) :: lkT Tn ls := fun _ _ => rfl
        cases i with
        | zero =>
          have hu : u = t := Option.some.inj h
          subst hu
          rw [List.set_cons_zero, e, e, List.map_cons, if_pos rfl]
          refine congrArg (_ :: ·) ((List.map_congr_left (g := id) fun kv hkv => ?_).trans (List.map_id _))
          obtain ⟨p, hp, rfl⟩ := List.mem_map.mp hkv
          refine if_neg fun e => hn.1 ?_
          have := T_inj (Sum.inr.inj e)
          rw [← this]
          exact (List.of_mem_zip hp).1
        | succ i =>
          rw [List.set_cons_succ, e, e, List.map_cons, ih ls i (by simpa using hl) hn.2 h, if_neg fun e => hn.1 ?_]
          have e := T_inj (Sum.inr.inj e)
          have e : u = t := e
          rw [e]
          exact List.mem_of_getElem? (i := i) h
  unfold setK
  rw [if_pos]
  · exact gen Tn ls i hl hn h1
  · have hi : i < ls.length := by rw [hl]; exact (List.getElem?_eq_some_iff.mp h1).1
    rw [List.any_eq_true]
    exact ⟨((.inr (T t) : Key), D.loc ls[i]), List.mem_map.mpr ⟨(t, ls[i]), List.mem_of_getElem? (i := i) (by rw [List.getElem?_zip_eq_some]; exact ⟨h1, List.getElem?_eq_getElem hi⟩), rfl⟩, by simp⟩
theorem Fo.setN (h : Fo Tn O f x) (hn : Tn.Nodup) {j : Nat} {t : List Nat} (hj : Tn[j]? = some t) (ps' : List D) : Fo Tn ((O ++ [OD.lst ps']).set f.c (.dic (setK (lkT Tn f.ls) (.inr (T t)) (.loc O.length)))) { f with ls := f.ls.set j O.length } { x with PP := x.PP.set j ps' } := by
  have la := ltO h.a
  have lb := ltO h.b
  have lc := ltO h.c
  have ld := ltO h.d
  have hjl : j < Tn.length := (List.getElem?_eq_some_iff.mp hj).1
  rw [lkT_set hn h.ll hn hj]
  have fresh : ∀ i, f.ls[i]? ≠ some O.length := fun i e => by
    obtain ⟨ps, h⟩ := h.lsAt (List.mem_of_getElem? e)
    have := ltO h
    omega
  have old : ∀ i k, (f.ls.set j O.length)[i]? = some k → (i = j ∧ k = O.length) ∨ (i ≠ j ∧ f.ls[i]? = some k) := fun i k e => by
    by_cases hij : j = i
    · subst hij
      rw [List.getElem?_set_self (by rw [h.ll]; exact hjl)] at e
      exact .inl ⟨rfl, (Option.some.inj e).symm⟩
    · rw [List.getElem?_set_ne hij] at e
      exact .inr ⟨Ne.symm hij, e⟩
  refine ⟨?_, ?_, List.getElem?_set_self (by simp; omega), ?_, by rw [List.length_set]; exact h.ll, by rw [List.length_set]; exact h.pl, fun i k ps e1 e2 => ?_, fun i i' k e1 e2 => ?_, h.ab, h.ac, h.ad, h.bc, h.bd, h.cd⟩
  · rw [List.getElem?_set_ne (Ne.symm h.ac), List.getElem?_append_left la]; exact h.a
  · rw [List.getElem?_set_ne (Ne.symm h.bc), List.getElem?_append_left lb]; exact h.b
  · rw [List.getElem?_set_ne h.cd, List.getElem?_append_left ld]; exact h.d
  · rcases old i k e1 with ⟨rfl, rfl⟩ | ⟨q, e1⟩
    · rw [List.getElem?_set_self (by rw [h.pl]; exact hjl)] at e2
      cases e2
      rw [List.getElem?_set_ne (by omega)]
      simp
    · rw [List.getElem?_set_ne (Ne.symm q)] at e2
      have h0 := h.at_ i k ps e1 e2
      have hne : f.c ≠ k := fun e => by
        rw [← e, h.c] at h0
        cases h0
      rw [List.getElem?_set_ne hne, List.getElem?_append_left (ltO h0)]
      exact h0
  · rcases old i k e1 with ⟨rfl, rfl⟩ | ⟨q, e1⟩ <;> rcases old i' _ e2 with ⟨r, rr⟩ | ⟨r, e2⟩
    · exact r.symm
    · exact absurd e2 (fresh i')
    · rw [rr] at e1
      exact absurd e1 (fresh i)
    · exact h.inj i i' k e1 e2
end

open Yk.Nm Yk.Pt Yk.Gb
/-! ### something is turned -/
theorem in_look {O : Sto} {x : D} {kvs : List (Key × D)} (h : look O x = .dic kvs) (l : List Nat) : fIn (S l) x O = .ok (.bl (getK kvs (.inr (T l))).isSome) O := by
  have : inRes (S l) x O = some (getK kvs (.inr (T l))).isSome := by
    unfold inRes dGetD
    rw [h]
    rfl
  unfold fIn
  rw [this]
theorem nin_look {O : Sto} {x : D} {kvs : List (Key × D)} (h : look O x = .dic kvs) (l : List Nat) : fNotIn (S l) x O = .ok (.bl (!(getK kvs (.inr (T l))).isSome)) O := by
  have : inRes (S l) x O = some (getK kvs (.inr (T l))).isSome := by
    unfold inRes dGetD
    rw [h]
    rfl
  unfold fNotIn
  rw [this]
def tOf (l : List Nat) (d : D) : Bool := match hd d with
  | .str s => !(s == T l)
  | _ => true
theorem tOf_of {l m : List Nat} {d : D} (h : stepOf m d) : tOf l d = !(T m == T l) := by
  unfold tOf
  rw [stepOf_hd h]
  rfl
/-- the rest of the store stays -/
structure Frm (O O' : Sto) (f : Four) (ls' : List Nat) : Prop where
  le : O.length ≤ O'.length
  keep : ∀ m, m < O.length → m ∉ f.foot → O'[m]? = O[m]?
  ls : ∀ m ∈ ls', m ∈ f.ls ∨ O.length ≤ m
theorem Frm.set {O : Sto} {f : Four} {k : Nat} {od : OD} (hk : k ∈ f.foot) : Frm O (O.set k od) f f.ls :=
  ⟨by simp, fun m _ hm => List.getElem?_set_ne fun e => hm (by rw [← e]; exact hk), fun m hm => .inl hm⟩
section
variable {Tn Pn : List (List Nat)} {n : Nat} {x : Dat} {O : Sto} {f : Four} {L : List (List Nat)} {num : Nat}
abbrev tv (f : Four) (L Tn : List (List Nat)) (num : Nat) (l : List Nat) (way : Nat) (x6 : Option D) : Env' := [some f.rows, some (.lst (L.map S)), some (.lst (Tn.map S)), some (.int (num : Int)), some (S l), some (.int (way : Int)), x6, none]
theorem take_step {l : List Nat} (h : Fo Tn O f x) (hn : Tn.Nodup) (hf : Tn.length < 900) {j : Nat} {t : List Nat} (hj : Tn[j]? = some t) {m : Nat} {ps : List D} (hm : f.ls[j]? = some m) (hp : x.PP[j]? = some ps) (hs : ∀ d ∈ ps, ∃ l, stepOf l d) (hl : ps.length < 900) (rw' : D) (hr : ∀ O', fIx rw' (.int 2) O' = .ok (.loc f.c) O') (e1 e2 e3 e5 : Option D) :
    l1__law_turned [some rw', e1, e2, e3, some (S l), e5, some (S t), none] O = .nx [some rw', e1, e2, e3, some (S l), e5, some (S t), none] ((O ++ [OD.lst (ps.filter (tOf l))]).set f.c (.dic (setK (lkT Tn f.ls) (.inr (T t)) (.loc O.length)))) := by
  have hx : fIx (.loc f.c) (S t) O = .ok (.loc m) O := ix_dic (look_dic h.c) (lkT_get h.ll hn hj hm)
  have hat : O[m]? = some (.lst ps) := h.at_ j m ps hm hp
  have hc : dLc true [7] (srcSeq (dOp fIx (dOp fIx (dVar 0) (dC (.int 2))) (dVar 6))) (gN 7) t1__law_turned (dVar 7) [some rw', e1, e2, e3, some (S l), e5, some (S t), none] O = .ok (.loc O.length) (O ++ [OD.lst (ps.filter (tOf l))]) := by
    have h := lc_T (own := true) (vs := [7]) (src := srcSeq (dOp fIx (dOp fIx (dVar 0) (dC (.int 2))) (dVar 6))) (g := gN 7) (tst := t1__law_turned) (elt := dVar 7) (ρ := [some rw', e1, e2, e3, some (S l), e5, some (S t), none]) (O := O) (O1 := O) (lk := some (m, .lst ps)) (id : D → D) (tOf l) id ps (by simp only [ap_srcSeq, ap_op, ap_c, var_s, var_0, bind_ok, hr, hx]; rw [show (Res.ok (D.loc m) O).bindI seqK = seqK (.loc m) O from rfl, seqK_loc hat, List.map_id]) hat (fun d hd' => by
      obtain ⟨k, hk⟩ := hs d hd'
      refine ⟨_, rfl, ?_, fun _ => rfl⟩
      have h0 : fIx d (.int 0) O = .ok (S k) O := by
        obtain ⟨e, o, j, rfl⟩ := hk
        rfl
      have hne : fNe (S k) (S l) O = .ok (.bl (!(T k == T l))) O := rfl
      unfold t1__law_turned
      rw [tOf_of hk]
      show dVal (dOp fNe (dOp fIx (dVar 7) (dC (.int 0))) (dVar 4)) [some rw', e1, e2, e3, some (S l), e5, some (S t), some d] O = _
      simp only [ap_val, ap_op, ap_c, var_s, var_0, bind_ok, h0, hne, bindB_ok, bool_bl]) (by omega)
    rw [h, List.map_id]
    rfl
  unfold l1__law_turned
  have hcl : (O ++ [OD.lst (ps.filter (tOf l))])[f.c]? = some (.dic (lkT Tn f.ls)) := by rw [List.getElem?_append_left (ltO h.c)]; exact h.c
  have hlen : (lkT Tn f.ls).length < 1000000 := by
    unfold lkT
    rw [List.length_map, List.length_zip]
    omega
  refine put_ok (x := .loc f.c) (y := S t) (O2 := O ++ [OD.lst (ps.filter (tOf l))]) (O3 := O ++ [OD.lst (ps.filter (tOf l))]) hc ?_ rfl ?_
  · simp only [ap_op, ap_c, var_s, var_0, bind_ok, hr]
  · rw [show S t = .str (T t) from rfl, put_at hcl hlen]
theorem take_run {l : List Nat} (t : Tk Tn) (i : Inv Tn Pn n x) (hn : n < 900) (h : Fo Tn O f x) (rw' : D) (hr : ∀ O', fIx rw' (.int 2) O' = .ok (.loc f.c) O') (e1 e2 e3 e5 : Option D) :
    ∃ O' ls' x6, forL (Tn.map S) none (gN 6) l1__law_turned (Tn.map S) [some rw', e1, e2, e3, some (S l), e5, none, none] O = .nx [some rw', e1, e2, e3, some (S l), e5, x6, none] O' ∧ Fo Tn O' { f with ls := ls' } { x with PP := x.PP.map fun ps => ps.filter (tOf l) } ∧ Frm O O' f ls' ∧ ∀ m ∈ ls', O.length ≤ m := by
  have gen : ∀ (k j : Nat) (O1 : Sto) (ls1 : List Nat) (PP1 : List (List D)) (x6 : Option D), j + k = Tn.length → Fo Tn O1 { f with ls := ls1 } { x with PP := PP1 } → Frm O O1 f ls1 → (∀ i m, i < j → ls1[i]? = some m → O.length ≤ m) → (∀ i, j ≤ i → ls1[i]? = f.ls[i]? ∧ PP1[i]? = x.PP[i]?) → (∀ i, i < j → PP1[i]? = (x.PP.map fun ps => ps.filter (tOf l))[i]?) →
      ∃ O' ls' x6', forL (Tn.map S) none (gN 6) l1__law_turned ((Tn.drop j).map S) [some rw', e1, e2, e3, some (S l), e5, x6, none] O1 = .nx [some rw', e1, e2, e3, some (S l), e5, x6', none] O' ∧ Fo Tn O' { f with ls := ls' } { x with PP := x.PP.map fun ps => ps.filter (tOf l) } ∧ Frm O O' f ls' ∧ ∀ m ∈ ls', O.length ≤ m := by
    intro k
    induction k with
    | zero =>
      intro j O1 ls1 PP1 x6 hk hF hR hlo hhi hPP
      have hd : Tn.drop j = [] := List.drop_of_length_le (by omega)
      have hP : PP1 = x.PP.map fun ps => ps.filter (tOf l) := List.ext_getElem? fun q => by
        rcases Nat.lt_or_ge q j with h1 | h1
        · exact hPP q h1
        · rw [List.getElem?_eq_none (by have := hF.pl; simp only at this; omega), List.getElem?_eq_none (by have := i.pl; simp; omega)]
      rw [hP] at hF
      refine ⟨O1, ls1, x6, ?_, hF, hR, fun m hm => ?_⟩
      · rw [hd]
        exact forL_nil (still_none.mpr trivial)
      · obtain ⟨q, hq, e⟩ := List.mem_iff_getElem.mp hm
        have hql := hF.ll
        simp only at hql
        exact hlo q m (by omega) (by rw [List.getElem?_eq_getElem hq, e])
    | succ k ih =>
      intro j O1 ls1 PP1 x6 hk hF hR hlo hhi hPP
      have hjl : j < Tn.length := by omega
      have hd : Tn.drop j = Tn[j] :: Tn.drop (j + 1) := List.drop_eq_getElem_cons hjl
      have hjt : Tn[j]? = some Tn[j] := List.getElem?_eq_getElem hjl
      have hfl : f.ls.length = Tn.length := h.ll
      have hpl := i.pl
      obtain ⟨m, hm⟩ : ∃ m, f.ls[j]? = some m := ⟨_, List.getElem?_eq_getElem (by omega)⟩
      obtain ⟨ps, hps⟩ : ∃ ps, x.PP[j]? = some ps := ⟨_, List.getElem?_eq_getElem (by omega)⟩
      have hm1 : ls1[j]? = some m := by rw [(hhi j (Nat.le_refl _)).1]; exact hm
      have hps1 : PP1[j]? = some ps := by rw [(hhi j (Nat.le_refl _)).2]; exact hps
      have hmem := List.mem_of_getElem? hps
      have hb := take_step (l := l) hF t.nd t.few hjt hm1 hps1 (i.ps ps hmem) (by have := i.pz ps hmem; omega) rw' hr e1 e2 e3 e5
      have hF2 := hF.setN t.nd hjt (ps.filter (tOf l))
      have hls : ls1.length = Tn.length := hF.ll
      have hPl : PP1.length = Tn.length := hF.pl
      have hlt : f.c < O1.length := ltO hF.c
      obtain ⟨O2, hO2⟩ : ∃ O2 : Sto, (O1 ++ [OD.lst (ps.filter (tOf l))]).set f.c (.dic (setK (lkT Tn ls1) (.inr (T Tn[j])) (.loc O1.length))) = O2 := ⟨_, rfl⟩
      have hb : l1__law_turned [some rw', e1, e2, e3, some (S l), e5, some (S Tn[j]), none] O1 = .nx [some rw', e1, e2, e3, some (S l), e5, some (S Tn[j]), none] O2 := by rw [← hO2]; exact hb
      have hF2 : Fo Tn O2 { f with ls := ls1.set j O1.length } { x with PP := PP1.set j (ps.filter (tOf l)) } := by rw [← hO2]; exact hF2
      have hlen2 : O2.length = O1.length + 1 := by rw [← hO2]; simp
      have hR2 : Frm O O2 f (ls1.set j O1.length) := ⟨by have := hR.le; omega, fun q hq hnq => by
        rw [← hO2, List.getElem?_set_ne fun e => hnq (by rw [← e]; simp [Four.foot]), List.getElem?_append_left (by have := hR.le; omega)]
        exact hR.keep q hq hnq, fun q hq => by
        rcases List.mem_or_eq_of_mem_set hq with h1 | rfl
        · exact hR.ls q h1
        · exact .inr hR.le⟩
      obtain ⟨O', ls', x6', e, r1, r2, r3⟩ := ih (j + 1) O2 (ls1.set j O1.length) (PP1.set j (ps.filter (tOf l))) (some (S Tn[j])) (by omega) hF2 hR2 (fun q m' hq e => by
        by_cases hqj : j = q
        · subst hqj
          rw [List.getElem?_set_self (by omega)] at e
          cases e
          exact hR.le
        · rw [List.getElem?_set_ne hqj] at e
          exact hlo q m' (by omega) e) (fun q hq => by
        rw [List.getElem?_set_ne (by omega), List.getElem?_set_ne (by omega)]
        exact hhi q (by omega)) (fun q hq => by
        by_cases hqj : j = q
        · subst hqj
          rw [List.getElem?_set_self (by omega), List.getElem?_map, hps]
          rfl
        · rw [List.getElem?_set_ne hqj]
          exact hPP q (by omega))
      refine ⟨O', ls', x6', ?_, r1, r2, r3⟩
      rw [hd, List.map_cons, forL_nx (still_none.mpr trivial) rfl hb]
      exact e
  obtain ⟨O', ls', x6', e, r1, r2, r3⟩ := gen Tn.length 0 O f.ls x.PP none (by omega) h ⟨Nat.le_refl _, fun _ _ _ => rfl, fun _ h => .inl h⟩ (fun _ _ h => absurd h (Nat.not_lt_zero _)) (fun _ _ => ⟨rfl, rfl⟩) (fun _ h => absurd h (Nat.not_lt_zero _))
  exact ⟨O', ls', x6', e, r1, r2, r3⟩
end

open Yk.Nm Yk.Pt Yk.Gb
section
variable {Tn Pn : List (List Nat)} {n : Nat} {x : Dat} {L : List (List Nat)} {num : Nat}
theorem turned_of {O O' : Sto} {f : Four} {ls' : List Nat} {x' : Dat} {ρ' : Env'} (hb : b__law_turned [some f.rows, some (.lst (L.map S)), some (.lst (Tn.map S)), some (.int (num : Int)), none, none, none, none] O = .nx ρ' O')
    (hF : Fo Tn O' { f with ls := ls' } x') (hR : Frm O O' f ls') (hk : O'.length = O.length ∨ ¬ Kept O O') : ∃ O' ls', m__law_turned [f.rows, .lst (L.map S), .lst (Tn.map S), .int (num : Int)] O = .ok .non O' ∧ Fo Tn O' { f with ls := ls' } x' ∧ Frm O O' f ls' := by
  refine ⟨O', ls', ?_, hF, hR⟩
  show trimR O (b__law_turned [some f.rows, some (.lst (L.map S)), some (.lst (Tn.map S)), some (.int (num : Int)), none, none, none, none] O).res = _
  rw [hb]
  show trimR O (.ok .non O') = _
  rcases hk with h | h
  · exact trim_len h
  · unfold trimR
    dsimp only
    rw [if_neg fun q => h q.2]
noncomputable def tt : DTS := (dIf (dAndT (dVal (dOp fEq (dVar 5) (dC (.int 0)))) (dNotT (dVal (dCall m__law_held [] (dCons (dOp fIx (dVar 0) (dC (.int 2))) (dCons (dVar 4) dNil))))))
  (dExpr (dBMi isL fAppend (dOp fIx (dOp fIx (dVar 0) (dC (.int 2))) (dOp fIx (dVar 2) (dC (.int 0)))) (dCons (dCall m__law_whole_step [] (dCons (dVar 4) (dCons (dGet2 (dOp fIx (dVar 0) (dC (.int 0))) (dVar 4) (dC (.str ""))) (dCons (dOp fDiv (dVar 3) (dC (.int 64))) dNil)))) dNil)))
  (dIf (dVal (dOp fEq (dVar 5) (dC (.int 0))))
  (dFor (srcSeq (dVar 2)) (gN 6)
  l1__law_turned)
  (dIf (dVal (dOp fEq (dVar 5) (dC (.int 1))))
  (dPut (dOp fIx (dVar 0) (dC (.int 3))) (dVar 4) (dNotV (dGet2 (dOp fIx (dVar 0) (dC (.int 3))) (dVar 4) (dC (.bl false)))))
  (dIf (dVal (dOp fNotIn (dVar 4) (dOp fIx (dVar 0) (dC (.int 0)))))
  (dPut (dOp fIx (dVar 0) (dC (.int 3))) (dVar 4) (dC (.bl true)))
  (dIf (dAndT (dVal (dOp fEq (dVar 5) (dC (.int 2)))) (dVal (dOp fIn (dVar 4) (dOp fIx (dVar 0) (dC (.int 1))))))
  (dExpr (dDPop1 (dOp fIx (dVar 0) (dC (.int 1))) (dVar 4)))
  (dIf (dVal (dOp fEq (dVar 5) (dC (.int 2))))
  (dPut (dOp fIx (dVar 0) (dC (.int 1))) (dVar 4) (dC (.bl true)))
  (dPut (dOp fIx (dVar 0) (dC (.int 0))) (dVar 4) (dOp fIx (dDisp false [((dC (.str "left")), (dC (.str "right"))), ((dC (.str "right")), (dC (.str "left")))]) (dOp fIx (dOp fIx (dVar 0) (dC (.int 0))) (dVar 4))))))))))
theorem turned_ok (t : Tk Tn) (hL : 0 < L.length) (num : Nat) (hn : n < 800) (i : Inv Tn Pn n x) : ∃ x', Inv Tn Pn (n + 1) x' ∧ ∀ O f, Fo Tn O f x → ∃ O' ls', m__law_turned [f.rows, .lst (L.map S), .lst (Tn.map S), .int (num : Int)] O = .ok .non O' ∧ Fo Tn O' { f with ls := ls' } x' ∧ Frm O O' f ls' := by
  have hjl : num % L.length < L.length := Nat.mod_lt _ hL
  obtain ⟨l, hl⟩ : ∃ l, L[num % L.length]'hjl = l := ⟨_, rfl⟩
  have hx : ∀ O, fIx (.lst (L.map S)) (.int ((num % L.length : Nat) : Int)) O = .ok (S l) O := fun O => ix_lst (by rw [Yk.atI_nat (by simpa using hjl)]; simp [hl])
  have mj : ∀ O, fMod (.int (num : Int)) (.int (L.length : Int)) O = .ok (.int ((num % L.length : Nat) : Int)) O := fun O => by
    rw [mod_ii (by omega)]
    rfl
  obtain ⟨way, hw⟩ : ∃ w, num / 16 % 4 = w := ⟨_, rfl⟩
  have d16 : ∀ O, fDiv (.int (num : Int)) (.int 16) O = .ok (.int ((num / 16 : Nat) : Int)) O := fun O => by rw [div_ii (by decide) (by decide)]; rfl
  have m4 : ∀ O, fMod (.int ((num / 16 : Nat) : Int)) (.int 4) O = .ok (.int (way : Int)) O := fun O => by rw [mod_ii (by decide), ← hw]; rfl
  have z := i.zok t (by omega)
  have ew : ∀ (k : Nat) O, fEq (.int (way : Int)) (.int (k : Int)) O = .ok (.bl (decide (way = k))) O := fun k O => by
    rw [eq_ii]
    congr 2
    by_cases h : way = k
    · simp [h]
    · have : ¬ (way : Int) = (k : Int) := by omega
      simp [h, this]
  have ew0 : ∀ O, fEq (.int (way : Int)) (.int 0) O = .ok (.bl (decide (way = 0))) O := fun O => ew 0 O
  have ew1 : ∀ O, fEq (.int (way : Int)) (.int 1) O = .ok (.bl (decide (way = 1))) O := fun O => ew 1 O
  have ew2 : ∀ O, fEq (.int (way : Int)) (.int 2) O = .ok (.bl (decide (way = 2))) O := fun O => ew 2 O
  -- what is common
  have pre : ∀ f : Four, ∃ rw', f.rows = rw' ∧ (∀ O', fIx rw' (.int 0) O' = .ok (.loc f.a) O') ∧ (∀ O', fIx rw' (.int 1) O' = .ok (.loc f.b) O') ∧ (∀ O', fIx rw' (.int 2) O' = .ok (.loc f.c) O') ∧ (∀ O', fIx rw' (.int 3) O' = .ok (.loc f.d) O') :=
    fun f => ⟨_, rfl, fun _ => rfl, fun _ => rfl, fun _ => rfl, fun _ => rfl⟩
  have start : ∀ (O : Sto) (f : Four), b__law_turned [some f.rows, some (.lst (L.map S)), some (.lst (Tn.map S)), some (.int (num : Int)), none, none, none, none] O = tt [some f.rows, some (.lst (L.map S)), some (.lst (Tn.map S)), some (.int (num : Int)), some (S l), some (.int (way : Int)), none, none] O := fun O f => by
    unfold b__law_turned
    have t4 : dSet 4 (dOp fIx (dVar 1) (dOp fMod (dVar 3) (dCB fLen (dCons (dVar 1) dNil)))) [some f.rows, some (.lst (L.map S)), some (.lst (Tn.map S)), some (.int (num : Int)), none, none, none, none] O = .nx [some f.rows, some (.lst (L.map S)), some (.lst (Tn.map S)), some (.int (num : Int)), some (S l), none, none, none] O :=
      (set_ok (d := S l) (O1 := O) (by simp only [ap_op, ap_cons, ap_cb, ap_c, ap_nil, var_s, var_0, bind_ok, bindL_ok, lbindL_ok, lbind_ok, len_lst, List.length_map, mj, hx])).trans rfl
    have t5 : dSet 5 (dOp fMod (dOp fDiv (dVar 3) (dC (.int 16))) (dC (.int 4))) [some f.rows, some (.lst (L.map S)), some (.lst (Tn.map S)), some (.int (num : Int)), some (S l), none, none, none] O = .nx [some f.rows, some (.lst (L.map S)), some (.lst (Tn.map S)), some (.int (num : Int)), some (S l), some (.int (way : Int)), none, none] O :=
      (set_ok (d := .int (way : Int)) (O1 := O) (by simp only [ap_op, ap_c, var_s, var_0, bind_ok, d16, m4])).trans rfl
    exact (seq_nx t4).trans ((seq_nx t5).trans rfl)
  by_cases w0 : way = 0
  · have w0d : decide (way = 0) = true := by simp [w0]
    by_cases hh : heldZ (Tn.zip x.PP) l = true
    · -- taken out of all paths
      refine ⟨{ x with PP := x.PP.map fun ps => ps.filter (tOf l) }, ⟨by have := i.ll; simp only; omega, by have := i.sl; simp only; omega, by have := i.tl; simp only; omega, i.lr, i.ln, i.st, i.tr, i.td, by simp only [List.length_map]; exact i.pl, fun ps hps d hd => ?_, fun ps hps => ?_, i.has⟩, fun O f hF => ?_⟩
      · obtain ⟨qs, hqs, rfl⟩ := List.mem_map.mp hps
        exact i.ps qs hqs d (List.mem_filter.mp hd).1
      · obtain ⟨qs, hqs, rfl⟩ := List.mem_map.mp hps
        have h1 := i.pz qs hqs
        have h2 : (qs.filter (tOf l)).length ≤ qs.length := List.length_filter_le _ _
        omega
      · obtain ⟨O', ls', x6, e, r1, r2, r3⟩ := take_run (l := l) t i (by omega) hF f.rows (fun _ => rfl) (some (.lst (L.map S))) (some (.lst (Tn.map S))) (some (.int (num : Int))) (some (.int (way : Int)))
        have hheld := lheld_ok (.inr ⟨_, rfl, hF.c⟩) hF.pv z l
        refine turned_of (ρ' := [some f.rows, some (.lst (L.map S)), some (.lst (Tn.map S)), some (.int (num : Int)), some (S l), some (.int (way : Int)), x6, none]) ((start O f).trans ?_) r1 r2 (.inr fun hk => ?_)
        · obtain ⟨rw', hrw, r0, r1, r2, r3⟩ := pre f
          rw [hrw] at e ⊢
          unfold tt
          have c1 : dAndT (dVal (dOp fEq (dVar 5) (dC (.int 0)))) (dNotT (dVal (dCall m__law_held [] (dCons (dOp fIx (dVar 0) (dC (.int 2))) (dCons (dVar 4) dNil))))) [some rw', some (.lst (L.map S)), some (.lst (Tn.map S)), some (.int (num : Int)), some (S l), some (.int (way : Int)), none, none] O = .ok false O := by
            simp only [ap_andT, ap_notT, ap_val, ap_call, ap_cons, ap_op, ap_c, ap_nil, var_s, var_0, bind_ok, bindL_ok, lbindL_ok, lbind_ok, List.append_nil, ew0, w0d, bindB_ok, bool_bl, bbindB_ok, r2, hheld, hh, Bool.not_true, if_true]
          have c2 : dVal (dOp fEq (dVar 5) (dC (.int 0))) [some rw', some (.lst (L.map S)), some (.lst (Tn.map S)), some (.int (num : Int)), some (S l), some (.int (way : Int)), none, none] O = .ok true O := by
            simp only [ap_val, ap_op, ap_c, var_s, var_0, bind_ok, ew0, w0d, bindB_ok, bool_bl]
          exact (if_f c1).trans ((if_t c2).trans e)
        · have h0 : 0 < ls'.length := by have := r1.ll; simp only at this; rw [this]; exact t.pos
          have hc' := r1.c
          obtain ⟨m, ms, hms⟩ : ∃ m ms, ls' = m :: ms := by
            cases ls' with
            | nil => cases h0
            | cons m ms => exact ⟨m, ms, rfl⟩
          have hm := r3 m (by rw [hms]; exact List.mem_cons_self ..)
          obtain ⟨u, us, hus⟩ : ∃ u us, Tn = u :: us := by
            have := t.pos
            cases Tn with
            | nil => cases this
            | cons m ms => exact ⟨m, ms, rfl⟩
          have hlk : lkT Tn ls' = ((.inr (T u) : Key), D.loc m) :: lkT us ms := by rw [hms, hus]; rfl
          simp only at hc'
          rw [hlk] at hc'
          rcases hk.2 f.c _ (ltO hF.c) hc' with h1 | h1
          · rw [hF.c] at h1
            have h2 : lkT Tn f.ls = ((.inr (T u) : Key), D.loc m) :: lkT us ms := OD.dic.inj (Option.some.inj h1)
            have h3 : m ∈ f.ls := by
              have : ((.inr (T u) : Key), D.loc m) ∈ lkT Tn f.ls := by rw [h2]; exact List.mem_cons_self ..
              obtain ⟨p, hp, e⟩ := List.mem_map.mp this
              have := D.loc.inj (congrArg Prod.snd e)
              rw [← this]
              exact (List.of_mem_zip hp).2
            obtain ⟨ps, h4⟩ := hF.lsAt h3
            have := ltO h4
            omega
          · cases h1 with
            | dic h1 =>
              cases h1 with
              | cons h1 _ =>
                cases h1 with
                | loc h1 => omega
    · -- one step more
      obtain ⟨ps0, hps0⟩ : ∃ ps, x.PP[0]? = some ps := ⟨_, List.getElem?_eq_getElem (by rw [i.pl]; exact t.pos)⟩
      obtain ⟨lie, hlie⟩ : ∃ v : Str, ∀ O m, look O (.loc m) = .dic x.lies → fGet (.loc m) (S l) (.str "") O = .ok (.str v) O := by
        cases hg : getK x.lies (.inr (T l)) with
        | none => exact ⟨"", fun O m h => by rw [show S l = .str (T l) from rfl, get2_dic h]; unfold getB; rw [hg]; rfl⟩
        | some d =>
          rcases i.lr _ (getK_mem hg) with h | h
          · have h : d = .str "left" := h
            exact ⟨"left", fun O m hl => by rw [show S l = .str (T l) from rfl, get2_dic hl]; unfold getB; rw [hg, h]; rfl⟩
          · have h : d = .str "right" := h
            exact ⟨"right", fun O m hl => by rw [show S l = .str (T l) from rfl, get2_dic hl]; unfold getB; rw [hg, h]; rfl⟩
      obtain ⟨q, q1, _, q3⟩ := whole_ok l lie (num / 64)
      have d64 : ∀ O, fDiv (.int (num : Int)) (.int 64) O = .ok (.int ((num / 64 : Nat) : Int)) O := fun O => by rw [div_ii (by decide) (by decide)]; rfl
      have hmem := List.mem_of_getElem? hps0
      refine ⟨{ x with PP := x.PP.set 0 (ps0 ++ [stD q]) }, ⟨by have := i.ll; simp only; omega, by have := i.sl; simp only; omega, by have := i.tl; simp only; omega, i.lr, i.ln, i.st, i.tr, i.td, by simp only [List.length_set]; exact i.pl, fun ps hps d hd => ?_, fun ps hps => ?_, i.has⟩, fun O f hF => ?_⟩
      · rcases List.mem_or_eq_of_mem_set hps with h | rfl
        · exact i.ps ps h d hd
        · rcases List.mem_append.mp hd with h | h
          · exact i.ps _ hmem d h
          · rw [List.mem_singleton.mp h]
            exact ⟨_, stD_of q⟩
      · rcases List.mem_or_eq_of_mem_set hps with h | rfl
        · have := i.pz ps h; omega
        · have := i.pz _ hmem
          simp
          omega
      · obtain ⟨m, hm⟩ : ∃ m, f.ls[0]? = some m := ⟨_, List.getElem?_eq_getElem (by rw [hF.ll]; exact t.pos)⟩
        have hat := hF.at_ 0 m ps0 hm hps0
        obtain ⟨u, us, hus⟩ : ∃ u us, Tn = u :: us := by
          have := t.pos
          cases Tn with
          | nil => cases this
          | cons m ms => exact ⟨m, ms, rfl⟩
        have hu : Tn[0]? = some u := by rw [hus]; rfl
        have hxt : ∀ O, fIx (.lst (Tn.map S)) (.int 0) O = .ok (S u) O := fun O => by
          have h0 : fIx (.lst (Tn.map S)) (.int ((0 : Nat) : Int)) O = .ok (S u) O := ix_lst (by rw [Yk.atI_nat (by simpa using t.pos)]; simp [hus])
          exact h0
        have hxp : fIx (.loc f.c) (S u) O = .ok (.loc m) O := ix_dic (look_dic hF.c) (lkT_get hF.ll t.nd hu hm)
        have hil : isL O (.loc m) = true := by simp [isL, look, hat]
        have hap : fAppend (.loc m) [stD q] O = .ok .non (O.set m (.lst (ps0 ++ [stD q]))) := by
          have ho : ownL O (.loc m) = some (m, ps0) := by simp [ownL, hat]
          unfold fAppend
          rw [ho]
          dsimp only
          rw [if_pos (by have := i.pz _ hmem; omega)]
        have hheld := lheld_ok (.inr ⟨_, rfl, hF.c⟩) hF.pv z l
        have hla := hlie O f.a (look_dic hF.a)
        have hda := isDc_dic (look_dic hF.a)
        have q3 := q3 O
        have hm4 : m ∈ f.foot := by
          unfold Four.foot
          exact List.mem_cons_of_mem _ (List.mem_cons_of_mem _ (List.mem_cons_of_mem _ (List.mem_cons_of_mem _ (List.mem_of_getElem? hm))))
        refine turned_of (ρ' := [some f.rows, some (.lst (L.map S)), some (.lst (Tn.map S)), some (.int (num : Int)), some (S l), some (.int (way : Int)), none, none]) ((start O f).trans ?_) (hF.setL hm _) (Frm.set hm4) (.inl (by simp))
        obtain ⟨rw', hrw, r0, r1, r2, r3⟩ := pre f
        rw [hrw]
        unfold tt
        have c1 : dAndT (dVal (dOp fEq (dVar 5) (dC (.int 0)))) (dNotT (dVal (dCall m__law_held [] (dCons (dOp fIx (dVar 0) (dC (.int 2))) (dCons (dVar 4) dNil))))) [some rw', some (.lst (L.map S)), some (.lst (Tn.map S)), some (.int (num : Int)), some (S l), some (.int (way : Int)), none, none] O = .ok true O := by
          simp only [ap_andT, ap_notT, ap_val, ap_call, ap_cons, ap_op, ap_c, ap_nil, var_s, var_0, bind_ok, bindL_ok, lbindL_ok, lbind_ok, List.append_nil, ew0, w0d, bindB_ok, bool_bl, bbindB_ok, r2, hheld, Bool.eq_false_iff.mpr hh, Bool.not_false, if_true]
        refine (if_t c1).trans ?_
        simp only [ap_expr, ap_bm, ap_op, ap_call, ap_get2, ap_cons, ap_nil, ap_c, var_s, var_0, bind_ok, bindL_ok, lbindL_ok, lbind_ok, List.append_nil, r0, r2, hxt, hxp, hil, if_true, hda, hla, d64, q3, hap, bindS_ok]
  · by_cases w1 : way = 1
    · -- told otherwise
      have w1d : decide (way = 1) = true := by simp [w1]
      refine ⟨{ x with told := setK x.told (.inr (T l)) (.bl (!sv x.told (T l))) }, ⟨by have := i.ll; simp only; omega, by have := i.sl; simp only; omega, by have := i.tl; have := setK_len (kvs := x.told) (k := .inr (T l)) (d := .bl (!sv x.told (T l))); simp only; omega, i.lr, i.ln, i.st, i.tr, ⟨setK_keys i.td.1, fun kv hkv => ?_⟩, i.pl, i.ps, fun ps h => by have := i.pz ps h; omega, i.has⟩, fun O f hF => ?_⟩
      · rcases setK_mem hkv with rfl | h
        · exact ⟨_, rfl⟩
        · exact i.td.2 kv h
      · have hg : fGet (.loc f.d) (S l) (.bl false) O = .ok (.bl (sv x.told (T l))) O := by rw [show S l = .str (T l) from rfl, get2_dic (look_dic hF.d), getB_sv i.td]
        have hd := isDc_dic (look_dic hF.d)
        refine turned_of (ρ' := [some f.rows, some (.lst (L.map S)), some (.lst (Tn.map S)), some (.int (num : Int)), some (S l), some (.int (way : Int)), none, none]) ((start O f).trans ?_) (hF.setD _) (Frm.set (by simp [Four.foot])) (.inl (by simp))
        obtain ⟨rw', hrw, r0, r1, r2, r3⟩ := pre f
        rw [hrw]
        unfold tt
        have w0' : decide (way = 0) = false := by simpa using w0
        have c1 : dAndT (dVal (dOp fEq (dVar 5) (dC (.int 0)))) (dNotT (dVal (dCall m__law_held [] (dCons (dOp fIx (dVar 0) (dC (.int 2))) (dCons (dVar 4) dNil))))) [some rw', some (.lst (L.map S)), some (.lst (Tn.map S)), some (.int (num : Int)), some (S l), some (.int (way : Int)), none, none] O = .ok false O := by
          simp only [ap_andT, ap_val, ap_op, ap_c, var_s, var_0, bind_ok, ew0, w0', bindB_ok, bool_bl, bbindB_ok, Bool.false_eq_true, if_false]
        have c2 : dVal (dOp fEq (dVar 5) (dC (.int 0))) [some rw', some (.lst (L.map S)), some (.lst (Tn.map S)), some (.int (num : Int)), some (S l), some (.int (way : Int)), none, none] O = .ok false O := by
          simp only [ap_val, ap_op, ap_c, var_s, var_0, bind_ok, ew0, w0', bindB_ok, bool_bl]
        have c3 : dVal (dOp fEq (dVar 5) (dC (.int 1))) [some rw', some (.lst (L.map S)), some (.lst (Tn.map S)), some (.int (num : Int)), some (S l), some (.int (way : Int)), none, none] O = .ok true O := by
          simp only [ap_val, ap_op, ap_c, var_s, var_0, bind_ok, ew1, w1d, bindB_ok, bool_bl]
        refine (if_f c1).trans ((if_f c2).trans ((if_t c3).trans (put_ok (v := .bl (!sv x.told (T l))) (x := .loc f.d) (y := S l) (O1 := O) (O2 := O) (O3 := O) ?_ ?_ rfl ?_)))
        · simp only [ap_notV, ap_get2, ap_op, ap_c, var_s, var_0, bind_ok, r3, hd, if_true, hg, bindB_ok, bool_bl, notK_bl]
        · simp only [ap_op, ap_c, var_s, var_0, bind_ok, r3]
        · rw [show S l = .str (T l) from rfl, put_at hF.d (by have := i.tl; omega)]
    · -- the dicts
      have w0' : decide (way = 0) = false := by simpa using w0
      have w1' : decide (way = 1) = false := by simpa using w1
      -- the way to here
      have step : ∀ (O : Sto) (f : Four) (rw' : D), Fo Tn O f x → (∀ O', fIx rw' (.int 0) O' = .ok (.loc f.a) O') → tt [some rw', some (.lst (L.map S)), some (.lst (Tn.map S)), some (.int (num : Int)), some (S l), some (.int (way : Int)), none, none] O =
          (if (getK x.lies (.inr (T l))).isSome = true then (dIf (dAndT (dVal (dOp fEq (dVar 5) (dC (.int 2)))) (dVal (dOp fIn (dVar 4) (dOp fIx (dVar 0) (dC (.int 1))))))
  (dExpr (dDPop1 (dOp fIx (dVar 0) (dC (.int 1))) (dVar 4)))
  (dIf (dVal (dOp fEq (dVar 5) (dC (.int 2))))
  (dPut (dOp fIx (dVar 0) (dC (.int 1))) (dVar 4) (dC (.bl true)))
  (dPut (dOp fIx (dVar 0) (dC (.int 0))) (dVar 4) (dOp fIx (dDisp false [((dC (.str "left")), (dC (.str "right"))), ((dC (.str "right")), (dC (.str "left")))]) (dOp fIx (dOp fIx (dVar 0) (dC (.int 0))) (dVar 4))))))
            else dPut (dOp fIx (dVar 0) (dC (.int 3))) (dVar 4) (dC (.bl true))) [some rw', some (.lst (L.map S)), some (.lst (Tn.map S)), some (.int (num : Int)), some (S l), some (.int (way : Int)), none, none] O := fun O f rw' hF r0 => by
        have hni := nin_look (look_dic hF.a) l
        unfold tt
        have c1 : dAndT (dVal (dOp fEq (dVar 5) (dC (.int 0)))) (dNotT (dVal (dCall m__law_held [] (dCons (dOp fIx (dVar 0) (dC (.int 2))) (dCons (dVar 4) dNil))))) [some rw', some (.lst (L.map S)), some (.lst (Tn.map S)), some (.int (num : Int)), some (S l), some (.int (way : Int)), none, none] O = .ok false O := by
          simp only [ap_andT, ap_val, ap_op, ap_c, var_s, var_0, bind_ok, ew0, w0', bindB_ok, bool_bl, bbindB_ok, Bool.false_eq_true, if_false]
        have c2 : dVal (dOp fEq (dVar 5) (dC (.int 0))) [some rw', some (.lst (L.map S)), some (.lst (Tn.map S)), some (.int (num : Int)), some (S l), some (.int (way : Int)), none, none] O = .ok false O := by
          simp only [ap_val, ap_op, ap_c, var_s, var_0, bind_ok, ew0, w0', bindB_ok, bool_bl]
        have c3 : dVal (dOp fEq (dVar 5) (dC (.int 1))) [some rw', some (.lst (L.map S)), some (.lst (Tn.map S)), some (.int (num : Int)), some (S l), some (.int (way : Int)), none, none] O = .ok false O := by
          simp only [ap_val, ap_op, ap_c, var_s, var_0, bind_ok, ew1, w1', bindB_ok, bool_bl]
        have c4 : dVal (dOp fNotIn (dVar 4) (dOp fIx (dVar 0) (dC (.int 0)))) [some rw', some (.lst (L.map S)), some (.lst (Tn.map S)), some (.int (num : Int)), some (S l), some (.int (way : Int)), none, none] O = .ok (!(getK x.lies (.inr (T l))).isSome) O := by
          simp only [ap_val, ap_op, ap_c, var_s, var_0, bind_ok, r0, hni, bindB_ok, bool_bl]
        refine (if_f c1).trans ((if_f c2).trans ((if_f c3).trans ?_))
        cases hq : (getK x.lies (.inr (T l))).isSome with
        | true =>
          rw [hq] at c4
          rw [if_pos rfl]
          exact if_f c4
        | false =>
          rw [hq] at c4
          rw [if_neg (by decide)]
          exact if_t c4
      cases hq : getK x.lies (.inr (T l)) with
      | none =>
        refine ⟨{ x with told := setK x.told (.inr (T l)) (.bl true) }, ⟨by have := i.ll; simp only; omega, by have := i.sl; simp only; omega, by have := i.tl; have := setK_len (kvs := x.told) (k := .inr (T l)) (d := .bl true); simp only; omega, i.lr, i.ln, i.st, i.tr, ⟨setK_keys i.td.1, fun kv hkv => ?_⟩, i.pl, i.ps, fun ps h => by have := i.pz ps h; omega, i.has⟩, fun O f hF => ?_⟩
        · rcases setK_mem hkv with rfl | h
          · exact ⟨_, rfl⟩
          · exact i.td.2 kv h
        · refine turned_of (ρ' := [some f.rows, some (.lst (L.map S)), some (.lst (Tn.map S)), some (.int (num : Int)), some (S l), some (.int (way : Int)), none, none]) ((start O f).trans ?_) (hF.setD _) (Frm.set (by simp [Four.foot])) (.inl (by simp))
          obtain ⟨rw', hrw, r0, r1, r2, r3⟩ := pre f
          rw [hrw, step O f rw' hF r0, hq, if_neg (by decide)]
          refine put_ok (v := .bl true) (x := .loc f.d) (y := S l) (O1 := O) (O2 := O) (O3 := O) rfl ?_ rfl ?_
          · simp only [ap_op, ap_c, var_s, var_0, bind_ok, r3]
          · rw [show S l = .str (T l) from rfl, put_at hF.d (by have := i.tl; omega)]
      | some v0 =>
        have hi : ∀ O f, Fo Tn O f x → fIn (S l) (.loc f.b) O = .ok (.bl (sv x.stiff (T l))) O := fun O f hF => by
          rw [in_look (look_dic hF.b) l]
          congr 2
          unfold sv
          cases e : getK x.stiff (.inr (T l)) with
          | none => rfl
          | some d =>
            have := i.tr _ (getK_mem e)
            have this : d = .bl true := this
            rw [this]
            rfl
        by_cases w2 : way = 2
        · have w2d : decide (way = 2) = true := by simp [w2]
          have c6 : ∀ O rw', dVal (dOp fEq (dVar 5) (dC (.int 2))) [some rw', some (.lst (L.map S)), some (.lst (Tn.map S)), some (.int (num : Int)), some (S l), some (.int (way : Int)), none, none] O = .ok true O := fun O rw' => by
            simp only [ap_val, ap_op, ap_c, var_s, var_0, bind_ok, ew2, w2d, bindB_ok, bool_bl]
          cases hs : getK x.stiff (.inr (T l)) with
          | some d =>
            have hsv : sv x.stiff (T l) = true := by
              unfold sv
              rw [hs]
              have := i.tr _ (getK_mem hs)
              have this : d = .bl true := this
              rw [this]
            refine ⟨{ x with stiff := dropD x.stiff (.inr (T l)) }, ⟨by have := i.ll; simp only; omega, by have := i.sl; have h : (dropD x.stiff (.inr (T l))).length ≤ x.stiff.length := List.length_filter_le _ _; simp only; omega, by have := i.tl; simp only; omega, i.lr, i.ln, ⟨?_, fun kv h => i.st.2 kv (List.mem_filter.mp h).1⟩, fun kv h => i.tr kv (List.mem_filter.mp h).1, i.td, i.pl, i.ps, fun ps h => by have := i.pz ps h; omega, i.has⟩, fun O f hF => ?_⟩
            · have h : ((dropD x.stiff (.inr (T l))).map (·.1)).Sublist (x.stiff.map (·.1)) := List.Sublist.map _ List.filter_sublist
              exact h.nodup i.st.1
            · refine turned_of (ρ' := [some f.rows, some (.lst (L.map S)), some (.lst (Tn.map S)), some (.int (num : Int)), some (S l), some (.int (way : Int)), none, none]) ((start O f).trans ?_) (hF.setB _) (Frm.set (by simp [Four.foot])) (.inl (by simp))
              obtain ⟨rw', hrw, r0, r1, r2, r3⟩ := pre f
              rw [hrw, step O f rw' hF r0, hq, if_pos (show (some v0).isSome = true from rfl)]
              have hdc := isDc_dic (look_dic hF.b)
              have hi := hi O f hF
              have c5 : dAndT (dVal (dOp fEq (dVar 5) (dC (.int 2)))) (dVal (dOp fIn (dVar 4) (dOp fIx (dVar 0) (dC (.int 1))))) [some rw', some (.lst (L.map S)), some (.lst (Tn.map S)), some (.int (num : Int)), some (S l), some (.int (way : Int)), none, none] O = .ok true O := by
                simp only [ap_andT, ap_val, ap_op, ap_c, var_s, var_0, bind_ok, ew2, w2d, bindB_ok, bool_bl, bbindB_ok, if_true, r1, hi, hsv]
              have hpop : fDPop (.loc f.b) (S l) O = .ok d (O.set f.b (.dic (dropD x.stiff (.inr (T l))))) := by
                have ho : ownK O (.loc f.b) = some (f.b, x.stiff) := by simp [ownK, hF.b]
                unfold fDPop
                rw [ho]
                show (match getK x.stiff (.inr (T l)) with
                  | some d => Res.ok d (O.set f.b (.dic (dropD x.stiff (.inr (T l)))))
                  | none => .stuck) = _
                rw [hs]
              have hp : dDPop1 (dOp fIx (dVar 0) (dC (.int 1))) (dVar 4) [some rw', some (.lst (L.map S)), some (.lst (Tn.map S)), some (.int (num : Int)), some (S l), some (.int (way : Int)), none, none] O = .ok d (O.set f.b (.dic (dropD x.stiff (.inr (T l))))) := by
                unfold dDPop1
                simp only [ap_op, ap_c, var_s, var_0, bind_ok, r1, hdc, if_true, hpop]
              refine (if_t c5).trans ?_
              rw [ap_expr, hp]
              rfl
          | none =>
            have hsv : sv x.stiff (T l) = false := by
              unfold sv
              rw [hs]
            refine ⟨{ x with stiff := setK x.stiff (.inr (T l)) (.bl true) }, ⟨by have := i.ll; simp only; omega, by have := i.sl; have := setK_len (kvs := x.stiff) (k := .inr (T l)) (d := .bl true); simp only; omega, by have := i.tl; simp only; omega, i.lr, i.ln, ⟨setK_keys i.st.1, fun kv hkv => ?_⟩, fun kv hkv => ?_, i.td, i.pl, i.ps, fun ps h => by have := i.pz ps h; omega, i.has⟩, fun O f hF => ?_⟩
            · rcases setK_mem hkv with rfl | h
              · exact ⟨_, rfl⟩
              · exact i.st.2 kv h
            · rcases setK_mem hkv with rfl | h
              · rfl
              · exact i.tr kv h
            · refine turned_of (ρ' := [some f.rows, some (.lst (L.map S)), some (.lst (Tn.map S)), some (.int (num : Int)), some (S l), some (.int (way : Int)), none, none]) ((start O f).trans ?_) (hF.setB _) (Frm.set (by simp [Four.foot])) (.inl (by simp))
              obtain ⟨rw', hrw, r0, r1, r2, r3⟩ := pre f
              rw [hrw, step O f rw' hF r0, hq, if_pos (show (some v0).isSome = true from rfl)]
              have hi := hi O f hF
              have c5 : dAndT (dVal (dOp fEq (dVar 5) (dC (.int 2)))) (dVal (dOp fIn (dVar 4) (dOp fIx (dVar 0) (dC (.int 1))))) [some rw', some (.lst (L.map S)), some (.lst (Tn.map S)), some (.int (num : Int)), some (S l), some (.int (way : Int)), none, none] O = .ok false O := by
                simp only [ap_andT, ap_val, ap_op, ap_c, var_s, var_0, bind_ok, ew2, w2d, bindB_ok, bool_bl, bbindB_ok, if_true, r1, hi, hsv]
              refine (if_f c5).trans ((if_t (c6 O rw')).trans (put_ok (v := .bl true) (x := .loc f.b) (y := S l) (O1 := O) (O2 := O) (O3 := O) rfl ?_ rfl ?_))
              · simp only [ap_op, ap_c, var_s, var_0, bind_ok, r1]
              · rw [show S l = .str (T l) from rfl, put_at hF.b (by have := i.sl; omega)]
        · have w2' : decide (way = 2) = false := by simpa using w2
          obtain ⟨a, b, ha, hab, hb⟩ : ∃ a b : Str, v0 = .str a ∧ (∀ ρ O, dDisp false [((dC (.str "left")), (dC (.str "right"))), ((dC (.str "right")), (dC (.str "left")))] ρ O = .ok (.dic [((.inr "left" : Key), .str "right"), ((.inr "right" : Key), .str "left")]) O ∧ fIx (.dic [((.inr "left" : Key), .str "right"), ((.inr "right" : Key), .str "left")]) (.str a) O = .ok (.str b) O) ∧ (b = "left" ∨ b = "right") := by
            rcases i.lr _ (getK_mem hq) with h | h
            · exact ⟨"left", "right", h, fun ρ O => ⟨by kernel_rfl, by kernel_rfl⟩, .inr rfl⟩
            · exact ⟨"right", "left", h, fun ρ O => ⟨by kernel_rfl, by kernel_rfl⟩, .inl rfl⟩
          refine ⟨{ x with lies := setK x.lies (.inr (T l)) (.str b) }, ⟨by have := i.ll; have := setK_len (kvs := x.lies) (k := .inr (T l)) (d := .str b); simp only; omega, by have := i.sl; simp only; omega, by have := i.tl; simp only; omega, fun kv hkv => ?_, setK_keys i.ln, i.st, i.tr, i.td, i.pl, i.ps, fun ps h => by have := i.pz ps h; omega, fun p hp => ?_⟩, fun O f hF => ?_⟩
          · rcases setK_mem hkv with rfl | h
            · rcases hb with rfl | rfl
              · exact .inl rfl
              · exact .inr rfl
            · exact i.lr kv h
          · by_cases hpl : (Sum.inr (T p) : Key) = .inr (T l)
            · exact ⟨b, by rw [hpl]; exact getK_set_eq⟩
            · obtain ⟨v, hv⟩ := i.has p hp
              exact ⟨v, by rw [getK_set_ne hpl]; exact hv⟩
          · refine turned_of (ρ' := [some f.rows, some (.lst (L.map S)), some (.lst (Tn.map S)), some (.int (num : Int)), some (S l), some (.int (way : Int)), none, none]) ((start O f).trans ?_) (hF.setA _) (Frm.set (by simp [Four.foot])) (.inl (by simp))
            obtain ⟨rw', hrw, r0, r1, r2, r3⟩ := pre f
            rw [hrw, step O f rw' hF r0, hq, if_pos (show (some v0).isSome = true from rfl)]
            have c5 : dAndT (dVal (dOp fEq (dVar 5) (dC (.int 2)))) (dVal (dOp fIn (dVar 4) (dOp fIx (dVar 0) (dC (.int 1))))) [some rw', some (.lst (L.map S)), some (.lst (Tn.map S)), some (.int (num : Int)), some (S l), some (.int (way : Int)), none, none] O = .ok false O := by
              simp only [ap_andT, ap_val, ap_op, ap_c, var_s, var_0, bind_ok, ew2, w2', bindB_ok, bool_bl, bbindB_ok, Bool.false_eq_true, if_false]
            have c6 : dVal (dOp fEq (dVar 5) (dC (.int 2))) [some rw', some (.lst (L.map S)), some (.lst (Tn.map S)), some (.int (num : Int)), some (S l), some (.int (way : Int)), none, none] O = .ok false O := by
              simp only [ap_val, ap_op, ap_c, var_s, var_0, bind_ok, ew2, w2', bindB_ok, bool_bl]
            have hv : fIx (.loc f.a) (S l) O = .ok (.str a) O := ix_dic (look_dic hF.a) (by rw [hq, ha])
            refine (if_f c5).trans ((if_f c6).trans (put_ok (v := .str b) (x := .loc f.a) (y := S l) (O1 := O) (O2 := O) (O3 := O) ?_ ?_ rfl ?_))
            · rw [ap_op (f := fIx), (hab _ O).1, bind_ok]
              simp only [ap_op, ap_c, var_s, var_0, bind_ok, r0, hv, (hab [] O).2]
            · simp only [ap_op, ap_c, var_s, var_0, bind_ok, r0]
            · rw [show S l = .str (T l) from rfl, put_at hF.a (by have := i.ll; omega)]
end

open Yk.Nm Yk.Pt Yk.Gb
/-! ### the rows -/
abbrev ge (ns : List Int) (L Pn Tn : List (List Nat)) (a rare g : Nat) (x10 x11 x12 x13 x14 : Option D) : Env' := [some (.scr ns), some (.lst (L.map S)), some (.lst (Pn.map S)), some (.lst (Tn.map S)), some (.int (a : Int)), some (.int (rare : Int)), some (.loc g), some (.loc (g + 1)), some (.loc (g + 2)), some (.loc (g + 3)), x10, x11, x12, x13, x14]
abbrev s4 (G : Sto) (a b c d : List (Key × D)) (R : Sto) : Sto := G ++ (.dic a :: .dic b :: .dic c :: .dic d :: R)
section
variable {ns : List Int} {L Pn Tn : List (List Nat)} {a rare : Nat} {G : Sto}
theorem lists_run (hn : Tn.Nodup) (hf : Tn.length < 900) : ∃ x10, forL (Tn.map S) none (gN 10) l2__law_ground (Tn.map S) (ge ns L Pn Tn a rare G.length none none none none none) (s4 G [] [] [] [] []) = .nx (ge ns L Pn Tn a rare G.length x10 none none none none) (s4 G [] [] (locK (G.length + 4) Tn) [] (Tn.map fun _ => .lst [])) := by
  have gen : ∀ (us vs : List (List Nat)) (x10 : Option D), vs ++ us = Tn → ∃ x10', forL (Tn.map S) none (gN 10) l2__law_ground (us.map S) (ge ns L Pn Tn a rare G.length x10 none none none none) (s4 G [] [] (locK (G.length + 4) vs) [] (vs.map fun _ => .lst [])) = .nx (ge ns L Pn Tn a rare G.length x10' none none none none) (s4 G [] [] (locK (G.length + 4) Tn) [] (Tn.map fun _ => .lst [])) := by
    intro us
    induction us with
    | nil => intro vs x e; rw [List.append_nil] at e; subst e; exact ⟨x, forL_nil (still_none.mpr trivial)⟩
    | cons t us ih =>
      intro vs x e
      have hnt : t ∉ vs := by
        rw [← e, List.nodup_append] at hn
        exact fun h => hn.2.2 t h t (List.mem_cons_self ..) rfl
      have hvl : vs.length < 900 := by
        have := congrArg List.length e
        simp at this
        omega
      obtain ⟨x', h⟩ := ih (vs ++ [t]) (some (S t)) (by rw [List.append_assoc]; exact e)
      refine ⟨x', ?_⟩
      have hv : dLst true dNil (ge ns L Pn Tn a rare G.length (some (S t)) none none none none) (s4 G [] [] (locK (G.length + 4) vs) [] (vs.map fun _ => .lst [])) = .ok (.loc (G.length + 4 + vs.length)) (s4 G [] [] (locK (G.length + 4) vs) [] ((vs ++ [t]).map fun _ => .lst [])) := by
        rw [ap_lst, ap_nil, lbind_ok, if_pos (by simp), mkL_t]
        simp [Nat.add_assoc]
        omega
      have hb : l2__law_ground (ge ns L Pn Tn a rare G.length (some (S t)) none none none none) (s4 G [] [] (locK (G.length + 4) vs) [] (vs.map fun _ => .lst [])) = .nx (ge ns L Pn Tn a rare G.length (some (S t)) none none none none) (s4 G [] [] (locK (G.length + 4) (vs ++ [t])) [] ((vs ++ [t]).map fun _ => .lst [])) := by
        unfold l2__law_ground
        refine put_ok hv rfl rfl ?_
        rw [show S t = .str (T t) from rfl, put_at (gA G _ 2) (by simp [locK]; omega), locK_snoc _ _ _ hnt, sA]
        rfl
      rw [List.map_cons, forL_nx (still_none.mpr trivial) rfl hb]
      exact h
  exact gen Tn [] none rfl
theorem row_step (hi : i < L.length) (hr : 0 < rare) (ht : 0 < Tn.length) (hn : Tn.Nodup) (lies stiff told : List (Key × D)) (PP : List (List D)) (hP : PP.length = Tn.length) (h1 : lies.length < 10000) (h2 : stiff.length < 10000) (h3 : told.length < 10000) (hsz : ∀ ps ∈ PP, ps.length < 10000) (x10 x12 x13 x14 : Option D) :
    ∃ lies' stiff' told' PP' x12' x13' x14', (lies' = lies ∨ ∃ v : Str, (v = "left" ∨ v = "right") ∧ lies' = setK lies (.inr (T L[i])) (.str v)) ∧ (L[i] ∈ Pn → ∃ v : Str, lies' = setK lies (.inr (T L[i])) (.str v)) ∧ (stiff' = stiff ∨ stiff' = setK stiff (.inr (T L[i])) (.bl true)) ∧ (told' = told ∨ ∃ c : Bool, told' = setK told (.inr (T L[i])) (.bl c)) ∧
      (PP' = PP ∨ ∃ (j : Nat) (ps : List D) (y : D), PP[j]? = some ps ∧ stepOf L[i] y ∧ PP' = PP.set j (ps ++ [y])) ∧
      l1__law_ground (ge ns L Pn Tn a rare G.length x10 (some (.int (i : Int))) x12 x13 x14) (s4 G lies stiff (locK (G.length + 4) Tn) told (PP.map .lst)) = .nx (ge ns L Pn Tn a rare G.length x10 (some (.int (i : Int))) x12' x13' x14') (s4 G lies' stiff' (locK (G.length + 4) Tn) told' (PP'.map .lst)) := by
  have hm : ∀ O, m__law_mixed [.scr ns, .int ((a : Int) + (i : Int))] O = .ok (.int (mixV ns (a + i))) O := fun O => by
    rw [c_mixed]
    exact mixed_ok ns (a + i) O
  generalize mixV ns (a + i) = num at hm
  have hx : ∀ O, fIx (.lst (L.map S)) (.int (i : Int)) O = .ok (S L[i]) O := fun O => ix_lst (by rw [Yk.atI_nat (by simpa using hi)]; simp)
  generalize L[i] = l at hx
  have dv : ∀ (k : Int), 0 < k → k < 1073741824 → ∀ O, fDiv (.int (num : Int)) (.int k) O = .ok (.int ((num : Int) / k)) O := fun k h1 h2 O => div_ii h1 h2
  have mr : ∀ (z : Int) O, fMod (.int z) (.int (rare : Int)) O = .ok (.int (z % (rare : Int))) O := fun z O => mod_ii (by omega)
  -- the first part
  obtain ⟨lies', stiff', lie, q1, q2, q3, e1⟩ : ∃ lies' stiff' lie, (lies' = lies ∨ ∃ v : Str, (v = "left" ∨ v = "right") ∧ lies' = setK lies (.inr (T l)) (.str v)) ∧ (l ∈ Pn → ∃ v : Str, lies' = setK lies (.inr (T l)) (.str v)) ∧ (stiff' = stiff ∨ stiff' = setK stiff (.inr (T l)) (.bl true)) ∧
      l1__law_ground (ge ns L Pn Tn a rare G.length x10 (some (.int (i : Int))) x12 x13 x14) (s4 G lies stiff (locK (G.length + 4) Tn) told (PP.map .lst)) = r2__law_ground (ge ns L Pn Tn a rare G.length x10 (some (.int (i : Int))) (some (.int (num : Int))) (some (.str lie)) x14) (s4 G lies' stiff' (locK (G.length + 4) Tn) told (PP.map .lst)) := by
    have s12 : dSet 12 (dCall m__law_mixed [] (dCons (dVar 0) (dCons (dOp (fAdd false) (dVar 4) (dVar 11)) dNil))) (ge ns L Pn Tn a rare G.length x10 (some (.int (i : Int))) x12 x13 x14) (s4 G lies stiff (locK (G.length + 4) Tn) told (PP.map .lst)) = .nx (ge ns L Pn Tn a rare G.length x10 (some (.int (i : Int))) (some (.int (num : Int))) x13 x14) (s4 G lies stiff (locK (G.length + 4) Tn) told (PP.map .lst)) :=
      (set_ok (d := .int (num : Int)) (O1 := s4 G lies stiff (locK (G.length + 4) Tn) told (PP.map .lst)) (by simp only [ap_call, ap_cons, ap_op, ap_nil, var_s, var_0, bind_ok, bindL_ok, lbindL_ok, lbind_ok, add_ii, List.append_nil, hm])).trans rfl
    have s13 : dSet 13 (dC (.str "")) (ge ns L Pn Tn a rare G.length x10 (some (.int (i : Int))) (some (.int (num : Int))) x13 x14) (s4 G lies stiff (locK (G.length + 4) Tn) told (PP.map .lst)) = .nx (ge ns L Pn Tn a rare G.length x10 (some (.int (i : Int))) (some (.int (num : Int))) (some (.str "")) x14) (s4 G lies stiff (locK (G.length + 4) Tn) told (PP.map .lst)) := rfl
    have hin : ∀ O, fIn (S l) (.lst (Pn.map S)) O = .ok (.bl (decide (l ∈ Pn))) O := fun O => by
      unfold fIn
      rw [in_S l Pn _ _ rfl]
    have hc : dVal (dOp fIn (dOp fIx (dVar 1) (dVar 11)) (dVar 2)) (ge ns L Pn Tn a rare G.length x10 (some (.int (i : Int))) (some (.int (num : Int))) (some (.str "")) x14) (s4 G lies stiff (locK (G.length + 4) Tn) told (PP.map .lst)) = .ok (decide (l ∈ Pn)) (s4 G lies stiff (locK (G.length + 4) Tn) told (PP.map .lst)) := by
      simp only [ap_val, ap_op, var_s, var_0, bind_ok, hx, hin, bindB_ok, bool_bl]
    unfold l1__law_ground
    rw [seq_nx s12, seq_nx s13]
    by_cases hp : l ∈ Pn
    · rw [decide_eq_true hp] at hc
      obtain ⟨lie, hlr, hlie⟩ : ∃ lie : Str, (lie = "left" ∨ lie = "right") ∧ ∀ O, fIx (.lst [.str "left", .str "right"]) (.int ((num : Int) % 2)) O = .ok (.str lie) O := by
        have : (num : Int) % 2 = 0 ∨ (num : Int) % 2 = 1 := by omega
        rcases this with h | h <;> rw [h]
        · exact ⟨"left", .inl rfl, fun O => rfl⟩
        · exact ⟨"right", .inr rfl, fun O => rfl⟩
      have m2 : ∀ O, fMod (.int (num : Int)) (.int 2) O = .ok (.int ((num : Int) % 2)) O := fun O => mod_ii (by decide)
      have t13 : dSet 13 (dOp fIx (dLst false (dCons (dC (.str "left")) (dCons (dC (.str "right")) dNil))) (dOp fMod (dVar 12) (dC (.int 2)))) (ge ns L Pn Tn a rare G.length x10 (some (.int (i : Int))) (some (.int (num : Int))) (some (.str "")) x14) (s4 G lies stiff (locK (G.length + 4) Tn) told (PP.map .lst)) = .nx (ge ns L Pn Tn a rare G.length x10 (some (.int (i : Int))) (some (.int (num : Int))) (some (.str lie)) x14) (s4 G lies stiff (locK (G.length + 4) Tn) told (PP.map .lst)) := by
        refine (set_ok (d := .str lie) (O1 := s4 G lies stiff (locK (G.length + 4) Tn) told (PP.map .lst)) ?_).trans rfl
        have e0 : dLst false (dCons (dC (.str "left")) (dCons (dC (.str "right")) dNil)) (ge ns L Pn Tn a rare G.length x10 (some (.int (i : Int))) (some (.int (num : Int))) (some (.str "")) x14) (s4 G lies stiff (locK (G.length + 4) Tn) told (PP.map .lst)) = .ok (.lst [.str "left", .str "right"]) (s4 G lies stiff (locK (G.length + 4) Tn) told (PP.map .lst)) := rfl
        rw [ap_op, e0, bind_ok]
        simp only [ap_op, var_s, var_0, bind_ok, ap_c, m2, hlie]
      have p6 : dPut (dVar 6) (dOp fIx (dVar 1) (dVar 11)) (dVar 13) (ge ns L Pn Tn a rare G.length x10 (some (.int (i : Int))) (some (.int (num : Int))) (some (.str lie)) x14) (s4 G lies stiff (locK (G.length + 4) Tn) told (PP.map .lst)) = .nx (ge ns L Pn Tn a rare G.length x10 (some (.int (i : Int))) (some (.int (num : Int))) (some (.str lie)) x14) (s4 G (setK lies (.inr (T l)) (.str lie)) stiff (locK (G.length + 4) Tn) told (PP.map .lst)) := by
        refine put_ok (v := .str lie) (O1 := s4 G lies stiff (locK (G.length + 4) Tn) told (PP.map .lst)) rfl rfl (y := S l) (O3 := s4 G lies stiff (locK (G.length + 4) Tn) told (PP.map .lst)) (by simp only [ap_op, var_s, var_0, bind_ok, hx]) ?_
        rw [show S l = .str (T l) from rfl, put_at (gA G _ 0) (by omega)]
        exact congrArg some (sA G _ 0 _)
      have hc7 : dVal (dOp fEq (dOp fMod (dOp fDiv (dVar 12) (dC (.int 2))) (dVar 5)) (dC (.int 0))) (ge ns L Pn Tn a rare G.length x10 (some (.int (i : Int))) (some (.int (num : Int))) (some (.str lie)) x14) (s4 G (setK lies (.inr (T l)) (.str lie)) stiff (locK (G.length + 4) Tn) told (PP.map .lst)) = .ok ((num : Int) / 2 % (rare : Int) == 0) (s4 G (setK lies (.inr (T l)) (.str lie)) stiff (locK (G.length + 4) Tn) told (PP.map .lst)) := by
        simp only [ap_val, ap_op, var_s, var_0, bind_ok, ap_c, dv 2 (by decide) (by decide), mr, eq_ii, bindB_ok, bool_bl]
      by_cases h7 : ((num : Int) / 2 % (rare : Int) == 0) = true
      · rw [h7] at hc7
        have p7 : dPut (dVar 7) (dOp fIx (dVar 1) (dVar 11)) (dC (.bl true)) (ge ns L Pn Tn a rare G.length x10 (some (.int (i : Int))) (some (.int (num : Int))) (some (.str lie)) x14) (s4 G (setK lies (.inr (T l)) (.str lie)) stiff (locK (G.length + 4) Tn) told (PP.map .lst)) = .nx (ge ns L Pn Tn a rare G.length x10 (some (.int (i : Int))) (some (.int (num : Int))) (some (.str lie)) x14) (s4 G (setK lies (.inr (T l)) (.str lie)) (setK stiff (.inr (T l)) (.bl true)) (locK (G.length + 4) Tn) told (PP.map .lst)) := by
          refine put_ok (v := .bl true) (O1 := s4 G (setK lies (.inr (T l)) (.str lie)) stiff (locK (G.length + 4) Tn) told (PP.map .lst)) rfl rfl (y := S l) (O3 := s4 G (setK lies (.inr (T l)) (.str lie)) stiff (locK (G.length + 4) Tn) told (PP.map .lst)) (by simp only [ap_op, var_s, var_0, bind_ok, hx]) ?_
          rw [show S l = .str (T l) from rfl, put_at (gA G _ 1) (by omega)]
          exact congrArg some (sA G _ 1 _)
        refine ⟨_, _, lie, .inr ⟨lie, hlr, rfl⟩, fun _ => ⟨lie, rfl⟩, .inr rfl, ?_⟩
        rw [ap_seq, if_t hc, seq_nx t13, seq_nx p6, if_t hc7, p7]
        rfl
      · rw [Bool.eq_false_iff.mpr h7] at hc7
        refine ⟨_, _, lie, .inr ⟨lie, hlr, rfl⟩, fun _ => ⟨lie, rfl⟩, .inl rfl, ?_⟩
        rw [ap_seq, if_t hc, seq_nx t13, seq_nx p6, if_f hc7]
        rfl
    · rw [decide_eq_false hp] at hc
      refine ⟨_, _, "", .inl rfl, fun h => absurd h hp, .inl rfl, ?_⟩
      rw [ap_seq, if_f hc]
      rfl
  rw [e1]
  have hl' : lies'.length < 10001 := by
    rcases q1 with rfl | ⟨v, hvlr, rfl⟩
    · omega
    · have := setK_len (kvs := lies) (k := .inr (T l)) (d := .str v)
      omega
  -- the second part
  obtain ⟨PP', x14', q5, e2⟩ : ∃ PP' x14', (PP' = PP ∨ ∃ (j : Nat) (ps : List D) (y : D), PP[j]? = some ps ∧ stepOf l y ∧ PP' = PP.set j (ps ++ [y])) ∧
      r2__law_ground (ge ns L Pn Tn a rare G.length x10 (some (.int (i : Int))) (some (.int (num : Int))) (some (.str lie)) x14) (s4 G lies' stiff' (locK (G.length + 4) Tn) told (PP.map .lst)) = r1__law_ground (ge ns L Pn Tn a rare G.length x10 (some (.int (i : Int))) (some (.int (num : Int))) (some (.str lie)) x14') (s4 G lies' stiff' (locK (G.length + 4) Tn) told (PP'.map .lst)) := by
    have hc : dVal (dOp fEq (dOp fMod (dOp fDiv (dVar 12) (dC (.int 30))) (dVar 5)) (dC (.int 0))) (ge ns L Pn Tn a rare G.length x10 (some (.int (i : Int))) (some (.int (num : Int))) (some (.str lie)) x14) (s4 G lies' stiff' (locK (G.length + 4) Tn) told (PP.map .lst)) = .ok ((num : Int) / 30 % (rare : Int) == 0) (s4 G lies' stiff' (locK (G.length + 4) Tn) told (PP.map .lst)) := by
      simp only [ap_val, ap_op, var_s, var_0, bind_ok, ap_c, dv 30 (by decide) (by decide), mr, eq_ii, bindB_ok, bool_bl]
    unfold r2__law_ground
    by_cases h : ((num : Int) / 30 % (rare : Int) == 0) = true
    · rw [h] at hc
      obtain ⟨q, w1, _, w3⟩ := whole_ok l lie (num / 7)
      have w3 := w3 (s4 G lies' stiff' (locK (G.length + 4) Tn) told (PP.map .lst))
      have w3' : m__law_whole_step [S l, .str lie, .int ((num : Int) / 7)] (s4 G lies' stiff' (locK (G.length + 4) Tn) told (PP.map .lst)) = .ok (stD q) (s4 G lies' stiff' (locK (G.length + 4) Tn) told (PP.map .lst)) := by
        rw [← w3]
        congr 1
      obtain ⟨j, hj, hjv⟩ : ∃ j, j < Tn.length ∧ num / 1000 % Tn.length = j := ⟨_, Nat.mod_lt _ ht, rfl⟩
      obtain ⟨ps, hps⟩ : ∃ ps, PP[j]? = some ps := ⟨_, List.getElem?_eq_getElem (by omega)⟩
      have mj : ∀ O, fMod (.int ((num : Int) / 1000)) (.int (Tn.length : Int)) O = .ok (.int (j : Int)) O := fun O => by
        rw [mod_ii (by omega), ← hjv]
        rfl
      have hxt : ∀ O, fIx (.lst (Tn.map S)) (.int (j : Int)) O = .ok (S Tn[j]) O := fun O => ix_lst (by rw [Yk.atI_nat (by simpa using hj)]; simp)
      generalize hST : s4 G lies' stiff' (locK (G.length + 4) Tn) told (PP.map .lst) = ST at hc w3'
      have hlk : look ST (.loc (G.length + 2)) = .dic (locK (G.length + 4) Tn) := by
        have : ST[G.length + 2]? = some (.dic (locK (G.length + 4) Tn)) := by rw [← hST]; exact gA G _ 2
        unfold look
        simp only [this]
      have hx8 : fIx (.loc (G.length + 2)) (S Tn[j]) ST = .ok (.loc (G.length + 4 + j)) ST := ix_dic hlk (locK_get 0 Tn j hj hn _)
      have hgt : ST[G.length + 4 + j]? = some (.lst ps) := by
        rw [← hST, Nat.add_assoc, gA, Nat.add_comm 4 j]
        show (PP.map OD.lst)[j]? = _
        rw [List.getElem?_map, hps]
        rfl
      have hil : isL ST (.loc (G.length + 4 + j)) = true := by simp [isL, look, hgt]
      have hap : fAppend (.loc (G.length + 4 + j)) [stD q] ST = .ok .non (s4 G lies' stiff' (locK (G.length + 4) Tn) told ((PP.set j (ps ++ [stD q])).map .lst)) := by
        have ho : ownL ST (.loc (G.length + 4 + j)) = some (G.length + 4 + j, ps) := by simp [ownL, hgt]
        unfold fAppend
        rw [ho]
        dsimp only
        rw [if_pos (by have := hsz ps (List.mem_of_getElem? hps); omega), ← hST, Nat.add_assoc, sA, Nat.add_comm 4 j, List.map_set]
        rfl
      have s14 : dSet 14 (dCall m__law_whole_step [] (dCons (dOp fIx (dVar 1) (dVar 11)) (dCons (dVar 13) (dCons (dOp fDiv (dVar 12) (dC (.int 7))) dNil)))) (ge ns L Pn Tn a rare G.length x10 (some (.int (i : Int))) (some (.int (num : Int))) (some (.str lie)) x14) ST = .nx (ge ns L Pn Tn a rare G.length x10 (some (.int (i : Int))) (some (.int (num : Int))) (some (.str lie)) (some (stD q))) ST :=
        (set_ok (d := stD q) (O1 := ST) (by simp only [ap_call, ap_cons, ap_op, ap_nil, ap_c, var_s, var_0, bind_ok, bindL_ok, lbindL_ok, lbind_ok, hx, dv 7 (by decide) (by decide), List.append_nil, w3'])).trans rfl
      have x8 : dExpr (dBMi isL fAppend (dOp fIx (dVar 8) (dOp fIx (dVar 3) (dOp fMod (dOp fDiv (dVar 12) (dC (.int 1000))) (dCB fLen (dCons (dVar 3) dNil))))) (dCons (dVar 14) dNil)) (ge ns L Pn Tn a rare G.length x10 (some (.int (i : Int))) (some (.int (num : Int))) (some (.str lie)) (some (stD q))) ST = .nx (ge ns L Pn Tn a rare G.length x10 (some (.int (i : Int))) (some (.int (num : Int))) (some (.str lie)) (some (stD q))) (s4 G lies' stiff' (locK (G.length + 4) Tn) told ((PP.set j (ps ++ [stD q])).map .lst)) := by
        simp only [ap_expr, ap_bm, ap_op, ap_cb, ap_cons, ap_nil, ap_c, var_s, var_0, bind_ok, bindL_ok, lbindL_ok, lbind_ok, dv 1000 (by decide) (by decide), len_lst, List.length_map, mj, hxt, hx8, hil, if_true, hap, bindS_ok]
      refine ⟨_, some (stD q), .inr ⟨j, ps, stD q, hps, w1 ▸ stD_of q, rfl⟩, ?_⟩
      rw [ap_seq, if_t hc, seq_nx s14, x8]
      rfl
    · rw [Bool.eq_false_iff.mpr h] at hc
      refine ⟨PP, x14, .inl rfl, ?_⟩
      rw [ap_seq, if_f hc]
      rfl
  rw [e2]
  -- the third
  have hc : dVal (dOp fGt (dOp fMod (dOp fDiv (dVar 12) (dC (.int 300))) (dC (.int 5))) (dC (.int 0))) (ge ns L Pn Tn a rare G.length x10 (some (.int (i : Int))) (some (.int (num : Int))) (some (.str lie)) x14') (s4 G lies' stiff' (locK (G.length + 4) Tn) told (PP'.map .lst)) = .ok (decide ((num : Int) / 300 % 5 > 0)) (s4 G lies' stiff' (locK (G.length + 4) Tn) told (PP'.map .lst)) := by
    have m5 : ∀ (z : Int) O, fMod (.int z) (.int 5) O = .ok (.int (z % 5)) O := fun z O => mod_ii (by decide)
    simp only [ap_val, ap_op, var_s, var_0, bind_ok, ap_c, dv 300 (by decide) (by decide), m5, gt_ii, bindB_ok, bool_bl]
  unfold r1__law_ground
  by_cases h : (num : Int) / 300 % 5 > 0
  · rw [decide_eq_true h] at hc
    refine ⟨lies', stiff', setK told (.inr (T l)) (.bl ((num : Int) / 3000 % (rare : Int) == 0)), PP', some (.int (num : Int)), some (.str lie), x14', q1, q2, q3, .inr ⟨_, rfl⟩, q5, ?_⟩
    refine (if_t hc).trans (put_ok (v := .bl ((num : Int) / 3000 % (rare : Int) == 0)) (O1 := s4 G lies' stiff' (locK (G.length + 4) Tn) told (PP'.map .lst)) ?_ rfl (y := S l) (O3 := s4 G lies' stiff' (locK (G.length + 4) Tn) told (PP'.map .lst)) ?_ ?_)
    · simp only [ap_op, var_s, var_0, bind_ok, ap_c, dv 3000 (by decide) (by decide), mr, eq_ii]
    · simp only [ap_op, var_s, var_0, bind_ok, hx]
    · rw [show S l = .str (T l) from rfl, put_at (gA G _ 3) (by omega)]
      exact congrArg some (sA G _ 3 _)
  · rw [decide_eq_false h] at hc
    exact ⟨lies', stiff', told, PP', some (.int (num : Int)), some (.str lie), x14', q1, q2, q3, .inl rfl, q5, (if_f hc).trans rfl⟩
end
section
variable {ns : List Int} {L Pn Tn : List (List Nat)} {a rare : Nat} {G : Sto}
structure Rw (L Pn : List (List Nat)) (i : Nat) (lies stiff told : List (Key × D)) : Prop where
  ll : lies.length ≤ i
  sl : stiff.length ≤ i
  tl : told.length ≤ i
  lf : ∀ kv ∈ lies, kv.2 = .str "left" ∨ kv.2 = .str "right"
  st : okSeen stiff
  tr : ∀ kv ∈ stiff, kv.2 = .bl true
  td : okSeen told
  has : ∀ j (h : j < L.length), j < i → L[j] ∈ Pn → ∃ v, getK lies (.inr (T L[j])) = some (.str v)
  ln : (lies.map (·.1)).Nodup
theorem nd_ix {L : List (List Nat)} (h : L.Nodup) {i j : Nat} (hi : i < L.length) (hj : j < L.length) (e : L[i] = L[j]) : i = j := by
  unfold List.Nodup at h
  rw [List.pairwise_iff_getElem] at h
  rcases Nat.lt_trichotomy i j with q | q | q
  · exact absurd e (h i j hi hj q)
  · exact q
  · exact absurd e.symm (h j i hj hi q)
theorem ground_ok (hL : L.length < 900) (hLn : L.Nodup) (hr : 0 < rare) (ht : 0 < Tn.length) (hn : Tn.Nodup) (hf : Tn.length < 900) : ∃ (lies stiff told : List (Key × D)) (PP : List (List D)), Rw L Pn L.length lies stiff told ∧ PP.length = Tn.length ∧ (∀ ps ∈ PP, ∀ d ∈ ps, ∃ l, stepOf l d) ∧ (∀ ps ∈ PP, ps.length ≤ L.length) ∧
    m__law_ground [.scr ns, .lst (L.map S), .lst (Pn.map S), .lst (Tn.map S), .int (a : Int), .int (rare : Int)] G = .ok (.lst [.loc G.length, .loc (G.length + 1), .loc (G.length + 2), .loc (G.length + 3)]) (s4 G lies stiff (locK (G.length + 4) Tn) told (PP.map .lst)) := by
  obtain ⟨x10, e1⟩ := lists_run (ns := ns) (L := L) (Pn := Pn) (a := a) (rare := rare) (G := G) hn hf
  have lp := forL_rng (items := rangeD 0 L.length) (g := gN 11) (body := l1__law_ground) (lo := 0) L.length
    (fun i ρ O => ∃ (lies stiff told : List (Key × D)) (PP : List (List D)) (x11 x12 x13 x14 : Option D), Rw L Pn i lies stiff told ∧ PP.length = Tn.length ∧ (∀ ps ∈ PP, ∀ d ∈ ps, ∃ l, stepOf l d) ∧ (∀ ps ∈ PP, ps.length ≤ i) ∧ O = s4 G lies stiff (locK (G.length + 4) Tn) told (PP.map .lst) ∧ ρ = ge ns L Pn Tn a rare G.length x10 x11 x12 x13 x14)
    (ρ := ge ns L Pn Tn a rare G.length x10 none none none none) (O := s4 G [] [] (locK (G.length + 4) Tn) [] (Tn.map fun _ => .lst [])) (fun i hi ρ O hI => by
      obtain ⟨lies, stiff, told, PP, x11, x12, x13, x14, w, hP, hst, hsz, rfl, rfl⟩ := hI
      have w1 := w.ll
      have w2 := w.sl
      have w3 := w.tl
      obtain ⟨lies', stiff', told', PP', y12, y13, y14, q1, q2, q3, q4, q5, e⟩ := row_step (ns := ns) (Pn := Pn) (a := a) (G := G) hi hr ht hn lies stiff told PP hP (by omega) (by omega) (by omega) (fun ps h => by have := hsz ps h; omega) x10 x12 x13 x14
      have hz : (0 : Int) + (i : Int) = (i : Int) := Int.zero_add _
      rw [hz]
      refine ⟨_, rfl, _, _, .inl e, lies', stiff', told', PP', _, y12, y13, y14, ⟨?_, ?_, ?_, ?_, ?_, ?_, ?_, fun j hj hji hjp => ?_, ?_⟩, ?_, ?_, ?_, rfl, rfl⟩
      · rcases q1 with rfl | ⟨v, hvlr, rfl⟩
        · omega
        · have := setK_len (kvs := lies) (k := .inr (T L[i])) (d := .str v)
          omega
      · rcases q3 with rfl | rfl
        · omega
        · have := setK_len (kvs := stiff) (k := .inr (T L[i])) (d := .bl true)
          omega
      · rcases q4 with rfl | ⟨c, rfl⟩
        · omega
        · have := setK_len (kvs := told) (k := .inr (T L[i])) (d := .bl c)
          omega
      · intro kv hkv
        rcases q1 with rfl | ⟨v, hvlr, rfl⟩
        · exact w.lf kv hkv
        · rcases setK_mem hkv with rfl | h
          · rcases hvlr with rfl | rfl
            · exact .inl rfl
            · exact .inr rfl
          · exact w.lf kv h
      · rcases q3 with rfl | rfl
        · exact w.st
        · refine ⟨setK_keys w.st.1, fun kv hkv => ?_⟩
          rcases setK_mem hkv with rfl | h
          · exact ⟨true, rfl⟩
          · exact w.st.2 kv h
      · intro kv hkv
        rcases q3 with rfl | rfl
        · exact w.tr kv hkv
        · rcases setK_mem hkv with rfl | h
          · rfl
          · exact w.tr kv h
      · rcases q4 with rfl | ⟨c, rfl⟩
        · exact w.td
        · refine ⟨setK_keys w.td.1, fun kv hkv => ?_⟩
          rcases setK_mem hkv with rfl | h
          · exact ⟨c, rfl⟩
          · exact w.td.2 kv h
      · by_cases hij : j = i
        · subst hij
          obtain ⟨v, hv⟩ := q2 hjp
          exact ⟨v, by rw [hv]; exact getK_set_eq⟩
        · obtain ⟨v, hv⟩ := w.has j hj (by omega) hjp
          rcases q1 with rfl | ⟨v', hvlr, rfl⟩
          · exact ⟨v, hv⟩
          · exact ⟨v, by rw [getK_set_ne fun e => hij (nd_ix hLn hj hi (T_inj (Sum.inr.inj e)))]; exact hv⟩
      · rcases q1 with rfl | ⟨v, hvlr, rfl⟩
        · exact w.ln
        · exact setK_keys w.ln
      · rcases q5 with rfl | ⟨j, ps, y, h1, h2, rfl⟩
        · exact hP
        · rw [List.length_set]; exact hP
      · rcases q5 with rfl | ⟨j, ps, y, h1, h2, rfl⟩
        · exact hst
        · intro qs hqs d hd
          rcases List.mem_or_eq_of_mem_set hqs with h | rfl
          · exact hst qs h d hd
          · rcases List.mem_append.mp hd with h | h
            · exact hst ps (List.mem_of_getElem? h1) d h
            · rw [List.mem_singleton.mp h]
              exact ⟨_, h2⟩
      · rcases q5 with rfl | ⟨j, ps, y, h1, h2, rfl⟩
        · intro ps h
          have := hsz ps h
          omega
        · intro qs hqs
          rcases List.mem_or_eq_of_mem_set hqs with h | rfl
          · have := hsz qs h
            omega
          · have := hsz ps (List.mem_of_getElem? h1)
            simp
            omega)
    ⟨[], [], [], (Tn.map fun _ => []), none, none, none, none, ⟨Nat.le_refl _, Nat.le_refl _, Nat.le_refl _, fun _ h => (nomatch h), ⟨List.nodup_nil, fun _ h => (nomatch h)⟩, fun _ h => (nomatch h), ⟨List.nodup_nil, fun _ h => (nomatch h)⟩, fun j hj h => absurd h (Nat.not_lt_zero _), List.nodup_nil⟩, by simp, (fun ps hps d hd => by
      obtain ⟨_, _, rfl⟩ := List.mem_map.mp hps
      cases hd), (fun ps hps => by
      obtain ⟨_, _, rfl⟩ := List.mem_map.mp hps
      exact Nat.le_refl _), by rw [List.map_map]; rfl, rfl⟩
  obtain ⟨ρ', O', ef, lies, stiff, told, PP, x11, x12, x13, x14, w, hP, hst, hsz, rfl, rfl⟩ := lp
  refine ⟨lies, stiff, told, PP, w, hP, hst, hsz, ?_⟩
  have rk : ∀ O, rngK [.int (L.length : Int)] O = .ok (rangeD 0 L.length) none O := fun O => by
    have h := rngK_1 (O := O) (j := (L.length : Int)) (by omega) (by omega)
    rw [Int.toNat_natCast] at h
    exact h
  have hr3 : r3__law_ground (ge ns L Pn Tn a rare G.length x10 x11 x12 x13 x14) (s4 G lies stiff (locK (G.length + 4) Tn) told (PP.map .lst)) = .rt (.lst [.loc G.length, .loc (G.length + 1), .loc (G.length + 2), .loc (G.length + 3)]) (s4 G lies stiff (locK (G.length + 4) Tn) told (PP.map .lst)) := ret_ok rfl
  have nw : ∀ (O : Sto) (ρ : Env'), dNewK true ρ O = .ok (.loc O.length) (O ++ [.dic []]) := fun O ρ => rfl
  have hb : b__law_ground [some (.scr ns), some (.lst (L.map S)), some (.lst (Pn.map S)), some (.lst (Tn.map S)), some (.int (a : Int)), some (.int (rare : Int)), none, none, none, none, none, none, none, none, none] G = .rt (.lst [.loc G.length, .loc (G.length + 1), .loc (G.length + 2), .loc (G.length + 3)]) (s4 G lies stiff (locK (G.length + 4) Tn) told (PP.map .lst)) := by
    unfold b__law_ground
    have s6 : dSet 6 (dNewK true) [some (.scr ns), some (.lst (L.map S)), some (.lst (Pn.map S)), some (.lst (Tn.map S)), some (.int (a : Int)), some (.int (rare : Int)), none, none, none, none, none, none, none, none, none] G = .nx [some (.scr ns), some (.lst (L.map S)), some (.lst (Pn.map S)), some (.lst (Tn.map S)), some (.int (a : Int)), some (.int (rare : Int)), some (.loc G.length), none, none, none, none, none, none, none, none] (G ++ [.dic []]) := rfl
    have s7 : dSet 7 (dNewK true) [some (.scr ns), some (.lst (L.map S)), some (.lst (Pn.map S)), some (.lst (Tn.map S)), some (.int (a : Int)), some (.int (rare : Int)), some (.loc G.length), none, none, none, none, none, none, none, none] (G ++ [.dic []]) = .nx [some (.scr ns), some (.lst (L.map S)), some (.lst (Pn.map S)), some (.lst (Tn.map S)), some (.int (a : Int)), some (.int (rare : Int)), some (.loc G.length), some (.loc (G.length + 1)), none, none, none, none, none, none, none] (G ++ [.dic [], .dic []]) := by
      refine (set_ok (nw _ _)).trans ?_
      rw [List.append_assoc, List.length_append]
      rfl
    have s8 : dSet 8 (dNewK true) [some (.scr ns), some (.lst (L.map S)), some (.lst (Pn.map S)), some (.lst (Tn.map S)), some (.int (a : Int)), some (.int (rare : Int)), some (.loc G.length), some (.loc (G.length + 1)), none, none, none, none, none, none, none] (G ++ [.dic [], .dic []]) = .nx [some (.scr ns), some (.lst (L.map S)), some (.lst (Pn.map S)), some (.lst (Tn.map S)), some (.int (a : Int)), some (.int (rare : Int)), some (.loc G.length), some (.loc (G.length + 1)), some (.loc (G.length + 2)), none, none, none, none, none, none] (G ++ [.dic [], .dic [], .dic []]) := by
      refine (set_ok (nw _ _)).trans ?_
      rw [List.append_assoc, List.length_append]
      rfl
    have s9 : dSet 9 (dNewK true) [some (.scr ns), some (.lst (L.map S)), some (.lst (Pn.map S)), some (.lst (Tn.map S)), some (.int (a : Int)), some (.int (rare : Int)), some (.loc G.length), some (.loc (G.length + 1)), some (.loc (G.length + 2)), none, none, none, none, none, none] (G ++ [.dic [], .dic [], .dic []]) = .nx (ge ns L Pn Tn a rare G.length none none none none none) (s4 G [] [] [] [] []) := by
      refine (set_ok (nw _ _)).trans ?_
      rw [List.append_assoc, List.length_append]
      rfl
    rw [seq_nx s6, seq_nx s7, seq_nx s8, seq_nx s9]
    have hf1 : dFor (srcSeq (dVar 3)) (gN 10) l2__law_ground (ge ns L Pn Tn a rare G.length none none none none none) (s4 G [] [] [] [] []) = .nx (ge ns L Pn Tn a rare G.length x10 none none none none) (s4 G [] [] (locK (G.length + 4) Tn) [] (Tn.map fun _ => .lst [])) := e1
    rw [seq_nx hf1]
    unfold r4__law_ground
    have hf2 : dFor (srcRng (dCons (dCB fLen (dCons (dVar 1) dNil)) dNil)) (gN 11) l1__law_ground (ge ns L Pn Tn a rare G.length x10 none none none none) (s4 G [] [] (locK (G.length + 4) Tn) [] (Tn.map fun _ => .lst [])) = .nx (ge ns L Pn Tn a rare G.length x10 x11 x12 x13 x14) (s4 G lies stiff (locK (G.length + 4) Tn) told (PP.map .lst)) := by
      simp only [ap_for, ap_srcRng, ap_cb, ap_cons, ap_nil, var_s, var_0, bindL_ok, lbindL_ok, lbind_ok, bind_ok, len_lst, List.length_map, lbindI_ok, rk, ibindS_ok]
      exact ef
    rw [seq_nx hf2]
    exact hr3
  show trimR G (b__law_ground [some (.scr ns), some (.lst (L.map S)), some (.lst (Pn.map S)), some (.lst (Tn.map S)), some (.int (a : Int)), some (.int (rare : Int)), none, none, none, none, none, none, none, none, none] G).res = _
  rw [hb]
  show trimR G (.ok (.lst [.loc G.length, .loc (G.length + 1), .loc (G.length + 2), .loc (G.length + 3)]) (s4 G lies stiff (locK (G.length + 4) Tn) told (PP.map .lst))) = _
  unfold trimR
  dsimp only
  rw [if_neg]
  rintro ⟨hb, _⟩
  cases hb with
  | lst hb =>
    cases hb with
    | cons h _ =>
      cases h with
      | loc h => omega
end
theorem ixN_last (n : Nat) : ixN (n + 1) (-1) = some n := by
  unfold ixN
  simp
  try omega
theorem last_ix {O : Sto} {d : D} {ds : List D} {x y : D} (h : look O d = .lst (ds ++ [y])) : fIx d (.int (-1)) O = .ok y O := by
  have ha : atI (ds ++ [y]) (-1) = some y := by
    have hk : ixN (ds ++ [y]).length (-1) = some ds.length := by
      rw [List.length_append]
      exact ixN_last _
    unfold atI
    rw [hk]
    simp
  unfold fIx
  have hd : dGetD O d (.int (-1)) = none := by unfold dGetD; rw [h]
  rw [hd]
  dsimp only
  rw [h]
  dsimp only
  rw [ha]
theorem route_ok (ns : List Int) (L : List (List Nat)) (a : Nat) (h0 : 0 < L.length) (hL : L.length < 900) (O : Sto) : ∃ R : List Stq, R.map (·.1) = L ∧ m__law_route [.scr ns, .lst (L.map S), .int (a : Int)] O = .ok (.tup (.str "sig" :: R.map stD)) O := by
  have lp := forL_rng (items := rangeD 0 L.length) (g := gN 4) (body := l1__law_route) (lo := 0) L.length
    (fun i ρ O' => ∃ (R : List Stq) (x4 x5 : Option D), R.map (·.1) = L.take i ∧ O' = O ++ [.lst (R.map stD)] ∧ ρ = [some (.scr ns), some (.lst (L.map S)), some (.int (a : Int)), some (.loc O.length), x4, x5])
    (ρ := [some (.scr ns), some (.lst (L.map S)), some (.int (a : Int)), some (.loc O.length), none, none]) (O := O ++ [.lst []]) (fun i hi ρ O' hI => by
      obtain ⟨R, x4, x5, hR, rfl, rfl⟩ := hI
      have hz : (0 : Int) + (i : Int) = (i : Int) := Int.zero_add _
      rw [hz]
      have hRl : R.length = i := by
        have := congrArg List.length hR
        simp at this
        omega
      have hm : m__law_mixed [.scr ns, .int ((a : Int) + (i : Int))] (O ++ [.lst (R.map stD)]) = .ok (.int (mixV ns (a + i))) (O ++ [.lst (R.map stD)]) := by
        rw [c_mixed]
        exact mixed_ok ns (a + i) _
      generalize mixV ns (a + i) = num at hm
      have hx : ∀ O', fIx (.lst (L.map S)) (.int (i : Int)) O' = .ok (S L[i]) O' := fun O' => ix_lst (by rw [Yk.atI_nat (by simpa using hi)]; simp)
      obtain ⟨lie, hlie⟩ : ∃ lie : Str, ∀ O', fIx (.lst [.str "", .str "", .str "left", .str "right"]) (.int ((num % 4 : Nat) : Int)) O' = .ok (.str lie) O' := by
        have : num % 4 < 4 := Nat.mod_lt _ (by decide)
        generalize num % 4 = r at this
        match r, this with
        | 0, _ => exact ⟨"", fun O' => rfl⟩
        | 1, _ => exact ⟨"", fun O' => rfl⟩
        | 2, _ => exact ⟨"left", fun O' => rfl⟩
        | 3, _ => exact ⟨"right", fun O' => rfl⟩
      have m4 : ∀ O', fMod (.int (num : Int)) (.int 4) O' = .ok (.int ((num % 4 : Nat) : Int)) O' := fun O' => by rw [mod_ii (by decide)]; rfl
      have d4 : ∀ O', fDiv (.int (num : Int)) (.int 4) O' = .ok (.int ((num / 4 : Nat) : Int)) O' := fun O' => by rw [div_ii (by decide) (by decide)]; rfl
      obtain ⟨q, w1, w2, w3⟩ := whole_ok L[i] lie (num / 4)
      have w3 := w3 (O ++ [.lst (R.map stD)])
      have ap := app_last (O := O) (acc := R.map stD) (d := stD q) (by simp; omega)
      have s5 : dSet 5 (dCall m__law_mixed [] (dCons (dVar 0) (dCons (dOp (fAdd false) (dVar 2) (dVar 4)) dNil))) [some (.scr ns), some (.lst (L.map S)), some (.int (a : Int)), some (.loc O.length), some (.int (i : Int)), x5] (O ++ [.lst (R.map stD)]) = .nx [some (.scr ns), some (.lst (L.map S)), some (.int (a : Int)), some (.loc O.length), some (.int (i : Int)), some (.int (num : Int))] (O ++ [.lst (R.map stD)]) :=
        (set_ok (d := .int (num : Int)) (O1 := O ++ [.lst (R.map stD)]) (by simp only [ap_call, ap_cons, ap_op, ap_nil, var_s, var_0, bind_ok, bindL_ok, lbindL_ok, lbind_ok, add_ii, List.append_nil, hm])).trans rfl
      have e0 : ∀ ρ O', dLst false (dCons (dC (.str "")) (dCons (dC (.str "")) (dCons (dC (.str "left")) (dCons (dC (.str "right")) dNil)))) ρ O' = .ok (.lst [.str "", .str "", .str "left", .str "right"]) O' := fun ρ O' => rfl
      have hb : l1__law_route [some (.scr ns), some (.lst (L.map S)), some (.int (a : Int)), some (.loc O.length), some (.int (i : Int)), x5] (O ++ [.lst (R.map stD)]) = .nx [some (.scr ns), some (.lst (L.map S)), some (.int (a : Int)), some (.loc O.length), some (.int (i : Int)), some (.int (num : Int))] (O ++ [.lst (R.map stD ++ [stD q])]) := by
        unfold l1__law_route
        rw [seq_nx s5, ap_expr, ap_bm]
        simp only [var_s, var_0, bind_ok, isL_last, if_true, ap_cons, ap_call, ap_nil]
        simp only [ap_op, var_s, var_0, bind_ok, bindL_ok, lbindL_ok, lbind_ok, hx, e0, ap_c, m4, d4, hlie, List.append_nil, w3, ap, bindS_ok]
      refine ⟨_, rfl, _, _, .inl hb, R ++ [q], _, _, ?_, by rw [List.map_append]; rfl, rfl⟩
      rw [List.map_append, hR, List.take_succ, List.getElem?_eq_getElem hi]
      simp [w1])
    ⟨[], none, none, rfl, rfl, rfl⟩
  obtain ⟨ρ', O', ef, R, x4, x5, hR, rfl, rfl⟩ := lp
  rw [List.take_length] at hR
  have hRl : R.length = L.length := by rw [← hR]; simp
  have hm : ∀ O', m__law_mixed [.scr ns, .int (a : Int)] O' = .ok (.int (mixV ns a)) O' := fun O' => by
    rw [c_mixed]
    exact mixed_ok ns a O'
  generalize mixV ns a = num at hm
  obtain ⟨R0, q, hRq⟩ : ∃ R0 q, R = R0 ++ [q] := ⟨R.dropLast, R.getLast (by intro h; rw [h] at hRl; simp at hRl; omega), (List.dropLast_concat_getLast _).symm⟩
  obtain ⟨L0, u, hLq⟩ : ∃ L0 u, L = L0 ++ [u] := ⟨L.dropLast, L.getLast (by intro h; rw [h] at h0; simp at h0), (List.dropLast_concat_getLast _).symm⟩
  have hqu : q.1 = u ∧ R0.map (·.1) = L0 := by
    rw [hRq, hLq, List.map_append, List.map_cons, List.map_nil] at hR
    have := List.append_inj' hR rfl
    exact ⟨by simpa using this.2, this.1⟩
  have step2 : ∃ R' : List Stq, R'.map (·.1) = L ∧ r2__law_route [some (.scr ns), some (.lst (L.map S)), some (.int (a : Int)), some (.loc O.length), x4, x5] (O ++ [.lst (R.map stD)]) = r1__law_route [some (.scr ns), some (.lst (L.map S)), some (.int (a : Int)), some (.loc O.length), x4, x5] (O ++ [.lst (R'.map stD)]) := by
    have hlk : look (O ++ [.lst (R.map stD)]) (.loc O.length) = .lst (R0.map stD ++ [stD q]) := by
      rw [look_last, hRq, List.map_append]
      rfl
    have i1 : fIx (.loc O.length) (.int (-1)) (O ++ [.lst (R.map stD)]) = .ok (stD q) (O ++ [.lst (R.map stD)]) := last_ix (x := .non) hlk
    have e3 : ∀ O', fEq (.str q.2.2.2) (.str "") O' = .ok (.bl (q.2.2.2 == ("" : Str))) O' := fun O' => rfl
    have d64 : ∀ O', fDiv (.int (num : Int)) (.int 64) O' = .ok (.int ((num : Int) / 64)) O' := fun O' => div_ii (by decide) (by decide)
    have m3 : ∀ (z : Int) O', fMod (.int z) (.int 3) O' = .ok (.int (z % 3)) O' := fun z O' => mod_ii (by decide)
    have hc : dAndT (dVal (dOp fEq (dOp fIx (dOp fIx (dVar 3) (dC (.int (-1)))) (dC (.int 3))) (dC (.str "")))) (dVal (dOp fEq (dOp fMod (dOp fDiv (dCall m__law_mixed [] (dCons (dVar 0) (dCons (dVar 2) dNil))) (dC (.int 64))) (dC (.int 3))) (dC (.int 0)))) [some (.scr ns), some (.lst (L.map S)), some (.int (a : Int)), some (.loc O.length), x4, x5] (O ++ [.lst (R.map stD)]) = .ok ((q.2.2.2 == ("" : Str)) && ((num : Int) / 64 % 3 == 0)) (O ++ [.lst (R.map stD)]) := by
      simp only [ap_andT, ap_val, ap_op, ap_c, ap_call, ap_cons, ap_nil, var_s, var_0, bind_ok, bindL_ok, lbindL_ok, lbind_ok, List.append_nil, i1, st_3, e3, bindB_ok, bool_bl, bbindB_ok, hm, d64, m3, eq_ii]
      cases (q.2.2.2 == ("" : Str)) <;> rfl
    by_cases h : ((q.2.2.2 == ("" : Str)) && ((num : Int) / 64 % 3 == 0)) = true
    · rw [h] at hc
      refine ⟨R0 ++ [((u, "a", "", "") : Stq)], by rw [List.map_append, hqu.2, hLq]; rfl, ?_⟩
      have ilast : ∀ O', fIx (.lst (L.map S)) (.int (-1)) O' = .ok (S u) O' := fun O' => last_ix (x := .non) (ds := L0.map S) (by rw [hLq, List.map_append]; rfl)
      have hp : dPut (dVar 3) (dC (.int (-1))) (dTup (dCons (dOp fIx (dVar 1) (dC (.int (-1)))) (dCons (dC (.str "a")) (dCons (dC (.str "")) (dCons (dC (.str "")) dNil))))) [some (.scr ns), some (.lst (L.map S)), some (.int (a : Int)), some (.loc O.length), x4, x5] (O ++ [.lst (R.map stD)]) = .nx [some (.scr ns), some (.lst (L.map S)), some (.int (a : Int)), some (.loc O.length), x4, x5] (O ++ [.lst ((R0 ++ [((u, "a", "", "") : Stq)]).map stD)]) := by
        have hv : dTup (dCons (dOp fIx (dVar 1) (dC (.int (-1)))) (dCons (dC (.str "a")) (dCons (dC (.str "")) (dCons (dC (.str "")) dNil)))) [some (.scr ns), some (.lst (L.map S)), some (.int (a : Int)), some (.loc O.length), x4, x5] (O ++ [.lst (R.map stD)]) = .ok (stD ((u, "a", "", "") : Stq)) (O ++ [.lst (R.map stD)]) := by
          simp only [ap_tup, ap_cons, ap_op, ap_c, ap_nil, var_s, var_0, bind_ok, bindL_ok, lbindL_ok, lbind_ok, ilast]
          rfl
        have hpd : putD (O ++ [.lst (R.map stD)]) (.loc O.length) (.int (-1)) (stD ((u, "a", "", "") : Stq)) = none := by
          have e1 : ownK (O ++ [OD.lst (R.map stD)]) (.loc O.length) = none := by simp [ownK]
          have e2 : ownT (O ++ [OD.lst (R.map stD)]) (.loc O.length) = none := by simp [ownT]
          unfold putD
          rw [e1, e2]
        have hsl : setL (O ++ [.lst (R.map stD)]) (.loc O.length) (.int (-1)) (stD ((u, "a", "", "") : Stq)) = some (O ++ [.lst ((R0 ++ [((u, "a", "", "") : Stq)]).map stD)]) := by
          have e1 : ownL (O ++ [OD.lst (R.map stD)]) (.loc O.length) = some (O.length, R.map stD) := by simp [ownL]
          have e2 : ixN (R.map stD).length (-1) = some R0.length := by
            rw [hRq, List.length_map, List.length_append]
            exact ixN_last _
          unfold setL
          rw [e1]
          dsimp only
          rw [e2]
          dsimp only
          rw [hRq]
          simp
        unfold dPut
        rw [hv]
        simp only [bindS_ok, var_s, var_0, ap_c]
        rw [hpd]
        dsimp only
        rw [hsl]
      unfold r2__law_route
      rw [ap_seq, if_t hc, hp]
      rfl
    · rw [Bool.eq_false_iff.mpr h] at hc
      refine ⟨R, hR, ?_⟩
      unfold r2__law_route
      rw [ap_seq, if_f hc]
      rfl
  obtain ⟨R', hR', e2⟩ := step2
  refine ⟨R', hR', ?_⟩
  have hRl' : R'.length = L.length := by rw [← hR']; simp
  have rk : ∀ O, rngK [.int (L.length : Int)] O = .ok (rangeD 0 L.length) none O := fun O => by
    have h := rngK_1 (O := O) (j := (L.length : Int)) (by omega) (by omega)
    rw [Int.toNat_natCast] at h
    exact h
  have hr1 : r1__law_route [some (.scr ns), some (.lst (L.map S)), some (.int (a : Int)), some (.loc O.length), x4, x5] (O ++ [.lst (R'.map stD)]) = .rt (.tup (.str "sig" :: R'.map stD)) (O ++ [.lst (R'.map stD)]) := by
    unfold r1__law_route
    refine ret_ok ?_
    have e0 : ∀ ρ O', dLst false (dCons (dC (.str "sig")) dNil) ρ O' = .ok (.lst [.str "sig"]) O' := fun ρ O' => rfl
    have ea : fAdd false (.lst [.str "sig"]) (.loc O.length) (O ++ [.lst (R'.map stD)]) = .ok (.lst (.str "sig" :: R'.map stD)) (O ++ [.lst (R'.map stD)]) := by
      have hl2 : lookX (O ++ [.lst (R'.map stD)]) (.loc O.length) = .lst (R'.map stD) := look_last O _
      unfold fAdd
      rw [hl2]
      show (if _ then _ else _) = _
      rw [if_pos (by simp; omega), mkL_f]
      rfl
    simp only [ap_cb, ap_cons, ap_nil, ap_op, e0, var_s, var_0, bind_ok, ea, bindL_ok, lbindL_ok, lbind_ok]
    rfl
  have hb : b__law_route [some (.scr ns), some (.lst (L.map S)), some (.int (a : Int)), none, none, none] O = .rt (.tup (.str "sig" :: R'.map stD)) (O ++ [.lst (R'.map stD)]) := by
    unfold b__law_route
    rw [seq_nx (show dSet 3 (dLst true dNil) [some (.scr ns), some (.lst (L.map S)), some (.int (a : Int)), none, none, none] O = .nx [some (.scr ns), some (.lst (L.map S)), some (.int (a : Int)), some (.loc O.length), none, none] (O ++ [.lst []]) from rfl)]
    have hf : dFor (srcRng (dCons (dCB fLen (dCons (dVar 1) dNil)) dNil)) (gN 4) l1__law_route [some (.scr ns), some (.lst (L.map S)), some (.int (a : Int)), some (.loc O.length), none, none] (O ++ [.lst []]) = .nx [some (.scr ns), some (.lst (L.map S)), some (.int (a : Int)), some (.loc O.length), x4, x5] (O ++ [.lst (R.map stD)]) := by
      simp only [ap_for, ap_srcRng, ap_cb, ap_cons, ap_nil, var_s, var_0, bindL_ok, lbindL_ok, lbind_ok, bind_ok, len_lst, List.length_map, lbindI_ok, rk, ibindS_ok]
      exact ef
    rw [seq_nx hf, e2, hr1]
  show trimR O (b__law_route [some (.scr ns), some (.lst (L.map S)), some (.int (a : Int)), none, none, none] O).res = _
  rw [hb]
  refine trim_app (.tup (.cons (.str _) (belowL_step fun d hd => ?_)))
  obtain ⟨q, _, rfl⟩ := List.mem_map.mp hd
  exact stepOf_step (stD_of q)

open Yk.Nm Yk.Pt Yk.Gb
theorem locK_lkT : ∀ (Tn : List (List Nat)) (n : Nat), locK n Tn = lkT Tn (List.range' n Tn.length)
  | [], _ => rfl
  | t :: Tn, n => by
    have e : locK n (t :: Tn) = (.inr (T t), .loc n) :: locK (n + 1) Tn := by
      unfold locK
      rw [List.zipIdx_cons, List.map_cons]
    rw [e, locK_lkT Tn (n + 1), List.length_cons, List.range'_succ]
    rfl
theorem rng_at {n k i m : Nat} (h : (List.range' n k)[i]? = some m) : m = n + i ∧ i < k := by
  obtain ⟨h1, h2⟩ := List.getElem?_eq_some_iff.mp h
  rw [List.getElem_range'] at h2
  rw [List.length_range'] at h1
  omega
/-- four dicts in a row, the lists behind -/
theorem fo_ground {G R : Sto} {Tn : List (List Nat)} {x : Dat} (hp : x.PP.length = Tn.length) : Fo Tn (s4 G x.lies x.stiff (locK (G.length + 4) Tn) x.told (x.PP.map .lst) ++ R) ⟨G.length, G.length + 1, G.length + 2, G.length + 3, List.range' (G.length + 4) Tn.length⟩ x := by
  have h : Fo Tn (s4 G x.lies x.stiff (locK (G.length + 4) Tn) x.told (x.PP.map .lst)) ⟨G.length, G.length + 1, G.length + 2, G.length + 3, List.range' (G.length + 4) Tn.length⟩ x := by
    refine ⟨(gA G _ 0).trans rfl, (gA G _ 1).trans rfl, ?_, (gA G _ 3).trans rfl, by simp, hp, fun i m ps e1 e2 => ?_, fun i j m e1 e2 => ?_, by simp only; omega, by simp only; omega, by simp only; omega, by simp only; omega, by simp only; omega, by simp only; omega⟩
    · rw [locK_lkT]
      exact (gA G _ 2).trans rfl
    · obtain ⟨rfl, _⟩ := rng_at e1
      rw [Nat.add_assoc, gA, Nat.add_comm 4 i]
      show (x.PP.map OD.lst)[i]? = _
      rw [List.getElem?_map, e2]
      rfl
    · have := rng_at e1
      have := rng_at e2
      omega
  exact h.app R
abbrev mdF (n k : Nat) : Four := ⟨n + k + 1, n + k + 2, n, n + k + 3, List.range' (n + 1) k⟩
abbrev mdS (Tn : List (List Nat)) (n : Nat) (x : Dat) : Sto := .dic (locK (n + 1) Tn) :: (x.PP.map .lst ++ [.dic x.lies, .dic x.stiff, .dic x.told, .gone])
theorem fo_made {O R : Sto} {Tn : List (List Nat)} {x : Dat} (hp : x.PP.length = Tn.length) : Fo Tn (O ++ mdS Tn O.length x ++ R) (mdF O.length Tn.length) x := by
  have hx : ∀ k, (O ++ mdS Tn O.length x)[O.length + (Tn.length + 1 + k)]? = ([.dic x.lies, .dic x.stiff, .dic x.told, .gone] : Sto)[k]? := fun k => by
    rw [gA, show Tn.length + 1 + k = (Tn.length + k) + 1 by omega, List.getElem?_cons_succ, List.getElem?_append_right (by simp; omega)]
    congr 1
    simp
    omega
  have h : Fo Tn (O ++ mdS Tn O.length x) (mdF O.length Tn.length) x := by
    refine ⟨?_, ?_, ?_, ?_, by simp, hp, fun i m ps e1 e2 => ?_, fun i j m e1 e2 => ?_, by simp only; omega, by simp only; omega, by simp only; omega, by simp only; omega, by simp only; omega, by simp only; omega⟩
    · have := hx 0
      rw [show O.length + (Tn.length + 1 + 0) = O.length + Tn.length + 1 by omega] at this
      exact this.trans rfl
    · have := hx 1
      rw [show O.length + (Tn.length + 1 + 1) = O.length + Tn.length + 2 by omega] at this
      exact this.trans rfl
    · rw [← locK_lkT]
      exact (gA O _ 0).trans rfl
    · have := hx 2
      rw [show O.length + (Tn.length + 1 + 2) = O.length + Tn.length + 3 by omega] at this
      exact this.trans rfl
    · obtain ⟨rfl, _⟩ := rng_at e1
      rw [Nat.add_assoc, gA, Nat.add_comm 1 i, List.getElem?_cons_succ, List.getElem?_append_left (by simp; exact (List.getElem?_eq_some_iff.mp e2).1), List.getElem?_map, e2]
      rfl
    · have := rng_at e1
      have := rng_at e2
      omega
  exact h.app R
section
variable {Tn Pn : List (List Nat)} {n : Nat} {x : Dat} {O : Sto} {f : Four}
theorem init_ok (dl ds dp dt : D) (O : Sto) : m_Ground___init__ [.loc O.length, dl, ds, dp, dt] (O ++ [.ins "Ground" []]) = .ok .non (O ++ [.ins "Ground" [("lie_of", dl), ("stiff_ones", ds), ("path_of", dp), ("told", dt)]]) := by
  have p1 : putFD "lie_of" dl [] = [(("lie_of" : Str), dl)] := by kernel_rfl
  have p2 : putFD "stiff_ones" ds [(("lie_of" : Str), dl)] = [(("lie_of" : Str), dl), (("stiff_ones" : Str), ds)] := by kernel_rfl
  have p3 : putFD "path_of" dp [(("lie_of" : Str), dl), (("stiff_ones" : Str), ds)] = [(("lie_of" : Str), dl), (("stiff_ones" : Str), ds), (("path_of" : Str), dp)] := by kernel_rfl
  have p4 : putFD "told" dt [(("lie_of" : Str), dl), (("stiff_ones" : Str), ds), (("path_of" : Str), dp)] = [(("lie_of" : Str), dl), (("stiff_ones" : Str), ds), (("path_of" : Str), dp), (("told" : Str), dt)] := by kernel_rfl
  have one : ∀ (cs : List Str) (f : Str) (mv : DTE) (v : D) (fs fs' : List (Str × D)), ("Ground" : Str) ∈ cs → fs.length < 900 → putFD f v fs = fs' → (∀ O', mv [some (.loc O.length), some dl, some ds, some dp, some dt] O' = .ok v O') → dFldSet cs f (dVar 0) mv [some (.loc O.length), some dl, some ds, some dp, some dt] (O ++ [.ins "Ground" fs]) = .nx [some (.loc O.length), some dl, some ds, some dp, some dt] (O ++ [.ins "Ground" fs']) := fun cs f mv v fs fs' hc hl hp hv => by
    unfold dFldSet
    rw [hv]
    simp only [var_0, bindS_ok]
    have ho : ownI (O ++ [.ins "Ground" fs]) (.loc O.length) = some (O.length, ("Ground" : Str), fs) := by simp [ownI]
    rw [ho]
    dsimp only
    rw [if_pos ⟨hc, hl⟩, hp]
    simp
  have hb : b_Ground___init__ [some (.loc O.length), some dl, some ds, some dp, some dt] (O ++ [.ins "Ground" []]) = .nx [some (.loc O.length), some dl, some ds, some dp, some dt] (O ++ [.ins "Ground" [("lie_of", dl), ("stiff_ones", ds), ("path_of", dp), ("told", dt)]]) := by
    unfold b_Ground___init__
    rw [seq_nx (one _ _ _ dl _ _ (by simp) (by simp) p1 fun O' => rfl), seq_nx (one _ _ _ ds _ _ (by simp) (by simp) p2 fun O' => rfl), seq_nx (one _ _ _ dp _ _ (by simp) (by simp) p3 fun O' => rfl)]
    exact one _ _ _ dt _ _ (by simp) (by simp) p4 fun O' => rfl
  show trimR _ (b_Ground___init__ [some (.loc O.length), some dl, some ds, some dp, some dt] (O ++ [.ins "Ground" []])).res = _
  rw [hb]
  exact trim_len (by simp)
theorem made_ok (t : Tk Tn) (h : Fo Tn O f x) : m__law_made [f.rows] O = .ok (mdF O.length Tn.length).gr (O ++ mdS Tn O.length x) := by
  obtain ⟨rw', hrw⟩ : ∃ r, f.rows = r := ⟨_, rfl⟩
  have r0 : ∀ O', fIx rw' (.int 0) O' = .ok (.loc f.a) O' := fun O' => by rw [← hrw]; rfl
  have r1 : ∀ O', fIx rw' (.int 1) O' = .ok (.loc f.b) O' := fun O' => by rw [← hrw]; rfl
  have r2 : ∀ O', fIx rw' (.int 2) O' = .ok (.loc f.c) O' := fun O' => by rw [← hrw]; rfl
  have r3 : ∀ O', fIx rw' (.int 3) O' = .ok (.loc f.d) O' := fun O' => by rw [← hrw]; rfl
  have p2 : ∀ x1 x2 O', pIx 2 (pVar 0) [some rw', x1, x2] O' = some (.loc f.c) := fun x1 x2 O' => by rw [← hrw]; rfl
  rw [hrw]
  have hlc := ltO h.c
  obtain ⟨B, hB⟩ : ∃ B : Sto, O.set f.c (.lck (.dic (lkT Tn f.ls))) = B := ⟨_, rfl⟩
  have hBl : B.length = O.length := by rw [← hB]; simp
  have hBc : ∀ R : Sto, look (B ++ R) (.loc f.c) = .dic (lkT Tn f.ls) := fun R => by
    have : (B ++ R)[f.c]? = some (.lck (.dic (lkT Tn f.ls))) := by rw [List.getElem?_append_left (by omega), ← hB, List.getElem?_set_self hlc]
    unfold look
    simp only [this]
  have hBm : ∀ (R : Sto) (i m : Nat) (ps : List D), f.ls[i]? = some m → x.PP[i]? = some ps → (B ++ R)[m]? = some (.lst ps) := fun R i m ps e1 e2 => by
    have h0 := h.at_ i m ps e1 e2
    have hne : f.c ≠ m := fun e => by
      rw [← e, h.c] at h0
      cases h0
    rw [List.getElem?_append_left (by have := ltO h0; omega), ← hB, List.getElem?_set_ne hne]
    exact h0
  have gen : ∀ (k j : Nat) (x2 : Option D), j + k = Tn.length → ∃ x2', forL (Tn.map S) none (gN 2) l1__law_made ((Tn.drop j).map S) [some rw', some (.loc O.length), x2] (B ++ (.dic (locK (O.length + 1) (Tn.take j)) :: (x.PP.take j).map .lst)) = .nx [some rw', some (.loc O.length), x2'] (B ++ (.dic (locK (O.length + 1) Tn) :: x.PP.map .lst)) := by
    intro k
    induction k with
    | zero =>
      intro j x2 hk
      rw [List.drop_of_length_le (by omega), List.take_of_length_le (by omega), List.take_of_length_le (by have := h.pl; omega)]
      exact ⟨x2, forL_nil (still_none.mpr trivial)⟩
    | succ k ih =>
      intro j x2 hk
      have hjl : j < Tn.length := by omega
      have hpl := h.pl
      have hll := h.ll
      have hjt : Tn[j]? = some Tn[j] := List.getElem?_eq_getElem hjl
      obtain ⟨m, hm⟩ : ∃ m, f.ls[j]? = some m := ⟨_, List.getElem?_eq_getElem (by omega)⟩
      obtain ⟨ps, hps⟩ : ∃ ps, x.PP[j]? = some ps := ⟨_, List.getElem?_eq_getElem (by omega)⟩
      have ht : Tn.take (j + 1) = Tn.take j ++ [Tn[j]] := by rw [List.take_succ, hjt]; rfl
      have htp : x.PP.take (j + 1) = x.PP.take j ++ [ps] := by rw [List.take_succ, hps]; rfl
      have htl : (Tn.take j).length = j := by rw [List.length_take]; omega
      have htpl : (x.PP.take j).length = j := by rw [List.length_take]; omega
      have hnt : Tn[j] ∉ Tn.take j := by
        have hn := t.nd
        rw [← List.take_append_drop j Tn, List.drop_eq_getElem_cons hjl, List.nodup_append] at hn
        exact fun h => hn.2.2 _ h _ (List.mem_cons_self ..) rfl
      obtain ⟨C, hC⟩ : ∃ C : Sto, B ++ (.dic (locK (O.length + 1) (Tn.take j)) :: (x.PP.take j).map .lst) = C := ⟨_, rfl⟩
      have hCl : C.length = O.length + 1 + j := by rw [← hC]; simp [hBl]; omega
      have hx : fIx (.loc f.c) (S Tn[j]) C = .ok (.loc m) C := by rw [← hC]; exact ix_dic (hBc _) (lkT_get h.ll t.nd hjt hm)
      have hat : C[m]? = some (.lst ps) := by rw [← hC]; exact hBm _ j m ps hm hps
      have hv : fList true [.loc m] C = .ok (.loc C.length) (C ++ [.lst ps]) := by
        unfold fList
        dsimp only
        rw [look_loc hat]
        dsimp only
        rw [mkL_t]
      have hat2 : (C ++ [OD.lst ps])[O.length]? = some (.dic (locK (O.length + 1) (Tn.take j))) := by
        rw [← hC, List.append_assoc, ← hBl]
        exact (gA B _ 0).trans rfl
      have hlen : (locK (O.length + 1) (Tn.take j)).length < 1000000 := by
        unfold locK
        have := t.few
        rw [List.length_map, List.length_zipIdx, htl]
        omega
      have hset : setK (locK (O.length + 1) (Tn.take j)) (.inr (T Tn[j])) (.loc C.length) = locK (O.length + 1) (Tn.take (j + 1)) := by
        have h := locK_snoc (O.length + 1) (Tn.take j) Tn[j] hnt
        rw [htl, ← hCl] at h
        rw [ht]
        exact h
      have hb : l1__law_made [some rw', some (.loc O.length), some (S Tn[j])] C = .nx [some rw', some (.loc O.length), some (S Tn[j])] (B ++ (.dic (locK (O.length + 1) (Tn.take (j + 1))) :: (x.PP.take (j + 1)).map .lst)) := by
        unfold l1__law_made
        refine put_ok (v := .loc C.length) (x := .loc O.length) (y := S Tn[j]) (O1 := C ++ [OD.lst ps]) (O2 := C ++ [OD.lst ps]) (O3 := C ++ [OD.lst ps]) ?_ rfl rfl ?_
        · simp only [ap_cb, ap_cons, ap_nil, ap_op, ap_c, var_s, var_0, bind_ok, r2, hx, bindL_ok, lbindL_ok, lbind_ok, hv]
        · rw [show S Tn[j] = .str (T Tn[j]) from rfl, put_at hat2 hlen, hset, ← hC, List.append_assoc]
          have e := sA B (.dic (locK (O.length + 1) (Tn.take j)) :: ((x.PP.take j).map .lst ++ [.lst ps])) 0 (.dic (locK (O.length + 1) (Tn.take (j + 1))))
          rw [Nat.add_zero, hBl] at e
          refine congrArg some (e.trans ?_)
          rw [htp, List.map_append]
          rfl
      obtain ⟨x2', e⟩ := ih (j + 1) (some (S Tn[j])) (by omega)
      refine ⟨x2', ?_⟩
      rw [List.drop_eq_getElem_cons hjl, List.map_cons, hC, forL_nx (still_none.mpr trivial) rfl hb]
      exact e
  obtain ⟨x2, e⟩ := gen Tn.length 0 none (by omega)
  have hit : dItems 0 (lkT Tn f.ls) = Tn.map S := by
    rw [h.pv.items]
    have : (Tn.zip x.PP).map (fun p => S p.1) = ((Tn.zip x.PP).map (·.1)).map S := by rw [List.map_map]; rfl
    rw [this, List.map_fst_zip (by rw [h.pl]; exact Nat.le_refl _)]
  have hfor : dForD 0 (pIx 2 (pVar 0)) (gN 2) l1__law_made [some rw', some (.loc O.length), none] (O ++ [.dic []]) = .nx [some rw', some (.loc O.length), x2] (O ++ (.dic (locK (O.length + 1) Tn) :: x.PP.map .lst)) := by
    unfold dForD
    rw [p2]
    have hoc : (O ++ [OD.dic []])[f.c]? = some (.dic (lkT Tn f.ls)) := by rw [List.getElem?_append_left hlc]; exact h.c
    show (match (O ++ [OD.dic []])[f.c]? with
      | some (.dic kvs) => (forL (dItems 0 kvs) none (gN 2) l1__law_made (dItems 0 kvs) [some rw', some (.loc O.length), none] ((O ++ [OD.dic []]).set f.c (.lck (.dic kvs)))).unl f.c (.dic kvs)
      | _ => .stuck) = _
    rw [hoc]
    dsimp only
    rw [hit, List.set_append_left _ _ hlc, hB]
    have e : forL (Tn.map S) none (gN 2) l1__law_made (Tn.map S) [some rw', some (.loc O.length), none] (B ++ [OD.dic []]) = .nx [some rw', some (.loc O.length), x2] (B ++ (.dic (locK (O.length + 1) Tn) :: x.PP.map .lst)) := e
    rw [e, ← hB]
    exact unl_nx h.c
  obtain ⟨A, hA⟩ : ∃ A : Sto, O ++ (.dic (locK (O.length + 1) Tn) :: x.PP.map .lst) = A := ⟨_, rfl⟩
  have hAl : A.length = O.length + Tn.length + 1 := by rw [← hA]; simp [h.pl]; omega
  have hFA : Fo Tn A f x := by rw [← hA]; exact h.app _
  have hmk : dFrz (dMake "Ground" m_Ground___init__ [] (dCons (dCB (fDict true) (dCons (dOp fIx (dVar 0) (dC (.int 0))) dNil)) (dCons (dCB (fDict true) (dCons (dOp fIx (dVar 0) (dC (.int 1))) dNil)) (dCons (dVar 1) (dCons (dCB (fDict true) (dCons (dOp fIx (dVar 0) (dC (.int 3))) dNil)) dNil))))) [some rw', some (.loc O.length), x2] A = .ok (mdF O.length Tn.length).gr (O ++ mdS Tn O.length x) := by
    have dk : ∀ (m : Nat) (kvs : List (Key × D)) O', look O' (.loc m) = .dic kvs → fDict true [.loc m] O' = .ok (.loc O'.length) (O' ++ [.dic kvs]) := fun m kvs O' hl => by
      unfold fDict
      dsimp only
      rw [hl]
      dsimp only
      rw [mkK_t]
    have k0 := dk f.a _ A (look_dic hFA.a)
    have k1 := dk f.b _ (A ++ [OD.dic x.lies]) (look_dic (hFA.app _).b)
    have k3 := dk f.d _ (A ++ [OD.dic x.lies] ++ [OD.dic x.stiff]) (look_dic ((hFA.app _).app _).d)
    have hm : dMake "Ground" m_Ground___init__ [] (dCons (dCB (fDict true) (dCons (dOp fIx (dVar 0) (dC (.int 0))) dNil)) (dCons (dCB (fDict true) (dCons (dOp fIx (dVar 0) (dC (.int 1))) dNil)) (dCons (dVar 1) (dCons (dCB (fDict true) (dCons (dOp fIx (dVar 0) (dC (.int 3))) dNil)) dNil)))) [some rw', some (.loc O.length), x2] A = .ok (.loc (A ++ [OD.dic x.lies] ++ [OD.dic x.stiff] ++ [OD.dic x.told]).length) (A ++ [OD.dic x.lies] ++ [OD.dic x.stiff] ++ [OD.dic x.told] ++ [.ins "Ground" [("lie_of", .loc A.length), ("stiff_ones", .loc (A ++ [OD.dic x.lies]).length), ("path_of", .loc O.length), ("told", .loc (A ++ [OD.dic x.lies] ++ [OD.dic x.stiff]).length)]]) := by
      unfold dMake
      simp only [ap_cons, ap_cb, ap_op, ap_c, var_s, var_0, bind_ok, r0, r1, r3, k0, k1, k3, ap_nil, bindL_ok, lbindL_ok, lbind_ok]
      show mkRes _ (m_Ground___init__ [.loc (A ++ [OD.dic x.lies] ++ [OD.dic x.stiff] ++ [OD.dic x.told]).length, .loc A.length, .loc (A ++ [OD.dic x.lies]).length, .loc O.length, .loc (A ++ [OD.dic x.lies] ++ [OD.dic x.stiff]).length] (A ++ [OD.dic x.lies] ++ [OD.dic x.stiff] ++ [OD.dic x.told] ++ [.ins "Ground" []])) = _
      rw [init_ok]
      rfl
    have l1 : (A ++ [OD.dic x.lies]).length = O.length + Tn.length + 2 := by simp [hAl]
    have l2 : (A ++ [OD.dic x.lies] ++ [OD.dic x.stiff]).length = O.length + Tn.length + 3 := by simp [hAl]
    refine ap_frz hm ?_
    rw [hAl, l1, l2]
    have hfr : ∀ (C : Sto) fs, frz1 (.loc C.length) (C ++ [.ins "Ground" fs]) = some (.obj "Ground" fs, C ++ [.gone]) := fun C fs => by simp [frz1]
    rw [hfr, ← hA]
    refine congrArg some (Prod.ext rfl ?_)
    simp only [List.append_assoc, List.singleton_append, List.cons_append, List.nil_append]
  have hb : b__law_made [some rw', none, none] O = .rt (mdF O.length Tn.length).gr (O ++ mdS Tn O.length x) := by
    unfold b__law_made
    rw [seq_nx (show dSet 1 (dNewK true) [some rw', none, none] O = .nx [some rw', some (.loc O.length), none] (O ++ [.dic []]) from rfl), seq_nx hfor, hA]
    unfold r1__law_made
    exact ret_ok hmk
  show trimR O (b__law_made [some rw', none, none] O).res = _
  rw [hb]
  show trimR O (.ok (mdF O.length Tn.length).gr (O ++ mdS Tn O.length x)) = _
  unfold trimR
  dsimp only
  rw [if_neg]
  rintro ⟨hb, _⟩
  cases hb with
  | obj hb =>
    cases hb with
    | cons hb _ =>
      cases hb with
      | loc h => simp only at h; omega
end

open Yk.Nm Yk.Pt Yk.Gb
theorem sv_some {stiff : List (Key × D)} (h : ∀ kv ∈ stiff, kv.2 = .bl true) (l : List Nat) : (getK stiff (.inr (T l))).isSome = sv stiff (T l) := by
  unfold sv
  cases e : getK stiff (.inr (T l)) with
  | none => rfl
  | some d =>
    have := h _ (getK_mem e)
    have this : d = .bl true := this
    rw [this]
    rfl
theorem flat_seen {kvs : List (Key × D)} (h : okSeen kvs) : ∀ kv ∈ kvs, flatS kv.2 = true := fun kv hkv => by
  obtain ⟨b, hb⟩ := h.2 kv hkv
  rw [hb]
  rfl
section
variable {lies stiff told : List (Key × D)} {Tn : List (List Nat)} {PP : List (List D)}
theorem wix (c : Bool) (k : Str) (l : List Nat) (O : Sto) : fIx (.lst [.non, .tup [.str k, S l]]) (.int (if c = true then 1 else 0)) O = .ok (wd c k l) O := by
  cases c <;> rfl
theorem flat_lenW (R : List Stq) : (R.flatMap (wordsOf lies stiff told (Tn.zip PP))).length ≤ 3 * R.length := by
  induction R with
  | nil => exact Nat.zero_le _
  | cons q R ih =>
    rw [List.flatMap_cons, List.length_append, List.length_cons]
    have : (wordsOf lies stiff told (Tn.zip PP) q).length ≤ 3 := by unfold wordsOf; split <;> simp
    omega
end
section
variable {Tn Pn : List (List Nat)} {n : Nat} {x : Dat} {O : Sto} {f : Four}
theorem words_ok (hF : Fo Tn O f x) (iv : Inv Tn Pn n x) (t : Tk Tn) (hn : n < 900) (R : List Stq) (hl : R.length < 900) (hk : ∀ q ∈ R, q.2.2.2 ≠ "" → ∃ v, getK x.lies (.inr (T q.1)) = some (.str v)) : m__law_words [.tup (.str "sig" :: R.map stD), f.rows] O = .ok (.lst (R.flatMap (wordsOf x.lies x.stiff x.told (Tn.zip x.PP)))) O := by
  have gen : ∀ (xs : List D) (us vs : List Stq) (x3 x4 : Option D), (∀ q ∈ us, q ∈ R) → vs.length + us.length < 900 → ∃ x3' x4', forL xs none (gN 3) l1__law_words (us.map stD) [some (.tup (.str "sig" :: R.map stD)), some (f.rows), some (.loc O.length), x3, x4] (O ++ [.lst (vs.flatMap (wordsOf x.lies x.stiff x.told (Tn.zip x.PP)))]) = .nx [some (.tup (.str "sig" :: R.map stD)), some (f.rows), some (.loc O.length), x3', x4'] (O ++ [.lst ((vs ++ us).flatMap (wordsOf x.lies x.stiff x.told (Tn.zip x.PP)))]) := by
    intro xs us
    induction us with
    | nil => intro vs x3 x4 hs h; rw [List.append_nil]; exact ⟨x3, x4, forL_nil (still_none.mpr trivial)⟩
    | cons q us ih =>
      intro vs x3 x4 hs h
      simp only [List.length_cons] at h
      have hv := flat_lenW (lies := x.lies) (stiff := x.stiff) (told := x.told) (Tn := Tn) (PP := x.PP) vs
      have e : (vs ++ [q]).flatMap (wordsOf x.lies x.stiff x.told (Tn.zip x.PP)) = vs.flatMap (wordsOf x.lies x.stiff x.told (Tn.zip x.PP)) ++ wordsOf x.lies x.stiff x.told (Tn.zip x.PP) q := by simp
      have hb : l1__law_words [some (.tup (.str "sig" :: R.map stD)), some (f.rows), some (.loc O.length), some (stD q), x4] (O ++ [.lst (vs.flatMap (wordsOf x.lies x.stiff x.told (Tn.zip x.PP)))]) = .nx [some (.tup (.str "sig" :: R.map stD)), some (f.rows), some (.loc O.length), some (stD q), some (S q.1)] (O ++ [.lst ((vs ++ [q]).flatMap (wordsOf x.lies x.stiff x.told (Tn.zip x.PP)))]) := by
        rw [e]
        generalize vs.flatMap (wordsOf x.lies x.stiff x.told (Tn.zip x.PP)) = acc at hv
        have hA : ∀ acc : List D, Fo Tn (O ++ [OD.lst acc]) f x := fun acc => hF.app _
        have h2 : ∀ acc : List D, m__law_held [.loc f.c, S q.1] (O ++ [OD.lst acc]) = .ok (.bl (heldZ (Tn.zip x.PP) q.1)) (O ++ [OD.lst acc]) := fun acc => lheld_ok (.inr ⟨_, rfl, (hA acc).c⟩) (hA acc).pv (iv.zok t hn) q.1
        have r0 : ∀ O, fIx f.rows (.int 0) O = .ok (.loc f.a) O := fun O => rfl
        have r1 : ∀ O, fIx f.rows (.int 1) O = .ok (.loc f.b) O := fun O => rfl
        have r2 : ∀ O, fIx f.rows (.int 2) O = .ok (.loc f.c) O := fun O => rfl
        have r3 : ∀ O, fIx f.rows (.int 3) O = .ok (.loc f.d) O := fun O => rfl
        have ib : ∀ (c : Bool) O, fInt [.bl c] O = .ok (.int (if c = true then 1 else 0)) O := fun c O => rfl
        have gt : ∀ acc : List D, fGet (.loc f.d) (S q.1) (.bl false) (O ++ [OD.lst acc]) = .ok (.bl (sv x.told (T q.1))) (O ++ [OD.lst acc]) := fun acc => by rw [show S q.1 = .str (T q.1) from rfl, get2_dic (look_dic (hA acc).d), getB_sv iv.td]
        have id : ∀ acc : List D, isDc (O ++ [OD.lst acc]) (.loc f.d) = true := fun acc => isDc_dic (look_dic (hA acc).d)
        have pairs : ∀ (k : Str) (ρ : Env') (O : Sto), ρ[4]? = some (some (S q.1)) → dLst false (dCons (dC .non) (dCons (dTup (dCons (dC (.str k)) (dCons (dVar 4) dNil))) dNil)) ρ O = .ok (.lst [.non, .tup [.str k, S q.1]]) O := fun k ρ O h => by
          have hv : dVar 4 ρ O = .ok (S q.1) O := by unfold dVar; rw [h]
          simp only [ap_lst, ap_cons, ap_c, ap_tup, ap_nil, hv, bindL_ok, lbindL_ok, lbind_ok, bind_ok, List.length_cons, List.length_nil]
          rfl
        have a1 := app_last (O := O) (acc := acc) (d := wd (heldZ (Tn.zip x.PP) q.1) "held" q.1) (by omega)
        have a2 := app_last (O := O) (acc := acc ++ [wd (heldZ (Tn.zip x.PP) q.1) "held" q.1]) (d := wd (sv x.told (T q.1)) "taken" q.1) (by simp only [List.length_append, List.length_cons, List.length_nil]; omega)
        have a3 := app_last (O := O) (acc := acc ++ [wd (heldZ (Tn.zip x.PP) q.1) "held" q.1] ++ [wd (sv x.told (T q.1)) "taken" q.1]) (d := wd (!(lieOf x.lies q.1 == q.2.2.2) && sv x.stiff (T q.1)) "stiff" q.1) (by simp only [List.length_append, List.length_cons, List.length_nil]; omega)
        have p1 := fun O => pairs "held" [some (.tup (.str "sig" :: R.map stD)), some (f.rows), some (.loc O.length), some (stD q), some (S q.1)] O rfl
        generalize hρ : [some (.tup (.str "sig" :: R.map stD)), some (f.rows), some (.loc O.length), some (stD q), some (S q.1)] = ρ
        have v1 : ∀ O, dVar 1 ρ O = .ok (f.rows) O := fun O => by rw [← hρ]; rfl
        have v2 : ∀ O', dVar 2 ρ O' = .ok (.loc O.length) O' := fun O => by rw [← hρ]; rfl
        have v3 : ∀ O, dVar 3 ρ O = .ok (stD q) O := fun O => by rw [← hρ]; rfl
        have v4 : ∀ O, dVar 4 ρ O = .ok (S q.1) O := fun O => by rw [← hρ]; rfl
        have pr : ∀ (k : Str) O, dLst false (dCons (dC .non) (dCons (dTup (dCons (dC (.str k)) (dCons (dVar 4) dNil))) dNil)) ρ O = .ok (.lst [.non, .tup [.str k, S q.1]]) O := fun k O => pairs k ρ O (by rw [← hρ]; rfl)
        have s4 : dSet 4 (dOp fIx (dVar 3) (dC (.int 0))) [some (.tup (.str "sig" :: R.map stD)), some (f.rows), some (.loc O.length), some (stD q), x4] (O ++ [.lst acc]) = .nx ρ (O ++ [.lst acc]) := by
          rw [← hρ]
          exact (set_ok (d := S q.1) (O1 := O ++ [.lst acc]) (by simp only [ap_op, var_s, var_0, bind_ok, ap_c, st_0])).trans rfl
        unfold l1__law_words
        rw [seq_nx s4]
        have x1 : dExpr (dBMi isL fAppend (dVar 2) (dCons (dOp fIx (dLst false (dCons (dC .non) (dCons (dTup (dCons (dC (.str "held")) (dCons (dVar 4) dNil))) dNil))) (dCB fInt (dCons (dCall m__law_held [] (dCons (dOp fIx (dVar 1) (dC (.int 2))) (dCons (dVar 4) dNil))) dNil))) dNil)) ρ (O ++ [.lst acc]) = .nx ρ (O ++ [.lst (acc ++ [wd (heldZ (Tn.zip x.PP) q.1) "held" q.1])]) := by
          rw [ap_expr, ap_bm, v2, bind_ok, isL_last, if_pos rfl, ap_cons, ap_op (f := fIx), pr]
          simp only [bind_ok, ap_cb, ap_cons, ap_call, ap_op, v1, v4, ap_c, r2, ap_nil, bindL_ok, lbindL_ok, lbind_ok, List.append_nil, h2, ib, wix, a1, bindS_ok]
        have x2 : dExpr (dBMi isL fAppend (dVar 2) (dCons (dOp fIx (dLst false (dCons (dC .non) (dCons (dTup (dCons (dC (.str "taken")) (dCons (dVar 4) dNil))) dNil))) (dCB fInt (dCons (dGet2 (dOp fIx (dVar 1) (dC (.int 3))) (dVar 4) (dC (.bl false))) dNil))) dNil)) ρ (O ++ [.lst (acc ++ [wd (heldZ (Tn.zip x.PP) q.1) "held" q.1])]) = .nx ρ (O ++ [.lst (acc ++ [wd (heldZ (Tn.zip x.PP) q.1) "held" q.1] ++ [wd (sv x.told (T q.1)) "taken" q.1])]) := by
          rw [ap_expr, ap_bm, v2, bind_ok, isL_last, if_pos rfl, ap_cons, ap_op (f := fIx), pr]
          simp only [bind_ok, ap_cb, ap_cons, ap_get2, ap_op, v1, v4, ap_c, r3, id, if_true, gt, ap_nil, bindL_ok, lbindL_ok, lbind_ok, ib, wix, a2, bindS_ok]
        rw [seq_nx x1, seq_nx x2]
        have hc : ∀ O, dVal (dOp fNe (dOp fIx (dVar 3) (dC (.int 3))) (dC (.str ""))) ρ O = .ok (!(q.2.2.2 == ("" : Str))) O := fun O => by
          simp only [ap_val, ap_op, v3, bind_ok, ap_c, st_3, ne_e, bindB_ok, bool_bl]
        unfold wordsOf
        by_cases h0 : q.2.2.2 = ""
        · have hf : (!(q.2.2.2 == ("" : Str))) = false := by simp [h0]
          have hc' := hc (O ++ [.lst (acc ++ [wd (heldZ (Tn.zip x.PP) q.1) "held" q.1] ++ [wd (sv x.told (T q.1)) "taken" q.1])])
          rw [hf] at hc'
          rw [if_pos h0]
          refine (if_f hc').trans ?_
          show Out.nx ρ _ = _
          simp
        · have hf : (!(q.2.2.2 == ("" : Str))) = true := by simpa using h0
          have hc' := hc (O ++ [.lst (acc ++ [wd (heldZ (Tn.zip x.PP) q.1) "held" q.1] ++ [wd (sv x.told (T q.1)) "taken" q.1])])
          rw [hf] at hc'
          rw [if_neg h0]
          obtain ⟨v, hv2⟩ := hk q (hs q (List.mem_cons_self ..)) h0
          have hlo : lieOf x.lies q.1 = v := by unfold lieOf; rw [hv2]
          have l0 : ∀ acc : List D, fIx (.loc f.a) (S q.1) (O ++ [OD.lst acc]) = .ok (.str v) (O ++ [OD.lst acc]) := fun acc => ix_dic (look_dic (hA acc).a) hv2
          have n0 : ∀ O, fNe (.str v) (.str q.2.2.2) O = .ok (.bl (!(v == q.2.2.2))) O := fun O => rfl
          have hst : ∀ acc : List D, fIn (S q.1) (.loc f.b) (O ++ [OD.lst acc]) = .ok (.bl (sv x.stiff (T q.1))) (O ++ [OD.lst acc]) := fun acc => by rw [in_look (look_dic (hA acc).b), sv_some iv.tr]
          have hand : ∀ acc : List D, dAndV (dOp fNe (dOp fIx (dOp fIx (dVar 1) (dC (.int 0))) (dVar 4)) (dOp fIx (dVar 3) (dC (.int 3)))) (dOp fIn (dVar 4) (dOp fIx (dVar 1) (dC (.int 1)))) ρ (O ++ [OD.lst acc]) = .ok (.bl (!(lieOf x.lies q.1 == q.2.2.2) && sv x.stiff (T q.1))) (O ++ [OD.lst acc]) := fun acc => by
            rw [hlo]
            simp only [ap_andV, ap_op, v1, v3, v4, bind_ok, ap_c, r0, r1, l0, st_3, n0, hst, andK_bl]
            cases (!(v == q.2.2.2)) <;> rfl
          refine (if_t hc').trans ?_
          rw [ap_expr, ap_bm, v2, bind_ok, isL_last, if_pos rfl, ap_cons, ap_op (f := fIx), pr]
          simp only [bind_ok, ap_cb, ap_cons, hand, ap_nil, bindL_ok, lbindL_ok, lbind_ok, ib, wix, a3, bindS_ok]
          simp
      obtain ⟨x3', x4', e⟩ := ih (vs ++ [q]) (some (stD q)) (some (S q.1)) (fun x hx => hs x (List.mem_cons_of_mem _ hx)) (by simp; omega)
      refine ⟨x3', x4', ?_⟩
      rw [List.map_cons, forL_nx (still_none.mpr trivial) rfl hb, e]
      simp
  obtain ⟨x3, x4, e⟩ := gen (R.map stD) R [] none none (fun _ h => h) (by simpa using hl)
  have e : forL (R.map stD) none (gN 3) l1__law_words (R.map stD) [some (.tup (.str "sig" :: R.map stD)), some (f.rows), some (.loc O.length), none, none] (O ++ [.lst []]) = .nx [some (.tup (.str "sig" :: R.map stD)), some (f.rows), some (.loc O.length), x3, x4] (O ++ [.lst (R.flatMap (wordsOf x.lies x.stiff x.told (Tn.zip x.PP)))]) := e
  have hsl : dSl false (dVar 0) (dPart (dC (.int 1))) dNoP [some (.tup (.str "sig" :: R.map stD)), some (f.rows), some (.loc O.length), none, none] (O ++ [.lst []]) = .ok (.tup (R.map stD)) (O ++ [.lst []]) := by
    show Res.ok (.tup (cutD (.str "sig" :: R.map stD) (some ((1 : Nat) : Int)) none)) (O ++ [OD.lst []]) = _
    rw [cutD_from]
    rfl
  have hb : b__law_words [some (.tup (.str "sig" :: R.map stD)), some (f.rows), none, none, none] O = .rt (.lst (R.flatMap (wordsOf x.lies x.stiff x.told (Tn.zip x.PP)))) (O ++ [.gone]) := by
    unfold b__law_words
    rw [seq_nx (show dSet 2 (dLst true dNil) [some (.tup (.str "sig" :: R.map stD)), some (f.rows), none, none, none] O = .nx [some (.tup (.str "sig" :: R.map stD)), some (f.rows), some (.loc O.length), none, none] (O ++ [.lst []]) from rfl)]
    have hf : dFor (srcSeq (dSl false (dVar 0) (dPart (dC (.int 1))) dNoP)) (gN 3) l1__law_words [some (.tup (.str "sig" :: R.map stD)), some (f.rows), some (.loc O.length), none, none] (O ++ [.lst []]) = .nx [some (.tup (.str "sig" :: R.map stD)), some (f.rows), some (.loc O.length), x3, x4] (O ++ [.lst (R.flatMap (wordsOf x.lies x.stiff x.told (Tn.zip x.PP)))]) := by
      unfold dFor srcSeq
      rw [hsl]
      exact e
    rw [seq_nx hf]
    exact ret_ok (ap_frz rfl frz_lastL)
  show trimR O (b__law_words [some (.tup (.str "sig" :: R.map stD)), some (f.rows), none, none, none] O).res = _
  rw [hb]
  have bw : ∀ (ws : List D), (∀ w ∈ ws, isW w) → BelowL O.length ws := fun ws => by
    induction ws with
    | nil => exact fun _ => .nil
    | cons w ws ih =>
      intro h
      refine .cons ?_ (ih fun x hx => h x (List.mem_cons_of_mem _ hx))
      rcases h w (List.mem_cons_self ..) with rfl | ⟨k, l, rfl⟩
      · exact .non
      · exact .tup (.cons (.str _) (.cons (.str _) .nil))
  exact trim_app (.lst (bw _ (rls_of (hF.gr_ iv t hn) (look_dic hF.a) R hk).isW))
end
/-! ### the same, by == -/
theorem deqG_flat {O : Sto} {n : Nat} {d : D} (h : flatS d = true) : deqG O (n + 1) d d = some true := by
  cases d <;> first | (cases h; done) | (unfold deqG lookL; simp [deqN]) 
theorem deqL_all {f : D → D → Option Bool} : ∀ {ds : List D}, (∀ d ∈ ds, f d d = some true) → deqL f ds ds = some true
  | [], _ => rfl
  | d :: ds, h => by
    unfold deqL
    rw [h d (List.mem_cons_self ..), deqL_all fun x hx => h x (List.mem_cons_of_mem _ hx)]
    rfl
theorem deqG_step {O : Sto} {n : Nat} {l : List Nat} {d : D} (h : stepOf l d) : deqG O (n + 2) d d = some true := by
  obtain ⟨e, o, j, rfl⟩ := h
  show (deqL (deqG O (n + 1)) [S l, .str e, .str o, .str j] [S l, .str e, .str o, .str j]).map (fun b => b && decide (4 = 4)) = _
  rw [deqL_all fun x hx => by
    simp at hx
    rcases hx with rfl | rfl | rfl | rfl <;> exact deqG_flat rfl]
  rfl
theorem lookL_of {O : Sto} {x : D} {kvs : List (Key × D)} (h : look O x = .dic kvs) : lookL O x = .dic kvs := by
  cases x <;> first | exact h | (cases h; done) | (cases h; rfl)
theorem eqKs_same' {f : D → D → Option Bool} {kb : List (Key × D)} (hn : (kb.map (·.1)).Nodup) (hf : ∀ kv ∈ kb, f kv.2 kv.2 = some true) : ∀ {ka : List (Key × D)}, (∀ kv ∈ ka, kv ∈ kb) → eqKs f kb ka = some true
  | [], _ => rfl
  | (k, v) :: r, h => by
    unfold eqKs
    have hm := h _ (List.mem_cons_self ..)
    have hg : getK kb k = some v := getK_self hn _ hm
    rw [hg]
    dsimp only
    have hv : f v v = some true := hf _ hm
    rw [hv, eqKs_same' hn hf fun kv hkv => h kv (List.mem_cons_of_mem _ hkv)]
    rfl
theorem deqG_dic {O : Sto} {n : Nat} {x y : D} {kvs : List (Key × D)} (hx : look O x = .dic kvs) (hy : look O y = .dic kvs) (hn : (kvs.map (·.1)).Nodup) (hf : ∀ kv ∈ kvs, flatS kv.2 = true) : deqG O (n + 2) x y = some true := by
  unfold deqG
  rw [lookL_of hx, lookL_of hy]
  dsimp only
  rw [if_pos rfl]
  exact eqKs_same' hn (fun kv hkv => deqG_flat (hf kv hkv)) fun _ h => h
theorem lookL_seq {O : Sto} {d : D} {ps : List D} (h : Sq O d ps) : lookL O d = .lst ps := by
  cases h with
  | lst => rfl
  | loc h => exact look_loc h
theorem deqG_seq {O : Sto} {n : Nat} {d e : D} {ps : List D} (h1 : Sq O d ps) (h2 : Sq O e ps) (hs : ∀ d ∈ ps, ∃ l, stepOf l d) : deqG O (n + 3) d e = some true := by
  unfold deqG
  rw [lookL_seq h1, lookL_seq h2]
  dsimp only
  rw [if_pos rfl]
  exact deqL_all fun x hx => by
    obtain ⟨l, h⟩ := hs x hx
    exact deqG_step h
theorem deqG_pv {O : Sto} {n : Nat} {x y : D} {ka kb : List (Key × D)} {Z : TPs} (hx : look O x = .dic ka) (hy : look O y = .dic kb) (va : Pv O ka Z) (vb : Pv O kb Z) (z : Zok Z) : deqG O (n + 4) x y = some true := by
  unfold deqG
  rw [lookL_of hx, lookL_of hy]
  dsimp only
  have hl : ka.length = kb.length := by
    have h1 := congrArg List.length va.keys
    have h2 := congrArg List.length vb.keys
    simp only [List.length_map] at h1 h2
    omega
  rw [if_pos hl]
  have gen : ∀ {ka' : List (Key × D)} {Z' : TPs}, Pv O ka' Z' → (∀ p ∈ Z', p ∈ Z) → eqKs (deqG O (n + 3)) kb ka' = some true := by
    intro ka' Z' v
    induction v with
    | nil => exact fun _ => rfl
    | @cons t d ps kvs Z' h r ih =>
      intro hm
      obtain ⟨e, h1, h2⟩ := vb.get z.nd (hm (t, ps) (List.mem_cons_self ..))
      unfold eqKs
      rw [h1]
      dsimp only
      rw [deqG_seq h h2 (z.st (t, ps) (hm (t, ps) (List.mem_cons_self ..))), ih fun p hp => hm p (List.mem_cons_of_mem _ hp)]
      rfl
  exact gen va fun _ h => h

section
variable {Tn Pn : List (List Nat)} {n : Nat} {x : Dat} {O : Sto} {f g : Four}
theorem fields_ok (hF : Fo Tn O f x) : m__law_fields [f.gr] O = .ok f.rows O := by
  obtain ⟨gr, hgr⟩ : ∃ gr, f.gr = gr := ⟨_, rfl⟩
  have f1 := fun O => f_lie (x1 := .loc f.a) (x2 := .loc f.b) (x3 := .loc f.c) (x4 := .loc f.d) (O := O)
  have f2 := fun O => f_stiff (x1 := .loc f.a) (x2 := .loc f.b) (x3 := .loc f.c) (x4 := .loc f.d) (O := O)
  have f3 := fun O => f_path (x1 := .loc f.a) (x2 := .loc f.b) (x3 := .loc f.c) (x4 := .loc f.d) (O := O)
  have f4 := fun O => f_told (x1 := .loc f.a) (x2 := .loc f.b) (x3 := .loc f.c) (x4 := .loc f.d) (O := O)
  rw [show grL (.loc f.a) (.loc f.b) (.loc f.c) (.loc f.d) = gr from hgr] at f1 f2 f3 f4
  rw [hgr]
  have hb : b__law_fields [some gr] O = .rt f.rows O := by
    unfold b__law_fields
    refine ret_ok ?_
    simp only [ap_lst, ap_cons, ap_un, ap_nil, var_s, var_0, bind_ok, bindL_ok, lbindL_ok, lbind_ok, f1, f2, f3, f4, List.length_cons, List.length_nil]
    rw [if_pos (by decide), mkL_f]
  show trimR O (b__law_fields [some gr] O).res = _
  rw [hb]
  have l := hF.lt
  unfold Four.foot at l
  exact trim_same (.lst (.cons (.loc (l _ (by simp))) (.cons (.loc (l _ (by simp))) (.cons (.loc (l _ (by simp))) (.cons (.loc (l _ (by simp))) .nil)))))
theorem same_ok (hF : Fo Tn O f x) (hG : Fo Tn O g x) (i : Inv Tn Pn n x) (t : Tk Tn) (hn : n < 900) : fNeG f.rows g.rows O = .ok (.bl false) O := by
  have fl : ∀ kv ∈ x.lies, flatS kv.2 = true := fun kv h => by
    rcases i.lr kv h with e | e <;> (rw [e]; rfl)
  have e1 : deqG O 59 (.loc f.a) (.loc g.a) = some true := deqG_dic (look_dic hF.a) (look_dic hG.a) i.ln fl
  have e2 : deqG O 59 (.loc f.b) (.loc g.b) = some true := deqG_dic (look_dic hF.b) (look_dic hG.b) i.st.1 (flat_seen i.st)
  have e3 : deqG O 59 (.loc f.c) (.loc g.c) = some true := deqG_pv (look_dic hF.c) (look_dic hG.c) hF.pv hG.pv (i.zok t hn)
  have e4 : deqG O 59 (.loc f.d) (.loc g.d) = some true := deqG_dic (look_dic hF.d) (look_dic hG.d) i.td.1 (flat_seen i.td)
  have : deqG O 60 f.rows g.rows = some true := by
    show (if 4 = 4 then deqL (deqG O 59) [.loc f.a, .loc f.b, .loc f.c, .loc f.d] [.loc g.a, .loc g.b, .loc g.c, .loc g.d] else some false) = _
    rw [if_pos rfl]
    simp [deqL, e1, e2, e3, e4]
  unfold fNeG
  rw [this]
  rfl
end

open Yk.Nm Yk.Pt Yk.Gb
/-! ### the state -/
structure St (Tn Pn : List (List Nat)) (O : Sto) (r : Nat) (RL : List D) (f1 g1 f2 g2 : Four) (x1 x2 : Dat) (n : Nat) : Prop where
  F1 : Fo Tn O f1 x1
  G1 : Fo Tn O g1 x1
  F2 : Fo Tn O f2 x2
  G2 : Fo Tn O g2 x2
  I1 : Inv Tn Pn n x1
  I2 : Inv Tn Pn 12 x2
  R : O[r]? = some (.lst RL)
  d1 : ∀ m ∈ f1.foot, m ∉ g1.foot ∧ m ∉ f2.foot ∧ m ∉ g2.foot ∧ m ≠ r
  d2 : ∀ m ∈ g1.foot, m ∉ f2.foot ∧ m ∉ g2.foot ∧ m ≠ r
section
variable {Tn Pn : List (List Nat)} {O : Sto} {r : Nat} {RL : List D} {f1 g1 f2 g2 : Four} {x1 x2 : Dat} {n : Nat}
theorem St.app (h : St Tn Pn O r RL f1 g1 f2 g2 x1 x2 n) (R : Sto) : St Tn Pn (O ++ R) r RL f1 g1 f2 g2 x1 x2 n :=
  ⟨h.F1.app R, h.G1.app R, h.F2.app R, h.G2.app R, h.I1, h.I2, by rw [List.getElem?_append_left (ltO h.R)]; exact h.R, h.d1, h.d2⟩
theorem foot_ls {f : Four} {ls' : List Nat} {N : Nat} (h : ∀ m ∈ ls', m ∈ f.ls ∨ N ≤ m) : ∀ m ∈ ({ f with ls := ls' } : Four).foot, m ∈ f.foot ∨ N ≤ m := fun m hm => by
  unfold Four.foot at hm ⊢
  rcases List.mem_cons.mp hm with h1 | hm
  · exact .inl (by simp [h1])
  rcases List.mem_cons.mp hm with h1 | hm
  · exact .inl (by simp [h1])
  rcases List.mem_cons.mp hm with h1 | hm
  · exact .inl (by simp [h1])
  rcases List.mem_cons.mp hm with h1 | hm
  · exact .inl (by simp [h1])
  rcases h m hm with h1 | h1
  · exact .inl (List.mem_cons_of_mem _ (List.mem_cons_of_mem _ (List.mem_cons_of_mem _ (List.mem_cons_of_mem _ h1))))
  · exact .inr h1
theorem Inv.up {x : Dat} (i : Inv Tn Pn n x) {k : Nat} (h : n ≤ k) : Inv Tn Pn k x :=
  ⟨Nat.le_trans i.ll h, Nat.le_trans i.sl h, Nat.le_trans i.tl h, i.lr, i.ln, i.st, i.tr, i.td, i.pl, i.ps, fun ps hp => Nat.le_trans (i.pz ps hp) h, i.has⟩
theorem St.turn (h : St Tn Pn O r RL f1 g1 f2 g2 x1 x2 n) (t : Tk Tn) (hn : n < 800) {L : List (List Nat)} (hL : 0 < L.length) (num : Nat) :
    ∃ O1 O2 ls1 ls2 x1', m__law_turned [f1.rows, .lst (L.map S), .lst (Tn.map S), .int (num : Int)] O = .ok .non O1 ∧ Fo Tn O1 g1 x1 ∧ m__law_turned [g1.rows, .lst (L.map S), .lst (Tn.map S), .int (num : Int)] O1 = .ok .non O2 ∧ St Tn Pn O2 r RL { f1 with ls := ls1 } { g1 with ls := ls2 } f2 g2 x1' x2 (n + 1) := by
  obtain ⟨x1', i1, tk⟩ := turned_ok t hL num hn h.I1
  obtain ⟨O1, ls1, e1, r1, r2⟩ := tk O f1 h.F1
  have hg1 : Fo Tn O1 g1 x1 := h.G1.keep fun m hm => r2.keep m (h.G1.lt m hm) fun q => (h.d1 m q).1 hm
  have hf2 : Fo Tn O1 f2 x2 := h.F2.keep fun m hm => r2.keep m (h.F2.lt m hm) fun q => (h.d1 m q).2.1 hm
  have hg2 : Fo Tn O1 g2 x2 := h.G2.keep fun m hm => r2.keep m (h.G2.lt m hm) fun q => (h.d1 m q).2.2.1 hm
  have hr : O1[r]? = some (.lst RL) := by rw [r2.keep r (ltO h.R) fun q => (h.d1 r q).2.2.2 rfl]; exact h.R
  obtain ⟨O2, ls2, e2, s1, s2⟩ := tk O1 g1 hg1
  have hls1 := foot_ls r2.ls
  have hls2 := foot_ls s2.ls
  have le := r2.le
  have d1 : ∀ m ∈ ({ f1 with ls := ls1 } : Four).foot, m ∉ g1.foot ∧ m ∉ f2.foot ∧ m ∉ g2.foot ∧ m ≠ r := fun m hm => by
    rcases hls1 m hm with q | q
    · exact h.d1 m q
    · exact ⟨fun w => by have := h.G1.lt m w; omega, fun w => by have := h.F2.lt m w; omega, fun w => by have := h.G2.lt m w; omega, fun w => by have := ltO h.R; omega⟩
  refine ⟨O1, O2, ls1, ls2, x1', e1, hg1, e2, ?_, s1, ?_, ?_, i1, h.I2, ?_, fun m hm => ?_, fun m hm => ?_⟩
  · exact r1.keep fun m hm => s2.keep m (r1.lt m hm) (d1 m hm).1
  · exact hf2.keep fun m hm => s2.keep m (hf2.lt m hm) fun q => (h.d2 m q).1 hm
  · exact hg2.keep fun m hm => s2.keep m (hg2.lt m hm) fun q => (h.d2 m q).2.1 hm
  · rw [s2.keep r (ltO hr) fun q => (h.d2 r q).2.2 rfl]; exact hr
  · obtain ⟨q1, q2, q3, q4⟩ := d1 m hm
    refine ⟨fun w => ?_, q2, q3, q4⟩
    rcases hls2 m w with w | w
    · exact q1 w
    · have := r1.lt m hm
      omega
  · rcases hls2 m hm with q | q
    · exact h.d2 m q
    · exact ⟨fun w => by have := h.F2.lt m w; omega, fun w => by have := h.G2.lt m w; omega, fun w => by have := ltO h.R; omega⟩
end
section
variable {Tn Pn : List (List Nat)} {x : Dat} {O : Sto} {f g : Four} {n : Nat}
/-- the words of the rows are what the rules tell of the ground -/
theorem asked_ok (hF : Fo Tn O f x) (hG : Fo Tn O g x) (i : Inv Tn Pn n x) (t : Tk Tn) (hn : n < 900) (R : List Stq) (hl : R.length < 900) (hp : ∀ q ∈ R, q.2.2.2 ≠ "" → q.1 ∈ Pn) {r : Nat} (hr : O[r]? = some (.lst (R.flatMap rulesOf))) :
    ∃ ws, m__law_words [.tup (.str "sig" :: R.map stD), f.rows] O = .ok (.lst ws) O ∧ m__law_told [.loc r, g.gr, .lst ws] O = .ok (.bl true) O := by
  have hk : ∀ q ∈ R, q.2.2.2 ≠ "" → ∃ v, getK x.lies (.inr (T q.1)) = some (.str v) := fun q hq h => i.has _ (hp q hq h)
  exact ⟨_, words_ok hF i t hn R hl hk, told_ok hr (rls_of (hG.gr_ i t hn) (look_dic hG.a) R hk)⟩
end
/-! ### the law -/
abbrev lw (ns : List Int) (L Tn : List (List Nat)) (R : List Stq) (Pn : List (List Nat)) (f1 f2 : D) (grs : D) (x8 x9 x10 : Option D) : Env' := [some (.scr ns), some (.lst (L.map S)), some (.lst (Tn.map S)), some (.tup (.str "sig" :: R.map stD)), some (.lst (Pn.map S)), some f1, some f2, some grs, x8, x9, x10, none]
theorem law_true (ns : List Int) (hl : ns.length ≤ 63) : ∃ O, m_law [.scr ns] [] = .ok (.bl true) O := by
  have nn : ∀ (i : Nat) (m : Int), 0 < m → m < 100 → ∃ n : Nat, ns.getD i 0 % m = (n : Int) ∧ (n : Int) < m := fun i m h1 h2 => ⟨(ns.getD i 0 % m).toNat, by have := Int.emod_nonneg (ns.getD i 0) (show m ≠ 0 by omega); omega, by have := Int.emod_lt_of_pos (ns.getD i 0) h1; have := Int.emod_nonneg (ns.getD i 0) (show m ≠ 0 by omega); omega⟩
  obtain ⟨n0, e0, b0⟩ := nn 0 12 (by decide) (by decide)
  obtain ⟨n1, e1, b1⟩ := nn 1 3 (by decide) (by decide)
  obtain ⟨n2, e2, b2⟩ := nn 2 6 (by decide) (by decide)
  obtain ⟨n3, e3, b3⟩ := nn 3 6 (by decide) (by decide)
  obtain ⟨L, hL, hLn, _, eL⟩ := names_ok ns hl 10 (1 + n0) (by omega) []
  obtain ⟨Tn, hT, hTn, hTc, eT⟩ := names_ok ns hl 1000 (1 + n1) (by omega) []
  have eL' : m__law_names [.scr ns, .int 10, .int (1 + (n0 : Int))] [] = .ok (.lst (L.map S)) [] := eL
  have eT' : m__law_names [.scr ns, .int 1000, .int (1 + (n1 : Int))] [] = .ok (.lst (Tn.map S)) [] := eT
  obtain ⟨R, hR, eR⟩ := route_ok ns L 50 (by omega) (by omega) []
  have eR' : m__law_route [.scr ns, .lst (L.map S), .int 50] [] = .ok (.tup (.str "sig" :: R.map stD)) [] := eR
  have hRl : R.length = L.length := by rw [← hR]; simp
  obtain ⟨Pn, hPn⟩ : ∃ Pn, (R.filter fun q => !(q.2.2.2 == ("" : Str))).map (·.1) = Pn := ⟨_, rfl⟩
  have hp : ∀ q ∈ R, q.2.2.2 ≠ "" → q.1 ∈ Pn := fun q hq h => by
    rw [← hPn]
    exact List.mem_map_of_mem (f := fun q : Stq => q.1) (List.mem_filter.mpr ⟨hq, by simpa using h⟩)
  have hPL : ∀ p ∈ Pn, p ∈ L := fun p h => by
    rw [← hPn] at h
    obtain ⟨q, hq, rfl⟩ := List.mem_map.mp h
    rw [← hR]
    exact List.mem_map_of_mem (f := fun q : Stq => q.1) (List.mem_filter.mp hq).1
  have tk : Tk Tn := ⟨hTn, by omega, by omega, fun t ht => by
    obtain ⟨n, e⟩ := hTc t ht
    rw [e]
    unfold nameL
    simp⟩
  obtain ⟨lies1, stiff1, told1, PP1, w1, p1, st1, sz1, eG1⟩ := ground_ok (ns := ns) (L := L) (Pn := Pn) (Tn := Tn) (a := 100) (rare := 2 + n2) (G := []) (by omega) hLn (by omega) (by omega) hTn (by omega)
  obtain ⟨S1, hS1⟩ : ∃ S1 : Sto, s4 [] lies1 stiff1 (locK 4 Tn) told1 (PP1.map OD.lst) = S1 := ⟨_, rfl⟩
  have eG1' : m__law_ground [.scr ns, .lst (L.map S), .lst (Pn.map S), .lst (Tn.map S), .int 100, .int (2 + (n2 : Int))] [] = .ok (.lst [.loc 0, .loc 1, .loc 2, .loc 3]) S1 := by
    rw [← hS1]
    exact eG1
  obtain ⟨lies2, stiff2, told2, PP2, w2, p2, st2, sz2, eG2⟩ := ground_ok (ns := ns) (L := L) (Pn := Pn) (Tn := Tn) (a := 200) (rare := 2 + n3) (G := S1) (by omega) hLn (by omega) (by omega) hTn (by omega)
  obtain ⟨S2, hS2⟩ : ∃ S2 : Sto, s4 S1 lies2 stiff2 (locK (S1.length + 4) Tn) told2 (PP2.map OD.lst) = S2 := ⟨_, rfl⟩
  rw [hS2] at eG2
  have eG2' : m__law_ground [.scr ns, .lst (L.map S), .lst (Pn.map S), .lst (Tn.map S), .int 200, .int (2 + (n3 : Int))] S1 = .ok (.lst [.loc S1.length, .loc (S1.length + 1), .loc (S1.length + 2), .loc (S1.length + 3)]) S2 := eG2
  have inv : ∀ lies stiff told PP, Rw L Pn L.length lies stiff told → PP.length = Tn.length → (∀ ps ∈ PP, ∀ d ∈ ps, ∃ l, stepOf l d) → (∀ ps ∈ PP, ps.length ≤ L.length) → Inv Tn Pn 12 ⟨lies, stiff, told, PP⟩ := fun lies stiff told PP w h1 h2 h3 =>
    ⟨by have := w.ll; simp only; omega, by have := w.sl; simp only; omega, by have := w.tl; simp only; omega, w.lf, w.ln, w.st, w.tr, w.td, h1, h2, fun ps h => by have := h3 ps h; omega, fun p h => by
      obtain ⟨j, hj, e⟩ := List.mem_iff_getElem.mp (hPL p h)
      have := w.has j hj hj (by rw [e]; exact h)
      rw [e] at this
      exact this⟩
  have i1 := inv lies1 stiff1 told1 PP1 w1 p1 st1 sz1
  have i2 := inv lies2 stiff2 told2 PP2 w2 p2 st2 sz2
  obtain ⟨x1, hx1⟩ : ∃ x, (⟨lies1, stiff1, told1, PP1⟩ : Dat) = x := ⟨_, rfl⟩
  obtain ⟨x2, hx2⟩ : ∃ x, (⟨lies2, stiff2, told2, PP2⟩ : Dat) = x := ⟨_, rfl⟩
  have F1a : Fo Tn S1 ⟨0, 1, 2, 3, List.range' 4 Tn.length⟩ x1 := by
    have h := fo_ground (G := []) (R := []) (Tn := Tn) (x := ⟨lies1, stiff1, told1, PP1⟩) p1
    rw [List.append_nil] at h
    rw [← hS1, ← hx1]
    exact h
  have F2a : Fo Tn S2 ⟨S1.length, S1.length + 1, S1.length + 2, S1.length + 3, List.range' (S1.length + 4) Tn.length⟩ x2 := by
    have h := fo_ground (G := S1) (R := []) (Tn := Tn) (x := ⟨lies2, stiff2, told2, PP2⟩) p2
    rw [List.append_nil] at h
    rw [← hS2, ← hx2]
    exact h
  obtain ⟨f1, hf1⟩ : ∃ f, (⟨0, 1, 2, 3, List.range' 4 Tn.length⟩ : Four) = f := ⟨_, rfl⟩
  obtain ⟨f2, hf2⟩ : ∃ f, (⟨S1.length, S1.length + 1, S1.length + 2, S1.length + 3, List.range' (S1.length + 4) Tn.length⟩ : Four) = f := ⟨_, rfl⟩
  have eG1' : m__law_ground [.scr ns, .lst (L.map S), .lst (Pn.map S), .lst (Tn.map S), .int 100, .int (2 + (n2 : Int))] [] = .ok f1.rows S1 := by rw [← hf1]; exact eG1'
  have eG2' : m__law_ground [.scr ns, .lst (L.map S), .lst (Pn.map S), .lst (Tn.map S), .int 200, .int (2 + (n3 : Int))] S1 = .ok f2.rows S2 := by rw [← hf2]; exact eG2'
  have ge2 : ∀ m ∈ f2.foot, S1.length ≤ m := fun m hm => by
    rw [← hf2] at hm
    unfold Four.foot at hm
    simp only [List.mem_cons, List.mem_range'_1] at hm
    omega
  rw [hf1] at F1a
  rw [hf2] at F2a
  have lt1 := F1a.lt
  have lt2 := F2a.lt
  have hS12 : S2 = S1 ++ (.dic lies2 :: .dic stiff2 :: .dic (locK (S1.length + 4) Tn) :: .dic told2 :: PP2.map OD.lst) := hS2.symm
  have F1b : Fo Tn S2 f1 x1 := by rw [hS12]; exact F1a.app _
  have eM1 := made_ok tk F1b
  obtain ⟨S3, hS3⟩ : ∃ S3 : Sto, S2 ++ mdS Tn S2.length x1 = S3 := ⟨_, rfl⟩
  rw [hS3] at eM1
  have mdge : ∀ n k, ∀ m ∈ (mdF n k).foot, n ≤ m := fun n k m hm => by
    unfold mdF Four.foot at hm
    simp only [List.mem_cons, List.mem_range'_1] at hm
    omega
  have G1a : Fo Tn S3 (mdF S2.length Tn.length) x1 := by
    have h := fo_made (O := S2) (R := []) (Tn := Tn) (x := x1) F1a.pl
    rw [List.append_nil, hS3] at h
    exact h
  have F2b : Fo Tn S3 f2 x2 := by rw [← hS3]; exact F2a.app _
  have eM2 := made_ok tk F2b
  obtain ⟨S4, hS4⟩ : ∃ S4 : Sto, S3 ++ mdS Tn S3.length x2 = S4 := ⟨_, rfl⟩
  rw [hS4] at eM2
  have G2a : Fo Tn S4 (mdF S3.length Tn.length) x2 := by
    have h := fo_made (O := S3) (R := []) (Tn := Tn) (x := x2) F2a.pl
    rw [List.append_nil, hS4] at h
    exact h
  have F2c : Fo Tn S4 f2 x2 := by rw [← hS4]; exact F2b.app _
  have G1b : Fo Tn S4 (mdF S2.length Tn.length) x1 := by rw [← hS4]; exact G1a.app _
  have F1c : Fo Tn S4 f1 x1 := by rw [← hS4, ← hS3]; exact (F1b.app _).app _
  have gg1 := mdge S2.length Tn.length
  have gg2 := mdge S3.length Tn.length
  have lg1 := G1a.lt
  have lg2 := G2a.lt
  have l12 : S1.length ≤ S2.length := by rw [hS12]; simp
  have l23 : S2.length ≤ S3.length := by rw [← hS3]; simp
  have l34 : S3.length ≤ S4.length := by rw [← hS4]; simp
  obtain ⟨g1, hg1⟩ : ∃ g, mdF S2.length Tn.length = g := ⟨_, rfl⟩
  obtain ⟨g2, hg2⟩ : ∃ g, mdF S3.length Tn.length = g := ⟨_, rfl⟩
  rw [hg1] at eM1 G1b gg1 lg1
  rw [hg2] at eM2 G2a gg2 lg2
  rw [hx1] at i1
  rw [hx2] at i2
  obtain ⟨RL, hRL⟩ : ∃ RL, R.flatMap rulesOf = RL := ⟨_, rfl⟩
  have eU : ∀ O, m_rules_of [.tup (.str "sig" :: R.map stD)] O = .ok (.loc O.length) (O ++ [.lst RL]) := fun O => by rw [← hRL]; exact rules_ok R (by omega) O
  have st5 : St Tn Pn (S4 ++ [.lst RL]) S4.length RL f1 g1 f2 g2 x1 x2 12 := by
    refine ⟨F1c.app _, G1b.app _, F2c.app _, G2a.app _, i1, i2, by simp, fun m hm => ?_, fun m hm => ?_⟩
    · have h1 := lt1 m hm
      exact ⟨fun w => by have := gg1 m w; omega, fun w => by have := ge2 m w; omega, fun w => by have := gg2 m w; omega, by omega⟩
    · have h1 := gg1 m hm
      have h2 := lg1 m hm
      exact ⟨fun w => by have := lt2 m w; omega, fun w => by have := gg2 m w; omega, by omega⟩
  obtain ⟨S5, hS5⟩ : ∃ S5 : Sto, S4 ++ [.lst RL] = S5 := ⟨_, rfl⟩
  rw [hS5] at st5
  obtain ⟨grs, hgrs⟩ : ∃ r, D.lst [g1.gr, g2.gr] = r := ⟨_, rfl⟩
  have v0 : ∀ O', fIx grs (.int 0) O' = .ok g1.gr O' := fun O' => by rw [← hgrs]; rfl
  have v1 : ∀ O', fIx grs (.int 1) O' = .ok g2.gr O' := fun O' => by rw [← hgrs]; rfl
  -- the fields, as they were handed in
  have fld : ∀ (O : Sto) (x8 x9 x10 : Option D), Fo Tn O f1 x1 → Fo Tn O g1 x1 → Fo Tn O f2 x2 → Fo Tn O g2 x2 → dIf (dOrT (dVal (dOp fNeG (dCall m__law_fields [] (dCons (dOp fIx (dVar 7) (dC (.int 0))) dNil)) (dVar 5))) (dVal (dOp fNeG (dCall m__law_fields [] (dCons (dOp fIx (dVar 7) (dC (.int 1))) dNil)) (dVar 6)))) (dRet (dC (.bl false))) dSkip (lw ns L Tn R Pn f1.rows f2.rows grs x8 x9 x10) O = .nx (lw ns L Tn R Pn f1.rows f2.rows grs x8 x9 x10) O := fun O x8 x9 x10 a b c d => by
    have k1 := fields_ok b
    have k2 := fields_ok d
    have s1 := same_ok b a i1 tk (by omega)
    have s2 := same_ok d c i2 tk (by omega)
    obtain ⟨R1, hR1⟩ : ∃ R1, f1.rows = R1 := ⟨_, rfl⟩
    obtain ⟨R2, hR2⟩ : ∃ R2, f2.rows = R2 := ⟨_, rfl⟩
    obtain ⟨Q1, hQ1⟩ : ∃ R1, g1.rows = R1 := ⟨_, rfl⟩
    obtain ⟨Q2, hQ2⟩ : ∃ R2, g2.rows = R2 := ⟨_, rfl⟩
    obtain ⟨P1, hP1⟩ : ∃ R1, g1.gr = R1 := ⟨_, rfl⟩
    obtain ⟨P2, hP2⟩ : ∃ R2, g2.gr = R2 := ⟨_, rfl⟩
    have v0 := v0
    have v1 := v1
    rw [hP1] at v0 k1
    rw [hP2] at v1 k2
    rw [hQ1] at k1 s1
    rw [hQ2] at k2 s2
    rw [hR1] at s1 ⊢
    rw [hR2] at s2 ⊢
    refine (if_f (O1 := O) ?_).trans rfl
    simp only [ap_orT, ap_val, ap_op, ap_call, ap_cons, ap_c, ap_nil, var_s, var_0, bind_ok, bindL_ok, lbindL_ok, lbind_ok, List.append_nil, v0, v1, k1, k2, s1, s2, bindB_ok, bool_bl, bbindB_ok, Bool.false_eq_true, if_false]
  -- one question of all rules
  have ask : ∀ (O : Sto) (f g : Four) (x : Dat) (r n : Nat), Fo Tn O f x → Fo Tn O g x → Inv Tn Pn n x → n < 900 → O[r]? = some (.lst RL) → ∃ ws, m__law_words [.tup (.str "sig" :: R.map stD), f.rows] O = .ok (.lst ws) O ∧ m__law_told [.loc r, g.gr, .lst ws] O = .ok (.bl true) O := fun O f g x r n a b c d e => asked_ok a b c tk d R (by omega) hp (by rw [hRL]; exact e)
  have round : ∀ (k : Int) (f g : Four) (x : Dat) (x10 : Option D), Fo Tn S5 f x → Fo Tn S5 g x → Inv Tn Pn 12 x → (∀ O', fIx grs (.int k) O' = .ok g.gr O') → (∀ O', fIx (.lst [f1.rows, f2.rows]) (.int k) O' = .ok f.rows O') → l2_law (lw ns L Tn R Pn f1.rows f2.rows grs (some (.loc S4.length)) (some (.int k)) x10) S5 = .nx (lw ns L Tn R Pn f1.rows f2.rows grs (some (.loc S4.length)) (some (.int k)) x10) S5 := fun k f g x x10 a b c h1 h2 => by
    obtain ⟨ws, q1, q2⟩ := ask S5 f g x S4.length 12 a b c (by omega) st5.R
    obtain ⟨R1, hR1⟩ : ∃ R1, f1.rows = R1 := ⟨_, rfl⟩
    obtain ⟨R2, hR2⟩ : ∃ R2, f2.rows = R2 := ⟨_, rfl⟩
    obtain ⟨Q1, hQ1⟩ : ∃ R1, f.rows = R1 := ⟨_, rfl⟩
    obtain ⟨P1, hP1⟩ : ∃ R1, g.gr = R1 := ⟨_, rfl⟩
    rw [hP1] at h1 q2
    rw [hR1, hR2, hQ1] at h2
    rw [hQ1] at q1
    rw [hR1, hR2]
    refine (if_f (O1 := S5) ?_).trans rfl
    have el : ∀ O, dLst false (dCons (dVar 5) (dCons (dVar 6) dNil)) (lw ns L Tn R Pn R1 R2 grs (some (.loc S4.length)) (some (.int k)) x10) O = .ok (.lst [R1, R2]) O := fun O => rfl
    simp only [ap_notT, ap_val, ap_op, ap_call, ap_cons, ap_c, ap_nil, el, var_s, var_0, bind_ok, bindL_ok, lbindL_ok, lbind_ok, List.append_nil, h1, h2, q1, q2, bindB_ok, bool_bl, bbindB_ok, Bool.not_true]
  have u0 := fun x10 => round 0 f1 g1 x1 x10 st5.F1 st5.G1 i1 v0 fun O' => rfl
  have u1 := fun x10 => round 1 f2 g2 x2 x10 st5.F2 st5.G2 i2 v1 fun O' => rfl
  have hfor : dFor (srcSeq (dLst false (dCons (dC (.int 0)) (dCons (dC (.int 1)) (dCons (dC (.int 0)) dNil))))) (gN 9) l2_law (lw ns L Tn R Pn f1.rows f2.rows grs (some (.loc S4.length)) none none) S5 = .nx (lw ns L Tn R Pn f1.rows f2.rows grs (some (.loc S4.length)) (some (.int 0)) none) S5 := by
    show forL [.int 0, .int 1, .int 0] none (gN 9) l2_law [.int 0, .int 1, .int 0] (lw ns L Tn R Pn f1.rows f2.rows grs (some (.loc S4.length)) none none) S5 = _
    rw [forL_nx (still_none.mpr trivial) rfl (u0 none), forL_nx (still_none.mpr trivial) rfl (u1 none), forL_nx (still_none.mpr trivial) rfl (u0 none)]
    exact forL_nil (still_none.mpr trivial)
  -- the rules again
  obtain ⟨S7, hS7⟩ : ∃ S7 : Sto, S5 ++ [.lst RL.reverse] = S7 := ⟨_, rfl⟩
  have st7 : St Tn Pn S7 S4.length RL f1 g1 f2 g2 x1 x2 12 := by rw [← hS7]; exact st5.app _
  obtain ⟨S8, hS8⟩ : ∃ S8 : Sto, S7 ++ [.lst RL] = S8 := ⟨_, rfl⟩
  have st8 : St Tn Pn S8 S4.length RL f1 g1 f2 g2 x1 x2 12 := by rw [← hS8]; exact st7.app _
  have hr8 : S8[S7.length]? = some (.lst RL) := by rw [← hS8]; simp
  have hr4i : dIf (dNotT (dVal (dCall m__law_told [] (dCons (dCall m_rules_of [] (dCons (dVar 3) dNil)) (dCons (dOp fIx (dVar 7) (dC (.int 1))) (dCons (dCall m__law_words [] (dCons (dVar 3) (dCons (dVar 6) dNil))) dNil)))))) (dRet (dC (.bl false))) dSkip (lw ns L Tn R Pn f1.rows f2.rows grs (some (.loc S4.length)) (some (.int 0)) (some (.loc S5.length))) S7 = .nx (lw ns L Tn R Pn f1.rows f2.rows grs (some (.loc S4.length)) (some (.int 0)) (some (.loc S5.length))) S8 := by
    obtain ⟨ws, q1, q2⟩ := ask S8 f2 g2 x2 S7.length 12 st8.F2 st8.G2 i2 (by omega) hr8
    have eU := eU S7
    rw [hS8] at eU
    obtain ⟨R1, hR1⟩ : ∃ R1, f1.rows = R1 := ⟨_, rfl⟩
    obtain ⟨R2, hR2⟩ : ∃ R2, f2.rows = R2 := ⟨_, rfl⟩
    obtain ⟨P2, hP2⟩ : ∃ R2, g2.gr = R2 := ⟨_, rfl⟩
    have v1 := v1
    rw [hP2] at v1 q2
    rw [hR2] at q1
    rw [hR1, hR2]
    refine (if_f (O1 := S8) ?_).trans rfl
    simp only [ap_notT, ap_val, ap_op, ap_call, ap_cons, ap_c, ap_nil, var_s, var_0, bind_ok, bindL_ok, lbindL_ok, lbind_ok, List.append_nil, eU, v1, q1, q2, bindB_ok, bool_bl, bbindB_ok, Bool.not_true]
  -- turned, four times
  have lp := forL_rng (items := rangeD 0 4) (g := gN 9) (body := l1_law) (lo := 0) 4
    (fun k ρ O => ∃ (ls1 ls2 : List Nat) (x1 : Dat) (x9 : Option D), St Tn Pn O S4.length RL { f1 with ls := ls1 } { g1 with ls := ls2 } f2 g2 x1 x2 (12 + k) ∧ ρ = lw ns L Tn R Pn f1.rows f2.rows grs (some (.loc S4.length)) x9 (some (.loc S5.length)))
    (ρ := lw ns L Tn R Pn f1.rows f2.rows grs (some (.loc S4.length)) (some (.int 0)) (some (.loc S5.length))) (O := S8) (fun k hk ρ O hI => by
      obtain ⟨ls1, ls2, y, x9, hst, rfl⟩ := hI
      have hz : (0 : Int) + (k : Int) = (k : Int) := Int.zero_add _
      rw [hz]
      have hm : ∀ O, m__law_mixed [.scr ns, .int (300 + (k : Int))] O = .ok (.int (mixV ns (300 + k))) O := fun O => by
        rw [c_mixed]
        exact mixed_ok ns (300 + k) O
      obtain ⟨O1, O2, ls1', ls2', y', t1, hg, t2, st'⟩ := hst.turn tk (by omega) (L := L) (by omega) (mixV ns (300 + k))
      have fl := fields_ok hg
      obtain ⟨ws, q1, q2⟩ := ask O2 _ _ _ _ _ st'.F1 st'.G1 st'.I1 (by omega) st'.R
      refine ⟨_, rfl, lw ns L Tn R Pn f1.rows f2.rows grs (some (.loc S4.length)) (some (.int (k : Int))) (some (.loc S5.length)), O2, .inl ?_, ls1', ls2', y', some (.int (k : Int)), st', rfl⟩
      have t1 : m__law_turned [f1.rows, .lst (L.map S), .lst (Tn.map S), .int ((mixV ns (300 + k) : Nat) : Int)] O = .ok .non O1 := t1
      have t2 : m__law_turned [g1.rows, .lst (L.map S), .lst (Tn.map S), .int ((mixV ns (300 + k) : Nat) : Int)] O1 = .ok .non O2 := t2
      have fl : m__law_fields [g1.gr] O1 = .ok g1.rows O1 := fl
      have q1 : m__law_words [.tup (.str "sig" :: R.map stD), f1.rows] O2 = .ok (.lst ws) O2 := q1
      have q2 : m__law_told [.loc S4.length, g1.gr, .lst ws] O2 = .ok (.bl true) O2 := q2
      obtain ⟨R1, hR1⟩ : ∃ R1, f1.rows = R1 := ⟨_, rfl⟩
      obtain ⟨R2, hR2⟩ : ∃ R2, f2.rows = R2 := ⟨_, rfl⟩
      obtain ⟨Q1, hQ1⟩ : ∃ R1, g1.rows = R1 := ⟨_, rfl⟩
      obtain ⟨P1, hP1⟩ : ∃ R1, g1.gr = R1 := ⟨_, rfl⟩
      have v0 := v0
      rw [hP1] at v0 q2 fl
      rw [hQ1] at t2 fl
      rw [hR1] at t1 q1
      rw [hR1, hR2]
      show l1_law (lw ns L Tn R Pn R1 R2 grs (some (.loc S4.length)) (some (.int (k : Int))) (some (.loc S5.length))) O = _
      unfold l1_law
      have s1 : dExpr (dCall m__law_turned [] (dCons (dVar 5) (dCons (dVar 1) (dCons (dVar 2) (dCons (dCall m__law_mixed [] (dCons (dVar 0) (dCons (dOp (fAdd false) (dC (.int 300)) (dVar 9)) dNil))) dNil))))) (lw ns L Tn R Pn R1 R2 grs (some (.loc S4.length)) (some (.int (k : Int))) (some (.loc S5.length))) O = .nx (lw ns L Tn R Pn R1 R2 grs (some (.loc S4.length)) (some (.int (k : Int))) (some (.loc S5.length))) O1 := by
        simp only [ap_expr, ap_call, ap_cons, ap_op, ap_c, ap_nil, var_s, var_0, bind_ok, bindL_ok, lbindL_ok, lbind_ok, List.append_nil, add_ii, hm, t1, bindS_ok]
      have s2 : dExpr (dCall m__law_turned [] (dCons (dCall m__law_fields [] (dCons (dOp fIx (dVar 7) (dC (.int 0))) dNil)) (dCons (dVar 1) (dCons (dVar 2) (dCons (dCall m__law_mixed [] (dCons (dVar 0) (dCons (dOp (fAdd false) (dC (.int 300)) (dVar 9)) dNil))) dNil))))) (lw ns L Tn R Pn R1 R2 grs (some (.loc S4.length)) (some (.int (k : Int))) (some (.loc S5.length))) O1 = .nx (lw ns L Tn R Pn R1 R2 grs (some (.loc S4.length)) (some (.int (k : Int))) (some (.loc S5.length))) O2 := by
        simp only [ap_expr, ap_call, ap_cons, ap_op, ap_c, ap_nil, var_s, var_0, bind_ok, bindL_ok, lbindL_ok, lbind_ok, List.append_nil, v0, fl, add_ii, hm, t2, bindS_ok]
      refine (seq_nx s1).trans ((seq_nx s2).trans ((if_f (O1 := O2) ?_).trans rfl))
      simp only [ap_notT, ap_val, ap_op, ap_call, ap_cons, ap_c, ap_nil, var_s, var_0, bind_ok, bindL_ok, lbindL_ok, lbind_ok, List.append_nil, v0, q1, q2, bindB_ok, bool_bl, bbindB_ok, Bool.not_true])
    ⟨f1.ls, g1.ls, x1, some (.int 0), st8, rfl⟩
  obtain ⟨ρ', O', ef, ls1, ls2, y, x9, hst, rfl⟩ := lp
  have rk : ∀ O, rngK [.int 4] O = .ok (rangeD 0 4) none O := fun O => rngK_1 (O := O) (j := (4 : Int)) (by omega) (by omega)
  have hr2 : r2_law (lw ns L Tn R Pn f1.rows f2.rows grs (some (.loc S4.length)) (some (.int 0)) (some (.loc S5.length))) S8 = .rt (.bl true) O' := by
    unfold r2_law
    have hf : dFor (srcRng (dCons (dC (.int 4)) dNil)) (gN 9) l1_law (lw ns L Tn R Pn f1.rows f2.rows grs (some (.loc S4.length)) (some (.int 0)) (some (.loc S5.length))) S8 = .nx (lw ns L Tn R Pn f1.rows f2.rows grs (some (.loc S4.length)) x9 (some (.loc S5.length))) O' := by
      simp only [ap_for, ap_srcRng, ap_cons, ap_c, ap_nil, bindL_ok, lbindL_ok, lbind_ok, bind_ok, lbindI_ok, rk, ibindS_ok]
      exact ef
    rw [seq_nx hf]
    unfold r1_law
    refine ret_ok ?_
    obtain ⟨ws, q1, q2⟩ := ask O' f2 g2 x2 _ _ hst.F2 hst.G2 hst.I2 (by omega) hst.R
    obtain ⟨R1, hR1⟩ : ∃ R1, f1.rows = R1 := ⟨_, rfl⟩
    obtain ⟨R2, hR2⟩ : ∃ R2, f2.rows = R2 := ⟨_, rfl⟩
    obtain ⟨P2, hP2⟩ : ∃ R2, g2.gr = R2 := ⟨_, rfl⟩
    have v1 := v1
    rw [hP2] at v1 q2
    rw [hR2] at q1
    rw [hR1, hR2]
    simp only [ap_op, ap_call, ap_cons, ap_c, ap_nil, var_s, var_0, bind_ok, bindL_ok, lbindL_ok, lbind_ok, List.append_nil, v1, q1, q2]
  have hr5 : r5_law (lw ns L Tn R Pn f1.rows f2.rows grs none none none) S4 = .rt (.bl true) O' := by
    unfold r5_law
    have t8 : dSet 8 (dCall m_rules_of [] (dCons (dVar 3) dNil)) (lw ns L Tn R Pn f1.rows f2.rows grs none none none) S4 = .nx (lw ns L Tn R Pn f1.rows f2.rows grs (some (.loc S4.length)) none none) S5 := by
      have h := eU S4
      rw [hS5] at h
      exact (set_ok (d := .loc S4.length) (O1 := S5) (by simp only [ap_call, ap_cons, ap_nil, var_s, var_0, bind_ok, bindL_ok, lbindL_ok, lbind_ok, List.append_nil, h])).trans rfl
    refine (seq_nx t8).trans ((seq_nx hfor).trans ?_)
    unfold r4_law
    have t10 : dSet 10 (dCall m_rules_of [] (dCons (dVar 3) dNil)) (lw ns L Tn R Pn f1.rows f2.rows grs (some (.loc S4.length)) (some (.int 0)) none) S5 = .nx (lw ns L Tn R Pn f1.rows f2.rows grs (some (.loc S4.length)) (some (.int 0)) (some (.loc S5.length))) (S5 ++ [.lst RL]) :=
      (set_ok (d := .loc S5.length) (O1 := S5 ++ [.lst RL]) (by simp only [ap_call, ap_cons, ap_nil, var_s, var_0, bind_ok, bindL_ok, lbindL_ok, lbind_ok, List.append_nil, eU])).trans rfl
    have hil : isL (S5 ++ [OD.lst RL]) (.loc S5.length) = true := isL_last
    have hrev : fReverse (.loc S5.length) [] (S5 ++ [OD.lst RL]) = .ok .non S7 := by
      have ho : ownL (S5 ++ [OD.lst RL]) (.loc S5.length) = some (S5.length, RL) := by simp [ownL]
      unfold fReverse
      rw [ho, ← hS7]
      simp
    have x10 : dExpr (dBM0 isL fReverse (dVar 10)) (lw ns L Tn R Pn f1.rows f2.rows grs (some (.loc S4.length)) (some (.int 0)) (some (.loc S5.length))) (S5 ++ [.lst RL]) = .nx (lw ns L Tn R Pn f1.rows f2.rows grs (some (.loc S4.length)) (some (.int 0)) (some (.loc S5.length))) S7 := by
      simp only [ap_expr, ap_bm0, var_s, var_0, bind_ok, hil, if_true, hrev, bindS_ok]
    refine (seq_nx t10).trans ((seq_nx x10).trans ((seq_nx hr4i).trans ?_))
    unfold r3_law
    exact (seq_nx (fld S8 _ _ _ st8.F1 st8.G1 st8.F2 st8.G2)).trans hr2
  have c0 := cell_ok ns 0 []
  have c1 := cell_ok ns 1 []
  have c2 := cell_ok ns 2 []
  have c3 := cell_ok ns 3 S1
  rw [show ((0 : Nat) : Int) = 0 from rfl] at c0
  rw [show ((1 : Nat) : Int) = 1 from rfl] at c1
  rw [show ((2 : Nat) : Int) = 2 from rfl] at c2
  rw [show ((3 : Nat) : Int) = 3 from rfl] at c3
  have s0 : fMod (.int (ns.getD 0 0)) (.int 12) [] = .ok (.int (n0 : Int)) [] := by rw [mod_ii (by decide), e0]
  have s1 : fMod (.int (ns.getD 1 0)) (.int 3) [] = .ok (.int (n1 : Int)) [] := by rw [mod_ii (by decide), e1]
  have s2 : fMod (.int (ns.getD 2 0)) (.int 6) [] = .ok (.int (n2 : Int)) [] := by rw [mod_ii (by decide), e2]
  have s3 : fMod (.int (ns.getD 3 0)) (.int 6) S1 = .ok (.int (n3 : Int)) S1 := by rw [mod_ii (by decide), e3]
  have hcomp : dLc false [11] (srcSeq (dSl false (dVar 3) (dPart (dC (.int 1))) dNoP)) (gN 11) t1_law (dOp fIx (dVar 11) (dC (.int 0))) [some (.scr ns), some (.lst (L.map S)), some (.lst (Tn.map S)), some (.tup (.str "sig" :: R.map stD)), none, none, none, none, none, none, none, none] [] = .ok (.lst (Pn.map S)) [] := by
    have hsl : dSl false (dVar 3) (dPart (dC (.int 1))) dNoP [some (.scr ns), some (.lst (L.map S)), some (.lst (Tn.map S)), some (.tup (.str "sig" :: R.map stD)), none, none, none, none, none, none, none, none] [] = .ok (.tup (R.map stD)) [] := by
      show Res.ok (.tup (cutD (.str "sig" :: R.map stD) (some ((1 : Nat) : Int)) none)) [] = _
      rw [cutD_from]
      rfl
    have h := lc_T (own := false) (vs := [11]) (src := srcSeq (dSl false (dVar 3) (dPart (dC (.int 1))) dNoP)) (g := gN 11) (tst := t1_law) (elt := dOp fIx (dVar 11) (dC (.int 0))) (ρ := [some (.scr ns), some (.lst (L.map S)), some (.lst (Tn.map S)), some (.tup (.str "sig" :: R.map stD)), none, none, none, none, none, none, none, none]) (O := []) (O1 := []) (lk := none) stD (fun q => !(q.2.2.2 == ("" : Str))) (fun q => S q.1) R (by simp only [ap_srcSeq, hsl]; rfl) (still_none.mpr trivial) (fun q hq => by
      refine ⟨[some (.scr ns), some (.lst (L.map S)), some (.lst (Tn.map S)), some (.tup (.str "sig" :: R.map stD)), none, none, none, none, none, none, none, some (stD q)], rfl, ?_, fun _ => ?_⟩
      · unfold t1_law
        simp only [ap_val, ap_op, var_s, var_0, bind_ok, ap_c, st_3, ne_e, bindB_ok, bool_bl]
      · simp only [ap_op, var_s, var_0, bind_ok, ap_c, st_0]) (by omega)
    rw [h, mkL_f, ← hPn, List.map_map]
    rfl
  refine ⟨[], ?_⟩
  have hb : b_law (startD N_law.length [.scr ns]) [] = .rt (.bl true) O' := by
    show b_law [some (.scr ns), none, none, none, none, none, none, none, none, none, none, none] [] = _
    unfold b_law
    have t1 : dSet 1 (dCall m__law_names [] (dCons (dVar 0) (dCons (dC (.int 10)) (dCons (dOp (fAdd false) (dC (.int 1)) (dOp fMod (dCall m__law_cell [] (dCons (dVar 0) (dCons (dC (.int 0)) dNil))) (dC (.int 12)))) dNil)))) [some (.scr ns), none, none, none, none, none, none, none, none, none, none, none] [] = .nx [some (.scr ns), some (.lst (L.map S)), none, none, none, none, none, none, none, none, none, none] [] :=
      (set_ok (d := .lst (L.map S)) (O1 := []) (by simp only [ap_op, ap_call, ap_cons, ap_c, ap_nil, var_s, var_0, bind_ok, bindL_ok, lbindL_ok, lbind_ok, List.append_nil, c_cell, c0, s0, add_ii, eL'])).trans rfl
    have t2 : dSet 2 (dCall m__law_names [] (dCons (dVar 0) (dCons (dC (.int 1000)) (dCons (dOp (fAdd false) (dC (.int 1)) (dOp fMod (dCall m__law_cell [] (dCons (dVar 0) (dCons (dC (.int 1)) dNil))) (dC (.int 3)))) dNil)))) [some (.scr ns), some (.lst (L.map S)), none, none, none, none, none, none, none, none, none, none] [] = .nx [some (.scr ns), some (.lst (L.map S)), some (.lst (Tn.map S)), none, none, none, none, none, none, none, none, none] [] :=
      (set_ok (d := .lst (Tn.map S)) (O1 := []) (by simp only [ap_op, ap_call, ap_cons, ap_c, ap_nil, var_s, var_0, bind_ok, bindL_ok, lbindL_ok, lbind_ok, List.append_nil, c_cell, c1, s1, add_ii, eT'])).trans rfl
    have t3 : dSet 3 (dCall m__law_route [] (dCons (dVar 0) (dCons (dVar 1) (dCons (dC (.int 50)) dNil)))) [some (.scr ns), some (.lst (L.map S)), some (.lst (Tn.map S)), none, none, none, none, none, none, none, none, none] [] = .nx [some (.scr ns), some (.lst (L.map S)), some (.lst (Tn.map S)), some (.tup (.str "sig" :: R.map stD)), none, none, none, none, none, none, none, none] [] :=
      (set_ok (d := .tup (.str "sig" :: R.map stD)) (O1 := []) (by simp only [ap_call, ap_cons, ap_c, ap_nil, var_s, var_0, bind_ok, bindL_ok, lbindL_ok, lbind_ok, List.append_nil, eR'])).trans rfl
    have t5 : dSet 5 (dCall m__law_ground [] (dCons (dVar 0) (dCons (dVar 1) (dCons (dVar 4) (dCons (dVar 2) (dCons (dC (.int 100)) (dCons (dOp (fAdd false) (dC (.int 2)) (dOp fMod (dCall m__law_cell [] (dCons (dVar 0) (dCons (dC (.int 2)) dNil))) (dC (.int 6)))) dNil))))))) [some (.scr ns), some (.lst (L.map S)), some (.lst (Tn.map S)), some (.tup (.str "sig" :: R.map stD)), some (.lst (Pn.map S)), none, none, none, none, none, none, none] [] = .nx [some (.scr ns), some (.lst (L.map S)), some (.lst (Tn.map S)), some (.tup (.str "sig" :: R.map stD)), some (.lst (Pn.map S)), some f1.rows, none, none, none, none, none, none] S1 :=
      (set_ok (d := f1.rows) (O1 := S1) (by simp only [ap_op, ap_call, ap_cons, ap_c, ap_nil, var_s, var_0, bind_ok, bindL_ok, lbindL_ok, lbind_ok, List.append_nil, c_cell, c2, s2, add_ii, eG1'])).trans rfl
    have t6 : dSet 6 (dCall m__law_ground [] (dCons (dVar 0) (dCons (dVar 1) (dCons (dVar 4) (dCons (dVar 2) (dCons (dC (.int 200)) (dCons (dOp (fAdd false) (dC (.int 2)) (dOp fMod (dCall m__law_cell [] (dCons (dVar 0) (dCons (dC (.int 3)) dNil))) (dC (.int 6)))) dNil))))))) [some (.scr ns), some (.lst (L.map S)), some (.lst (Tn.map S)), some (.tup (.str "sig" :: R.map stD)), some (.lst (Pn.map S)), some f1.rows, none, none, none, none, none, none] S1 = .nx [some (.scr ns), some (.lst (L.map S)), some (.lst (Tn.map S)), some (.tup (.str "sig" :: R.map stD)), some (.lst (Pn.map S)), some f1.rows, some f2.rows, none, none, none, none, none] S2 :=
      (set_ok (d := f2.rows) (O1 := S2) (by simp only [ap_op, ap_call, ap_cons, ap_c, ap_nil, var_s, var_0, bind_ok, bindL_ok, lbindL_ok, lbind_ok, List.append_nil, c_cell, c3, s3, add_ii, eG2'])).trans rfl
    have t7 : dSet 7 (dLst false (dCons (dCall m__law_made [] (dCons (dVar 5) dNil)) (dCons (dCall m__law_made [] (dCons (dVar 6) dNil)) dNil))) [some (.scr ns), some (.lst (L.map S)), some (.lst (Tn.map S)), some (.tup (.str "sig" :: R.map stD)), some (.lst (Pn.map S)), some f1.rows, some f2.rows, none, none, none, none, none] S2 = .nx (lw ns L Tn R Pn f1.rows f2.rows grs none none none) S4 := by
      refine (set_ok (d := grs) (O1 := S4) ?_).trans rfl
      simp only [ap_lst, ap_call, ap_cons, ap_nil, var_s, var_0, bind_ok, bindL_ok, lbindL_ok, lbind_ok, List.append_nil, eM1, eM2, List.length_cons, List.length_nil]
      rw [if_pos (by decide), mkL_f, hgrs]
    refine (seq_nx t1).trans ((seq_nx t2).trans ((seq_nx t3).trans ((seq_nx ((set_ok hcomp).trans rfl)).trans ((seq_nx t5).trans ((seq_nx t6).trans ((seq_nx t7).trans ((seq_nx (fld S4 _ _ _ F1c G1b F2c G2a)).trans hr5)))))))
  show trimR [] (b_law (startD N_law.length [.scr ns]) []).res = _
  rw [hb]
  exact trim_app (O := []) (.bl _)

end Lw

open PySem PySem.W PySem.Calls PyProof.Rows
set_option Elab.async false
set_option linter.all false
set_option maxRecDepth 100000
set_option maxHeartbeats 4000000
theorem PySem.Challenge.cw_yardkeep_k41_rules_of_a_route_holds : PySem.Challenge.rw_yardkeep_k41_rules_of_a_route.Holds := by
  w_on; o_law
  refine HandSHeadRun.head_any (r := Lw.R) (q := view Lw.R.prog [26]) (H := Lw.hk) (ob := Lw.ob) (M := 31200) (loose := Lw.loose) (d := HandSHeadRun.topDef Lw.R.prog 26) (kwd := []) Lw.ob_eq ?h1 ?h2 Lw.run ?h3 ?h4 ?h5 (by rfl) ?h6 ?h7 ?h8 ?hw ?hc
  case hw => w_witness2
  case h1 => kernel_rfl
  case h2 => intro s; kernel_rfl
  case h3 => kernel_rfl
  case h4 => kernel_rfl
  case h5 => kernel_rfl
  case h6 => first | assumption | decide +kernel
  case h7 => decide +kernel
  case h8 => exact ⟨rfl, rfl, rfl, rfl, rfl, by decide +kernel⟩
  case hc =>
    refine Yk.endOfT (B := Lw.BL) (tf := Lw.tfL) (nmF := Lw.nmF) (fun _ => rfl) rfl rfl (l := PySem.Challenge.rw_yardkeep_k41_rules_of_a_route) (n := 63) (k := 6) (x := "_law_script") rfl (by decide) (by kernel_rfl) ⟨rfl, by decide, by decide⟩ ?F
    intro w mg fa h Y G hm0
    obtain ⟨K, KX, c⟩ := Y
    have hm : mg ("law" : PySem.Str) = some (.ref fa) := by
      have e : (HandSHeadRun.topDef Lw.R.prog 26).name = ("law" : PySem.Str) := by kernel_rfl
      rw [← e]; exact hm0
    obtain ⟨fd, hb, hF⟩ := Lw.facts (P := (PySem.Challenge.rw_yardkeep_k41_rules_of_a_route).prog) (w := w) KX G hm c.t.d c.more
    exact ⟨K, fd, Lw.m_law, KX, hb, fun ns hl => Lw.law_true ns hl, fun p hp => ⟨c.empty p hp, c.out p hp, c.hd p hp⟩, hF⟩
