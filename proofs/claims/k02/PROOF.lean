import PyProof.Rows.All
import Wide.All
import OpenK.AllK
import Wide.FinOn
import HandS.ForMost
import HandS.Evl
import HandS.Wide
import HandS.TupAny
import HandS.EndBits
import HandS.Style
import HandS.TryOnly
import HandS.WordsExc
import HandS.WrittenGet
import HandS.IsInst
import HandS.TupMul
import PyProof.NeKinds
import HandS.SortKw
import KE.DataMinMax
import HandS.Zip
import KE.GoesEnumKw
import PyProof.P3In
import HandS.Flow
import HandS.Small
import HandS.WideBits
import HandS.Zip0
import KE.GoesNew
import HandS.StrMore
import PyProof.Rows.SortShellAny
import HandS.SetFor
import HandS.Strs
import KE.KDictCopyH
import PyProof.TupleOfStr
import PyProof.Rows.IntBool
import PyProof.Rows.EqBoolInt
import PyProof.SeqRoads2
import PyProof.SumWalkG
import HandS.CallLocal
import HandS.Conv
import HandS.List
import HandS.Set
import HandS.ExcInit
import HandS.ExcField
import HandS.ExcOwn
import KE.KExcIs
import HandS.ExcIs
import HandS.Iter
import HandS.Defaults
import HandS.More
import HandS.SortRule
import KE.SortData
import KE.LtSeq
import HandS.Text
import PyProof.Rows.ReprOcc
import KE.DataMinKey
import KE.KDictWalk
import HandS.MakeKw
import PyProof.ListRange
import OpenK.KOps
import KE.KIntText
import HandS.Replace
import HandS.Flt
import KE.KCallOwn
import KE.KFmtOwn
import HandS.OwnEq
import HandS.FStr
import PyProof.InstNe
import HandS.IntHex
import KE.KEqNest
import PyProof.EqKinds
import PyProof.FactsAll.dict
import KE.KExcInit
import HandS.TryMany
import HandS.HotCalls
import HandS.ClsMeth
import HandS.CallSlots
import HandS.RaiseFrom
import HandS.ExcInitHot
import HandS.SuiteRaise
import HandS.ExcBuiltin
import PyProof.ReprNest
import PyProof.ReprRoads
import PySem.Challenge.RW_littlemasters_k02_moneys_reckoned
set_option Elab.async false
set_option linter.all false
set_option pp.maxSteps 600
set_option pp.deepTerms false
set_option maxRecDepth 100000
set_option maxHeartbeats 8000000
namespace PySem.W
open PySem PySem.W PyProof.Rows
set_option maxRecDepth 100000 in
set_option maxHeartbeats 0 in
open_top headPf for PySem.Challenge.rw_littlemasters_k02_moneys_reckoned
end PySem.W
namespace DL
open PySem PySem.Spec PyProof.Rows L2

inductive D where
  | non | bl (b : Bool) | int (i : Int) | str (x : Str) | ty (n : String) | ref (a : Addr)
  | scr (ns : List Int)
  | tup (ds : List D) | lst (ds : List D) | dct (kvs : List (Key × D)) | ins (C : Addr) (fs : List (Str × D)) | exn (a dd : Addr) (fs : List (Str × D)) | exv (C : Addr) (fs : List (Str × D))
def exk (a C : Addr) (d : Option Addr) : HO := .ext fun h => ∃ (oe : Obj) (vs : Array Value), h.get? a = some oe ∧ oe.cls = .ref C ∧ oe.dict = d ∧ oe.data = .fields vs

def TupAt (K : PySem.W.Frag) (H : Hp) (R : Addr → Prop) (a : Addr) (xs : List V) : Prop := H a = some (.tup xs) ∧ ¬ R a
def LstAt (K : PySem.W.Frag) (H : Hp) (R : Addr → Prop) (a : Addr) (xs : List V) : Prop := (Rd H a (.lst xs) ∧ ¬ R a) ∨ SqL K (fun _ => none) a xs

mutual
def Rep (K : PySem.W.Frag) (H : Hp) (R : Addr → Prop) : D → V → Prop
  | .non, v => v = .non
  | .bl b, v => v = .bl b
  | .int i, v => v = .int i
  | .str x, v => v = .str x
  | .ty n, v => v = .ty n
  | .ref a, v => v = .ref a
  | .scr ns, v => ∃ a, v = .ref a ∧ LstAt K H R a (ns.map V.int)
  | .tup ds, v => ∃ a xs, v = .ref a ∧ TupAt K H R a xs ∧ RepL K H R ds xs
  | .lst ds, v => ∃ a xs, v = .ref a ∧ (H a = some (.lst xs) ∧ ¬ R a) ∧ RepL K H R ds xs
  | .dct kvs, v => ∃ a ws, v = .ref a ∧ (H a = some (.dK ws) ∧ ¬ R a) ∧ RepK K H R kvs ws
  | .ins C fs, v => ∃ a dx ws, v = .ref a ∧ (H a = some (.ins C dx ws) ∧ ¬ R a) ∧ RepF K H R fs ws
  | .exn a dd fs, v => v = .ref a ∧ ∃ ws, (H dd = some (.xd ws) ∧ ¬ R dd) ∧ RepF K H R fs ws
  | .exv C fs, v => ∃ a dd ws, v = .ref a ∧ (H a = some (exk a C (some dd)) ∧ ¬ R a) ∧ (H dd = some (.xd ws) ∧ ¬ R dd) ∧ RepF K H R fs ws
def RepL (K : PySem.W.Frag) (H : Hp) (R : Addr → Prop) : List D → List V → Prop
  | [], xs => xs = []
  | d :: ds, xs => ∃ y ys, xs = y :: ys ∧ Rep K H R d y ∧ RepL K H R ds ys
def RepK (K : PySem.W.Frag) (H : Hp) (R : Addr → Prop) : List (Key × D) → List (Key × V) → Prop
  | [], xs => xs = []
  | (k, d) :: ds, xs => ∃ y ys, xs = (k, y) :: ys ∧ Rep K H R d y ∧ RepK K H R ds ys
def RepF (K : PySem.W.Frag) (H : Hp) (R : Addr → Prop) : List (Str × D) → List (Str × V) → Prop
  | [], xs => xs = []
  | (k, d) :: ds, xs => ∃ y ys, xs = (k, y) :: ys ∧ Rep K H R d y ∧ RepF K H R ds ys
end

structure Grow (H H' : Hp) (R R' : Addr → Prop) : Prop where
  keep : ∀ a o, H a = some o → ¬ R a → H' a = some o
  reg : ∀ a o, H a = some o → R' a → R a
theorem Grow.refl (H : Hp) (R : Addr → Prop) : Grow H H R R := ⟨fun _ _ h _ => h, fun _ _ _ h => h⟩
theorem Grow.trans {H H1 H2 : Hp} {R R1 R2 : Addr → Prop} (a : Grow H H1 R R1) (b : Grow H1 H2 R1 R2) : Grow H H2 R R2 := by
  have k : ∀ c o, H c = some o → ¬ R c → H1 c = some o ∧ ¬ R1 c := fun c o h n => ⟨a.keep c o h n, fun r => n (a.reg c o h r)⟩
  refine ⟨fun c o h n => b.keep c o (k c o h n).1 (k c o h n).2, fun c o h r => ?_⟩
  by_cases n : R c
  · exact n
  · obtain ⟨h1, n1⟩ := k c o h n
    exact absurd (b.reg c o h1 r) n1
theorem TupAt.grow {K : PySem.W.Frag} {H H' : Hp} {R R' : Addr → Prop} {a : Addr} {xs : List V} (g : Grow H H' R R') (h : TupAt K H R a xs) : TupAt K H' R' a xs :=
  ⟨g.keep _ _ h.1 h.2, fun r => h.2 (g.reg _ _ h.1 r)⟩
theorem LstAt.grow {K : PySem.W.Frag} {H H' : Hp} {R R' : Addr → Prop} {a : Addr} {xs : List V} (g : Grow H H' R R') (h : LstAt K H R a xs) : LstAt K H' R' a xs := by
  rcases h with ⟨h | ⟨o, h⟩, n⟩ | h
  · exact .inl ⟨.inl (g.keep _ _ h n), fun r => n (g.reg _ _ h r)⟩
  · exact .inl ⟨.inr ⟨o, g.keep _ _ h n⟩, fun r => n (g.reg _ _ h r)⟩
  · exact .inr h
theorem none_rd {a : Addr} {u : HO} (h : Rd (fun _ => none) a u) : False := by
  rcases h with h | ⟨o, h⟩ <;> cases h
theorem TupAt.sq {K : PySem.W.Frag} {H : Hp} {R : Addr → Prop} {a : Addr} {xs : List V} (h : TupAt K H R a xs) : SqT K H a xs := .inl (.inl h.1)
theorem LstAt.sq {K : PySem.W.Frag} {H : Hp} {R : Addr → Prop} {a : Addr} {xs : List V} (h : LstAt K H R a xs) : SqL K H a xs := by
  rcases h with ⟨h, _⟩ | h | h
  · exact .inl h
  · exact (none_rd h).elim
  · exact .inr h

mutual
theorem Rep.grow {K : PySem.W.Frag} {H H' : Hp} {R R' : Addr → Prop} (g : Grow H H' R R') : ∀ {d : D} {v : V}, Rep K H R d v → Rep K H' R' d v
  | .non, _, h => h
  | .bl _, _, h => h
  | .int _, _, h => h
  | .str _, _, h => h
  | .ty _, _, h => h
  | .ref _, _, h => h
  | .scr _, _, ⟨a, e, h⟩ => ⟨a, e, h.grow g⟩
  | .tup _, _, ⟨a, xs, e, h, r⟩ => ⟨a, xs, e, h.grow g, RepL.grow g r⟩
  | .lst _, _, ⟨a, xs, e, ⟨h, n⟩, r⟩ => ⟨a, xs, e, ⟨g.keep _ _ h n, fun z => n (g.reg _ _ h z)⟩, RepL.grow g r⟩
  | .dct _, _, ⟨a, xs, e, ⟨h, n⟩, r⟩ => ⟨a, xs, e, ⟨g.keep _ _ h n, fun z => n (g.reg _ _ h z)⟩, RepK.grow g r⟩
  | .ins _ _, _, ⟨a, dx, xs, e, ⟨h, n⟩, r⟩ => ⟨a, dx, xs, e, ⟨g.keep _ _ h n, fun z => n (g.reg _ _ h z)⟩, RepF.grow g r⟩
  | .exn _ _ _, _, ⟨e, xs, ⟨h, n⟩, r⟩ => ⟨e, xs, ⟨g.keep _ _ h n, fun z => n (g.reg _ _ h z)⟩, RepF.grow g r⟩
  | .exv _ _, _, ⟨a, dd, xs, e, ⟨h, n⟩, ⟨h2, n2⟩, r⟩ => ⟨a, dd, xs, e, ⟨g.keep _ _ h n, fun z => n (g.reg _ _ h z)⟩, ⟨g.keep _ _ h2 n2, fun z => n2 (g.reg _ _ h2 z)⟩, RepF.grow g r⟩
theorem RepL.grow {K : PySem.W.Frag} {H H' : Hp} {R R' : Addr → Prop} (g : Grow H H' R R') : ∀ {ds : List D} {vs : List V}, RepL K H R ds vs → RepL K H' R' ds vs
  | [], _, h => h
  | _ :: _, _, ⟨y, ys, e, h, r⟩ => ⟨y, ys, e, Rep.grow g h, RepL.grow g r⟩
theorem RepK.grow {K : PySem.W.Frag} {H H' : Hp} {R R' : Addr → Prop} (g : Grow H H' R R') : ∀ {ds : List (Key × D)} {vs : List (Key × V)}, RepK K H R ds vs → RepK K H' R' ds vs
  | [], _, h => h
  | (_, _) :: _, _, ⟨y, ys, e, h, r⟩ => ⟨y, ys, e, Rep.grow g h, RepK.grow g r⟩
theorem RepF.grow {K : PySem.W.Frag} {H H' : Hp} {R R' : Addr → Prop} (g : Grow H H' R R') : ∀ {ds : List (Str × D)} {vs : List (Str × V)}, RepF K H R ds vs → RepF K H' R' ds vs
  | [], _, h => h
  | (_, _) :: _, _, ⟨y, ys, e, h, r⟩ => ⟨y, ys, e, Rep.grow g h, RepF.grow g r⟩
end

theorem RepL.length {K : PySem.W.Frag} {H : Hp} {R : Addr → Prop} : ∀ {ds : List D} {vs : List V}, RepL K H R ds vs → vs.length = ds.length
  | [], _, h => by
    cases h
    rfl
  | _ :: ds, _, ⟨y, ys, e, _, r⟩ => by
    subst e
    show ys.length + 1 = ds.length + 1
    rw [RepL.length r]
theorem RepL.get {K : PySem.W.Frag} {H : Hp} {R : Addr → Prop} : ∀ {ds : List D} {vs : List V} {i : Nat} {d : D}, RepL K H R ds vs → ds[i]? = some d → ∃ v, vs[i]? = some v ∧ Rep K H R d v
  | [], _, _, _, _, h => by simp at h
  | _ :: _, _, 0, _, ⟨y, ys, e, h, r⟩, q => by
    subst e
    simp at q
    subst q
    exact ⟨y, rfl, h⟩
  | _ :: _, _, i + 1, _, ⟨y, ys, e, h, r⟩, q => by
    subst e
    exact RepL.get (i := i) r (by simpa using q)
theorem RepL.app {K : PySem.W.Frag} {H : Hp} {R : Addr → Prop} : ∀ {ds es : List D} {vs ws : List V}, RepL K H R ds vs → RepL K H R es ws → RepL K H R (ds ++ es) (vs ++ ws)
  | [], _, _, _, h, q => by
    cases h
    exact q
  | _ :: _, _, _, _, ⟨y, ys, e, h, r⟩, q => by
    subst e
    exact ⟨y, _, rfl, h, RepL.app r q⟩
theorem RepL.one {K : PySem.W.Frag} {H : Hp} {R : Addr → Prop} {d : D} {v : V} (h : Rep K H R d v) : RepL K H R [d] [v] := ⟨v, [], rfl, h, rfl⟩
theorem RepL.take {K : PySem.W.Frag} {H : Hp} {R : Addr → Prop} : ∀ {ds : List D} {vs : List V} (n : Nat), RepL K H R ds vs → RepL K H R (ds.take n) (vs.take n)
  | _, _, 0, _ => rfl
  | [], _, _ + 1, h => by
    cases h
    rfl
  | _ :: _, _, n + 1, ⟨y, ys, e, h, r⟩ => by
    subst e
    exact ⟨y, _, rfl, h, RepL.take n r⟩
theorem RepL.ints {K : PySem.W.Frag} {H : Hp} {R : Addr → Prop} : ∀ {ns : List Int}, RepL K H R (ns.map D.int) (ns.map V.int)
  | [] => rfl
  | n :: ns => ⟨.int n, ns.map V.int, rfl, rfl, RepL.ints⟩
theorem RepL.intsV {K : PySem.W.Frag} {H : Hp} {R : Addr → Prop} : ∀ {ns : List Int} {vs : List V}, RepL K H R (ns.map D.int) vs → vs = ns.map V.int
  | [], _, h => h
  | n :: ns, _, ⟨y, ys, e, h, r⟩ => by
    subst e
    cases h
    rw [RepL.intsV r]
    rfl
theorem RepL.strsV {K : PySem.W.Frag} {H : Hp} {R : Addr → Prop} : ∀ {ns : List Str} {vs : List V}, RepL K H R (ns.map D.str) vs → vs = ns.map V.str
  | [], _, h => h
  | n :: ns, _, ⟨y, ys, e, h, r⟩ => by
    subst e
    cases h
    rw [RepL.strsV r]
    rfl
/-! ### what a slot may hold: data, a handle of the caller's store, of the own store -/
inductive S where
  | d (x : D) | g (k : Nat) | l (k : Nat)
inductive M where
  | pl (ds : List D) | hl (xs : List S) | dc (kvs : List (Key × D)) | ob (C : Addr) (fs : List (Str × D)) | dh (kvs : List (Key × S)) | dt (kvs : List (List Key × Int)) | og (C : Addr) (fs : List (Str × S)) | dq (kvs : List (List Key × S)) | dz (od : Obj) (kvs : List (List Key × Int))
def M.dat : M → Option D
  | .pl ds => some (.lst ds)
  | .hl _ => none
  | .dc kvs => some (.dct kvs)
  | .ob C fs => some (.ins C fs)
  | .dh _ => none
  | .dt _ => none
  | .og _ _ => none
  | .dq _ => none
  | .dz _ _ => none
structure W where
  R : Addr → Prop
  gs : List Addr
  H0 : Hp
def Rg (w : W) (ls : List Addr) : Addr → Prop := fun a => w.R a ∨ a ∈ ls

section
variable {K : PySem.W.Frag}
def RS (K : PySem.W.Frag) (H : Hp) (R : Addr → Prop) (gs ls : List Addr) : S → V → Prop
  | .d x, v => Rep K H R x v
  | .g k, v => ∃ a, gs[k]? = some a ∧ v = .ref a
  | .l k, v => ∃ a, ls[k]? = some a ∧ v = .ref a
def RSK (K : PySem.W.Frag) (H : Hp) (R : Addr → Prop) (gs ls : List Addr) : Key × S → Key × V → Prop := fun p q => p.1 = q.1 ∧ RS K H R gs ls p.2 q.2
def RSN {α : Type} (K : PySem.W.Frag) (H : Hp) (R : Addr → Prop) (gs ls : List Addr) : α × S → α × V → Prop := fun p q => p.1 = q.1 ∧ RS K H R gs ls p.2 q.2
def MOk (K : PySem.W.Frag) (H : Hp) (R : Addr → Prop) (gs ls : List Addr) (a : Addr) : M → Prop
  | .pl ds => ∃ vs, H a = some (.lst vs) ∧ RepL K H R ds vs
  | .hl xs => ∃ vs, H a = some (.lst vs) ∧ Paired (RS K H R gs ls) xs vs
  | .dc kvs => ∃ vs, H a = some (.dK vs) ∧ RepK K H R kvs vs
  | .ob C fs => ∃ dx vs, H a = some (.ins C dx vs) ∧ RepF K H R fs vs
  | .dh kvs => ∃ vs, H a = some (.dK vs) ∧ Paired (RSK K H R gs ls) kvs vs
  | .dt kvs => H a = some (.dT (kvs.map fun p => (p.1, V.int p.2)))
  | .dz od kvs => H a = some (.frz od (.dT (kvs.map fun p => (p.1, V.int p.2))))
  | .og C fs => ∃ dx vs, H a = some (.ins C dx vs) ∧ Paired (RSN K H R gs ls) fs vs
  | .dq kvs => ∃ vs, H a = some (.dT vs) ∧ Paired (RSN K H R gs ls) kvs vs

def NoT (o : HO) : Prop := ∀ xs, o ≠ .tup xs
abbrev Sl := List (Option S)
def SlOk (K : PySem.W.Frag) (H : Hp) (R : Addr → Prop) (gs ls : List Addr) (σ : L2.St) (Δ : Sl) : Prop :=
  σ.length = Δ.length ∧ ∀ (i : Nat) (s : S), Δ[i]? = some (some s) → ∃ v, σ[i]? = some (some v) ∧ RS K H R gs ls s v
structure Ctx (K : PySem.W.Frag) (w : W) (ls : List Addr) (σ : L2.St) (H : Hp) (Δ : Sl) (G L : List M) : Prop where
  reg : ∀ a ∈ w.gs, w.R a
  rin : ∀ a, w.R a → ∃ o, H a = some o ∧ NoT o
  nd : (w.gs ++ ls).Nodup
  fr : ∀ a ∈ ls, w.H0 a = none
  h0 : ∀ a o, w.H0 a = some o → a ∉ w.gs → H a = some o
  sl : SlOk K H (Rg w ls) w.gs ls σ Δ
  gl : Paired (MOk K H (Rg w ls) w.gs []) w.gs G
  lo : Paired (MOk K H (Rg w ls) w.gs ls) ls L
  ld : ∀ a ∈ ls, ¬ w.R a
def Ext (w : W) (ls : List Addr) (H H' : Hp) : Prop := ∀ a o, H a = some o → a ∉ w.gs → a ∉ ls → H' a = some o
theorem Ext.refl {w : W} {ls : List Addr} {H : Hp} : Ext w ls H H := fun _ _ h _ _ => h
theorem Ext.trans {w : W} {ls : List Addr} {H H1 H2 : Hp} (a : Ext w ls H H1) (b : Ext w ls H1 H2) : Ext w ls H H2 := fun c o h n m => b c o (a c o h n m) n m
theorem Ext.grow {w : W} {ls : List Addr} {H H' : Hp} (e : Ext w ls H H') (hr : ∀ a ∈ w.gs, w.R a) : Grow H H' (Rg w ls) (Rg w ls) :=
  ⟨fun a o h n => e a o h (fun z => n (.inl (hr a z))) fun z => n (.inr z), fun _ _ _ h => h⟩
def Pre (ls ls' : List Addr) : Prop := ∀ (k : Nat) a, ls[k]? = some a → ls'[k]? = some a
theorem Pre.refl (ls : List Addr) : Pre ls ls := fun _ _ h => h
theorem Pre.nil (ls : List Addr) : Pre [] ls := fun _ _ h => by simp at h
theorem Pre.app (ls qs : List Addr) : Pre ls (ls ++ qs) := fun k a h => by
  rw [List.getElem?_append_left (List.getElem?_eq_some_iff.mp h).1]
  exact h
theorem RS.grow {H H' : Hp} {R R' : Addr → Prop} {gs gs' ls ls' : List Addr} (g : Grow H H' R R') (pg : Pre gs gs') (pl : Pre ls ls') : ∀ {s : S} {v : V}, RS K H R gs ls s v → RS K H' R' gs' ls' s v
  | .d _, _, h => Rep.grow g h
  | .g _, _, ⟨a, h, e⟩ => ⟨a, pg _ _ h, e⟩
  | .l _, _, ⟨a, h, e⟩ => ⟨a, pl _ _ h, e⟩
theorem paired_map {α β : Type} {F F' : α → β → Prop} : ∀ {as : List α} {bs : List β}, Paired F as bs → (∀ a b, a ∈ as → F a b → F' a b) → Paired F' as bs
  | _, _, .nil, _ => .nil
  | _, _, .cons h t, f => .cons (f _ _ List.mem_cons_self h) (paired_map t fun a b m q => f a b (List.mem_cons_of_mem _ m) q)
theorem MOk.grow {H H' : Hp} {R R' : Addr → Prop} {gs gs' ls ls' : List Addr} (g : Grow H H' R R') (pg : Pre gs gs') (pl : Pre ls ls') {a : Addr} (k : ∀ o, H a = some o → H' a = some o) : ∀ {m : M}, MOk K H R gs ls a m → MOk K H' R' gs' ls' a m
  | .pl _, ⟨vs, h, r⟩ => ⟨vs, k _ h, RepL.grow g r⟩
  | .hl _, ⟨vs, h, r⟩ => ⟨vs, k _ h, paired_map r fun _ _ _ q => RS.grow g pg pl q⟩
  | .dc _, ⟨vs, h, r⟩ => ⟨vs, k _ h, RepK.grow g r⟩
  | .ob _ _, ⟨dx, vs, h, r⟩ => ⟨dx, vs, k _ h, RepF.grow g r⟩
  | .dh _, ⟨vs, h, r⟩ => ⟨vs, k _ h, paired_map r fun _ _ _ q => ⟨q.1, RS.grow g pg pl q.2⟩⟩
  | .dt _, h => k _ h
  | .dz _ _, h => k _ h
  | .og _ _, ⟨dx, vs, h, r⟩ => ⟨dx, vs, k _ h, paired_map r fun _ _ _ q => ⟨q.1, RS.grow g pg pl q.2⟩⟩
  | .dq _, ⟨vs, h, r⟩ => ⟨vs, k _ h, paired_map r fun _ _ _ q => ⟨q.1, RS.grow g pg pl q.2⟩⟩
theorem SlOk.grow {H H' : Hp} {R R' : Addr → Prop} {gs gs' ls ls' : List Addr} (g : Grow H H' R R') (pg : Pre gs gs') (pl : Pre ls ls') {σ : L2.St} {Δ : Sl} (h : SlOk K H R gs ls σ Δ) : SlOk K H' R' gs' ls' σ Δ :=
  ⟨h.1, fun i s e => let ⟨v, a, b⟩ := h.2 i s e; ⟨v, a, RS.grow g pg pl b⟩⟩
theorem MOk.some {H : Hp} {R : Addr → Prop} {gs ls : List Addr} {a : Addr} : ∀ {m : M}, MOk K H R gs ls a m → ∃ o, H a = some o ∧ NoT o
  | .pl _, ⟨_, h, _⟩ => ⟨_, h, fun _ z => nomatch z⟩
  | .hl _, ⟨_, h, _⟩ => ⟨_, h, fun _ z => nomatch z⟩
  | .dc _, ⟨_, h, _⟩ => ⟨_, h, fun _ z => nomatch z⟩
  | .ob _ _, ⟨_, _, h, _⟩ => ⟨_, h, fun _ z => nomatch z⟩
  | .dh _, ⟨_, h, _⟩ => ⟨_, h, fun _ z => nomatch z⟩
  | .dt _, h => ⟨_, h, fun _ z => nomatch z⟩
  | .dz _ _, h => ⟨_, h, fun _ z => nomatch z⟩
  | .og _ _, ⟨_, _, h, _⟩ => ⟨_, h, fun _ z => nomatch z⟩
  | .dq _, ⟨_, h, _⟩ => ⟨_, h, fun _ z => nomatch z⟩
theorem paired_l {α β : Type} {F : α → β → Prop} : ∀ {as : List α} {bs : List β} {a : α}, Paired F as bs → a ∈ as → ∃ b, F a b
  | _, _, _, .cons h t, m => by
    rcases List.mem_cons.mp m with rfl | m
    · exact ⟨_, h⟩
    · exact paired_l t m
theorem paired_get {α β : Type} {F : α → β → Prop} : ∀ {as : List α} {bs : List β} {i : Nat} {b : β}, Paired F as bs → bs[i]? = some b → ∃ a, as[i]? = some a ∧ F a b
  | _, _, 0, _, .cons h t, e => by
    simp at e
    subst e
    exact ⟨_, rfl, h⟩
  | _, _, i + 1, _, .cons h t, e => by
    obtain ⟨a, q, r⟩ := paired_get (i := i) t (by simpa using e)
    exact ⟨a, by simpa using q, r⟩
theorem paired_app {α β : Type} {F : α → β → Prop} : ∀ {as cs : List α} {bs ds : List β}, Paired F as bs → Paired F cs ds → Paired F (as ++ cs) (bs ++ ds)
  | _, _, _, _, .nil, q => q
  | _, _, _, _, .cons h t, q => .cons h (paired_app t q)
theorem paired_len {α β : Type} {F : α → β → Prop} : ∀ {as : List α} {bs : List β}, Paired F as bs → as.length = bs.length
  | _, _, .nil => rfl
  | _, _, .cons _ t => congrArg (· + 1) (paired_len t)
theorem paired_set {α β : Type} {F F' : α → β → Prop} : ∀ {as : List α} {bs : List β} {i : Nat} {a : α} {b : β}, Paired F as bs → as.Nodup → as[i]? = some a → F' a b → (∀ c e, c ∈ as → c ≠ a → F c e → F' c e) → Paired F' as (bs.set i b)
  | _, _, _, _, _, .nil, _, h, _, _ => by simp at h
  | _, _, 0, _, _, .cons (a := x) h t, nd, e, q, k => by
    simp at e
    subst e
    have n := (List.nodup_cons.mp nd).1
    exact .cons q (paired_map t fun c e m f => k c e (List.mem_cons_of_mem _ m) (fun z => n (z ▸ m)) f)
  | _, _, i + 1, _, _, .cons (a := x) h t, nd, e, q, k => by
    have n := (List.nodup_cons.mp nd).1
    have e' := (by simpa using e : _[i]? = some _)
    have m := List.mem_of_getElem? e'
    exact .cons (k _ _ List.mem_cons_self (fun z => n (z ▸ m)) h) (paired_set t (List.nodup_cons.mp nd).2 e' q fun c e m f => k c e (List.mem_cons_of_mem _ m) f)

section
variable {w : W} {ls : List Addr} {σ : L2.St} {H : Hp} {Δ : Sl} {G L : List M}
theorem Ctx.lin (c : Ctx K w ls σ H Δ G L) {a : Addr} (h : a ∈ ls) : ∃ o, H a = some o ∧ NoT o := by
  obtain ⟨m, q⟩ := paired_l c.lo h
  exact q.some
theorem Ctx.gin (c : Ctx K w ls σ H Δ G L) {a : Addr} (h : a ∈ w.gs) : ∃ o, H a = some o ∧ NoT o := c.rin a (c.reg a h)
theorem Ctx.free (c : Ctx K w ls σ H Δ G L) {p : Addr} (h : H p = none) : ¬ Rg w ls p := by
  rintro (r | r)
  · obtain ⟨o, e, _⟩ := c.rin p r
    rw [h] at e
    cases e
  · obtain ⟨o, e, _⟩ := c.lin r
    rw [h] at e
    cases e
theorem Ctx.free0 (c : Ctx K w ls σ H Δ G L) {p : Addr} (h : H p = none) : w.H0 p = none := by
  cases e : w.H0 p with
  | none => rfl
  | some o =>
    have n : p ∉ w.gs := fun z => c.free h (.inl (c.reg p z))
    rw [c.h0 p o e n] at h
    cases h
theorem grow_new {p : Addr} {o : HO} {R : Addr → Prop} (h : H p = none) : Grow H (upd H p o) R R :=
  ⟨fun a u e _ => by
    rw [upd_ne (ne_of_none e h)]
    exact e, fun _ _ _ r => r⟩
theorem keep_new {p : Addr} {o : HO} (h : H p = none) : ∀ a u, H a = some u → upd H p o a = some u := fun a u e => by
  rw [upd_ne (ne_of_none e h)]
  exact e
theorem Ctx.new (c : Ctx K w ls σ H Δ G L) {p : Addr} {o : HO} (h : H p = none) : Ctx K w ls σ (upd H p o) Δ G L := by
  have g : Grow H (upd H p o) (Rg w ls) (Rg w ls) := grow_new h
  have k := keep_new (o := o) h
  exact ⟨c.reg, fun a r => let ⟨u, e, n⟩ := c.rin a r; ⟨u, k a u e, n⟩, c.nd, c.fr, fun a u e n => k a u (c.h0 a u e n), c.sl.grow g (Pre.refl _) (Pre.refl _),
    paired_map c.gl fun a m _ q => q.grow g (Pre.refl _) (Pre.refl _) (k a), paired_map c.lo fun a m _ q => q.grow g (Pre.refl _) (Pre.refl _) (k a), c.ld⟩
theorem Ext.new {p : Addr} {o : HO} (h : H p = none) : Ext w ls H (upd H p o) := fun a u e _ _ => by
  rw [upd_ne (ne_of_none e h)]
  exact e
theorem grow_reg {p : Addr} (h : H p = none) : Grow H H (Rg w ls) (Rg w (ls ++ [p])) :=
  ⟨fun _ _ e _ => e, fun a o e r => by
    rcases r with r | r
    · exact .inl r
    · rcases List.mem_append.mp r with r | r
      · exact .inr r
      · rw [List.mem_singleton] at r
        subst r
        rw [h] at e
        cases e⟩
theorem grow_sub {ls' : List Addr} (h : ∀ a ∈ ls', a ∈ ls) : Grow H H (Rg w ls) (Rg w ls') :=
  ⟨fun _ _ e _ => e, fun a o e r => by
    rcases r with r | r
    · exact .inl r
    · exact .inr (h a r)⟩

/-! ### an object just made: its own, or data -/
structure NewAt (K : PySem.W.Frag) (w : W) (ls : List Addr) (σ : L2.St) (H : Hp) (Δ : Sl) (G L : List M) (p : Addr) (m : M) : Prop where
  own : Ctx K w (ls ++ [p]) σ H Δ G (L ++ [m])
  c : Ctx K w ls σ H Δ G L
  dat : ∀ x, m.dat = some x → Rep K H (Rg w ls) x (.ref p)
theorem newAt_of (c : Ctx K w ls σ H Δ G L) {p : Addr} {o : HO} {m : M} (h : H p = none) (hm : MOk K (upd H p o) (Rg w (ls ++ [p])) w.gs ls p m) (hd : ∀ x, m.dat = some x → Rep K (upd H p o) (Rg w ls) x (.ref p)) :
    NewAt K w ls σ (upd H p o) Δ G L p m := by
  have g : Grow H (upd H p o) (Rg w ls) (Rg w (ls ++ [p])) := (grow_reg h).trans (grow_new h)
  have k := keep_new (o := o) h
  have nR := c.free h
  refine ⟨⟨c.reg, fun a r => let ⟨u, e, n⟩ := c.rin a r; ⟨u, k a u e, n⟩, ?_, ?_, fun a u e n => k a u (c.h0 a u e n), c.sl.grow g (Pre.refl _) (Pre.app _ _),
    paired_map c.gl fun a m _ q => q.grow g (Pre.refl _) (Pre.nil _) (k a), paired_app (paired_map c.lo fun a m _ q => q.grow g (Pre.refl _) (Pre.app _ _) (k a)) (.cons ?_ .nil), fun a ha r => (List.mem_append.mp ha).elim (fun z => c.ld a z r) fun z => nR (.inl ((List.mem_singleton.mp z) ▸ r))⟩, c.new h, hd⟩
  · rw [← List.append_assoc]
    refine List.nodup_append.mpr ⟨c.nd, by simp, fun a ha b hb => ?_⟩
    rw [List.mem_singleton] at hb
    subst hb
    rintro rfl
    rcases List.mem_append.mp ha with z | z
    · exact nR (.inl (c.reg _ z))
    · exact nR (.inr z)
  · intro a ha
    rcases List.mem_append.mp ha with z | z
    · exact c.fr a z
    · rw [List.mem_singleton] at z
      subst z
      exact c.free0 h
  · exact hm.grow (Grow.refl _ _) (Pre.refl _) (Pre.app _ _) fun _ z => z
theorem newAt_pl (c : Ctx K w ls σ H Δ G L) {p : Addr} {ds : List D} {vs : List V} (h : H p = none) (r : RepL K H (Rg w ls) ds vs) : NewAt K w ls σ (upd H p (.lst vs)) Δ G L p (.pl ds) :=
  newAt_of c h ⟨vs, upd_same, r.grow ((grow_reg h).trans (grow_new h))⟩ fun x e => by
    cases e
    exact ⟨p, vs, rfl, ⟨upd_same, c.free h⟩, r.grow (grow_new h)⟩
theorem rep_tup (c : Ctx K w ls σ H Δ G L) {p : Addr} {ds : List D} {vs : List V} (h : H p = none) (r : RepL K H (Rg w ls) ds vs) : Rep K (upd H p (.tup vs)) (Rg w ls) (.tup ds) (.ref p) :=
  ⟨p, vs, rfl, ⟨upd_same, c.free h⟩, r.grow (grow_new h)⟩
end
end
end DL

namespace DL
open PySem PySem.Spec PyProof.Rows L2
section
variable {K : PySem.W.Frag}
section
variable {w : W} {ls : List Addr} {σ : L2.St} {H : Hp} {Δ : Sl} {G L : List M}
theorem grow_upd {R : Addr → Prop} {a : Addr} {o : HO} (h : R a) : Grow H (upd H a o) R R :=
  ⟨fun b u e n => by
    rw [upd_ne (show b ≠ a from fun z => n (by rw [z]; exact h))]
    exact e, fun _ _ _ r => r⟩
theorem upd_other {a : Addr} {o : HO} {b : Addr} (n : b ≠ a) : ∀ u, H b = some u → upd H a o b = some u := fun u e => by
  rw [upd_ne n]
  exact e
theorem getElem_mem' {α : Type} {l : List α} {i : Nat} {a : α} (h : l[i]? = some a) : a ∈ l := List.mem_of_getElem? h
theorem Ctx.setL (c : Ctx K w ls σ H Δ G L) {k : Nat} {a : Addr} {o : HO} {m : M} (h : ls[k]? = some a) (hm : MOk K (upd H a o) (Rg w ls) w.gs ls a m) : Ctx K w ls σ (upd H a o) Δ G (L.set k m) := by
  have ha : a ∈ ls := getElem_mem' h
  have g : Grow H (upd H a o) (Rg w ls) (Rg w ls) := grow_upd (.inr ha)
  have ng : ∀ b ∈ w.gs, b ≠ a := fun b hb z => (List.nodup_append.mp c.nd).2.2 b hb a ha z
  refine ⟨c.reg, fun b r => ?_, c.nd, c.fr, fun b u e n => ?_, c.sl.grow g (Pre.refl _) (Pre.refl _), paired_map c.gl fun b m hb q => q.grow g (Pre.refl _) (Pre.refl _) (upd_other (ng b hb)), ?_, c.ld⟩
  · by_cases z : b = a
    · subst z
      exact hm.some
    · obtain ⟨u, e, n⟩ := c.rin b r
      exact ⟨u, by rw [upd_ne z]; exact e, n⟩
  · have z : b ≠ a := fun z => by
      rw [z, c.fr a ha] at e
      cases e
    rw [upd_ne z]
    exact c.h0 b u e n
  · exact paired_set c.lo (List.nodup_append.mp c.nd).2.1 h hm fun b e hb n q => q.grow g (Pre.refl _) (Pre.refl _) (upd_other n)
theorem Ctx.setG (c : Ctx K w ls σ H Δ G L) {k : Nat} {a : Addr} {o : HO} {m : M} (h : w.gs[k]? = some a) (hm : MOk K (upd H a o) (Rg w ls) w.gs [] a m) : Ctx K w ls σ (upd H a o) Δ (G.set k m) L := by
  have ha : a ∈ w.gs := getElem_mem' h
  have g : Grow H (upd H a o) (Rg w ls) (Rg w ls) := grow_upd (.inl (c.reg a ha))
  have ng : ∀ b ∈ ls, b ≠ a := fun b hb z => (List.nodup_append.mp c.nd).2.2 a ha b hb z.symm
  refine ⟨c.reg, fun b r => ?_, c.nd, c.fr, fun b u e n => ?_, c.sl.grow g (Pre.refl _) (Pre.refl _), ?_, paired_map c.lo fun b m hb q => q.grow g (Pre.refl _) (Pre.refl _) (upd_other (ng b hb)), c.ld⟩
  · by_cases z : b = a
    · subst z
      exact hm.some
    · obtain ⟨u, e, n⟩ := c.rin b r
      exact ⟨u, by rw [upd_ne z]; exact e, n⟩
  · rw [upd_ne (show b ≠ a from fun z => n (by rw [z]; exact ha))]
    exact c.h0 b u e n
  · exact paired_set c.gl (List.nodup_append.mp c.nd).1 h hm fun b e hb n q => q.grow g (Pre.refl _) (Pre.refl _) (upd_other n)
theorem Ext.setL {a : Addr} {o : HO} (h : a ∈ ls) : Ext w ls H (upd H a o) := fun b u e _ n => by
  rw [upd_ne (show b ≠ a from fun z => n (by rw [z]; exact h))]
  exact e
theorem Ext.setG {a : Addr} {o : HO} (h : a ∈ w.gs) : Ext w ls H (upd H a o) := fun b u e n _ => by
  rw [upd_ne (show b ≠ a from fun z => n (by rw [z]; exact h))]
  exact e
end

/-! ### evaluation at the level of data -/
abbrev Po := S → List M → List M → Prop
abbrev PoB := Bool → List M → List M → Prop
abbrev PoN := M → List M → List M → Prop
abbrev PoA := List S → List M → List M → Prop
def Ret (K : PySem.W.Frag) (w : W) (ls : List Addr) (σ : L2.St) (Δ : Sl) (H : Hp) (Qd : Po) (Q : VK) : Prop :=
  ∀ v s H2 G2 L2, Ctx K w ls σ H2 Δ G2 L2 → Ext w ls H H2 → RS K H2 (Rg w ls) w.gs ls s v → Qd s G2 L2 → Q v H2
def RetB (K : PySem.W.Frag) (w : W) (ls : List Addr) (σ : L2.St) (Δ : Sl) (H : Hp) (Qd : PoB) (Q : Bool → Hp → Prop) : Prop :=
  ∀ b H2 G2 L2, Ctx K w ls σ H2 Δ G2 L2 → Ext w ls H H2 → Qd b G2 L2 → Q b H2
def RetN (K : PySem.W.Frag) (w : W) (ls : List Addr) (σ : L2.St) (Δ : Sl) (H : Hp) (Qd : PoN) (Q : VK) : Prop :=
  ∀ p m H2 G2 L2, H p = none → NewAt K w ls σ H2 Δ G2 L2 p m → Ext w ls H H2 → Qd m G2 L2 → Q (.ref p) H2
def RetA (K : PySem.W.Frag) (w : W) (ls : List Addr) (σ : L2.St) (Δ : Sl) (H : Hp) (Qd : PoA) (Q : List V → Hp → Prop) : Prop :=
  ∀ vs ss H2 G2 L2, Ctx K w ls σ H2 Δ G2 L2 → Ext w ls H H2 → Paired (RS K H2 (Rg w ls) w.gs ls) ss vs → Qd ss G2 L2 → Q vs H2
def EvC (K : PySem.W.Frag) (te : TE) (Δ : Sl) (G L : List M) (Qd : Po) : Prop := ∀ w ls σ H, Ctx K w ls σ H Δ G L → ∀ Q : VK, Ret K w ls σ Δ H Qd Q → te σ H Q
def EvB (K : PySem.W.Frag) (te : TT) (Δ : Sl) (G L : List M) (Qd : PoB) : Prop := ∀ w ls σ H, Ctx K w ls σ H Δ G L → ∀ Q : Bool → Hp → Prop, RetB K w ls σ Δ H Qd Q → te σ H Q
def EvN (K : PySem.W.Frag) (te : TE) (Δ : Sl) (G L : List M) (Qd : PoN) : Prop := ∀ w ls σ H, Ctx K w ls σ H Δ G L → ∀ Q : VK, RetN K w ls σ Δ H Qd Q → te σ H Q
def EvA (K : PySem.W.Frag) (te : TA) (Δ : Sl) (G L : List M) (Qd : PoA) : Prop := ∀ w ls σ H, Ctx K w ls σ H Δ G L → ∀ Q : List V → Hp → Prop, RetA K w ls σ Δ H Qd Q → te σ H Q

section
variable {w : W} {ls : List Addr} {σ : L2.St} {H H1 : Hp} {Δ : Sl} {G L G1 L1 : List M} {Qd : Po} {Q : VK}
theorem Ret.go (r : Ret K w ls σ Δ H Qd Q) {v : V} {s : S} (c : Ctx K w ls σ H1 Δ G1 L1) (e : Ext w ls H H1) (q : RS K H1 (Rg w ls) w.gs ls s v) (k : Qd s G1 L1) : Q v H1 := r v s H1 G1 L1 c e q k
theorem Ret.next {Qd' : Po} (r : Ret K w ls σ Δ H Qd Q) (e : Ext w ls H H1) (k : ∀ s G L, Qd' s G L → Qd s G L) : Ret K w ls σ Δ H1 Qd' Q := fun v s H2 G2 L2 c e2 q h => r v s H2 G2 L2 c (e.trans e2) q (k _ _ _ h)
theorem Ret.ext (r : Ret K w ls σ Δ H Qd Q) (e : Ext w ls H H1) : Ret K w ls σ Δ H1 Qd Q := fun v s H2 G2 L2 c e2 q h => r v s H2 G2 L2 c (e.trans e2) q h
theorem none_back (c : Ctx K w ls σ H1 Δ G1 L1) (e : Ext w ls H H1) {p : Addr} (h : H1 p = none) : H p = none := by
  cases q : H p with
  | none => rfl
  | some o =>
    have n := c.free h
    rw [e p o q (fun z => n (.inl (c.reg p z))) (fun z => n (.inr z))] at h
    cases h
theorem RetN.ext {Qd : PoN} (r : RetN K w ls σ Δ H Qd Q) (c1 : Ctx K w ls σ H1 Δ G1 L1) (e : Ext w ls H H1) : RetN K w ls σ Δ H1 Qd Q := fun v s H2 G2 L2 hp c e2 h => r v s H2 G2 L2 (none_back c1 e hp) c (e.trans e2) h
theorem RS.on {s : S} {v : V} (c : Ctx K w ls σ H Δ G L) (e : Ext w ls H H1) (r : RS K H (Rg w ls) w.gs ls s v) : RS K H1 (Rg w ls) w.gs ls s v := r.grow (e.grow c.reg) (Pre.refl _) (Pre.refl _)
theorem RSs.on {s : List S} {v : List V} (c : Ctx K w ls σ H Δ G L) (e : Ext w ls H H1) (r : Paired (RS K H (Rg w ls) w.gs ls) s v) : Paired (RS K H1 (Rg w ls) w.gs ls) s v := paired_map r fun _ _ _ q => RS.on c e q
end

section
variable {Δ : Sl} {G L : List M} {Qd Qd' : Po} {te ta tb tc : TE} {tt tu : TT}
theorem EvC.imp (h : EvC K te Δ G L Qd) (k : ∀ s G L, Qd s G L → Qd' s G L) : EvC K te Δ G L Qd' := fun w ls σ H c Q r => h w ls σ H c Q (r.next Ext.refl k)
theorem evc_var {i : Nat} {s : S} (h : Δ[i]? = some (some s)) (k : Qd s G L) : EvC K (tVar i) Δ G L Qd := fun w ls σ H c Q r => by
  obtain ⟨v, e, q⟩ := c.sl.2 i s h
  exact ⟨v, e, r.go c Ext.refl q k⟩
theorem evc_int {i : Int} (k : Qd (.d (.int i)) G L) : EvC K (tC (.int i)) Δ G L Qd := fun w ls σ H c Q r => r.go c Ext.refl (s := .d (.int i)) rfl k
theorem evc_str {i : Str} (k : Qd (.d (.str i)) G L) : EvC K (tC (.str i)) Δ G L Qd := fun w ls σ H c Q r => r.go c Ext.refl (s := .d (.str i)) rfl k
theorem evc_bl {i : Bool} (k : Qd (.d (.bl i)) G L) : EvC K (tC (.bl i)) Δ G L Qd := fun w ls σ H c Q r => r.go c Ext.refl (s := .d (.bl i)) rfl k
theorem evc_non (k : Qd (.d .non) G L) : EvC K (tC .non) Δ G L Qd := fun w ls σ H c Q r => r.go c Ext.refl (s := .d .non) rfl k
theorem evc_ty {n : String} (k : Qd (.d (.ty n)) G L) : EvC K (tC (.ty n)) Δ G L Qd := fun w ls σ H c Q r => r.go c Ext.refl (s := .d (.ty n)) rfl k
theorem evc_ref {a : Addr} (k : Qd (.d (.ref a)) G L) : EvC K (tC (.ref a)) Δ G L Qd := fun w ls σ H c Q r => r.go c Ext.refl (s := .d (.ref a)) rfl k
theorem evn_c (h : EvN K te Δ G L fun m G1 L1 => ∃ x, m.dat = some x ∧ Qd (.d x) G1 L1) : EvC K te Δ G L Qd := fun w ls σ H c Q r => h w ls σ H c Q fun p m H2 G2 L2 _ n e ⟨x, hx, k⟩ => r.go n.c e (s := .d x) (n.dat x hx) k

/-! operations on values -/
def OpC (K : PySem.W.Frag) (r : R2) (x y : S) (Δ : Sl) (G L : List M) (Qd : Po) : Prop :=
  ∀ w ls σ H vx vy, Ctx K w ls σ H Δ G L → RS K H (Rg w ls) w.gs ls x vx → RS K H (Rg w ls) w.gs ls y vy → ∀ Q, Ret K w ls σ Δ H Qd Q → r vx vy H Q
def OpN (K : PySem.W.Frag) (r : R2) (x y : S) (Δ : Sl) (G L : List M) (Qd : PoN) : Prop :=
  ∀ w ls σ H vx vy, Ctx K w ls σ H Δ G L → RS K H (Rg w ls) w.gs ls x vx → RS K H (Rg w ls) w.gs ls y vy → ∀ Q, RetN K w ls σ Δ H Qd Q → r vx vy H Q
theorem opn_c {r : R2} {x y : S} (h : OpN K r x y Δ G L fun m G1 L1 => ∃ x, m.dat = some x ∧ Qd (.d x) G1 L1) : OpC K r x y Δ G L Qd :=
  fun w ls σ H vx vy c rx ry Q q => h w ls σ H vx vy c rx ry Q fun p m H2 G2 L2 _ n e ⟨x, hx, k⟩ => q.go n.c e (s := .d x) (n.dat x hx) k
theorem evc_op {r : R2} (h : EvC K ta Δ G L fun x G1 L1 => EvC K tb Δ G1 L1 fun y G2 L2 => OpC K r x y Δ G2 L2 Qd) : EvC K (tOp r ta tb) Δ G L Qd :=
  fun w ls σ H c Q ret => h w ls σ H c _ fun v s H2 G2 L2 c2 e2 r2 h2 => h2 w ls σ H2 c2 _ fun v3 s3 H3 G3 L3 c3 e3 r3 h3 => h3 w ls σ H3 v v3 c3 (r2.on c2 e3) r3 Q (ret.ext (e2.trans e3))
theorem evn_op {r : R2} {Qn : PoN} (h : EvC K ta Δ G L fun x G1 L1 => EvC K tb Δ G1 L1 fun y G2 L2 => OpN K r x y Δ G2 L2 Qn) : EvN K (tOp r ta tb) Δ G L Qn :=
  fun w ls σ H c Q ret => h w ls σ H c _ fun v s H2 G2 L2 c2 e2 r2 h2 => h2 w ls σ H2 c2 _ fun v3 s3 H3 G3 L3 c3 e3 r3 h3 => h3 w ls σ H3 v v3 c3 (r2.on c2 e3) r3 Q (ret.ext c3 (e2.trans e3))
theorem opc_orl {r r' : R2} {x y : S} (h : OpC K r x y Δ G L Qd) : OpC K (fun x y H Q => r x y H Q ∨ r' x y H Q) x y Δ G L Qd := fun w ls σ H vx vy c rx ry Q q => .inl (h w ls σ H vx vy c rx ry Q q)
theorem opn_orl {Qd : PoN} {r r' : R2} {x y : S} (h : OpN K r x y Δ G L Qd) : OpN K (fun x y H Q => r x y H Q ∨ r' x y H Q) x y Δ G L Qd := fun w ls σ H vx vy c rx ry Q q => .inl (h w ls σ H vx vy c rx ry Q q)
theorem opc_I0i {g : Int → Int → Int} {i j : Int} (k : Qd (.d (.int (g i j))) G L) : OpC K (rI0 fun i j => .int (g i j)) (.d (.int i)) (.d (.int j)) Δ G L Qd := fun w ls σ H vx vy c rx ry Q q =>
  ⟨i, j, rx, ry, q.go c Ext.refl (s := .d (.int (g i j))) rfl k⟩
theorem opc_I0b {g : Int → Int → Bool} {i j : Int} (k : Qd (.d (.bl (g i j))) G L) : OpC K (rI0 fun i j => .bl (g i j)) (.d (.int i)) (.d (.int j)) Δ G L Qd := fun w ls σ H vx vy c rx ry Q q =>
  ⟨i, j, rx, ry, q.go c Ext.refl (s := .d (.bl (g i j))) rfl k⟩
theorem opc_Ii {C : Int → Int → Prop} {g : Int → Int → Int} {i j : Int} (hc : C i j) (k : Qd (.d (.int (g i j))) G L) : OpC K (rI C fun i j => .int (g i j)) (.d (.int i)) (.d (.int j)) Δ G L Qd := fun w ls σ H vx vy c rx ry Q q =>
  ⟨i, j, rx, ry, hc, q.go c Ext.refl (s := .d (.int (g i j))) rfl k⟩

/-! universal operators: which one is asked is told by the values -/
def rAddSt : R2 := fun x y H Q => ∃ i j, x = .str i ∧ y = .str j ∧ i.length + j.length ≤ sizeLine ∧ Q (.str (i ++ j)) H
def uAdd (K : PySem.W.Frag) : R2 := fun x y H Q => rI0 (fun i j => .int (i + j)) x y H Q ∨ rAddSt x y H Q ∨ rCat x y H Q ∨ rCatA K x y H Q
theorem uo_add {X : Cx} : OpR X (binaryOp .Add) (uAdd X.K) := op_add.or (OpR.or (r := rAddSt) op_add_str (op_cat.or op_catA))
theorem u_add_i {i j : Int} (k : Qd (.d (.int (i + j))) G L) : OpC K (uAdd K) (.d (.int i)) (.d (.int j)) Δ G L Qd := opc_orl (opc_I0i (g := fun i j => i + j) k)
theorem u_add_s {i j : Str} (hl : i.length + j.length ≤ sizeLine) (k : Qd (.d (.str (i ++ j))) G L) : OpC K (uAdd K) (.d (.str i)) (.d (.str j)) Δ G L Qd := fun w ls σ H vx vy c rx ry Q q =>
  .inr (.inl ⟨i, j, rx, ry, hl, q.go c Ext.refl (s := .d (.str (i ++ j))) rfl k⟩)
def lsG (G L : List M) : S → Option (List D)
  | .d (.lst ds) => some ds
  | .l k => match L[k]? with
    | some (.pl ds) => some ds
    | _ => none
  | .g k => match G[k]? with
    | some (.pl ds) => some ds
    | _ => none
  | _ => none
theorem lsG_get {w : W} {ls : List Addr} {σ : L2.St} {H : Hp} {v : V} {s : S} {ds : List D} (c : Ctx K w ls σ H Δ G L) (r : RS K H (Rg w ls) w.gs ls s v) (h : lsG G L s = some ds) : ∃ a vs, v = .ref a ∧ H a = some (.lst vs) ∧ RepL K H (Rg w ls) ds vs := by
  unfold lsG at h
  split at h
  · cases h
    obtain ⟨a, xs, rfl, ⟨h1, _⟩, q⟩ := r
    exact ⟨a, xs, rfl, h1, q⟩
  · rename_i k
    split at h
    · rename_i ds' hk
      cases h
      obtain ⟨a, ha, rfl⟩ := r
      obtain ⟨b, hb, vs, h1, q⟩ := paired_get c.lo hk
      rw [ha] at hb
      cases hb
      exact ⟨a, vs, rfl, h1, q⟩
    · cases h
  · rename_i k
    split at h
    · rename_i ds' hk
      cases h
      obtain ⟨a, ha, rfl⟩ := r
      obtain ⟨b, hb, vs, h1, q⟩ := paired_get c.gl hk
      rw [ha] at hb
      cases hb
      exact ⟨a, vs, rfl, h1, q⟩
    · cases h
  · cases h
theorem u_add_l {Qn : PoN} {x y : S} {xs ys : List D} (hx : lsG G L x = some xs) (hy : lsG G L y = some ys) (hl : xs.length + ys.length ≤ sizeLine) (k : Qn (.pl (xs ++ ys)) G L) : OpN K (uAdd K) x y Δ G L Qn := fun w ls σ H vx vy c rx ry Q q => by
  obtain ⟨a, vs, rfl, h1, q1⟩ := lsG_get c rx hx
  obtain ⟨b, us, rfl, h2, q2⟩ := lsG_get c ry hy
  refine .inr (.inr (.inl ⟨a, b, vs, us, rfl, rfl, h1, h2, by rw [q1.length, q2.length]; exact hl, fun p hp => ?_⟩))
  exact q p _ _ _ _ hp (newAt_pl c hp (q1.app q2)) (Ext.new hp) k
def uMul (K : PySem.W.Frag) : R2 := fun x y H Q => rI CMul (fun i j => .int (i * j)) x y H Q ∨ rRep x y H Q
theorem uo_mul {X : Cx} : OpR X (binaryOp .Mult) (uMul X.K) := op_mul.or op_rep
theorem u_mul_i {i j : Int} (hc : CMul i j) (k : Qd (.d (.int (i * j))) G L) : OpC K (uMul K) (.d (.int i)) (.d (.int j)) Δ G L Qd := opc_orl (opc_Ii (g := fun i j => i * j) hc k)
theorem repl_flat {H : Hp} {R : Addr → Prop} {ds : List D} {vs : List V} (r : RepL K H R ds vs) : ∀ n, RepL K H R (List.replicate n ds).flatten (List.replicate n vs).flatten
  | 0 => rfl
  | n + 1 => by
    rw [List.replicate_succ, List.replicate_succ, List.flatten_cons, List.flatten_cons]
    exact r.app (repl_flat r n)
theorem u_mul_l {Qn : PoN} {x : S} {j : Int} {xs : List D} (hx : lsG G L x = some xs) (h1 : -(2 ^ 63) ≤ j) (h2 : j < 2 ^ 63) (hl : xs.length * j.toNat ≤ sizeLine) (k : Qn (.pl (List.replicate j.toNat xs).flatten) G L) : OpN K (uMul K) x (.d (.int j)) Δ G L Qn := fun w ls σ H vx vy c rx ry Q q => by
  obtain ⟨a, vs, rfl, h3, q1⟩ := lsG_get c rx hx
  refine .inr ⟨a, j, vs, rfl, ry, h3, h1, h2, by rw [q1.length]; exact hl, fun p hp => ?_⟩
  exact q p _ _ _ _ hp (newAt_pl c hp (repl_flat q1 _)) (Ext.new hp) k

/-! tests -/
theorem evb_test (h : EvC K te Δ G L fun s G1 L1 => ∃ b, s = .d (.bl b) ∧ Qb b G1 L1) : EvB K (tTest te) Δ G L Qb := fun w ls σ H c Q r => h w ls σ H c _ fun v s H2 G2 L2 c2 e2 r2 ⟨b, e, k⟩ => by
  subst e
  exact ⟨b, r2, r b H2 G2 L2 c2 e2 k⟩
theorem evb_B (h : EvC K te Δ G L fun s G1 L1 => ∃ b, s = .d (.bl b) ∧ Qb b G1 L1) : EvB K (tB te) Δ G L Qb := fun w ls σ H c Q r => h w ls σ H c _ fun v s H2 G2 L2 c2 e2 r2 ⟨b, e, k⟩ => by
  subst e
  exact ⟨b, r2, r b H2 G2 L2 c2 e2 k⟩
theorem evb_and {Qb : PoB} (h : EvB K tt Δ G L fun b G1 L1 => if b = true then EvB K tu Δ G1 L1 Qb else Qb false G1 L1) : EvB K (tAnd tt tu) Δ G L Qb := fun w ls σ H c Q r => h w ls σ H c _ fun b H2 G2 L2 c2 e2 k => by
  cases b with
  | true =>
    rw [if_pos rfl] at k ⊢
    exact k w ls σ H2 c2 _ fun b H3 G3 L3 c3 e3 k3 => r b H3 G3 L3 c3 (e2.trans e3) k3
  | false =>
    rw [if_neg Bool.false_ne_true] at k ⊢
    exact r _ H2 G2 L2 c2 e2 k
theorem evb_or {Qb : PoB} (h : EvB K tt Δ G L fun b G1 L1 => if b = true then Qb true G1 L1 else EvB K tu Δ G1 L1 Qb) : EvB K (tOr tt tu) Δ G L Qb := fun w ls σ H c Q r => h w ls σ H c _ fun b H2 G2 L2 c2 e2 k => by
  cases b with
  | true =>
    rw [if_pos rfl] at k ⊢
    exact r _ H2 G2 L2 c2 e2 k
  | false =>
    rw [if_neg Bool.false_ne_true] at k ⊢
    exact k w ls σ H2 c2 _ fun b H3 G3 L3 c3 e3 k3 => r b H3 G3 L3 c3 (e2.trans e3) k3
theorem evb_not {Qb : PoB} (h : EvB K tt Δ G L fun b G1 L1 => Qb (!b) G1 L1) : EvB K (tNot tt) Δ G L Qb := fun w ls σ H c Q r => h w ls σ H c _ fun b H2 G2 L2 c2 e2 k => r _ H2 G2 L2 c2 e2 k
theorem evb_yes {Qb : PoB} (k : Qb true G L) : EvB K tYes Δ G L Qb := fun w ls σ H c Q r => r _ H G L c Ext.refl k
theorem evc_if (h : EvB K tt Δ G L fun b G1 L1 => if b = true then EvC K ta Δ G1 L1 Qd else EvC K tb Δ G1 L1 Qd) : EvC K (tIf tt ta tb) Δ G L Qd := fun w ls σ H c Q r => h w ls σ H c _ fun b H2 G2 L2 c2 e2 k => by
  cases b with
  | true =>
    rw [if_pos rfl] at k ⊢
    exact k w ls σ H2 c2 _ (r.ext e2)
  | false =>
    rw [if_neg Bool.false_ne_true] at k ⊢
    exact k w ls σ H2 c2 _ (r.ext e2)
theorem evc_andV (h : EvC K ta Δ G L fun s G1 L1 => ∃ b, s = .d (.bl b) ∧ if b = true then EvC K tb Δ G1 L1 Qd else Qd (.d (.bl false)) G1 L1) : EvC K (tAndV ta tb) Δ G L Qd := fun w ls σ H c Q r => h w ls σ H c _ fun v s H2 G2 L2 c2 e2 r2 ⟨b, e, k⟩ => by
  subst e
  refine ⟨b, r2, ?_⟩
  cases b with
  | true =>
    rw [if_pos rfl] at k ⊢
    exact k w ls σ H2 c2 _ (r.ext e2)
  | false =>
    rw [if_neg Bool.false_ne_true] at k ⊢
    exact r.go c2 e2 (s := .d (.bl false)) rfl k
theorem evc_orV (h : EvC K ta Δ G L fun s G1 L1 => ∃ b, s = .d (.bl b) ∧ if b = true then Qd (.d (.bl true)) G1 L1 else EvC K tb Δ G1 L1 Qd) : EvC K (tOrV ta tb) Δ G L Qd := fun w ls σ H c Q r => h w ls σ H c _ fun v s H2 G2 L2 c2 e2 r2 ⟨b, e, k⟩ => by
  subst e
  refine ⟨b, r2, ?_⟩
  cases b with
  | true =>
    rw [if_pos rfl] at k ⊢
    exact r.go c2 e2 (s := .d (.bl true)) rfl k
  | false =>
    rw [if_neg Bool.false_ne_true] at k ⊢
    exact k w ls σ H2 c2 _ (r.ext e2)
theorem evc_notV (h : EvC K ta Δ G L fun s G1 L1 => ∃ b, s = .d (.bl b) ∧ Qd (.d (.bl (!b))) G1 L1) : EvC K (tNotV ta) Δ G L Qd := fun w ls σ H c Q r => h w ls σ H c _ fun v s H2 G2 L2 c2 e2 r2 ⟨b, e, k⟩ => by
  subst e
  exact ⟨b, r2, r.go c2 e2 (s := .d (.bl (!b))) rfl k⟩
theorem evc_chain {r r' : R2} (h : EvC K ta Δ G L fun x G1 L1 => EvC K tb Δ G1 L1 fun y G2 L2 => OpC K r x y Δ G2 L2 fun z G3 L3 => ∃ b, z = .d (.bl b) ∧
    if b = true then EvC K tc Δ G3 L3 fun u G4 L4 => OpC K r' y u Δ G4 L4 Qd else Qd (.d (.bl false)) G3 L3) : EvC K (tChain r r' ta tb tc) Δ G L Qd :=
  fun w ls σ H c Q ret => h w ls σ H c _ fun v s H2 G2 L2 c2 e2 r2 h2 => h2 w ls σ H2 c2 _ fun v3 s3 H3 G3 L3 c3 e3 r3 h3 => h3 w ls σ H3 v v3 c3 (r2.on c2 e3) r3 _ fun v4 s4 H4 G4 L4 c4 e4 r4 ⟨b, e, k⟩ => by
    subst e
    refine ⟨b, r4, ?_⟩
    cases b with
    | true =>
      rw [if_pos rfl] at k ⊢
      exact k w ls σ H4 c4 _ fun v5 s5 H5 G5 L5 c5 e5 r5 h5 => h5 w ls σ H5 v3 v5 c5 ((r3.on c3 e4).on c4 e5) r5 Q (ret.ext (e2.trans (e3.trans (e4.trans e5))))
    | false =>
      rw [if_neg Bool.false_ne_true] at k ⊢
      exact ret.go c4 (e2.trans (e3.trans e4)) (s := .d (.bl false)) rfl k

/-! arguments, displays -/
theorem eva_nil {Qa : PoA} (k : Qa [] G L) : EvA K tNil Δ G L Qa := fun w ls σ H c Q r => r [] [] H G L c Ext.refl .nil k
theorem eva_cons {Qa : PoA} {ts : TA} (h : EvC K te Δ G L fun x G1 L1 => EvA K ts Δ G1 L1 fun xs G2 L2 => Qa (x :: xs) G2 L2) : EvA K (tCons te ts) Δ G L Qa :=
  fun w ls σ H c Q r => h w ls σ H c _ fun v s H2 G2 L2 c2 e2 r2 h2 => h2 w ls σ H2 c2 _ fun vs ss H3 G3 L3 c3 e3 r3 h3 => r (v :: vs) (s :: ss) H3 G3 L3 c3 (e2.trans e3) (.cons (r2.on c2 e3) r3) h3
def dats : List S → Option (List D)
  | [] => some []
  | .d x :: r => match dats r with
    | some xs => some (x :: xs)
    | none => none
  | _ :: _ => none
theorem dats_rep {H : Hp} {R : Addr → Prop} {gs ls : List Addr} : ∀ {ss : List S} {ds : List D} {vs : List V}, dats ss = some ds → Paired (RS K H R gs ls) ss vs → RepL K H R ds vs
  | [], _, _, e, .nil => by
    cases e
    rfl
  | .d x :: r, ds, _, e, .cons h t => by
    unfold dats at e
    split at e
    · rename_i xs hx
      cases e
      exact ⟨_, _, rfl, h, dats_rep hx t⟩
    · cases e
theorem evc_tup {ts : TA} (h : EvA K ts Δ G L fun ss G1 L1 => ∃ ds, dats ss = some ds ∧ ds.length ≤ sizeLine ∧ Qd (.d (.tup ds)) G1 L1) : EvC K (tTup ts) Δ G L Qd := fun w ls σ H c Q r => h w ls σ H c _ fun vs ss H2 G2 L2 c2 e2 r2 ⟨ds, hd, hl, k⟩ =>
  have q := dats_rep hd r2
  ⟨by rw [q.length]; exact hl, fun p hp => r.go (c2.new hp) (e2.trans (Ext.new hp)) (s := .d (.tup ds)) (rep_tup c2 hp q) k⟩
theorem evn_lst {ts : TA} {Qn : PoN} (h : EvA K ts Δ G L fun ss G1 L1 => ∃ ds, dats ss = some ds ∧ ds.length ≤ sizeLine ∧ Qn (.pl ds) G1 L1) : EvN K (tLst ts) Δ G L Qn := fun w ls σ H c Q r => h w ls σ H c _ fun vs ss H2 G2 L2 c2 e2 r2 ⟨ds, hd, hl, k⟩ =>
  have q := dats_rep hd r2
  ⟨by rw [q.length]; exact hl, fun p hp => r p _ _ _ _ (none_back c2 e2 hp) (newAt_pl c2 hp q) (e2.trans (Ext.new hp)) k⟩
/-! subscripts -/
theorem u_ix_scr {ns : List Int} {i z : Int} (hi : atI ns i = some z) (k : Qd (.d (.int z)) G L) : OpC K (rIx K) (.d (.scr ns)) (.d (.int i)) Δ G L Qd := fun w ls σ H vx vy c rx ry Q q => by
  obtain ⟨a, rfl, h1⟩ := rx
  refine .inl ⟨a, _, i, .int z, rfl, ry, h1.sq, ?_, q.go c Ext.refl (s := .d (.int z)) rfl k⟩
  unfold atI at hi ⊢
  rw [List.length_map]
  cases e : ixN ns.length i with
  | none =>
    rw [e] at hi
    cases hi
  | some j =>
    rw [e] at hi
    show (ns.map V.int)[j]? = _
    rw [List.getElem?_map, show ns[j]? = some z from hi]
    rfl
end
end
end DL

namespace DL
open PySem PySem.Spec PyProof.Rows L2
section
variable {K : PySem.W.Frag}
structure EndsD where
  nx : Sl → List M → List M → Prop
  rt : S → List M → List M → Prop
  bk : Sl → List M → List M → Prop := fun _ _ _ => False
  ct : Sl → List M → List M → Prop := fun _ _ _ => False
  wd : W → List Addr → Hp → Prop := fun _ _ _ => True
structure SEnds (K : PySem.W.Frag) (w : W) (ls : List Addr) (H : Hp) (E : EndsD) (D : Ends) : Prop where
  nx : ∀ ls' σ H' Δ G L, Ctx K w ls' σ H' Δ G L → Grow H H' (Rg w ls) (Rg w ls') → E.nx Δ G L → D.nx σ H'
  rt : ∀ ls' σ H' Δ G L v s, Ctx K w ls' σ H' Δ G L → RS K H' (Rg w ls') w.gs ls' s v → E.rt s G L → D.rt v H'
  bk : ∀ ls' σ H' Δ G L, Ctx K w ls' σ H' Δ G L → Grow H H' (Rg w ls) (Rg w ls') → E.bk Δ G L → D.bk σ H'
  ct : ∀ ls' σ H' Δ G L, Ctx K w ls' σ H' Δ G L → Grow H H' (Rg w ls) (Rg w ls') → E.ct Δ G L → D.ct σ H'
  wd : ∀ ls' H', Grow H H' (Rg w ls) (Rg w ls') → E.wd w ls' H'
def StC (K : PySem.W.Frag) (ts : TS) (Δ : Sl) (G L : List M) (E : EndsD) : Prop := ∀ w ls σ H, Ctx K w ls σ H Δ G L → ∀ D : Ends, SEnds K w ls H E D → ts D σ H
theorem SEnds.on {w : W} {ls ls1 : List Addr} {H H1 : Hp} {E : EndsD} {D : Ends} (s : SEnds K w ls H E D) (g : Grow H H1 (Rg w ls) (Rg w ls1)) : SEnds K w ls1 H1 E D :=
  ⟨fun ls' σ H' Δ G L c g' h => s.nx ls' σ H' Δ G L c (g.trans g') h, s.rt, fun ls' σ H' Δ G L c g' h => s.bk ls' σ H' Δ G L c (g.trans g') h, fun ls' σ H' Δ G L c g' h => s.ct ls' σ H' Δ G L c (g.trans g') h, fun ls' H' g' => s.wd ls' H' (g.trans g')⟩
section
variable {Δ : Sl} {G L : List M} {E : EndsD} {te : TE} {tt : TT} {t u : TS}
theorem SlOk.set {H : Hp} {R : Addr → Prop} {gs ls : List Addr} {σ : L2.St} (h : SlOk K H R gs ls σ Δ) {i : Nat} {v : V} {s : S} (r : RS K H R gs ls s v) : SlOk K H R gs ls (σ.set i (some v)) (Δ.set i (some s)) := by
  refine ⟨by rw [List.length_set, List.length_set, h.1], fun j z e => ?_⟩
  rw [List.getElem?_set] at e ⊢
  split at e
  · rename_i hij
    subst hij
    rw [if_pos rfl]
    split at e
    · rename_i hl
      cases e
      exact ⟨v, by rw [if_pos (by rw [h.1]; exact hl)], r⟩
    · cases e
  · rename_i hij
    rw [if_neg hij]
    exact h.2 j z e
theorem Ctx.slot {w : W} {ls : List Addr} {σ : L2.St} {H : Hp} (c : Ctx K w ls σ H Δ G L) {i : Nat} {v : V} {s : S} (r : RS K H (Rg w ls) w.gs ls s v) : Ctx K w ls (σ.set i (some v)) H (Δ.set i (some s)) G L :=
  ⟨c.reg, c.rin, c.nd, c.fr, c.h0, c.sl.set r, c.gl, c.lo, c.ld⟩
theorem st_seq (h : StC K t Δ G L { E with nx := fun Δ1 G1 L1 => StC K u Δ1 G1 L1 E }) : StC K (tSeq t u) Δ G L E := fun w ls σ H c D s =>
  h w ls σ H c _ ⟨fun ls' σ' H' Δ' G' L' c' g' k => k w ls' σ' H' c' D (s.on g'), s.rt, s.bk, s.ct, s.wd⟩
theorem st_next (k : E.nx Δ G L) : StC K tNext Δ G L E := fun w ls σ H c D s => s.nx ls σ H Δ G L c (Grow.refl _ _) k
theorem st_break (k : E.bk Δ G L) : StC K tBreak Δ G L E := fun w ls σ H c D s => s.bk ls σ H Δ G L c (Grow.refl _ _) k
theorem st_cont (k : E.ct Δ G L) : StC K tCont Δ G L E := fun w ls σ H c D s => s.ct ls σ H Δ G L c (Grow.refl _ _) k
theorem st_asg {i : Nat} (h : EvC K te Δ G L fun s G1 L1 => E.nx (Δ.set i (some s)) G1 L1) : StC K (tAsg te (gName i)) Δ G L E := fun w ls σ H c D s =>
  h w ls σ H c _ fun v x H2 G2 L2 c2 e2 r2 k => s.nx ls _ H2 _ G2 L2 (c2.slot r2) (e2.grow c.reg) k
theorem st_if (h : EvB K tt Δ G L fun b G1 L1 => if b = true then StC K t Δ G1 L1 E else StC K u Δ G1 L1 E) : StC K (tIfS tt t u) Δ G L E := fun w ls σ H c D s => h w ls σ H c _ fun b H2 G2 L2 c2 e2 k => by
  cases b with
  | true =>
    rw [if_pos rfl] at k ⊢
    exact k w ls σ H2 c2 D (s.on (e2.grow c.reg))
  | false =>
    rw [if_neg Bool.false_ne_true] at k ⊢
    exact k w ls σ H2 c2 D (s.on (e2.grow c.reg))
theorem st_ret (h : EvC K te Δ G L fun s G1 L1 => E.rt s G1 L1) : StC K (tRet te) Δ G L E := fun w ls σ H c D s => h w ls σ H c _ fun v x H2 G2 L2 c2 e2 r2 k => s.rt ls σ H2 Δ G2 L2 v x c2 r2 k
theorem st_retN (k : E.rt (.d .non) G L) : StC K tRetN Δ G L E := fun w ls σ H c D s => s.rt ls σ H Δ G L .non (.d .non) c rfl k
theorem st_retO (h : EvN K te Δ G L fun m G1 L1 => E.rt (.l L1.length) G1 (L1 ++ [m])) : StC K (tRet te) Δ G L E := fun w ls σ H c D s => h w ls σ H c _ fun p m H2 G2 L2 hp n e2 k => by
  have hl : ls.length = L2.length := paired_len n.c.lo
  refine s.rt (ls ++ [p]) σ H2 Δ G2 (L2 ++ [m]) (.ref p) (.l L2.length) n.own ⟨p, ?_, rfl⟩ k
  rw [← hl, List.getElem?_append_right (Nat.le_refl _), Nat.sub_self]
  rfl
theorem st_drop (h : EvC K te Δ G L fun _ G1 L1 => E.nx Δ G1 L1) : StC K (tDrop te) Δ G L E := fun w ls σ H c D s => h w ls σ H c _ fun v x H2 G2 L2 c2 e2 r2 k => s.nx ls σ H2 Δ G2 L2 c2 (e2.grow c.reg) k

/-! targets: ok says which slots may be stored -/
abbrev PoT := Sl → List M → List M → Prop
def TgC (K : PySem.W.Frag) (g : TG) (ok : Nat → Prop) (s : S) (Δ : Sl) (G L : List M) (Qt : PoT) : Prop :=
  ∀ w ls σ H v, Ctx K w ls σ H Δ G L → RS K H (Rg w ls) w.gs ls s v → ∀ Q : L2.St → Hp → Prop,
    (∀ σ' H' Δ' G' L', Ctx K w ls σ' H' Δ' G' L' → Ext w ls H H' → σ'.length = σ.length → (∀ k, ¬ ok k → σ'[k]? = σ[k]?) → Qt Δ' G' L' → Q σ' H') → g v σ H Q
def TgCs (K : PySem.W.Frag) (g : TGs) (ok : Nat → Prop) (ss : List S) (Δ : Sl) (G L : List M) (Qt : PoT) : Prop :=
  ∀ w ls σ H vs, Ctx K w ls σ H Δ G L → Paired (RS K H (Rg w ls) w.gs ls) ss vs → ∀ Q : L2.St → Hp → Prop,
    (∀ σ' H' Δ' G' L', Ctx K w ls σ' H' Δ' G' L' → Ext w ls H H' → σ'.length = σ.length → (∀ k, ¬ ok k → σ'[k]? = σ[k]?) → Qt Δ' G' L' → Q σ' H') → g vs σ H Q
theorem tg_name {i : Nat} {s : S} {Qt : PoT} {ok : Nat → Prop} (hi : ok i) (k : Qt (Δ.set i (some s)) G L) : TgC K (gName i) ok s Δ G L Qt := fun w ls σ H v c r Q q =>
  q _ H _ G L (c.slot r) Ext.refl (List.length_set ..) (fun k hk => by
    rw [List.getElem?_set_ne (fun z => hk (by rw [← z]; exact hi))]) k
theorem tgs_nil {Qt : PoT} {ok : Nat → Prop} (k : Qt Δ G L) : TgCs K gNil ok [] Δ G L Qt := fun w ls σ H vs c r Q q => by
  cases r
  exact ⟨rfl, q σ H Δ G L c Ext.refl rfl (fun _ _ => rfl) k⟩
theorem tgs_cons {g : TG} {gs : TGs} {ok : Nat → Prop} {s : S} {ss : List S} {Qt : PoT} (h : TgC K g ok s Δ G L fun Δ1 G1 L1 => TgCs K gs ok ss Δ1 G1 L1 Qt) : TgCs K (gCons g gs) ok (s :: ss) Δ G L Qt := fun w ls σ H vs c r Q q => by
  cases r with
  | cons r1 rr =>
    refine ⟨_, _, rfl, h w ls σ H _ c r1 _ fun σ1 H1 Δ1 G1 L1 c1 e1 l1 o1 k1 => ?_⟩
    refine k1 w ls σ1 H1 _ c1 (RSs.on c e1 rr) _ fun σ2 H2 Δ2 G2 L2 c2 e2 l2 o2 k2 => ?_
    exact q σ2 H2 Δ2 G2 L2 c2 (e1.trans e2) (l2.trans l1) (fun k hk => (o2 k hk).trans (o1 k hk)) k2
theorem repL_rs {H : Hp} {R : Addr → Prop} {gs ls : List Addr} : ∀ {ds : List D} {vs : List V}, RepL K H R ds vs → Paired (RS K H R gs ls) (ds.map S.d) vs
  | [], _, h => by
    cases h
    exact .nil
  | d :: ds, _, ⟨y, ys, e, h, r⟩ => by
    subst e
    exact .cons h (repL_rs r)
theorem tg_tup {gs : TGs} {ok : Nat → Prop} {ds : List D} {n : Nat} {Qt : PoT} (hn : ds.length = n) (h : TgCs K gs ok (ds.map S.d) Δ G L Qt) : TgC K (gTup K n gs) ok (.d (.tup ds)) Δ G L Qt := fun w ls σ H v c r Q q => by
  obtain ⟨a, xs, rfl, h1, r1⟩ := r
  exact ⟨a, xs, rfl, h1.sq, by rw [r1.length]; exact hn, h w ls σ H xs c (repL_rs r1) Q q⟩
theorem st_asgT {g : TG} (h : EvC K te Δ G L fun s G1 L1 => TgC K g (fun _ => True) s Δ G1 L1 E.nx) : StC K (tAsg te g) Δ G L E := fun w ls σ H c D s =>
  h w ls σ H c _ fun v x H2 G2 L2 c2 e2 r2 k => k w ls σ H2 v c2 r2 _ fun σ' H' Δ' G' L' c' e' _ _ k' => s.nx ls σ' H' Δ' G' L' c' ((e2.trans e').grow c.reg) k'

/-! what is walked -/
structure ItOk (K : PySem.W.Frag) (w : W) (ls : List Addr) (J : It) (H1 : Hp) (items : List D) : Prop where
  go : ∀ H2 w2 ls2 σ2 Δ2 G2 L2 i d, Grow H1 H2 (Rg w ls) (Rg w2 ls2) → Ctx K w2 ls2 σ2 H2 Δ2 G2 L2 → items[i]? = some d → J.go i H2 ∧ ∀ x H', J.yld i H2 x H' → Ctx K w2 ls2 σ2 H' Δ2 G2 L2 ∧ Ext w2 ls2 H2 H' ∧ Rep K H' (Rg w2 ls2) d x
  stop : ∀ H2 w2 ls2, Grow H1 H2 (Rg w ls) (Rg w2 ls2) → J.stop items.length H2
def EvI (K : PySem.W.Frag) (wi : TI) (Δ : Sl) (G L : List M) (Qi : List D → List M → List M → Prop) : Prop :=
  ∀ w ls σ H, Ctx K w ls σ H Δ G L → ∀ R : It → Hp → Prop, (∀ J H1 items G1 L1, Ctx K w ls σ H1 Δ G1 L1 → Ext w ls H H1 → ItOk K w ls J H1 items → Qi items G1 L1 → R J H1) → wi σ H R
def rngD (lo : Int) (n : Nat) : List D := (List.range n).map fun i => .int (lo + (i : Nat))
theorem rngD_get {lo : Int} {n i : Nat} {d : D} (h : (rngD lo n)[i]? = some d) : i < n ∧ d = .int (lo + (i : Nat)) := by
  unfold rngD at h
  rw [List.getElem?_map] at h
  by_cases hi : i < n
  · rw [List.getElem?_range hi] at h
    exact ⟨hi, (Option.some.inj h).symm⟩
  · rw [List.getElem?_eq_none (by rw [List.length_range]; omega)] at h
    cases h
theorem rngD_len {lo : Int} {n : Nat} : (rngD lo n).length = n := by
  unfold rngD
  rw [List.length_map, List.length_range]
theorem itok_range {w : W} {ls : List Addr} {H : Hp} {lo : Int} {n : Nat} : ItOk K w ls (Itr lo n) H (rngD lo n) :=
  ⟨fun H3 w2 ls2 σ2 Δ2 G3 L3 i d g c3 hi => by
    obtain ⟨h1, rfl⟩ := rngD_get hi
    exact ⟨h1, fun x H' ⟨hH, hx⟩ => by
      subst hH
      exact ⟨c3, Ext.refl, hx⟩⟩, fun _ _ _ _ => Nat.le_of_eq rngD_len.symm⟩
theorem evi_rng1 {ta : TA} {Qi : List D → List M → List M → Prop} (h : EvA K ta Δ G L fun ss G1 L1 => ∃ j : Int, ss = [.d (.int j)] ∧ -(2 ^ 62) ≤ j ∧ j < 2 ^ 62 ∧ Qi (rngD 0 j.toNat) G1 L1) : EvI K (iRng1 ta) Δ G L Qi := fun w ls σ H c R q =>
  h w ls σ H c _ fun vs ss H2 G2 L2 c2 e2 r2 ⟨j, e, h1, h2, k⟩ => by
    subst e
    cases r2 with
    | cons r t =>
      cases t
      exact ⟨j, by rw [show _ = V.int j from r], h1, h2, q _ H2 _ G2 L2 c2 e2 itok_range k⟩
theorem evi_rng2 {ta : TA} {Qi : List D → List M → List M → Prop} (h : EvA K ta Δ G L fun ss G1 L1 => ∃ i j : Int, ss = [.d (.int i), .d (.int j)] ∧ (-(2 ^ 62) ≤ i ∧ i < 2 ^ 62 ∧ -(2 ^ 62) ≤ j ∧ j < 2 ^ 62) ∧ Qi (rngD i (j - i).toNat) G1 L1) : EvI K (iRng2 ta) Δ G L Qi := fun w ls σ H c R q =>
  h w ls σ H c _ fun vs ss H2 G2 L2 c2 e2 r2 ⟨i, j, e, h1, k⟩ => by
    subst e
    cases r2 with
    | cons r t =>
      cases t with
      | cons r' t' =>
        cases t'
        exact ⟨i, j, by rw [show _ = V.int i from r, show _ = V.int j from r'], h1, q _ H2 _ G2 L2 c2 e2 itok_range k⟩
theorem st_for {wi : TI} {g : TG} {tb : TS} (h : EvI K wi Δ G L fun items G1 L1 => ∃ P : Nat → Sl → List M → List M → Prop, P 0 Δ G1 L1 ∧
    (∀ i d Δ' G' L', items[i]? = some d → P i Δ' G' L' → TgC K g (fun _ => True) (.d d) Δ' G' L' fun Δ2 G2 L2 => StC K tb Δ2 G2 L2 { E with nx := P (i + 1), ct := P (i + 1), bk := E.nx }) ∧
    ∀ Δ' G' L', P items.length Δ' G' L' → E.nx Δ' G' L') : StC K (tFor wi g tb) Δ G L E := fun w ls σ H c D s =>
  h w ls σ H c _ fun J H1 items G1 L1 c1 e1 it ⟨P, p0, ps, pe⟩ => by
    have g1 : Grow H H1 (Rg w ls) (Rg w ls) := e1.grow c.reg
    refine ⟨fun i m σ' H' => m = items.length - i ∧ i ≤ items.length ∧ ∃ ls' Δ' G' L', Ctx K w ls' σ' H' Δ' G' L' ∧ Grow H1 H' (Rg w ls) (Rg w ls') ∧ P i Δ' G' L',
      ⟨_, rfl, Nat.zero_le _, ls, Δ, G1, L1, c1, Grow.refl _ _, p0⟩, ?_⟩
    rintro i m σ' H' ⟨rfl, hi, ls', Δ', G', L', c', g', p⟩
    by_cases hlt : i < items.length
    · obtain ⟨go, yl⟩ := it.go H' w ls' σ' Δ' G' L' i _ g' c' (List.getElem?_eq_getElem hlt)
      refine .inr ⟨go, fun σ2 H2 => ∃ ls2 Δ2 G2 L2, Ctx K w ls2 σ2 H2 Δ2 G2 L2 ∧ Grow H1 H2 (Rg w ls) (Rg w ls2) ∧ P (i + 1) Δ2 G2 L2, fun σ2 H2 ⟨ls2, Δ2, G2, L2, c2, g2, p2⟩ => ⟨_, by omega, rfl, hlt, ls2, Δ2, G2, L2, c2, g2, p2⟩, fun x H3 hy => ?_⟩
      obtain ⟨c3, e3, r3⟩ := yl x H3 hy
      refine ps i _ Δ' G' L' (List.getElem?_eq_getElem hlt) p w ls' σ' H3 x c3 r3 _ fun σ4 H4 Δ4 G4 L4 c4 e4 _ _ k4 => ?_
      have g4 : Grow H1 H4 (Rg w ls) (Rg w ls') := g'.trans ((e3.trans e4).grow c'.reg)
      exact k4 w ls' σ4 H4 c4 _ ⟨fun ls5 σ5 H5 Δ5 G5 L5 c5 g5 p5 => ⟨ls5, Δ5, G5, L5, c5, g4.trans g5, p5⟩, s.rt, fun ls5 σ5 H5 Δ5 G5 L5 c5 g5 p5 => s.nx ls5 σ5 H5 Δ5 G5 L5 c5 (g1.trans (g4.trans g5)) p5,
        fun ls5 σ5 H5 Δ5 G5 L5 c5 g5 p5 => ⟨ls5, Δ5, G5, L5, c5, g4.trans g5, p5⟩, fun ls5 H5 g5 => s.wd ls5 H5 (g1.trans (g4.trans g5))⟩
    · have e : i = items.length := by omega
      subst e
      exact .inl ⟨it.stop H' w ls' g', s.nx ls' σ' H' Δ' G' L' c' (g1.trans g') (pe Δ' G' L' p)⟩
/-! comprehensions -/
def W.add (w : W) (p : Addr) : W := ⟨fun a => w.R a ∨ a = p, w.gs, w.H0⟩
theorem rg_add {w : W} {p : Addr} {ls : List Addr} {a : Addr} : Rg (w.add p) ls a ↔ Rg w (ls ++ [p]) a := by
  unfold Rg W.add
  rw [List.mem_append, List.mem_singleton]
  constructor
  · rintro ((h | h) | h)
    · exact .inl h
    · exact .inr (.inr h)
    · exact .inr (.inl h)
  · rintro (h | h | h)
    · exact .inl (.inl h)
    · exact .inr h
    · exact .inl (.inr h)
theorem grow_iff {H : Hp} {R R' : Addr → Prop} (h : ∀ a, R' a → R a) : Grow H H R R' := ⟨fun _ _ e _ => e, fun a _ _ r => h a r⟩
theorem Ctx.hide {w : W} {ls : List Addr} {σ : L2.St} {H : Hp} (c : Ctx K w ls σ H Δ G L) {p : Addr} {o : HO} (h : H p = none) (nt : NoT o := by intro _ z; cases z) : Ctx K (w.add p) ls σ (upd H p o) Δ G L := by
  have g : Grow H (upd H p o) (Rg w ls) (Rg (w.add p) ls) := ((grow_reg h).trans (grow_iff fun a r => rg_add.mp r)).trans (grow_new h)
  have k := keep_new (o := o) h
  refine ⟨fun a r => .inl (c.reg a r), fun a r => ?_, c.nd, c.fr, fun a u e n => k a u (c.h0 a u e n), c.sl.grow g (Pre.refl _) (Pre.refl _),
    paired_map c.gl fun a m _ q => q.grow g (Pre.refl _) (Pre.refl _) (k a), paired_map c.lo fun a m _ q => q.grow g (Pre.refl _) (Pre.refl _) (k a), fun a m r => r.elim (c.ld a m) fun z => c.free h (.inr (z ▸ m))⟩
  rcases r with r | r
  · obtain ⟨u, e, n⟩ := c.rin a r
    exact ⟨u, k a u e, n⟩
  · subst r
    exact ⟨o, upd_same, nt⟩
theorem Ctx.setH {w : W} {ls : List Addr} {σ : L2.St} {H : Hp} {p : Addr} {o u : HO} (c : Ctx K (w.add p) ls σ H Δ G L) (h : H p = some u) (n0 : w.H0 p = none) (np : p ∉ w.gs) (nl : p ∉ ls) (nt : NoT o := by intro _ z; cases z) : Ctx K (w.add p) ls σ (upd H p o) Δ G L := by
  have g : Grow H (upd H p o) (Rg (w.add p) ls) (Rg (w.add p) ls) := grow_upd (.inl (.inr rfl))
  refine ⟨c.reg, fun a r => ?_, c.nd, c.fr, fun a u e n => ?_, c.sl.grow g (Pre.refl _) (Pre.refl _),
    paired_map c.gl fun a m ha q => q.grow g (Pre.refl _) (Pre.refl _) (upd_other fun z => np (z ▸ ha)), paired_map c.lo fun a m ha q => q.grow g (Pre.refl _) (Pre.refl _) (upd_other fun z => nl (z ▸ ha)), c.ld⟩
  · by_cases z : a = p
    · subst z
      exact ⟨_, upd_same, nt⟩
    · obtain ⟨u, e, n⟩ := c.rin a r
      exact ⟨u, by rw [upd_ne z]; exact e, n⟩
  · have z : a ≠ p := fun z => by
      rw [z] at e
      rw [show w.H0 p = some u from e] at n0
      cases n0
    rw [upd_ne z]
    exact c.h0 a u e n
theorem Ctx.show {w : W} {ls : List Addr} {σ : L2.St} {H : Hp} {p : Addr} {vs : List V} {ds : List D} (c : Ctx K (w.add p) ls σ H Δ G L) (hr : ∀ a ∈ w.gs, w.R a) (h : H p = some (.lst vs)) (r : RepL K H (Rg (w.add p) ls) ds vs) (n0 : w.H0 p = none) (np : p ∉ w.gs) (nl : p ∉ ls) (nR : ¬ w.R p) : NewAt K w ls σ H Δ G L p (.pl ds) := by
  have g1 : Grow H H (Rg (w.add p) ls) (Rg w (ls ++ [p])) := grow_iff fun a r => rg_add.mpr r
  have g2 : Grow H H (Rg (w.add p) ls) (Rg w ls) := grow_iff fun a r => by
    rcases r with r | r
    · exact .inl (.inl r)
    · exact .inr r
  refine ⟨⟨hr, fun a r => c.rin a (.inl r), ?_, ?_, c.h0, c.sl.grow g1 (Pre.refl _) (Pre.app _ _), paired_map c.gl fun a m _ q => q.grow g1 (Pre.refl _) (Pre.nil _) (fun _ z => z),
    paired_app (paired_map c.lo fun a m _ q => q.grow g1 (Pre.refl _) (Pre.app _ _) (fun _ z => z)) (.cons ⟨vs, h, r.grow g1⟩ .nil), fun a ha r => (List.mem_append.mp ha).elim (fun z => c.ld a z (.inl r)) fun z => nR ((List.mem_singleton.mp z) ▸ r)⟩,
    ⟨hr, fun a r => c.rin a (.inl r), c.nd, c.fr, c.h0, c.sl.grow g2 (Pre.refl _) (Pre.refl _), paired_map c.gl fun a m _ q => q.grow g2 (Pre.refl _) (Pre.refl _) (fun _ z => z),
    paired_map c.lo fun a m _ q => q.grow g2 (Pre.refl _) (Pre.refl _) (fun _ z => z), fun a m r => c.ld a m (.inl r)⟩, fun x e => ?_⟩
  · show (w.gs ++ (ls ++ [p])).Nodup
    rw [← List.append_assoc]
    refine List.nodup_append.mpr ⟨c.nd, by simp, fun a ha b hb => ?_⟩
    rw [List.mem_singleton] at hb
    subst hb
    rintro rfl
    rcases List.mem_append.mp ha with z | z
    · exact np z
    · exact nl z
  · intro a ha
    rcases List.mem_append.mp ha with z | z
    · exact c.fr a z
    · rw [List.mem_singleton] at z
      subst z
      exact n0
  · cases e
    refine ⟨p, vs, rfl, ⟨h, ?_⟩, r.grow g2⟩
    rintro (z | z)
    · exact nR z
    · exact nl z
def wipeD (Δ : Sl) : List Nat → Sl
  | [] => Δ
  | v :: vs => (wipeD Δ vs).set v none
theorem wipe_get {σ : L2.St} {k : Nat} : ∀ {vs : List Nat}, (wipe σ vs)[k]? = if k ∈ vs ∧ k < σ.length then some none else σ[k]?
  | [] => by simp [wipe]
  | v :: vs => by
    show ((wipe σ vs).set v none)[k]? = _
    rw [List.getElem?_set, wipe_length]
    by_cases hv : v = k
    · subst hv
      by_cases hl : v < σ.length
      · simp [hl]
      · simp [hl]
    · rw [if_neg hv, wipe_get (vs := vs)]
      have : (k ∈ v :: vs) ↔ k ∈ vs := by
        rw [List.mem_cons]
        exact ⟨fun h => h.resolve_left (fun z => hv z.symm), .inr⟩
      simp only [this]
theorem wipe_eq {σ σ' : L2.St} {vs : List Nat} (hl : σ'.length = σ.length) (h : ∀ k, ¬ k ∈ vs → σ'[k]? = (wipe σ vs)[k]?) : wipe σ' vs = wipe σ vs := by
  refine List.ext_getElem? fun k => ?_
  rw [wipe_get (σ := σ'), wipe_get (σ := σ)]
  by_cases hk : k ∈ vs
  · rw [hl]
    by_cases hlt : k < σ.length
    · simp [hk, hlt]
    · simp [hk, hlt]
      omega
  · rw [if_neg (fun z => hk z.1), if_neg (fun z => hk z.1), h k hk, wipe_get, if_neg (fun z => hk z.1)]
theorem SlOk.wipe {H : Hp} {R : Addr → Prop} {gs ls : List Addr} {σ : L2.St} (h : SlOk K H R gs ls σ Δ) : ∀ vs, SlOk K H R gs ls (wipe σ vs) (wipeD Δ vs)
  | [] => h
  | v :: vs => by
    have ih := SlOk.wipe h vs
    refine ⟨by show ((L2.wipe σ vs).set v none).length = ((wipeD Δ vs).set v none).length; rw [List.length_set, List.length_set, ih.1], fun j s e => ?_⟩
    have e : ((wipeD Δ vs).set v none)[j]? = some (some s) := e
    show ∃ x, ((L2.wipe σ vs).set v none)[j]? = some (some x) ∧ _
    rw [List.getElem?_set] at e ⊢
    split at e
    · split at e <;> cases e
    · rename_i hne
      rw [if_neg hne]
      exact ih.2 j s e
theorem Ctx.wipe {w : W} {ls : List Addr} {σ : L2.St} {H : Hp} (c : Ctx K w ls σ H Δ G L) (vs : List Nat) : Ctx K w ls (wipe σ vs) H (wipeD Δ vs) G L := ⟨c.reg, c.rin, c.nd, c.fr, c.h0, c.sl.wipe vs, c.gl, c.lo, c.ld⟩
theorem evn_lc {wi : TI} {g : TG} {vs : List Nat} {Qn : PoN} (h : EvI K wi Δ G L fun items G1 L1 => ∃ P : Nat → List D → List M → List M → Prop, P 0 [] G1 L1 ∧ items.length < sizeLine ∧
    (∀ i d acc G' L', items[i]? = some d → acc.length ≤ i → P i acc G' L' → TgC K g (· ∈ vs) (.d d) (wipeD Δ vs) G' L' fun Δ2 G2 L2 =>
      EvB K tt Δ2 G2 L2 fun b G3 L3 => if b = true then EvC K te Δ2 G3 L3 fun s G4 L4 => ∃ x, s = .d x ∧ P (i + 1) (acc ++ [x]) G4 L4 else P (i + 1) acc G3 L3) ∧
    ∀ acc G' L', P items.length acc G' L' → Qn (.pl acc) G' L') : EvN K (tLc wi g tt te vs) Δ G L Qn := fun w ls σ H c Q r =>
  h w ls σ H c _ fun J H1 items G1 L1 c1 e1 it ⟨P, p0, hz, ps, pe⟩ => fun D hD => by
    have nR := c1.free hD
    have n0 := c1.free0 hD
    have ng : D ∉ w.gs := fun z => nR (.inl (c1.reg D z))
    have nl : D ∉ ls := fun z => nR (.inr z)
    have cH := c1.hide (o := .lst []) hD
    have gH : Grow H1 (upd H1 D (.lst [])) (Rg w ls) (Rg (w.add D) ls) := ((grow_reg hD).trans (grow_iff fun a r => rg_add.mp r)).trans (grow_new hD)
    refine ⟨fun i m H' => m = items.length - i ∧ i ≤ items.length ∧ ∃ acc vs' G' L', Ctx K (w.add D) ls σ H' Δ G' L' ∧ Grow H1 H' (Rg w ls) (Rg (w.add D) ls) ∧ Ext w ls H1 H' ∧ H' D = some (.lst vs') ∧ RepL K H' (Rg (w.add D) ls) acc vs' ∧ acc.length ≤ i ∧ P i acc G' L',
      ⟨_, rfl, Nat.zero_le _, [], [], G1, L1, cH, gH, Ext.new hD, upd_same, rfl, Nat.le_refl _, p0⟩, ?_⟩
    rintro i m H' ⟨rfl, hi, acc, vs', G', L', c', g', e', hD', r', hl, p⟩
    by_cases hlt : i < items.length
    · obtain ⟨go, yl⟩ := it.go H' (w.add D) ls (wipe σ vs) (wipeD Δ vs) G' L' i _ g' (c'.wipe vs) (List.getElem?_eq_getElem hlt)
      refine .inr ⟨go, fun H2 => ∃ acc2 vs2 G2 L2, Ctx K (w.add D) ls σ H2 Δ G2 L2 ∧ Grow H1 H2 (Rg w ls) (Rg (w.add D) ls) ∧ Ext w ls H1 H2 ∧ H2 D = some (.lst vs2) ∧ RepL K H2 (Rg (w.add D) ls) acc2 vs2 ∧ acc2.length ≤ i + 1 ∧ P (i + 1) acc2 G2 L2,
        fun H2 ⟨acc2, vs2, G2, L2, q⟩ => ⟨_, by omega, rfl, hlt, acc2, vs2, G2, L2, q⟩, fun x H3 hy => ?_⟩
      obtain ⟨c3, e3, r3⟩ := yl x H3 hy
      refine ps i _ acc G' L' (List.getElem?_eq_getElem hlt) hl p (w.add D) ls _ H3 x c3 r3 _ fun σ4 H4 Δ4 G4 L4 c4 e4 l4 o4 k4 => ?_
      have hw : wipe σ4 vs = wipe σ vs := wipe_eq (l4.trans (wipe_length _ _)) o4
      -- back to σ, Δ: the slots of Δ stay what they are
      have back : ∀ H5 G5 L5, Ctx K (w.add D) ls σ4 H5 Δ4 G5 L5 → Ext (w.add D) ls H' H5 → Ctx K (w.add D) ls σ H5 Δ G5 L5 := fun H5 G5 L5 c5 e5 =>
        ⟨c5.reg, c5.rin, c5.nd, c5.fr, c5.h0, c'.sl.grow (e5.grow c'.reg) (Pre.refl _) (Pre.refl _), c5.gl, c5.lo, c5.ld⟩
      have exw : ∀ H5, Ext (w.add D) ls H' H5 → Ext w ls H1 H5 := fun H5 e5 a o h1 h2 h3 => e5 a o (e' a o h1 h2 h3) h2 h3
      refine ⟨hw, k4 (w.add D) ls σ4 H4 c4 _ fun b H5 G5 L5 c5 e5 k5 => ?_⟩
      have e45 : Ext (w.add D) ls H' H5 := (e3.trans e4).trans e5
      cases b with
      | true =>
        rw [if_pos rfl] at k5 ⊢
        refine k5 (w.add D) ls σ4 H5 c5 _ fun v s H6 G6 L6 c6 e6 r6 ⟨y, e, k6⟩ => ?_
        subst e
        have e46 := e45.trans e6
        have h6 : H6 D = some (.lst vs') := e46 D _ hD' ng nl
        have r6' := r'.grow (e46.grow c'.reg)
        have gu : Grow H6 (upd H6 D (.lst (vs' ++ [v]))) (Rg (w.add D) ls) (Rg (w.add D) ls) := grow_upd (.inl (.inr rfl))
        refine ⟨vs', h6, by rw [r'.length]; omega, acc ++ [y], vs' ++ [v], G6, L6, Ctx.setH (back H6 G6 L6 c6 e46) h6 n0 ng nl, g'.trans ((e46.grow c'.reg).trans gu), ?_, upd_same, (r6'.app (RepL.one r6)).grow gu, by rw [List.length_append]; show acc.length + 1 ≤ i + 1; omega, k6⟩
        intro a o h1 h2 h3
        rw [upd_ne (ne_of_none h1 hD)]
        exact exw H6 e46 a o h1 h2 h3
      | false =>
        rw [if_neg Bool.false_ne_true] at k5 ⊢
        exact ⟨acc, vs', G5, L5, back H5 G5 L5 c5 e45, g'.trans (e45.grow c'.reg), exw H5 e45, e45 D _ hD' ng nl, r'.grow (e45.grow c'.reg), by omega, k5⟩
    · have e : i = items.length := by omega
      subst e
      exact .inl ⟨it.stop H' (w.add D) ls g', r D _ H' G' L' (none_back c1 e1 hD) (c'.show c.reg hD' r' n0 ng nl (fun z => nR (.inl z))) (e1.trans e') (pe acc G' L' p)⟩
end
end
end DL

namespace DL
open PySem PySem.Spec PyProof.Rows L2
section
variable {K : PySem.W.Frag}
inductive Res where
  | v (s : S) | new (ms : List M) (k : Nat)
abbrev DSpec := List S → List M → (Res → List M → Prop) → Prop
def spD (K : PySem.W.Frag) (F : DSpec) : Sp := fun vs H Q _ => ∃ (w : W) (ss : List S) (G : List M) (Qd : Res → List M → Prop), w.H0 = H ∧ Ctx K w [] [] H [] G [] ∧ Paired (RS K H (Rg w []) w.gs []) ss vs ∧ F ss G Qd ∧
  (∀ v s H' G', Ctx K w [] [] H' [] G' [] → RS K H' (Rg w []) w.gs [] s v → Qd (.v s) G' → Q v H') ∧
  (∀ ps k p ms H' G', Ctx K w ps [] H' [] G' ms → ps[k]? = some p → Qd (.new ms k) G' → Q (.ref p) H')
def startD (N : List Str) (ss : List S) : Sl := ss.map some ++ List.replicate (N.length - ss.length) none
def endsD (Qd : Res → List M → Prop) : EndsD where
  nx := fun _ G _ => Qd (.v (.d .non)) G
  rt := fun s G L => match s with
    | .l k => Qd (.new L k) G
    | .d x => Qd (.v (.d x)) G
    | .g k => Qd (.v (.g k)) G
section
variable {w : W} {ls : List Addr} {σ : L2.St} {H : Hp} {Δ : Sl} {G L : List M}
theorem Ctx.forgetS (c : Ctx K w ls σ H Δ G L) : Ctx K w ls [] H [] G L := ⟨c.reg, c.rin, c.nd, c.fr, c.h0, ⟨rfl, fun i s e => by simp at e⟩, c.gl, c.lo, c.ld⟩
theorem grow_drop {H : Hp} {w : W} {ls : List Addr} : Grow H H (Rg w ls) (Rg w []) := ⟨fun _ _ e _ => e, fun a o e r => by
  rcases r with r | r
  · exact .inl r
  · cases r⟩
theorem Ctx.forget (c : Ctx K w ls σ H Δ G L) : Ctx K w [] [] H [] G [] :=
  ⟨c.reg, c.rin, by rw [List.append_nil]; exact (List.nodup_append.mp c.nd).1, fun _ h => (by cases h), c.h0, ⟨rfl, fun i s e => by simp at e⟩,
    paired_map c.gl fun a m _ q => q.grow grow_drop (Pre.refl _) (Pre.refl _) fun _ z => z, .nil, fun _ h => (by cases h)⟩
theorem paired_get_l {α β : Type} {F : α → β → Prop} : ∀ {as : List α} {bs : List β} {i : Nat} {a : α}, Paired F as bs → as[i]? = some a → ∃ b, bs[i]? = some b ∧ F a b
  | _, _, 0, _, .cons h t, e => by
    simp at e
    subst e
    exact ⟨_, rfl, h⟩
  | _, _, i + 1, _, .cons h t, e => by
    obtain ⟨a, q, r⟩ := paired_get_l (i := i) t (by simpa using e)
    exact ⟨a, by simpa using q, r⟩
theorem slok_start {R : Addr → Prop} {gs ls : List Addr} {N : List Str} {ss : List S} {vs : List V} (r : Paired (RS K H R gs ls) ss vs) : SlOk K H R gs ls (L2.start N vs) (startD N ss) := by
  have hl := paired_len r
  refine ⟨by unfold L2.start startD; rw [List.length_append, List.length_append, List.length_map, List.length_map, List.length_replicate, List.length_replicate, hl], fun i s e => ?_⟩
  unfold startD at e
  unfold L2.start
  by_cases hi : i < ss.length
  · rw [List.getElem?_append_left (by rw [List.length_map]; exact hi), List.getElem?_map] at e
    rw [List.getElem?_append_left (by rw [List.length_map, ← hl]; exact hi), List.getElem?_map]
    cases q : ss[i]? with
    | none =>
      rw [q] at e
      cases e
    | some z =>
      rw [q] at e
      have e : some (some z) = some (some s) := e
      cases e
      obtain ⟨v, hv, rr⟩ := paired_get_l r q
      exact ⟨v, by rw [hv]; rfl, rr⟩
  · rw [List.getElem?_append_right (by rw [List.length_map]; omega), List.getElem?_replicate] at e
    split at e <;> cases e
end
section
variable {P : Program} {w : World} {mg : Str → Option Value} {base : Heap}
theorem okD {x qual : Str} {st : Stmt} {f : Addr} {fd : FuncData} {N ps : List Str} {k : Nat} {sp : DSpec} (F : Fun K x qual st f fd) (S : FnScope N ps (defScope st)) (len : ∀ ss G Qd, sp ss G Qd → ss.length = ps.length)
    (hbody : ∀ (cdv : Value) (A : Around) (outer : List Env) (s : Shared) (H : Hp) (E : XK) (ss : List DL.S) (G : List M) (Qd : Res → List M → Prop), Room k (A.deeper (envOfC qual (defScope st) s.heap.objs.size f cdv)) → sp ss G Qd →
      ∃ t, PSs (cxOf CX0 P w K mg base N qual (defScope st) f cdv A outer s H E).nox (defBody st) t ∧ StC K t (startD N ss) G [] (endsD Qd)) : FnOk P w K mg base CX0 (k + 1) f fd ps (spD K sp) := by
  refine F.ok S (fun vs H Q E h => ?_) (fun cdv A outer s H vs Q E hr h => ?_)
  · obtain ⟨w, ss, G, Qd, _, _, r, q, _⟩ := h
    rw [← paired_len r]
    exact len ss G Qd q
  · obtain ⟨w, ss, G, Qd, h0, c, r, q, k1, k2⟩ := h
    obtain ⟨t, ht, hs⟩ := hbody cdv A outer s H E ss G Qd hr q
    refine ⟨t, ht, hs w [] (L2.start N vs) H ⟨c.reg, c.rin, c.nd, c.fr, c.h0, slok_start r, c.gl, c.lo, c.ld⟩ _ ⟨?_, ?_, ?_, ?_, fun _ _ _ => trivial⟩⟩
    · intro ls' σ' H' Δ' G' L' c' g' n'
      exact k1 .non (.d .non) H' G' c'.forget rfl n'
    · intro ls' σ' H' Δ' G' L' v z c' rz n'
      cases z with
      | d x => exact k1 v (.d x) H' G' c'.forget (Rep.grow grow_drop rz) n'
      | g j => exact k1 v (.g j) H' G' c'.forget rz n'
      | l j =>
        obtain ⟨a, ha, rfl⟩ := rz
        exact k2 ls' j a L' H' G' c'.forgetS ha n'
    · intro ls' σ' H' Δ' G' L' c' g' n'
      exact n'.elim
    · intro ls' σ' H' Δ' G' L' c' g' n'
      exact n'.elim
end

/-! ### calls -/
def noL : List S → Bool
  | [] => true
  | .l _ :: _ => false
  | _ :: r => noL r
theorem noL_rs {H : Hp} {R : Addr → Prop} {gs ls ls' : List Addr} : ∀ {ss : List S} {vs : List V}, noL ss = true → Paired (RS K H R gs ls) ss vs → Paired (RS K H R gs ls') ss vs
  | [], _, _, .nil => .nil
  | .d x :: r, _, h, .cons q t => .cons q (noL_rs (ss := r) h t)
  | .g x :: r, _, h, .cons q t => .cons q (noL_rs (ss := r) h t)
section
variable {Δ : Sl} {G L : List M} {Qd : Po} {ta : TA} {sp : DSpec} {E0' : XK}
def callee (w : W) (ls : List Addr) (H : Hp) : W := ⟨Rg w ls, w.gs, H⟩
theorem Ctx.callee {w : W} {ls : List Addr} {σ : L2.St} {H : Hp} (c : Ctx K w ls σ H Δ G L) : Ctx K (DL.callee w ls H) [] [] H [] G [] := by
  have g : Grow H H (Rg w ls) (Rg (DL.callee w ls H) []) := grow_iff fun a r => r.elim id (fun z => by cases z)
  refine ⟨fun a h => .inl (c.reg a h), fun a r => ?_, by rw [List.append_nil]; exact (List.nodup_append.mp c.nd).1, fun _ h => (by cases h), fun a o h _ => h, ⟨rfl, fun i s e => by simp at e⟩,
    paired_map c.gl fun a m _ q => q.grow g (Pre.refl _) (Pre.refl _) fun _ z => z, .nil, fun _ h => (by cases h)⟩
  rcases r with r | r
  · exact c.rin a r
  · exact c.lin r
theorem Ctx.back {w : W} {ls : List Addr} {σ : L2.St} {H H' : Hp} {G' ms : List M} {ps : List Addr} (c : Ctx K w ls σ H Δ G L) (c' : Ctx K (DL.callee w ls H) ps [] H' [] G' ms) : Ctx K w ls σ H' Δ G' L ∧ Ext w ls H H' := by
  have e : ∀ a o, H a = some o → a ∉ w.gs → H' a = some o := c'.h0
  have e2 : Ext w ls H H' := fun a o h n _ => e a o h n
  have g := e2.grow c.reg
  have nl : ∀ a ∈ ls, a ∉ w.gs := fun a h z => (List.nodup_append.mp c.nd).2.2 a z a h rfl
  have g3 : Grow H' H' (Rg (DL.callee w ls H) ps) (Rg w ls) := grow_iff fun a r => .inl r
  refine ⟨⟨c.reg, fun a r => c'.rin a (.inl r), c.nd, c.fr, fun a o h n => e a o (c.h0 a o h n) n, c.sl.grow g (Pre.refl _) (Pre.refl _),
    paired_map c'.gl fun a m _ q => q.grow g3 (Pre.refl _) (Pre.refl _) (fun _ z => z), paired_map c.lo fun a m ha q => q.grow g (Pre.refl _) (Pre.refl _) (fun o h => e a o h (nl a ha)), c.ld⟩, e2⟩
theorem new_free {w : W} {ls : List Addr} {σ : L2.St} {H H' : Hp} {G' ms : List M} {ps : List Addr} (c : Ctx K w ls σ H Δ G L) (c' : Ctx K (DL.callee w ls H) ps [] H' [] G' ms) {p : Addr} (hp : p ∈ ps) : H p = none ∧ ¬ Rg w ls p := ⟨c'.fr p hp, c.free (c'.fr p hp)⟩
theorem dat_rep {w : W} {ls : List Addr} {σ : L2.St} {H H' : Hp} {G' ms : List M} {ps : List Addr} (c : Ctx K w ls σ H Δ G L) (c' : Ctx K (DL.callee w ls H) ps [] H' [] G' ms) {k : Nat} {p : Addr} {m : M} {x : D} (hp : ps[k]? = some p) (hm : ms[k]? = some m) (hx : m.dat = some x) : Rep K H' (Rg w ls) x (.ref p) := by
  obtain ⟨_, nR⟩ := new_free c c' (List.mem_of_getElem? hp)
  obtain ⟨a, ha, q⟩ := paired_get c'.lo hm
  rw [hp] at ha
  cases ha
  have g3 : Grow H' H' (Rg (DL.callee w ls H) ps) (Rg w ls) := grow_iff fun a r => .inl r
  cases m with
  | pl ds =>
    cases hx
    obtain ⟨vs, h1, r⟩ := q
    exact ⟨p, vs, rfl, ⟨h1, nR⟩, r.grow g3⟩
  | hl xs => cases hx
  | dc ds =>
    cases hx
    obtain ⟨vs, h1, r⟩ := q
    exact ⟨p, vs, rfl, ⟨h1, nR⟩, r.grow g3⟩
  | ob C ds =>
    cases hx
    obtain ⟨dx, vs, h1, r⟩ := q
    exact ⟨p, dx, vs, rfl, ⟨h1, nR⟩, r.grow g3⟩
  | dh kvs => cases hx
  | dt kvs => cases hx
  | dz od kvs => cases hx
  | og C fs => cases hx
  | dq kvs => cases hx
def asV (Qd : Po) (L : List M) : Res → List M → Prop
  | .v s, G => Qd s G L
  | .new ms k, G => ∃ m x, ms[k]? = some m ∧ m.dat = some x ∧ Qd (.d x) G L
theorem sp_call {w : W} {ls : List Addr} {σ : L2.St} {H : Hp} {ss : List S} {vs : List V} {Q : VK} {E : XK} (c : Ctx K w ls σ H Δ G L) (r : Paired (RS K H (Rg w ls) w.gs ls) ss vs) (hn : noL ss = true) (h : sp ss G (asV Qd L)) (q : Ret K w ls σ Δ H Qd Q) : spD K sp vs H Q E := by
  have g : Grow H H (Rg w ls) (Rg (DL.callee w ls H) []) := grow_iff fun a r => r.elim id (fun z => by cases z)
  have g' : ∀ H', Grow H' H' (Rg (DL.callee w ls H) []) (Rg w ls) := fun H' => grow_iff fun a r => .inl r
  refine ⟨DL.callee w ls H, ss, G, asV Qd L, rfl, c.callee, paired_map (noL_rs hn r) fun a b _ z => z.grow g (Pre.refl _) (Pre.refl _), h, fun v s H' G' c' rs k => ?_, fun ps j p ms H' G' c' hp k => ?_⟩
  · obtain ⟨cb, eb⟩ := c.back c'
    exact q v s H' G' L cb eb (RS.grow (g' H') (Pre.refl _) (Pre.nil _) rs) k
  · obtain ⟨m, x, hm, hx, k⟩ := k
    obtain ⟨cb, eb⟩ := c.back c'
    exact q _ (.d x) H' G' L cb eb (dat_rep c c' hp hm hx) k
theorem evc_call (h : EvA K ta Δ G L fun ss G1 L1 => noL ss = true ∧ sp ss G1 (asV Qd L1)) : EvC K (tCall (spD K sp) [] E0' ta) Δ G L Qd := fun w ls σ H c Q r => h w ls σ H c _ fun vs ss H2 G2 L2 c2 e2 r2 ⟨hn, k⟩ => by
  show spD K sp (vs ++ []) H2 Q E0'
  rw [List.append_nil]
  exact sp_call c2 r2 hn k (r.ext e2)
def S.shift (n : Nat) : S → S
  | .l k => .l (n + k)
  | s => s
def M.shift (n : Nat) : M → M
  | .hl xs => .hl (xs.map (S.shift n))
  | .dh kvs => .dh (kvs.map fun p => (p.1, p.2.shift n))
  | .og C fs => .og C (fs.map fun p => (p.1, p.2.shift n))
  | .dq kvs => .dq (kvs.map fun p => (p.1, p.2.shift n))
  | m => m
theorem RS.shift {H : Hp} {R R' : Addr → Prop} {gs ls ps : List Addr} (g : Grow H H R R') : ∀ {s : S} {v : V}, RS K H R gs ps s v → RS K H R' gs (ls ++ ps) (s.shift ls.length) v
  | .d _, _, q => Rep.grow g q
  | .g _, _, q => q
  | .l k, _, ⟨b, hb, e⟩ => by
    refine ⟨b, ?_, e⟩
    rw [List.getElem?_append_right (Nat.le_add_right _ _), Nat.add_sub_cancel_left]
    exact hb
theorem paired_map2' {α β γ : Type} {F : α → β → Prop} {F' : γ → β → Prop} {f : α → γ} : ∀ {as : List α} {bs : List β}, Paired F as bs → (∀ a b, F a b → F' (f a) b) → Paired F' (as.map f) bs
  | _, _, .nil, _ => .nil
  | _, _, .cons h t, k => .cons (k _ _ h) (paired_map2' t k)
theorem MOk.shift {H : Hp} {R R' : Addr → Prop} {gs ls ps : List Addr} (g : Grow H H R R') {a : Addr} : ∀ {m : M}, MOk K H R gs ps a m → MOk K H R' gs (ls ++ ps) a (m.shift ls.length)
  | .pl _, ⟨vs, h, r⟩ => ⟨vs, h, RepL.grow g r⟩
  | .hl xs, ⟨vs, h, r⟩ => ⟨vs, h, by
    clear h
    induction r with
    | nil => exact .nil
    | cons q t ih =>
      refine .cons ?_ ih
      rename_i s v ss vs
      cases s with
      | d x => exact Rep.grow g q
      | g k => exact q
      | l k =>
        obtain ⟨b, hb, e⟩ := q
        refine ⟨b, ?_, e⟩
        rw [List.getElem?_append_right (Nat.le_add_right _ _), Nat.add_sub_cancel_left]
        exact hb⟩
  | .dc _, ⟨vs, h, r⟩ => ⟨vs, h, RepK.grow g r⟩
  | .ob _ _, ⟨dx, vs, h, r⟩ => ⟨dx, vs, h, RepF.grow g r⟩
  | .dh _, ⟨vs, h, r⟩ => ⟨vs, h, paired_map2' r fun _ _ q => ⟨q.1, q.2.shift g⟩⟩
  | .dt _, h => h
  | .dz _ _, h => h
  | .og _ _, ⟨dx, vs, h, r⟩ => ⟨dx, vs, h, paired_map2' r fun _ _ q => ⟨q.1, q.2.shift g⟩⟩
  | .dq _, ⟨vs, h, r⟩ => ⟨vs, h, paired_map2' r fun _ _ q => ⟨q.1, q.2.shift g⟩⟩
theorem paired_map2 {α β γ : Type} {F : α → β → Prop} {F' : α → γ → Prop} {f : β → γ} : ∀ {as : List α} {bs : List β}, Paired F as bs → (∀ a b, F a b → F' a (f b)) → Paired F' as (bs.map f)
  | _, _, .nil, _ => .nil
  | _, _, .cons h t, k => .cons (k _ _ h) (paired_map2 t k)
theorem Ctx.adopt {w : W} {ls : List Addr} {σ : L2.St} {H H' : Hp} {G' ms : List M} {ps : List Addr} (c : Ctx K w ls σ H Δ G L) (c' : Ctx K (DL.callee w ls H) ps [] H' [] G' ms) : Ctx K w (ls ++ ps) σ H' Δ G' (L ++ ms.map (M.shift L.length)) ∧ Grow H H' (Rg w ls) (Rg w (ls ++ ps)) := by
  have e : ∀ a o, H a = some o → a ∉ w.gs → H' a = some o := c'.h0
  have hl : ls.length = L.length := paired_len c.lo
  have nl : ∀ a ∈ ls, a ∉ w.gs := fun a h z => (List.nodup_append.mp c.nd).2.2 a z a h rfl
  have nps : ∀ a ∈ ps, H a = none := fun a h => c'.fr a h
  have g : Grow H H' (Rg w ls) (Rg w (ls ++ ps)) := ⟨fun a o h n => e a o h (fun z => n (.inl (c.reg a z))), fun a o h r => by
    rcases r with r | r
    · exact .inl r
    · rcases List.mem_append.mp r with r | r
      · exact .inr r
      · rw [nps a r] at h
        cases h⟩
  have g3 : Grow H' H' (Rg (DL.callee w ls H) ps) (Rg w (ls ++ ps)) := grow_iff fun a r => by
    rcases r with r | r
    · exact .inl (.inl r)
    · rcases List.mem_append.mp r with r | r
      · exact .inl (.inr r)
      · exact .inr r
  refine ⟨⟨c.reg, fun a r => c'.rin a (.inl r), ?_, ?_, fun a o h n => e a o (c.h0 a o h n) n, c.sl.grow g (Pre.refl _) (Pre.app _ _),
    paired_map c'.gl fun a m _ q => q.grow g3 (Pre.refl _) (Pre.refl _) (fun _ z => z), paired_app (paired_map c.lo fun a m ha q => q.grow g (Pre.refl _) (Pre.app _ _) (fun o h => e a o h (nl a ha))) ?_, fun a ha r => (List.mem_append.mp ha).elim (fun z => c.ld a z r) fun z => c.free (nps a z) (.inl r)⟩, g⟩
  · rw [← List.append_assoc]
    refine List.nodup_append.mpr ⟨c.nd, (List.nodup_append.mp c'.nd).2.1, fun a ha b hb z => ?_⟩
    subst z
    have n := nps a hb
    rcases List.mem_append.mp ha with z | z
    · obtain ⟨o, q, _⟩ := c.gin z
      rw [n] at q
      cases q
    · obtain ⟨o, q, _⟩ := c.lin z
      rw [n] at q
      cases q
  · intro a ha
    rcases List.mem_append.mp ha with z | z
    · exact c.fr a z
    · exact c.free0 (nps a z)
  · rw [← hl]
    exact paired_map2 c'.lo fun a m q => q.shift g3
theorem st_ownB {i : Nat} {E : EndsD} (h : EvA K ta Δ G L fun ss G1 L1 => noL ss = true ∧ sp ss G1 fun r G2 => ∃ ms k, r = .new ms k ∧ E.nx (Δ.set i (some (.l (L1.length + k)))) G2 (L1 ++ ms.map (M.shift L1.length))) : StC K (tAsg (tCall (spD K sp) [] E0' ta) (gName i)) Δ G L E := fun w ls σ H c D s => h w ls σ H c _ fun vs ss H2 G2 L2 c2 e2 r2 ⟨hn, k⟩ => by
  show spD K sp (vs ++ []) H2 _ E0'
  rw [List.append_nil]
  have g : Grow H2 H2 (Rg w ls) (Rg (DL.callee w ls H2) []) := grow_iff fun a r => r.elim id (fun z => by cases z)
  refine ⟨DL.callee w ls H2, ss, G2, _, rfl, c2.callee, paired_map (noL_rs hn r2) fun a b _ z => z.grow g (Pre.refl _) (Pre.refl _), k, fun v z H' G' c' rs ⟨ms, j, e, _⟩ => (by cases e), fun ps j p ms H' G' c' hp ⟨ms', j', e, k⟩ => ?_⟩
  cases e
  obtain ⟨ca, ga⟩ := c2.adopt c'
  have hl : ls.length = L2.length := paired_len c2.lo
  refine s.nx (ls ++ ps) _ H' _ G' _ (ca.slot (s := .l (L2.length + j)) ⟨p, ?_, rfl⟩) ((e2.grow c.reg).trans ga) k
  rw [← hl, List.getElem?_append_right (Nat.le_add_right _ _), Nat.add_sub_cancel_left]
  exact hp
def S.pro : S → S
  | .l k => .g k
  | s => s
def S.dem : S → S
  | .g k => .l k
  | s => s
def M.pro : M → M
  | .hl xs => .hl (xs.map S.pro)
  | .dh kvs => .dh (kvs.map fun p => (p.1, p.2.pro))
  | .og C fs => .og C (fs.map fun p => (p.1, p.2.pro))
  | .dq kvs => .dq (kvs.map fun p => (p.1, p.2.pro))
  | m => m
def M.dem : M → M
  | .hl xs => .hl (xs.map S.dem)
  | .dh kvs => .dh (kvs.map fun p => (p.1, p.2.dem))
  | .og C fs => .og C (fs.map fun p => (p.1, p.2.dem))
  | .dq kvs => .dq (kvs.map fun p => (p.1, p.2.dem))
  | m => m
theorem RS.pro {H : Hp} {R : Addr → Prop} {ls : List Addr} : ∀ {s : S} {v : V}, RS K H R [] ls s v → RS K H R ls [] s.pro v
  | .d _, _, h => h
  | .g _, _, ⟨a, h, _⟩ => by simp at h
  | .l _, _, h => h
theorem RS.dem {H : Hp} {R : Addr → Prop} {ls : List Addr} : ∀ {s : S} {v : V}, RS K H R ls [] s v → RS K H R [] ls s.dem v
  | .d _, _, h => h
  | .l _, _, ⟨a, h, _⟩ => by simp at h
  | .g _, _, h => h
theorem MOk.pro {H : Hp} {R : Addr → Prop} {ls : List Addr} {a : Addr} : ∀ {m : M}, MOk K H R [] ls a m → MOk K H R ls [] a m.pro
  | .pl _, h => h
  | .hl _, ⟨vs, h, r⟩ => ⟨vs, h, by
    clear h
    induction r with
    | nil => exact .nil
    | cons q t ih => exact .cons q.pro ih⟩
  | .dc _, h => h
  | .ob _ _, h => h
  | .dh _, ⟨vs, h, r⟩ => ⟨vs, h, paired_map2' r fun _ _ q => ⟨q.1, q.2.pro⟩⟩
  | .dt _, h => h
  | .dz _ _, h => h
  | .og _ _, ⟨dx, vs, h, r⟩ => ⟨dx, vs, h, paired_map2' r fun _ _ q => ⟨q.1, q.2.pro⟩⟩
  | .dq _, ⟨vs, h, r⟩ => ⟨vs, h, paired_map2' r fun _ _ q => ⟨q.1, q.2.pro⟩⟩
theorem MOk.dem {H : Hp} {R : Addr → Prop} {ls : List Addr} {a : Addr} : ∀ {m : M}, MOk K H R ls [] a m → MOk K H R [] ls a m.dem
  | .pl _, h => h
  | .hl _, ⟨vs, h, r⟩ => ⟨vs, h, by
    clear h
    induction r with
    | nil => exact .nil
    | cons q t ih => exact .cons q.dem ih⟩
  | .dc _, h => h
  | .ob _ _, h => h
  | .dh _, ⟨vs, h, r⟩ => ⟨vs, h, paired_map2' r fun _ _ q => ⟨q.1, q.2.dem⟩⟩
  | .dt _, h => h
  | .dz _ _, h => h
  | .og _ _, ⟨dx, vs, h, r⟩ => ⟨dx, vs, h, paired_map2' r fun _ _ q => ⟨q.1, q.2.dem⟩⟩
  | .dq _, ⟨vs, h, r⟩ => ⟨vs, h, paired_map2' r fun _ _ q => ⟨q.1, q.2.dem⟩⟩
end
end
end DL

namespace DL
open PySem PySem.Spec PyProof.Rows L2
section
variable {K : PySem.W.Frag}
/-! ### sequences -/
def seqG (G L : List M) : S → Option (List D)
  | .d (.tup ds) => some ds
  | .d (.scr ns) => some (ns.map .int)
  | s => lsG G L s
section
variable {w : W} {ls : List Addr} {σ : L2.St} {H : Hp} {Δ : Sl} {G L : List M}
theorem seqG_get {v : V} {s : S} {ds : List D} (c : Ctx K w ls σ H Δ G L) (r : RS K H (Rg w ls) w.gs ls s v) (h : seqG G L s = some ds) : ∃ a vs, v = .ref a ∧ (SqL K H a vs ∨ SqT K H a vs) ∧ RepL K H (Rg w ls) ds vs := by
  unfold seqG at h
  split at h
  · cases h
    obtain ⟨a, xs, rfl, h1, q⟩ := r
    exact ⟨a, xs, rfl, .inr h1.sq, q⟩
  · cases h
    obtain ⟨a, rfl, h1⟩ := r
    exact ⟨a, _, rfl, .inl h1.sq, RepL.ints⟩
  · obtain ⟨a, vs, e, h1, q⟩ := lsG_get c r h
    exact ⟨a, vs, e, .inl (.inl (.inl h1)), q⟩
end
section
variable {Δ : Sl} {G L : List M} {Qd : Po} {Qn : PoN} {te ta tb tc : TE}
/-! ### calls of built-ins -/
def ApC (K : PySem.W.Frag) (r : List V → Hp → VK → Prop) (ss : List S) (Δ : Sl) (G L : List M) (Qd : Po) : Prop :=
  ∀ w ls σ H vs, Ctx K w ls σ H Δ G L → Paired (RS K H (Rg w ls) w.gs ls) ss vs → ∀ Q, Ret K w ls σ Δ H Qd Q → r vs H Q
def ApN (K : PySem.W.Frag) (r : List V → Hp → VK → Prop) (ss : List S) (Δ : Sl) (G L : List M) (Qd : PoN) : Prop :=
  ∀ w ls σ H vs, Ctx K w ls σ H Δ G L → Paired (RS K H (Rg w ls) w.gs ls) ss vs → ∀ Q, RetN K w ls σ Δ H Qd Q → r vs H Q
theorem apn_c {r : List V → Hp → VK → Prop} {ss : List S} (h : ApN K r ss Δ G L fun m G1 L1 => ∃ x, m.dat = some x ∧ Qd (.d x) G1 L1) : ApC K r ss Δ G L Qd :=
  fun w ls σ H vs c rs Q q => h w ls σ H vs c rs Q fun p m H2 G2 L2 _ n e ⟨x, hx, k⟩ => q.go n.c e (s := .d x) (n.dat x hx) k
theorem evc_cb {r : List V → Hp → VK → Prop} {ta : TA} (h : EvA K ta Δ G L fun ss G1 L1 => ApC K r ss Δ G1 L1 Qd) : EvC K (tCB r ta) Δ G L Qd := fun w ls σ H c Q ret => h w ls σ H c _ fun vs ss H2 G2 L2 c2 e2 r2 k => k w ls σ H2 vs c2 r2 Q (ret.ext e2)
theorem evn_cb {r : List V → Hp → VK → Prop} {ta : TA} (h : EvA K ta Δ G L fun ss G1 L1 => ApN K r ss Δ G1 L1 Qn) : EvN K (tCB r ta) Δ G L Qn := fun w ls σ H c Q ret => h w ls σ H c _ fun vs ss H2 G2 L2 c2 e2 r2 k => k w ls σ H2 vs c2 r2 Q (ret.ext c2 e2)
theorem pair1 {F : S → V → Prop} {s : S} {vs : List V} (h : Paired F [s] vs) : ∃ v, vs = [v] ∧ F s v := by
  cases h with
  | cons q t =>
    cases t
    exact ⟨_, rfl, q⟩
theorem pair2 {F : S → V → Prop} {s t : S} {vs : List V} (h : Paired F [s, t] vs) : ∃ v u, vs = [v, u] ∧ F s v ∧ F t u := by
  cases h with
  | cons q t =>
    obtain ⟨u, rfl, r⟩ := pair1 t
    exact ⟨_, _, rfl, q, r⟩
def uLen (K : PySem.W.Frag) : List V → Hp → VK → Prop := fun xs H Q => ∃ x n, xs = [x] ∧ LenV K x H n ∧ Q (.int n) H
theorem uc_len {X : Cx} : CallR X (.builtin "len") (uLen X.K) := call_len
theorem ap_len {s : S} {ds : List D} (h : seqG G L s = some ds) (k : Qd (.d (.int (ds.length : Nat))) G L) : ApC K (uLen K) [s] Δ G L Qd := fun w ls σ H vs c rs Q q => by
  obtain ⟨v, rfl, r⟩ := pair1 rs
  obtain ⟨a, xs, rfl, h1, q1⟩ := seqG_get c r h
  refine ⟨_, ds.length, rfl, ?_, q.go c Ext.refl (s := .d (.int (ds.length : Nat))) rfl k⟩
  rcases h1 with h1 | h1
  · exact .inl ⟨xs, h1, q1.length.symm⟩
  · exact .inr ⟨xs, h1, q1.length.symm⟩
theorem ap_lenS {z : Str} (hz : z.length ≤ sizeLine) (k : Qd (.d (.int (z.length : Nat))) G L) : ApC K (uLen K) [.d (.str z)] Δ G L Qd := fun w ls σ H vs c rs Q q => by
  obtain ⟨v, rfl, r⟩ := pair1 rs
  cases r
  exact ⟨_, z.length, rfl, ⟨hz, rfl⟩, q.go c Ext.refl (s := .d (.int (z.length : Nat))) rfl k⟩
def rListQ (K : PySem.W.Frag) : List V → Hp → VK → Prop := fun xs H Q => ∃ p ys, xs = [.ref p] ∧ (SqL K H p ys ∨ SqT K H p ys) ∧ ∀ l, H l = none → Q (.ref l) (upd H l (.lst ys))
def signsV (z : Str) : List V := z.cps.toList.map fun c => V.str ⟨#[c]⟩
def signsD (z : Str) : List D := z.cps.toList.map fun c => D.str ⟨#[c]⟩
def rListS : List V → Hp → VK → Prop := fun xs H Q => ∃ z, xs = [.str z] ∧ z.length ≤ sizeLine ∧ ∀ l, H l = none → Q (.ref l) (upd H l (.lst (signsV z)))
def uList (K : PySem.W.Frag) : List V → Hp → VK → Prop := fun xs H Q => rListQ K xs H Q ∨ rListS xs H Q
theorem ap_list {s : S} {ds : List D} (h : seqG G L s = some ds) (k : Qn (.pl ds) G L) : ApN K (uList K) [s] Δ G L Qn := fun w ls σ H vs c rs Q q => by
  obtain ⟨v, rfl, r⟩ := pair1 rs
  obtain ⟨a, xs, rfl, h1, q1⟩ := seqG_get c r h
  exact .inl ⟨a, xs, rfl, h1, fun l hl => q l _ _ _ _ hl (newAt_pl c hl q1) (Ext.new hl) k⟩
def uTuple (K : PySem.W.Frag) : List V → Hp → VK → Prop := fun xs H Q => ∃ p ys, xs = [.ref p] ∧ ((SqL K H p ys ∧ ∀ l, H l = none → Q (.ref l) (upd H l (.tup ys))) ∨ (SqT K H p ys ∧ Q (.ref p) H))
theorem uc_tuple {X : Cx} : CallR X (.type "tuple") (uTuple X.K) := call_tuple_of
theorem ap_tuple {s : S} {ds : List D} (h : lsG G L s = some ds) (k : Qd (.d (.tup ds)) G L) : ApC K (uTuple K) [s] Δ G L Qd := fun w ls σ H vs c rs Q q => by
  obtain ⟨v, rfl, r⟩ := pair1 rs
  obtain ⟨a, xs, rfl, h1, q1⟩ := lsG_get c r h
  exact ⟨a, xs, rfl, .inl ⟨.inl (.inl h1), fun l hl => q.go (c.new hl) (Ext.new hl) (s := .d (.tup ds)) (rep_tup c hl q1) k⟩⟩
theorem ap_sum {s : S} {ns : List Int} (h : seqG G L s = some (ns.map D.int)) (hs : ∀ ds, s ≠ .d (.tup ds)) (k : Qd (.d (.int ns.sum)) G L) : ApC K (rSum K) [s] Δ G L Qd := fun w ls σ H vs c rs Q q => by
  obtain ⟨v, rfl, r⟩ := pair1 rs
  have key : ∃ a, v = .ref a ∧ SqL K H a (ns.map V.int) := by
    unfold seqG at h
    split at h
    · exact absurd rfl (hs _)
    · rename_i ms
      have e : ms = ns := by
        have e := Option.some.inj h
        have inj : ∀ {xs ys : List Int}, xs.map D.int = ys.map D.int → xs = ys := by
          intro xs
          induction xs with
          | nil =>
            intro ys e
            cases ys with
            | nil => rfl
            | cons _ _ => cases e
          | cons x xs ih =>
            intro ys e
            cases ys with
            | nil => cases e
            | cons y ys =>
              injection e with e1 e2
              injection e1 with e1
              rw [e1, ih e2]
        exact inj e
      subst e
      obtain ⟨a, rfl, h1⟩ := r
      exact ⟨a, rfl, h1.sq⟩
    · obtain ⟨a, xs, rfl, h1, q1⟩ := lsG_get c r h
      have e := RepL.intsV q1
      subst e
      exact ⟨a, rfl, .inl (.inl h1)⟩
  obtain ⟨a, rfl, h1⟩ := key
  exact ⟨a, ns, rfl, h1, q.go c Ext.refl (s := .d (.int ns.sum)) rfl k⟩
def rInt1 : List V → Hp → VK → Prop := fun xs H Q => (∃ i, xs = [.int i] ∧ Q (.int i) H) ∨ ∃ k, xs = [.bl k] ∧ Q (.int (if k then 1 else 0)) H
theorem uc_int {X : Cx} : CallR X (.type "int") rInt1 := call_int1
theorem ap_int {i : Int} (k : Qd (.d (.int i)) G L) : ApC K rInt1 [.d (.int i)] Δ G L Qd := fun w ls σ H vs c rs Q q => by
  obtain ⟨v, rfl, r⟩ := pair1 rs
  cases r
  exact .inl ⟨i, rfl, q.go c Ext.refl (s := .d (.int i)) rfl k⟩
theorem ap_intB {b : Bool} (k : Qd (.d (.int (if b then 1 else 0))) G L) : ApC K rInt1 [.d (.bl b)] Δ G L Qd := fun w ls σ H vs c rs Q q => by
  obtain ⟨v, rfl, r⟩ := pair1 rs
  cases r
  exact .inr ⟨b, rfl, q.go c Ext.refl (s := .d (.int (if b then 1 else 0))) rfl k⟩

/-! ### slices -/
def SlC (K : PySem.W.Frag) (r : V → Option Int → Option Int → Hp → VK → Prop) (x : S) (lo hi : Option Int) (Δ : Sl) (G L : List M) (Qd : Po) : Prop :=
  ∀ w ls σ H vx, Ctx K w ls σ H Δ G L → RS K H (Rg w ls) w.gs ls x vx → ∀ Q, Ret K w ls σ Δ H Qd Q → r vx lo hi H Q
def SlN (K : PySem.W.Frag) (r : V → Option Int → Option Int → Hp → VK → Prop) (x : S) (lo hi : Option Int) (Δ : Sl) (G L : List M) (Qd : PoN) : Prop :=
  ∀ w ls σ H vx, Ctx K w ls σ H Δ G L → RS K H (Rg w ls) w.gs ls x vx → ∀ Q, RetN K w ls σ Δ H Qd Q → r vx lo hi H Q
def EvO (K : PySem.W.Frag) (to : TO) (Δ : Sl) (G L : List M) (Qo : Option Int → List M → List M → Prop) : Prop :=
  ∀ w ls σ H, Ctx K w ls σ H Δ G L → ∀ Q : Option Int → Hp → Prop, (∀ o H2 G2 L2, Ctx K w ls σ H2 Δ G2 L2 → Ext w ls H H2 → Qo o G2 L2 → Q o H2) → to σ H Q
theorem evo_none {Qo : Option Int → List M → List M → Prop} (k : Qo none G L) : EvO K tNoPart Δ G L Qo := fun w ls σ H c Q r => r none H G L c Ext.refl k
theorem evo_some {Qo : Option Int → List M → List M → Prop} (h : EvC K te Δ G L fun s G1 L1 => ∃ i, s = .d (.int i) ∧ Qo (some i) G1 L1) : EvO K (tPart te) Δ G L Qo := fun w ls σ H c Q r => h w ls σ H c _ fun v s H2 G2 L2 c2 e2 r2 ⟨i, e, k⟩ => by
  subst e
  exact ⟨i, r2, r (some i) H2 G2 L2 c2 e2 k⟩
theorem evc_sl {r : V → Option Int → Option Int → Hp → VK → Prop} {tl th : TO} (h : EvC K te Δ G L fun x G1 L1 => EvO K tl Δ G1 L1 fun lo G2 L2 => EvO K th Δ G2 L2 fun hi G3 L3 => SlC K r x lo hi Δ G3 L3 Qd) : EvC K (tSl r te tl th) Δ G L Qd :=
  fun w ls σ H c Q ret => h w ls σ H c _ fun v s H2 G2 L2 c2 e2 r2 h2 => h2 w ls σ H2 c2 _ fun lo H3 G3 L3 c3 e3 h3 => h3 w ls σ H3 c3 _ fun hi H4 G4 L4 c4 e4 h4 => h4 w ls σ H4 v c4 ((r2.on c2 e3).on c3 e4) Q (ret.ext (e2.trans (e3.trans e4)))
theorem evn_sl {r : V → Option Int → Option Int → Hp → VK → Prop} {tl th : TO} (h : EvC K te Δ G L fun x G1 L1 => EvO K tl Δ G1 L1 fun lo G2 L2 => EvO K th Δ G2 L2 fun hi G3 L3 => SlN K r x lo hi Δ G3 L3 Qn) : EvN K (tSl r te tl th) Δ G L Qn :=
  fun w ls σ H c Q ret => h w ls σ H c _ fun v s H2 G2 L2 c2 e2 r2 h2 => h2 w ls σ H2 c2 _ fun lo H3 G3 L3 c3 e3 h3 => h3 w ls σ H3 c3 _ fun hi H4 G4 L4 c4 e4 h4 => h4 w ls σ H4 v c4 ((r2.on c2 e3).on c3 e4) Q (ret.ext c4 (e2.trans (e3.trans e4)))
def uSl (K : PySem.W.Frag) : V → Option Int → Option Int → Hp → VK → Prop := fun x lo hi H Q => rSlL K x lo hi H Q ∨ rSlS x lo hi H Q ∨ rSlA K x lo hi H Q
theorem sl_s {z : Str} {lo hi : Option Int} (hz : z.length ≤ sizeLine) (k : Qd (.d (.str (cutS z lo hi))) G L) : SlC K (uSl K) (.d (.str z)) lo hi Δ G L Qd := fun w ls σ H v c r Q q =>
  .inr (.inl ⟨z, r, hz, q.go c Ext.refl (s := .d (.str (cutS z lo hi))) rfl k⟩)
theorem repL_rev {H : Hp} {R : Addr → Prop} : ∀ {ds : List D} {vs : List V}, RepL K H R ds vs → RepL K H R ds.reverse vs.reverse
  | [], _, h => by
    cases h
    rfl
  | d :: ds, _, ⟨y, ys, e, h, r⟩ => by
    subst e
    rw [List.reverse_cons, List.reverse_cons]
    exact (repL_rev r).app (RepL.one h)
/-! ### subscripts of lists with handles, stores -/
def hlG (G L : List M) : S → Option (List S)
  | .l k => match L[k]? with
    | some (.hl ds) => some ds
    | some (.pl ds) => some (ds.map .d)
    | _ => none
  | .g k => match G[k]? with
    | some (.hl ds) => some ds
    | some (.pl ds) => some (ds.map .d)
    | _ => none
  | _ => none
theorem hlG_get {w : W} {ls : List Addr} {σ : L2.St} {H : Hp} {v : V} {s : S} {ds : List S} (c : Ctx K w ls σ H Δ G L) (r : RS K H (Rg w ls) w.gs ls s v) (h : hlG G L s = some ds) : ∃ a vs, v = .ref a ∧ H a = some (.lst vs) ∧ Paired (RS K H (Rg w ls) w.gs ls) ds vs := by
  unfold hlG at h
  split at h
  · rename_i k
    split at h
    · rename_i ds' hk
      cases h
      obtain ⟨a, ha, rfl⟩ := r
      obtain ⟨b, hb, vs, h1, q⟩ := paired_get c.lo hk
      rw [ha] at hb
      cases hb
      exact ⟨a, vs, rfl, h1, q⟩
    · rename_i ds' hk
      cases h
      obtain ⟨a, ha, rfl⟩ := r
      obtain ⟨b, hb, vs, h1, q⟩ := paired_get c.lo hk
      rw [ha] at hb
      cases hb
      exact ⟨a, vs, rfl, h1, repL_rs q⟩
    · cases h
  · rename_i k
    split at h
    · rename_i ds' hk
      cases h
      obtain ⟨a, ha, rfl⟩ := r
      obtain ⟨b, hb, vs, h1, q⟩ := paired_get c.gl hk
      rw [ha] at hb
      cases hb
      exact ⟨a, vs, rfl, h1, paired_map q fun _ _ _ z => z.grow (Grow.refl _ _) (Pre.refl _) (Pre.nil _)⟩
    · rename_i ds' hk
      cases h
      obtain ⟨a, ha, rfl⟩ := r
      obtain ⟨b, hb, vs, h1, q⟩ := paired_get c.gl hk
      rw [ha] at hb
      cases hb
      exact ⟨a, vs, rfl, h1, repL_rs q⟩
    · cases h
  · cases h
theorem atI_some {α : Type} {xs : List α} {i : Int} {x : α} (h : atI xs i = some x) : ∃ j, ixN xs.length i = some j ∧ xs[j]? = some x := by
  unfold atI at h
  cases e : ixN xs.length i with
  | none =>
    rw [e] at h
    cases h
  | some j =>
    rw [e] at h
    exact ⟨j, rfl, h⟩
theorem u_ix_h {x : S} {xs : List S} {i : Int} {s : S} (hx : hlG G L x = some xs) (hi : atI xs i = some s) (k : Qd s G L) : OpC K (rIx K) x (.d (.int i)) Δ G L Qd := fun w ls σ H vx vy c rx ry Q q => by
  obtain ⟨a, vs, rfl, h1, q1⟩ := hlG_get c rx hx
  obtain ⟨j, e, hj⟩ := atI_some hi
  obtain ⟨v, hv, r⟩ := paired_get_l q1 hj
  refine .inl ⟨a, vs, i, v, rfl, ry, .inl (.inl h1), ?_, q.go c Ext.refl r k⟩
  unfold atI
  rw [← paired_len q1, e]
  exact hv
theorem u_ix_g {x : S} {xs : List D} {i : Int} {d : D} (hx : seqG G L x = some xs) (hi : atI xs i = some d) (k : Qd (.d d) G L) : OpC K (rIx K) x (.d (.int i)) Δ G L Qd := fun w ls σ H vx vy c rx ry Q q => by
  obtain ⟨a, vs, rfl, h1, q1⟩ := seqG_get c rx hx
  obtain ⟨j, e, hj⟩ := atI_some hi
  obtain ⟨v, hv, r⟩ := q1.get hj
  have ha : atI vs i = some v := by
    unfold atI
    rw [q1.length, e]
    exact hv
  rcases h1 with h1 | h1
  · exact .inl ⟨a, vs, i, v, rfl, ry, h1, ha, q.go c Ext.refl (s := .d d) r k⟩
  · exact .inr (.inl ⟨a, vs, i, v, rfl, ry, h1, ha, q.go c Ext.refl (s := .d d) r k⟩)
def StoC (K : PySem.W.Frag) (r : TSet) (o i v : S) (Δ : Sl) (G L : List M) (Qt : List M → List M → Prop) : Prop :=
  ∀ w ls σ H vo vi vv, Ctx K w ls σ H Δ G L → RS K H (Rg w ls) w.gs ls o vo → RS K H (Rg w ls) w.gs ls i vi → RS K H (Rg w ls) w.gs ls v vv → ∀ Q : Hp → Prop,
    (∀ H2 G2 L2, Ctx K w ls σ H2 Δ G2 L2 → Ext w ls H H2 → Qt G2 L2 → Q H2) → r vo vi vv H Q
theorem tg_sub {to ti : TE} {t : TSet} {s : S} {Qt : PoT} {ok : Nat → Prop} (h : EvC K to Δ G L fun o G1 L1 => EvC K ti Δ G1 L1 fun i G2 L2 => StoC K t o i s Δ G2 L2 fun G3 L3 => Qt Δ G3 L3) : TgC K (gSub to ti t) ok s Δ G L Qt :=
  fun w ls σ H v c r Q q => h w ls σ H c _ fun vo o H2 G2 L2 c2 e2 r2 h2 => h2 w ls σ H2 c2 _ fun vi i H3 G3 L3 c3 e3 r3 h3 =>
    h3 w ls σ H3 vo vi v c3 (r2.on c2 e3) r3 ((r.on c e2).on c2 e3) _ fun H4 G4 L4 c4 e4 k => q σ H4 Δ G4 L4 c4 (e2.trans (e3.trans e4)) rfl (fun _ _ => rfl) k
theorem repL_set {H : Hp} {R : Addr → Prop} : ∀ {ds : List D} {vs : List V} {j : Nat} {d : D} {v : V}, RepL K H R ds vs → Rep K H R d v → RepL K H R (ds.set j d) (vs.set j v)
  | [], _, _, _, _, h, _ => by
    cases h
    rfl
  | _ :: _, _, 0, _, _, ⟨y, ys, e, h, r⟩, q => by
    subst e
    exact ⟨_, _, rfl, q, r⟩
  | _ :: _, _, j + 1, _, _, ⟨y, ys, e, h, r⟩, q => by
    subst e
    exact ⟨_, _, rfl, h, repL_set r q⟩
theorem sto_lp {k : Nat} {xs : List D} {i : Int} {j : Nat} {x : D} {Qt : List M → List M → Prop} (hx : L[k]? = some (.pl xs)) (hj : ixN xs.length i = some j) (q : Qt G (L.set k (.pl (xs.set j x)))) : StoC K rSetL (.l k) (.d (.int i)) (.d x) Δ G L Qt := fun w ls σ H vo vi vv c ro ri rv Q ret => by
  obtain ⟨a, ha, rfl⟩ := ro
  obtain ⟨b, hb, vs, h1, r⟩ := paired_get c.lo hx
  rw [ha] at hb
  cases hb
  cases ri
  have g : Grow H (upd H a (.lst (vs.set j vv))) (Rg w ls) (Rg w ls) := grow_upd (.inr (List.mem_of_getElem? ha))
  exact ⟨a, vs, i, j, rfl, rfl, h1, by rw [r.length]; exact hj, ret _ _ _ (c.setL (m := .pl _) ha ⟨_, upd_same, (repL_set r rv).grow g⟩) (Ext.setL (List.mem_of_getElem? ha)) q⟩

/-! ### methods -/
def MtC (K : PySem.W.Frag) (r : V → List V → Hp → VK → Prop) (x : S) (ss : List S) (Δ : Sl) (G L : List M) (Qd : Po) : Prop :=
  ∀ w ls σ H vx vs, Ctx K w ls σ H Δ G L → RS K H (Rg w ls) w.gs ls x vx → Paired (RS K H (Rg w ls) w.gs ls) ss vs → ∀ Q, Ret K w ls σ Δ H Qd Q → r vx vs H Q
def tyS (G L : List M) (T : String) (s : S) : Prop := (T = "list" ∧ ((∃ ds, lsG G L s = some ds) ∨ ∃ ds, hlG G L s = some ds)) ∨ (T = "str" ∧ ∃ z, s = .d (.str z))
theorem tyS_ok {w : W} {ls : List Addr} {σ : L2.St} {H : Hp} {T : String} {s : S} {v : V} (c : Ctx K w ls σ H Δ G L) (r : RS K H (Rg w ls) w.gs ls s v) (h : tyS G L T s) : tyV K T v H := by
  rcases h with ⟨rfl, ⟨ds, h⟩ | ⟨ds, h⟩⟩ | ⟨rfl, z, rfl⟩
  · obtain ⟨a, vs, rfl, h1, _⟩ := lsG_get c r h
    exact .inl ⟨rfl, vs, .inl (.inl h1)⟩
  · obtain ⟨a, vs, rfl, h1, _⟩ := hlG_get c r h
    exact .inl ⟨rfl, vs, .inl (.inl h1)⟩
  · cases r
    rfl
theorem evc_bm {T : String} {r : V → List V → Hp → VK → Prop} {to : TE} {t : TA} (h : EvC K to Δ G L fun x G1 L1 => tyS G1 L1 T x ∧ EvA K t Δ G1 L1 fun ss G2 L2 => MtC K r x ss Δ G2 L2 Qd) : EvC K (tBM K T r to t) Δ G L Qd :=
  fun w ls σ H c Q ret => h w ls σ H c _ fun v s H2 G2 L2 c2 e2 r2 ⟨ht, h2⟩ => ⟨tyS_ok c2 r2 ht, h2 w ls σ H2 c2 _ fun vs ss H3 G3 L3 c3 e3 r3 h3 => h3 w ls σ H3 v vs c3 (r2.on c2 e3) r3 Q (ret.ext (e2.trans e3))⟩
theorem evc_bm0 {T : String} {r : V → List V → Hp → VK → Prop} {to : TE} (h : EvC K to Δ G L fun x G1 L1 => tyS G1 L1 T x ∧ MtC K r x [] Δ G1 L1 Qd) : EvC K (tBM0 K T r to) Δ G L Qd :=
  fun w ls σ H c Q ret => h w ls σ H c _ fun v s H2 G2 L2 c2 e2 r2 ⟨ht, h2⟩ => ⟨tyS_ok c2 r2 ht, h2 w ls σ H2 v [] c2 r2 .nil Q (ret.ext e2)⟩
theorem evc_m0 {r : V → List V → Hp → VK → Prop} {to : TE} (h : EvC K to Δ G L fun x G1 L1 => (∃ z, x = .d (.str z)) ∧ MtC K r x [] Δ G1 L1 Qd) : EvC K (tM0 r to) Δ G L Qd :=
  fun w ls σ H c Q ret => h w ls σ H c _ fun v s H2 G2 L2 c2 e2 r2 ⟨⟨z, e⟩, h2⟩ => ⟨by subst e; exact ⟨z, r2⟩, h2 w ls σ H2 v [] c2 r2 .nil Q (ret.ext e2)⟩
theorem evc_m1 {r : V → List V → Hp → VK → Prop} {to ta : TE} (h : EvC K to Δ G L fun x G1 L1 => (∃ z, x = .d (.str z)) ∧ EvC K ta Δ G1 L1 fun y G2 L2 => MtC K r x [y] Δ G2 L2 Qd) : EvC K (tM1 r to ta) Δ G L Qd :=
  fun w ls σ H c Q ret => h w ls σ H c _ fun v s H2 G2 L2 c2 e2 r2 ⟨⟨z, e⟩, h2⟩ => ⟨by subst e; exact ⟨z, r2⟩, h2 w ls σ H2 c2 _ fun vs ss H3 G3 L3 c3 e3 r3 h3 => h3 w ls σ H3 v [vs] c3 (r2.on c2 e3) (.cons r3 .nil) Q (ret.ext (e2.trans e3))⟩
theorem mt_upper_d {z : Str} (hz : z.length ≤ 5592405) (k : Qd (.d (.str (Txt.upper z))) G L) : MtC K (fun x xs H Q => ∃ a, x = .str a ∧ xs = [] ∧ a.length ≤ 5592405 ∧ Q (.str (Txt.upper a)) H) (.d (.str z)) [] Δ G L Qd := fun w ls σ H vo vs c ro rs Q ret => by
  cases rs
  exact ⟨z, ro, rfl, hz, ret.go c Ext.refl (s := .d (.str (Txt.upper z))) rfl k⟩
end
end
end DL

namespace DL
open PySem PySem.Spec PyProof.Rows L2
section
variable {K : PySem.W.Frag}
/-! ### equality of data -/
mutual
def D.py : D → Option PyData
  | .non => some .none
  | .bl b => some (.bool b)
  | .int i => some (.int i)
  | .str x => some (.str x)
  | .tup ds => match pyL ds with
    | some xs => some (.tuple xs)
    | none => none
  | .lst ds => match pyL ds with
    | some xs => some (.list xs)
    | none => none
  | _ => none
def pyL : List D → Option (List PyData)
  | [] => some []
  | d :: ds => match d.py, pyL ds with
    | some x, some xs => some (x :: xs)
    | _, _ => none
end
mutual
theorem rep_dp {H : Hp} {R : Addr → Prop} : ∀ {d : D} {v : V} {p : PyData}, d.py = some p → Rep K H R d v → Dp K H v p
  | .non, _, _, e, h => by
    cases e
    cases h
    exact .non
  | .bl _, _, _, e, h => by
    cases e
    cases h
    exact .bl _
  | .int _, _, _, e, h => by
    cases e
    cases h
    exact .int _
  | .str _, _, _, e, h => by
    cases e
    cases h
    exact .str _
  | .tup ds, _, _, e, ⟨a, xs, e1, h, r⟩ => by
    unfold D.py at e
    split at e
    · rename_i ps hp
      cases e
      subst e1
      exact .tup h.sq (repL_dp hp r)
    · cases e
  | .lst ds, _, _, e, ⟨a, xs, e1, ⟨h, _⟩, r⟩ => by
    unfold D.py at e
    split at e
    · rename_i ps hp
      cases e
      subst e1
      exact .lst (.inl (.inl h)) (repL_dp hp r)
    · cases e
  | .ty _, _, _, e, _ => by cases e
  | .ref _, _, _, e, _ => by cases e
  | .scr _, _, _, e, _ => by cases e
  | .dct _, _, _, e, _ => by cases e
  | .ins _ _, _, _, e, _ => by cases e
  | .exn _ _ _, _, _, e, _ => by cases e
  | .exv _ _, _, _, e, _ => by cases e
theorem repL_dp {H : Hp} {R : Addr → Prop} : ∀ {ds : List D} {vs : List V} {ps : List PyData}, pyL ds = some ps → RepL K H R ds vs → DpAll K H vs ps
  | [], _, _, e, h => by
    cases e
    cases h
    exact .nil
  | d :: ds, _, _, e, ⟨y, ys, e1, h, r⟩ => by
    unfold pyL at e
    split at e
    · rename_i p ps hp hps
      cases e
      subst e1
      exact .cons (rep_dp hp h) (repL_dp hps r)
    · cases e
end
def valG (G L : List M) : S → Option D
  | .d x => some x
  | .l k => match L[k]? with
    | some (.pl ds) => some (.lst ds)
    | _ => none
  | .g k => match G[k]? with
    | some (.pl ds) => some (.lst ds)
    | _ => none
theorem valG_dp {w : W} {ls : List Addr} {σ : L2.St} {H : Hp} {Δ : Sl} {G L : List M} {v : V} {s : S} {x : D} {p : PyData} (c : Ctx K w ls σ H Δ G L) (r : RS K H (Rg w ls) w.gs ls s v) (h : valG G L s = some x) (hp : x.py = some p) : Dp K H v p := by
  unfold valG at h
  split at h
  · cases h
    exact rep_dp hp r
  · rename_i k
    split at h
    · rename_i ds hk
      cases h
      have q : lsG G L (.l k) = some ds := by
        simp only [lsG, hk]
      obtain ⟨a, vs, rfl, h1, r1⟩ := lsG_get c r q
      unfold D.py at hp
      split at hp
      · rename_i ps hps
        cases hp
        exact .lst (.inl (.inl h1)) (repL_dp hps r1)
      · cases hp
    · cases h
  · rename_i k
    split at h
    · rename_i ds hk
      cases h
      have q : lsG G L (.g k) = some ds := by
        simp only [lsG, hk]
      obtain ⟨a, vs, rfl, h1, r1⟩ := lsG_get c r q
      unfold D.py at hp
      split at hp
      · rename_i ps hps
        cases hp
        exact .lst (.inl (.inl h1)) (repL_dp hps r1)
      · cases hp
    · cases h
def uEq (K : PySem.W.Frag) : R2 := fun x y H Q => rEq x y H Q ∨ rEqD K x y H Q
def uNe (K : PySem.W.Frag) : R2 := fun x y H Q => rNe x y H Q ∨ rNeD K x y H Q
theorem uo_eq {X : Cx} (hu : X.A.units + 64 < cLine) : OpR X (compareOp .Eq) (uEq X.K) := op_eq.or (op_eqD hu)
theorem uo_ne {X : Cx} (hu : X.A.units + 64 < cLine) : OpR X (compareOp .NotEq) (uNe X.K) := op_ne.or (op_neD hu)
section
variable {Δ : Sl} {G L : List M} {Qd : Po}
theorem u_eq_i {i j : Int} (k : Qd (.d (.bl (decide (i = j)))) G L) : OpC K (uEq K) (.d (.int i)) (.d (.int j)) Δ G L Qd := fun w ls σ H vx vy c rx ry Q q => by
  cases rx
  cases ry
  refine .inl ⟨rfl, ?_⟩
  have e : decide (V.int i = V.int j) = decide (i = j) := by simp
  rw [e]
  exact q.go c Ext.refl (s := .d (.bl (decide (i = j)))) rfl k
theorem u_ne_i {i j : Int} (k : Qd (.d (.bl (!decide (i = j)))) G L) : OpC K (uNe K) (.d (.int i)) (.d (.int j)) Δ G L Qd := fun w ls σ H vx vy c rx ry Q q => by
  cases rx
  cases ry
  refine .inl ⟨rfl, ?_⟩
  have e : decide (V.int i = V.int j) = decide (i = j) := by simp
  rw [e]
  exact q.go c Ext.refl (s := .d (.bl (!decide (i = j)))) rfl k
theorem u_eq_s {i j : Str} (k : Qd (.d (.bl (decide (i = j)))) G L) : OpC K (uEq K) (.d (.str i)) (.d (.str j)) Δ G L Qd := fun w ls σ H vx vy c rx ry Q q => by
  cases rx
  cases ry
  refine .inl ⟨rfl, ?_⟩
  have e : decide (V.str i = V.str j) = decide (i = j) := by simp
  rw [e]
  exact q.go c Ext.refl (s := .d (.bl (decide (i = j)))) rfl k
theorem u_ne_s {i j : Str} (k : Qd (.d (.bl (!decide (i = j)))) G L) : OpC K (uNe K) (.d (.str i)) (.d (.str j)) Δ G L Qd := fun w ls σ H vx vy c rx ry Q q => by
  cases rx
  cases ry
  refine .inl ⟨rfl, ?_⟩
  have e : decide (V.str i = V.str j) = decide (i = j) := by simp
  rw [e]
  exact q.go c Ext.refl (s := .d (.bl (!decide (i = j)))) rfl k
theorem u_eq_d {x y : S} {a b : D} {p q : PyData} (hx : valG G L x = some a) (hy : valG G L y = some b) (hp : a.py = some p) (hq : b.py = some q) (sp : SeqAt.shaped p = true) (sq : SeqAt.shaped q = true) (k : Qd (.d (.bl (PyData.eqv p q))) G L) : OpC K (uEq K) x y Δ G L Qd := fun w ls σ H vx vy c rx ry Q ret =>
  .inr ⟨p, q, valG_dp c rx hx hp, valG_dp c ry hy hq, sp, sq, ret.go c Ext.refl (s := .d (.bl (PyData.eqv p q))) rfl k⟩
theorem u_ne_d {x y : S} {a b : D} {p q : PyData} (hx : valG G L x = some a) (hy : valG G L y = some b) (hp : a.py = some p) (hq : b.py = some q) (sp : SeqAt.shaped p = true) (sq : SeqAt.shaped q = true) (k : Qd (.d (.bl (!PyData.eqv p q))) G L) : OpC K (uNe K) x y Δ G L Qd := fun w ls σ H vx vy c rx ry Q ret =>
  .inr ⟨p, q, valG_dp c rx hx hp, valG_dp c ry hy hq, sp, sq, ret.go c Ext.refl (s := .d (.bl (!PyData.eqv p q))) rfl k⟩
theorem py_ints : ∀ ns : List Int, pyL (ns.map D.int) = some (ns.map PyData.int)
  | [] => rfl
  | n :: ns => by
    show (match (D.int n).py, pyL (ns.map D.int) with
      | some x, some xs => some (x :: xs)
      | _, _ => none) = _
    rw [py_ints ns]
    rfl
theorem canLay_ints : ∀ ns : List Int, PyData.canLayAll0 (ns.map PyData.int) = true
  | [] => rfl
  | n :: ns => by
    show (PyData.canLay0 (.int n) && PyData.canLayAll0 (ns.map PyData.int)) = true
    rw [canLay_ints ns]
    rfl
theorem depth_ints : ∀ ns : List Int, PyData.depthAll (ns.map PyData.int) ≤ 1
  | [] => by simp [PyData.depthAll]
  | n :: ns => by
    have := depth_ints ns
    simp only [List.map_cons, PyData.depthAll, PyData.depth]
    omega
theorem shaped_ints (ns : List Int) : SeqAt.shaped (.list (ns.map PyData.int)) = true := by
  have h := depth_ints ns
  unfold SeqAt.shaped
  rw [Bool.and_eq_true]
  refine ⟨canLay_ints ns, decide_eq_true ?_⟩
  simp only [PyData.depth]
  omega
theorem shaped_nil : SeqAt.shaped (.list []) = true := by decide
theorem lsG_val {s : S} {ds : List D} (h : lsG G L s = some ds) : valG G L s = some (.lst ds) := by
  unfold lsG at h
  split at h
  · cases h
    rfl
  · split at h
    · rename_i hk
      cases h
      simp only [valG, hk]
    · cases h
  · split at h
    · rename_i hk
      cases h
      simp only [valG, hk]
    · cases h
  · cases h
theorem u_ne_nil {x y : S} {ns : List Int} (hx : lsG G L x = some (ns.map D.int)) (hy : lsG G L y = some []) (k : Qd (.d (.bl (!ns.isEmpty))) G L) : OpC K (uNe K) x y Δ G L Qd := by
  have e : PyData.eqv (.list (ns.map PyData.int)) (.list []) = ns.isEmpty := by
    cases ns <;> rfl
  refine u_ne_d (lsG_val hx) (lsG_val hy) (by unfold D.py; rw [py_ints]) (by rfl) (shaped_ints ns) shaped_nil ?_
  rw [e]
  exact k
theorem u_eq_nil {x y : S} {ns : List Int} (hx : lsG G L x = some (ns.map D.int)) (hy : lsG G L y = some []) (k : Qd (.d (.bl ns.isEmpty)) G L) : OpC K (uEq K) x y Δ G L Qd := by
  have e : PyData.eqv (.list (ns.map PyData.int)) (.list []) = ns.isEmpty := by
    cases ns <;> rfl
  refine u_eq_d (lsG_val hx) (lsG_val hy) (by unfold D.py; rw [py_ints]) (by rfl) (shaped_ints ns) shaped_nil ?_
  rw [e]
  exact k
/-! membership: ints in ints, texts in texts -/
def uIn (K : PySem.W.Frag) (neg : Bool) : R2 := fun x y H Q => rIn K neg x y H Q ∨ ∃ (c : Nat) (z : Str), x = .str ⟨#[c]⟩ ∧ y = .str z ∧ Q (.bl (if neg then !decide (c ∈ z.cps.toList) else decide (c ∈ z.cps.toList))) H
theorem flat_ints (ns : List Int) : (ns.map V.int).all flatV = true := by
  rw [List.all_map, List.all_eq_true]
  intro x _
  rfl
theorem flat_strs (ns : List Str) : (ns.map V.str).all flatV = true := by
  rw [List.all_map, List.all_eq_true]
  intro x _
  rfl
theorem inV_ints {i : Int} {ns : List Int} : inV (.int i) (ns.map V.int) = decide (i ∈ ns) := by
  unfold inV
  induction ns with
  | nil => rfl
  | cons a r ih =>
    rw [List.map_cons, List.any_cons, ih]
    have : eqV (.int a) (.int i) = decide (i = a) := by
      show (a == i) = decide (i = a)
      by_cases h : a = i
      · subst h
        rw [decide_eq_true rfl]
        exact beq_self_eq_true a
      · rw [decide_eq_false (fun z => h z.symm)]
        exact beq_eq_false_iff_ne.mpr h
    rw [this, Bool.eq_iff_iff]
    simp only [Bool.or_eq_true, decide_eq_true_eq, List.mem_cons]
theorem inV_strs {i : Str} {ns : List Str} : inV (.str i) (ns.map V.str) = decide (i ∈ ns) := by
  unfold inV
  induction ns with
  | nil => rfl
  | cons a r ih =>
    rw [List.map_cons, List.any_cons, ih]
    have : eqV (.str a) (.str i) = decide (i = a) := by
      show (a == i) = decide (i = a)
      by_cases h : a = i
      · subst h
        rw [decide_eq_true rfl]
        exact beq_self_eq_true a
      · rw [decide_eq_false (fun z => h z.symm)]
        exact beq_eq_false_iff_ne.mpr h
    rw [this, Bool.eq_iff_iff]
    simp only [Bool.or_eq_true, decide_eq_true_eq, List.mem_cons]
theorem u_in_i {neg : Bool} {i : Int} {y : S} {ns : List Int} (hy : seqG G L y = some (ns.map D.int)) (k : Qd (.d (.bl (if neg then !decide (i ∈ ns) else decide (i ∈ ns)))) G L) : OpC K (uIn K neg) (.d (.int i)) y Δ G L Qd := fun w ls σ H vx vy c rx ry Q q => by
  cases rx
  obtain ⟨a, vs, rfl, h1, q1⟩ := seqG_get c ry hy
  have e := RepL.intsV q1
  subst e
  refine .inl ⟨a, _, rfl, h1, rfl, flat_ints ns, ?_⟩
  rw [inV_ints]
  exact q.go c Ext.refl (s := .d (.bl (if neg then !decide (i ∈ ns) else decide (i ∈ ns)))) rfl k
theorem u_in_s {neg : Bool} {i : Str} {y : S} {ns : List Str} (hy : seqG G L y = some (ns.map D.str)) (k : Qd (.d (.bl (if neg then !decide (i ∈ ns) else decide (i ∈ ns)))) G L) : OpC K (uIn K neg) (.d (.str i)) y Δ G L Qd := fun w ls σ H vx vy c rx ry Q q => by
  cases rx
  obtain ⟨a, vs, rfl, h1, q1⟩ := seqG_get c ry hy
  have e := RepL.strsV q1
  subst e
  refine .inl ⟨a, _, rfl, h1, rfl, flat_strs ns, ?_⟩
  rw [inV_strs]
  exact q.go c Ext.refl (s := .d (.bl (if neg then !decide (i ∈ ns) else decide (i ∈ ns)))) rfl k
end
end
end DL

namespace DL
open PySem PySem.Spec PyProof.Rows L2
/-! ### walks over a list, a tuple or a text -/
def iSeq (K : PySem.W.Frag) (tl : TE) : TI := fun σ H R => tl σ H fun x H1 => (∃ a, x = .ref a ∧ (∃ xs, SqL K H1 a xs) ∧ R (Itl K a) H1) ∨ (∃ a, x = .ref a ∧ (∃ xs, SqT K H1 a xs) ∧ R (Itt K a) H1) ∨ (∃ z, x = .str z ∧ R (Its z) H1)
theorem pi_seq {X : Cx} {tg l : Expr} {tl : TE} (hl : PE X l tl) : PI X tg l (iSeq X.K tl) := by
  refine ⟨fun pins s σ H R I h => ?_⟩
  refine thn (hl.run pins s σ H _ I h) fun v s1 ⟨x, H1, I1, r1, q1⟩ => ?_
  rcases q1 with ⟨a, e, ⟨xs, hq⟩, q⟩ | ⟨a, e, ⟨xs, hq⟩, q⟩ | ⟨z, e, q⟩
  · subst e
    cases r1
    obtain ⟨its, rv, p, hz⟩ := I1.list hq
    refine wpAny_pyIter_list p.isList ?_
    refine ⟨s1.heap.objs.size, [s1.heap.objs.size], _, _, H1, rfl, I1.kept (t' := s1.toks) fun b o e => Heap.get?_push_of_some _ e, turn_list a _, ⟨_, Heap.get?_push_size _ rfl, rfl, rfl⟩, fun b hb => ?_, q⟩
    have e : b = s1.heap.objs.size := by simpa using hb
    subst e
    exact I1.fpOk (Nat.le_refl _) (I1.hok.fresh (Nat.le_refl _))
  · subst e
    cases r1
    obtain ⟨its, rv, p, hz⟩ := I1.tuple hq
    refine wpAny_pyIter_tuple (show s1.heap.IsTuple a its.toArray from p) ?_
    refine ⟨s1.heap.objs.size, [s1.heap.objs.size], _, _, H1, rfl, I1.kept (t' := s1.toks) fun b o e => Heap.get?_push_of_some _ e, turn_tuple a _, ⟨_, Heap.get?_push_size _ rfl, rfl, rfl⟩, fun b hb => ?_, q⟩
    have e : b = s1.heap.objs.size := by simpa using hb
    subst e
    exact I1.fpOk (Nat.le_refl _) (I1.hok.fresh (Nat.le_refl _))
  · subst e
    obtain ⟨t, rfl⟩ := r1
    cases ha : z.cps.all (· < 128)
    · exact wpAny_pyIter_wide ha (pi_one (tk := s1.toks) I1 _ (turn_str _ z t "str_iterator" (.inr rfl)) ⟨_, Heap.get?_push_size _ rfl, rfl, rfl⟩ q)
    · exact wpAny_pyIter_ascii ha (pi_one (tk := s1.toks) I1 _ (turn_str _ z t "str_ascii_iterator" (.inl rfl)) ⟨_, Heap.get?_push_size _ rfl, rfl, rfl⟩ q)
section
variable {K : PySem.W.Frag} {Δ : Sl} {G L : List M} {Qd : Po} {te : TE}
def itD : D → Option (List D)
  | .lst ds => some ds
  | .tup ds => some ds
  | .scr ns => some (ns.map .int)
  | .str z => some (signsD z)
  | _ => none
theorem evi_seq {tl : TE} {Qi : List D → List M → List M → Prop} (h : EvC K tl Δ G L fun s G1 L1 => ∃ d ds, s = .d d ∧ itD d = some ds ∧ Qi ds G1 L1) : EvI K (iSeq K tl) Δ G L Qi := fun w ls σ H c R q =>
  h w ls σ H c _ fun v s H2 G2 L2 c2 e2 r2 ⟨d, ds, e, hd, k⟩ => by
    subst e
    unfold itD at hd
    split at hd
    · cases hd
      obtain ⟨a, vs, rfl, ⟨h1, n1⟩, r1⟩ := r2
      refine .inl ⟨a, rfl, ⟨vs, .inl (.inl h1)⟩, q _ H2 _ G2 L2 c2 e2 ⟨fun H3 w2 ls2 σ2 Δ2 G3 L3 i d g c3 hi => ?_, fun H3 w2 ls2 g => ?_⟩ k⟩
      · obtain ⟨x, hx, rx⟩ := (r1.grow g).get hi
        have h3 := g.keep a _ h1 n1
        refine ⟨⟨vs, x, .inl (.inl h3), hx⟩, fun y H' ⟨hH, hy⟩ => ?_⟩
        subst hH
        have e := hy vs (.inl (.inl h3))
        rw [hx] at e
        cases e
        exact ⟨c3, Ext.refl, rx⟩
      · exact ⟨vs, .inl (.inl (g.keep a _ h1 n1)), Nat.le_of_eq r1.length⟩
    · cases hd
      obtain ⟨a, vs, rfl, h1, r1⟩ := r2
      refine .inr (.inl ⟨a, rfl, ⟨vs, h1.sq⟩, q _ H2 _ G2 L2 c2 e2 ⟨fun H3 w2 ls2 σ2 Δ2 G3 L3 i d g c3 hi => ?_, fun H3 w2 ls2 g => ?_⟩ k⟩)
      · obtain ⟨x, hx, rx⟩ := (r1.grow g).get hi
        have h3 := (h1.grow g).sq
        refine ⟨⟨vs, x, h3, hx⟩, fun y H' ⟨hH, hy⟩ => ?_⟩
        subst hH
        have e := hy vs h3
        rw [hx] at e
        cases e
        exact ⟨c3, Ext.refl, rx⟩
      · exact ⟨vs, (h1.grow g).sq, Nat.le_of_eq r1.length⟩
    · rename_i ns _hh
      cases hd
      obtain ⟨a, rfl, h1⟩ := r2
      refine .inl ⟨a, rfl, ⟨_, h1.sq⟩, q _ H2 _ G2 L2 c2 e2 ⟨fun H3 w2 ls2 σ2 Δ2 G3 L3 i d g c3 hi => ?_, fun H3 w2 ls2 g => ?_⟩ k⟩
      · have h3 := (h1.grow g).sq
        obtain ⟨x, hx, rx⟩ := (RepL.ints (K := K) (H := H3) (R := Rg w2 ls2)).get hi
        refine ⟨⟨_, x, h3, hx⟩, fun y H' ⟨hH, hy⟩ => ?_⟩
        subst hH
        have e := hy _ h3
        rw [hx] at e
        cases e
        exact ⟨c3, Ext.refl, rx⟩
      · exact ⟨_, (h1.grow g).sq, by rw [List.length_map, List.length_map]; exact Nat.le_refl _⟩
    · rename_i z _hh
      cases hd
      cases r2
      have hsz : (signsD z).length = z.cps.size := by
        unfold signsD
        rw [List.length_map, Array.length_toList]
      refine .inr (.inr ⟨z, rfl, q _ H2 _ G2 L2 c2 e2 ⟨fun H3 w2 ls2 σ2 Δ2 G3 L3 i d g c3 hi => ?_, fun H3 w2 ls2 g => by show z.cps.size ≤ _; rw [hsz]; exact Nat.le_refl _⟩ k⟩)
      have hlt := (List.getElem?_eq_some_iff.mp hi).1
      rw [hsz] at hlt
      refine ⟨hlt, fun y H' ⟨hH, c, hc, hy⟩ => ?_⟩
      subst hH
      subst hy
      refine ⟨c3, Ext.refl, ?_⟩
      unfold signsD at hi
      rw [List.getElem?_map, Array.getElem?_toList, hc] at hi
      cases hi
      rfl
    · cases hd
/-! texts times ints -/
end
section
variable {K : PySem.W.Frag} {Δ : Sl} {G L : List M} {E : EndsD}
end
theorem law_sp {K : PySem.W.Frag} {sp : DSpec} {H : Hp} {a : Addr} {ns : List Int} {E : XK} (h : sp [.d (.scr ns)] [] (fun r _ => r = .v (.d (.bl true)))) (hS : SqL K H a (ns.map V.int)) : spD K sp [.ref a] H (fun v _ => v = .bl true) E := by
  refine ⟨⟨fun _ => False, [], H⟩, [.d (.scr ns)], [], _, rfl, ⟨fun _ h => (by cases h), fun _ h => h.elim, List.nodup_nil, fun _ h => (by cases h), fun a o h _ => h, ⟨rfl, fun i s e => by simp at e⟩, .nil, .nil, fun _ h => (by cases h)⟩, .cons ⟨a, rfl, ?_⟩ .nil, h, ?_, ?_⟩
  · rcases hS with h | h
    · exact .inl ⟨h, fun r => r.elim (fun z => z) (fun z => by cases z)⟩
    · exact .inr (.inr h)
  · intro v s H' G' c r e
    cases e
    exact r
  · intro ps k p ms H' G' c hp e
    cases e
end DL
namespace DL
open PySem PySem.Spec PyProof.Rows L2
theorem iteTT {A B : Prop} (h : A) : if true = true then A else B := by
  rw [if_pos rfl]
  exact h
theorem iteFF {A B : Prop} (h : B) : if false = true then A else B := by
  rw [if_neg Bool.false_ne_true]
  exact h
theorem iteD {p : Prop} [Decidable p] {A B : Prop} (h1 : p → A) (h2 : ¬ p → B) : if decide p = true then A else B := by
  by_cases h : p
  · rw [decide_eq_true h]
    exact iteTT (h1 h)
  · rw [decide_eq_false h]
    exact iteFF (h2 h)
end DL
namespace DL
open PySem PySem.Spec PyProof.Rows L2
section
variable {G L : List M} {k : Nat} {xs : List S} {ds : List D}
theorem hlG_g (h : G[k]? = some (.hl xs)) : hlG G L (.g k) = some xs := by
  simp only [hlG, h]
theorem lsG_g (h : G[k]? = some (.pl ds)) : lsG G L (.g k) = some ds := by
  simp only [lsG, h]
theorem lsG_l (h : L[k]? = some (.pl ds)) : lsG G L (.l k) = some ds := by
  simp only [lsG, h]
theorem seqG_g (h : G[k]? = some (.pl ds)) : seqG G L (.g k) = some ds := lsG_g (L := L) h
theorem seqG_l (h : L[k]? = some (.pl ds)) : seqG G L (.l k) = some ds := lsG_l (G := G) h
theorem tyS_g (h : G[k]? = some (.pl ds)) : tyS G L "list" (.g k) := .inl ⟨rfl, .inl ⟨_, lsG_g h⟩⟩
theorem tyS_l (h : L[k]? = some (.pl ds)) : tyS G L "list" (.l k) := .inl ⟨rfl, .inl ⟨_, lsG_l h⟩⟩
theorem set_at {α : Type} {l : List α} {k : Nat} {x y : α} (h : l[k]? = some y) : (l.set k x)[k]? = some x := by
  rw [List.getElem?_set_self (List.getElem?_eq_some_iff.mp h).1]
theorem set_off {α : Type} {l : List α} {k j : Nat} {x : α} (h : j ≠ k) : (l.set k x)[j]? = l[j]? := List.getElem?_set_ne (Ne.symm h)
theorem set_same {α : Type} {l : List α} {k : Nat} {x : α} (h : l[k]? = some x) : l.set k x = l := by
  refine List.ext_getElem? fun i => ?_
  by_cases e : i = k
  · subst e
    rw [set_at h, h]
  · rw [set_off e]
theorem set_comm {α : Type} {l : List α} {k j : Nat} {x y : α} (h : k ≠ j) : (l.set k x).set j y = (l.set j y).set k x := List.set_comm x y h
theorem set_set {α : Type} {l : List α} {k : Nat} {x y : α} : (l.set k x).set k y = l.set k y := List.set_set ..
end
end DL
namespace DL
open PySem PySem.Spec PyProof.Rows L2
section
variable {K : PySem.W.Frag} {Δ : Sl} {G L : List M} {Qd : Po} {Qn : PoN}
theorem evc_varX {i : Nat} (h : ∃ s, Δ[i]? = some (some s) ∧ Qd s G L) : EvC K (tVar i) Δ G L Qd := let ⟨_, e, k⟩ := h; evc_var e k
theorem u_ix_hX {x : S} {i : Int} (h : ∃ xs, hlG G L x = some xs ∧ ∃ s, atI xs i = some s ∧ Qd s G L) : OpC K (rIx K) x (.d (.int i)) Δ G L Qd := let ⟨_, e, _, e2, k⟩ := h; u_ix_h e e2 k
theorem u_ix_gX {x : S} {i : Int} (h : ∃ xs, seqG G L x = some xs ∧ ∃ d, atI xs i = some d ∧ Qd (.d d) G L) : OpC K (rIx K) x (.d (.int i)) Δ G L Qd := let ⟨_, e, _, e2, k⟩ := h; u_ix_g e e2 k
theorem ap_lenX {s : S} (h : ∃ ds, seqG G L s = some ds ∧ Qd (.d (.int (ds.length : Nat))) G L) : ApC K (uLen K) [s] Δ G L Qd := let ⟨_, e, k⟩ := h; ap_len e k
theorem ap_listX {s : S} (h : ∃ ds, seqG G L s = some ds ∧ Qn (.pl ds) G L) : ApN K (uList K) [s] Δ G L Qn := let ⟨_, e, k⟩ := h; ap_list e k
theorem ap_tupleX {s : S} (h : ∃ ds, lsG G L s = some ds ∧ Qd (.d (.tup ds)) G L) : ApC K (uTuple K) [s] Δ G L Qd := let ⟨_, e, k⟩ := h; ap_tuple e k
theorem u_ne_nilX {x y : S} (h : lsG G L y = some [] ∧ ∃ ns : List Int, lsG G L x = some (ns.map D.int) ∧ Qd (.d (.bl (!ns.isEmpty))) G L) : OpC K (uNe K) x y Δ G L Qd := let ⟨hy, _, hx, k⟩ := h; u_ne_nil hx hy k
theorem u_eq_nilX {x y : S} (h : lsG G L y = some [] ∧ ∃ ns : List Int, lsG G L x = some (ns.map D.int) ∧ Qd (.d (.bl ns.isEmpty)) G L) : OpC K (uEq K) x y Δ G L Qd := let ⟨hy, _, hx, k⟩ := h; u_eq_nil hx hy k
end
end DL
namespace DL
open PySem PySem.Spec PyProof.Rows L2
theorem le_line {n : Nat} (h : n ≤ 100000) : n ≤ sizeLine := Nat.le_trans h (by decide)
theorem lt_line {n : Nat} (h : n ≤ 100000) : n < sizeLine := Nat.lt_of_le_of_lt h (by decide)
section
variable {K : PySem.W.Frag} {Δ : Sl} {G L : List M} {E : EndsD} {t u : TS}
end
end DL
namespace DL
open PySem PySem.Spec PyProof.Rows L2
section
variable {K : PySem.W.Frag} {Δ : Sl} {G L : List M} {Qd : Po}
theorem opc_powL (i j : Int) (n : Nat) {z : Int} (hj : j = (n : Int)) (hn : n ≤ 1000000) (hi : i.natAbs < 2 ^ 64) (e : i ^ n = z) (k : Qd (.d (.int z)) G L) : OpC K (rI CPow fun i j => .int (i ^ j.toNat)) (.d (.int i)) (.d (.int j)) Δ G L Qd := by
  subst hj
  subst e
  exact opc_Ii (g := fun i j => i ^ j.toNat) ⟨by omega, by omega, hi⟩ k
theorem pow10_6 (k : Qd (.d (.int 1000000)) G L) : OpC K (rI CPow fun i j => .int (i ^ j.toNat)) (.d (.int 10)) (.d (.int 6)) Δ G L Qd := opc_powL 10 6 6 rfl (by decide) (by decide) (by decide +kernel) k
theorem pow10_9 (k : Qd (.d (.int 1000000000)) G L) : OpC K (rI CPow fun i j => .int (i ^ j.toNat)) (.d (.int 10)) (.d (.int 9)) Δ G L Qd := opc_powL 10 9 9 rfl (by decide) (by decide) (by decide +kernel) k
theorem pow10_12 (k : Qd (.d (.int 1000000000000)) G L) : OpC K (rI CPow fun i j => .int (i ^ j.toNat)) (.d (.int 10)) (.d (.int 12)) Δ G L Qd := opc_powL 10 12 12 rfl (by decide) (by decide) (by decide +kernel) k
theorem pow10_15 (k : Qd (.d (.int 1000000000000000)) G L) : OpC K (rI CPow fun i j => .int (i ^ j.toNat)) (.d (.int 10)) (.d (.int 15)) Δ G L Qd := opc_powL 10 15 15 rfl (by decide) (by decide) (by decide +kernel) k
theorem pow10_18 (k : Qd (.d (.int 1000000000000000000)) G L) : OpC K (rI CPow fun i j => .int (i ^ j.toNat)) (.d (.int 10)) (.d (.int 18)) Δ G L Qd := opc_powL 10 18 18 rfl (by decide) (by decide) (by decide +kernel) k
theorem pow10_39 (k : Qd (.d (.int 1000000000000000000000000000000000000000)) G L) : OpC K (rI CPow fun i j => .int (i ^ j.toNat)) (.d (.int 10)) (.d (.int 39)) Δ G L Qd := opc_powL 10 39 39 rfl (by decide) (by decide) (by decide +kernel) k
end
end DL
namespace DL
open PySem PySem.Spec PyProof.Rows L2
theorem mulL {i j : Int} (h1 : -(2 ^ 64) < i) (h2 : i < 2 ^ 64) : CMul i j := Or.inl ⟨h1, h2⟩
theorem mulR {i j : Int} (h1 : -(2 ^ 64) < j) (h2 : j < 2 ^ 64) : CMul i j := Or.inr ⟨h1, h2⟩
theorem divW {i j : Int} (h1 : 0 < j) (h2 : j < 2 ^ 64) : CDivW i j := wide_div (b := 64) h1 (by omega) (by decide) (by decide)
end DL
namespace DL
open PySem PySem.Spec PyProof.Rows L2
end DL
namespace DL
open PySem PySem.Spec PyProof.Rows L2
section
variable {K : PySem.W.Frag} {Δ : Sl} {G L : List M} {Qn : PoN} {wi : TI} {g : TG} {tt : TT} {te : TE} {vs : List Nat}
end
end DL
namespace DL
open PySem PySem.Spec PyProof.Rows L2
theorem atI_of {α : Type} {xs : List α} {i : Int} {j : Nat} {x : α} (h : xs[j]? = some x) (e : i = (j : Int)) : atI xs i = some x := by
  subst e
  have hj := (List.getElem?_eq_some_iff.mp h).1
  unfold atI ixN
  rw [if_pos (by omega), if_pos (by omega)]
  exact h
theorem atI_to {α : Type} {xs : List α} {i : Int} (h0 : 0 ≤ i) (h1 : i < (xs.length : Nat)) : ∃ x, x ∈ xs ∧ atI xs i = some x := by
  have hj : i.toNat < xs.length := by omega
  exact ⟨xs[i.toNat], List.getElem_mem hj, atI_of (j := i.toNat) (List.getElem?_eq_getElem hj) (by omega)⟩
end DL

namespace DL
open PySem PySem.Spec PyProof.Rows L2
/-! ### dicts of the top, with texts as keys -/
def DLit (K : PySem.W.Frag) (w : World) (a : Addr) (ks : List (Str × V)) : Prop := ∃ es n, K.lookup a = some ⟨.type "dict", none, .dict es n, #[]⟩ ∧ (a == sysModules) = false ∧
  Paired (fun (e : DictEntry) (p : Str × V) => (∃ t, e.key = .str p.1 t) ∧ e.hash = PyData.keyHash w.params p.1 ∧ RelV p.2 e.val) es.toList ks
theorem dlit_keys {w : World} : ∀ {es : List DictEntry} {ks : List (Str × V)}, Paired (fun (e : DictEntry) (p : Str × V) => (∃ t, e.key = .str p.1 t) ∧ e.hash = PyData.keyHash w.params p.1 ∧ RelV p.2 e.val) es ks → PySem.W.KeysLit w.params es
  | _, _, .nil => trivial
  | _, _, .cons ⟨⟨t, h1⟩, h2, _⟩ r => ⟨⟨_, t, h1, h2⟩, dlit_keys r⟩
theorem dlit_find {w : World} {z : Str} : ∀ {es : List DictEntry} {ks : List (Str × V)}, Paired (fun (e : DictEntry) (p : Str × V) => (∃ t, e.key = .str p.1 t) ∧ e.hash = PyData.keyHash w.params p.1 ∧ RelV p.2 e.val) es ks →
    es.any (·.refKey) = false ∧ (match ks.find? (fun p => p.1 == z) with
      | some p => ∃ e, es.find? (·.key.isStr z) = some e ∧ RelV p.2 e.val
      | none => es.find? (·.key.isStr z) = none)
  | _, _, .nil => ⟨rfl, rfl⟩
  | _, _, .cons (a := e) (b := p) ⟨⟨t, h1⟩, h2, h3⟩ r => by
    obtain ⟨i1, i2⟩ := dlit_find (z := z) r
    have hk : e.key.isStr z = (p.1 == z) := by
      rw [h1]
      rfl
    refine ⟨?_, ?_⟩
    · rw [List.any_cons, i1]
      have : e.refKey = false := by
        unfold DictEntry.refKey
        rw [h1]
      rw [this]
      rfl
    · rw [List.find?_cons, List.find?_cons, hk]
      cases (p.1 == z) with
      | true => exact ⟨e, rfl, h3⟩
      | false => exact i2
def dGet (ks : List (Str × V)) (z : Str) : Option V := (ks.find? (fun p => p.1 == z)).map (·.2)
theorem DLit.get {K : PySem.W.Frag} {w : World} {a : Addr} {ks : List (Str × V)} (h : DLit K w a ks) {z : Str} {v : V} (e : dGet ks z = some v) : KDct K w a z v := by
  obtain ⟨es, n, h1, h2, h3⟩ := h
  obtain ⟨h4, h5⟩ := dlit_find (z := z) h3
  unfold dGet at e
  cases hf : ks.find? (fun p => p.1 == z) with
  | none =>
    rw [hf] at e
    cases e
  | some p =>
    rw [hf] at e h5
    cases e
    obtain ⟨en, h6, h7⟩ := h5
    refine ⟨es, n, en.val, h1, dlit_keys h3, ?_, h7⟩
    unfold PySem.W.nsIn
    rw [h1]
    show (match es.toList.find? (·.key.isStr z) with
      | some e => some (some e.val)
      | none => if es.toList.any (·.refKey) then none else some none) = _
    rw [h6]
section
variable {K : PySem.W.Frag} {Δ : Sl} {G L : List M} {E : EndsD} {ta tb : TE}
end
end DL
namespace DL
open PySem PySem.Spec PyProof.Rows L2
section
variable {K : PySem.W.Frag} {Δ : Sl} {G L : List M} {Qd : Po}
/-! forgetting what a text is, keeping its length -/
theorem u_add_sF {i j : Str} (hl : i.length + j.length ≤ 100000) (k : ∀ z : Str, z.length = i.length + j.length → Qd (.d (.str z)) G L) : OpC K (uAdd K) (.d (.str i)) (.d (.str j)) Δ G L Qd :=
  u_add_s (le_line hl) (k _ (PySem.Str.length_append i j))
theorem sl_sF {z : Str} {lo hi : Option Int} (hl : z.length ≤ 100000) (k : ∀ y : Str, y.length ≤ z.length → Qd (.d (.str y)) G L) : SlC K (uSl K) (.d (.str z)) lo hi Δ G L Qd :=
  sl_s (le_line hl) (k _ (cutS_length z lo hi))
theorem mt_upperF {z : Str} (hl : z.length ≤ 100000) (k : ∀ y : Str, y.length ≤ 3 * z.length → Qd (.d (.str y)) G L) : MtC K (fun x xs H Q => ∃ a, x = .str a ∧ xs = [] ∧ a.length ≤ 5592405 ∧ Q (.str (Txt.upper a)) H) (.d (.str z)) [] Δ G L Qd :=
  mt_upper_d (by omega) (k _ (PyProof.Rows.len_upper z))
theorem ap_lenSF {z : Str} (hl : z.length ≤ 100000) (k : Qd (.d (.int (z.length : Nat))) G L) : ApC K (uLen K) [.d (.str z)] Δ G L Qd := ap_lenS (le_line hl) k
theorem u_ix_all {x : S} {i : Int} (h : ∃ ds, seqG G L x = some ds ∧ 0 ≤ i ∧ i < (ds.length : Nat) ∧ ∀ d ∈ ds, Qd (.d d) G L) : OpC K (rIx K) x (.d (.int i)) Δ G L Qd := by
  obtain ⟨ds, hx, h0, h1, k⟩ := h
  obtain ⟨d, hd, e⟩ := atI_to h0 h1
  exact u_ix_g hx e (k d hd)
end
end DL
namespace DL
open PySem PySem.Spec PyProof.Rows L2
section
variable {K : PySem.W.Frag} {Δ : Sl} {G L : List M} {Qd : Po} {Qn : PoN}
theorem u_add_lX {x y : S} (h : ∃ xs, lsG G L x = some xs ∧ ∃ ys, lsG G L y = some ys ∧ xs.length + ys.length ≤ sizeLine ∧ Qn (.pl (xs ++ ys)) G L) : OpN K (uAdd K) x y Δ G L Qn :=
  let ⟨_, hx, _, hy, hl, k⟩ := h; u_add_l hx hy hl k
theorem u_mul_lX {x : S} {j : Int} (h : ∃ xs, lsG G L x = some xs ∧ (0 ≤ j ∧ j < 2 ^ 62 ∧ xs.length * j.toNat ≤ sizeLine) ∧ Qn (.pl (List.replicate j.toNat xs).flatten) G L) : OpN K (uMul K) x (.d (.int j)) Δ G L Qn :=
  let ⟨_, hx, ⟨h0, h1, hl⟩, k⟩ := h; u_mul_l hx (by omega) (by omega) hl k
end
end DL
namespace DL
open PySem PySem.Spec PyProof.Rows L2
section
variable {K : PySem.W.Frag} {Δ : Sl} {G L : List M} {Qd : Po} {Qn : PoN}
theorem u_add_sR (m : Nat) {i j : Str} (hm : j.length = m) (hl : i.length + m ≤ 100000) (k : ∀ z : Str, z.length = i.length + m → Qd (.d (.str z)) G L) : OpC K (uAdd K) (.d (.str i)) (.d (.str j)) Δ G L Qd :=
  u_add_sF (by omega) fun z h => k z (by omega)
theorem u_add_sLm (m : Nat) {i j : Str} (hm : i.length = m) (hl : m + j.length ≤ 100000) (k : ∀ z : Str, z.length = m + j.length → Qd (.d (.str z)) G L) : OpC K (uAdd K) (.d (.str i)) (.d (.str j)) Δ G L Qd :=
  u_add_sF (by omega) fun z h => k z (by omega)
end
end DL
namespace DL
open PySem PySem.Spec PyProof.Rows L2
section
variable {K : PySem.W.Frag} {Δ : Sl} {G L : List M} {Qd : Po} {Qn : PoN}
end
end DL
namespace DL
end DL
namespace DL
open PySem PySem.Spec PyProof.Rows L2
section
variable {K : PySem.W.Frag} {Δ : Sl} {G L : List M} {Qd : Po} {Qn : PoN}
theorem u_in_iX {i : Int} {y : S} (h : ∃ ns : List Int, seqG G L y = some (ns.map D.int) ∧ Qd (.d (.bl (decide (i ∈ ns)))) G L) : OpC K (uIn K false) (.d (.int i)) y Δ G L Qd := let ⟨_, hy, k⟩ := h; u_in_i hy k
theorem u_in_sX {i : Str} {y : S} (h : ∃ ns : List Str, seqG G L y = some (ns.map D.str) ∧ Qd (.d (.bl (decide (i ∈ ns)))) G L) : OpC K (uIn K false) (.d (.str i)) y Δ G L Qd := let ⟨_, hy, k⟩ := h; u_in_s hy k
theorem u_nin_iX {i : Int} {y : S} (h : ∃ ns : List Int, seqG G L y = some (ns.map D.int) ∧ Qd (.d (.bl (!decide (i ∈ ns)))) G L) : OpC K (uIn K true) (.d (.int i)) y Δ G L Qd := let ⟨_, hy, k⟩ := h; u_in_i hy k
theorem u_nin_sX {i : Str} {y : S} (h : ∃ ns : List Str, seqG G L y = some (ns.map D.str) ∧ Qd (.d (.bl (!decide (i ∈ ns)))) G L) : OpC K (uIn K true) (.d (.str i)) y Δ G L Qd := let ⟨_, hy, k⟩ := h; u_in_s hy k
end
end DL

namespace DL
open PySem PySem.Spec PyProof.Rows L2
/-! text * int; repr; str -/
def rTxMul : R2 := fun x y H Q => ∃ (z : Str) (k : Int), x = .str z ∧ y = .int k ∧ 0 ≤ k ∧ k ≤ 100000 ∧ z.length ≤ 100000 ∧ z.length * k.toNat ≤ 1000000 ∧ ∀ o : Str, o.length = z.length * k.toNat → Q (.str o) H
section
variable {K : PySem.W.Frag} {Δ : Sl} {G L : List M} {Qd : Po} {Qn : PoN}
theorem u_txmul {z : Str} {k : Int} (h1 : 0 ≤ k ∧ k ≤ 100000 ∧ z.length ≤ 100000 ∧ z.length * k.toNat ≤ 1000000) (q : ∀ o : Str, o.length = z.length * k.toNat → Qd (.d (.str o)) G L) : OpC K rTxMul (.d (.str z)) (.d (.int k)) Δ G L Qd := fun w ls σ H vx vy c rx ry Q qq => by
  cases rx
  cases ry
  exact ⟨z, k, rfl, rfl, h1.1, h1.2.1, h1.2.2.1, h1.2.2.2, fun o ho => qq.go c Ext.refl (s := .d (.str o)) rfl (q o ho)⟩
end
end DL

namespace DL
open PySem PySem.Spec PyProof.Rows L2
/-! isinstance of data -/
def tyD : D → Option String
  | .non => some "NoneType"
  | .bl _ => some "bool"
  | .int _ => some "int"
  | .str _ => some "str"
  | .tup _ => some "tuple"
  | .lst _ => some "list"
  | .dct _ => some "dict"
  | _ => none
theorem tyx_sqT {K : PySem.W.Frag} {H : Hp} {a : Addr} {xs : List V} (h : SqT K H a xs) : TyX K H (.ref a) (.type "tuple") := by
  rcases h with (h | ⟨o, h⟩) | ⟨o, its, n, hk, hc, _⟩
  · exact .base (.tup h)
  · exact .fTuple h
  · exact .kTuple hk hc
theorem rep_ty {K : PySem.W.Frag} {H : Hp} {R : Addr → Prop} : ∀ {d : D} {v : V} {T : String}, tyD d = some T → Rep K H R d v → TyX K H v (.type T)
  | .non, _, _, e, r => by
    cases e
    cases r
    exact .base .non
  | .bl b, _, _, e, r => by
    cases e
    cases r
    exact .base (.bl b)
  | .int i, _, _, e, r => by
    cases e
    cases r
    exact .base (.int i)
  | .str x, _, _, e, r => by
    cases e
    cases r
    exact .base (.str x)
  | .tup ds, _, _, e, r => by
    cases e
    obtain ⟨a, xs, rfl, h, _⟩ := r
    exact tyx_sqT h.sq
  | .lst ds, _, _, e, r => by
    cases e
    obtain ⟨a, xs, rfl, ⟨h, _⟩, _⟩ := r
    exact .base (.lst h)
  | .dct ds, _, _, e, r => by
    cases e
    obtain ⟨a, xs, rfl, ⟨h, _⟩, _⟩ := r
    exact .base (.dK h)
  | .ty _, _, _, e, _ => by cases e
  | .ref _, _, _, e, _ => by cases e
  | .scr _, _, _, e, _ => by cases e
  | .ins _ _, _, _, e, _ => by cases e
  | .exn _ _ _, _, _, e, _ => by cases e
  | .exv _ _, _, _, e, _ => by cases e
section
variable {K : PySem.W.Frag} {Δ : Sl} {G L : List M} {Qd : Po} {Qn : PoN} {te : TE} {E : EndsD}
theorem ap_isi {d : D} {T U : String} {b : Bool} (h : tyD d = some T) (hb : kitB T U = some b) (k : Qd (.d (.bl b)) G L) : ApC K (rIsi K) [.d d, .d (.ty U)] Δ G L Qd := fun w ls σ H vs c rs Q q => by
  obtain ⟨v, u, rfl, r1, r2⟩ := pair2 rs
  have r2 : u = .ty U := r2
  subst r2
  exact ⟨v, _, _, _, b, rfl, .ty U, rep_ty h r1, kit_ty hb, q.go c Ext.refl (s := .d (.bl b)) rfl k⟩
/-! any of ints, all of truths -/
/-! max and min of two ints; truths compared by `is` -/
def rMax2 : List V → Hp → VK → Prop := fun xs H Q => ∃ i j, xs = [.int i, .int j] ∧ Q (.int (if j > i then j else i)) H
def rMin2 : List V → Hp → VK → Prop := fun xs H Q => ∃ i j, xs = [.int i, .int j] ∧ Q (.int (if j < i then j else i)) H
theorem uc_max2 {X : Cx} (hc : X.calm = true) : CallR X (.builtin "max") rMax2 := call_max2 hc
theorem uc_min2 {X : Cx} (hc : X.calm = true) : CallR X (.builtin "min") rMin2 := call_min2 hc
theorem ap_max2 {i j : Int} (k : Qd (.d (.int (if j > i then j else i))) G L) : ApC K rMax2 [.d (.int i), .d (.int j)] Δ G L Qd := fun w ls σ H vs c rs Q q => by
  obtain ⟨v, u, rfl, r1, r2⟩ := pair2 rs
  cases r1
  cases r2
  exact ⟨i, j, rfl, q.go c Ext.refl (s := .d (.int (if j > i then j else i))) rfl k⟩
theorem ap_min2 {i j : Int} (k : Qd (.d (.int (if j < i then j else i))) G L) : ApC K rMin2 [.d (.int i), .d (.int j)] Δ G L Qd := fun w ls σ H vs c rs Q q => by
  obtain ⟨v, u, rfl, r1, r2⟩ := pair2 rs
  cases r1
  cases r2
  exact ⟨i, j, rfl, q.go c Ext.refl (s := .d (.int (if j < i then j else i))) rfl k⟩
theorem u_isB {a b : Bool} (k : Qd (.d (.bl (decide (a = b)))) G L) : OpC K rIsB (.d (.bl a)) (.d (.bl b)) Δ G L Qd := fun w ls σ H vx vy c rx ry Q q => by
  cases rx
  cases ry
  exact ⟨a, b, rfl, rfl, q.go c Ext.refl (s := .d (.bl (decide (a = b)))) rfl k⟩
theorem u_notB {a b : Bool} (k : Qd (.d (.bl (!decide (a = b)))) G L) : OpC K rNotB (.d (.bl a)) (.d (.bl b)) Δ G L Qd := fun w ls σ H vx vy c rx ry Q q => by
  cases rx
  cases ry
  exact ⟨a, b, rfl, rfl, q.go c Ext.refl (s := .d (.bl (!decide (a = b)))) rfl k⟩
/-! truths compared by == -/
theorem u_eq_b {i j : Bool} (k : Qd (.d (.bl (decide (i = j)))) G L) : OpC K (uEq K) (.d (.bl i)) (.d (.bl j)) Δ G L Qd := fun w ls σ H vx vy c rx ry Q q => by
  cases rx
  cases ry
  refine .inl ⟨rfl, ?_⟩
  have e : decide (V.bl i = V.bl j) = decide (i = j) := by simp
  rw [e]
  exact q.go c Ext.refl (s := .d (.bl (decide (i = j)))) rfl k
theorem u_ne_b {i j : Bool} (k : Qd (.d (.bl (!decide (i = j)))) G L) : OpC K (uNe K) (.d (.bl i)) (.d (.bl j)) Δ G L Qd := fun w ls σ H vx vy c rx ry Q q => by
  cases rx
  cases ry
  refine .inl ⟨rfl, ?_⟩
  have e : decide (V.bl i = V.bl j) = decide (i = j) := by simp
  rw [e]
  exact q.go c Ext.refl (s := .d (.bl (!decide (i = j)))) rfl k
/-! lists of ints compared -/
end
end DL

namespace DL
open PySem PySem.Spec PyProof.Rows L2
/-! [::-1] of lists and of tuples -/
section
variable {prog : Program} {w : World} {A : Around} {E : Value → Shared → Prop} {s : Shared}
end
def tRevU (K : PySem.W.Frag) (te : TE) : TE := fun σ H Q => te σ H fun x H1 => ∃ a xs, x = .ref a ∧ ((SqL K H1 a xs ∧ ∀ p, H1 p = none → Q (.ref p) (upd H1 p (.lst xs.reverse))) ∨ (SqT K H1 a xs ∧ ∀ p, H1 p = none → Q (.ref p) (upd H1 p (.tup xs.reverse))))
section
variable {K : PySem.W.Frag} {Δ : Sl} {G L : List M} {Qd : Po} {Qn : PoN} {te : TE} {E : EndsD}
theorem evn_revU (h : EvC K te Δ G L fun x G1 L1 => ∃ ds, lsG G1 L1 x = some ds ∧ Qn (.pl ds.reverse) G1 L1) : EvN K (tRevU K te) Δ G L Qn := fun w ls σ H c Q ret => h w ls σ H c _ fun v s H2 G2 L2 c2 e2 r2 ⟨ds, hd, k⟩ => by
  obtain ⟨a, xs, rfl, h1, q1⟩ := lsG_get c2 r2 hd
  exact ⟨a, xs, rfl, .inl ⟨.inl (.inl h1), fun p hp => ret p _ _ _ _ (none_back c2 e2 hp) (newAt_pl c2 hp (repL_rev q1)) (e2.trans (Ext.new hp)) k⟩⟩
/-! tuple * int -/
def uMulT (K : PySem.W.Frag) : R2 := fun x y H Q => uMul K x y H Q ∨ rRepT K x y H Q
theorem uo_mulT {X : Cx} : OpR X (binaryOp .Mult) (uMulT X.K) := uo_mul.or op_repT
theorem u_mulT_i {i j : Int} (hc : CMul i j) (k : Qd (.d (.int (i * j))) G L) : OpC K (uMulT K) (.d (.int i)) (.d (.int j)) Δ G L Qd := opc_orl (u_mul_i hc k)
theorem u_mulT_lX {x : S} {j : Int} (h : ∃ xs, lsG G L x = some xs ∧ (0 ≤ j ∧ j < 2 ^ 62 ∧ xs.length * j.toNat ≤ sizeLine) ∧ Qn (.pl (List.replicate j.toNat xs).flatten) G L) : OpN K (uMulT K) x (.d (.int j)) Δ G L Qn := opn_orl (u_mul_lX h)
/-! o[i] op= e -/
theorem st_augS {to ti : TE} {tget : V → V → Hp → VK → Prop} {tip : TIp} {tset : TSet} (h : EvC K to Δ G L fun o G1 L1 => EvC K ti Δ G1 L1 fun i G2 L2 => OpC K tget o i Δ G2 L2 fun x G3 L3 => EvC K te Δ G3 L3 fun y G4 L4 =>
    OpC K tip x y Δ G4 L4 fun z G5 L5 => StoC K tset o i z Δ G5 L5 fun G6 L6 => E.nx Δ G6 L6) : StC K (tAugS to ti te tget tip tset) Δ G L E := fun w ls σ H c D s =>
  h w ls σ H c _ fun vo o H1 G1 L1 c1 e1 r1 h1 => h1 w ls σ H1 c1 _ fun vi i H2 G2 L2 c2 e2 r2 h2 =>
    h2 w ls σ H2 vo vi c2 (r1.on c1 e2) r2 _ fun vx x H3 G3 L3 c3 e3 r3 h3 => h3 w ls σ H3 c3 _ fun vy y H4 G4 L4 c4 e4 r4 h4 =>
      h4 w ls σ H4 vx vy c4 (r3.on c3 e4) r4 _ fun vz z H5 G5 L5 c5 e5 r5 h5 =>
        h5 w ls σ H5 vo vi vz c5 ((((r1.on c1 e2).on c2 e3).on c3 e4).on c4 e5) (((r2.on c2 e3).on c3 e4).on c4 e5) r5 _ fun H6 G6 L6 c6 e6 k =>
          s.nx ls σ H6 Δ G6 L6 c6 ((e1.trans (e2.trans (e3.trans (e4.trans (e5.trans e6))))).grow c.reg) k
theorem opc_ip {f : Int → Int → Int} {i j : Int} (k : Qd (.d (.int (f i j))) G L) : OpC K (ipI f) (.d (.int i)) (.d (.int j)) Δ G L Qd := fun w ls σ H vx vy c rx ry Q q => by
  cases rx
  cases ry
  exact ⟨i, j, rfl, rfl, q.go c Ext.refl (s := .d (.int (f i j))) rfl k⟩
theorem u_get_l {k : Nat} {i : Int} {d : D} {xs : List D} (hx : L[k]? = some (.pl xs)) (hi : atI xs i = some d) (q : Qd (.d d) G L) : OpC K (rIxL K) (.l k) (.d (.int i)) Δ G L Qd := fun w ls σ H vx vy c rx ry Q ret => by
  obtain ⟨a, vs, rfl, h1, q1⟩ := lsG_get c rx (lsG_l hx)
  obtain ⟨j, e, hj⟩ := atI_some hi
  obtain ⟨v, hv, r⟩ := q1.get hj
  have ha : atI vs i = some v := by
    unfold atI
    rw [q1.length, e]
    exact hv
  exact ⟨a, vs, i, v, rfl, ry, .inl (.inl h1), ha, ret.go c Ext.refl (s := .d d) r q⟩
theorem u_get_int {k : Nat} {i : Int} {xs : List Int} (hx : L[k]? = some (.pl (xs.map D.int))) (h0 : 0 ≤ i) (h1 : i < (xs.length : Nat)) (q : Qd (.d (.int (xs.getD i.toNat 0))) G L) : OpC K (rIxL K) (.l k) (.d (.int i)) Δ G L Qd := by
  obtain ⟨n, rfl⟩ := Int.eq_ofNat_of_zero_le h0
  have hn : n < xs.length := by omega
  refine u_get_l hx (atI_of (j := n) ?_ rfl) q
  rw [List.getElem?_map, List.getElem?_eq_getElem hn]
  show some (D.int xs[n]) = some (D.int (xs.getD n 0))
  rw [List.getD_eq_getElem?_getD, List.getElem?_eq_getElem hn]
  rfl
theorem sto_int {k : Nat} {i z : Int} {xs : List Int} {Qt : List M → List M → Prop} (hx : L[k]? = some (.pl (xs.map D.int))) (h0 : 0 ≤ i) (h1 : i < (xs.length : Nat)) (q : Qt G (L.set k (.pl ((xs.set i.toNat z).map D.int)))) : StoC K rSetL (.l k) (.d (.int i)) (.d (.int z)) Δ G L Qt := by
  obtain ⟨n, rfl⟩ := Int.eq_ofNat_of_zero_le h0
  have hn : n < xs.length := by omega
  have e : ixN (xs.map D.int).length (n : Int) = some n := by
    rw [List.length_map]
    unfold ixN
    rw [if_pos h0, if_pos (by omega)]
    rfl
  refine sto_lp hx e ?_
  have e2 : (xs.map D.int).set n (.int z) = (xs.set n z).map D.int := by rw [List.map_set]
  rw [e2]
  exact q
theorem isi_ii {i : Int} (k : Qd (.d (.bl true)) G L) : ApC K (rIsi K) [.d (.int i), .d (.ty "int")] Δ G L Qd := ap_isi rfl (by decide +kernel) k
theorem isi_ib {i : Int} (k : Qd (.d (.bl false)) G L) : ApC K (rIsi K) [.d (.int i), .d (.ty "bool")] Δ G L Qd := ap_isi rfl (by decide +kernel) k
theorem isi_bb {i : Bool} (k : Qd (.d (.bl true)) G L) : ApC K (rIsi K) [.d (.bl i), .d (.ty "bool")] Δ G L Qd := ap_isi rfl (by decide +kernel) k
theorem isi_bi {i : Bool} (k : Qd (.d (.bl true)) G L) : ApC K (rIsi K) [.d (.bl i), .d (.ty "int")] Δ G L Qd := ap_isi rfl (by decide +kernel) k
theorem isi_tt {ds : List D} (k : Qd (.d (.bl true)) G L) : ApC K (rIsi K) [.d (.tup ds), .d (.ty "tuple")] Δ G L Qd := ap_isi rfl (by decide +kernel) k
theorem isi_ss {z : Str} (k : Qd (.d (.bl true)) G L) : ApC K (rIsi K) [.d (.str z), .d (.ty "str")] Δ G L Qd := ap_isi rfl (by decide +kernel) k
theorem iteNT {A B : Prop} (h : B) : if (!true) = true then A else B := by
  rw [if_neg (by decide)]
  exact h
theorem iteNF {A B : Prop} (h : A) : if (!false) = true then A else B := by
  rw [if_pos (by decide)]
  exact h
end
end DL

namespace DL
open PySem PySem.Spec PyProof.Rows L2
/-! data that can be compared, with its depth -/
def Eqb1 (k : Nat) (d : D) : Prop := ∃ p, d.py = some p ∧ p.canLay0 = true ∧ p.depth ≤ k
theorem eqb1_int (k : Nat) (i : Int) : Eqb1 k (.int i) := ⟨.int i, rfl, rfl, Nat.zero_le _⟩
theorem eqb1_all {k : Nat} : ∀ {ds : List D}, (∀ d ∈ ds, Eqb1 k d) → ∃ ps, pyL ds = some ps ∧ PyData.canLayAll0 ps = true ∧ PyData.depthAll ps ≤ k
  | [], _ => ⟨[], rfl, rfl, Nat.zero_le _⟩
  | d :: ds, h => by
    obtain ⟨p, h1, h2, h3⟩ := h d List.mem_cons_self
    obtain ⟨ps, h4, h5, h6⟩ := eqb1_all fun x hx => h x (List.mem_cons_of_mem _ hx)
    refine ⟨p :: ps, ?_, ?_, ?_⟩
    · unfold pyL
      rw [h1, h4]
    · show (p.canLay0 && PyData.canLayAll0 ps) = true
      rw [h2, h5]
      rfl
    · simp only [PyData.depthAll]
      omega
theorem eqb1_lst {k : Nat} {ds : List D} (h : ∀ d ∈ ds, Eqb1 k d) : Eqb1 (k + 1) (.lst ds) := by
  obtain ⟨ps, h1, h2, h3⟩ := eqb1_all h
  refine ⟨.list ps, ?_, h2, ?_⟩
  · unfold D.py
    rw [h1]
  · simp only [PyData.depth]
    omega
section
variable {K : PySem.W.Frag} {Δ : Sl} {G L : List M} {Qd : Po}
theorem u_ix_int {x : S} {i : Int} {xs : List Int} (hx : seqG G L x = some (xs.map D.int)) (h0 : 0 ≤ i) (h1 : i < (xs.length : Nat)) (q : Qd (.d (.int (xs.getD i.toNat 0))) G L) : OpC K (rIx K) x (.d (.int i)) Δ G L Qd := by
  obtain ⟨n, rfl⟩ := Int.eq_ofNat_of_zero_le h0
  have hn : n < xs.length := by omega
  refine u_ix_g hx (atI_of (j := n) ?_ rfl) q
  rw [List.getElem?_map, List.getElem?_eq_getElem hn]
  show some (D.int xs[n]) = some (D.int (xs.getD n 0))
  rw [List.getD_eq_getElem?_getD, List.getElem?_eq_getElem hn]
  rfl
theorem asv_v {s : S} (k : Qd s G L) : asV Qd L (.v s) G := k
theorem evc_neg {te : TE} (h : EvC K te Δ G L fun s G1 L1 => ∃ i, s = .d (.int i) ∧ Qd (.d (.int (-i))) G1 L1) : EvC K (tUn (rU fun i => V.int (-i)) te) Δ G L Qd := fun w ls σ H c Q ret => h w ls σ H c _ fun v s H2 G2 L2 c2 e2 r2 ⟨i, hs, k⟩ => by
  subst hs
  exact ⟨i, r2, ret.go c2 e2 (s := .d (.int (-i))) rfl k⟩
theorem last_at {α : Type} (f : α → D) {xs : List α} (h : (xs.map f).isEmpty = false) : ∃ l, l ∈ xs ∧ atI (xs.map f) (-1) = some (f l) := by
  have hp : 0 < xs.length := by
    cases xs with
    | nil => cases h
    | cons _ _ => exact Nat.succ_pos _
  refine ⟨xs[xs.length - 1], List.getElem_mem _, ?_⟩
  unfold atI ixN
  rw [List.length_map, if_neg (by decide), if_pos (by omega)]
  have e : (-1 + ((xs.length : Nat) : Int)).toNat = xs.length - 1 := by omega
  show (xs.map f)[(-1 + ((xs.length : Nat) : Int)).toNat]? = _
  rw [e, List.getElem?_map, List.getElem?_eq_getElem (by omega)]
  rfl
end
end DL

namespace DL
open PySem PySem.Spec PyProof.Rows L2
example : callerA.guards = some [] := rfl
/-! repr of a list or a tuple of data, where the guards are known to be empty -/
structure FnG (P : Program) (w : World) (K : PySem.W.Frag) (mg : Str → Option Value) (base : Heap) (k : Nat) (f : Addr) (fd : FuncData) (ps : List Str) (sp : Sp) : Prop where
  len : ∀ vs H Q E, sp vs H Q E → vs.length = ps.length
  run : ∀ (A : Around) (outer : List Env) (s : Shared) (H : Hp) (args : Args) (us : List Value) (vs : List V) (Q : VK) (E : XK), A.guards = some [] → Room k A → Env0 P w K mg base A outer s H →
    BindsTo s fd args (ps.zip us) → Vals vs us → sp vs H Q E → codeAny (model P w) A (.call (.ref f) args) (CR CX0 outer P w H s Q E) s
section
variable {P : Program} {w : World} {K : PySem.W.Frag} {mg : Str → Option Value} {base : Heap} {j k : Nat} {f : Addr} {fd : FuncData} {ps : List Str} {sp : Sp}
theorem FnG.of (F : FnOk P w K mg base CX0 k f fd ps sp) : FnG P w K mg base k f fd ps sp := ⟨F.len, fun A outer s H args us vs Q E _ => F.run A outer s H args us vs Q E⟩
end
section
variable {X : Cx} {f : Addr} {fd : FuncData} {ps : List Str} {sp : Sp} {ds : List Value} {dvs : List V} {k : Nat} {x : Str} {E : XK} {e : Expr} {es : List Expr} {t : TA} {p pos : Pos}
theorem run_fnG {pins : List (Addr × Obj)} {σ : L2.St} {H : Hp} {s : Shared} {Q : VK} {us : List Value} {vs : List V} (F : FnG X.prog X.w X.K X.mg X.base k f fd ps sp) (hg : X.A.guards = some []) (hr : Room k X.A) (hb : Binds X.K fd ps ds) (hd : Vals dvs ds)
    (hx : Passes CX0 X E) (I : Inv X pins σ H s) (r : Vals vs us) (h : sp (vs ++ dvs) H Q E) : wpAny (model X.prog X.w) X.A (call (.ref f) us) (EP X pins σ Q) X.xe s := by
  have both := r.append hd
  have hl := F.len _ _ _ _ h
  rw [both.length] at hl
  refine wpAny_call (codeAny_mono (F.run X.A X.stack s H ⟨us, []⟩ (us ++ ds) (vs ++ dvs) Q E hg hr I.env0 (hb s us I.kIn hl) both h) fun r s2 hq => ?_)
  match r, hq with
  | .error e, hq => exact hx pins σ H s e s2 I hq
  | .ok (.ret u), hq => exact I.after hq
  | .ok .next, hq => exact hq.elim
  | .ok .brk, hq => exact hq.elim
  | .ok .cont, hq => exact hq.elim
theorem pe_callG (F : FnG X.prog X.w X.K X.mg X.base k f fd ps sp) (hg : X.A.guards = some []) (hr : Room k X.A) (hl : Gl X x) (hm : X.mg x = some (.ref f)) (hk : PySem.W.keepIn X.K (.ref f) = true) (hb : Binds X.K fd ps ds) (hd : Vals dvs ds) (hx : Passes CX0 X E)
    (ha : PA X (e :: es) t) (hdb : (x == ("__debug__" : Str)) = false := by decide) (he : starEach (e :: es) X.env = (false, eval e X.env) :: starEach es X.env := by rfl) (hpl : (backTo pos (starEach es X.env)).any (·.1) = false := by rfl) :
    PE X (.Call (.Name x p) (e :: es) [] pos) (tCall sp dvs E t) :=
  ⟨fun pins s σ H Q I h => wpAny_Call_Name_kw (ld_glob I hl hm (PySem.W.callWith_K (h₀ := X.base) I.ok.mod.kin hk (thn (ha.run pos pins s σ H _ I h) fun us s1 ⟨vs, H1, I1, r, q⟩ => ⟨I1.kIn, run_fnG F hg hr hb hd hx I1 r q⟩) he hpl) hdb)⟩
end
section
variable {P : Program} {w : World} {K : PySem.W.Frag} {mg : Str → Option Value} {base : Heap}
theorem okFnG {x qual : Str} {st : Stmt} {f : Addr} {fd : FuncData} {N ps : List Str} {k : Nat} {sp : Sp} (F : Fun K x qual st f fd) (S : FnScope N ps (defScope st)) (len : ∀ vs H Q E, sp vs H Q E → vs.length = ps.length)
    (hbody : ∀ (cdv : Value) (A : Around) (outer : List Env) (s : Shared) (H : Hp) (vs : List V) (Q : VK) (E : XK), A.guards = some [] → Room k (A.deeper (envOfC qual (defScope st) s.heap.objs.size f cdv)) → sp vs H Q E →
      ∃ t, PSs (cxOf CX0 P w K mg base N qual (defScope st) f cdv A outer s H E).nox (defBody st) t ∧ t { nx := fun _ H' => Q .non H', rt := Q } (L2.start N vs) H) : FnG P w K mg base (k + 1) f fd ps sp := by
  obtain ⟨oc, od, kV, doc, pm, an, cdv, ct, osl, rfl, lk, hcd⟩ := F.ex
  refine ⟨len, fun A outer s H args us vs Q E hg hr e0 hb r hsp => ?_⟩
  have old : ∀ b o, base.get? b = some o → s.heap.get? b = some o := fun b o e => (e0.bs b o e).1
  have KX : K.In s.heap := e0.mod.kin.keeps old
  have kinds : ∀ y ∈ ps.zip us, (defScope st).names.lookup y.1 = some .local ∨ ((defScope st).names.lookup y.1 = some .cell ∧ ((cellsFrom (s.heap.objs.size + 1) (defScope st).names []).lookup y.1).isSome = true) := by
    rintro ⟨n, v⟩ hy
    exact (S.par n (List.of_mem_zip hy).1).imp id fun q => ⟨q, PySem.W.cellsFrom_some _ _ _ (.inl q)⟩
  refine codeAny_call_function hr.depth (KX _ _ lk) rfl S.co S.gen rfl (PySem.W.codeRec_of KX hcd) (hb _ _ _ _ (wpAny_newFunctionEnv_cells S.kind kinds fun env he s1 x => ?_))
  subst he
  refine ⟨(e0.mod.nolimit.keeps old).keeps x.toInCall.keep, codeAny_func ?_⟩
  obtain ⟨t, ht, hq⟩ := hbody cdv A outer s H vs Q E hg (hr.deeper _) hsp
  have I := inv_start (CX := CX0) (E := E) S hr.hd e0 (len _ _ _ _ hsp) r x
  refine wpAny_mono (ht.nox.run [] s1 (L2.start N vs) H _ I hq) (fun fl s2 hs => ?_) fun e s2 hs => hs
  have fin : ∀ {σ' : L2.St} {H' : Hp} {v : V} {u : Value}, Inv (cxOf CX0 P w K mg base N qual (defScope st) f cdv A outer s H E) [] σ' H' s2 → RelV v u → Q v H' → CE outer P w H s Q u s2 :=
    fun {σ' H' v u} J rv q => ⟨v, H', J.os, J.bare, J.base, J.hok, rv, q⟩
  match fl, hs with
  | .ret u, ⟨v, σ', H', J, rv, q⟩ => exact fin J rv q
  | .next, ⟨σ', H', J, q⟩ => exact fin (v := V.non) (u := Value.none) J rfl q
  | .brk, ⟨_, _, _, q⟩ => exact q.elim
  | .cont, ⟨_, _, _, q⟩ => exact q.elim
end
theorem okDG {K : PySem.W.Frag} {P : Program} {w : World} {mg : Str → Option Value} {base : Heap} {x qual : Str} {st : Stmt} {f : Addr} {fd : FuncData} {N ps : List Str} {k : Nat} {sp : DSpec} (F : Fun K x qual st f fd) (S : FnScope N ps (defScope st)) (len : ∀ ss G Qd, sp ss G Qd → ss.length = ps.length)
    (hbody : ∀ (cdv : Value) (A : Around) (outer : List Env) (s : Shared) (H : Hp) (E : XK) (ss : List DL.S) (G : List M) (Qd : Res → List M → Prop), A.guards = some [] → Room k (A.deeper (envOfC qual (defScope st) s.heap.objs.size f cdv)) → sp ss G Qd →
      ∃ t, PSs (cxOf CX0 P w K mg base N qual (defScope st) f cdv A outer s H E).nox (defBody st) t ∧ StC K t (startD N ss) G [] (endsD Qd)) : FnG P w K mg base (k + 1) f fd ps (spD K sp) := by
  refine okFnG F S (fun vs H Q E h => ?_) (fun cdv A outer s H vs Q E hg hr h => ?_)
  · obtain ⟨w, ss, G, Qd, _, _, r, q, _⟩ := h
    rw [← paired_len r]
    exact len ss G Qd q
  · obtain ⟨w, ss, G, Qd, h0, c, r, q, k1, k2⟩ := h
    obtain ⟨t, ht, hs⟩ := hbody cdv A outer s H E ss G Qd hg hr q
    refine ⟨t, ht, hs w [] (L2.start N vs) H ⟨c.reg, c.rin, c.nd, c.fr, c.h0, slok_start r, c.gl, c.lo, c.ld⟩ _ ⟨?_, ?_, ?_, ?_, fun _ _ _ => trivial⟩⟩
    · intro ls' σ' H' Δ' G' L' c' g' n'
      exact k1 .non (.d .non) H' G' c'.forget rfl n'
    · intro ls' σ' H' Δ' G' L' v z c' rz n'
      cases z with
      | d x => exact k1 v (.d x) H' G' c'.forget (Rep.grow grow_drop rz) n'
      | g j => exact k1 v (.g j) H' G' c'.forget rz n'
      | l j =>
        obtain ⟨a, ha, rfl⟩ := rz
        exact k2 ls' j a L' H' G' c'.forgetS ha n'
    · intro ls' σ' H' Δ' G' L' c' g' n'
      exact n'.elim
    · intro ls' σ' H' Δ' G' L' c' g' n'
      exact n'.elim
/-! ### the law's own call, with the guards -/
section
variable {P : Program} {w : World} {K : PySem.W.Frag} {mg mb : Str → Option Value} {k : Nat} {fa a : Addr} {fd : FuncData} {x : Str} {sp : Sp} {s1 : Shared}
theorem call_fromG (hr : Room k callerA) (H : Hp) (hF : FnG P w K mg (hidT s1.heap H) k fa fd [x] sp) (hbd : ∀ (s : Shared) (u : Value), BindsTo s fd ⟨[u], []⟩ [(x, u)])
    (e0 : Env0 P w K mg (hidT s1.heap H) callerA [] s1 H) (hO : Only H) (hp : sp [.ref a] H (fun v _ => v = .bl true) fun _ _ _ => False) :
    codeAny (model P w) callerA (.call (.ref fa) ⟨[.ref a], []⟩) (fun r s2 => r = .ok (.ret (.bool true)) ∧ OldK s1.heap s2.heap ∧ s2.os = s1.os ∧ AllBare s2.gens) s1 := by
  have run := hF.run callerA [] s1 H ⟨[.ref a], []⟩ [.ref a] [.ref a] (fun v _ => v = .bl true) (fun _ _ _ => False) rfl hr e0 (hbd s1 (.ref a)) (.cons rfl .nil) hp
  refine codeAny_mono run fun r s2 h => ?_
  match r, h with
  | .error _, h => exact h.elim
  | .ok .next, h => exact h.elim
  | .ok .brk, h => exact h.elim
  | .ok .cont, h => exact h.elim
  | .ok (.ret u), h =>
    obtain ⟨v, H2, os2, bare2, un2, hok2, rv2, rfl⟩ := h
    have eu : u = Value.bool true := rv2
    subst eu
    refine ⟨rfl, OldK.of_keep fun b o e => ?_, os2, bare2⟩
    rcases hO b with n | ⟨ob, xs, f⟩
    · exact un2.keep b o e n (fun m => by cases m) (fun m => by cases m)
    · have e1 := (e0.hok b _ f).1
      rw [e] at e1
      cases e1
      exact (hok2 b _ (un2.frzs b _ _ f)).1
end
section
variable {P : Program} {w : World} {K : PySem.W.Frag} {mg mb : Str → Option Value} {k : Nat} {fa a : Addr} {fd : FuncData} {x : Str} {sp : Sp} {s1 : Shared} {vals : List Value} {ns : List Int}
theorem env_startG (kin : K.In s1.heap) (nsG : s1.heap.Ns mainGlobals mg) (nsB : s1.heap.Ns builtinsNs mb) (eB : ∀ y : Str, y ≠ "__name__" → mb y = bootBuiltins y) (nl : s1.heap.NoLimit) (g0 : s1.gens = #[])
    (la : s1.heap.get? a = some { cls := .type "list", data := .seq vals.toArray }) (H : Hp) (hok : HOk P w H s1.heap) (only : ∀ b u, H b = some u → b = a ∧ K.lookup a = none) :
    K.In (hidT s1.heap H) ∧ (hidT s1.heap H).Ns mainGlobals mg ∧ Env0 P w K mg (hidT s1.heap H) callerA [] s1 H := by
  have free : ∀ {b : Addr} {o : Obj}, s1.heap.get? b = some o → (b = a → K.lookup a = none → False) → (hidT s1.heap H).get? b = some o := by
    intro b o e n
    refine hidT_get e ?_
    rcases q : H b with _ | u
    · rfl
    · exact (n (only b u q).1 (only b u q).2).elim
  have kin' : K.In (hidT s1.heap H) := fun b o e => free (kin b o e) fun eb n => by
    subst eb
    rw [n] at e
    cases e
  have ns' : ∀ {b : Addr} {m : Str → Option Value}, s1.heap.Ns b m → (hidT s1.heap H).Ns b m := by
    rintro b m ⟨o, es, ep, e, d, r⟩
    refine ⟨o, es, ep, free e fun eb _ => ?_, d, r⟩
    subst eb
    have eo := Option.some.inj (la.symm.trans e)
    rw [← eo] at d
    cases d
  refine ⟨kin', ns' nsG, ⟨rfl, ⟨kin', ns' nsG, ⟨mb, ns' nsB, eB⟩, ?_⟩, fun b o e => of_hidT e, Nat.le_of_eq (hidT_size _ _), trivial, (fun b m => by cases m), hok, .of_eq g0⟩⟩
  obtain ⟨mc, n1, n2⟩ := nl
  exact ⟨mc, ns' n1, n2⟩
theorem law_callG (kin : K.In s1.heap) (nsG : s1.heap.Ns mainGlobals mg) (nsB : s1.heap.Ns builtinsNs mb) (eB : ∀ y : Str, y ≠ "__name__" → mb y = bootBuiltins y) (nl : s1.heap.NoLimit) (g0 : s1.gens = #[])
    (la : s1.heap.get? a = some { cls := .type "list", data := .seq vals.toArray }) (iv : IntsAre vals ns) (hl : ns.length ≤ sizeLine) (hr : Room k callerA)
    (F : ∀ base : Heap, K.In base → base.Ns mainGlobals mg → FnG P w K mg base k fa fd [x] sp) (hbd : ∀ (s : Shared) (u : Value), BindsTo s fd ⟨[u], []⟩ [(x, u)])
    (hsp : ∀ H : Hp, Only H → SqL K H a (ns.map V.int) → sp [.ref a] H (fun v _ => v = .bl true) fun _ _ _ => False) :
    codeAny (model P w) callerA (.call (.ref fa) ⟨[.ref a], []⟩) (fun r s2 => r = .ok (.ret (.bool true)) ∧ OldK s1.heap s2.heap ∧ s2.os = s1.os ∧ AllBare s2.gens) s1 := by
  have vi := vals_ints iv
  have go : ∀ H : Hp, HOk P w H s1.heap → (∀ b u, H b = some u → b = a ∧ K.lookup a = none) → Only H → SqL K H a (ns.map V.int) → codeAny (model P w) callerA (.call (.ref fa) ⟨[.ref a], []⟩) (fun r s2 => r = .ok (.ret (.bool true)) ∧ OldK s1.heap s2.heap ∧ s2.os = s1.os ∧ AllBare s2.gens) s1 := by
    intro H hok only hO hS
    obtain ⟨k1, k2, e0⟩ := env_startG kin nsG nsB eB nl g0 la H hok only
    exact call_fromG hr H (F _ k1 k2) hbd e0 hO (hsp H hO hS)
  rcases lk : K.lookup a with _ | o
  · let o1 : HO := .frz { cls := .type "list", data := .seq vals.toArray } (.lst (ns.map V.int))
    have at_a : ∀ {b u}, (if b = a then some o1 else none) = some u → b = a ∧ u = o1 := by
      intro b u e
      by_cases z : b = a
      · rw [if_pos z] at e
        exact ⟨z, (Option.some.inj e).symm⟩
      · rw [if_neg z] at e
        cases e
    refine go (fun b => if b = a then some o1 else none) (fun b u e => ?_) (fun b u e => ⟨(at_a e).1, lk⟩) (fun b => ?_) (.inl (.inr ⟨_, if_pos rfl⟩))
    · obtain ⟨rfl, rfl⟩ := at_a e
      exact ⟨la, by rw [List.length_map]; exact hl, vals, _, vi, la⟩
    · by_cases z : b = a
      · exact .inr ⟨_, _, if_pos z⟩
      · exact .inl (if_neg z)
  · have e := kin a o lk
    rw [la] at e
    cases e
    refine go (fun _ => none) (fun b u z => by cases z) (fun b u z => by cases z) (fun _ => .inl rfl) (.inr ⟨_, vals.toArray, _, lk, rfl, rfl, rfl, ?_, by simpa using vi⟩)
    rw [List.size_toArray, iv.length]
    exact hl
end
theorem walk_ofG {l : PySem.W.OpenLaw} {n k : Nat} {q : Program} {loose : List Str} {XP : (Str → Option Value) → Heap → Prop} {YP : World → Heap → Prop} {d : DefRec} {K : Params → PySem.W.Frag} {sp : World → Sp} {x : Str}
    (most : l.most = some n) (hn : n ≤ sizeLine) (nodef : d.params.defaults = []) (room : Room k callerA) (hY : ∀ (w : World) (h : Heap), YP w h → (K w.params).In h)
    (F : ∀ (w : World) (mg : Str → Option Value) (fa : Addr) (h : Heap), (K w.params).In h → h.Ns mainGlobals mg → mg d.name = some (.ref fa) →
      ∃ fd : FuncData, (∀ (s : Shared) (u : Value), BindsTo s fd ⟨[u], []⟩ [(x, u)]) ∧ ∀ base : Heap, (K w.params).In base → base.Ns mainGlobals mg → FnG l.prog w (K w.params) mg base k fa fd [x] (sp w))
    (hsp : ∀ (w : World) (H : Hp) (a : Addr) (ns : List Int), ns.length ≤ n → (∀ z ∈ ns, Builtin.Int.intBits z ≤ 1048576) → SqL (K w.params) H a (ns.map V.int) → sp w [.ref a] H (fun v _ => v = .bl true) fun _ _ _ => False) :
    PySem.W.WalkO q loose XP YP l.row.toRowW d [] (fun f vs => PySem.call f vs) := by
  refine Att.attach_callB most nodef fun w _ s1 mg mb fa _ _ _ _ a vals ns G Y _ _ _ emg la iv hlen bits g0 => ?_
  have kin := hY w _ Y
  obtain ⟨fd, hbd, hF⟩ := F w mg fa _ kin G.T.g emg
  exact law_callG kin G.T.g G.T.b G.T.builtins G.T.nolimit g0 la iv (Nat.le_trans hlen hn) room hF hbd fun H _ hS => hsp w H a ns hlen bits hS
/-! ### what repr shows, at the level of data -/
def Shw (n k : Nat) (d : D) : Prop := ∃ p, d.py = some p ∧ p.showable = true ∧ p.hasDict = false ∧ p.depth ≤ k ∧ p.shown.length ≤ n
theorem Shw.mono {n m k j : Nat} {d : D} (h : Shw n k d) (hn : n ≤ m) (hk : k ≤ j) : Shw m j d :=
  let ⟨p, h1, h2, h3, h4, h5⟩ := h
  ⟨p, h1, h2, h3, Nat.le_trans h4 hk, Nat.le_trans h5 hn⟩
theorem digits_len (i : Int) : (toString i).toList.length ≤ (Nat.toDigits 10 i.natAbs).length + 1 := by
  cases i with
  | ofNat m =>
    show (toString m).toList.length ≤ _
    rw [Nat.toString_eq_ofList_toDigits, String.toList_ofList]
    exact Nat.le_succ _
  | negSucc m =>
    show ("-" ++ toString (m + 1)).toList.length ≤ _
    have e : (toString (m + 1)).toList = Nat.toDigits 10 (m + 1) := by rw [Nat.toString_eq_ofList_toDigits, String.toList_ofList]
    rw [String.toList_append, List.length_append, e]
    show 1 + _ ≤ (Nat.toDigits 10 (m + 1)).length + 1
    omega
theorem ofString_len (s : String) : (Str.ofString s).length = s.toList.length := by
  rw [Str.ofString_eq_toList]
  show ((s.toList.map Char.toNat).toArray).size = _
  rw [List.size_toArray, List.length_map]
theorem tupleText_len (ts : List Str) : (tupleText ts).length ≤ piled ts + 3 := by
  unfold tupleText
  rw [strLen_append, strLen_append]
  have e1 : ((("(" : String) : Str)).length = 1 := rfl
  have e3 : (((if ts.length == 1 then ",)" else ")" : String) : Str)).length ≤ 2 := by split <;> decide
  rw [e1]
  by_cases h : ts = []
  · subst h
    have e4 : (Str.join ", " []).length = 0 := rfl
    rw [e4]
    omega
  · have := join_length_add ts h
    omega
section
variable {K : PySem.W.Frag} {Δ : Sl} {G L : List M} {Qd : Po} {n k : Nat}
end
end DL

namespace DL
open PySem PySem.Spec PyProof.Rows L2
section
variable {K : PySem.W.Frag}
/-! ### an own object becomes data -/
def S.frz (k : Nat) (x : D) : S → S
  | .l j => if j = k then .d x else if j < k then .l j else .l (j - 1)
  | s => s
def M.frz (k : Nat) (x : D) : M → M
  | .hl xs => .hl (xs.map (S.frz k x))
  | .dh kvs => .dh (kvs.map fun p => (p.1, p.2.frz k x))
  | .og C fs => .og C (fs.map fun p => (p.1, p.2.frz k x))
  | .dq kvs => .dq (kvs.map fun p => (p.1, p.2.frz k x))
  | m => m
theorem eraseIdx_lt {α : Type} : ∀ {l : List α} {k j : Nat}, j < k → (l.eraseIdx k)[j]? = l[j]?
  | [], _, _, _ => by simp
  | _ :: _, 0, _, h => absurd h (Nat.not_lt_zero _)
  | _ :: _, _ + 1, 0, _ => rfl
  | _ :: l, k + 1, j + 1, h => eraseIdx_lt (l := l) (Nat.lt_of_succ_lt_succ h)
theorem eraseIdx_ge {α : Type} : ∀ {l : List α} {k j : Nat}, k ≤ j → (l.eraseIdx k)[j]? = l[j + 1]?
  | [], _, _, _ => by simp
  | _ :: _, 0, _, _ => rfl
  | _ :: l, k + 1, 0, h => absurd h (Nat.not_succ_le_zero _)
  | _ :: l, k + 1, j + 1, h => eraseIdx_ge (l := l) (Nat.le_of_succ_le_succ h)
theorem erase_sub {ls : List Addr} {k : Nat} {a : Addr} (h : a ∈ ls.eraseIdx k) : a ∈ ls := List.mem_of_mem_eraseIdx h
theorem paired_erase {α β : Type} {F : α → β → Prop} : ∀ {as : List α} {bs : List β} {k : Nat}, Paired F as bs → Paired F (as.eraseIdx k) (bs.eraseIdx k)
  | _, _, _, .nil => .nil
  | _, _, 0, .cons h t => t
  | _, _, k + 1, .cons h t => .cons h (paired_erase (k := k) t)
theorem nodup_erase {ls : List Addr} {k : Nat} {p : Addr} (nd : ls.Nodup) (hk : ls[k]? = some p) : p ∉ ls.eraseIdx k := by
  intro h
  obtain ⟨j, hj⟩ := List.mem_iff_getElem?.mp h
  have uniq : ∀ i, ls[i]? = some p → i = k := fun i hi => by
    have h1 := (List.getElem?_eq_some_iff.mp hi)
    have h2 := (List.getElem?_eq_some_iff.mp hk)
    exact (List.getElem_inj (h₀ := h1.1) (h₁ := h2.1) nd).mp (h1.2.trans h2.2.symm)
  rcases Nat.lt_or_ge j k with z | z
  · rw [eraseIdx_lt z] at hj
    have := uniq _ hj
    omega
  · rw [eraseIdx_ge z] at hj
    have := uniq _ hj
    omega
section
variable {w : W} {ls : List Addr} {σ : L2.St} {H : Hp} {Δ : Sl} {G L : List M}
theorem grow_frz {k : Nat} : Grow H H (Rg w ls) (Rg w (ls.eraseIdx k)) := grow_sub fun a h => erase_sub h
theorem RS.frz {gs : List Addr} {k : Nat} {p : Addr} {x : D} (hk : ls[k]? = some p) (rx : Rep K H (Rg w (ls.eraseIdx k)) x (.ref p)) : ∀ {s : S} {v : V}, RS K H (Rg w ls) gs ls s v → RS K H (Rg w (ls.eraseIdx k)) gs (ls.eraseIdx k) (s.frz k x) v
  | .d _, _, h => Rep.grow grow_frz h
  | .g _, _, h => h
  | .l j, v, ⟨a, h, e⟩ => by
    show RS K H _ gs _ (if j = k then S.d x else if j < k then S.l j else S.l (j - 1)) v
    by_cases z : j = k
    · rw [if_pos z]
      subst z
      rw [h] at hk
      cases hk
      rw [e]
      exact rx
    · rw [if_neg z]
      by_cases y : j < k
      · rw [if_pos y]
        exact ⟨a, (eraseIdx_lt y).trans h, e⟩
      · rw [if_neg y]
        refine ⟨a, (eraseIdx_ge (by omega)).trans ?_, e⟩
        rw [show j - 1 + 1 = j by omega]
        exact h
theorem paired_map3 {α β γ : Type} {F : α → β → Prop} {F' : α → γ → Prop} {f : β → γ} : ∀ {as : List α} {bs : List β}, Paired F as bs → (∀ a b, a ∈ as → F a b → F' a (f b)) → Paired F' as (bs.map f)
  | _, _, .nil, _ => .nil
  | _, _, .cons h t, k => .cons (k _ _ List.mem_cons_self h) (paired_map3 t fun a b m => k a b (List.mem_cons_of_mem _ m))
theorem paired_mapB {α β γ : Type} {F : β → α → Prop} {F' : γ → α → Prop} {f : β → γ} : ∀ {bs : List β} {as : List α}, Paired F bs as → (∀ b a, F b a → F' (f b) a) → Paired F' (bs.map f) as
  | _, _, .nil, _ => .nil
  | _, _, .cons h t, k => .cons (k _ _ h) (paired_mapB t k)
theorem MOk.frz {k : Nat} {p : Addr} {x : D} (hk : ls[k]? = Option.some p) (rx : Rep K H (Rg w (ls.eraseIdx k)) x (.ref p)) {a : Addr} : ∀ {m : M}, MOk K H (Rg w ls) w.gs ls a m → MOk K H (Rg w (ls.eraseIdx k)) w.gs (ls.eraseIdx k) a (m.frz k x)
  | .pl _, ⟨vs, h, r⟩ => ⟨vs, h, RepL.grow grow_frz r⟩
  | .hl _, ⟨vs, h, r⟩ => ⟨vs, h, paired_mapB r fun _ _ q => q.frz hk rx⟩
  | .dc _, ⟨vs, h, r⟩ => ⟨vs, h, RepK.grow grow_frz r⟩
  | .ob _ _, ⟨dx, vs, h, r⟩ => ⟨dx, vs, h, RepF.grow grow_frz r⟩
  | .dh _, ⟨vs, h, r⟩ => ⟨vs, h, paired_mapB r fun _ _ q => ⟨q.1, q.2.frz hk rx⟩⟩
  | .dt _, h => h
  | .dz _ _, h => h
  | .og _ _, ⟨dx, vs, h, r⟩ => ⟨dx, vs, h, paired_mapB r fun _ _ q => ⟨q.1, q.2.frz hk rx⟩⟩
  | .dq _, ⟨vs, h, r⟩ => ⟨vs, h, paired_mapB r fun _ _ q => ⟨q.1, q.2.frz hk rx⟩⟩
theorem Ctx.frz {k : Nat} {m : M} {x : D} (c : Ctx K w ls σ H Δ G L) (hm : L[k]? = some m) (hx : m.dat = some x) : Ctx K w (ls.eraseIdx k) σ H (Δ.map (Option.map (S.frz k x))) G ((L.eraseIdx k).map (M.frz k x)) := by
  obtain ⟨p, hp, q⟩ := paired_get c.lo hm
  have ndl := (List.nodup_append.mp c.nd).2.1
  have np : ¬ Rg w (ls.eraseIdx k) p := by
    rintro (r | r)
    · exact c.ld p (List.mem_of_getElem? hp) r
    · exact nodup_erase ndl hp r
  have rx : Rep K H (Rg w (ls.eraseIdx k)) x (.ref p) := by
    cases m with
    | pl ds =>
      cases hx
      obtain ⟨vs, h1, r⟩ := q
      exact ⟨p, vs, rfl, ⟨h1, np⟩, r.grow grow_frz⟩
    | hl xs => cases hx
    | dc ds =>
      cases hx
      obtain ⟨vs, h1, r⟩ := q
      exact ⟨p, vs, rfl, ⟨h1, np⟩, r.grow grow_frz⟩
    | ob C ds =>
      cases hx
      obtain ⟨dx, vs, h1, r⟩ := q
      exact ⟨p, dx, vs, rfl, ⟨h1, np⟩, r.grow grow_frz⟩
    | dh kvs => cases hx
    | dt kvs => cases hx
    | dz od kvs => cases hx
    | og C fs => cases hx
    | dq kvs => cases hx
  refine ⟨c.reg, c.rin, ?_, fun a h => c.fr a (erase_sub h), c.h0, ?_, paired_map c.gl fun a m _ q => q.grow grow_frz (Pre.refl _) (Pre.refl _) fun _ z => z, ?_, fun a h => c.ld a (erase_sub h)⟩
  · have nd := List.nodup_append.mp c.nd
    exact List.nodup_append.mpr ⟨nd.1, nd.2.1.eraseIdx k, fun a ha b hb => nd.2.2 a ha b (erase_sub hb)⟩
  · refine ⟨by rw [List.length_map]; exact c.sl.1, fun i s e => ?_⟩
    rw [List.getElem?_map] at e
    cases e2 : Δ[i]? with
    | none =>
      rw [e2] at e
      cases e
    | some y =>
      rw [e2] at e
      cases y with
      | none => cases e
      | some z =>
        have e := Option.some.inj e
        have e : z.frz k x = s := Option.some.inj e
        subst e
        obtain ⟨v, h1, h2⟩ := c.sl.2 i z e2
        exact ⟨v, h1, h2.frz hp rx⟩
  · exact paired_map3 (paired_erase c.lo) fun a m _ q => q.frz hp rx
end
section
variable {Δ : Sl} {G L : List M} {E : EndsD} {t : TS}
theorem st_frz (k : Nat) (h : ∃ m x, L[k]? = some m ∧ m.dat = some x ∧ StC K t (Δ.map (Option.map (S.frz k x))) G ((L.eraseIdx k).map (M.frz k x)) E) : StC K t Δ G L E := fun w ls σ H c D s => by
  obtain ⟨m, x, hm, hx, h⟩ := h
  exact h w (ls.eraseIdx k) σ H (c.frz hm hx) D (s.on grow_frz)
end
section
variable {Δ : Sl} {G L : List M} {E : EndsD} {ta : TA} {Qd : Po}
theorem st_par {i j : Nat} (h : EvA K ta Δ G L fun ss G1 L1 => ∃ x y, ss = [x, y] ∧ E.nx ((Δ.set i (some x)).set j (some y)) G1 L1) : StC K (tPar i j ta) Δ G L E := fun w ls σ H c D s => h w ls σ H c _ fun vs ss H2 G2 L2 c2 e2 r2 ⟨x, y, e, k⟩ => by
  subst e
  obtain ⟨v, u, rfl, rx, ry⟩ := pair2 r2
  exact ⟨v, u, rfl, s.nx ls _ H2 _ G2 L2 ((c2.slot rx).slot ry) (e2.grow c.reg) k⟩
theorem u_eq_ss {z : Str} (k : Qd (.d (.bl true)) G L) : OpC K (uEq K) (.d (.str z)) (.d (.str z)) Δ G L Qd := u_eq_s (by rw [decide_eq_true rfl]; exact k)
theorem u_ne_ss {z : Str} (k : Qd (.d (.bl false)) G L) : OpC K (uNe K) (.d (.str z)) (.d (.str z)) Δ G L Qd := u_ne_s (by rw [decide_eq_true rfl]; exact k)
end
theorem iteDr {α : Type} {a : α} [DecidableEq α] {A B : Prop} (h : A) : if decide (a = a) = true then A else B := by
  rw [if_pos (decide_eq_true rfl)]
  exact h
theorem iteNDr {α : Type} {a : α} [DecidableEq α] {A B : Prop} (h : B) : if (!decide (a = a)) = true then A else B := by
  rw [if_neg (by rw [decide_eq_true rfl]; decide)]
  exact h
section
variable {Δ : Sl} {G L : List M} {Qd : Po}
theorem u_get_intX {k : Nat} {i : Int} (h : ∃ xs : List Int, L[k]? = some (.pl (xs.map D.int)) ∧ (0 ≤ i ∧ i < (xs.length : Nat)) ∧ Qd (.d (.int (xs.getD i.toNat 0))) G L) : OpC K (rIxL K) (.l k) (.d (.int i)) Δ G L Qd :=
  let ⟨_, hx, h, q⟩ := h
  u_get_int hx h.1 h.2 q
theorem sto_intX {k : Nat} {i z : Int} {Qt : List M → List M → Prop} (h : ∃ xs : List Int, L[k]? = some (.pl (xs.map D.int)) ∧ (0 ≤ i ∧ i < (xs.length : Nat)) ∧ Qt G (L.set k (.pl ((xs.set i.toNat z).map D.int)))) : StoC K rSetL (.l k) (.d (.int i)) (.d (.int z)) Δ G L Qt :=
  let ⟨_, hx, h, q⟩ := h
  sto_int hx h.1 h.2 q
theorem u_ix_intX {x : S} {i : Int} (h : ∃ xs : List Int, seqG G L x = some (xs.map D.int) ∧ (0 ≤ i ∧ i < (xs.length : Nat)) ∧ Qd (.d (.int (xs.getD i.toNat 0))) G L) : OpC K (rIx K) x (.d (.int i)) Δ G L Qd :=
  let ⟨_, hx, h, q⟩ := h
  u_ix_int hx h.1 h.2 q
theorem u_ix_if2 {x y : Int} {b : Bool} (k : ∀ z : Int, (b = true ∧ z = y) ∨ (b = false ∧ z = x) → Qd (.d (.int z)) G L) : OpC K (rIx K) (.d (.lst [.int x, .int y])) (.d (.int (if b = true then 1 else 0))) Δ G L Qd := by
  cases b with
  | true => exact u_ix_g (xs := [.int x, .int y]) (i := if true = true then 1 else 0) (d := .int y) rfl rfl (k y (.inl ⟨rfl, rfl⟩))
  | false => exact u_ix_g (xs := [.int x, .int y]) (i := if false = true then 1 else 0) (d := .int x) rfl rfl (k x (.inr ⟨rfl, rfl⟩))
end
/-! ### comprehensions that look at an own object, which they leave alone -/
section
variable {Δ : Sl} {G L : List M} {te : TE} {tt : TT} {wi : TI} {g : TG} {vs : List Nat} {Qn : PoN}
end
section
variable {Δ : Sl} {G L : List M} {ta : TA}
theorem RS.other {w w2 : W} {ls : List Addr} {H H2 : Hp} {s : S} {v : V} (eg : w2.gs = w.gs) (g : Grow H H2 (Rg w ls) (Rg w2 ls)) (r : RS K H (Rg w ls) w.gs ls s v) : RS K H2 (Rg w2 ls) w2.gs ls s v := by
  rw [eg]
  exact r.grow g (Pre.refl _) (Pre.refl _)
end
end
end DL

namespace DL
open PySem PySem.Spec PyProof.Rows L2
/-! ### the deck: a list [cells, seed, count], the cells a list of ints -/
structure Dk (G : List M) (k c : Nat) (n : Int) (cells : List Int) (seed cnt : Int) : Prop where
  hk : G[k]? = some (.hl [.g c, .d (.int seed), .d (.int cnt)])
  hc : G[c]? = some (.pl (cells.map D.int))
  ne : k ≠ c
  s0 : 0 ≤ seed
  s1 : seed < 2 ^ 62
  n0 : 0 ≤ cnt
  n1 : cnt ≤ n
  cl : cells.length ≤ 1000
def dkSet (G : List M) (k c : Nat) (cells : List Int) (seed cnt : Int) : List M := (G.set c (.pl (cells.map D.int))).set k (.hl [.g c, .d (.int seed), .d (.int cnt)])
def DkTo (G : List M) (k c : Nat) (n : Int) (G' : List M) : Prop := ∃ cells seed cnt, G' = dkSet G k c cells seed cnt ∧ Dk G' k c n cells seed cnt
theorem DkTo.dk {G G' : List M} {k c : Nat} {n : Int} (h : DkTo G k c n G') : ∃ cells seed cnt, Dk G' k c n cells seed cnt := let ⟨a, b, d, _, e⟩ := h; ⟨a, b, d, e⟩
theorem DkTo.trans {G G1 G2 : List M} {k c : Nat} {n m : Int} (h : DkTo G k c n G1) (h2 : DkTo G1 k c m G2) : DkTo G k c m G2 := by
  obtain ⟨a, b, d, rfl, q⟩ := h
  obtain ⟨a', b', d', rfl, q'⟩ := h2
  refine ⟨a', b', d', ?_, q'⟩
  unfold dkSet
  rw [set_comm (Ne.symm q'.ne), set_set, set_comm q'.ne, set_set]
theorem DkTo.refl {G : List M} {k c : Nat} {n : Int} {cells : List Int} {seed cnt : Int} (h : Dk G k c n cells seed cnt) : DkTo G k c n G := by
  refine ⟨cells, seed, cnt, ?_, h⟩
  unfold dkSet
  rw [set_same h.hc, set_same h.hk]
theorem DkTo.mono {G G' : List M} {k c : Nat} {n m : Int} (h : DkTo G k c n G') (e : n ≤ m) : DkTo G k c m G' := by
  obtain ⟨a, b, d, rfl, q⟩ := h
  exact ⟨a, b, d, rfl, ⟨q.hk, q.hc, q.ne, q.s0, q.s1, q.n0, Int.le_trans q.n1 e, q.cl⟩⟩
end DL

namespace DL
open PySem PySem.Spec PyProof.Rows L2
/-! ### data with dicts in it, read off a heap: no dict of it is the table of modules -/
section
variable {h : Heap}
variable {prog : Program} {w : World}
end
/-! ### the same at the level of data -/
def keyPy : Key → PyData
  | .inl i => .int i
  | .inr x => .str x
mutual
def D.pyX : D → Option PyData
  | .non => some .none
  | .bl b => some (.bool b)
  | .int i => some (.int i)
  | .str x => some (.str x)
  | .tup ds => match pyXL ds with
    | some xs => some (.tuple xs)
    | none => none
  | .lst ds => match pyXL ds with
    | some xs => some (.list xs)
    | none => none
  | .dct kvs => match pyXK kvs with
    | some xs => some (.dict xs)
    | none => none
  | _ => none
def pyXL : List D → Option (List PyData)
  | [] => some []
  | d :: ds => match d.pyX, pyXL ds with
    | some x, some xs => some (x :: xs)
    | _, _ => none
def pyXK : List (Key × D) → Option (List (PyData × PyData))
  | [] => some []
  | (k, d) :: ds => match d.pyX, pyXK ds with
    | some x, some xs => some ((keyPy k, x) :: xs)
    | _, _ => none
end
section
variable {X : Cx} {pins : List (Addr × Obj)} {σ : L2.St} {H : Hp} {s : Shared} {R : Addr → Prop}
end
def ShX (n k : Nat) (d : D) : Prop := ∃ p, d.pyX = some p ∧ p.showable = true ∧ p.depth ≤ k ∧ p.shown.length ≤ n
theorem ShX.mono {n m k j : Nat} {d : D} (h : ShX n k d) (hn : n ≤ m) (hk : k ≤ j) : ShX m j d :=
  let ⟨p, h1, h2, h4, h5⟩ := h
  ⟨p, h1, h2, Nat.le_trans h4 hk, Nat.le_trans h5 hn⟩
section
variable {K : PySem.W.Frag} {Δ : Sl} {G L : List M} {Qd : Po} {n k : Nat}
end
end DL

namespace DL
open PySem PySem.Spec PyProof.Rows L2
/-! ### things of any kind -/
/-! how many signs d has at most when it is shown -/
/-! ints below b, texts of signs, no deeper than h -/
mutual
def Ok (b h : Nat) : D → Prop
  | .non => True
  | .bl _ => True
  | .int i => i.natAbs ≤ b
  | .str z => PyData.strOk z = true
  | .tup ds => ∃ k, h = k + 1 ∧ OkL b k ds
  | .lst ds => ∃ k, h = k + 1 ∧ OkL b k ds
  | .dct kvs => ∃ k, h = k + 1 ∧ OkK b k kvs
  | _ => False
def OkL (b h : Nat) : List D → Prop
  | [] => True
  | d :: ds => Ok b h d ∧ OkL b h ds
def OkK (b h : Nat) : List (Key × D) → Prop
  | [] => True
  | (k, d) :: ds => (∃ i : Int, k = .inl i ∧ i.natAbs ≤ b) ∧ Ok b h d ∧ OkK b h ds
end
mutual
theorem Ok.mono {b c : Nat} (hb : b ≤ c) : ∀ {h k : Nat} {d : D}, h ≤ k → Ok b h d → Ok c k d
  | _, _, .non, _, _ => trivial
  | _, _, .bl _, _, _ => trivial
  | _, _, .int _, _, q => Nat.le_trans q hb
  | _, _, .str _, _, q => q
  | _, k, .tup _, l, ⟨j, e, q⟩ => ⟨k - 1, by omega, OkL.mono hb (by omega) q⟩
  | _, k, .lst _, l, ⟨j, e, q⟩ => ⟨k - 1, by omega, OkL.mono hb (by omega) q⟩
  | _, k, .dct _, l, ⟨j, e, q⟩ => ⟨k - 1, by omega, OkK.mono hb (by omega) q⟩
  | _, _, .ty _, _, q => q.elim
  | _, _, .ref _, _, q => q.elim
  | _, _, .scr _, _, q => q.elim
  | _, _, .ins _ _, _, q => q.elim
  | _, _, .exn _ _ _, _, q => q.elim
  | _, _, .exv _ _, _, q => q.elim
theorem OkL.mono {b c : Nat} (hb : b ≤ c) : ∀ {h k : Nat} {ds : List D}, h ≤ k → OkL b h ds → OkL c k ds
  | _, _, [], _, _ => trivial
  | _, _, _ :: _, l, ⟨q, r⟩ => ⟨Ok.mono hb l q, OkL.mono hb l r⟩
theorem OkK.mono {b c : Nat} (hb : b ≤ c) : ∀ {h k : Nat} {ds : List (Key × D)}, h ≤ k → OkK b h ds → OkK c k ds
  | _, _, [], _, _ => trivial
  | _, _, (_, _) :: _, l, ⟨⟨i, e, x⟩, q, r⟩ => ⟨⟨i, e, Nat.le_trans x hb⟩, Ok.mono hb l q, OkK.mono hb l r⟩
end
/-! ### t == () for a tuple of anything -/
def rEqL0 (K : PySem.W.Frag) (n : Bool) : R2 := fun x y H Q => ∃ (a b : Addr) (xs : List V), x = .ref a ∧ y = .ref b ∧ H a = some (.lst xs) ∧ H b = some (.lst []) ∧ Q (.bl (xor n xs.isEmpty)) H
theorem list_is {X : Cx} {pins : List (Addr × Obj)} {σ : L2.St} {H : Hp} {s : Shared} {a : Addr} {xs : List V} (I : Inv X pins σ H s) (h : H a = some (.lst xs)) : ∃ its : List Value, Vals xs its ∧ s.heap.IsList a its.toArray := by
  obtain ⟨its, rv, ⟨o, n, ho, hc, _, hd⟩, _⟩ := I.list (show SqL X.K H a xs from .inl (.inl h))
  exact ⟨its, rv, o, ho, hc, n, hd⟩
theorem op_eqL0 {X : Cx} (hu : X.A.units + 64 < cLine) : OpR X (compareOp .Eq) (rEqL0 X.K false) := by
  intro pins s σ H x y v u Q I rx ry h
  obtain ⟨a, b, xs, rfl, rfl, ha, hb, q⟩ := h
  cases (show v = Value.ref a from rx)
  cases (show u = Value.ref b from ry)
  obtain ⟨its, rv, it⟩ := list_is I ha
  obtain ⟨its2, rv2, it2⟩ := list_is I hb
  cases rv2
  cases rv with
  | nil => exact SeqAt.eq_listAt (e := fun _ => true) it it2 rfl (by omega) (fun j h1 h2 => absurd h2 (Nat.not_lt_zero _)) ⟨.bl true, H, I, rfl, q⟩
  | cons r t => exact SeqAt.eq_list_lengthsAt it it2 rfl (by omega) ⟨.bl false, H, I, rfl, q⟩
theorem op_neL0 {X : Cx} (hu : X.A.units + 64 < cLine) : OpR X (compareOp .NotEq) (rEqL0 X.K true) := by
  intro pins s σ H x y v u Q I rx ry h
  obtain ⟨a, b, xs, rfl, rfl, ha, hb, q⟩ := h
  cases (show v = Value.ref a from rx)
  cases (show u = Value.ref b from ry)
  obtain ⟨its, rv, it⟩ := list_is I ha
  obtain ⟨its2, rv2, it2⟩ := list_is I hb
  cases rv2
  cases rv with
  | nil => exact SeqAt.RcNeAt.lists (e := fun _ => true) it it2 rfl (by omega) (fun j h1 h2 => absurd h2 (Nat.not_lt_zero _)) _ _ _ _ ⟨.bl false, H, I, rfl, q⟩
  | cons r t => exact SeqAt.RcNeAt.lists_lengths it it2 rfl (by omega) _ _ _ _ ⟨.bl true, H, I, rfl, q⟩
section
variable {K : PySem.W.Frag} {Δ : Sl} {G L : List M} {Qd : Po} {Qn : PoN}
theorem u_eqL0 {n : Bool} {x y : S} (h : ∃ ds, lsG G L x = some ds ∧ lsG G L y = some [] ∧ Qd (.d (.bl (xor n ds.isEmpty))) G L) : OpC K (rEqL0 K n) x y Δ G L Qd := fun w ls σ H vx vy c rx ry Q q => by
  obtain ⟨ds, hx, hy, k⟩ := h
  obtain ⟨a, xs, rfl, h1, r1⟩ := lsG_get c rx hx
  obtain ⟨b, ys, rfl, h2, r2⟩ := lsG_get c ry hy
  cases r2
  refine ⟨a, b, xs, rfl, rfl, h1, h2, ?_⟩
  have e : xs.isEmpty = ds.isEmpty := by
    have := r1.length
    cases xs <;> cases ds <;> first | rfl | cases this
  rw [e]
  exact q.go c Ext.refl (s := .d (.bl (xor n ds.isEmpty))) rfl k
theorem u_eqL0e {x y : S} (h : ∃ ds, lsG G L x = some ds ∧ lsG G L y = some [] ∧ Qd (.d (.bl ds.isEmpty)) G L) : OpC K (rEqL0 K false) x y Δ G L Qd :=
  let ⟨ds, hx, hy, k⟩ := h
  u_eqL0 ⟨ds, hx, hy, by rw [Bool.false_xor]; exact k⟩
theorem u_neL0e {x y : S} (h : ∃ ds, lsG G L x = some ds ∧ lsG G L y = some [] ∧ Qd (.d (.bl (!ds.isEmpty))) G L) : OpC K (rEqL0 K true) x y Δ G L Qd :=
  let ⟨ds, hx, hy, k⟩ := h
  u_eqL0 ⟨ds, hx, hy, by rw [Bool.true_xor]; exact k⟩
end
end DL

namespace DL
open PySem PySem.Spec PyProof.Rows L2
section
variable {K : PySem.W.Frag}
section
variable {Δ : Sl} {G L : List M} {Qd : Po} {Qn : PoN} {te : TE}
end
end
/-! ### a def that calls itself -/
end DL

namespace DL
open PySem PySem.Spec PyProof.Rows L2
/-! ### dicts that hold handles: reading, storing, and a new one with a new object in it -/
section
variable {K : PySem.W.Frag} {Δ : Sl} {G L : List M} {Qd : Po} {Qn : PoN} {te : TE} {E : EndsD}
end
end DL

namespace DL
open PySem PySem.Spec PyProof.Rows L2
/-! ### wide ints -/
def Wd (n : Nat) (x : Int) : Prop := x.natAbs < 2 ^ n
theorem Wd.mono {n m : Nat} {x : Int} (h : Wd n x) (l : n ≤ m) : Wd m x := Nat.lt_of_lt_of_le h (Nat.pow_le_pow_right (by decide) l)
theorem Wd.add {n : Nat} {x y : Int} (h : Wd n x) (k : Wd n y) : Wd (n + 1) (x + y) := by
  unfold Wd at *
  rw [Nat.pow_succ]
  generalize 2 ^ n = p at *
  omega
theorem Wd.of {n : Nat} {x : Int} (h0 : 0 ≤ x) (h : x < 2 ^ n) : Wd n x := by
  unfold Wd
  have : ((2 ^ n : Nat) : Int) = 2 ^ n := by norm_cast
  omega
theorem Wd.div {n : Nat} {z m : Int} (h : Wd n z) (h0 : 0 ≤ z) (hm : 0 < m) : Wd n (z / m) := by
  unfold Wd at *
  have h1 : z / m ≤ z := Int.ediv_le_self m h0
  have h2 : 0 ≤ z / m := Int.ediv_nonneg h0 (by omega)
  generalize 2 ^ n = p at *
  omega
theorem wd_bits {z : Int} (h : Builtin.Int.intBits z ≤ 1048576) : Wd 1048576 z := by
  refine Wd.mono (n := Builtin.Int.intBits z) ?_ h
  unfold Wd Builtin.Int.intBits
  split
  · rename_i e
    have : z = 0 := by simpa using e
    subst this
    decide
  · exact Nat.lt_log2_self
section
variable {K : PySem.W.Frag} {Δ : Sl} {G L : List M} {Qd : Po} {Qn : PoN}
end
/-! ### the deck: a dict of cells (a list of ints), a seed and a count -/
def ekK (c : S) (seed cnt : Int) : List (Key × S) := [(.inr "cells", c), (.inr "seed", .d (.int seed)), (.inr "at", .d (.int cnt))]
theorem cs : ("cells" : Str) ≠ "seed" := by decide
theorem ca : ("cells" : Str) ≠ "at" := by decide
theorem sa : ("seed" : Str) ≠ "at" := by decide
section
variable {K : PySem.W.Frag} {Δ : Sl} {G L : List M} {Qd : Po}
end
structure Ek (G : List M) (k c : Nat) (n : Int) (cells : List Int) (seed cnt : Int) : Prop where
  hk : G[k]? = some (.dh (ekK (.g c) seed cnt))
  hc : G[c]? = some (.pl (cells.map D.int))
  ne : k ≠ c
  s0 : 0 ≤ seed
  s1 : seed < 2 ^ 128
  n0 : 0 ≤ cnt
  n1 : cnt ≤ n
  cl : cells.length ≤ 1000
  cb : ∀ z ∈ cells, Wd 1048576 z
def ekSet (G : List M) (k c : Nat) (cells : List Int) (seed cnt : Int) : List M := (G.set c (.pl (cells.map D.int))).set k (.dh (ekK (.g c) seed cnt))
def EkTo (G : List M) (k c : Nat) (n : Int) (G' : List M) : Prop := ∃ cells seed cnt, G' = ekSet G k c cells seed cnt ∧ Ek G' k c n cells seed cnt
def spDrawE : DSpec := fun ss G Q => ∃ (k c : Nat) (m n : Int) (cells : List Int) (seed cnt : Int), ss = [.g k, .d (.int m)] ∧ Ek G k c n cells seed cnt ∧ n ≤ 2 ^ 32 ∧ 0 < m ∧ m < 2 ^ 60 ∧
  ∀ r G', EkTo G k c (n + 1) G' → 0 ≤ r → r < m → Q (.v (.d (.int r))) G'
theorem EkTo.dk {G G' : List M} {k c : Nat} {n : Int} (h : EkTo G k c n G') : ∃ cells seed cnt, Ek G' k c n cells seed cnt := let ⟨a, b, d, _, e⟩ := h; ⟨a, b, d, e⟩
theorem EkTo.trans {G G1 G2 : List M} {k c : Nat} {n m : Int} (h : EkTo G k c n G1) (h2 : EkTo G1 k c m G2) : EkTo G k c m G2 := by
  obtain ⟨a, b, d, rfl, q⟩ := h
  obtain ⟨a', b', d', rfl, q'⟩ := h2
  refine ⟨a', b', d', ?_, q'⟩
  unfold ekSet
  rw [set_comm (Ne.symm q'.ne), set_set, set_comm q'.ne, set_set]
theorem EkTo.refl {G : List M} {k c : Nat} {n : Int} {cells : List Int} {seed cnt : Int} (h : Ek G k c n cells seed cnt) : EkTo G k c n G := by
  refine ⟨cells, seed, cnt, ?_, h⟩
  unfold ekSet
  rw [set_same h.hc, set_same h.hk]
theorem EkTo.mono {G G' : List M} {k c : Nat} {n m : Int} (h : EkTo G k c n G') (e : n ≤ m) : EkTo G k c m G' := by
  obtain ⟨a, b, d, rfl, q⟩ := h
  exact ⟨a, b, d, rfl, ⟨q.hk, q.hc, q.ne, q.s0, q.s1, q.n0, Int.le_trans q.n1 e, q.cl, q.cb⟩⟩
theorem draw_useE {G : List M} {k c : Nat} {m n : Int} {cells : List Int} {seed cnt : Int} {Q : Res → List M → Prop} (h : Ek G k c n cells seed cnt) (h1 : n ≤ 2 ^ 32) (h2 : 0 < m) (h3 : m < 2 ^ 60)
    (k' : ∀ r G' cells' seed' cnt', EkTo G k c (n + 1) G' → Ek G' k c (n + 1) cells' seed' cnt' → 0 ≤ r → r < m → Q (.v (.d (.int r))) G') : spDrawE [.g k, .d (.int m)] G Q :=
  ⟨k, c, m, n, cells, seed, cnt, rfl, h, h1, h2, h3, fun r G' t a b => let ⟨x, y, z, q⟩ := t.dk; k' r G' x y z t q a b⟩
def spLawE : DSpec := fun ss G Q => ∃ ns : List Int, ss = [.d (.scr ns)] ∧ G = [] ∧ ns.length ≤ 63 ∧ (∀ z ∈ ns, Wd 1048576 z) ∧ Q (.v (.d (.bl true))) []
theorem spLawE_in {ns : List Int} (h : ns.length ≤ 63) (hb : ∀ z ∈ ns, Builtin.Int.intBits z ≤ 1048576) : spLawE [.d (.scr ns)] [] fun r _ => r = .v (.d (.bl true)) := ⟨ns, rfl, rfl, h, fun z hz => wd_bits (hb z hz), rfl⟩
end DL

namespace DL
open PySem PySem.Spec PyProof.Rows L2
/-! ### max(xs, default=d), sum(xs, start=d), max of a list, zip -/
theorem args_sum_start (a v : Value) : argsOk "sum" ⟨[a], [(Str.ofString "start", v)]⟩ := by unfold argsOk; kernel_rfl
section
variable {prog : Program} {w : World} {A : Around} {E : Value → Shared → Prop} {s : Shared}
theorem walks_shift {I : Addr} {fp wr : List Addr} {n : Nat} {P : Nat → Value → Prop} {St : Nat → Heap → Prop} (W : Walks prog w A I fp wr n P St) :
    Walks prog w A I fp wr (n + 1) (fun i v => ∃ j, i = j + 1 ∧ P j v) (fun i h => ∃ j, i = j + 1 ∧ St j h) where
  sub := W.sub
  frame := fun i h h' ⟨j, e, st⟩ k => ⟨j, e, W.frame j h h' st k⟩
  item := fun i s Q E hi ⟨j, e, st⟩ hQ => W.item j s Q E (by omega) st fun v h' tk p st' k => hQ v h' tk ⟨j, e, p⟩ ⟨j + 1, by omega, st'⟩ k
  done := fun s Q E ⟨j, e, st⟩ hQ => W.done s Q E (by rw [show n = j by omega]; exact st) hQ
  self := fun i s Q E ⟨j, e, st⟩ hQ => W.self j s Q E st hQ
theorem preSum_shift (d : Int) (val : Nat → Int) : ∀ n, preSum (fun i => match i with | 0 => d | j + 1 => val j) (n + 1) = d + preSum val n
  | 0 => by
    show (0 : Int) + d = d + 0
    omega
  | n + 1 => by
    show preSum (fun i => match i with | 0 => d | j + 1 => val j) (n + 1) + val n = d + (preSum val n + val n)
    rw [preSum_shift d val n]
    omega
theorem call_sum_start {x : Value} {d : Int} {t : Tok} {Q : Value → Shared → Prop}
    (h : wpAny (model prog w) A.in1 (pyIter x) (fun it s₂ => ∃ I fp wr n P St val, it = .ref I ∧ Walks prog w A.in1 I fp wr n P St ∧ St 0 s₂.heap ∧ (∀ b ∈ fp, b < s₂.heap.objs.size) ∧
      (∀ i v, P i v → ∃ t, v = .int (val i) t) ∧
      ∀ h' tk t', (∀ b o, b ∉ wr → s₂.heap.get? b = some o → h'.get? b = some o) → Q (.int (d + preSum val n) t') { s₂ with heap := h', toks := tk }) E s) :
    wpAny (model prog w) A (call (.builtin "sum") [x] [(Str.ofString "start", .int d t)]) Q E s := by
  refine PyProof.Rows.kmk_tree F.kind_sum F.plain_sum F.entry_sum (args_sum_start _ _) ?_
  unfold Builtin.«sum»
  simp only [List.length_cons, List.length_nil]
  rw [if_neg (by decide)]
  refine wpAny_bind (wpAny_of_eq (show Builtin.Builtins.bindParams "sum" ["start"] 0 ⟨[], [(Str.ofString "start", .int d t)]⟩ = pure [some (.int d t)] from rfl) ?_)
  refine wpAny_bind (wpAny_mono h (fun it s₂ h₂ => ?_) fun _ _ e => e)
  obtain ⟨I, fp, wr, n, P, St, val, rfl, W, hst, hfp, hval, hQ⟩ := h₂
  have rest : ∀ (t2 : Tok) (s3 : Shared) (stage : Int), (stage = 0 ∨ stage = 2) → s3.heap = s₂.heap → (∀ (h' : Heap) (tk : Nat), ({ s3 with heap := h', toks := tk } : Shared) = { s₂ with heap := h', toks := tk }) →
      wpAny (model prog w) A.in1 (do
        for (ty, what, hint) in [("str", "strings", "''"), ("bytes", "bytes", "b''"), ("bytearray", "bytearray", "b''")] do
          if ← isInstance (.int d t2) (.type ty) then
            rule "sum.start-refused"; raiseError "TypeError" s!"sum() can't sum {what} [use {hint}.join(seq) instead]"
        again (.builtin "sum.loop" ⟨[.ref I, ← newList [.int d t2], rawInt stage, rawInt 0], []⟩)) (fun fin s' => match fin with
      | .done f => (match (Except.ok f : Result) with | .ok (.ret v) => Q v s' | .ok _ => False | .error e => E e s')
      | .again c' => c'.quiet = true ∧ codeAny (model prog w) A c' (fun r s' => match r with | .ok (.ret v) => Q v s' | .ok _ => False | .error e => E e s') s') E s3 := by
    intro t2 s3 stage hstage eh es
    have eg : ∀ b, s3.heap.get? b = s₂.heap.get? b := fun b => by rw [eh]
    simp only [List.forIn_cons, List.forIn_nil]
    refine wpAny_bind (wpAny_bind (wpAny_bind (wpAny_isInstance (T := "int") (b := false) (typeIs_int _ _ _) PySem.sub_int_str ?_)))
    simp only [Bool.false_eq_true, if_false]
    refine wpAny_pure (wpAny_bind (wpAny_bind (wpAny_isInstance (T := "int") (b := false) (typeIs_int _ _ _) PySem.sub_int_bytes ?_)))
    simp only [Bool.false_eq_true, if_false]
    refine wpAny_pure (wpAny_bind (wpAny_bind (wpAny_isInstance (T := "int") (b := false) (typeIs_int _ _ _) PySem.sub_int_bytearray ?_)))
    simp only [Bool.false_eq_true, if_false]
    refine wpAny_pure (wpAny_pure ?_)
    refine wpAny_bind (wpAny_newObj_type ?_)
    have hSf : s3.heap.objs.size ∉ fp := fun hm => by
      rw [eh] at hm
      exact absurd (hfp _ hm) (Nat.lt_irrefl _)
    have e1 : preSum (fun i => match i with | 0 => d | j + 1 => val j) 1 = d := by
      show (0 : Int) + d = d
      omega
    refine wpAny_pure ⟨plainId_quiet F.plain_sum_loop _, codeAny_sum_loopG (walks_shift W) (fun i => match i with | 0 => d | j + 1 => val j) ?_ s3.heap.objs.size hSf n 1 _ t2 0 stage hstage rfl (by omega)
      ⟨0, rfl, W.frame _ _ _ hst fun b _ o e => Heap.get?_push_of_some _ ((eg b).trans e)⟩ (by rw [e1]; exact Heap.get?_push_size _ rfl) fun h' tk t' hk => ?_⟩
    · rintro i v ⟨j, rfl, p⟩
      exact hval j v p
    · rw [preSum_shift]
      show Q _ { s3 with heap := h', toks := tk }
      rw [es h' tk]
      exact hQ h' tk t' fun b o hbw e => hk b o hbw (Nat.ne_of_lt (by rw [eh]; exact Heap.lt_size e)) (Heap.get?_push_of_some _ ((eg b).trans e))
  dsimp only
  split
  · refine wpAny_bind (wpAny_rule (wpAny_bind (wpAny_mkInt (wpAny_bind (wpAny_pure ?_)))))
    exact rest _ _ 0 (Or.inl rfl) rfl fun _ _ => rfl
  · refine wpAny_bind (wpAny_pure ?_)
    exact rest _ _ 2 (Or.inr rfl) rfl fun _ _ => rfl
end
theorem iter_intTuple {prog : Program} {w : World} {A : Around} {E : Value → Shared → Prop} {s : Shared} {l : Addr} {items : Array Value} {Q : Value → Shared → Prop} (hh : A.handled = none) (hl : s.heap.IsTuple l items)
    (h : ∀ s₂ : Shared, s₂ = { s with heap := s.heap.push { cls := .type "tuple_iterator", data := .fields #[.ref l, .int 0 0] } } → l ≠ s.heap.objs.size → (s₂.heap.IsTupleIter s.heap.objs.size l 0 ∧ s₂.heap.IsTuple l items) → (∀ b ∈ [s.heap.objs.size, l], b < s₂.heap.objs.size) → Q (.ref s.heap.objs.size) s₂) :
    wpAny (model prog w) A (pyIter (.ref l)) Q E s := by
  have hlt : l < s.heap.objs.size := by obtain ⟨_, e, _⟩ := hl; exact Heap.lt_size e
  refine wpAny_pyIter_tuple hl (h _ rfl (Nat.ne_of_lt hlt) ⟨⟨_, Heap.get?_push_size _ rfl, rfl, rfl⟩, hl.push _⟩ (fun b hb => ?_))
  show b < (s.heap.push _).objs.size
  rw [Heap.size_push]
  rcases List.mem_cons.mp hb with rfl | hb
  · exact Nat.lt_succ_self _
  · rcases List.mem_cons.mp hb with rfl | hb
    · exact Nat.lt_succ_of_lt hlt
    · cases hb
def rSumS (K : PySem.W.Frag) : List V → List V → Hp → VK → Prop := fun vs zs H Q => ∃ (a : Addr) (ns : List Int) (d : Int), vs = [V.ref a] ∧ zs = [V.int d] ∧ (SqL K H a (ns.map V.int) ∨ SqT K H a (ns.map V.int)) ∧ Q (.int (d + ns.sum)) H
theorem preSum_list {ns : List Int} {xs : Array (Int × Tok)} {its : List Value} (hi : IntsAre its ns) (e : its.toArray = intItems xs) : preSum (numAt xs) xs.size = ns.sum := by
  have hn : numsOf (intItems xs).toList = ns := by rw [← e]; exact hi.numsOf
  rw [nums_intItems] at hn
  rw [preSum_eq, List.take_of_length_le (by simp), hn]
theorem crk_sumS {X : Cx} (hc : X.calm = true) : CallRK X (.builtin "sum") [("start" : Str)] (rSumS X.K) := by
  intro pins s σ H vs zs us ws Q I r rz h
  obtain ⟨a, ns, d, rfl, rfl, hs, q⟩ := h
  obtain rfl := Vals.ref1 r
  obtain ⟨w1, rfl, e1⟩ := vals1 rz
  obtain ⟨t, rfl⟩ := e1
  show wpAny (model X.prog X.w) X.A (call (.builtin "sum") [.ref a] [(Str.ofString "start", .int d t)]) (EP X pins σ Q) X.xe s
  have hh : X.A.handled = none := I.ok.hd hc
  rcases hs with hs | hs
  · obtain ⟨its, rv, hl, _⟩ := I.list hs
    have hi := rv.ints
    obtain ⟨xs, e⟩ := hi.allInts.items
    have hp := preSum_list hi e
    have hl' : s.heap.IsList a (intItems xs) := by rw [← e]; exact hl.isList
    refine call_sum_start (iter_intList hl' fun s₂ e2 st hfp hlI => ?_)
    subst e2
    refine ⟨_, _, _, _, _, _, numAt xs, rfl, Walks.list (A := X.A.in1) hh _ a hlI (intItems xs), st, hfp, (fun _ _ => intItems_at), fun h' tk t' hk => ?_⟩
    have e3 : (intItems xs).size = xs.size := by simp [intItems]
    rw [e3, hp]
    exact ⟨.int _, H, I.kept (old_kept hk), ⟨_, rfl⟩, q⟩
  · obtain ⟨its, rv, hl, _⟩ := I.tuple hs
    have hi := rv.ints
    obtain ⟨xs, e⟩ := hi.allInts.items
    have hp := preSum_list hi e
    have hl' : s.heap.IsTuple a (intItems xs) := by rw [← e]; exact hl
    refine call_sum_start (iter_intTuple hh hl' fun s₂ e2 hlI st hfp => ?_)
    subst e2
    refine ⟨_, _, _, _, _, _, numAt xs, rfl, Walks.tuple (A := X.A.in1) hh _ a hlI (intItems xs), st, hfp, (fun _ _ => intItems_at), fun h' tk t' hk => ?_⟩
    have e3 : (intItems xs).size = xs.size := by simp [intItems]
    rw [e3, hp]
    have hk2 : ∀ b o, s.heap.get? b = some o → h'.get? b = some o := fun b o e => hk b o (fun z => Nat.ne_of_lt (Heap.lt_size e) (List.mem_singleton.mp z)) (Heap.get?_push_of_some _ e)
    exact ⟨.int _, H, I.kept hk2, ⟨_, rfl⟩, q⟩
/-! ### at the level of data -/
section
variable {K : PySem.W.Frag} {Δ : Sl} {G L : List M} {Qd : Po} {ta tk : TA}
def ApK (K : PySem.W.Frag) (r : List V → List V → Hp → VK → Prop) (ss zz : List S) (Δ : Sl) (G L : List M) (Qd : Po) : Prop :=
  ∀ w ls σ H vs zs, Ctx K w ls σ H Δ G L → Paired (RS K H (Rg w ls) w.gs ls) ss vs → Paired (RS K H (Rg w ls) w.gs ls) zz zs → ∀ Q, Ret K w ls σ Δ H Qd Q → r vs zs H Q
theorem evc_ckw {r : List V → List V → Hp → VK → Prop} (h : EvA K ta Δ G L fun ss G1 L1 => EvA K tk Δ G1 L1 fun zz G2 L2 => ApK K r ss zz Δ G2 L2 Qd) : EvC K (tCKw r ta tk) Δ G L Qd := fun w ls σ H c Q ret =>
  h w ls σ H c _ fun vs ss H2 G2 L2 c2 e2 r2 k2 => k2 w ls σ H2 c2 _ fun zs zz H3 G3 L3 c3 e3 r3 k3 => k3 w ls σ H3 vs zs c3 (RSs.on c2 e3 r2) r3 Q (ret.ext (e2.trans e3))
theorem seqG_ints {w : W} {ls : List Addr} {σ : L2.St} {H : Hp} {v : V} {s : S} {ns : List Int} (c : Ctx K w ls σ H Δ G L) (r : RS K H (Rg w ls) w.gs ls s v) (h : seqG G L s = some (ns.map D.int)) : ∃ a, v = .ref a ∧ (SqL K H a (ns.map V.int) ∨ SqT K H a (ns.map V.int)) := by
  obtain ⟨a, xs, rfl, h1, q1⟩ := seqG_get c r h
  have e := RepL.intsV q1
  subst e
  exact ⟨a, rfl, h1⟩
theorem ap_sumS {s : S} {d : Int} (h : ∃ ns : List Int, seqG G L s = some (ns.map D.int) ∧ Qd (.d (.int (d + ns.sum))) G L) : ApK K (rSumS K) [s] [.d (.int d)] Δ G L Qd := fun w ls σ H vs zs c rs rz Q q => by
  obtain ⟨ns, hs, k⟩ := h
  obtain ⟨v, rfl, r⟩ := pair1 rs
  obtain ⟨z, rfl, rz2⟩ := pair1 rz
  obtain rfl : z = V.int d := rz2
  obtain ⟨a, rfl, h1⟩ := seqG_ints c r hs
  exact ⟨a, ns, d, rfl, rfl, h1, q.go c Ext.refl (s := .d (.int _)) rfl k⟩
end
end DL

namespace DL
open PySem PySem.Spec PyProof.Rows L2
section
variable {K : PySem.W.Frag}
/-! ### a callee sees both stores: the caller's n objects, behind them the own ones -/
def S.proN (n : Nat) : S → S
  | .l k => .g (n + k)
  | s => s
def S.demN (n : Nat) : S → S
  | .g k => if k < n then .g k else .l (k - n)
  | s => s
def M.proN (n : Nat) : M → M
  | .hl xs => .hl (xs.map (S.proN n))
  | .dh kvs => .dh (kvs.map fun p => (p.1, p.2.proN n))
  | .og C fs => .og C (fs.map fun p => (p.1, p.2.proN n))
  | .dq kvs => .dq (kvs.map fun p => (p.1, p.2.proN n))
  | m => m
def M.demN (n : Nat) : M → M
  | .hl xs => .hl (xs.map (S.demN n))
  | .dh kvs => .dh (kvs.map fun p => (p.1, p.2.demN n))
  | .og C fs => .og C (fs.map fun p => (p.1, p.2.demN n))
  | .dq kvs => .dq (kvs.map fun p => (p.1, p.2.demN n))
  | m => m
def S.okN (n : Nat) : S → Prop
  | .g k => k < n
  | .l _ => False
  | _ => True
def M.okN (n : Nat) : M → Prop
  | .hl xs => ∀ s ∈ xs, s.okN n
  | .dh kvs => ∀ p ∈ kvs, p.2.okN n
  | .og _ fs => ∀ p ∈ fs, p.2.okN n
  | .dq kvs => ∀ p ∈ kvs, p.2.okN n
  | _ => True
section
variable {H : Hp} {R : Addr → Prop} {gs ls : List Addr}
theorem getElem?_r {α : Type} {xs ys : List α} {k : Nat} {n : Nat} (hn : xs.length = n) : (xs ++ ys)[n + k]? = ys[k]? := by
  rw [List.getElem?_append_right (by omega), show n + k - xs.length = k by omega]
theorem RS.proN {n : Nat} (hn : gs.length = n) : ∀ {s : S} {v : V}, RS K H R gs ls s v → RS K H R (gs ++ ls) [] (s.proN n) v
  | .d _, _, h => h
  | .g _, _, ⟨a, h, e⟩ => ⟨a, Pre.app gs ls _ _ h, e⟩
  | .l _, _, ⟨a, h, e⟩ => ⟨a, (getElem?_r hn).trans h, e⟩
theorem RS.demN {n : Nat} (hn : gs.length = n) : ∀ {s : S} {v : V}, RS K H R (gs ++ ls) [] s v → RS K H R gs ls (s.demN n) v
  | .d _, _, h => h
  | .l _, _, ⟨a, h, _⟩ => by simp at h
  | .g k, _, ⟨a, h, e⟩ => by
    show RS K H R gs ls (if k < n then S.g k else S.l (k - n)) _
    by_cases hk : k < n
    · rw [if_pos hk]
      refine ⟨a, ?_, e⟩
      rw [List.getElem?_append_left (by omega)] at h
      exact h
    · rw [if_neg hk]
      refine ⟨a, ?_, e⟩
      rw [List.getElem?_append_right (by omega), hn] at h
      exact h
theorem RS.keepN {n : Nat} (hn : gs.length = n) : ∀ {s : S} {v : V}, s.okN n → RS K H R (gs ++ ls) [] s v → RS K H R gs [] s v
  | .d _, _, _, h => h
  | .l _, _, o, _ => o.elim
  | .g k, _, o, ⟨a, h, e⟩ => ⟨a, by
      have o' : k < n := o
      rw [List.getElem?_append_left (by omega)] at h
      exact h, e⟩
theorem RS.isN {n : Nat} (hn : gs.length = n) : ∀ {s : S} {v : V}, RS K H R gs [] s v → s.okN n
  | .d _, _, _ => trivial
  | .l _, _, ⟨a, h, _⟩ => by simp at h
  | .g k, _, ⟨a, h, _⟩ => by
    have := (List.getElem?_eq_some_iff.mp h).1
    show k < n
    omega
theorem MOk.proN {n : Nat} (hn : gs.length = n) {a : Addr} : ∀ {m : M}, MOk K H R gs ls a m → MOk K H R (gs ++ ls) [] a (m.proN n)
  | .pl _, h => h
  | .hl _, ⟨vs, h, r⟩ => ⟨vs, h, paired_mapB r fun _ _ q => q.proN hn⟩
  | .dc _, h => h
  | .ob _ _, h => h
  | .dh _, ⟨vs, h, r⟩ => ⟨vs, h, paired_mapB r fun _ _ q => ⟨q.1, q.2.proN hn⟩⟩
  | .dt _, h => h
  | .dz _ _, h => h
  | .og _ _, ⟨dx, vs, h, r⟩ => ⟨dx, vs, h, paired_mapB r fun _ _ q => ⟨q.1, q.2.proN hn⟩⟩
  | .dq _, ⟨vs, h, r⟩ => ⟨vs, h, paired_mapB r fun _ _ q => ⟨q.1, q.2.proN hn⟩⟩
theorem MOk.demN {n : Nat} (hn : gs.length = n) {a : Addr} : ∀ {m : M}, MOk K H R (gs ++ ls) [] a m → MOk K H R gs ls a (m.demN n)
  | .pl _, h => h
  | .hl _, ⟨vs, h, r⟩ => ⟨vs, h, paired_mapB r fun _ _ q => q.demN hn⟩
  | .dc _, h => h
  | .ob _ _, h => h
  | .dh _, ⟨vs, h, r⟩ => ⟨vs, h, paired_mapB r fun _ _ q => ⟨q.1, q.2.demN hn⟩⟩
  | .dt _, h => h
  | .dz _ _, h => h
  | .og _ _, ⟨dx, vs, h, r⟩ => ⟨dx, vs, h, paired_mapB r fun _ _ q => ⟨q.1, q.2.demN hn⟩⟩
  | .dq _, ⟨vs, h, r⟩ => ⟨vs, h, paired_mapB r fun _ _ q => ⟨q.1, q.2.demN hn⟩⟩
theorem MOk.keepN {n : Nat} (hn : gs.length = n) {a : Addr} : ∀ {m : M}, m.okN n → MOk K H R (gs ++ ls) [] a m → MOk K H R gs [] a m
  | .pl _, _, h => h
  | .hl _, o, ⟨vs, h, r⟩ => ⟨vs, h, paired_map r fun s _ ms q => q.keepN hn (o s ms)⟩
  | .dc _, _, h => h
  | .ob _ _, _, h => h
  | .dh _, o, ⟨vs, h, r⟩ => ⟨vs, h, paired_map r fun p _ ms q => ⟨q.1, q.2.keepN hn (o p ms)⟩⟩
  | .dt _, _, h => h
  | .dz _ _, _, h => h
  | .og _ _, o, ⟨dx, vs, h, r⟩ => ⟨dx, vs, h, paired_map r fun p _ ms q => ⟨q.1, q.2.keepN hn (o p ms)⟩⟩
  | .dq _, o, ⟨vs, h, r⟩ => ⟨vs, h, paired_map r fun p _ ms q => ⟨q.1, q.2.keepN hn (o p ms)⟩⟩
theorem paired_inr {α β : Type} {F : α → β → Prop} : ∀ {as : List α} {bs : List β} {b : β}, Paired F as bs → b ∈ bs → ∃ a, F a b
  | _, _, _, .cons h t, m => by
    rcases List.mem_cons.mp m with rfl | m
    · exact ⟨_, h⟩
    · exact paired_inr t m
theorem MOk.isN {n : Nat} (hn : gs.length = n) {a : Addr} : ∀ {m : M}, MOk K H R gs [] a m → m.okN n
  | .pl _, _ => trivial
  | .hl _, ⟨vs, h, r⟩ => fun s ms => let ⟨v, q⟩ := paired_l r ms; q.isN hn
  | .dc _, _ => trivial
  | .ob _ _, _ => trivial
  | .dh _, ⟨vs, h, r⟩ => fun p ms => let ⟨v, q⟩ := paired_l r ms; q.2.isN hn
  | .dt _, _ => trivial
  | .dz _ _, _ => trivial
  | .og _ _, ⟨_, vs, h, r⟩ => fun p ms => let ⟨v, q⟩ := paired_l r ms; q.2.isN hn
  | .dq _, ⟨vs, h, r⟩ => fun p ms => let ⟨v, q⟩ := paired_l r ms; q.2.isN hn
end
section
variable {w : W} {ls : List Addr} {σ : L2.St} {H H' : Hp} {Δ : Sl} {G L G' ms : List M} {ps : List Addr}
theorem Ctx.okN (c : Ctx K w ls σ H Δ G L) : ∀ m ∈ G, m.okN G.length := fun m hm => by
  obtain ⟨a, q⟩ := paired_inr c.gl hm
  exact MOk.isN (paired_len c.gl) q
def calleeGL (w : W) (ls : List Addr) (H : Hp) : W := ⟨Rg w ls, w.gs ++ ls, H⟩
theorem Ctx.calleeGL (c : Ctx K w ls σ H Δ G L) : Ctx K (DL.calleeGL w ls H) [] [] H [] (G ++ L.map (M.proN G.length)) [] := by
  have hn : w.gs.length = G.length := paired_len c.gl
  have g : Grow H H (Rg w ls) (Rg (DL.calleeGL w ls H) []) := grow_iff fun a r => r.elim id (fun z => by cases z)
  refine ⟨fun a h => ?_, fun a r => ?_, by rw [List.append_nil]; exact c.nd, fun _ h => (by cases h), fun a o h _ => h, ⟨rfl, fun i s e => by simp at e⟩, ?_, .nil, fun _ h => (by cases h)⟩
  · rcases List.mem_append.mp h with h | h
    · exact .inl (c.reg a h)
    · exact .inr h
  · rcases r with r | r
    · exact c.rin a r
    · exact c.lin r
  · refine paired_app (paired_map c.gl fun a m _ q => q.grow g (Pre.app _ _) (Pre.refl _) fun _ z => z) (paired_map2 c.lo fun a m q => ?_)
    exact (MOk.proN hn q).grow g (Pre.refl _) (Pre.refl _) fun _ z => z
theorem paired_split {α β : Type} {F : α → β → Prop} : ∀ {as cs : List α} {bs ds : List β}, as.length = bs.length → Paired F (as ++ cs) (bs ++ ds) → Paired F as bs ∧ Paired F cs ds
  | [], _, [], _, _, q => ⟨.nil, q⟩
  | a :: as, cs, b :: bs, ds, h, .cons q t => by
    obtain ⟨p1, p2⟩ := paired_split (Nat.succ.inj h) t
    exact ⟨.cons q p1, p2⟩
theorem paired_mem {α β : Type} {F : α → β → Prop} : ∀ {as : List α} {bs : List β}, Paired F as bs → Paired (fun a b => b ∈ bs ∧ F a b) as bs
  | _, _, .nil => .nil
  | _, _, .cons q t => .cons ⟨List.mem_cons_self, q⟩ (paired_map (paired_mem t) fun _ _ _ z => ⟨List.mem_cons_of_mem _ z.1, z.2⟩)
theorem Ctx.backGL {Ga La : List M} (c : Ctx K w ls σ H Δ G L) (c' : Ctx K (DL.calleeGL w ls H) ps [] H' [] (Ga ++ La) ms) (hl : Ga.length = G.length) (hk : ∀ m ∈ Ga, m.okN G.length) : Ctx K w ls σ H' Δ Ga (La.map (M.demN G.length)) ∧ Ext w ls H H' := by
  have hn : w.gs.length = G.length := paired_len c.gl
  have e : ∀ a o, H a = some o → a ∉ w.gs ++ ls → H' a = some o := c'.h0
  have e2 : Ext w ls H H' := fun a o h n m => e a o h fun z => (List.mem_append.mp z).elim n m
  have g := e2.grow c.reg
  have g3 : Grow H' H' (Rg (DL.calleeGL w ls H) ps) (Rg w ls) := grow_iff fun a r => .inl r
  obtain ⟨p1, p2⟩ := paired_split (hn.trans hl.symm) c'.gl
  refine ⟨⟨c.reg, fun a r => c'.rin a (.inl r), c.nd, c.fr, fun a o h n => e a o (c.h0 a o h n) fun z => (List.mem_append.mp z).elim n (fun z => (by rw [c.fr a z] at h; cases h)), c.sl.grow g (Pre.refl _) (Pre.refl _), ?_, ?_, c.ld⟩, e2⟩
  · have p3 := paired_mem p1
    exact paired_map p3 fun a m _ q => (MOk.keepN hn (hk m q.1) q.2).grow g3 (Pre.refl _) (Pre.refl _) fun _ z => z
  · exact paired_map2 p2 fun a m q => (MOk.demN hn q).grow g3 (Pre.refl _) (Pre.refl _) fun _ z => z
end
section
variable {Δ : Sl} {G L : List M} {Qd : Po} {ta : TA} {sp : DSpec} {E0' : XK}
def asVGL (n : Nat) (Qd : Po) : Res → List M → Prop
  | .v s, G' => ∃ Ga La, G' = Ga ++ La ∧ Ga.length = n ∧ (∀ m ∈ Ga, m.okN n) ∧ Qd (s.demN n) Ga (La.map (M.demN n))
  | .new _ _, _ => False
theorem evc_callGL (h : EvA K ta Δ G L fun ss G1 L1 => (∀ m ∈ G1, m.okN G1.length) → sp (ss.map (S.proN G1.length)) (G1 ++ L1.map (M.proN G1.length)) (asVGL G1.length Qd)) : EvC K (tCall (spD K sp) [] E0' ta) Δ G L Qd := fun w ls σ H c Q r => h w ls σ H c _ fun vs ss H2 G2 L2 c2 e2 r2 k => by
  show spD K sp (vs ++ []) H2 Q E0'
  rw [List.append_nil]
  have hn : w.gs.length = G2.length := paired_len c2.gl
  have g : Grow H2 H2 (Rg w ls) (Rg (DL.calleeGL w ls H2) []) := grow_iff fun a r => r.elim id (fun z => by cases z)
  have g' : ∀ H' ps, Grow H' H' (Rg (DL.calleeGL w ls H2) ps) (Rg w ls) := fun H' ps => grow_iff fun a r => .inl r
  refine ⟨DL.calleeGL w ls H2, ss.map (S.proN G2.length), G2 ++ L2.map (M.proN G2.length), asVGL G2.length Qd, rfl, c2.calleeGL, paired_mapB r2 fun _ _ q => (RS.proN hn q).grow g (Pre.refl _) (Pre.refl _), k c2.okN, fun v s H' G' c' rs k => ?_, fun ps j p ms H' G' c' hp k => k.elim⟩
  obtain ⟨Ga, La, rfl, hl, hk, k⟩ := k
  obtain ⟨cb, eb⟩ := Ctx.backGL c2 c' hl hk
  exact r v (s.demN G2.length) H' Ga _ cb (e2.trans eb) ((RS.demN hn rs).grow (g' H' []) (Pre.refl _) (Pre.refl _)) k
end
/-! ### a new own object is appended to a list of handles -/
section
variable {Δ : Sl} {G L : List M} {E : EndsD} {te to : TE} {t : TS}
end
/-! ### own rows become data -/
section
variable {Δ : Sl} {G L : List M} {E : EndsD} {t : TS}
def hnd (n : Nat) : List S := (List.range n).map fun i => S.l (i + 1)
end
/-! ### zip of two tuples, of two lists, as data -/
section
variable {Δ : Sl} {G L : List M} {ta : TA}
end
end
end DL

/-! zip(a, b, strict=True) of two tuples of one length -/
namespace DZs
open PySem PySem.Spec PyProof.Rows L2
open PySem.Sem (wp)
abbrev IsZipS (h : Heap) (z TI TO : Addr) (f0 : Value) : Prop :=
  h.get? z = some { cls := .type "zip", dict := none, data := .fields #[f0, .bool false, .bool true, .ref TI, .ref TO], slots := #[] }
section
variable {prog : Program} {w : World} {A : Around} {E : Value → Shared → Prop} {s : Shared}
theorem stop_iter {α : Type} {Q : α → Shared → Prop} (hh : A.handled = none) (hE : ∀ h' e, (∀ c o, s.heap.get? c = some o → h'.get? c = some o) → (∃ o, h'.get? e = some o ∧ o.cls = .type "StopIteration") → E (.ref e) { s with heap := h' }) :
    wpAny (model prog w) A (Builtin.SmallTypes.stopIteration : Sem α) Q E s := by
  unfold Builtin.SmallTypes.stopIteration
  refine wpAny_bind ?_
  simp only [newExc, newTuple]
  refine wpAny_bind (wpAny_newObj_type ?_ (by size_fits))
  refine wpAny_bind (m := firstArgMember _ _) (wpAny_of_eq (a := Value.none) (by first | rfl | (simp only [firstArgMember]; rfl)) ?_)
  refine wpAny_newObj_type ?_ (by size_fits)
  simp only [raiseNew]
  refine wpAny_bind (wpAny_handled ?_)
  rw [hh]
  refine wpAny_bind (wpAny_pure (wpAny_throw ?_))
  exact hE _ _ (fun c o e => Heap.get?_push_of_some _ (Heap.get?_push_of_some _ e)) ⟨_, Heap.get?_push_size _ rfl, rfl⟩

theorem letGo_zipS {elts : List Expr} {x1} {pos : Pos} {z TI TO T : Addr} {Q : Unit → Shared → Prop} (hz : IsZipS s.heap z TI TO (rawInt T))
    (hQ : ∀ h', IsZipS h' z TI TO .none → Heap.SameBut z s.heap h' → Q () { s with heap := h' }) :
    wpAny (model prog w) A (letOwnedTupleGo (.Tuple elts x1 pos) (.ref z) (.ref T)) Q E s := by
  unfold letOwnedTupleGo
  refine wpAny_bind (wpAny_load hz ?_)
  show wpAny _ _ (if (["enumerate", "zip", "dict_itemiterator", "dict_reverseitemiterator", "odict_iterator", "itertools.zip_longest", "itertools.pairwise"].contains "zip" &&
      (#[rawInt T, .bool false, .bool true, .ref TI, .ref TO] : Array Value)[0]? == some (rawInt T)) = true then _ else _) Q E s
  rw [if_pos (by simp)]
  refine wpAny_bind (wpAny_rule ?_)
  show wpAny _ _ (setField (.ref z) 0 .none) Q E s
  exact wpAny_setField_rec hz (by simp) fun h' hz' hs' => hQ h' hz' hs'
theorem pyIter_zipS {z TI TO : Addr} {f0 : Value} {Q : Value → Shared → Prop} (hz : IsZipS s.heap z TI TO f0) (h : Q (.ref z) s) : wpAny (model prog w) A (pyIter (.ref z)) Q E s := by
  have hT : s.TypeIs (.ref z) "zip" := ⟨_, hz, rfl⟩
  refine wpAny_pyIter_slot hT F.slot_zip_iter (wpAny_call_entry F.slot_zip_iter hT F.entry_zip_iter ?_ (F.args_zip_iter_1 _))
  show wpAny _ _ (ret (.ref z)) _ _ s
  exact wpAny_pure ⟨_, rfl, "zip", _, hT, F.slot_zip_next.lookup, h⟩
end
section
variable {prog : Program} {w : World} {A : Around} {E : Value → Shared → Prop} {s : Shared}
end
section
variable {M : Model} {A : Around} {E : Value → Shared → Prop} {s : Shared} {env : Env}
theorem cw_type_kw {pos : Pos} {T : String} {e : Expr} {rest : List Expr} {kws : List Keyword} {Q : Value → Shared → Prop}
    (h : wpAny M A (spliced (backTo pos (starEach (e :: rest) env))) (fun vs s₁ => wpAny M A (evalAll ((backToKw pos (keywordEach kws env)).map (·.2)))
      (fun kvs s₂ => wpAny M A (call (.type T) vs (((backToKw pos (keywordEach kws env)).filterMap (·.1)).zip kvs)) Q E s₂) E s₁) E s)
    (he : backTo pos (starEach (e :: rest) env) = (false, eval e env) :: backTo pos (starEach rest env)) (hplain : (backTo pos (starEach (e :: rest) env)).any (·.1) = false)
    (hall : (backToKw pos (keywordEach kws env)).all (·.1.isSome) = true) (hkw : (backToKw pos (keywordEach kws env)).any (·.1.isNone) = false) :
    wpAny M A (callWith pos (.type T) [] (backTo pos (starEach (e :: rest) env)) (backToKw pos (keywordEach kws env))) Q E s := by
  have h2 : wpAny M A (evalArgs (.type T) true (backTo pos (starEach (e :: rest) env)) (backToKw pos (keywordEach kws env))) (fun a s₁ => wpAny M A (call (.type T) ([] ++ a.pos) a.kw) Q E s₁) E s := by
    rw [he] at h ⊢
    exact evalArgs_kwB hall h
  unfold callWith
  refine wpAny_bind (wpAny_holding (wpAny_mono h2 (fun a s₁ h₁ => wpAny_bind (wpAny_standAt ?_)) fun _ _ x => x))
  simp only [hplain, hkw, Bool.or_false]
  refine wpAny_bind (wpAny_pure ?_)
  exact wpAny_bind (wpAny_mono h₁ (fun r s₂ hr => wpAny_bind (wpAny_holding (wpAny_point (wpAny_pure hr)))) fun _ _ x => x)
end
end DZs
namespace DL
open PySem PySem.Spec PyProof.Rows L2
end DL

namespace DL
open PySem PySem.Spec PyProof.Rows L2
/-! ### pairs of whole numbers; None among numbers; extend -/
theorem eqv_pair (a b c d : Int) : PyData.eqv (.tuple [.int a, .int b]) (.tuple [.int c, .int d]) = decide (a = c ∧ b = d) := by
  have h1 : ∀ x y : Int, PyData.eqv (.int x) (.int y) = decide (x = y) := fun x y => by
    simp [PyData.eqv]
    try rfl
  rw [PyData.eqv, PyData.eqvAll, PyData.eqvAll, PyData.eqvAll, h1, h1]
  simp
section
variable {K : PySem.W.Frag} {Δ : Sl} {G L : List M} {Qd : Po}
def pairD (a b : Int) : D := .tup [.int a, .int b]
def pairP (a b : Int) : PyData := .tuple [.int a, .int b]
theorem py_pair (a b : Int) : (pairD a b).py = some (pairP a b) := rfl
theorem shaped_pair (a b : Int) : SeqAt.shaped (pairP a b) = true := by
  unfold SeqAt.shaped
  rw [show (pairP a b).canLay0 = true from rfl, show (pairP a b).depth = 1 from by
    unfold pairP
    rw [PyData.depth, PyData.depthAll, PyData.depthAll, PyData.depthAll, PyData.depth, PyData.depth]
    rfl]
  rfl
theorem u_ne_pair {a b c d : Int} (k : Qd (.d (.bl (!decide (a = c ∧ b = d)))) G L) : OpC K (uNe K) (.d (.tup [.int a, .int b])) (.d (.tup [.int c, .int d])) Δ G L Qd := by
  refine u_ne_d (a := pairD a b) (b := pairD c d) rfl rfl (py_pair a b) (py_pair c d) (shaped_pair a b) (shaped_pair c d) ?_
  rw [show PyData.eqv (pairP a b) (pairP c d) = _ from eqv_pair a b c d]
  exact k
def oD : Option Int → D
  | none => .non
  | some i => .int i
end
end DL

namespace DL
open PySem PySem.Spec PyProof.Rows L2
/-! ### tuple * 0, * 1 -/
section
variable {X : Cx}
end
section
variable {K : PySem.W.Frag} {Δ : Sl} {G L : List M} {Qd : Po}
theorem u_eq_oi {o : Option Int} {e : Int} (k : Qd (.d (.bl (decide (o = some e)))) G L) : OpC K (uEq K) (.d (oD o)) (.d (.int e)) Δ G L Qd := fun w ls σ H vx vy c rx ry Q q => by
  obtain rfl : vy = V.int e := ry
  cases o with
  | none =>
    obtain rfl : vx = V.non := rx
    refine .inl ⟨rfl, ?_⟩
    have e1 : decide (V.non = V.int e) = decide ((none : Option Int) = some e) := by simp
    rw [e1]
    exact q.go c Ext.refl (s := .d (.bl _)) rfl k
  | some i =>
    obtain rfl : vx = V.int i := rx
    refine .inl ⟨rfl, ?_⟩
    have e1 : decide (V.int i = V.int e) = decide (some i = some e) := by simp
    rw [e1]
    exact q.go c Ext.refl (s := .d (.bl _)) rfl k
theorem isN_o {o : Option Int} (k : Qd (.d (.bl o.isNone)) G L) : OpC K (fun x y H Q => y = .non ∧ Q (.bl (decide (x = .non))) H) (.d (oD o)) (.d .non) Δ G L Qd := fun w ls σ H vx vy c rx ry Q q => by
  obtain rfl : vy = V.non := ry
  cases o with
  | none =>
    obtain rfl : vx = V.non := rx
    exact ⟨rfl, q.go c Ext.refl (s := .d (.bl _)) rfl (by simpa using k)⟩
  | some i =>
    obtain rfl : vx = V.int i := rx
    refine ⟨rfl, ?_⟩
    rw [decide_eq_false (by simp)]
    exact q.go c Ext.refl (s := .d (.bl false)) rfl k
theorem notN_o {o : Option Int} (k : Qd (.d (.bl o.isSome)) G L) : OpC K (fun x y H Q => y = .non ∧ Q (.bl (!decide (x = .non))) H) (.d (oD o)) (.d .non) Δ G L Qd := fun w ls σ H vx vy c rx ry Q q => by
  obtain rfl : vy = V.non := ry
  cases o with
  | none =>
    obtain rfl : vx = V.non := rx
    refine ⟨rfl, ?_⟩
    rw [decide_eq_true rfl]
    exact q.go c Ext.refl (s := .d (.bl false)) rfl k
  | some i =>
    obtain rfl : vx = V.int i := rx
    refine ⟨rfl, ?_⟩
    rw [decide_eq_false (by simp)]
    exact q.go c Ext.refl (s := .d (.bl true)) rfl k
end
end DL

/-! enumerate(a tuple) -/
namespace DEt
open PySem PySem.Spec PyProof.Rows L2
open PySem.Sem (wp)
section
variable {prog : Program} {w : World} {A : Around} {E : Value → Shared → Prop} {s : Shared}
end
section
variable {prog : Program} {w : World} {A : Around} {E : Value → Shared → Prop} {s : Shared}
end
end DEt
namespace DL
open PySem PySem.Spec PyProof.Rows L2
end DL

namespace DL
open PySem PySem.Spec PyProof.Rows L2
/-! ### a or b, a None or a number; [x] * int(b) -/
section
variable {K : PySem.W.Frag} {Δ : Sl} {G L : List M} {Qd : Po} {Qn : PoN} {ta tb : TE}
end
end DL

namespace DL
open PySem PySem.Spec PyProof.Rows L2
/-! ### dicts whose keys are pairs of whole numbers, their values whole numbers -/
def gV (p : List Key × Int) : List Key × V := (p.1, V.int p.2)
section
variable {K : PySem.W.Frag} {Δ : Sl} {G L : List M} {Qd : Po} {Qn : PoN}
end
end DL

namespace DL
open PySem PySem.Spec PyProof.Rows L2
/-! ### max of a tuple of whole numbers -/
section
variable {K : PySem.W.Frag} {Δ : Sl} {G L : List M} {Qd : Po}
end
end DL

/-! zip(a tuple, a list), over the library's GoesN.zip2 -/
namespace DZm
open PySem PySem.Spec PyProof.Rows L2
end DZm
namespace DL
open PySem PySem.Spec PyProof.Rows L2
end DL

/-! zip(a, b, strict=True) of two texts of one length, enumerate(a text): over the library's Draws -/
namespace DZx
open PySem PySem.Spec PyProof.Rows L2 DZs
open PySem.Sem (wp)
section
variable {prog : Program} {w : World} {A : Around} {E : Value → Shared → Prop} {s : Shared} {z TI TO i1 i2 it : Addr} {fp fp1 fp2 : List Addr} {n n1 n2 i : Nat} {P P1 P2 : Nat → Value → Prop} {St St1 St2 : Nat → Heap → Prop} {a1 a2 : Value}
end
section
variable {prog : Program} {w : World} {A : Around} {E : Value → Shared → Prop} {s : Shared} {z TI TO i1 i2 : Addr} {fp1 fp2 : List Addr} {n n1 n2 i : Nat} {P1 P2 : Nat → Value → Prop} {St1 St2 : Nat → Heap → Prop} {a1 a2 : Value}
end
section
variable {prog : Program} {w : World} {A : Around} {E : Value → Shared → Prop} {s : Shared}
end
/-! ### enumerate(a text) -/
section
variable {prog : Program} {w : World} {A : Around} {E : Value → Shared → Prop} {s : Shared}
end
end DZx
namespace DL
open PySem PySem.Spec PyProof.Rows L2
end DL

/-! texts: sorted of any number of them, rstrip, endswith, join, count; a list by a step -/
namespace DSo
open PySem PySem.Spec PyProof.Rows L2
/-! the order of texts -/
def leC : List Nat → List Nat → Bool
  | [], _ => true
  | _ :: _, [] => false
  | a :: r, b :: t => decide (a < b) || (decide (a = b) && leC r t)
theorem leC_anti : ∀ a b : List Nat, leC a b = true → leC b a = true → a = b
  | [], [], _, _ => rfl
  | [], _ :: _, _, h => by cases h
  | _ :: _, [], h, _ => by cases h
  | a :: r, b :: t, h, g => by
    unfold leC at h g
    simp only [Bool.or_eq_true, Bool.and_eq_true, decide_eq_true_eq] at h g
    rcases h with h | ⟨h, h2⟩
    · rcases g with g | ⟨g, _⟩ <;> omega
    · rcases g with g | ⟨_, g2⟩
      · omega
      · rw [h, leC_anti r t h2 g2]
def leT (a b : Str) : Bool := leC a.cps.toList b.cps.toList
theorem leT_anti {a b : Str} (h : leT a b = true) (g : leT b a = true) : a = b := by
  have := leC_anti _ _ h g
  obtain ⟨a⟩ := a
  obtain ⟨b⟩ := b
  simp at this
  rw [this]
theorem uniq : ∀ {l1 l2 : List Str}, l1.Perm l2 → l1.Pairwise (fun a b => leT a b = true) → l2.Pairwise (fun a b => leT a b = true) → l1 = l2
  | [], l2, p, _, _ => (List.Perm.nil_eq p)
  | a :: r, [], p, _, _ => absurd p.length_eq (by simp)
  | a :: r, b :: t, p, h, g => by
    have ha := p.mem_iff.mp (List.mem_cons_self (a := a) (l := r))
    have hb := p.mem_iff.mpr (List.mem_cons_self (a := b) (l := t))
    have e : a = b := by
      rcases List.mem_cons.mp ha with e | ha
      · exact e
      · rcases List.mem_cons.mp hb with e | hb
        · exact e.symm
        · exact leT_anti ((List.pairwise_cons.mp h).1 b hb) ((List.pairwise_cons.mp g).1 a ha)
    subst e
    rw [uniq p.cons_inv (List.pairwise_cons.mp h).2 (List.pairwise_cons.mp g).2]
/-! a list by a step -/
end DSo
namespace DL
open PySem PySem.Spec PyProof.Rows L2 DSo
section
variable {K : PySem.W.Frag} {Δ : Sl} {G L : List M} {Qd : Po} {Qn : PoN} {te : TE}
end
end DL

namespace DL
open PySem PySem.Spec PyProof.Rows L2
section
variable {K : PySem.W.Frag} {Δ : Sl} {G L : List M} {Qn : PoN} {wi : TI} {g : TG} {tt : TT} {te : TE} {vs : List Nat}
theorem evn_lcM {α : Type} (xs : List α) (f : α → D) (keep : α → Bool) (val : α → D) (h : EvI K wi Δ G L fun items G1 L1 => items = xs.map f ∧ xs.length < sizeLine ∧
    (∀ a ∈ xs, TgC K g (· ∈ vs) (.d (f a)) (wipeD Δ vs) G1 L1 fun Δ2 G2 L2 => EvB K tt Δ2 G2 L2 fun b G3 L3 => b = keep a ∧ (b = true → EvC K te Δ2 G3 L3 fun s G4 L4 => s = .d (val a) ∧ G4 = G1 ∧ L4 = L1) ∧ (b = false → G3 = G1 ∧ L3 = L1)) ∧
    Qn (.pl ((xs.filter keep).map val)) G1 L1) : EvN K (tLc wi g tt te vs) Δ G L Qn := by
  refine evn_lc fun w ls σ H c R q => h w ls σ H c R fun J H1 items G1 L1 c1 e1 it ⟨ex, hz, hs, hq⟩ => q J H1 items G1 L1 c1 e1 it ?_
  subst ex
  refine ⟨fun i acc G' L' => G' = G1 ∧ L' = L1 ∧ acc = ((xs.take i).filter keep).map val, ⟨rfl, rfl, by rw [List.take_zero]; rfl⟩, by rw [List.length_map]; exact hz, ?_, ?_⟩
  · rintro i d acc G' L' hd _ ⟨rfl, rfl, rfl⟩
    rw [List.getElem?_map] at hd
    cases e : xs[i]? with
    | none =>
      rw [e] at hd
      cases hd
    | some a =>
      rw [e] at hd
      cases hd
      have e2 : xs.take (i + 1) = xs.take i ++ [a] := by
        rw [List.take_succ, e]
        rfl
      intro w ls σ H v c r Q k
      refine hs a (List.mem_of_getElem? e) w ls σ H v c r Q fun σ' H' Δ' G2 L2 c' e' l' o' hb => k σ' H' Δ' G2 L2 c' e' l' o' ?_
      intro w ls σ H c Q k
      refine hb w ls σ H c Q fun b H' G3 L3 c' e' ⟨h1, h2, h3⟩ => k b H' G3 L3 c' e' ?_
      cases b with
      | true =>
        refine iteTT ((h2 rfl).imp fun s G4 L4 ⟨h4, h5, h6⟩ => ⟨val a, h4, h5, h6, ?_⟩)
        rw [e2, List.filter_append, List.map_append, List.filter_cons, if_pos h1.symm]
        rfl
      | false =>
        obtain ⟨h4, h5⟩ := h3 rfl
        refine iteFF ⟨h4, h5, ?_⟩
        rw [e2, List.filter_append, List.map_append, List.filter_cons, if_neg (by rw [← h1]; decide)]
        exact (List.append_nil _).symm
  · rintro acc G' L' ⟨rfl, rfl, rfl⟩
    rw [List.length_map, List.take_length]
    exact hq
end
end DL

/-! sets of texts: set(a list of texts), sorted of it, len of it -/
namespace DSt
open PySem PySem.Spec PyProof.Rows L2
def keyS (e : Int × Value) : Str := match e.2 with | .str k _ => k | _ => Str.empty
def GoodS (P : Program) (w : World) (e : Int × Value) : Prop := ∃ k tk, e.2 = Value.str k tk ∧ e.1 = (PySem.strKind P w).hash k

def SetS (P : Program) (w : World) (h : Heap) (a : Addr) (S : Str → Bool) (n : Nat) : Prop :=
  ∃ o es ep t, h.get? a = some o ∧ o.ExactSet ∧ o.data = .set es ep t ∧ (∀ e ∈ es.toList, GoodS P w e) ∧ (es.toList.map keyS).Nodup ∧ (∀ k, S k = true ↔ k ∈ es.toList.map keyS) ∧
    es.size < scanBound ∧ t.fits es.size = true ∧ es.size = n ∧ Ris t.place.toList ∧ (w.params.followText "set-order" = true ∨ t.led = true)

section
variable {P : Program} {w : World} {h h' : Heap} {a : Addr} {S : Str → Bool} {n : Nat}

theorem SetS.at (R : SetS P w h a S n) (k : ∀ o, h.get? a = some o → h'.get? a = some o) : SetS P w h' a S n := by
  obtain ⟨o, es, ep, t, ho, r⟩ := R
  exact ⟨o, es, ep, t, k o ho, r⟩
theorem SetS.congr {S' : Str → Bool} (R : SetS P w h a S n) (e : ∀ k, S' k = S k) : SetS P w h a S' n := by
  have q : S' = S := funext e
  rw [q]; exact R
end

section
variable {P : Program} {w : World} {A : Around} {E : Value → Shared → Prop} {s : Shared} {a : Addr} {S : Str → Bool} {n : Nat}

/-! ### add -/
end

section
variable {P : Program} {w : World} {A : Around} {R : Result → Shared → Prop} {I : Addr} {fp wr : List Addr} {G : Array GenState → Array GenState → Prop} {n : Nat} {Pv : Nat → Value → Prop} {St : Nat → Shared → Prop}
end

section
variable {P : Program} {w : World} {A : Around} {E : Value → Shared → Prop} {s : Shared}
end
section
variable {P : Program} {w : World} {A : Around} {E : Value → Shared → Prop} {s : Shared} {a : Addr}
end

/-! ### rules -/
section
variable {X : Cx}
end
end DSt
namespace DL
open PySem PySem.Spec PyProof.Rows L2 DSo DSt
section
variable {K : PySem.W.Frag} {Δ : Sl} {G L : List M} {Qd : Po} {Qn : PoN} {te : TE} {P : Program} {w0 : World}
end
end DL

/-! {True: a, False: b}[x]: the dict is made, read once, and forgotten -/
namespace DBx
open PySem PySem.Spec PyProof.Rows L2
end DBx
namespace DL
open PySem PySem.Spec PyProof.Rows L2 DBx
section
variable {K : PySem.W.Frag} {Δ : Sl} {G L : List M} {Qd : Po} {ta tb te : TE}
end
end DL

/-! a text turned about; tuple(a text) -/
namespace DRv
open PySem PySem.Spec PyProof.Rows L2
open Builtin Builtin.Str
end DRv
namespace DL
open PySem PySem.Spec PyProof.Rows L2 DRv
section
variable {K : PySem.W.Frag} {Δ : Sl} {G L : List M} {Qd : Po} {te : TE}
end
end DL

/-! truths as numbers: +, -, == with an int, str of a truth -/
namespace DBo
open PySem PySem.Spec PyProof.Rows L2 DL
end DBo
namespace DL
open PySem PySem.Spec PyProof.Rows L2 DBo
section
variable {K : PySem.W.Frag} {Δ : Sl} {G L : List M} {Qd : Po} {Qn : PoN}
end
end DL

/-! list.count of texts; upper of any text can be shown -/
namespace DLc
open PySem PySem.Spec PyProof.Rows L2
section
variable {X : Cx}
end
/-! upper -/
end DLc
namespace DL
open PySem PySem.Spec PyProof.Rows L2 DLc
section
variable {K : PySem.W.Frag} {Δ : Sl} {G L : List M} {Qd : Po}
end
end DL

/-! sum of a tuple of whole numbers -/
namespace DL
open PySem PySem.Spec PyProof.Rows L2
section
variable {K : PySem.W.Frag} {Δ : Sl} {G L : List M} {Qd : Po}
end
end DL

/-! a def held in a slot is called; list(range(n)); sorted(ints) -/
namespace DL
open PySem PySem.Spec PyProof.Rows L2
section
variable {K : PySem.W.Frag} {Δ : Sl} {G L : List M} {Qd : Po} {Qn : PoN} {te : TE} {ta : TA} {sp : DSpec} {E0' : XK}
end
end DL

/-! sorted(set(a list of ints)); list(range(a, b)); a list extended by it -/
namespace DSi
open PySem PySem.Spec PyProof.Rows L2
section
variable {P : Program} {w : World} {A : Around} {E : Value → Shared → Prop} {s : Shared}
end
section
variable {X : Cx}
end
end DSi
namespace DL
open PySem PySem.Spec PyProof.Rows L2 DSi
section
variable {K : PySem.W.Frag} {Δ : Sl} {G L : List M} {Qd : Po} {Qn : PoN} {te tf : TE} {w0 : World}
theorem evn_listRg2 (h : EvC K te Δ G L fun x G1 L1 => EvC K tf Δ G1 L1 fun y G2 L2 => ∃ i j, x = .d (.int i) ∧ y = .d (.int j) ∧ (-100000 ≤ i ∧ i ≤ 100000 ∧ -100000 ≤ j ∧ j ≤ 100000) ∧ Qn (.pl (rngD i (j - i).toNat)) G2 L2) : EvN K (tLstRg (tRg2 te tf)) Δ G L Qn := fun w ls σ H c Q r => h w ls σ H c _ fun v s H2 G2 L2 c2 e2 r2 h2 => h2 w ls σ H2 c2 _ fun v' s' H3 G3 L3 c3 e3 r3 ⟨i, j, e, e', ⟨h0, h1, h4, h5⟩, k⟩ => by
  subst e
  subst e'
  have r2 : v = V.int i := r2
  have r3 : v' = V.int j := r3
  refine ⟨i, j, r2, r3, (⟨by omega, by omega, by omega, by omega, by omega⟩ : RgOk i j), fun p hp => ?_⟩
  have e1 : rngD i (j - i).toNat = ((List.range (j - i).toNat).map fun (n : Nat) => i + (n : Int)).map D.int := by
    rw [List.map_map]
    rfl
  have e2' : rgV i j = ((List.range (j - i).toNat).map fun (n : Nat) => i + (n : Int)).map V.int := by
    unfold rgV
    rw [List.map_map]
    rfl
  rw [e2']
  rw [e1] at k
  exact r p _ _ _ _ (none_back c2 e2 (none_back c3 e3 hp)) (newAt_pl c3 hp RepL.ints) ((e2.trans e3).trans (Ext.new hp)) k
end
end DL

/-! a op b op c op d, as a test -/
namespace DCh
open PySem PySem.Spec PyProof.Rows L2
def tCh3 (r r' r'' : R2) (ta tb tc td : TE) : TT := fun σ H Q => ta σ H fun x H1 => tb σ H1 fun y H2 => r x y H2 fun z H3 => ∃ k, z = .bl k ∧
  (if k = true then tc σ H3 fun u H4 => r' y u H4 fun z2 H5 => ∃ k2, z2 = .bl k2 ∧ (if k2 = true then td σ H5 fun v H6 => r'' u v H6 fun z3 H7 => ∃ k3, z3 = .bl k3 ∧ Q k3 H7 else Q false H5) else Q false H3)
section
variable {X : Cx} {a b c d : Expr} {ta tb tc td : TE} {pos : Pos}
end
end DCh
namespace DL
open PySem PySem.Spec PyProof.Rows L2 DCh
section
variable {K : PySem.W.Frag} {Δ : Sl} {G L : List M} {Qb : PoB} {ta tb tc td : TE} {r r' r'' : R2}
theorem evb_ch3 (h : EvC K ta Δ G L fun x G1 L1 => EvC K tb Δ G1 L1 fun y G2 L2 => OpC K r x y Δ G2 L2 fun z G3 L3 => ∃ b, z = .d (.bl b) ∧
    if b = true then EvC K tc Δ G3 L3 fun u G4 L4 => OpC K r' y u Δ G4 L4 fun z2 G5 L5 => ∃ b2, z2 = .d (.bl b2) ∧
      if b2 = true then EvC K td Δ G5 L5 fun v G6 L6 => OpC K r'' u v Δ G6 L6 fun z3 G7 L7 => ∃ b3, z3 = .d (.bl b3) ∧ Qb b3 G7 L7 else Qb false G5 L5 else Qb false G3 L3) : EvB K (tCh3 r r' r'' ta tb tc td) Δ G L Qb :=
  fun w ls σ H c Q ret => h w ls σ H c _ fun v s H2 G2 L2 c2 e2 r2 h2 => h2 w ls σ H2 c2 _ fun v3 s3 H3 G3 L3 c3 e3 r3 h3 => h3 w ls σ H3 v v3 c3 (r2.on c2 e3) r3 _ fun v4 s4 H4 G4 L4 c4 e4 r4 ⟨b, e, k⟩ => by
    subst e
    refine ⟨b, r4, ?_⟩
    cases b with
    | true =>
      rw [if_pos rfl] at k ⊢
      exact k w ls σ H4 c4 _ fun v5 s5 H5 G5 L5 c5 e5 r5 h5 => h5 w ls σ H5 v3 v5 c5 ((r3.on c3 e4).on c4 e5) r5 _ fun v6 s6 H6 G6 L6 c6 e6 r6 ⟨b2, e', k2⟩ => by
        subst e'
        refine ⟨b2, r6, ?_⟩
        cases b2 with
        | true =>
          rw [if_pos rfl] at k2 ⊢
          exact k2 w ls σ H6 c6 _ fun v7 s7 H7 G7 L7 c7 e7 r7 h7 => h7 w ls σ H7 v5 v7 c7 ((r5.on c5 e6).on c6 e7) r7 _ fun v8 s8 H8 G8 L8 c8 e8 r8 ⟨b3, e'', k3⟩ => by
            subst e''
            exact ⟨b3, r8, ret b3 H8 G8 L8 c8 (e2.trans (e3.trans (e4.trans (e5.trans (e6.trans (e7.trans e8)))))) k3⟩
        | false =>
          rw [if_neg Bool.false_ne_true] at k2 ⊢
          exact ret _ H6 G6 L6 c6 (e2.trans (e3.trans (e4.trans (e5.trans e6)))) k2
    | false =>
      rw [if_neg Bool.false_ne_true] at k ⊢
      exact ret _ H4 G4 L4 c4 (e2.trans (e3.trans e4)) k
end
end DL

/-! zip(a, b, strict=True) of two lists of one length -/
namespace DZl
open PySem PySem.Spec PyProof.Rows L2
open PySem.Sem (wp)
abbrev IsZipS (h : Heap) (z TI TO : Addr) (f0 : Value) : Prop :=
  h.get? z = some { cls := .type "zip", dict := none, data := .fields #[f0, .bool false, .bool true, .ref TI, .ref TO], slots := #[] }
section
variable {prog : Program} {w : World} {A : Around} {E : Value → Shared → Prop} {s : Shared}
theorem stop_iter {α : Type} {Q : α → Shared → Prop} (hh : A.handled = none) (hE : ∀ h' e, (∀ c o, s.heap.get? c = some o → h'.get? c = some o) → (∃ o, h'.get? e = some o ∧ o.cls = .type "StopIteration") → E (.ref e) { s with heap := h' }) :
    wpAny (model prog w) A (Builtin.SmallTypes.stopIteration : Sem α) Q E s := by
  unfold Builtin.SmallTypes.stopIteration
  refine wpAny_bind ?_
  simp only [newExc, newTuple]
  refine wpAny_bind (wpAny_newObj_type ?_ (by size_fits))
  refine wpAny_bind (m := firstArgMember _ _) (wpAny_of_eq (a := Value.none) (by first | rfl | (simp only [firstArgMember]; rfl)) ?_)
  refine wpAny_newObj_type ?_ (by size_fits)
  simp only [raiseNew]
  refine wpAny_bind (wpAny_handled ?_)
  rw [hh]
  refine wpAny_bind (wpAny_pure (wpAny_throw ?_))
  exact hE _ _ (fun c o e => Heap.get?_push_of_some _ (Heap.get?_push_of_some _ e)) ⟨_, Heap.get?_push_size _ rfl, rfl⟩

theorem letGo_zipS {elts : List Expr} {x1} {pos : Pos} {z TI TO T : Addr} {Q : Unit → Shared → Prop} (hz : IsZipS s.heap z TI TO (rawInt T))
    (hQ : ∀ h', IsZipS h' z TI TO .none → Heap.SameBut z s.heap h' → Q () { s with heap := h' }) :
    wpAny (model prog w) A (letOwnedTupleGo (.Tuple elts x1 pos) (.ref z) (.ref T)) Q E s := by
  unfold letOwnedTupleGo
  refine wpAny_bind (wpAny_load hz ?_)
  show wpAny _ _ (if (["enumerate", "zip", "dict_itemiterator", "dict_reverseitemiterator", "odict_iterator", "itertools.zip_longest", "itertools.pairwise"].contains "zip" &&
      (#[rawInt T, .bool false, .bool true, .ref TI, .ref TO] : Array Value)[0]? == some (rawInt T)) = true then _ else _) Q E s
  rw [if_pos (by simp)]
  refine wpAny_bind (wpAny_rule ?_)
  show wpAny _ _ (setField (.ref z) 0 .none) Q E s
  exact wpAny_setField_rec hz (by simp) fun h' hz' hs' => hQ h' hz' hs'
theorem pyIter_zipS {z TI TO : Addr} {f0 : Value} {Q : Value → Shared → Prop} (hz : IsZipS s.heap z TI TO f0) (h : Q (.ref z) s) : wpAny (model prog w) A (pyIter (.ref z)) Q E s := by
  have hT : s.TypeIs (.ref z) "zip" := ⟨_, hz, rfl⟩
  refine wpAny_pyIter_slot hT F.slot_zip_iter (wpAny_call_entry F.slot_zip_iter hT F.entry_zip_iter ?_ (F.args_zip_iter_1 _))
  show wpAny _ _ (ret (.ref z)) _ _ s
  exact wpAny_pure ⟨_, rfl, "zip", _, hT, F.slot_zip_next.lookup, h⟩
end
section
variable {prog : Program} {w : World} {A : Around} {E : Value → Shared → Prop} {s : Shared}
end
section
variable {M : Model} {A : Around} {E : Value → Shared → Prop} {s : Shared} {env : Env}
theorem cw_type_kw {pos : Pos} {T : String} {e : Expr} {rest : List Expr} {kws : List Keyword} {Q : Value → Shared → Prop}
    (h : wpAny M A (spliced (backTo pos (starEach (e :: rest) env))) (fun vs s₁ => wpAny M A (evalAll ((backToKw pos (keywordEach kws env)).map (·.2)))
      (fun kvs s₂ => wpAny M A (call (.type T) vs (((backToKw pos (keywordEach kws env)).filterMap (·.1)).zip kvs)) Q E s₂) E s₁) E s)
    (he : backTo pos (starEach (e :: rest) env) = (false, eval e env) :: backTo pos (starEach rest env)) (hplain : (backTo pos (starEach (e :: rest) env)).any (·.1) = false)
    (hall : (backToKw pos (keywordEach kws env)).all (·.1.isSome) = true) (hkw : (backToKw pos (keywordEach kws env)).any (·.1.isNone) = false) :
    wpAny M A (callWith pos (.type T) [] (backTo pos (starEach (e :: rest) env)) (backToKw pos (keywordEach kws env))) Q E s := by
  have h2 : wpAny M A (evalArgs (.type T) true (backTo pos (starEach (e :: rest) env)) (backToKw pos (keywordEach kws env))) (fun a s₁ => wpAny M A (call (.type T) ([] ++ a.pos) a.kw) Q E s₁) E s := by
    rw [he] at h ⊢
    exact evalArgs_kwB hall h
  unfold callWith
  refine wpAny_bind (wpAny_holding (wpAny_mono h2 (fun a s₁ h₁ => wpAny_bind (wpAny_standAt ?_)) fun _ _ x => x))
  simp only [hplain, hkw, Bool.or_false]
  refine wpAny_bind (wpAny_pure ?_)
  exact wpAny_bind (wpAny_mono h₁ (fun r s₂ hr => wpAny_bind (wpAny_holding (wpAny_point (wpAny_pure hr)))) fun _ _ x => x)
end
end DZl
namespace DL
open PySem PySem.Spec PyProof.Rows L2
end DL

namespace DL
open PySem PySem.Spec PyProof.Rows L2
section
variable {K : PySem.W.Frag} {Δ : Sl} {G L : List M} {Qd : Po}
theorem isN_t {ds : List D} (k : Qd (.d (.bl false)) G L) : OpC K (fun x y H Q => y = .non ∧ Q (.bl (decide (x = .non))) H) (.d (.tup ds)) (.d .non) Δ G L Qd := fun w ls σ H vx vy c rx ry Q q => by
  obtain rfl : vy = V.non := ry
  obtain ⟨a, xs, rfl, _⟩ := rx
  refine ⟨rfl, ?_⟩
  rw [decide_eq_false (by simp)]
  exact q.go c Ext.refl (s := .d (.bl false)) rfl k
theorem notN_t {ds : List D} (k : Qd (.d (.bl true)) G L) : OpC K (fun x y H Q => y = .non ∧ Q (.bl (!decide (x = .non))) H) (.d (.tup ds)) (.d .non) Δ G L Qd := fun w ls σ H vx vy c rx ry Q q => by
  obtain rfl : vy = V.non := ry
  obtain ⟨a, xs, rfl, _⟩ := rx
  refine ⟨rfl, ?_⟩
  rw [decide_eq_false (by simp)]
  exact q.go c Ext.refl (s := .d (.bl true)) rfl k
end
end DL

/-! exceptions of own classes with one field: defs that raise, raise, try .. except .. as -/
namespace DXe
open PySem PySem.Spec PyProof.Rows L2
section
variable {X : Cx} {CX : CXT} {k i : Nat} {f : Addr} {fd : FuncData} {ps : List Str} {sp : Sp} {E : L2.St → XK} {x : Str} {p pos : Pos} {e : Expr} {es : List Expr} {t : TA}
end
/-! what isinstance says of classes -/
theorem kit_ty {K : PySem.W.Frag} {C : Addr} {T : String} (hm : PySem.W.kitMeta T = true) (h : PySem.W.subIn K (.ref C) (.type T) = some true) : PySem.W.kitOne K (.ref C) (.type T) = some true := by
  unfold PySem.W.kitOne
  rw [if_neg (by intro z; cases beq_iff_eq.mp z)]
  show (if PySem.W.kitMeta T = true then PySem.W.subIn K (.ref C) (.type T) else none) = _
  rw [if_pos hm]
  exact h
theorem kit_ref {K : PySem.W.Frag} {C D : Addr} (hC : PySem.W.subIn K (.ref C) (.ref C) = some true) (ic : PySem.W.isClsIn K D = true) (ty : PySem.W.typeIn K (.ref D) = some (.type "type")) (h : PySem.W.subIn K (.ref C) (.ref D) = some false) : PySem.W.kitOne K (.ref C) (.ref D) = some false := by
  unfold PySem.W.kitOne
  rw [if_neg (by
    intro z
    have e : C = D := Value.ref.inj (beq_iff_eq.mp z)
    subst e
    rw [hC] at h
    cases h)]
  have e2 : ((PySem.W.clsIn K D).isSome && PySem.W.typeIn K (.ref D) == some (.type "type")) = true := by
    have ic : (PySem.W.clsIn K D).isSome = true := ic
    rw [ic, ty]
    rfl
  show (if ((PySem.W.clsIn K D).isSome && PySem.W.typeIn K (.ref D) == some (.type "type")) = true then PySem.W.subIn K (.ref C) (.ref D) else none) = _
  rw [if_pos e2]
  exact h
end DXe
namespace DL
open PySem PySem.Spec PyProof.Rows L2
structure Exn where
  C : Addr
  fs : List (Str × D)
def ExnAt (K : PySem.W.Frag) (H : Hp) (R : Addr → Prop) (cls : Value) (d : Option Addr) (x : Exn) : Prop := cls = .ref x.C ∧ ∃ dd ws, d = some dd ∧ (H dd = some (.xd ws) ∧ ¬ R dd) ∧ RepF K H R x.fs ws
def WishAt (K : PySem.W.Frag) (w : W) (ls : List Addr) (H : Hp) (Wi : WX) (Qx : Exn → Sl → List M → List M → Prop) : Prop :=
  ∀ σ Δ G L cls d x, Ctx K w ls σ H Δ G L → ExnAt K H (Rg w ls) cls d x → Qx x Δ G L → Wi cls d σ H
abbrev DSpecX := List S → List M → (Res → List M → Prop) → (Exn → List M → Prop) → Prop
def spDX (K : PySem.W.Frag) (F : DSpecX) : Sp := fun vs H Q Ex => ∃ (w : W) (ss : List S) (G : List M) (Qd : Res → List M → Prop) (Qx : Exn → List M → Prop), w.H0 = H ∧ Ctx K w [] [] H [] G [] ∧ Paired (RS K H (Rg w []) w.gs []) ss vs ∧ F ss G Qd Qx ∧
  (∀ v s H' G', Ctx K w [] [] H' [] G' [] → RS K H' (Rg w []) w.gs [] s v → Qd (.v s) G' → Q v H') ∧
  (∀ ps k p ms H' G', Ctx K w ps [] H' [] G' ms → ps[k]? = some p → Qd (.new ms k) G' → Q (.ref p) H') ∧
  (∀ cls d x H' G', Ctx K w [] [] H' [] G' [] → ExnAt K H' (Rg w []) cls d x → Qx x G' → Ex cls d H')
def endsX (K : PySem.W.Frag) (E : XK) (Qd : Res → List M → Prop) (Qx : Exn → List M → Prop) : EndsD :=
  { endsD Qd with wd := fun w ls H => WishAt K w ls H (fun cls d _ H => E cls d H) fun x _ G _ => Qx x G }
section
variable {K : PySem.W.Frag}
theorem ExnAt.grow {H H' : Hp} {R R' : Addr → Prop} {cls : Value} {d : Option Addr} {x : Exn} (g : Grow H H' R R') (h : ExnAt K H R cls d x) : ExnAt K H' R' cls d x := by
  obtain ⟨e, dd, ws, ed, ⟨h1, n1⟩, r⟩ := h
  exact ⟨e, dd, ws, ed, ⟨g.keep _ _ h1 n1, fun z => n1 (g.reg _ _ h1 z)⟩, r.grow g⟩
theorem okDX {P : Program} {w : World} {mg : Str → Option Value} {base : Heap} {x qual : Str} {st : Stmt} {f : Addr} {fd : FuncData} {N ps : List Str} {k : Nat} {sp : DSpecX} (F : Fun K x qual st f fd) (S : FnScope N ps (defScope st)) (len : ∀ ss G Qd Qx, sp ss G Qd Qx → ss.length = ps.length)
    (hbody : ∀ (cdv : Value) (A : Around) (outer : List Env) (s : Shared) (H : Hp) (E : XK) (ss : List DL.S) (G : List M) (Qd : Res → List M → Prop) (Qx : Exn → List M → Prop), Room k (A.deeper (envOfC qual (defScope st) s.heap.objs.size f cdv)) → sp ss G Qd Qx →
      ∃ t, PSs (cxOf (L2.CX P w) P w K mg base N qual (defScope st) f cdv A outer s H E) (defBody st) t ∧ StC K t (startD N ss) G [] (endsX K E Qd Qx)) : FnOk P w K mg base (L2.CX P w) (k + 1) f fd ps (spDX K sp) := by
  refine F.okX S (fun vs H Q E h => ?_) (fun cdv A outer s H vs Q E hr h => ?_)
  · obtain ⟨w, ss, G, Qd, Qx, _, _, r, q, _⟩ := h
    rw [← paired_len r]
    exact len ss G Qd Qx q
  · obtain ⟨w, ss, G, Qd, Qx, h0, c, r, q, k1, k2, k3⟩ := h
    obtain ⟨t, ht, hs⟩ := hbody cdv A outer s H E ss G Qd Qx hr q
    refine ⟨t, ht, hs w [] (L2.start N vs) H ⟨c.reg, c.rin, c.nd, c.fr, c.h0, slok_start r, c.gl, c.lo, c.ld⟩ _ ⟨?_, ?_, ?_, ?_, ?_⟩⟩
    · intro ls' σ' H' Δ' G' L' c' g' n'
      exact k1 .non (.d .non) H' G' c'.forget rfl n'
    · intro ls' σ' H' Δ' G' L' v z c' rz n'
      cases z with
      | d x => exact k1 v (.d x) H' G' c'.forget (Rep.grow grow_drop rz) n'
      | g j => exact k1 v (.g j) H' G' c'.forget rz n'
      | l j =>
        obtain ⟨a, ha, rfl⟩ := rz
        exact k2 ls' j a L' H' G' c'.forgetS ha n'
    · intro ls' σ' H' Δ' G' L' c' g' n'
      exact n'.elim
    · intro ls' σ' H' Δ' G' L' c' g' n'
      exact n'.elim
    · intro ls' H' g' σ' Δ' G' L' cls d x c' xn qx
      exact k3 cls d x H' G' c'.forget (xn.grow grow_drop) qx
section
variable {Δ : Sl} {G L : List M} {Qd : Po} {E : EndsD} {ta ts : TA} {te : TE} {tt : TT} {F : DSpecX} {Wi : WX} {g : TG}
theorem spX_call {w : W} {ls : List Addr} {σ : L2.St} {H : Hp} {ss : List S} {vs : List V} {Q : VK} {Ex : XK} {Qx : Exn → List M → List M → Prop} (c : Ctx K w ls σ H Δ G L) (r : Paired (RS K H (Rg w ls) w.gs ls) ss vs) (hn : noL ss = true) (h : F ss G (asV Qd L) fun x G' => Qx x G' L) (q : Ret K w ls σ Δ H Qd Q)
    (qx : ∀ cls d x H' G', Ctx K w ls σ H' Δ G' L → Ext w ls H H' → ExnAt K H' (Rg w ls) cls d x → Qx x G' L → Ex cls d H') : spDX K F vs H Q Ex := by
  have g : Grow H H (Rg w ls) (Rg (DL.callee w ls H) []) := grow_iff fun a r => r.elim id (fun z => by cases z)
  have g' : ∀ H', Grow H' H' (Rg (DL.callee w ls H) []) (Rg w ls) := fun H' => grow_iff fun a r => .inl r
  refine ⟨DL.callee w ls H, ss, G, asV Qd L, fun x G' => Qx x G' L, rfl, c.callee, paired_map (noL_rs hn r) fun a b _ z => z.grow g (Pre.refl _) (Pre.refl _), h, fun v s H' G' c' rs k => ?_, fun ps j p ms H' G' c' hp k => ?_, fun cls d x H' G' c' xn k => ?_⟩
  · obtain ⟨cb, eb⟩ := c.back c'
    exact q v s H' G' L cb eb (RS.grow (g' H') (Pre.refl _) (Pre.nil _) rs) k
  · obtain ⟨m, x, hm, hx, k⟩ := k
    obtain ⟨cb, eb⟩ := c.back c'
    exact q _ (.d x) H' G' L cb eb (dat_rep c c' hp hm hx) k
  · obtain ⟨cb, eb⟩ := c.back c'
    exact qx cls d x H' G' cb eb (xn.grow (g' H')) k
def EvX (K : PySem.W.Frag) (te : TE) (Wi : WX) (Δ : Sl) (G L : List M) (Qx : Exn → List M → List M → Prop) : Prop := ∀ w ls σ H, Ctx K w ls σ H Δ G L →
  (∀ cls d x H' G' L', Ctx K w ls σ H' Δ G' L' → Ext w ls H H' → ExnAt K H' (Rg w ls) cls d x → Qx x G' L' → Wi cls d σ H') → ∀ Q, te σ H Q
variable {Qx : Exn → List M → List M → Prop}
theorem stx_asg (h : EvX K te Wi Δ G L Qx) (hw : ∀ w ls H, E.wd w ls H → WishAt K w ls H Wi fun x Δ' G' L' => Δ' = Δ ∧ Qx x G' L') : StC K (tAsg te g) Δ G L E := fun w ls σ H c D s =>
  h w ls σ H c (fun cls d x H' G' L' c' e' xn q => hw w ls H' (s.wd ls H' (e'.grow c.reg)) σ Δ G' L' cls d x c' xn ⟨rfl, q⟩) _
theorem stx_drop (h : EvX K te Wi Δ G L Qx) (hw : ∀ w ls H, E.wd w ls H → WishAt K w ls H Wi fun x Δ' G' L' => Δ' = Δ ∧ Qx x G' L') : StC K (tDrop te) Δ G L E := fun w ls σ H c D s =>
  h w ls σ H c (fun cls d x H' G' L' c' e' xn q => hw w ls H' (s.wd ls H' (e'.grow c.reg)) σ Δ G' L' cls d x c' xn ⟨rfl, q⟩) _
theorem wish_out {Ee : XK} {Qd : Res → List M → Prop} {Qe : Exn → List M → Prop} (h : ∀ x G' L', Qx x G' L' → Qe x G') : ∀ w ls H, (endsX K Ee Qd Qe).wd w ls H → WishAt K w ls H (fun cls d _ H => Ee cls d H) fun x Δ' G' L' => Δ' = Δ ∧ Qx x G' L' :=
  fun w ls H k σ Δ' G' L' cls d x c xn ⟨_, q⟩ => k σ Δ' G' L' cls d x c xn (h x G' L' q)
end
end
end DL
namespace DL
open PySem PySem.Spec PyProof.Rows L2
section
variable {K : PySem.W.Frag} {Δ : Sl} {G L : List M}
end
end DL

/-! defs whose last parameters have defaults (None all); calls that lean on them, and calls by keywords -/
namespace DL
open PySem PySem.Spec PyProof.Rows L2
section
variable {P : Program} {w : World} {K : PySem.W.Frag} {mg : Str → Option Value} {base : Heap}
abbrev FunDf (K : PySem.W.Frag) (x qual : Str) (st : Stmt) (dvs : List V) (f : Addr) (fd : FuncData) : Prop := FunD K x qual (defArgs st) (defBody st) (defScope st) dvs [] f fd
theorem okDD {x qual : Str} {st : Stmt} {dvs : List V} {f : Addr} {fd : FuncData} {N ps : List Str} {k : Nat} {sp : DSpec} (F : FunDf K x qual st dvs f fd) (S : FnScope N ps (defScope st)) (len : ∀ ss G Qd, sp ss G Qd → ss.length = ps.length)
    (hbody : ∀ (cdv : Value) (A : Around) (outer : List Env) (s : Shared) (H : Hp) (E : XK) (ss : List DL.S) (G : List M) (Qd : Res → List M → Prop), Room k (A.deeper (envOfC qual (defScope st) s.heap.objs.size f cdv)) → sp ss G Qd →
      ∃ t, PSs (cxOf CX0 P w K mg base N qual (defScope st) f cdv A outer s H E).nox (defBody st) t ∧ StC K t (startD N ss) G [] (endsD Qd)) : FnOk P w K mg base CX0 (k + 1) f fd ps (spD K sp) := by
  refine F.ok S (fun vs H Q E h => ?_) (fun cdv A outer s H vs Q E hr h => ?_)
  · obtain ⟨w, ss, G, Qd, _, _, r, q, _⟩ := h
    rw [← paired_len r]
    exact len ss G Qd q
  · obtain ⟨w, ss, G, Qd, h0, c, r, q, k1, k2⟩ := h
    obtain ⟨t, ht, hs⟩ := hbody cdv A outer s H E ss G Qd hr q
    refine ⟨t, ht.nox, hs w [] (L2.start N vs) H ⟨c.reg, c.rin, c.nd, c.fr, c.h0, slok_start r, c.gl, c.lo, c.ld⟩ _ ⟨?_, ?_, ?_, ?_, fun _ _ _ => trivial⟩⟩
    · intro ls' σ' H' Δ' G' L' c' g' n'
      exact k1 .non (.d .non) H' G' c'.forget rfl n'
    · intro ls' σ' H' Δ' G' L' v z c' rz n'
      cases z with
      | d x => exact k1 v (.d x) H' G' c'.forget (Rep.grow grow_drop rz) n'
      | g j => exact k1 v (.g j) H' G' c'.forget rz n'
      | l j =>
        obtain ⟨a, ha, rfl⟩ := rz
        exact k2 ls' j a L' H' G' c'.forgetS ha n'
    · intro ls' σ' H' Δ' G' L' c' g' n'
      exact n'.elim
    · intro ls' σ' H' Δ' G' L' c' g' n'
      exact n'.elim
theorem kbn_all {x qual : Str} {st : Stmt} {dvs : List V} {f : Addr} {fd : FuncData} {ps : List Str} (F : FunDf K x qual st dvs f fd) (n : Nat) (ks : List Str) (hd : dvs ≠ [])
    (h : ∀ (T : Addr) (kV doc pm : Value) (an : Option Addr) (cdv ct : Value) (us its ws : List Value), us.length = n → its.length = dvs.length → ws.length = ks.length →
      ∃ k, bindArgs (PySem.W.fnOf x qual (defArgs st) (defBody st) (defScope st) (.ref T) kV doc pm an cdv ct) ⟨us, ks.zip ws⟩ = seqItems? (.ref T) >>= k ∧ k (some its.toArray) = pure (ps.zip (us ++ ws))) :
    KBn K fd ps n ks (fun us ws => us ++ ws) (fun vs zs => vs ++ zs) := by
  obtain ⟨oc, od, dV, kV, doc, pm, an, cdv, ct, osl, rfl, lk, hcd, hD, hK⟩ := F.ex
  rcases hD with ⟨e, _⟩ | ⟨_, T, o, its, m, rfl, lT, oT, rT⟩
  · exact absurd e hd
  · refine ⟨fun s us ws X l1 l2 => ?_, fun r1 r2 => r1.append r2⟩
    obtain ⟨k, e1, e2⟩ := h T kV doc pm an cdv ct us its ws l1 rT.length.symm l2
    refine BindsTo.of_looks fun M => ?_
    rw [e1]
    exact looks_items X lT oT (.of_pure e2)
end
section
variable {K : PySem.W.Frag} {Δ : Sl} {G L : List M} {Qd : Po} {ta tk : TA} {sp : DSpec} {E0' : XK}
theorem evc_callN1 (h : EvA K ta Δ G L fun ss G1 L1 => noL (ss ++ [S.d D.non]) = true ∧ sp (ss ++ [S.d D.non]) G1 (asV Qd L1)) : EvC K (tCall (spD K sp) [V.non] E0' ta) Δ G L Qd := fun w ls σ H c Q r => h w ls σ H c _ fun vs ss H2 G2 L2 c2 e2 r2 ⟨hn, k⟩ =>
  sp_call c2 (paired_app r2 (.cons (show RS K H2 (Rg w ls) w.gs ls (S.d D.non) V.non from (rfl : V.non = V.non)) .nil)) hn k (r.ext e2)
theorem evc_callN {n m : Nat} (h : EvA K ta Δ G L fun ss G1 L1 => EvA K tk Δ G1 L1 fun zs G2 L2 => ss.length = n ∧ zs.length = m ∧ noL (ss ++ zs) = true ∧ sp (ss ++ zs) G2 (asV Qd L2)) : EvC K (tCallN n m (spD K sp) (fun vs zs => vs ++ zs) E0' ta tk) Δ G L Qd :=
  fun w ls σ H c Q r => h w ls σ H c _ fun vs ss H2 G2 L2 c2 e2 r2 h2 => h2 w ls σ H2 c2 _ fun us zs H3 G3 L3 c3 e3 r3 ⟨l1, l2, hn, k⟩ =>
    ⟨(paired_len r2).symm.trans l1, (paired_len r3).symm.trans l2, sp_call c3 (paired_app (paired_map r2 fun _ _ _ z => z.on c2 e3) r3) hn k (r.ext (e2.trans e3))⟩
end
end DL

/-! an own dict, its keys texts: {}, d[z], d[z] = x, d.get(z, x), sorted(d) -/
namespace DL
open PySem PySem.Spec PyProof.Rows L2
section
variable {K : PySem.W.Frag} {Δ : Sl} {G L : List M} {Qd : Po} {Qn : PoN} {te td ty tx : TE}
end
end DL

/-! sets of texts compared -/
namespace DSe
open PySem PySem.Spec PyProof.Rows L2 DSt
section
variable {P : Program} {w : World} {A : Around} {E : Value → Shared → Prop} {s : Shared} {a b : Addr} {S T : Str → Bool} {n m : Nat}
end
end DSe
namespace DL
open PySem PySem.Spec PyProof.Rows L2 DSo DSt DSe
section
variable {K : PySem.W.Frag} {Δ : Sl} {G L : List M} {Qd : Po} {t1 t2 : TE} {P : Program} {w0 : World}
end
end DL

/-! own dicts with text keys and any data as values: dict(list of pairs), z in d, z not in d, d.get(z, x) -/
namespace DL
open PySem PySem.Spec PyProof.Rows L2
section
variable {X : Cx}
end
section
variable {K : PySem.W.Frag} {Δ : Sl} {G L : List M} {Qd : Po} {Qn : PoN} {te td ty tx : TE}
/-! dict(list of pairs) -/
end
end DL

/-! set of a tuple of texts -/
namespace DSt
open PySem PySem.Spec PyProof.Rows L2
section
variable {P : Program} {w : World} {A : Around} {E : Value → Shared → Prop} {s : Shared}
end
end DSt
namespace DL
open PySem PySem.Spec PyProof.Rows L2 DSo DSt DSe
section
variable {K : PySem.W.Frag} {Δ : Sl} {G L : List M} {Qd : Po} {t1 t2 : TE} {P : Program} {w0 : World}
theorem u_ne_same {x y : S} {a : D} (hx : valG G L x = some a) (hy : valG G L y = some a) (h : ∃ k, k ≤ 63 ∧ Eqb1 k a) (k : Qd (.d (.bl false)) G L) : OpC K (uNe K) x y Δ G L Qd := by
  obtain ⟨n, hn, p, hp, hc, hd⟩ := h
  have sh : SeqAt.shaped p = true := by
    unfold SeqAt.shaped
    rw [hc, decide_eq_true (by omega)]
    rfl
  refine u_ne_d hx hy hp hp sh sh ?_
  rw [SeqAt.eqv_refl p hc]
  exact k
end
end DL

namespace DL
open PySem PySem.Spec PyProof.Rows L2
section
variable {K : PySem.W.Frag} {Δ : Sl} {G L : List M} {Qn : PoN} {wi : TI} {g : TG} {tt : TT} {te : TE} {vs : List Nat}
end
end DL

/-! zip(a, b, strict=True) of a list and a tuple of one length -/
namespace DZq
open PySem PySem.Spec PyProof.Rows L2
open PySem.Sem (wp)
open DZl (IsZipS stop_iter letGo_zipS pyIter_zipS cw_type_kw)
section
variable {prog : Program} {w : World} {A : Around} {E : Value → Shared → Prop} {s : Shared}
end
section
variable {prog : Program} {w : World} {A : Around} {E : Value → Shared → Prop} {s : Shared}
end
end DZq
namespace DL
open PySem PySem.Spec PyProof.Rows L2
end DL

namespace DL
open PySem PySem.Spec PyProof.Rows L2
end DL

/-! zip(a list, a tuple), over the library's GoesN.zip2 -/
namespace DZn
open PySem PySem.Spec PyProof.Rows L2
end DZn
namespace DL
open PySem PySem.Spec PyProof.Rows L2
end DL

/-! own classes: instances made, fields read and stored, methods called -/
namespace DL
open PySem PySem.Spec PyProof.Rows L2
def putFD (f : Str) (x : D) : List (Str × D) → List (Str × D)
  | [] => [(f, x)]
  | (g, y) :: r => if g = f then (g, x) :: r else (g, y) :: putFD f x r
section
variable {K : PySem.W.Frag}
section
variable {H : Hp} {R : Addr → Prop} {f : Str} {x : D} {v : V}
theorem RepF.putF (h : Rep K H R x v) : ∀ {ds : List (Str × D)} {vs : List (Str × V)}, RepF K H R ds vs → RepF K H R (putFD f x ds) (L2.putF f v vs)
  | [], _, e => by
    cases e
    exact ⟨v, [], rfl, h, rfl⟩
  | (g, y) :: ds, _, ⟨u, us, e, q, r⟩ => by
    subst e
    show RepF K H R (if g = f then (g, x) :: ds else (g, y) :: putFD f x ds) (if g = f then (g, v) :: us else (g, u) :: L2.putF f v us)
    by_cases e : g = f
    · rw [if_pos e, if_pos e]
      exact ⟨v, us, rfl, h, r⟩
    · rw [if_neg e, if_neg e]
      exact ⟨u, _, rfl, q, RepF.putF h r⟩
theorem RepF.look : ∀ {ds : List (Str × D)} {vs : List (Str × V)}, RepF K H R ds vs → ds.lookup f = some x → ∃ v, vs.lookup f = some v ∧ Rep K H R x v
  | [], _, _, l => by cases l
  | (g, y) :: ds, _, ⟨u, us, e, q, r⟩, l => by
    subst e
    rw [List.lookup_cons] at l ⊢
    cases e : f == g with
    | true =>
      rw [e] at l
      cases l
      exact ⟨u, rfl, q⟩
    | false =>
      rw [e] at l
      exact RepF.look r l
theorem RepF.lookN {m : Str} : ∀ {ds : List (Str × D)} {vs : List (Str × V)}, RepF K H R ds vs → ds.lookup m = none → vs.lookup m = none
  | [], _, e, _ => by
    cases e
    rfl
  | (g, y) :: ds, _, ⟨u, us, e, q, r⟩, l => by
    subst e
    rw [List.lookup_cons] at l ⊢
    cases e : m == g with
    | true =>
      rw [e] at l
      cases l
    | false =>
      rw [e] at l
      exact RepF.lookN r l
theorem RepF.len : ∀ {ds : List (Str × D)} {vs : List (Str × V)}, RepF K H R ds vs → vs.length = ds.length
  | [], _, e => by
    cases e
    rfl
  | _ :: _, _, ⟨u, us, e, _, r⟩ => by
    subst e
    exact congrArg (· + 1) (RepF.len r)
end
def obG (G L : List M) : S → Option (Addr × List (Str × D))
  | .d (.ins C fs) => some (C, fs)
  | .l k => match L[k]? with
    | some (.ob C fs) => some (C, fs)
    | _ => none
  | .g k => match G[k]? with
    | some (.ob C fs) => some (C, fs)
    | _ => none
  | _ => none
section
variable {Δ : Sl} {G L : List M} {Qd : Po} {Qn : PoN} {ta tv : TE} {t : TA} {sp : DSpec} {E0' : XK} {C : Addr} {f m : Str} {E : EndsD}
theorem obG_get {w : W} {ls : List Addr} {σ : L2.St} {H : Hp} {v : V} {s : S} {fs : List (Str × D)} (c : Ctx K w ls σ H Δ G L) (r : RS K H (Rg w ls) w.gs ls s v) (h : obG G L s = some (C, fs)) : ∃ a dx ws, v = .ref a ∧ H a = some (.ins C dx ws) ∧ RepF K H (Rg w ls) fs ws := by
  unfold obG at h
  split at h
  · cases h
    obtain ⟨a, dx, ws, rfl, ⟨h1, _⟩, q⟩ := r
    exact ⟨a, dx, ws, rfl, h1, q⟩
  · rename_i k
    split at h
    · rename_i C' fs' hk
      cases h
      obtain ⟨a, ha, rfl⟩ := r
      obtain ⟨b, hb, dx, vs, h1, q⟩ := paired_get c.lo hk
      rw [ha] at hb
      cases hb
      exact ⟨a, dx, vs, rfl, h1, q⟩
    · cases h
  · rename_i k
    split at h
    · rename_i C' fs' hk
      cases h
      obtain ⟨a, ha, rfl⟩ := r
      obtain ⟨b, hb, dx, vs, h1, q⟩ := paired_get c.gl hk
      rw [ha] at hb
      cases hb
      exact ⟨a, dx, vs, rfl, h1, q⟩
    · cases h
  · cases h
theorem evc_fld (h : EvC K ta Δ G L fun s G1 L1 => ∃ C fs x, obG G1 L1 s = some (C, fs) ∧ (Cls K C ∧ NoAttr K C f) ∧ fs.lookup f = some x ∧ Qd (.d x) G1 L1) : EvC K (tFld K ta f) Δ G L Qd := fun w ls σ H c Q r => h w ls σ H c _ fun v s H1 G1 L1 c1 e1 r1 ⟨C, fs, x, ho, hc, hl, k⟩ => by
  obtain ⟨a, dx, ws, rfl, h1, rf⟩ := obG_get c1 r1 ho
  obtain ⟨y, hy, ry⟩ := rf.look hl
  exact ⟨a, C, dx, ws, y, rfl, h1, hc.1, hc.2, hy, r.go c1 e1 (s := .d x) ry k⟩
theorem st_fldG (h : EvC K tv Δ G L fun y G1 L1 => ∃ x, y = .d x ∧ EvC K ta Δ G1 L1 fun s G2 L2 => ∃ k C fs, s = .g k ∧ G2[k]? = some (.ob C fs) ∧ (Cls K C ∧ NoAttr K C f) ∧ fs.length < 1000 ∧ E.nx Δ (G2.set k (.ob C (putFD f x fs))) L2) : StC K (sFld K ta tv f) Δ G L E := fun w ls σ H c D s =>
  h w ls σ H c _ fun v y H2 G2 L2 c2 e2 r2 ⟨x, ex, h2⟩ => h2 w ls σ H2 c2 _ fun u z H3 G3 L3 c3 e3 r3 ⟨k, C, fs, ez, hk, hc, hl, q⟩ => by
    subst ex
    subst ez
    obtain ⟨a, ha, rfl⟩ := r3
    obtain ⟨b, hb, dx, ws, h1, rf⟩ := paired_get c3.gl hk
    rw [ha] at hb
    cases hb
    have rx : Rep K H3 (Rg w ls) x v := RS.on (s := .d x) c2 e3 r2
    have hm : a ∈ w.gs := List.mem_of_getElem? ha
    refine ⟨a, C, dx, ws, rfl, h1, hc.1, hc.2, by rw [rf.len]; exact hl, ?_⟩
    have hM : MOk K (upd H3 a (.ins C dx (putF f v ws))) (Rg w ls) w.gs [] a (.ob C (putFD f x fs)) := ⟨dx, _, upd_same, (RepF.putF rx rf).grow (grow_upd (.inl (c3.reg a hm)))⟩
    exact s.nx ls σ _ Δ _ L3 (c3.setG ha hM) (((e2.trans e3).trans (Ext.setG hm)).grow c.reg) q
theorem evc_meth (h : EvC K ta Δ G L fun s G1 L1 => ∃ fs, obG G1 L1 s = some (C, fs) ∧ fs.lookup m = none ∧ EvA K t Δ G1 L1 fun ss G2 L2 => noL (s :: ss) = true ∧ sp (s :: ss) G2 (asV Qd L2)) : EvC K (tMeth C m (spD K sp) [] E0' ta t) Δ G L Qd := fun w ls σ H c Q r => h w ls σ H c _ fun v s H1 G1 L1 c1 e1 r1 ⟨fs, ho, hm, k⟩ => by
  obtain ⟨a, dx, ws, rfl, h1, rf⟩ := obG_get c1 r1 ho
  refine ⟨a, dx, ws, rfl, h1, rf.lookN hm, k w ls σ H1 c1 _ fun vs ss H2 G2 L2 c2 e2 r2 ⟨hn, k2⟩ => ?_⟩
  rw [List.append_nil]
  exact sp_call c2 (.cons (RS.on c1 e2 r1) r2) hn k2 (r.ext (e1.trans e2))
theorem Ctx.more {w : W} {ls : List Addr} {σ : L2.St} {H H' : Hp} (c : Ctx K w ls σ H Δ G L) (k : ∀ a o, H a = some o → H' a = some o) : Ctx K w ls σ H' Δ G L := by
  have g : Grow H H' (Rg w ls) (Rg w ls) := ⟨fun a o h _ => k a o h, fun _ _ _ h => h⟩
  exact ⟨c.reg, fun a r => let ⟨u, e, n⟩ := c.rin a r; ⟨u, k a u e, n⟩, c.nd, c.fr, fun a u e n => k a u (c.h0 a u e n), c.sl.grow g (Pre.refl _) (Pre.refl _),
    paired_map c.gl fun a m _ q => q.grow g (Pre.refl _) (Pre.refl _) (k a), paired_map c.lo fun a m _ q => q.grow g (Pre.refl _) (Pre.refl _) (k a), c.ld⟩
theorem evn_make (h : EvA K t Δ G L fun ss G1 L1 => ∃ ds, dats ss = some ds ∧ sp (.g 0 :: ds.map S.d) [.ob C []] fun r G' => r = .v (.d .non) ∧ ∃ fs, G' = [.ob C fs] ∧ Qn (.ob C fs) G1 L1) : EvN K (tMake C (spD K sp) [] E0' t) Δ G L Qn := fun w ls σ H c Q r => h w ls σ H c _ fun vs ss H2 G2 L2 c2 e2 r2 ⟨ds, hd, k⟩ => by
  intro x dx hx hdx hne
  rw [List.append_nil]
  have hxH : H x = none := none_back c2 e2 hx
  have q2 := dats_rep hd r2
  have kk : ∀ a o, H2 a = some o → upd (upd H2 dx (.own x)) x (.ins C dx []) a = some o := fun a o h => by
    rw [upd_ne (ne_of_none h hx), upd_ne (ne_of_none h hdx)]
    exact h
  have nx := c2.free hx
  have gW : Grow H2 (upd (upd H2 dx (.own x)) x (.ins C dx [])) (Rg w ls) (Rg ⟨fun a => Rg w ls a ∨ a = x, [x], upd (upd H2 dx (.own x)) x (.ins C dx [])⟩ []) :=
    ⟨fun a o h _ => kk a o h, fun a o h rr => by
      rcases rr with (rr | rr) | rr
      · exact rr
      · rw [rr, hx] at h
        cases h
      · cases rr⟩
  have cW : Ctx K ⟨fun a => Rg w ls a ∨ a = x, [x], upd (upd H2 dx (.own x)) x (.ins C dx [])⟩ [] [] (upd (upd H2 dx (.own x)) x (.ins C dx [])) [] [.ob C []] [] := by
    refine ⟨fun a ha => .inr (List.mem_singleton.mp ha), fun a rr => ?_, by simp, (fun a ha => by cases ha), fun a o h _ => h, ⟨rfl, fun i s e => by simp at e⟩, .cons ⟨dx, [], upd_same, rfl⟩ .nil, .nil, fun a ha => by cases ha⟩
    rcases rr with rr | rr
    · rcases rr with rr | rr
      · obtain ⟨o, ho, hn⟩ := c2.rin a rr
        exact ⟨o, kk a o ho, hn⟩
      · obtain ⟨o, ho, hn⟩ := c2.lin rr
        exact ⟨o, kk a o ho, hn⟩
    · subst rr
      exact ⟨_, upd_same, fun _ z => nomatch z⟩
  refine ⟨_, .g 0 :: ds.map S.d, [.ob C []], _, rfl, cW, .cons ⟨x, rfl, rfl⟩ (repL_rs (q2.grow gW)), k, fun v s H' G' c' rs hk => ?_, fun ps j p ms H' G' c' hp hk => (by cases hk.1)⟩
  obtain ⟨e1, fs, e3, hq⟩ := hk
  cases e1
  subst e3
  have hv : v = .non := rs
  refine ⟨hv, ?_⟩
  have keep : ∀ a o, H2 a = some o → H' a = some o := fun a o h => c'.h0 a o (kk a o h) (fun z => by
    rw [List.mem_singleton] at z
    rw [z, hx] at h
    cases h)
  obtain ⟨dx', ws, h1, rf⟩ : MOk K H' (Rg ⟨fun a => Rg w ls a ∨ a = x, [x], upd (upd H2 dx (.own x)) x (.ins C dx [])⟩ []) [x] [] x (.ob C fs) := by
    cases c'.gl with
    | cons q _ => exact q
  have cb := c2.more keep
  have eb : Ext w ls H2 H' := fun a o h _ _ => keep a o h
  have gx : Grow H2 H' (Rg w ls) (Rg w (ls ++ [x])) := ⟨fun a o h _ => keep a o h, fun a o h rr => by
    rcases rr with rr | rr
    · exact .inl rr
    · rcases List.mem_append.mp rr with rr | rr
      · exact .inr rr
      · rw [List.mem_singleton.mp rr, hx] at h
        cases h⟩
  have g1 : Grow H' H' (Rg ⟨fun a => Rg w ls a ∨ a = x, [x], upd (upd H2 dx (.own x)) x (.ins C dx [])⟩ []) (Rg w (ls ++ [x])) := grow_iff fun a rr => by
    rcases rr with rr | rr
    · exact .inl (.inl (.inl rr))
    · rcases List.mem_append.mp rr with rr | rr
      · exact .inl (.inl (.inr rr))
      · exact .inl (.inr (List.mem_singleton.mp rr))
  have g2 : Grow H' H' (Rg ⟨fun a => Rg w ls a ∨ a = x, [x], upd (upd H2 dx (.own x)) x (.ins C dx [])⟩ []) (Rg w ls) := grow_iff fun a rr => .inl (.inl rr)
  refine r x (.ob C fs) H' G2 L2 hxH ⟨⟨c2.reg, fun a rr => cb.rin a rr, ?_, ?_, fun a o h n => cb.h0 a o h n, c2.sl.grow gx (Pre.refl _) (Pre.app _ _), paired_map c2.gl fun a m _ q => q.grow gx (Pre.refl _) (Pre.nil _) (keep a),
    paired_app (paired_map c2.lo fun a m _ q => q.grow gx (Pre.refl _) (Pre.app _ _) (keep a)) (.cons ⟨dx', ws, h1, rf.grow g1⟩ .nil), fun a ha rr => ?_⟩, cb, fun y hy => ?_⟩ (e2.trans eb) hq
  · rw [← List.append_assoc]
    refine List.nodup_append.mpr ⟨c2.nd, by simp, fun a ha b hb => ?_⟩
    rw [List.mem_singleton] at hb
    subst hb
    rintro rfl
    rcases List.mem_append.mp ha with z | z
    · exact nx (.inl (c2.reg _ z))
    · exact nx (.inr z)
  · intro a ha
    rcases List.mem_append.mp ha with z | z
    · exact c2.fr a z
    · rw [List.mem_singleton.mp z]
      exact c2.free0 hx
  · rcases List.mem_append.mp ha with z | z
    · exact c2.ld a z rr
    · rw [List.mem_singleton.mp z] at rr
      exact nx (.inl rr)
  · cases hy
    exact ⟨x, dx', ws, rfl, ⟨h1, nx⟩, rf.grow g2⟩
end
end
end DL

/-! a or b, of tuples -/
namespace DOr
open PySem PySem.Spec PyProof.Rows L2 DL
section
variable {K : PySem.W.Frag} {Δ : Sl} {G L : List M} {Qd : Po} {ta tb : TE}
end
end DOr

/-! sorted(a tuple of ints) -/
namespace DSq
open PySem PySem.Spec PyProof.Rows L2
section
variable {prog : Program} {w : World} {A : Around} {s : Shared} {E : Value → Shared → Prop}
end
section
open DL
variable {K : PySem.W.Frag} {Δ : Sl} {G L : List M} {Qn : PoN}
end
end DSq

/-! sorted(a list of pairs of ints) -/
namespace DSP
open PySem PySem.Spec PyProof.Rows L2 DL
section
variable {K : PySem.W.Frag} {Δ : Sl} {G L : List M} {Qn : PoN}
end
end DSP

/-! a, b, c = x, y, z -/
namespace DPr
open PySem PySem.Spec PyProof.Rows L2 DL
section
variable {K : PySem.W.Frag} {Δ : Sl} {G L : List M} {E : EndsD} {ta : TA}
end
end DPr

/-! d.get(x, y) of a dict of the top; a tuple of the top taken apart; a call of one of some defs that a name holds -/
namespace DFi
open PySem PySem.Spec PyProof.Rows L2 DL
section
variable {X : Cx} {o e f : Expr} {apos cpos : Pos} {td ty tx : TE}
end
section
variable {K : PySem.W.Frag} {Δ : Sl} {G L : List M} {Qd : Po} {td ty tx : TE}
end
end DFi

/-! a text times a whole number, to the letter -/
namespace DTx
open PySem PySem.Spec PyProof.Rows L2 DL
section
variable {K : PySem.W.Frag} {Δ : Sl} {G L : List M} {Qd : Po}
end
end DTx

/-! zip of three tuples, over the library's GoesN.zip3 -/
namespace DZ3
open PySem PySem.Spec PyProof.Rows L2
end DZ3
namespace DL
open PySem PySem.Spec PyProof.Rows L2
end DL

/-! min(a tuple of whole numbers, default=d) -/
namespace DL
open PySem PySem.Spec PyProof.Rows L2
section
variable {K : PySem.W.Frag} {Δ : Sl} {G L : List M} {Qd : Po}
end
end DL

/-! sorted(a list of rows of whole numbers, the first of them empty) -/
namespace DRw
open PySem PySem.Spec PySem.W PySem.SeqAt PySem.Calls PyProof.Rows
section
variable {prog : Program} {w : World} {A : Around} {E : Value → Shared → Prop} {s : Shared}
end
section
variable {prog : Program} {w : World} {A : Around} {E : Value → Shared → Prop} {s : Shared}
end
end DRw
namespace DRw
open PySem PySem.Spec PySem.W PyProof.Rows L2 DL
section
variable {K : PySem.W.Frag} {Δ : Sl} {G L : List M} {Qn : PoN}
end
/-! the order of rows: there is one sorted list -/
end DRw

namespace DL
open PySem PySem.Spec PyProof.Rows L2 DRw
/-! ### recursion of defs that show (with guards) -/
/-! ### rows of whole numbers compared -/
section
variable {K : PySem.W.Frag} {Δ : Sl} {G L : List M} {Qd : Po}
/-! ### bits -/
end
end DL

/-! what repr shows of a row of whole numbers is shown of no other thing -/
namespace DRi
open PySem PyProof.Rows TL L2 DL DRw
theorem all_map : ∀ ps : List PyData, PyData.shownAll ps = ps.map PyData.shown
  | [] => by rw [PyData.shownAll]; rfl
  | p :: ps => by rw [PyData.shownAll, all_map ps]; rfl
end DRi

/-! instances whose fields hold handles -/
namespace DL
open PySem PySem.Spec PyProof.Rows L2 DRw
section
variable {K : PySem.W.Frag}
section
variable {H : Hp} {R : Addr → Prop} {gs ls : List Addr} {f : Str}
end
section
variable {Δ : Sl} {G L : List M} {Qd : Po} {Qn : PoN} {ta tv : TE} {t : TA} {sp : DSpec} {E0' : XK} {C : Addr} {f m : Str} {E : EndsD}
/-! ### dicts with rows as keys -/
section
variable {H : Hp} {R : Addr → Prop} {gs ls : List Addr} {k : List Key}
end
end
end
end DL

/-! a class whose __init__ keeps its parameter and makes two empty dicts -/
namespace DL
open PySem PySem.Spec PyProof.Rows L2 DRw
section
variable {K : PySem.W.Frag}
section
variable {Δ : Sl} {G L : List M} {t : TA} {E0' : XK} {E : EndsD}
end
end
end DL

/-! max(xs, key=len), xs a list of tuples -/
namespace L2
open PySem PySem.Spec PyProof.Rows
section
variable {X : Cx}
end
end L2
namespace DL
open PySem PySem.Spec PyProof.Rows L2 DRw
section
variable {K : PySem.W.Frag} {Δ : Sl} {G L : List M} {Qd : Po}
end
end DL

/-! xs.insert(i, x), abs(i) -/
namespace DL
open PySem PySem.Spec PyProof.Rows L2 DRw
def rAbs : List V → Hp → VK → Prop := fun xs H Q => ∃ i, xs = [.int i] ∧ Q (.int (if i < 0 then -i else i)) H
theorem call_absN {X : Cx} : CallR X (.builtin "abs") rAbs := call_abs
section
variable {K : PySem.W.Frag} {Δ : Sl} {G L : List M} {Qd : Po}
theorem ap_abs {i : Int} (k : Qd (.d (.int (if i < 0 then -i else i))) G L) : ApC K rAbs [.d (.int i)] Δ G L Qd := fun w ls σ H vs c rs Q q => by
  obtain ⟨v, rfl, r⟩ := pair1 rs
  obtain rfl : v = V.int i := r
  exact ⟨i, rfl, q.go c Ext.refl (s := .d (.int (if i < 0 then -i else i))) rfl k⟩
end
end DL

/-! own dicts whose keys are rows, their values whole numbers: stored, looked at, walked while locked, the least value -/
namespace DKd
open PySem PySem.Spec PyProof.Rows L2 DL DRw
section
variable {X : Cx} {o : Expr} {p pos apos mpos : Pos} {td : TE}
end
section
variable {K : PySem.W.Frag} {Δ : Sl} {G L : List M} {Qd : Po} {Qn : PoN}
end
end DKd

/-! own classes again: makes and methods that lean on defaults or are handed words by name, o.f op= e, len of an instance, len(range(..)) -/
namespace DSn
open PySem PySem.Spec PyProof.Rows L2
section
variable {X : Cx} {CX : CXT} {k n : Nat} {f C : Addr} {fd : FuncData} {ps ks : List Str} {sp : Sp} {E : XK} {m : Str} {apos pos : Pos} {o e : Expr} {es : List Expr} {kws : List Keyword} {ta : TE} {t tk : TA} {g : List Value → List Value → List Value} {gV : List V → List V → List V}
end
end DSn
namespace DL
open PySem PySem.Spec PyProof.Rows L2 DSn
def tApp (t : TA) (dvs : List V) : TA := fun σ H Q => t σ H fun vs H1 => Q (vs ++ dvs) H1
def tAppK (n q : Nat) (t tk : TA) : TA := fun σ H Q => t σ H fun vs H1 => tk σ H1 fun zs H2 => vs.length = n ∧ zs.length = q ∧ Q (vs ++ zs) H2
section
variable {K : PySem.W.Frag} {Δ : Sl} {G L : List M} {Qd : Po} {Qn : PoN} {Qa : PoA} {ta tv : TE} {t tk : TA} {sp : DSpec} {E0' : XK} {C : Addr} {f m : Str} {E : EndsD} {n q : Nat}
theorem ints_rs {H : Hp} {R : Addr → Prop} {gs ls : List Addr} : ∀ is : List Int, Paired (RS K H R gs ls) (is.map fun i => S.d (.int i)) (is.map V.int)
  | [] => .nil
  | i :: is => .cons (show RS K H R gs ls (S.d (.int i)) (V.int i) from (rfl : V.int i = V.int i)) (ints_rs is)
theorem eva_appI {is : List Int} (h : EvA K t Δ G L fun ss G1 L1 => Qa (ss ++ is.map fun i => S.d (.int i)) G1 L1) : EvA K (tApp t (is.map V.int)) Δ G L Qa := fun w ls σ H c Q r => h w ls σ H c _ fun vs ss H2 G2 L2 c2 e2 r2 k =>
  r (vs ++ is.map V.int) (ss ++ is.map fun i => S.d (.int i)) H2 G2 L2 c2 e2 (paired_app r2 (ints_rs is)) k
theorem eva_appK (h : EvA K t Δ G L fun ss G1 L1 => EvA K tk Δ G1 L1 fun zs G2 L2 => ss.length = n ∧ zs.length = q ∧ Qa (ss ++ zs) G2 L2) : EvA K (tAppK n q t tk) Δ G L Qa := fun w ls σ H c Q r => h w ls σ H c _ fun vs ss H2 G2 L2 c2 e2 r2 h2 => h2 w ls σ H2 c2 _ fun us zs H3 G3 L3 c3 e3 r3 ⟨l1, l2, k⟩ =>
  ⟨(paired_len r2).symm.trans l1, (paired_len r3).symm.trans l2, r (vs ++ us) (ss ++ zs) H3 G3 L3 c3 (e2.trans e3) (paired_app (paired_map r2 fun _ _ _ z => z.on c2 e3) r3) k⟩
end
end DL

/-! texts: int of a text of figures, split, index -/
namespace DTi
open PySem PySem.Spec PyProof.Rows L2
def rIntT : List V → Hp → VK → Prop := fun xs H Q => ∃ (x : Str) (n : Int), xs = [.str x] ∧ PySem.intText? x = some n ∧ x.length ≤ 640 ∧ Q (.int n) H
def rIntU : List V → Hp → VK → Prop := fun xs H Q => DL.rInt1 xs H Q ∨ rIntT xs H Q
end DTi
namespace DL
open PySem PySem.Spec PyProof.Rows L2
section
variable {K : PySem.W.Frag} {Δ : Sl} {G L : List M} {Qd : Po} {Qn : PoN} {to te : TE}
theorem ap_intUi {i : Int} (k : Qd (.d (.int i)) G L) : ApC K DTi.rIntU [.d (.int i)] Δ G L Qd := fun w ls σ H vs c rs Q q => .inl (ap_int k w ls σ H vs c rs Q q)
theorem ap_intUb {b : Bool} (k : Qd (.d (.int (if b then 1 else 0))) G L) : ApC K DTi.rIntU [.d (.bl b)] Δ G L Qd := fun w ls σ H vs c rs Q q => .inl (ap_intB k w ls σ H vs c rs Q q)
theorem sto_gp {k : Nat} {xs : List D} {i : Int} {j : Nat} {x : D} {Qt : List M → List M → Prop} (hx : G[k]? = some (.pl xs)) (hj : ixN xs.length i = some j) (q : Qt (G.set k (.pl (xs.set j x))) L) : StoC K rSetL (.g k) (.d (.int i)) (.d x) Δ G L Qt := fun w ls σ H vo vi vv c ro ri rv Q ret => by
  obtain ⟨a, ha, rfl⟩ := ro
  obtain ⟨b, hb, vs, h1, r⟩ := paired_get c.gl hx
  rw [ha] at hb
  cases hb
  cases ri
  have g : Grow H (upd H a (.lst (vs.set j vv))) (Rg w ls) (Rg w ls) := grow_upd (.inl (c.reg a (List.mem_of_getElem? ha)))
  exact ⟨a, vs, i, j, rfl, rfl, h1, by rw [r.length]; exact hj, ret _ _ _ (c.setG (m := .pl _) ha ⟨_, upd_same, (repL_set r rv).grow g⟩) (Ext.setG (List.mem_of_getElem? ha)) q⟩
end
end DL

/-! isinstance of an own class, min of three, int of several kinds -/
namespace DTj
open PySem PySem.Spec PyProof.Rows L2 DL
structure JI (K : PySem.W.Frag) (C : Addr) : Prop where
  ha : PySem.W.findIn K (.ref C) "__class__" = some (some (.builtin "object.__class__"))
  hn : PySem.W.specialIn K (.builtin "object.__class__") "__get__" = some (some (.builtin "getset_descriptor.__get__"))
  ht : PySem.W.takesIn K (.builtin "object.__class__") = some true
  hm : PySem.W.mroIn K C (.type "object") = some true
theorem kit_tyb {K : PySem.W.Frag} {C : Addr} {T : String} {b : Bool} (hm : PySem.W.kitMeta T = true) (h : PySem.W.subIn K (.ref C) (.type T) = some b) : PySem.W.kitOne K (.ref C) (.type T) = some b := by
  unfold PySem.W.kitOne
  rw [if_neg (by intro z; cases beq_iff_eq.mp z)]
  show (if PySem.W.kitMeta T = true then PySem.W.subIn K (.ref C) (.type T) else none) = _
  rw [if_pos hm]
  exact h
def rMin3 : List V → Hp → VK → Prop := fun xs H Q => ∃ i j k : Int, xs = [.int i, .int j, .int k] ∧ Q (.int (min (min i j) k)) H
end DTj
namespace DL
open PySem PySem.Spec PyProof.Rows L2
section
variable {K : PySem.W.Frag} {Δ : Sl} {G L : List M} {Qd : Po} {Qn : PoN} {to te : TE}
theorem ap_min3 {i j k : Int} (q : Qd (.d (.int (min (min i j) k))) G L) : ApC K DTj.rMin3 [.d (.int i), .d (.int j), .d (.int k)] Δ G L Qd := fun w ls σ H vs c rs Q ret => by
  cases rs with
  | cons r1 rs => cases rs with
    | cons r2 rs =>
      obtain ⟨v, rfl, r3⟩ := pair1 rs
      cases r1
      cases r2
      cases r3
      exact ⟨i, j, k, rfl, ret.go c Ext.refl (s := .d (.int _)) rfl q⟩
theorem ap_isiO {C : Addr} {fs : List (Str × D)} (h : Cls K C ∧ DTj.JI K C) (q : Qd (.d (.bl true)) G L) : ApC K (rIsi K) [.d (.ins C fs), .d (.ref C)] Δ G L Qd := fun w ls σ H vs c rs Q ret => by
  obtain ⟨v, u, rfl, ⟨a, dx, ws, rfl, ⟨h1, _⟩, _⟩, r2⟩ := pair2 rs
  have r2 : u = .ref C := r2
  subst r2
  refine ⟨_, _, .ref C, .ref C, true, rfl, .own C, .base (.ins h1 h.1 h.2.ha h.2.hn h.2.ht h.2.hm), ?_, ret.go c Ext.refl (s := .d (.bl true)) rfl q⟩
  unfold PySem.W.kitOne
  rw [if_pos (beq_self_eq_true (Value.ref C))]
end
end DL

/-! own classes: str, repr, ==, != by their own methods; f-strings; divmod -/
namespace DOw
open PySem PySem.Spec PyProof.Rows L2 DL
section
variable {X : Cx} {CX : CXT} {k : Nat} {C f : Addr} {fd : FuncData} {ps : List Str} {sp : Sp} {E : XK}
theorem run_own {A1 : Around} (hA : A1.frames = X.A.frames) (F : FnOk X.prog X.w X.K X.mg X.base CX k f fd ps sp) (hr : Room k A1) (hb : Binds X.K fd ps []) (hx : Passes CX X E)
    {pins : List (Addr × Obj)} {s : Shared} {σ : L2.St} {H : Hp} {vs : List V} {us : List Value} {Qv : VK} {R : Value → Shared → Prop} (I : Inv X pins σ H s) (r2 : Vals vs us) (h : sp vs H Qv E)
    (q : ∀ u v s' H', Inv X pins σ H' s' → RelV v u → Qv v H' → R u s') : wpAny (model X.prog X.w) A1 (call (.ref f) us) R X.xe s := by
  have e0 : Env0 X.prog X.w X.K X.mg X.base A1 X.stack s H := by
    have e := I.env0
    exact ⟨by rw [hA]; exact e.frames, e.mod, e.bs, e.bsz, e.funs, e.frf, e.hok, e.bare⟩
  have hl := F.len _ _ _ _ h
  refine wpAny_call (codeAny_mono (F.run A1 X.stack s H ⟨us, []⟩ us vs _ E hr e0 (by
    have hlu : us.length = ps.length := by rw [← r2.length]; exact hl
    have := hb s us I.kIn (by simpa using hlu)
    simpa using this) r2 h) fun r s' hq => ?_)
  cases r with
  | error e => exact hx pins σ H s e s' I hq
  | ok fl =>
    cases fl with
    | ret w =>
      obtain ⟨z, H', I', rz, qv⟩ := I.after hq
      exact q w z s' H' I' rz qv
    | next => exact False.elim hq
    | brk => exact False.elim hq
    | cont => exact False.elim hq
def rEqO (C : Addr) (sp : Sp) (E : XK) : R2 := fun x y H Q => ∃ (a b dx dy : Addr) (fs gs : List (Str × V)), x = .ref a ∧ y = .ref b ∧ H a = some (.ins C dx fs) ∧ H b = some (.ins C dy gs) ∧ sp [.ref a, .ref b] H (fun v H1 => ∃ z : Bool, v = .bl z ∧ Q (.bl z) H1) E
theorem op_eqO (F : FnOk X.prog X.w X.K X.mg X.base CX k f fd ps sp) (hr : Room k X.A) (hs : PySem.W.findIn X.K (.ref C) "__eq__" = some (some (.ref f))) (hf : PySem.W.isFn X.K (.ref f) = true) (hb : Binds X.K fd ps []) (hx : Passes CX X E) :
    OpR X (compareOp .Eq) (rEqO C sp E) := by
  intro pins s σ H x y v u Q I rx ry hq
  obtain ⟨a, b, dx, dy, fs, gs, rfl, rfl, ea, eb, h⟩ := hq
  obtain rfl : v = Value.ref a := rx
  obtain rfl : u = Value.ref b := ry
  obtain ⟨mA, J, _⟩ := ins_get I.hok ea
  obtain ⟨mB, J', _⟩ := ins_get I.hok eb
  obtain ⟨od, J, _⟩ := J.look
  obtain ⟨od', J', _⟩ := J'.look
  obtain ⟨m, hF⟩ := I.fr
  show wpAny (model X.prog X.w) X.A (richCompare .Eq (.ref a) (.ref b)) (EP X pins σ Q) X.xe s
  refine PySem.W.cmp_K (op := .Eq) (tb := .ref C) hr.units0 hF I.ok.mod.kin J J'.type (by simp [PySem.W.notFirst]) hs hf ?_
  refine run_own (A1 := X.A) (vs := [V.ref a, V.ref b]) (us := [Value.ref a, Value.ref b]) rfl F hr hb hx I (.cons rfl (.cons rfl .nil)) h fun u v s' H' I' rv qv => ?_
  obtain ⟨z, rfl, q⟩ := qv
  obtain rfl : u = Value.bool z := rv
  exact ⟨.bl z, H', I', rfl, q⟩
section
variable {prog : Program} {w : World} {A : Around} {E : Value → Shared → Prop} {s : Shared} {K : PySem.W.Frag} {x C f : Addr} {ox : Obj} {od : Option Obj} {L : Addr} {m : Str → Option Value} {h₀ : Heap}
end
end
end DOw
namespace DL
open PySem PySem.Spec PyProof.Rows L2 DOw
section
variable {K : PySem.W.Frag} {Δ : Sl} {G L : List M} {Qd : Po} {to te : TE} {C : Addr} {fs gs : List (Str × D)} {sp : DSpec} {E0' : XK}
theorem u_eqO (h : sp [.d (.ins C fs), .d (.ins C gs)] G (asV (fun x G1 L1 => ∃ z : Bool, x = .d (.bl z) ∧ Qd (.d (.bl z)) G1 L1) L)) : OpC K (rEqO C (spD K sp) E0') (.d (.ins C fs)) (.d (.ins C gs)) Δ G L Qd := fun w ls σ H vx vy c rx ry Q q => by
  obtain ⟨a, dx, ws, rfl, ⟨h1, _⟩, _⟩ := id rx
  obtain ⟨b, dy, us, rfl, ⟨h2, _⟩, _⟩ := id ry
  refine ⟨a, b, dx, dy, ws, us, rfl, rfl, h1, h2, sp_call (Qd := fun x G1 L1 => ∃ z : Bool, x = .d (.bl z) ∧ Qd (.d (.bl z)) G1 L1) c (.cons rx (.cons ry .nil)) rfl h fun v s2 H2 G2 L2 c2 e2 r2 ⟨z, es, k2⟩ => ?_⟩
  subst es
  obtain rfl : v = V.bl z := r2
  exact ⟨z, rfl, q.go c2 e2 (s := .d (.bl z)) rfl k2⟩
theorem evc_fmtI (h : EvC K te Δ G L fun x G1 L1 => ∃ i : Int, x = .d (.int i) ∧ i.natAbs.log2 < 1920 ∧ Qd (.d (.str (Str.ofString (toString i)))) G1 L1) : EvC K (tFmt te) Δ G L Qd := fun w ls σ H c Q q => h w ls σ H c _ fun v s H2 G2 L2 c2 e2 r2 ⟨i, es, hi, k⟩ => by
  subst es
  obtain rfl : v = V.int i := r2
  exact .inr ⟨i, rfl, hi, q.go c2 e2 (s := .d (.str (Str.ofString (toString i)))) rfl k⟩
def EvJ (K : PySem.W.Frag) : List TE → Str → Sl → List M → List M → Po → Prop
  | [], acc, _, G, L, Qd => Qd (.d (.str acc)) G L
  | t :: ts, acc, Δ, G, L, Qd => EvC K t Δ G L fun x G1 L1 => ∃ y : Str, x = .d (.str y) ∧ (acc ++ y).length ≤ sizeLine ∧ EvJ K ts (acc ++ y) Δ G1 L1 Qd
theorem evj_go : ∀ {ts : List TE} {acc : Str} {G L : List M} {w : W} {ls : List Addr} {σ : L2.St} {H H0 : Hp} {Q : VK}, EvJ K ts acc Δ G L Qd → Ctx K w ls σ H Δ G L → Ext w ls H0 H → Ret K w ls σ Δ H0 Qd Q → tJs ts acc σ H fun out H1 => Q (.str out) H1
  | [], acc, G, L, w, ls, σ, H, H0, Q, h, c, e, q => q.go c e (s := .d (.str acc)) rfl h
  | t :: ts, acc, G, L, w, ls, σ, H, H0, Q, h, c, e, q => by
    refine h w ls σ H c _ fun v s H2 G2 L2 c2 e2 r2 ⟨y, es, hl, k⟩ => ?_
    subst es
    obtain rfl : v = V.str y := r2
    exact ⟨y, rfl, hl, evj_go k c2 (e.trans e2) q⟩
theorem evj_cons {t : TE} {ts : List TE} {acc : Str} (h : EvC K t Δ G L fun x G1 L1 => ∃ y : Str, x = .d (.str y) ∧ (acc ++ y).length ≤ sizeLine ∧ EvJ K ts (acc ++ y) Δ G1 L1 Qd) : EvJ K (t :: ts) acc Δ G L Qd := h
theorem empty_app (x : Str) : Str.empty ++ x = x := by
  refine TL.ext_tl ?_
  rw [TL.tl_append]
  rfl
theorem log_lt {n : Nat} (h : n < 10 ^ 60) : n.log2 < 1920 := by
  by_cases z : n = 0
  · rw [z]
    decide
  · exact (Nat.log2_lt z).mpr (Nat.lt_trans h (by decide +kernel))
theorem int_len {p : Int} (hp : p.natAbs < 10 ^ 60) : (Str.ofString (toString p)).length ≤ 61 := by
  have e := digits_len p
  have e2 := (Nat.length_toDigits_le_iff (b := 10) (n := p.natAbs) (k := 60) (by decide) (by decide)).mpr hp
  rw [ofString_len]
  omega
theorem evc_joined {ts : List TE} (h : EvJ K ts Str.empty Δ G L Qd) : EvC K (fun σ H Q => tJs ts Str.empty σ H fun out H1 => Q (.str out) H1) Δ G L Qd := fun w ls σ H c Q q => evj_go h c Ext.refl q
end
end DL

/-! int(text, 12), int(text, 14); a text cut at its first colon -/
namespace DIb
open PySem PySem.Spec PyProof.Rows PySem.NumText PySem.Calls L2
section
variable {b : Nat} (hb : b = 12 ∨ b = 14)
include hb
end
end DIb

/-! try: .. except C: .. without a name; a text cut at its first sep; int(text, base) -/
namespace DL
open PySem PySem.Spec PyProof.Rows L2
section
variable {K : PySem.W.Frag} {Δ : Sl} {G L : List M} {E : EndsD} {Qd : Po}
end
end DL

/-! == between an instance with its own __eq__ and a thing of any kind -/
namespace DEq
open PySem PySem.Spec PyProof.Rows L2 DL
open PySem.SeqAt
open AutoSeq1 (wpAny_loadPart')
open MeetsSeq MeetsSeq2 MeetsSeq3 SeqRoads2
/-! ### a built-in's own == of an instance: no answer -/
section
variable {prog : Program} {w : World} {A : Around} {E : Value → Shared → Prop} {s : Shared} {R : Result → Shared → Prop}
end
/-! ### the reflected call -/
section
variable {prog : Program} {w : World} {A : Around} {E : Value → Shared → Prop} {s : Shared} {K : PySem.W.Frag} {x C L f : Addr} {h₀ : Heap} {m : Str → Option Value} {ox : Obj} {od : Option Obj}
end
/-! ### a thing that is no instance -/
section
variable {X : Cx} {pins : List (Addr × Obj)} {σ : L2.St} {H : Hp} {s : Shared} {y : V} {u : Value} {C x dx : Addr} {fs : List (Str × V)}
end
/-! ### == below a body -/
def RcR (X : Cx) (n : Nat) (r : R2) : Prop :=
  ∀ (A : Around) (pins : List (Addr × Obj)) (s : Shared) (σ : L2.St) (H : Hp) (x y : V) (u v : Value) (Q : VK), L2.Sub X n A → Inv X pins σ H s → RelV x u → RelV y v → r x y H Q →
    wpAny (model X.prog X.w) A (richCompare .Eq u v) (EP X pins σ Q) X.xe s
section
variable {X : Cx} {CX : CXT} {k n m : Nat} {C f : Addr} {fd : FuncData} {ps : List Str} {sp : Sp} {E : XK} {r r' : R2}
theorem RcR.mono (h : RcR X n r) (hn : n ≤ m) : RcR X m r := fun A pins s σ H x y u v Q sb => h A pins s σ H x y u v Q (sb.mono hn)
theorem RcR.or (h : RcR X n r) (h' : RcR X n r') : RcR X n (fun x y H Q => r x y H Q ∨ r' x y H Q) := fun A pins s σ H x y u v Q sb I rx ry d =>
  d.elim (h A pins s σ H x y u v Q sb I rx ry) (h' A pins s σ H x y u v Q sb I rx ry)
theorem RcR.op (h : RcR X n r) (hr : Room n X.A) : OpR X (compareOp .Eq) r := fun pins s σ H x y v u Q I rx ry hq => h X.A pins s σ H x y v u Q ⟨hr, rfl⟩ I rx ry hq
end
/-! ### membership, item by item -/
section
variable {prog : Program} {w : World} {A : Around} {R : Result → Shared → Prop}
end
def NF : V → Prop
  | .flt _ => False
  | _ => True
def EqB (r : R2) (x y : V) (H : Hp) (Qb : Bool → Hp → Prop) : Prop := r x y H (fun v H' => ∃ z : Bool, v = .bl z ∧ Qb z H') ∧ (x = y → Qb true H) ∧ NF x
section
variable {X : Cx} {n : Nat} {r : R2}
theorem RcR.eb (h : RcR X n r) {A : Around} {pins : List (Addr × Obj)} {s : Shared} {σ : L2.St} {H : Hp} {x y : V} {u v : Value} {Qb : Bool → Hp → Prop} (sb : L2.Sub X n A) (I : Inv X pins σ H s) (rx : RelV x u) (ry : RelV y v) (d : EqB r x y H Qb) :
    wpAny (model X.prog X.w) A (eqBool u v) (fun b s' => ∃ H', Inv X pins σ H' s' ∧ Qb b H') X.xe s := by
  unfold eqBool
  refine wpAny_holding ?_
  refine wpAny_ite_split (fun hab => ?_) (fun _ => ?_)
  · have e := eq_of_beq hab
    subst e
    refine wpAny_bind (wpAny_rule (wpAny_pure ?_))
    exact ⟨H, I, d.2.1 (rx.inj ry)⟩
  · have go : wpAny (model X.prog X.w) A (richCompare .Eq u v >>= fun w => truthOfDropped w) (fun b s' => ∃ H', Inv X pins σ H' s' ∧ Qb b H') X.xe s := by
      refine wpAny_bind (wpAny_mono (h A pins s σ H x y u v _ sb I rx ry d.1) (fun w s' q => ?_) fun _ _ x => x)
      obtain ⟨v', H', I', rv, z, rfl, q⟩ := q
      obtain rfl : w = Value.bool z := rv
      exact wpAny_truthy_bool ⟨H', I', q⟩
    have nf := d.2.2
    dsimp only
    split
    · rename_i b1 t1 b2 t2 e
      have eu : u = Value.float b1 t1 := congrArg Prod.fst e
      subst eu
      cases x with
      | flt b => exact nf.elim
      | _ => first | (obtain ⟨_, e⟩ := rx; cases e) | cases rx
    · exact go
end
/-! ### == of two tuples, item by item -/
section
variable {prog : Program} {w : World} {A : Around} {R : Result → Shared → Prop}
end
abbrev EbT := V → V → Hp → (Bool → Hp → Prop) → Prop
def EbR (X : Cx) (n : Nat) (d : EbT) : Prop := ∀ (A : Around) (pins : List (Addr × Obj)) (s : Shared) (σ : L2.St) (H : Hp) (x y : V) (u v : Value) (Qb : Bool → Hp → Prop), L2.Sub X n A → Inv X pins σ H s → RelV x u → RelV y v → d x y H Qb →
  wpAny (model X.prog X.w) A (eqBool u v) (fun b s' => ∃ H', Inv X pins σ H' s' ∧ Qb b H') X.xe s
section
variable {X : Cx} {n m : Nat} {r : R2} {d d' : EbT}
theorem EbR.mono (h : EbR X n d) (hn : n ≤ m) : EbR X m d := fun A pins s σ H x y u v Q sb => h A pins s σ H x y u v Q (sb.mono hn)
theorem EbR.or (h : EbR X n d) (h' : EbR X n d') : EbR X n (fun x y H Q => d x y H Q ∨ d' x y H Q) := fun A pins s σ H x y u v Q sb I rx ry e =>
  e.elim (h A pins s σ H x y u v Q sb I rx ry) (h' A pins s σ H x y u v Q sb I rx ry)
end
end DEq
namespace DEq
open PySem PySem.Spec PyProof.Rows L2 DL
section
variable {X : Cx} {CX CX2 : CXT} {k k2 n : Nat} {C C2 f f2 : Addr} {fd fd2 : FuncData} {ps ps2 : List Str} {sp sp2 : Sp} {E E2 : XK}
end
end DEq
namespace DL
open PySem PySem.Spec PyProof.Rows L2 DEq
section
variable {K : PySem.W.Frag} {Δ : Sl} {G L : List M} {Qd : Po} {C C2 : Addr} {fs gs : List (Str × D)} {sp sp2 : DSpec} {E0' E1' : XK} {w : W} {ls : List Addr} {σ : L2.St} {H : Hp}
end
end DL
namespace DEq
open PySem PySem.Spec PyProof.Rows L2 DL
end DEq
namespace DL
open PySem PySem.Spec PyProof.Rows L2 DEq
section
variable {K : PySem.W.Frag} {Δ : Sl} {G L : List M} {Qd : Po} {C C2 : Addr} {fs : List (Str × D)}
end
end DL

/-! f-strings with instances: {x}, {x!r} by their own __str__, __repr__ -/
namespace DFm
open PySem PySem.Spec PyProof.Rows L2 DL
section
variable {prog : Program} {w : World} {A : Around} {E : Value → Shared → Prop} {s : Shared} {K : PySem.W.Frag} {x C f : Addr} {ox : Obj} {od : Option Obj}
end
section
variable {X : Cx} {CX : CXT} {k : Nat} {C f : Addr} {fd : FuncData} {ps : List Str} {sp : Sp} {E : XK} {e : Expr} {te : TE} {pos : Pos}
end
end DFm
namespace DL
open PySem PySem.Spec PyProof.Rows L2
section
variable {K : PySem.W.Frag} {Δ : Sl} {G L : List M} {Qd : Po} {te : TE} {C : Addr} {sp : DSpec} {E0' : XK}
end
section
variable {K : PySem.W.Frag} {Δ : Sl} {G L : List M} {Qn : PoN} {te : TE}
end
end DL

/-! bool of an own instance (by its __len__), len(range(n)) -/
namespace DBl
open PySem PySem.Spec PyProof.Rows L2 PySem.W
section
variable {prog : Program} {w : World} {A : Around} {E : Value → Shared → Prop} {s : Shared} {K : Frag} {x C L f : Addr} {h₀ : Heap} {m : Str → Option Value} {ox : Obj} {od : Option Obj}
end
end DBl
namespace DL
open PySem PySem.Spec PyProof.Rows L2 DSn DBl
section
variable {K : PySem.W.Frag} {Δ : Sl} {G L : List M} {Qd : Po} {t : TA} {C : Addr} {sp : DSpec} {E0' : XK}
end
end DL

/-! own exception classes over any built-in class of exceptions: made by their own __init__ (any fields) -/
namespace DXg
open PySem PySem.Spec PyProof.Rows L2
structure BaseX (B newId initId : String) (bmB : List Value) : Prop where
  eb : ExcBaseFacts B newId initId bmB
  sf : StoreFacts B bmB "object.__setattr__" "object"
structure OexB (K : PySem.W.Frag) (C : Addr) (newId : String) (bmB : List Value) : Prop where
  cls : ∃ nm q N bs bm sn sub ab col dd k0 k1 k2 k3 k5, K.lookup C = some (excClassObj nm q C N bs bm true sn sub ab col dd k0 k1 k2 k3 k5 newId) ∧ PySem.W.excTail bmB bm = true
  sa : PySem.W.findIn K (.ref C) "__setattr__" = some (some (.builtin "object.__setattr__"))
  exC : PySem.W.subIn K (.ref C) (.type "BaseException") = some true
  tyC : PySem.W.typeIn K (.ref C) = some (.type "type")
  kC : PySem.W.keepIn K (.ref C) = true
section
variable {K : PySem.W.Frag} {C : Addr} {newId : String} {bmB : List Value}
theorem OexB.over (T : OexB K C newId bmB) : PySem.W.excOver K C bmB = true := by
  obtain ⟨nm, q, N, bs, bm, sn, sub, ab, col, dd, k0, k1, k2, k3, k5, hl, ht⟩ := T.cls
  unfold PySem.W.excOver PySem.W.clsIn
  rw [hl]
  show (C == C && PySem.W.excTail bmB bm) = true
  rw [ht, beq_self_eq_true]
  rfl
theorem OexB.cd (T : OexB K C newId bmB) : ∃ cd : ClassData, PySem.W.clsIn K C = some cd ∧ cd.hasDict = true := by
  obtain ⟨nm, q, N, bs, bm, sn, sub, ab, col, dd, k0, k1, k2, k3, k5, hl, ht⟩ := T.cls
  exact ⟨{ name := nm, bases := bs, mro := .ref C :: bm, ns := N, qualname := q, hasDict := true, slotNames := sn, subclasses := sub, abstract := ab, collection := col, hasDel := false }, by
    unfold PySem.W.clsIn
    rw [hl] <;> rfl, rfl⟩
theorem taker_no {f : Str} (h : PySem.W.findIn K (.ref C) f = some none) : PySem.W.takerIn K C f = some none := by
  unfold PySem.W.takerIn
  rw [h]
  rfl
end
section
open Builtin Builtin.ObjectAttr
variable {prog : Program} {w : World} {A : Around} {R : Result → Shared → Prop} {hp : Heap} {g : Array GenState} {d : Drawn} {t : Nat} {os : OsState} {K : W.Frag} {x C : Addr} {fv : Array Value} {newId B : String} {bmB : List Value} {f : Str} {tk : Tok} {v : Value}
theorem osaB_new (SF : StoreFacts B bmB "object.__setattr__" "object") (T : OexB K C newId bmB) (X : K.In hp) (hx : hp.get? x = some { cls := .ref C, data := .fields fv }) (hno : W.findIn K (.ref C) f = some none)
    (hq : ∀ h' tk' dx, (∀ b o, b ≠ x → hp.get? b = some o → h'.get? b = some o) → hp.objs.size ≤ dx → dx ≠ x → h'.get? x = some { cls := .ref C, dict := some dx, data := .fields fv } → h'.Ns1 dx (fun y => if y = f then some v else none) → R (.ok (.ret .none)) ⟨h', g, d, tk', os⟩) :
    codeAny (model prog w) A (.call (.builtin "object.__setattr__") ⟨[.ref x, .str f tk, v], []⟩) R ⟨hp, g, d, t, os⟩ := by
  obtain ⟨cd, hcd, hdict⟩ := T.cd
  have hne : x ≠ hp.objs.size := Nat.ne_of_lt (Heap.lt_size hx)
  have hi : W.InstAt hp x { cls := .ref C, data := .fields fv } C none := ⟨hx, rfl, rfl, trivial⟩
  refine W.osa_openX SF X hi T.over (taker_no hno) fun b => ?_
  have hcl : W.Looks (model prog w) hp (classData C) cd := W.looks_clsIn X hcd
  show wpAny _ _ (storeInOwnDict (.ref x) (.ref C) (.str f tk) f v b) _ _ _
  obtain ⟨c1, c2, c3, c4, c5, hd, c7, c8, c9, c10, c11⟩ := cd
  have hdict : hd = true := hdict
  subst hdict
  unfold storeInOwnDict ownDictForStores
  repeat (first | with_reducible refine HandSPX.store_in_new ?_ ?_ | with_reducible refine wpAny_loadPart_at hx ?_ | with_reducible refine hcl.at ?_ | wp_step)
  · exact ⟨_, #[], _, (Heap.get?_update_ne _ _ _ _ hne.symm).trans (Heap.get?_push_at rfl rfl), rfl, fun e he => absurd he (by simp), fun _ => rfl⟩
  · intro h2 tk2 hn2 hs2
    have hx2 : (hp.push { cls := .type "dict", data := .dict #[] }).get? x = some { cls := .ref C, data := .fields fv } := Heap.get?_push_of_some _ hx
    refine hq h2 tk2 hp.objs.size (fun c o hc ho => ?_) (Nat.le_refl _) hne.symm ((hs2.2 x hne).trans (Heap.get?_update_self _ hx2 rfl)) hn2
    exact (hs2.2 c (Nat.ne_of_lt (Heap.lt_size ho))).trans ((Heap.get?_update_ne _ _ _ _ hc).trans (Heap.get?_push_of_some _ ho))
theorem osaB_old {dx : Addr} {m0 : Str → Option Value} {nl : List Str} (SF : StoreFacts B bmB "object.__setattr__" "object") (T : OexB K C newId bmB) (X : K.In hp) (hx : hp.get? x = some { cls := .ref C, dict := some dx, data := .fields fv }) (hns : hp.Ns1 dx m0) (hw : Within m0 nl) (hz : nl.length ≤ 1000)
    (hno : W.findIn K (.ref C) f = some none) (hq : ∀ h' tk', (∀ b o, b ≠ dx → hp.get? b = some o → h'.get? b = some o) → h'.Ns1 dx (fun y => if y = f then some v else m0 y) → R (.ok (.ret .none)) ⟨h', g, d, tk', os⟩) :
    codeAny (model prog w) A (.call (.builtin "object.__setattr__") ⟨[.ref x, .str f tk, v], []⟩) R ⟨hp, g, d, t, os⟩ := by
  obtain ⟨cd, hcd, hdict⟩ := T.cd
  obtain ⟨oD, _, _, hoD, hdD, _⟩ := hns.count hw
  have hi : W.InstAt hp x { cls := .ref C, dict := some dx, data := .fields fv } C (some oD) := ⟨hx, rfl, rfl, hoD⟩
  refine W.osa_openX SF X hi T.over (taker_no hno) fun b => ?_
  have hcl : W.Looks (model prog w) hp (classData C) cd := W.looks_clsIn X hcd
  show wpAny _ _ (storeInOwnDict (.ref x) (.ref C) (.str f tk) f v b) _ _ _
  obtain ⟨c1, c2, c3, c4, c5, hd, c7, c8, c9, c10, c11⟩ := cd
  have hdict : hd = true := hdict
  subst hdict
  unfold storeInOwnDict ownDictForStores
  repeat (first | with_reducible refine PySem.OEX.store_in_old hns hw hz ?_ | with_reducible refine wpAny_loadPart_at hx ?_ | with_reducible refine hcl.at ?_ | wp_step)
  intro h2 tk2 hn2 hs2
  exact hq h2 tk2 (fun c o hc ho => (hs2.2 c hc).trans ho) hn2
end
section
variable {X : Cx} {pins : List (Addr × Obj)} {σ : L2.St} {H : Hp} {s : Shared} {a C dx : Addr} {f : Str} {y : V} {u : Value} {fs : List (Str × V)} {Q : Unit → Shared → Prop} {E : Value → Shared → Prop} {A : Around} {B newId initId : String} {bmB : List Value}
theorem ostB_new (BF : BaseX B newId initId bmB) (T : OexB X.K C newId bmB) (I : Inv X pins σ H s) (e : H a = some (exo a C none)) (hno : PySem.W.findIn X.K (.ref C) f = some none) (ry : RelV y u)
    (h : ∀ dx s', H dx = none → dx ≠ a → Inv X pins σ (upd (upd H dx (exd dx [(f, y)])) a (exo a C (some dx))) s' → Q () s') : wpAny (model X.prog X.w) A (setAttr (.ref a) f u) Q E s := by
  obtain ⟨t1, ho⟩ := exo_at I.hok e
  obtain ⟨hp, g, d, t, os⟩ := s
  refine PySem.W.set_plain I.kIn (ox := { cls := .ref C, dict := none, data := .fields #[.ref t1, .none, .none, .none, .bool false, .none] }) (od := none) ⟨ho, rfl, rfl, trivial⟩ T.sa (osaB_new BF.sf T I.kIn ho hno fun h2 tk2 dx kp dn dne hx hn => ?_)
  have hnd : H dx = none := I.hok.fresh dn
  have far : ∀ {c : Addr} {o : Obj}, hp.get? c = some o → c ≠ dx := fun {c o} q => Nat.ne_of_lt (Nat.lt_of_lt_of_le (Heap.lt_size q) dn)
  have off : ∀ {c : Addr}, H c = none → c ≠ a := fun {c} n z => by
    rw [z, e] at n
    cases n
  have U : Un X.fs [] H (upd (upd H dx (exd dx [(f, y)])) a (exo a C (some dx))) hp h2 := by
    refine ⟨fun c o q n _ _ => kp c o (off n) q, fun c o q n _ _ => ⟨o.slots, kp c o (off n) q⟩, fun c o q n _ => by rw [upd_ne (off n), upd_ne (far q)]; exact n, fun c o q _ => ?_, fun c xs q => ?_, fun c o v q => ?_, fun c ps q => ⟨#[], ?_⟩⟩
    · by_cases hc : c = a
      · exact ⟨_, by rw [hc]; exact hx⟩
      · exact ⟨o, kp c o hc q⟩
    · rw [upd_ne (at_ne e q exo_tup), upd_ne (ne_of_none q hnd)]
      exact q
    · rw [upd_ne (at_ne e q exo_frz), upd_ne (ne_of_none q hnd)]
      exact q
    · rw [upd_ne (at_ne e q exo_tbl), upd_ne (ne_of_none q hnd), q]
      simp
  refine h dx _ hnd dne (I.un (t' := tk2) U fun c o q => ?_)
  by_cases hc : c = a
  · subst hc
    rw [upd_same] at q
    cases q
    exact exo_ok hx
  rw [upd_ne hc] at q
  by_cases hd : c = dx
  · subst hd
    rw [upd_same] at q
    cases q
    exact exd_ok hn (relO_put (fs := []) ry fun _ => True.intro)
  rw [upd_ne hd] at q
  refine (I.hok c o q).stay (fun b v hb z => kp b v ?_ z) (fun b hb => ?_) fun b xs hb => ?_
  · rcases hb with hb | hb
    · rw [hb]
      exact hc
    · exact at_ne e hb exo_own
  · rw [upd_ne (at_ne e hb exo_own), upd_ne (ne_of_none hb hnd)]
    exact hb
  · rw [upd_ne (at_ne e hb exo_tup), upd_ne (ne_of_none hb hnd)]
    exact hb
theorem ostB_old (BF : BaseX B newId initId bmB) (T : OexB X.K C newId bmB) (I : Inv X pins σ H s) (e : H a = some (exo a C (some dx))) (ed : H dx = some (exd dx fs)) (hl : fs.length ≤ 900) (hno : PySem.W.findIn X.K (.ref C) f = some none) (ry : RelV y u)
    (h : ∀ s', Inv X pins σ (upd H dx (exd dx ((f, y) :: fs))) s' → Q () s') : wpAny (model X.prog X.w) A (setAttr (.ref a) f u) Q E s := by
  obtain ⟨t1, ho⟩ := exo_at I.hok e
  obtain ⟨mA, hns, rel⟩ := exd_at I.hok ed
  have hw := within_of rel
  obtain ⟨hp, g, d, t, os⟩ := s
  obtain ⟨oD, _, _, hoD, _⟩ := hns.count hw
  refine PySem.W.set_plain I.kIn (ox := { cls := .ref C, dict := some dx, data := .fields #[.ref t1, .none, .none, .none, .bool false, .none] }) (od := some oD) ⟨ho, rfl, rfl, hoD⟩ T.sa (osaB_old BF.sf T I.kIn ho hns hw (by rw [List.length_map]; omega) hno fun h2 tk2 kp hn => ?_)
  refine h _ (I.write (t' := tk2) (x := dx) (e := dx) (o := exd dx ((f, y) :: fs)) (by rw [ed]; exact True.intro) (.inl rfl) kp ?_ (exd_ok hn (relO_put ry rel)))
  obtain ⟨o, _, _, e', _⟩ := hn
  exact ⟨o, e'⟩
theorem oinitB {us : List Value} {Q : Value → Shared → Prop} (BF : BaseX B newId initId bmB) (T : OexB X.K C newId bmB) (I : Inv X pins σ H s) (e : H a = some (exo a C none)) (hl : us.length ≤ sizeLine) (h : ∀ s', Inv X pins σ H s' → Q .none s') :
    wpAny (model X.prog X.w) A (call (.builtin initId) (.ref a :: us)) Q E s := by
  obtain ⟨nm, q, N, bs, bm, sn, sub, ab, col, dd, k0, k1, k2, k3, k5, hlk, ht⟩ := T.cls
  obtain ⟨t1, ho⟩ := exo_at I.hok e
  obtain ⟨hp, g, d, t, os⟩ := s
  refine wpAny_call (PySem.HandSPX.init_base BF.eb (fun Y => PySem.W.excTail_contains Y bm ht) (I.kIn _ _ hlk) ho hl fun h2 t2 kp hx => ?_)
  have J := I.write (t' := t) (x := a) (e := a) (o := exo a C none) (by rw [e]; exact True.intro) (.inl rfl) kp ⟨_, hx⟩ (exo_ok hx)
  have same : upd H a (exo a C none) = H := by
    funext c
    by_cases hc : c = a
    · rw [hc, upd_same, e]
    · rw [upd_ne hc]
  rw [same] at J
  exact h _ J
end
def tBeI (K : PySem.W.Frag) (newId : String) (bmB : List Value) (ta : TA) : TE := fun σ H Q => ta σ H fun vs H1 => ∃ (a C : Addr) (ws : List V), vs = .ref a :: ws ∧ ws.length ≤ 1000 ∧ OexB K C newId bmB ∧ H1 a = some (exo a C none) ∧ Q .non H1
def tOstB (K : PySem.W.Frag) (newId : String) (bmB : List Value) (f : Str) (to te : TE) : TS := fun D σ H => te σ H fun y H1 => to σ H1 fun x H2 => ∃ a C : Addr, x = .ref a ∧ OexB K C newId bmB ∧ PySem.W.findIn K (.ref C) f = some none ∧
  ((H2 a = some (exo a C none) ∧ ∀ dx, H2 dx = none → dx ≠ a → D.nx σ (upd (upd H2 dx (exd dx [(f, y)])) a (exo a C (some dx)))) ∨
    ∃ (dx : Addr) (fs : List (Str × V)), H2 a = some (exo a C (some dx)) ∧ H2 dx = some (exd dx fs) ∧ fs.length ≤ 900 ∧ D.nx σ (upd H2 dx (exd dx ((f, y) :: fs))))
section
variable {X : Cx} {o e : Expr} {es : List Expr} {to te : TE} {ta : TA} {f : Str} {p p' p1 p2 pos : Pos} {B newId initId : String} {bmB : List Value} {bn : Str}
theorem pe_beinit {pl : Sem Bool} (BF : BaseX B newId initId bmB) (hg : Gl X bn) (hm : X.mg bn = none) (boot : bootBuiltins bn = some (.type B)) (ty : typeOf (.type B) = pure (.type "type")) (stub : Manifest.isStub B = false) (hh : PySem.W.handedIn (.builtin initId) = true)
    (vV : PySem.W.findCls X.K (.type B) (.type "type") "__init__" = some (.val (.builtin initId))) (m1 : bn ≠ "__name__") (m2 : (bn == ("__debug__" : Str)) = false) (ha : PA X (e :: es) ta)
    (hc : eval (.Call (.Attribute (.Name bn p1) "__init__" p2) (e :: es) [] pos) X.env = (do
      let cv ← eval (.Name bn p1) X.env
      standAt p2.atName
      let (fv, lead) ← holding [cv] (getMethod cv "__init__" pl)
      callWith pos fv lead (backTo pos (starEach (e :: es) X.env)) (backToKw pos (keywordEach [] X.env))) := by rfl)
    (he : starEach (e :: es) X.env = (false, eval e X.env) :: starEach es X.env := by rfl) (hpl : (backTo pos (starEach es X.env)).any (·.1) = false := by rfl) :
    PE X (.Call (.Attribute (.Name bn p1) "__init__" p2) (e :: es) [] pos) (tBeI X.K newId bmB ta) := by
  refine ⟨fun pins s σ H Q I h => ?_⟩
  refine PySem.W.methodCall_KW (ld_blt I hg hm boot ?_ m1 m2) hc
  obtain ⟨_, fr⟩ := I.fr
  refine PySem.W.method_type fr I.ok.mod.kin ty stub vV hh ?_
  show wpAny _ _ (callWith pos (Value.builtin initId) [] (backTo pos (starEach (e :: es) X.env)) []) _ _ _
  refine PyProof.Rows.callWith_method1 (thn (ha.run pos pins _ σ H _ (I.tok _) h) fun us s1 ⟨vs, H1, I1, r1, a, C, ws, ev, hz, T, ea, q⟩ => ?_) he hpl
  subst ev
  match us, r1 with
  | u0 :: ur, .cons ra rr =>
    obtain rfl : u0 = Value.ref a := ra
    have hlen : ur.length ≤ sizeLine := by
      rw [← Paired.length rr, sizeLine_eq]
      omega
    exact oinitB BF T I1 ea hlen fun s2 J => ⟨.non, H1, J, rfl, q⟩
theorem ps_ostB (BF : BaseX B newId initId bmB) (ho : PE X o to) (he : PE X e te) (hs : swapsWith e (some (.Attribute o f p')) pos.line X.env = pure false := by rfl) : PS X (.Assign [.Attribute o f p'] e pos) (tOstB X.K newId bmB f to te) := by
  refine ⟨fun pins s σ H D I h => plainObj_wpAny_Assign_Attribute (thn (he.run pins s σ H _ I h) fun v s1 ⟨y, H1, I1, r1, q1⟩ => thn (ho.run pins s1 σ H1 _ I1 q1) fun u s2 ⟨x, H2, I2, r2, a, C, ex, T, hno, q⟩ => ?_) hs⟩
  subst ex
  obtain rfl : u = Value.ref a := r2
  rcases q with ⟨ea, q⟩ | ⟨dx, fs, ea, ed, hl, q⟩
  · exact ostB_new BF T I2 ea hno r1 fun dx s3 n ne J => ⟨σ, _, J, q dx n ne⟩
  · exact ostB_old BF T I2 ea ed hl hno r1 fun s3 J => ⟨σ, _, J, q⟩
end
end DXg

/-! several except clauses, each with a name or without; the caught exception is an object that stays known -/
namespace DTm
open PySem PySem.Spec PyProof.Rows L2
open DL (exk)
section
variable {X : Cx} {pins : List (Addr × Obj)} {σ : L2.St} {H : Hp} {s : Shared}
theorem exk_ok {P : Program} {w : World} {H : Hp} {h : Heap} {a C : Addr} {d : Option Addr} {oe : Obj} {vs : Array Value} (e : h.get? a = some oe) (hc : oe.cls = .ref C) (hd : oe.dict = d) (hv : oe.data = .fields vs) : ObjOk P w H h a (exk a C d) :=
  ⟨⟨oe, vs, e, hc, hd, hv⟩, ⟨oe, e⟩, fun h1 h2 z k => by
    obtain ⟨o, ws, e1, r⟩ := z
    exact ⟨o, ws, k _ e1, r⟩⟩
theorem exk_at {P : Program} {w : World} {H : Hp} {h : Heap} {a C : Addr} {d : Option Addr} (hok : HOk P w H h) (e : H a = some (exk a C d)) : ∃ (oe : Obj) (vs : Array Value), h.get? a = some oe ∧ oe.cls = .ref C ∧ oe.dict = d ∧ oe.data = .fields vs := by
  have x : ObjOk P w H h a (.ext fun h => ∃ (oe : Obj) (vs : Array Value), h.get? a = some oe ∧ oe.cls = .ref C ∧ oe.dict = d ∧ oe.data = .fields vs) := hok a _ e
  exact x.1
theorem track (I : Inv X pins σ H s) {a C : Addr} {d : Option Addr} {oe : Obj} {vs : Array Value} (e : s.heap.get? a = some oe) (hc : oe.cls = .ref C) (hd : oe.dict = d) (hv : oe.data = .fields vs) (na : H a = none) (nL : a ≠ X.env.locals) (nC : ∀ y c, X.env.cells.lookup y = some c → a ≠ c)
    (new : ∀ o, X.s_0.heap.get? a = some o → a ∈ X.ex) (np : ∀ p ∈ X.pn ++ pins, p.1 ≠ a) : Inv X pins σ (upd H a (exk a C d)) s := by
  refine ⟨I.ok, I.os, I.bare, ⟨I.base.keep, I.base.slot, fun b o hb n hx => ?_, I.base.there, fun b xs q => ?_, fun b o u q => ?_, fun b ps q => ?_⟩, I.loc, I.cell, ?_, fun y c hy => ?_, fun p hp => ?_, fun b o q => ?_, I.len⟩
  · rw [upd_ne (fun z => hx (by subst z; exact new o hb))]
    exact I.base.free b o hb n hx
  · rw [upd_ne (ne_of_none (I.base.tups b xs q) na)]
    exact I.base.tups b xs q
  · rw [upd_ne (ne_of_none (I.base.frzs b o u q) na)]
    exact I.base.frzs b o u q
  · obtain ⟨more, q2⟩ := I.base.tbls b ps q
    exact ⟨more, by rw [upd_ne (ne_of_none q2 na)]; exact q2⟩
  · rw [upd_ne (Ne.symm nL)]
    exact I.free
  · rw [upd_ne (Ne.symm (nC y c hy))]
    exact I.freeC y c hy
  · obtain ⟨e1, n1, r⟩ := I.pin p hp
    exact ⟨e1, by rw [upd_ne (np p hp)]; exact n1, r⟩
  · by_cases hb : b = a
    · subst hb
      rw [upd_same] at q
      cases q
      exact exk_ok e hc hd hv
    rw [upd_ne hb] at q
    exact (I.hok b o q).stay (fun c v _ z => z) (fun c hc => by rw [upd_ne (ne_of_none hc na)]; exact hc) fun c xs hc => by rw [upd_ne (ne_of_none hc na)]; exact hc
abbrev suiteT (X : Cx) (a : Addr) (pn : List (Addr × Obj)) : Cx := X.suite a pn
theorem toSuiteT (I : Inv X pins σ H s) {a : Addr} : Inv (suiteT X a (X.pn ++ pins)) [] σ H s :=
  ⟨I.ok.suite _ _, I.os, I.bare, I.base, I.loc, I.cell, I.free, I.freeC, fun p hp => I.pin p (by rw [List.append_nil] at hp; exact hp), I.hok, I.len⟩
theorem ofSuiteT {pn' : List (Addr × Obj)} {a : Addr} (I : Inv (suiteT X a (X.pn ++ pins)) pn' σ H s) (ok : X.Ok) : Inv X pins σ H s :=
  ⟨ok, I.os, I.bare, I.base, I.loc, I.cell, I.free, I.freeC, fun p hp => I.pin p (List.mem_append_left _ hp), I.hok, I.len⟩
end
abbrev Cl := Value × Option Nat × TS
def unset (i : Nat) (D : Ends) : Ends := { nx := fun σ1 H1 => D.nx (σ1.set i none) H1, rt := D.rt, bk := fun σ1 H1 => D.bk (σ1.set i none) H1, ct := fun σ1 H1 => D.ct (σ1.set i none) H1 }
def wCl (a : Addr) (D : Ends) (σ : L2.St) (H : Hp) : Option Nat → TS → Prop
  | none, ts => ts D σ H
  | some i, ts => ts (unset i D) (σ.set i (some (.ref a))) H
def wAll (K : PySem.W.Frag) (Wout : WX) (D : Ends) : List Cl → WX
  | [] => Wout
  | p :: r => fun cls d σ H => ∃ b, PySem.W.exmOne K cls p.1 = some b ∧ (b = true → ∃ C, cls = .ref C ∧ ∀ a, H a = none → wCl a D σ (upd H a (exk a C d)) p.2.1 p.2.2) ∧ (b = false → wAll K Wout D r cls d σ H)
def NmOk (X : Cx) : Option Str → Option Nat → Prop
  | none, none => True
  | some n, some i => X.N.Nodup ∧ X.N[i]? = some n ∧ X.env.kindOf n = some .local
  | _, _ => False
inductive HdOk (X : Cx) : List ExceptHandler → List Cl → Prop
  | nil : HdOk X [] []
  | cons {x : Str} {c : Value} {on : Option Str} {oi : Option Nat} {ts : TS} {b₀ : Stmt} {suite : List Stmt} {np p' : Pos} {hds : List ExceptHandler} {l : List Cl} (hc : Names X x c) (hn : NmOk X on oi)
      (hsu : ∀ (a : Addr) (pn : List (Addr × Obj)), PSs (suiteT X a pn) (b₀ :: suite) ts) (r : HdOk X hds l) :
      HdOk X (.ExceptHandler (some (.Name x np)) on (b₀ :: suite) p' :: hds) ((c, oi, ts) :: l)
section
variable {X : Cx} {body : List Stmt} {hd0 : ExceptHandler} {hds : List ExceptHandler} {l : List Cl} {pos : Pos} {tb : WX → TS} {Wout : WX}
theorem ps_try_all (stk : X.stack = X.env :: X.outer) (frm : X.env.frame = some X.env.locals) (tk : Takes X Wout)
    (hb : ∀ (W : WX) (pn : List (Addr × Obj)) (xe : Value → Shared → Prop), Takes (X.tr pn xe) W → PassesOwn (model X.prog X.w) X.A X.env xe → PSs (X.tr pn xe) body (tb W))
    (hh : HdOk X (hd0 :: hds) l) : PS X (.Try body (hd0 :: hds) [] [] pos) (fun D σ H => tb (wAll X.K Wout D l) D σ H) := by
  refine ⟨fun pins s σ H D I h => ?_⟩
  have okX := I.ok
  have frs0 : X.A.frames = some (X.env :: X.outer) := by rw [okX.frames, stk]
  refine wpAny_Try_except (wpAny_mono ((hb (wAll X.K Wout D l) (X.pn ++ pins) (fun e s₁ => wpAny (model X.prog X.w) X.A (noteFrame e X.env) (fun _ s₂ => wpAny (model X.prog X.w) X.A (setFlight e none) (fun _ s₃ => wpAny (model X.prog X.w) X.A (handleBy e X.env (hd0 :: hds)) (SP X pins D) X.xe s₃) X.xe s₂) X.xe s₁) (fun u s1 xx => ?_) PassesOwn.looking).run [] s σ H D (I.toTry _) h) (fun f s1 done => ?_) (fun _ _ z => z))
  · -- what the body lets out
    obtain ⟨a, B, sI, pins1, σ1, H1, cls, d, rfl, J0, nb, up, sky, na, os, ag, wish⟩ := xx
    have J := J0.ofTry (pins := pins) okX
    rw [stk] at sky
    have Ba : B.get? a = none := by
      rcases sky with q | q | q
      · exact q.2.1
      · exact q.2.1
      · exact q.2.1
    show wpAny (model X.prog X.w) X.A (noteFrame (.ref a) X.env) _ _ _
    refine Sky.land Zc.steady frs0 frm sky fun h3 fl3 up3 => ?_
    have J3 : Inv X pins σ1 H1 { s1 with heap := h3 } := J.landed nb fl3.1 (up.trans up3) os ag
    obtain ⟨oe3, vs3, at3, zc3, dat3⟩ := fl3.there
    have nfr : a ∉ frs (X.env :: X.outer) := fun hm => by
      obtain ⟨_, o4, e4, hnf⟩ := fl3.2.2.1.mem hm
      rw [at3] at e4
      cases e4
      exact hnf _ dat3
    have nL : a ≠ X.env.locals := fun z => nfr (List.mem_filterMap.mpr ⟨X.env, List.mem_cons_self, by rw [frm, z]⟩)
    have nF : a ∉ X.fs := fun hm => by
      obtain ⟨e, he, q⟩ := List.mem_filterMap.mp hm
      exact nfr (List.mem_filterMap.mpr ⟨e, List.mem_cons_of_mem _ he, q⟩)
    have S3 := J3.suite at3 dat3 na nL nF
    have freshI : sI.heap.get? a = none := by
      cases q : sI.heap.get? a with
      | none => rfl
      | some o =>
        have := nb a o q (by
          show a ∉ frs X.stack
          rw [stk]
          exact nfr)
        rw [Ba] at this
        cases this
    have fresh0 : ∀ o, X.s_0.heap.get? a = some o → a ∈ X.ex := fun o q => by
      by_cases hx : a ∈ X.ex
      · exact hx
      · obtain ⟨o', q2⟩ := J.base.there a o q hx
        rw [freshI] at q2
        cases q2
    have npins : ∀ p ∈ X.pn ++ pins, p.1 ≠ a := fun p hp z => by
      have := (J.pin p hp).1
      rw [z, freshI] at this
      cases this
    suffices go : ∀ {hs2 : List ExceptHandler} {l2 : List Cl}, HdOk X hs2 l2 → wAll X.K Wout D l2 cls d σ1 H1 → wpAny (model X.prog X.w) X.A (handleBy (.ref a) X.env hs2) (SP X pins D) X.xe { s1 with heap := h3 } from go hh wish
    intro hs2 l2 hk
    induction hk with
    | nil =>
      intro w
      refine wpAny_handleBy_nil ?_
      obtain ⟨_, _, _, oe, vs, tb0, oT, ts', he, hz, hd, h1, hr⟩ := id fl3
      have fin : wpAny (model X.prog X.w) X.A (setFlight (.ref a) X.env.frame) (fun _ s4 => wpAny (model X.prog X.w) X.A (throw (.ref a) : Sem Flow) (SP X pins D) X.xe s4) X.xe { s1 with heap := h3 } := by
        rw [frm]
        exact HandSPX.setFlight_upZ fl3 fun h4 hh4 up4 => wpAny_throw (tk _ _ ⟨a, B, sI, pins, σ1, H1, cls, d, rfl, J, nb, (up.trans up3).trans up4, .inr (.inr (by rw [stk]; exact hh4)), na, os, ag, w⟩)
      unfold PySem.passOn
      refine wpAny_bind (wpAny_field he hd h1 ?_)
      rw [if_neg (show ¬ ((Value.ref tb0 == Value.none) = true) by simp)]
      first | exact wpAny_bind (wpAny_pure (wpAny_bind fin)) | exact wpAny_bind fin
    | @cons x c on oi ts b₀ suite np p' hds2 l3 hc hn hsu r ih =>
      intro w
      obtain ⟨b, hb1, yes, no⟩ := w
      have LT : PySem.W.Looks (model X.prog X.w) h3 (typeOf (.ref a)) cls := fun A Q E s k q => wpAny_typeOf_ref (k _ _ at3) (by rw [zc3.1]; exact q)
      have LM := PySem.W.exm_one (M := model X.prog X.w) J3.kIn LT hb1
      refine wpAny_handleBy_cons (codeAny_handlers_test ?_) (by intro q; cases q)
      have name : ∀ {Q : Value → Shared → Prop} {E : Value → Shared → Prop}, Q c { s1 with heap := h3 } → wpAny (model X.prog X.w) (X.A.mark (some (.ref a))) (eval (.Name x np) X.env) Q E { s1 with heap := h3 } := fun {Q E} q => by
        obtain ⟨hg, hdbg, hm | ⟨hm, hv, hnn⟩⟩ := hc
        · exact ld_glob (X := X.suite a ((a, oe3) :: (X.pn ++ pins))) S3 hg hm q hdbg
        · exact ld_blt (X := X.suite a ((a, oe3) :: (X.pn ++ pins))) S3 hg hm hv q hnn hdbg
      refine name (LM.here ?_)
      cases b with
      | false =>
        show wpAny _ X.A (handleBy (.ref a) X.env hds2) _ _ _
        exact ih (no rfl)
      | true =>
        obtain ⟨C, ec, goes⟩ := yes rfl
        subst ec
        have yes := goes a na
        have known : ∀ {h4 : Heap}, HandSPX.FlyingZ B (X.env :: X.outer) a (Zc (.ref C) d) h4 ∨ True → Inv X pins σ1 H1 { s1 with heap := h4 } → (∃ oe vs, h4.get? a = some oe ∧ Zc (.ref C) d oe ∧ oe.data = .fields vs) → Inv (suiteT X a (X.pn ++ pins)) [] σ1 (upd H1 a (exk a C d)) { s1 with heap := h4 } := fun {h4} _ J4 z => by
          obtain ⟨oe4, vs4, at4, zc4, dat4⟩ := z
          refine toSuiteT (track J4 at4 zc4.1 zc4.2 dat4 na nL (fun y c hy z => ?_) fresh0 npins)
          obtain ⟨v, hcell⟩ := J4.cell y c hy
          subst z
          obtain ⟨o, ho, hd⟩ := hcell
          rw [at4] at ho
          cases ho
          rw [dat4] at hd
          cases hd
        match on, oi, hn, yes with
        | none, none, _, yes =>
          refine codeAny_handlers_suite (HandSPX.lands_againZ fl3 fun h4 fl4 up4 => ?_)
          have J4 : Inv X pins σ1 H1 { s1 with heap := h4 } := J.landed nb fl4.1 ((up.trans up3).trans up4) os ag
          have S4 := known (.inr trivial) J4 fl4.there
          refine wpAny_mono ((hsu a (X.pn ++ pins)).run [] _ _ _ _ S4 yes) (fun f s6 e6 => ?_) (fun _ _ z => False.elim z)
          cases f with
          | next => exact let ⟨_, _, S6, q6⟩ := e6; ⟨_, _, ofSuiteT S6 okX, q6⟩
          | brk => exact let ⟨_, _, S6, q6⟩ := e6; ⟨_, _, ofSuiteT S6 okX, q6⟩
          | cont => exact let ⟨_, _, S6, q6⟩ := e6; ⟨_, _, ofSuiteT S6 okX, q6⟩
          | ret u => exact let ⟨_, _, _, S6, r6, q6⟩ := e6; ⟨_, _, _, ofSuiteT S6 okX, r6, q6⟩
        | some n, some i, ⟨nd, hi, hln⟩, yes =>
          refine codeAny_handlers_suite_as (HandSPX.lands_againZ fl3 fun h4 fl4 up4 => ?_)
          have J4 : Inv X pins σ1 H1 { s1 with heap := h4 } := J.landed nb fl4.1 ((up.trans up3).trans up4) os ag
          have S4 := known (.inr trivial) J4 fl4.there
          have loc : Loc X.env.scope n := .inl hln
          refine store_ok (X := suiteT X a (X.pn ++ pins)) (v := .ref a) S4 nd hi loc rfl (fun s5 S5 => ?_) (.inr hln)
          refine wpAny_mono ((hsu a (X.pn ++ pins)).run [] s5 _ _ _ S5 yes) (fun f s6 e6 => ?_) (fun _ _ z => False.elim z)
          have out : ∀ {σ6 : L2.St} {H6 : Hp} {Q : Shared → Prop}, Inv (suiteT X a (X.pn ++ pins)) [] σ6 H6 s6 → (∀ s7, Inv X pins (σ6.set i none) H6 s7 → Q s7) → wpAny (model X.prog X.w) X.A (do bindName X.env n .none; unbindBehindTheSuite X.env n p') (fun _ s7 => Q s7) X.xe s6 := fun {σ6 H6 Q} S6 hq => gone_ok (ofSuiteT S6 okX) nd hi hln hq
          cases f with
          | next => exact let ⟨_, _, S6, q6⟩ := e6; out S6 fun s7 J7 => ⟨_, _, J7, q6⟩
          | brk => exact let ⟨_, _, S6, q6⟩ := e6; out S6 fun s7 J7 => ⟨_, _, J7, q6⟩
          | cont => exact let ⟨_, _, S6, q6⟩ := e6; out S6 fun s7 J7 => ⟨_, _, J7, q6⟩
          | ret u => exact let ⟨_, _, _, S6, r6, q6⟩ := e6; out S6 fun s7 J7 => ⟨_, _, _, J7, r6, q6⟩
  · cases f with
    | next => exact let ⟨_, _, J, q⟩ := done; wpAny_execs_nil ⟨_, _, J.ofTry okX, q⟩
    | brk => exact let ⟨_, _, J, q⟩ := done; ⟨_, _, J.ofTry okX, q⟩
    | cont => exact let ⟨_, _, J, q⟩ := done; ⟨_, _, J.ofTry okX, q⟩
    | ret u => exact let ⟨_, _, _, J, r, q⟩ := done; ⟨_, _, _, J.ofTry okX, r, q⟩
end
end DTm

/-! exceptions as values: made, their fields, isinstance; raised; except clauses over them -/
namespace DXv
open PySem PySem.Spec PyProof.Rows L2 DXg DTm
open DL (exk)
section
variable {X : Cx} {pins : List (Addr × Obj)} {σ : L2.St} {H : Hp} {s : Shared}
end
section
variable {X : Cx} {e : Expr} {es : List Expr} {ta : TA} {p pos : Pos} {B newId initId : String} {bmB : List Value}
end
def tXfV (K : PySem.W.Frag) (f : Str) (te : TE) : TE := fun σ H Q => te σ H fun x H1 => ∃ (a C dd : Addr) (fs : List (Str × V)) (v : V), x = .ref a ∧ H1 a = some (exk a C (some dd)) ∧ H1 dd = some (.xd fs) ∧ (XfC K C ∧ PySem.W.findIn K (.ref C) f = some none) ∧ fs.lookup f = some v ∧ Q v H1
def rIsV (K : PySem.W.Frag) : List V → Hp → VK → Prop := fun xs H Q => ∃ (a C dd : Addr) (ws : List (Str × V)) (c : V) (b : Bool), xs = [V.ref a, c] ∧ H a = some (exk a C (some dd)) ∧ H dd = some (.xd ws) ∧ L2.ExcC K C ∧
  ((∃ cv, (∀ u, RelV c u → u = cv) ∧ PySem.W.kitOne K (.ref C) cv = some b) ∨ ∃ (tp : Addr) (qs : List Value), c = V.ref tp ∧ (∃ vs, SqT K H tp vs ∧ ∀ us, Vals vs us → us = qs) ∧ PySem.W.kitAny K (.ref C) qs = some b) ∧ Q (.bl b) H
section
variable {X : Cx} {e : Expr} {te : TE} {pos : Pos} {n : Str}
theorem exv_inst {pins : List (Addr × Obj)} {σ : L2.St} {H : Hp} {s : Shared} (I : Inv X pins σ H s) {a C dd : Addr} {ws : List (Str × V)} (ea : H a = some (exk a C (some dd))) (ed : H dd = some (.xd ws)) : ∃ (oe od : Obj) (mA : Str → Option Value), PySem.W.InstAt s.heap a oe C (some od) ∧ (∀ f, PySem.W.lookIn f od = some (mA f)) ∧ ∀ f, RelO (ws.lookup f) (mA f) := by
  obtain ⟨oe, vs, h1, hc, hd, hv⟩ := exk_at I.hok ea
  have hx : ObjOk X.prog X.w H s.heap dd (.xd ws) := I.hok dd _ ed
  obtain ⟨mA, hns, hr⟩ := hx
  obtain ⟨od, ho, hl⟩ := lookIn_ns hns
  exact ⟨oe, od, mA, ⟨h1, hc, by unfold PySem.W.notCls; rw [hv] <;> rfl, by rw [hd]; exact ho⟩, hl, hr⟩
theorem pe_xfV (he : PE X e te) (hb : attributeBase e n X.env (eval e X.env) = eval e X.env := by rfl) : PE X (.Attribute e n pos) (tXfV X.K n te) := by
  refine ⟨fun pins s σ H Q I h => attr_of hb (thn (he.run pins s σ H _ I h) fun u s1 ⟨x, H1, I1, rx, a, C, dd, fs, v, ex, ea, ed, ⟨T, hno⟩, l, q⟩ => ?_)⟩
  subst ex
  obtain rfl : u = Value.ref a := rx
  obtain ⟨oe, od, mA, J, hl, hr⟩ := exv_inst I1 ea ed
  obtain ⟨u, hu, ru⟩ := RelO.some_of (v := v) (o := mA n) (by rw [← l]; exact hr n)
  exact HandSPX.exc_get I1.kIn J T.ga T.gg T.exC (PySem.W.findObj_own T.hdC hno rfl (by rw [hl, hu])) (handed_of ru) ⟨v, H1, I1.tok _, ru, q⟩
theorem call_isV : CallR X (.builtin "isinstance") (rIsV X.K) := by
  intro pins s σ H xs us Q I r h
  obtain ⟨a, C, dd, ws, c, b, rfl, ea, ed, T, hc, q⟩ := h
  obtain ⟨oe, od, mA, J, _, _⟩ := exv_inst I ea ed
  have Z : PySem.W.KitX X.K (.ref a) (.ref C) (fun h => PySem.W.InstAt h a oe C (some od)) := PySem.W.kitx_exc (by obtain ⟨cd, h1, _⟩ := PySem.W.any_some T.hd; rw [h1]; rfl) T.hg T.hk T.hs T.ha T.hn T.ht T.hm
  match us, r with
  | [_, u], .cons rx (.cons rt .nil) =>
    cases rx
    rcases hc with ⟨cv, e1, e2⟩ | ⟨tp, qs, rfl, ⟨vs, hq, hv⟩, e2⟩
    · rw [e1 u rt]
      exact PySem.W.kia_one Z I.kIn J e2 (fun z => nomatch z) fun tk => ⟨.bl b, H, I.kept (t' := tk) fun _ _ z => z, rfl, q⟩
    · obtain rfl : u = Value.ref tp := rt
      obtain ⟨its, rv, htup, _⟩ := I.tuple hq
      rw [← hv its rv] at e2
      obtain ⟨⟨oc, odi, oda, osl⟩, h1, h2, n, h3⟩ := htup
      dsimp only at h2 h3
      subst h2
      subst h3
      exact PySem.W.kia_tup Z I.kIn J h1 e2 (fun z => nomatch z) fun tk => ⟨.bl b, H, I.kept (t' := tk) fun _ _ z => z, rfl, q⟩
end
end DXv

/-! exceptions as data: an own class's __init__, made as a value, raised, looked at; except clauses -/
namespace DL
open PySem PySem.Spec PyProof.Rows L2 DXg DTm DXv
section
variable {K : PySem.W.Frag} {newId : String} {bmB : List Value}
def spIniB (K : PySem.W.Frag) (newId : String) (bmB : List Value) (fs : List Str) : Sp := fun vs H Q _ => ∃ (a C : Addr) (xs : List V), vs = .ref a :: xs ∧ xs.length = fs.length ∧ OexB K C newId bmB ∧ (∀ f ∈ fs, PySem.W.findIn K (.ref C) f = some none) ∧ H a = some (exo a C none) ∧
  ∀ dx, H dx = none → dx ≠ a → Q .non (upd (upd H dx (exd dx (fs.zip xs).reverse)) a (exo a C (some dx)))
theorem iniB_len {fs : List Str} {vs : List V} {H : Hp} {Q : VK} {E : XK} (h : spIniB K newId bmB fs vs H Q E) : vs.length = fs.length + 1 := by
  obtain ⟨a, C, xs, rfl, hl, _⟩ := h
  rw [List.length_cons, hl]
theorem iniB1 {f m : Str} {vs : List V} {H : Hp} {Q : VK} {Ex : XK} (h : spIniB K newId bmB [f] vs H Q Ex) :
    tSeq (tDrop (tBeI K newId bmB (tCons (tVar 0) (tCons (tC (.str m)) tNil)))) (tOstB K newId bmB f (tVar 0) (tVar 1)) { nx := fun _ H' => Q .non H', rt := Q } (vs.map some) H := by
  obtain ⟨a, C, xs, rfl, hl, T, hno, ha, q⟩ := h
  match xs, hl with
  | [v], _ =>
    refine ⟨_, rfl, a, C, [.str m], rfl, (by show 1 ≤ 1000; decide), T, ha, ?_⟩
    exact ⟨_, rfl, _, rfl, a, C, rfl, T, hno f (by simp), .inl ⟨ha, fun dx hd hne => q dx hd hne⟩⟩
def exF (fs : List Str) (xs : List D) : List (Str × D) := (fs.zip xs).reverse
theorem repF_app {H : Hp} {R : Addr → Prop} : ∀ {fs gs : List (Str × D)} {ws us : List (Str × V)}, RepF K H R fs ws → RepF K H R gs us → RepF K H R (fs ++ gs) (ws ++ us)
  | [], _, _, _, h, q => by
    cases h
    exact q
  | (f, d) :: fs, _, _, _, ⟨y, ys, e, h, r⟩, q => by
    subst e
    exact ⟨y, _, rfl, h, repF_app r q⟩
theorem repF_rev {H : Hp} {R : Addr → Prop} : ∀ {fs : List (Str × D)} {ws : List (Str × V)}, RepF K H R fs ws → RepF K H R fs.reverse ws.reverse
  | [], _, h => by
    cases h
    rfl
  | (f, d) :: fs, _, ⟨y, ys, e, h, r⟩ => by
    subst e
    rw [List.reverse_cons, List.reverse_cons]
    exact repF_app (repF_rev r) ⟨y, [], rfl, h, rfl⟩
theorem repF_zip {H : Hp} {R : Addr → Prop} : ∀ {fs : List Str} {xs : List D} {vs : List V}, RepL K H R xs vs → RepF K H R (fs.zip xs) (fs.zip vs)
  | [], _, _, _ => rfl
  | f :: fs, [], _, h => by
    cases h
    rfl
  | f :: fs, x :: xs, _, ⟨y, ys, e, h, r⟩ => by
    subst e
    exact ⟨y, _, rfl, h, repF_zip r⟩
theorem repL_of {H : Hp} {R : Addr → Prop} {gs ls : List Addr} : ∀ {xs : List D} {vs : List V}, Paired (RS K H R gs ls) (xs.map S.d) vs → RepL K H R xs vs
  | [], _, .nil => rfl
  | _ :: _, _, .cons h t => ⟨_, _, rfl, h, repL_of t⟩
section
variable {Δ : Sl} {G L : List M} {Qd : Po} {E : EndsD} {ta : TA} {te : TE} {C : Addr} {fs : List Str} {Wi : WX}
theorem st_raiseB (h : EvA K ta Δ G L fun ss G1 L1 => ∃ xs : List D, ss = xs.map S.d ∧ xs.length = fs.length ∧ xs.length ≤ 1000 ∧ (OexB K C newId bmB ∧ ∀ f ∈ fs, PySem.W.findIn K (.ref C) f = some none) ∧ ∀ w ls H, E.wd w ls H → WishAt K w ls H Wi fun x' Δ' G' L' => x' = ⟨C, exF fs xs⟩ ∧ Δ' = Δ ∧ G' = G1 ∧ L' = L1) :
    StC K (fun _ σ H => tMkO C (spIniB K newId bmB fs) [] ta σ H fun cls d H' => Wi cls d σ H') Δ G L E := fun w ls σ H c D s => h w ls σ H c _ fun vs ss H2 G2 L2 c2 e2 r2 ⟨xs, e, hl, hz, ⟨T, hno⟩, k⟩ => by
  subst e
  have rl := repL_of r2
  refine ⟨by rw [rl.length]; exact hz, fun a ha => ?_⟩
  rw [List.append_nil]
  refine ⟨a, C, vs, rfl, by rw [rl.length, hl], T, hno, upd_same, fun dx hd hne => ?_⟩
  have hd2 : H2 dx = none := by
    rw [upd_ne hne] at hd
    exact hd
  refine ⟨rfl, dx, (fs.zip vs).reverse, upd_same, by rw [upd_ne hne, upd_same], hd2, ?_⟩
  have eh : upd (del (upd (upd (upd H2 a (exo a C none)) dx (exd dx (fs.zip vs).reverse)) a (exo a C (some dx))) a) dx (.xd (fs.zip vs).reverse) = upd H2 dx (.xd (fs.zip vs).reverse) := by
    funext b
    by_cases hb : b = dx
    · subst hb
      rw [upd_same, upd_same]
    · rw [upd_ne hb, upd_ne hb]
      by_cases hba : b = a
      · subst hba
        rw [del_same, ha]
      · rw [del_ne hba, upd_ne hba, upd_ne hb, upd_ne hba]
  rw [eh]
  have c3 := c2.new hd2 (o := .xd (fs.zip vs).reverse)
  have x3 := e2.trans (Ext.new hd2 (o := .xd (fs.zip vs).reverse))
  have rl3 := RepL.grow ((Ext.new (w := w) (ls := ls) hd2 (o := .xd (fs.zip vs).reverse)).grow c2.reg) rl
  exact k w ls _ (s.wd ls _ (x3.grow c.reg)) σ Δ G2 L2 (.ref C) (some dx) ⟨C, exF fs xs⟩ c3 ⟨rfl, dx, _, rfl, ⟨upd_same, c2.free hd2⟩, repF_rev (repF_zip rl3)⟩ ⟨rfl, rfl, rfl, rfl⟩
theorem repF_look {H : Hp} {R : Addr → Prop} {f : Str} {x : D} : ∀ {fs : List (Str × D)} {ws : List (Str × V)}, RepF K H R fs ws → fs.lookup f = some x → ∃ v, ws.lookup f = some v ∧ Rep K H R x v
  | [], _, _, h => by cases h
  | (n, y) :: fs, _, ⟨v, vs, e, h1, h2⟩, h => by
    subst e
    rw [List.lookup_cons] at h ⊢
    cases hb : f == n with
    | true =>
      rw [hb] at h
      cases h
      exact ⟨v, rfl, h1⟩
    | false =>
      rw [hb] at h
      exact repF_look h2 h
theorem evc_xfV {f : Str} (h : EvC K te Δ G L fun s G1 L1 => ∃ C gs x, s = .d (.exv C gs) ∧ (XfC K C ∧ PySem.W.findIn K (.ref C) f = some none) ∧ gs.lookup f = some x ∧ Qd (.d x) G1 L1) : EvC K (tXfV K f te) Δ G L Qd := fun w ls σ H c Q q => h w ls σ H c _ fun v s H2 G2 L2 c2 e2 r2 ⟨C, gs, x, e, T, hx, k⟩ => by
  subst e
  obtain ⟨a, dd, ws, rfl, ⟨h1, n1⟩, ⟨h2, n2⟩, r⟩ := r2
  obtain ⟨v, hv, rv⟩ := repF_look r hx
  exact ⟨a, C, dd, ws, v, rfl, h1, h2, T, hv, q.go c2 e2 (s := .d x) rv k⟩
theorem ap_isVt {C : Addr} {T : String} {gs : List (Str × D)} (h : ∃ b : Bool, (L2.ExcC K C ∧ PySem.W.kitOne K (.ref C) (.type T) = some b) ∧ Qd (.d (.bl b)) G L) : ApC K (rIsV K) [.d (.exv C gs), .d (.ty T)] Δ G L Qd := fun w ls σ H vs c rs Q q => by
  obtain ⟨b, ⟨T', hk⟩, k⟩ := h
  obtain ⟨v, u, rfl, ⟨a, dd, ws, rfl, ⟨h1, _⟩, ⟨h2, _⟩, _⟩, r2⟩ := pair2 rs
  have r2 : u = .ty T := r2
  subst r2
  exact ⟨a, C, dd, ws, _, b, rfl, h1, h2, T', .inl ⟨.type T, fun _ r => r, hk⟩, q.go c Ext.refl (s := .d (.bl b)) rfl k⟩
def clsD : D → Option Value
  | .ref a => some (.ref a)
  | .ty n => some (.type n)
  | _ => none
def clsDs : List D → Option (List Value)
  | [] => some []
  | d :: ds => match clsD d, clsDs ds with
    | some v, some vs => some (v :: vs)
    | _, _ => none
theorem clsDs_vals {H : Hp} {R : Addr → Prop} : ∀ {ds : List D} {vs : List V} {qs : List Value}, clsDs ds = some qs → RepL K H R ds vs → ∀ us, Vals vs us → us = qs
  | [], _, _, e, h, us, r => by
    cases e
    cases h
    cases r
    rfl
  | d :: ds, _, qs, e, ⟨y, ys, ey, h, rl⟩, us, r => by
    subst ey
    match us, r with
    | u :: us, .cons r1 r2 =>
      unfold clsDs at e
      split at e
      · rename_i v vs h1 h2
        cases e
        rw [clsDs_vals h2 rl us r2]
        congr 1
        cases d with
        | ref a =>
          cases h1
          have h : y = .ref a := h
          subst h
          exact r1
        | ty n =>
          cases h1
          have h : y = .ty n := h
          subst h
          exact r1
        | _ => cases h1
      · cases e
theorem ap_isVs {C : Addr} {gs : List (Str × D)} {ds : List D} (h : ∃ (qs : List Value) (b : Bool), clsDs ds = some qs ∧ (L2.ExcC K C ∧ PySem.W.kitAny K (.ref C) qs = some b) ∧ Qd (.d (.bl b)) G L) : ApC K (rIsV K) [.d (.exv C gs), .d (.tup ds)] Δ G L Qd := fun w ls σ H vs c rs Q q => by
  obtain ⟨qs, b, hq, ⟨T, hk⟩, k⟩ := h
  obtain ⟨v, u, rfl, ⟨a, dd, ws, rfl, ⟨h1, _⟩, ⟨h2, _⟩, _⟩, tp, us, rfl, ht, rl⟩ := pair2 rs
  exact ⟨a, C, dd, ws, _, b, rfl, h1, h2, T, .inr ⟨tp, qs, rfl, ⟨us, ht.sq, clsDs_vals hq rl⟩, hk⟩, q.go c Ext.refl (s := .d (.bl b)) rfl k⟩
def setO (o : Option Nat) (x : D) (Δ : Sl) : Sl := match o with
  | none => Δ
  | some i => Δ.set i (some (.d x))
def unO (o : Option Nat) (E : EndsD) : EndsD := match o with
  | none => E
  | some i => { E with nx := fun Δ2 G2 L2 => E.nx (Δ2.set i none) G2 L2, bk := fun Δ2 G2 L2 => E.bk (Δ2.set i none) G2 L2, ct := fun Δ2 G2 L2 => E.ct (Δ2.set i none) G2 L2 }
def ClsOk (K : PySem.W.Frag) (E : EndsD) (x : Exn) (Δ : Sl) (G L : List M) : List Cl → Prop
  | [] => False
  | p :: r => ∃ b, PySem.W.exmOne K (.ref x.C) p.1 = some b ∧ (b = true → StC K p.2.2 (setO p.2.1 (.exv x.C x.fs) Δ) G L (unO p.2.1 E)) ∧ (b = false → ClsOk K E x Δ G L r)
theorem st_tryAll {l : List Cl} {Wo : WX} {tb : WX → TS} (Qs : Exn → Sl → List M → List M → Prop) (h : ∀ Wi : WX, StC K (tb Wi) Δ G L { E with wd := fun w ls H => WishAt K w ls H Wi Qs })
    (hs : ∀ x Δ' G' L', Qs x Δ' G' L' → ClsOk K E x Δ' G' L' l) : StC K (fun D σ H => tb (wAll K Wo D l) D σ H) Δ G L E := fun w ls σ H cx D s => by
  refine h (wAll K Wo D l) w ls σ H cx D ⟨s.nx, s.rt, s.bk, s.ct, fun ls' H' g' => ?_⟩
  intro σ' Δ' G' L' cls d x c' xn q
  have hc := hs x Δ' G' L' q
  obtain ⟨rfl, dd, ws, rfl, ⟨hd, nd⟩, r⟩ := xn
  clear q hs h
  induction l with
  | nil => exact hc.elim
  | cons p l ih =>
    obtain ⟨b, hb, yes, no⟩ := hc
    refine ⟨b, hb, fun eb => ⟨x.C, rfl, fun a ha => ?_⟩, fun eb => ih (no eb)⟩
    have c2 := c'.new ha (o := exk a x.C (some dd))
    have x2 := Ext.new (w := w) (ls := ls') ha (o := exk a x.C (some dd))
    have g2 := x2.grow c'.reg
    have rx : Rep K (upd H' a (exk a x.C (some dd))) (Rg w ls') (.exv x.C x.fs) (.ref a) := ⟨a, dd, ws, rfl, ⟨upd_same, c'.free ha⟩, ⟨g2.keep _ _ hd nd, nd⟩, RepF.grow g2 r⟩
    have yes := yes eb
    obtain ⟨c, o, ts⟩ := p
    cases o with
    | none => exact yes w ls' σ' _ c2 D ⟨fun ls2 σ2 H2 Δ2 G2 L2 c3 g3 k => s.nx ls2 σ2 H2 Δ2 G2 L2 c3 ((g'.trans g2).trans g3) k, fun ls2 σ2 H2 Δ2 G2 L2 v z c3 rz k => s.rt ls2 σ2 H2 Δ2 G2 L2 v z c3 rz k, fun ls2 σ2 H2 Δ2 G2 L2 c3 g3 k => s.bk ls2 σ2 H2 Δ2 G2 L2 c3 ((g'.trans g2).trans g3) k, fun ls2 σ2 H2 Δ2 G2 L2 c3 g3 k => s.ct ls2 σ2 H2 Δ2 G2 L2 c3 ((g'.trans g2).trans g3) k, fun ls2 H2 g3 => s.wd ls2 H2 ((g'.trans g2).trans g3)⟩
    | some i =>
      have off : ∀ {ls2 : List Addr} {σ2 : L2.St} {H2 : Hp} {Δ2 : Sl} {G2 L2 : List M}, Ctx K w ls2 σ2 H2 Δ2 G2 L2 → Ctx K w ls2 (σ2.set i none) H2 (Δ2.set i none) G2 L2 := fun {ls2 σ2 H2 Δ2 G2 L2} c3 => by
        refine ⟨c3.reg, c3.rin, c3.nd, c3.fr, c3.h0, ⟨by rw [List.length_set, List.length_set, c3.sl.1], fun j z e => ?_⟩, c3.gl, c3.lo, c3.ld⟩
        rw [List.getElem?_set] at e ⊢
        split at e
        · split at e <;> cases e
        · rename_i hij
          rw [if_neg hij]
          exact c3.sl.2 j z e
      exact yes w ls' (σ'.set i (some (.ref a))) _ (c2.slot rx) _ ⟨fun ls2 σ2 H2 Δ2 G2 L2 c3 g3 k => s.nx ls2 _ H2 _ G2 L2 (off c3) ((g'.trans g2).trans g3) k, fun ls2 σ2 H2 Δ2 G2 L2 v z c3 rz k => s.rt ls2 σ2 H2 Δ2 G2 L2 v z c3 rz k, fun ls2 σ2 H2 Δ2 G2 L2 c3 g3 k => s.bk ls2 _ H2 _ G2 L2 (off c3) ((g'.trans g2).trans g3) k, fun ls2 σ2 H2 Δ2 G2 L2 c3 g3 k => s.ct ls2 _ H2 _ G2 L2 (off c3) ((g'.trans g2).trans g3) k, fun ls2 H2 g3 => s.wd ls2 H2 ((g'.trans g2).trans g3)⟩
end
end
end DL

/-! C.m(..), C an own class, m a def of it; built-in classes of exceptions as bases; what isinstance and except say of classes -/
namespace DXs
open PySem PySem.Spec PyProof.Rows L2 DXg
theorem bx_ArithmeticError : BaseX "ArithmeticError" "ArithmeticError.__new__" "ArithmeticError.__init__" [.type "ArithmeticError", .type "Exception", .type "BaseException", .type "object"] := ⟨PySem.F.excBase_ArithmeticError, PySem.F.store_ArithmeticError⟩
theorem boot_ArithmeticError : bootBuiltins "ArithmeticError" = some (.type "ArithmeticError") := by decide +kernel
theorem ty_ArithmeticError : typeOf (.type "ArithmeticError") = pure (.type "type") := by kernel_rfl
theorem st_ArithmeticError : Manifest.isStub "ArithmeticError" = false := by decide +kernel
theorem hd_ArithmeticError : PySem.W.handedIn (.builtin "ArithmeticError.__init__") = true := by decide +kernel
section
variable {K : PySem.W.Frag} {C D : Addr} {b : Bool}
theorem kit_same : PySem.W.kitOne K (.ref C) (.ref C) = some true := by
  unfold PySem.W.kitOne
  rw [if_pos (beq_self_eq_true _)]
theorem kit_cls (hC : PySem.W.subIn K (.ref C) (.ref C) = some true) (ic : PySem.W.isClsIn K D = true) (ty : PySem.W.typeIn K (.ref D) = some (.type "type")) (h : PySem.W.subIn K (.ref C) (.ref D) = some b) : PySem.W.kitOne K (.ref C) (.ref D) = some b := by
  cases b with
  | false => exact DXe.kit_ref hC ic ty h
  | true =>
    by_cases e : C = D
    · subst e
      exact kit_same
    · have e2 : ((PySem.W.clsIn K D).isSome && PySem.W.typeIn K (.ref D) == some (.type "type")) = true := by
        have ic : (PySem.W.clsIn K D).isSome = true := ic
        rw [ic, ty]
        rfl
      unfold PySem.W.kitOne
      rw [if_neg fun z => e (Value.ref.inj (beq_iff_eq.mp z))]
      show (if ((PySem.W.clsIn K D).isSome && PySem.W.typeIn K (.ref D) == some (.type "type")) = true then PySem.W.subIn K (.ref C) (.ref D) else none) = _
      rw [if_pos e2]
      exact h
end
section
variable {X : Cx} {CX : CXT} {k : Nat} {f M : Addr} {fd : FuncData} {ps : List Str} {sp : Sp} {E : XK} {cn m : Str} {p1 p2 pos : Pos} {e : Expr} {es : List Expr} {ta : TA} {mc : Value}
end
end DXs
namespace DL
open PySem PySem.Spec PyProof.Rows L2 DXg
end DL

/-! methods and defs that may raise: what is raised is wished for where the call stands; own objects handed over, words by name -/
namespace DMs
open PySem PySem.Spec PyProof.Rows L2
def tMethS (C : Addr) (m : Str) (sp : Sp) (dvs : List V) (E : L2.St → XK) (to : TE) (t : TA) : TE := fun σ H Q => to σ H fun x H1 => ∃ a dx fs, x = .ref a ∧ H1 a = some (.ins C dx fs) ∧ fs.lookup m = none ∧ t σ H1 fun vs H2 => sp (x :: (vs ++ dvs)) H2 Q (E σ)
section
variable {X : Cx} {CX : CXT} {k n : Nat} {f C : Addr} {fd : FuncData} {ps ks : List Str} {sp : Sp} {dvs : List V} {ds : List Value} {E : L2.St → XK} {m : Str} {apos pos : Pos} {o e : Expr} {es : List Expr} {kws : List Keyword} {to : TE} {t tk : TA} {g : List Value → List Value → List Value} {gV : List V → List V → List V}
theorem pe_methS {pl : Sem Bool} (ho : PE X o to) (c : Cls X.K C) (hm : Meth X.K C m f) (F : FnOk X.prog X.w X.K X.mg X.base CX k f fd ps sp) (hr : Room k X.A) (hb : Binds X.K fd ps ds) (hd : Vals dvs ds) (hx : ∀ σ, PassesAt CX X σ (E σ)) (ha : PA X (e :: es) t)
    (hst : starEach (e :: es) X.env = (false, eval e X.env) :: starEach es X.env := by rfl) (hpl : (backTo pos (starEach es X.env)).any (·.1) = false := by rfl)
    (ht : eval (.Call (.Attribute o m apos) (e :: es) [] pos) X.env = (do
      let here ← eval o X.env
      standAt apos.atName
      let (held, lead) ← holding [here] (getMethod here m pl)
      callWith pos held lead (backTo pos (starEach (e :: es) X.env)) (backToKw pos (keywordEach [] X.env))) := by rfl) :
    PE X (.Call (.Attribute o m apos) (e :: es) [] pos) (tMethS C m sp dvs E to t) := by
  refine ⟨fun pins s σ H Q I h => PySem.W.methodCall_KW (pl := pl) (thn (ho.run pins s σ H _ I h) fun u s1 ⟨x, H1, I1, rx, a, dx, fs, ex, ea, l, q⟩ => ?_) ht⟩
  subst ex
  obtain rfl : u = Value.ref a := rx
  refine getmeth_ok I1 ea c hm l (PySem.W.callWith_K (first := [.ref a]) (h₀ := X.base) I.ok.mod.kin hm.kp (thn (ha.run pos pins s1 σ H1 _ I1 q) fun us s2 ⟨vs, H2, I2, r, q2⟩ => ⟨I2.kIn, ?_⟩) hst hpl)
  exact run_fnSD (us := .ref a :: us) (vs := .ref a :: vs) F hr hb hd (hx σ) I2 (.cons rfl r) q2
end
end DMs
namespace DL
open PySem PySem.Spec PyProof.Rows L2
theorem asV_no {L : List M} : asV (fun (_ : S) (_ _ : List M) => False) L = fun _ _ => False := by
  funext r G'
  cases r with
  | v s => rfl
  | new ms j => exact propext ⟨fun ⟨_, _, _, _, z⟩ => z, fun z => z.elim⟩
section
variable {K : PySem.W.Frag} {Δ : Sl} {G L : List M} {Qd : Po} {Qx : Exn → List M → List M → Prop} {E : EndsD} {ta : TA} {to : TE} {F : DSpecX} {Wi : WX} {C : Addr} {m : Str} {Ex : L2.St → XK}
theorem evc_methX (h : EvC K to Δ G L fun s G1 L1 => ∃ fs, obG G1 L1 s = some (C, fs) ∧ fs.lookup m = none ∧ EvA K ta Δ G1 L1 fun ss G2 L2 => noL (s :: ss) = true ∧ F (s :: ss) G2 (asV Qd L2) fun _ _ => False) : EvC K (DMs.tMethS C m (spDX K F) [] Ex to ta) Δ G L Qd := fun w ls σ H c Q r => h w ls σ H c _ fun v s H1 G1 L1 c1 e1 r1 ⟨fs, ho, hm, k⟩ => by
  obtain ⟨a, dx, ws, rfl, h1, rf⟩ := obG_get c1 r1 ho
  refine ⟨a, dx, ws, rfl, h1, rf.lookN hm, k w ls σ H1 c1 _ fun vs ss H2 G2 L2 c2 e2 r2 ⟨hn, k2⟩ => ?_⟩
  rw [List.append_nil]
  exact spX_call (Qx := fun _ _ _ => False) c2 (.cons (RS.on c1 e2 r1) r2) hn k2 (r.ext (e1.trans e2)) fun _ _ _ _ _ _ _ _ z => z.elim
theorem evx_meth (h : EvC K to Δ G L fun s G1 L1 => ∃ fs, obG G1 L1 s = some (C, fs) ∧ fs.lookup m = none ∧ EvA K ta Δ G1 L1 fun ss G2 L2 => noL (s :: ss) = true ∧ F (s :: ss) G2 (fun _ _ => False) fun x G3 => Qx x G3 L2) : EvX K (DMs.tMethS C m (spDX K F) [] (WE Wi) to ta) Wi Δ G L Qx := fun w ls σ H c qx Q => h w ls σ H c _ fun v s H1 G1 L1 c1 e1 r1 ⟨fs, ho, hm, k⟩ => by
  obtain ⟨a, dx, ws, rfl, h1, rf⟩ := obG_get c1 r1 ho
  refine ⟨a, dx, ws, rfl, h1, rf.lookN hm, k w ls σ H1 c1 _ fun vs ss H2 G2 L2 c2 e2 r2 ⟨hn, k2⟩ => ?_⟩
  rw [List.append_nil]
  exact spX_call (Qd := fun _ _ _ => False) c2 (.cons (RS.on c1 e2 r1) r2) hn (by rw [asV_no]; exact k2) (fun _ _ _ _ _ _ _ _ z => z.elim) fun cls d x H' G' c' e' xn q => qx cls d x H' G' L2 c' ((e1.trans e2).trans e') xn q
end
end DL

/-! an __init__ that keeps new dicts and lists in its own object: the list of the callee's objects grows -/
namespace DL
open PySem PySem.Spec PyProof.Rows L2
def S.gl (n : Nat) : S → S
  | .g k => .l (n + k)
  | s => s
def M.gl (n : Nat) : M → M
  | .hl xs => .hl (xs.map (S.gl n))
  | .dh kvs => .dh (kvs.map fun p => (p.1, p.2.gl n))
  | .og C fs => .og C (fs.map fun p => (p.1, p.2.gl n))
  | .dq kvs => .dq (kvs.map fun p => (p.1, p.2.gl n))
  | m => m
def WMore (w w' : W) : Prop := ∃ ps, w'.gs = w.gs ++ ps ∧ w'.H0 = w.H0 ∧ (∀ a, w'.R a ↔ w.R a ∨ a ∈ ps) ∧ ∀ a ∈ ps, w.H0 a = none
theorem WMore.refl (w : W) : WMore w w := ⟨[], (List.append_nil _).symm, rfl, fun a => ⟨.inl, fun z => z.elim id fun z => by cases z⟩, fun _ h => by cases h⟩
theorem WMore.trans {w w1 w2 : W} : WMore w w1 → WMore w1 w2 → WMore w w2 := fun ⟨ps, g1, h1, r1, n1⟩ ⟨qs, g2, h2, r2, n2⟩ => by
  refine ⟨ps ++ qs, by rw [g2, g1, List.append_assoc], h2.trans h1, fun a => ?_, fun a ha => ?_⟩
  · rw [r2, r1, List.mem_append, or_assoc]
  · rcases List.mem_append.mp ha with z | z
    · exact n1 a z
    · rw [← h1]
      exact n2 a z
section
variable {K : PySem.W.Frag}
theorem RS.gl {H : Hp} {R R' : Addr → Prop} {gs ls qs : List Addr} (g : Grow H H R R') : ∀ {s : S} {v : V}, RS K H R qs [] s v → RS K H R' gs (ls ++ qs) (s.gl ls.length) v
  | .d _, _, q => Rep.grow g q
  | .g k, _, ⟨b, hb, e⟩ => by
    refine ⟨b, ?_, e⟩
    rw [List.getElem?_append_right (Nat.le_add_right _ _), Nat.add_sub_cancel_left]
    exact hb
  | .l k, _, ⟨b, hb, e⟩ => by simp at hb
theorem MOk.gl {H : Hp} {R R' : Addr → Prop} {gs ls qs : List Addr} (g : Grow H H R R') {a : Addr} : ∀ {m : M}, MOk K H R qs [] a m → MOk K H R' gs (ls ++ qs) a (m.gl ls.length)
  | .pl _, ⟨vs, h, r⟩ => ⟨vs, h, RepL.grow g r⟩
  | .hl xs, ⟨vs, h, r⟩ => ⟨vs, h, paired_map2' r fun _ _ q => RS.gl g q⟩
  | .dc _, ⟨vs, h, r⟩ => ⟨vs, h, RepK.grow g r⟩
  | .ob _ _, ⟨dx, vs, h, r⟩ => ⟨dx, vs, h, RepF.grow g r⟩
  | .dh _, ⟨vs, h, r⟩ => ⟨vs, h, paired_map2' r fun _ _ q => ⟨q.1, RS.gl g q.2⟩⟩
  | .dt _, h => h
  | .dz _ _, h => h
  | .og _ _, ⟨dx, vs, h, r⟩ => ⟨dx, vs, h, paired_map2' r fun _ _ q => ⟨q.1, RS.gl g q.2⟩⟩
  | .dq _, ⟨vs, h, r⟩ => ⟨vs, h, paired_map2' r fun _ _ q => ⟨q.1, RS.gl g q.2⟩⟩
section
variable {Δ : Sl} {G L : List M} {E : EndsD} {N : Sl → List M → List M → Prop} {t u : TS} {tv : TE} {f : Str}
end
end
end DL

/-! what an __init__ promises that makes more objects than its own; x = C(..) of such a class -/
namespace DL
open PySem PySem.Spec PyProof.Rows L2
section
variable {P : Program} {wd : World} {K : PySem.W.Frag} {mg : Str → Option Value} {base : Heap}
end
section
variable {K : PySem.W.Frag} {Δ : Sl} {G L : List M} {E : EndsD} {t : TA} {E0' : XK}
end
end DL

/-! dicts of data, own ones and frozen ones: in, d[k], a copy, d[k] = x, d.pop(k) -/
namespace DL
open PySem PySem.Spec PyProof.Rows L2
section
variable {K : PySem.W.Frag}
section
variable {w : W} {ls : List Addr} {σ : L2.St} {H : Hp} {Δ : Sl} {G L : List M} {Qd : Po} {Qn : PoN} {td ty : TE} {v : V} {s : S} {kvs : List (Key × D)}
end
end
end DL

/-! raise C(..) from e within «except B as e» -/
namespace DRf
open PySem PySem.Spec PyProof.Rows L2
section
variable {X : Cx} {pins : List (Addr × Obj)} {σ : L2.St} {H : Hp} {s : Shared}
theorem inv_gone {i : Nat} {n : Str} {v : Option Value} {h1 : Heap} {m : Str → Option Value} {t' : Nat} (I : Inv X pins σ H s) (nod : X.N.Nodup) (at_ : X.N[i]? = some n) (names : s.heap.Ns X.env.locals m)
    (look : ∀ (i : Nat) (x : Str) (v : V), X.N[i]? = some x → σ[i]? = some (some v) → Vis X.env.scope x → ∃ u, RelV v u ∧ Look X.env s.heap m x u)
    (names1 : h1.Ns X.env.locals (fun x => if x = n then v else m x)) (same : Heap.SameBut X.env.locals s.heap h1) : Inv X pins (σ.set i none) H { s with heap := h1, toks := t' } := by
  obtain ⟨oL, _, _, eL, _⟩ := id names
  have off : ∀ b o, X.s_0.heap.get? b = some o → b ≠ X.env.locals := fun b o e => Nat.ne_of_lt (Nat.lt_of_lt_of_le (Heap.lt_size e) I.ok.above)
  constructor
  · exact I.ok
  · exact I.os
  · exact I.bare
  · constructor
    · exact fun b o e nn nb nx => (same.2 b (off b o e)).trans (I.base.keep b o e nn nb nx)
    · intro b o e nn nb nx
      obtain ⟨sl, q⟩ := I.base.slot b o e nn nb nx
      exact ⟨sl, (same.2 b (off b o e)).trans q⟩
    · exact I.base.free
    · intro b o e nx
      obtain ⟨o1, q⟩ := I.base.there b o e nx
      exact ⟨o1, (same.2 b (off b o e)).trans q⟩
    · exact I.base.tups
    · exact I.base.frzs
    · exact I.base.tbls
  · refine ⟨_, names1, fun j y v1 q1 q2 q3 => ?_⟩
    have ji : j ≠ i := fun z => by
      subst z
      by_cases short : j < σ.length
      · rw [List.getElem?_set_self short] at q2
        cases q2
      · rw [List.getElem?_eq_none (by simpa using short)] at q2
        cases q2
    rw [List.getElem?_set_ne (Ne.symm ji)] at q2
    obtain ⟨u1, rel, way⟩ := look j y v1 q1 q2 q3
    refine ⟨u1, rel, ?_⟩
    have yn : y ≠ n := fun z => ji (nodup_ix nod q1 (z ▸ at_))
    rcases way with ⟨kd, q⟩ | ⟨kd, cl, q, cellv⟩
    · exact .inl ⟨kd, (if_neg yn).trans q⟩
    · exact .inr ⟨kd, cl, q, cellv.sameBut same (I.cne y cl q)⟩
  · intro y cl q
    obtain ⟨v1, cellv⟩ := I.cell y cl q
    exact ⟨v1, cellv.sameBut same (I.cne y cl q)⟩
  · exact I.free
  · exact I.freeC
  · intro p hp
    obtain ⟨q, nn, ne, nf, dd⟩ := I.pin p hp
    exact ⟨(same.2 p.1 ne).trans q, nn, ne, nf, dd⟩
  · intro b ob q
    refine (I.hok b ob q).stay (fun c v1 hc z => (same.2 c ?_).trans z) (fun _ z => z) fun _ _ z => z
    intro z
    subst z
    rcases hc with hc | hc
    · rw [← hc, I.free] at q
      cases q
    · rw [I.free] at hc
      cases hc
  · simpa using I.len
end
section
variable {env : Env} {outer : List Env} {L a : Addr} {Z : Obj → Prop} {B : Heap}
theorem held_same {h h1 : Heap} {m m1 : Str → Option Value} (x : HandSPX.HeldZ B (env :: outer) a Z L h) (bL : B.get? L = none) (hn : h.Ns L m) (hn1 : h1.Ns L m1) (same : Heap.SameBut L h h1) : HandSPX.HeldZ B (env :: outer) a Z L h1 := by
  obtain ⟨st, b0, fr, oe, vs, T, oT, ts, he, hz, hd, h1', nT, Te, hT, dT, h3⟩ := x
  obtain ⟨oL, es, ep, eL, dL, _⟩ := id hn
  have off : ∀ {c : Addr} {o : Obj} {ws : Array Value}, h.get? c = some o → o.data = .fields ws → c ≠ L := fun {c o ws} e d z => by
    rw [z, eL] at e
    cases e
    rw [dL] at d
    cases d
  refine ⟨fun b o e => (same.2 b fun z => ?_).trans (st b o e), b0, Heap.FunFrames.sameBut same hn1 fr, oe, vs, T, oT, ts, (same.2 a (off he hd)).trans he, hz, hd, h1', nT, Te, (same.2 T (off hT dT)).trans hT, dT, h3⟩
  rw [z, bL] at e
  cases e
theorem sky_note {M : Model} {A : Around} {E₁ : Value → Shared → Prop} {s : Shared} {Q : Unit → Shared → Prop} (hZ : HandSPX.Steady Z) (frs0 : A.frames = some (env :: outer)) (hf : env.frame = some L) (x : Sky B (env :: outer) a Z L s.heap)
    (go : ∀ h1, HandSPX.HeldZ B (env :: outer) a Z L h1 → s.heap.UpToSlots h1 → Q () { s with heap := h1 }) : wpAny M A (noteFrame (.ref a) env) Q E₁ s := by
  rcases x with ⟨sB, n0, ff, oe, vs, at_, zo, dat, v1⟩ | fl | held
  · exact HandSPX.look_newZ hZ frs0 ff hf at_ sB n0 dat v1 zo go
  · exact HandSPX.looks_onZ hZ frs0 hf fl go
  · exact HandSPX.againZ hf held.2.2.2 (go s.heap held (Heap.UpToSlots.refl _))
end
section
variable {X : Cx} {W : WX} {pins : List (Addr × Obj)} {pn : List (Addr × Obj)} {a : Addr} {q0 : Addr × Obj} {i : Nat} {n : Str} {pos : Pos}
theorem as_tail (ok : X.Ok) (stk : X.stack = X.env :: X.outer) (frm : X.env.frame = some X.env.locals) (nod : X.N.Nodup) (at_ : X.N[i]? = some n) (loc : X.env.kindOf n = some .local) (tk : L2.Takes X W)
    {u : Value} {s3 : Shared} {E2 E3 : Value → Shared → Prop} (xx : L2.XE (L2H.suiteX X a (q0 :: (X.pn ++ pins))) (fun cls d σ H => W cls d (σ.set i none) H) u s3) :
    wpAny (model X.prog X.w) (X.A.mark (some (.ref a))) (noteFrame u X.env) (fun _ s4 => wpAny (model X.prog X.w) (X.A.mark (some (.ref a))) (do bindName X.env n .none; unbindBehindTheSuite X.env n pos)
      (fun _ s5 => wpAny (model X.prog X.w) (X.A.mark (some (.ref a))) (PySem.passOn "try.except-as" u X.env : Sem Flow) (fun _ _ => False) (notedBy (model X.prog X.w) (X.A.mark (some (.ref a))) X.env (cameBackBy (model X.prog X.w) X.A X.env X.xe)) s5) E2 s4) E3 s3 := by
  obtain ⟨e, B, sI, pins2, σ2, H2, cls, d, rfl, J, nb, up, sky, na, os, ag, wv⟩ := xx
  have frs0 : (X.A.mark (some (.ref a))).frames = some (X.env :: X.outer) := by
    have := ok.frames
    rw [stk] at this
    exact this
  have sky : Sky B (X.env :: X.outer) e (Zc cls d) X.env.locals s3.heap := by
    have z : Sky B X.stack e (Zc cls d) X.env.locals s3.heap := sky
    rw [stk] at z
    exact z
  refine sky_note Zc.steady frs0 frm sky fun h1 held up1 => ?_
  obtain ⟨m, names, look⟩ := id J.loc
  have plain : (X.env.scope.kind == .class || (X.env.scope.kind == .module && X.env.locals != X.env.globals)) = false := by
    rw [ok.kind]
    rfl
  have bL : B.get? X.env.locals = none := by
    obtain ⟨_, _, ⟨_, ⟨L1, _, f1, b1, _⟩, _⟩, _⟩ := id held
    rw [frm] at f1
    rw [Option.some.inj f1]
    exact b1
  have names0 : h1.Ns X.env.locals m := (up.trans up1).ns names
  refine wpAny_nameGoes_keeps (s := { s3 with heap := h1 }) loc names0 plain fun h2 v names2 same => ?_
  have held2 := held_same held bL names0 names2 same
  obtain ⟨st2, b02, ff2, tr2⟩ := held2
  obtain ⟨oe, vs, T, oT, ts, he, hz, hd, v1, r⟩ := id tr2
  unfold PySem.passOn
  refine wpAny_bind (wpAny_field he hd v1 ?_)
  rw [if_neg (show ¬ ((Value.ref T == Value.none) = true) from by simp)]
  rw [frm]
  refine wpAny_bind (HandSPX.setFlight_anyZ (fr := some X.env.locals) st2 ff2 tr2 fun h3 st3 ff3 tr3 up3 => wpAny_throw ?_)
  show wpAny _ _ (noteFrame (.ref e) X.env) _ _ _
  refine HandSPX.againZ frm tr3 ?_
  obtain ⟨oe3, vs3, T3, oT3, ts3, he3, hz3, hd3, v13, r3⟩ := id tr3
  show wpAny _ X.A (do
    if (← field (.ref e) 1) == .none then unsupported "frame.own-activation:exception-without-traceback"
    setFlight (.ref e) X.env.frame) _ _ _
  refine wpAny_bind (wpAny_field he3 hd3 v13 ?_)
  rw [if_neg (show ¬ ((Value.ref T3 == Value.none) = true) from by simp)]
  rw [frm]
  refine HandSPX.setFlight_anyZ (fr := some X.env.locals) st3 ff3 tr3 fun h4 st4 ff4 tr4 up4 => ?_
  -- the state without the exception, its name gone
  obtain ⟨oL, es, ep, eL, dL, rL⟩ := id names2
  obtain ⟨oI, esI, epI, eI, dI, rI⟩ := id names
  have self := Heap.get?_update_self (fun _ => oL) eI (Heap.get?_some_iff.mp eL).2
  have other : ∀ b, b ≠ X.env.locals → (sI.heap.update X.env.locals fun _ => oL).get? b = sI.heap.get? b := fun b hb => Heap.get?_update_other _ _ (Ne.symm hb)
  have J2 : Inv (L2H.suiteX X a (q0 :: (X.pn ++ pins))) pins2 (σ2.set i none) H2 { sI with heap := sI.heap.update X.env.locals fun _ => oL, toks := sI.toks } :=
    inv_gone J nod at_ names look ⟨oL, es, ep, self, dL, rL⟩ ⟨by simp [Heap.update], other⟩
  refine tk _ _ ⟨e, B, _, pins, σ2.set i none, H2, cls, d, rfl, L2H.unsuiteX J2 ok, fun b o q nf => ?_, fun b o q nf => ?_, .inr (.inr ?_), na, os, ag, wv⟩
  · have bl : b ≠ X.env.locals := fun z => nf (by
      rw [stk, z]
      exact List.mem_filterMap.mpr ⟨X.env, List.mem_cons_self, by rw [frm]⟩)
    have q : (sI.heap.update X.env.locals fun _ => oL).get? b = some o := q
    rw [other b bl] at q
    exact nb b o q nf
  · have q : (sI.heap.update X.env.locals fun _ => oL).get? b = some o := q
    by_cases bl : b = X.env.locals
    · subst bl
      rw [self] at q
      cases q
      exact (up3.trans up4) _ _ eL nf
    · rw [other b bl] at q
      obtain ⟨sl, q1⟩ := (up.trans up1) b o q nf
      have q2 : h2.get? b = some { o with slots := sl } := (same.2 b bl).trans q1
      obtain ⟨sl2, q3⟩ := (up3.trans up4) b _ q2 nf
      exact ⟨sl2, q3⟩
  · rw [stk]
    exact ⟨st4, b02, ff4, tr4⟩
end
section
variable {X : Cx} {pins : List (Addr × Obj)} {σ : L2.St} {H : Hp} {s : Shared}
theorem name_at {M : Model} {A : Around} {E : Value → Shared → Prop} {i : Nat} {n : Str} {v : V} {pos : Pos} {Q : Value → Shared → Prop} (I : Inv X pins σ H s) (at_ : X.N[i]? = some n) (has : σ[i]? = some (some v)) (vis : Vis X.env.scope n) (loc : X.env.kindOf n = some .local)
    (d1 : (n == ("__debug__" : Str)) = false) (h : ∀ u, RelV v u → Q u s) : wpAny M A (eval (.Name n pos) X.env) Q E s := by
  obtain ⟨m, names, look⟩ := I.loc
  obtain ⟨u, rel, way⟩ := look i n v at_ has vis
  rcases way with ⟨kd, q⟩ | ⟨kd, c, q, cellv⟩
  · exact wpAny_Name (wpAny_loadName_local I.ok.kind kd names q (h u rel)) d1
  · rw [loc] at kd
    rcases kd with kd | kd <;> cases kd
theorem ps_raiseHE {W : WX} {e : Expr} {t : L2.St → Hp → XK → Prop} {n : Str} {i : Nat} {a : Addr} {oe0 : Obj} {vs0 : Array Value} {cls0 : Value} {cpos pos : Pos} (tk : L2.Takes X W) (he : L2H.PMk5 X e t) (at_ : X.N[i]? = some n) (vis : Vis X.env.scope n) (loc : X.env.kindOf n = some .local)
    (d1 : (n == ("__debug__" : Str)) = false) (hh : X.A.handled = some (.ref a)) (pinned : (a, oe0) ∈ X.pn) (hc0 : oe0.cls = cls0) (hd0 : oe0.data = .fields vs0) (hx0 : vs0[2]? = some .none) (r0 : Raises X cls0) (nb : X.base.get? a = none) :
    PS X (.Raise (some e) (some (.Name n cpos)) pos) (fun _ σ H => σ[i]? = some (some (.ref a)) ∧ t σ H fun cls d H' => W cls d σ H') := by
  refine ⟨fun pins s σ H D I ⟨has, h⟩ => wpAny_Raise_from (wpAny_mono (he pins s σ H _ I h) (fun u s1 hu => ?_) (fun _ _ x => x))⟩
  obtain ⟨⟨x, oe, vs, sI, H', cls, d, rfl, J, k, hne, ha, hz, hd, h1, na, os, ag, r, q⟩, h5⟩ := hu
  have big : 4 < vs.size := h5 x oe vs rfl ha hd
  have Js : Inv X pins σ H' s1 := J.landed (B := sI.heap) (fun b o z _ => z) k (Heap.UpToSlots.of_keeps k) os ag
  refine name_at Js at_ has vis loc d1 fun u ru => ?_
  have ru : u = Value.ref a := ru
  subst ru
  obtain ⟨sub1, ty1⟩ := r (model X.prog X.w) sI.heap J.kIn
  obtain ⟨sub0, ty0⟩ := r0 (model X.prog X.w) X.base Js.ok.mod.kin
  have P1 : s1.heap.get? a = some oe0 := (Js.pin (a, oe0) (List.mem_append_left _ pinned)).1
  have P0 : sI.heap.get? a = some oe0 := (J.pin (a, oe0) (List.mem_append_left _ pinned)).1
  have ax : a ≠ x := fun z => by
    rw [z, hne] at P0
    cases P0
  have R : RaiseAt (model X.prog X.w) sI.heap s1.heap x oe vs cls := ⟨ha, hz.1, hd, k, hne, sub1, ty1⟩
  have R3 := R.set 3 (.ref a)
  have R4 := R3.set 4 (.bool true)
  refine raise_from_tree R big (.inr ⟨a, oe0, vs0, cls0, rfl, X.base, ⟨P1, hc0, hd0, Js.bk, nb, sub0, ty0⟩⟩) ?_
  have v1 : ((vs.setIfInBounds 3 (.ref a)).setIfInBounds 4 (.bool true))[1]? = some Value.none := HotX.set_other (by decide) (HotX.set_other (by decide) h1)
  refine setFlight_fresh (s := { s1 with heap := (s1.heap.update x (Obj.mapFields (·.setIfInBounds 3 (.ref a)))).update x (Obj.mapFields (·.setIfInBounds 4 (.bool true))) }) R4.at_ R4.dat v1 ?_
  have hot : HotX.HotAt X.A a ((s1.heap.update x (Obj.mapFields (·.setIfInBounds 3 (.ref a)))).update x (Obj.mapFields (·.setIfInBounds 4 (.bool true)))) :=
    ⟨hh, oe0, vs0, by rw [Heap.get?_update_other _ _ (Ne.symm ax), Heap.get?_update_other _ _ (Ne.symm ax)]; exact P1, hd0, hx0⟩
  refine HotX.raiseNew_hot (s := { s1 with heap := (s1.heap.update x (Obj.mapFields (·.setIfInBounds 3 (.ref a)))).update x (Obj.mapFields (·.setIfInBounds 4 (.bool true))) }) hot ax R4.at_ R4.dat (by rw [HotX.set_size, HotX.set_size]; omega) ?_
  have R2 := R4.set 2 (.ref a)
  have v12 : (((vs.setIfInBounds 3 (.ref a)).setIfInBounds 4 (.bool true)).setIfInBounds 2 (.ref a))[1]? = some Value.none := HotX.set_other (by decide) v1
  refine tk _ _ (XE.new J (fun b u z => ?_) hne R2.at_ ⟨by rw [Obj.cls_mapFields, Obj.cls_mapFields, Obj.cls_mapFields]; exact hz.1, by rw [HandSPX.dict_mapFields, HandSPX.dict_mapFields, HandSPX.dict_mapFields]; exact hz.2.1⟩ R2.dat v12 na os ag q)
  exact R2.keep b u z
end
abbrev suiteY (X : Cx) (a : Addr) (pn : List (Addr × Obj)) (xe : Value → Shared → Prop) : Cx := { X with A := X.A.mark (some (.ref a)), calm := false, pn := pn, xe := xe }
def wFrom (K : PySem.W.Frag) (c c0 : Value) (i : Nat) (t : L2.St → Hp → XK → Prop) (Wout : WX) : WX := fun cls d σ H => ∃ b, PySem.W.exmOne K cls c = some b ∧ (b = true → cls = c0 ∧ ∀ a, H a = none → t (σ.set i (some (.ref a))) H fun cls1 d1 H1 => Wout cls1 d1 ((σ.set i (some (.ref a))).set i none) H1) ∧ (b = false → Wout cls d σ H)
section
variable {X : Cx} {x n : Str} {c c0 : Value} {i : Nat} {body : List Stmt} {e : Expr} {np cpos rpos pos pos' : Pos} {tb : WX → TS} {t : L2.St → Hp → XK → Prop} {Wout : WX}
theorem ps_tryFrom (stk : X.stack = X.env :: X.outer) (frm : X.env.frame = some X.env.locals) (cl : Names X x c) (nod : X.N.Nodup) (at_ : X.N[i]? = some n) (loc : X.env.kindOf n = some .local) (vis : Vis X.env.scope n) (d1 : (n == ("__debug__" : Str)) = false) (tk : L2.Takes X Wout)
    (hb : ∀ (W : WX) (pn : List (Addr × Obj)) (xe : Value → Shared → Prop), L2N.Takes (X.tr pn xe) W → L2.Takes (X.tr pn xe) (L2H.wPass X.K c Wout) → PassesOwn (model X.prog X.w) X.A X.env xe → PSs (X.tr pn xe) body (tb W))
    (r0 : Raises X c0)
    (he : ∀ (a : Addr) (oe : Obj) (pn : List (Addr × Obj)) (xe : Value → Shared → Prop), L2H.HotC (suiteY X a ((a, oe) :: pn) xe) → L2H.PMk5 (suiteY X a ((a, oe) :: pn) xe) e t) :
    PS X (.Try body [.ExceptHandler (some (.Name x np)) (some n) [.Raise (some e) (some (.Name n cpos)) rpos] pos'] [] [] pos) (fun D σ H => tb (wFrom X.K c c0 i t Wout) D σ H) := by
  refine ⟨fun pins s σ H D I h => ?_⟩
  have okX := I.ok
  have frs0 : X.A.frames = some (X.env :: X.outer) := by rw [okX.frames, stk]
  have notFr : ∀ {B h : Heap} {a : Addr} {o : Obj} {vs : Array Value}, h.FunFrames B (X.env :: X.outer) → h.get? a = some o → o.data = .fields vs → a ∉ frs (X.env :: X.outer) := fun {B h a o vs} ff q dd hm => by
    obtain ⟨_, o1, q1, hnf⟩ := ff.mem hm
    rw [q] at q1
    cases q1
    exact hnf _ dd
  have on : ∀ {a : Addr} {B : Heap} {sI s1 : Shared} {σ1 : L2.St} {H1 : Hp} {cls : Value} {d : Option Addr} {h3 : Heap}, Inv X pins σ1 H1 sI → (∀ b o, sI.heap.get? b = some o → b ∉ frs X.stack → B.get? b = some o) → sI.heap.UpToSlots h3 →
      HandSPX.FlyingZ B (X.env :: X.outer) a (Zc cls d) h3 → H1 a = none → s1.os = sI.os → AllBare s1.gens → Wout cls d σ1 H1 → wpAny (model X.prog X.w) X.A (handleBy (.ref a) X.env []) (SP X pins D) X.xe { s1 with heap := h3 } := by
    intro a B sI s1 σ1 H1 cls d h3 J nb up fl3 na os ag wv
    refine wpAny_handleBy_nil ?_
    obtain ⟨_, _, _, oe, vs, tb0, oT, ts0, at3, hz, dat, v1, rest⟩ := id fl3
    have fin : wpAny (model X.prog X.w) X.A (setFlight (.ref a) X.env.frame) (fun _ s4 => wpAny (model X.prog X.w) X.A (throw (.ref a) : Sem Flow) (SP X pins D) X.xe s4) X.xe { s1 with heap := h3 } := by
      rw [frm]
      exact HandSPX.setFlight_upZ fl3 fun h4 hh4 up4 => wpAny_throw (tk _ _ ⟨a, B, sI, pins, σ1, H1, cls, d, rfl, J, nb, up.trans up4, .inr (.inr (by rw [stk]; exact hh4)), na, os, ag, wv⟩)
    unfold PySem.passOn
    refine wpAny_bind (wpAny_field at3 dat v1 ?_)
    rw [if_neg (show ¬ ((Value.ref tb0 == Value.none) = true) by simp)]
    first | exact wpAny_bind (wpAny_pure (wpAny_bind fin)) | exact wpAny_bind fin
  refine wpAny_Try_except (wpAny_mono ((hb (wFrom X.K c c0 i t Wout) (X.pn ++ pins) (fun u s₁ => wpAny (model X.prog X.w) X.A (noteFrame u X.env) (fun _ s₂ => wpAny (model X.prog X.w) X.A (setFlight u none) (fun _ s₃ => wpAny (model X.prog X.w) X.A (handleBy u X.env [.ExceptHandler (some (.Name x np)) (some n) [.Raise (some e) (some (.Name n cpos)) rpos] pos']) (SP X pins D) X.xe s₃) X.xe s₂) X.xe s₁) (fun u s1 xx => ?_) (fun u s1 xx => ?_) PassesOwn.looking).run [] s σ H D (I.toTry _) h) (fun f s1 done => ?_) (fun _ _ z => z))
  · -- one without a context
    obtain ⟨a, B, sI, pins1, σ1, H1, cls, d, rfl, J0, nb, up, sky, na, os, ag, b, hb1, yes, no⟩ := xx
    have J : Inv X pins σ1 H1 sI := J0.ofTry okX
    have sky : Sky B X.stack a (L2N.Zn cls d) X.env.locals s1.heap := sky
    rw [stk] at sky
    have Ba : B.get? a = none := by
      rcases sky with q | q | q
      · exact q.2.1
      · exact q.2.1
      · exact q.2.1
    show wpAny (model X.prog X.w) X.A (noteFrame (.ref a) X.env) _ _ _
    refine L2N.Sky.land L2N.Zn.steady frs0 frm sky fun h3 fl3 up3 => ?_
    have J3 : Inv X pins σ1 H1 { s1 with heap := h3 } := J.landed nb fl3.1 (up.trans up3) os ag
    obtain ⟨oe3, vs3, at3, zn3, dat3⟩ := fl3.there
    have nfr : a ∉ frs (X.env :: X.outer) := notFr fl3.2.2.1 at3 dat3
    have nL : a ≠ X.env.locals := fun z => nfr (List.mem_filterMap.mpr ⟨X.env, List.mem_cons_self, by rw [frm, z]⟩)
    have nF : a ∉ X.fs := fun hm => by
      obtain ⟨e1, he1, q⟩ := List.mem_filterMap.mp hm
      exact nfr (List.mem_filterMap.mpr ⟨e1, List.mem_cons_of_mem _ he1, q⟩)
    have S3 := J3.suite at3 dat3 na nL nF
    have LT : PySem.W.Looks (model X.prog X.w) h3 (typeOf (.ref a)) cls := fun A Q E s k q => wpAny_typeOf_ref (k _ _ at3) (by rw [zn3.1]; exact q)
    have LM := PySem.W.exm_one (M := model X.prog X.w) J3.kIn LT hb1
    refine wpAny_handleBy_cons (codeAny_handlers_test ?_) (by intro q; cases q)
    have name : ∀ {Q : Value → Shared → Prop} {E : Value → Shared → Prop}, Q c { s1 with heap := h3 } → wpAny (model X.prog X.w) (X.A.mark (some (.ref a))) (eval (.Name x np) X.env) Q E { s1 with heap := h3 } := fun {Q E} q => by
      obtain ⟨hg, hdbg, hm | ⟨hm, hv, hnn⟩⟩ := cl
      · exact ld_glob (X := X.suite a ((a, oe3) :: (X.pn ++ pins))) S3 hg hm q hdbg
      · exact ld_blt (X := X.suite a ((a, oe3) :: (X.pn ++ pins))) S3 hg hm hv q hnn hdbg
    refine name (LM.here ?_)
    cases b with
    | false =>
      show wpAny _ X.A (handleBy (.ref a) X.env []) _ _ _
      exact on J nb (up.trans up3) (L2H.flyingZ_imp (fun o z => z.zc) fl3) na os ag (no rfl)
    | true =>
      obtain ⟨ec, goes⟩ := yes rfl
      subst ec
      have yes := goes a na
      refine codeAny_handlers_suite_as (HandSPX.lands_againZ fl3 fun h4 fl4 up4 => ?_)
      have J4 : Inv X pins σ1 H1 { s1 with heap := h4 } := J.landed nb fl4.1 ((up.trans up3).trans up4) os ag
      obtain ⟨oe4, vs4, at4, zn4, dat4⟩ := fl4.there
      have S4 := J4.suite at4 dat4 na nL nF
      have lc : Loc X.env.scope n := .inl loc
      refine store_ok (X := X.suite a ((a, oe4) :: (X.pn ++ pins))) (v := .ref a) S4 nod at_ lc rfl (fun s5 S5 => ?_) (.inr loc)
      have nb0 : X.base.get? a = none := by
        cases q : X.base.get? a with
        | none => rfl
        | some o =>
          have := nb a o (J.bk a o q) (by rw [stk]; exact nfr)
          rw [Ba] at this
          cases this
      have S6 : Inv (suiteY X a ((a, oe4) :: (X.pn ++ pins)) (fun u s' => L2.XE (L2H.suiteX X a ((a, oe4) :: (X.pn ++ pins))) (fun cls d σ H => Wout cls d (σ.set i none) H) u s')) [] (σ1.set i (some (.ref a))) H1 s5 :=
        Inv.wish (X := L2H.suiteX X a ((a, oe4) :: (X.pn ++ pins))) (L2H.suiteX_of S5) _
      have tkY : L2.Takes (suiteY X a ((a, oe4) :: (X.pn ++ pins)) (fun u s' => L2.XE (L2H.suiteX X a ((a, oe4) :: (X.pn ++ pins))) (fun cls d σ H => Wout cls d (σ.set i none) H) u s')) (fun cls d σ H => Wout cls d (σ.set i none) H) := fun u2 s2 x2 => by
        obtain ⟨a2, B2, sI2, pn2, σ2, H2, cls2, d2, e2, I2, nb2, up2, sky2, na2, os2, ag2, w2⟩ := x2
        exact ⟨a2, B2, sI2, pn2, σ2, H2, cls2, d2, e2, Inv.unwish (X := L2H.suiteX X a ((a, oe4) :: (X.pn ++ pins))) I2, nb2, up2, sky2, na2, os2, ag2, w2⟩
      have hot : L2H.HotC (suiteY X a ((a, oe4) :: (X.pn ++ pins)) (fun u s' => L2.XE (L2H.suiteX X a ((a, oe4) :: (X.pn ++ pins))) (fun cls d σ H => Wout cls d (σ.set i none) H) u s')) := ⟨(a, oe4), ⟨rfl, vs4, dat4, zn4.2.2 vs4 dat4⟩, List.mem_cons_self⟩
      have hlt : i < σ1.length := by
        rw [J.len]
        exact (List.getElem?_eq_some_iff.mp at_).1
      have R := ps_raiseHE (cpos := cpos) (pos := rpos) tkY (he a oe4 (X.pn ++ pins) _ hot) at_ vis loc d1 rfl List.mem_cons_self zn4.1 dat4 (zn4.2.2 vs4 dat4) r0 nb0
      refine wpAny_mono ((pss_one R).run [] s5 _ _ { nx := fun _ _ => False, rt := fun _ _ => False, bk := fun _ _ => False, ct := fun _ _ => False } S6 ⟨by rw [List.getElem?_set_self hlt], yes⟩) (fun f s7 q7 => ?_) (fun u s7 q7 => ?_)
      · cases f with
        | next => exact let ⟨_, _, _, z⟩ := q7; z.elim
        | brk => exact let ⟨_, _, _, z⟩ := q7; z.elim
        | cont => exact let ⟨_, _, _, z⟩ := q7; z.elim
        | ret u => exact let ⟨_, _, _, _, _, z⟩ := q7; z.elim
      · exact as_tail okX stk frm nod at_ loc tk q7
  · -- any other
    obtain ⟨a, B, sI, pins1, σ1, H1, cls, d, rfl, J0, nb, up, sky, na, os, ag, hb1, hno⟩ := xx
    have J : Inv X pins σ1 H1 sI := J0.ofTry okX
    have sky : Sky B X.stack a (Zc cls d) X.env.locals s1.heap := sky
    rw [stk] at sky
    show wpAny (model X.prog X.w) X.A (noteFrame (.ref a) X.env) _ _ _
    refine L2.Sky.land Zc.steady frs0 frm sky fun h3 fl3 up3 => ?_
    have J3 : Inv X pins σ1 H1 { s1 with heap := h3 } := J.landed nb fl3.1 (up.trans up3) os ag
    obtain ⟨oe3, vs3, at3, zc3, dat3⟩ := fl3.there
    have nfr : a ∉ frs (X.env :: X.outer) := notFr fl3.2.2.1 at3 dat3
    have nL : a ≠ X.env.locals := fun z => nfr (List.mem_filterMap.mpr ⟨X.env, List.mem_cons_self, by rw [frm, z]⟩)
    have nF : a ∉ X.fs := fun hm => by
      obtain ⟨e1, he1, q⟩ := List.mem_filterMap.mp hm
      exact nfr (List.mem_filterMap.mpr ⟨e1, List.mem_cons_of_mem _ he1, q⟩)
    have S3 := J3.suite at3 dat3 na nL nF
    have LT : PySem.W.Looks (model X.prog X.w) h3 (typeOf (.ref a)) cls := fun A Q E s k q => wpAny_typeOf_ref (k _ _ at3) (by rw [zc3.1]; exact q)
    have LM := PySem.W.exm_one (M := model X.prog X.w) J3.kIn LT hb1
    refine wpAny_handleBy_cons (codeAny_handlers_test ?_) (by intro q; cases q)
    have name : ∀ {Q : Value → Shared → Prop} {E : Value → Shared → Prop}, Q c { s1 with heap := h3 } → wpAny (model X.prog X.w) (X.A.mark (some (.ref a))) (eval (.Name x np) X.env) Q E { s1 with heap := h3 } := fun {Q E} q => by
      obtain ⟨hg, hdbg, hm | ⟨hm, hv, hnn⟩⟩ := cl
      · exact ld_glob (X := X.suite a ((a, oe3) :: (X.pn ++ pins))) S3 hg hm q hdbg
      · exact ld_blt (X := X.suite a ((a, oe3) :: (X.pn ++ pins))) S3 hg hm hv q hnn hdbg
    refine name (LM.here ?_)
    show wpAny _ X.A (handleBy (.ref a) X.env []) _ _ _
    exact on J nb (up.trans up3) fl3 na os ag hno
  · cases f with
    | next => exact let ⟨_, _, J, q⟩ := done; wpAny_execs_nil ⟨_, _, J.ofTry okX, q⟩
    | brk => exact let ⟨_, _, J, q⟩ := done; ⟨_, _, J.ofTry okX, q⟩
    | cont => exact let ⟨_, _, J, q⟩ := done; ⟨_, _, J.ofTry okX, q⟩
    | ret u => exact let ⟨_, _, _, J, r, q⟩ := done; ⟨_, _, _, J.ofTry okX, r, q⟩
end
end DRf

/-! i // j that may raise; own exceptions over any base, made while another is handled -/
namespace DRd
open PySem PySem.Spec PyProof.Rows L2
theorem ty_zde : typeOf (.type "ZeroDivisionError") = pure (.type "type") := by kernel_rfl
theorem raises_zde {X : Cx} : Raises X (.type "ZeroDivisionError") := fun _ _ _ => ⟨PySem.W.Looks.of_pure excClass_ZeroDivisionError.base, PySem.W.Looks.of_pure ty_zde⟩
theorem exm_zde {K : PySem.W.Frag} : PySem.W.exmOne K (.type "ZeroDivisionError") (.type "ZeroDivisionError") = some true := by kernel_rfl
theorem okH {P : Program} {w : World} {K : PySem.W.Frag} {mg : Str → Option Value} {base : Heap} {CX : CXT} {x qual : Str} {st : Stmt} {f : Addr} {fd : FuncData} {N ps : List Str} {k : Nat} {sp : Sp} (F : Fun K x qual st f fd) (S : FnScope N ps (defScope st)) (len : ∀ vs H Q E, sp vs H Q E → vs.length = ps.length)
    (hbody : ∀ (cdv : Value) (A : Around) (outer : List Env) (s : Shared) (H : Hp) (vs : List V) (Q : VK) (E : XK) (p : Addr × Obj), L2H.Hot1 A p → L2H.RoomH k (A.deeper (envOfC qual (defScope st) s.heap.objs.size f cdv)) → sp vs H Q E →
      ∃ t, PSs (L2H.cxH CX P w K mg base N qual (defScope st) f cdv A outer s H E p) (defBody st) t ∧ t { nx := fun _ H' => Q .non H', rt := Q } (L2.start N vs) H) : L2H.FnH P w K mg base CX (k + 1) f fd ps sp := by
  obtain ⟨oc, od, kV, doc, pm, an, cdv, ct, osl, rfl, lk, hcd⟩ := F.ex
  exact L2H.fn_ofH lk hcd S len fun A outer s H vs Q E p hot hr hsp => hbody cdv A outer s H vs Q E p hot hr hsp
def tDivX (W : WX) (ta tb : TE) : TE := fun σ H Q => ta σ H fun x H1 => tb σ H1 fun y H2 => ∃ i j : Int, x = .int i ∧ y = .int j ∧ (0 ≤ j ∧ j < 1073741824) ∧ (0 < j → Q (.int (i / j)) H2) ∧ (j = 0 → ∀ d, W (.type "ZeroDivisionError") d σ H2)
section
variable {X : Cx} {W : WX} {a b : Expr} {ta tb : TE} {pos : Pos}
theorem pe_divX (hc : X.calm = true) (tk : L2N.Takes X W) (ha : PE X a ta) (hb : PE X b tb) : PE X (.BinOp a .FloorDiv b pos) (tDivX W ta tb) := by
  refine ⟨fun pins s σ H Q I h => wpAny_BinOp (binT ha hb I (R := fun x y H2 => ∃ i j : Int, x = .int i ∧ y = .int j ∧ (0 ≤ j ∧ j < 1073741824) ∧ (0 < j → Q (.int (i / j)) H2) ∧ (j = 0 → ∀ d, W (.type "ZeroDivisionError") d σ H2)) h fun v u s2 x y H2 I2 rx ry q => ?_)⟩
  obtain ⟨i, j, rfl, rfl, j0, yes, no⟩ := q
  by_cases hj : j = 0
  · subst hj
    obtain ⟨t1, rfl⟩ := rx
    obtain ⟨t2, rfl⟩ := ry
    exact PySem.AutoIntOps.floordiv_0 (by rfl) ⟨I2.ok.hd hc, fun h' tk' e hx => L2N.takes_newN (t' := tk') tk I2 hx (no rfl)⟩
  · exact op_fdiv pins s2 σ H2 (.int i) (.int j) v u Q I2 rx ry ⟨i, j, rfl, rfl, ⟨by omega, by omega⟩, yes (by omega)⟩
end
section
variable {X : Cx} {e : Expr} {es : List Expr} {ta : TA} {p pos : Pos} {B newId initId : String} {bmB : List Value}
theorem pmk5_oexBH {CX : CXT} {x : Str} {C fI : Addr} {k : Nat} {fd : FuncData} {ps : List Str} {sp : Sp} (BF : DXg.BaseX B newId initId bmB) (T : DXg.OexB X.K C newId bmB) (iC : PySem.W.findIn X.K (.ref C) "__init__" = some (some (.ref fI))) (tI : PySem.W.typeIn X.K (.ref fI) = some (.type "function"))
    (F1 : L2H.FnH X.prog X.w X.K X.mg X.base CX k fI fd ps sp) (hr : L2H.RoomH (k + 1) X.A) (hot : L2H.HotC X) (hb : Binds X.K fd ps []) (hx : Passes CX X (fun _ _ _ => False)) (hg : Gl X x) (hm : X.mg x = some (.ref C)) (ha : PA X (e :: es) ta)
    (hdb : (x == ("__debug__" : Str)) = false := by decide) (he : starEach (e :: es) X.env = (false, eval e X.env) :: starEach es X.env := by rfl) (hpl : (backTo pos (starEach es X.env)).any (·.1) = false := by rfl) :
    L2H.PMk5 X (.Call (.Name x p) (e :: es) [] pos) (tMkO C sp [] ta) := by
  intro pins s σ H Q I h
  obtain ⟨nm, q, N, bs, bm, sn, sub, ab, col, dd, k0, k1, k2, k3, k5, hlk, ht⟩ := T.cls
  obtain ⟨pn, warm, hpn⟩ := hot
  refine wpAny_Call_Name_kw (ld_glob I hg hm (PySem.W.callWith_K (h₀ := X.base) I.ok.mod.kin T.kC (thn (ha.run pos pins s σ H _ I h) fun us s1 ⟨vs, H1, I1, r1, hz, q1⟩ => ⟨I1.kIn, ?_⟩) he hpl) hdb)
  show wpAny _ _ (call (.ref C) us) _ _ _
  obtain ⟨hp, g, dr, tk, os⟩ := s1
  have sz : hp.objs.size ≤ hp.objs.size + 1 := Nat.le_succ _
  have hn : H1 (hp.objs.size + 1) = none := I1.hok.fresh sz
  have hq := q1 (hp.objs.size + 1) hn
  rw [List.append_nil] at hq
  obtain ⟨h3, eh3⟩ : ∃ h3, h3 = (hp.push (PySem.W.kdv_tup us)).push (PySem.HandSPX.excO C hp.objs.size) := ⟨_, rfl⟩
  have kp : ∀ c o, hp.get? c = some o → h3.get? c = some o := fun c o e => by rw [eh3]; exact Heap.get?_push_of_some _ (Heap.get?_push_of_some _ e)
  have got : h3.get? (hp.objs.size + 1) = some (PySem.HandSPX.excO C hp.objs.size) := by rw [eh3]; heap_get
  have I2 : Inv X pins σ (upd H1 (hp.objs.size + 1) (exo (hp.objs.size + 1) C none)) ⟨h3, g, dr, tk, os⟩ := I1.laid (t' := tk) kp sz (exo_ok got)
  have r2 : Vals (V.ref (hp.objs.size + 1) :: vs) (Value.ref (hp.objs.size + 1) :: us) := .cons rfl r1
  have hl : (Value.ref (hp.objs.size + 1) :: us ++ []).length = ps.length := by
    have e := r2.length
    rw [F1.len _ _ _ _ hq] at e
    rw [List.append_nil]
    exact e.symm
  have hus : us.length ≤ sizeLine := by
    rw [← Paired.length r1, sizeLine_eq]
    omega
  have b2 := hb ⟨h3, g, dr, tk, os⟩ (Value.ref (hp.objs.size + 1) :: us) I2.kIn hl
  rw [List.append_nil] at b2
  have P1 := I2.pin pn (List.mem_append_left _ hpn)
  have there : L2H.PinOk X.stack (upd H1 (hp.objs.size + 1) (exo (hp.objs.size + 1) C none)) ⟨h3, g, dr, tk, os⟩ pn :=
    ⟨P1.1, P1.2.1, fun hmm => (List.mem_cons.mp (I2.stkSub pn.1 hmm)).elim P1.2.2.1 P1.2.2.2.1, P1.2.2.2.2⟩
  refine wpAny_call (PySem.HandSPX.call_own BF.eb (fun Y => PySem.W.excTail_contains Y bm ht) (I1.kIn _ _ hlk) (PySem.W.looks_findIn I1.kIn iC) (fun self => PySem.W.bind_fn I1.kIn self tI) hus ?_)
  rw [← eh3]
  refine codeAny_mono (F1.run _ X.stack _ _ ⟨Value.ref (hp.objs.size + 1) :: us, []⟩ (Value.ref (hp.objs.size + 1) :: us) _ _ (fun _ _ _ => False) pn (hr.make C us []) ⟨warm.1, warm.2⟩ there (I2.env0.make C us []) b2 r2 hq) fun r s2 hq2 => ?_
  cases r with
  | error er => exact hx pins σ _ _ er s2 I2 hq2
  | ok fl =>
    cases fl with
    | ret u =>
      obtain ⟨v, H2, os2, bare2, un2, hok2, rv, ev, d, fs, ea, ed, hd1, q2⟩ := hq2
      subst ev
      obtain ⟨h2, g2, d2, t2, os'⟩ := s2
      obtain ⟨t0, G, J, kG, ge, hoe, na⟩ := mk_end0 (d2 := d2) (t2 := t2) I1 sz kp un2 hok2 os2 bare2 ea ed hd1
      refine ⟨rv, ⟨hp.objs.size + 1, _, _, ⟨G, g2, d2, t2, os'⟩, _, .ref C, some d, rfl, J, kG, ge, hoe, ⟨rfl, rfl, fun vs hv => ?_⟩, rfl, rfl, na, rfl, bare2, raises_own T.exC T.tyC, q2⟩, fun b oe ws eb gb db => ?_⟩
      · cases hv
        rfl
      · cases eb
        have gb : h2.get? (hp.objs.size + 1) = some oe := gb
        rw [hoe] at gb
        cases gb
        cases db
        show (4 : Nat) < 6
        decide
    | _ => exact False.elim hq2
end
end DRd
namespace DL
open PySem PySem.Spec PyProof.Rows L2
section
variable {K : PySem.W.Frag} {Δ : Sl} {G L : List M} {E : EndsD} {ta tb : TE}
theorem st_divX {Wi : WX} {k : Nat} (h : EvC K ta Δ G L fun x G1 L1 => EvC K tb Δ G1 L1 fun y G2 Lb => ∃ i j : Int, x = .d (.int i) ∧ y = .d (.int j) ∧ (0 ≤ j ∧ j < 1073741824) ∧ (0 < j → E.nx (Δ.set k (some (.d (.int (i / j))))) G2 Lb) ∧
    (j = 0 → ∀ w ls H, E.wd w ls H → ∀ σ d, Ctx K w ls σ H Δ G2 Lb → Wi (.type "ZeroDivisionError") d σ H)) : StC K (tAsg (DRd.tDivX Wi ta tb) (gName k)) Δ G L E := fun w ls σ H c D s => h w ls σ H c _ fun v x H1 G1 L1 c1 e1 r1 h2 => h2 w ls σ H1 c1 _ fun u y H2 G2 Lb c2 e2 r2 ⟨i, j, ex, ey, hj, yes, no⟩ => by
  subst ex
  subst ey
  obtain rfl : v = V.int i := r1
  obtain rfl : u = V.int j := r2
  refine ⟨i, j, rfl, rfl, hj, fun z => ?_, fun z d => ?_⟩
  · exact s.nx ls _ H2 _ G2 Lb (c2.slot (s := .d (.int (i / j))) rfl) ((e1.trans e2).grow c.reg) (yes z)
  · exact no z w ls H2 (s.wd ls H2 ((e1.trans e2).grow c.reg)) σ d c2
theorem Ctx.hideS {w : W} {ls : List Addr} {σ : L2.St} {H : Hp} {i : Nat} {v : V} (c : Ctx K w ls σ H Δ G L) : Ctx K w ls (σ.set i (some v)) H (Δ.set i none) G L := by
  refine ⟨c.reg, c.rin, c.nd, c.fr, c.h0, ⟨by rw [List.length_set, List.length_set, c.sl.1], fun j z e => ?_⟩, c.gl, c.lo, c.ld⟩
  rw [List.getElem?_set] at e ⊢
  split at e
  · split at e <;> cases e
  · rename_i hij
    rw [if_neg hij]
    exact c.sl.2 j z e
theorem st_tryFrom {c : Value} {i : Nat} {t : L2.St → Hp → XK → Prop} {Wo : WX} {tb : WX → TS} (Qs : Sl → List M → List M → Prop) (hx : PySem.W.exmOne K (.type "ZeroDivisionError") c = some true)
    (h : ∀ Wi : WX, StC K (tb Wi) Δ G L { E with wd := fun w ls H => ∀ (σ : L2.St) (Δ' : Sl) (G' L' : List M) (d : Option Addr), Ctx K w ls σ H Δ' G' L' → Qs Δ' G' L' → Wi (.type "ZeroDivisionError") d σ H })
    (hs : ∀ Δ' G' L', Qs Δ' G' L' → StC K (fun _ σ H => t σ H fun cls d H' => Wo cls d (σ.set i none) H') (Δ'.set i none) G' L' E) : StC K (fun D σ H => tb (DRf.wFrom K c (.type "ZeroDivisionError") i t Wo) D σ H) Δ G L E := fun w ls σ H cx D s => by
  refine h (DRf.wFrom K c (.type "ZeroDivisionError") i t Wo) w ls σ H cx D ⟨s.nx, s.rt, s.bk, s.ct, fun ls' H' g' => ?_⟩
  intro σ' Δ' G' L' d c' q
  refine ⟨true, hx, fun _ => ⟨rfl, fun a na => ?_⟩, fun e => (by cases e)⟩
  exact hs Δ' G' L' q w ls' (σ'.set i (some (.ref a))) H' c'.hideS D (s.on g')
end
end DL

/-! repr of tuples and lists that hold instances with a __repr__ of their own -/
namespace DRo
open PySem PySem.Spec PyProof.Rows L2 DL
open Builtin Builtin.List
section
variable {prog : Program} {w : World} {A : Around} {E : Value → Shared → Prop} {s : Shared} {K : PySem.W.Frag} {x C f : Addr} {ox : Obj} {od : Option Obj}
theorem byBound_K {M : Model} {name : Str} {last : Value → List Value → Sem Value} {Q : Option Value → Shared → Prop} (X : K.In s.heap) (I : PySem.W.InstAt s.heap x ox C od) (hs : PySem.W.findIn K (.ref C) name = some (some (.ref f))) (hf : PySem.W.isFn K (.ref f) = true)
    (h : wpAny M A (last (.ref f) [.ref x]) (fun v => Q (some v)) E s) : wpAny M A (callSpecialIfBoundBy? last (.ref x) name) Q E s := by
  simp only [callSpecialIfBoundBy?, bindSpecialIfBound?]
  refine wpAny_holding (wpAny_bind (wpAny_bind (wpAny_bind (I.type.here ((PySem.W.looks_findIn X hs).here ?_)))))
  refine wpAny_bind (wpAny_askSetting (wpAny_ite ?_))
  have fin : wpAny M A (last (.ref f) [.ref x] >>= fun v => pure (some v)) Q E s := wpAny_bind (wpAny_mono h (fun v s' h' => wpAny_pure h') fun _ _ h' => h')
  split
  · exact wpAny_bind ((PySem.W.bind_fn X _ (beq_iff_eq.mp hf)).here (wpAny_pure (by exact fin)))
  · exact wpAny_tryCatch (wpAny_bind ((PySem.W.bind_fn X _ (beq_iff_eq.mp hf)).here (wpAny_pure (by exact fin))))
theorem under_obj {base : Nat} {Q : Value → Shared → Prop} (hu : A.units < cLine) (X : K.In s.heap) (I : PySem.W.InstAt s.heap x ox C od) (hs : PySem.W.findIn K (.ref C) "__repr__" = some (some (.ref f))) (hf : PySem.W.isFn K (.ref f) = true)
    (h : wpAny (model prog w) A (call (.ref f) [.ref x]) (PySem.W.StrBack Q) E s) : wpAny (model prog w) A (pyReprObjUnder base (.ref x)) Q E s := by
  unfold pyReprObjUnder pyReprObjBy
  refine wpAny_bind (m := cRoomFor _ _) (wpAny_cRoomFor hu ?_)
  refine wpAny_bind (wpAny_bind (I.type.here ((PySem.W.looks_findIn X hs).here ?_)))
  show wpAny _ _ (if (some (Value.ref f)).isNone = true then _ else _) _ _ _
  rw [if_neg (by simp)]
  refine wpAny_bind (byBound_K X I hs hf (wpAny_mono h (fun r s' hr => ?_) fun _ _ y => y))
  cases r <;> first | exact hr.elim | skip
  refine wpAny_bind (wpAny_isInstance (T := "str") (b := true) (typeIs_str _ _ _) isSubtype_str_str ?_)
  first
    | exact wpAny_pure hr
    | (rw [if_pos rfl]; exact wpAny_pure hr)
    | (simp only [if_true]; exact wpAny_pure hr)
end
/-! ### a tuple, item by item, in any state -/
section
variable {prog : Program} {w : World} {A : Around} {E : Value → Shared → Prop} {S : List (Value × Str) → Shared → Prop}
theorem tupFoldG (hS : ∀ x t l base s, base + t.length ≤ sizeLine → S ((x, t) :: l) s → wpAny (model prog w) A (pyReprUnder base x) (fun t' s' => t' = t ∧ S l s') E s) :
    ∀ (l : List (Value × Str)) (acc : Array Str) (n : Nat) (s : Shared) (Q : (Array Str × Nat) → Shared → Prop), n + piled (l.map (·.2)) ≤ sizeLine → S l s →
      (∀ s', S [] s' → Q ⟨acc ++ (l.map (·.2)).toArray, n + piled (l.map (·.2))⟩ s') → wpAny (model prog w) A (forIn (l.map (·.1)) (⟨acc, n⟩ : (Array Str × Nat)) tupBody) Q E s := by
  intro l
  induction l with
  | nil =>
    intro acc n s Q _ h0 h
    have h0 := h s h0
    simp only [List.map_nil, List.forIn_nil]
    exact wpAny_pure (by simpa [piled] using h0)
  | cons p l ih =>
    obtain ⟨x, t⟩ := p
    intro acc n s Q hn h0 h
    simp only [List.map_cons] at hn h ⊢
    rw [piled_cons] at hn
    rw [List.forIn_cons]
    refine wpAny_bind (wpAny_bind (wpAny_mono (hS x t l (n + 1) s (by omega) h0) (fun t' s' q => ?_) fun _ _ y => y))
    obtain ⟨rfl, q⟩ := q
    refine wpAny_pure ?_
    refine ih (acc.push t') (n + (t'.length + 2)) _ Q (by omega) q fun s'' h'' => ?_
    have h1 := h s'' h''
    have e : n + piled (t' :: l.map (·.2)) = n + (t'.length + 2) + piled (l.map (·.2)) := by rw [piled_cons]; omega
    rw [e] at h1
    simpa using h1
end
section
variable {prog : Program} {w : World} {S : List (Value × Str) → Shared → Prop} {a : Addr} {o : Obj} {l : List (Value × Str)} {n : Nat} {A : Around} {g : List Code} {s : Shared} {base : Nat}
theorem wpOwn_tupleG {R : Result → Shared → Prop} {id : String} {rest : List Value} (ha : s.heap.get? a = some o) (hd : o.data = .seq (l.map (·.1)).toArray n)
    (hS : ∀ x t l base s, base + t.length ≤ sizeLine → S ((x, t) :: l) s → wpAny (model prog w) (A.under (.builtin id ⟨.ref a :: rest, []⟩)) (pyReprUnder base x) (fun t' s' => t' = t ∧ S l s') (fun e s' => R (.error e) s') s)
    (hg : A.guards = some g) (hca : Clear g a) (h0 : S l s) (hR : ∀ s' u tk, S [] s' → R (.ok (.ret (.str (tupleText (l.map (·.2))) u))) { s' with toks := tk })
    (hsz : base + (tupleText (l.map (·.2))).length ≤ sizeLine) :
    wpOwn (model prog w) A (.builtin id ⟨.ref a :: rest, []⟩) (Builtin.tupleReprAt base ⟨[.ref a], []⟩) (fun fin s' => match fin with | .done f => R (.ok f) s' | .again c' => c'.quiet = true ∧ codeAny (model prog w) A c' R s') (fun e s' => R (.error e) s') s := by
  have hp := piled_le_tupleText (l.map (·.2))
  have hsz0 : (tupleText (l.map (·.2))).length ≤ sizeLine := by omega
  rw [tuple_repr_tree, tupleReprUnderWay_eq]
  refine wpOwn_bind (wpOwn_stackTailAny hg (tupGuardF_off _) (tupGuardF_pos _) ?_)
  have hn : (g.any fun c => tupGuardF (.ref a) (c, default)) = false := by
    rw [List.any_eq_false]
    intro c hcm
    rw [tupGuardF_of_clear hca c hcm]
    exact Bool.false_ne_true
  rw [hn]
  refine wpOwn_of_wpAny ?_
  show wpAny _ _ (tupleReprRest base (.ref a)) _ _ s
  unfold tupleReprRest Builtin.Tuple.tupleItemsOf
  refine wpAny_bind (wpAny_bind (wpAny_seqItems ha hd (wpAny_pure ?_)))
  rw [← Array.forIn_toList]
  refine wpAny_bind (tupFoldG hS l _ _ _ _ (by omega) h0 fun s' hs' => ?_)
  refine wpAny_bind (wpAny_mkStr (wpAny_pure ?_) (by simpa [tupleText] using hsz0))
  have h1 := hR s' s'.toks (s'.toks + 1) hs'
  simpa [tupleText] using h1
end
theorem under_rp {id : String} (h : id = "tuple.__repr__" ∨ id = "tuple.__repr__.under" ∨ id = "list.__repr__.loop") (A : Around) (args : Args) : (A.under (.builtin id args)).frames = A.frames ∧ (A.under (.builtin id args)).handled = A.handled ∧ (A.under (.builtin id args)).depth ≤ A.depth + 1 ∧ (A.under (.builtin id args)).units = A.units + 1 := by
  rcases h with rfl | rfl | rfl <;> refine ⟨?_, ?_, ?_, ?_⟩ <;> first | rfl | simp [Around.under, Code.weight, Code.isCreation, Code.isGuard, Code.isCaller, Code.frames, Code.isFrame, Code.cUnits, guardIds]
theorem sub_under {X : Cx} {n : Nat} {A : Around} {id : String} {args : Args} (sb : L2.Sub X (n + 1) A) (h : id = "tuple.__repr__" ∨ id = "tuple.__repr__.under" ∨ id = "list.__repr__.loop") : L2.Sub X n (A.under (.builtin id args)) := by
  obtain ⟨h1, h2, h3, h4⟩ := under_rp h A args
  refine ⟨⟨h2.trans sb.room.hd, ?_, ?_⟩, h1.trans sb.fr⟩
  · have := sb.room.dp
    omega
  · have := sb.room.un
    omega
abbrev RpT := V → Str → Hp → (Hp → Prop) → Prop
def RpR (X : Cx) (n : Nat) (cl : List Code → Addr → Prop) (r : RpT) : Prop :=
  ∀ (A : Around) (g : List Code) (base : Nat) (pins : List (Addr × Obj)) (s : Shared) (σ : L2.St) (H : Hp) (x : V) (u : Value) (t : Str) (Q : Hp → Prop), L2.Sub X n A → A.guards = some g → (∀ b, x = .ref b → cl g b) → base + t.length ≤ sizeLine → Inv X pins σ H s → RelV x u → r x t H Q →
    wpAny (model X.prog X.w) A (pyReprUnder base u) (fun t' s' => t' = t ∧ ∃ H', Inv X pins σ H' s' ∧ Q H') X.xe s
def ShL (P : Hp → Prop) (r : RpT) : List V → List Str → Hp → (Hp → Prop) → Prop
  | [], [], H, Q => Q H
  | x :: xs, t :: ts, H, Q => r x t H fun H' => P H' ∧ ShL P r xs ts H' Q
  | _, _, _, _ => False
theorem ShL.len {P : Hp → Prop} {r : RpT} : ∀ {xs : List V} {ts : List Str} {H : Hp} {Q : Hp → Prop}, xs.length = ts.length ∨ xs.length ≠ ts.length := fun {xs ts H Q} => by
  rcases Nat.decEq xs.length ts.length with h | h
  · exact .inr h
  · exact .inl h
def rpF : RpT := fun x t H Q => Q H ∧ ((x = .non ∧ t = "None") ∨ ∃ i : Int, x = .int i ∧ i.natAbs.log2 < 1920 ∧ t = Str.ofString (toString i))
def rpO (C : Addr) (sp : Sp) (E : XK) : RpT := fun x t H Q => ∃ (a dx : Addr) (fs : List (Str × V)), x = .ref a ∧ H a = some (.ins C dx fs) ∧ sp [.ref a] H (fun v H1 => v = .str t ∧ Q H1) E
def rpU (K : PySem.W.Frag) (r : RpT) : RpT := fun x t H Q => ∃ (a : Addr) (xs : List V) (ts : List Str), x = .ref a ∧ xs.length = ts.length ∧ t = tupleText ts ∧ SqT K H a xs ∧ ShL (fun _ => True) r xs ts H Q
def rpU1 (K : PySem.W.Frag) (r : RpT) : RpT := fun x t H Q => ∃ (a : Addr) (xs : List V) (ts : List Str), x = .ref a ∧ xs.length = ts.length ∧ t = tupleText ts ∧ SqT K H a xs ∧ (∀ y ∈ xs, y ≠ .ref a) ∧ ShL (fun _ => True) r xs ts H Q
section
variable {X : Cx} {n m k : Nat} {cl : List Code → Addr → Prop} {r r' : RpT} {CX : CXT} {C f : Addr} {fd : FuncData} {ps : List Str} {sp : Sp} {E : XK}
theorem RpR.mono (h : RpR X n cl r) (hn : n ≤ m) : RpR X m cl r := fun A g base pins s σ H x u t Q sb => h A g base pins s σ H x u t Q (sb.mono hn)
theorem RpR.or (h : RpR X n cl r) (h' : RpR X n cl r') : RpR X n cl (fun x t H Q => r x t H Q ∨ r' x t H Q) := fun A g base pins s σ H x u t Q sb hg hc hb I rx d =>
  d.elim (h A g base pins s σ H x u t Q sb hg hc hb I rx) (h' A g base pins s σ H x u t Q sb hg hc hb I rx)
theorem RpR.ofT (h : RpR X n (fun _ _ => True) r) : RpR X n cl r := fun A g base pins s σ H x u t Q sb hg _ => h A g base pins s σ H x u t Q sb hg fun _ _ => trivial
theorem rp_flat : RpR X 0 (fun _ _ => True) rpF := by
  intro A g base pins s σ H x u t Q sb hg _ hb I rx d
  obtain ⟨q, ⟨rfl, rfl⟩ | ⟨i, rfl, hi, rfl⟩⟩ := d
  · obtain rfl : u = Value.none := rx
    exact ReprIs.none base hb A _ s _ fun tk => ⟨rfl, H, I.tok tk, q⟩
  · obtain ⟨t, rfl⟩ := rx
    exact ReprIs.int t hi base hb A _ s _ fun tk => ⟨rfl, H, I.tok tk, q⟩
theorem rp_own (F : FnOk X.prog X.w X.K X.mg X.base CX k f fd ps sp) (hs : PySem.W.findIn X.K (.ref C) "__repr__" = some (some (.ref f))) (hf : PySem.W.isFn X.K (.ref f) = true) (hb : Binds X.K fd ps []) (hx : Passes CX X E) : RpR X k (fun _ _ => True) (rpO C sp E) := by
  intro A g base pins s σ H x u t Q sb hg _ hz I rx d
  obtain ⟨a, dx, fs, rfl, ea, h⟩ := d
  obtain rfl : u = Value.ref a := rx
  obtain ⟨mA, J, _⟩ := ins_get I.hok ea
  obtain ⟨od, J, _⟩ := J.look
  refine wpAny_pyReprUnder_ref (by omega) (under_obj sb.room.units0 I.kIn J hs hf ?_)
  refine DOw.run_own (A1 := A) (vs := [V.ref a]) (us := [Value.ref a]) sb.fr F sb.room hb hx I (.cons rfl .nil) h fun u v s' H' I' rv qv => ?_
  obtain ⟨rfl, q⟩ := qv
  obtain ⟨tk, rfl⟩ := rv
  exact ⟨t, tk, rfl, rfl, H', I', q⟩
theorem vals_zip {xs : List V} {its : List Value} {ts : List Str} (r : Vals xs its) (h : xs.length = ts.length) : (its.zip ts).map (·.1) = its ∧ (its.zip ts).map (·.2) = ts := by
  have e : its.length = ts.length := r.length.symm.trans h
  exact ⟨List.map_fst_zip (by omega), List.map_snd_zip (by omega)⟩
def St1 (X : Cx) (pins : List (Addr × Obj)) (σ : L2.St) (r : RpT) (Q : Hp → Prop) (l : List (Value × Str)) (s : Shared) : Prop := ∃ H xs, Inv X pins σ H s ∧ Vals xs (l.map (·.1)) ∧ ShL (fun _ => True) r xs (l.map (·.2)) H Q
theorem rp_tupG {cl0 : List Code → Addr → Prop} (h : RpR X n cl0 r) {A : Around} {g : List Code} {base : Nat} {pins : List (Addr × Obj)} {s : Shared} {σ : L2.St} {H : Hp} {a : Addr} {xs : List V} {ts : List Str} {Q : Hp → Prop} {id : String} {rest : List Value} {R : Result → Shared → Prop}
    (hid : id = "tuple.__repr__" ∨ id = "tuple.__repr__.under" ∨ id = "list.__repr__.loop") (hcg : (Code.builtin id ⟨.ref a :: rest, []⟩).isGuard = true) (sb : L2.Sub X (n + 1) A) (hg : A.guards = some g) (hca : Clear g a)
    (hcl : ∀ y ∈ xs, ∀ b, y = .ref b → cl0 (Code.builtin id ⟨.ref a :: rest, []⟩ :: g) b) (I : Inv X pins σ H s) (hl : xs.length = ts.length) (hT : SqT X.K H a xs) (d : ShL (fun _ => True) r xs ts H Q) (hsz : base + (tupleText ts).length ≤ sizeLine)
    (hE : ∀ e s', X.xe e s' → R (.error e) s') (hR : ∀ s' u, (∃ H', Inv X pins σ H' s' ∧ Q H') → R (.ok (.ret (.str (tupleText ts) u))) s') :
    ∃ o, s.heap.get? a = some o ∧ o.cls = .type "tuple" ∧ wpOwn (model X.prog X.w) A (.builtin id ⟨.ref a :: rest, []⟩) (Builtin.tupleReprAt base ⟨[.ref a], []⟩) (fun fin s' => match fin with | .done f => R (.ok f) s' | .again c' => c'.quiet = true ∧ codeAny (model X.prog X.w) A c' R s') (fun e s' => R (.error e) s') s := by
  obtain ⟨its, rv, ⟨o, ho, hc, n0, hd⟩, _⟩ := I.tuple hT
  obtain ⟨z1, z2⟩ := vals_zip rv hl
  refine ⟨o, ho, hc, ?_⟩
  have key := wpOwn_tupleG (prog := X.prog) (w := X.w) (S := fun l s' => ∃ (H : Hp) (xs' : List V), (∀ y ∈ xs', y ∈ xs) ∧ Inv X pins σ H s' ∧ Vals xs' (l.map (·.1)) ∧ ShL (fun _ => True) r xs' (l.map (·.2)) H Q) (l := its.zip ts) (o := o) (a := a) (n := n0) (A := A) (g := g) (s := s) (base := base) (R := R) (id := id) (rest := rest) ho (by rw [z1]; exact hd)
    (fun x t l b s1 hb hs1 => ?_) hg hca ⟨H, xs, fun _ h => h, I, by rw [z1]; exact rv, by rw [z2]; exact d⟩ (fun s' u tk hs' => ?_) (by rw [z2]; exact hsz)
  · exact key
  · obtain ⟨H1, xs1, hm, I1, r1, d1⟩ := hs1
    simp only [List.map_cons] at r1 d1
    cases r1 with
    | cons ra rl =>
      rename_i x1 xs1
      have d1 : r x1 t H1 fun H' => True ∧ ShL (fun _ => True) r xs1 (l.map (fun x => x.2)) H' Q := d1
      refine wpAny_mono (h (A.under (.builtin id ⟨.ref a :: rest, []⟩)) _ b pins s1 σ H1 x1 x t _ (sub_under sb hid) (guards_under_guard hcg hg) (hcl x1 (hm x1 List.mem_cons_self)) hb I1 ra d1) (fun t' s' q => ?_) hE
      obtain ⟨rfl, H2, I2, _, q⟩ := q
      exact ⟨rfl, H2, xs1, fun y hy => hm y (List.mem_cons_of_mem _ hy), I2, rl, q⟩
  · obtain ⟨H1, xs1, _, I1, r1, d1⟩ := hs'
    rw [z2]
    cases r1
    exact hR _ _ ⟨H1, I1.tok tk, d1⟩
theorem rp_tup0 (h : RpR X n (fun _ _ => True) r) : RpR X (n + 1) Clear (rpU X.K r) := by
  intro A g base pins s σ H x u t Q sb hg hc hz I rx d
  obtain ⟨a, xs, ts, rfl, hl, rfl, hT, d⟩ := d
  obtain rfl : u = Value.ref a := rx
  obtain ⟨o, ho, hcl, key⟩ := rp_tupG (R := callEnd (fun v s' => (∃ x u, v = .str x u) ∧ (∃ x u, v = .str x u ∧ x = tupleText ts ∧ ∃ H', Inv X pins σ H' s' ∧ Q H')) X.xe) (id := "tuple.__repr__.under") (rest := [rawInt base]) (base := base) h (.inr (.inl rfl)) (isGuard_tuple_repr_under _) sb hg (hc a rfl) (fun _ _ _ _ => trivial) I hl hT d hz (fun _ _ e => e) (fun s' u q => ⟨⟨_, _, rfl⟩, _, _, rfl, rfl, q⟩)
  refine wpAny_pyReprUnder_ref (by omega) (wpAny_pyReprObjUnder_twin (twin := "tuple.__repr__.under") ⟨o, ho, hcl⟩ F.slot_tuple_repr rfl sb.room.units0 ?_)
  exact call_twin_own (F.quiet_tuple_repr_under _) F.entry_tuple_repr_under F.check_tuple_repr_under ⟨o, ho, hcl⟩ F.slot_tuple_repr (F.args_tuple_repr_1 _) key
def rReprU (r : RpT) : List V → Hp → VK → Prop := fun xs H Q => ∃ x t, xs = [x] ∧ t.length ≤ sizeLine ∧ r x t H fun H' => Q (.str t) H'
theorem call_reprU {xs : List V} {ts : List Str} {a : Addr} {cl0 : List Code → Addr → Prop} (h : RpR X n cl0 r) (hg : X.A.guards = some []) (hr : Room (n + 2) X.A) (hcl : ∀ y ∈ xs, ∀ b, y = .ref b → cl0 [Code.builtin "tuple.__repr__" ⟨[.ref a], []⟩] b)
    {pins : List (Addr × Obj)} {s : Shared} {σ : L2.St} {H : Hp} {Q : VK} (I : Inv X pins σ H s) (hl : xs.length = ts.length) (hT : SqT X.K H a xs) (d : ShL (fun _ => True) r xs ts H fun H' => Q (.str (tupleText ts)) H') (hz : (tupleText ts).length ≤ sizeLine) :
    wpAny (model X.prog X.w) X.A (call (.builtin "repr") [.ref a]) (EP X pins σ Q) X.xe s := by
  obtain ⟨o, ho, hc, key⟩ := rp_tupG (A := X.A.in1) (R := callEnd (fun v s' => (∃ x t, v = .str x t ∧ EP X pins σ Q v s')) X.xe) (id := "tuple.__repr__") (rest := []) (base := 0) h (.inl rfl) (isGuard_tuple_repr _) ⟨hr.in1, rfl⟩ hg (Clear.nil a) hcl I hl hT d (by omega) (fun _ _ e => e) (fun s' u ⟨H', I', q⟩ => ⟨_, _, rfl, .str _, H', I', ⟨_, rfl⟩, q⟩)
  have hu : X.A.units + 1 < cLine := by have := hr.un; omega
  exact call_repr_slot hu ⟨o, ho, hc⟩ F.slot_tuple_repr (wpAny_call (codeAny_call_builtin_own (Code.quiet_builtin _ (by decide +kernel)) F.entry_tuple_repr (F.slot_tuple_repr.check _ _ _ _ _ _ _ _ ⟨o, ho, hc⟩ (F.args_tuple_repr_1 _) key)))
theorem call_reprU0 (h : RpR X n (fun _ _ => True) r) (hg : X.A.guards = some []) (hr : Room (n + 2) X.A) : CallR X (.builtin "repr") (rReprU (rpU X.K r)) := by
  intro pins s σ H xs us Q I rv hq
  obtain ⟨x, t, rfl, hz, a, ys, ts, rfl, hl, rfl, hT, d⟩ := hq
  obtain ⟨u, rfl, ru⟩ := vals1 rv
  cases (show u = Value.ref a from ru)
  exact call_reprU h hg hr (fun _ _ _ _ => trivial) I hl hT d hz
theorem call_reprU1 (h : RpR X n Clear r) (hg : X.A.guards = some []) (hr : Room (n + 2) X.A) : CallR X (.builtin "repr") (rReprU (rpU1 X.K r)) := by
  intro pins s σ H xs us Q I rv hq
  obtain ⟨x, t, rfl, hz, a, ys, ts, rfl, hl, rfl, hT, hne, d⟩ := hq
  obtain ⟨u, rfl, ru⟩ := vals1 rv
  cases (show u = Value.ref a from ru)
  refine call_reprU h hg hr (fun y hy b e => (Clear.nil b).cons fun z => ?_) I hl hT d hz
  subst z
  exact hne y hy e

end
end DRo
namespace DRo
open PySem PySem.Spec PyProof.Rows L2 DL
abbrev rpI (C : Addr) (sp : Sp) (E : XK) : RpT := fun x t H Q => rpF x t H Q ∨ rpO C sp E x t H Q
abbrev rpI2 (K : PySem.W.Frag) (C : Addr) (sp : Sp) (E : XK) : RpT := fun x t H Q => rpI C sp E x t H Q ∨ rpU K (rpI C sp E) x t H Q
abbrev rReprI1 (K : PySem.W.Frag) (C : Addr) (sp : Sp) (E : XK) := rReprU (rpU K (rpI C sp E))
abbrev rReprI2 (K : PySem.W.Frag) (C : Addr) (sp : Sp) (E : XK) := rReprU (rpU1 K (rpI2 K C sp E))
section
variable {X : Cx} {k : Nat} {CX : CXT} {C f : Addr} {fd : FuncData} {ps : List Str} {sp : Sp} {E : XK}
theorem rp_item (F : FnOk X.prog X.w X.K X.mg X.base CX k f fd ps sp) (hs : PySem.W.findIn X.K (.ref C) "__repr__" = some (some (.ref f))) (hf : PySem.W.isFn X.K (.ref f) = true) (hb : Binds X.K fd ps []) (hx : Passes CX X E) : RpR X k (fun _ _ => True) (rpI C sp E) :=
  RpR.or (rp_flat.mono (Nat.zero_le _)) (rp_own F hs hf hb hx)
theorem rp_item2 (F : FnOk X.prog X.w X.K X.mg X.base CX k f fd ps sp) (hs : PySem.W.findIn X.K (.ref C) "__repr__" = some (some (.ref f))) (hf : PySem.W.isFn X.K (.ref f) = true) (hb : Binds X.K fd ps []) (hx : Passes CX X E) : RpR X (k + 1) Clear (rpI2 X.K C sp E) :=
  RpR.or ((rp_item F hs hf hb hx).ofT.mono (Nat.le_succ _)) (rp_tup0 (rp_item F hs hf hb hx))
theorem call_reprI1 (F : FnOk X.prog X.w X.K X.mg X.base CX k f fd ps sp) (hg : X.A.guards = some []) (hr : Room (k + 2) X.A) (hs : PySem.W.findIn X.K (.ref C) "__repr__" = some (some (.ref f))) (hf : PySem.W.isFn X.K (.ref f) = true) (hb : Binds X.K fd ps []) (hx : Passes CX X E) :
    CallR X (.builtin "repr") (rReprI1 X.K C sp E) := call_reprU0 (rp_item F hs hf hb hx) hg hr
theorem call_reprI2 (F : FnOk X.prog X.w X.K X.mg X.base CX k f fd ps sp) (hg : X.A.guards = some []) (hr : Room (k + 3) X.A) (hs : PySem.W.findIn X.K (.ref C) "__repr__" = some (some (.ref f))) (hf : PySem.W.isFn X.K (.ref f) = true) (hb : Binds X.K fd ps []) (hx : Passes CX X E) :
    CallR X (.builtin "repr") (rReprI2 X.K C sp E) := call_reprU1 (rp_item2 F hs hf hb hx) hg hr
end
end DRo
namespace DL
open PySem PySem.Spec PyProof.Rows L2 DRo
def RpE (sp : DSpec) (d : D) (t : Str) (G L : List M) : Prop := sp [.d d] G (asV (fun x G1 L1 => x = .d (.str t) ∧ G1 = G ∧ L1 = L) L)
def ItR (C : Addr) (sp : DSpec) (G L : List M) (d : D) (t : Str) : Prop :=
  (d = .non ∧ t = "None") ∨ (∃ i : Int, d = .int i ∧ i.natAbs.log2 < 1920 ∧ t = Str.ofString (toString i)) ∨ ∃ fs, d = .ins C fs ∧ RpE sp d t G L
def ItRs (C : Addr) (sp : DSpec) (G L : List M) : List D → List Str → Prop
  | [], [] => True
  | d :: ds, t :: ts => ItR C sp G L d t ∧ ItRs C sp G L ds ts
  | _, _ => False
def ItR2 (C : Addr) (sp : DSpec) (G L : List M) (d : D) (t : Str) : Prop := ItR C sp G L d t ∨ ∃ ds ts, d = .tup ds ∧ t = tupleText ts ∧ ItRs C sp G L ds ts
def ItR2s (C : Addr) (sp : DSpec) (G L : List M) : List D → List Str → Prop
  | [], [] => True
  | d :: ds, t :: ts => ItR2 C sp G L d t ∧ ItR2s C sp G L ds ts
  | _, _ => False
section
variable {K : PySem.W.Frag} {Δ : Sl} {G L : List M} {Qd : Po} {C : Addr} {sp : DSpec} {E0' : XK} {w : W} {ls : List Addr} {σ : L2.St} {H : Hp}
theorem ItRs.len : ∀ {ds : List D} {ts : List Str}, ItRs C sp G L ds ts → ds.length = ts.length
  | [], [], _ => rfl
  | _ :: _, _ :: _, h => congrArg (· + 1) (ItRs.len h.2)
  | [], _ :: _, h => h.elim
  | _ :: _, [], h => h.elim
theorem ItR2s.len : ∀ {ds : List D} {ts : List Str}, ItR2s C sp G L ds ts → ds.length = ts.length
  | [], [], _ => rfl
  | _ :: _, _ :: _, h => congrArg (· + 1) (ItR2s.len h.2)
  | [], _ :: _, h => h.elim
  | _ :: _, [], h => h.elim
theorem itr_run {d : D} {t : Str} {v : V} {Q : Hp → Prop} (c : Ctx K w ls σ H Δ G L) (r : RS K H (Rg w ls) w.gs ls (.d d) v) (h : ItR C sp G L d t) (q : ∀ H2, Ctx K w ls σ H2 Δ G L → Ext w ls H H2 → Q H2) : rpI C (spD K sp) E0' v t H Q := by
  rcases h with ⟨rfl, rfl⟩ | ⟨i, rfl, hi, rfl⟩ | ⟨fs, rfl, h⟩
  · obtain rfl : v = V.non := r
    exact .inl ⟨q H c Ext.refl, .inl ⟨rfl, rfl⟩⟩
  · obtain rfl : v = V.int i := r
    exact .inl ⟨q H c Ext.refl, .inr ⟨i, rfl, hi, rfl⟩⟩
  · obtain ⟨a, dx, us, rfl, ⟨h1, _⟩, _⟩ := id r
    refine .inr ⟨a, dx, us, rfl, h1, sp_call (Qd := fun x G1 L1 => x = .d (.str t) ∧ G1 = G ∧ L1 = L) c (.cons r .nil) rfl h fun v s2 H2 G2 L2 c2 e2 r3 ⟨es, eG, eL⟩ => ?_⟩
    subst es
    subst eG
    subst eL
    exact ⟨r3, q H2 c2 e2⟩
theorem itr_go {H0 : Hp} {P Q : Hp → Prop} (hP : ∀ H2, Ext w ls H0 H2 → P H2) (hQ : ∀ H2, Ctx K w ls σ H2 Δ G L → Ext w ls H0 H2 → Q H2) :
    ∀ (ds : List D) (ts : List Str) (xs : List V) (H : Hp), Ctx K w ls σ H Δ G L → Ext w ls H0 H → RepL K H (Rg w ls) ds xs → ItRs C sp G L ds ts → ShL P (rpI C (spD K sp) E0') xs ts H Q
  | [], [], xs, H, c, e0, rl, _ => by
    obtain rfl : xs = [] := rl
    exact hQ H c e0
  | d :: ds, t :: ts, xs, H, c, e0, rl, ⟨h1, h2⟩ => by
    obtain ⟨y, ys, rfl, ry, rl⟩ := rl
    exact itr_run c ry h1 fun H2 c2 e2 => ⟨hP H2 (e0.trans e2), itr_go hP hQ ds ts ys H2 c2 (e0.trans e2) (RepL.grow (e2.grow c.reg) rl) h2⟩
  | [], _ :: _, _, _, _, _, _, h => h.elim
  | _ :: _, [], _, _, _, _, _, h => h.elim
theorem itr2_go {H0 : Hp} {Q : Hp → Prop} (hQ : ∀ H2, Ctx K w ls σ H2 Δ G L → Ext w ls H0 H2 → Q H2) :
    ∀ (ds : List D) (ts : List Str) (xs : List V) (H : Hp), Ctx K w ls σ H Δ G L → Ext w ls H0 H → RepL K H (Rg w ls) ds xs → ItR2s C sp G L ds ts → ShL (fun _ => True) (rpI2 K C (spD K sp) E0') xs ts H Q
  | [], [], xs, H, c, e0, rl, _ => by
    obtain rfl : xs = [] := rl
    exact hQ H c e0
  | d :: ds, t :: ts, xs, H, c, e0, rl, ⟨h1, h2⟩ => by
    obtain ⟨y, ys, rfl, ry, rl⟩ := rl
    have fin : ∀ H2, Ctx K w ls σ H2 Δ G L → Ext w ls H H2 → True ∧ ShL (fun _ => True) (rpI2 K C (spD K sp) E0') ys ts H2 Q := fun H2 c2 e2 => ⟨trivial, itr2_go hQ ds ts ys H2 c2 (e0.trans e2) (RepL.grow (e2.grow c.reg) rl) h2⟩
    rcases h1 with h1 | ⟨es, us, rfl, rfl, h1⟩
    · exact .inl (itr_run c ry h1 fin)
    · obtain ⟨a, zs, rfl, hT, rz⟩ := ry
      exact .inr ⟨a, zs, us, rfl, by rw [rz.length, h1.len], rfl, hT.sq, itr_go (fun _ _ => trivial) (fun H2 c2 e2 => fin H2 c2 e2) es us zs H c Ext.refl rz h1⟩
  | [], _ :: _, _, _, _, _, _, h => h.elim
  | _ :: _, [], _, _, _, _, _, h => h.elim
theorem ap_reprI1 {ds : List D} {ts : List Str} (h : ItRs C sp G L ds ts) (hz : (tupleText ts).length ≤ sizeLine) (k : Qd (.d (.str (tupleText ts))) G L) : ApC K (rReprI1 K C (spD K sp) E0') [.d (.tup ds)] Δ G L Qd := fun w ls σ H vs c rs Q q => by
  obtain ⟨v, rfl, rv⟩ := pair1 rs
  obtain ⟨a, xs, rfl, hT, rl⟩ := rv
  exact ⟨_, _, rfl, hz, a, xs, ts, rfl, by rw [rl.length, h.len], rfl, hT.sq, itr_go (fun _ _ => trivial) (fun H2 c2 e2 => q.go c2 e2 (s := .d (.str _)) rfl k) ds ts xs H c Ext.refl rl h⟩
theorem repl_mem {R : Addr → Prop} : ∀ {ds : List D} {xs : List V} {y : V}, RepL K H R ds xs → y ∈ xs → ∃ d ∈ ds, Rep K H R d y
  | [], xs, y, r, hy => by
    obtain rfl : xs = [] := r
    cases hy
  | d :: ds, xs, y, r, hy => by
    obtain ⟨z, zs, rfl, rz, r⟩ := r
    rcases List.mem_cons.mp hy with rfl | hy
    · exact ⟨d, List.mem_cons_self, rz⟩
    · obtain ⟨e, he, re⟩ := repl_mem r hy
      exact ⟨e, List.mem_cons_of_mem _ he, re⟩
theorem ItRs.mem : ∀ {ds : List D} {ts : List Str} {d : D}, ItRs C sp G L ds ts → d ∈ ds → d = .non ∨ (∃ i, d = .int i) ∨ ∃ fs, d = .ins C fs
  | [], _, _, _, hd => by cases hd
  | _ :: _, [], _, h, _ => h.elim
  | e :: ds, t :: ts, d, ⟨h1, h2⟩, hd => by
    rcases List.mem_cons.mp hd with rfl | hd
    · rcases h1 with ⟨e, _⟩ | ⟨i, e, _⟩ | ⟨fs, e, _⟩
      · exact .inl e
      · exact .inr (.inl ⟨i, e⟩)
      · exact .inr (.inr ⟨fs, e⟩)
    · exact ItRs.mem h2 hd
theorem ItR2s.mem : ∀ {ds : List D} {ts : List Str} {d : D}, ItR2s C sp G L ds ts → d ∈ ds → (d = .non ∨ (∃ i, d = .int i) ∨ ∃ fs, d = .ins C fs) ∨ ∃ es us, d = .tup es ∧ ItRs C sp G L es us
  | [], _, _, _, hd => by cases hd
  | _ :: _, [], _, h, _ => h.elim
  | e :: ds, t :: ts, d, ⟨h1, h2⟩, hd => by
    rcases List.mem_cons.mp hd with rfl | hd
    · rcases h1 with (⟨e, _⟩ | ⟨i, e, _⟩ | ⟨fs, e, _⟩) | ⟨es, us, e, _, h⟩
      · exact .inl (.inl e)
      · exact .inl (.inr (.inl ⟨i, e⟩))
      · exact .inl (.inr (.inr ⟨fs, e⟩))
      · exact .inr ⟨es, us, e, h⟩
    · exact ItR2s.mem h2 hd
theorem flat_ne {R : Addr → Prop} {d : D} {a : Addr} {xs : List V} (h : d = .non ∨ (∃ i, d = .int i) ∨ ∃ fs, d = .ins C fs) (r : Rep K H R d (.ref a)) (hT : H a = some (.tup xs)) : False := by
  rcases h with rfl | ⟨i, rfl⟩ | ⟨fs, rfl⟩
  · cases r
  · cases r
  · obtain ⟨b, dx, us, e, ⟨h1, _⟩, _⟩ := r
    cases e
    rw [hT] at h1
    cases h1
theorem ap_reprI2 {ds : List D} {ts : List Str} (h : ItR2s C sp G L ds ts) (hz : (tupleText ts).length ≤ sizeLine) (k : Qd (.d (.str (tupleText ts))) G L) : ApC K (rReprI2 K C (spD K sp) E0') [.d (.tup ds)] Δ G L Qd := fun w ls σ H vs c rs Q q => by
  obtain ⟨v, rfl, rv⟩ := pair1 rs
  obtain ⟨a, xs, rfl, hT, rl⟩ := rv
  refine ⟨_, _, rfl, hz, a, xs, ts, rfl, by rw [rl.length, h.len], rfl, hT.sq, fun y hy e => ?_, itr2_go (fun H2 c2 e2 => q.go c2 e2 (s := .d (.str _)) rfl k) ds ts xs H c Ext.refl rl h⟩
  subst e
  obtain ⟨d, hd, rd⟩ := repl_mem rl hy
  rcases h.mem hd with hf | ⟨es, us, rfl, hi⟩
  · exact flat_ne hf rd hT.1
  · obtain ⟨b, zs, e, hT2, rz⟩ := rd
    cases e
    have e := hT.1.symm.trans hT2.1
    injection e with e
    injection e with e
    subst e
    obtain ⟨d2, hd2, rd2⟩ := repl_mem rz hy
    exact flat_ne (hi.mem hd2) rd2 hT.1
end
end DL
/-! ### sorted(numbers, reverse=True) -/
namespace DL
open PySem PySem.Spec PyProof.Rows L2 DRo
section
variable {K : PySem.W.Frag} {Δ : Sl} {G L : List M} {Qd : Po}
theorem ap_sortedRev {s : S} (h : ∃ ns : List Int, lsG G L s = some (ns.map D.int) ∧ ∀ ns' : List Int, ns'.Perm ns → ns'.Pairwise (· ≥ ·) → Qd (.d (.lst (ns'.map D.int))) G L) : ApK K (rSortedKw K true [.bl true]) [s] [.d (.bl true)] Δ G L Qd := fun w ls σ H vs zs c rs rz Q q => by
  obtain ⟨ns, hs, k⟩ := h
  obtain ⟨v, rfl, r⟩ := pair1 rs
  obtain ⟨z, rfl, r2⟩ := pair1 rz
  obtain rfl : z = V.bl true := r2
  obtain ⟨a, us, rfl, h1, q1⟩ := lsG_get c r hs
  have e := RepL.intsV q1
  subst e
  exact ⟨a, ns, rfl, rfl, .inl (.inl h1), fun ys p py hy hp => q.go (c.new hp) (Ext.new hp) (s := .d (.lst (ys.map D.int))) ⟨p, _, rfl, ⟨upd_same, c.free hp⟩, RepL.grow (grow_new hp) RepL.ints⟩ (k ys py hy)⟩
end
end DL

open PySem L2 DL
local macro_rules | `(tactic| walk_at "side") => `(tactic| first | assumption | omega | rfl | (refine ⟨?_, ?_⟩ <;> omega) | decide)
local macro_rules | `(tactic| walk_at "d1") => `(tactic| with_reducible first
  | walk_at "own"
  | refine evc_int ?_
  | refine evc_str ?_
  | refine evc_bl ?_
  | refine evc_non ?_
  | refine evc_ref ?_
  | refine evc_ty ?_
  | refine evc_op ?_
  | refine eva_nil ?_
  | refine eva_cons ?_
  | refine evb_test ?_
  | refine evb_B ?_
  | refine evb_and ?_
  | refine evb_or ?_
  | refine evb_not ?_
  | refine evb_yes ?_
  | refine evc_if ?_
  | refine evc_andV ?_
  | refine evc_orV ?_
  | refine evc_notV ?_
  | refine evc_chain ?_
  | refine evc_cb ?_
  | refine evc_sl ?_
  | refine evo_none ?_
  | refine evo_some ?_
  | refine evc_bm ?_
  | refine evc_bm0 ?_
  | refine evc_m0 ?_
  | refine evc_m1 ?_
  | refine evc_call ?_
  | refine st_seq ?_
  | refine st_next ?_
  | refine st_break ?_
  | refine st_cont ?_
  | refine st_asg ?_
  | refine st_asgT ?_
  | refine st_if ?_
  | refine st_ret ?_
  | refine st_retN ?_
  | refine st_drop ?_
  | (refine tg_name ?hi ?_; (case hi => first | exact trivial | decide | (show _ ∈ _; decide)))
  | refine tgs_nil ?_
  | refine tgs_cons ?_
  | refine tg_sub ?_
  | refine evc_tup ?_
  | refine evi_seq ?_
  | refine evi_rng1 ?_
  | refine evi_rng2 ?_
  | (refine evn_c ?_; refine evn_lst ?_)
  | (refine evn_c ?_; refine evn_revU ?_)
  | refine evn_lst ?_
  | refine evn_revU ?_
  | refine evn_cb ?_
  | refine evn_sl ?_
  | refine evn_op ?_
  | refine u_add_i ?_
  | refine opc_I0i ?_
  | refine pow10_6 ?_
  | refine pow10_9 ?_
  | refine pow10_12 ?_
  | refine pow10_15 ?_
  | refine pow10_18 ?_
  | refine pow10_39 ?_
  | refine opc_I0b ?_
  | refine u_eq_i ?_
  | refine u_ne_i ?_
  | refine u_eq_s ?_
  | refine u_ne_s ?_
  | refine ap_int ?_
  | refine ap_intB ?_
  | refine ap_max2 ?_
  | refine ap_min2 ?_
  | refine u_isB ?_
  | refine u_notB ?_
  | refine u_eq_b ?_
  | refine u_ne_b ?_
  | refine isi_ii ?_
  | refine isi_ib ?_
  | refine isi_bb ?_
  | refine isi_bi ?_
  | refine isi_tt ?_
  | refine isi_ss ?_
  | refine st_augS ?_
  | refine opc_ip ?_
  | refine asv_v ?_
  | refine evc_neg ?_
  | refine ⟨_, rfl, ?_⟩
  | refine iteTT ?_
  | refine iteFF ?_
  | refine iteNT ?_
  | refine iteNF ?_)
local macro_rules | `(tactic| walk_at "seq") => `(tactic| first | (refine ⟨_, rfl, ?_⟩) | (refine ⟨_, lsG_g (by assumption), ?_⟩) | (refine ⟨_, lsG_l (by assumption), ?_⟩) | (refine ⟨_, seqG_g (by assumption), ?_⟩) | (refine ⟨_, seqG_l (by assumption), ?_⟩) | (refine ⟨_, hlG_g (by assumption), ?_⟩))
local macro_rules | `(tactic| walk_at "d2") => `(tactic| first
  | (with_reducible refine evc_varX ?_; refine ⟨_, rfl, ?_⟩)
  | (refine tg_tup ?hn ?_; (case hn => exact rfl); dsimp only [List.map])
  | (with_reducible refine u_mulT_i ?hc ?_; (case hc => first | exact mulL (by omega) (by omega) | exact mulR (by omega) (by omega)))
  | (with_reducible refine u_mul_i ?hc ?_; (case hc => first | exact mulL (by omega) (by omega) | exact mulR (by omega) (by omega)))
  | (with_reducible refine opc_Ii ?hc ?_; (case hc => first | omega | exact divW (by omega) (by omega)))
  | (with_reducible refine u_ix_hX ?_; walk_at "seq"; refine ⟨_, rfl, ?_⟩)
  | (with_reducible refine u_ix_gX ?_; walk_at "seq"; refine ⟨_, rfl, ?_⟩)
  | (with_reducible refine apn_c (ap_listX ?_); walk_at "seq")
  | (with_reducible refine ap_listX ?_; walk_at "seq")
  | (with_reducible refine ap_tupleX ?_; walk_at "seq")
  | (with_reducible refine ap_lenX ?_; walk_at "seq")
  | (with_reducible refine ap_lenS ?hx ?_; (case hx => walk_at "side"))
  | (with_reducible refine u_ne_nilX ?_; refine ⟨rfl, ?_⟩; walk_at "seq")
  | (with_reducible refine u_eq_nilX ?_; refine ⟨rfl, ?_⟩; walk_at "seq")
  | (with_reducible refine u_in_iX ?_; refine ⟨_, rfl, ?_⟩)
  | (with_reducible refine u_in_sX ?_; refine ⟨_, rfl, ?_⟩)
  | (with_reducible refine u_nin_iX ?_; refine ⟨_, rfl, ?_⟩)
  | (with_reducible refine u_nin_sX ?_; refine ⟨_, rfl, ?_⟩)
  | (with_reducible refine opc_orl (opc_I0i ?_))
  | (with_reducible refine opn_c (u_add_lX ?_); walk_at "seq"; walk_at "seq")
  | (with_reducible refine u_add_lX ?_; walk_at "seq"; walk_at "seq")
  | (with_reducible refine opn_c (u_mulT_lX ?_); walk_at "seq"; refine ⟨⟨by omega, by omega, le_line (Nat.le_of_ble_eq_true rfl)⟩, ?_⟩)
  | (with_reducible refine opn_c (u_mul_lX ?_); walk_at "seq"; refine ⟨⟨by omega, by omega, le_line (Nat.le_of_ble_eq_true rfl)⟩, ?_⟩)
  | (refine ⟨le_line (Nat.le_of_ble_eq_true rfl), ?_⟩)
  | (refine ⟨tyS_l rfl, ?_⟩)
  | (refine ⟨tyS_g (by assumption), ?_⟩)
  | (refine ⟨_, rfl, ?_⟩)
  | (refine ⟨_, _, rfl, rfl, ?_⟩)
  | (refine ⟨_, _, rfl, ?_⟩)
  | (refine ⟨(rfl : noL _ = true), ?_⟩))
local macro_rules | `(tactic| walk_at "d3") => `(tactic| first
  | (with_reducible refine evc_varX ?_; refine ⟨_, rfl, ?_⟩)
  | (refine tg_tup ?hn ?_; (case hn => exact rfl); dsimp only [List.map])
  | (with_reducible refine u_mulT_i ?hc ?_; (case hc => first | exact mulL (by omega) (by omega) | exact mulR (by omega) (by omega)))
  | (with_reducible refine u_mul_i ?hc ?_; (case hc => first | exact mulL (by omega) (by omega) | exact mulR (by omega) (by omega)))
  | (with_reducible refine opc_Ii ?hc ?_; (case hc => first | omega | exact divW (by omega) (by omega)))
  | (with_reducible refine apn_c (ap_listX ?_); walk_at "seq")
  | (with_reducible refine ap_listX ?_; walk_at "seq")
  | (with_reducible refine ap_tupleX ?_; walk_at "seq")
  | (with_reducible refine ap_lenX ?_; walk_at "seq")
  | (with_reducible refine ap_lenS ?hx ?_; (case hx => walk_at "side"))
  | (with_reducible refine u_ne_nilX ?_; refine ⟨rfl, ?_⟩; walk_at "seq")
  | (with_reducible refine u_eq_nilX ?_; refine ⟨rfl, ?_⟩; walk_at "seq")
  | (with_reducible refine u_in_iX ?_; refine ⟨_, rfl, ?_⟩)
  | (with_reducible refine u_in_sX ?_; refine ⟨_, rfl, ?_⟩)
  | (with_reducible refine u_nin_iX ?_; refine ⟨_, rfl, ?_⟩)
  | (with_reducible refine u_nin_sX ?_; refine ⟨_, rfl, ?_⟩)
  | (with_reducible refine opc_orl (opc_I0i ?_))
  | (with_reducible refine opn_c (u_add_lX ?_); walk_at "seq"; walk_at "seq")
  | (with_reducible refine u_add_lX ?_; walk_at "seq"; walk_at "seq")
  | (with_reducible refine opn_c (u_mulT_lX ?_); walk_at "seq"; refine ⟨⟨by omega, by omega, le_line (Nat.le_of_ble_eq_true rfl)⟩, ?_⟩)
  | (with_reducible refine opn_c (u_mul_lX ?_); walk_at "seq"; refine ⟨⟨by omega, by omega, le_line (Nat.le_of_ble_eq_true rfl)⟩, ?_⟩)
  | (refine ⟨le_line (Nat.le_of_ble_eq_true rfl), ?_⟩)
  | (refine ⟨tyS_l rfl, ?_⟩)
  | (refine ⟨tyS_g (by assumption), ?_⟩)
  | (refine ⟨_, rfl, ?_⟩)
  | (refine ⟨_, _, rfl, rfl, ?_⟩)
  | (refine ⟨_, _, rfl, ?_⟩)
  | (refine ⟨(rfl : noL _ = true), ?_⟩))
local macro_rules | `(tactic| walk_at "go1") => `(tactic| repeat (first | walk_at "d1" | walk_at "d3"))
local macro_rules | `(tactic| walk_at "go") => `(tactic| repeat (first | walk_at "d1" | walk_at "d2"))
local macro_rules | `(tactic| walk_at "f1") => `(tactic| first
  | (with_reducible refine u_add_sF ?hl ?_; (case hl => omega); intro _ _)
  | (with_reducible refine u_add_sR 0 ?hm ?hl ?_; (case hm => decide); (case hl => omega); intro _ _)
  | (with_reducible refine u_add_sR 1 ?hm ?hl ?_; (case hm => decide); (case hl => omega); intro _ _)
  | (with_reducible refine u_add_sR 2 ?hm ?hl ?_; (case hm => decide); (case hl => omega); intro _ _)
  | (with_reducible refine u_add_sR 3 ?hm ?hl ?_; (case hm => decide); (case hl => omega); intro _ _)
  | (with_reducible refine u_add_sR 4 ?hm ?hl ?_; (case hm => decide); (case hl => omega); intro _ _)
  | (with_reducible refine u_add_sR 5 ?hm ?hl ?_; (case hm => decide); (case hl => omega); intro _ _)
  | (with_reducible refine u_add_sR 6 ?hm ?hl ?_; (case hm => decide); (case hl => omega); intro _ _)
  | (with_reducible refine u_add_sR 7 ?hm ?hl ?_; (case hm => decide); (case hl => omega); intro _ _)
  | (with_reducible refine u_add_sR 8 ?hm ?hl ?_; (case hm => decide); (case hl => omega); intro _ _)
  | (with_reducible refine u_add_sLm 0 ?hm ?hl ?_; (case hm => decide); (case hl => omega); intro _ _)
  | (with_reducible refine u_add_sLm 1 ?hm ?hl ?_; (case hm => decide); (case hl => omega); intro _ _)
  | (with_reducible refine u_add_sLm 2 ?hm ?hl ?_; (case hm => decide); (case hl => omega); intro _ _)
  | (with_reducible refine u_add_sLm 3 ?hm ?hl ?_; (case hm => decide); (case hl => omega); intro _ _)
  | (with_reducible refine u_add_sLm 4 ?hm ?hl ?_; (case hm => decide); (case hl => omega); intro _ _)
  | (with_reducible refine u_add_sLm 5 ?hm ?hl ?_; (case hm => decide); (case hl => omega); intro _ _)
  | (with_reducible refine u_add_sLm 6 ?hm ?hl ?_; (case hm => decide); (case hl => omega); intro _ _)
  | (with_reducible refine u_add_sLm 7 ?hm ?hl ?_; (case hm => decide); (case hl => omega); intro _ _)
  | (with_reducible refine u_add_sLm 8 ?hm ?hl ?_; (case hm => decide); (case hl => omega); intro _ _)
  | (with_reducible refine sl_sF ?hl ?_; (case hl => omega); intro _ _)
  | (with_reducible refine mt_upperF ?hl ?_; (case hl => omega); intro _ _)
  | (with_reducible refine ap_lenSF ?hl ?_; (case hl => omega))
  | (refine ⟨⟨_, rfl⟩, ?_⟩))
local macro_rules | `(tactic| walk_at "f1") => `(tactic| first
  | (with_reducible refine u_txmul ?hm ?_; (case hm => first | (refine ⟨?_, ?_, ?_, ?_⟩ <;> decide) | (refine ⟨?_, ?_, ?_, ?_⟩ <;> omega)); intro _ _))
local macro_rules | `(tactic| walk_at "gof") => `(tactic| repeat (first | walk_at "f1" | walk_at "d1" | walk_at "d2"))

namespace Pf
open PySem L2 DL
def top (i : Nat) : Stmt := PySem.Challenge.pw_littlemasters_k02_moneys_reckoned.main.body.getD i (.Pass ⟨0, 0, 0, 0⟩)
abbrev s_l_well : Stmt := top 14
theorem sc_l_well : FnScope ["_law_script", "_law_k", "_law_cell"] ["_law_script", "_law_k"] (defScope s_l_well) := ⟨rfl, rfl, rfl, by decide +kernel, rfl, by decide +kernel, by decide +kernel⟩
abbrev s_l_take : Stmt := top 15
theorem sc_l_take : FnScope ["_law_well_here", "_law_many", "_law_digit", "_law_number"] ["_law_well_here", "_law_many"] (defScope s_l_take) := ⟨rfl, rfl, rfl, by decide +kernel, rfl, by decide +kernel, by decide +kernel⟩
abbrev s_l_pence : Stmt := top 16
theorem sc_l_pence : FnScope ["_law_well_here", "_law_way", "_law_below", "_law_some", "_law_near", "_law_pence_here"] ["_law_well_here"] (defScope s_l_pence) := ⟨rfl, rfl, rfl, by decide +kernel, rfl, by decide +kernel, by decide +kernel⟩
abbrev s_Money___init__ : Stmt := inClass (top 11) 0
theorem sc_Money___init__ : FnScope ["self", "pence"] ["self", "pence"] (defScope s_Money___init__) := ⟨rfl, rfl, rfl, by decide +kernel, rfl, by decide +kernel, by decide +kernel⟩
abbrev s_Money_plus : Stmt := inClass (top 11) 4
theorem sc_Money_plus : FnScope ["self", "other"] ["self", "other"] (defScope s_Money_plus) := ⟨rfl, rfl, rfl, by decide +kernel, rfl, by decide +kernel, by decide +kernel⟩
abbrev s_Money_less : Stmt := inClass (top 11) 5
theorem sc_Money_less : FnScope ["self", "other"] ["self", "other"] (defScope s_Money_less) := ⟨rfl, rfl, rfl, by decide +kernel, rfl, by decide +kernel, by decide +kernel⟩
abbrev s_Money_times : Stmt := inClass (top 11) 6
theorem sc_Money_times : FnScope ["self", "many"] ["self", "many"] (defScope s_Money_times) := ⟨rfl, rfl, rfl, by decide +kernel, rfl, by decide +kernel, by decide +kernel⟩
abbrev s_Money_each : Stmt := inClass (top 11) 7
theorem sc_Money_each : FnScope ["self", "many", "found", "e"] ["self", "many"] (defScope s_Money_each) := ⟨rfl, rfl, rfl, by decide +kernel, rfl, by decide +kernel, by decide +kernel⟩
abbrev s_Money_shares : Stmt := inClass (top 11) 8
theorem sc_Money_shares : FnScope ["self", "many", "least", "over", "k"] ["self", "many"] (defScope s_Money_shares) := ⟨rfl, rfl, rfl, by decide +kernel, rfl, by decide +kernel, by decide +kernel⟩
abbrev s_Money___repr__ : Stmt := inClass (top 11) 3
theorem sc_Money___repr__ : FnScope ["self"] ["self"] (defScope s_Money___repr__) := ⟨rfl, rfl, rfl, by decide +kernel, rfl, by decide +kernel, by decide +kernel⟩
abbrev s_Money___eq__ : Stmt := inClass (top 11) 1
theorem sc_Money___eq__ : FnScope ["self", "other"] ["self", "other"] (defScope s_Money___eq__) := ⟨rfl, rfl, rfl, by decide +kernel, rfl, by decide +kernel, by decide +kernel⟩
abbrev s_total : Stmt := top 12
theorem sc_total : FnScope ["moneys", "start", "first", "money"] ["moneys", "start"] (defScope s_total) := ⟨rfl, rfl, rfl, by decide +kernel, rfl, by decide +kernel, by decide +kernel⟩
abbrev s_l_is_money : Stmt := top 17
theorem sc_l_is_money : FnScope ["_law_found", "_law_pence_here"] ["_law_found", "_law_pence_here"] (defScope s_l_is_money) := ⟨rfl, rfl, rfl, by decide +kernel, rfl, by decide +kernel, by decide +kernel⟩
abbrev s_l_down : Stmt := top 18
theorem sc_l_down : FnScope ["_law_pence_here", "_law_many", "_law_left", "_law_found"] ["_law_pence_here", "_law_many"] (defScope s_l_down) := ⟨rfl, rfl, rfl, by decide +kernel, rfl, by decide +kernel, by decide +kernel⟩
abbrev s_l_shares_right : Stmt := top 19
theorem sc_l_shares_right : FnScope ["_law_money", "_law_pence_here", "_law_many", "_law_found", "_law_rows", "_law_one"] ["_law_money", "_law_pence_here", "_law_many"] (defScope s_l_shares_right) := ⟨rfl, rfl, rfl, by decide +kernel, rfl, by decide +kernel, by decide +kernel⟩
abbrev s_l_none_right : Stmt := top 20
theorem sc_l_none_right : FnScope ["_law_pence_here", "_law_found", "_law_way", "e", "_law_others"] ["_law_pence_here"] (defScope s_l_none_right) := ⟨rfl, rfl, rfl, by decide +kernel, rfl, by decide +kernel, by decide +kernel⟩
abbrev s_l_reckoned_right : Stmt := top 21
theorem sc_l_reckoned_right : FnScope ["_law_one", "_law_other", "_law_many", "_law_here", "_law_there", "_law_found", "_law_dues", "_law_k"] ["_law_one", "_law_other", "_law_many"] (defScope s_l_reckoned_right) := ⟨rfl, rfl, rfl, by decide +kernel, rfl, by decide +kernel, by decide +kernel⟩
abbrev s_l_total_right : Stmt := top 22
theorem sc_l_total_right : FnScope ["_law_rows", "_law_begun", "_law_moneys", "_law_first", "_law_pence_here", "_law_kept", "_law_whole", "_law_found", "_law_dues", "_law_k"] ["_law_rows", "_law_begun"] (defScope s_l_total_right) := ⟨rfl, rfl, rfl, by decide +kernel, rfl, by decide +kernel, by decide +kernel⟩
abbrev s_l_great_right : Stmt := top 23
theorem sc_l_great_right : FnScope ["_law_one", "_law_other", "_law_many", "_law_due", "_law_great", "_law_part", "_law_share", "_law_found", "_law_dues", "_law_k"] ["_law_one", "_law_other", "_law_many"] (defScope s_l_great_right) := ⟨rfl, rfl, rfl, by decide +kernel, rfl, by decide +kernel, by decide +kernel⟩
abbrev s_law : Stmt := top 24
theorem sc_law : FnScope ["_law_script", "_law_k", "_law_well_here", "_law_empty", "_law_many", "_law_great", "_law_one", "_law_other", "_law_rows", "_law_turn"] ["_law_script"] (defScope s_law) := ⟨rfl, rfl, rfl, by decide +kernel, rfl, by decide +kernel, by decide +kernel⟩
abbrev s_NoShare___init__ : Stmt := inClass (top 5) 0
theorem sc_NoShare___init__ : FnScope ["self", "many"] ["self", "many"] (defScope s_NoShare___init__) := ⟨rfl, rfl, rfl, by decide +kernel, rfl, by decide +kernel, by decide +kernel⟩
structure TX (w : World) (K : PySem.W.Frag) (mg : Str → Option Value) where
  a_Money : Addr
  m_Money : mg "Money" = some (.ref a_Money)
  a_l_well : Addr
  fd_l_well : FuncData
  F_l_well : Fun K "_law_well" "_law_well" s_l_well a_l_well fd_l_well
  m_l_well : mg "_law_well" = some (.ref a_l_well)
  k_l_well : PySem.W.keepIn K (.ref a_l_well) = true
  b_l_well : Binds K fd_l_well ["_law_script", "_law_k"] []
  a_l_take : Addr
  fd_l_take : FuncData
  F_l_take : Fun K "_law_take" "_law_take" s_l_take a_l_take fd_l_take
  m_l_take : mg "_law_take" = some (.ref a_l_take)
  k_l_take : PySem.W.keepIn K (.ref a_l_take) = true
  b_l_take : Binds K fd_l_take ["_law_well_here", "_law_many"] []
  a_l_pence : Addr
  fd_l_pence : FuncData
  F_l_pence : Fun K "_law_pence" "_law_pence" s_l_pence a_l_pence fd_l_pence
  m_l_pence : mg "_law_pence" = some (.ref a_l_pence)
  k_l_pence : PySem.W.keepIn K (.ref a_l_pence) = true
  b_l_pence : Binds K fd_l_pence ["_law_well_here"] []
  a_Money___init__ : Addr
  fd_Money___init__ : FuncData
  F_Money___init__ : Fun K "__init__" "Money.__init__" s_Money___init__ a_Money___init__ fd_Money___init__
  k_Money___init__ : PySem.W.keepIn K (.ref a_Money___init__) = true
  b_Money___init__ : Binds K fd_Money___init__ ["self", "pence"] []
  a_Money_plus : Addr
  fd_Money_plus : FuncData
  F_Money_plus : Fun K "plus" "Money.plus" s_Money_plus a_Money_plus fd_Money_plus
  k_Money_plus : PySem.W.keepIn K (.ref a_Money_plus) = true
  b_Money_plus : Binds K fd_Money_plus ["self", "other"] []
  me_Money_plus : Meth K a_Money "plus" a_Money_plus
  a_Money_less : Addr
  fd_Money_less : FuncData
  F_Money_less : Fun K "less" "Money.less" s_Money_less a_Money_less fd_Money_less
  k_Money_less : PySem.W.keepIn K (.ref a_Money_less) = true
  b_Money_less : Binds K fd_Money_less ["self", "other"] []
  me_Money_less : Meth K a_Money "less" a_Money_less
  a_Money_times : Addr
  fd_Money_times : FuncData
  F_Money_times : Fun K "times" "Money.times" s_Money_times a_Money_times fd_Money_times
  k_Money_times : PySem.W.keepIn K (.ref a_Money_times) = true
  b_Money_times : Binds K fd_Money_times ["self", "many"] []
  me_Money_times : Meth K a_Money "times" a_Money_times
  a_Money_each : Addr
  fd_Money_each : FuncData
  F_Money_each : Fun K "each" "Money.each" s_Money_each a_Money_each fd_Money_each
  k_Money_each : PySem.W.keepIn K (.ref a_Money_each) = true
  b_Money_each : Binds K fd_Money_each ["self", "many"] []
  me_Money_each : Meth K a_Money "each" a_Money_each
  a_Money_shares : Addr
  fd_Money_shares : FuncData
  F_Money_shares : Fun K "shares" "Money.shares" s_Money_shares a_Money_shares fd_Money_shares
  k_Money_shares : PySem.W.keepIn K (.ref a_Money_shares) = true
  b_Money_shares : Binds K fd_Money_shares ["self", "many"] []
  me_Money_shares : Meth K a_Money "shares" a_Money_shares
  a_Money___repr__ : Addr
  fd_Money___repr__ : FuncData
  F_Money___repr__ : Fun K "__repr__" "Money.__repr__" s_Money___repr__ a_Money___repr__ fd_Money___repr__
  k_Money___repr__ : PySem.W.keepIn K (.ref a_Money___repr__) = true
  b_Money___repr__ : Binds K fd_Money___repr__ ["self"] []
  me_Money___repr__ : Meth K a_Money "__repr__" a_Money___repr__
  a_Money___eq__ : Addr
  fd_Money___eq__ : FuncData
  F_Money___eq__ : Fun K "__eq__" "Money.__eq__" s_Money___eq__ a_Money___eq__ fd_Money___eq__
  k_Money___eq__ : PySem.W.keepIn K (.ref a_Money___eq__) = true
  b_Money___eq__ : Binds K fd_Money___eq__ ["self", "other"] []
  me_Money___eq__ : Meth K a_Money "__eq__" a_Money___eq__
  a_total : Addr
  fd_total : FuncData
  F_total : FunDf K "total" "total" s_total [V.non] a_total fd_total
  m_total : mg "total" = some (.ref a_total)
  k_total : PySem.W.keepIn K (.ref a_total) = true
  bd_total : List Value
  bv_total : Vals [V.non] bd_total
  b_total : Binds K fd_total ["moneys", "start"] bd_total
  kb_total : KBn K fd_total ["moneys", "start"] 1 ["start"] (fun us ws => us ++ ws) (fun vs zs => vs ++ zs)
  bf_total : Binds K fd_total ["moneys", "start"] []
  a_l_is_money : Addr
  fd_l_is_money : FuncData
  F_l_is_money : Fun K "_law_is_money" "_law_is_money" s_l_is_money a_l_is_money fd_l_is_money
  m_l_is_money : mg "_law_is_money" = some (.ref a_l_is_money)
  k_l_is_money : PySem.W.keepIn K (.ref a_l_is_money) = true
  b_l_is_money : Binds K fd_l_is_money ["_law_found", "_law_pence_here"] []
  a_l_down : Addr
  fd_l_down : FuncData
  F_l_down : Fun K "_law_down" "_law_down" s_l_down a_l_down fd_l_down
  m_l_down : mg "_law_down" = some (.ref a_l_down)
  k_l_down : PySem.W.keepIn K (.ref a_l_down) = true
  b_l_down : Binds K fd_l_down ["_law_pence_here", "_law_many"] []
  a_l_shares_right : Addr
  fd_l_shares_right : FuncData
  F_l_shares_right : Fun K "_law_shares_right" "_law_shares_right" s_l_shares_right a_l_shares_right fd_l_shares_right
  m_l_shares_right : mg "_law_shares_right" = some (.ref a_l_shares_right)
  k_l_shares_right : PySem.W.keepIn K (.ref a_l_shares_right) = true
  b_l_shares_right : Binds K fd_l_shares_right ["_law_money", "_law_pence_here", "_law_many"] []
  a_l_none_right : Addr
  fd_l_none_right : FuncData
  F_l_none_right : Fun K "_law_none_right" "_law_none_right" s_l_none_right a_l_none_right fd_l_none_right
  m_l_none_right : mg "_law_none_right" = some (.ref a_l_none_right)
  k_l_none_right : PySem.W.keepIn K (.ref a_l_none_right) = true
  b_l_none_right : Binds K fd_l_none_right ["_law_pence_here"] []
  a_l_reckoned_right : Addr
  fd_l_reckoned_right : FuncData
  F_l_reckoned_right : Fun K "_law_reckoned_right" "_law_reckoned_right" s_l_reckoned_right a_l_reckoned_right fd_l_reckoned_right
  m_l_reckoned_right : mg "_law_reckoned_right" = some (.ref a_l_reckoned_right)
  k_l_reckoned_right : PySem.W.keepIn K (.ref a_l_reckoned_right) = true
  b_l_reckoned_right : Binds K fd_l_reckoned_right ["_law_one", "_law_other", "_law_many"] []
  a_l_total_right : Addr
  fd_l_total_right : FuncData
  F_l_total_right : Fun K "_law_total_right" "_law_total_right" s_l_total_right a_l_total_right fd_l_total_right
  m_l_total_right : mg "_law_total_right" = some (.ref a_l_total_right)
  k_l_total_right : PySem.W.keepIn K (.ref a_l_total_right) = true
  b_l_total_right : Binds K fd_l_total_right ["_law_rows", "_law_begun"] []
  a_l_great_right : Addr
  fd_l_great_right : FuncData
  F_l_great_right : Fun K "_law_great_right" "_law_great_right" s_l_great_right a_l_great_right fd_l_great_right
  m_l_great_right : mg "_law_great_right" = some (.ref a_l_great_right)
  k_l_great_right : PySem.W.keepIn K (.ref a_l_great_right) = true
  b_l_great_right : Binds K fd_l_great_right ["_law_one", "_law_other", "_law_many"] []
  a_law : Addr
  fd_law : FuncData
  F_law : Fun K "law" "law" s_law a_law fd_law
  m_law : mg "law" = some (.ref a_law)
  k_law : PySem.W.keepIn K (.ref a_law) = true
  b_law : Binds K fd_law ["_law_script"] []
  mk_Money : Mk K a_Money a_Money___init__
  cl_Money : Cls K a_Money
  nf_Money_pence : NoAttr K a_Money "pence"
  ji_Money : DTj.JI K a_Money
  ne_Money : PySem.W.findIn K (.ref a_Money) "__ne__" = some (some (.builtin "object.__ne__"))
  js_Money_bool : PySem.W.kitOne K (.ref a_Money) (.type "bool") = some false
  js_Money_tuple : PySem.W.kitOne K (.ref a_Money) (.type "tuple") = some false
  z_ArithmeticError : mg "ArithmeticError" = none
  z_Exception : mg "Exception" = none
  z_ValueError : mg "ValueError" = none
  z_ZeroDivisionError : mg "ZeroDivisionError" = none
  z_abs : mg "abs" = none
  z_bool : mg "bool" = none
  z_int : mg "int" = none
  z_isinstance : mg "isinstance" = none
  z_len : mg "len" = none
  z_max : mg "max" = none
  z_min : mg "min" = none
  z_range : mg "range" = none
  z_repr : mg "repr" = none
  z_sorted : mg "sorted" = none
  z_sum : mg "sum" = none
  z_tuple : mg "tuple" = none
  a_Endless : Addr
  m_Endless : mg "Endless" = some (.ref a_Endless)
  a_Lacking : Addr
  m_Lacking : mg "Lacking" = some (.ref a_Lacking)
  a_MasterError : Addr
  m_MasterError : mg "MasterError" = some (.ref a_MasterError)
  a_NoShare : Addr
  m_NoShare : mg "NoShare" = some (.ref a_NoShare)
  a_NoText : Addr
  m_NoText : mg "NoText" = some (.ref a_NoText)
  a_TooHeavy : Addr
  m_TooHeavy : mg "TooHeavy" = some (.ref a_TooHeavy)
  a_Unlike : Addr
  m_Unlike : mg "Unlike" = some (.ref a_Unlike)
  vb_ArithmeticError : PySem.W.findCls K (.type "ArithmeticError") (.type "type") "__init__" = some (.val (.builtin "ArithmeticError.__init__"))
  vb_Exception : PySem.W.findCls K (.type "Exception") (.type "type") "__init__" = some (.val (.builtin "Exception.__init__"))
  vb_ValueError : PySem.W.findCls K (.type "ValueError") (.type "type") "__init__" = some (.val (.builtin "ValueError.__init__"))
  ai_NoShare : Addr
  ti_NoShare : PySem.W.typeIn K (.ref ai_NoShare) = some (.type "function")
  ki_NoShare : PySem.W.keepIn K (.ref ai_NoShare) = true
  fi_NoShare : FuncData
  Fi_NoShare : Fun K "__init__" "NoShare.__init__" s_NoShare___init__ ai_NoShare fi_NoShare
  bi_NoShare : Binds K fi_NoShare ["self", "many"] []
  o_NoShare : DXg.OexB K a_NoShare "ArithmeticError.__new__" [.type "ArithmeticError", .type "Exception", .type "BaseException", .type "object"]
  ii_NoShare : PySem.W.findIn K (.ref a_NoShare) "__init__" = some (some (.ref ai_NoShare))
  n_NoShare_many : PySem.W.findIn K (.ref a_NoShare) "many" = some none
  x_NoShare : XfC K a_NoShare
  e_NoShare : L2.ExcC K a_NoShare
  k_NoShare_Endless : PySem.W.kitOne K (.ref a_NoShare) (.ref a_Endless) = some false
  k_NoShare_Lacking : PySem.W.kitOne K (.ref a_NoShare) (.ref a_Lacking) = some false
  k_NoShare_MasterError : PySem.W.kitOne K (.ref a_NoShare) (.ref a_MasterError) = some false
  k_NoShare_NoText : PySem.W.kitOne K (.ref a_NoShare) (.ref a_NoText) = some false
  k_NoShare_TooHeavy : PySem.W.kitOne K (.ref a_NoShare) (.ref a_TooHeavy) = some false
  k_NoShare_Unlike : PySem.W.kitOne K (.ref a_NoShare) (.ref a_Unlike) = some false
  k_NoShare_ArithmeticError : PySem.W.kitOne K (.ref a_NoShare) (.type "ArithmeticError") = some true
  k_NoShare_ValueError : PySem.W.kitOne K (.ref a_NoShare) (.type "ValueError") = some false
  s_NoShare_NoShare : PySem.W.exmOne K (.ref a_NoShare) (.ref a_NoShare) = some true
end Pf
namespace Pf
open PySem L2 DL
/-! a well: three numbers -/
def wlM (a b c : Int) : M := .pl [.int a, .int b, .int c]
structure WlOk (a b c n : Int) : Prop where
  a0 : 0 ≤ a
  aw : Wd 1048600 a
  b0 : 0 ≤ b
  b1 : b < 1099511627776
  c0 : 0 ≤ c
  cn : c ≤ n
def Wl (G : List M) (k : Nat) (n : Int) : Prop := ∃ a b c, G[k]? = some (wlM a b c) ∧ WlOk a b c n
def WlTo (G : List M) (k : Nat) (n : Int) (G' : List M) : Prop := ∃ a b c, G' = G.set k (wlM a b c) ∧ WlOk a b c n
theorem WlOk.mono {a b c n m : Int} (h : WlOk a b c n) (l : n ≤ m) : WlOk a b c m := ⟨h.a0, h.aw, h.b0, h.b1, h.c0, Int.le_trans h.cn l⟩
theorem Wl.mono {G : List M} {k : Nat} {n m : Int} : Wl G k n → n ≤ m → Wl G k m := fun ⟨a, b, c, h, o⟩ l => ⟨a, b, c, h, o.mono l⟩
theorem WlTo.wl {G G' : List M} {k : Nat} {n m : Int} (h : Wl G k n) : WlTo G k m G' → Wl G' k m := fun ⟨a, b, c, e, o⟩ => by
  obtain ⟨_, _, _, h, _⟩ := h
  exact ⟨a, b, c, by rw [e, List.getElem?_set, if_pos rfl, if_pos (List.getElem?_eq_some_iff.mp h).1], o⟩
theorem WlTo.refl {G : List M} {k : Nat} {n : Int} : Wl G k n → WlTo G k n G := fun ⟨a, b, c, h, o⟩ => ⟨a, b, c, by
  obtain ⟨hk, e⟩ := List.getElem?_eq_some_iff.mp h
  rw [← e, List.set_getElem_self], o⟩
theorem WlTo.mono {G G' : List M} {k : Nat} {n m : Int} : WlTo G k n G' → n ≤ m → WlTo G k m G' := fun ⟨a, b, c, h, o⟩ l => ⟨a, b, c, h, o.mono l⟩
theorem WlTo.trans {G G1 G2 : List M} {k : Nat} {n m : Int} : WlTo G k n G1 → WlTo G1 k m G2 → WlTo G k m G2 := fun ⟨_, _, _, e, _⟩ ⟨a, b, c, e2, o⟩ => ⟨a, b, c, by rw [e2, e, List.set_set], o⟩
def sp_l_well : DSpec := fun ss G Q => ∃ (ns : List Int) (k : Int), ss = [.d (.scr ns), .d (.int k)] ∧ ns.length ≤ 63 ∧ (∀ z ∈ ns, Wd 1048576 z) ∧ (0 ≤ k ∧ k ≤ 63) ∧ ∀ a b : Int, WlOk a b 0 0 → Q (.new [wlM a b 0] 0) G
def sp_l_take : DSpec := fun ss G Q => ∃ (k : Nat) (m n : Int), ss = [.g k, .d (.int m)] ∧ Wl G k n ∧ n + 1 ≤ 2 ^ 32 ∧ (0 < m ∧ m ≤ 2 ^ 60) ∧ ∀ (r : Int) (G' : List M), 0 ≤ r → r < m → WlTo G k (n + 1) G' → Q (.v (.d (.int r))) G'
def sp_l_pence : DSpec := fun ss G Q => ∃ (k : Nat) (n : Int), ss = [.g k] ∧ Wl G k n ∧ n + 10 ≤ 2 ^ 32 ∧ ∀ (p : Int) (G' : List M), p.natAbs ≤ 1000000000000000 → WlTo G k (n + 10) G' → Q (.v (.d (.int p))) G'

def WlS (G0 : List M) (k : Nat) (n : Int) (G : List M) : Prop := Wl G k n ∧ WlTo G0 k n G
theorem WlS.self {G : List M} {k : Nat} {n : Int} (h : Wl G k n) : WlS G k n G := ⟨h, WlTo.refl h⟩
theorem take_use {G0 G : List M} {k : Nat} {m n : Int} {Q : Res → List M → Prop} (h : WlS G0 k n G) (hn : n + 1 ≤ 2 ^ 32) (h0 : 0 < m) (h1 : m ≤ 2 ^ 60) (q : ∀ (r : Int) (G' : List M), 0 ≤ r → r < m → WlS G0 k (n + 1) G' → Q (.v (.d (.int r))) G') : sp_l_take [.g k, .d (.int m)] G Q :=
  ⟨k, m, n, rfl, h.1, hn, ⟨h0, h1⟩, fun r G' a b t => q r G' a b ⟨t.wl h.1, h.2.trans t⟩⟩
theorem WlS.to {G0 G : List M} {k : Nat} {n m : Int} (h : WlS G0 k n G) (l : n ≤ m) : WlTo G0 k m G := h.2.mono l
/-! texts of moneys -/
def monD (C : Addr) (p : Int) : D := .ins C [("pence", .int p)]
/-! words: their signs, and one for each -/
/-! specs -/
def sp_Money___init__ (C : Addr) : DSpec := fun ss G Q => ∃ (k : Nat) (p : Int), ss = [.g k, .d (.int p)] ∧ G[k]? = some (.ob C []) ∧ Q (.v (.d .non)) (G.set k (.ob C [("pence", .int p)]))
/-! a whole number's figures -/
/-! a money's text -/
/-! specs of moneys -/
def reprM (p : Int) : Str := Str.ofString "Money(" ++ Str.ofString (toString p) ++ ")"
def sp_Money___repr__ (C : Addr) : DSpec := fun ss G Q => ∃ p : Int, ss = [.d (monD C p)] ∧ p.natAbs < 10 ^ 60 ∧ Q (.v (.d (.str (reprM p)))) G
def sp_Money___eq__ (C : Addr) : DSpec := fun ss G Q => ∃ p q : Int, ss = [.d (monD C p), .d (monD C q)] ∧ Q (.v (.d (.bl (decide (q = p))))) G
/-! the law's own well behind other own lists -/
def PlL (L : List M) : Prop := ∀ m ∈ L, ∃ xs, m = .pl xs
theorem PlL.pro : ∀ {L : List M}, PlL L → L.map (M.proN 0) = L
  | [], _ => rfl
  | m :: r, h => by
    obtain ⟨xs, rfl⟩ := h m List.mem_cons_self
    rw [List.map_cons, PlL.pro fun x hx => h x (List.mem_cons_of_mem _ hx)]
    rfl
theorem PlL.dem : ∀ {L : List M}, PlL L → L.map (M.demN 0) = L
  | [], _ => rfl
  | m :: r, h => by
    obtain ⟨xs, rfl⟩ := h m List.mem_cons_self
    rw [List.map_cons, PlL.dem fun x hx => h x (List.mem_cons_of_mem _ hx)]
    rfl
def WlR (R L : List M) (n : Int) : Prop := ∃ a b c, L = R ++ [wlM a b c] ∧ WlOk a b c n
theorem WlR.mono {R L : List M} {n m : Int} : WlR R L n → n ≤ m → WlR R L m := fun ⟨a, b, c, e, o⟩ l => ⟨a, b, c, e, o.mono l⟩
theorem WlR.wl {R L : List M} {n : Int} : WlR R L n → Wl L R.length n := fun ⟨a, b, c, e, o⟩ => ⟨a, b, c, by rw [e, List.getElem?_append_right (Nat.le_refl _), Nat.sub_self]; rfl, o⟩
theorem WlR.to {R L G' : List M} {n m : Int} (h : WlR R L n) : WlTo L R.length m G' → WlR R G' m := fun ⟨a, b, c, e, o⟩ => by
  obtain ⟨a', b', c', rfl, _⟩ := h
  refine ⟨a, b, c, ?_, o⟩
  rw [e, List.set_append_right _ _ (Nat.le_refl _), Nat.sub_self]
  rfl
theorem WlR.pl {R L : List M} {n : Int} (hR : PlL R) : WlR R L n → PlL L := fun ⟨a, b, c, e, _⟩ m hm => by
  rw [e] at hm
  rcases List.mem_append.mp hm with hm | hm
  · exact hR m hm
  · exact ⟨_, List.mem_singleton.mp hm⟩
section
variable {K : PySem.W.Frag} {Δ : Sl} {L : List M} {Qd : Po} {t : TA} {E0' : XK}
theorem own_takeR (R : List M) (hR : PlL R) (h : EvA K t Δ [] L fun ss G2 L2 => ∃ m n : Int, ss = [.l R.length, .d (.int m)] ∧ G2 = [] ∧ WlR R L2 n ∧ n + 1 ≤ 2 ^ 32 ∧ 0 < m ∧ m ≤ 2 ^ 60 ∧ ∀ (r : Int) (L' : List M), 0 ≤ r → r < m → WlR R L' (n + 1) → Qd (.d (.int r)) [] L') : EvC K (tCall (spD K sp_l_take) [] E0' t) Δ [] L Qd := by
  refine evc_callGL ?_
  refine fun w ls σ H c Q r => h w ls σ H c Q fun vs ss H2 G2 L2 c2 e2 r2 ⟨m, n, es, eG, hw, hn, h0, h1, q⟩ => r vs ss H2 G2 L2 c2 e2 r2 ?_
  subst es
  subst eG
  intro hok
  show sp_l_take [.g (0 + R.length), .d (.int m)] ([] ++ L2.map (M.proN 0)) _
  rw [(hw.pl hR).pro, Nat.zero_add]
  refine ⟨R.length, m, n, rfl, hw.wl, hn, ⟨h0, h1⟩, fun r G' a b t => ?_⟩
  have hw' := hw.to t
  refine ⟨[], G', rfl, rfl, ?_, ?_⟩
  · intro _ h
    cases h
  · show Qd _ [] (List.map (M.demN 0) G')
    rw [(hw'.pl hR).dem]
    exact q r G' a b hw'
theorem own_penceR (R : List M) (hR : PlL R) (h : EvA K t Δ [] L fun ss G2 L2 => ∃ n : Int, ss = [.l R.length] ∧ G2 = [] ∧ WlR R L2 n ∧ n + 10 ≤ 2 ^ 32 ∧ ∀ (p : Int) (L' : List M), p.natAbs ≤ 1000000000000000 → WlR R L' (n + 10) → Qd (.d (.int p)) [] L') : EvC K (tCall (spD K sp_l_pence) [] E0' t) Δ [] L Qd := by
  refine evc_callGL ?_
  refine fun w ls σ H c Q r => h w ls σ H c Q fun vs ss H2 G2 L2 c2 e2 r2 ⟨n, es, eG, hw, hn, q⟩ => r vs ss H2 G2 L2 c2 e2 r2 ?_
  subst es
  subst eG
  intro hok
  show sp_l_pence [.g (0 + R.length)] ([] ++ L2.map (M.proN 0)) _
  rw [(hw.pl hR).pro, Nat.zero_add]
  refine ⟨R.length, n, rfl, hw.wl, hn, fun p G' a t => ?_⟩
  have hw' := hw.to t
  refine ⟨[], G', rfl, rfl, ?_, ?_⟩
  · intro _ h
    cases h
  · show Qd _ [] (List.map (M.demN 0) G')
    rw [(hw'.pl hR).dem]
    exact q p G' a hw'
theorem own_takeH {R : List M} {n : Int} (hw : WlR R L n) (hR : PlL R) (h : EvA K t Δ [] L fun ss G2 L2 => ∃ m : Int, ss = [.l R.length, .d (.int m)] ∧ G2 = [] ∧ L2 = L ∧ n + 1 ≤ 2 ^ 32 ∧ 0 < m ∧ m ≤ 2 ^ 60 ∧ ∀ (r : Int) (L' : List M), 0 ≤ r → r < m → WlR R L' (n + 1) → Qd (.d (.int r)) [] L') : EvC K (tCall (spD K sp_l_take) [] E0' t) Δ [] L Qd :=
  own_takeR R hR fun w ls σ H c Q r => h w ls σ H c Q fun vs ss H2 G2 L2 c2 e2 r2 ⟨m, es, eG, eL, hn, h0, h1, q⟩ => r vs ss H2 G2 L2 c2 e2 r2 ⟨m, n, es, eG, eL ▸ hw, hn, h0, h1, q⟩
theorem own_penceH {R : List M} {n : Int} (hw : WlR R L n) (hR : PlL R) (h : EvA K t Δ [] L fun ss G2 L2 => ss = [.l R.length] ∧ G2 = [] ∧ L2 = L ∧ n + 10 ≤ 2 ^ 32 ∧ ∀ (p : Int) (L' : List M), p.natAbs ≤ 1000000000000000 → WlR R L' (n + 10) → Qd (.d (.int p)) [] L') : EvC K (tCall (spD K sp_l_pence) [] E0' t) Δ [] L Qd :=
  own_penceR R hR fun w ls σ H c Q r => h w ls σ H c Q fun vs ss H2 G2 L2 c2 e2 r2 ⟨es, eG, eL, hn, q⟩ => r vs ss H2 G2 L2 c2 e2 r2 ⟨n, es, eG, eL ▸ hw, hn, q⟩
end
/-! a halt in the walk -/
@[irreducible] def Stop (p : Prop) : Prop := p
theorem stop_go {p : Prop} (h : p) : Stop p := by
  unfold Stop
  exact h
theorem stop_out {p : Prop} (h : Stop p) : p := by
  unfold Stop at h
  exact h
theorem st_slots {K : PySem.W.Frag} {Δ : Sl} {G L : List M} {E : EndsD} {u : TS} (P : Sl → Prop) (h : P Δ) (k : ∀ Δ', P Δ' → StC K u Δ' G L E) : StC K u Δ G L E := k Δ h
section
variable {K : PySem.W.Frag} {Δ : Sl} {G L : List M} {Qd : Po}
theorem isN_ins {C : Addr} {fs : List (Str × D)} (k : Qd (.d (.bl false)) G L) : OpC K (fun x y H Q => y = .non ∧ Q (.bl (decide (x = .non))) H) (.d (.ins C fs)) (.d .non) Δ G L Qd := fun w ls σ H vx vy c rx ry Q q => by
  obtain rfl : vy = V.non := ry
  obtain ⟨a, dx, ws, rfl, _⟩ := rx
  refine ⟨rfl, ?_⟩
  rw [decide_eq_false (by simp)]
  exact q.go c Ext.refl (s := .d (.bl false)) rfl k
end
theorem st_stopO {K : PySem.W.Frag} {Δ : Sl} {G L1 : List M} {m : M} {E : EndsD} {a b : TT} {u v : TS} (h : Stop (StC K (tIfS (tOr a b) u v) Δ G (L1 ++ [m]) E)) : StC K (tIfS (tOr a b) u v) Δ G (L1 ++ [m]) E := stop_out h
theorem st_stopO1 {K : PySem.W.Frag} {Δ : Sl} {G : List M} {m : M} {E : EndsD} {a b : TT} {u v : TS} (h : Stop (StC K (tIfS (tOr a b) u v) Δ G [m] E)) : StC K (tIfS (tOr a b) u v) Δ G [m] E := stop_out h
/-! specs of k02 -/
def NoSh (C : Addr) (m : Int) : Exn := ⟨C, [("many", .int m)]⟩
def sp_Money_plus (C : Addr) : DSpec := fun ss G Q => ∃ p r : Int, ss = [.d (monD C p), .d (monD C r)] ∧ Q (.v (.d (monD C (p + r)))) G
def sp_Money_less (C : Addr) : DSpec := fun ss G Q => ∃ p r : Int, ss = [.d (monD C p), .d (monD C r)] ∧ Q (.v (.d (monD C (p - r)))) G
def sp_Money_times (C : Addr) : DSpec := fun ss G Q => ∃ p m : Int, ss = [.d (monD C p), .d (.int m)] ∧ (-(2 ^ 60) ≤ m ∧ m ≤ 2 ^ 60) ∧ Q (.v (.d (monD C (p * m)))) G
def sp_Money_each (C E : Addr) : DSpecX := fun ss G Q Qx => ∃ p m : Int, ss = [.d (monD C p), .d (.int m)] ∧ (0 ≤ m ∧ m ≤ 2 ^ 29) ∧ (0 < m → Q (.v (.d (monD C (p / m)))) G) ∧ (m = 0 → Qx (NoSh E m) G)
def shN (p m : Int) : List Int := (List.range m.toNat).map fun k : Nat => p / m + if (k : Int) < p - p / m * m then 1 else 0
def sp_Money_shares (C E : Addr) : DSpecX := fun ss G Q Qx => ∃ p m : Int, ss = [.d (monD C p), .d (.int m)] ∧ (0 ≤ m ∧ m ≤ 100) ∧ (0 < m → Q (.v (.d (.tup ((shN p m).map (monD C))))) G) ∧ (m = 0 → Qx (NoSh E m) G)
def sp_total (C : Addr) : DSpec := fun ss G Q => ∃ (ps : List Int) (s : D) (q : Int), ss = [.d (.tup (ps.map (monD C))), .d s] ∧ ps.length ≤ 1000 ∧ ((s = .non ∧ q = 0) ∨ s = monD C q) ∧ Q (.v (.d (monD C (q + ps.sum)))) G
def sp_l_is_money (C : Addr) : DSpec := fun ss G Q => ∃ p r : Int, ss = [.d (monD C p), .d (.int r)] ∧ Q (.v (.d (.bl (decide (p = r))))) G
def sp_l_down : DSpec := fun ss G Q => ∃ p m : Int, ss = [.d (.int p), .d (.int m)] ∧ (0 < m ∧ m ≤ 2 ^ 29) ∧ Q (.v (.d (.int (p / m)))) G
def sp_l_shares_right (C : Addr) : DSpec := fun ss G Q => ∃ p m : Int, ss = [.d (monD C p), .d (.int p), .d (.int m)] ∧ (1 ≤ m ∧ m ≤ 61) ∧ p.natAbs < 10 ^ 50 ∧ Q (.v (.d (.bl true))) G
def sp_l_none_right : DSpec := fun ss G Q => ∃ p : Int, ss = [.d (.int p)] ∧ Q (.v (.d (.bl true))) G
def sp_l_reckoned_right : DSpec := fun ss G Q => ∃ p r m : Int, ss = [.d (.int p), .d (.int r), .d (.int m)] ∧ (0 ≤ m ∧ m ≤ 2 ^ 30) ∧ Q (.v (.d (.bl true))) G
def sp_l_total_right : DSpec := fun ss G Q => ∃ (ps : List Int) (r : Int), ss = [.d (.lst (ps.map D.int)), .d (.int r)] ∧ ps.length ≤ 60 ∧ (∀ p ∈ ps, p.natAbs < 10 ^ 50) ∧ r.natAbs < 10 ^ 50 ∧ Q (.v (.d (.bl true))) G
def sp_l_great_right : DSpec := fun ss G Q => ∃ p r m : Int, ss = [.d (.int p), .d (.int r), .d (.int m)] ∧ (1 ≤ m ∧ m ≤ 61) ∧ p.natAbs < 10 ^ 20 ∧ r.natAbs < 10 ^ 20 ∧ Q (.v (.d (.bl true))) G
abbrev sp_law : DSpec := spLawE
theorem law_in {ns : List Int} (h : ns.length ≤ 63) (hb : ∀ z ∈ ns, Builtin.Int.intBits z ≤ 1048576) : sp_law [.d (.scr ns)] [] fun r _ => r = .v (.d (.bl true)) := spLawE_in h hb
theorem filtT {α : Type} (xs : List α) : xs.filter (fun _ => true) = xs := List.filter_eq_self.mpr fun _ _ => rfl
theorem filtF {α : Type} (xs : List α) : xs.filter (fun _ => false) = [] := List.filter_eq_nil_iff.mpr fun _ _ h => by cases h
theorem plNil : PlL [] := fun _ h => by cases h
/-! shares: together the whole, none two more than another, falling -/
theorem shN_len (p m : Int) : (shN p m).length = m.toNat := by unfold shN; rw [List.length_map, List.length_range]
theorem sum_step (q o : Int) : ∀ n : Nat, 0 ≤ o → ((List.range n).map fun k : Nat => q + if (k : Int) < o then 1 else 0).sum = q * (n : Int) + if (n : Int) < o then (n : Int) else o
  | 0, h => by
    show (0 : Int) = q * 0 + _
    rw [Int.mul_zero]
    split <;> omega
  | n + 1, h => by
    rw [List.range_succ, List.map_append, List.sum_append, sum_step q o n h]
    show q * (n : Int) + _ + ((q + if (n : Int) < o then 1 else 0) + 0) = q * ((n + 1 : Nat) : Int) + _
    have e : q * ((n + 1 : Nat) : Int) = q * (n : Int) + q := by
      rw [show ((n + 1 : Nat) : Int) = (n : Int) + 1 from rfl, Int.mul_add, Int.mul_one]
    rw [e]
    split <;> (try split) <;> (try split) <;> omega
theorem over_ok {p m : Int} (h : 0 < m) : 0 ≤ p - p / m * m ∧ p - p / m * m < m := by
  have e := Int.emod_add_mul_ediv p m
  have h1 := Int.emod_nonneg p (by omega : m ≠ 0)
  have h2 := Int.emod_lt_of_pos p h
  have c : p / m * m = m * (p / m) := Int.mul_comm _ _
  omega
theorem shN_sum {p m : Int} (h : 0 < m) : (shN p m).sum = p := by
  unfold shN
  have := over_ok (p := p) h
  rw [sum_step (p / m) _ m.toNat this.1, show ((m.toNat : Nat) : Int) = m by omega]
  split <;> omega
theorem shN_mem {p m x : Int} (hx : x ∈ shN p m) : x = p / m ∨ x = p / m + 1 := by
  obtain ⟨k, _, rfl⟩ := List.mem_map.mp hx
  split <;> omega
theorem shN_falls (p m : Int) : (shN p m).Pairwise (· ≥ ·) := by
  refine List.pairwise_map.mpr ((List.pairwise_lt_range).imp fun {a b} h => ?_)
  show p / m + (if (a : Int) < p - p / m * m then 1 else 0) ≥ p / m + (if (b : Int) < p - p / m * m then 1 else 0)
  split <;> split <;> omega
theorem falls_is {xs ys : List Int} (p : xs.Perm ys) (h1 : xs.Pairwise (· ≥ ·)) (h2 : ys.Pairwise (· ≥ ·)) : xs = ys :=
  p.eq_of_pairwise (fun a b _ _ x y => by omega) h1 h2
theorem down_is {p m : Int} (h : 0 < m) : (if p < 0 then 0 - ((p.natAbs : Int) / m) - (if (p.natAbs : Int) / m * m < (p.natAbs : Int) then 1 else 0) else (p.natAbs : Int) / m) = p / m := by
  split
  · have e : (p.natAbs : Int) = -p := by omega
    rw [e]
    have a := over_ok (p := p) h
    have b := over_ok (p := -p) h
    have key : p / m = 0 - (-p) / m - if (-p) / m * m < -p then 1 else 0 := by
      have c : (p / m + (-p) / m) * m = p / m * m + (-p) / m * m := Int.add_mul _ _ _
      generalize p / m = x at *
      generalize (-p) / m = y at *
      split
      · have l1 : (x + y) * m < 0 * m := by omega
        have l2 : (-2) * m < (x + y) * m := by omega
        have := Int.lt_of_mul_lt_mul_right l1 (Int.le_of_lt h)
        have := Int.lt_of_mul_lt_mul_right l2 (Int.le_of_lt h)
        omega
      · have l1 : (x + y) * m < 1 * m := by omega
        have l2 : (-1) * m < (x + y) * m := by omega
        have := Int.lt_of_mul_lt_mul_right l1 (Int.le_of_lt h)
        have := Int.lt_of_mul_lt_mul_right l2 (Int.le_of_lt h)
        omega
    omega
  · rw [show (p.natAbs : Int) = p by omega]
theorem int_small {a b m : Int} (h : a.natAbs < 10 ^ 50) (hm : 0 < m) (hb : b = a / m ∨ b = a / m + 1) : b.natAbs < 10 ^ 60 := by
  have h1 : (a / m).natAbs ≤ a.natAbs := by
    have := Int.natAbs_ediv_le_natAbs a m
    exact this
  have : (10 : Nat) ^ 50 + 1 < 10 ^ 60 := by decide
  omega
theorem reprM_len {p : Int} (hp : p.natAbs < 10 ^ 60) : (reprM p).length ≤ 68 := by
  have hl := int_len hp
  have l6 : (Str.ofString "Money(").length = 6 := by decide +kernel
  have l1 : (Str.ofString ")").length = 1 := by decide +kernel
  show (Str.ofString "Money(" ++ Str.ofString (toString p) ++ Str.ofString ")").length ≤ 68
  rw [Str.length_append, Str.length_append]
  omega
theorem piled_mon : ∀ {xs : List Int}, (∀ x ∈ xs, x.natAbs < 10 ^ 60) → piled (xs.map reprM) ≤ 70 * xs.length
  | [], _ => Nat.le_refl _
  | x :: xs, h => by
    rw [List.map_cons, piled_cons, List.length_cons]
    have := reprM_len (h x List.mem_cons_self)
    have := piled_mon fun y hy => h y (List.mem_cons_of_mem _ hy)
    omega
theorem monT_len {xs : List Int} (h : ∀ x ∈ xs, x.natAbs < 10 ^ 60) : (tupleText (xs.map reprM)).length ≤ 70 * xs.length + 3 := by
  have := tupleText_len (xs.map reprM)
  have := piled_mon h
  omega
theorem rp_mon {C : Addr} {x : Int} {G L : List M} (h : x.natAbs < 10 ^ 60) : RpE (sp_Money___repr__ C) (monD C x) (reprM x) G L := ⟨x, rfl, h, rfl, rfl, rfl⟩
theorem it_mon {C : Addr} {x : Int} {G L : List M} (h : x.natAbs < 10 ^ 60) : ItR C (sp_Money___repr__ C) G L (monD C x) (reprM x) := .inr (.inr ⟨_, rfl, rp_mon h⟩)
theorem it_mons {C : Addr} {G L : List M} : ∀ {xs : List Int}, (∀ x ∈ xs, x.natAbs < 10 ^ 60) → ItRs C (sp_Money___repr__ C) G L (xs.map (monD C)) (xs.map reprM)
  | [], _ => trivial
  | x :: xs, h => ⟨it_mon (h x List.mem_cons_self), it_mons fun y hy => h y (List.mem_cons_of_mem _ hy)⟩
theorem shN_small {p m : Int} (hp : p.natAbs < 10 ^ 50) (hm : 0 < m) : ∀ x ∈ shN p m, x.natAbs < 10 ^ 60 := fun _ hx => int_small hp hm (shN_mem hx)
theorem tot_len {ps : List Int} {r : Int} (h : ∀ x ∈ ps, x.natAbs < 10 ^ 60) (hr : r.natAbs < 10 ^ 60) (hl : ps.length ≤ 60) : (tupleText [tupleText (ps.map reprM), reprM r]).length ≤ 5000 := by
  have h1 := tupleText_len [tupleText (ps.map reprM), reprM r]
  have h2 := monT_len h
  have h3 := reprM_len hr
  have e : piled [tupleText (ps.map reprM), reprM r] = ((tupleText (ps.map reprM)).length + 2) + ((reprM r).length + 2 + 0) := by
    rw [piled_cons, piled_cons, piled_nil]
  omega
theorem it_tot {C : Addr} {G L : List M} {ps : List Int} {r : Int} (h : ∀ x ∈ ps, x.natAbs < 10 ^ 60) (hr : r.natAbs < 10 ^ 60) : ItR2s C (sp_Money___repr__ C) G L [.tup (ps.map (monD C)), monD C r] [tupleText (ps.map reprM), reprM r] :=
  ⟨.inr ⟨_, _, rfl, rfl, it_mons h⟩, .inl (it_mon hr), trivial⟩
theorem up60 {x : Int} (h : x.natAbs < 10 ^ 50) : x.natAbs < 10 ^ 60 := Nat.lt_trans h (by decide)
theorem shN_at {p m : Int} (hm : 0 < m) : ∃ a b, (shN p m)[0]? = some a ∧ (shN p m)[(shN p m).length - 1]? = some b ∧ a - b < 2 := by
  have hl : 0 < (shN p m).length := by rw [shN_len]; omega
  refine ⟨(shN p m)[0], (shN p m)[(shN p m).length - 1]'(by omega), List.getElem?_eq_getElem hl, List.getElem?_eq_getElem (by omega), ?_⟩
  have h1 := shN_mem (List.getElem_mem hl)
  have h2 := shN_mem (List.getElem_mem (show (shN p m).length - 1 < (shN p m).length by omega))
  omega
section
variable {K : PySem.W.Frag} {Δ : Sl} {G L : List M} {Qd : Po}
theorem ap_sumD {ns : List Int} (k : Qd (.d (.int ns.sum)) G L) : ApC K (rSum K) [.d (.lst (ns.map D.int))] Δ G L Qd := ap_sum rfl (fun _ e => by cases e) k
end
end Pf
namespace Pf
open PySem L2 DL
theorem ok_ini_NoShare {P : Program} {w : World} {K : PySem.W.Frag} {mg : Str → Option Value} {base : Heap} (T : TX w K mg) : FnOk P w K mg base CX0 1 T.ai_NoShare T.fi_NoShare ["self", "many"] (spIniB K "ArithmeticError.__new__" [.type "ArithmeticError", .type "Exception", .type "BaseException", .type "object"] ["many"]) := by
  refine T.Fi_NoShare.ok sc_NoShare___init__ (fun vs H Q E h => iniB_len h) (fun cdv A outer s H vs Q E hr h => ?_)
  have e := iniB_len h
  refine ⟨_, pss_cons (ps_expr (DXg.pe_beinit DXs.bx_ArithmeticError rfl T.z_ArithmeticError DXs.boot_ArithmeticError DXs.ty_ArithmeticError DXs.st_ArithmeticError DXs.hd_ArithmeticError T.vb_ArithmeticError (by decide) (by decide) (pa_cons (pv 0) (pa_cons pe_str pa_nil)))) (pss_one (DXg.ps_ostB DXs.bx_ArithmeticError (pv 0) (pv 1))), ?_⟩
  have z := iniB1 (m := "shared by none") h
  match vs, e with
  | [_, _], _ => exact z
end Pf
namespace Pf
open PySem L2 DL
theorem ok_inih_NoShare {P : Program} {w : World} {K : PySem.W.Frag} {mg : Str → Option Value} {base : Heap} (T : TX w K mg) : L2H.FnH P w K mg base CX0 1 T.ai_NoShare T.fi_NoShare ["self", "many"] (spIniB K "ArithmeticError.__new__" [.type "ArithmeticError", .type "Exception", .type "BaseException", .type "object"] ["many"]) := by
  refine DRd.okH T.Fi_NoShare sc_NoShare___init__ (fun vs H Q E h => iniB_len h) (fun cdv A outer s H vs Q E p hot hr h => ?_)
  have e := iniB_len h
  refine ⟨_, pss_cons (ps_expr (DXg.pe_beinit DXs.bx_ArithmeticError rfl T.z_ArithmeticError DXs.boot_ArithmeticError DXs.ty_ArithmeticError DXs.st_ArithmeticError DXs.hd_ArithmeticError T.vb_ArithmeticError (by decide) (by decide) (pa_cons (pv 0) (pa_cons pe_str pa_nil)))) (pss_one (DXg.ps_ostB DXs.bx_ArithmeticError (pv 0) (pv 1))), ?_⟩
  have z := iniB1 (m := "shared by none") h
  match vs, e with
  | [_, _], _ => exact z
end Pf
local macro_rules | `(tactic| walk_at "draw") => `(tactic| (refine DL.draw_useE (by assumption) (by omega) (by first | omega | (simp only [List.length_map]; omega)) (by first | omega | (simp only [List.length_map]; omega)) ?_; intro _ _ _ _ _ _ _ _ _; dsimp only [asV]))
local macro_rules | `(tactic| walk_at "god") => `(tactic| repeat (first | walk_at "f1" | walk_at "d1" | walk_at "d2" | walk_at "draw"))
local macro_rules | `(tactic| walk_at "d1") => `(tactic| with_reducible first | refine u_eq_ss ?_ | refine u_ne_ss ?_ | refine st_par ?_ | refine iteDr ?_ | refine iteNDr ?_)
local macro_rules | `(tactic| walk_at "ixb") => `(tactic| ((try simp only [List.length_set, List.length_map, List.length_cons, List.length_nil]); omega))
local macro_rules | `(tactic| walk_at "d1") => `(tactic| (with_reducible refine u_get_intX ?_; refine ⟨_, rfl, ?_⟩; refine And.intro ?hb ?_; (case hb => refine ⟨?_, ?_⟩ <;> walk_at "ixb")))
local macro_rules | `(tactic| walk_at "d1") => `(tactic| (with_reducible refine sto_intX ?_; refine ⟨_, rfl, ?_⟩; refine And.intro ?hb ?_; (case hb => refine ⟨?_, ?_⟩ <;> walk_at "ixb")))
local macro_rules | `(tactic| walk_at "ixi") => `(tactic| (with_reducible refine u_ix_intX ?_; refine ⟨_, rfl, ?_⟩; refine And.intro ?hb ?_; (case hb => refine ⟨?_, ?_⟩ <;> walk_at "ixb")))
local macro_rules | `(tactic| walk_at "d1") => `(tactic| (with_reducible refine u_eqL0e ?_; walk_at "seq"; refine ⟨rfl, ?_⟩))
local macro_rules | `(tactic| walk_at "d1") => `(tactic| (with_reducible refine u_neL0e ?_; walk_at "seq"; refine ⟨rfl, ?_⟩))
local macro_rules | `(tactic| walk_at "d1") => `(tactic| with_reducible first | refine evn_c (evn_listRg2 ?_) | refine evb_ch3 ?_ | refine isN_t ?_ | refine notN_t ?_ | refine isN_o ?_ | refine notN_o ?_ | refine u_eq_oi ?_ | refine eva_appI (is := [_]) ?_ | refine eva_appK ?_ | refine ap_intUi ?_ | refine ap_intUb ?_ | refine ap_min3 ?_)
local macro_rules | `(tactic| walk_at "take") => `(tactic| (refine Pf.take_use (by assumption) (by omega) (by omega) (by omega) ?_; intro _ _ _ _ _; dsimp only [asV, asVGL]))
local macro_rules | `(tactic| walk_at "got") => `(tactic| repeat (first | walk_at "f1" | walk_at "d1" | walk_at "d2" | walk_at "take"))
set_option hygiene false in
local macro_rules | `(tactic| walk_at "fl") => `(tactic| with_reducible first | refine evc_fld ?_ | refine ⟨_, _, _, rfl, ⟨T.cl_Money, T.nf_Money_pence⟩, rfl, ?_⟩ | refine evn_c (evn_make ?_) | refine evc_methX ?_ | refine evc_meth ?_ | refine evc_callN1 ?_ | refine evc_callN ?_ | refine u_neL0e ?_ | refine u_eqL0e ?_ | refine Pf.ap_sumD ?_)
set_option hygiene false in
local macro_rules | `(tactic| walk_at "mk") => `(tactic| first | (with_reducible refine ⟨rfl, _, rfl, _, rfl, ?_⟩) | (refine ⟨(show List.lookup _ _ = Option.none from rfl), ?_⟩) | (refine u_eqO ?_))
local macro_rules | `(tactic| walk_at "sd") => `(tactic| first | ((refine ⟨⟨by omega, by omega⟩, fun _ => ?_, fun h => absurd h (by omega)⟩); dsimp only [asV]) | ((refine ⟨⟨by omega, by omega⟩, ?_⟩); dsimp only [asV]))
local macro_rules | `(tactic| walk_at "gm") => `(tactic| repeat (first | walk_at "f1" | walk_at "d1" | walk_at "d2" | walk_at "fl" | walk_at "mk" | walk_at "sd"))

namespace Pf
open PySem L2 DL
section
variable {P : Program} {w : World} {K : PySem.W.Frag} {mg : Str → Option Value} {base : Heap}
local macro_rules | `(tactic| walk_at "d1") => `(tactic| (with_reducible refine st_retO ?_))
theorem ok_l_well (T : TX w K mg) : FnOk P w K mg base CX0 1 T.a_l_well T.fd_l_well ["_law_script", "_law_k"] (spD K sp_l_well) := by
  refine okD (k := 0) T.F_l_well sc_l_well (fun ss G Qd h => ?_) (fun cdv A outer s H E ss G Qd hr h => ?_)
  · obtain ⟨ns, k, rfl, hl, hb, hk, q⟩ := h
    rfl
  · obtain ⟨ns, k, rfl, hl, hb, hk, q⟩ := h
    refine ⟨_, (pss_cons (ps_set (i := 2) sc_l_well.nd rfl (Or.inl rfl) pe_int)
      (pss_cons (ps_if (pt_cmpR op_lt (pv 1) (pe_callB (show CallR _ (.builtin "len") (uLen K) from uc_len) (by rfl) T.z_len (by decide +kernel) (pa_cons (pv 0) pa_nil)) (nomark _)) (pss_one (ps_set (i := 2) sc_l_well.nd rfl (Or.inl rfl) (pe_ix (show IxR _ (rIx K) from ix_seq) (pv 0) (pv 1) (fun _ _ => rfl)))) pss_nil)
      (pss_one (ps_ret (pe_lst (pa_cons (pe_op (show OpR _ (binaryOp .Mult) (uMulT K) from uo_mulT) (pv 2) (pe_callTy uc_int (by rfl) T.z_int (by decide +kernel) (pa_cons (pe_cmpR op_ge (pv 2) (pe_op op_pow pe_int pe_int) (nomark _)) pa_nil))) (pa_cons (pe_op (show OpR _ (binaryOp .Add) (uAdd K) from uo_add) (pe_op op_mod (pv 2) pe_int) (pe_op (show OpR _ (binaryOp .Mult) (uMulT K) from uo_mulT) pe_int (pv 1))) (pa_cons pe_int pa_nil)))))))), ?_⟩
    simp only [cxOf, Cx.nox, Cx.wish, Cx.blk, startD, List.map, List.length_cons, List.length_nil, Nat.reduceAdd, Nat.reduceSub, List.replicate, List.cons_append, List.nil_append]
    walk_at "go"
    rw [List.length_map]
    refine iteD (fun h => ?_) (fun h => ?_)
    · obtain ⟨j, rfl⟩ : ∃ j : Nat, k = (j : Int) := ⟨k.toNat, by omega⟩
      obtain ⟨z, hz⟩ : ∃ z, ns[j]? = some z := ⟨_, List.getElem?_eq_getElem (by omega)⟩
      have hzb := hb z (List.mem_of_getElem? hz)
      walk_at "go"
      refine u_ix_scr (z := z) (atI_of (j := j) hz rfl) ?_
      walk_at "go"
      refine q _ _ ⟨?_, ?_, by omega, by omega, Int.le_refl 0, Int.le_refl 0⟩
      · by_cases e : 1000000000000000000 ≤ z
        · rw [if_pos (decide_eq_true e)]
          omega
        · rw [if_neg (by rw [decide_eq_false e]; decide)]
          omega
      · by_cases e : 1000000000000000000 ≤ z
        · rw [if_pos (decide_eq_true e), Int.mul_one]
          exact hzb.mono (by decide)
        · rw [if_neg (by rw [decide_eq_false e]; decide), Int.mul_zero]
          exact Wd.of (Int.le_refl 0) (Int.pow_pos (by decide))
    · walk_at "go"
      exact q _ _ ⟨by show (0:Int) ≤ 0 * _; omega, by rw [Int.zero_mul]; exact Wd.of (Int.le_refl 0) (Int.pow_pos (by decide)), by omega, by omega, Int.le_refl 0, Int.le_refl 0⟩
end
end Pf
namespace Pf
open PySem L2 DL
section
variable {P : Program} {w : World} {K : PySem.W.Frag} {mg : Str → Option Value} {base : Heap}
theorem ok_l_take (T : TX w K mg) : FnOk P w K mg base CX0 1 T.a_l_take T.fd_l_take ["_law_well_here", "_law_many"] (spD K sp_l_take) := by
  refine okD (k := 0) T.F_l_take sc_l_take (fun ss G Qd h => ?_) (fun cdv A outer s H E ss G Qd hr h => ?_)
  · obtain ⟨k, m, n, rfl, ⟨a, b, c, hk, ho⟩, hn, ⟨hm0, hm1⟩, q⟩ := h
    rfl
  · obtain ⟨k, m, n, rfl, ⟨a, b, c, hk, ho⟩, hn, ⟨hm0, hm1⟩, q⟩ := h
    refine ⟨_, (pss_cons (ps_if (pt_cmpR op_gt (pe_ix (show IxR _ (rIx K) from ix_seq) (pv 0) pe_int (fun _ _ => rfl)) pe_int (nomark _)) (pss_cons (ps_set (i := 2) sc_l_take.nd rfl (Or.inl rfl) (pe_op op_mod (pe_ix (show IxR _ (rIx K) from ix_seq) (pv 0) pe_int (fun _ _ => rfl)) (pv 1)))
      (pss_cons (ps_asg (pe_op op_fdivW (pe_ix (show IxR _ (rIx K) from ix_seq) (pv 0) pe_int (fun _ _ => rfl)) (pv 1)) (pg_sub (pv 0) pe_int set_list))
      (pss_one (ps_ret (pv 2))))) pss_nil)
      (pss_cons (ps_asg (pe_op (show OpR _ (binaryOp .Add) (uAdd K) from uo_add) (pe_ix (show IxR _ (rIx K) from ix_seq) (pv 0) pe_int (fun _ _ => rfl)) pe_int) (pg_sub (pv 0) pe_int set_list))
      (pss_cons (ps_set (i := 3) sc_l_take.nd rfl (Or.inl rfl) (pe_op op_mod (pe_op (show OpR _ (binaryOp .Mult) (uMulT K) from uo_mulT) (pe_op (show OpR _ (binaryOp .Add) (uAdd K) from uo_add) (pe_op (show OpR _ (binaryOp .Add) (uAdd K) from uo_add) (pe_ix (show IxR _ (rIx K) from ix_seq) (pv 0) pe_int (fun _ _ => rfl)) (pe_op (show OpR _ (binaryOp .Mult) (uMulT K) from uo_mulT) pe_int (pe_ix (show IxR _ (rIx K) from ix_seq) (pv 0) pe_int (fun _ _ => rfl)))) pe_int) pe_int) pe_int))
      (pss_cons (ps_set (i := 3) sc_l_take.nd rfl (Or.inl rfl) (pe_op op_mod (pe_op (show OpR _ (binaryOp .Add) (uAdd K) from uo_add) (pe_op (show OpR _ (binaryOp .Mult) (uMulT K) from uo_mulT) (pv 3) (pv 3)) (pe_op (show OpR _ (binaryOp .Mult) (uMulT K) from uo_mulT) pe_int (pe_ix (show IxR _ (rIx K) from ix_seq) (pv 0) pe_int (fun _ _ => rfl)))) pe_int))
      (pss_cons (ps_set (i := 3) sc_l_take.nd rfl (Or.inl rfl) (pe_op (show OpR _ (binaryOp .Add) (uAdd K) from uo_add) (pe_op (show OpR _ (binaryOp .Mult) (uMulT K) from uo_mulT) (pe_op op_mod (pe_op (show OpR _ (binaryOp .Mult) (uMulT K) from uo_mulT) (pv 3) (pe_op (show OpR _ (binaryOp .Add) (uAdd K) from uo_add) (pv 3) pe_int)) pe_int) pe_int) (pv 3)))
      (pss_one (ps_ret (pe_op op_mod (pe_op op_fdivW (pe_op op_mod (pe_op (show OpR _ (binaryOp .Mult) (uMulT K) from uo_mulT) (pv 3) pe_int) pe_int) pe_int) (pv 1))))))))), ?_⟩
    simp only [cxOf, Cx.nox, Cx.wish, Cx.blk, startD, List.map, List.length_cons, List.length_nil, Nat.reduceAdd, Nat.reduceSub, List.replicate, List.cons_append, List.nil_append]
    unfold wlM at hk
    obtain ⟨a0, aw, b0, b1, c0, cn⟩ := ho
    have md : ∀ (x y : Int), 0 < y → 0 ≤ x % y ∧ x % y < y := fun x y h => ⟨Int.emod_nonneg _ (by omega), Int.emod_lt_of_pos _ h⟩
    walk_at "go"
    refine iteD (fun h => ?_) (fun h => ?_)
    · walk_at "go"
      refine sto_gp hk rfl ?_
      walk_at "go"
      exact q _ _ (md a m hm0).1 (md a m hm0).2 ⟨a / m, b, c, rfl, Int.ediv_nonneg a0 (by omega), aw.div a0 hm0, b0, b1, c0, by omega⟩
    · walk_at "go"
      refine sto_gp hk rfl ?_
      have hk1 : (G.set k (.pl [.int a, .int b, .int (c + 1)]))[k]? = some (.pl [.int a, .int b, .int (c + 1)]) := by rw [List.getElem?_set, if_pos rfl, if_pos (List.getElem?_eq_some_iff.mp hk).1]
      have q2 := fun r h0 h1 => q r (G.set k (.pl [.int a, .int b, .int (c + 1)])) h0 h1 ⟨a, b, c + 1, rfl, a0, aw, b0, b1, by omega, by omega⟩
      show StC K _ _ (G.set k (.pl [.int a, .int b, .int (c + 1)])) [] _
      generalize G.set k (.pl [.int a, .int b, .int (c + 1)]) = G1 at hk1 q2
      walk_at "go"
      exact q2 _ (md _ m hm0).1 (md _ m hm0).2
end
end Pf
namespace Pf
open PySem L2 DL
section
variable {P : Program} {w : World} {K : PySem.W.Frag} {mg : Str → Option Value} {base : Heap}
theorem ok_l_pence (T : TX w K mg) (G_l_take : FnOk P w K mg base CX0 1 T.a_l_take T.fd_l_take ["_law_well_here", "_law_many"] (spD K sp_l_take)) : FnOk P w K mg base CX0 2 T.a_l_pence T.fd_l_pence ["_law_well_here"] (spD K sp_l_pence) := by
  refine okD (k := 1) T.F_l_pence sc_l_pence (fun ss G Qd h => ?_) (fun cdv A outer s H E ss G Qd hr h => ?_)
  · obtain ⟨k, n, rfl, hw, hn, q⟩ := h
    rfl
  · obtain ⟨k, n, rfl, hw, hn, q⟩ := h
    refine ⟨_, (pss_cons (ps_set (i := 1) sc_l_pence.nd rfl (Or.inl rfl) (pe_call G_l_take (hr.mono (by decide)) rfl T.m_l_take T.k_l_take T.b_l_take .nil pass0 (pa_cons (pv 0) (pa_cons pe_int pa_nil))))
      (pss_cons (ps_set (i := 2) sc_l_pence.nd rfl (Or.inl rfl) (pe_call G_l_take (hr.mono (by decide)) rfl T.m_l_take T.k_l_take T.b_l_take .nil pass0 (pa_cons (pv 0) (pa_cons pe_int pa_nil))))
      (pss_cons (ps_set (i := 3) sc_l_pence.nd rfl (Or.inl rfl) (pe_call G_l_take (hr.mono (by decide)) rfl T.m_l_take T.k_l_take T.b_l_take .nil pass0 (pa_cons (pv 0) (pa_cons (pe_op op_pow pe_int pe_int) pa_nil))))
      (pss_cons (ps_set (i := 4) sc_l_pence.nd rfl (Or.inl rfl) (pe_op op_sub (pe_call G_l_take (hr.mono (by decide)) rfl T.m_l_take T.k_l_take T.b_l_take .nil pass0 (pa_cons (pv 0) (pa_cons pe_int pa_nil))) pe_int))
      (pss_cons (ps_set (i := 5) sc_l_pence.nd rfl (Or.inl rfl) (pe_ix (show IxR _ (rIx K) from ix_seq) (pe_lst (pa_cons (pe_op op_mod (pv 3) pe_int) (pa_cons (pe_op (show OpR _ (binaryOp .Add) (uAdd K) from uo_add) (pe_op (show OpR _ (binaryOp .Mult) (uMulT K) from uo_mulT) pe_int (pe_op op_mod (pv 3) pe_int)) (pv 4)) (pa_cons (pe_op (show OpR _ (binaryOp .Add) (uAdd K) from uo_add) (pe_op (show OpR _ (binaryOp .Mult) (uMulT K) from uo_mulT) pe_int (pe_op op_mod (pv 3) pe_int)) (pv 4)) (pa_cons pe_int (pa_cons (pe_op op_sub (pe_op op_pow pe_int pe_int) (pv 3)) (pa_cons pe_int pa_nil))))))) (pv 1) (fun _ _ => rfl)))
      (pss_cons (ps_if (pt_cmpR (show OpR _ (compareOp .Eq) (uEq K) from (uo_eq hr.units)) (pv 1) pe_int (nomark _)) (pss_one (ps_set (i := 5) sc_l_pence.nd rfl (Or.inl rfl) (pe_call G_l_take (hr.mono (by decide)) rfl T.m_l_take T.k_l_take T.b_l_take .nil pass0 (pa_cons (pv 0) (pa_cons (pe_op (show OpR _ (binaryOp .Add) (uAdd K) from uo_add) (pe_op op_pow pe_int pe_int) pe_int) pa_nil))))) pss_nil)
      (pss_one (ps_ret (pe_op (show OpR _ (binaryOp .Mult) (uMulT K) from uo_mulT) (pv 5) (pe_ix (show IxR _ (rIx K) from ix_seq) (pe_lst (pa_cons pe_int (pa_cons (pe_un un_neg pe_int) pa_nil))) (pv 2) (fun _ _ => rfl))))))))))), ?_⟩
    simp only [cxOf, Cx.nox, Cx.wish, Cx.blk, startD, List.map, List.length_cons, List.length_nil, Nat.reduceAdd, Nat.reduceSub, List.replicate, List.cons_append, List.nil_append]
    have hw := WlS.self hw
    walk_at "got"
    rename_i r1 G1 a1 b1 c1 r2 G2 a2 b2 c2 r3 G3 a3 b3 c3 r4 G4 a4 b4 hw4
    have e1 : r1 = 0 ∨ r1 = 1 ∨ r1 = 2 ∨ r1 = 3 ∨ r1 = 4 ∨ r1 = 5 := by omega
    have e2 : r2 = 0 ∨ r2 = 1 := by omega
    clear hw c1 c2 c3
    rcases e1 with rfl | rfl | rfl | rfl | rfl | rfl
    all_goals
      walk_at "got"
      try (first | rw [if_neg (by decide)] | rw [if_pos (by decide)])
      walk_at "got"
      rcases e2 with rfl | rfl
      all_goals
        walk_at "got"
        refine q _ _ ?_ (WlS.to (by assumption) (by omega))
        omega
end
end Pf
namespace Pf
open PySem L2 DL
section
variable {P : Program} {w : World} {K : PySem.W.Frag} {mg : Str → Option Value} {base : Heap}
theorem ok_Money___init__ (T : TX w K mg) : FnOk P w K mg base CX0 1 T.a_Money___init__ T.fd_Money___init__ ["self", "pence"] (spD K (sp_Money___init__ T.a_Money)) := by
  refine okD (k := 0) T.F_Money___init__ sc_Money___init__ (fun ss G Qd h => ?_) (fun cdv A outer s H E ss G Qd hr h => ?_)
  · obtain ⟨k, p, rfl, hk, q⟩ := h
    rfl
  · obtain ⟨k, p, rfl, hk, q⟩ := h
    refine ⟨_, (pss_one (ps_fld (pv 0) (pv 1) rfl)), ?_⟩
    simp only [cxOf, Cx.nox, Cx.wish, Cx.blk, startD, List.map, List.length_cons, List.length_nil, Nat.reduceAdd, Nat.reduceSub, List.replicate, List.cons_append, List.nil_append]
    walk_at "go"
    refine st_fldG ?_
    walk_at "go"
    refine ⟨k, _, _, rfl, hk, ⟨T.cl_Money, T.nf_Money_pence⟩, by decide, ?_⟩
    exact q
end
end Pf
namespace Pf
open PySem L2 DL
section
variable {P : Program} {w : World} {K : PySem.W.Frag} {mg : Str → Option Value} {base : Heap}
theorem ok_Money_plus (T : TX w K mg) (G_Money___init__ : FnOk P w K mg base CX0 1 T.a_Money___init__ T.fd_Money___init__ ["self", "pence"] (spD K (sp_Money___init__ T.a_Money))) : FnOk P w K mg base CX0 3 T.a_Money_plus T.fd_Money_plus ["self", "other"] (spD K (sp_Money_plus T.a_Money)) := by
  refine okD (k := 2) T.F_Money_plus sc_Money_plus (fun ss G Qd h => ?_) (fun cdv A outer s H E ss G Qd hr h => ?_)
  · obtain ⟨p, r, rfl, q⟩ := h
    rfl
  · obtain ⟨p, r, rfl, q⟩ := h
    refine ⟨_, (pss_one (ps_ret (pe_make T.mk_Money G_Money___init__ (hr.mono (by decide)) rfl T.m_Money T.b_Money___init__ .nil pass0 (pa_cons (pe_op (show OpR _ (binaryOp .Add) (uAdd K) from uo_add) (pe_fld (pv 0) rfl) (pe_fld (pv 1) rfl)) pa_nil)))), ?_⟩
    simp only [cxOf, Cx.nox, Cx.wish, Cx.blk, startD, List.map, List.length_cons, List.length_nil, Nat.reduceAdd, Nat.reduceSub, List.replicate, List.cons_append, List.nil_append]
    walk_at "gm"
    exact q
end
end Pf
namespace Pf
open PySem L2 DL
section
variable {P : Program} {w : World} {K : PySem.W.Frag} {mg : Str → Option Value} {base : Heap}
theorem ok_Money_less (T : TX w K mg) (G_Money___init__ : FnOk P w K mg base CX0 1 T.a_Money___init__ T.fd_Money___init__ ["self", "pence"] (spD K (sp_Money___init__ T.a_Money))) : FnOk P w K mg base CX0 3 T.a_Money_less T.fd_Money_less ["self", "other"] (spD K (sp_Money_less T.a_Money)) := by
  refine okD (k := 2) T.F_Money_less sc_Money_less (fun ss G Qd h => ?_) (fun cdv A outer s H E ss G Qd hr h => ?_)
  · obtain ⟨p, r, rfl, q⟩ := h
    rfl
  · obtain ⟨p, r, rfl, q⟩ := h
    refine ⟨_, (pss_one (ps_ret (pe_make T.mk_Money G_Money___init__ (hr.mono (by decide)) rfl T.m_Money T.b_Money___init__ .nil pass0 (pa_cons (pe_op op_sub (pe_fld (pv 0) rfl) (pe_fld (pv 1) rfl)) pa_nil)))), ?_⟩
    simp only [cxOf, Cx.nox, Cx.wish, Cx.blk, startD, List.map, List.length_cons, List.length_nil, Nat.reduceAdd, Nat.reduceSub, List.replicate, List.cons_append, List.nil_append]
    walk_at "gm"
    exact q
end
end Pf
namespace Pf
open PySem L2 DL
section
variable {P : Program} {w : World} {K : PySem.W.Frag} {mg : Str → Option Value} {base : Heap}
theorem ok_Money_times (T : TX w K mg) (G_Money___init__ : FnOk P w K mg base CX0 1 T.a_Money___init__ T.fd_Money___init__ ["self", "pence"] (spD K (sp_Money___init__ T.a_Money))) : FnOk P w K mg base CX0 3 T.a_Money_times T.fd_Money_times ["self", "many"] (spD K (sp_Money_times T.a_Money)) := by
  refine okD (k := 2) T.F_Money_times sc_Money_times (fun ss G Qd h => ?_) (fun cdv A outer s H E ss G Qd hr h => ?_)
  · obtain ⟨p, m, rfl, ⟨m0, m1⟩, q⟩ := h
    rfl
  · obtain ⟨p, m, rfl, ⟨m0, m1⟩, q⟩ := h
    refine ⟨_, (pss_one (ps_ret (pe_make T.mk_Money G_Money___init__ (hr.mono (by decide)) rfl T.m_Money T.b_Money___init__ .nil pass0 (pa_cons (pe_op (show OpR _ (binaryOp .Mult) (uMulT K) from uo_mulT) (pe_fld (pv 0) rfl) (pv 1)) pa_nil)))), ?_⟩
    simp only [cxOf, Cx.nox, Cx.wish, Cx.blk, startD, List.map, List.length_cons, List.length_nil, Nat.reduceAdd, Nat.reduceSub, List.replicate, List.cons_append, List.nil_append]
    walk_at "gm"
    exact q
end
end Pf
namespace Pf
open PySem L2 DL
section
variable {P : Program} {w : World} {K : PySem.W.Frag} {mg : Str → Option Value} {base : Heap}
theorem ok_Money_each (T : TX w K mg) (G_Money___init__ : FnOk P w K mg base CX0 1 T.a_Money___init__ T.fd_Money___init__ ["self", "pence"] (spD K (sp_Money___init__ T.a_Money))) (GI_NoShare : FnOk P w K mg base CX0 1 T.ai_NoShare T.fi_NoShare ["self", "many"] (spIniB K "ArithmeticError.__new__" [.type "ArithmeticError", .type "Exception", .type "BaseException", .type "object"] ["many"])) (GH_NoShare : L2H.FnH P w K mg base CX0 1 T.ai_NoShare T.fi_NoShare ["self", "many"] (spIniB K "ArithmeticError.__new__" [.type "ArithmeticError", .type "Exception", .type "BaseException", .type "object"] ["many"])) : FnOk P w K mg base (L2.CX P w) 4 T.a_Money_each T.fd_Money_each ["self", "many"] (spDX K (sp_Money_each T.a_Money T.a_NoShare)) := by
  refine okDX (k := 3) T.F_Money_each sc_Money_each (fun ss G Qd Qx h => ?_) (fun cdv A outer s H E ss G Qd Qx hr h => ?_)
  · obtain ⟨p, m, rfl, ⟨m0, m1⟩, q, qx⟩ := h
    rfl
  · obtain ⟨p, m, rfl, ⟨m0, m1⟩, q, qx⟩ := h
    refine ⟨_, (pss_cons (DRf.ps_tryFrom (i := 3) rfl rfl ⟨rfl, by decide, .inr ⟨T.z_ZeroDivisionError, boot_ZeroDivisionError, by decide⟩⟩ sc_Money_each.nd rfl rfl (.inl rfl) (by decide) (takes_of rfl rfl rfl rfl) (fun W pn xe tk _ _ => (pss_one (ps_asg (show PE _ _ (DRd.tDivX W _ _) from DRd.pe_divX rfl tk (show PE _ _ (tFld K _ _) from (pe_fld (pv 0) rfl)) (pv 1)) (pg_name (i := 2) sc_Money_each.nd rfl (Or.inl rfl))))) DRd.raises_zde (fun a oe pn xe hot => (DRd.pmk5_oexBH DXs.bx_ArithmeticError T.o_NoShare T.ii_NoShare T.ti_NoShare GH_NoShare (L2H.roomH_mark (hr.mono (by decide)) _) hot T.bi_NoShare pass0 rfl T.m_NoShare (pa_cons (pv 1) pa_nil))))
      (pss_one (ps_ret (pe_make T.mk_Money G_Money___init__ (hr.mono (by decide)) rfl T.m_Money T.b_Money___init__ .nil pass0 (pa_cons (pv 2) pa_nil))))), ?_⟩
    simp only [cxOf, Cx.nox, Cx.wish, Cx.blk, startD, List.map, List.length_cons, List.length_nil, Nat.reduceAdd, Nat.reduceSub, List.replicate, List.cons_append, List.nil_append]
    refine st_seq ?_
    refine st_tryFrom (tb := fun W => tAsg (DRd.tDivX W _ _) (gName 2)) (fun Δ' G' L' => m = 0 ∧ Δ' = [some (.d (monD T.a_Money p)), some (.d (.int m)), none, none] ∧ G' = G ∧ L' = []) DRd.exm_zde (fun Wi => ?_) ?_
    · refine st_divX ?_
      walk_at "gm"
      first | refine ⟨⟨by omega, by omega⟩, fun h0 => ?_, fun h0 w0 ls0 H0 k0 σ0 d0 c0 => k0 _ _ _ _ _ c0 ⟨h0, rfl, rfl, rfl⟩⟩ | refine ⟨fun h0 => ?_, fun h0 w0 ls0 H0 k0 σ0 d0 c0 => k0 _ _ _ _ _ c0 ⟨h0, rfl, rfl, rfl⟩⟩
      walk_at "gm"
      exact q (by omega)
    · rintro Δ' G' L' ⟨hz, rfl, rfl, rfl⟩
      refine st_raiseB (Wi := fun cls d _ H => E cls d H) ?_
      walk_at "go"
      refine ⟨[.int m], rfl, rfl, Nat.le_of_ble_eq_true rfl, ⟨T.o_NoShare, fun f hf => by rw [List.mem_singleton.mp hf]; exact T.n_NoShare_many⟩, ?_⟩
      intro w0 ls0 H0 k0 σ0 Δ0 G0 L0 cls0 d0 x0 c0 xn0 e0
      obtain ⟨rfl, rfl, rfl, rfl⟩ := e0
      exact k0 _ _ _ _ _ _ _ c0 xn0 (qx hz)
end
end Pf
namespace Pf
open PySem L2 DL
section
variable {P : Program} {w : World} {K : PySem.W.Frag} {mg : Str → Option Value} {base : Heap}
theorem ok_Money_shares (T : TX w K mg) (G_Money_each : FnOk P w K mg base (L2.CX P w) 4 T.a_Money_each T.fd_Money_each ["self", "many"] (spDX K (sp_Money_each T.a_Money T.a_NoShare))) (G_Money___init__ : FnOk P w K mg base CX0 1 T.a_Money___init__ T.fd_Money___init__ ["self", "pence"] (spD K (sp_Money___init__ T.a_Money))) : FnOk P w K mg base (L2.CX P w) 6 T.a_Money_shares T.fd_Money_shares ["self", "many"] (spDX K (sp_Money_shares T.a_Money T.a_NoShare)) := by
  refine okDX (k := 5) T.F_Money_shares sc_Money_shares (fun ss G Qd Qx h => ?_) (fun cdv A outer s H E ss G Qd Qx hr h => ?_)
  · obtain ⟨p, m, rfl, ⟨m0, m1⟩, q, qx⟩ := h
    rfl
  · obtain ⟨p, m, rfl, ⟨m0, m1⟩, q, qx⟩ := h
    refine ⟨_, (pss_cons (ps_set (i := 2) sc_Money_shares.nd rfl (Or.inr rfl) (DMs.pe_methS (E := WE (fun cls d _ H => E cls d H)) (pv 0) T.cl_Money T.me_Money_each G_Money_each (hr.mono (by decide)) T.b_Money_each .nil (fun σ => passAt (takes_of rfl rfl rfl rfl) σ) (pa_cons (pv 1) pa_nil)))
      (pss_cons (ps_set (i := 3) sc_Money_shares.nd rfl (Or.inr rfl) (pe_op op_sub (pe_fld (pv 0) rfl) (pe_op (show OpR _ (binaryOp .Mult) (uMulT K) from uo_mulT) (pe_fld (pv 2) rfl) (pv 1))))
      (pss_one (ps_ret (pe_callTy (show CallR _ (.type "tuple") (uTuple K) from uc_tuple) (by rfl) T.z_tuple (by decide +kernel) (pa_cons (pe_lc (own := [("k", 4)]) (g := (gName 4)) (tt := tYes) (by rfl) sc_Money_shares.nd (pi_range1 rfl T.z_range (pa_cons (pv 1) pa_nil)) (blkOk_by (N := ["self", "many", "least", "over", "k"]) (sc := defScope s_Money_shares) (by decide +kernel)) (fun _ _ _ _ _ => (pg_name (i := 4) sc_Money_shares.nd rfl (Or.inl rfl))) (fun _ _ _ _ _ => pts_nil) (fun _ _ _ _ _ => (pe_make T.mk_Money G_Money___init__ (hr.mono (by decide)) rfl T.m_Money T.b_Money___init__ .nil pass0 (pa_cons (pe_op (show OpR _ (binaryOp .Add) (uAdd K) from uo_add) (show PE _ _ (tFld K _ _) from (pe_fld (pv 2) rfl)) (pe_callTy uc_int (by rfl) T.z_int (by decide +kernel) (pa_cons (pe_cmpR op_lt (pv 4) (pv 3) (nomark _)) pa_nil))) pa_nil)))) pa_nil)))))), ?_⟩
    simp only [cxOf, Cx.nox, Cx.wish, Cx.blk, startD, List.map, List.length_cons, List.length_nil, Nat.reduceAdd, Nat.reduceSub, List.replicate, List.cons_append, List.nil_append]
    by_cases hm : m = 0
    · refine st_seq ?_
      refine stx_asg (Qx := fun y G' L' => y = NoSh T.a_NoShare m ∧ G' = G) (Wi := fun cls d _ H => E cls d H) (evx_meth ?_) ?_
      · walk_at "gm"
        first | exact ⟨fun h => absurd h (by omega), fun _ => ⟨rfl, rfl⟩⟩ | exact ⟨⟨by omega, by omega⟩, fun h => absurd h (by omega), fun _ => ⟨rfl, rfl⟩⟩
      · exact wish_out (Qd := Qd) fun x G' L' ⟨e1, e2⟩ => by
          rw [e1, e2]
          exact qx hm
    have q := q (by omega)
    clear qx
    walk_at "gm"
    refine evn_c (evn_lcM (List.range m.toNat) (fun (j : Nat) => .int (0 + (j : Int))) (fun _ => true) (fun (j : Nat) => monD T.a_Money (p / m + if (j : Int) < p - p / m * m then 1 else 0)) ?_)
    walk_at "gm"
    refine ⟨by omega, by omega, rfl, lt_line (by rw [List.length_range]; omega), ?_, ?_⟩
    · intro j _
      walk_at "gm"
      refine ⟨rfl, fun _ => ?_, fun e => (by cases e)⟩
      walk_at "gm"
      rw [Int.zero_add]
      refine ⟨?_, rfl, rfl⟩
      simp only [decide_eq_true_eq]
      rfl
    rw [filtT]
    walk_at "gm"
    unfold shN at q
    rw [List.map_map] at q
    exact q
end
end Pf
namespace Pf
open PySem L2 DL
section
variable {P : Program} {w : World} {K : PySem.W.Frag} {mg : Str → Option Value} {base : Heap}
theorem ok_Money___repr__ (T : TX w K mg) : FnOk P w K mg base CX0 1 T.a_Money___repr__ T.fd_Money___repr__ ["self"] (spD K (sp_Money___repr__ T.a_Money)) := by
  refine okD (k := 0) T.F_Money___repr__ sc_Money___repr__ (fun ss G Qd h => ?_) (fun cdv A outer s H E ss G Qd hr h => ?_)
  · obtain ⟨p, rfl, hp, q⟩ := h
    rfl
  · obtain ⟨p, rfl, hp, q⟩ := h
    refine ⟨_, (pss_one (ps_ret (pe_joined (.cons pe_str (.cons (pe_fmt (pe_fld (pv 0) rfl)) (.cons pe_str .nil)))))), ?_⟩
    simp only [cxOf, Cx.nox, Cx.wish, Cx.blk, startD, List.map, List.length_cons, List.length_nil, Nat.reduceAdd, Nat.reduceSub, List.replicate, List.cons_append, List.nil_append]
    have hl := int_len hp
    have l6 : (Str.ofString "Money(").length = 6 := by decide +kernel
    have l1 : (Str.ofString ")").length = 1 := by decide +kernel
    walk_at "go"
    refine evc_joined (evj_cons ?_)
    walk_at "go"
    refine evj_cons (evc_fmtI (evc_fld ?_))
    walk_at "go"
    refine ⟨_, _, _, rfl, ⟨T.cl_Money, T.nf_Money_pence⟩, rfl, ?_⟩
    refine ⟨p, rfl, log_lt hp, ?_⟩
    rw [empty_app]
    refine ⟨_, rfl, le_line (by rw [Str.length_append]; omega), ?_⟩
    refine evj_cons ?_
    walk_at "go"
    refine ⟨le_line (by rw [Str.length_append, Str.length_append]; omega), ?_⟩
    exact q
end
end Pf
namespace Pf
open PySem L2 DL
section
variable {P : Program} {w : World} {K : PySem.W.Frag} {mg : Str → Option Value} {base : Heap}
theorem ok_Money___eq__ (T : TX w K mg) : FnOk P w K mg base CX0 1 T.a_Money___eq__ T.fd_Money___eq__ ["self", "other"] (spD K (sp_Money___eq__ T.a_Money)) := by
  refine okD (k := 0) T.F_Money___eq__ sc_Money___eq__ (fun ss G Qd h => ?_) (fun cdv A outer s H E ss G Qd hr h => ?_)
  · obtain ⟨p, r, rfl, q⟩ := h
    rfl
  · obtain ⟨p, r, rfl, q⟩ := h
    refine ⟨_, (pss_one (ps_ret (pe_and (pe_callB (show CallR _ (.builtin "isinstance") (rIsi K) from call_isi) (by rfl) T.z_isinstance (by decide +kernel) (pa_cons (pv 1) (pa_cons (pe_glob (v := .ref T.a_Money) (by rfl) T.m_Money rfl) pa_nil))) (pe_one (pe_cmpR (show OpR _ (compareOp .Eq) (uEq K) from (uo_eq hr.units)) (pe_fld (pv 1) rfl) (pe_fld (pv 0) rfl) (nomark _)))))), ?_⟩
    simp only [cxOf, Cx.nox, Cx.wish, Cx.blk, startD, List.map, List.length_cons, List.length_nil, Nat.reduceAdd, Nat.reduceSub, List.replicate, List.cons_append, List.nil_append]
    walk_at "go"
    refine ap_isiO ⟨T.cl_Money, T.ji_Money⟩ ?_
    walk_at "gm"
    exact q
end
end Pf
namespace Pf
open PySem L2 DL
section
variable {P : Program} {w : World} {K : PySem.W.Frag} {mg : Str → Option Value} {base : Heap}
local macro_rules | `(tactic| walk_at "d1") => `(tactic| (with_reducible refine evc_ckw ?_))
theorem ok_total (T : TX w K mg) (G_Money___init__ : FnOk P w K mg base CX0 1 T.a_Money___init__ T.fd_Money___init__ ["self", "pence"] (spD K (sp_Money___init__ T.a_Money))) : FnOk P w K mg base CX0 3 T.a_total T.fd_total ["moneys", "start"] (spD K (sp_total T.a_Money)) := by
  refine okDD (k := 2) T.F_total sc_total (fun ss G Qd h => ?_) (fun cdv A outer s H E ss G Qd hr h => ?_)
  · obtain ⟨ps, s, r, rfl, hl, hs, q⟩ := h
    rfl
  · obtain ⟨ps, s, r, rfl, hl, hs, q⟩ := h
    refine ⟨_, (pss_cons (ps_set (i := 2) sc_total.nd rfl (Or.inl rfl) (pe_ifExp (pt_cmpR op_isN (pv 1) pe_non (nomark _)) pe_int (pe_fld (pv 1) rfl)))
      (pss_one (ps_ret (pe_make T.mk_Money G_Money___init__ (hr.mono (by decide)) rfl T.m_Money T.b_Money___init__ .nil pass0 (pa_cons (pe_callBK (show CallRK _ (.builtin "sum") _ (rSumS K) from crk_sumS rfl) (by rfl) T.z_sum (by decide +kernel) (pa_cons (pe_lc (own := [("money", 3)]) (g := (gName 3)) (tt := tYes) (by rfl) sc_total.nd (pi_seq (pv 0)) (blkOk_by (N := ["moneys", "start", "first", "money"]) (sc := defScope s_total) (by decide +kernel)) (fun _ _ _ _ _ => (pg_name (i := 3) sc_total.nd rfl (Or.inl rfl))) (fun _ _ _ _ _ => pts_nil) (fun _ _ _ _ _ => (show PE _ _ (tFld K _ _) from (pe_fld (pv 3) rfl)))) pa_nil) (pk_cons (pv 2) pk_nil)) pa_nil))))), ?_⟩
    simp only [cxOf, Cx.nox, Cx.wish, Cx.blk, startD, List.map, List.length_cons, List.length_nil, Nat.reduceAdd, Nat.reduceSub, List.replicate, List.cons_append, List.nil_append]
    rcases hs with ⟨rfl, rfl⟩ | rfl
    · walk_at "gm"
      refine isN_o (o := none) ?_
      dsimp only [Option.isNone, if_true]
      walk_at "gm"
      refine evn_c (evn_lcM ps (monD T.a_Money) (fun _ => true) D.int ?_)
      walk_at "gm"
      refine ⟨rfl, lt_line (by omega), ?_, ?_⟩
      · intro x _
        walk_at "gm"
        refine ⟨rfl, fun _ => ?_, fun e => (by cases e)⟩
        walk_at "gm"
        exact ⟨rfl, rfl, rfl⟩
      rw [filtT]
      walk_at "gm"
      refine ap_sumS ⟨ps, rfl, ?_⟩
      walk_at "gm"
      exact q
    · walk_at "gm"
      refine isN_ins ?_
      walk_at "gm"
      refine evn_c (evn_lcM ps (monD T.a_Money) (fun _ => true) D.int ?_)
      walk_at "gm"
      refine ⟨rfl, lt_line (by omega), ?_, ?_⟩
      · intro x _
        walk_at "gm"
        refine ⟨rfl, fun _ => ?_, fun e => (by cases e)⟩
        walk_at "gm"
        exact ⟨rfl, rfl, rfl⟩
      rw [filtT]
      walk_at "gm"
      refine ap_sumS ⟨ps, rfl, ?_⟩
      walk_at "gm"
      exact q
end
end Pf
namespace Pf
open PySem L2 DL
section
variable {P : Program} {w : World} {K : PySem.W.Frag} {mg : Str → Option Value} {base : Heap}
theorem ok_l_is_money (T : TX w K mg) : FnOk P w K mg base CX0 1 T.a_l_is_money T.fd_l_is_money ["_law_found", "_law_pence_here"] (spD K (sp_l_is_money T.a_Money)) := by
  refine okD (k := 0) T.F_l_is_money sc_l_is_money (fun ss G Qd h => ?_) (fun cdv A outer s H E ss G Qd hr h => ?_)
  · obtain ⟨p, r, rfl, q⟩ := h
    rfl
  · obtain ⟨p, r, rfl, q⟩ := h
    refine ⟨_, (pss_one (ps_ret (pe_and (pe_callB (show CallR _ (.builtin "isinstance") (rIsi K) from call_isi) (by rfl) T.z_isinstance (by decide +kernel) (pa_cons (pv 0) (pa_cons (pe_glob (v := .ref T.a_Money) (by rfl) T.m_Money rfl) pa_nil))) (pe_and (pe_cmpR (show OpR _ (compareOp .Eq) (uEq K) from (uo_eq hr.units)) (pe_fld (pv 0) rfl) (pv 1) (nomark _)) (pe_one (pe_not (pe_callB (show CallR _ (.builtin "isinstance") (rIsi K) from call_isi) (by rfl) T.z_isinstance (by decide +kernel) (pa_cons (pe_fld (pv 0) rfl) (pa_cons (pe_bltn (v := .ty "bool") (u := .type "bool") (by rfl) T.z_bool (by decide +kernel) rfl) pa_nil))))))))), ?_⟩
    simp only [cxOf, Cx.nox, Cx.wish, Cx.blk, startD, List.map, List.length_cons, List.length_nil, Nat.reduceAdd, Nat.reduceSub, List.replicate, List.cons_append, List.nil_append]
    walk_at "gm"
    refine ap_isiO ⟨T.cl_Money, T.ji_Money⟩ ?_
    walk_at "gm"
    by_cases h : p = r
    · rw [decide_eq_true h] at q ⊢
      walk_at "gm"
      exact q
    · rw [decide_eq_false h] at q ⊢
      exact q
end
end Pf
namespace Pf
open PySem L2 DL
section
variable {P : Program} {w : World} {K : PySem.W.Frag} {mg : Str → Option Value} {base : Heap}
theorem ok_l_down (T : TX w K mg) : FnOk P w K mg base CX0 1 T.a_l_down T.fd_l_down ["_law_pence_here", "_law_many"] (spD K sp_l_down) := by
  refine okD (k := 0) T.F_l_down sc_l_down (fun ss G Qd h => ?_) (fun cdv A outer s H E ss G Qd hr h => ?_)
  · obtain ⟨p, m, rfl, ⟨m0, m1⟩, q⟩ := h
    rfl
  · obtain ⟨p, m, rfl, ⟨m0, m1⟩, q⟩ := h
    refine ⟨_, (pss_cons (ps_set (i := 2) sc_l_down.nd rfl (Or.inl rfl) (pe_callB (show CallR _ (.builtin "abs") rAbs from call_absN) (by rfl) T.z_abs (by decide +kernel) (pa_cons (pv 0) pa_nil)))
      (pss_cons (ps_set (i := 3) sc_l_down.nd rfl (Or.inl rfl) (pe_op op_fdivW (pv 2) (pv 1)))
      (pss_cons (ps_if (pt_cmpR op_lt (pv 0) pe_int (nomark _)) (pss_one (ps_set (i := 3) sc_l_down.nd rfl (Or.inl rfl) (pe_op op_sub (pe_op op_sub pe_int (pv 3)) (pe_callTy uc_int (by rfl) T.z_int (by decide +kernel) (pa_cons (pe_cmpR op_lt (pe_op (show OpR _ (binaryOp .Mult) (uMulT K) from uo_mulT) (pv 3) (pv 1)) (pv 2) (nomark _)) pa_nil))))) pss_nil)
      (pss_one (ps_ret (pv 3)))))), ?_⟩
    simp only [cxOf, Cx.nox, Cx.wish, Cx.blk, startD, List.map, List.length_cons, List.length_nil, Nat.reduceAdd, Nat.reduceSub, List.replicate, List.cons_append, List.nil_append]
    have hd := down_is (p := p) m0
    walk_at "gm"
    refine ap_abs ?_
    rw [show (if p < 0 then -p else p) = (p.natAbs : Int) by split <;> omega]
    walk_at "gm"
    refine iteD (fun h => ?_) (fun h => ?_)
    · rw [if_pos h] at hd
      walk_at "gm"
      simp only [decide_eq_true_eq]
      rw [hd]
      exact q
    · rw [if_neg h] at hd
      walk_at "gm"
      rw [hd]
      exact q
end
end Pf
namespace Pf
open PySem L2 DL
section
variable {P : Program} {w : World} {K : PySem.W.Frag} {mg : Str → Option Value} {base : Heap}
local macro_rules | `(tactic| walk_at "d1") => `(tactic| (with_reducible refine evc_ckw ?_))
theorem ok_l_shares_right (T : TX w K mg) (G_l_is_money : FnOk P w K mg base CX0 1 T.a_l_is_money T.fd_l_is_money ["_law_found", "_law_pence_here"] (spD K (sp_l_is_money T.a_Money))) (G_l_down : FnOk P w K mg base CX0 1 T.a_l_down T.fd_l_down ["_law_pence_here", "_law_many"] (spD K sp_l_down)) (G_Money_shares : FnOk P w K mg base (L2.CX P w) 6 T.a_Money_shares T.fd_Money_shares ["self", "many"] (spDX K (sp_Money_shares T.a_Money T.a_NoShare))) (G_Money_each : FnOk P w K mg base (L2.CX P w) 4 T.a_Money_each T.fd_Money_each ["self", "many"] (spDX K (sp_Money_each T.a_Money T.a_NoShare))) (G_Money___repr__ : FnOk P w K mg base CX0 1 T.a_Money___repr__ T.fd_Money___repr__ ["self"] (spD K (sp_Money___repr__ T.a_Money))) : FnG P w K mg base 10 T.a_l_shares_right T.fd_l_shares_right ["_law_money", "_law_pence_here", "_law_many"] (spD K (sp_l_shares_right T.a_Money)) := by
  refine okDG (k := 9) T.F_l_shares_right sc_l_shares_right (fun ss G Qd h => ?_) (fun cdv A outer s H E ss G Qd hg hr h => ?_)
  · obtain ⟨p, m, rfl, ⟨m0, m1⟩, hp, q⟩ := h
    rfl
  · obtain ⟨p, m, rfl, ⟨m0, m1⟩, hp, q⟩ := h
    refine ⟨_, (pss_cons (ps_set (i := 3) sc_l_shares_right.nd rfl (Or.inl rfl) (DMs.pe_methS (E := WE (fun _ _ _ _ => False)) (pv 0) T.cl_Money T.me_Money_shares G_Money_shares (hr.mono (by decide)) T.b_Money_shares .nil (fun σ => passAt takes0 σ) (pa_cons (pv 2) pa_nil)))
      (pss_cons (ps_if (PW.pt (pw_or (pt_not (pt_val (pe_callB (show CallR _ (.builtin "isinstance") (rIsi K) from call_isi) (by rfl) T.z_isinstance (by decide +kernel) (pa_cons (pv 3) (pa_cons (pe_bltn (v := .ty "tuple") (u := .type "tuple") (by rfl) T.z_tuple (by decide +kernel) rfl) pa_nil))))) (pw_or1 (pt_cmpR (show OpR _ (compareOp .NotEq) (uNe K) from (uo_ne hr.units)) (pe_callB (show CallR _ (.builtin "len") (uLen K) from uc_len) (by rfl) T.z_len (by decide +kernel) (pa_cons (pv 3) pa_nil)) (pv 2) (nomark _))))) (pss_one (ps_ret pe_bl)) pss_nil)
      (pss_cons (ps_if (pt_not (pt_val (pe_call G_l_is_money (hr.mono (by decide)) rfl T.m_l_is_money T.k_l_is_money T.b_l_is_money .nil pass0 (pa_cons (DMs.pe_methS (E := WE (fun _ _ _ _ => False)) (pv 0) T.cl_Money T.me_Money_each G_Money_each (hr.mono (by decide)) T.b_Money_each .nil (fun σ => passAt takes0 σ) (pa_cons (pv 2) pa_nil)) (pa_cons (pe_call G_l_down (hr.mono (by decide)) rfl T.m_l_down T.k_l_down T.b_l_down .nil pass0 (pa_cons (pv 1) (pa_cons (pv 2) pa_nil))) pa_nil))))) (pss_one (ps_ret pe_bl)) pss_nil)
      (pss_cons (ps_setLc (i := 4) (own := [("_law_one", 5)]) (g := (gName 5)) (by rfl) sc_l_shares_right.nd rfl rfl (sw_true rfl rfl rfl (by decide +kernel)) (pi_seq (pv 3)) (blkOk_by (N := ["_law_money", "_law_pence_here", "_law_many", "_law_found", "_law_rows", "_law_one"]) (sc := defScope s_l_shares_right) (by decide +kernel)) (fun _ _ _ _ _ => (pg_name (i := 5) sc_l_shares_right.nd rfl (Or.inl rfl))) (fun _ _ _ _ _ => (pts_one (pt_val (pe_callB (show CallR _ (.builtin "isinstance") (rIsi K) from call_isi) (by rfl) T.z_isinstance (by decide +kernel) (pa_cons (pv 5) (pa_cons (pe_glob (v := .ref T.a_Money) (by rfl) T.m_Money rfl) pa_nil)))))) (fun _ _ _ _ _ => (show PE _ _ (tFld K _ _) from (pe_fld (pv 5) rfl))))
      (pss_cons (ps_if (PW.pt (pw_or (pt_cmpR (show OpR _ (compareOp .NotEq) (uNe K) from (uo_ne hr.units)) (pe_callB (show CallR _ (.builtin "len") (uLen K) from uc_len) (by rfl) T.z_len (by decide +kernel) (pa_cons (pv 4) pa_nil)) (pv 2) (nomark _)) (pw_or (pt_cmpR (show OpR _ (compareOp .NotEq) (uNe K) from (uo_ne hr.units)) (pe_callB (show CallR _ (.builtin "sum") (rSum K) from (cr_sum rfl)) (by rfl) T.z_sum (by decide +kernel) (pa_cons (pv 4) pa_nil)) (pv 1) (nomark _)) (pw_or1 (pt_cmpR (show OpR _ (compareOp .NotEq) (uNe K) from (uo_ne hr.units)) (pv 4) (pe_callBK (show CallRK _ (.builtin "sorted") _ (rSortedKw K true [.bl true]) from cr_sortedRev) (by rfl) T.z_sorted (by decide +kernel) (pa_cons (pv 4) pa_nil) (pk_cons pe_bl pk_nil)) (nomark _)))))) (pss_one (ps_ret pe_bl)) pss_nil)
      (pss_one (ps_ret (pe_and (pe_cmpR op_lt (pe_op op_sub (pe_ix (show IxR _ (rIx K) from ix_seq) (pv 4) pe_int (fun _ _ => rfl)) (pe_ix (show IxR _ (rIx K) from ix_seq) (pv 4) (pe_un un_neg pe_int) (fun _ _ => rfl))) pe_int (nomark _)) (pe_and (pe_cmpR (show OpR _ (compareOp .Eq) (uEq K) from (uo_eq hr.units)) (pe_fld (pv 0) rfl) (pv 1) (nomark _)) (pe_one (pe_cmpR (show OpR _ (compareOp .Eq) (uEq K) from (uo_eq hr.units)) (pe_callB (show CallR _ (.builtin "repr") (DRo.rReprI1 K T.a_Money (spD K (sp_Money___repr__ T.a_Money)) E0) from DRo.call_reprI1 G_Money___repr__ hg (hr.mono (by decide)) T.me_Money___repr__.at_ T.me_Money___repr__.fn T.b_Money___repr__ pass0) (by rfl) T.z_repr (by decide +kernel) (pa_cons (DMs.pe_methS (E := WE (fun _ _ _ _ => False)) (pv 0) T.cl_Money T.me_Money_shares G_Money_shares (hr.mono (by decide)) T.b_Money_shares .nil (fun σ => passAt takes0 σ) (pa_cons (pv 2) pa_nil)) pa_nil)) (pe_callB (show CallR _ (.builtin "repr") (DRo.rReprI1 K T.a_Money (spD K (sp_Money___repr__ T.a_Money)) E0) from DRo.call_reprI1 G_Money___repr__ hg (hr.mono (by decide)) T.me_Money___repr__.at_ T.me_Money___repr__.fn T.b_Money___repr__ pass0) (by rfl) T.z_repr (by decide +kernel) (pa_cons (pv 3) pa_nil)) (nomark _)))))))))))), ?_⟩
    simp only [cxOf, Cx.nox, Cx.wish, Cx.blk, startD, List.map, List.length_cons, List.length_nil, Nat.reduceAdd, Nat.reduceSub, List.replicate, List.cons_append, List.nil_append]
    have hm : 0 < m := by omega
    have hl : (((shN p m).length : Nat) : Int) = m := by rw [shN_len]; omega
    have hs := shN_small hp hm
    walk_at "gm"
    rw [List.length_map, hl, decide_eq_true rfl]
    walk_at "gm"
    refine evn_c (evn_lcM (shN p m) (monD T.a_Money) (fun _ => true) D.int ?_)
    walk_at "gm"
    refine ⟨rfl, lt_line (by omega), ?_, ?_⟩
    · intro x _
      walk_at "gm"
      refine ap_isiO ⟨T.cl_Money, T.ji_Money⟩ ?_
      walk_at "gm"
      refine ⟨rfl, fun _ => ?_, fun e => (by cases e)⟩
      walk_at "gm"
      exact ⟨rfl, rfl, rfl⟩
    rw [filtT]
    walk_at "gm"
    rw [List.length_map, hl, decide_eq_true rfl]
    walk_at "gm"
    rw [shN_sum hm, decide_eq_true rfl]
    walk_at "gm"
    refine ap_sortedRev ⟨_, rfl, fun ns' pm pw => ?_⟩
    obtain rfl := falls_is pm pw (shN_falls p m)
    obtain ⟨b, hb1, hb2⟩ := last_at D.int (xs := shN p m) (by
      have h0 : 0 < (shN p m).length := by rw [shN_len]; omega
      cases e : shN p m with
      | nil => rw [e] at h0; cases h0
      | cons x xs => rfl)
    obtain ⟨a, _, ha, _, _⟩ := shN_at (p := p) hm
    have ha1 := shN_mem (List.mem_of_getElem? ha)
    have hb1 := shN_mem hb1
    refine u_ne_same rfl rfl ⟨1, by decide, eqb1_lst fun d hd => by (obtain ⟨i, _, rfl⟩ := List.mem_map.mp hd; exact eqb1_int 0 i)⟩ ?_
    walk_at "gm"
    refine u_ix_g (x := .d (.lst _)) rfl (d := .int a) (atI_of (j := 0) (by rw [List.getElem?_map, ha]; rfl) rfl) ?_
    walk_at "gm"
    refine u_ix_g (x := .d (.lst _)) rfl (d := .int b) hb2 ?_
    walk_at "gm"
    rw [decide_eq_true (show a - b < 2 by omega)]
    walk_at "gm"
    have hz : (tupleText ((shN p m).map reprM)).length ≤ sizeLine := by
      have := monT_len hs
      exact le_line (by omega)
    refine ap_reprI1 (it_mons hs) hz ?_
    walk_at "gm"
    refine ap_reprI1 (it_mons hs) hz ?_
    walk_at "gm"
    exact q
end
end Pf
namespace Pf
open PySem L2 DL
section
variable {P : Program} {w : World} {K : PySem.W.Frag} {mg : Str → Option Value} {base : Heap}
local macro_rules | `(tactic| walk_at "d1") => `(tactic| (refine stx_drop (evx_meth ?_) (fun _ _ _ k => k)))
theorem ok_l_none_right (T : TX w K mg) (G_Money_each : FnOk P w K mg base (L2.CX P w) 4 T.a_Money_each T.fd_Money_each ["self", "many"] (spDX K (sp_Money_each T.a_Money T.a_NoShare))) (G_Money_shares : FnOk P w K mg base (L2.CX P w) 6 T.a_Money_shares T.fd_Money_shares ["self", "many"] (spDX K (sp_Money_shares T.a_Money T.a_NoShare))) (G_Money___init__ : FnOk P w K mg base CX0 1 T.a_Money___init__ T.fd_Money___init__ ["self", "pence"] (spD K (sp_Money___init__ T.a_Money))) : FnOk P w K mg base CX0 8 T.a_l_none_right T.fd_l_none_right ["_law_pence_here"] (spD K sp_l_none_right) := by
  refine okD (k := 7) T.F_l_none_right sc_l_none_right (fun ss G Qd h => ?_) (fun cdv A outer s H E ss G Qd hr h => ?_)
  · obtain ⟨p, rfl, q⟩ := h
    rfl
  · obtain ⟨p, rfl, q⟩ := h
    refine ⟨_, (pss_cons (ps_set (i := 1) sc_l_none_right.nd rfl (Or.inl rfl) pe_int)
      (pss_cons (ps_for PassesOwn.never rfl (pi_range1 rfl T.z_range (pa_cons pe_int pa_nil)) (pg_name (i := 2) sc_l_none_right.nd rfl (Or.inl rfl)) (pss_one (DTm.ps_try_all rfl rfl takes0 (fun W pn xe tk _ => (pss_one (ps_if (pt_cmpR (show OpR _ (compareOp .Eq) (uEq K) from (uo_eq hr.units)) (pv 2) pe_int (nomark _)) (pss_one (ps_expr (DMs.pe_methS (E := WE W) (pe_make T.mk_Money G_Money___init__ (hr.mono (by decide)) rfl T.m_Money T.b_Money___init__ .nil pass0 (pa_cons (pv 0) pa_nil)) T.cl_Money T.me_Money_each G_Money_each (hr.mono (by decide)) T.b_Money_each .nil (fun σ => passAt tk σ) (pa_cons pe_int pa_nil)))) (pss_one (ps_expr (DMs.pe_methS (E := WE W) (pe_make T.mk_Money G_Money___init__ (hr.mono (by decide)) rfl T.m_Money T.b_Money___init__ .nil pass0 (pa_cons (pv 0) pa_nil)) T.cl_Money T.me_Money_shares G_Money_shares (hr.mono (by decide)) T.b_Money_shares .nil (fun σ => passAt tk σ) (pa_cons pe_int pa_nil))))))) (DTm.HdOk.cons (oi := some 3) ⟨rfl, by decide, .inl T.m_NoShare⟩ ⟨sc_l_none_right.nd, rfl, rfl⟩ (fun _ _ => (pss_cons (ps_set (i := 4) sc_l_none_right.nd rfl (Or.inl rfl) (pe_callB (show CallR _ (.builtin "isinstance") (DXv.rIsV K) from DXv.call_isV) (by rfl) T.z_isinstance (by decide +kernel) (pa_cons (pv 3) (pa_cons (pe_tup (pa_cons (pe_bltn (v := .ty "ValueError") (u := .type "ValueError") (by rfl) T.z_ValueError (by decide +kernel) rfl) (pa_cons (pe_glob (v := .ref T.a_MasterError) (by rfl) T.m_MasterError rfl) (pa_cons (pe_glob (v := .ref T.a_Endless) (by rfl) T.m_Endless rfl) (pa_cons (pe_glob (v := .ref T.a_Lacking) (by rfl) T.m_Lacking rfl) (pa_cons (pe_glob (v := .ref T.a_NoText) (by rfl) T.m_NoText rfl) (pa_cons (pe_glob (v := .ref T.a_TooHeavy) (by rfl) T.m_TooHeavy rfl) (pa_cons (pe_glob (v := .ref T.a_Unlike) (by rfl) T.m_Unlike rfl) pa_nil)))))))) pa_nil))))
      (pss_one (ps_set (i := 1) sc_l_none_right.nd rfl (Or.inl rfl) (pe_op (show OpR _ (binaryOp .Add) (uAdd K) from uo_add) (pv 1) (pe_callTy uc_int (by rfl) T.z_int (by decide +kernel) (pa_cons (pe_and (pe_callB (show CallR _ (.builtin "isinstance") (DXv.rIsV K) from DXv.call_isV) (by rfl) T.z_isinstance (by decide +kernel) (pa_cons (pv 3) (pa_cons (pe_bltn (v := .ty "ArithmeticError") (u := .type "ArithmeticError") (by rfl) T.z_ArithmeticError (by decide +kernel) rfl) pa_nil))) (pe_and (pe_not (pv 4)) (pe_one (pe_cmpR (show OpR _ (compareOp .Eq) (uEq K) from (uo_eq hr.units)) (show PE _ _ (DXv.tXfV K "many" _) from DXv.pe_xfV (pv 3)) pe_int (nomark _))))) pa_nil))))))) DTm.HdOk.nil))))
      (pss_one (ps_ret (pe_cmpR (show OpR _ (compareOp .Eq) (uEq K) from (uo_eq hr.units)) (pv 1) pe_int (nomark _)))))), ?_⟩
    simp only [cxOf, Cx.nox, Cx.wish, Cx.blk, startD, List.map, List.length_cons, List.length_nil, Nat.reduceAdd, Nat.reduceSub, List.replicate, List.cons_append, List.nil_append]
    walk_at "gm"
    refine st_for ?_
    walk_at "gm"
    refine ⟨by decide, by decide, ?_⟩
    refine ⟨fun i Δ' G' L' => ∃ s2 s3 s4, Δ' = [some (.d (.int p)), some (.d (.int (i : Int))), s2, s3, s4] ∧ G' = G ∧ L' = [], ⟨_, _, _, rfl, rfl, rfl⟩, ?_, ?_⟩
    · rintro i d Δ' G' L' hd ⟨s2, s3, s4, rfl, rfl, rfl⟩
      obtain ⟨hi, rfl⟩ := rngD_get hd
      have hi2 : i < 2 := by omega
      walk_at "gm"
      refine st_tryAll (tb := fun W => tIfS (tTest (tOp (uEq K) (tVar 2) (tC (V.int 0)))) (tDrop (DMs.tMethS T.a_Money "each" (spDX K (sp_Money_each T.a_Money T.a_NoShare)) [] (WE W) (tMake T.a_Money (spD K (sp_Money___init__ T.a_Money)) [] E0 (tCons (tVar 0) tNil)) (tCons (tC (V.int 0)) tNil))) (tDrop (DMs.tMethS T.a_Money "shares" (spDX K (sp_Money_shares T.a_Money T.a_NoShare)) [] (WE W) (tMake T.a_Money (spD K (sp_Money___init__ T.a_Money)) [] E0 (tCons (tVar 0) tNil)) (tCons (tC (V.int 0)) tNil)))) (fun y Δ' G1 L1 => Δ' = [some (.d (.int p)), some (.d (.int (i : Int))), some (.d (.int (0 + (i : Int)))), s3, s4] ∧ y = NoSh T.a_NoShare 0 ∧ G1 = G' ∧ L1 = []) (fun Wi => ?_) ?_
      · have : i = 0 ∨ i = 1 := by omega
        rcases this with rfl | rfl
        · walk_at "gm"
          exact ⟨fun h => absurd h (by decide), fun _ => ⟨rfl, rfl, rfl⟩⟩
        · walk_at "gm"
          exact ⟨fun h => absurd h (by decide), fun _ => ⟨rfl, rfl, rfl⟩⟩
      · rintro y Δ' G1 L1 ⟨rfl, rfl, rfl, rfl⟩
        refine ⟨true, T.s_NoShare_NoShare, fun _ => ?_, fun e => (by cases e)⟩
        dsimp only [setO, unO, NoSh, List.set]
        walk_at "go"
        refine ap_isVs ⟨[.type "ValueError", .ref T.a_MasterError, .ref T.a_Endless, .ref T.a_Lacking, .ref T.a_NoText, .ref T.a_TooHeavy, .ref T.a_Unlike], false, rfl, ⟨T.e_NoShare, by simp only [PySem.W.kitAny, T.k_NoShare_ValueError, T.k_NoShare_MasterError, T.k_NoShare_Endless, T.k_NoShare_Lacking, T.k_NoShare_NoText, T.k_NoShare_TooHeavy, T.k_NoShare_Unlike]⟩, ?_⟩
        walk_at "go"
        refine ap_isVt ⟨true, ⟨T.e_NoShare, T.k_NoShare_ArithmeticError⟩, ?_⟩
        walk_at "go"
        refine evc_xfV ?_
        walk_at "go"
        refine ⟨_, _, _, rfl, ⟨T.x_NoShare, T.n_NoShare_many⟩, rfl, ?_⟩
        walk_at "go"
        exact ⟨_, _, _, rfl, rfl, rfl⟩
    · rintro Δ' G' L' ⟨s2, s3, s4, rfl, rfl, rfl⟩
      walk_at "gm"
      exact q
end
end Pf
namespace Pf
open PySem L2 DL
section
variable {P : Program} {w : World} {K : PySem.W.Frag} {mg : Str → Option Value} {base : Heap}
theorem ok_l_reckoned_right (T : TX w K mg) (G_l_is_money : FnOk P w K mg base CX0 1 T.a_l_is_money T.fd_l_is_money ["_law_found", "_law_pence_here"] (spD K (sp_l_is_money T.a_Money))) (G_Money___init__ : FnOk P w K mg base CX0 1 T.a_Money___init__ T.fd_Money___init__ ["self", "pence"] (spD K (sp_Money___init__ T.a_Money))) (G_Money_plus : FnOk P w K mg base CX0 3 T.a_Money_plus T.fd_Money_plus ["self", "other"] (spD K (sp_Money_plus T.a_Money))) (G_Money_less : FnOk P w K mg base CX0 3 T.a_Money_less T.fd_Money_less ["self", "other"] (spD K (sp_Money_less T.a_Money))) (G_Money_times : FnOk P w K mg base CX0 3 T.a_Money_times T.fd_Money_times ["self", "many"] (spD K (sp_Money_times T.a_Money))) (G_Money___eq__ : FnOk P w K mg base CX0 1 T.a_Money___eq__ T.fd_Money___eq__ ["self", "other"] (spD K (sp_Money___eq__ T.a_Money))) : FnOk P w K mg base CX0 5 T.a_l_reckoned_right T.fd_l_reckoned_right ["_law_one", "_law_other", "_law_many"] (spD K sp_l_reckoned_right) := by
  refine okD (k := 4) T.F_l_reckoned_right sc_l_reckoned_right (fun ss G Qd h => ?_) (fun cdv A outer s H E ss G Qd hr h => ?_)
  · obtain ⟨p, r, m, rfl, ⟨m0, m1⟩, q⟩ := h
    rfl
  · obtain ⟨p, r, m, rfl, ⟨m0, m1⟩, q⟩ := h
    refine ⟨_, (pss_cons (ps_par (i := 3) (j := 4) (by rfl) sc_l_reckoned_right.nd rfl rfl (by decide) rfl rfl (pa_cons (pe_make T.mk_Money G_Money___init__ (hr.mono (by decide)) rfl T.m_Money T.b_Money___init__ .nil pass0 (pa_cons (pv 0) pa_nil)) (pa_cons (pe_make T.mk_Money G_Money___init__ (hr.mono (by decide)) rfl T.m_Money T.b_Money___init__ .nil pass0 (pa_cons (pv 1) pa_nil)) pa_nil)) (by rfl))
      (pss_cons (ps_set (i := 5) sc_l_reckoned_right.nd rfl (Or.inr rfl) (pe_lst (pa_cons (pe_meth (pv 3) T.cl_Money T.me_Money_plus G_Money_plus (hr.mono (by decide)) T.b_Money_plus .nil pass0 (pa_cons (pv 4) pa_nil)) (pa_cons (pe_meth (pv 3) T.cl_Money T.me_Money_less G_Money_less (hr.mono (by decide)) T.b_Money_less .nil pass0 (pa_cons (pv 4) pa_nil)) (pa_cons (pe_meth (pv 4) T.cl_Money T.me_Money_less G_Money_less (hr.mono (by decide)) T.b_Money_less .nil pass0 (pa_cons (pv 3) pa_nil)) (pa_cons (pe_meth (pv 3) T.cl_Money T.me_Money_times G_Money_times (hr.mono (by decide)) T.b_Money_times .nil pass0 (pa_cons (pv 2) pa_nil)) (pa_cons (pe_meth (pv 3) T.cl_Money T.me_Money_times G_Money_times (hr.mono (by decide)) T.b_Money_times .nil pass0 (pa_cons (pe_op op_sub pe_int (pv 2)) pa_nil)) pa_nil)))))))
      (pss_cons (ps_set (i := 6) sc_l_reckoned_right.nd rfl (Or.inr rfl) (pe_lst (pa_cons (pe_op (show OpR _ (binaryOp .Add) (uAdd K) from uo_add) (pv 0) (pv 1)) (pa_cons (pe_op op_sub (pv 0) (pv 1)) (pa_cons (pe_op op_sub (pv 1) (pv 0)) (pa_cons (pe_op (show OpR _ (binaryOp .Mult) (uMulT K) from uo_mulT) (pv 0) (pv 2)) (pa_cons (pe_op op_sub pe_int (pe_op (show OpR _ (binaryOp .Mult) (uMulT K) from uo_mulT) (pv 0) (pv 2))) pa_nil)))))))
      (pss_cons (ps_if (PW.pt (pw_or (pt_cmpR (show OpR _ (compareOp .NotEq) (rEqL0 K true) from op_neL0 hr.units) (pe_lc (own := [("_law_k", 7)]) (g := (gName 7)) (by rfl) sc_l_reckoned_right.nd (pi_range1 rfl T.z_range (pa_cons pe_int pa_nil)) (blkOk_by (N := ["_law_one", "_law_other", "_law_many", "_law_here", "_law_there", "_law_found", "_law_dues", "_law_k"]) (sc := defScope s_l_reckoned_right) (by decide +kernel)) (fun _ _ _ _ _ => (pg_name (i := 7) sc_l_reckoned_right.nd rfl (Or.inl rfl))) (fun _ _ _ _ _ => (pts_one (pt_not (pt_val (pe_call G_l_is_money (hr.mono (by decide)) rfl T.m_l_is_money T.k_l_is_money T.b_l_is_money .nil pass0 (pa_cons (pe_ix (show IxR _ (rIx K) from ix_seq) (pv 5) (pv 7) (fun _ _ => rfl)) (pa_cons (pe_ix (show IxR _ (rIx K) from ix_seq) (pv 6) (pv 7) (fun _ _ => rfl)) pa_nil))))))) (fun _ _ _ _ _ => (pv 7))) (pe_lst pa_nil) (nomark _)) (pw_or1 (pt_cmpR (show OpR _ (compareOp .NotEq) (uNe K) from (uo_ne hr.units)) (pe_tup (pa_cons (pe_fld (pv 3) rfl) (pa_cons (pe_fld (pv 4) rfl) pa_nil))) (pe_tup (pa_cons (pv 0) (pa_cons (pv 1) pa_nil))) (nomark _))))) (pss_one (ps_ret pe_bl)) pss_nil)
      (pss_one (ps_ret (pe_and (pe_cmpR (show OpR _ (compareOp .Eq) (DOw.rEqO T.a_Money (spD K (sp_Money___eq__ T.a_Money)) E0) from DOw.op_eqO G_Money___eq__ (hr.mono (by decide)) T.me_Money___eq__.at_ T.me_Money___eq__.fn T.b_Money___eq__ pass0) (pe_meth (pv 3) T.cl_Money T.me_Money_less G_Money_less (hr.mono (by decide)) T.b_Money_less .nil pass0 (pa_cons (pv 3) pa_nil)) (pe_make T.mk_Money G_Money___init__ (hr.mono (by decide)) rfl T.m_Money T.b_Money___init__ .nil pass0 (pa_cons pe_int pa_nil)) (nomark _)) (pe_and (pe_cmpR (show OpR _ (compareOp .Eq) (DOw.rEqO T.a_Money (spD K (sp_Money___eq__ T.a_Money)) E0) from DOw.op_eqO G_Money___eq__ (hr.mono (by decide)) T.me_Money___eq__.at_ T.me_Money___eq__.fn T.b_Money___eq__ pass0) (pe_meth (pv 3) T.cl_Money T.me_Money_plus G_Money_plus (hr.mono (by decide)) T.b_Money_plus .nil pass0 (pa_cons (pv 4) pa_nil)) (pe_meth (pv 4) T.cl_Money T.me_Money_plus G_Money_plus (hr.mono (by decide)) T.b_Money_plus .nil pass0 (pa_cons (pv 3) pa_nil)) (nomark _)) (pe_one (pe_cmpR (show OpR _ (compareOp .Eq) (DOw.rEqO T.a_Money (spD K (sp_Money___eq__ T.a_Money)) E0) from DOw.op_eqO G_Money___eq__ (hr.mono (by decide)) T.me_Money___eq__.at_ T.me_Money___eq__.fn T.b_Money___eq__ pass0) (pe_meth (pv 3) T.cl_Money T.me_Money_times G_Money_times (hr.mono (by decide)) T.b_Money_times .nil pass0 (pa_cons pe_int pa_nil)) (pe_make T.mk_Money G_Money___init__ (hr.mono (by decide)) rfl T.m_Money T.b_Money___init__ .nil pass0 (pa_cons pe_int pa_nil)) (nomark _))))))))))), ?_⟩
    simp only [cxOf, Cx.nox, Cx.wish, Cx.blk, startD, List.map, List.length_cons, List.length_nil, Nat.reduceAdd, Nat.reduceSub, List.replicate, List.cons_append, List.nil_append]
    walk_at "gm"
    rw [show p * (0 - m) = 0 - p * m by rw [Int.mul_sub, Int.mul_zero]]
    refine evn_c (evn_lcM (List.range 5) (fun (j : Nat) => .int (0 + (j : Int))) (fun _ => false) (fun (j : Nat) => .int (0 + (j : Int))) ?_)
    walk_at "gm"
    refine ⟨by decide, by decide, rfl, by decide, ?_, ?_⟩
    · intro j hj
      have hj := List.mem_range.mp hj
      rcases j with _ | _ | _ | _ | _ | j
      all_goals
        first
          | omega
          | (walk_at "gm"
             rw [decide_eq_true rfl]
             exact ⟨rfl, fun e => (by cases e), fun _ => ⟨rfl, rfl⟩⟩)
    rw [filtF]
    walk_at "gm"
    rw [if_neg (by decide)]
    walk_at "gm"
    refine u_ne_pair ?_
    rw [decide_eq_true ⟨rfl, rfl⟩]
    walk_at "gm"
    rw [decide_eq_true (show 0 = p - p by omega)]
    walk_at "gm"
    rw [decide_eq_true (show r + p = p + r by omega)]
    walk_at "gm"
    rw [decide_eq_true (show 0 = p * 0 by rw [Int.mul_zero])]
    exact q
end
end Pf
namespace Pf
open PySem L2 DL
section
variable {P : Program} {w : World} {K : PySem.W.Frag} {mg : Str → Option Value} {base : Heap}
theorem ok_l_total_right (T : TX w K mg) (G_total : FnOk P w K mg base CX0 3 T.a_total T.fd_total ["moneys", "start"] (spD K (sp_total T.a_Money))) (G_l_is_money : FnOk P w K mg base CX0 1 T.a_l_is_money T.fd_l_is_money ["_law_found", "_law_pence_here"] (spD K (sp_l_is_money T.a_Money))) (G_Money___repr__ : FnOk P w K mg base CX0 1 T.a_Money___repr__ T.fd_Money___repr__ ["self"] (spD K (sp_Money___repr__ T.a_Money))) (G_Money___init__ : FnOk P w K mg base CX0 1 T.a_Money___init__ T.fd_Money___init__ ["self", "pence"] (spD K (sp_Money___init__ T.a_Money))) : FnG P w K mg base 7 T.a_l_total_right T.fd_l_total_right ["_law_rows", "_law_begun"] (spD K sp_l_total_right) := by
  refine okDG (k := 6) T.F_l_total_right sc_l_total_right (fun ss G Qd h => ?_) (fun cdv A outer s H E ss G Qd hg hr h => ?_)
  · obtain ⟨ps, r, rfl, hl, hp, hr1, q⟩ := h
    rfl
  · obtain ⟨ps, r, rfl, hl, hp, hr1, q⟩ := h
    refine ⟨_, (pss_cons (ps_par (i := 2) (j := 3) (by rfl) sc_l_total_right.nd rfl rfl (by decide) rfl rfl (pa_cons (pe_callTy (show CallR _ (.type "tuple") (uTuple K) from uc_tuple) (by rfl) T.z_tuple (by decide +kernel) (pa_cons (pe_lc (own := [("_law_pence_here", 4)]) (g := (gName 4)) (tt := tYes) (by rfl) sc_l_total_right.nd (pi_seq (pv 0)) (blkOk_by (N := ["_law_rows", "_law_begun", "_law_moneys", "_law_first", "_law_pence_here", "_law_kept", "_law_whole", "_law_found", "_law_dues", "_law_k"]) (sc := defScope s_l_total_right) (by decide +kernel)) (fun _ _ _ _ _ => (pg_name (i := 4) sc_l_total_right.nd rfl (Or.inl rfl))) (fun _ _ _ _ _ => pts_nil) (fun _ _ _ _ _ => (pe_make T.mk_Money G_Money___init__ (hr.mono (by decide)) rfl T.m_Money T.b_Money___init__ .nil pass0 (pa_cons (pv 4) pa_nil)))) pa_nil)) (pa_cons (pe_make T.mk_Money G_Money___init__ (hr.mono (by decide)) rfl T.m_Money T.b_Money___init__ .nil pass0 (pa_cons (pv 1) pa_nil)) pa_nil)) (by rfl))
      (pss_cons (ps_set (i := 5) sc_l_total_right.nd rfl (Or.inl rfl) (pe_callB (show CallR _ (.builtin "repr") (DRo.rReprI2 K T.a_Money (spD K (sp_Money___repr__ T.a_Money)) E0) from DRo.call_reprI2 G_Money___repr__ hg (hr.mono (by decide)) T.me_Money___repr__.at_ T.me_Money___repr__.fn T.b_Money___repr__ pass0) (by rfl) T.z_repr (by decide +kernel) (pa_cons (pe_tup (pa_cons (pv 2) (pa_cons (pv 3) pa_nil))) pa_nil)))
      (pss_cons (ps_set (i := 6) sc_l_total_right.nd rfl (Or.inl rfl) (pe_callB (show CallR _ (.builtin "sum") (rSum K) from (cr_sum rfl)) (by rfl) T.z_sum (by decide +kernel) (pa_cons (pv 0) pa_nil)))
      (pss_cons (ps_set (i := 7) sc_l_total_right.nd rfl (Or.inr rfl) (pe_lst (pa_cons (pe_call G_total (hr.mono (by decide)) rfl T.m_total T.k_total T.b_total T.bv_total pass0 (pa_cons (pv 2) pa_nil)) (pa_cons (pe_call G_total (hr.mono (by decide)) rfl T.m_total T.k_total T.bf_total .nil pass0 (pa_cons (pv 2) (pa_cons pe_non pa_nil))) (pa_cons (pe_callN G_total (hr.mono (by decide)) rfl T.m_total T.k_total T.kb_total pass0 (pa_cons (pv 2) pa_nil) (pk_cons pe_non pk_nil)) (pa_cons (pe_callN G_total (hr.mono (by decide)) rfl T.m_total T.k_total T.kb_total pass0 (pa_cons (pv 2) pa_nil) (pk_cons (pv 3) pk_nil)) pa_nil))))))
      (pss_cons (ps_set (i := 7) sc_l_total_right.nd rfl (Or.inr rfl) (pe_op (show OpR _ (binaryOp .Add) (uAdd K) from uo_add) (pv 7) (pe_lst (pa_cons (pe_call G_total (hr.mono (by decide)) rfl T.m_total T.k_total T.bf_total .nil pass0 (pa_cons (pv 2) (pa_cons (pv 3) pa_nil))) (pa_cons (pe_callN G_total (hr.mono (by decide)) rfl T.m_total T.k_total T.kb_total pass0 (pa_cons (pe_tup pa_nil) pa_nil) (pk_cons (pv 3) pk_nil)) (pa_cons (pe_call G_total (hr.mono (by decide)) rfl T.m_total T.k_total T.b_total T.bv_total pass0 (pa_cons (pe_tup pa_nil) pa_nil)) pa_nil))))))
      (pss_cons (ps_set (i := 8) sc_l_total_right.nd rfl (Or.inr rfl) (pe_lst (pa_cons (pv 6) (pa_cons (pv 6) (pa_cons (pv 6) (pa_cons (pe_op (show OpR _ (binaryOp .Add) (uAdd K) from uo_add) (pv 6) (pv 1)) (pa_cons (pe_op (show OpR _ (binaryOp .Add) (uAdd K) from uo_add) (pv 6) (pv 1)) (pa_cons (pv 1) (pa_cons pe_int pa_nil)))))))))
      (pss_one (ps_ret (pe_and (pe_cmpR (show OpR _ (compareOp .Eq) (rEqL0 K false) from op_eqL0 hr.units) (pe_lc (own := [("_law_k", 9)]) (g := (gName 9)) (by rfl) sc_l_total_right.nd (pi_range1 rfl T.z_range (pa_cons pe_int pa_nil)) (blkOk_by (N := ["_law_rows", "_law_begun", "_law_moneys", "_law_first", "_law_pence_here", "_law_kept", "_law_whole", "_law_found", "_law_dues", "_law_k"]) (sc := defScope s_l_total_right) (by decide +kernel)) (fun _ _ _ _ _ => (pg_name (i := 9) sc_l_total_right.nd rfl (Or.inl rfl))) (fun _ _ _ _ _ => (pts_one (pt_not (pt_val (pe_call G_l_is_money (hr.mono (by decide)) rfl T.m_l_is_money T.k_l_is_money T.b_l_is_money .nil pass0 (pa_cons (pe_ix (show IxR _ (rIx K) from ix_seq) (pv 7) (pv 9) (fun _ _ => rfl)) (pa_cons (pe_ix (show IxR _ (rIx K) from ix_seq) (pv 8) (pv 9) (fun _ _ => rfl)) pa_nil))))))) (fun _ _ _ _ _ => (pv 9))) (pe_lst pa_nil) (nomark _)) (pe_one (pe_cmpR (show OpR _ (compareOp .Eq) (uEq K) from (uo_eq hr.units)) (pe_callB (show CallR _ (.builtin "repr") (DRo.rReprI2 K T.a_Money (spD K (sp_Money___repr__ T.a_Money)) E0) from DRo.call_reprI2 G_Money___repr__ hg (hr.mono (by decide)) T.me_Money___repr__.at_ T.me_Money___repr__.fn T.b_Money___repr__ pass0) (by rfl) T.z_repr (by decide +kernel) (pa_cons (pe_tup (pa_cons (pv 2) (pa_cons (pv 3) pa_nil))) pa_nil)) (pv 5) (nomark _)))))))))))), ?_⟩
    simp only [cxOf, Cx.nox, Cx.wish, Cx.blk, startD, List.map, List.length_cons, List.length_nil, Nat.reduceAdd, Nat.reduceSub, List.replicate, List.cons_append, List.nil_append]
    walk_at "gm"
    refine evn_c (evn_lcM ps D.int (fun _ => true) (monD T.a_Money) ?_)
    walk_at "gm"
    refine ⟨rfl, lt_line (by omega), ?_, ?_⟩
    · intro x _
      walk_at "gm"
      refine ⟨rfl, fun _ => ?_, fun e => (by cases e)⟩
      walk_at "gm"
      exact ⟨rfl, rfl, rfl⟩
    rw [filtT]
    walk_at "gm"
    refine ap_reprI2 (it_tot (fun x hx => up60 (hp x hx)) (up60 hr1)) (le_line (Nat.le_trans (tot_len (fun x hx => up60 (hp x hx)) (up60 hr1) hl) (by decide))) ?_
    walk_at "gm"
    refine ⟨ps, _, _, rfl, by omega, .inl ⟨rfl, rfl⟩, ?_⟩
    dsimp only [asV]
    walk_at "gm"
    refine ⟨ps, _, _, rfl, by omega, .inl ⟨rfl, rfl⟩, ?_⟩
    dsimp only [asV]
    walk_at "gm"
    refine ⟨rfl, rfl, rfl, ps, _, _, rfl, by omega, .inl ⟨rfl, rfl⟩, ?_⟩
    dsimp only [asV]
    walk_at "gm"
    refine ⟨rfl, rfl, rfl, ps, _, _, rfl, by omega, .inr rfl, ?_⟩
    dsimp only [asV]
    walk_at "gm"
    refine ⟨ps, _, _, rfl, by omega, .inr rfl, ?_⟩
    dsimp only [asV]
    walk_at "gm"
    refine ⟨rfl, rfl, rfl, [], _, _, rfl, by decide, .inr rfl, ?_⟩
    dsimp only [asV]
    walk_at "gm"
    refine ⟨[], _, _, rfl, by decide, .inl ⟨rfl, rfl⟩, ?_⟩
    dsimp only [asV]
    walk_at "gm"
    refine evn_c (evn_lcM (List.range 7) (fun (j : Nat) => .int (0 + (j : Int))) (fun _ => false) (fun (j : Nat) => .int (0 + (j : Int))) ?_)
    walk_at "gm"
    refine ⟨by decide, by decide, rfl, by decide, ?_, ?_⟩
    · intro j hj
      have hj := List.mem_range.mp hj
      rcases j with _ | _ | _ | _ | _ | _ | _ | j
      all_goals
        first
          | omega
          | (walk_at "gm"
             rw [decide_eq_true (by first | omega | (rw [List.sum_nil]; omega))]
             exact ⟨rfl, fun e => (by cases e), fun _ => ⟨rfl, rfl⟩⟩)
    rw [filtF]
    walk_at "gm"
    rw [if_pos (by decide)]
    walk_at "gm"
    refine ap_reprI2 (it_tot (fun x hx => up60 (hp x hx)) (up60 hr1)) (le_line (Nat.le_trans (tot_len (fun x hx => up60 (hp x hx)) (up60 hr1) hl) (by decide))) ?_
    walk_at "gm"
    exact q
end
end Pf
namespace Pf
open PySem L2 DL
section
variable {P : Program} {w : World} {K : PySem.W.Frag} {mg : Str → Option Value} {base : Heap}
theorem ok_l_great_right (T : TX w K mg) (G_l_down : FnOk P w K mg base CX0 1 T.a_l_down T.fd_l_down ["_law_pence_here", "_law_many"] (spD K sp_l_down)) (G_total : FnOk P w K mg base CX0 3 T.a_total T.fd_total ["moneys", "start"] (spD K (sp_total T.a_Money))) (G_l_is_money : FnOk P w K mg base CX0 1 T.a_l_is_money T.fd_l_is_money ["_law_found", "_law_pence_here"] (spD K (sp_l_is_money T.a_Money))) (G_l_shares_right : FnG P w K mg base 10 T.a_l_shares_right T.fd_l_shares_right ["_law_money", "_law_pence_here", "_law_many"] (spD K (sp_l_shares_right T.a_Money))) (G_Money_plus : FnOk P w K mg base CX0 3 T.a_Money_plus T.fd_Money_plus ["self", "other"] (spD K (sp_Money_plus T.a_Money))) (G_Money___init__ : FnOk P w K mg base CX0 1 T.a_Money___init__ T.fd_Money___init__ ["self", "pence"] (spD K (sp_Money___init__ T.a_Money))) (G_Money_each : FnOk P w K mg base (L2.CX P w) 4 T.a_Money_each T.fd_Money_each ["self", "many"] (spDX K (sp_Money_each T.a_Money T.a_NoShare))) (G_Money_less : FnOk P w K mg base CX0 3 T.a_Money_less T.fd_Money_less ["self", "other"] (spD K (sp_Money_less T.a_Money))) (G_Money_times : FnOk P w K mg base CX0 3 T.a_Money_times T.fd_Money_times ["self", "many"] (spD K (sp_Money_times T.a_Money))) : FnG P w K mg base 12 T.a_l_great_right T.fd_l_great_right ["_law_one", "_law_other", "_law_many"] (spD K sp_l_great_right) := by
  refine okDG (k := 11) T.F_l_great_right sc_l_great_right (fun ss G Qd h => ?_) (fun cdv A outer s H E ss G Qd hg hr h => ?_)
  · obtain ⟨p, r, m, rfl, ⟨m0, m1⟩, hp, hr1, q⟩ := h
    rfl
  · obtain ⟨p, r, m, rfl, ⟨m0, m1⟩, hp, hr1, q⟩ := h
    refine ⟨_, (pss_cons (ps_set (i := 3) sc_l_great_right.nd rfl (Or.inl rfl) (pe_op (show OpR _ (binaryOp .Add) (uAdd K) from uo_add) (pe_op (show OpR _ (binaryOp .Mult) (uMulT K) from uo_mulT) (pv 0) (pe_op op_pow pe_int pe_int)) (pv 1)))
      (pss_cons (ps_set (i := 4) sc_l_great_right.nd rfl (Or.inl rfl) (pe_meth (pe_meth (pe_make T.mk_Money G_Money___init__ (hr.mono (by decide)) rfl T.m_Money T.b_Money___init__ .nil pass0 (pa_cons (pv 0) pa_nil)) T.cl_Money T.me_Money_times G_Money_times (hr.mono (by decide)) T.b_Money_times .nil pass0 (pa_cons (pe_op op_pow pe_int pe_int) pa_nil)) T.cl_Money T.me_Money_plus G_Money_plus (hr.mono (by decide)) T.b_Money_plus .nil pass0 (pa_cons (pe_make T.mk_Money G_Money___init__ (hr.mono (by decide)) rfl T.m_Money T.b_Money___init__ .nil pass0 (pa_cons (pv 1) pa_nil)) pa_nil)))
      (pss_cons (ps_if (PW.pt (pw_or (pt_not (pt_val (pe_call G_l_is_money (hr.mono (by decide)) rfl T.m_l_is_money T.k_l_is_money T.b_l_is_money .nil pass0 (pa_cons (pv 4) (pa_cons (pv 3) pa_nil))))) (pw_or1 (pt_not (pt_val (pe_callG G_l_shares_right hg (hr.mono (by decide)) rfl T.m_l_shares_right T.k_l_shares_right T.b_l_shares_right .nil pass0 (pa_cons (pv 4) (pa_cons (pv 3) (pa_cons (pv 2) pa_nil))))))))) (pss_one (ps_ret pe_bl)) pss_nil)
      (pss_cons (ps_par (i := 5) (j := 6) (by rfl) sc_l_great_right.nd rfl rfl (by decide) rfl rfl (pa_cons (DMs.pe_methS (E := WE (fun _ _ _ _ => False)) (pv 4) T.cl_Money T.me_Money_each G_Money_each (hr.mono (by decide)) T.b_Money_each .nil (fun σ => passAt takes0 σ) (pa_cons pe_int pa_nil)) (pa_cons (pe_call G_l_down (hr.mono (by decide)) rfl T.m_l_down T.k_l_down T.b_l_down .nil pass0 (pa_cons (pv 3) (pa_cons pe_int pa_nil))) pa_nil)) (by rfl))
      (pss_cons (ps_set (i := 7) sc_l_great_right.nd rfl (Or.inr rfl) (pe_lst (pa_cons (pv 5) (pa_cons (pe_meth (pv 4) T.cl_Money T.me_Money_plus G_Money_plus (hr.mono (by decide)) T.b_Money_plus .nil pass0 (pa_cons (pv 5) pa_nil)) (pa_cons (pe_meth (pv 4) T.cl_Money T.me_Money_less G_Money_less (hr.mono (by decide)) T.b_Money_less .nil pass0 (pa_cons (pv 5) pa_nil)) (pa_cons (DMs.pe_methS (E := WE (fun _ _ _ _ => False)) (pe_meth (pv 4) T.cl_Money T.me_Money_times G_Money_times (hr.mono (by decide)) T.b_Money_times .nil pass0 (pa_cons (pv 2) pa_nil)) T.cl_Money T.me_Money_each G_Money_each (hr.mono (by decide)) T.b_Money_each .nil (fun σ => passAt takes0 σ) (pa_cons (pv 2) pa_nil)) (pa_cons (pe_callN G_total (hr.mono (by decide)) rfl T.m_total T.k_total T.kb_total pass0 (pa_cons (pe_tup (pa_cons (pv 4) (pa_cons (pv 5) pa_nil))) pa_nil) (pk_cons (pv 4) pk_nil)) pa_nil)))))))
      (pss_cons (ps_set (i := 8) sc_l_great_right.nd rfl (Or.inr rfl) (pe_lst (pa_cons (pv 6) (pa_cons (pe_op (show OpR _ (binaryOp .Add) (uAdd K) from uo_add) (pv 3) (pv 6)) (pa_cons (pe_op op_sub (pv 3) (pv 6)) (pa_cons (pv 3) (pa_cons (pe_op (show OpR _ (binaryOp .Add) (uAdd K) from uo_add) (pe_op (show OpR _ (binaryOp .Mult) (uMulT K) from uo_mulT) pe_int (pv 3)) (pv 6)) pa_nil)))))))
      (pss_one (ps_ret (pe_and (pe_cmpR (show OpR _ (compareOp .Eq) (rEqL0 K false) from op_eqL0 hr.units) (pe_lc (own := [("_law_k", 9)]) (g := (gName 9)) (by rfl) sc_l_great_right.nd (pi_range1 rfl T.z_range (pa_cons pe_int pa_nil)) (blkOk_by (N := ["_law_one", "_law_other", "_law_many", "_law_due", "_law_great", "_law_part", "_law_share", "_law_found", "_law_dues", "_law_k"]) (sc := defScope s_l_great_right) (by decide +kernel)) (fun _ _ _ _ _ => (pg_name (i := 9) sc_l_great_right.nd rfl (Or.inl rfl))) (fun _ _ _ _ _ => (pts_one (pt_not (pt_val (pe_call G_l_is_money (hr.mono (by decide)) rfl T.m_l_is_money T.k_l_is_money T.b_l_is_money .nil pass0 (pa_cons (pe_ix (show IxR _ (rIx K) from ix_seq) (pv 7) (pv 9) (fun _ _ => rfl)) (pa_cons (pe_ix (show IxR _ (rIx K) from ix_seq) (pv 8) (pv 9) (fun _ _ => rfl)) pa_nil))))))) (fun _ _ _ _ _ => (pv 9))) (pe_lst pa_nil) (nomark _)) (pe_one (pe_call G_l_is_money (hr.mono (by decide)) rfl T.m_l_is_money T.k_l_is_money T.b_l_is_money .nil pass0 (pa_cons (pv 4) (pa_cons (pv 3) pa_nil))))))))))))), ?_⟩
    simp only [cxOf, Cx.nox, Cx.wish, Cx.blk, startD, List.map, List.length_cons, List.length_nil, Nat.reduceAdd, Nat.reduceSub, List.replicate, List.cons_append, List.nil_append]
    walk_at "gm"
    refine ⟨by omega, ?_⟩
    walk_at "gm"
    refine ⟨rfl, rfl, rfl, [p * 1000000 + r, (p * 1000000 + r) / 7], _, _, rfl, Nat.le_of_ble_eq_true rfl, .inr rfl, ?_⟩
    dsimp only [asV]
    walk_at "gm"
    have e1 : (p * 1000000 + r) * m / m = p * 1000000 + r := Int.mul_ediv_cancel _ (by omega)
    have e2 : p * 1000000 + r + [p * 1000000 + r, (p * 1000000 + r) / 7].sum = 2 * (p * 1000000 + r) + (p * 1000000 + r) / 7 := by
      show p * 1000000 + r + (p * 1000000 + r + ((p * 1000000 + r) / 7 + 0)) = _
      omega
    rw [e1, e2]
    generalize p * 1000000 + r = z
    refine evn_c (evn_lcM (List.range 5) (fun (j : Nat) => .int (0 + (j : Int))) (fun _ => false) (fun (j : Nat) => .int (0 + (j : Int))) ?_)
    walk_at "gm"
    refine ⟨by decide, by decide, rfl, by decide, ?_, ?_⟩
    · intro j hj
      have hj := List.mem_range.mp hj
      rcases j with _ | _ | _ | _ | _ | j
      all_goals
        first
          | omega
          | (walk_at "gm"
             rw [decide_eq_true rfl]
             exact ⟨rfl, fun e => (by cases e), fun _ => ⟨rfl, rfl⟩⟩)
    rw [filtF]
    walk_at "gm"
    rw [if_pos (by decide)]
    walk_at "gm"
    rw [decide_eq_true rfl]
    exact q
end
end Pf
namespace Pf
open PySem L2 DL
section
variable {P : Program} {w : World} {K : PySem.W.Frag} {mg : Str → Option Value} {base : Heap}
local macro_rules | `(tactic| walk_at "d1") => `(tactic| (with_reducible refine st_ownB (i := 2) ?_))
local macro_rules | `(tactic| walk_at "d1") => `(tactic| (with_reducible refine own_takeH (by assumption) plNil ?_))
local macro_rules | `(tactic| walk_at "d1") => `(tactic| (with_reducible refine own_penceH (by assumption) plNil ?_))
local macro_rules | `(tactic| walk_at "d1") => `(tactic| (with_reducible refine evn_c (evn_make ?_)))
local macro_rules | `(tactic| walk_at "d1") => `(tactic| (with_reducible first | refine st_stopO ?_ | refine st_stopO1 ?_))
local macro_rules | `(tactic| walk_at "d1") => `(tactic| first | ((refine ⟨rfl, rfl, by omega, by omega, by omega, ?_⟩); intro _ _ _ _ _) | ((refine ⟨rfl, rfl, rfl, by omega, ?_⟩); intro _ _ _ _))
theorem ok_law (T : TX w K mg) (G_l_none_right : FnOk P w K mg base CX0 8 T.a_l_none_right T.fd_l_none_right ["_law_pence_here"] (spD K sp_l_none_right)) (G_l_well : FnOk P w K mg base CX0 1 T.a_l_well T.fd_l_well ["_law_script", "_law_k"] (spD K sp_l_well)) (G_l_take : FnOk P w K mg base CX0 1 T.a_l_take T.fd_l_take ["_law_well_here", "_law_many"] (spD K sp_l_take)) (G_l_pence : FnOk P w K mg base CX0 2 T.a_l_pence T.fd_l_pence ["_law_well_here"] (spD K sp_l_pence)) (G_l_great_right : FnG P w K mg base 12 T.a_l_great_right T.fd_l_great_right ["_law_one", "_law_other", "_law_many"] (spD K sp_l_great_right)) (G_l_shares_right : FnG P w K mg base 10 T.a_l_shares_right T.fd_l_shares_right ["_law_money", "_law_pence_here", "_law_many"] (spD K (sp_l_shares_right T.a_Money))) (G_l_is_money : FnOk P w K mg base CX0 1 T.a_l_is_money T.fd_l_is_money ["_law_found", "_law_pence_here"] (spD K (sp_l_is_money T.a_Money))) (G_l_reckoned_right : FnOk P w K mg base CX0 5 T.a_l_reckoned_right T.fd_l_reckoned_right ["_law_one", "_law_other", "_law_many"] (spD K sp_l_reckoned_right)) (G_l_total_right : FnG P w K mg base 7 T.a_l_total_right T.fd_l_total_right ["_law_rows", "_law_begun"] (spD K sp_l_total_right)) (G_l_down : FnOk P w K mg base CX0 1 T.a_l_down T.fd_l_down ["_law_pence_here", "_law_many"] (spD K sp_l_down)) (G_Money___init__ : FnOk P w K mg base CX0 1 T.a_Money___init__ T.fd_Money___init__ ["self", "pence"] (spD K (sp_Money___init__ T.a_Money))) (G_Money_each : FnOk P w K mg base (L2.CX P w) 4 T.a_Money_each T.fd_Money_each ["self", "many"] (spDX K (sp_Money_each T.a_Money T.a_NoShare))) : FnG P w K mg base 14 T.a_law T.fd_law ["_law_script"] (spD K sp_law) := by
  refine okDG (k := 13) T.F_law sc_law (fun ss G Qd h => ?_) (fun cdv A outer s H E ss G Qd hg hr h => ?_)
  · obtain ⟨ns, rfl, rfl, hl, hb, q⟩ := h
    rfl
  · obtain ⟨ns, rfl, rfl, hl, hb, q⟩ := h
    refine ⟨_, (pss_cons (ps_for PassesOwn.never rfl (pi_range1 rfl T.z_range (pa_cons (pe_callB (uc_max2 rfl) (by rfl) T.z_max (by decide +kernel) (pa_cons pe_int (pa_cons (pe_callB (uc_min2 rfl) (by rfl) T.z_min (by decide +kernel) (pa_cons (pe_callB (show CallR _ (.builtin "len") (uLen K) from uc_len) (by rfl) T.z_len (by decide +kernel) (pa_cons (pv 0) pa_nil)) (pa_cons pe_int pa_nil))) pa_nil))) pa_nil)) (pg_name (i := 1) sc_law.nd rfl (Or.inl rfl)) (pss_cons (ps_set (i := 2) sc_law.nd rfl (Or.inr rfl) (pe_call G_l_well (hr.mono (by decide)) rfl T.m_l_well T.k_l_well T.b_l_well .nil pass0 (pa_cons (pv 0) (pa_cons (pv 1) pa_nil))))
      (pss_cons (ps_set (i := 3) sc_law.nd rfl (Or.inl rfl) (pe_cmpR (show OpR _ (compareOp .Eq) (uEq K) from (uo_eq hr.units)) (pe_call G_l_take (hr.mono (by decide)) rfl T.m_l_take T.k_l_take T.b_l_take .nil pass0 (pa_cons (pv 2) (pa_cons pe_int pa_nil))) pe_int (nomark _)))
      (pss_cons (ps_set (i := 4) sc_law.nd rfl (Or.inl rfl) (pe_op (show OpR _ (binaryOp .Add) (uAdd K) from uo_add) pe_int (pe_call G_l_take (hr.mono (by decide)) rfl T.m_l_take T.k_l_take T.b_l_take .nil pass0 (pa_cons (pv 2) (pa_cons pe_int pa_nil)))))
      (pss_cons (ps_set (i := 5) sc_law.nd rfl (Or.inl rfl) (pe_ix (show IxR _ (rIx K) from ix_seq) (pe_lst (pa_cons pe_int (pa_cons pe_int (pa_cons pe_int (pa_cons pe_int (pa_cons (pe_op op_pow pe_int pe_int) (pa_cons (pe_op (show OpR _ (binaryOp .Add) (uAdd K) from uo_add) pe_int (pe_call G_l_take (hr.mono (by decide)) rfl T.m_l_take T.k_l_take T.b_l_take .nil pass0 (pa_cons (pv 2) (pa_cons (pe_op op_pow pe_int pe_int) pa_nil)))) pa_nil))))))) (pe_call G_l_take (hr.mono (by decide)) rfl T.m_l_take T.k_l_take T.b_l_take .nil pass0 (pa_cons (pv 2) (pa_cons pe_int pa_nil))) (fun _ _ => rfl)))
      (pss_cons (ps_par (i := 6) (j := 7) (by rfl) sc_law.nd rfl rfl (by decide) rfl rfl (pa_cons (pe_call G_l_pence (hr.mono (by decide)) rfl T.m_l_pence T.k_l_pence T.b_l_pence .nil pass0 (pa_cons (pv 2) pa_nil)) (pa_cons (pe_call G_l_pence (hr.mono (by decide)) rfl T.m_l_pence T.k_l_pence T.b_l_pence .nil pass0 (pa_cons (pv 2) pa_nil)) pa_nil)) (by rfl))
      (pss_cons (ps_setLc (i := 8) (own := [("_law_turn", 9)]) (g := (gName 9)) (tt := tYes) (by rfl) sc_law.nd rfl rfl (sw_true rfl rfl rfl (by decide +kernel)) (pi_range1 rfl T.z_range (pa_cons (pe_ix (show IxR _ (rIx K) from ix_seq) (pe_lst (pa_cons (pe_call G_l_take (hr.mono (by decide)) rfl T.m_l_take T.k_l_take T.b_l_take .nil pass0 (pa_cons (pv 2) (pa_cons pe_int pa_nil))) (pa_cons pe_int pa_nil))) (pe_callTy uc_int (by rfl) T.z_int (by decide +kernel) (pa_cons (pe_cmpR (show OpR _ (compareOp .Eq) (uEq K) from (uo_eq hr.units)) (pe_call G_l_take (hr.mono (by decide)) rfl T.m_l_take T.k_l_take T.b_l_take .nil pass0 (pa_cons (pv 2) (pa_cons pe_int pa_nil))) pe_int (nomark _)) pa_nil)) (fun _ _ => rfl)) pa_nil)) (blkOk_by (N := ["_law_script", "_law_k", "_law_well_here", "_law_empty", "_law_many", "_law_great", "_law_one", "_law_other", "_law_rows", "_law_turn"]) (sc := defScope s_law) (by decide +kernel)) (fun _ _ _ _ _ => (pg_name (i := 9) sc_law.nd rfl (Or.inl rfl))) (fun _ _ _ _ _ => pts_nil) (fun _ _ _ _ _ => (pe_call G_l_pence (hr.mono (by decide)) rfl T.m_l_pence T.k_l_pence T.b_l_pence .nil pass0 (pa_cons (pv 2) pa_nil))))
      (pss_cons (ps_if (PW.pt (pw_or (pt_not (pt_val (pe_callG G_l_shares_right hg (hr.mono (by decide)) rfl T.m_l_shares_right T.k_l_shares_right T.b_l_shares_right .nil pass0 (pa_cons (pe_make T.mk_Money G_Money___init__ (hr.mono (by decide)) rfl T.m_Money T.b_Money___init__ .nil pass0 (pa_cons (pv 6) pa_nil)) (pa_cons (pv 6) (pa_cons (pv 4) pa_nil)))))) (pw_or1 (pt_not (pt_val (pe_callG G_l_shares_right hg (hr.mono (by decide)) rfl T.m_l_shares_right T.k_l_shares_right T.b_l_shares_right .nil pass0 (pa_cons (pe_make T.mk_Money G_Money___init__ (hr.mono (by decide)) rfl T.m_Money T.b_Money___init__ .nil pass0 (pa_cons (pv 7) pa_nil)) (pa_cons (pv 7) (pa_cons (pe_op (show OpR _ (binaryOp .Add) (uAdd K) from uo_add) pe_int (pe_op op_mod (pv 4) pe_int)) pa_nil))))))))) (pss_one (ps_ret pe_bl)) pss_nil)
      (pss_cons (ps_if (pt_not (pt_val (pe_callG G_l_great_right hg (hr.mono (by decide)) rfl T.m_l_great_right T.k_l_great_right T.b_l_great_right .nil pass0 (pa_cons (pv 6) (pa_cons (pv 7) (pa_cons (pv 4) pa_nil)))))) (pss_one (ps_ret pe_bl)) pss_nil)
      (pss_cons (ps_if (PW.pt (pw_or (pt_not (pt_val (pe_call G_l_is_money (hr.mono (by decide)) rfl T.m_l_is_money T.k_l_is_money T.b_l_is_money .nil pass0 (pa_cons (DMs.pe_methS (E := WE (fun _ _ _ _ => False)) (pe_make T.mk_Money G_Money___init__ (hr.mono (by decide)) rfl T.m_Money T.b_Money___init__ .nil pass0 (pa_cons (pv 6) pa_nil)) T.cl_Money T.me_Money_each G_Money_each (hr.mono (by decide)) T.b_Money_each .nil (fun σ => passAt takes0 σ) (pa_cons (pv 5) pa_nil)) (pa_cons (pe_call G_l_down (hr.mono (by decide)) rfl T.m_l_down T.k_l_down T.b_l_down .nil pass0 (pa_cons (pv 6) (pa_cons (pv 5) pa_nil))) pa_nil))))) (pw_or1 (PW.pt (pw_and (pt_val (pv 3)) (pw_and1 (pt_not (pt_val (pe_call G_l_none_right (hr.mono (by decide)) rfl T.m_l_none_right T.k_l_none_right T.b_l_none_right .nil pass0 (pa_cons (pv 6) pa_nil)))))))))) (pss_one (ps_ret pe_bl)) pss_nil)
      (pss_one (ps_if (PW.pt (pw_or (pt_not (pt_val (pe_call G_l_reckoned_right (hr.mono (by decide)) rfl T.m_l_reckoned_right T.k_l_reckoned_right T.b_l_reckoned_right .nil pass0 (pa_cons (pv 6) (pa_cons (pv 7) (pa_cons (pv 5) pa_nil)))))) (pw_or1 (pt_not (pt_val (pe_callG G_l_total_right hg (hr.mono (by decide)) rfl T.m_l_total_right T.k_l_total_right T.b_l_total_right .nil pass0 (pa_cons (pv 8) (pa_cons (pv 7) pa_nil)))))))) (pss_one (ps_ret pe_bl)) pss_nil))))))))))))
      (pss_one (ps_ret (pe_call G_l_none_right (hr.mono (by decide)) rfl T.m_l_none_right T.k_l_none_right T.b_l_none_right .nil pass0 (pa_cons pe_int pa_nil))))), ?_⟩
    simp only [cxOf, Cx.nox, Cx.wish, Cx.blk, startD, List.map, List.length_cons, List.length_nil, Nat.reduceAdd, Nat.reduceSub, List.replicate, List.cons_append, List.nil_append]
    walk_at "go"
    refine st_for ?_
    walk_at "go"
    obtain ⟨N, hN, hN1⟩ : ∃ N : Int, (if (if 6 < ((ns.length : Nat) : Int) then 6 else ((ns.length : Nat) : Int)) > 1 then (if 6 < ((ns.length : Nat) : Int) then 6 else ((ns.length : Nat) : Int)) else 1) = N ∧ 1 ≤ N ∧ N ≤ 6 := ⟨_, rfl, by split <;> split <;> omega⟩
    first | rw [hN] | (rw [List.length_map]; rw [hN])
    clear hN
    refine ⟨by omega, by omega, ?_⟩
    refine ⟨fun i Δ' G' L' => G' = [] ∧ L' = [] ∧ ∃ s1 s2 s3 s4 s5 s6 s7 s8 s9, Δ' = [some (.d (.scr ns)), s1, s2, s3, s4, s5, s6, s7, s8, s9], ⟨rfl, rfl, _, _, _, _, _, _, _, _, _, rfl⟩, ?_, ?_⟩
    · rintro i d Δ' G' L' hd ⟨rfl, rfl, s1, s2, s3, s4, s5, s6, s7, s8, s9, rfl⟩
      obtain ⟨hi, rfl⟩ := rngD_get hd
      have hi8 : i < 6 := by omega
      walk_at "go"
      first | refine ⟨ns, _, rfl, hl, hb, ⟨by omega, by omega⟩, fun a b ok => ?_⟩ | refine ⟨hl, hb, ⟨by omega, by omega⟩, fun a b ok => ?_⟩
      refine ⟨_, _, rfl, ?_⟩
      have hw : WlR [] [wlM a b 0] 0 := ⟨a, b, 0, rfl, ok⟩
      show StC K _ [some (.d (.scr ns)), some (.d (.int (0 + (i : Int)))), some (.l 0), s3, s4, s5, s6, s7, s8, s9] [] [wlM a b 0] _
      generalize [wlM a b 0] = L at hw
      walk_at "gm"
      rename_i r1 L1 a1 b1 _ r2 L2 a2 b2 _ r3 L3 a3 b3 _ r4 L4 a4 b4 w4
      refine u_ix_all ⟨_, rfl, by omega, by show _ < ((6 : Nat) : Int); omega, fun d hd1 => ?_⟩
      obtain ⟨gr, rfl, g0, g1⟩ : ∃ z, d = D.int z ∧ 1 ≤ z ∧ z ≤ 1000001 := by
        simp only [List.mem_cons, List.not_mem_nil, or_false] at hd1
        rcases hd1 with rfl | rfl | rfl | rfl | rfl | rfl
        all_goals exact ⟨_, rfl, by omega, by omega⟩
      walk_at "gm"
      rename_i p L5 hp5 _ r L6 hr6 w6
      refine evn_c (evn_lc ?_)
      walk_at "gm"
      rename_i r5 L7 a5 b5 _ r6 L8 a6 b6 w8
      refine u_ix_if2 (fun n hn => ?_)
      have hn60 : 0 ≤ n ∧ n ≤ 60 := by omega
      clear hn
      walk_at "gm"
      first | refine ⟨by omega, by omega, ?_⟩ | skip
      refine ⟨fun j acc G' L' => ∃ ps : List Int, acc = ps.map D.int ∧ ps.length = j ∧ (∀ p ∈ ps, p.natAbs ≤ 1000000000000000) ∧ G' = [] ∧ WlR [] L' (26 + 10 * (j : Int)), ⟨[], rfl, rfl, fun _ h => (by cases h), rfl, w8.mono (by omega)⟩, ?_, ?_, ?_⟩
      · exact lt_line (by rw [rngD_len]; omega)
      · rintro j d acc G' L' hd _ ⟨ps, rfl, hj, hps, rfl, hw9⟩
        have hj60 : j < 60 := by
          have := (List.getElem?_eq_some_iff.mp hd).1
          rw [rngD_len] at this
          omega
        walk_at "gm"
        rename_i x L9 hx w9
        refine ⟨ps ++ [x], (by rw [List.map_append]; rfl), (by rw [List.length_append, hj]; rfl), fun y hy => ?_, rfl, w9.mono (by omega)⟩
        rcases List.mem_append.mp hy with hy | hy
        · exact hps y hy
        · rw [List.mem_singleton.mp hy]; exact hx
      rintro acc G' L' ⟨ps, rfl, hpl, hps, rfl, hw9⟩
      rw [rngD_len] at hpl
      rcases hw9 with ⟨wa, wb, wc, rfl, _⟩
      walk_at "gm"
      refine stop_go (st_frz 0 ⟨_, _, rfl, rfl, ?_⟩)
      show StC K _ _ [] [] _
      refine st_slots (fun Δ' => ∃ t2 t9, Δ' = [some (.d (.scr ns)), some (.d (.int (0 + (i : Int)))), t2, some (.d (.bl (decide (r1 = 5)))), some (.d (.int (1 + r2))), some (.d (.int gr)), some (.d (.int p)), some (.d (.int r)), some (.d (.lst (ps.map D.int))), t9]) ⟨_, _, rfl⟩ ?_
      rintro Δ' ⟨t2, t9, rfl⟩
      have b15 : ∀ x : Int, x.natAbs ≤ 1000000000000000 → x.natAbs < 10 ^ 20 := fun x h => Nat.lt_of_le_of_lt h (by decide)
      have b50 : ∀ x : Int, x.natAbs ≤ 1000000000000000 → x.natAbs < 10 ^ 50 := fun x h => Nat.lt_of_le_of_lt h (by decide)
      walk_at "gm"
      refine ⟨b50 _ hp5, ?_⟩
      try dsimp only [asV]
      walk_at "gm"
      refine ⟨b50 _ hr6, ?_⟩
      try dsimp only [asV]
      walk_at "gm"
      refine ⟨p, r, _, rfl, ⟨by omega, by omega⟩, b15 _ hp5, b15 _ hr6, ?_⟩
      try dsimp only [asV]
      walk_at "gm"
      refine iteD (fun h => ?_) (fun h => ?_)
      all_goals
        walk_at "gm"
        try (refine ⟨p, r, _, rfl, ⟨by omega, by omega⟩, ?_⟩; dsimp only [asV]; walk_at "gm")
        first | refine ⟨ps, r, rfl, by omega, fun x hx => b50 x (hps x hx), b50 _ hr6, ?_⟩ | refine ⟨by omega, fun x hx => b50 x (hps x hx), b50 _ hr6, ?_⟩
        try dsimp only [asV]
        walk_at "gm"
        exact ⟨rfl, rfl, _, _, _, _, _, _, _, _, _, rfl⟩
    · rintro Δ' G' L' ⟨rfl, rfl, s1, s2, s3, s4, s5, s6, s7, s8, s9, rfl⟩
      walk_at "go"
      exact q
end
end Pf
namespace Pf
open PySem L2 DL
theorem all_mk {l : PySem.W.OpenLaw} {w : World} {K : PySem.W.Frag} {h : Heap} {mg : Str → Option Value} {fa : Addr} (X : K.In h) (G : h.Ns mainGlobals mg) (hfa : mg "law" = some (.ref fa))
    {f_Money : Addr} (a_Money : PySem.W.nsIn K mainGlobals "Money" = some (some (.ref f_Money)))
    (pg_Money : PySem.W.plainGet K f_Money Str.empty = true) (hd_Money : PySem.W.hasDictIn K f_Money = true) (po_Money : PySem.W.plainOver K f_Money = true) (sa_Money : PySem.W.findIn K (.ref f_Money) "__setattr__" = some (some (.builtin "object.__setattr__"))) (mk_Money : PySem.W.makesIn K f_Money = true) (kc_Money : PySem.W.keepIn K (.ref f_Money) = true)
    (nf_Money_pence : PySem.W.findIn K (.ref f_Money) "pence" = some none)
    (ha_Money : PySem.W.findIn K (.ref f_Money) "__class__" = some (some (.builtin "object.__class__"))) (hn_Money : PySem.W.specialIn K (.builtin "object.__class__") "__get__" = some (some (.builtin "getset_descriptor.__get__"))) (ht_Money : PySem.W.takesIn K (.builtin "object.__class__") = some true) (hm_Money : PySem.W.mroIn K f_Money (.type "object") = some true)
    (ne_Money : PySem.W.findIn K (.ref f_Money) "__ne__" = some (some (.builtin "object.__ne__")))
    (sb_Money_bool : PySem.W.subIn K (.ref f_Money) (.type "bool") = some false)
    (sb_Money_tuple : PySem.W.subIn K (.ref f_Money) (.type "tuple") = some false)
    {f_l_well : Addr} {od_l_well an_l_well : Option Addr} {sl_l_well : Array (Option Value)} {oc_l_well kV_l_well dc_l_well pm_l_well cd_l_well ct_l_well : Value}
    (a_l_well : PySem.W.nsIn K mainGlobals "_law_well" = some (some (.ref f_l_well))) (l_l_well : K.lookup f_l_well = some ⟨oc_l_well, od_l_well, .func (PySem.W.fnOf "_law_well" "_law_well" (defArgs s_l_well) (defBody s_l_well) (defScope s_l_well) .none kV_l_well dc_l_well pm_l_well an_l_well cd_l_well ct_l_well), sl_l_well⟩) (c_l_well : PySem.W.codeIn K cd_l_well "_law_well" = true) (k_l_well : PySem.W.keepIn K (.ref f_l_well) = true)
    {f_l_take : Addr} {od_l_take an_l_take : Option Addr} {sl_l_take : Array (Option Value)} {oc_l_take kV_l_take dc_l_take pm_l_take cd_l_take ct_l_take : Value}
    (a_l_take : PySem.W.nsIn K mainGlobals "_law_take" = some (some (.ref f_l_take))) (l_l_take : K.lookup f_l_take = some ⟨oc_l_take, od_l_take, .func (PySem.W.fnOf "_law_take" "_law_take" (defArgs s_l_take) (defBody s_l_take) (defScope s_l_take) .none kV_l_take dc_l_take pm_l_take an_l_take cd_l_take ct_l_take), sl_l_take⟩) (c_l_take : PySem.W.codeIn K cd_l_take "_law_take" = true) (k_l_take : PySem.W.keepIn K (.ref f_l_take) = true)
    {f_l_pence : Addr} {od_l_pence an_l_pence : Option Addr} {sl_l_pence : Array (Option Value)} {oc_l_pence kV_l_pence dc_l_pence pm_l_pence cd_l_pence ct_l_pence : Value}
    (a_l_pence : PySem.W.nsIn K mainGlobals "_law_pence" = some (some (.ref f_l_pence))) (l_l_pence : K.lookup f_l_pence = some ⟨oc_l_pence, od_l_pence, .func (PySem.W.fnOf "_law_pence" "_law_pence" (defArgs s_l_pence) (defBody s_l_pence) (defScope s_l_pence) .none kV_l_pence dc_l_pence pm_l_pence an_l_pence cd_l_pence ct_l_pence), sl_l_pence⟩) (c_l_pence : PySem.W.codeIn K cd_l_pence "_law_pence" = true) (k_l_pence : PySem.W.keepIn K (.ref f_l_pence) = true)
    {f_Money___init__ : Addr} {od_Money___init__ an_Money___init__ : Option Addr} {sl_Money___init__ : Array (Option Value)} {oc_Money___init__ kV_Money___init__ dc_Money___init__ pm_Money___init__ cd_Money___init__ ct_Money___init__ : Value}
    (a_Money___init__ : PySem.W.findIn K (.ref f_Money) "__init__" = some (some (.ref f_Money___init__))) (fn_Money___init__ : PySem.W.isFn K (.ref f_Money___init__) = true) (l_Money___init__ : K.lookup f_Money___init__ = some ⟨oc_Money___init__, od_Money___init__, .func (PySem.W.fnOf "__init__" "Money.__init__" (defArgs s_Money___init__) (defBody s_Money___init__) (defScope s_Money___init__) .none kV_Money___init__ dc_Money___init__ pm_Money___init__ an_Money___init__ cd_Money___init__ ct_Money___init__), sl_Money___init__⟩) (c_Money___init__ : PySem.W.codeIn K cd_Money___init__ "Money.__init__" = true) (k_Money___init__ : PySem.W.keepIn K (.ref f_Money___init__) = true)
    {f_Money_plus : Addr} {od_Money_plus an_Money_plus : Option Addr} {sl_Money_plus : Array (Option Value)} {oc_Money_plus kV_Money_plus dc_Money_plus pm_Money_plus cd_Money_plus ct_Money_plus : Value}
    (a_Money_plus : PySem.W.findIn K (.ref f_Money) "plus" = some (some (.ref f_Money_plus))) (fn_Money_plus : PySem.W.isFn K (.ref f_Money_plus) = true) (l_Money_plus : K.lookup f_Money_plus = some ⟨oc_Money_plus, od_Money_plus, .func (PySem.W.fnOf "plus" "Money.plus" (defArgs s_Money_plus) (defBody s_Money_plus) (defScope s_Money_plus) .none kV_Money_plus dc_Money_plus pm_Money_plus an_Money_plus cd_Money_plus ct_Money_plus), sl_Money_plus⟩) (c_Money_plus : PySem.W.codeIn K cd_Money_plus "Money.plus" = true) (k_Money_plus : PySem.W.keepIn K (.ref f_Money_plus) = true)
    {f_Money_less : Addr} {od_Money_less an_Money_less : Option Addr} {sl_Money_less : Array (Option Value)} {oc_Money_less kV_Money_less dc_Money_less pm_Money_less cd_Money_less ct_Money_less : Value}
    (a_Money_less : PySem.W.findIn K (.ref f_Money) "less" = some (some (.ref f_Money_less))) (fn_Money_less : PySem.W.isFn K (.ref f_Money_less) = true) (l_Money_less : K.lookup f_Money_less = some ⟨oc_Money_less, od_Money_less, .func (PySem.W.fnOf "less" "Money.less" (defArgs s_Money_less) (defBody s_Money_less) (defScope s_Money_less) .none kV_Money_less dc_Money_less pm_Money_less an_Money_less cd_Money_less ct_Money_less), sl_Money_less⟩) (c_Money_less : PySem.W.codeIn K cd_Money_less "Money.less" = true) (k_Money_less : PySem.W.keepIn K (.ref f_Money_less) = true)
    {f_Money_times : Addr} {od_Money_times an_Money_times : Option Addr} {sl_Money_times : Array (Option Value)} {oc_Money_times kV_Money_times dc_Money_times pm_Money_times cd_Money_times ct_Money_times : Value}
    (a_Money_times : PySem.W.findIn K (.ref f_Money) "times" = some (some (.ref f_Money_times))) (fn_Money_times : PySem.W.isFn K (.ref f_Money_times) = true) (l_Money_times : K.lookup f_Money_times = some ⟨oc_Money_times, od_Money_times, .func (PySem.W.fnOf "times" "Money.times" (defArgs s_Money_times) (defBody s_Money_times) (defScope s_Money_times) .none kV_Money_times dc_Money_times pm_Money_times an_Money_times cd_Money_times ct_Money_times), sl_Money_times⟩) (c_Money_times : PySem.W.codeIn K cd_Money_times "Money.times" = true) (k_Money_times : PySem.W.keepIn K (.ref f_Money_times) = true)
    {f_Money_each : Addr} {od_Money_each an_Money_each : Option Addr} {sl_Money_each : Array (Option Value)} {oc_Money_each kV_Money_each dc_Money_each pm_Money_each cd_Money_each ct_Money_each : Value}
    (a_Money_each : PySem.W.findIn K (.ref f_Money) "each" = some (some (.ref f_Money_each))) (fn_Money_each : PySem.W.isFn K (.ref f_Money_each) = true) (l_Money_each : K.lookup f_Money_each = some ⟨oc_Money_each, od_Money_each, .func (PySem.W.fnOf "each" "Money.each" (defArgs s_Money_each) (defBody s_Money_each) (defScope s_Money_each) .none kV_Money_each dc_Money_each pm_Money_each an_Money_each cd_Money_each ct_Money_each), sl_Money_each⟩) (c_Money_each : PySem.W.codeIn K cd_Money_each "Money.each" = true) (k_Money_each : PySem.W.keepIn K (.ref f_Money_each) = true)
    {f_Money_shares : Addr} {od_Money_shares an_Money_shares : Option Addr} {sl_Money_shares : Array (Option Value)} {oc_Money_shares kV_Money_shares dc_Money_shares pm_Money_shares cd_Money_shares ct_Money_shares : Value}
    (a_Money_shares : PySem.W.findIn K (.ref f_Money) "shares" = some (some (.ref f_Money_shares))) (fn_Money_shares : PySem.W.isFn K (.ref f_Money_shares) = true) (l_Money_shares : K.lookup f_Money_shares = some ⟨oc_Money_shares, od_Money_shares, .func (PySem.W.fnOf "shares" "Money.shares" (defArgs s_Money_shares) (defBody s_Money_shares) (defScope s_Money_shares) .none kV_Money_shares dc_Money_shares pm_Money_shares an_Money_shares cd_Money_shares ct_Money_shares), sl_Money_shares⟩) (c_Money_shares : PySem.W.codeIn K cd_Money_shares "Money.shares" = true) (k_Money_shares : PySem.W.keepIn K (.ref f_Money_shares) = true)
    {f_Money___repr__ : Addr} {od_Money___repr__ an_Money___repr__ : Option Addr} {sl_Money___repr__ : Array (Option Value)} {oc_Money___repr__ kV_Money___repr__ dc_Money___repr__ pm_Money___repr__ cd_Money___repr__ ct_Money___repr__ : Value}
    (a_Money___repr__ : PySem.W.findIn K (.ref f_Money) "__repr__" = some (some (.ref f_Money___repr__))) (fn_Money___repr__ : PySem.W.isFn K (.ref f_Money___repr__) = true) (l_Money___repr__ : K.lookup f_Money___repr__ = some ⟨oc_Money___repr__, od_Money___repr__, .func (PySem.W.fnOf "__repr__" "Money.__repr__" (defArgs s_Money___repr__) (defBody s_Money___repr__) (defScope s_Money___repr__) .none kV_Money___repr__ dc_Money___repr__ pm_Money___repr__ an_Money___repr__ cd_Money___repr__ ct_Money___repr__), sl_Money___repr__⟩) (c_Money___repr__ : PySem.W.codeIn K cd_Money___repr__ "Money.__repr__" = true) (k_Money___repr__ : PySem.W.keepIn K (.ref f_Money___repr__) = true)
    {f_Money___eq__ : Addr} {od_Money___eq__ an_Money___eq__ : Option Addr} {sl_Money___eq__ : Array (Option Value)} {oc_Money___eq__ kV_Money___eq__ dc_Money___eq__ pm_Money___eq__ cd_Money___eq__ ct_Money___eq__ : Value}
    (a_Money___eq__ : PySem.W.findIn K (.ref f_Money) "__eq__" = some (some (.ref f_Money___eq__))) (fn_Money___eq__ : PySem.W.isFn K (.ref f_Money___eq__) = true) (l_Money___eq__ : K.lookup f_Money___eq__ = some ⟨oc_Money___eq__, od_Money___eq__, .func (PySem.W.fnOf "__eq__" "Money.__eq__" (defArgs s_Money___eq__) (defBody s_Money___eq__) (defScope s_Money___eq__) .none kV_Money___eq__ dc_Money___eq__ pm_Money___eq__ an_Money___eq__ cd_Money___eq__ ct_Money___eq__), sl_Money___eq__⟩) (c_Money___eq__ : PySem.W.codeIn K cd_Money___eq__ "Money.__eq__" = true) (k_Money___eq__ : PySem.W.keepIn K (.ref f_Money___eq__) = true)
    {f_total : Addr} {od_total an_total : Option Addr} {sl_total : Array (Option Value)} {oc_total kV_total dc_total pm_total cd_total ct_total : Value}
    {td_total : Addr} {ot_total : Value} {oe_total : Option Addr} {on_total : Nat} {ol_total : Array (Option Value)}
    (a_total : PySem.W.nsIn K mainGlobals "total" = some (some (.ref f_total))) (l_total : K.lookup f_total = some ⟨oc_total, od_total, .func (PySem.W.fnOf "total" "total" (defArgs s_total) (defBody s_total) (defScope s_total) (.ref td_total) kV_total dc_total pm_total an_total cd_total ct_total), sl_total⟩) (c_total : PySem.W.codeIn K cd_total "total" = true) (k_total : PySem.W.keepIn K (.ref f_total) = true)
    (lt_total : K.lookup td_total = some ⟨ot_total, oe_total, .seq #[Value.none] on_total, ol_total⟩)
    {f_l_is_money : Addr} {od_l_is_money an_l_is_money : Option Addr} {sl_l_is_money : Array (Option Value)} {oc_l_is_money kV_l_is_money dc_l_is_money pm_l_is_money cd_l_is_money ct_l_is_money : Value}
    (a_l_is_money : PySem.W.nsIn K mainGlobals "_law_is_money" = some (some (.ref f_l_is_money))) (l_l_is_money : K.lookup f_l_is_money = some ⟨oc_l_is_money, od_l_is_money, .func (PySem.W.fnOf "_law_is_money" "_law_is_money" (defArgs s_l_is_money) (defBody s_l_is_money) (defScope s_l_is_money) .none kV_l_is_money dc_l_is_money pm_l_is_money an_l_is_money cd_l_is_money ct_l_is_money), sl_l_is_money⟩) (c_l_is_money : PySem.W.codeIn K cd_l_is_money "_law_is_money" = true) (k_l_is_money : PySem.W.keepIn K (.ref f_l_is_money) = true)
    {f_l_down : Addr} {od_l_down an_l_down : Option Addr} {sl_l_down : Array (Option Value)} {oc_l_down kV_l_down dc_l_down pm_l_down cd_l_down ct_l_down : Value}
    (a_l_down : PySem.W.nsIn K mainGlobals "_law_down" = some (some (.ref f_l_down))) (l_l_down : K.lookup f_l_down = some ⟨oc_l_down, od_l_down, .func (PySem.W.fnOf "_law_down" "_law_down" (defArgs s_l_down) (defBody s_l_down) (defScope s_l_down) .none kV_l_down dc_l_down pm_l_down an_l_down cd_l_down ct_l_down), sl_l_down⟩) (c_l_down : PySem.W.codeIn K cd_l_down "_law_down" = true) (k_l_down : PySem.W.keepIn K (.ref f_l_down) = true)
    {f_l_shares_right : Addr} {od_l_shares_right an_l_shares_right : Option Addr} {sl_l_shares_right : Array (Option Value)} {oc_l_shares_right kV_l_shares_right dc_l_shares_right pm_l_shares_right cd_l_shares_right ct_l_shares_right : Value}
    (a_l_shares_right : PySem.W.nsIn K mainGlobals "_law_shares_right" = some (some (.ref f_l_shares_right))) (l_l_shares_right : K.lookup f_l_shares_right = some ⟨oc_l_shares_right, od_l_shares_right, .func (PySem.W.fnOf "_law_shares_right" "_law_shares_right" (defArgs s_l_shares_right) (defBody s_l_shares_right) (defScope s_l_shares_right) .none kV_l_shares_right dc_l_shares_right pm_l_shares_right an_l_shares_right cd_l_shares_right ct_l_shares_right), sl_l_shares_right⟩) (c_l_shares_right : PySem.W.codeIn K cd_l_shares_right "_law_shares_right" = true) (k_l_shares_right : PySem.W.keepIn K (.ref f_l_shares_right) = true)
    {f_l_none_right : Addr} {od_l_none_right an_l_none_right : Option Addr} {sl_l_none_right : Array (Option Value)} {oc_l_none_right kV_l_none_right dc_l_none_right pm_l_none_right cd_l_none_right ct_l_none_right : Value}
    (a_l_none_right : PySem.W.nsIn K mainGlobals "_law_none_right" = some (some (.ref f_l_none_right))) (l_l_none_right : K.lookup f_l_none_right = some ⟨oc_l_none_right, od_l_none_right, .func (PySem.W.fnOf "_law_none_right" "_law_none_right" (defArgs s_l_none_right) (defBody s_l_none_right) (defScope s_l_none_right) .none kV_l_none_right dc_l_none_right pm_l_none_right an_l_none_right cd_l_none_right ct_l_none_right), sl_l_none_right⟩) (c_l_none_right : PySem.W.codeIn K cd_l_none_right "_law_none_right" = true) (k_l_none_right : PySem.W.keepIn K (.ref f_l_none_right) = true)
    {f_l_reckoned_right : Addr} {od_l_reckoned_right an_l_reckoned_right : Option Addr} {sl_l_reckoned_right : Array (Option Value)} {oc_l_reckoned_right kV_l_reckoned_right dc_l_reckoned_right pm_l_reckoned_right cd_l_reckoned_right ct_l_reckoned_right : Value}
    (a_l_reckoned_right : PySem.W.nsIn K mainGlobals "_law_reckoned_right" = some (some (.ref f_l_reckoned_right))) (l_l_reckoned_right : K.lookup f_l_reckoned_right = some ⟨oc_l_reckoned_right, od_l_reckoned_right, .func (PySem.W.fnOf "_law_reckoned_right" "_law_reckoned_right" (defArgs s_l_reckoned_right) (defBody s_l_reckoned_right) (defScope s_l_reckoned_right) .none kV_l_reckoned_right dc_l_reckoned_right pm_l_reckoned_right an_l_reckoned_right cd_l_reckoned_right ct_l_reckoned_right), sl_l_reckoned_right⟩) (c_l_reckoned_right : PySem.W.codeIn K cd_l_reckoned_right "_law_reckoned_right" = true) (k_l_reckoned_right : PySem.W.keepIn K (.ref f_l_reckoned_right) = true)
    {f_l_total_right : Addr} {od_l_total_right an_l_total_right : Option Addr} {sl_l_total_right : Array (Option Value)} {oc_l_total_right kV_l_total_right dc_l_total_right pm_l_total_right cd_l_total_right ct_l_total_right : Value}
    (a_l_total_right : PySem.W.nsIn K mainGlobals "_law_total_right" = some (some (.ref f_l_total_right))) (l_l_total_right : K.lookup f_l_total_right = some ⟨oc_l_total_right, od_l_total_right, .func (PySem.W.fnOf "_law_total_right" "_law_total_right" (defArgs s_l_total_right) (defBody s_l_total_right) (defScope s_l_total_right) .none kV_l_total_right dc_l_total_right pm_l_total_right an_l_total_right cd_l_total_right ct_l_total_right), sl_l_total_right⟩) (c_l_total_right : PySem.W.codeIn K cd_l_total_right "_law_total_right" = true) (k_l_total_right : PySem.W.keepIn K (.ref f_l_total_right) = true)
    {f_l_great_right : Addr} {od_l_great_right an_l_great_right : Option Addr} {sl_l_great_right : Array (Option Value)} {oc_l_great_right kV_l_great_right dc_l_great_right pm_l_great_right cd_l_great_right ct_l_great_right : Value}
    (a_l_great_right : PySem.W.nsIn K mainGlobals "_law_great_right" = some (some (.ref f_l_great_right))) (l_l_great_right : K.lookup f_l_great_right = some ⟨oc_l_great_right, od_l_great_right, .func (PySem.W.fnOf "_law_great_right" "_law_great_right" (defArgs s_l_great_right) (defBody s_l_great_right) (defScope s_l_great_right) .none kV_l_great_right dc_l_great_right pm_l_great_right an_l_great_right cd_l_great_right ct_l_great_right), sl_l_great_right⟩) (c_l_great_right : PySem.W.codeIn K cd_l_great_right "_law_great_right" = true) (k_l_great_right : PySem.W.keepIn K (.ref f_l_great_right) = true)
    {f_law : Addr} {od_law an_law : Option Addr} {sl_law : Array (Option Value)} {oc_law kV_law dc_law pm_law cd_law ct_law : Value}
    (a_law : PySem.W.nsIn K mainGlobals "law" = some (some (.ref f_law))) (l_law : K.lookup f_law = some ⟨oc_law, od_law, .func (PySem.W.fnOf "law" "law" (defArgs s_law) (defBody s_law) (defScope s_law) .none kV_law dc_law pm_law an_law cd_law ct_law), sl_law⟩) (c_law : PySem.W.codeIn K cd_law "law" = true) (k_law : PySem.W.keepIn K (.ref f_law) = true)
    {f_Endless : Addr} (a_Endless : PySem.W.nsIn K mainGlobals "Endless" = some (some (.ref f_Endless)))
    {f_Lacking : Addr} (a_Lacking : PySem.W.nsIn K mainGlobals "Lacking" = some (some (.ref f_Lacking)))
    {f_MasterError : Addr} (a_MasterError : PySem.W.nsIn K mainGlobals "MasterError" = some (some (.ref f_MasterError)))
    {f_NoShare : Addr} (a_NoShare : PySem.W.nsIn K mainGlobals "NoShare" = some (some (.ref f_NoShare)))
    {f_NoText : Addr} (a_NoText : PySem.W.nsIn K mainGlobals "NoText" = some (some (.ref f_NoText)))
    {f_TooHeavy : Addr} (a_TooHeavy : PySem.W.nsIn K mainGlobals "TooHeavy" = some (some (.ref f_TooHeavy)))
    {f_Unlike : Addr} (a_Unlike : PySem.W.nsIn K mainGlobals "Unlike" = some (some (.ref f_Unlike)))
    (vb_ArithmeticError : PySem.W.findCls K (.type "ArithmeticError") (.type "type") "__init__" = some (.val (.builtin "ArithmeticError.__init__")))
    (vb_Exception : PySem.W.findCls K (.type "Exception") (.type "type") "__init__" = some (.val (.builtin "Exception.__init__")))
    (vb_ValueError : PySem.W.findCls K (.type "ValueError") (.type "type") "__init__" = some (.val (.builtin "ValueError.__init__")))
    {g_NoShare : Addr} {od_NoShare an_NoShare : Option Addr} {sl_NoShare : Array (Option Value)} {oc_NoShare kV_NoShare dc_NoShare pm_NoShare cd_NoShare ct_NoShare : Value}
    (ii0_NoShare : PySem.W.findIn K (.ref f_NoShare) "__init__" = some (some (.ref g_NoShare))) (ti_NoShare : PySem.W.typeIn K (.ref g_NoShare) = some (.type "function")) (li_NoShare : K.lookup g_NoShare = some ⟨oc_NoShare, od_NoShare, .func (PySem.W.fnOf "__init__" "NoShare.__init__" (defArgs s_NoShare___init__) (defBody s_NoShare___init__) (defScope s_NoShare___init__) .none kV_NoShare dc_NoShare pm_NoShare an_NoShare cd_NoShare ct_NoShare), sl_NoShare⟩) (ci_NoShare : PySem.W.codeIn K cd_NoShare "NoShare.__init__" = true) (ki_NoShare : PySem.W.keepIn K (.ref g_NoShare) = true)
    {nm_NoShare q_NoShare : Str} {N_NoShare : Addr} {bs_NoShare : List Value} {sn_NoShare : List Str} {su_NoShare : List Value} {ab_NoShare : Bool} {co_NoShare : Option Bool} {dd_NoShare : Option Addr} {m0_NoShare m1_NoShare m2_NoShare m3_NoShare m5_NoShare : Option Value}
    (l_NoShare : K.lookup f_NoShare = some (excClassObj nm_NoShare q_NoShare f_NoShare N_NoShare bs_NoShare [.type "ArithmeticError", .type "Exception", .type "BaseException", .type "object"] true sn_NoShare su_NoShare ab_NoShare co_NoShare dd_NoShare m0_NoShare m1_NoShare m2_NoShare m3_NoShare m5_NoShare "ArithmeticError.__new__"))
    (sa_NoShare : PySem.W.findIn K (.ref f_NoShare) "__setattr__" = some (some (.builtin "object.__setattr__"))) (eC_NoShare : PySem.W.subIn K (.ref f_NoShare) (.type "BaseException") = some true) (tC_NoShare : PySem.W.typeIn K (.ref f_NoShare) = some (.type "type")) (kC_NoShare : PySem.W.keepIn K (.ref f_NoShare) = true)
    (ga_NoShare : PySem.W.findIn K (.ref f_NoShare) "__getattribute__" = some (some (.builtin "BaseException.__getattribute__"))) (gg_NoShare : PySem.W.findIn K (.ref f_NoShare) "__getattr__" = some none) (hC_NoShare : PySem.W.hasDictIn K f_NoShare = true)
    (ha_NoShare : PySem.W.findIn K (.ref f_NoShare) "__class__" = some (some (.builtin "object.__class__"))) (hn_NoShare : PySem.W.specialIn K (.builtin "object.__class__") "__get__" = some (some (.builtin "getset_descriptor.__get__"))) (ht_NoShare : PySem.W.takesIn K (.builtin "object.__class__") = some true) (hm_NoShare : PySem.W.mroIn K f_NoShare (.type "object") = some true)
    (iC_NoShare : PySem.W.isClsIn K f_NoShare = true) (sC_NoShare : PySem.W.subIn K (.ref f_NoShare) (.ref f_NoShare) = some true)
    (n_NoShare_many : PySem.W.findIn K (.ref f_NoShare) "many" = some none)
    (su_NoShare_ArithmeticError : PySem.W.subIn K (.ref f_NoShare) (.type "ArithmeticError") = some true)
    (su_NoShare_ValueError : PySem.W.subIn K (.ref f_NoShare) (.type "ValueError") = some false)
    (su_NoShare_Endless : PySem.W.subIn K (.ref f_NoShare) (.ref f_Endless) = some false)
    (su_NoShare_Lacking : PySem.W.subIn K (.ref f_NoShare) (.ref f_Lacking) = some false)
    (su_NoShare_MasterError : PySem.W.subIn K (.ref f_NoShare) (.ref f_MasterError) = some false)
    (su_NoShare_NoText : PySem.W.subIn K (.ref f_NoShare) (.ref f_NoText) = some false)
    (su_NoShare_TooHeavy : PySem.W.subIn K (.ref f_NoShare) (.ref f_TooHeavy) = some false)
    (su_NoShare_Unlike : PySem.W.subIn K (.ref f_NoShare) (.ref f_Unlike) = some false)
    (iC_Endless : PySem.W.isClsIn K f_Endless = true) (tC_Endless : PySem.W.typeIn K (.ref f_Endless) = some (.type "type")) (eC_Endless : PySem.W.subIn K (.ref f_Endless) (.type "BaseException") = some true) (hC_Endless : PySem.W.hasDictIn K f_Endless = true)
    (iC_Lacking : PySem.W.isClsIn K f_Lacking = true) (tC_Lacking : PySem.W.typeIn K (.ref f_Lacking) = some (.type "type")) (eC_Lacking : PySem.W.subIn K (.ref f_Lacking) (.type "BaseException") = some true) (hC_Lacking : PySem.W.hasDictIn K f_Lacking = true)
    (iC_MasterError : PySem.W.isClsIn K f_MasterError = true) (tC_MasterError : PySem.W.typeIn K (.ref f_MasterError) = some (.type "type")) (eC_MasterError : PySem.W.subIn K (.ref f_MasterError) (.type "BaseException") = some true) (hC_MasterError : PySem.W.hasDictIn K f_MasterError = true)
    (iC_NoText : PySem.W.isClsIn K f_NoText = true) (tC_NoText : PySem.W.typeIn K (.ref f_NoText) = some (.type "type")) (eC_NoText : PySem.W.subIn K (.ref f_NoText) (.type "BaseException") = some true) (hC_NoText : PySem.W.hasDictIn K f_NoText = true)
    (iC_TooHeavy : PySem.W.isClsIn K f_TooHeavy = true) (tC_TooHeavy : PySem.W.typeIn K (.ref f_TooHeavy) = some (.type "type")) (eC_TooHeavy : PySem.W.subIn K (.ref f_TooHeavy) (.type "BaseException") = some true) (hC_TooHeavy : PySem.W.hasDictIn K f_TooHeavy = true)
    (iC_Unlike : PySem.W.isClsIn K f_Unlike = true) (tC_Unlike : PySem.W.typeIn K (.ref f_Unlike) = some (.type "type")) (eC_Unlike : PySem.W.subIn K (.ref f_Unlike) (.type "BaseException") = some true) (hC_Unlike : PySem.W.hasDictIn K f_Unlike = true)
    (z_ArithmeticError : PySem.W.nsIn K mainGlobals "ArithmeticError" = some none)
    (z_Exception : PySem.W.nsIn K mainGlobals "Exception" = some none)
    (z_ValueError : PySem.W.nsIn K mainGlobals "ValueError" = some none)
    (z_ZeroDivisionError : PySem.W.nsIn K mainGlobals "ZeroDivisionError" = some none)
    (z_abs : PySem.W.nsIn K mainGlobals "abs" = some none)
    (z_bool : PySem.W.nsIn K mainGlobals "bool" = some none)
    (z_int : PySem.W.nsIn K mainGlobals "int" = some none)
    (z_isinstance : PySem.W.nsIn K mainGlobals "isinstance" = some none)
    (z_len : PySem.W.nsIn K mainGlobals "len" = some none)
    (z_max : PySem.W.nsIn K mainGlobals "max" = some none)
    (z_min : PySem.W.nsIn K mainGlobals "min" = some none)
    (z_range : PySem.W.nsIn K mainGlobals "range" = some none)
    (z_repr : PySem.W.nsIn K mainGlobals "repr" = some none)
    (z_sorted : PySem.W.nsIn K mainGlobals "sorted" = some none)
    (z_sum : PySem.W.nsIn K mainGlobals "sum" = some none)
    (z_tuple : PySem.W.nsIn K mainGlobals "tuple" = some none) :
    ∃ fd : FuncData, (∀ (s : Shared) (v : Value), BindsTo s fd ⟨[v], []⟩ [("_law_script", v)]) ∧ ∀ base : Heap, K.In base → base.Ns mainGlobals mg → FnG l.prog w K mg base 14 fa fd ["_law_script"] (spD K sp_law) := by
  have e := hfa.symm.trans (PySem.W.mg_of X G a_law)
  cases e
  have F_l_well := fun_mk (st := s_l_well) l_l_well c_l_well k_l_well
  have b_l_well := F_l_well.binds (ps := ["_law_script", "_law_k"]) fun _ _ _ _ _ _ us hl => match us, hl with | [_, _], _ => rfl
  have F_l_take := fun_mk (st := s_l_take) l_l_take c_l_take k_l_take
  have b_l_take := F_l_take.binds (ps := ["_law_well_here", "_law_many"]) fun _ _ _ _ _ _ us hl => match us, hl with | [_, _], _ => rfl
  have F_l_pence := fun_mk (st := s_l_pence) l_l_pence c_l_pence k_l_pence
  have b_l_pence := F_l_pence.binds (ps := ["_law_well_here"]) fun _ _ _ _ _ _ us hl => match us, hl with | [_], _ => rfl
  have F_Money___init__ := fun_mk (st := s_Money___init__) l_Money___init__ c_Money___init__ k_Money___init__
  have b_Money___init__ := F_Money___init__.binds (ps := ["self", "pence"]) fun _ _ _ _ _ _ us hl => match us, hl with | [_, _], _ => rfl
  have F_Money_plus := fun_mk (st := s_Money_plus) l_Money_plus c_Money_plus k_Money_plus
  have b_Money_plus := F_Money_plus.binds (ps := ["self", "other"]) fun _ _ _ _ _ _ us hl => match us, hl with | [_, _], _ => rfl
  have F_Money_less := fun_mk (st := s_Money_less) l_Money_less c_Money_less k_Money_less
  have b_Money_less := F_Money_less.binds (ps := ["self", "other"]) fun _ _ _ _ _ _ us hl => match us, hl with | [_, _], _ => rfl
  have F_Money_times := fun_mk (st := s_Money_times) l_Money_times c_Money_times k_Money_times
  have b_Money_times := F_Money_times.binds (ps := ["self", "many"]) fun _ _ _ _ _ _ us hl => match us, hl with | [_, _], _ => rfl
  have F_Money_each := fun_mk (st := s_Money_each) l_Money_each c_Money_each k_Money_each
  have b_Money_each := F_Money_each.binds (ps := ["self", "many"]) fun _ _ _ _ _ _ us hl => match us, hl with | [_, _], _ => rfl
  have F_Money_shares := fun_mk (st := s_Money_shares) l_Money_shares c_Money_shares k_Money_shares
  have b_Money_shares := F_Money_shares.binds (ps := ["self", "many"]) fun _ _ _ _ _ _ us hl => match us, hl with | [_, _], _ => rfl
  have F_Money___repr__ := fun_mk (st := s_Money___repr__) l_Money___repr__ c_Money___repr__ k_Money___repr__
  have b_Money___repr__ := F_Money___repr__.binds (ps := ["self"]) fun _ _ _ _ _ _ us hl => match us, hl with | [_], _ => rfl
  have F_Money___eq__ := fun_mk (st := s_Money___eq__) l_Money___eq__ c_Money___eq__ k_Money___eq__
  have b_Money___eq__ := F_Money___eq__.binds (ps := ["self", "other"]) fun _ _ _ _ _ _ us hl => match us, hl with | [_, _], _ => rfl
  have F_total : FunDf K "total" "total" s_total [V.non] f_total _ := ⟨⟨_, _, _, _, _, _, _, _, _, _, rfl, l_total, c_total, .inr ⟨(by intro h; cases h), _, _, [Value.none], _, rfl, lt_total, rfl, .cons rfl .nil⟩, .inl rfl⟩, k_total⟩
  obtain ⟨bd_total, bv_total, b_total⟩ := F_total.binds1 (ps := ["moneys", "start"]) 1 0 (by intro h; cases h) rfl fun _ _ _ _ _ _ _ us its hl hi => match us, hl, its, hi with | [_], _, [_], _ => ⟨_, rfl, rfl⟩
  have kb_total := kbn_all (ps := ["moneys", "start"]) F_total 1 ["start"] (by intro h; cases h) fun _ _ _ _ _ _ _ us its ws hl hi hw => match us, hl, its, hi, ws, hw with | [_], _, [_], _, [_], _ => ⟨_, rfl, rfl⟩
  obtain ⟨bz_total, bw_total, bf_total⟩ := F_total.binds1 (ps := ["moneys", "start"]) 2 1 (by intro h; cases h) rfl fun _ _ _ _ _ _ _ us its hl hi => match us, hl, its, hi with | [_, _], _, [_], _ => ⟨_, rfl, rfl⟩
  cases bw_total
  have F_l_is_money := fun_mk (st := s_l_is_money) l_l_is_money c_l_is_money k_l_is_money
  have b_l_is_money := F_l_is_money.binds (ps := ["_law_found", "_law_pence_here"]) fun _ _ _ _ _ _ us hl => match us, hl with | [_, _], _ => rfl
  have F_l_down := fun_mk (st := s_l_down) l_l_down c_l_down k_l_down
  have b_l_down := F_l_down.binds (ps := ["_law_pence_here", "_law_many"]) fun _ _ _ _ _ _ us hl => match us, hl with | [_, _], _ => rfl
  have F_l_shares_right := fun_mk (st := s_l_shares_right) l_l_shares_right c_l_shares_right k_l_shares_right
  have b_l_shares_right := F_l_shares_right.binds (ps := ["_law_money", "_law_pence_here", "_law_many"]) fun _ _ _ _ _ _ us hl => match us, hl with | [_, _, _], _ => rfl
  have F_l_none_right := fun_mk (st := s_l_none_right) l_l_none_right c_l_none_right k_l_none_right
  have b_l_none_right := F_l_none_right.binds (ps := ["_law_pence_here"]) fun _ _ _ _ _ _ us hl => match us, hl with | [_], _ => rfl
  have F_l_reckoned_right := fun_mk (st := s_l_reckoned_right) l_l_reckoned_right c_l_reckoned_right k_l_reckoned_right
  have b_l_reckoned_right := F_l_reckoned_right.binds (ps := ["_law_one", "_law_other", "_law_many"]) fun _ _ _ _ _ _ us hl => match us, hl with | [_, _, _], _ => rfl
  have F_l_total_right := fun_mk (st := s_l_total_right) l_l_total_right c_l_total_right k_l_total_right
  have b_l_total_right := F_l_total_right.binds (ps := ["_law_rows", "_law_begun"]) fun _ _ _ _ _ _ us hl => match us, hl with | [_, _], _ => rfl
  have F_l_great_right := fun_mk (st := s_l_great_right) l_l_great_right c_l_great_right k_l_great_right
  have b_l_great_right := F_l_great_right.binds (ps := ["_law_one", "_law_other", "_law_many"]) fun _ _ _ _ _ _ us hl => match us, hl with | [_, _, _], _ => rfl
  have F_law := fun_mk (st := s_law) l_law c_law k_law
  have b_law := F_law.binds (ps := ["_law_script"]) fun _ _ _ _ _ _ us hl => match us, hl with | [_], _ => rfl
  have Fi_NoShare := fun_mk (st := s_NoShare___init__) li_NoShare ci_NoShare ki_NoShare
  have bi_NoShare := Fi_NoShare.binds (ps := ["self", "many"]) fun _ _ _ _ _ _ us hl => match us, hl with | [_, _], _ => rfl
  let T : TX w K mg := ⟨_, PySem.W.mg_of X G a_Money, _, _, F_l_well, PySem.W.mg_of X G a_l_well, F_l_well.kp, b_l_well, _, _, F_l_take, PySem.W.mg_of X G a_l_take, F_l_take.kp, b_l_take, _, _, F_l_pence, PySem.W.mg_of X G a_l_pence, F_l_pence.kp, b_l_pence, _, _, F_Money___init__, F_Money___init__.kp, b_Money___init__, _, _, F_Money_plus, F_Money_plus.kp, b_Money_plus, ⟨a_Money_plus, fn_Money_plus, k_Money_plus⟩, _, _, F_Money_less, F_Money_less.kp, b_Money_less, ⟨a_Money_less, fn_Money_less, k_Money_less⟩, _, _, F_Money_times, F_Money_times.kp, b_Money_times, ⟨a_Money_times, fn_Money_times, k_Money_times⟩, _, _, F_Money_each, F_Money_each.kp, b_Money_each, ⟨a_Money_each, fn_Money_each, k_Money_each⟩, _, _, F_Money_shares, F_Money_shares.kp, b_Money_shares, ⟨a_Money_shares, fn_Money_shares, k_Money_shares⟩, _, _, F_Money___repr__, F_Money___repr__.kp, b_Money___repr__, ⟨a_Money___repr__, fn_Money___repr__, k_Money___repr__⟩, _, _, F_Money___eq__, F_Money___eq__.kp, b_Money___eq__, ⟨a_Money___eq__, fn_Money___eq__, k_Money___eq__⟩, _, _, F_total, PySem.W.mg_of X G a_total, F_total.kp, _, bv_total, b_total, kb_total, bf_total, _, _, F_l_is_money, PySem.W.mg_of X G a_l_is_money, F_l_is_money.kp, b_l_is_money, _, _, F_l_down, PySem.W.mg_of X G a_l_down, F_l_down.kp, b_l_down, _, _, F_l_shares_right, PySem.W.mg_of X G a_l_shares_right, F_l_shares_right.kp, b_l_shares_right, _, _, F_l_none_right, PySem.W.mg_of X G a_l_none_right, F_l_none_right.kp, b_l_none_right, _, _, F_l_reckoned_right, PySem.W.mg_of X G a_l_reckoned_right, F_l_reckoned_right.kp, b_l_reckoned_right, _, _, F_l_total_right, PySem.W.mg_of X G a_l_total_right, F_l_total_right.kp, b_l_total_right, _, _, F_l_great_right, PySem.W.mg_of X G a_l_great_right, F_l_great_right.kp, b_l_great_right, _, _, F_law, PySem.W.mg_of X G a_law, F_law.kp, b_law, ⟨mk_Money, a_Money___init__, fn_Money___init__, kc_Money⟩, ⟨pg_Money, hd_Money, po_Money, sa_Money⟩, nf_Money_pence, ⟨ha_Money, hn_Money, ht_Money, hm_Money⟩, ne_Money, DTj.kit_tyb (by decide +kernel) sb_Money_bool, DTj.kit_tyb (by decide +kernel) sb_Money_tuple, PySem.W.mg_none_of X G z_ArithmeticError, PySem.W.mg_none_of X G z_Exception, PySem.W.mg_none_of X G z_ValueError, PySem.W.mg_none_of X G z_ZeroDivisionError, PySem.W.mg_none_of X G z_abs, PySem.W.mg_none_of X G z_bool, PySem.W.mg_none_of X G z_int, PySem.W.mg_none_of X G z_isinstance, PySem.W.mg_none_of X G z_len, PySem.W.mg_none_of X G z_max, PySem.W.mg_none_of X G z_min, PySem.W.mg_none_of X G z_range, PySem.W.mg_none_of X G z_repr, PySem.W.mg_none_of X G z_sorted, PySem.W.mg_none_of X G z_sum, PySem.W.mg_none_of X G z_tuple, _, PySem.W.mg_of X G a_Endless, _, PySem.W.mg_of X G a_Lacking, _, PySem.W.mg_of X G a_MasterError, _, PySem.W.mg_of X G a_NoShare, _, PySem.W.mg_of X G a_NoText, _, PySem.W.mg_of X G a_TooHeavy, _, PySem.W.mg_of X G a_Unlike, vb_ArithmeticError, vb_Exception, vb_ValueError, _, ti_NoShare, ki_NoShare, _, Fi_NoShare, bi_NoShare, ⟨⟨_, _, _, _, _, _, _, _, _, _, _, _, _, _, _, l_NoShare, rfl⟩, sa_NoShare, eC_NoShare, tC_NoShare, kC_NoShare⟩, ii0_NoShare, n_NoShare_many, ⟨ga_NoShare, gg_NoShare, eC_NoShare, hC_NoShare⟩, ⟨ga_NoShare, gg_NoShare, eC_NoShare, hC_NoShare, ha_NoShare, hn_NoShare, ht_NoShare, hm_NoShare⟩, DXs.kit_cls sC_NoShare iC_Endless tC_Endless su_NoShare_Endless, DXs.kit_cls sC_NoShare iC_Lacking tC_Lacking su_NoShare_Lacking, DXs.kit_cls sC_NoShare iC_MasterError tC_MasterError su_NoShare_MasterError, DXs.kit_cls sC_NoShare iC_NoText tC_NoText su_NoShare_NoText, DXs.kit_cls sC_NoShare iC_TooHeavy tC_TooHeavy su_NoShare_TooHeavy, DXs.kit_cls sC_NoShare iC_Unlike tC_Unlike su_NoShare_Unlike, DTj.kit_tyb (by decide +kernel) su_NoShare_ArithmeticError, DTj.kit_tyb (by decide +kernel) su_NoShare_ValueError, PySem.W.exm_ref eC_NoShare hC_NoShare tC_NoShare sC_NoShare⟩
  refine ⟨T.fd_law, fun s v => .of_eq rfl, fun base _ _ => ?_⟩
  have GI_NoShare := ok_ini_NoShare (P := l.prog) (w := w) (base := base) T
  have GH_NoShare := ok_inih_NoShare (P := l.prog) (w := w) (base := base) T
  have G_l_well := ok_l_well (P := l.prog) (w := w) (base := base) T
  have G_l_take := ok_l_take (P := l.prog) (w := w) (base := base) T
  have G_l_pence := ok_l_pence (P := l.prog) (w := w) (base := base) T G_l_take
  have G_Money___init__ := ok_Money___init__ (P := l.prog) (w := w) (base := base) T
  have G_Money_plus := ok_Money_plus (P := l.prog) (w := w) (base := base) T G_Money___init__
  have G_Money_less := ok_Money_less (P := l.prog) (w := w) (base := base) T G_Money___init__
  have G_Money_times := ok_Money_times (P := l.prog) (w := w) (base := base) T G_Money___init__
  have G_Money_each := ok_Money_each (P := l.prog) (w := w) (base := base) T G_Money___init__ GI_NoShare GH_NoShare
  have G_Money_shares := ok_Money_shares (P := l.prog) (w := w) (base := base) T G_Money_each G_Money___init__
  have G_Money___repr__ := ok_Money___repr__ (P := l.prog) (w := w) (base := base) T
  have G_Money___eq__ := ok_Money___eq__ (P := l.prog) (w := w) (base := base) T
  have G_total := ok_total (P := l.prog) (w := w) (base := base) T G_Money___init__
  have G_l_is_money := ok_l_is_money (P := l.prog) (w := w) (base := base) T
  have G_l_down := ok_l_down (P := l.prog) (w := w) (base := base) T
  have G_l_shares_right := ok_l_shares_right (P := l.prog) (w := w) (base := base) T G_l_is_money G_l_down G_Money_shares G_Money_each G_Money___repr__
  have G_l_none_right := ok_l_none_right (P := l.prog) (w := w) (base := base) T G_Money_each G_Money_shares G_Money___init__
  have G_l_reckoned_right := ok_l_reckoned_right (P := l.prog) (w := w) (base := base) T G_l_is_money G_Money___init__ G_Money_plus G_Money_less G_Money_times G_Money___eq__
  have G_l_total_right := ok_l_total_right (P := l.prog) (w := w) (base := base) T G_total G_l_is_money G_Money___repr__ G_Money___init__
  have G_l_great_right := ok_l_great_right (P := l.prog) (w := w) (base := base) T G_l_down G_total G_l_is_money G_l_shares_right G_Money_plus G_Money___init__ G_Money_each G_Money_less G_Money_times
  have G_law := ok_law (P := l.prog) (w := w) (base := base) T G_l_none_right G_l_well G_l_take G_l_pence G_l_great_right G_l_shares_right G_l_is_money G_l_reckoned_right G_l_total_right G_l_down G_Money___init__ G_Money_each
  exact G_law
theorem walk {l : PySem.W.OpenLaw} {q : Program} {loose : List Str} {XP : (Str → Option Value) → Heap → Prop} {YP : World → Heap → Prop} {d : DefRec} {K : Params → PySem.W.Frag} (hn : l.most = some 63) (hdf : d.params.defaults = [])
    (hY : ∀ (w : World) (h : Heap), YP w h → (K w.params).In h)
    (F : ∀ (w : World) (mg : Str → Option Value) (fa : Addr) (h : Heap), (K w.params).In h → h.Ns mainGlobals mg → mg d.name = some (.ref fa) →
      ∃ fd : FuncData, (∀ (s : Shared) (u : Value), BindsTo s fd ⟨[u], []⟩ [("_law_script", u)]) ∧ ∀ base : Heap, (K w.params).In base → base.Ns mainGlobals mg → FnG l.prog w (K w.params) mg base 14 fa fd ["_law_script"] (spD (K w.params) sp_law)) :
    PySem.W.WalkO q loose XP YP l.row.toRowW d [] (fun f vs => PySem.call f vs) :=
  DL.walk_ofG (n := 63) (k := 14) (x := "_law_script") (sp := fun w => spD (K w.params) sp_law) hn (by decide) hdf ⟨rfl, by decide, by decide⟩ hY F (fun _ _ a ns hl hb hS => law_sp (law_in hl hb) hS)
end Pf
open PySem PySem.W PyProof.Rows in
set_option maxRecDepth 100000 in
set_option maxHeartbeats 0 in
theorem PySem.Challenge.cw_littlemasters_k02_moneys_reckoned_holds : PySem.Challenge.rw_littlemasters_k02_moneys_reckoned.Holds := by
  refine PySem.W.headPf ?_
  k_fill
  refine Pf.walk (l := PySem.Challenge.rw_littlemasters_k02_moneys_reckoned) rfl rfl (fun w h Y => PySem.W.kIn_of Y) ?F
  case F =>
    intro w mg fa h KX G hmg
    refine' Pf.all_mk KX G hmg ?a_Money ?pg_Money ?hd_Money ?po_Money ?sa_Money ?mk_Money ?kc_Money ?nf_Money_pence ?ha_Money ?hn_Money ?ht_Money ?hm_Money ?ne_Money ?sb_Money_bool ?sb_Money_tuple ?a_l_well ?l_l_well ?c_l_well ?k_l_well ?a_l_take ?l_l_take ?c_l_take ?k_l_take ?a_l_pence ?l_l_pence ?c_l_pence ?k_l_pence ?a_Money___init__ ?fn_Money___init__ ?l_Money___init__ ?c_Money___init__ ?k_Money___init__ ?a_Money_plus ?fn_Money_plus ?l_Money_plus ?c_Money_plus ?k_Money_plus ?a_Money_less ?fn_Money_less ?l_Money_less ?c_Money_less ?k_Money_less ?a_Money_times ?fn_Money_times ?l_Money_times ?c_Money_times ?k_Money_times ?a_Money_each ?fn_Money_each ?l_Money_each ?c_Money_each ?k_Money_each ?a_Money_shares ?fn_Money_shares ?l_Money_shares ?c_Money_shares ?k_Money_shares ?a_Money___repr__ ?fn_Money___repr__ ?l_Money___repr__ ?c_Money___repr__ ?k_Money___repr__ ?a_Money___eq__ ?fn_Money___eq__ ?l_Money___eq__ ?c_Money___eq__ ?k_Money___eq__ ?a_total ?l_total ?c_total ?k_total ?lt_total ?a_l_is_money ?l_l_is_money ?c_l_is_money ?k_l_is_money ?a_l_down ?l_l_down ?c_l_down ?k_l_down ?a_l_shares_right ?l_l_shares_right ?c_l_shares_right ?k_l_shares_right ?a_l_none_right ?l_l_none_right ?c_l_none_right ?k_l_none_right ?a_l_reckoned_right ?l_l_reckoned_right ?c_l_reckoned_right ?k_l_reckoned_right ?a_l_total_right ?l_l_total_right ?c_l_total_right ?k_l_total_right ?a_l_great_right ?l_l_great_right ?c_l_great_right ?k_l_great_right ?a_law ?l_law ?c_law ?k_law ?a_Endless ?a_Lacking ?a_MasterError ?a_NoShare ?a_NoText ?a_TooHeavy ?a_Unlike ?vb_ArithmeticError ?vb_Exception ?vb_ValueError ?ii0_NoShare ?ti_NoShare ?li_NoShare ?ci_NoShare ?ki_NoShare ?l_NoShare ?sa_NoShare ?eC_NoShare ?tC_NoShare ?kC_NoShare ?ga_NoShare ?gg_NoShare ?hC_NoShare ?ha_NoShare ?hn_NoShare ?ht_NoShare ?hm_NoShare ?iC_NoShare ?sC_NoShare ?n_NoShare_many ?su_NoShare_ArithmeticError ?su_NoShare_ValueError ?su_NoShare_Endless ?su_NoShare_Lacking ?su_NoShare_MasterError ?su_NoShare_NoText ?su_NoShare_TooHeavy ?su_NoShare_Unlike ?iC_Endless ?tC_Endless ?eC_Endless ?hC_Endless ?iC_Lacking ?tC_Lacking ?eC_Lacking ?hC_Lacking ?iC_MasterError ?tC_MasterError ?eC_MasterError ?hC_MasterError ?iC_NoText ?tC_NoText ?eC_NoText ?hC_NoText ?iC_TooHeavy ?tC_TooHeavy ?eC_TooHeavy ?hC_TooHeavy ?iC_Unlike ?tC_Unlike ?eC_Unlike ?hC_Unlike ?z_ArithmeticError ?z_Exception ?z_ValueError ?z_ZeroDivisionError ?z_abs ?z_bool ?z_int ?z_isinstance ?z_len ?z_max ?z_min ?z_range ?z_repr ?z_sorted ?z_sum ?z_tuple
    (case a_Money => k_is)
    (case pg_Money => k_is)
    (case hd_Money => k_is)
    (case po_Money => k_is)
    (case sa_Money => k_is)
    (case mk_Money => k_is)
    (case kc_Money => k_is)
    (case nf_Money_pence => k_is)
    (case ha_Money => k_is)
    (case hn_Money => k_is)
    (case ht_Money => k_is)
    (case hm_Money => k_is)
    (case ne_Money => k_is)
    (case sb_Money_bool => k_is)
    (case sb_Money_tuple => k_is)
    (case a_l_well => k_is)
    (case l_l_well => k_is)
    (case c_l_well => k_is)
    (case k_l_well => k_is)
    (case a_l_take => k_is)
    (case l_l_take => k_is)
    (case c_l_take => k_is)
    (case k_l_take => k_is)
    (case a_l_pence => k_is)
    (case l_l_pence => k_is)
    (case c_l_pence => k_is)
    (case k_l_pence => k_is)
    (case a_Money___init__ => k_is)
    (case fn_Money___init__ => k_is)
    (case l_Money___init__ => k_is)
    (case c_Money___init__ => k_is)
    (case k_Money___init__ => k_is)
    (case a_Money_plus => k_is)
    (case fn_Money_plus => k_is)
    (case l_Money_plus => k_is)
    (case c_Money_plus => k_is)
    (case k_Money_plus => k_is)
    (case a_Money_less => k_is)
    (case fn_Money_less => k_is)
    (case l_Money_less => k_is)
    (case c_Money_less => k_is)
    (case k_Money_less => k_is)
    (case a_Money_times => k_is)
    (case fn_Money_times => k_is)
    (case l_Money_times => k_is)
    (case c_Money_times => k_is)
    (case k_Money_times => k_is)
    (case a_Money_each => k_is)
    (case fn_Money_each => k_is)
    (case l_Money_each => k_is)
    (case c_Money_each => k_is)
    (case k_Money_each => k_is)
    (case a_Money_shares => k_is)
    (case fn_Money_shares => k_is)
    (case l_Money_shares => k_is)
    (case c_Money_shares => k_is)
    (case k_Money_shares => k_is)
    (case a_Money___repr__ => k_is)
    (case fn_Money___repr__ => k_is)
    (case l_Money___repr__ => k_is)
    (case c_Money___repr__ => k_is)
    (case k_Money___repr__ => k_is)
    (case a_Money___eq__ => k_is)
    (case fn_Money___eq__ => k_is)
    (case l_Money___eq__ => k_is)
    (case c_Money___eq__ => k_is)
    (case k_Money___eq__ => k_is)
    (case a_total => k_is)
    (case l_total => k_is)
    (case c_total => k_is)
    (case k_total => k_is)
    (case lt_total => k_is)
    (case a_l_is_money => k_is)
    (case l_l_is_money => k_is)
    (case c_l_is_money => k_is)
    (case k_l_is_money => k_is)
    (case a_l_down => k_is)
    (case l_l_down => k_is)
    (case c_l_down => k_is)
    (case k_l_down => k_is)
    (case a_l_shares_right => k_is)
    (case l_l_shares_right => k_is)
    (case c_l_shares_right => k_is)
    (case k_l_shares_right => k_is)
    (case a_l_none_right => k_is)
    (case l_l_none_right => k_is)
    (case c_l_none_right => k_is)
    (case k_l_none_right => k_is)
    (case a_l_reckoned_right => k_is)
    (case l_l_reckoned_right => k_is)
    (case c_l_reckoned_right => k_is)
    (case k_l_reckoned_right => k_is)
    (case a_l_total_right => k_is)
    (case l_l_total_right => k_is)
    (case c_l_total_right => k_is)
    (case k_l_total_right => k_is)
    (case a_l_great_right => k_is)
    (case l_l_great_right => k_is)
    (case c_l_great_right => k_is)
    (case k_l_great_right => k_is)
    (case a_law => k_is)
    (case l_law => k_is)
    (case c_law => k_is)
    (case k_law => k_is)
    (case a_Endless => k_is)
    (case a_Lacking => k_is)
    (case a_MasterError => k_is)
    (case a_NoShare => k_is)
    (case a_NoText => k_is)
    (case a_TooHeavy => k_is)
    (case a_Unlike => k_is)
    (case vb_ArithmeticError => k_is)
    (case vb_Exception => k_is)
    (case vb_ValueError => k_is)
    (case ii0_NoShare => k_is)
    (case ti_NoShare => k_is)
    (case li_NoShare => k_is)
    (case ci_NoShare => k_is)
    (case ki_NoShare => k_is)
    (case l_NoShare => k_is)
    (case sa_NoShare => k_is)
    (case eC_NoShare => k_is)
    (case tC_NoShare => k_is)
    (case kC_NoShare => k_is)
    (case ga_NoShare => k_is)
    (case gg_NoShare => k_is)
    (case hC_NoShare => k_is)
    (case ha_NoShare => k_is)
    (case hn_NoShare => k_is)
    (case ht_NoShare => k_is)
    (case hm_NoShare => k_is)
    (case iC_NoShare => k_is)
    (case sC_NoShare => first | rfl | k_is)
    (case n_NoShare_many => k_is)
    (case su_NoShare_ArithmeticError => k_is)
    (case su_NoShare_ValueError => k_is)
    (case su_NoShare_Endless => k_is)
    (case su_NoShare_Lacking => k_is)
    (case su_NoShare_MasterError => k_is)
    (case su_NoShare_NoText => k_is)
    (case su_NoShare_TooHeavy => k_is)
    (case su_NoShare_Unlike => k_is)
    (case iC_Endless => k_is)
    (case tC_Endless => k_is)
    (case eC_Endless => k_is)
    (case hC_Endless => k_is)
    (case iC_Lacking => k_is)
    (case tC_Lacking => k_is)
    (case eC_Lacking => k_is)
    (case hC_Lacking => k_is)
    (case iC_MasterError => k_is)
    (case tC_MasterError => k_is)
    (case eC_MasterError => k_is)
    (case hC_MasterError => k_is)
    (case iC_NoText => k_is)
    (case tC_NoText => k_is)
    (case eC_NoText => k_is)
    (case hC_NoText => k_is)
    (case iC_TooHeavy => k_is)
    (case tC_TooHeavy => k_is)
    (case eC_TooHeavy => k_is)
    (case hC_TooHeavy => k_is)
    (case iC_Unlike => k_is)
    (case tC_Unlike => k_is)
    (case eC_Unlike => k_is)
    (case hC_Unlike => k_is)
    (case z_ArithmeticError => k_is)
    (case z_Exception => k_is)
    (case z_ValueError => k_is)
    (case z_ZeroDivisionError => k_is)
    (case z_abs => k_is)
    (case z_bool => k_is)
    (case z_int => k_is)
    (case z_isinstance => k_is)
    (case z_len => k_is)
    (case z_max => k_is)
    (case z_min => k_is)
    (case z_range => k_is)
    (case z_repr => k_is)
    (case z_sorted => k_is)
    (case z_sum => k_is)
    (case z_tuple => k_is)
