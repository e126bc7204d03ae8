import PyProof.Rows.All
import Wide.All
import OpenK.AllK
import Wide.FinOn
import HandS.ForMost
import HandS.Evl
import HandS.Wide
import HandS.TupAny
import HandS.EndBits
import HandS.Style
import HandS.TryOnly
import HandS.WordsExc
import HandS.WrittenGet
import HandS.IsInst
import HandS.TupMul
import PyProof.NeKinds
import HandS.SortKw
import KE.DataMinMax
import HandS.Zip
import KE.GoesEnumKw
import PyProof.P3In
import HandS.Flow
import HandS.Small
import HandS.WideBits
import HandS.Zip0
import KE.GoesNew
import HandS.StrMore
import PyProof.Rows.SortShellAny
import HandS.SetFor
import HandS.Strs
import KE.KDictCopyH
import PyProof.TupleOfStr
import PyProof.Rows.IntBool
import PyProof.Rows.EqBoolInt
import PyProof.SeqRoads2
import PyProof.SumWalkG
import HandS.CallLocal
import HandS.Conv
import HandS.List
import HandS.Set
import HandS.ExcInit
import HandS.ExcField
import HandS.ExcOwn
import KE.KExcIs
import HandS.ExcIs
import HandS.Iter
import HandS.Defaults
import HandS.More
import HandS.SortRule
import KE.SortData
import KE.LtSeq
import HandS.Text
import PyProof.Rows.ReprOcc
import KE.DataMinKey
import KE.KDictWalk
import HandS.MakeKw
import PyProof.ListRange
import OpenK.KOps
import KE.KIntText
import HandS.Replace
import HandS.Flt
import KE.KCallOwn
import KE.KFmtOwn
import HandS.OwnEq
import HandS.FStr
import PyProof.InstNe
import HandS.IntHex
import KE.KEqNest
import PyProof.EqKinds
import PyProof.FactsAll.dict
import KE.KExcInit
import HandS.TryMany
import HandS.HotCalls
import HandS.ClsMeth
import HandS.CallSlots
import HandS.RaiseFrom
import HandS.ExcInitHot
import HandS.SuiteRaise
import HandS.ExcBuiltin
import PySem.Challenge.RW_littlemasters_k28_most_a_day_told
set_option Elab.async false
set_option linter.all false
set_option pp.maxSteps 600
set_option pp.deepTerms false
set_option maxRecDepth 100000
set_option maxHeartbeats 8000000
namespace PySem.W
open PySem PySem.W PyProof.Rows
set_option maxRecDepth 100000 in
set_option maxHeartbeats 0 in
open_top headPf for PySem.Challenge.rw_littlemasters_k28_most_a_day_told
end PySem.W
namespace DL
open PySem PySem.Spec PyProof.Rows L2

inductive D where
  | non | bl (b : Bool) | int (i : Int) | str (x : Str) | ty (n : String) | ref (a : Addr)
  | scr (ns : List Int)
  | tup (ds : List D) | lst (ds : List D) | dct (kvs : List (Key × D)) | ins (C : Addr) (fs : List (Str × D)) | exn (a dd : Addr) (fs : List (Str × D)) | exv (C : Addr) (fs : List (Str × D))
def exk (a C : Addr) (d : Option Addr) : HO := .ext fun h => ∃ (oe : Obj) (vs : Array Value), h.get? a = some oe ∧ oe.cls = .ref C ∧ oe.dict = d ∧ oe.data = .fields vs

def TupAt (K : PySem.W.Frag) (H : Hp) (R : Addr → Prop) (a : Addr) (xs : List V) : Prop := H a = some (.tup xs) ∧ ¬ R a
def LstAt (K : PySem.W.Frag) (H : Hp) (R : Addr → Prop) (a : Addr) (xs : List V) : Prop := (Rd H a (.lst xs) ∧ ¬ R a) ∨ SqL K (fun _ => none) a xs

mutual
def Rep (K : PySem.W.Frag) (H : Hp) (R : Addr → Prop) : D → V → Prop
  | .non, v => v = .non
  | .bl b, v => v = .bl b
  | .int i, v => v = .int i
  | .str x, v => v = .str x
  | .ty n, v => v = .ty n
  | .ref a, v => v = .ref a
  | .scr ns, v => ∃ a, v = .ref a ∧ LstAt K H R a (ns.map V.int)
  | .tup ds, v => ∃ a xs, v = .ref a ∧ TupAt K H R a xs ∧ RepL K H R ds xs
  | .lst ds, v => ∃ a xs, v = .ref a ∧ (H a = some (.lst xs) ∧ ¬ R a) ∧ RepL K H R ds xs
  | .dct kvs, v => ∃ a ws, v = .ref a ∧ (H a = some (.dK ws) ∧ ¬ R a) ∧ RepK K H R kvs ws
  | .ins C fs, v => ∃ a dx ws, v = .ref a ∧ (H a = some (.ins C dx ws) ∧ ¬ R a) ∧ RepF K H R fs ws
  | .exn a dd fs, v => v = .ref a ∧ ∃ ws, (H dd = some (.xd ws) ∧ ¬ R dd) ∧ RepF K H R fs ws
  | .exv C fs, v => ∃ a dd ws, v = .ref a ∧ (H a = some (exk a C (some dd)) ∧ ¬ R a) ∧ (H dd = some (.xd ws) ∧ ¬ R dd) ∧ RepF K H R fs ws
def RepL (K : PySem.W.Frag) (H : Hp) (R : Addr → Prop) : List D → List V → Prop
  | [], xs => xs = []
  | d :: ds, xs => ∃ y ys, xs = y :: ys ∧ Rep K H R d y ∧ RepL K H R ds ys
def RepK (K : PySem.W.Frag) (H : Hp) (R : Addr → Prop) : List (Key × D) → List (Key × V) → Prop
  | [], xs => xs = []
  | (k, d) :: ds, xs => ∃ y ys, xs = (k, y) :: ys ∧ Rep K H R d y ∧ RepK K H R ds ys
def RepF (K : PySem.W.Frag) (H : Hp) (R : Addr → Prop) : List (Str × D) → List (Str × V) → Prop
  | [], xs => xs = []
  | (k, d) :: ds, xs => ∃ y ys, xs = (k, y) :: ys ∧ Rep K H R d y ∧ RepF K H R ds ys
end

structure Grow (H H' : Hp) (R R' : Addr → Prop) : Prop where
  keep : ∀ a o, H a = some o → ¬ R a → H' a = some o
  reg : ∀ a o, H a = some o → R' a → R a
theorem Grow.refl (H : Hp) (R : Addr → Prop) : Grow H H R R := ⟨fun _ _ h _ => h, fun _ _ _ h => h⟩
theorem Grow.trans {H H1 H2 : Hp} {R R1 R2 : Addr → Prop} (a : Grow H H1 R R1) (b : Grow H1 H2 R1 R2) : Grow H H2 R R2 := by
  have k : ∀ c o, H c = some o → ¬ R c → H1 c = some o ∧ ¬ R1 c := fun c o h n => ⟨a.keep c o h n, fun r => n (a.reg c o h r)⟩
  refine ⟨fun c o h n => b.keep c o (k c o h n).1 (k c o h n).2, fun c o h r => ?_⟩
  by_cases n : R c
  · exact n
  · obtain ⟨h1, n1⟩ := k c o h n
    exact absurd (b.reg c o h1 r) n1
theorem TupAt.grow {K : PySem.W.Frag} {H H' : Hp} {R R' : Addr → Prop} {a : Addr} {xs : List V} (g : Grow H H' R R') (h : TupAt K H R a xs) : TupAt K H' R' a xs :=
  ⟨g.keep _ _ h.1 h.2, fun r => h.2 (g.reg _ _ h.1 r)⟩
theorem LstAt.grow {K : PySem.W.Frag} {H H' : Hp} {R R' : Addr → Prop} {a : Addr} {xs : List V} (g : Grow H H' R R') (h : LstAt K H R a xs) : LstAt K H' R' a xs := by
  rcases h with ⟨h | ⟨o, h⟩, n⟩ | h
  · exact .inl ⟨.inl (g.keep _ _ h n), fun r => n (g.reg _ _ h r)⟩
  · exact .inl ⟨.inr ⟨o, g.keep _ _ h n⟩, fun r => n (g.reg _ _ h r)⟩
  · exact .inr h
theorem none_rd {a : Addr} {u : HO} (h : Rd (fun _ => none) a u) : False := by
  rcases h with h | ⟨o, h⟩ <;> cases h
theorem TupAt.sq {K : PySem.W.Frag} {H : Hp} {R : Addr → Prop} {a : Addr} {xs : List V} (h : TupAt K H R a xs) : SqT K H a xs := .inl (.inl h.1)
theorem LstAt.sq {K : PySem.W.Frag} {H : Hp} {R : Addr → Prop} {a : Addr} {xs : List V} (h : LstAt K H R a xs) : SqL K H a xs := by
  rcases h with ⟨h, _⟩ | h | h
  · exact .inl h
  · exact (none_rd h).elim
  · exact .inr h

mutual
theorem Rep.grow {K : PySem.W.Frag} {H H' : Hp} {R R' : Addr → Prop} (g : Grow H H' R R') : ∀ {d : D} {v : V}, Rep K H R d v → Rep K H' R' d v
  | .non, _, h => h
  | .bl _, _, h => h
  | .int _, _, h => h
  | .str _, _, h => h
  | .ty _, _, h => h
  | .ref _, _, h => h
  | .scr _, _, ⟨a, e, h⟩ => ⟨a, e, h.grow g⟩
  | .tup _, _, ⟨a, xs, e, h, r⟩ => ⟨a, xs, e, h.grow g, RepL.grow g r⟩
  | .lst _, _, ⟨a, xs, e, ⟨h, n⟩, r⟩ => ⟨a, xs, e, ⟨g.keep _ _ h n, fun z => n (g.reg _ _ h z)⟩, RepL.grow g r⟩
  | .dct _, _, ⟨a, xs, e, ⟨h, n⟩, r⟩ => ⟨a, xs, e, ⟨g.keep _ _ h n, fun z => n (g.reg _ _ h z)⟩, RepK.grow g r⟩
  | .ins _ _, _, ⟨a, dx, xs, e, ⟨h, n⟩, r⟩ => ⟨a, dx, xs, e, ⟨g.keep _ _ h n, fun z => n (g.reg _ _ h z)⟩, RepF.grow g r⟩
  | .exn _ _ _, _, ⟨e, xs, ⟨h, n⟩, r⟩ => ⟨e, xs, ⟨g.keep _ _ h n, fun z => n (g.reg _ _ h z)⟩, RepF.grow g r⟩
  | .exv _ _, _, ⟨a, dd, xs, e, ⟨h, n⟩, ⟨h2, n2⟩, r⟩ => ⟨a, dd, xs, e, ⟨g.keep _ _ h n, fun z => n (g.reg _ _ h z)⟩, ⟨g.keep _ _ h2 n2, fun z => n2 (g.reg _ _ h2 z)⟩, RepF.grow g r⟩
theorem RepL.grow {K : PySem.W.Frag} {H H' : Hp} {R R' : Addr → Prop} (g : Grow H H' R R') : ∀ {ds : List D} {vs : List V}, RepL K H R ds vs → RepL K H' R' ds vs
  | [], _, h => h
  | _ :: _, _, ⟨y, ys, e, h, r⟩ => ⟨y, ys, e, Rep.grow g h, RepL.grow g r⟩
theorem RepK.grow {K : PySem.W.Frag} {H H' : Hp} {R R' : Addr → Prop} (g : Grow H H' R R') : ∀ {ds : List (Key × D)} {vs : List (Key × V)}, RepK K H R ds vs → RepK K H' R' ds vs
  | [], _, h => h
  | (_, _) :: _, _, ⟨y, ys, e, h, r⟩ => ⟨y, ys, e, Rep.grow g h, RepK.grow g r⟩
theorem RepF.grow {K : PySem.W.Frag} {H H' : Hp} {R R' : Addr → Prop} (g : Grow H H' R R') : ∀ {ds : List (Str × D)} {vs : List (Str × V)}, RepF K H R ds vs → RepF K H' R' ds vs
  | [], _, h => h
  | (_, _) :: _, _, ⟨y, ys, e, h, r⟩ => ⟨y, ys, e, Rep.grow g h, RepF.grow g r⟩
end

theorem RepL.length {K : PySem.W.Frag} {H : Hp} {R : Addr → Prop} : ∀ {ds : List D} {vs : List V}, RepL K H R ds vs → vs.length = ds.length
  | [], _, h => by
    cases h
    rfl
  | _ :: ds, _, ⟨y, ys, e, _, r⟩ => by
    subst e
    show ys.length + 1 = ds.length + 1
    rw [RepL.length r]
theorem RepL.get {K : PySem.W.Frag} {H : Hp} {R : Addr → Prop} : ∀ {ds : List D} {vs : List V} {i : Nat} {d : D}, RepL K H R ds vs → ds[i]? = some d → ∃ v, vs[i]? = some v ∧ Rep K H R d v
  | [], _, _, _, _, h => by simp at h
  | _ :: _, _, 0, _, ⟨y, ys, e, h, r⟩, q => by
    subst e
    simp at q
    subst q
    exact ⟨y, rfl, h⟩
  | _ :: _, _, i + 1, _, ⟨y, ys, e, h, r⟩, q => by
    subst e
    exact RepL.get (i := i) r (by simpa using q)
theorem RepL.app {K : PySem.W.Frag} {H : Hp} {R : Addr → Prop} : ∀ {ds es : List D} {vs ws : List V}, RepL K H R ds vs → RepL K H R es ws → RepL K H R (ds ++ es) (vs ++ ws)
  | [], _, _, _, h, q => by
    cases h
    exact q
  | _ :: _, _, _, _, ⟨y, ys, e, h, r⟩, q => by
    subst e
    exact ⟨y, _, rfl, h, RepL.app r q⟩
theorem RepL.one {K : PySem.W.Frag} {H : Hp} {R : Addr → Prop} {d : D} {v : V} (h : Rep K H R d v) : RepL K H R [d] [v] := ⟨v, [], rfl, h, rfl⟩
theorem RepL.take {K : PySem.W.Frag} {H : Hp} {R : Addr → Prop} : ∀ {ds : List D} {vs : List V} (n : Nat), RepL K H R ds vs → RepL K H R (ds.take n) (vs.take n)
  | _, _, 0, _ => rfl
  | [], _, _ + 1, h => by
    cases h
    rfl
  | _ :: _, _, n + 1, ⟨y, ys, e, h, r⟩ => by
    subst e
    exact ⟨y, _, rfl, h, RepL.take n r⟩
theorem RepL.drop {K : PySem.W.Frag} {H : Hp} {R : Addr → Prop} : ∀ {ds : List D} {vs : List V} (n : Nat), RepL K H R ds vs → RepL K H R (ds.drop n) (vs.drop n)
  | _, _, 0, h => h
  | [], _, _ + 1, h => by
    cases h
    rfl
  | _ :: _, _, n + 1, ⟨y, ys, e, h, r⟩ => by
    subst e
    exact RepL.drop n r
theorem RepL.ints {K : PySem.W.Frag} {H : Hp} {R : Addr → Prop} : ∀ {ns : List Int}, RepL K H R (ns.map D.int) (ns.map V.int)
  | [] => rfl
  | n :: ns => ⟨.int n, ns.map V.int, rfl, rfl, RepL.ints⟩
theorem RepL.intsV {K : PySem.W.Frag} {H : Hp} {R : Addr → Prop} : ∀ {ns : List Int} {vs : List V}, RepL K H R (ns.map D.int) vs → vs = ns.map V.int
  | [], _, h => h
  | n :: ns, _, ⟨y, ys, e, h, r⟩ => by
    subst e
    cases h
    rw [RepL.intsV r]
    rfl
theorem RepL.strsV {K : PySem.W.Frag} {H : Hp} {R : Addr → Prop} : ∀ {ns : List Str} {vs : List V}, RepL K H R (ns.map D.str) vs → vs = ns.map V.str
  | [], _, h => h
  | n :: ns, _, ⟨y, ys, e, h, r⟩ => by
    subst e
    cases h
    rw [RepL.strsV r]
    rfl
/-! ### what a slot may hold: data, a handle of the caller's store, of the own store -/
inductive S where
  | d (x : D) | g (k : Nat) | l (k : Nat)
inductive M where
  | pl (ds : List D) | hl (xs : List S) | dc (kvs : List (Key × D)) | ob (C : Addr) (fs : List (Str × D)) | dh (kvs : List (Key × S)) | dt (kvs : List (List Key × Int)) | og (C : Addr) (fs : List (Str × S)) | dq (kvs : List (List Key × S)) | dz (od : Obj) (kvs : List (List Key × Int))
def M.dat : M → Option D
  | .pl ds => some (.lst ds)
  | .hl _ => none
  | .dc kvs => some (.dct kvs)
  | .ob C fs => some (.ins C fs)
  | .dh _ => none
  | .dt _ => none
  | .og _ _ => none
  | .dq _ => none
  | .dz _ _ => none
structure W where
  R : Addr → Prop
  gs : List Addr
  H0 : Hp
def Rg (w : W) (ls : List Addr) : Addr → Prop := fun a => w.R a ∨ a ∈ ls

section
variable {K : PySem.W.Frag}
def RS (K : PySem.W.Frag) (H : Hp) (R : Addr → Prop) (gs ls : List Addr) : S → V → Prop
  | .d x, v => Rep K H R x v
  | .g k, v => ∃ a, gs[k]? = some a ∧ v = .ref a
  | .l k, v => ∃ a, ls[k]? = some a ∧ v = .ref a
def RSK (K : PySem.W.Frag) (H : Hp) (R : Addr → Prop) (gs ls : List Addr) : Key × S → Key × V → Prop := fun p q => p.1 = q.1 ∧ RS K H R gs ls p.2 q.2
def RSN {α : Type} (K : PySem.W.Frag) (H : Hp) (R : Addr → Prop) (gs ls : List Addr) : α × S → α × V → Prop := fun p q => p.1 = q.1 ∧ RS K H R gs ls p.2 q.2
def MOk (K : PySem.W.Frag) (H : Hp) (R : Addr → Prop) (gs ls : List Addr) (a : Addr) : M → Prop
  | .pl ds => ∃ vs, H a = some (.lst vs) ∧ RepL K H R ds vs
  | .hl xs => ∃ vs, H a = some (.lst vs) ∧ Paired (RS K H R gs ls) xs vs
  | .dc kvs => ∃ vs, H a = some (.dK vs) ∧ RepK K H R kvs vs
  | .ob C fs => ∃ dx vs, H a = some (.ins C dx vs) ∧ RepF K H R fs vs
  | .dh kvs => ∃ vs, H a = some (.dK vs) ∧ Paired (RSK K H R gs ls) kvs vs
  | .dt kvs => H a = some (.dT (kvs.map fun p => (p.1, V.int p.2)))
  | .dz od kvs => H a = some (.frz od (.dT (kvs.map fun p => (p.1, V.int p.2))))
  | .og C fs => ∃ dx vs, H a = some (.ins C dx vs) ∧ Paired (RSN K H R gs ls) fs vs
  | .dq kvs => ∃ vs, H a = some (.dT vs) ∧ Paired (RSN K H R gs ls) kvs vs

def NoT (o : HO) : Prop := ∀ xs, o ≠ .tup xs
abbrev Sl := List (Option S)
def SlOk (K : PySem.W.Frag) (H : Hp) (R : Addr → Prop) (gs ls : List Addr) (σ : L2.St) (Δ : Sl) : Prop :=
  σ.length = Δ.length ∧ ∀ (i : Nat) (s : S), Δ[i]? = some (some s) → ∃ v, σ[i]? = some (some v) ∧ RS K H R gs ls s v
structure Ctx (K : PySem.W.Frag) (w : W) (ls : List Addr) (σ : L2.St) (H : Hp) (Δ : Sl) (G L : List M) : Prop where
  reg : ∀ a ∈ w.gs, w.R a
  rin : ∀ a, w.R a → ∃ o, H a = some o ∧ NoT o
  nd : (w.gs ++ ls).Nodup
  fr : ∀ a ∈ ls, w.H0 a = none
  h0 : ∀ a o, w.H0 a = some o → a ∉ w.gs → H a = some o
  sl : SlOk K H (Rg w ls) w.gs ls σ Δ
  gl : Paired (MOk K H (Rg w ls) w.gs []) w.gs G
  lo : Paired (MOk K H (Rg w ls) w.gs ls) ls L
  ld : ∀ a ∈ ls, ¬ w.R a
def Ext (w : W) (ls : List Addr) (H H' : Hp) : Prop := ∀ a o, H a = some o → a ∉ w.gs → a ∉ ls → H' a = some o
theorem Ext.refl {w : W} {ls : List Addr} {H : Hp} : Ext w ls H H := fun _ _ h _ _ => h
theorem Ext.trans {w : W} {ls : List Addr} {H H1 H2 : Hp} (a : Ext w ls H H1) (b : Ext w ls H1 H2) : Ext w ls H H2 := fun c o h n m => b c o (a c o h n m) n m
theorem Ext.grow {w : W} {ls : List Addr} {H H' : Hp} (e : Ext w ls H H') (hr : ∀ a ∈ w.gs, w.R a) : Grow H H' (Rg w ls) (Rg w ls) :=
  ⟨fun a o h n => e a o h (fun z => n (.inl (hr a z))) fun z => n (.inr z), fun _ _ _ h => h⟩
def Pre (ls ls' : List Addr) : Prop := ∀ (k : Nat) a, ls[k]? = some a → ls'[k]? = some a
theorem Pre.refl (ls : List Addr) : Pre ls ls := fun _ _ h => h
theorem Pre.nil (ls : List Addr) : Pre [] ls := fun _ _ h => by simp at h
theorem Pre.app (ls qs : List Addr) : Pre ls (ls ++ qs) := fun k a h => by
  rw [List.getElem?_append_left (List.getElem?_eq_some_iff.mp h).1]
  exact h
theorem RS.grow {H H' : Hp} {R R' : Addr → Prop} {gs gs' ls ls' : List Addr} (g : Grow H H' R R') (pg : Pre gs gs') (pl : Pre ls ls') : ∀ {s : S} {v : V}, RS K H R gs ls s v → RS K H' R' gs' ls' s v
  | .d _, _, h => Rep.grow g h
  | .g _, _, ⟨a, h, e⟩ => ⟨a, pg _ _ h, e⟩
  | .l _, _, ⟨a, h, e⟩ => ⟨a, pl _ _ h, e⟩
theorem paired_map {α β : Type} {F F' : α → β → Prop} : ∀ {as : List α} {bs : List β}, Paired F as bs → (∀ a b, a ∈ as → F a b → F' a b) → Paired F' as bs
  | _, _, .nil, _ => .nil
  | _, _, .cons h t, f => .cons (f _ _ List.mem_cons_self h) (paired_map t fun a b m q => f a b (List.mem_cons_of_mem _ m) q)
theorem MOk.grow {H H' : Hp} {R R' : Addr → Prop} {gs gs' ls ls' : List Addr} (g : Grow H H' R R') (pg : Pre gs gs') (pl : Pre ls ls') {a : Addr} (k : ∀ o, H a = some o → H' a = some o) : ∀ {m : M}, MOk K H R gs ls a m → MOk K H' R' gs' ls' a m
  | .pl _, ⟨vs, h, r⟩ => ⟨vs, k _ h, RepL.grow g r⟩
  | .hl _, ⟨vs, h, r⟩ => ⟨vs, k _ h, paired_map r fun _ _ _ q => RS.grow g pg pl q⟩
  | .dc _, ⟨vs, h, r⟩ => ⟨vs, k _ h, RepK.grow g r⟩
  | .ob _ _, ⟨dx, vs, h, r⟩ => ⟨dx, vs, k _ h, RepF.grow g r⟩
  | .dh _, ⟨vs, h, r⟩ => ⟨vs, k _ h, paired_map r fun _ _ _ q => ⟨q.1, RS.grow g pg pl q.2⟩⟩
  | .dt _, h => k _ h
  | .dz _ _, h => k _ h
  | .og _ _, ⟨dx, vs, h, r⟩ => ⟨dx, vs, k _ h, paired_map r fun _ _ _ q => ⟨q.1, RS.grow g pg pl q.2⟩⟩
  | .dq _, ⟨vs, h, r⟩ => ⟨vs, k _ h, paired_map r fun _ _ _ q => ⟨q.1, RS.grow g pg pl q.2⟩⟩
theorem SlOk.grow {H H' : Hp} {R R' : Addr → Prop} {gs gs' ls ls' : List Addr} (g : Grow H H' R R') (pg : Pre gs gs') (pl : Pre ls ls') {σ : L2.St} {Δ : Sl} (h : SlOk K H R gs ls σ Δ) : SlOk K H' R' gs' ls' σ Δ :=
  ⟨h.1, fun i s e => let ⟨v, a, b⟩ := h.2 i s e; ⟨v, a, RS.grow g pg pl b⟩⟩
theorem MOk.some {H : Hp} {R : Addr → Prop} {gs ls : List Addr} {a : Addr} : ∀ {m : M}, MOk K H R gs ls a m → ∃ o, H a = some o ∧ NoT o
  | .pl _, ⟨_, h, _⟩ => ⟨_, h, fun _ z => nomatch z⟩
  | .hl _, ⟨_, h, _⟩ => ⟨_, h, fun _ z => nomatch z⟩
  | .dc _, ⟨_, h, _⟩ => ⟨_, h, fun _ z => nomatch z⟩
  | .ob _ _, ⟨_, _, h, _⟩ => ⟨_, h, fun _ z => nomatch z⟩
  | .dh _, ⟨_, h, _⟩ => ⟨_, h, fun _ z => nomatch z⟩
  | .dt _, h => ⟨_, h, fun _ z => nomatch z⟩
  | .dz _ _, h => ⟨_, h, fun _ z => nomatch z⟩
  | .og _ _, ⟨_, _, h, _⟩ => ⟨_, h, fun _ z => nomatch z⟩
  | .dq _, ⟨_, h, _⟩ => ⟨_, h, fun _ z => nomatch z⟩
theorem paired_l {α β : Type} {F : α → β → Prop} : ∀ {as : List α} {bs : List β} {a : α}, Paired F as bs → a ∈ as → ∃ b, F a b
  | _, _, _, .cons h t, m => by
    rcases List.mem_cons.mp m with rfl | m
    · exact ⟨_, h⟩
    · exact paired_l t m
theorem paired_get {α β : Type} {F : α → β → Prop} : ∀ {as : List α} {bs : List β} {i : Nat} {b : β}, Paired F as bs → bs[i]? = some b → ∃ a, as[i]? = some a ∧ F a b
  | _, _, 0, _, .cons h t, e => by
    simp at e
    subst e
    exact ⟨_, rfl, h⟩
  | _, _, i + 1, _, .cons h t, e => by
    obtain ⟨a, q, r⟩ := paired_get (i := i) t (by simpa using e)
    exact ⟨a, by simpa using q, r⟩
theorem paired_app {α β : Type} {F : α → β → Prop} : ∀ {as cs : List α} {bs ds : List β}, Paired F as bs → Paired F cs ds → Paired F (as ++ cs) (bs ++ ds)
  | _, _, _, _, .nil, q => q
  | _, _, _, _, .cons h t, q => .cons h (paired_app t q)
theorem paired_len {α β : Type} {F : α → β → Prop} : ∀ {as : List α} {bs : List β}, Paired F as bs → as.length = bs.length
  | _, _, .nil => rfl
  | _, _, .cons _ t => congrArg (· + 1) (paired_len t)
theorem paired_set {α β : Type} {F F' : α → β → Prop} : ∀ {as : List α} {bs : List β} {i : Nat} {a : α} {b : β}, Paired F as bs → as.Nodup → as[i]? = some a → F' a b → (∀ c e, c ∈ as → c ≠ a → F c e → F' c e) → Paired F' as (bs.set i b)
  | _, _, _, _, _, .nil, _, h, _, _ => by simp at h
  | _, _, 0, _, _, .cons (a := x) h t, nd, e, q, k => by
    simp at e
    subst e
    have n := (List.nodup_cons.mp nd).1
    exact .cons q (paired_map t fun c e m f => k c e (List.mem_cons_of_mem _ m) (fun z => n (z ▸ m)) f)
  | _, _, i + 1, _, _, .cons (a := x) h t, nd, e, q, k => by
    have n := (List.nodup_cons.mp nd).1
    have e' := (by simpa using e : _[i]? = some _)
    have m := List.mem_of_getElem? e'
    exact .cons (k _ _ List.mem_cons_self (fun z => n (z ▸ m)) h) (paired_set t (List.nodup_cons.mp nd).2 e' q fun c e m f => k c e (List.mem_cons_of_mem _ m) f)

section
variable {w : W} {ls : List Addr} {σ : L2.St} {H : Hp} {Δ : Sl} {G L : List M}
theorem Ctx.lin (c : Ctx K w ls σ H Δ G L) {a : Addr} (h : a ∈ ls) : ∃ o, H a = some o ∧ NoT o := by
  obtain ⟨m, q⟩ := paired_l c.lo h
  exact q.some
theorem Ctx.gin (c : Ctx K w ls σ H Δ G L) {a : Addr} (h : a ∈ w.gs) : ∃ o, H a = some o ∧ NoT o := c.rin a (c.reg a h)
theorem Ctx.free (c : Ctx K w ls σ H Δ G L) {p : Addr} (h : H p = none) : ¬ Rg w ls p := by
  rintro (r | r)
  · obtain ⟨o, e, _⟩ := c.rin p r
    rw [h] at e
    cases e
  · obtain ⟨o, e, _⟩ := c.lin r
    rw [h] at e
    cases e
theorem Ctx.free0 (c : Ctx K w ls σ H Δ G L) {p : Addr} (h : H p = none) : w.H0 p = none := by
  cases e : w.H0 p with
  | none => rfl
  | some o =>
    have n : p ∉ w.gs := fun z => c.free h (.inl (c.reg p z))
    rw [c.h0 p o e n] at h
    cases h
theorem grow_new {p : Addr} {o : HO} {R : Addr → Prop} (h : H p = none) : Grow H (upd H p o) R R :=
  ⟨fun a u e _ => by
    rw [upd_ne (ne_of_none e h)]
    exact e, fun _ _ _ r => r⟩
theorem keep_new {p : Addr} {o : HO} (h : H p = none) : ∀ a u, H a = some u → upd H p o a = some u := fun a u e => by
  rw [upd_ne (ne_of_none e h)]
  exact e
theorem Ctx.new (c : Ctx K w ls σ H Δ G L) {p : Addr} {o : HO} (h : H p = none) : Ctx K w ls σ (upd H p o) Δ G L := by
  have g : Grow H (upd H p o) (Rg w ls) (Rg w ls) := grow_new h
  have k := keep_new (o := o) h
  exact ⟨c.reg, fun a r => let ⟨u, e, n⟩ := c.rin a r; ⟨u, k a u e, n⟩, c.nd, c.fr, fun a u e n => k a u (c.h0 a u e n), c.sl.grow g (Pre.refl _) (Pre.refl _),
    paired_map c.gl fun a m _ q => q.grow g (Pre.refl _) (Pre.refl _) (k a), paired_map c.lo fun a m _ q => q.grow g (Pre.refl _) (Pre.refl _) (k a), c.ld⟩
theorem Ext.new {p : Addr} {o : HO} (h : H p = none) : Ext w ls H (upd H p o) := fun a u e _ _ => by
  rw [upd_ne (ne_of_none e h)]
  exact e
theorem grow_reg {p : Addr} (h : H p = none) : Grow H H (Rg w ls) (Rg w (ls ++ [p])) :=
  ⟨fun _ _ e _ => e, fun a o e r => by
    rcases r with r | r
    · exact .inl r
    · rcases List.mem_append.mp r with r | r
      · exact .inr r
      · rw [List.mem_singleton] at r
        subst r
        rw [h] at e
        cases e⟩
theorem grow_sub {ls' : List Addr} (h : ∀ a ∈ ls', a ∈ ls) : Grow H H (Rg w ls) (Rg w ls') :=
  ⟨fun _ _ e _ => e, fun a o e r => by
    rcases r with r | r
    · exact .inl r
    · exact .inr (h a r)⟩

/-! ### an object just made: its own, or data -/
structure NewAt (K : PySem.W.Frag) (w : W) (ls : List Addr) (σ : L2.St) (H : Hp) (Δ : Sl) (G L : List M) (p : Addr) (m : M) : Prop where
  own : Ctx K w (ls ++ [p]) σ H Δ G (L ++ [m])
  c : Ctx K w ls σ H Δ G L
  dat : ∀ x, m.dat = some x → Rep K H (Rg w ls) x (.ref p)
theorem newAt_of (c : Ctx K w ls σ H Δ G L) {p : Addr} {o : HO} {m : M} (h : H p = none) (hm : MOk K (upd H p o) (Rg w (ls ++ [p])) w.gs ls p m) (hd : ∀ x, m.dat = some x → Rep K (upd H p o) (Rg w ls) x (.ref p)) :
    NewAt K w ls σ (upd H p o) Δ G L p m := by
  have g : Grow H (upd H p o) (Rg w ls) (Rg w (ls ++ [p])) := (grow_reg h).trans (grow_new h)
  have k := keep_new (o := o) h
  have nR := c.free h
  refine ⟨⟨c.reg, fun a r => let ⟨u, e, n⟩ := c.rin a r; ⟨u, k a u e, n⟩, ?_, ?_, fun a u e n => k a u (c.h0 a u e n), c.sl.grow g (Pre.refl _) (Pre.app _ _),
    paired_map c.gl fun a m _ q => q.grow g (Pre.refl _) (Pre.nil _) (k a), paired_app (paired_map c.lo fun a m _ q => q.grow g (Pre.refl _) (Pre.app _ _) (k a)) (.cons ?_ .nil), fun a ha r => (List.mem_append.mp ha).elim (fun z => c.ld a z r) fun z => nR (.inl ((List.mem_singleton.mp z) ▸ r))⟩, c.new h, hd⟩
  · rw [← List.append_assoc]
    refine List.nodup_append.mpr ⟨c.nd, by simp, fun a ha b hb => ?_⟩
    rw [List.mem_singleton] at hb
    subst hb
    rintro rfl
    rcases List.mem_append.mp ha with z | z
    · exact nR (.inl (c.reg _ z))
    · exact nR (.inr z)
  · intro a ha
    rcases List.mem_append.mp ha with z | z
    · exact c.fr a z
    · rw [List.mem_singleton] at z
      subst z
      exact c.free0 h
  · exact hm.grow (Grow.refl _ _) (Pre.refl _) (Pre.app _ _) fun _ z => z
theorem newAt_pl (c : Ctx K w ls σ H Δ G L) {p : Addr} {ds : List D} {vs : List V} (h : H p = none) (r : RepL K H (Rg w ls) ds vs) : NewAt K w ls σ (upd H p (.lst vs)) Δ G L p (.pl ds) :=
  newAt_of c h ⟨vs, upd_same, r.grow ((grow_reg h).trans (grow_new h))⟩ fun x e => by
    cases e
    exact ⟨p, vs, rfl, ⟨upd_same, c.free h⟩, r.grow (grow_new h)⟩
theorem rep_tup (c : Ctx K w ls σ H Δ G L) {p : Addr} {ds : List D} {vs : List V} (h : H p = none) (r : RepL K H (Rg w ls) ds vs) : Rep K (upd H p (.tup vs)) (Rg w ls) (.tup ds) (.ref p) :=
  ⟨p, vs, rfl, ⟨upd_same, c.free h⟩, r.grow (grow_new h)⟩
end
end
end DL

namespace DL
open PySem PySem.Spec PyProof.Rows L2
section
variable {K : PySem.W.Frag}
section
variable {w : W} {ls : List Addr} {σ : L2.St} {H : Hp} {Δ : Sl} {G L : List M}
theorem grow_upd {R : Addr → Prop} {a : Addr} {o : HO} (h : R a) : Grow H (upd H a o) R R :=
  ⟨fun b u e n => by
    rw [upd_ne (show b ≠ a from fun z => n (by rw [z]; exact h))]
    exact e, fun _ _ _ r => r⟩
theorem upd_other {a : Addr} {o : HO} {b : Addr} (n : b ≠ a) : ∀ u, H b = some u → upd H a o b = some u := fun u e => by
  rw [upd_ne n]
  exact e
theorem getElem_mem' {α : Type} {l : List α} {i : Nat} {a : α} (h : l[i]? = some a) : a ∈ l := List.mem_of_getElem? h
theorem Ctx.setL (c : Ctx K w ls σ H Δ G L) {k : Nat} {a : Addr} {o : HO} {m : M} (h : ls[k]? = some a) (hm : MOk K (upd H a o) (Rg w ls) w.gs ls a m) : Ctx K w ls σ (upd H a o) Δ G (L.set k m) := by
  have ha : a ∈ ls := getElem_mem' h
  have g : Grow H (upd H a o) (Rg w ls) (Rg w ls) := grow_upd (.inr ha)
  have ng : ∀ b ∈ w.gs, b ≠ a := fun b hb z => (List.nodup_append.mp c.nd).2.2 b hb a ha z
  refine ⟨c.reg, fun b r => ?_, c.nd, c.fr, fun b u e n => ?_, c.sl.grow g (Pre.refl _) (Pre.refl _), paired_map c.gl fun b m hb q => q.grow g (Pre.refl _) (Pre.refl _) (upd_other (ng b hb)), ?_, c.ld⟩
  · by_cases z : b = a
    · subst z
      exact hm.some
    · obtain ⟨u, e, n⟩ := c.rin b r
      exact ⟨u, by rw [upd_ne z]; exact e, n⟩
  · have z : b ≠ a := fun z => by
      rw [z, c.fr a ha] at e
      cases e
    rw [upd_ne z]
    exact c.h0 b u e n
  · exact paired_set c.lo (List.nodup_append.mp c.nd).2.1 h hm fun b e hb n q => q.grow g (Pre.refl _) (Pre.refl _) (upd_other n)
theorem Ctx.setG (c : Ctx K w ls σ H Δ G L) {k : Nat} {a : Addr} {o : HO} {m : M} (h : w.gs[k]? = some a) (hm : MOk K (upd H a o) (Rg w ls) w.gs [] a m) : Ctx K w ls σ (upd H a o) Δ (G.set k m) L := by
  have ha : a ∈ w.gs := getElem_mem' h
  have g : Grow H (upd H a o) (Rg w ls) (Rg w ls) := grow_upd (.inl (c.reg a ha))
  have ng : ∀ b ∈ ls, b ≠ a := fun b hb z => (List.nodup_append.mp c.nd).2.2 a ha b hb z.symm
  refine ⟨c.reg, fun b r => ?_, c.nd, c.fr, fun b u e n => ?_, c.sl.grow g (Pre.refl _) (Pre.refl _), ?_, paired_map c.lo fun b m hb q => q.grow g (Pre.refl _) (Pre.refl _) (upd_other (ng b hb)), c.ld⟩
  · by_cases z : b = a
    · subst z
      exact hm.some
    · obtain ⟨u, e, n⟩ := c.rin b r
      exact ⟨u, by rw [upd_ne z]; exact e, n⟩
  · rw [upd_ne (show b ≠ a from fun z => n (by rw [z]; exact ha))]
    exact c.h0 b u e n
  · exact paired_set c.gl (List.nodup_append.mp c.nd).1 h hm fun b e hb n q => q.grow g (Pre.refl _) (Pre.refl _) (upd_other n)
theorem Ext.setL {a : Addr} {o : HO} (h : a ∈ ls) : Ext w ls H (upd H a o) := fun b u e _ n => by
  rw [upd_ne (show b ≠ a from fun z => n (by rw [z]; exact h))]
  exact e
theorem Ext.setG {a : Addr} {o : HO} (h : a ∈ w.gs) : Ext w ls H (upd H a o) := fun b u e n _ => by
  rw [upd_ne (show b ≠ a from fun z => n (by rw [z]; exact h))]
  exact e
end

/-! ### evaluation at the level of data -/
abbrev Po := S → List M → List M → Prop
abbrev PoB := Bool → List M → List M → Prop
abbrev PoN := M → List M → List M → Prop
abbrev PoA := List S → List M → List M → Prop
def Ret (K : PySem.W.Frag) (w : W) (ls : List Addr) (σ : L2.St) (Δ : Sl) (H : Hp) (Qd : Po) (Q : VK) : Prop :=
  ∀ v s H2 G2 L2, Ctx K w ls σ H2 Δ G2 L2 → Ext w ls H H2 → RS K H2 (Rg w ls) w.gs ls s v → Qd s G2 L2 → Q v H2
def RetB (K : PySem.W.Frag) (w : W) (ls : List Addr) (σ : L2.St) (Δ : Sl) (H : Hp) (Qd : PoB) (Q : Bool → Hp → Prop) : Prop :=
  ∀ b H2 G2 L2, Ctx K w ls σ H2 Δ G2 L2 → Ext w ls H H2 → Qd b G2 L2 → Q b H2
def RetN (K : PySem.W.Frag) (w : W) (ls : List Addr) (σ : L2.St) (Δ : Sl) (H : Hp) (Qd : PoN) (Q : VK) : Prop :=
  ∀ p m H2 G2 L2, H p = none → NewAt K w ls σ H2 Δ G2 L2 p m → Ext w ls H H2 → Qd m G2 L2 → Q (.ref p) H2
def RetA (K : PySem.W.Frag) (w : W) (ls : List Addr) (σ : L2.St) (Δ : Sl) (H : Hp) (Qd : PoA) (Q : List V → Hp → Prop) : Prop :=
  ∀ vs ss H2 G2 L2, Ctx K w ls σ H2 Δ G2 L2 → Ext w ls H H2 → Paired (RS K H2 (Rg w ls) w.gs ls) ss vs → Qd ss G2 L2 → Q vs H2
def EvC (K : PySem.W.Frag) (te : TE) (Δ : Sl) (G L : List M) (Qd : Po) : Prop := ∀ w ls σ H, Ctx K w ls σ H Δ G L → ∀ Q : VK, Ret K w ls σ Δ H Qd Q → te σ H Q
def EvB (K : PySem.W.Frag) (te : TT) (Δ : Sl) (G L : List M) (Qd : PoB) : Prop := ∀ w ls σ H, Ctx K w ls σ H Δ G L → ∀ Q : Bool → Hp → Prop, RetB K w ls σ Δ H Qd Q → te σ H Q
def EvN (K : PySem.W.Frag) (te : TE) (Δ : Sl) (G L : List M) (Qd : PoN) : Prop := ∀ w ls σ H, Ctx K w ls σ H Δ G L → ∀ Q : VK, RetN K w ls σ Δ H Qd Q → te σ H Q
def EvA (K : PySem.W.Frag) (te : TA) (Δ : Sl) (G L : List M) (Qd : PoA) : Prop := ∀ w ls σ H, Ctx K w ls σ H Δ G L → ∀ Q : List V → Hp → Prop, RetA K w ls σ Δ H Qd Q → te σ H Q

section
variable {w : W} {ls : List Addr} {σ : L2.St} {H H1 : Hp} {Δ : Sl} {G L G1 L1 : List M} {Qd : Po} {Q : VK}
theorem Ret.go (r : Ret K w ls σ Δ H Qd Q) {v : V} {s : S} (c : Ctx K w ls σ H1 Δ G1 L1) (e : Ext w ls H H1) (q : RS K H1 (Rg w ls) w.gs ls s v) (k : Qd s G1 L1) : Q v H1 := r v s H1 G1 L1 c e q k
theorem Ret.next {Qd' : Po} (r : Ret K w ls σ Δ H Qd Q) (e : Ext w ls H H1) (k : ∀ s G L, Qd' s G L → Qd s G L) : Ret K w ls σ Δ H1 Qd' Q := fun v s H2 G2 L2 c e2 q h => r v s H2 G2 L2 c (e.trans e2) q (k _ _ _ h)
theorem Ret.ext (r : Ret K w ls σ Δ H Qd Q) (e : Ext w ls H H1) : Ret K w ls σ Δ H1 Qd Q := fun v s H2 G2 L2 c e2 q h => r v s H2 G2 L2 c (e.trans e2) q h
theorem none_back (c : Ctx K w ls σ H1 Δ G1 L1) (e : Ext w ls H H1) {p : Addr} (h : H1 p = none) : H p = none := by
  cases q : H p with
  | none => rfl
  | some o =>
    have n := c.free h
    rw [e p o q (fun z => n (.inl (c.reg p z))) (fun z => n (.inr z))] at h
    cases h
theorem RetN.ext {Qd : PoN} (r : RetN K w ls σ Δ H Qd Q) (c1 : Ctx K w ls σ H1 Δ G1 L1) (e : Ext w ls H H1) : RetN K w ls σ Δ H1 Qd Q := fun v s H2 G2 L2 hp c e2 h => r v s H2 G2 L2 (none_back c1 e hp) c (e.trans e2) h
theorem RS.on {s : S} {v : V} (c : Ctx K w ls σ H Δ G L) (e : Ext w ls H H1) (r : RS K H (Rg w ls) w.gs ls s v) : RS K H1 (Rg w ls) w.gs ls s v := r.grow (e.grow c.reg) (Pre.refl _) (Pre.refl _)
theorem RSs.on {s : List S} {v : List V} (c : Ctx K w ls σ H Δ G L) (e : Ext w ls H H1) (r : Paired (RS K H (Rg w ls) w.gs ls) s v) : Paired (RS K H1 (Rg w ls) w.gs ls) s v := paired_map r fun _ _ _ q => RS.on c e q
end

section
variable {Δ : Sl} {G L : List M} {Qd Qd' : Po} {te ta tb tc : TE} {tt tu : TT}
theorem EvC.imp (h : EvC K te Δ G L Qd) (k : ∀ s G L, Qd s G L → Qd' s G L) : EvC K te Δ G L Qd' := fun w ls σ H c Q r => h w ls σ H c Q (r.next Ext.refl k)
theorem evc_var {i : Nat} {s : S} (h : Δ[i]? = some (some s)) (k : Qd s G L) : EvC K (tVar i) Δ G L Qd := fun w ls σ H c Q r => by
  obtain ⟨v, e, q⟩ := c.sl.2 i s h
  exact ⟨v, e, r.go c Ext.refl q k⟩
theorem evc_int {i : Int} (k : Qd (.d (.int i)) G L) : EvC K (tC (.int i)) Δ G L Qd := fun w ls σ H c Q r => r.go c Ext.refl (s := .d (.int i)) rfl k
theorem evc_str {i : Str} (k : Qd (.d (.str i)) G L) : EvC K (tC (.str i)) Δ G L Qd := fun w ls σ H c Q r => r.go c Ext.refl (s := .d (.str i)) rfl k
theorem evc_bl {i : Bool} (k : Qd (.d (.bl i)) G L) : EvC K (tC (.bl i)) Δ G L Qd := fun w ls σ H c Q r => r.go c Ext.refl (s := .d (.bl i)) rfl k
theorem evc_non (k : Qd (.d .non) G L) : EvC K (tC .non) Δ G L Qd := fun w ls σ H c Q r => r.go c Ext.refl (s := .d .non) rfl k
theorem evc_ty {n : String} (k : Qd (.d (.ty n)) G L) : EvC K (tC (.ty n)) Δ G L Qd := fun w ls σ H c Q r => r.go c Ext.refl (s := .d (.ty n)) rfl k
theorem evc_ref {a : Addr} (k : Qd (.d (.ref a)) G L) : EvC K (tC (.ref a)) Δ G L Qd := fun w ls σ H c Q r => r.go c Ext.refl (s := .d (.ref a)) rfl k
theorem evn_c (h : EvN K te Δ G L fun m G1 L1 => ∃ x, m.dat = some x ∧ Qd (.d x) G1 L1) : EvC K te Δ G L Qd := fun w ls σ H c Q r => h w ls σ H c Q fun p m H2 G2 L2 _ n e ⟨x, hx, k⟩ => r.go n.c e (s := .d x) (n.dat x hx) k

/-! operations on values -/
def OpC (K : PySem.W.Frag) (r : R2) (x y : S) (Δ : Sl) (G L : List M) (Qd : Po) : Prop :=
  ∀ w ls σ H vx vy, Ctx K w ls σ H Δ G L → RS K H (Rg w ls) w.gs ls x vx → RS K H (Rg w ls) w.gs ls y vy → ∀ Q, Ret K w ls σ Δ H Qd Q → r vx vy H Q
def OpN (K : PySem.W.Frag) (r : R2) (x y : S) (Δ : Sl) (G L : List M) (Qd : PoN) : Prop :=
  ∀ w ls σ H vx vy, Ctx K w ls σ H Δ G L → RS K H (Rg w ls) w.gs ls x vx → RS K H (Rg w ls) w.gs ls y vy → ∀ Q, RetN K w ls σ Δ H Qd Q → r vx vy H Q
theorem opn_c {r : R2} {x y : S} (h : OpN K r x y Δ G L fun m G1 L1 => ∃ x, m.dat = some x ∧ Qd (.d x) G1 L1) : OpC K r x y Δ G L Qd :=
  fun w ls σ H vx vy c rx ry Q q => h w ls σ H vx vy c rx ry Q fun p m H2 G2 L2 _ n e ⟨x, hx, k⟩ => q.go n.c e (s := .d x) (n.dat x hx) k
theorem evc_op {r : R2} (h : EvC K ta Δ G L fun x G1 L1 => EvC K tb Δ G1 L1 fun y G2 L2 => OpC K r x y Δ G2 L2 Qd) : EvC K (tOp r ta tb) Δ G L Qd :=
  fun w ls σ H c Q ret => h w ls σ H c _ fun v s H2 G2 L2 c2 e2 r2 h2 => h2 w ls σ H2 c2 _ fun v3 s3 H3 G3 L3 c3 e3 r3 h3 => h3 w ls σ H3 v v3 c3 (r2.on c2 e3) r3 Q (ret.ext (e2.trans e3))
theorem evn_op {r : R2} {Qn : PoN} (h : EvC K ta Δ G L fun x G1 L1 => EvC K tb Δ G1 L1 fun y G2 L2 => OpN K r x y Δ G2 L2 Qn) : EvN K (tOp r ta tb) Δ G L Qn :=
  fun w ls σ H c Q ret => h w ls σ H c _ fun v s H2 G2 L2 c2 e2 r2 h2 => h2 w ls σ H2 c2 _ fun v3 s3 H3 G3 L3 c3 e3 r3 h3 => h3 w ls σ H3 v v3 c3 (r2.on c2 e3) r3 Q (ret.ext c3 (e2.trans e3))
theorem opc_orl {r r' : R2} {x y : S} (h : OpC K r x y Δ G L Qd) : OpC K (fun x y H Q => r x y H Q ∨ r' x y H Q) x y Δ G L Qd := fun w ls σ H vx vy c rx ry Q q => .inl (h w ls σ H vx vy c rx ry Q q)
theorem opc_orr {r r' : R2} {x y : S} (h : OpC K r' x y Δ G L Qd) : OpC K (fun x y H Q => r x y H Q ∨ r' x y H Q) x y Δ G L Qd := fun w ls σ H vx vy c rx ry Q q => .inr (h w ls σ H vx vy c rx ry Q q)
theorem opn_orl {Qd : PoN} {r r' : R2} {x y : S} (h : OpN K r x y Δ G L Qd) : OpN K (fun x y H Q => r x y H Q ∨ r' x y H Q) x y Δ G L Qd := fun w ls σ H vx vy c rx ry Q q => .inl (h w ls σ H vx vy c rx ry Q q)
theorem opc_I0i {g : Int → Int → Int} {i j : Int} (k : Qd (.d (.int (g i j))) G L) : OpC K (rI0 fun i j => .int (g i j)) (.d (.int i)) (.d (.int j)) Δ G L Qd := fun w ls σ H vx vy c rx ry Q q =>
  ⟨i, j, rx, ry, q.go c Ext.refl (s := .d (.int (g i j))) rfl k⟩
theorem opc_I0b {g : Int → Int → Bool} {i j : Int} (k : Qd (.d (.bl (g i j))) G L) : OpC K (rI0 fun i j => .bl (g i j)) (.d (.int i)) (.d (.int j)) Δ G L Qd := fun w ls σ H vx vy c rx ry Q q =>
  ⟨i, j, rx, ry, q.go c Ext.refl (s := .d (.bl (g i j))) rfl k⟩
theorem opc_Ii {C : Int → Int → Prop} {g : Int → Int → Int} {i j : Int} (hc : C i j) (k : Qd (.d (.int (g i j))) G L) : OpC K (rI C fun i j => .int (g i j)) (.d (.int i)) (.d (.int j)) Δ G L Qd := fun w ls σ H vx vy c rx ry Q q =>
  ⟨i, j, rx, ry, hc, q.go c Ext.refl (s := .d (.int (g i j))) rfl k⟩

/-! universal operators: which one is asked is told by the values -/
def rAddSt : R2 := fun x y H Q => ∃ i j, x = .str i ∧ y = .str j ∧ i.length + j.length ≤ sizeLine ∧ Q (.str (i ++ j)) H
def uAdd (K : PySem.W.Frag) : R2 := fun x y H Q => rI0 (fun i j => .int (i + j)) x y H Q ∨ rAddSt x y H Q ∨ rCat x y H Q ∨ rCatA K x y H Q
theorem uo_add {X : Cx} : OpR X (binaryOp .Add) (uAdd X.K) := op_add.or (OpR.or (r := rAddSt) op_add_str (op_cat.or op_catA))
theorem u_add_i {i j : Int} (k : Qd (.d (.int (i + j))) G L) : OpC K (uAdd K) (.d (.int i)) (.d (.int j)) Δ G L Qd := opc_orl (opc_I0i (g := fun i j => i + j) k)
theorem u_add_s {i j : Str} (hl : i.length + j.length ≤ sizeLine) (k : Qd (.d (.str (i ++ j))) G L) : OpC K (uAdd K) (.d (.str i)) (.d (.str j)) Δ G L Qd := fun w ls σ H vx vy c rx ry Q q =>
  .inr (.inl ⟨i, j, rx, ry, hl, q.go c Ext.refl (s := .d (.str (i ++ j))) rfl k⟩)
def lsG (G L : List M) : S → Option (List D)
  | .d (.lst ds) => some ds
  | .l k => match L[k]? with
    | some (.pl ds) => some ds
    | _ => none
  | .g k => match G[k]? with
    | some (.pl ds) => some ds
    | _ => none
  | _ => none
theorem lsG_get {w : W} {ls : List Addr} {σ : L2.St} {H : Hp} {v : V} {s : S} {ds : List D} (c : Ctx K w ls σ H Δ G L) (r : RS K H (Rg w ls) w.gs ls s v) (h : lsG G L s = some ds) : ∃ a vs, v = .ref a ∧ H a = some (.lst vs) ∧ RepL K H (Rg w ls) ds vs := by
  unfold lsG at h
  split at h
  · cases h
    obtain ⟨a, xs, rfl, ⟨h1, _⟩, q⟩ := r
    exact ⟨a, xs, rfl, h1, q⟩
  · rename_i k
    split at h
    · rename_i ds' hk
      cases h
      obtain ⟨a, ha, rfl⟩ := r
      obtain ⟨b, hb, vs, h1, q⟩ := paired_get c.lo hk
      rw [ha] at hb
      cases hb
      exact ⟨a, vs, rfl, h1, q⟩
    · cases h
  · rename_i k
    split at h
    · rename_i ds' hk
      cases h
      obtain ⟨a, ha, rfl⟩ := r
      obtain ⟨b, hb, vs, h1, q⟩ := paired_get c.gl hk
      rw [ha] at hb
      cases hb
      exact ⟨a, vs, rfl, h1, q⟩
    · cases h
  · cases h
theorem u_add_l {Qn : PoN} {x y : S} {xs ys : List D} (hx : lsG G L x = some xs) (hy : lsG G L y = some ys) (hl : xs.length + ys.length ≤ sizeLine) (k : Qn (.pl (xs ++ ys)) G L) : OpN K (uAdd K) x y Δ G L Qn := fun w ls σ H vx vy c rx ry Q q => by
  obtain ⟨a, vs, rfl, h1, q1⟩ := lsG_get c rx hx
  obtain ⟨b, us, rfl, h2, q2⟩ := lsG_get c ry hy
  refine .inr (.inr (.inl ⟨a, b, vs, us, rfl, rfl, h1, h2, by rw [q1.length, q2.length]; exact hl, fun p hp => ?_⟩))
  exact q p _ _ _ _ hp (newAt_pl c hp (q1.app q2)) (Ext.new hp) k
def uMul (K : PySem.W.Frag) : R2 := fun x y H Q => rI CMul (fun i j => .int (i * j)) x y H Q ∨ rRep x y H Q
theorem uo_mul {X : Cx} : OpR X (binaryOp .Mult) (uMul X.K) := op_mul.or op_rep
theorem u_mul_i {i j : Int} (hc : CMul i j) (k : Qd (.d (.int (i * j))) G L) : OpC K (uMul K) (.d (.int i)) (.d (.int j)) Δ G L Qd := opc_orl (opc_Ii (g := fun i j => i * j) hc k)
theorem repl_flat {H : Hp} {R : Addr → Prop} {ds : List D} {vs : List V} (r : RepL K H R ds vs) : ∀ n, RepL K H R (List.replicate n ds).flatten (List.replicate n vs).flatten
  | 0 => rfl
  | n + 1 => by
    rw [List.replicate_succ, List.replicate_succ, List.flatten_cons, List.flatten_cons]
    exact r.app (repl_flat r n)
theorem u_mul_l {Qn : PoN} {x : S} {j : Int} {xs : List D} (hx : lsG G L x = some xs) (h1 : -(2 ^ 63) ≤ j) (h2 : j < 2 ^ 63) (hl : xs.length * j.toNat ≤ sizeLine) (k : Qn (.pl (List.replicate j.toNat xs).flatten) G L) : OpN K (uMul K) x (.d (.int j)) Δ G L Qn := fun w ls σ H vx vy c rx ry Q q => by
  obtain ⟨a, vs, rfl, h3, q1⟩ := lsG_get c rx hx
  refine .inr ⟨a, j, vs, rfl, ry, h3, h1, h2, by rw [q1.length]; exact hl, fun p hp => ?_⟩
  exact q p _ _ _ _ hp (newAt_pl c hp (repl_flat q1 _)) (Ext.new hp) k

/-! tests -/
theorem evb_test (h : EvC K te Δ G L fun s G1 L1 => ∃ b, s = .d (.bl b) ∧ Qb b G1 L1) : EvB K (tTest te) Δ G L Qb := fun w ls σ H c Q r => h w ls σ H c _ fun v s H2 G2 L2 c2 e2 r2 ⟨b, e, k⟩ => by
  subst e
  exact ⟨b, r2, r b H2 G2 L2 c2 e2 k⟩
theorem evb_B (h : EvC K te Δ G L fun s G1 L1 => ∃ b, s = .d (.bl b) ∧ Qb b G1 L1) : EvB K (tB te) Δ G L Qb := fun w ls σ H c Q r => h w ls σ H c _ fun v s H2 G2 L2 c2 e2 r2 ⟨b, e, k⟩ => by
  subst e
  exact ⟨b, r2, r b H2 G2 L2 c2 e2 k⟩
theorem evb_and {Qb : PoB} (h : EvB K tt Δ G L fun b G1 L1 => if b = true then EvB K tu Δ G1 L1 Qb else Qb false G1 L1) : EvB K (tAnd tt tu) Δ G L Qb := fun w ls σ H c Q r => h w ls σ H c _ fun b H2 G2 L2 c2 e2 k => by
  cases b with
  | true =>
    rw [if_pos rfl] at k ⊢
    exact k w ls σ H2 c2 _ fun b H3 G3 L3 c3 e3 k3 => r b H3 G3 L3 c3 (e2.trans e3) k3
  | false =>
    rw [if_neg Bool.false_ne_true] at k ⊢
    exact r _ H2 G2 L2 c2 e2 k
theorem evb_or {Qb : PoB} (h : EvB K tt Δ G L fun b G1 L1 => if b = true then Qb true G1 L1 else EvB K tu Δ G1 L1 Qb) : EvB K (tOr tt tu) Δ G L Qb := fun w ls σ H c Q r => h w ls σ H c _ fun b H2 G2 L2 c2 e2 k => by
  cases b with
  | true =>
    rw [if_pos rfl] at k ⊢
    exact r _ H2 G2 L2 c2 e2 k
  | false =>
    rw [if_neg Bool.false_ne_true] at k ⊢
    exact k w ls σ H2 c2 _ fun b H3 G3 L3 c3 e3 k3 => r b H3 G3 L3 c3 (e2.trans e3) k3
theorem evb_not {Qb : PoB} (h : EvB K tt Δ G L fun b G1 L1 => Qb (!b) G1 L1) : EvB K (tNot tt) Δ G L Qb := fun w ls σ H c Q r => h w ls σ H c _ fun b H2 G2 L2 c2 e2 k => r _ H2 G2 L2 c2 e2 k
theorem evb_yes {Qb : PoB} (k : Qb true G L) : EvB K tYes Δ G L Qb := fun w ls σ H c Q r => r _ H G L c Ext.refl k
theorem evc_if (h : EvB K tt Δ G L fun b G1 L1 => if b = true then EvC K ta Δ G1 L1 Qd else EvC K tb Δ G1 L1 Qd) : EvC K (tIf tt ta tb) Δ G L Qd := fun w ls σ H c Q r => h w ls σ H c _ fun b H2 G2 L2 c2 e2 k => by
  cases b with
  | true =>
    rw [if_pos rfl] at k ⊢
    exact k w ls σ H2 c2 _ (r.ext e2)
  | false =>
    rw [if_neg Bool.false_ne_true] at k ⊢
    exact k w ls σ H2 c2 _ (r.ext e2)
theorem evc_andV (h : EvC K ta Δ G L fun s G1 L1 => ∃ b, s = .d (.bl b) ∧ if b = true then EvC K tb Δ G1 L1 Qd else Qd (.d (.bl false)) G1 L1) : EvC K (tAndV ta tb) Δ G L Qd := fun w ls σ H c Q r => h w ls σ H c _ fun v s H2 G2 L2 c2 e2 r2 ⟨b, e, k⟩ => by
  subst e
  refine ⟨b, r2, ?_⟩
  cases b with
  | true =>
    rw [if_pos rfl] at k ⊢
    exact k w ls σ H2 c2 _ (r.ext e2)
  | false =>
    rw [if_neg Bool.false_ne_true] at k ⊢
    exact r.go c2 e2 (s := .d (.bl false)) rfl k
theorem evc_orV (h : EvC K ta Δ G L fun s G1 L1 => ∃ b, s = .d (.bl b) ∧ if b = true then Qd (.d (.bl true)) G1 L1 else EvC K tb Δ G1 L1 Qd) : EvC K (tOrV ta tb) Δ G L Qd := fun w ls σ H c Q r => h w ls σ H c _ fun v s H2 G2 L2 c2 e2 r2 ⟨b, e, k⟩ => by
  subst e
  refine ⟨b, r2, ?_⟩
  cases b with
  | true =>
    rw [if_pos rfl] at k ⊢
    exact r.go c2 e2 (s := .d (.bl true)) rfl k
  | false =>
    rw [if_neg Bool.false_ne_true] at k ⊢
    exact k w ls σ H2 c2 _ (r.ext e2)
theorem evc_notV (h : EvC K ta Δ G L fun s G1 L1 => ∃ b, s = .d (.bl b) ∧ Qd (.d (.bl (!b))) G1 L1) : EvC K (tNotV ta) Δ G L Qd := fun w ls σ H c Q r => h w ls σ H c _ fun v s H2 G2 L2 c2 e2 r2 ⟨b, e, k⟩ => by
  subst e
  exact ⟨b, r2, r.go c2 e2 (s := .d (.bl (!b))) rfl k⟩
theorem evc_chain {r r' : R2} (h : EvC K ta Δ G L fun x G1 L1 => EvC K tb Δ G1 L1 fun y G2 L2 => OpC K r x y Δ G2 L2 fun z G3 L3 => ∃ b, z = .d (.bl b) ∧
    if b = true then EvC K tc Δ G3 L3 fun u G4 L4 => OpC K r' y u Δ G4 L4 Qd else Qd (.d (.bl false)) G3 L3) : EvC K (tChain r r' ta tb tc) Δ G L Qd :=
  fun w ls σ H c Q ret => h w ls σ H c _ fun v s H2 G2 L2 c2 e2 r2 h2 => h2 w ls σ H2 c2 _ fun v3 s3 H3 G3 L3 c3 e3 r3 h3 => h3 w ls σ H3 v v3 c3 (r2.on c2 e3) r3 _ fun v4 s4 H4 G4 L4 c4 e4 r4 ⟨b, e, k⟩ => by
    subst e
    refine ⟨b, r4, ?_⟩
    cases b with
    | true =>
      rw [if_pos rfl] at k ⊢
      exact k w ls σ H4 c4 _ fun v5 s5 H5 G5 L5 c5 e5 r5 h5 => h5 w ls σ H5 v3 v5 c5 ((r3.on c3 e4).on c4 e5) r5 Q (ret.ext (e2.trans (e3.trans (e4.trans e5))))
    | false =>
      rw [if_neg Bool.false_ne_true] at k ⊢
      exact ret.go c4 (e2.trans (e3.trans e4)) (s := .d (.bl false)) rfl k

/-! arguments, displays -/
theorem eva_nil {Qa : PoA} (k : Qa [] G L) : EvA K tNil Δ G L Qa := fun w ls σ H c Q r => r [] [] H G L c Ext.refl .nil k
theorem eva_cons {Qa : PoA} {ts : TA} (h : EvC K te Δ G L fun x G1 L1 => EvA K ts Δ G1 L1 fun xs G2 L2 => Qa (x :: xs) G2 L2) : EvA K (tCons te ts) Δ G L Qa :=
  fun w ls σ H c Q r => h w ls σ H c _ fun v s H2 G2 L2 c2 e2 r2 h2 => h2 w ls σ H2 c2 _ fun vs ss H3 G3 L3 c3 e3 r3 h3 => r (v :: vs) (s :: ss) H3 G3 L3 c3 (e2.trans e3) (.cons (r2.on c2 e3) r3) h3
def dats : List S → Option (List D)
  | [] => some []
  | .d x :: r => match dats r with
    | some xs => some (x :: xs)
    | none => none
  | _ :: _ => none
theorem dats_rep {H : Hp} {R : Addr → Prop} {gs ls : List Addr} : ∀ {ss : List S} {ds : List D} {vs : List V}, dats ss = some ds → Paired (RS K H R gs ls) ss vs → RepL K H R ds vs
  | [], _, _, e, .nil => by
    cases e
    rfl
  | .d x :: r, ds, _, e, .cons h t => by
    unfold dats at e
    split at e
    · rename_i xs hx
      cases e
      exact ⟨_, _, rfl, h, dats_rep hx t⟩
    · cases e
theorem evc_tup {ts : TA} (h : EvA K ts Δ G L fun ss G1 L1 => ∃ ds, dats ss = some ds ∧ ds.length ≤ sizeLine ∧ Qd (.d (.tup ds)) G1 L1) : EvC K (tTup ts) Δ G L Qd := fun w ls σ H c Q r => h w ls σ H c _ fun vs ss H2 G2 L2 c2 e2 r2 ⟨ds, hd, hl, k⟩ =>
  have q := dats_rep hd r2
  ⟨by rw [q.length]; exact hl, fun p hp => r.go (c2.new hp) (e2.trans (Ext.new hp)) (s := .d (.tup ds)) (rep_tup c2 hp q) k⟩
theorem evn_lst {ts : TA} {Qn : PoN} (h : EvA K ts Δ G L fun ss G1 L1 => ∃ ds, dats ss = some ds ∧ ds.length ≤ sizeLine ∧ Qn (.pl ds) G1 L1) : EvN K (tLst ts) Δ G L Qn := fun w ls σ H c Q r => h w ls σ H c _ fun vs ss H2 G2 L2 c2 e2 r2 ⟨ds, hd, hl, k⟩ =>
  have q := dats_rep hd r2
  ⟨by rw [q.length]; exact hl, fun p hp => r p _ _ _ _ (none_back c2 e2 hp) (newAt_pl c2 hp q) (e2.trans (Ext.new hp)) k⟩
/-! subscripts -/
end
end
end DL

namespace DL
open PySem PySem.Spec PyProof.Rows L2
section
variable {K : PySem.W.Frag}
structure EndsD where
  nx : Sl → List M → List M → Prop
  rt : S → List M → List M → Prop
  bk : Sl → List M → List M → Prop := fun _ _ _ => False
  ct : Sl → List M → List M → Prop := fun _ _ _ => False
  wd : W → List Addr → Hp → Prop := fun _ _ _ => True
structure SEnds (K : PySem.W.Frag) (w : W) (ls : List Addr) (H : Hp) (E : EndsD) (D : Ends) : Prop where
  nx : ∀ ls' σ H' Δ G L, Ctx K w ls' σ H' Δ G L → Grow H H' (Rg w ls) (Rg w ls') → E.nx Δ G L → D.nx σ H'
  rt : ∀ ls' σ H' Δ G L v s, Ctx K w ls' σ H' Δ G L → RS K H' (Rg w ls') w.gs ls' s v → E.rt s G L → D.rt v H'
  bk : ∀ ls' σ H' Δ G L, Ctx K w ls' σ H' Δ G L → Grow H H' (Rg w ls) (Rg w ls') → E.bk Δ G L → D.bk σ H'
  ct : ∀ ls' σ H' Δ G L, Ctx K w ls' σ H' Δ G L → Grow H H' (Rg w ls) (Rg w ls') → E.ct Δ G L → D.ct σ H'
  wd : ∀ ls' H', Grow H H' (Rg w ls) (Rg w ls') → E.wd w ls' H'
def StC (K : PySem.W.Frag) (ts : TS) (Δ : Sl) (G L : List M) (E : EndsD) : Prop := ∀ w ls σ H, Ctx K w ls σ H Δ G L → ∀ D : Ends, SEnds K w ls H E D → ts D σ H
theorem SEnds.on {w : W} {ls ls1 : List Addr} {H H1 : Hp} {E : EndsD} {D : Ends} (s : SEnds K w ls H E D) (g : Grow H H1 (Rg w ls) (Rg w ls1)) : SEnds K w ls1 H1 E D :=
  ⟨fun ls' σ H' Δ G L c g' h => s.nx ls' σ H' Δ G L c (g.trans g') h, s.rt, fun ls' σ H' Δ G L c g' h => s.bk ls' σ H' Δ G L c (g.trans g') h, fun ls' σ H' Δ G L c g' h => s.ct ls' σ H' Δ G L c (g.trans g') h, fun ls' H' g' => s.wd ls' H' (g.trans g')⟩
section
variable {Δ : Sl} {G L : List M} {E : EndsD} {te : TE} {tt : TT} {t u : TS}
theorem SlOk.set {H : Hp} {R : Addr → Prop} {gs ls : List Addr} {σ : L2.St} (h : SlOk K H R gs ls σ Δ) {i : Nat} {v : V} {s : S} (r : RS K H R gs ls s v) : SlOk K H R gs ls (σ.set i (some v)) (Δ.set i (some s)) := by
  refine ⟨by rw [List.length_set, List.length_set, h.1], fun j z e => ?_⟩
  rw [List.getElem?_set] at e ⊢
  split at e
  · rename_i hij
    subst hij
    rw [if_pos rfl]
    split at e
    · rename_i hl
      cases e
      exact ⟨v, by rw [if_pos (by rw [h.1]; exact hl)], r⟩
    · cases e
  · rename_i hij
    rw [if_neg hij]
    exact h.2 j z e
theorem Ctx.slot {w : W} {ls : List Addr} {σ : L2.St} {H : Hp} (c : Ctx K w ls σ H Δ G L) {i : Nat} {v : V} {s : S} (r : RS K H (Rg w ls) w.gs ls s v) : Ctx K w ls (σ.set i (some v)) H (Δ.set i (some s)) G L :=
  ⟨c.reg, c.rin, c.nd, c.fr, c.h0, c.sl.set r, c.gl, c.lo, c.ld⟩
theorem st_seq (h : StC K t Δ G L { E with nx := fun Δ1 G1 L1 => StC K u Δ1 G1 L1 E }) : StC K (tSeq t u) Δ G L E := fun w ls σ H c D s =>
  h w ls σ H c _ ⟨fun ls' σ' H' Δ' G' L' c' g' k => k w ls' σ' H' c' D (s.on g'), s.rt, s.bk, s.ct, s.wd⟩
theorem st_next (k : E.nx Δ G L) : StC K tNext Δ G L E := fun w ls σ H c D s => s.nx ls σ H Δ G L c (Grow.refl _ _) k
theorem st_break (k : E.bk Δ G L) : StC K tBreak Δ G L E := fun w ls σ H c D s => s.bk ls σ H Δ G L c (Grow.refl _ _) k
theorem st_cont (k : E.ct Δ G L) : StC K tCont Δ G L E := fun w ls σ H c D s => s.ct ls σ H Δ G L c (Grow.refl _ _) k
theorem st_asg {i : Nat} (h : EvC K te Δ G L fun s G1 L1 => E.nx (Δ.set i (some s)) G1 L1) : StC K (tAsg te (gName i)) Δ G L E := fun w ls σ H c D s =>
  h w ls σ H c _ fun v x H2 G2 L2 c2 e2 r2 k => s.nx ls _ H2 _ G2 L2 (c2.slot r2) (e2.grow c.reg) k
theorem st_own {i : Nat} (h : EvN K te Δ G L fun m G1 L1 => E.nx (Δ.set i (some (.l L1.length))) G1 (L1 ++ [m])) : StC K (tAsg te (gName i)) Δ G L E := fun w ls σ H c D s =>
  h w ls σ H c _ fun p m H2 G2 L2 hp n e2 k => by
    have hl : ls.length = L2.length := paired_len n.c.lo
    refine s.nx (ls ++ [p]) _ H2 _ G2 (L2 ++ [m]) (n.own.slot (s := .l L2.length) ⟨p, ?_, rfl⟩) ⟨(e2.grow c.reg).keep, fun a o q r => ?_⟩ k
    · rw [← hl, List.getElem?_append_right (Nat.le_refl _), Nat.sub_self]
      rfl
    · rcases r with r | r
      · exact .inl r
      · rcases List.mem_append.mp r with r | r
        · exact .inr r
        · rw [List.mem_singleton] at r
          subst r
          rw [hp] at q
          cases q
theorem st_if (h : EvB K tt Δ G L fun b G1 L1 => if b = true then StC K t Δ G1 L1 E else StC K u Δ G1 L1 E) : StC K (tIfS tt t u) Δ G L E := fun w ls σ H c D s => h w ls σ H c _ fun b H2 G2 L2 c2 e2 k => by
  cases b with
  | true =>
    rw [if_pos rfl] at k ⊢
    exact k w ls σ H2 c2 D (s.on (e2.grow c.reg))
  | false =>
    rw [if_neg Bool.false_ne_true] at k ⊢
    exact k w ls σ H2 c2 D (s.on (e2.grow c.reg))
theorem st_ret (h : EvC K te Δ G L fun s G1 L1 => E.rt s G1 L1) : StC K (tRet te) Δ G L E := fun w ls σ H c D s => h w ls σ H c _ fun v x H2 G2 L2 c2 e2 r2 k => s.rt ls σ H2 Δ G2 L2 v x c2 r2 k
theorem st_retN (k : E.rt (.d .non) G L) : StC K tRetN Δ G L E := fun w ls σ H c D s => s.rt ls σ H Δ G L .non (.d .non) c rfl k
theorem st_drop (h : EvC K te Δ G L fun _ G1 L1 => E.nx Δ G1 L1) : StC K (tDrop te) Δ G L E := fun w ls σ H c D s => h w ls σ H c _ fun v x H2 G2 L2 c2 e2 r2 k => s.nx ls σ H2 Δ G2 L2 c2 (e2.grow c.reg) k

/-! targets: ok says which slots may be stored -/
abbrev PoT := Sl → List M → List M → Prop
def TgC (K : PySem.W.Frag) (g : TG) (ok : Nat → Prop) (s : S) (Δ : Sl) (G L : List M) (Qt : PoT) : Prop :=
  ∀ w ls σ H v, Ctx K w ls σ H Δ G L → RS K H (Rg w ls) w.gs ls s v → ∀ Q : L2.St → Hp → Prop,
    (∀ σ' H' Δ' G' L', Ctx K w ls σ' H' Δ' G' L' → Ext w ls H H' → σ'.length = σ.length → (∀ k, ¬ ok k → σ'[k]? = σ[k]?) → Qt Δ' G' L' → Q σ' H') → g v σ H Q
def TgCs (K : PySem.W.Frag) (g : TGs) (ok : Nat → Prop) (ss : List S) (Δ : Sl) (G L : List M) (Qt : PoT) : Prop :=
  ∀ w ls σ H vs, Ctx K w ls σ H Δ G L → Paired (RS K H (Rg w ls) w.gs ls) ss vs → ∀ Q : L2.St → Hp → Prop,
    (∀ σ' H' Δ' G' L', Ctx K w ls σ' H' Δ' G' L' → Ext w ls H H' → σ'.length = σ.length → (∀ k, ¬ ok k → σ'[k]? = σ[k]?) → Qt Δ' G' L' → Q σ' H') → g vs σ H Q
theorem tg_name {i : Nat} {s : S} {Qt : PoT} {ok : Nat → Prop} (hi : ok i) (k : Qt (Δ.set i (some s)) G L) : TgC K (gName i) ok s Δ G L Qt := fun w ls σ H v c r Q q =>
  q _ H _ G L (c.slot r) Ext.refl (List.length_set ..) (fun k hk => by
    rw [List.getElem?_set_ne (fun z => hk (by rw [← z]; exact hi))]) k
theorem tgs_nil {Qt : PoT} {ok : Nat → Prop} (k : Qt Δ G L) : TgCs K gNil ok [] Δ G L Qt := fun w ls σ H vs c r Q q => by
  cases r
  exact ⟨rfl, q σ H Δ G L c Ext.refl rfl (fun _ _ => rfl) k⟩
theorem tgs_cons {g : TG} {gs : TGs} {ok : Nat → Prop} {s : S} {ss : List S} {Qt : PoT} (h : TgC K g ok s Δ G L fun Δ1 G1 L1 => TgCs K gs ok ss Δ1 G1 L1 Qt) : TgCs K (gCons g gs) ok (s :: ss) Δ G L Qt := fun w ls σ H vs c r Q q => by
  cases r with
  | cons r1 rr =>
    refine ⟨_, _, rfl, h w ls σ H _ c r1 _ fun σ1 H1 Δ1 G1 L1 c1 e1 l1 o1 k1 => ?_⟩
    refine k1 w ls σ1 H1 _ c1 (RSs.on c e1 rr) _ fun σ2 H2 Δ2 G2 L2 c2 e2 l2 o2 k2 => ?_
    exact q σ2 H2 Δ2 G2 L2 c2 (e1.trans e2) (l2.trans l1) (fun k hk => (o2 k hk).trans (o1 k hk)) k2
theorem repL_rs {H : Hp} {R : Addr → Prop} {gs ls : List Addr} : ∀ {ds : List D} {vs : List V}, RepL K H R ds vs → Paired (RS K H R gs ls) (ds.map S.d) vs
  | [], _, h => by
    cases h
    exact .nil
  | d :: ds, _, ⟨y, ys, e, h, r⟩ => by
    subst e
    exact .cons h (repL_rs r)
theorem tg_tup {gs : TGs} {ok : Nat → Prop} {ds : List D} {n : Nat} {Qt : PoT} (hn : ds.length = n) (h : TgCs K gs ok (ds.map S.d) Δ G L Qt) : TgC K (gTup K n gs) ok (.d (.tup ds)) Δ G L Qt := fun w ls σ H v c r Q q => by
  obtain ⟨a, xs, rfl, h1, r1⟩ := r
  exact ⟨a, xs, rfl, h1.sq, by rw [r1.length]; exact hn, h w ls σ H xs c (repL_rs r1) Q q⟩
theorem st_asgT {g : TG} (h : EvC K te Δ G L fun s G1 L1 => TgC K g (fun _ => True) s Δ G1 L1 E.nx) : StC K (tAsg te g) Δ G L E := fun w ls σ H c D s =>
  h w ls σ H c _ fun v x H2 G2 L2 c2 e2 r2 k => k w ls σ H2 v c2 r2 _ fun σ' H' Δ' G' L' c' e' _ _ k' => s.nx ls σ' H' Δ' G' L' c' ((e2.trans e').grow c.reg) k'

/-! what is walked -/
structure ItOk (K : PySem.W.Frag) (w : W) (ls : List Addr) (J : It) (H1 : Hp) (items : List D) : Prop where
  go : ∀ H2 w2 ls2 σ2 Δ2 G2 L2 i d, Grow H1 H2 (Rg w ls) (Rg w2 ls2) → Ctx K w2 ls2 σ2 H2 Δ2 G2 L2 → items[i]? = some d → J.go i H2 ∧ ∀ x H', J.yld i H2 x H' → Ctx K w2 ls2 σ2 H' Δ2 G2 L2 ∧ Ext w2 ls2 H2 H' ∧ Rep K H' (Rg w2 ls2) d x
  stop : ∀ H2 w2 ls2, Grow H1 H2 (Rg w ls) (Rg w2 ls2) → J.stop items.length H2
def EvI (K : PySem.W.Frag) (wi : TI) (Δ : Sl) (G L : List M) (Qi : List D → List M → List M → Prop) : Prop :=
  ∀ w ls σ H, Ctx K w ls σ H Δ G L → ∀ R : It → Hp → Prop, (∀ J H1 items G1 L1, Ctx K w ls σ H1 Δ G1 L1 → Ext w ls H H1 → ItOk K w ls J H1 items → Qi items G1 L1 → R J H1) → wi σ H R
def rngD (lo : Int) (n : Nat) : List D := (List.range n).map fun i => .int (lo + (i : Nat))
theorem rngD_get {lo : Int} {n i : Nat} {d : D} (h : (rngD lo n)[i]? = some d) : i < n ∧ d = .int (lo + (i : Nat)) := by
  unfold rngD at h
  rw [List.getElem?_map] at h
  by_cases hi : i < n
  · rw [List.getElem?_range hi] at h
    exact ⟨hi, (Option.some.inj h).symm⟩
  · rw [List.getElem?_eq_none (by rw [List.length_range]; omega)] at h
    cases h
theorem rngD_len {lo : Int} {n : Nat} : (rngD lo n).length = n := by
  unfold rngD
  rw [List.length_map, List.length_range]
theorem itok_range {w : W} {ls : List Addr} {H : Hp} {lo : Int} {n : Nat} : ItOk K w ls (Itr lo n) H (rngD lo n) :=
  ⟨fun H3 w2 ls2 σ2 Δ2 G3 L3 i d g c3 hi => by
    obtain ⟨h1, rfl⟩ := rngD_get hi
    exact ⟨h1, fun x H' ⟨hH, hx⟩ => by
      subst hH
      exact ⟨c3, Ext.refl, hx⟩⟩, fun _ _ _ _ => Nat.le_of_eq rngD_len.symm⟩
theorem evi_rng1 {ta : TA} {Qi : List D → List M → List M → Prop} (h : EvA K ta Δ G L fun ss G1 L1 => ∃ j : Int, ss = [.d (.int j)] ∧ -(2 ^ 62) ≤ j ∧ j < 2 ^ 62 ∧ Qi (rngD 0 j.toNat) G1 L1) : EvI K (iRng1 ta) Δ G L Qi := fun w ls σ H c R q =>
  h w ls σ H c _ fun vs ss H2 G2 L2 c2 e2 r2 ⟨j, e, h1, h2, k⟩ => by
    subst e
    cases r2 with
    | cons r t =>
      cases t
      exact ⟨j, by rw [show _ = V.int j from r], h1, h2, q _ H2 _ G2 L2 c2 e2 itok_range k⟩
theorem evi_rng2 {ta : TA} {Qi : List D → List M → List M → Prop} (h : EvA K ta Δ G L fun ss G1 L1 => ∃ i j : Int, ss = [.d (.int i), .d (.int j)] ∧ (-(2 ^ 62) ≤ i ∧ i < 2 ^ 62 ∧ -(2 ^ 62) ≤ j ∧ j < 2 ^ 62) ∧ Qi (rngD i (j - i).toNat) G1 L1) : EvI K (iRng2 ta) Δ G L Qi := fun w ls σ H c R q =>
  h w ls σ H c _ fun vs ss H2 G2 L2 c2 e2 r2 ⟨i, j, e, h1, k⟩ => by
    subst e
    cases r2 with
    | cons r t =>
      cases t with
      | cons r' t' =>
        cases t'
        exact ⟨i, j, by rw [show _ = V.int i from r, show _ = V.int j from r'], h1, q _ H2 _ G2 L2 c2 e2 itok_range k⟩
theorem st_for {wi : TI} {g : TG} {tb : TS} (h : EvI K wi Δ G L fun items G1 L1 => ∃ P : Nat → Sl → List M → List M → Prop, P 0 Δ G1 L1 ∧
    (∀ i d Δ' G' L', items[i]? = some d → P i Δ' G' L' → TgC K g (fun _ => True) (.d d) Δ' G' L' fun Δ2 G2 L2 => StC K tb Δ2 G2 L2 { E with nx := P (i + 1), ct := P (i + 1), bk := E.nx }) ∧
    ∀ Δ' G' L', P items.length Δ' G' L' → E.nx Δ' G' L') : StC K (tFor wi g tb) Δ G L E := fun w ls σ H c D s =>
  h w ls σ H c _ fun J H1 items G1 L1 c1 e1 it ⟨P, p0, ps, pe⟩ => by
    have g1 : Grow H H1 (Rg w ls) (Rg w ls) := e1.grow c.reg
    refine ⟨fun i m σ' H' => m = items.length - i ∧ i ≤ items.length ∧ ∃ ls' Δ' G' L', Ctx K w ls' σ' H' Δ' G' L' ∧ Grow H1 H' (Rg w ls) (Rg w ls') ∧ P i Δ' G' L',
      ⟨_, rfl, Nat.zero_le _, ls, Δ, G1, L1, c1, Grow.refl _ _, p0⟩, ?_⟩
    rintro i m σ' H' ⟨rfl, hi, ls', Δ', G', L', c', g', p⟩
    by_cases hlt : i < items.length
    · obtain ⟨go, yl⟩ := it.go H' w ls' σ' Δ' G' L' i _ g' c' (List.getElem?_eq_getElem hlt)
      refine .inr ⟨go, fun σ2 H2 => ∃ ls2 Δ2 G2 L2, Ctx K w ls2 σ2 H2 Δ2 G2 L2 ∧ Grow H1 H2 (Rg w ls) (Rg w ls2) ∧ P (i + 1) Δ2 G2 L2, fun σ2 H2 ⟨ls2, Δ2, G2, L2, c2, g2, p2⟩ => ⟨_, by omega, rfl, hlt, ls2, Δ2, G2, L2, c2, g2, p2⟩, fun x H3 hy => ?_⟩
      obtain ⟨c3, e3, r3⟩ := yl x H3 hy
      refine ps i _ Δ' G' L' (List.getElem?_eq_getElem hlt) p w ls' σ' H3 x c3 r3 _ fun σ4 H4 Δ4 G4 L4 c4 e4 _ _ k4 => ?_
      have g4 : Grow H1 H4 (Rg w ls) (Rg w ls') := g'.trans ((e3.trans e4).grow c'.reg)
      exact k4 w ls' σ4 H4 c4 _ ⟨fun ls5 σ5 H5 Δ5 G5 L5 c5 g5 p5 => ⟨ls5, Δ5, G5, L5, c5, g4.trans g5, p5⟩, s.rt, fun ls5 σ5 H5 Δ5 G5 L5 c5 g5 p5 => s.nx ls5 σ5 H5 Δ5 G5 L5 c5 (g1.trans (g4.trans g5)) p5,
        fun ls5 σ5 H5 Δ5 G5 L5 c5 g5 p5 => ⟨ls5, Δ5, G5, L5, c5, g4.trans g5, p5⟩, fun ls5 H5 g5 => s.wd ls5 H5 (g1.trans (g4.trans g5))⟩
    · have e : i = items.length := by omega
      subst e
      exact .inl ⟨it.stop H' w ls' g', s.nx ls' σ' H' Δ' G' L' c' (g1.trans g') (pe Δ' G' L' p)⟩
theorem st_while {tb : TS} (P : Nat → Sl → List M → List M → Prop) (m0 : Nat) (p0 : P m0 Δ G L)
    (ps : ∀ m Δ' G' L', P m Δ' G' L' → EvB K tt Δ' G' L' fun b G1 L1 => if b = true then StC K tb Δ' G1 L1 { E with nx := fun Δ2 G2 L2 => ∃ m', m' < m ∧ P m' Δ2 G2 L2, ct := fun Δ2 G2 L2 => ∃ m', m' < m ∧ P m' Δ2 G2 L2, bk := E.nx } else E.nx Δ' G1 L1) : StC K (tWhile tt tb) Δ G L E := fun w ls σ H c D s => by
  refine ⟨fun m σ' H' => ∃ ls' Δ' G' L', Ctx K w ls' σ' H' Δ' G' L' ∧ Grow H H' (Rg w ls) (Rg w ls') ∧ P m Δ' G' L', ⟨m0, ls, Δ, G, L, c, Grow.refl _ _, p0⟩, ?_⟩
  rintro m σ' H' ⟨ls', Δ', G', L', c', g', p⟩
  refine ps m Δ' G' L' p w ls' σ' H' c' _ fun b H2 G2 L2 c2 e2 k => ?_
  have g2 : Grow H H2 (Rg w ls) (Rg w ls') := g'.trans (e2.grow c'.reg)
  cases b with
  | true =>
    rw [if_pos rfl] at k ⊢
    refine ⟨fun σ3 H3 => ∃ m', m' < m ∧ ∃ ls3 Δ3 G3 L3, Ctx K w ls3 σ3 H3 Δ3 G3 L3 ∧ Grow H H3 (Rg w ls) (Rg w ls3) ∧ P m' Δ3 G3 L3, fun σ3 H3 ⟨m', hm, ls3, Δ3, G3, L3, c3, g3, p3⟩ => ⟨m', hm, ls3, Δ3, G3, L3, c3, g3, p3⟩, ?_⟩
    exact k w ls' σ' H2 c2 _ ⟨fun ls5 σ5 H5 Δ5 G5 L5 c5 g5 ⟨m', hm, p5⟩ => ⟨m', hm, ls5, Δ5, G5, L5, c5, g2.trans g5, p5⟩, s.rt, fun ls5 σ5 H5 Δ5 G5 L5 c5 g5 p5 => s.nx ls5 σ5 H5 Δ5 G5 L5 c5 (g2.trans g5) p5,
      fun ls5 σ5 H5 Δ5 G5 L5 c5 g5 ⟨m', hm, p5⟩ => ⟨m', hm, ls5, Δ5, G5, L5, c5, g2.trans g5, p5⟩, fun ls5 H5 g5 => s.wd ls5 H5 (g2.trans g5)⟩
  | false =>
    rw [if_neg Bool.false_ne_true] at k ⊢
    exact s.nx ls' σ' H2 Δ' G2 L2 c2 g2 k

/-! comprehensions -/
def W.add (w : W) (p : Addr) : W := ⟨fun a => w.R a ∨ a = p, w.gs, w.H0⟩
theorem rg_add {w : W} {p : Addr} {ls : List Addr} {a : Addr} : Rg (w.add p) ls a ↔ Rg w (ls ++ [p]) a := by
  unfold Rg W.add
  rw [List.mem_append, List.mem_singleton]
  constructor
  · rintro ((h | h) | h)
    · exact .inl h
    · exact .inr (.inr h)
    · exact .inr (.inl h)
  · rintro (h | h | h)
    · exact .inl (.inl h)
    · exact .inr h
    · exact .inl (.inr h)
theorem grow_iff {H : Hp} {R R' : Addr → Prop} (h : ∀ a, R' a → R a) : Grow H H R R' := ⟨fun _ _ e _ => e, fun a _ _ r => h a r⟩
theorem Ctx.hide {w : W} {ls : List Addr} {σ : L2.St} {H : Hp} (c : Ctx K w ls σ H Δ G L) {p : Addr} {o : HO} (h : H p = none) (nt : NoT o := by intro _ z; cases z) : Ctx K (w.add p) ls σ (upd H p o) Δ G L := by
  have g : Grow H (upd H p o) (Rg w ls) (Rg (w.add p) ls) := ((grow_reg h).trans (grow_iff fun a r => rg_add.mp r)).trans (grow_new h)
  have k := keep_new (o := o) h
  refine ⟨fun a r => .inl (c.reg a r), fun a r => ?_, c.nd, c.fr, fun a u e n => k a u (c.h0 a u e n), c.sl.grow g (Pre.refl _) (Pre.refl _),
    paired_map c.gl fun a m _ q => q.grow g (Pre.refl _) (Pre.refl _) (k a), paired_map c.lo fun a m _ q => q.grow g (Pre.refl _) (Pre.refl _) (k a), fun a m r => r.elim (c.ld a m) fun z => c.free h (.inr (z ▸ m))⟩
  rcases r with r | r
  · obtain ⟨u, e, n⟩ := c.rin a r
    exact ⟨u, k a u e, n⟩
  · subst r
    exact ⟨o, upd_same, nt⟩
theorem Ctx.setH {w : W} {ls : List Addr} {σ : L2.St} {H : Hp} {p : Addr} {o u : HO} (c : Ctx K (w.add p) ls σ H Δ G L) (h : H p = some u) (n0 : w.H0 p = none) (np : p ∉ w.gs) (nl : p ∉ ls) (nt : NoT o := by intro _ z; cases z) : Ctx K (w.add p) ls σ (upd H p o) Δ G L := by
  have g : Grow H (upd H p o) (Rg (w.add p) ls) (Rg (w.add p) ls) := grow_upd (.inl (.inr rfl))
  refine ⟨c.reg, fun a r => ?_, c.nd, c.fr, fun a u e n => ?_, c.sl.grow g (Pre.refl _) (Pre.refl _),
    paired_map c.gl fun a m ha q => q.grow g (Pre.refl _) (Pre.refl _) (upd_other fun z => np (z ▸ ha)), paired_map c.lo fun a m ha q => q.grow g (Pre.refl _) (Pre.refl _) (upd_other fun z => nl (z ▸ ha)), c.ld⟩
  · by_cases z : a = p
    · subst z
      exact ⟨_, upd_same, nt⟩
    · obtain ⟨u, e, n⟩ := c.rin a r
      exact ⟨u, by rw [upd_ne z]; exact e, n⟩
  · have z : a ≠ p := fun z => by
      rw [z] at e
      rw [show w.H0 p = some u from e] at n0
      cases n0
    rw [upd_ne z]
    exact c.h0 a u e n
theorem Ctx.show {w : W} {ls : List Addr} {σ : L2.St} {H : Hp} {p : Addr} {vs : List V} {ds : List D} (c : Ctx K (w.add p) ls σ H Δ G L) (hr : ∀ a ∈ w.gs, w.R a) (h : H p = some (.lst vs)) (r : RepL K H (Rg (w.add p) ls) ds vs) (n0 : w.H0 p = none) (np : p ∉ w.gs) (nl : p ∉ ls) (nR : ¬ w.R p) : NewAt K w ls σ H Δ G L p (.pl ds) := by
  have g1 : Grow H H (Rg (w.add p) ls) (Rg w (ls ++ [p])) := grow_iff fun a r => rg_add.mpr r
  have g2 : Grow H H (Rg (w.add p) ls) (Rg w ls) := grow_iff fun a r => by
    rcases r with r | r
    · exact .inl (.inl r)
    · exact .inr r
  refine ⟨⟨hr, fun a r => c.rin a (.inl r), ?_, ?_, c.h0, c.sl.grow g1 (Pre.refl _) (Pre.app _ _), paired_map c.gl fun a m _ q => q.grow g1 (Pre.refl _) (Pre.nil _) (fun _ z => z),
    paired_app (paired_map c.lo fun a m _ q => q.grow g1 (Pre.refl _) (Pre.app _ _) (fun _ z => z)) (.cons ⟨vs, h, r.grow g1⟩ .nil), fun a ha r => (List.mem_append.mp ha).elim (fun z => c.ld a z (.inl r)) fun z => nR ((List.mem_singleton.mp z) ▸ r)⟩,
    ⟨hr, fun a r => c.rin a (.inl r), c.nd, c.fr, c.h0, c.sl.grow g2 (Pre.refl _) (Pre.refl _), paired_map c.gl fun a m _ q => q.grow g2 (Pre.refl _) (Pre.refl _) (fun _ z => z),
    paired_map c.lo fun a m _ q => q.grow g2 (Pre.refl _) (Pre.refl _) (fun _ z => z), fun a m r => c.ld a m (.inl r)⟩, fun x e => ?_⟩
  · show (w.gs ++ (ls ++ [p])).Nodup
    rw [← List.append_assoc]
    refine List.nodup_append.mpr ⟨c.nd, by simp, fun a ha b hb => ?_⟩
    rw [List.mem_singleton] at hb
    subst hb
    rintro rfl
    rcases List.mem_append.mp ha with z | z
    · exact np z
    · exact nl z
  · intro a ha
    rcases List.mem_append.mp ha with z | z
    · exact c.fr a z
    · rw [List.mem_singleton] at z
      subst z
      exact n0
  · cases e
    refine ⟨p, vs, rfl, ⟨h, ?_⟩, r.grow g2⟩
    rintro (z | z)
    · exact nR z
    · exact nl z
def wipeD (Δ : Sl) : List Nat → Sl
  | [] => Δ
  | v :: vs => (wipeD Δ vs).set v none
theorem wipe_get {σ : L2.St} {k : Nat} : ∀ {vs : List Nat}, (wipe σ vs)[k]? = if k ∈ vs ∧ k < σ.length then some none else σ[k]?
  | [] => by simp [wipe]
  | v :: vs => by
    show ((wipe σ vs).set v none)[k]? = _
    rw [List.getElem?_set, wipe_length]
    by_cases hv : v = k
    · subst hv
      by_cases hl : v < σ.length
      · simp [hl]
      · simp [hl]
    · rw [if_neg hv, wipe_get (vs := vs)]
      have : (k ∈ v :: vs) ↔ k ∈ vs := by
        rw [List.mem_cons]
        exact ⟨fun h => h.resolve_left (fun z => hv z.symm), .inr⟩
      simp only [this]
theorem wipe_eq {σ σ' : L2.St} {vs : List Nat} (hl : σ'.length = σ.length) (h : ∀ k, ¬ k ∈ vs → σ'[k]? = (wipe σ vs)[k]?) : wipe σ' vs = wipe σ vs := by
  refine List.ext_getElem? fun k => ?_
  rw [wipe_get (σ := σ'), wipe_get (σ := σ)]
  by_cases hk : k ∈ vs
  · rw [hl]
    by_cases hlt : k < σ.length
    · simp [hk, hlt]
    · simp [hk, hlt]
      omega
  · rw [if_neg (fun z => hk z.1), if_neg (fun z => hk z.1), h k hk, wipe_get, if_neg (fun z => hk z.1)]
theorem SlOk.wipe {H : Hp} {R : Addr → Prop} {gs ls : List Addr} {σ : L2.St} (h : SlOk K H R gs ls σ Δ) : ∀ vs, SlOk K H R gs ls (wipe σ vs) (wipeD Δ vs)
  | [] => h
  | v :: vs => by
    have ih := SlOk.wipe h vs
    refine ⟨by show ((L2.wipe σ vs).set v none).length = ((wipeD Δ vs).set v none).length; rw [List.length_set, List.length_set, ih.1], fun j s e => ?_⟩
    have e : ((wipeD Δ vs).set v none)[j]? = some (some s) := e
    show ∃ x, ((L2.wipe σ vs).set v none)[j]? = some (some x) ∧ _
    rw [List.getElem?_set] at e ⊢
    split at e
    · split at e <;> cases e
    · rename_i hne
      rw [if_neg hne]
      exact ih.2 j s e
theorem Ctx.wipe {w : W} {ls : List Addr} {σ : L2.St} {H : Hp} (c : Ctx K w ls σ H Δ G L) (vs : List Nat) : Ctx K w ls (wipe σ vs) H (wipeD Δ vs) G L := ⟨c.reg, c.rin, c.nd, c.fr, c.h0, c.sl.wipe vs, c.gl, c.lo, c.ld⟩
theorem evn_lc {wi : TI} {g : TG} {vs : List Nat} {Qn : PoN} (h : EvI K wi Δ G L fun items G1 L1 => ∃ P : Nat → List D → List M → List M → Prop, P 0 [] G1 L1 ∧ items.length < sizeLine ∧
    (∀ i d acc G' L', items[i]? = some d → acc.length ≤ i → P i acc G' L' → TgC K g (· ∈ vs) (.d d) (wipeD Δ vs) G' L' fun Δ2 G2 L2 =>
      EvB K tt Δ2 G2 L2 fun b G3 L3 => if b = true then EvC K te Δ2 G3 L3 fun s G4 L4 => ∃ x, s = .d x ∧ P (i + 1) (acc ++ [x]) G4 L4 else P (i + 1) acc G3 L3) ∧
    ∀ acc G' L', P items.length acc G' L' → Qn (.pl acc) G' L') : EvN K (tLc wi g tt te vs) Δ G L Qn := fun w ls σ H c Q r =>
  h w ls σ H c _ fun J H1 items G1 L1 c1 e1 it ⟨P, p0, hz, ps, pe⟩ => fun D hD => by
    have nR := c1.free hD
    have n0 := c1.free0 hD
    have ng : D ∉ w.gs := fun z => nR (.inl (c1.reg D z))
    have nl : D ∉ ls := fun z => nR (.inr z)
    have cH := c1.hide (o := .lst []) hD
    have gH : Grow H1 (upd H1 D (.lst [])) (Rg w ls) (Rg (w.add D) ls) := ((grow_reg hD).trans (grow_iff fun a r => rg_add.mp r)).trans (grow_new hD)
    refine ⟨fun i m H' => m = items.length - i ∧ i ≤ items.length ∧ ∃ acc vs' G' L', Ctx K (w.add D) ls σ H' Δ G' L' ∧ Grow H1 H' (Rg w ls) (Rg (w.add D) ls) ∧ Ext w ls H1 H' ∧ H' D = some (.lst vs') ∧ RepL K H' (Rg (w.add D) ls) acc vs' ∧ acc.length ≤ i ∧ P i acc G' L',
      ⟨_, rfl, Nat.zero_le _, [], [], G1, L1, cH, gH, Ext.new hD, upd_same, rfl, Nat.le_refl _, p0⟩, ?_⟩
    rintro i m H' ⟨rfl, hi, acc, vs', G', L', c', g', e', hD', r', hl, p⟩
    by_cases hlt : i < items.length
    · obtain ⟨go, yl⟩ := it.go H' (w.add D) ls (wipe σ vs) (wipeD Δ vs) G' L' i _ g' (c'.wipe vs) (List.getElem?_eq_getElem hlt)
      refine .inr ⟨go, fun H2 => ∃ acc2 vs2 G2 L2, Ctx K (w.add D) ls σ H2 Δ G2 L2 ∧ Grow H1 H2 (Rg w ls) (Rg (w.add D) ls) ∧ Ext w ls H1 H2 ∧ H2 D = some (.lst vs2) ∧ RepL K H2 (Rg (w.add D) ls) acc2 vs2 ∧ acc2.length ≤ i + 1 ∧ P (i + 1) acc2 G2 L2,
        fun H2 ⟨acc2, vs2, G2, L2, q⟩ => ⟨_, by omega, rfl, hlt, acc2, vs2, G2, L2, q⟩, fun x H3 hy => ?_⟩
      obtain ⟨c3, e3, r3⟩ := yl x H3 hy
      refine ps i _ acc G' L' (List.getElem?_eq_getElem hlt) hl p (w.add D) ls _ H3 x c3 r3 _ fun σ4 H4 Δ4 G4 L4 c4 e4 l4 o4 k4 => ?_
      have hw : wipe σ4 vs = wipe σ vs := wipe_eq (l4.trans (wipe_length _ _)) o4
      -- back to σ, Δ: the slots of Δ stay what they are
      have back : ∀ H5 G5 L5, Ctx K (w.add D) ls σ4 H5 Δ4 G5 L5 → Ext (w.add D) ls H' H5 → Ctx K (w.add D) ls σ H5 Δ G5 L5 := fun H5 G5 L5 c5 e5 =>
        ⟨c5.reg, c5.rin, c5.nd, c5.fr, c5.h0, c'.sl.grow (e5.grow c'.reg) (Pre.refl _) (Pre.refl _), c5.gl, c5.lo, c5.ld⟩
      have exw : ∀ H5, Ext (w.add D) ls H' H5 → Ext w ls H1 H5 := fun H5 e5 a o h1 h2 h3 => e5 a o (e' a o h1 h2 h3) h2 h3
      refine ⟨hw, k4 (w.add D) ls σ4 H4 c4 _ fun b H5 G5 L5 c5 e5 k5 => ?_⟩
      have e45 : Ext (w.add D) ls H' H5 := (e3.trans e4).trans e5
      cases b with
      | true =>
        rw [if_pos rfl] at k5 ⊢
        refine k5 (w.add D) ls σ4 H5 c5 _ fun v s H6 G6 L6 c6 e6 r6 ⟨y, e, k6⟩ => ?_
        subst e
        have e46 := e45.trans e6
        have h6 : H6 D = some (.lst vs') := e46 D _ hD' ng nl
        have r6' := r'.grow (e46.grow c'.reg)
        have gu : Grow H6 (upd H6 D (.lst (vs' ++ [v]))) (Rg (w.add D) ls) (Rg (w.add D) ls) := grow_upd (.inl (.inr rfl))
        refine ⟨vs', h6, by rw [r'.length]; omega, acc ++ [y], vs' ++ [v], G6, L6, Ctx.setH (back H6 G6 L6 c6 e46) h6 n0 ng nl, g'.trans ((e46.grow c'.reg).trans gu), ?_, upd_same, (r6'.app (RepL.one r6)).grow gu, by rw [List.length_append]; show acc.length + 1 ≤ i + 1; omega, k6⟩
        intro a o h1 h2 h3
        rw [upd_ne (ne_of_none h1 hD)]
        exact exw H6 e46 a o h1 h2 h3
      | false =>
        rw [if_neg Bool.false_ne_true] at k5 ⊢
        exact ⟨acc, vs', G5, L5, back H5 G5 L5 c5 e45, g'.trans (e45.grow c'.reg), exw H5 e45, e45 D _ hD' ng nl, r'.grow (e45.grow c'.reg), by omega, k5⟩
    · have e : i = items.length := by omega
      subst e
      exact .inl ⟨it.stop H' (w.add D) ls g', r D _ H' G' L' (none_back c1 e1 hD) (c'.show c.reg hD' r' n0 ng nl (fun z => nR (.inl z))) (e1.trans e') (pe acc G' L' p)⟩
end
end
end DL

namespace DL
open PySem PySem.Spec PyProof.Rows L2
section
variable {K : PySem.W.Frag}
inductive Res where
  | v (s : S) | new (ms : List M) (k : Nat)
abbrev DSpec := List S → List M → (Res → List M → Prop) → Prop
def spD (K : PySem.W.Frag) (F : DSpec) : Sp := fun vs H Q _ => ∃ (w : W) (ss : List S) (G : List M) (Qd : Res → List M → Prop), w.H0 = H ∧ Ctx K w [] [] H [] G [] ∧ Paired (RS K H (Rg w []) w.gs []) ss vs ∧ F ss G Qd ∧
  (∀ v s H' G', Ctx K w [] [] H' [] G' [] → RS K H' (Rg w []) w.gs [] s v → Qd (.v s) G' → Q v H') ∧
  (∀ ps k p ms H' G', Ctx K w ps [] H' [] G' ms → ps[k]? = some p → Qd (.new ms k) G' → Q (.ref p) H')
def startD (N : List Str) (ss : List S) : Sl := ss.map some ++ List.replicate (N.length - ss.length) none
def endsD (Qd : Res → List M → Prop) : EndsD where
  nx := fun _ G _ => Qd (.v (.d .non)) G
  rt := fun s G L => match s with
    | .l k => Qd (.new L k) G
    | .d x => Qd (.v (.d x)) G
    | .g k => Qd (.v (.g k)) G
section
variable {w : W} {ls : List Addr} {σ : L2.St} {H : Hp} {Δ : Sl} {G L : List M}
theorem Ctx.forgetS (c : Ctx K w ls σ H Δ G L) : Ctx K w ls [] H [] G L := ⟨c.reg, c.rin, c.nd, c.fr, c.h0, ⟨rfl, fun i s e => by simp at e⟩, c.gl, c.lo, c.ld⟩
theorem grow_drop {H : Hp} {w : W} {ls : List Addr} : Grow H H (Rg w ls) (Rg w []) := ⟨fun _ _ e _ => e, fun a o e r => by
  rcases r with r | r
  · exact .inl r
  · cases r⟩
theorem Ctx.forget (c : Ctx K w ls σ H Δ G L) : Ctx K w [] [] H [] G [] :=
  ⟨c.reg, c.rin, by rw [List.append_nil]; exact (List.nodup_append.mp c.nd).1, fun _ h => (by cases h), c.h0, ⟨rfl, fun i s e => by simp at e⟩,
    paired_map c.gl fun a m _ q => q.grow grow_drop (Pre.refl _) (Pre.refl _) fun _ z => z, .nil, fun _ h => (by cases h)⟩
theorem paired_get_l {α β : Type} {F : α → β → Prop} : ∀ {as : List α} {bs : List β} {i : Nat} {a : α}, Paired F as bs → as[i]? = some a → ∃ b, bs[i]? = some b ∧ F a b
  | _, _, 0, _, .cons h t, e => by
    simp at e
    subst e
    exact ⟨_, rfl, h⟩
  | _, _, i + 1, _, .cons h t, e => by
    obtain ⟨a, q, r⟩ := paired_get_l (i := i) t (by simpa using e)
    exact ⟨a, by simpa using q, r⟩
theorem slok_start {R : Addr → Prop} {gs ls : List Addr} {N : List Str} {ss : List S} {vs : List V} (r : Paired (RS K H R gs ls) ss vs) : SlOk K H R gs ls (L2.start N vs) (startD N ss) := by
  have hl := paired_len r
  refine ⟨by unfold L2.start startD; rw [List.length_append, List.length_append, List.length_map, List.length_map, List.length_replicate, List.length_replicate, hl], fun i s e => ?_⟩
  unfold startD at e
  unfold L2.start
  by_cases hi : i < ss.length
  · rw [List.getElem?_append_left (by rw [List.length_map]; exact hi), List.getElem?_map] at e
    rw [List.getElem?_append_left (by rw [List.length_map, ← hl]; exact hi), List.getElem?_map]
    cases q : ss[i]? with
    | none =>
      rw [q] at e
      cases e
    | some z =>
      rw [q] at e
      have e : some (some z) = some (some s) := e
      cases e
      obtain ⟨v, hv, rr⟩ := paired_get_l r q
      exact ⟨v, by rw [hv]; rfl, rr⟩
  · rw [List.getElem?_append_right (by rw [List.length_map]; omega), List.getElem?_replicate] at e
    split at e <;> cases e
end
section
variable {P : Program} {w : World} {mg : Str → Option Value} {base : Heap}
theorem okD {x qual : Str} {st : Stmt} {f : Addr} {fd : FuncData} {N ps : List Str} {k : Nat} {sp : DSpec} (F : Fun K x qual st f fd) (S : FnScope N ps (defScope st)) (len : ∀ ss G Qd, sp ss G Qd → ss.length = ps.length)
    (hbody : ∀ (cdv : Value) (A : Around) (outer : List Env) (s : Shared) (H : Hp) (E : XK) (ss : List DL.S) (G : List M) (Qd : Res → List M → Prop), Room k (A.deeper (envOfC qual (defScope st) s.heap.objs.size f cdv)) → sp ss G Qd →
      ∃ t, PSs (cxOf CX0 P w K mg base N qual (defScope st) f cdv A outer s H E).nox (defBody st) t ∧ StC K t (startD N ss) G [] (endsD Qd)) : FnOk P w K mg base CX0 (k + 1) f fd ps (spD K sp) := by
  refine F.ok S (fun vs H Q E h => ?_) (fun cdv A outer s H vs Q E hr h => ?_)
  · obtain ⟨w, ss, G, Qd, _, _, r, q, _⟩ := h
    rw [← paired_len r]
    exact len ss G Qd q
  · obtain ⟨w, ss, G, Qd, h0, c, r, q, k1, k2⟩ := h
    obtain ⟨t, ht, hs⟩ := hbody cdv A outer s H E ss G Qd hr q
    refine ⟨t, ht, hs w [] (L2.start N vs) H ⟨c.reg, c.rin, c.nd, c.fr, c.h0, slok_start r, c.gl, c.lo, c.ld⟩ _ ⟨?_, ?_, ?_, ?_, fun _ _ _ => trivial⟩⟩
    · intro ls' σ' H' Δ' G' L' c' g' n'
      exact k1 .non (.d .non) H' G' c'.forget rfl n'
    · intro ls' σ' H' Δ' G' L' v z c' rz n'
      cases z with
      | d x => exact k1 v (.d x) H' G' c'.forget (Rep.grow grow_drop rz) n'
      | g j => exact k1 v (.g j) H' G' c'.forget rz n'
      | l j =>
        obtain ⟨a, ha, rfl⟩ := rz
        exact k2 ls' j a L' H' G' c'.forgetS ha n'
    · intro ls' σ' H' Δ' G' L' c' g' n'
      exact n'.elim
    · intro ls' σ' H' Δ' G' L' c' g' n'
      exact n'.elim
end

/-! ### calls -/
def noL : List S → Bool
  | [] => true
  | .l _ :: _ => false
  | _ :: r => noL r
theorem noL_rs {H : Hp} {R : Addr → Prop} {gs ls ls' : List Addr} : ∀ {ss : List S} {vs : List V}, noL ss = true → Paired (RS K H R gs ls) ss vs → Paired (RS K H R gs ls') ss vs
  | [], _, _, .nil => .nil
  | .d x :: r, _, h, .cons q t => .cons q (noL_rs (ss := r) h t)
  | .g x :: r, _, h, .cons q t => .cons q (noL_rs (ss := r) h t)
section
variable {Δ : Sl} {G L : List M} {Qd : Po} {ta : TA} {sp : DSpec} {E0' : XK}
def callee (w : W) (ls : List Addr) (H : Hp) : W := ⟨Rg w ls, w.gs, H⟩
theorem Ctx.callee {w : W} {ls : List Addr} {σ : L2.St} {H : Hp} (c : Ctx K w ls σ H Δ G L) : Ctx K (DL.callee w ls H) [] [] H [] G [] := by
  have g : Grow H H (Rg w ls) (Rg (DL.callee w ls H) []) := grow_iff fun a r => r.elim id (fun z => by cases z)
  refine ⟨fun a h => .inl (c.reg a h), fun a r => ?_, by rw [List.append_nil]; exact (List.nodup_append.mp c.nd).1, fun _ h => (by cases h), fun a o h _ => h, ⟨rfl, fun i s e => by simp at e⟩,
    paired_map c.gl fun a m _ q => q.grow g (Pre.refl _) (Pre.refl _) fun _ z => z, .nil, fun _ h => (by cases h)⟩
  rcases r with r | r
  · exact c.rin a r
  · exact c.lin r
theorem Ctx.back {w : W} {ls : List Addr} {σ : L2.St} {H H' : Hp} {G' ms : List M} {ps : List Addr} (c : Ctx K w ls σ H Δ G L) (c' : Ctx K (DL.callee w ls H) ps [] H' [] G' ms) : Ctx K w ls σ H' Δ G' L ∧ Ext w ls H H' := by
  have e : ∀ a o, H a = some o → a ∉ w.gs → H' a = some o := c'.h0
  have e2 : Ext w ls H H' := fun a o h n _ => e a o h n
  have g := e2.grow c.reg
  have nl : ∀ a ∈ ls, a ∉ w.gs := fun a h z => (List.nodup_append.mp c.nd).2.2 a z a h rfl
  have g3 : Grow H' H' (Rg (DL.callee w ls H) ps) (Rg w ls) := grow_iff fun a r => .inl r
  refine ⟨⟨c.reg, fun a r => c'.rin a (.inl r), c.nd, c.fr, fun a o h n => e a o (c.h0 a o h n) n, c.sl.grow g (Pre.refl _) (Pre.refl _),
    paired_map c'.gl fun a m _ q => q.grow g3 (Pre.refl _) (Pre.refl _) (fun _ z => z), paired_map c.lo fun a m ha q => q.grow g (Pre.refl _) (Pre.refl _) (fun o h => e a o h (nl a ha)), c.ld⟩, e2⟩
theorem new_free {w : W} {ls : List Addr} {σ : L2.St} {H H' : Hp} {G' ms : List M} {ps : List Addr} (c : Ctx K w ls σ H Δ G L) (c' : Ctx K (DL.callee w ls H) ps [] H' [] G' ms) {p : Addr} (hp : p ∈ ps) : H p = none ∧ ¬ Rg w ls p := ⟨c'.fr p hp, c.free (c'.fr p hp)⟩
theorem dat_rep {w : W} {ls : List Addr} {σ : L2.St} {H H' : Hp} {G' ms : List M} {ps : List Addr} (c : Ctx K w ls σ H Δ G L) (c' : Ctx K (DL.callee w ls H) ps [] H' [] G' ms) {k : Nat} {p : Addr} {m : M} {x : D} (hp : ps[k]? = some p) (hm : ms[k]? = some m) (hx : m.dat = some x) : Rep K H' (Rg w ls) x (.ref p) := by
  obtain ⟨_, nR⟩ := new_free c c' (List.mem_of_getElem? hp)
  obtain ⟨a, ha, q⟩ := paired_get c'.lo hm
  rw [hp] at ha
  cases ha
  have g3 : Grow H' H' (Rg (DL.callee w ls H) ps) (Rg w ls) := grow_iff fun a r => .inl r
  cases m with
  | pl ds =>
    cases hx
    obtain ⟨vs, h1, r⟩ := q
    exact ⟨p, vs, rfl, ⟨h1, nR⟩, r.grow g3⟩
  | hl xs => cases hx
  | dc ds =>
    cases hx
    obtain ⟨vs, h1, r⟩ := q
    exact ⟨p, vs, rfl, ⟨h1, nR⟩, r.grow g3⟩
  | ob C ds =>
    cases hx
    obtain ⟨dx, vs, h1, r⟩ := q
    exact ⟨p, dx, vs, rfl, ⟨h1, nR⟩, r.grow g3⟩
  | dh kvs => cases hx
  | dt kvs => cases hx
  | dz od kvs => cases hx
  | og C fs => cases hx
  | dq kvs => cases hx
def asV (Qd : Po) (L : List M) : Res → List M → Prop
  | .v s, G => Qd s G L
  | .new ms k, G => ∃ m x, ms[k]? = some m ∧ m.dat = some x ∧ Qd (.d x) G L
theorem sp_call {w : W} {ls : List Addr} {σ : L2.St} {H : Hp} {ss : List S} {vs : List V} {Q : VK} {E : XK} (c : Ctx K w ls σ H Δ G L) (r : Paired (RS K H (Rg w ls) w.gs ls) ss vs) (hn : noL ss = true) (h : sp ss G (asV Qd L)) (q : Ret K w ls σ Δ H Qd Q) : spD K sp vs H Q E := by
  have g : Grow H H (Rg w ls) (Rg (DL.callee w ls H) []) := grow_iff fun a r => r.elim id (fun z => by cases z)
  have g' : ∀ H', Grow H' H' (Rg (DL.callee w ls H) []) (Rg w ls) := fun H' => grow_iff fun a r => .inl r
  refine ⟨DL.callee w ls H, ss, G, asV Qd L, rfl, c.callee, paired_map (noL_rs hn r) fun a b _ z => z.grow g (Pre.refl _) (Pre.refl _), h, fun v s H' G' c' rs k => ?_, fun ps j p ms H' G' c' hp k => ?_⟩
  · obtain ⟨cb, eb⟩ := c.back c'
    exact q v s H' G' L cb eb (RS.grow (g' H') (Pre.refl _) (Pre.nil _) rs) k
  · obtain ⟨m, x, hm, hx, k⟩ := k
    obtain ⟨cb, eb⟩ := c.back c'
    exact q _ (.d x) H' G' L cb eb (dat_rep c c' hp hm hx) k
theorem evc_call (h : EvA K ta Δ G L fun ss G1 L1 => noL ss = true ∧ sp ss G1 (asV Qd L1)) : EvC K (tCall (spD K sp) [] E0' ta) Δ G L Qd := fun w ls σ H c Q r => h w ls σ H c _ fun vs ss H2 G2 L2 c2 e2 r2 ⟨hn, k⟩ => by
  show spD K sp (vs ++ []) H2 Q E0'
  rw [List.append_nil]
  exact sp_call c2 r2 hn k (r.ext e2)
def S.shift (n : Nat) : S → S
  | .l k => .l (n + k)
  | s => s
def M.shift (n : Nat) : M → M
  | .hl xs => .hl (xs.map (S.shift n))
  | .dh kvs => .dh (kvs.map fun p => (p.1, p.2.shift n))
  | .og C fs => .og C (fs.map fun p => (p.1, p.2.shift n))
  | .dq kvs => .dq (kvs.map fun p => (p.1, p.2.shift n))
  | m => m
theorem RS.shift {H : Hp} {R R' : Addr → Prop} {gs ls ps : List Addr} (g : Grow H H R R') : ∀ {s : S} {v : V}, RS K H R gs ps s v → RS K H R' gs (ls ++ ps) (s.shift ls.length) v
  | .d _, _, q => Rep.grow g q
  | .g _, _, q => q
  | .l k, _, ⟨b, hb, e⟩ => by
    refine ⟨b, ?_, e⟩
    rw [List.getElem?_append_right (Nat.le_add_right _ _), Nat.add_sub_cancel_left]
    exact hb
theorem paired_map2' {α β γ : Type} {F : α → β → Prop} {F' : γ → β → Prop} {f : α → γ} : ∀ {as : List α} {bs : List β}, Paired F as bs → (∀ a b, F a b → F' (f a) b) → Paired F' (as.map f) bs
  | _, _, .nil, _ => .nil
  | _, _, .cons h t, k => .cons (k _ _ h) (paired_map2' t k)
theorem MOk.shift {H : Hp} {R R' : Addr → Prop} {gs ls ps : List Addr} (g : Grow H H R R') {a : Addr} : ∀ {m : M}, MOk K H R gs ps a m → MOk K H R' gs (ls ++ ps) a (m.shift ls.length)
  | .pl _, ⟨vs, h, r⟩ => ⟨vs, h, RepL.grow g r⟩
  | .hl xs, ⟨vs, h, r⟩ => ⟨vs, h, by
    clear h
    induction r with
    | nil => exact .nil
    | cons q t ih =>
      refine .cons ?_ ih
      rename_i s v ss vs
      cases s with
      | d x => exact Rep.grow g q
      | g k => exact q
      | l k =>
        obtain ⟨b, hb, e⟩ := q
        refine ⟨b, ?_, e⟩
        rw [List.getElem?_append_right (Nat.le_add_right _ _), Nat.add_sub_cancel_left]
        exact hb⟩
  | .dc _, ⟨vs, h, r⟩ => ⟨vs, h, RepK.grow g r⟩
  | .ob _ _, ⟨dx, vs, h, r⟩ => ⟨dx, vs, h, RepF.grow g r⟩
  | .dh _, ⟨vs, h, r⟩ => ⟨vs, h, paired_map2' r fun _ _ q => ⟨q.1, q.2.shift g⟩⟩
  | .dt _, h => h
  | .dz _ _, h => h
  | .og _ _, ⟨dx, vs, h, r⟩ => ⟨dx, vs, h, paired_map2' r fun _ _ q => ⟨q.1, q.2.shift g⟩⟩
  | .dq _, ⟨vs, h, r⟩ => ⟨vs, h, paired_map2' r fun _ _ q => ⟨q.1, q.2.shift g⟩⟩
theorem paired_map2 {α β γ : Type} {F : α → β → Prop} {F' : α → γ → Prop} {f : β → γ} : ∀ {as : List α} {bs : List β}, Paired F as bs → (∀ a b, F a b → F' a (f b)) → Paired F' as (bs.map f)
  | _, _, .nil, _ => .nil
  | _, _, .cons h t, k => .cons (k _ _ h) (paired_map2 t k)
theorem Ctx.adopt {w : W} {ls : List Addr} {σ : L2.St} {H H' : Hp} {G' ms : List M} {ps : List Addr} (c : Ctx K w ls σ H Δ G L) (c' : Ctx K (DL.callee w ls H) ps [] H' [] G' ms) : Ctx K w (ls ++ ps) σ H' Δ G' (L ++ ms.map (M.shift L.length)) ∧ Grow H H' (Rg w ls) (Rg w (ls ++ ps)) := by
  have e : ∀ a o, H a = some o → a ∉ w.gs → H' a = some o := c'.h0
  have hl : ls.length = L.length := paired_len c.lo
  have nl : ∀ a ∈ ls, a ∉ w.gs := fun a h z => (List.nodup_append.mp c.nd).2.2 a z a h rfl
  have nps : ∀ a ∈ ps, H a = none := fun a h => c'.fr a h
  have g : Grow H H' (Rg w ls) (Rg w (ls ++ ps)) := ⟨fun a o h n => e a o h (fun z => n (.inl (c.reg a z))), fun a o h r => by
    rcases r with r | r
    · exact .inl r
    · rcases List.mem_append.mp r with r | r
      · exact .inr r
      · rw [nps a r] at h
        cases h⟩
  have g3 : Grow H' H' (Rg (DL.callee w ls H) ps) (Rg w (ls ++ ps)) := grow_iff fun a r => by
    rcases r with r | r
    · exact .inl (.inl r)
    · rcases List.mem_append.mp r with r | r
      · exact .inl (.inr r)
      · exact .inr r
  refine ⟨⟨c.reg, fun a r => c'.rin a (.inl r), ?_, ?_, fun a o h n => e a o (c.h0 a o h n) n, c.sl.grow g (Pre.refl _) (Pre.app _ _),
    paired_map c'.gl fun a m _ q => q.grow g3 (Pre.refl _) (Pre.refl _) (fun _ z => z), paired_app (paired_map c.lo fun a m ha q => q.grow g (Pre.refl _) (Pre.app _ _) (fun o h => e a o h (nl a ha))) ?_, fun a ha r => (List.mem_append.mp ha).elim (fun z => c.ld a z r) fun z => c.free (nps a z) (.inl r)⟩, g⟩
  · rw [← List.append_assoc]
    refine List.nodup_append.mpr ⟨c.nd, (List.nodup_append.mp c'.nd).2.1, fun a ha b hb z => ?_⟩
    subst z
    have n := nps a hb
    rcases List.mem_append.mp ha with z | z
    · obtain ⟨o, q, _⟩ := c.gin z
      rw [n] at q
      cases q
    · obtain ⟨o, q, _⟩ := c.lin z
      rw [n] at q
      cases q
  · intro a ha
    rcases List.mem_append.mp ha with z | z
    · exact c.fr a z
    · exact c.free0 (nps a z)
  · rw [← hl]
    exact paired_map2 c'.lo fun a m q => q.shift g3
theorem st_ownB {i : Nat} {E : EndsD} (h : EvA K ta Δ G L fun ss G1 L1 => noL ss = true ∧ sp ss G1 fun r G2 => ∃ ms k, r = .new ms k ∧ E.nx (Δ.set i (some (.l (L1.length + k)))) G2 (L1 ++ ms.map (M.shift L1.length))) : StC K (tAsg (tCall (spD K sp) [] E0' ta) (gName i)) Δ G L E := fun w ls σ H c D s => h w ls σ H c _ fun vs ss H2 G2 L2 c2 e2 r2 ⟨hn, k⟩ => by
  show spD K sp (vs ++ []) H2 _ E0'
  rw [List.append_nil]
  have g : Grow H2 H2 (Rg w ls) (Rg (DL.callee w ls H2) []) := grow_iff fun a r => r.elim id (fun z => by cases z)
  refine ⟨DL.callee w ls H2, ss, G2, _, rfl, c2.callee, paired_map (noL_rs hn r2) fun a b _ z => z.grow g (Pre.refl _) (Pre.refl _), k, fun v z H' G' c' rs ⟨ms, j, e, _⟩ => (by cases e), fun ps j p ms H' G' c' hp ⟨ms', j', e, k⟩ => ?_⟩
  cases e
  obtain ⟨ca, ga⟩ := c2.adopt c'
  have hl : ls.length = L2.length := paired_len c2.lo
  refine s.nx (ls ++ ps) _ H' _ G' _ (ca.slot (s := .l (L2.length + j)) ⟨p, ?_, rfl⟩) ((e2.grow c.reg).trans ga) k
  rw [← hl, List.getElem?_append_right (Nat.le_add_right _ _), Nat.add_sub_cancel_left]
  exact hp
def S.pro : S → S
  | .l k => .g k
  | s => s
def M.pro : M → M
  | .hl xs => .hl (xs.map S.pro)
  | .dh kvs => .dh (kvs.map fun p => (p.1, p.2.pro))
  | .og C fs => .og C (fs.map fun p => (p.1, p.2.pro))
  | .dq kvs => .dq (kvs.map fun p => (p.1, p.2.pro))
  | m => m
theorem RS.pro {H : Hp} {R : Addr → Prop} {ls : List Addr} : ∀ {s : S} {v : V}, RS K H R [] ls s v → RS K H R ls [] s.pro v
  | .d _, _, h => h
  | .g _, _, ⟨a, h, _⟩ => by simp at h
  | .l _, _, h => h
theorem MOk.pro {H : Hp} {R : Addr → Prop} {ls : List Addr} {a : Addr} : ∀ {m : M}, MOk K H R [] ls a m → MOk K H R ls [] a m.pro
  | .pl _, h => h
  | .hl _, ⟨vs, h, r⟩ => ⟨vs, h, by
    clear h
    induction r with
    | nil => exact .nil
    | cons q t ih => exact .cons q.pro ih⟩
  | .dc _, h => h
  | .ob _ _, h => h
  | .dh _, ⟨vs, h, r⟩ => ⟨vs, h, paired_map2' r fun _ _ q => ⟨q.1, q.2.pro⟩⟩
  | .dt _, h => h
  | .dz _ _, h => h
  | .og _ _, ⟨dx, vs, h, r⟩ => ⟨dx, vs, h, paired_map2' r fun _ _ q => ⟨q.1, q.2.pro⟩⟩
  | .dq _, ⟨vs, h, r⟩ => ⟨vs, h, paired_map2' r fun _ _ q => ⟨q.1, q.2.pro⟩⟩
end
end
end DL

namespace DL
open PySem PySem.Spec PyProof.Rows L2
section
variable {K : PySem.W.Frag}
/-! ### sequences -/
def seqG (G L : List M) : S → Option (List D)
  | .d (.tup ds) => some ds
  | .d (.scr ns) => some (ns.map .int)
  | s => lsG G L s
section
variable {w : W} {ls : List Addr} {σ : L2.St} {H : Hp} {Δ : Sl} {G L : List M}
theorem seqG_get {v : V} {s : S} {ds : List D} (c : Ctx K w ls σ H Δ G L) (r : RS K H (Rg w ls) w.gs ls s v) (h : seqG G L s = some ds) : ∃ a vs, v = .ref a ∧ (SqL K H a vs ∨ SqT K H a vs) ∧ RepL K H (Rg w ls) ds vs := by
  unfold seqG at h
  split at h
  · cases h
    obtain ⟨a, xs, rfl, h1, q⟩ := r
    exact ⟨a, xs, rfl, .inr h1.sq, q⟩
  · cases h
    obtain ⟨a, rfl, h1⟩ := r
    exact ⟨a, _, rfl, .inl h1.sq, RepL.ints⟩
  · obtain ⟨a, vs, e, h1, q⟩ := lsG_get c r h
    exact ⟨a, vs, e, .inl (.inl (.inl h1)), q⟩
end
section
variable {Δ : Sl} {G L : List M} {Qd : Po} {Qn : PoN} {te ta tb tc : TE}
/-! ### calls of built-ins -/
def ApC (K : PySem.W.Frag) (r : List V → Hp → VK → Prop) (ss : List S) (Δ : Sl) (G L : List M) (Qd : Po) : Prop :=
  ∀ w ls σ H vs, Ctx K w ls σ H Δ G L → Paired (RS K H (Rg w ls) w.gs ls) ss vs → ∀ Q, Ret K w ls σ Δ H Qd Q → r vs H Q
def ApN (K : PySem.W.Frag) (r : List V → Hp → VK → Prop) (ss : List S) (Δ : Sl) (G L : List M) (Qd : PoN) : Prop :=
  ∀ w ls σ H vs, Ctx K w ls σ H Δ G L → Paired (RS K H (Rg w ls) w.gs ls) ss vs → ∀ Q, RetN K w ls σ Δ H Qd Q → r vs H Q
theorem apn_c {r : List V → Hp → VK → Prop} {ss : List S} (h : ApN K r ss Δ G L fun m G1 L1 => ∃ x, m.dat = some x ∧ Qd (.d x) G1 L1) : ApC K r ss Δ G L Qd :=
  fun w ls σ H vs c rs Q q => h w ls σ H vs c rs Q fun p m H2 G2 L2 _ n e ⟨x, hx, k⟩ => q.go n.c e (s := .d x) (n.dat x hx) k
theorem evc_cb {r : List V → Hp → VK → Prop} {ta : TA} (h : EvA K ta Δ G L fun ss G1 L1 => ApC K r ss Δ G1 L1 Qd) : EvC K (tCB r ta) Δ G L Qd := fun w ls σ H c Q ret => h w ls σ H c _ fun vs ss H2 G2 L2 c2 e2 r2 k => k w ls σ H2 vs c2 r2 Q (ret.ext e2)
theorem evn_cb {r : List V → Hp → VK → Prop} {ta : TA} (h : EvA K ta Δ G L fun ss G1 L1 => ApN K r ss Δ G1 L1 Qn) : EvN K (tCB r ta) Δ G L Qn := fun w ls σ H c Q ret => h w ls σ H c _ fun vs ss H2 G2 L2 c2 e2 r2 k => k w ls σ H2 vs c2 r2 Q (ret.ext c2 e2)
theorem pair1 {F : S → V → Prop} {s : S} {vs : List V} (h : Paired F [s] vs) : ∃ v, vs = [v] ∧ F s v := by
  cases h with
  | cons q t =>
    cases t
    exact ⟨_, rfl, q⟩
theorem pair2 {F : S → V → Prop} {s t : S} {vs : List V} (h : Paired F [s, t] vs) : ∃ v u, vs = [v, u] ∧ F s v ∧ F t u := by
  cases h with
  | cons q t =>
    obtain ⟨u, rfl, r⟩ := pair1 t
    exact ⟨_, _, rfl, q, r⟩
def uLen (K : PySem.W.Frag) : List V → Hp → VK → Prop := fun xs H Q => ∃ x n, xs = [x] ∧ LenV K x H n ∧ Q (.int n) H
theorem uc_len {X : Cx} : CallR X (.builtin "len") (uLen X.K) := call_len
theorem ap_len {s : S} {ds : List D} (h : seqG G L s = some ds) (k : Qd (.d (.int (ds.length : Nat))) G L) : ApC K (uLen K) [s] Δ G L Qd := fun w ls σ H vs c rs Q q => by
  obtain ⟨v, rfl, r⟩ := pair1 rs
  obtain ⟨a, xs, rfl, h1, q1⟩ := seqG_get c r h
  refine ⟨_, ds.length, rfl, ?_, q.go c Ext.refl (s := .d (.int (ds.length : Nat))) rfl k⟩
  rcases h1 with h1 | h1
  · exact .inl ⟨xs, h1, q1.length.symm⟩
  · exact .inr ⟨xs, h1, q1.length.symm⟩
theorem ap_lenS {z : Str} (hz : z.length ≤ sizeLine) (k : Qd (.d (.int (z.length : Nat))) G L) : ApC K (uLen K) [.d (.str z)] Δ G L Qd := fun w ls σ H vs c rs Q q => by
  obtain ⟨v, rfl, r⟩ := pair1 rs
  cases r
  exact ⟨_, z.length, rfl, ⟨hz, rfl⟩, q.go c Ext.refl (s := .d (.int (z.length : Nat))) rfl k⟩
def rListQ (K : PySem.W.Frag) : List V → Hp → VK → Prop := fun xs H Q => ∃ p ys, xs = [.ref p] ∧ (SqL K H p ys ∨ SqT K H p ys) ∧ ∀ l, H l = none → Q (.ref l) (upd H l (.lst ys))
def signsV (z : Str) : List V := z.cps.toList.map fun c => V.str ⟨#[c]⟩
def signsD (z : Str) : List D := z.cps.toList.map fun c => D.str ⟨#[c]⟩
def rListS : List V → Hp → VK → Prop := fun xs H Q => ∃ z, xs = [.str z] ∧ z.length ≤ sizeLine ∧ ∀ l, H l = none → Q (.ref l) (upd H l (.lst (signsV z)))
theorem signs_vals {z : Str} {acc : Array Value} (h : ItemsOf (SignAt z) acc z.cps.size) : Vals (signsV z) acc.toList := by
  have key : ∀ (n : Nat) (cs : List Nat) (as : List Value), cs.length = as.length → (∀ (j : Nat) v, as[j]? = some v → ∃ c u, cs[j]? = some c ∧ v = .str ⟨#[c]⟩ u) → Vals (cs.map fun c => V.str ⟨#[c]⟩) as := by
    intro n cs
    induction cs with
    | nil =>
      intro as hl _
      cases as with
      | nil => exact .nil
      | cons _ _ => simp at hl
    | cons c cs ih =>
      intro as hl hp
      cases as with
      | nil => simp at hl
      | cons a as =>
        refine .cons ?_ (ih as (by simpa using hl) fun j v hv => ?_)
        · obtain ⟨c', u, h1, h2⟩ := hp 0 a rfl
          simp at h1
          subst h1
          exact ⟨u, h2⟩
        · have := hp (j + 1) v (by simpa using hv)
          simpa using this
  refine key 0 _ _ ?_ fun j v hv => ?_
  · rw [Array.length_toList, Array.length_toList, h.1]
  · obtain ⟨c, u, h1, h2⟩ := h.2 j v (by simpa using hv)
    exact ⟨c, u, by simpa using h1, h2⟩
theorem call_list_s {X : Cx} (hc : X.calm = true) : CallR X (.type "list") rListS := by
  intro pins s σ H xs us Q I r h
  obtain ⟨z, rfl, hz, q⟩ := h
  obtain ⟨u, rfl, t, rfl⟩ := vals1 r
  refine call_list_str (I.ok.hd hc) z t (fun h' tk acc' c' hk hS' hacc => ?_) hz
  have hv := signs_vals hacc
  refine ⟨.ref s.heap.objs.size, _, I.laid (t' := tk) hk (Nat.le_refl _) (show ObjOk X.prog X.w _ h' _ (.lst (signsV z)) from ⟨?_, acc'.toList, c', hv, by simpa using hS'⟩), rfl, q _ (I.hok.fresh (Nat.le_refl _))⟩
  unfold signsV
  rw [List.length_map]
  exact hz
def uList (K : PySem.W.Frag) : List V → Hp → VK → Prop := fun xs H Q => rListQ K xs H Q ∨ rListS xs H Q
theorem uc_list {X : Cx} (hc : X.calm = true) : CallR X (.type "list") (uList X.K) := CallR.or (r := rListQ X.K) call_list_of (call_list_s hc)
theorem ap_list {s : S} {ds : List D} (h : seqG G L s = some ds) (k : Qn (.pl ds) G L) : ApN K (uList K) [s] Δ G L Qn := fun w ls σ H vs c rs Q q => by
  obtain ⟨v, rfl, r⟩ := pair1 rs
  obtain ⟨a, xs, rfl, h1, q1⟩ := seqG_get c r h
  exact .inl ⟨a, xs, rfl, h1, fun l hl => q l _ _ _ _ hl (newAt_pl c hl q1) (Ext.new hl) k⟩
def uTuple (K : PySem.W.Frag) : List V → Hp → VK → Prop := fun xs H Q => ∃ p ys, xs = [.ref p] ∧ ((SqL K H p ys ∧ ∀ l, H l = none → Q (.ref l) (upd H l (.tup ys))) ∨ (SqT K H p ys ∧ Q (.ref p) H))
theorem uc_tuple {X : Cx} : CallR X (.type "tuple") (uTuple X.K) := call_tuple_of
theorem ap_tuple {s : S} {ds : List D} (h : lsG G L s = some ds) (k : Qd (.d (.tup ds)) G L) : ApC K (uTuple K) [s] Δ G L Qd := fun w ls σ H vs c rs Q q => by
  obtain ⟨v, rfl, r⟩ := pair1 rs
  obtain ⟨a, xs, rfl, h1, q1⟩ := lsG_get c r h
  exact ⟨a, xs, rfl, .inl ⟨.inl (.inl h1), fun l hl => q.go (c.new hl) (Ext.new hl) (s := .d (.tup ds)) (rep_tup c hl q1) k⟩⟩
def rInt1 : List V → Hp → VK → Prop := fun xs H Q => (∃ i, xs = [.int i] ∧ Q (.int i) H) ∨ ∃ k, xs = [.bl k] ∧ Q (.int (if k then 1 else 0)) H
theorem uc_int {X : Cx} : CallR X (.type "int") rInt1 := call_int1
theorem ap_int {i : Int} (k : Qd (.d (.int i)) G L) : ApC K rInt1 [.d (.int i)] Δ G L Qd := fun w ls σ H vs c rs Q q => by
  obtain ⟨v, rfl, r⟩ := pair1 rs
  cases r
  exact .inl ⟨i, rfl, q.go c Ext.refl (s := .d (.int i)) rfl k⟩
theorem ap_intB {b : Bool} (k : Qd (.d (.int (if b then 1 else 0))) G L) : ApC K rInt1 [.d (.bl b)] Δ G L Qd := fun w ls σ H vs c rs Q q => by
  obtain ⟨v, rfl, r⟩ := pair1 rs
  cases r
  exact .inr ⟨b, rfl, q.go c Ext.refl (s := .d (.int (if b then 1 else 0))) rfl k⟩

/-! ### slices -/
def SlC (K : PySem.W.Frag) (r : V → Option Int → Option Int → Hp → VK → Prop) (x : S) (lo hi : Option Int) (Δ : Sl) (G L : List M) (Qd : Po) : Prop :=
  ∀ w ls σ H vx, Ctx K w ls σ H Δ G L → RS K H (Rg w ls) w.gs ls x vx → ∀ Q, Ret K w ls σ Δ H Qd Q → r vx lo hi H Q
def SlN (K : PySem.W.Frag) (r : V → Option Int → Option Int → Hp → VK → Prop) (x : S) (lo hi : Option Int) (Δ : Sl) (G L : List M) (Qd : PoN) : Prop :=
  ∀ w ls σ H vx, Ctx K w ls σ H Δ G L → RS K H (Rg w ls) w.gs ls x vx → ∀ Q, RetN K w ls σ Δ H Qd Q → r vx lo hi H Q
def EvO (K : PySem.W.Frag) (to : TO) (Δ : Sl) (G L : List M) (Qo : Option Int → List M → List M → Prop) : Prop :=
  ∀ w ls σ H, Ctx K w ls σ H Δ G L → ∀ Q : Option Int → Hp → Prop, (∀ o H2 G2 L2, Ctx K w ls σ H2 Δ G2 L2 → Ext w ls H H2 → Qo o G2 L2 → Q o H2) → to σ H Q
theorem evo_none {Qo : Option Int → List M → List M → Prop} (k : Qo none G L) : EvO K tNoPart Δ G L Qo := fun w ls σ H c Q r => r none H G L c Ext.refl k
theorem evo_some {Qo : Option Int → List M → List M → Prop} (h : EvC K te Δ G L fun s G1 L1 => ∃ i, s = .d (.int i) ∧ Qo (some i) G1 L1) : EvO K (tPart te) Δ G L Qo := fun w ls σ H c Q r => h w ls σ H c _ fun v s H2 G2 L2 c2 e2 r2 ⟨i, e, k⟩ => by
  subst e
  exact ⟨i, r2, r (some i) H2 G2 L2 c2 e2 k⟩
theorem evc_sl {r : V → Option Int → Option Int → Hp → VK → Prop} {tl th : TO} (h : EvC K te Δ G L fun x G1 L1 => EvO K tl Δ G1 L1 fun lo G2 L2 => EvO K th Δ G2 L2 fun hi G3 L3 => SlC K r x lo hi Δ G3 L3 Qd) : EvC K (tSl r te tl th) Δ G L Qd :=
  fun w ls σ H c Q ret => h w ls σ H c _ fun v s H2 G2 L2 c2 e2 r2 h2 => h2 w ls σ H2 c2 _ fun lo H3 G3 L3 c3 e3 h3 => h3 w ls σ H3 c3 _ fun hi H4 G4 L4 c4 e4 h4 => h4 w ls σ H4 v c4 ((r2.on c2 e3).on c3 e4) Q (ret.ext (e2.trans (e3.trans e4)))
theorem evn_sl {r : V → Option Int → Option Int → Hp → VK → Prop} {tl th : TO} (h : EvC K te Δ G L fun x G1 L1 => EvO K tl Δ G1 L1 fun lo G2 L2 => EvO K th Δ G2 L2 fun hi G3 L3 => SlN K r x lo hi Δ G3 L3 Qn) : EvN K (tSl r te tl th) Δ G L Qn :=
  fun w ls σ H c Q ret => h w ls σ H c _ fun v s H2 G2 L2 c2 e2 r2 h2 => h2 w ls σ H2 c2 _ fun lo H3 G3 L3 c3 e3 h3 => h3 w ls σ H3 c3 _ fun hi H4 G4 L4 c4 e4 h4 => h4 w ls σ H4 v c4 ((r2.on c2 e3).on c3 e4) Q (ret.ext c4 (e2.trans (e3.trans e4)))
theorem sln_c {r : V → Option Int → Option Int → Hp → VK → Prop} {x : S} {lo hi : Option Int} (h : SlN K r x lo hi Δ G L fun m G1 L1 => ∃ x, m.dat = some x ∧ Qd (.d x) G1 L1) : SlC K r x lo hi Δ G L Qd :=
  fun w ls σ H vx c rx Q q => h w ls σ H vx c rx Q fun p m H2 G2 L2 _ n e ⟨x, hx, k⟩ => q.go n.c e (s := .d x) (n.dat x hx) k
def uSl (K : PySem.W.Frag) : V → Option Int → Option Int → Hp → VK → Prop := fun x lo hi H Q => rSlL K x lo hi H Q ∨ rSlS x lo hi H Q ∨ rSlA K x lo hi H Q
theorem us_sl {X : Cx} : SlR X (uSl X.K) := sl_list.or (sl_str.or sl_tupA)
def cutD (xs : List D) (lo hi : Option Int) : List D := (xs.drop (HT.sIx xs.length 0 lo)).take (HT.sIx xs.length xs.length hi - HT.sIx xs.length 0 lo)
theorem RepL.cut {H : Hp} {R : Addr → Prop} {ds : List D} {vs : List V} (r : RepL K H R ds vs) (lo hi : Option Int) : RepL K H R (cutD ds lo hi) (cutV vs lo hi) := by
  unfold cutD cutV
  rw [r.length]
  exact (r.drop _).take _
theorem sl_scr {ns : List Int} {lo hi : Option Int} (k : Qn (.pl (cutD (ns.map .int) lo hi)) G L) : SlN K (uSl K) (.d (.scr ns)) lo hi Δ G L Qn := fun w ls σ H v c r Q q => by
  obtain ⟨a, rfl, h1⟩ := r
  exact .inl ⟨a, _, rfl, h1.sq, fun p hp => q p _ _ _ _ hp (newAt_pl c hp (RepL.ints.cut lo hi)) (Ext.new hp) k⟩
theorem sl_s {z : Str} {lo hi : Option Int} (hz : z.length ≤ sizeLine) (k : Qd (.d (.str (cutS z lo hi))) G L) : SlC K (uSl K) (.d (.str z)) lo hi Δ G L Qd := fun w ls σ H v c r Q q =>
  .inr (.inl ⟨z, r, hz, q.go c Ext.refl (s := .d (.str (cutS z lo hi))) rfl k⟩)
theorem repL_rev {H : Hp} {R : Addr → Prop} : ∀ {ds : List D} {vs : List V}, RepL K H R ds vs → RepL K H R ds.reverse vs.reverse
  | [], _, h => by
    cases h
    rfl
  | d :: ds, _, ⟨y, ys, e, h, r⟩ => by
    subst e
    rw [List.reverse_cons, List.reverse_cons]
    exact (repL_rev r).app (RepL.one h)
/-! ### subscripts of lists with handles, stores -/
def hlG (G L : List M) : S → Option (List S)
  | .l k => match L[k]? with
    | some (.hl ds) => some ds
    | some (.pl ds) => some (ds.map .d)
    | _ => none
  | .g k => match G[k]? with
    | some (.hl ds) => some ds
    | some (.pl ds) => some (ds.map .d)
    | _ => none
  | _ => none
theorem hlG_get {w : W} {ls : List Addr} {σ : L2.St} {H : Hp} {v : V} {s : S} {ds : List S} (c : Ctx K w ls σ H Δ G L) (r : RS K H (Rg w ls) w.gs ls s v) (h : hlG G L s = some ds) : ∃ a vs, v = .ref a ∧ H a = some (.lst vs) ∧ Paired (RS K H (Rg w ls) w.gs ls) ds vs := by
  unfold hlG at h
  split at h
  · rename_i k
    split at h
    · rename_i ds' hk
      cases h
      obtain ⟨a, ha, rfl⟩ := r
      obtain ⟨b, hb, vs, h1, q⟩ := paired_get c.lo hk
      rw [ha] at hb
      cases hb
      exact ⟨a, vs, rfl, h1, q⟩
    · rename_i ds' hk
      cases h
      obtain ⟨a, ha, rfl⟩ := r
      obtain ⟨b, hb, vs, h1, q⟩ := paired_get c.lo hk
      rw [ha] at hb
      cases hb
      exact ⟨a, vs, rfl, h1, repL_rs q⟩
    · cases h
  · rename_i k
    split at h
    · rename_i ds' hk
      cases h
      obtain ⟨a, ha, rfl⟩ := r
      obtain ⟨b, hb, vs, h1, q⟩ := paired_get c.gl hk
      rw [ha] at hb
      cases hb
      exact ⟨a, vs, rfl, h1, paired_map q fun _ _ _ z => z.grow (Grow.refl _ _) (Pre.refl _) (Pre.nil _)⟩
    · rename_i ds' hk
      cases h
      obtain ⟨a, ha, rfl⟩ := r
      obtain ⟨b, hb, vs, h1, q⟩ := paired_get c.gl hk
      rw [ha] at hb
      cases hb
      exact ⟨a, vs, rfl, h1, repL_rs q⟩
    · cases h
  · cases h
theorem atI_some {α : Type} {xs : List α} {i : Int} {x : α} (h : atI xs i = some x) : ∃ j, ixN xs.length i = some j ∧ xs[j]? = some x := by
  unfold atI at h
  cases e : ixN xs.length i with
  | none =>
    rw [e] at h
    cases h
  | some j =>
    rw [e] at h
    exact ⟨j, rfl, h⟩
theorem u_ix_h {x : S} {xs : List S} {i : Int} {s : S} (hx : hlG G L x = some xs) (hi : atI xs i = some s) (k : Qd s G L) : OpC K (rIx K) x (.d (.int i)) Δ G L Qd := fun w ls σ H vx vy c rx ry Q q => by
  obtain ⟨a, vs, rfl, h1, q1⟩ := hlG_get c rx hx
  obtain ⟨j, e, hj⟩ := atI_some hi
  obtain ⟨v, hv, r⟩ := paired_get_l q1 hj
  refine .inl ⟨a, vs, i, v, rfl, ry, .inl (.inl h1), ?_, q.go c Ext.refl r k⟩
  unfold atI
  rw [← paired_len q1, e]
  exact hv
theorem u_ix_g {x : S} {xs : List D} {i : Int} {d : D} (hx : seqG G L x = some xs) (hi : atI xs i = some d) (k : Qd (.d d) G L) : OpC K (rIx K) x (.d (.int i)) Δ G L Qd := fun w ls σ H vx vy c rx ry Q q => by
  obtain ⟨a, vs, rfl, h1, q1⟩ := seqG_get c rx hx
  obtain ⟨j, e, hj⟩ := atI_some hi
  obtain ⟨v, hv, r⟩ := q1.get hj
  have ha : atI vs i = some v := by
    unfold atI
    rw [q1.length, e]
    exact hv
  rcases h1 with h1 | h1
  · exact .inl ⟨a, vs, i, v, rfl, ry, h1, ha, q.go c Ext.refl (s := .d d) r k⟩
  · exact .inr (.inl ⟨a, vs, i, v, rfl, ry, h1, ha, q.go c Ext.refl (s := .d d) r k⟩)
def StoC (K : PySem.W.Frag) (r : TSet) (o i v : S) (Δ : Sl) (G L : List M) (Qt : List M → List M → Prop) : Prop :=
  ∀ w ls σ H vo vi vv, Ctx K w ls σ H Δ G L → RS K H (Rg w ls) w.gs ls o vo → RS K H (Rg w ls) w.gs ls i vi → RS K H (Rg w ls) w.gs ls v vv → ∀ Q : Hp → Prop,
    (∀ H2 G2 L2, Ctx K w ls σ H2 Δ G2 L2 → Ext w ls H H2 → Qt G2 L2 → Q H2) → r vo vi vv H Q
theorem tg_sub {to ti : TE} {t : TSet} {s : S} {Qt : PoT} {ok : Nat → Prop} (h : EvC K to Δ G L fun o G1 L1 => EvC K ti Δ G1 L1 fun i G2 L2 => StoC K t o i s Δ G2 L2 fun G3 L3 => Qt Δ G3 L3) : TgC K (gSub to ti t) ok s Δ G L Qt :=
  fun w ls σ H v c r Q q => h w ls σ H c _ fun vo o H2 G2 L2 c2 e2 r2 h2 => h2 w ls σ H2 c2 _ fun vi i H3 G3 L3 c3 e3 r3 h3 =>
    h3 w ls σ H3 vo vi v c3 (r2.on c2 e3) r3 ((r.on c e2).on c2 e3) _ fun H4 G4 L4 c4 e4 k => q σ H4 Δ G4 L4 c4 (e2.trans (e3.trans e4)) rfl (fun _ _ => rfl) k
theorem repL_set {H : Hp} {R : Addr → Prop} : ∀ {ds : List D} {vs : List V} {j : Nat} {d : D} {v : V}, RepL K H R ds vs → Rep K H R d v → RepL K H R (ds.set j d) (vs.set j v)
  | [], _, _, _, _, h, _ => by
    cases h
    rfl
  | _ :: _, _, 0, _, _, ⟨y, ys, e, h, r⟩, q => by
    subst e
    exact ⟨_, _, rfl, q, r⟩
  | _ :: _, _, j + 1, _, _, ⟨y, ys, e, h, r⟩, q => by
    subst e
    exact ⟨_, _, rfl, h, repL_set r q⟩
theorem sto_lp {k : Nat} {xs : List D} {i : Int} {j : Nat} {x : D} {Qt : List M → List M → Prop} (hx : L[k]? = some (.pl xs)) (hj : ixN xs.length i = some j) (q : Qt G (L.set k (.pl (xs.set j x)))) : StoC K rSetL (.l k) (.d (.int i)) (.d x) Δ G L Qt := fun w ls σ H vo vi vv c ro ri rv Q ret => by
  obtain ⟨a, ha, rfl⟩ := ro
  obtain ⟨b, hb, vs, h1, r⟩ := paired_get c.lo hx
  rw [ha] at hb
  cases hb
  cases ri
  have g : Grow H (upd H a (.lst (vs.set j vv))) (Rg w ls) (Rg w ls) := grow_upd (.inr (List.mem_of_getElem? ha))
  exact ⟨a, vs, i, j, rfl, rfl, h1, by rw [r.length]; exact hj, ret _ _ _ (c.setL (m := .pl _) ha ⟨_, upd_same, (repL_set r rv).grow g⟩) (Ext.setL (List.mem_of_getElem? ha)) q⟩

/-! ### methods -/
def MtC (K : PySem.W.Frag) (r : V → List V → Hp → VK → Prop) (x : S) (ss : List S) (Δ : Sl) (G L : List M) (Qd : Po) : Prop :=
  ∀ w ls σ H vx vs, Ctx K w ls σ H Δ G L → RS K H (Rg w ls) w.gs ls x vx → Paired (RS K H (Rg w ls) w.gs ls) ss vs → ∀ Q, Ret K w ls σ Δ H Qd Q → r vx vs H Q
def tyS (G L : List M) (T : String) (s : S) : Prop := (T = "list" ∧ ((∃ ds, lsG G L s = some ds) ∨ ∃ ds, hlG G L s = some ds)) ∨ (T = "str" ∧ ∃ z, s = .d (.str z))
theorem tyS_ok {w : W} {ls : List Addr} {σ : L2.St} {H : Hp} {T : String} {s : S} {v : V} (c : Ctx K w ls σ H Δ G L) (r : RS K H (Rg w ls) w.gs ls s v) (h : tyS G L T s) : tyV K T v H := by
  rcases h with ⟨rfl, ⟨ds, h⟩ | ⟨ds, h⟩⟩ | ⟨rfl, z, rfl⟩
  · obtain ⟨a, vs, rfl, h1, _⟩ := lsG_get c r h
    exact .inl ⟨rfl, vs, .inl (.inl h1)⟩
  · obtain ⟨a, vs, rfl, h1, _⟩ := hlG_get c r h
    exact .inl ⟨rfl, vs, .inl (.inl h1)⟩
  · cases r
    rfl
theorem evc_bm {T : String} {r : V → List V → Hp → VK → Prop} {to : TE} {t : TA} (h : EvC K to Δ G L fun x G1 L1 => tyS G1 L1 T x ∧ EvA K t Δ G1 L1 fun ss G2 L2 => MtC K r x ss Δ G2 L2 Qd) : EvC K (tBM K T r to t) Δ G L Qd :=
  fun w ls σ H c Q ret => h w ls σ H c _ fun v s H2 G2 L2 c2 e2 r2 ⟨ht, h2⟩ => ⟨tyS_ok c2 r2 ht, h2 w ls σ H2 c2 _ fun vs ss H3 G3 L3 c3 e3 r3 h3 => h3 w ls σ H3 v vs c3 (r2.on c2 e3) r3 Q (ret.ext (e2.trans e3))⟩
theorem evc_bm0 {T : String} {r : V → List V → Hp → VK → Prop} {to : TE} (h : EvC K to Δ G L fun x G1 L1 => tyS G1 L1 T x ∧ MtC K r x [] Δ G1 L1 Qd) : EvC K (tBM0 K T r to) Δ G L Qd :=
  fun w ls σ H c Q ret => h w ls σ H c _ fun v s H2 G2 L2 c2 e2 r2 ⟨ht, h2⟩ => ⟨tyS_ok c2 r2 ht, h2 w ls σ H2 v [] c2 r2 .nil Q (ret.ext e2)⟩
theorem evc_m0 {r : V → List V → Hp → VK → Prop} {to : TE} (h : EvC K to Δ G L fun x G1 L1 => (∃ z, x = .d (.str z)) ∧ MtC K r x [] Δ G1 L1 Qd) : EvC K (tM0 r to) Δ G L Qd :=
  fun w ls σ H c Q ret => h w ls σ H c _ fun v s H2 G2 L2 c2 e2 r2 ⟨⟨z, e⟩, h2⟩ => ⟨by subst e; exact ⟨z, r2⟩, h2 w ls σ H2 v [] c2 r2 .nil Q (ret.ext e2)⟩
theorem evc_m1 {r : V → List V → Hp → VK → Prop} {to ta : TE} (h : EvC K to Δ G L fun x G1 L1 => (∃ z, x = .d (.str z)) ∧ EvC K ta Δ G1 L1 fun y G2 L2 => MtC K r x [y] Δ G2 L2 Qd) : EvC K (tM1 r to ta) Δ G L Qd :=
  fun w ls σ H c Q ret => h w ls σ H c _ fun v s H2 G2 L2 c2 e2 r2 ⟨⟨z, e⟩, h2⟩ => ⟨by subst e; exact ⟨z, r2⟩, h2 w ls σ H2 c2 _ fun vs ss H3 G3 L3 c3 e3 r3 h3 => h3 w ls σ H3 v [vs] c3 (r2.on c2 e3) (.cons r3 .nil) Q (ret.ext (e2.trans e3))⟩
theorem mt_app_l {k : Nat} {ds : List D} {x : D} (h : L[k]? = some (.pl ds)) (hl : ds.length < sizeLine) (q : Qd (.d .non) G (L.set k (.pl (ds ++ [x])))) : MtC K rAppend (.l k) [.d x] Δ G L Qd := fun w ls σ H vo vs c ro rs Q ret => by
  obtain ⟨v, rfl, r⟩ := pair1 rs
  obtain ⟨a, ha, rfl⟩ := ro
  obtain ⟨b, hb, us, h1, r1⟩ := paired_get c.lo h
  rw [ha] at hb
  cases hb
  have g : Grow H (upd H a (.lst (us ++ [v]))) (Rg w ls) (Rg w ls) := grow_upd (.inr (List.mem_of_getElem? ha))
  exact ⟨a, us, v, rfl, rfl, h1, by rw [r1.length]; exact hl, ret.go (c.setL (m := .pl _) ha ⟨_, upd_same, (r1.app (RepL.one r)).grow g⟩) (Ext.setL (List.mem_of_getElem? ha)) (s := .d .non) rfl q⟩
theorem mt_app_g {k : Nat} {ds : List D} {x : D} (h : G[k]? = some (.pl ds)) (hl : ds.length < sizeLine) (q : Qd (.d .non) (G.set k (.pl (ds ++ [x]))) L) : MtC K rAppend (.g k) [.d x] Δ G L Qd := fun w ls σ H vo vs c ro rs Q ret => by
  obtain ⟨v, rfl, r⟩ := pair1 rs
  obtain ⟨a, ha, rfl⟩ := ro
  obtain ⟨b, hb, us, h1, r1⟩ := paired_get c.gl h
  rw [ha] at hb
  cases hb
  have g : Grow H (upd H a (.lst (us ++ [v]))) (Rg w ls) (Rg w ls) := grow_upd (.inl (c.reg a (List.mem_of_getElem? ha)))
  exact ⟨a, us, v, rfl, rfl, h1, by rw [r1.length]; exact hl, ret.go (c.setG (m := .pl _) ha ⟨_, upd_same, (r1.app (RepL.one r)).grow g⟩) (Ext.setG (List.mem_of_getElem? ha)) (s := .d .non) rfl q⟩
theorem repL_dropLast {H : Hp} {R : Addr → Prop} {ds : List D} {vs : List V} (r : RepL K H R ds vs) : RepL K H R ds.dropLast vs.dropLast := by
  rw [List.dropLast_eq_take, List.dropLast_eq_take, r.length]
  exact r.take _
theorem mt_pop_g {k : Nat} {ds : List D} {x : D} (h : G[k]? = some (.pl ds)) (hx : ds[ds.length - 1]? = some x) (q : Qd (.d x) (G.set k (.pl ds.dropLast)) L) : MtC K rPop (.g k) [] Δ G L Qd := fun w ls σ H vo vs c ro rs Q ret => by
  cases rs
  obtain ⟨a, ha, rfl⟩ := ro
  obtain ⟨b, hb, us, h1, r1⟩ := paired_get c.gl h
  rw [ha] at hb
  cases hb
  obtain ⟨y, hy, ry⟩ := r1.get hx
  have g : Grow H (upd H a (.lst us.dropLast)) (Rg w ls) (Rg w ls) := grow_upd (.inl (c.reg a (List.mem_of_getElem? ha)))
  exact ⟨a, us, y, rfl, rfl, h1, by rw [r1.length]; exact hy, ret.go (c.setG (m := .pl _) ha ⟨_, upd_same, (repL_dropLast r1).grow g⟩) (Ext.setG (List.mem_of_getElem? ha)) (s := .d x) (ry.grow g) q⟩
theorem mt_upper_d {z : Str} (hz : z.length ≤ 5592405) (k : Qd (.d (.str (Txt.upper z))) G L) : MtC K (fun x xs H Q => ∃ a, x = .str a ∧ xs = [] ∧ a.length ≤ 5592405 ∧ Q (.str (Txt.upper a)) H) (.d (.str z)) [] Δ G L Qd := fun w ls σ H vo vs c ro rs Q ret => by
  cases rs
  exact ⟨z, ro, rfl, hz, ret.go c Ext.refl (s := .d (.str (Txt.upper z))) rfl k⟩
end
end
end DL

namespace DL
open PySem PySem.Spec PyProof.Rows L2
section
variable {K : PySem.W.Frag}
/-! ### equality of data -/
mutual
def D.py : D → Option PyData
  | .non => some .none
  | .bl b => some (.bool b)
  | .int i => some (.int i)
  | .str x => some (.str x)
  | .tup ds => match pyL ds with
    | some xs => some (.tuple xs)
    | none => none
  | .lst ds => match pyL ds with
    | some xs => some (.list xs)
    | none => none
  | _ => none
def pyL : List D → Option (List PyData)
  | [] => some []
  | d :: ds => match d.py, pyL ds with
    | some x, some xs => some (x :: xs)
    | _, _ => none
end
mutual
theorem rep_dp {H : Hp} {R : Addr → Prop} : ∀ {d : D} {v : V} {p : PyData}, d.py = some p → Rep K H R d v → Dp K H v p
  | .non, _, _, e, h => by
    cases e
    cases h
    exact .non
  | .bl _, _, _, e, h => by
    cases e
    cases h
    exact .bl _
  | .int _, _, _, e, h => by
    cases e
    cases h
    exact .int _
  | .str _, _, _, e, h => by
    cases e
    cases h
    exact .str _
  | .tup ds, _, _, e, ⟨a, xs, e1, h, r⟩ => by
    unfold D.py at e
    split at e
    · rename_i ps hp
      cases e
      subst e1
      exact .tup h.sq (repL_dp hp r)
    · cases e
  | .lst ds, _, _, e, ⟨a, xs, e1, ⟨h, _⟩, r⟩ => by
    unfold D.py at e
    split at e
    · rename_i ps hp
      cases e
      subst e1
      exact .lst (.inl (.inl h)) (repL_dp hp r)
    · cases e
  | .ty _, _, _, e, _ => by cases e
  | .ref _, _, _, e, _ => by cases e
  | .scr _, _, _, e, _ => by cases e
  | .dct _, _, _, e, _ => by cases e
  | .ins _ _, _, _, e, _ => by cases e
  | .exn _ _ _, _, _, e, _ => by cases e
  | .exv _ _, _, _, e, _ => by cases e
theorem repL_dp {H : Hp} {R : Addr → Prop} : ∀ {ds : List D} {vs : List V} {ps : List PyData}, pyL ds = some ps → RepL K H R ds vs → DpAll K H vs ps
  | [], _, _, e, h => by
    cases e
    cases h
    exact .nil
  | d :: ds, _, _, e, ⟨y, ys, e1, h, r⟩ => by
    unfold pyL at e
    split at e
    · rename_i p ps hp hps
      cases e
      subst e1
      exact .cons (rep_dp hp h) (repL_dp hps r)
    · cases e
end
def valG (G L : List M) : S → Option D
  | .d x => some x
  | .l k => match L[k]? with
    | some (.pl ds) => some (.lst ds)
    | _ => none
  | .g k => match G[k]? with
    | some (.pl ds) => some (.lst ds)
    | _ => none
theorem valG_dp {w : W} {ls : List Addr} {σ : L2.St} {H : Hp} {Δ : Sl} {G L : List M} {v : V} {s : S} {x : D} {p : PyData} (c : Ctx K w ls σ H Δ G L) (r : RS K H (Rg w ls) w.gs ls s v) (h : valG G L s = some x) (hp : x.py = some p) : Dp K H v p := by
  unfold valG at h
  split at h
  · cases h
    exact rep_dp hp r
  · rename_i k
    split at h
    · rename_i ds hk
      cases h
      have q : lsG G L (.l k) = some ds := by
        simp only [lsG, hk]
      obtain ⟨a, vs, rfl, h1, r1⟩ := lsG_get c r q
      unfold D.py at hp
      split at hp
      · rename_i ps hps
        cases hp
        exact .lst (.inl (.inl h1)) (repL_dp hps r1)
      · cases hp
    · cases h
  · rename_i k
    split at h
    · rename_i ds hk
      cases h
      have q : lsG G L (.g k) = some ds := by
        simp only [lsG, hk]
      obtain ⟨a, vs, rfl, h1, r1⟩ := lsG_get c r q
      unfold D.py at hp
      split at hp
      · rename_i ps hps
        cases hp
        exact .lst (.inl (.inl h1)) (repL_dp hps r1)
      · cases hp
    · cases h
def uEq (K : PySem.W.Frag) : R2 := fun x y H Q => rEq x y H Q ∨ rEqD K x y H Q
def uNe (K : PySem.W.Frag) : R2 := fun x y H Q => rNe x y H Q ∨ rNeD K x y H Q
theorem uo_eq {X : Cx} (hu : X.A.units + 64 < cLine) : OpR X (compareOp .Eq) (uEq X.K) := op_eq.or (op_eqD hu)
theorem uo_ne {X : Cx} (hu : X.A.units + 64 < cLine) : OpR X (compareOp .NotEq) (uNe X.K) := op_ne.or (op_neD hu)
section
variable {Δ : Sl} {G L : List M} {Qd : Po}
theorem u_eq_i {i j : Int} (k : Qd (.d (.bl (decide (i = j)))) G L) : OpC K (uEq K) (.d (.int i)) (.d (.int j)) Δ G L Qd := fun w ls σ H vx vy c rx ry Q q => by
  cases rx
  cases ry
  refine .inl ⟨rfl, ?_⟩
  have e : decide (V.int i = V.int j) = decide (i = j) := by simp
  rw [e]
  exact q.go c Ext.refl (s := .d (.bl (decide (i = j)))) rfl k
theorem u_ne_i {i j : Int} (k : Qd (.d (.bl (!decide (i = j)))) G L) : OpC K (uNe K) (.d (.int i)) (.d (.int j)) Δ G L Qd := fun w ls σ H vx vy c rx ry Q q => by
  cases rx
  cases ry
  refine .inl ⟨rfl, ?_⟩
  have e : decide (V.int i = V.int j) = decide (i = j) := by simp
  rw [e]
  exact q.go c Ext.refl (s := .d (.bl (!decide (i = j)))) rfl k
theorem u_eq_s {i j : Str} (k : Qd (.d (.bl (decide (i = j)))) G L) : OpC K (uEq K) (.d (.str i)) (.d (.str j)) Δ G L Qd := fun w ls σ H vx vy c rx ry Q q => by
  cases rx
  cases ry
  refine .inl ⟨rfl, ?_⟩
  have e : decide (V.str i = V.str j) = decide (i = j) := by simp
  rw [e]
  exact q.go c Ext.refl (s := .d (.bl (decide (i = j)))) rfl k
theorem u_ne_s {i j : Str} (k : Qd (.d (.bl (!decide (i = j)))) G L) : OpC K (uNe K) (.d (.str i)) (.d (.str j)) Δ G L Qd := fun w ls σ H vx vy c rx ry Q q => by
  cases rx
  cases ry
  refine .inl ⟨rfl, ?_⟩
  have e : decide (V.str i = V.str j) = decide (i = j) := by simp
  rw [e]
  exact q.go c Ext.refl (s := .d (.bl (!decide (i = j)))) rfl k
theorem u_eq_d {x y : S} {a b : D} {p q : PyData} (hx : valG G L x = some a) (hy : valG G L y = some b) (hp : a.py = some p) (hq : b.py = some q) (sp : SeqAt.shaped p = true) (sq : SeqAt.shaped q = true) (k : Qd (.d (.bl (PyData.eqv p q))) G L) : OpC K (uEq K) x y Δ G L Qd := fun w ls σ H vx vy c rx ry Q ret =>
  .inr ⟨p, q, valG_dp c rx hx hp, valG_dp c ry hy hq, sp, sq, ret.go c Ext.refl (s := .d (.bl (PyData.eqv p q))) rfl k⟩
theorem u_ne_d {x y : S} {a b : D} {p q : PyData} (hx : valG G L x = some a) (hy : valG G L y = some b) (hp : a.py = some p) (hq : b.py = some q) (sp : SeqAt.shaped p = true) (sq : SeqAt.shaped q = true) (k : Qd (.d (.bl (!PyData.eqv p q))) G L) : OpC K (uNe K) x y Δ G L Qd := fun w ls σ H vx vy c rx ry Q ret =>
  .inr ⟨p, q, valG_dp c rx hx hp, valG_dp c ry hy hq, sp, sq, ret.go c Ext.refl (s := .d (.bl (!PyData.eqv p q))) rfl k⟩
theorem py_ints : ∀ ns : List Int, pyL (ns.map D.int) = some (ns.map PyData.int)
  | [] => rfl
  | n :: ns => by
    show (match (D.int n).py, pyL (ns.map D.int) with
      | some x, some xs => some (x :: xs)
      | _, _ => none) = _
    rw [py_ints ns]
    rfl
theorem canLay_ints : ∀ ns : List Int, PyData.canLayAll0 (ns.map PyData.int) = true
  | [] => rfl
  | n :: ns => by
    show (PyData.canLay0 (.int n) && PyData.canLayAll0 (ns.map PyData.int)) = true
    rw [canLay_ints ns]
    rfl
theorem depth_ints : ∀ ns : List Int, PyData.depthAll (ns.map PyData.int) ≤ 1
  | [] => by simp [PyData.depthAll]
  | n :: ns => by
    have := depth_ints ns
    simp only [List.map_cons, PyData.depthAll, PyData.depth]
    omega
theorem shaped_ints (ns : List Int) : SeqAt.shaped (.list (ns.map PyData.int)) = true := by
  have h := depth_ints ns
  unfold SeqAt.shaped
  rw [Bool.and_eq_true]
  refine ⟨canLay_ints ns, decide_eq_true ?_⟩
  simp only [PyData.depth]
  omega
theorem shaped_nil : SeqAt.shaped (.list []) = true := by decide
theorem lsG_val {s : S} {ds : List D} (h : lsG G L s = some ds) : valG G L s = some (.lst ds) := by
  unfold lsG at h
  split at h
  · cases h
    rfl
  · split at h
    · rename_i hk
      cases h
      simp only [valG, hk]
    · cases h
  · split at h
    · rename_i hk
      cases h
      simp only [valG, hk]
    · cases h
  · cases h
theorem u_ne_nil {x y : S} {ns : List Int} (hx : lsG G L x = some (ns.map D.int)) (hy : lsG G L y = some []) (k : Qd (.d (.bl (!ns.isEmpty))) G L) : OpC K (uNe K) x y Δ G L Qd := by
  have e : PyData.eqv (.list (ns.map PyData.int)) (.list []) = ns.isEmpty := by
    cases ns <;> rfl
  refine u_ne_d (lsG_val hx) (lsG_val hy) (by unfold D.py; rw [py_ints]) (by rfl) (shaped_ints ns) shaped_nil ?_
  rw [e]
  exact k
theorem u_eq_nil {x y : S} {ns : List Int} (hx : lsG G L x = some (ns.map D.int)) (hy : lsG G L y = some []) (k : Qd (.d (.bl ns.isEmpty)) G L) : OpC K (uEq K) x y Δ G L Qd := by
  have e : PyData.eqv (.list (ns.map PyData.int)) (.list []) = ns.isEmpty := by
    cases ns <;> rfl
  refine u_eq_d (lsG_val hx) (lsG_val hy) (by unfold D.py; rw [py_ints]) (by rfl) (shaped_ints ns) shaped_nil ?_
  rw [e]
  exact k
/-! membership: ints in ints, texts in texts -/
def uIn (K : PySem.W.Frag) (neg : Bool) : R2 := fun x y H Q => rIn K neg x y H Q ∨ ∃ (c : Nat) (z : Str), x = .str ⟨#[c]⟩ ∧ y = .str z ∧ Q (.bl (if neg then !decide (c ∈ z.cps.toList) else decide (c ∈ z.cps.toList))) H
theorem flat_ints (ns : List Int) : (ns.map V.int).all flatV = true := by
  rw [List.all_map, List.all_eq_true]
  intro x _
  rfl
theorem flat_strs (ns : List Str) : (ns.map V.str).all flatV = true := by
  rw [List.all_map, List.all_eq_true]
  intro x _
  rfl
theorem inV_ints {i : Int} {ns : List Int} : inV (.int i) (ns.map V.int) = decide (i ∈ ns) := by
  unfold inV
  induction ns with
  | nil => rfl
  | cons a r ih =>
    rw [List.map_cons, List.any_cons, ih]
    have : eqV (.int a) (.int i) = decide (i = a) := by
      show (a == i) = decide (i = a)
      by_cases h : a = i
      · subst h
        rw [decide_eq_true rfl]
        exact beq_self_eq_true a
      · rw [decide_eq_false (fun z => h z.symm)]
        exact beq_eq_false_iff_ne.mpr h
    rw [this, Bool.eq_iff_iff]
    simp only [Bool.or_eq_true, decide_eq_true_eq, List.mem_cons]
theorem inV_strs {i : Str} {ns : List Str} : inV (.str i) (ns.map V.str) = decide (i ∈ ns) := by
  unfold inV
  induction ns with
  | nil => rfl
  | cons a r ih =>
    rw [List.map_cons, List.any_cons, ih]
    have : eqV (.str a) (.str i) = decide (i = a) := by
      show (a == i) = decide (i = a)
      by_cases h : a = i
      · subst h
        rw [decide_eq_true rfl]
        exact beq_self_eq_true a
      · rw [decide_eq_false (fun z => h z.symm)]
        exact beq_eq_false_iff_ne.mpr h
    rw [this, Bool.eq_iff_iff]
    simp only [Bool.or_eq_true, decide_eq_true_eq, List.mem_cons]
theorem u_in_i {neg : Bool} {i : Int} {y : S} {ns : List Int} (hy : seqG G L y = some (ns.map D.int)) (k : Qd (.d (.bl (if neg then !decide (i ∈ ns) else decide (i ∈ ns)))) G L) : OpC K (uIn K neg) (.d (.int i)) y Δ G L Qd := fun w ls σ H vx vy c rx ry Q q => by
  cases rx
  obtain ⟨a, vs, rfl, h1, q1⟩ := seqG_get c ry hy
  have e := RepL.intsV q1
  subst e
  refine .inl ⟨a, _, rfl, h1, rfl, flat_ints ns, ?_⟩
  rw [inV_ints]
  exact q.go c Ext.refl (s := .d (.bl (if neg then !decide (i ∈ ns) else decide (i ∈ ns)))) rfl k
theorem u_in_s {neg : Bool} {i : Str} {y : S} {ns : List Str} (hy : seqG G L y = some (ns.map D.str)) (k : Qd (.d (.bl (if neg then !decide (i ∈ ns) else decide (i ∈ ns)))) G L) : OpC K (uIn K neg) (.d (.str i)) y Δ G L Qd := fun w ls σ H vx vy c rx ry Q q => by
  cases rx
  obtain ⟨a, vs, rfl, h1, q1⟩ := seqG_get c ry hy
  have e := RepL.strsV q1
  subst e
  refine .inl ⟨a, _, rfl, h1, rfl, flat_strs ns, ?_⟩
  rw [inV_strs]
  exact q.go c Ext.refl (s := .d (.bl (if neg then !decide (i ∈ ns) else decide (i ∈ ns)))) rfl k
end
end
end DL

namespace DL
open PySem PySem.Spec PyProof.Rows L2
/-! ### walks over a list, a tuple or a text -/
def iSeq (K : PySem.W.Frag) (tl : TE) : TI := fun σ H R => tl σ H fun x H1 => (∃ a, x = .ref a ∧ (∃ xs, SqL K H1 a xs) ∧ R (Itl K a) H1) ∨ (∃ a, x = .ref a ∧ (∃ xs, SqT K H1 a xs) ∧ R (Itt K a) H1) ∨ (∃ z, x = .str z ∧ R (Its z) H1)
theorem pi_seq {X : Cx} {tg l : Expr} {tl : TE} (hl : PE X l tl) : PI X tg l (iSeq X.K tl) := by
  refine ⟨fun pins s σ H R I h => ?_⟩
  refine thn (hl.run pins s σ H _ I h) fun v s1 ⟨x, H1, I1, r1, q1⟩ => ?_
  rcases q1 with ⟨a, e, ⟨xs, hq⟩, q⟩ | ⟨a, e, ⟨xs, hq⟩, q⟩ | ⟨z, e, q⟩
  · subst e
    cases r1
    obtain ⟨its, rv, p, hz⟩ := I1.list hq
    refine wpAny_pyIter_list p.isList ?_
    refine ⟨s1.heap.objs.size, [s1.heap.objs.size], _, _, H1, rfl, I1.kept (t' := s1.toks) fun b o e => Heap.get?_push_of_some _ e, turn_list a _, ⟨_, Heap.get?_push_size _ rfl, rfl, rfl⟩, fun b hb => ?_, q⟩
    have e : b = s1.heap.objs.size := by simpa using hb
    subst e
    exact I1.fpOk (Nat.le_refl _) (I1.hok.fresh (Nat.le_refl _))
  · subst e
    cases r1
    obtain ⟨its, rv, p, hz⟩ := I1.tuple hq
    refine wpAny_pyIter_tuple (show s1.heap.IsTuple a its.toArray from p) ?_
    refine ⟨s1.heap.objs.size, [s1.heap.objs.size], _, _, H1, rfl, I1.kept (t' := s1.toks) fun b o e => Heap.get?_push_of_some _ e, turn_tuple a _, ⟨_, Heap.get?_push_size _ rfl, rfl, rfl⟩, fun b hb => ?_, q⟩
    have e : b = s1.heap.objs.size := by simpa using hb
    subst e
    exact I1.fpOk (Nat.le_refl _) (I1.hok.fresh (Nat.le_refl _))
  · subst e
    obtain ⟨t, rfl⟩ := r1
    cases ha : z.cps.all (· < 128)
    · exact wpAny_pyIter_wide ha (pi_one (tk := s1.toks) I1 _ (turn_str _ z t "str_iterator" (.inr rfl)) ⟨_, Heap.get?_push_size _ rfl, rfl, rfl⟩ q)
    · exact wpAny_pyIter_ascii ha (pi_one (tk := s1.toks) I1 _ (turn_str _ z t "str_ascii_iterator" (.inl rfl)) ⟨_, Heap.get?_push_size _ rfl, rfl, rfl⟩ q)
section
variable {K : PySem.W.Frag} {Δ : Sl} {G L : List M} {Qd : Po} {te : TE}
def itD : D → Option (List D)
  | .lst ds => some ds
  | .tup ds => some ds
  | .scr ns => some (ns.map .int)
  | .str z => some (signsD z)
  | _ => none
theorem evi_seq {tl : TE} {Qi : List D → List M → List M → Prop} (h : EvC K tl Δ G L fun s G1 L1 => ∃ d ds, s = .d d ∧ itD d = some ds ∧ Qi ds G1 L1) : EvI K (iSeq K tl) Δ G L Qi := fun w ls σ H c R q =>
  h w ls σ H c _ fun v s H2 G2 L2 c2 e2 r2 ⟨d, ds, e, hd, k⟩ => by
    subst e
    unfold itD at hd
    split at hd
    · cases hd
      obtain ⟨a, vs, rfl, ⟨h1, n1⟩, r1⟩ := r2
      refine .inl ⟨a, rfl, ⟨vs, .inl (.inl h1)⟩, q _ H2 _ G2 L2 c2 e2 ⟨fun H3 w2 ls2 σ2 Δ2 G3 L3 i d g c3 hi => ?_, fun H3 w2 ls2 g => ?_⟩ k⟩
      · obtain ⟨x, hx, rx⟩ := (r1.grow g).get hi
        have h3 := g.keep a _ h1 n1
        refine ⟨⟨vs, x, .inl (.inl h3), hx⟩, fun y H' ⟨hH, hy⟩ => ?_⟩
        subst hH
        have e := hy vs (.inl (.inl h3))
        rw [hx] at e
        cases e
        exact ⟨c3, Ext.refl, rx⟩
      · exact ⟨vs, .inl (.inl (g.keep a _ h1 n1)), Nat.le_of_eq r1.length⟩
    · cases hd
      obtain ⟨a, vs, rfl, h1, r1⟩ := r2
      refine .inr (.inl ⟨a, rfl, ⟨vs, h1.sq⟩, q _ H2 _ G2 L2 c2 e2 ⟨fun H3 w2 ls2 σ2 Δ2 G3 L3 i d g c3 hi => ?_, fun H3 w2 ls2 g => ?_⟩ k⟩)
      · obtain ⟨x, hx, rx⟩ := (r1.grow g).get hi
        have h3 := (h1.grow g).sq
        refine ⟨⟨vs, x, h3, hx⟩, fun y H' ⟨hH, hy⟩ => ?_⟩
        subst hH
        have e := hy vs h3
        rw [hx] at e
        cases e
        exact ⟨c3, Ext.refl, rx⟩
      · exact ⟨vs, (h1.grow g).sq, Nat.le_of_eq r1.length⟩
    · rename_i ns _hh
      cases hd
      obtain ⟨a, rfl, h1⟩ := r2
      refine .inl ⟨a, rfl, ⟨_, h1.sq⟩, q _ H2 _ G2 L2 c2 e2 ⟨fun H3 w2 ls2 σ2 Δ2 G3 L3 i d g c3 hi => ?_, fun H3 w2 ls2 g => ?_⟩ k⟩
      · have h3 := (h1.grow g).sq
        obtain ⟨x, hx, rx⟩ := (RepL.ints (K := K) (H := H3) (R := Rg w2 ls2)).get hi
        refine ⟨⟨_, x, h3, hx⟩, fun y H' ⟨hH, hy⟩ => ?_⟩
        subst hH
        have e := hy _ h3
        rw [hx] at e
        cases e
        exact ⟨c3, Ext.refl, rx⟩
      · exact ⟨_, (h1.grow g).sq, by rw [List.length_map, List.length_map]; exact Nat.le_refl _⟩
    · rename_i z _hh
      cases hd
      cases r2
      have hsz : (signsD z).length = z.cps.size := by
        unfold signsD
        rw [List.length_map, Array.length_toList]
      refine .inr (.inr ⟨z, rfl, q _ H2 _ G2 L2 c2 e2 ⟨fun H3 w2 ls2 σ2 Δ2 G3 L3 i d g c3 hi => ?_, fun H3 w2 ls2 g => by show z.cps.size ≤ _; rw [hsz]; exact Nat.le_refl _⟩ k⟩)
      have hlt := (List.getElem?_eq_some_iff.mp hi).1
      rw [hsz] at hlt
      refine ⟨hlt, fun y H' ⟨hH, c, hc, hy⟩ => ?_⟩
      subst hH
      subst hy
      refine ⟨c3, Ext.refl, ?_⟩
      unfold signsD at hi
      rw [List.getElem?_map, Array.getElem?_toList, hc] at hi
      cases hi
      rfl
    · cases hd
/-! texts times ints -/
end
section
variable {K : PySem.W.Frag} {Δ : Sl} {G L : List M} {E : EndsD}
end
theorem law_sp {K : PySem.W.Frag} {sp : DSpec} {H : Hp} {a : Addr} {ns : List Int} {E : XK} (h : sp [.d (.scr ns)] [] (fun r _ => r = .v (.d (.bl true)))) (hS : SqL K H a (ns.map V.int)) : spD K sp [.ref a] H (fun v _ => v = .bl true) E := by
  refine ⟨⟨fun _ => False, [], H⟩, [.d (.scr ns)], [], _, rfl, ⟨fun _ h => (by cases h), fun _ h => h.elim, List.nodup_nil, fun _ h => (by cases h), fun a o h _ => h, ⟨rfl, fun i s e => by simp at e⟩, .nil, .nil, fun _ h => (by cases h)⟩, .cons ⟨a, rfl, ?_⟩ .nil, h, ?_, ?_⟩
  · rcases hS with h | h
    · exact .inl ⟨h, fun r => r.elim (fun z => z) (fun z => by cases z)⟩
    · exact .inr (.inr h)
  · intro v s H' G' c r e
    cases e
    exact r
  · intro ps k p ms H' G' c hp e
    cases e
end DL
namespace DL
open PySem PySem.Spec PyProof.Rows L2
theorem iteTT {A B : Prop} (h : A) : if true = true then A else B := by
  rw [if_pos rfl]
  exact h
theorem iteFF {A B : Prop} (h : B) : if false = true then A else B := by
  rw [if_neg Bool.false_ne_true]
  exact h
theorem iteD {p : Prop} [Decidable p] {A B : Prop} (h1 : p → A) (h2 : ¬ p → B) : if decide p = true then A else B := by
  by_cases h : p
  · rw [decide_eq_true h]
    exact iteTT (h1 h)
  · rw [decide_eq_false h]
    exact iteFF (h2 h)
theorem iteB {b : Bool} {A B : Prop} (h1 : b = true → A) (h2 : b = false → B) : if b = true then A else B := by
  cases b with
  | true => exact iteTT (h1 rfl)
  | false => exact iteFF (h2 rfl)
end DL
namespace DL
open PySem PySem.Spec PyProof.Rows L2
section
variable {G L : List M} {k : Nat} {xs : List S} {ds : List D}
theorem hlG_g (h : G[k]? = some (.hl xs)) : hlG G L (.g k) = some xs := by
  simp only [hlG, h]
theorem lsG_g (h : G[k]? = some (.pl ds)) : lsG G L (.g k) = some ds := by
  simp only [lsG, h]
theorem lsG_l (h : L[k]? = some (.pl ds)) : lsG G L (.l k) = some ds := by
  simp only [lsG, h]
theorem seqG_g (h : G[k]? = some (.pl ds)) : seqG G L (.g k) = some ds := lsG_g (L := L) h
theorem seqG_l (h : L[k]? = some (.pl ds)) : seqG G L (.l k) = some ds := lsG_l (G := G) h
theorem tyS_g (h : G[k]? = some (.pl ds)) : tyS G L "list" (.g k) := .inl ⟨rfl, .inl ⟨_, lsG_g h⟩⟩
theorem tyS_l (h : L[k]? = some (.pl ds)) : tyS G L "list" (.l k) := .inl ⟨rfl, .inl ⟨_, lsG_l h⟩⟩
theorem set_at {α : Type} {l : List α} {k : Nat} {x y : α} (h : l[k]? = some y) : (l.set k x)[k]? = some x := by
  rw [List.getElem?_set_self (List.getElem?_eq_some_iff.mp h).1]
theorem set_off {α : Type} {l : List α} {k j : Nat} {x : α} (h : j ≠ k) : (l.set k x)[j]? = l[j]? := List.getElem?_set_ne (Ne.symm h)
theorem set_same {α : Type} {l : List α} {k : Nat} {x : α} (h : l[k]? = some x) : l.set k x = l := by
  refine List.ext_getElem? fun i => ?_
  by_cases e : i = k
  · subst e
    rw [set_at h, h]
  · rw [set_off e]
theorem set_comm {α : Type} {l : List α} {k j : Nat} {x y : α} (h : k ≠ j) : (l.set k x).set j y = (l.set j y).set k x := List.set_comm x y h
theorem set_set {α : Type} {l : List α} {k : Nat} {x y : α} : (l.set k x).set k y = l.set k y := List.set_set ..
end
end DL
namespace DL
open PySem PySem.Spec PyProof.Rows L2
section
variable {K : PySem.W.Frag} {Δ : Sl} {G L : List M} {Qd : Po} {Qn : PoN}
theorem evc_varX {i : Nat} (h : ∃ s, Δ[i]? = some (some s) ∧ Qd s G L) : EvC K (tVar i) Δ G L Qd := let ⟨_, e, k⟩ := h; evc_var e k
theorem u_ix_hX {x : S} {i : Int} (h : ∃ xs, hlG G L x = some xs ∧ ∃ s, atI xs i = some s ∧ Qd s G L) : OpC K (rIx K) x (.d (.int i)) Δ G L Qd := let ⟨_, e, _, e2, k⟩ := h; u_ix_h e e2 k
theorem u_ix_gX {x : S} {i : Int} (h : ∃ xs, seqG G L x = some xs ∧ ∃ d, atI xs i = some d ∧ Qd (.d d) G L) : OpC K (rIx K) x (.d (.int i)) Δ G L Qd := let ⟨_, e, _, e2, k⟩ := h; u_ix_g e e2 k
theorem ap_lenX {s : S} (h : ∃ ds, seqG G L s = some ds ∧ Qd (.d (.int (ds.length : Nat))) G L) : ApC K (uLen K) [s] Δ G L Qd := let ⟨_, e, k⟩ := h; ap_len e k
theorem ap_listX {s : S} (h : ∃ ds, seqG G L s = some ds ∧ Qn (.pl ds) G L) : ApN K (uList K) [s] Δ G L Qn := let ⟨_, e, k⟩ := h; ap_list e k
theorem ap_tupleX {s : S} (h : ∃ ds, lsG G L s = some ds ∧ Qd (.d (.tup ds)) G L) : ApC K (uTuple K) [s] Δ G L Qd := let ⟨_, e, k⟩ := h; ap_tuple e k
theorem u_ne_nilX {x y : S} (h : lsG G L y = some [] ∧ ∃ ns : List Int, lsG G L x = some (ns.map D.int) ∧ Qd (.d (.bl (!ns.isEmpty))) G L) : OpC K (uNe K) x y Δ G L Qd := let ⟨hy, _, hx, k⟩ := h; u_ne_nil hx hy k
theorem u_eq_nilX {x y : S} (h : lsG G L y = some [] ∧ ∃ ns : List Int, lsG G L x = some (ns.map D.int) ∧ Qd (.d (.bl ns.isEmpty)) G L) : OpC K (uEq K) x y Δ G L Qd := let ⟨hy, _, hx, k⟩ := h; u_eq_nil hx hy k
end
end DL
namespace DL
open PySem PySem.Spec PyProof.Rows L2
theorem le_line {n : Nat} (h : n ≤ 100000) : n ≤ sizeLine := Nat.le_trans h (by decide)
theorem lt_line {n : Nat} (h : n ≤ 100000) : n < sizeLine := Nat.lt_of_le_of_lt h (by decide)
section
variable {K : PySem.W.Frag} {Δ : Sl} {G L : List M} {E : EndsD} {t u : TS}
end
end DL
namespace DL
open PySem PySem.Spec PyProof.Rows L2
section
variable {K : PySem.W.Frag} {Δ : Sl} {G L : List M} {Qd : Po}
theorem opc_powL (i j : Int) (n : Nat) {z : Int} (hj : j = (n : Int)) (hn : n ≤ 1000000) (hi : i.natAbs < 2 ^ 64) (e : i ^ n = z) (k : Qd (.d (.int z)) G L) : OpC K (rI CPow fun i j => .int (i ^ j.toNat)) (.d (.int i)) (.d (.int j)) Δ G L Qd := by
  subst hj
  subst e
  exact opc_Ii (g := fun i j => i ^ j.toNat) ⟨by omega, by omega, hi⟩ k
theorem pow10_6 (k : Qd (.d (.int 1000000)) G L) : OpC K (rI CPow fun i j => .int (i ^ j.toNat)) (.d (.int 10)) (.d (.int 6)) Δ G L Qd := opc_powL 10 6 6 rfl (by decide) (by decide) (by decide +kernel) k
theorem pow10_9 (k : Qd (.d (.int 1000000000)) G L) : OpC K (rI CPow fun i j => .int (i ^ j.toNat)) (.d (.int 10)) (.d (.int 9)) Δ G L Qd := opc_powL 10 9 9 rfl (by decide) (by decide) (by decide +kernel) k
theorem pow10_12 (k : Qd (.d (.int 1000000000000)) G L) : OpC K (rI CPow fun i j => .int (i ^ j.toNat)) (.d (.int 10)) (.d (.int 12)) Δ G L Qd := opc_powL 10 12 12 rfl (by decide) (by decide) (by decide +kernel) k
theorem pow10_15 (k : Qd (.d (.int 1000000000000000)) G L) : OpC K (rI CPow fun i j => .int (i ^ j.toNat)) (.d (.int 10)) (.d (.int 15)) Δ G L Qd := opc_powL 10 15 15 rfl (by decide) (by decide) (by decide +kernel) k
theorem pow10_18 (k : Qd (.d (.int 1000000000000000000)) G L) : OpC K (rI CPow fun i j => .int (i ^ j.toNat)) (.d (.int 10)) (.d (.int 18)) Δ G L Qd := opc_powL 10 18 18 rfl (by decide) (by decide) (by decide +kernel) k
theorem pow10_39 (k : Qd (.d (.int 1000000000000000000000000000000000000000)) G L) : OpC K (rI CPow fun i j => .int (i ^ j.toNat)) (.d (.int 10)) (.d (.int 39)) Δ G L Qd := opc_powL 10 39 39 rfl (by decide) (by decide) (by decide +kernel) k
end
end DL
namespace DL
open PySem PySem.Spec PyProof.Rows L2
theorem mulL {i j : Int} (h1 : -(2 ^ 64) < i) (h2 : i < 2 ^ 64) : CMul i j := Or.inl ⟨h1, h2⟩
theorem mulR {i j : Int} (h1 : -(2 ^ 64) < j) (h2 : j < 2 ^ 64) : CMul i j := Or.inr ⟨h1, h2⟩
theorem divW {i j : Int} (h1 : 0 < j) (h2 : j < 2 ^ 64) : CDivW i j := wide_div (b := 64) h1 (by omega) (by decide) (by decide)
end DL
namespace DL
open PySem PySem.Spec PyProof.Rows L2
theorem cutD_map {α : Type} (f : α → D) (xs : List α) (lo hi : Option Int) : ∃ ys : List α, cutD (xs.map f) lo hi = ys.map f ∧ ys.length ≤ xs.length ∧ ∀ y ∈ ys, y ∈ xs := by
  unfold cutD
  rw [List.length_map]
  refine ⟨(xs.drop (HT.sIx xs.length 0 lo)).take (HT.sIx xs.length xs.length hi - HT.sIx xs.length 0 lo), by rw [List.map_take, List.map_drop], ?_, fun y hy => List.mem_of_mem_drop (List.mem_of_mem_take hy)⟩
  rw [List.length_take, List.length_drop]
  omega
theorem get_map {α : Type} {f : α → D} {xs : List α} {i : Nat} {d : D} (h : (xs.map f)[i]? = some d) : ∃ x, x ∈ xs ∧ d = f x := by
  rw [List.getElem?_map] at h
  cases e : xs[i]? with
  | none =>
    rw [e] at h
    cases h
  | some x =>
    rw [e] at h
    exact ⟨x, List.mem_of_getElem? e, (Option.some.inj h).symm⟩
end DL
namespace DL
open PySem PySem.Spec PyProof.Rows L2
section
variable {K : PySem.W.Frag} {Δ : Sl} {G L : List M} {Qn : PoN} {wi : TI} {g : TG} {tt : TT} {te : TE} {vs : List Nat}
theorem evn_lcF (keep : D → Bool) (val : D → D) (h : EvI K wi Δ G L fun items G1 L1 => items.length < sizeLine ∧
    (∀ d ∈ items, TgC K g (· ∈ vs) (.d d) (wipeD Δ vs) G1 L1 fun Δ2 G2 L2 => EvB K tt Δ2 G2 L2 fun b G3 L3 => b = keep d ∧ (b = true → EvC K te Δ2 G3 L3 fun s G4 L4 => s = .d (val d) ∧ G4 = G1 ∧ L4 = L1) ∧ (b = false → G3 = G1 ∧ L3 = L1)) ∧
    Qn (.pl ((items.filter keep).map val)) G1 L1) : EvN K (tLc wi g tt te vs) Δ G L Qn := by
  refine evn_lc fun w ls σ H c R q => h w ls σ H c R fun J H1 items G1 L1 c1 e1 it ⟨hz, hs, hq⟩ => q J H1 items G1 L1 c1 e1 it ?_
  refine ⟨fun i acc G' L' => G' = G1 ∧ L' = L1 ∧ acc = ((items.take i).filter keep).map val, ⟨rfl, rfl, by rw [List.take_zero]; rfl⟩, hz, ?_, ?_⟩
  · rintro i d acc G' L' hd _ ⟨rfl, rfl, rfl⟩
    have hi := (List.getElem?_eq_some_iff.mp hd).1
    have e : items.take (i + 1) = items.take i ++ [d] := by
      rw [List.take_succ, hd]
      rfl
    intro w ls σ H v c r Q k
    refine hs d (List.mem_of_getElem? hd) w ls σ H v c r Q fun σ' H' Δ' G2 L2 c' e' l' o' hb => k σ' H' Δ' G2 L2 c' e' l' o' ?_
    intro w ls σ H c Q k
    refine hb w ls σ H c Q fun b H' G3 L3 c' e' ⟨h1, h2, h3⟩ => k b H' G3 L3 c' e' ?_
    cases b with
    | true =>
      refine iteTT ((h2 rfl).imp fun s G4 L4 ⟨h4, h5, h6⟩ => ⟨val d, h4, h5, h6, ?_⟩)
      rw [e, List.filter_append, List.map_append, List.filter_cons, if_pos h1.symm]
      rfl
    | false =>
      obtain ⟨h4, h5⟩ := h3 rfl
      refine iteFF ⟨h4, h5, ?_⟩
      rw [e, List.filter_append, List.map_append, List.filter_cons, if_neg (by rw [← h1]; decide)]
      exact (List.append_nil _).symm
  · rintro acc G' L' ⟨rfl, rfl, rfl⟩
    rw [List.take_length]
    exact hq
end
theorem filter_yes {α : Type} (xs : List α) : xs.filter (fun _ => true) = xs := List.filter_eq_self.mpr fun _ _ => rfl
end DL
namespace DL
open PySem PySem.Spec PyProof.Rows L2
theorem atI_of {α : Type} {xs : List α} {i : Int} {j : Nat} {x : α} (h : xs[j]? = some x) (e : i = (j : Int)) : atI xs i = some x := by
  subst e
  have hj := (List.getElem?_eq_some_iff.mp h).1
  unfold atI ixN
  rw [if_pos (by omega), if_pos (by omega)]
  exact h
theorem atI_to {α : Type} {xs : List α} {i : Int} (h0 : 0 ≤ i) (h1 : i < (xs.length : Nat)) : ∃ x, x ∈ xs ∧ atI xs i = some x := by
  have hj : i.toNat < xs.length := by omega
  exact ⟨xs[i.toNat], List.getElem_mem hj, atI_of (j := i.toNat) (List.getElem?_eq_getElem hj) (by omega)⟩
end DL

namespace DL
open PySem PySem.Spec PyProof.Rows L2
/-! ### dicts of the top, with texts as keys -/
def DLit (K : PySem.W.Frag) (w : World) (a : Addr) (ks : List (Str × V)) : Prop := ∃ es n, K.lookup a = some ⟨.type "dict", none, .dict es n, #[]⟩ ∧ (a == sysModules) = false ∧
  Paired (fun (e : DictEntry) (p : Str × V) => (∃ t, e.key = .str p.1 t) ∧ e.hash = PyData.keyHash w.params p.1 ∧ RelV p.2 e.val) es.toList ks
theorem dlit_keys {w : World} : ∀ {es : List DictEntry} {ks : List (Str × V)}, Paired (fun (e : DictEntry) (p : Str × V) => (∃ t, e.key = .str p.1 t) ∧ e.hash = PyData.keyHash w.params p.1 ∧ RelV p.2 e.val) es ks → PySem.W.KeysLit w.params es
  | _, _, .nil => trivial
  | _, _, .cons ⟨⟨t, h1⟩, h2, _⟩ r => ⟨⟨_, t, h1, h2⟩, dlit_keys r⟩
theorem dlit_find {w : World} {z : Str} : ∀ {es : List DictEntry} {ks : List (Str × V)}, Paired (fun (e : DictEntry) (p : Str × V) => (∃ t, e.key = .str p.1 t) ∧ e.hash = PyData.keyHash w.params p.1 ∧ RelV p.2 e.val) es ks →
    es.any (·.refKey) = false ∧ (match ks.find? (fun p => p.1 == z) with
      | some p => ∃ e, es.find? (·.key.isStr z) = some e ∧ RelV p.2 e.val
      | none => es.find? (·.key.isStr z) = none)
  | _, _, .nil => ⟨rfl, rfl⟩
  | _, _, .cons (a := e) (b := p) ⟨⟨t, h1⟩, h2, h3⟩ r => by
    obtain ⟨i1, i2⟩ := dlit_find (z := z) r
    have hk : e.key.isStr z = (p.1 == z) := by
      rw [h1]
      rfl
    refine ⟨?_, ?_⟩
    · rw [List.any_cons, i1]
      have : e.refKey = false := by
        unfold DictEntry.refKey
        rw [h1]
      rw [this]
      rfl
    · rw [List.find?_cons, List.find?_cons, hk]
      cases (p.1 == z) with
      | true => exact ⟨e, rfl, h3⟩
      | false => exact i2
def dGet (ks : List (Str × V)) (z : Str) : Option V := (ks.find? (fun p => p.1 == z)).map (·.2)
theorem DLit.get {K : PySem.W.Frag} {w : World} {a : Addr} {ks : List (Str × V)} (h : DLit K w a ks) {z : Str} {v : V} (e : dGet ks z = some v) : KDct K w a z v := by
  obtain ⟨es, n, h1, h2, h3⟩ := h
  obtain ⟨h4, h5⟩ := dlit_find (z := z) h3
  unfold dGet at e
  cases hf : ks.find? (fun p => p.1 == z) with
  | none =>
    rw [hf] at e
    cases e
  | some p =>
    rw [hf] at e h5
    cases e
    obtain ⟨en, h6, h7⟩ := h5
    refine ⟨es, n, en.val, h1, dlit_keys h3, ?_, h7⟩
    unfold PySem.W.nsIn
    rw [h1]
    show (match es.toList.find? (·.key.isStr z) with
      | some e => some (some e.val)
      | none => if es.toList.any (·.refKey) then none else some none) = _
    rw [h6]
section
variable {K : PySem.W.Frag} {Δ : Sl} {G L : List M} {E : EndsD} {ta tb : TE}
end
end DL
namespace DL
open PySem PySem.Spec PyProof.Rows L2
section
variable {K : PySem.W.Frag} {Δ : Sl} {G L : List M} {Qd : Po}
/-! forgetting what a text is, keeping its length -/
theorem u_add_sF {i j : Str} (hl : i.length + j.length ≤ 100000) (k : ∀ z : Str, z.length = i.length + j.length → Qd (.d (.str z)) G L) : OpC K (uAdd K) (.d (.str i)) (.d (.str j)) Δ G L Qd :=
  u_add_s (le_line hl) (k _ (PySem.Str.length_append i j))
theorem sl_sF {z : Str} {lo hi : Option Int} (hl : z.length ≤ 100000) (k : ∀ y : Str, y.length ≤ z.length → Qd (.d (.str y)) G L) : SlC K (uSl K) (.d (.str z)) lo hi Δ G L Qd :=
  sl_s (le_line hl) (k _ (cutS_length z lo hi))
theorem mt_upperF {z : Str} (hl : z.length ≤ 100000) (k : ∀ y : Str, y.length ≤ 3 * z.length → Qd (.d (.str y)) G L) : MtC K (fun x xs H Q => ∃ a, x = .str a ∧ xs = [] ∧ a.length ≤ 5592405 ∧ Q (.str (Txt.upper a)) H) (.d (.str z)) [] Δ G L Qd :=
  mt_upper_d (by omega) (k _ (PyProof.Rows.len_upper z))
theorem ap_lenSF {z : Str} (hl : z.length ≤ 100000) (k : Qd (.d (.int (z.length : Nat))) G L) : ApC K (uLen K) [.d (.str z)] Δ G L Qd := ap_lenS (le_line hl) k
theorem u_ix_all {x : S} {i : Int} (h : ∃ ds, seqG G L x = some ds ∧ 0 ≤ i ∧ i < (ds.length : Nat) ∧ ∀ d ∈ ds, Qd (.d d) G L) : OpC K (rIx K) x (.d (.int i)) Δ G L Qd := by
  obtain ⟨ds, hx, h0, h1, k⟩ := h
  obtain ⟨d, hd, e⟩ := atI_to h0 h1
  exact u_ix_g hx e (k d hd)
end
end DL
namespace DL
open PySem PySem.Spec PyProof.Rows L2
section
variable {K : PySem.W.Frag} {Δ : Sl} {G L : List M} {Qd : Po} {Qn : PoN}
theorem u_add_lX {x y : S} (h : ∃ xs, lsG G L x = some xs ∧ ∃ ys, lsG G L y = some ys ∧ xs.length + ys.length ≤ sizeLine ∧ Qn (.pl (xs ++ ys)) G L) : OpN K (uAdd K) x y Δ G L Qn :=
  let ⟨_, hx, _, hy, hl, k⟩ := h; u_add_l hx hy hl k
theorem u_mul_lX {x : S} {j : Int} (h : ∃ xs, lsG G L x = some xs ∧ (0 ≤ j ∧ j < 2 ^ 62 ∧ xs.length * j.toNat ≤ sizeLine) ∧ Qn (.pl (List.replicate j.toNat xs).flatten) G L) : OpN K (uMul K) x (.d (.int j)) Δ G L Qn :=
  let ⟨_, hx, ⟨h0, h1, hl⟩, k⟩ := h; u_mul_l hx (by omega) (by omega) hl k
end
end DL
namespace DL
open PySem PySem.Spec PyProof.Rows L2
section
variable {K : PySem.W.Frag} {Δ : Sl} {G L : List M} {Qd : Po} {Qn : PoN}
theorem u_add_sR (m : Nat) {i j : Str} (hm : j.length = m) (hl : i.length + m ≤ 100000) (k : ∀ z : Str, z.length = i.length + m → Qd (.d (.str z)) G L) : OpC K (uAdd K) (.d (.str i)) (.d (.str j)) Δ G L Qd :=
  u_add_sF (by omega) fun z h => k z (by omega)
theorem u_add_sLm (m : Nat) {i j : Str} (hm : i.length = m) (hl : m + j.length ≤ 100000) (k : ∀ z : Str, z.length = m + j.length → Qd (.d (.str z)) G L) : OpC K (uAdd K) (.d (.str i)) (.d (.str j)) Δ G L Qd :=
  u_add_sF (by omega) fun z h => k z (by omega)
end
end DL
namespace DL
open PySem PySem.Spec PyProof.Rows L2
section
variable {K : PySem.W.Frag} {Δ : Sl} {G L : List M} {Qd : Po} {Qn : PoN}
theorem mt_app_lX {k : Nat} {x : D} (h : ∃ ds, L[k]? = some (.pl ds) ∧ ds.length < sizeLine ∧ Qd (.d .non) G (L.set k (.pl (ds ++ [x])))) : MtC K rAppend (.l k) [.d x] Δ G L Qd := let ⟨_, h, hl, q⟩ := h; mt_app_l h hl q
end
end DL
namespace DL
end DL
namespace DL
open PySem PySem.Spec PyProof.Rows L2
section
variable {K : PySem.W.Frag} {Δ : Sl} {G L : List M} {Qd : Po} {Qn : PoN}
theorem u_in_iX {i : Int} {y : S} (h : ∃ ns : List Int, seqG G L y = some (ns.map D.int) ∧ Qd (.d (.bl (decide (i ∈ ns)))) G L) : OpC K (uIn K false) (.d (.int i)) y Δ G L Qd := let ⟨_, hy, k⟩ := h; u_in_i hy k
theorem u_in_sX {i : Str} {y : S} (h : ∃ ns : List Str, seqG G L y = some (ns.map D.str) ∧ Qd (.d (.bl (decide (i ∈ ns)))) G L) : OpC K (uIn K false) (.d (.str i)) y Δ G L Qd := let ⟨_, hy, k⟩ := h; u_in_s hy k
theorem u_nin_iX {i : Int} {y : S} (h : ∃ ns : List Int, seqG G L y = some (ns.map D.int) ∧ Qd (.d (.bl (!decide (i ∈ ns)))) G L) : OpC K (uIn K true) (.d (.int i)) y Δ G L Qd := let ⟨_, hy, k⟩ := h; u_in_i hy k
theorem u_nin_sX {i : Str} {y : S} (h : ∃ ns : List Str, seqG G L y = some (ns.map D.str) ∧ Qd (.d (.bl (!decide (i ∈ ns)))) G L) : OpC K (uIn K true) (.d (.str i)) y Δ G L Qd := let ⟨_, hy, k⟩ := h; u_in_s hy k
end
end DL

namespace DL
open PySem PySem.Spec PyProof.Rows L2
/-! text * int; repr; str -/
def rTxMul : R2 := fun x y H Q => ∃ (z : Str) (k : Int), x = .str z ∧ y = .int k ∧ 0 ≤ k ∧ k ≤ 100000 ∧ z.length ≤ 100000 ∧ z.length * k.toNat ≤ 1000000 ∧ ∀ o : Str, o.length = z.length * k.toNat → Q (.str o) H
section
variable {K : PySem.W.Frag} {Δ : Sl} {G L : List M} {Qd : Po} {Qn : PoN}
theorem u_txmul {z : Str} {k : Int} (h1 : 0 ≤ k ∧ k ≤ 100000 ∧ z.length ≤ 100000 ∧ z.length * k.toNat ≤ 1000000) (q : ∀ o : Str, o.length = z.length * k.toNat → Qd (.d (.str o)) G L) : OpC K rTxMul (.d (.str z)) (.d (.int k)) Δ G L Qd := fun w ls σ H vx vy c rx ry Q qq => by
  cases rx
  cases ry
  exact ⟨z, k, rfl, rfl, h1.1, h1.2.1, h1.2.2.1, h1.2.2.2, fun o ho => qq.go c Ext.refl (s := .d (.str o)) rfl (q o ho)⟩
inductive RepOf : V → Str → Prop
  | int (i : Int) (h : i.natAbs.log2 < 1920) : RepOf (.int i) (Str.ofString (toString i))
  | bl (b : Bool) : RepOf (.bl b) (if b then "True" else "False")
  | non : RepOf .non "None"
  | str (z : Str) (h : (reprText z).length ≤ sizeLine) : RepOf (.str z) (reprText z)
def uRepr : List V → Hp → VK → Prop := fun xs H Q => ∃ x t, xs = [x] ∧ RepOf x t ∧ Q (.str t) H
theorem uc_repr {X : Cx} : CallR X (.builtin "repr") uRepr := by
  intro pins s σ H xs us Q I r h
  obtain ⟨x, z, rfl, hx, q⟩ := h
  obtain ⟨u, rfl, rx⟩ := vals1 r
  cases hx with
  | int i hz =>
    obtain ⟨t, rfl⟩ := rx
    exact PySem.P.repr_of_int hz ⟨.str _, H, I.tok _, ⟨_, rfl⟩, q⟩
  | bl b =>
    cases rx
    exact PySem.P.repr_of_bool ⟨.str _, H, I.tok _, ⟨_, rfl⟩, q⟩
  | non =>
    cases rx
    exact PySem.P.repr_of_none ⟨.str _, H, I.tok _, ⟨_, rfl⟩, q⟩
  | str z hz =>
    obtain ⟨t, rfl⟩ := rx
    exact PySem.P.repr_of_str ⟨.str _, H, I.tok _, ⟨_, rfl⟩, q⟩ hz
end
end DL

namespace DL
open PySem PySem.Spec PyProof.Rows L2
/-! isinstance of data -/
def tyD : D → Option String
  | .non => some "NoneType"
  | .bl _ => some "bool"
  | .int _ => some "int"
  | .str _ => some "str"
  | .tup _ => some "tuple"
  | .lst _ => some "list"
  | .dct _ => some "dict"
  | _ => none
theorem tyx_sqT {K : PySem.W.Frag} {H : Hp} {a : Addr} {xs : List V} (h : SqT K H a xs) : TyX K H (.ref a) (.type "tuple") := by
  rcases h with (h | ⟨o, h⟩) | ⟨o, its, n, hk, hc, _⟩
  · exact .base (.tup h)
  · exact .fTuple h
  · exact .kTuple hk hc
theorem rep_ty {K : PySem.W.Frag} {H : Hp} {R : Addr → Prop} : ∀ {d : D} {v : V} {T : String}, tyD d = some T → Rep K H R d v → TyX K H v (.type T)
  | .non, _, _, e, r => by
    cases e
    cases r
    exact .base .non
  | .bl b, _, _, e, r => by
    cases e
    cases r
    exact .base (.bl b)
  | .int i, _, _, e, r => by
    cases e
    cases r
    exact .base (.int i)
  | .str x, _, _, e, r => by
    cases e
    cases r
    exact .base (.str x)
  | .tup ds, _, _, e, r => by
    cases e
    obtain ⟨a, xs, rfl, h, _⟩ := r
    exact tyx_sqT h.sq
  | .lst ds, _, _, e, r => by
    cases e
    obtain ⟨a, xs, rfl, ⟨h, _⟩, _⟩ := r
    exact .base (.lst h)
  | .dct ds, _, _, e, r => by
    cases e
    obtain ⟨a, xs, rfl, ⟨h, _⟩, _⟩ := r
    exact .base (.dK h)
  | .ty _, _, _, e, _ => by cases e
  | .ref _, _, _, e, _ => by cases e
  | .scr _, _, _, e, _ => by cases e
  | .ins _ _, _, _, e, _ => by cases e
  | .exn _ _ _, _, _, e, _ => by cases e
  | .exv _ _, _, _, e, _ => by cases e
section
variable {K : PySem.W.Frag} {Δ : Sl} {G L : List M} {Qd : Po} {Qn : PoN} {te : TE} {E : EndsD}
theorem ap_isi {d : D} {T U : String} {b : Bool} (h : tyD d = some T) (hb : kitB T U = some b) (k : Qd (.d (.bl b)) G L) : ApC K (rIsi K) [.d d, .d (.ty U)] Δ G L Qd := fun w ls σ H vs c rs Q q => by
  obtain ⟨v, u, rfl, r1, r2⟩ := pair2 rs
  have r2 : u = .ty U := r2
  subst r2
  exact ⟨v, _, _, _, b, rfl, .ty U, rep_ty h r1, kit_ty hb, q.go c Ext.refl (s := .d (.bl b)) rfl k⟩
/-! any of ints, all of truths -/
/-! max and min of two ints; truths compared by `is` -/
def rMax2 : List V → Hp → VK → Prop := fun xs H Q => ∃ i j, xs = [.int i, .int j] ∧ Q (.int (if j > i then j else i)) H
def rMin2 : List V → Hp → VK → Prop := fun xs H Q => ∃ i j, xs = [.int i, .int j] ∧ Q (.int (if j < i then j else i)) H
theorem uc_max2 {X : Cx} (hc : X.calm = true) : CallR X (.builtin "max") rMax2 := call_max2 hc
theorem uc_min2 {X : Cx} (hc : X.calm = true) : CallR X (.builtin "min") rMin2 := call_min2 hc
theorem ap_max2 {i j : Int} (k : Qd (.d (.int (if j > i then j else i))) G L) : ApC K rMax2 [.d (.int i), .d (.int j)] Δ G L Qd := fun w ls σ H vs c rs Q q => by
  obtain ⟨v, u, rfl, r1, r2⟩ := pair2 rs
  cases r1
  cases r2
  exact ⟨i, j, rfl, q.go c Ext.refl (s := .d (.int (if j > i then j else i))) rfl k⟩
theorem ap_min2 {i j : Int} (k : Qd (.d (.int (if j < i then j else i))) G L) : ApC K rMin2 [.d (.int i), .d (.int j)] Δ G L Qd := fun w ls σ H vs c rs Q q => by
  obtain ⟨v, u, rfl, r1, r2⟩ := pair2 rs
  cases r1
  cases r2
  exact ⟨i, j, rfl, q.go c Ext.refl (s := .d (.int (if j < i then j else i))) rfl k⟩
theorem u_isB {a b : Bool} (k : Qd (.d (.bl (decide (a = b)))) G L) : OpC K rIsB (.d (.bl a)) (.d (.bl b)) Δ G L Qd := fun w ls σ H vx vy c rx ry Q q => by
  cases rx
  cases ry
  exact ⟨a, b, rfl, rfl, q.go c Ext.refl (s := .d (.bl (decide (a = b)))) rfl k⟩
theorem u_notB {a b : Bool} (k : Qd (.d (.bl (!decide (a = b)))) G L) : OpC K rNotB (.d (.bl a)) (.d (.bl b)) Δ G L Qd := fun w ls σ H vx vy c rx ry Q q => by
  cases rx
  cases ry
  exact ⟨a, b, rfl, rfl, q.go c Ext.refl (s := .d (.bl (!decide (a = b)))) rfl k⟩
/-! truths compared by == -/
theorem u_eq_b {i j : Bool} (k : Qd (.d (.bl (decide (i = j)))) G L) : OpC K (uEq K) (.d (.bl i)) (.d (.bl j)) Δ G L Qd := fun w ls σ H vx vy c rx ry Q q => by
  cases rx
  cases ry
  refine .inl ⟨rfl, ?_⟩
  have e : decide (V.bl i = V.bl j) = decide (i = j) := by simp
  rw [e]
  exact q.go c Ext.refl (s := .d (.bl (decide (i = j)))) rfl k
theorem u_ne_b {i j : Bool} (k : Qd (.d (.bl (!decide (i = j)))) G L) : OpC K (uNe K) (.d (.bl i)) (.d (.bl j)) Δ G L Qd := fun w ls σ H vx vy c rx ry Q q => by
  cases rx
  cases ry
  refine .inl ⟨rfl, ?_⟩
  have e : decide (V.bl i = V.bl j) = decide (i = j) := by simp
  rw [e]
  exact q.go c Ext.refl (s := .d (.bl (!decide (i = j)))) rfl k
/-! lists of ints compared -/
end
end DL

namespace DL
open PySem PySem.Spec PyProof.Rows L2
/-! [::-1] of lists and of tuples -/
section
variable {prog : Program} {w : World} {A : Around} {E : Value → Shared → Prop} {s : Shared}
theorem adjust_rev (n : Nat) : Builtin.Slice.sliceAdjust none none (-1) (n : Int) = ((n : Int) - 1, -1) := rfl
theorem places_rev (n : Nat) : Builtin.Slice.slicePlaces ((n : Int) - 1) (-1) (-1) = n := by
  unfold Builtin.Slice.slicePlaces
  have h1 : ¬ ((-1 : Int) > 0) := by decide
  simp only [h1, if_false, show (- -1 : Int) = 1 by decide, Int.ediv_one]
  split <;> omega
theorem applied_rev {sl : Addr} {vs : Value} {n : Nat} {Q : Int × Int × Nat → Shared → Prop} (hs : s.heap.IsSliceOf sl .none .none vs) (ps : IsPart vs (some (-1)))
    (h : Q ((n : Int) - 1, -1, n) s) : wpAny (model prog w) A (Builtin.Slice.sliceApplied (.ref sl) (pure (n : Int))) Q E s := by
  obtain ⟨os, ho, hc, hd⟩ := id hs
  unfold Builtin.Slice.sliceApplied Builtin.Slice.sliceFields
  refine wpAny_bind (wpAny_bind (wpAny_field ho hd (x := .none) rfl (wpAny_bind (wpAny_field ho hd (x := .none) rfl (wpAny_bind (wpAny_field ho hd (x := vs) rfl (wpAny_pure ?_)))))))
  refine wpAny_bind (HT.slicePart_ ps ?_)
  show wpAny _ _ (if ((-1 : Int) == 0) = true then _ else _) _ _ s
  rw [if_neg (by decide)]
  refine wpAny_bind (slicePart_none (wpAny_bind (slicePart_none (wpAny_bind (wpAny_pure ?_)))))
  show wpAny _ _ (match Builtin.Slice.sliceAdjust none none (-1) (n : Int) with | (lo, _) => pure (lo, (-1 : Int), Builtin.Slice.slicePlaces lo (-1) (-1))) _ _ s
  rw [adjust_rev]
  show wpAny _ _ (pure ((n : Int) - 1, (-1 : Int), Builtin.Slice.slicePlaces ((n : Int) - 1) (-1) (-1))) _ _ s
  rw [places_rev]
  exact wpAny_pure h
theorem fm_congr {α β : Type} {f g : α → Option β} : ∀ {l : List α}, (∀ x ∈ l, f x = g x) → l.filterMap f = l.filterMap g
  | [], _ => rfl
  | a :: l, h => by
    rw [List.filterMap_cons, List.filterMap_cons, h a List.mem_cons_self, fm_congr fun x hx => h x (List.mem_cons_of_mem _ hx)]
theorem pick_rev (xs : Array Value) : ((List.range xs.size).filterMap fun (m : Nat) => xs[(((xs.size : Int) - 1) + (m : Int) * (-1)).toNat]?).toArray = xs.toList.reverse.toArray := by
  have e : (List.range xs.size).filterMap (fun (m : Nat) => xs[(((xs.size : Int) - 1) + (m : Int) * (-1)).toNat]?) = ((List.range xs.size).map (fun k => xs.size - 1 - k)).filterMap (xs[·]?) := by
    rw [List.filterMap_map]
    refine fm_congr fun m hm => ?_
    have := List.mem_range.mp hm
    show _ = xs[xs.size - 1 - m]?
    have e2 : (((xs.size : Int) - 1) + (m : Int) * (-1)).toNat = xs.size - 1 - m := by omega
    rw [e2]
  rw [e, PySem.W.krv_range, List.filterMap_reverse, PySem.W.krv_all]
theorem getItem_tuple_rev {t sl : Addr} {items : Array Value} {vs : Value} {Q : Value → Shared → Prop} (ht : IsTup s.heap t items) (hs : s.heap.IsSliceOf sl .none .none vs) (ps : IsPart vs (some (-1)))
    (h : Q (.ref s.heap.objs.size) { s with heap := s.heap.push { cls := .type "tuple", data := .seq items.toList.reverse.toArray } })
    (hsz : items.size ≤ sizeLine) : wpAny (model prog w) A (getItem (.ref t) (.ref sl)) Q E s := by
  have htake : sizeOk (.seq items.toList.reverse.toArray) := by
    show items.toList.reverse.toArray.size ≤ sizeLine
    simpa using hsz
  obtain ⟨os, hos, hcs, hds⟩ := id hs
  have hTs : s.TypeIs (.ref sl) "slice" := ⟨os, hos, hcs⟩
  unfold getItem
  try with_reducible refine wpAny_holding ?_
  first | refine wpAny_bind (wpAny_pure ?_) | skip
  refine wpAny_bind (wpAny_sequenceKey ht.typeIs (by decide) ?_)
  refine wpAny_bind (wpAny_callSpecial?_slot (name := Str.ofString "__getitem__") ht.typeIs PyProof.Rows.slot_tuple_getitem (wpAny_call_entry PyProof.Rows.slot_tuple_getitem ht.typeIs entry_tuple_getitem ?_ (args_tuple_getitem _ _)))
  show wpAny _ _ (Builtin.Tuple.tupleItemsOf (.ref t) >>= _) _ _ s
  refine wpAny_bind (tupleItemsOf_ ht (wpAny_bind (wpAny_typeOf hTs ?_)))
  rw [if_pos (by decide)]
  refine wpAny_bind (applied_rev hs ps ?_)
  have hno : ¬ ((((items.size : Int) - 1) == 0 && (-1 : Int) == 1 && items.size == items.size) = true) := by
    intro q
    rw [Bool.and_eq_true, Bool.and_eq_true] at q
    exact absurd q.1.2 (by decide)
  show wpAny _ _ (if (((items.size : Int) - 1) == 0 && (-1 : Int) == 1 && items.size == items.size) = true then _ else _) _ _ s
  rw [if_neg hno, pick_rev]
  first
    | exact wpAny_bind (m := Builtin.Tuple.tupleExact _) (wpAny_newObj_type (wpAny_pure ⟨_, rfl, wpAny_pure h⟩) htake)
    | exact wpAny_bind (m := Builtin.Tuple.tupleExact _) (wpAny_newObj_type (wpAny_bind (wpAny_pure (wpAny_pure ⟨_, rfl, wpAny_pure h⟩))) htake)
    | exact wpAny_bind (wpAny_bind (m := Builtin.Tuple.tupleExact _) (wpAny_newObj_type (wpAny_pure (wpAny_pure ⟨_, rfl, wpAny_pure h⟩)) htake))
    | exact wpAny_bind (wpAny_bind (m := Builtin.Tuple.tupleExact _) (wpAny_newObj_type (wpAny_pure ⟨_, rfl, wpAny_pure h⟩) htake))
end
def tRevU (K : PySem.W.Frag) (te : TE) : TE := fun σ H Q => te σ H fun x H1 => ∃ a xs, x = .ref a ∧ ((SqL K H1 a xs ∧ ∀ p, H1 p = none → Q (.ref p) (upd H1 p (.lst xs.reverse))) ∨ (SqT K H1 a xs ∧ ∀ p, H1 p = none → Q (.ref p) (upd H1 p (.tup xs.reverse))))
theorem pe_revU {X : Cx} {e : Expr} {te : TE} {k : Nat} {p1 p2 p3 pos : Pos} (he : PE X e te) : PE X (.Subscript e (.Slice none none (some (.UnaryOp .USub (.Constant (.int 1) k p1) p2)) p3) pos) (tRevU X.K te) := by
  refine ⟨fun pins s σ H Q I h => Subscript_ (thn (he.run pins s σ H _ I h) fun v s1 ⟨x, H1, I1, r1, a, xs, ex, q⟩ => ?_)⟩
  subst ex
  cases r1
  have hst : PO X (some (.UnaryOp .USub (.Constant (.int 1) k p1) p2)) (tPart (tUn (rU fun i => .int (-i)) (tC (.int 1)))) := po_some (pe_un un_neg pe_int)
  refine wpAny_Slice (thn (po_none.run pins s1 σ H1 (fun o H2 => o = none ∧ H2 = H1) I1 ⟨rfl, rfl⟩) fun vl s2 ⟨l, H2, I2, pl, el, e2⟩ => ?_)
  subst el e2
  refine thn (po_none.run pins s2 σ H2 (fun o H3 => o = none ∧ H3 = H2) I2 ⟨rfl, rfl⟩) fun vu s3 ⟨u, H3, I3, pu, eu, e3⟩ => ?_
  subst eu e3
  refine thn (hst.run pins s3 σ H3 (fun o H4 => o = some (-1) ∧ H4 = H3) I3 ⟨1, rfl, -1, rfl, rfl, rfl⟩) fun vs s4 ⟨o, H4, I4, ps, eo, e4⟩ => ?_
  subst eo e4
  have I5 : Inv X pins σ H4 { s4 with heap := s4.heap.push { cls := .type "slice", data := .fields #[vl, vu, vs] } } := I4.kept (t' := s4.toks) fun b ob q => Heap.get?_push_of_some _ q
  show wpAny (model X.prog X.w) X.A (subscriptTail e (.Slice none none (some (.UnaryOp .USub (.Constant (.int 1) k p1) p2)) p3) (.ref a) (.ref s4.heap.objs.size)) (EP X pins σ Q) X.xe { s4 with heap := s4.heap.push { cls := .type "slice", data := .fields #[vl, vu, vs] } }
  rcases q with ⟨hx, q⟩ | ⟨hx, q⟩
  · obtain ⟨its, r, ht, hz⟩ := I5.list hx
    have hlen := r.length
    refine tail_any (ops := [.ref a, .ref s4.heap.objs.size]) ht.isList.typeIs (PySem.slot_list_getitem.lookup) ?_ (by with_unfolding_all rfl)
    refine wpAny_getItem_list_slice ht.isList (Heap.IsSliceOf.new _ vl vu vs) pl pu ps (by decide) ?_ (by rw [List.size_toArray]; omega)
    rw [PySem.W.krv_pick]
    refine ⟨.ref _, _, I5.laid (t' := s4.toks) (o := .lst xs.reverse) (fun b ob q => Heap.get?_push_of_some _ q) (Nat.le_refl _) ?_, rfl, q _ (I5.hok.fresh (Nat.le_refl _))⟩
    exact ⟨by rw [List.length_reverse]; exact hz, _, 0, r.reverse, Heap.get?_push_size _ rfl⟩
  · obtain ⟨its, r, ht, hz⟩ := I5.tuple hx
    have hlen := r.length
    cases pl
    cases pu
    refine tail_any (ops := [.ref a, .ref s4.heap.objs.size]) ht.typeIs (PyProof.Rows.slot_tuple_getitem.lookup) ?_ (by with_unfolding_all rfl)
    refine getItem_tuple_rev ht (Heap.IsSliceOf.new _ .none .none vs) ps ?_ (by rw [List.size_toArray]; omega)
    refine ⟨.ref _, _, I5.laid (t' := s4.toks) (o := .tup xs.reverse) (fun b ob q => Heap.get?_push_of_some _ q) (Nat.le_refl _) ?_, rfl, q _ (I5.hok.fresh (Nat.le_refl _))⟩
    exact ⟨by rw [List.length_reverse]; exact hz, its.reverse, r.reverse, IsTup.new _ _⟩
section
variable {K : PySem.W.Frag} {Δ : Sl} {G L : List M} {Qd : Po} {Qn : PoN} {te : TE} {E : EndsD}
theorem evn_revU (h : EvC K te Δ G L fun x G1 L1 => ∃ ds, lsG G1 L1 x = some ds ∧ Qn (.pl ds.reverse) G1 L1) : EvN K (tRevU K te) Δ G L Qn := fun w ls σ H c Q ret => h w ls σ H c _ fun v s H2 G2 L2 c2 e2 r2 ⟨ds, hd, k⟩ => by
  obtain ⟨a, xs, rfl, h1, q1⟩ := lsG_get c2 r2 hd
  exact ⟨a, xs, rfl, .inl ⟨.inl (.inl h1), fun p hp => ret p _ _ _ _ (none_back c2 e2 hp) (newAt_pl c2 hp (repL_rev q1)) (e2.trans (Ext.new hp)) k⟩⟩
/-! tuple * int -/
def uMulT (K : PySem.W.Frag) : R2 := fun x y H Q => uMul K x y H Q ∨ rRepT K x y H Q
theorem uo_mulT {X : Cx} : OpR X (binaryOp .Mult) (uMulT X.K) := uo_mul.or op_repT
theorem u_mulT_i {i j : Int} (hc : CMul i j) (k : Qd (.d (.int (i * j))) G L) : OpC K (uMulT K) (.d (.int i)) (.d (.int j)) Δ G L Qd := opc_orl (u_mul_i hc k)
theorem u_mulT_lX {x : S} {j : Int} (h : ∃ xs, lsG G L x = some xs ∧ (0 ≤ j ∧ j < 2 ^ 62 ∧ xs.length * j.toNat ≤ sizeLine) ∧ Qn (.pl (List.replicate j.toNat xs).flatten) G L) : OpN K (uMulT K) x (.d (.int j)) Δ G L Qn := opn_orl (u_mul_lX h)
/-! o[i] op= e -/
theorem st_augS {to ti : TE} {tget : V → V → Hp → VK → Prop} {tip : TIp} {tset : TSet} (h : EvC K to Δ G L fun o G1 L1 => EvC K ti Δ G1 L1 fun i G2 L2 => OpC K tget o i Δ G2 L2 fun x G3 L3 => EvC K te Δ G3 L3 fun y G4 L4 =>
    OpC K tip x y Δ G4 L4 fun z G5 L5 => StoC K tset o i z Δ G5 L5 fun G6 L6 => E.nx Δ G6 L6) : StC K (tAugS to ti te tget tip tset) Δ G L E := fun w ls σ H c D s =>
  h w ls σ H c _ fun vo o H1 G1 L1 c1 e1 r1 h1 => h1 w ls σ H1 c1 _ fun vi i H2 G2 L2 c2 e2 r2 h2 =>
    h2 w ls σ H2 vo vi c2 (r1.on c1 e2) r2 _ fun vx x H3 G3 L3 c3 e3 r3 h3 => h3 w ls σ H3 c3 _ fun vy y H4 G4 L4 c4 e4 r4 h4 =>
      h4 w ls σ H4 vx vy c4 (r3.on c3 e4) r4 _ fun vz z H5 G5 L5 c5 e5 r5 h5 =>
        h5 w ls σ H5 vo vi vz c5 ((((r1.on c1 e2).on c2 e3).on c3 e4).on c4 e5) (((r2.on c2 e3).on c3 e4).on c4 e5) r5 _ fun H6 G6 L6 c6 e6 k =>
          s.nx ls σ H6 Δ G6 L6 c6 ((e1.trans (e2.trans (e3.trans (e4.trans (e5.trans e6))))).grow c.reg) k
theorem opc_ip {f : Int → Int → Int} {i j : Int} (k : Qd (.d (.int (f i j))) G L) : OpC K (ipI f) (.d (.int i)) (.d (.int j)) Δ G L Qd := fun w ls σ H vx vy c rx ry Q q => by
  cases rx
  cases ry
  exact ⟨i, j, rfl, rfl, q.go c Ext.refl (s := .d (.int (f i j))) rfl k⟩
theorem u_get_l {k : Nat} {i : Int} {d : D} {xs : List D} (hx : L[k]? = some (.pl xs)) (hi : atI xs i = some d) (q : Qd (.d d) G L) : OpC K (rIxL K) (.l k) (.d (.int i)) Δ G L Qd := fun w ls σ H vx vy c rx ry Q ret => by
  obtain ⟨a, vs, rfl, h1, q1⟩ := lsG_get c rx (lsG_l hx)
  obtain ⟨j, e, hj⟩ := atI_some hi
  obtain ⟨v, hv, r⟩ := q1.get hj
  have ha : atI vs i = some v := by
    unfold atI
    rw [q1.length, e]
    exact hv
  exact ⟨a, vs, i, v, rfl, ry, .inl (.inl h1), ha, ret.go c Ext.refl (s := .d d) r q⟩
theorem u_get_int {k : Nat} {i : Int} {xs : List Int} (hx : L[k]? = some (.pl (xs.map D.int))) (h0 : 0 ≤ i) (h1 : i < (xs.length : Nat)) (q : Qd (.d (.int (xs.getD i.toNat 0))) G L) : OpC K (rIxL K) (.l k) (.d (.int i)) Δ G L Qd := by
  obtain ⟨n, rfl⟩ := Int.eq_ofNat_of_zero_le h0
  have hn : n < xs.length := by omega
  refine u_get_l hx (atI_of (j := n) ?_ rfl) q
  rw [List.getElem?_map, List.getElem?_eq_getElem hn]
  show some (D.int xs[n]) = some (D.int (xs.getD n 0))
  rw [List.getD_eq_getElem?_getD, List.getElem?_eq_getElem hn]
  rfl
theorem sto_int {k : Nat} {i z : Int} {xs : List Int} {Qt : List M → List M → Prop} (hx : L[k]? = some (.pl (xs.map D.int))) (h0 : 0 ≤ i) (h1 : i < (xs.length : Nat)) (q : Qt G (L.set k (.pl ((xs.set i.toNat z).map D.int)))) : StoC K rSetL (.l k) (.d (.int i)) (.d (.int z)) Δ G L Qt := by
  obtain ⟨n, rfl⟩ := Int.eq_ofNat_of_zero_le h0
  have hn : n < xs.length := by omega
  have e : ixN (xs.map D.int).length (n : Int) = some n := by
    rw [List.length_map]
    unfold ixN
    rw [if_pos h0, if_pos (by omega)]
    rfl
  refine sto_lp hx e ?_
  have e2 : (xs.map D.int).set n (.int z) = (xs.set n z).map D.int := by rw [List.map_set]
  rw [e2]
  exact q
theorem isi_ii {i : Int} (k : Qd (.d (.bl true)) G L) : ApC K (rIsi K) [.d (.int i), .d (.ty "int")] Δ G L Qd := ap_isi rfl (by decide +kernel) k
theorem isi_ib {i : Int} (k : Qd (.d (.bl false)) G L) : ApC K (rIsi K) [.d (.int i), .d (.ty "bool")] Δ G L Qd := ap_isi rfl (by decide +kernel) k
theorem isi_bb {i : Bool} (k : Qd (.d (.bl true)) G L) : ApC K (rIsi K) [.d (.bl i), .d (.ty "bool")] Δ G L Qd := ap_isi rfl (by decide +kernel) k
theorem isi_bi {i : Bool} (k : Qd (.d (.bl true)) G L) : ApC K (rIsi K) [.d (.bl i), .d (.ty "int")] Δ G L Qd := ap_isi rfl (by decide +kernel) k
theorem isi_tt {ds : List D} (k : Qd (.d (.bl true)) G L) : ApC K (rIsi K) [.d (.tup ds), .d (.ty "tuple")] Δ G L Qd := ap_isi rfl (by decide +kernel) k
theorem isi_ss {z : Str} (k : Qd (.d (.bl true)) G L) : ApC K (rIsi K) [.d (.str z), .d (.ty "str")] Δ G L Qd := ap_isi rfl (by decide +kernel) k
theorem iteNT {A B : Prop} (h : B) : if (!true) = true then A else B := by
  rw [if_neg (by decide)]
  exact h
theorem iteNF {A B : Prop} (h : A) : if (!false) = true then A else B := by
  rw [if_pos (by decide)]
  exact h
end
end DL

namespace DL
open PySem PySem.Spec PyProof.Rows L2
/-! data that can be compared, with its depth -/
section
variable {K : PySem.W.Frag} {Δ : Sl} {G L : List M} {Qd : Po}
theorem u_ix_int {x : S} {i : Int} {xs : List Int} (hx : seqG G L x = some (xs.map D.int)) (h0 : 0 ≤ i) (h1 : i < (xs.length : Nat)) (q : Qd (.d (.int (xs.getD i.toNat 0))) G L) : OpC K (rIx K) x (.d (.int i)) Δ G L Qd := by
  obtain ⟨n, rfl⟩ := Int.eq_ofNat_of_zero_le h0
  have hn : n < xs.length := by omega
  refine u_ix_g hx (atI_of (j := n) ?_ rfl) q
  rw [List.getElem?_map, List.getElem?_eq_getElem hn]
  show some (D.int xs[n]) = some (D.int (xs.getD n 0))
  rw [List.getD_eq_getElem?_getD, List.getElem?_eq_getElem hn]
  rfl
theorem asv_v {s : S} (k : Qd s G L) : asV Qd L (.v s) G := k
theorem evc_neg {te : TE} (h : EvC K te Δ G L fun s G1 L1 => ∃ i, s = .d (.int i) ∧ Qd (.d (.int (-i))) G1 L1) : EvC K (tUn (rU fun i => V.int (-i)) te) Δ G L Qd := fun w ls σ H c Q ret => h w ls σ H c _ fun v s H2 G2 L2 c2 e2 r2 ⟨i, hs, k⟩ => by
  subst hs
  exact ⟨i, r2, ret.go c2 e2 (s := .d (.int (-i))) rfl k⟩
end
end DL

namespace DL
open PySem PySem.Spec PyProof.Rows L2
example : callerA.guards = some [] := rfl
/-! repr of a list or a tuple of data, where the guards are known to be empty -/
structure FnG (P : Program) (w : World) (K : PySem.W.Frag) (mg : Str → Option Value) (base : Heap) (k : Nat) (f : Addr) (fd : FuncData) (ps : List Str) (sp : Sp) : Prop where
  len : ∀ vs H Q E, sp vs H Q E → vs.length = ps.length
  run : ∀ (A : Around) (outer : List Env) (s : Shared) (H : Hp) (args : Args) (us : List Value) (vs : List V) (Q : VK) (E : XK), A.guards = some [] → Room k A → Env0 P w K mg base A outer s H →
    BindsTo s fd args (ps.zip us) → Vals vs us → sp vs H Q E → codeAny (model P w) A (.call (.ref f) args) (CR CX0 outer P w H s Q E) s
section
variable {P : Program} {w : World} {K : PySem.W.Frag} {mg : Str → Option Value} {base : Heap} {j k : Nat} {f : Addr} {fd : FuncData} {ps : List Str} {sp : Sp}
theorem FnG.of (F : FnOk P w K mg base CX0 k f fd ps sp) : FnG P w K mg base k f fd ps sp := ⟨F.len, fun A outer s H args us vs Q E _ => F.run A outer s H args us vs Q E⟩
end
section
variable {X : Cx} {f : Addr} {fd : FuncData} {ps : List Str} {sp : Sp} {ds : List Value} {dvs : List V} {k : Nat} {x : Str} {E : XK} {e : Expr} {es : List Expr} {t : TA} {p pos : Pos}
theorem run_fnG {pins : List (Addr × Obj)} {σ : L2.St} {H : Hp} {s : Shared} {Q : VK} {us : List Value} {vs : List V} (F : FnG X.prog X.w X.K X.mg X.base k f fd ps sp) (hg : X.A.guards = some []) (hr : Room k X.A) (hb : Binds X.K fd ps ds) (hd : Vals dvs ds)
    (hx : Passes CX0 X E) (I : Inv X pins σ H s) (r : Vals vs us) (h : sp (vs ++ dvs) H Q E) : wpAny (model X.prog X.w) X.A (call (.ref f) us) (EP X pins σ Q) X.xe s := by
  have both := r.append hd
  have hl := F.len _ _ _ _ h
  rw [both.length] at hl
  refine wpAny_call (codeAny_mono (F.run X.A X.stack s H ⟨us, []⟩ (us ++ ds) (vs ++ dvs) Q E hg hr I.env0 (hb s us I.kIn hl) both h) fun r s2 hq => ?_)
  match r, hq with
  | .error e, hq => exact hx pins σ H s e s2 I hq
  | .ok (.ret u), hq => exact I.after hq
  | .ok .next, hq => exact hq.elim
  | .ok .brk, hq => exact hq.elim
  | .ok .cont, hq => exact hq.elim
theorem pe_callG (F : FnG X.prog X.w X.K X.mg X.base k f fd ps sp) (hg : X.A.guards = some []) (hr : Room k X.A) (hl : Gl X x) (hm : X.mg x = some (.ref f)) (hk : PySem.W.keepIn X.K (.ref f) = true) (hb : Binds X.K fd ps ds) (hd : Vals dvs ds) (hx : Passes CX0 X E)
    (ha : PA X (e :: es) t) (hdb : (x == ("__debug__" : Str)) = false := by decide) (he : starEach (e :: es) X.env = (false, eval e X.env) :: starEach es X.env := by rfl) (hpl : (backTo pos (starEach es X.env)).any (·.1) = false := by rfl) :
    PE X (.Call (.Name x p) (e :: es) [] pos) (tCall sp dvs E t) :=
  ⟨fun pins s σ H Q I h => wpAny_Call_Name_kw (ld_glob I hl hm (PySem.W.callWith_K (h₀ := X.base) I.ok.mod.kin hk (thn (ha.run pos pins s σ H _ I h) fun us s1 ⟨vs, H1, I1, r, q⟩ => ⟨I1.kIn, run_fnG F hg hr hb hd hx I1 r q⟩) he hpl) hdb)⟩
end
section
variable {P : Program} {w : World} {K : PySem.W.Frag} {mg : Str → Option Value} {base : Heap}
theorem okFnG {x qual : Str} {st : Stmt} {f : Addr} {fd : FuncData} {N ps : List Str} {k : Nat} {sp : Sp} (F : Fun K x qual st f fd) (S : FnScope N ps (defScope st)) (len : ∀ vs H Q E, sp vs H Q E → vs.length = ps.length)
    (hbody : ∀ (cdv : Value) (A : Around) (outer : List Env) (s : Shared) (H : Hp) (vs : List V) (Q : VK) (E : XK), A.guards = some [] → Room k (A.deeper (envOfC qual (defScope st) s.heap.objs.size f cdv)) → sp vs H Q E →
      ∃ t, PSs (cxOf CX0 P w K mg base N qual (defScope st) f cdv A outer s H E).nox (defBody st) t ∧ t { nx := fun _ H' => Q .non H', rt := Q } (L2.start N vs) H) : FnG P w K mg base (k + 1) f fd ps sp := by
  obtain ⟨oc, od, kV, doc, pm, an, cdv, ct, osl, rfl, lk, hcd⟩ := F.ex
  refine ⟨len, fun A outer s H args us vs Q E hg hr e0 hb r hsp => ?_⟩
  have old : ∀ b o, base.get? b = some o → s.heap.get? b = some o := fun b o e => (e0.bs b o e).1
  have KX : K.In s.heap := e0.mod.kin.keeps old
  have kinds : ∀ y ∈ ps.zip us, (defScope st).names.lookup y.1 = some .local ∨ ((defScope st).names.lookup y.1 = some .cell ∧ ((cellsFrom (s.heap.objs.size + 1) (defScope st).names []).lookup y.1).isSome = true) := by
    rintro ⟨n, v⟩ hy
    exact (S.par n (List.of_mem_zip hy).1).imp id fun q => ⟨q, PySem.W.cellsFrom_some _ _ _ (.inl q)⟩
  refine codeAny_call_function hr.depth (KX _ _ lk) rfl S.co S.gen rfl (PySem.W.codeRec_of KX hcd) (hb _ _ _ _ (wpAny_newFunctionEnv_cells S.kind kinds fun env he s1 x => ?_))
  subst he
  refine ⟨(e0.mod.nolimit.keeps old).keeps x.toInCall.keep, codeAny_func ?_⟩
  obtain ⟨t, ht, hq⟩ := hbody cdv A outer s H vs Q E hg (hr.deeper _) hsp
  have I := inv_start (CX := CX0) (E := E) S hr.hd e0 (len _ _ _ _ hsp) r x
  refine wpAny_mono (ht.nox.run [] s1 (L2.start N vs) H _ I hq) (fun fl s2 hs => ?_) fun e s2 hs => hs
  have fin : ∀ {σ' : L2.St} {H' : Hp} {v : V} {u : Value}, Inv (cxOf CX0 P w K mg base N qual (defScope st) f cdv A outer s H E) [] σ' H' s2 → RelV v u → Q v H' → CE outer P w H s Q u s2 :=
    fun {σ' H' v u} J rv q => ⟨v, H', J.os, J.bare, J.base, J.hok, rv, q⟩
  match fl, hs with
  | .ret u, ⟨v, σ', H', J, rv, q⟩ => exact fin J rv q
  | .next, ⟨σ', H', J, q⟩ => exact fin (v := V.non) (u := Value.none) J rfl q
  | .brk, ⟨_, _, _, q⟩ => exact q.elim
  | .cont, ⟨_, _, _, q⟩ => exact q.elim
end
theorem okDG {K : PySem.W.Frag} {P : Program} {w : World} {mg : Str → Option Value} {base : Heap} {x qual : Str} {st : Stmt} {f : Addr} {fd : FuncData} {N ps : List Str} {k : Nat} {sp : DSpec} (F : Fun K x qual st f fd) (S : FnScope N ps (defScope st)) (len : ∀ ss G Qd, sp ss G Qd → ss.length = ps.length)
    (hbody : ∀ (cdv : Value) (A : Around) (outer : List Env) (s : Shared) (H : Hp) (E : XK) (ss : List DL.S) (G : List M) (Qd : Res → List M → Prop), A.guards = some [] → Room k (A.deeper (envOfC qual (defScope st) s.heap.objs.size f cdv)) → sp ss G Qd →
      ∃ t, PSs (cxOf CX0 P w K mg base N qual (defScope st) f cdv A outer s H E).nox (defBody st) t ∧ StC K t (startD N ss) G [] (endsD Qd)) : FnG P w K mg base (k + 1) f fd ps (spD K sp) := by
  refine okFnG F S (fun vs H Q E h => ?_) (fun cdv A outer s H vs Q E hg hr h => ?_)
  · obtain ⟨w, ss, G, Qd, _, _, r, q, _⟩ := h
    rw [← paired_len r]
    exact len ss G Qd q
  · obtain ⟨w, ss, G, Qd, h0, c, r, q, k1, k2⟩ := h
    obtain ⟨t, ht, hs⟩ := hbody cdv A outer s H E ss G Qd hg hr q
    refine ⟨t, ht, hs w [] (L2.start N vs) H ⟨c.reg, c.rin, c.nd, c.fr, c.h0, slok_start r, c.gl, c.lo, c.ld⟩ _ ⟨?_, ?_, ?_, ?_, fun _ _ _ => trivial⟩⟩
    · intro ls' σ' H' Δ' G' L' c' g' n'
      exact k1 .non (.d .non) H' G' c'.forget rfl n'
    · intro ls' σ' H' Δ' G' L' v z c' rz n'
      cases z with
      | d x => exact k1 v (.d x) H' G' c'.forget (Rep.grow grow_drop rz) n'
      | g j => exact k1 v (.g j) H' G' c'.forget rz n'
      | l j =>
        obtain ⟨a, ha, rfl⟩ := rz
        exact k2 ls' j a L' H' G' c'.forgetS ha n'
    · intro ls' σ' H' Δ' G' L' c' g' n'
      exact n'.elim
    · intro ls' σ' H' Δ' G' L' c' g' n'
      exact n'.elim
/-! ### the law's own call, with the guards -/
section
variable {P : Program} {w : World} {K : PySem.W.Frag} {mg mb : Str → Option Value} {k : Nat} {fa a : Addr} {fd : FuncData} {x : Str} {sp : Sp} {s1 : Shared}
theorem call_fromG (hr : Room k callerA) (H : Hp) (hF : FnG P w K mg (hidT s1.heap H) k fa fd [x] sp) (hbd : ∀ (s : Shared) (u : Value), BindsTo s fd ⟨[u], []⟩ [(x, u)])
    (e0 : Env0 P w K mg (hidT s1.heap H) callerA [] s1 H) (hO : Only H) (hp : sp [.ref a] H (fun v _ => v = .bl true) fun _ _ _ => False) :
    codeAny (model P w) callerA (.call (.ref fa) ⟨[.ref a], []⟩) (fun r s2 => r = .ok (.ret (.bool true)) ∧ OldK s1.heap s2.heap ∧ s2.os = s1.os ∧ AllBare s2.gens) s1 := by
  have run := hF.run callerA [] s1 H ⟨[.ref a], []⟩ [.ref a] [.ref a] (fun v _ => v = .bl true) (fun _ _ _ => False) rfl hr e0 (hbd s1 (.ref a)) (.cons rfl .nil) hp
  refine codeAny_mono run fun r s2 h => ?_
  match r, h with
  | .error _, h => exact h.elim
  | .ok .next, h => exact h.elim
  | .ok .brk, h => exact h.elim
  | .ok .cont, h => exact h.elim
  | .ok (.ret u), h =>
    obtain ⟨v, H2, os2, bare2, un2, hok2, rv2, rfl⟩ := h
    have eu : u = Value.bool true := rv2
    subst eu
    refine ⟨rfl, OldK.of_keep fun b o e => ?_, os2, bare2⟩
    rcases hO b with n | ⟨ob, xs, f⟩
    · exact un2.keep b o e n (fun m => by cases m) (fun m => by cases m)
    · have e1 := (e0.hok b _ f).1
      rw [e] at e1
      cases e1
      exact (hok2 b _ (un2.frzs b _ _ f)).1
end
section
variable {P : Program} {w : World} {K : PySem.W.Frag} {mg mb : Str → Option Value} {k : Nat} {fa a : Addr} {fd : FuncData} {x : Str} {sp : Sp} {s1 : Shared} {vals : List Value} {ns : List Int}
theorem env_startG (kin : K.In s1.heap) (nsG : s1.heap.Ns mainGlobals mg) (nsB : s1.heap.Ns builtinsNs mb) (eB : ∀ y : Str, y ≠ "__name__" → mb y = bootBuiltins y) (nl : s1.heap.NoLimit) (g0 : s1.gens = #[])
    (la : s1.heap.get? a = some { cls := .type "list", data := .seq vals.toArray }) (H : Hp) (hok : HOk P w H s1.heap) (only : ∀ b u, H b = some u → b = a ∧ K.lookup a = none) :
    K.In (hidT s1.heap H) ∧ (hidT s1.heap H).Ns mainGlobals mg ∧ Env0 P w K mg (hidT s1.heap H) callerA [] s1 H := by
  have free : ∀ {b : Addr} {o : Obj}, s1.heap.get? b = some o → (b = a → K.lookup a = none → False) → (hidT s1.heap H).get? b = some o := by
    intro b o e n
    refine hidT_get e ?_
    rcases q : H b with _ | u
    · rfl
    · exact (n (only b u q).1 (only b u q).2).elim
  have kin' : K.In (hidT s1.heap H) := fun b o e => free (kin b o e) fun eb n => by
    subst eb
    rw [n] at e
    cases e
  have ns' : ∀ {b : Addr} {m : Str → Option Value}, s1.heap.Ns b m → (hidT s1.heap H).Ns b m := by
    rintro b m ⟨o, es, ep, e, d, r⟩
    refine ⟨o, es, ep, free e fun eb _ => ?_, d, r⟩
    subst eb
    have eo := Option.some.inj (la.symm.trans e)
    rw [← eo] at d
    cases d
  refine ⟨kin', ns' nsG, ⟨rfl, ⟨kin', ns' nsG, ⟨mb, ns' nsB, eB⟩, ?_⟩, fun b o e => of_hidT e, Nat.le_of_eq (hidT_size _ _), trivial, (fun b m => by cases m), hok, .of_eq g0⟩⟩
  obtain ⟨mc, n1, n2⟩ := nl
  exact ⟨mc, ns' n1, n2⟩
theorem law_callG (kin : K.In s1.heap) (nsG : s1.heap.Ns mainGlobals mg) (nsB : s1.heap.Ns builtinsNs mb) (eB : ∀ y : Str, y ≠ "__name__" → mb y = bootBuiltins y) (nl : s1.heap.NoLimit) (g0 : s1.gens = #[])
    (la : s1.heap.get? a = some { cls := .type "list", data := .seq vals.toArray }) (iv : IntsAre vals ns) (hl : ns.length ≤ sizeLine) (hr : Room k callerA)
    (F : ∀ base : Heap, K.In base → base.Ns mainGlobals mg → FnG P w K mg base k fa fd [x] sp) (hbd : ∀ (s : Shared) (u : Value), BindsTo s fd ⟨[u], []⟩ [(x, u)])
    (hsp : ∀ H : Hp, Only H → SqL K H a (ns.map V.int) → sp [.ref a] H (fun v _ => v = .bl true) fun _ _ _ => False) :
    codeAny (model P w) callerA (.call (.ref fa) ⟨[.ref a], []⟩) (fun r s2 => r = .ok (.ret (.bool true)) ∧ OldK s1.heap s2.heap ∧ s2.os = s1.os ∧ AllBare s2.gens) s1 := by
  have vi := vals_ints iv
  have go : ∀ H : Hp, HOk P w H s1.heap → (∀ b u, H b = some u → b = a ∧ K.lookup a = none) → Only H → SqL K H a (ns.map V.int) → codeAny (model P w) callerA (.call (.ref fa) ⟨[.ref a], []⟩) (fun r s2 => r = .ok (.ret (.bool true)) ∧ OldK s1.heap s2.heap ∧ s2.os = s1.os ∧ AllBare s2.gens) s1 := by
    intro H hok only hO hS
    obtain ⟨k1, k2, e0⟩ := env_startG kin nsG nsB eB nl g0 la H hok only
    exact call_fromG hr H (F _ k1 k2) hbd e0 hO (hsp H hO hS)
  rcases lk : K.lookup a with _ | o
  · let o1 : HO := .frz { cls := .type "list", data := .seq vals.toArray } (.lst (ns.map V.int))
    have at_a : ∀ {b u}, (if b = a then some o1 else none) = some u → b = a ∧ u = o1 := by
      intro b u e
      by_cases z : b = a
      · rw [if_pos z] at e
        exact ⟨z, (Option.some.inj e).symm⟩
      · rw [if_neg z] at e
        cases e
    refine go (fun b => if b = a then some o1 else none) (fun b u e => ?_) (fun b u e => ⟨(at_a e).1, lk⟩) (fun b => ?_) (.inl (.inr ⟨_, if_pos rfl⟩))
    · obtain ⟨rfl, rfl⟩ := at_a e
      exact ⟨la, by rw [List.length_map]; exact hl, vals, _, vi, la⟩
    · by_cases z : b = a
      · exact .inr ⟨_, _, if_pos z⟩
      · exact .inl (if_neg z)
  · have e := kin a o lk
    rw [la] at e
    cases e
    refine go (fun _ => none) (fun b u z => by cases z) (fun b u z => by cases z) (fun _ => .inl rfl) (.inr ⟨_, vals.toArray, _, lk, rfl, rfl, rfl, ?_, by simpa using vi⟩)
    rw [List.size_toArray, iv.length]
    exact hl
end
theorem walk_ofG {l : PySem.W.OpenLaw} {n k : Nat} {q : Program} {loose : List Str} {XP : (Str → Option Value) → Heap → Prop} {YP : World → Heap → Prop} {d : DefRec} {K : Params → PySem.W.Frag} {sp : World → Sp} {x : Str}
    (most : l.most = some n) (hn : n ≤ sizeLine) (nodef : d.params.defaults = []) (room : Room k callerA) (hY : ∀ (w : World) (h : Heap), YP w h → (K w.params).In h)
    (F : ∀ (w : World) (mg : Str → Option Value) (fa : Addr) (h : Heap), (K w.params).In h → h.Ns mainGlobals mg → mg d.name = some (.ref fa) →
      ∃ fd : FuncData, (∀ (s : Shared) (u : Value), BindsTo s fd ⟨[u], []⟩ [(x, u)]) ∧ ∀ base : Heap, (K w.params).In base → base.Ns mainGlobals mg → FnG l.prog w (K w.params) mg base k fa fd [x] (sp w))
    (hsp : ∀ (w : World) (H : Hp) (a : Addr) (ns : List Int), ns.length ≤ n → (∀ z ∈ ns, Builtin.Int.intBits z ≤ 1048576) → SqL (K w.params) H a (ns.map V.int) → sp w [.ref a] H (fun v _ => v = .bl true) fun _ _ _ => False) :
    PySem.W.WalkO q loose XP YP l.row.toRowW d [] (fun f vs => PySem.call f vs) := by
  refine Att.attach_callB most nodef fun w _ s1 mg mb fa _ _ _ _ a vals ns G Y _ _ _ emg la iv hlen bits g0 => ?_
  have kin := hY w _ Y
  obtain ⟨fd, hbd, hF⟩ := F w mg fa _ kin G.T.g emg
  exact law_callG kin G.T.g G.T.b G.T.builtins G.T.nolimit g0 la iv (Nat.le_trans hlen hn) room hF hbd fun H _ hS => hsp w H a ns hlen bits hS
/-! ### what repr shows, at the level of data -/
def Shw (n k : Nat) (d : D) : Prop := ∃ p, d.py = some p ∧ p.showable = true ∧ p.hasDict = false ∧ p.depth ≤ k ∧ p.shown.length ≤ n
theorem Shw.mono {n m k j : Nat} {d : D} (h : Shw n k d) (hn : n ≤ m) (hk : k ≤ j) : Shw m j d :=
  let ⟨p, h1, h2, h3, h4, h5⟩ := h
  ⟨p, h1, h2, h3, Nat.le_trans h4 hk, Nat.le_trans h5 hn⟩
theorem digits_len (i : Int) : (toString i).toList.length ≤ (Nat.toDigits 10 i.natAbs).length + 1 := by
  cases i with
  | ofNat m =>
    show (toString m).toList.length ≤ _
    rw [Nat.toString_eq_ofList_toDigits, String.toList_ofList]
    exact Nat.le_succ _
  | negSucc m =>
    show ("-" ++ toString (m + 1)).toList.length ≤ _
    have e : (toString (m + 1)).toList = Nat.toDigits 10 (m + 1) := by rw [Nat.toString_eq_ofList_toDigits, String.toList_ofList]
    rw [String.toList_append, List.length_append, e]
    show 1 + _ ≤ (Nat.toDigits 10 (m + 1)).length + 1
    omega
theorem ofString_len (s : String) : (Str.ofString s).length = s.toList.length := by
  rw [Str.ofString_eq_toList]
  show ((s.toList.map Char.toNat).toArray).size = _
  rw [List.size_toArray, List.length_map]
theorem shw_int (k : Nat) {i : Int} (h : i.natAbs < 10 ^ 60) : Shw 61 k (.int i) := by
  refine ⟨.int i, rfl, ?_, rfl, Nat.zero_le _, ?_⟩
  · refine decide_eq_true ?_
    by_cases z : i.natAbs = 0
    · rw [z]
      decide
    · exact (Nat.log2_lt z).mpr (Nat.lt_trans h (by decide +kernel))
  · have e := digits_len i
    have e2 := (Nat.length_toDigits_le_iff (b := 10) (n := i.natAbs) (k := 60) (by decide) (by decide)).mpr h
    have e3 := ofString_len (toString i)
    show (Str.ofString (toString i)).length ≤ 61
    omega
theorem tupleText_len (ts : List Str) : (tupleText ts).length ≤ piled ts + 3 := by
  unfold tupleText
  rw [strLen_append, strLen_append]
  have e1 : ((("(" : String) : Str)).length = 1 := rfl
  have e3 : (((if ts.length == 1 then ",)" else ")" : String) : Str)).length ≤ 2 := by split <;> decide
  rw [e1]
  by_cases h : ts = []
  · subst h
    have e4 : (Str.join ", " []).length = 0 := rfl
    rw [e4]
    omega
  · have := join_length_add ts h
    omega
theorem callr_or {X : Cx} {f : Value} {r q : List V → Hp → VK → Prop} (a : CallR X f r) (b : CallR X f q) : CallR X f (fun xs H Q => r xs H Q ∨ q xs H Q) := fun pins s σ H xs us Q I rv h =>
  h.elim (fun h => a pins s σ H xs us Q I rv h) fun h => b pins s σ H xs us Q I rv h
section
variable {K : PySem.W.Frag} {Δ : Sl} {G L : List M} {Qd : Po} {n k : Nat}
end
end DL

namespace DL
open PySem PySem.Spec PyProof.Rows L2
section
variable {K : PySem.W.Frag}
/-! ### an own object becomes data -/
def S.frz (k : Nat) (x : D) : S → S
  | .l j => if j = k then .d x else if j < k then .l j else .l (j - 1)
  | s => s
def M.frz (k : Nat) (x : D) : M → M
  | .hl xs => .hl (xs.map (S.frz k x))
  | .dh kvs => .dh (kvs.map fun p => (p.1, p.2.frz k x))
  | .og C fs => .og C (fs.map fun p => (p.1, p.2.frz k x))
  | .dq kvs => .dq (kvs.map fun p => (p.1, p.2.frz k x))
  | m => m
theorem eraseIdx_lt {α : Type} : ∀ {l : List α} {k j : Nat}, j < k → (l.eraseIdx k)[j]? = l[j]?
  | [], _, _, _ => by simp
  | _ :: _, 0, _, h => absurd h (Nat.not_lt_zero _)
  | _ :: _, _ + 1, 0, _ => rfl
  | _ :: l, k + 1, j + 1, h => eraseIdx_lt (l := l) (Nat.lt_of_succ_lt_succ h)
theorem eraseIdx_ge {α : Type} : ∀ {l : List α} {k j : Nat}, k ≤ j → (l.eraseIdx k)[j]? = l[j + 1]?
  | [], _, _, _ => by simp
  | _ :: _, 0, _, _ => rfl
  | _ :: l, k + 1, 0, h => absurd h (Nat.not_succ_le_zero _)
  | _ :: l, k + 1, j + 1, h => eraseIdx_ge (l := l) (Nat.le_of_succ_le_succ h)
theorem erase_sub {ls : List Addr} {k : Nat} {a : Addr} (h : a ∈ ls.eraseIdx k) : a ∈ ls := List.mem_of_mem_eraseIdx h
theorem paired_erase {α β : Type} {F : α → β → Prop} : ∀ {as : List α} {bs : List β} {k : Nat}, Paired F as bs → Paired F (as.eraseIdx k) (bs.eraseIdx k)
  | _, _, _, .nil => .nil
  | _, _, 0, .cons h t => t
  | _, _, k + 1, .cons h t => .cons h (paired_erase (k := k) t)
theorem nodup_erase {ls : List Addr} {k : Nat} {p : Addr} (nd : ls.Nodup) (hk : ls[k]? = some p) : p ∉ ls.eraseIdx k := by
  intro h
  obtain ⟨j, hj⟩ := List.mem_iff_getElem?.mp h
  have uniq : ∀ i, ls[i]? = some p → i = k := fun i hi => by
    have h1 := (List.getElem?_eq_some_iff.mp hi)
    have h2 := (List.getElem?_eq_some_iff.mp hk)
    exact (List.getElem_inj (h₀ := h1.1) (h₁ := h2.1) nd).mp (h1.2.trans h2.2.symm)
  rcases Nat.lt_or_ge j k with z | z
  · rw [eraseIdx_lt z] at hj
    have := uniq _ hj
    omega
  · rw [eraseIdx_ge z] at hj
    have := uniq _ hj
    omega
section
variable {w : W} {ls : List Addr} {σ : L2.St} {H : Hp} {Δ : Sl} {G L : List M}
theorem grow_frz {k : Nat} : Grow H H (Rg w ls) (Rg w (ls.eraseIdx k)) := grow_sub fun a h => erase_sub h
theorem RS.frz {gs : List Addr} {k : Nat} {p : Addr} {x : D} (hk : ls[k]? = some p) (rx : Rep K H (Rg w (ls.eraseIdx k)) x (.ref p)) : ∀ {s : S} {v : V}, RS K H (Rg w ls) gs ls s v → RS K H (Rg w (ls.eraseIdx k)) gs (ls.eraseIdx k) (s.frz k x) v
  | .d _, _, h => Rep.grow grow_frz h
  | .g _, _, h => h
  | .l j, v, ⟨a, h, e⟩ => by
    show RS K H _ gs _ (if j = k then S.d x else if j < k then S.l j else S.l (j - 1)) v
    by_cases z : j = k
    · rw [if_pos z]
      subst z
      rw [h] at hk
      cases hk
      rw [e]
      exact rx
    · rw [if_neg z]
      by_cases y : j < k
      · rw [if_pos y]
        exact ⟨a, (eraseIdx_lt y).trans h, e⟩
      · rw [if_neg y]
        refine ⟨a, (eraseIdx_ge (by omega)).trans ?_, e⟩
        rw [show j - 1 + 1 = j by omega]
        exact h
theorem paired_map3 {α β γ : Type} {F : α → β → Prop} {F' : α → γ → Prop} {f : β → γ} : ∀ {as : List α} {bs : List β}, Paired F as bs → (∀ a b, a ∈ as → F a b → F' a (f b)) → Paired F' as (bs.map f)
  | _, _, .nil, _ => .nil
  | _, _, .cons h t, k => .cons (k _ _ List.mem_cons_self h) (paired_map3 t fun a b m => k a b (List.mem_cons_of_mem _ m))
theorem paired_mapB {α β γ : Type} {F : β → α → Prop} {F' : γ → α → Prop} {f : β → γ} : ∀ {bs : List β} {as : List α}, Paired F bs as → (∀ b a, F b a → F' (f b) a) → Paired F' (bs.map f) as
  | _, _, .nil, _ => .nil
  | _, _, .cons h t, k => .cons (k _ _ h) (paired_mapB t k)
theorem MOk.frz {k : Nat} {p : Addr} {x : D} (hk : ls[k]? = Option.some p) (rx : Rep K H (Rg w (ls.eraseIdx k)) x (.ref p)) {a : Addr} : ∀ {m : M}, MOk K H (Rg w ls) w.gs ls a m → MOk K H (Rg w (ls.eraseIdx k)) w.gs (ls.eraseIdx k) a (m.frz k x)
  | .pl _, ⟨vs, h, r⟩ => ⟨vs, h, RepL.grow grow_frz r⟩
  | .hl _, ⟨vs, h, r⟩ => ⟨vs, h, paired_mapB r fun _ _ q => q.frz hk rx⟩
  | .dc _, ⟨vs, h, r⟩ => ⟨vs, h, RepK.grow grow_frz r⟩
  | .ob _ _, ⟨dx, vs, h, r⟩ => ⟨dx, vs, h, RepF.grow grow_frz r⟩
  | .dh _, ⟨vs, h, r⟩ => ⟨vs, h, paired_mapB r fun _ _ q => ⟨q.1, q.2.frz hk rx⟩⟩
  | .dt _, h => h
  | .dz _ _, h => h
  | .og _ _, ⟨dx, vs, h, r⟩ => ⟨dx, vs, h, paired_mapB r fun _ _ q => ⟨q.1, q.2.frz hk rx⟩⟩
  | .dq _, ⟨vs, h, r⟩ => ⟨vs, h, paired_mapB r fun _ _ q => ⟨q.1, q.2.frz hk rx⟩⟩
theorem Ctx.frz {k : Nat} {m : M} {x : D} (c : Ctx K w ls σ H Δ G L) (hm : L[k]? = some m) (hx : m.dat = some x) : Ctx K w (ls.eraseIdx k) σ H (Δ.map (Option.map (S.frz k x))) G ((L.eraseIdx k).map (M.frz k x)) := by
  obtain ⟨p, hp, q⟩ := paired_get c.lo hm
  have ndl := (List.nodup_append.mp c.nd).2.1
  have np : ¬ Rg w (ls.eraseIdx k) p := by
    rintro (r | r)
    · exact c.ld p (List.mem_of_getElem? hp) r
    · exact nodup_erase ndl hp r
  have rx : Rep K H (Rg w (ls.eraseIdx k)) x (.ref p) := by
    cases m with
    | pl ds =>
      cases hx
      obtain ⟨vs, h1, r⟩ := q
      exact ⟨p, vs, rfl, ⟨h1, np⟩, r.grow grow_frz⟩
    | hl xs => cases hx
    | dc ds =>
      cases hx
      obtain ⟨vs, h1, r⟩ := q
      exact ⟨p, vs, rfl, ⟨h1, np⟩, r.grow grow_frz⟩
    | ob C ds =>
      cases hx
      obtain ⟨dx, vs, h1, r⟩ := q
      exact ⟨p, dx, vs, rfl, ⟨h1, np⟩, r.grow grow_frz⟩
    | dh kvs => cases hx
    | dt kvs => cases hx
    | dz od kvs => cases hx
    | og C fs => cases hx
    | dq kvs => cases hx
  refine ⟨c.reg, c.rin, ?_, fun a h => c.fr a (erase_sub h), c.h0, ?_, paired_map c.gl fun a m _ q => q.grow grow_frz (Pre.refl _) (Pre.refl _) fun _ z => z, ?_, fun a h => c.ld a (erase_sub h)⟩
  · have nd := List.nodup_append.mp c.nd
    exact List.nodup_append.mpr ⟨nd.1, nd.2.1.eraseIdx k, fun a ha b hb => nd.2.2 a ha b (erase_sub hb)⟩
  · refine ⟨by rw [List.length_map]; exact c.sl.1, fun i s e => ?_⟩
    rw [List.getElem?_map] at e
    cases e2 : Δ[i]? with
    | none =>
      rw [e2] at e
      cases e
    | some y =>
      rw [e2] at e
      cases y with
      | none => cases e
      | some z =>
        have e := Option.some.inj e
        have e : z.frz k x = s := Option.some.inj e
        subst e
        obtain ⟨v, h1, h2⟩ := c.sl.2 i z e2
        exact ⟨v, h1, h2.frz hp rx⟩
  · exact paired_map3 (paired_erase c.lo) fun a m _ q => q.frz hp rx
end
section
variable {Δ : Sl} {G L : List M} {E : EndsD} {t : TS}
theorem st_frz (k : Nat) (h : ∃ m x, L[k]? = some m ∧ m.dat = some x ∧ StC K t (Δ.map (Option.map (S.frz k x))) G ((L.eraseIdx k).map (M.frz k x)) E) : StC K t Δ G L E := fun w ls σ H c D s => by
  obtain ⟨m, x, hm, hx, h⟩ := h
  exact h w (ls.eraseIdx k) σ H (c.frz hm hx) D (s.on grow_frz)
end
section
variable {Δ : Sl} {G L : List M} {E : EndsD} {ta : TA} {Qd : Po}
theorem st_par {i j : Nat} (h : EvA K ta Δ G L fun ss G1 L1 => ∃ x y, ss = [x, y] ∧ E.nx ((Δ.set i (some x)).set j (some y)) G1 L1) : StC K (tPar i j ta) Δ G L E := fun w ls σ H c D s => h w ls σ H c _ fun vs ss H2 G2 L2 c2 e2 r2 ⟨x, y, e, k⟩ => by
  subst e
  obtain ⟨v, u, rfl, rx, ry⟩ := pair2 r2
  exact ⟨v, u, rfl, s.nx ls _ H2 _ G2 L2 ((c2.slot rx).slot ry) (e2.grow c.reg) k⟩
theorem u_eq_ss {z : Str} (k : Qd (.d (.bl true)) G L) : OpC K (uEq K) (.d (.str z)) (.d (.str z)) Δ G L Qd := u_eq_s (by rw [decide_eq_true rfl]; exact k)
theorem u_ne_ss {z : Str} (k : Qd (.d (.bl false)) G L) : OpC K (uNe K) (.d (.str z)) (.d (.str z)) Δ G L Qd := u_ne_s (by rw [decide_eq_true rfl]; exact k)
end
theorem iteDr {α : Type} {a : α} [DecidableEq α] {A B : Prop} (h : A) : if decide (a = a) = true then A else B := by
  rw [if_pos (decide_eq_true rfl)]
  exact h
theorem iteNDr {α : Type} {a : α} [DecidableEq α] {A B : Prop} (h : B) : if (!decide (a = a)) = true then A else B := by
  rw [if_neg (by rw [decide_eq_true rfl]; decide)]
  exact h
section
variable {Δ : Sl} {G L : List M} {Qd : Po}
theorem u_get_intX {k : Nat} {i : Int} (h : ∃ xs : List Int, L[k]? = some (.pl (xs.map D.int)) ∧ (0 ≤ i ∧ i < (xs.length : Nat)) ∧ Qd (.d (.int (xs.getD i.toNat 0))) G L) : OpC K (rIxL K) (.l k) (.d (.int i)) Δ G L Qd :=
  let ⟨_, hx, h, q⟩ := h
  u_get_int hx h.1 h.2 q
theorem sto_intX {k : Nat} {i z : Int} {Qt : List M → List M → Prop} (h : ∃ xs : List Int, L[k]? = some (.pl (xs.map D.int)) ∧ (0 ≤ i ∧ i < (xs.length : Nat)) ∧ Qt G (L.set k (.pl ((xs.set i.toNat z).map D.int)))) : StoC K rSetL (.l k) (.d (.int i)) (.d (.int z)) Δ G L Qt :=
  let ⟨_, hx, h, q⟩ := h
  sto_int hx h.1 h.2 q
theorem u_ix_intX {x : S} {i : Int} (h : ∃ xs : List Int, seqG G L x = some (xs.map D.int) ∧ (0 ≤ i ∧ i < (xs.length : Nat)) ∧ Qd (.d (.int (xs.getD i.toNat 0))) G L) : OpC K (rIx K) x (.d (.int i)) Δ G L Qd :=
  let ⟨_, hx, h, q⟩ := h
  u_ix_int hx h.1 h.2 q
theorem u_ix_if2 {x y : Int} {b : Bool} (k : ∀ z : Int, (b = true ∧ z = y) ∨ (b = false ∧ z = x) → Qd (.d (.int z)) G L) : OpC K (rIx K) (.d (.lst [.int x, .int y])) (.d (.int (if b = true then 1 else 0))) Δ G L Qd := by
  cases b with
  | true => exact u_ix_g (xs := [.int x, .int y]) (i := if true = true then 1 else 0) (d := .int y) rfl rfl (k y (.inl ⟨rfl, rfl⟩))
  | false => exact u_ix_g (xs := [.int x, .int y]) (i := if false = true then 1 else 0) (d := .int x) rfl rfl (k x (.inr ⟨rfl, rfl⟩))
end
/-! ### comprehensions that look at an own object, which they leave alone -/
section
variable {Δ : Sl} {G L : List M} {te : TE} {tt : TT} {wi : TI} {g : TG} {vs : List Nat} {Qn : PoN}
end
section
variable {Δ : Sl} {G L : List M} {ta : TA}
theorem RS.other {w w2 : W} {ls : List Addr} {H H2 : Hp} {s : S} {v : V} (eg : w2.gs = w.gs) (g : Grow H H2 (Rg w ls) (Rg w2 ls)) (r : RS K H (Rg w ls) w.gs ls s v) : RS K H2 (Rg w2 ls) w2.gs ls s v := by
  rw [eg]
  exact r.grow g (Pre.refl _) (Pre.refl _)
end
end
end DL

namespace DL
open PySem PySem.Spec PyProof.Rows L2
/-! ### the deck: a list [cells, seed, count], the cells a list of ints -/
structure Dk (G : List M) (k c : Nat) (n : Int) (cells : List Int) (seed cnt : Int) : Prop where
  hk : G[k]? = some (.hl [.g c, .d (.int seed), .d (.int cnt)])
  hc : G[c]? = some (.pl (cells.map D.int))
  ne : k ≠ c
  s0 : 0 ≤ seed
  s1 : seed < 2 ^ 62
  n0 : 0 ≤ cnt
  n1 : cnt ≤ n
  cl : cells.length ≤ 1000
def dkSet (G : List M) (k c : Nat) (cells : List Int) (seed cnt : Int) : List M := (G.set c (.pl (cells.map D.int))).set k (.hl [.g c, .d (.int seed), .d (.int cnt)])
def DkTo (G : List M) (k c : Nat) (n : Int) (G' : List M) : Prop := ∃ cells seed cnt, G' = dkSet G k c cells seed cnt ∧ Dk G' k c n cells seed cnt
theorem DkTo.dk {G G' : List M} {k c : Nat} {n : Int} (h : DkTo G k c n G') : ∃ cells seed cnt, Dk G' k c n cells seed cnt := let ⟨a, b, d, _, e⟩ := h; ⟨a, b, d, e⟩
theorem DkTo.trans {G G1 G2 : List M} {k c : Nat} {n m : Int} (h : DkTo G k c n G1) (h2 : DkTo G1 k c m G2) : DkTo G k c m G2 := by
  obtain ⟨a, b, d, rfl, q⟩ := h
  obtain ⟨a', b', d', rfl, q'⟩ := h2
  refine ⟨a', b', d', ?_, q'⟩
  unfold dkSet
  rw [set_comm (Ne.symm q'.ne), set_set, set_comm q'.ne, set_set]
theorem DkTo.refl {G : List M} {k c : Nat} {n : Int} {cells : List Int} {seed cnt : Int} (h : Dk G k c n cells seed cnt) : DkTo G k c n G := by
  refine ⟨cells, seed, cnt, ?_, h⟩
  unfold dkSet
  rw [set_same h.hc, set_same h.hk]
theorem DkTo.mono {G G' : List M} {k c : Nat} {n m : Int} (h : DkTo G k c n G') (e : n ≤ m) : DkTo G k c m G' := by
  obtain ⟨a, b, d, rfl, q⟩ := h
  exact ⟨a, b, d, rfl, ⟨q.hk, q.hc, q.ne, q.s0, q.s1, q.n0, Int.le_trans q.n1 e, q.cl⟩⟩
theorem st_law {K : PySem.W.Frag} {Δ : Sl} {L : List M} {t : TS} {Qd : Res → List M → Prop} (h : StC K t (Δ.map (Option.map S.pro)) (L.map M.pro) [] { nx := fun _ _ _ => Qd (.v (.d .non)) [], rt := fun s _ _ => ∃ x, s = .d x ∧ Qd (.v (.d x)) [] }) : StC K t Δ [] L (endsD Qd) := fun w ls σ H c D s => by
  have hg : w.gs = [] := List.eq_nil_of_length_eq_zero (paired_len c.gl)
  have cf : ∀ ls' σ' H' Δ' G' L', Ctx K ⟨Rg w ls, ls, w.H0⟩ ls' σ' H' Δ' G' L' → Ctx K w [] [] H' [] [] [] := fun ls' σ' H' Δ' G' L' c' =>
    ⟨fun a h => (by rw [hg] at h; cases h), fun a r => c'.rin a (.inl r), (by rw [hg]; exact List.nodup_nil), fun a h => (by cases h), fun a o e _ => c'.h0 a o e (fun m => by rw [c.fr a m] at e; cases e), ⟨rfl, fun i s e => by simp at e⟩, (by rw [hg]; exact .nil), .nil, fun a h => (by cases h)⟩
  have gr : ∀ ls' H', Grow H' H' (Rg ⟨Rg w ls, ls, w.H0⟩ ls') (Rg w []) := fun ls' H' => grow_iff fun a r => .inl (.inl (r.elim id fun z => by cases z))
  have g0 : Grow H H (Rg w ls) (Rg ⟨Rg w ls, ls, w.H0⟩ []) := grow_iff fun a r => r.elim id fun z => by cases z
  refine h ⟨Rg w ls, ls, w.H0⟩ [] σ H ⟨fun a m => .inr m, fun a r => r.elim (c.rin a) c.lin, (by rw [List.append_nil]; exact (List.nodup_append.mp c.nd).2.1), fun a m => (by cases m), fun a o e _ => c.h0 a o e (by rw [hg]; exact fun m => by cases m), ?_, ?_, .nil, fun a m => (by cases m)⟩ D ⟨?_, ?_, ?_, ?_, fun _ _ _ => trivial⟩
  · refine ⟨by rw [List.length_map]; exact c.sl.1, fun i s e => ?_⟩
    rw [List.getElem?_map] at e
    cases e2 : Δ[i]? with
    | none =>
      rw [e2] at e
      cases e
    | some y =>
      rw [e2] at e
      cases y with
      | none => cases e
      | some z =>
        have e : z.pro = s := Option.some.inj (Option.some.inj e)
        subst e
        obtain ⟨v, h1, h2⟩ := c.sl.2 i z e2
        rw [hg] at h2
        exact ⟨v, h1, (RS.pro h2).grow g0 (Pre.refl _) (Pre.refl _)⟩
  · refine paired_map2 c.lo fun a m q => ?_
    rw [hg] at q
    exact (MOk.pro q).grow g0 (Pre.refl _) (Pre.refl _) fun _ z => z
  · intro ls' σ' H' Δ' G' L' c' g' q
    have c0 := cf _ _ _ _ _ _ c'
    refine s.nx [] σ' H' (List.replicate σ'.length none) [] [] ⟨c0.reg, c0.rin, c0.nd, c0.fr, c0.h0, ⟨by rw [List.length_replicate], fun i z e => ?_⟩, c0.gl, c0.lo, c0.ld⟩ ⟨fun a o h n => g'.keep a o h (fun r => n (r.elim id fun z => by cases z)), fun a o h r => .inl (r.elim id fun z => by cases z)⟩ q
    rw [List.getElem?_replicate] at e
    split at e <;> cases e
  · rintro ls' σ' H' Δ' G' L' v s' c' rv ⟨x, rfl, q⟩
    exact s.rt [] [] H' [] [] [] v (.d x) (cf _ _ _ _ _ _ c') (Rep.grow (gr ls' H') rv) q
  · intro ls' σ' H' Δ' G' L' c' g' q
    exact q.elim
  · intro ls' σ' H' Δ' G' L' c' g' q
    exact q.elim
end DL

namespace DL
open PySem PySem.Spec PyProof.Rows L2
/-! ### data with dicts in it, read off a heap: no dict of it is the table of modules -/
mutual
inductive RX (h : Heap) : Value → PyData → Prop
  | non : RX h .none .none
  | bl (b : Bool) : RX h (.bool b) (.bool b)
  | int (i : Int) (t : Tok) : RX h (.int i t) (.int i)
  | str (z : Str) (t : Tok) : RX h (.str z t) (.str z)
  | lst {a : Addr} {o : Obj} {us : Array Value} {n : Nat} {ps : List PyData} : h.get? a = some o → o.cls = .type "list" → o.data = .seq us n → RXs h us.toList ps → RX h (.ref a) (.list ps)
  | tup {a : Addr} {o : Obj} {us : Array Value} {n : Nat} {ps : List PyData} : h.get? a = some o → o.cls = .type "tuple" → o.data = .seq us n → RXs h us.toList ps → RX h (.ref a) (.tuple ps)
  | dct {a : Addr} {o : Obj} {es : Array DictEntry} {n : Nat} {ps : List (PyData × PyData)} : h.get? a = some o → o.cls = .type "dict" → o.data = .dict es n → (a == sysModules) = false → RXs h (es.toList.map (·.key)) (ps.map (·.1)) → RXs h (es.toList.map (·.val)) (ps.map (·.2)) → RX h (.ref a) (.dict ps)
inductive RXs (h : Heap) : List Value → List PyData → Prop
  | nil : RXs h [] []
  | cons {u : Value} {us : List Value} {p : PyData} {ps : List PyData} : RX h u p → RXs h us ps → RXs h (u :: us) (p :: ps)
end
section
variable {h : Heap}
mutual
theorem RX.reads : ∀ {u : Value} {p : PyData}, RX h u p → ∃ as, Reads h u p as
  | _, _, .non => ⟨_, .none⟩
  | _, _, .bl b => ⟨_, .bool b⟩
  | _, _, .int i t => ⟨_, .int i t⟩
  | _, _, .str z t => ⟨_, .str z t⟩
  | _, _, .lst e c d r => by
    obtain ⟨as, q⟩ := RXs.reads r
    exact ⟨_, .list e c d q⟩
  | _, _, .tup e c d r => by
    obtain ⟨as, q⟩ := RXs.reads r
    exact ⟨_, .tuple e c d q⟩
  | _, _, .dct e c d _ r r2 => by
    obtain ⟨as, q⟩ := RXs.reads r
    obtain ⟨bs, q2⟩ := RXs.reads r2
    exact ⟨_, .dict e c d q q2⟩
theorem RXs.reads : ∀ {us : List Value} {ps : List PyData}, RXs h us ps → ∃ as, ReadsAll h us ps as
  | _, _, .nil => ⟨_, .nil⟩
  | _, _, .cons r rs => by
    obtain ⟨as, q⟩ := RX.reads r
    obtain ⟨bs, q2⟩ := RXs.reads rs
    exact ⟨_, .cons q q2⟩
end
variable {prog : Program} {w : World}
theorem below_app {n m k : Nat} {bs cs : List Addr} (x : ReadAtMost h n bs) (y : ReadAtMost h m cs) (hn : n ≤ k) (hm : m ≤ k) : ReadAtMost h k (bs ++ cs) := (x.mono hn).append (y.mono hm)
def Rk (prog : Program) (w : World) (h : Heap) (u : Value) (p : PyData) : Prop := ∃ bs, ReadAtMost h p.depth bs ∧ ReprK prog w bs h p.depth u p.shown
def Rks (prog : Program) (w : World) (h : Heap) (us : List Value) (ps : List PyData) : Prop := ∃ bs, ReadAtMost h (PyData.depthAll ps) bs ∧ ReprAllK prog w bs h (PyData.depthAll ps) us (PyData.shownAll ps)
mutual
theorem RX.rk : ∀ {u : Value} {p : PyData}, RX h u p → p.showable = true → p.shown.length ≤ sizeLine → Rk prog w h u p
  | _, _, .non, _, _ => ⟨[], fun _ m => (by cases m), by rw [PyData.shown]; exact ReprK.of_is ReprIs.none _ _ _⟩
  | _, _, .bl b, _, _ => ⟨[], fun _ m => (by cases m), by rw [PyData.shown]; exact ReprK.of_is (ReprIs.bool b) _ _ _⟩
  | _, _, .int i t, s, _ => ⟨[], fun _ m => (by cases m), by rw [PyData.shown]; exact ReprK.of_is (ReprIs.int t (of_decide_eq_true (by rw [PyData.showable] at s; exact s))) _ _ _⟩
  | _, _, .str z t, _, l => ⟨[], fun _ m => (by cases m), by rw [PyData.shown] at l ⊢; exact ReprK.of_is (ReprIs.str z t l) _ _ _⟩
  | _, _, .lst (a := a) (us := us) (ps := ps) e c d r, s, l => by
    rw [PyData.shown] at l
    rw [PyData.showable] at s
    obtain ⟨bs, hb, hk⟩ := RXs.rk r s fun t ht => Nat.le_trans (listText_mem_le ht) l
    obtain ⟨as, rd⟩ := RX.reads (RX.lst e c d r)
    have na : a ∉ bs := not_mem_of_deeper rd (by rw [PyData.depth]; omega) hb
    refine ⟨a :: bs, ReadAtMost.cons rd (by rw [PyData.depth]; omega) hb, ?_⟩
    rw [PyData.depth, PyData.shown]
    obtain ⟨us⟩ := us
    match us, ps, r, d, hk with
    | [], _, .nil, d, hk =>
      rw [PyData.shownAll, listText_nil]
      exact ReprK.listEmpty e c d
    | x :: us, _, r, d, hk => exact ReprK.list e c d na (by simpa using hk.length_eq) fun i y ey => hk.item i y (by simpa using ey)
  | _, _, .tup (a := a) (us := us) (ps := ps) e c d r, s, l => by
    rw [PyData.shown] at l
    rw [PyData.showable] at s
    obtain ⟨bs, hb, hk⟩ := RXs.rk r s fun t ht => Nat.le_trans (tupleText_mem_le ht) l
    obtain ⟨as, rd⟩ := RX.reads (RX.tup e c d r)
    have na : a ∉ bs := not_mem_of_deeper rd (by rw [PyData.depth]; omega) hb
    refine ⟨a :: bs, ReadAtMost.cons rd (by rw [PyData.depth]; omega) hb, ?_⟩
    rw [PyData.depth, PyData.shown]
    exact ReprK.tuple e c d na hk
  | _, _, .dct (a := a) (es := es) (ps := ps) e c d ns r r2, s, l => by
    rw [PyData.shown] at l
    rw [PyData.showable] at s
    obtain ⟨s1, s2⟩ := PyData.showableKv_split ps s
    obtain ⟨b1, h1, k1⟩ := RXs.rk r s1 fun t ht => let ⟨x, m, le⟩ := PyData.shownKv_key_le ps t ht; Nat.le_trans le (Nat.le_trans (dictText_mem_le m) l)
    obtain ⟨b2, h2, k2⟩ := RXs.rk r2 s2 fun t ht => let ⟨x, m, le⟩ := PyData.shownKv_val_le ps t ht; Nat.le_trans le (Nat.le_trans (dictText_mem_le m) l)
    have d1 := PyData.depthAll_keys_le ps
    have d2 := PyData.depthAll_vals_le ps
    obtain ⟨as, rd⟩ := RX.reads (RX.dct e c d ns r r2)
    have hb := below_app h1 h2 d1 d2
    have na : a ∉ b1 ++ b2 := not_mem_of_deeper rd (by rw [PyData.depth]; omega) hb
    refine ⟨a :: (b1 ++ b2), ReadAtMost.cons rd (by rw [PyData.depth]; omega) hb, ?_⟩
    rw [PyData.depth, PyData.shown, PyData.shownKv_eq]
    exact ReprK.dict e c d ns na (ReprEntriesK.of_two _ _ _ (k1.more_le (fun b m => List.mem_append_left _ m) d1) (k2.more_le (fun b m => List.mem_append_right _ m) d2))
theorem RXs.rk : ∀ {us : List Value} {ps : List PyData}, RXs h us ps → PyData.showableAll ps = true → (∀ t ∈ PyData.shownAll ps, t.length ≤ sizeLine) → Rks prog w h us ps
  | _, _, .nil, _, _ => ⟨[], fun _ m => (by cases m), by rw [PyData.shownAll]; exact .nil⟩
  | _, _, .cons (p := p) (ps := ps) r rs, s, l => by
    rw [PyData.showableAll, Bool.and_eq_true] at s
    rw [PyData.shownAll] at l
    obtain ⟨b1, h1, k1⟩ := RX.rk r s.1 (l _ List.mem_cons_self)
    obtain ⟨b2, h2, k2⟩ := RXs.rk rs s.2 fun t ht => l t (List.mem_cons_of_mem _ ht)
    refine ⟨b1 ++ b2, ?_, ?_⟩
    · rw [PyData.depthAll]
      exact below_app h1 h2 (Nat.le_max_left _ _) (Nat.le_max_right _ _)
    · rw [PyData.depthAll, PyData.shownAll]
      exact .cons ((k1.more fun b m => List.mem_append_left _ m).level_le (Nat.le_max_left _ _)) (k2.more_le (fun b m => List.mem_append_right _ m) (Nat.le_max_right _ _))
end
theorem RX.shows {a : Addr} {p : PyData} (r : RX h (.ref a) p) (s : p.showable = true) (l : p.shown.length ≤ sizeLine) : ∃ T f, ShowsBy prog w h a p T f := by
  cases r with
  | lst e c d r =>
    rename_i o us n ps
    rw [PyData.shown] at l
    rw [PyData.showable] at s
    obtain ⟨bs, hb, hk⟩ := RXs.rk (prog := prog) (w := w) r s fun t ht => Nat.le_trans (listText_mem_le ht) l
    obtain ⟨as, rd⟩ := RX.reads (RX.lst e c d r)
    have na : a ∉ bs := not_mem_of_deeper rd (by rw [PyData.depth]; omega) hb
    refine ⟨_, _, F.slot_list_repr.toG, F.slot_list_str, F.slot_list_format, fun x k => ⟨o, k _ _ e, c⟩, fun A E x Q g u k q => ?_⟩
    rw [PyData.depth] at u
    rw [PyData.shown] at q
    obtain ⟨us⟩ := us
    match us, ps, r, d, hk, q with
    | [], _, .nil, d, hk, q =>
      rw [PyData.shownAll, listText_nil] at q
      exact call_list_repr_empty ⟨o, k _ _ e, c⟩ (k _ _ e) d (q x.heap _ _ fun _ _ z => z)
    | y :: us, _, r, d, hk, q => exact call_list_reprK e c d na (by simpa using hk.length_eq) (fun i y ey => hk.item i y (by simpa using ey)) g (fun b _ => Clear.nil b) u k q l
  | tup e c d r =>
    rename_i o us n ps
    rw [PyData.shown] at l
    rw [PyData.showable] at s
    obtain ⟨bs, hb, hk⟩ := RXs.rk (prog := prog) (w := w) r s fun t ht => Nat.le_trans (tupleText_mem_le ht) l
    obtain ⟨as, rd⟩ := RX.reads (RX.tup e c d r)
    have na : a ∉ bs := not_mem_of_deeper rd (by rw [PyData.depth]; omega) hb
    refine ⟨_, _, F.slot_tuple_repr, F.slot_tuple_str, F.slot_tuple_format, fun x k => ⟨o, k _ _ e, c⟩, fun A E x Q g u k q => ?_⟩
    rw [PyData.depth] at u
    rw [PyData.shown] at q
    exact call_tuple_reprK e c d na hk g (fun b _ => Clear.nil b) u k q l
  | dct e c d ns r r2 =>
    rename_i o es n ps
    rw [PyData.shown] at l
    rw [PyData.showable] at s
    obtain ⟨s1, s2⟩ := PyData.showableKv_split ps s
    obtain ⟨b1, h1, k1⟩ := RXs.rk (prog := prog) (w := w) r s1 fun t ht => let ⟨x, m, le⟩ := PyData.shownKv_key_le ps t ht; Nat.le_trans le (Nat.le_trans (dictText_mem_le m) l)
    obtain ⟨b2, h2, k2⟩ := RXs.rk (prog := prog) (w := w) r2 s2 fun t ht => let ⟨x, m, le⟩ := PyData.shownKv_val_le ps t ht; Nat.le_trans le (Nat.le_trans (dictText_mem_le m) l)
    have d1 := PyData.depthAll_keys_le ps
    have d2 := PyData.depthAll_vals_le ps
    obtain ⟨as, rd⟩ := RX.reads (RX.dct e c d ns r r2)
    have na : a ∉ b1 ++ b2 := not_mem_of_deeper rd (by rw [PyData.depth]; omega) (below_app h1 h2 d1 d2)
    refine ⟨_, _, F.slot_dict_repr, F.slot_dict_str, F.slot_dict_format, fun x k => ⟨o, k _ _ e, c⟩, fun A E x Q g u k q => ?_⟩
    rw [PyData.depth] at u
    rw [PyData.shown, PyData.shownKv_eq] at q
    exact call_dict_reprK e c d ns na (ReprEntriesK.of_two _ _ _ (k1.more_le (fun b m => List.mem_append_left _ m) d1) (k2.more_le (fun b m => List.mem_append_right _ m) d2)) g (fun b _ => Clear.nil b) u k q (by rw [← PyData.shownKv_eq]; exact l)
end
/-! ### the same at the level of data -/
def keyPy : Key → PyData
  | .inl i => .int i
  | .inr x => .str x
mutual
def D.pyX : D → Option PyData
  | .non => some .none
  | .bl b => some (.bool b)
  | .int i => some (.int i)
  | .str x => some (.str x)
  | .tup ds => match pyXL ds with
    | some xs => some (.tuple xs)
    | none => none
  | .lst ds => match pyXL ds with
    | some xs => some (.list xs)
    | none => none
  | .dct kvs => match pyXK kvs with
    | some xs => some (.dict xs)
    | none => none
  | _ => none
def pyXL : List D → Option (List PyData)
  | [] => some []
  | d :: ds => match d.pyX, pyXL ds with
    | some x, some xs => some (x :: xs)
    | _, _ => none
def pyXK : List (Key × D) → Option (List (PyData × PyData))
  | [] => some []
  | (k, d) :: ds => match d.pyX, pyXK ds with
    | some x, some xs => some ((keyPy k, x) :: xs)
    | _, _ => none
end
section
variable {X : Cx} {pins : List (Addr × Obj)} {σ : L2.St} {H : Hp} {s : Shared} {R : Addr → Prop}
theorem keys_rx {h : Heap} {P : Program} {w : World} : ∀ {es : List DictEntry} {kvs : List (Key × Value)} {ws : List (Key × V)} {ds : List (Key × D)} {ps : List (PyData × PyData)}, Pairs (mixKind P w) es kvs → KV ws kvs → RepK X.K H R ds ws → pyXK ds = some ps → RXs h (es.map (·.key)) (ps.map (·.1))
  | _, _, _, [], _, c, v, r, e => by
    cases e
    cases r
    cases v
    cases c
    exact .nil
  | _, _, _, (k, d) :: ds, _, c, v, ⟨y, ys, e1, _, r⟩, e => by
    subst e1
    unfold pyXK at e
    split at e
    · rename_i x xs hx hxs
      cases e
      cases v with
      | cons q t =>
        rename_i kv kvs'
        cases c with
        | cons c1 c2 c3 =>
          rename_i en es'
          refine .cons ?_ (keys_rx c3 t r hxs)
          obtain ⟨k2, u2⟩ := kv
          obtain ⟨q1, _⟩ := q
          have q1 : k = k2 := q1
          subst q1
          rcases keyIs_shape c1 with ⟨i, tk, e1, e2⟩ | ⟨z, tk, e1, e2⟩
          · have e1 : k = .inl i := e1
            subst e1
            show RX h en.key (.int i)
            rw [e2]
            exact .int i tk
          · have e1 : k = .inr z := e1
            subst e1
            show RX h en.key (.str z)
            rw [e2]
            exact .str z tk
    · cases e
mutual
theorem rep_rx (I : Inv X pins σ H s) : ∀ {d : D} {v : V} {p : PyData} {u : Value}, d.pyX = some p → Rep X.K H R d v → RelV v u → RX s.heap u p
  | .non, _, _, _, e, h, r => by
    cases e
    cases h
    cases r
    exact .non
  | .bl b, _, _, _, e, h, r => by
    cases e
    cases h
    cases r
    exact .bl b
  | .int i, _, _, _, e, h, r => by
    cases e
    cases h
    obtain ⟨t, rfl⟩ := r
    exact .int i t
  | .str z, _, _, _, e, h, r => by
    cases e
    cases h
    obtain ⟨t, rfl⟩ := r
    exact .str z t
  | .tup ds, _, _, _, e, ⟨a, xs, e1, h, q⟩, r => by
    unfold D.pyX at e
    split at e
    · rename_i ps hp
      cases e
      subst e1
      cases r
      obtain ⟨its, rv, ⟨o, ho, hc, n, hd⟩, _⟩ := I.tuple h.sq
      exact .tup ho hc hd (by simpa using repL_rx I hp q rv)
    · cases e
  | .lst ds, _, _, _, e, ⟨a, xs, e1, ⟨h, _⟩, q⟩, r => by
    unfold D.pyX at e
    split at e
    · rename_i ps hp
      cases e
      subst e1
      cases r
      obtain ⟨its, rv, ⟨o, n, ho, hc, _, hd⟩, _⟩ := I.list (.inl (.inl h))
      exact .lst ho hc hd (by simpa using repL_rx I hp q rv)
    · cases e
  | .dct kvs, _, _, _, e, ⟨a, ws, e1, ⟨h, _⟩, q⟩, r => by
    unfold D.pyX at e
    split at e
    · rename_i ps hp
      cases e
      subst e1
      cases r
      obtain ⟨_, ns, vs, kv, o, es, ep, ho, hx, hd, _, hpairs, _⟩ := dk_of I.hok h
      exact .dct ho hx.1 hd ns (keys_rx hpairs kv q hp) (repK_rx I hpairs kv q hp)
    · cases e
  | .ty _, _, _, _, e, _, _ => by cases e
  | .ref _, _, _, _, e, _, _ => by cases e
  | .scr _, _, _, _, e, _, _ => by cases e
  | .ins _ _, _, _, _, e, _, _ => by cases e
  | .exn _ _ _, _, _, _, e, _, _ => by cases e
  | .exv _ _, _, _, _, e, _, _ => by cases e
theorem repL_rx (I : Inv X pins σ H s) : ∀ {ds : List D} {vs : List V} {ps : List PyData} {us : List Value}, pyXL ds = some ps → RepL X.K H R ds vs → Vals vs us → RXs s.heap us ps
  | [], _, _, _, e, h, r => by
    cases e
    cases h
    cases r
    exact .nil
  | d :: ds, _, _, _, e, ⟨y, ys, e1, h, q⟩, r => by
    subst e1
    unfold pyXL at e
    split at e
    · rename_i p ps hp hps
      cases e
      cases r with
      | cons r1 r2 => exact .cons (rep_rx I hp h r1) (repL_rx I hps q r2)
    · cases e
theorem repK_rx (I : Inv X pins σ H s) : ∀ {ds : List (Key × D)} {es : List DictEntry} {kvs : List (Key × Value)} {ws : List (Key × V)} {ps : List (PyData × PyData)}, Pairs (mixKind X.prog X.w) es kvs → KV ws kvs → RepK X.K H R ds ws → pyXK ds = some ps → RXs s.heap (es.map (·.val)) (ps.map (·.2))
  | [], _, _, _, _, c, v, r, e => by
    cases e
    cases r
    cases v
    cases c
    exact .nil
  | (k, d) :: ds, _, _, _, _, c, v, ⟨y, ys, e1, h, r⟩, e => by
    subst e1
    unfold pyXK at e
    split at e
    · rename_i x xs hx hxs
      cases e
      cases v with
      | cons q t =>
        cases c with
        | cons c1 c2 c3 =>
          refine .cons ?_ (repK_rx I c3 t r hxs)
          have q2 := rep_rx I hx h q.2
          rw [← c2] at q2
          exact q2
    · cases e
end
end
def shownX (d : D) : Str := match d.pyX with
  | some p => p.shown
  | none => ""
def ShX (n k : Nat) (d : D) : Prop := ∃ p, d.pyX = some p ∧ p.showable = true ∧ p.depth ≤ k ∧ p.shown.length ≤ n
theorem ShX.mono {n m k j : Nat} {d : D} (h : ShX n k d) (hn : n ≤ m) (hk : k ≤ j) : ShX m j d :=
  let ⟨p, h1, h2, h4, h5⟩ := h
  ⟨p, h1, h2, Nat.le_trans h4 hk, Nat.le_trans h5 hn⟩
theorem shx_int (k : Nat) {i : Int} (h : i.natAbs < 10 ^ 60) : ShX 61 k (.int i) :=
  let ⟨p, h1, h2, _, h4, h5⟩ := shw_int k h
  ⟨p, h1, h2, h4, h5⟩
theorem shx_all {n k : Nat} : ∀ {ds : List D}, (∀ d ∈ ds, ShX n k d) → ∃ ps, pyXL ds = some ps ∧ PyData.showableAll ps = true ∧ PyData.depthAll ps ≤ k ∧ piled (PyData.shownAll ps) ≤ ds.length * (n + 2)
  | [], _ => ⟨[], rfl, rfl, Nat.zero_le _, Nat.le_of_eq (by rw [show PyData.shownAll [] = [] from rfl]; simp [piled])⟩
  | d :: ds, h => by
    obtain ⟨p, h1, h2, h4, h5⟩ := h d List.mem_cons_self
    obtain ⟨ps, q1, q2, q4, q5⟩ := shx_all (ds := ds) fun x hx => h x (List.mem_cons_of_mem _ hx)
    refine ⟨p :: ps, ?_, ?_, ?_, ?_⟩
    · unfold pyXL
      rw [h1, q1]
    · rw [PyData.showableAll, h2, q2]
      rfl
    · rw [PyData.depthAll]
      omega
    · rw [PyData.shownAll, piled_cons, List.length_cons, Nat.succ_mul]
      omega
theorem shx_tup {n k : Nat} {ds : List D} (h : ∀ d ∈ ds, ShX n k d) : ShX (ds.length * (n + 2) + 3) (k + 1) (.tup ds) := by
  obtain ⟨ps, q1, q2, q4, q5⟩ := shx_all h
  refine ⟨.tuple ps, ?_, ?_, ?_, ?_⟩
  · unfold D.pyX
    rw [q1]
  · rw [PyData.showable, q2]
  · rw [PyData.depth]
    omega
  · rw [PyData.shown]
    have := tupleText_len (PyData.shownAll ps)
    omega
def rReprX (K : PySem.W.Frag) : List V → Hp → VK → Prop := fun xs H Q => ∃ (R : Addr → Prop) (a : Addr) (d : D) (p : PyData), xs = [V.ref a] ∧ d.pyX = some p ∧ Rep K H R d (.ref a) ∧ p.showable = true ∧ p.depth ≤ 62 ∧ p.shown.length ≤ sizeLine ∧ Q (.str p.shown) H
def uReprX (K : PySem.W.Frag) : List V → Hp → VK → Prop := fun xs H Q => uRepr xs H Q ∨ rReprX K xs H Q
theorem uc_reprX1 {X : Cx} (hg : X.A.guards = some []) (hu : X.A.units + 64 < cLine) : CallR X (.builtin "repr") (rReprX X.K) := by
  intro pins s σ H xs us Q I r h
  obtain ⟨R, a, d, p, rfl, hp, rd, hs, hdep, hz, q⟩ := h
  obtain ⟨u, rfl, ru⟩ := vals1 r
  have rx := rep_rx I hp rd ru
  cases (show u = Value.ref a from ru)
  obtain ⟨T, f, S⟩ := RX.shows (prog := X.prog) (w := X.w) rx hs hz
  refine call_repr_slot (by omega) (S.typeIs s fun _ _ e => e) S.slotRepr (S.call X.A.in1 _ s _ hg (by show X.A.units + 1 + p.depth < cLine; omega) (fun _ _ e => e) fun h' t tk hk => ?_)
  exact ⟨_, _, rfl, V.str p.shown, H, I.kept hk, ⟨_, rfl⟩, q⟩
theorem uc_reprX {X : Cx} (hg : X.A.guards = some []) (hu : X.A.units + 64 < cLine) : CallR X (.builtin "repr") (uReprX X.K) := callr_or uc_repr (uc_reprX1 hg hu)
section
variable {K : PySem.W.Frag} {Δ : Sl} {G L : List M} {Qd : Po} {n k : Nat}
theorem ap_reprX1 {d : D} (h : ShX n k d) (hn : n ≤ sizeLine) (hk : k ≤ 62) (q : Qd (.d (.str (shownX d))) G L) : ApC K (uReprX K) [.d d] Δ G L Qd := by
  obtain ⟨p, hp, h2, h4, h5⟩ := h
  have e : shownX d = p.shown := by
    unfold shownX
    rw [hp]
  rw [e] at q
  have h5 := Nat.le_trans h5 hn
  have h4 := Nat.le_trans h4 hk
  intro w ls σ H vs c r Q ret
  obtain ⟨v, rfl, rv⟩ := pair1 r
  have fin : ∀ a, v = .ref a → uReprX K [v] H Q := fun a ea => by
    subst ea
    exact .inr ⟨Rg w ls, a, d, p, rfl, hp, rv, h2, h4, h5, ret.go c Ext.refl (s := .d (.str p.shown)) rfl q⟩
  cases d with
  | tup ds => exact fin _ rv.choose_spec.choose_spec.1
  | lst ds => exact fin _ rv.choose_spec.choose_spec.1
  | dct ds => exact fin _ rv.choose_spec.choose_spec.1
  | non =>
    cases rv
    cases hp
    exact .inl ⟨_, _, rfl, .non, ret.go c Ext.refl (s := .d (.str "None")) rfl q⟩
  | bl b =>
    cases rv
    cases hp
    refine .inl ⟨_, _, rfl, .bl b, ret.go c Ext.refl (s := .d (.str (if b then "True" else "False"))) rfl ?_⟩
    cases b <;> exact q
  | int i =>
    cases rv
    cases hp
    exact .inl ⟨_, _, rfl, .int i (of_decide_eq_true h2), ret.go c Ext.refl (s := .d (.str (Str.ofString (toString i)))) rfl q⟩
  | str z =>
    cases rv
    cases hp
    exact .inl ⟨_, _, rfl, .str z h5, ret.go c Ext.refl (s := .d (.str (reprText z))) rfl q⟩
  | ty n => cases hp
  | ref a => cases hp
  | scr ns => cases hp
  | ins C fs => cases hp
  | exn a dd fs => cases hp
  | exv C fs => cases hp
end
end DL

namespace DL
open PySem PySem.Spec PyProof.Rows L2
/-! ### things of any kind -/
/-! how many signs d has at most when it is shown -/
/-! ints below b, texts of signs, no deeper than h -/
mutual
def Ok (b h : Nat) : D → Prop
  | .non => True
  | .bl _ => True
  | .int i => i.natAbs ≤ b
  | .str z => PyData.strOk z = true
  | .tup ds => ∃ k, h = k + 1 ∧ OkL b k ds
  | .lst ds => ∃ k, h = k + 1 ∧ OkL b k ds
  | .dct kvs => ∃ k, h = k + 1 ∧ OkK b k kvs
  | _ => False
def OkL (b h : Nat) : List D → Prop
  | [] => True
  | d :: ds => Ok b h d ∧ OkL b h ds
def OkK (b h : Nat) : List (Key × D) → Prop
  | [] => True
  | (k, d) :: ds => (∃ i : Int, k = .inl i ∧ i.natAbs ≤ b) ∧ Ok b h d ∧ OkK b h ds
end
mutual
theorem Ok.mono {b c : Nat} (hb : b ≤ c) : ∀ {h k : Nat} {d : D}, h ≤ k → Ok b h d → Ok c k d
  | _, _, .non, _, _ => trivial
  | _, _, .bl _, _, _ => trivial
  | _, _, .int _, _, q => Nat.le_trans q hb
  | _, _, .str _, _, q => q
  | _, k, .tup _, l, ⟨j, e, q⟩ => ⟨k - 1, by omega, OkL.mono hb (by omega) q⟩
  | _, k, .lst _, l, ⟨j, e, q⟩ => ⟨k - 1, by omega, OkL.mono hb (by omega) q⟩
  | _, k, .dct _, l, ⟨j, e, q⟩ => ⟨k - 1, by omega, OkK.mono hb (by omega) q⟩
  | _, _, .ty _, _, q => q.elim
  | _, _, .ref _, _, q => q.elim
  | _, _, .scr _, _, q => q.elim
  | _, _, .ins _ _, _, q => q.elim
  | _, _, .exn _ _ _, _, q => q.elim
  | _, _, .exv _ _, _, q => q.elim
theorem OkL.mono {b c : Nat} (hb : b ≤ c) : ∀ {h k : Nat} {ds : List D}, h ≤ k → OkL b h ds → OkL c k ds
  | _, _, [], _, _ => trivial
  | _, _, _ :: _, l, ⟨q, r⟩ => ⟨Ok.mono hb l q, OkL.mono hb l r⟩
theorem OkK.mono {b c : Nat} (hb : b ≤ c) : ∀ {h k : Nat} {ds : List (Key × D)}, h ≤ k → OkK b h ds → OkK c k ds
  | _, _, [], _, _ => trivial
  | _, _, (_, _) :: _, l, ⟨⟨i, e, x⟩, q, r⟩ => ⟨⟨i, e, Nat.le_trans x hb⟩, Ok.mono hb l q, OkK.mono hb l r⟩
end
/-! ### t == () for a tuple of anything -/
def rEqT0 (K : PySem.W.Frag) : R2 := fun x y H Q => ∃ (a b : Addr) (xs : List V), x = .ref a ∧ y = .ref b ∧ SqT K H a xs ∧ SqT K H b [] ∧ Q (.bl xs.isEmpty) H
def rNeT0 (K : PySem.W.Frag) : R2 := fun x y H Q => ∃ (a b : Addr) (xs : List V), x = .ref a ∧ y = .ref b ∧ SqT K H a xs ∧ SqT K H b [] ∧ Q (.bl (!xs.isEmpty)) H
def rEqL0 (K : PySem.W.Frag) (n : Bool) : R2 := fun x y H Q => ∃ (a b : Addr) (xs : List V), x = .ref a ∧ y = .ref b ∧ H a = some (.lst xs) ∧ H b = some (.lst []) ∧ Q (.bl (xor n xs.isEmpty)) H
theorem list_is {X : Cx} {pins : List (Addr × Obj)} {σ : L2.St} {H : Hp} {s : Shared} {a : Addr} {xs : List V} (I : Inv X pins σ H s) (h : H a = some (.lst xs)) : ∃ its : List Value, Vals xs its ∧ s.heap.IsList a its.toArray := by
  obtain ⟨its, rv, ⟨o, n, ho, hc, _, hd⟩, _⟩ := I.list (show SqL X.K H a xs from .inl (.inl h))
  exact ⟨its, rv, o, ho, hc, n, hd⟩
theorem op_neL0 {X : Cx} (hu : X.A.units + 64 < cLine) : OpR X (compareOp .NotEq) (rEqL0 X.K true) := by
  intro pins s σ H x y v u Q I rx ry h
  obtain ⟨a, b, xs, rfl, rfl, ha, hb, q⟩ := h
  cases (show v = Value.ref a from rx)
  cases (show u = Value.ref b from ry)
  obtain ⟨its, rv, it⟩ := list_is I ha
  obtain ⟨its2, rv2, it2⟩ := list_is I hb
  cases rv2
  cases rv with
  | nil => exact SeqAt.RcNeAt.lists (e := fun _ => true) it it2 rfl (by omega) (fun j h1 h2 => absurd h2 (Nat.not_lt_zero _)) _ _ _ _ ⟨.bl false, H, I, rfl, q⟩
  | cons r t => exact SeqAt.RcNeAt.lists_lengths it it2 rfl (by omega) _ _ _ _ ⟨.bl true, H, I, rfl, q⟩
section
variable {K : PySem.W.Frag} {Δ : Sl} {G L : List M} {Qd : Po} {Qn : PoN}
theorem u_eqT0 {ds : List D} (k : Qd (.d (.bl ds.isEmpty)) G L) : OpC K (rEqT0 K) (.d (.tup ds)) (.d (.tup [])) Δ G L Qd := fun w ls σ H vx vy c rx ry Q q => by
  obtain ⟨a, xs, rfl, h1, r1⟩ := rx
  obtain ⟨b, ys, rfl, h2, r2⟩ := ry
  cases r2
  refine ⟨a, b, xs, rfl, rfl, h1.sq, h2.sq, ?_⟩
  have e : xs.isEmpty = ds.isEmpty := by
    have := r1.length
    cases xs <;> cases ds <;> first | rfl | cases this
  rw [e]
  exact q.go c Ext.refl (s := .d (.bl ds.isEmpty)) rfl k
theorem u_neT0 {ds : List D} (k : Qd (.d (.bl (!ds.isEmpty))) G L) : OpC K (rNeT0 K) (.d (.tup ds)) (.d (.tup [])) Δ G L Qd := fun w ls σ H vx vy c rx ry Q q => by
  obtain ⟨a, xs, rfl, h1, r1⟩ := rx
  obtain ⟨b, ys, rfl, h2, r2⟩ := ry
  cases r2
  refine ⟨a, b, xs, rfl, rfl, h1.sq, h2.sq, ?_⟩
  have e : xs.isEmpty = ds.isEmpty := by
    have := r1.length
    cases xs <;> cases ds <;> first | rfl | cases this
  rw [e]
  exact q.go c Ext.refl (s := .d (.bl (!ds.isEmpty))) rfl k
theorem u_eqL0 {n : Bool} {x y : S} (h : ∃ ds, lsG G L x = some ds ∧ lsG G L y = some [] ∧ Qd (.d (.bl (xor n ds.isEmpty))) G L) : OpC K (rEqL0 K n) x y Δ G L Qd := fun w ls σ H vx vy c rx ry Q q => by
  obtain ⟨ds, hx, hy, k⟩ := h
  obtain ⟨a, xs, rfl, h1, r1⟩ := lsG_get c rx hx
  obtain ⟨b, ys, rfl, h2, r2⟩ := lsG_get c ry hy
  cases r2
  refine ⟨a, b, xs, rfl, rfl, h1, h2, ?_⟩
  have e : xs.isEmpty = ds.isEmpty := by
    have := r1.length
    cases xs <;> cases ds <;> first | rfl | cases this
  rw [e]
  exact q.go c Ext.refl (s := .d (.bl (xor n ds.isEmpty))) rfl k
theorem u_eqL0e {x y : S} (h : ∃ ds, lsG G L x = some ds ∧ lsG G L y = some [] ∧ Qd (.d (.bl ds.isEmpty)) G L) : OpC K (rEqL0 K false) x y Δ G L Qd :=
  let ⟨ds, hx, hy, k⟩ := h
  u_eqL0 ⟨ds, hx, hy, by rw [Bool.false_xor]; exact k⟩
theorem u_neL0e {x y : S} (h : ∃ ds, lsG G L x = some ds ∧ lsG G L y = some [] ∧ Qd (.d (.bl (!ds.isEmpty))) G L) : OpC K (rEqL0 K true) x y Δ G L Qd :=
  let ⟨ds, hx, hy, k⟩ := h
  u_eqL0 ⟨ds, hx, hy, by rw [Bool.true_xor]; exact k⟩
theorem ap_isiX {d : D} {U : String} (h : ∃ T b, tyD d = some T ∧ kitB T U = some b ∧ Qd (.d (.bl b)) G L) : ApC K (rIsi K) [.d d, .d (.ty U)] Δ G L Qd :=
  let ⟨_, _, h1, h2, q⟩ := h
  ap_isi h1 h2 q
end
end DL

namespace DL
open PySem PySem.Spec PyProof.Rows L2
section
variable {K : PySem.W.Frag}
theorem Ctx.showM {w : W} {ls : List Addr} {σ : L2.St} {H : Hp} {Δ : Sl} {G L : List M} {p : Addr} {m : M} (c : Ctx K (w.add p) ls σ H Δ G L) (hr : ∀ a ∈ w.gs, w.R a) (hm : MOk K H (Rg w (ls ++ [p])) w.gs ls p m) (hd : ∀ x, m.dat = some x → Rep K H (Rg w ls) x (.ref p)) (n0 : w.H0 p = none) (np : p ∉ w.gs) (nl : p ∉ ls) (nR : ¬ w.R p) : NewAt K w ls σ H Δ G L p m := by
  have g1 : Grow H H (Rg (w.add p) ls) (Rg w (ls ++ [p])) := grow_iff fun a r => rg_add.mpr r
  have g2 : Grow H H (Rg (w.add p) ls) (Rg w ls) := grow_iff fun a r => by
    rcases r with r | r
    · exact .inl (.inl r)
    · exact .inr r
  refine ⟨⟨hr, fun a r => c.rin a (.inl r), ?_, ?_, c.h0, c.sl.grow g1 (Pre.refl _) (Pre.app _ _), paired_map c.gl fun a m _ q => q.grow g1 (Pre.refl _) (Pre.nil _) (fun _ z => z),
    paired_app (paired_map c.lo fun a m _ q => q.grow g1 (Pre.refl _) (Pre.app _ _) (fun _ z => z)) (.cons (hm.grow (Grow.refl _ _) (Pre.refl _) (Pre.app _ _) fun _ z => z) .nil), fun a ha r => (List.mem_append.mp ha).elim (fun z => c.ld a z (.inl r)) fun z => nR ((List.mem_singleton.mp z) ▸ r)⟩,
    ⟨hr, fun a r => c.rin a (.inl r), c.nd, c.fr, c.h0, c.sl.grow g2 (Pre.refl _) (Pre.refl _), paired_map c.gl fun a m _ q => q.grow g2 (Pre.refl _) (Pre.refl _) (fun _ z => z),
    paired_map c.lo fun a m _ q => q.grow g2 (Pre.refl _) (Pre.refl _) (fun _ z => z), fun a m r => c.ld a m (.inl r)⟩, hd⟩
  · show (w.gs ++ (ls ++ [p])).Nodup
    rw [← List.append_assoc]
    refine List.nodup_append.mpr ⟨c.nd, by simp, fun a ha b hb => ?_⟩
    rw [List.mem_singleton] at hb
    subst hb
    rintro rfl
    rcases List.mem_append.mp ha with z | z
    · exact np z
    · exact nl z
  · intro a ha
    rcases List.mem_append.mp ha with z | z
    · exact c.fr a z
    · rw [List.mem_singleton] at z
      subst z
      exact n0
section
variable {Δ : Sl} {G L : List M} {Qd : Po} {Qn : PoN} {te : TE}
end
end
/-! ### a def that calls itself -/
end DL

namespace DL
open PySem PySem.Spec PyProof.Rows L2
/-! ### dicts that hold handles: reading, storing, and a new one with a new object in it -/
def rDGet : R2 := fun x y H Q => ∃ a v, x = .ref a ∧ DGet H a y (some v) ∧ Q v H
theorem pe_dgetO {X : Cx} {o i : Expr} {pos : Pos} {td ty : TE} (hu : X.A.units + 1 < cLine) (ho : PE X o td) (hi : PE X i ty) (hs : NoSl i) : PE X (.Subscript o i pos) (tOp rDGet td ty) := pe_dget hu ho hi hs
section
variable {K : PySem.W.Frag} {Δ : Sl} {G L : List M} {Qd : Po} {Qn : PoN} {te : TE} {E : EndsD}
def dhG (G L : List M) : S → Option (List (Key × S))
  | .l k => match L[k]? with
    | some (.dh ds) => some ds
    | _ => none
  | .g k => match G[k]? with
    | some (.dh ds) => some ds
    | _ => none
  | _ => none
theorem dhG_get {w : W} {ls : List Addr} {σ : L2.St} {H : Hp} {v : V} {s : S} {ds : List (Key × S)} (c : Ctx K w ls σ H Δ G L) (r : RS K H (Rg w ls) w.gs ls s v) (h : dhG G L s = some ds) :
    ∃ a vs, v = .ref a ∧ H a = some (.dK vs) ∧ Paired (RSK K H (Rg w ls) w.gs ls) ds vs := by
  unfold dhG at h
  split at h
  · rename_i k
    split at h
    · rename_i ds' hk
      cases h
      obtain ⟨a, ha, rfl⟩ := r
      obtain ⟨b, hb, vs, h1, q⟩ := paired_get c.lo hk
      rw [ha] at hb
      cases hb
      exact ⟨a, vs, rfl, h1, q⟩
    · cases h
  · rename_i k
    split at h
    · rename_i ds' hk
      cases h
      obtain ⟨a, ha, rfl⟩ := r
      obtain ⟨b, hb, vs, h1, q⟩ := paired_get c.gl hk
      rw [ha] at hb
      cases hb
      exact ⟨a, vs, rfl, h1, paired_map q fun _ _ _ z => ⟨z.1, RS.grow (Grow.refl _ _) (Pre.refl _) (Pre.nil _) z.2⟩⟩
    · cases h
  · cases h
def lkS : List (Key × S) → Key → Option S
  | [], _ => none
  | (k, s) :: r, ky => if k = ky then some s else lkS r ky
theorem lk_rs {H : Hp} {R : Addr → Prop} {gs ls : List Addr} {ky : Key} {s : S} : ∀ {kvs : List (Key × S)} {vs : List (Key × V)}, Paired (RSK K H R gs ls) kvs vs → lkS kvs ky = some s → ∃ v, valV vs ky = some v ∧ RS K H R gs ls s v
  | _, _, .nil, h => by cases h
  | (k, x) :: r, (k', v) :: vs, .cons ⟨e, q⟩ t, h => by
    obtain rfl : k = k' := e
    unfold lkS at h
    by_cases hk : k = ky
    · rw [if_pos hk] at h
      cases h
      exact ⟨v, valV_pos hk, q⟩
    · rw [if_neg hk] at h
      obtain ⟨u, h1, h2⟩ := lk_rs t h
      exact ⟨u, by rw [valV_neg hk]; exact h1, h2⟩
theorem u_dgetS {x : S} {z : Str} (h : ∃ kvs, dhG G L x = some kvs ∧ ∃ s, lkS kvs (.inr z) = some s ∧ Qd s G L) : OpC K rDGet x (.d (.str z)) Δ G L Qd := fun w ls σ H vx vy c rx ry Q q => by
  obtain ⟨kvs, hk, s, hs, k⟩ := h
  obtain ⟨a, vs, rfl, h1, r⟩ := dhG_get c rx hk
  obtain ⟨v, hv, rv⟩ := lk_rs r hs
  cases ry
  refine ⟨a, v, rfl, ?_, q.go c Ext.refl rv k⟩
  have := DGet.k (k := (.inr z : Key)) h1
  rw [hv] at this
  exact this
def puS : List (Key × S) → Key → S → List (Key × S)
  | [], _, _ => []
  | (k, s) :: r, ky, x => if k = ky then (k, x) :: puS r ky x else (k, s) :: puS r ky x
theorem pu_rs {H : Hp} {R : Addr → Prop} {gs ls : List Addr} {ky : Key} {s : S} {v : V} (rv : RS K H R gs ls s v) : ∀ {kvs : List (Key × S)} {vs : List (Key × V)}, Paired (RSK K H R gs ls) kvs vs → Paired (RSK K H R gs ls) (puS kvs ky s) (vs.map fun kv => if kv.1 = ky then (kv.1, v) else kv)
  | _, _, .nil => .nil
  | (k, x) :: r, (k', u) :: vs, .cons ⟨e, q⟩ t => by
    obtain rfl : k = k' := e
    unfold puS
    rw [List.map_cons]
    by_cases hk : k = ky
    · rw [if_pos hk, if_pos hk]
      exact .cons ⟨rfl, rv⟩ (pu_rs rv t)
    · rw [if_neg hk, if_neg hk]
      exact .cons ⟨rfl, q⟩ (pu_rs rv t)
theorem sto_dg {k : Nat} {kvs : List (Key × S)} {z : Str} {x : D} {Qt : List M → List M → Prop} (h : G[k]? = some (.dh kvs) ∧ kvs.length < 100 ∧ (lkS kvs (.inr z)).isSome = true ∧ Qt (G.set k (.dh (puS kvs (.inr z) (.d x)))) L) : StoC K rSetD (.g k) (.d (.str z)) (.d x) Δ G L Qt := fun w ls σ H vo vi vv c ro ri rv Q ret => by
  obtain ⟨hx, hl, hs, q⟩ := h
  obtain ⟨a, ha, rfl⟩ := ro
  obtain ⟨b, hb, vs, h1, r⟩ := paired_get c.gl hx
  rw [ha] at hb
  cases hb
  cases ri
  obtain ⟨s, hs⟩ := Option.isSome_iff_exists.mp hs
  obtain ⟨u, hu, _⟩ := lk_rs r hs
  have e : putK vs (.inr z : Key) vv = vs.map fun kv => if kv.1 = .inr z then (kv.1, vv) else kv := by
    unfold putK
    rw [if_pos (by rw [valV_any, hu]; rfl)]
  refine ⟨a, _, rfl, DPut.k (k := (.inr z : Key)) (v := vv) h1 (Nat.lt_of_lt_of_le (m := 100) (by rw [← paired_len r]; exact hl) (by decide)), ?_⟩
  rw [e]
  have g : Grow H (upd H a (.dK (vs.map fun kv => if kv.1 = .inr z then (kv.1, vv) else kv))) (Rg w ls) (Rg w ls) := grow_upd (.inl (c.reg a (List.mem_of_getElem? ha)))
  exact ret _ _ _ (c.setG (m := .dh _) ha ⟨_, upd_same, paired_map (pu_rs (s := .d x) (ls := []) rv r) fun _ _ _ z => ⟨z.1, z.2.grow g (Pre.refl _) (Pre.refl _)⟩⟩) (Ext.setG (List.mem_of_getElem? ha)) q
theorem merge3 {k1 k2 k3 : Key} {x y z : V} (h12 : ¬ k1 = k2) (h13 : ¬ k1 = k3) (h23 : ¬ k2 = k3) : mergeK [] [(k1, x), (k2, y), (k3, z)] = [(k1, x), (k2, y), (k3, z)] := by
  simp [mergeK, putK, h12, h13, h23]
theorem st_retD {k1 k2 k3 : Str} {t1 t2 t3 : TE} (h12 : k1 ≠ k2) (h13 : k1 ≠ k3) (h23 : k2 ≠ k3)
    (h : EvN K t1 Δ G L fun m G1 L1 => EvC K t2 Δ G1 (L1 ++ [m]) fun s2 G2 L2 => EvC K t3 Δ G2 L2 fun s3 G3 L3 => E.rt (.l L3.length) G3 (L3 ++ [.dh [(.inr k1, .l L1.length), (.inr k2, s2), (.inr k3, s3)]])) :
    StC K (tRet (tDisp [(tC (.str k1), t1), (tC (.str k2), t2), (tC (.str k3), t3)])) Δ G L E := fun w ls σ H c D s => fun p hp => by
  have nR := c.free hp
  have n0 := c.free0 hp
  have ng : p ∉ w.gs := fun z => nR (.inl (c.reg p z))
  have nl : p ∉ ls := fun z => nR (.inr z)
  refine h (w.add p) ls σ _ (c.hide (o := .dK []) hp) _ fun q m H1 G1 L1 hq n e1 k => ?_
  have hqp : q ≠ p := fun e => by
    rw [e, upd_same] at hq
    cases hq
  refine k (w.add p) (ls ++ [q]) σ H1 n.own _ fun v2 s2 H2 G2 L2 c2 e2 r2 k2' => ?_
  refine k2' (w.add p) (ls ++ [q]) σ H2 c2 _ fun v3 s3 H3 G3 L3 c3 e3 r3 k3' => ?_
  have np : p ∉ ls ++ [q] := fun z => (List.mem_append.mp z).elim nl fun z => hqp (List.mem_singleton.mp z).symm
  have hp1 : H1 p = some (.dK []) := e1 p _ upd_same ng nl
  have hp2 : H2 p = some (.dK []) := e2 p _ hp1 ng np
  have hp3 : H3 p = some (.dK []) := e3 p _ hp2 ng np
  refine ⟨hp3, [(.inr k1, .ref q), (.inr k2, v2), (.inr k3, v3)], rfl, (by show 3 ≤ 15; decide), ?_⟩
  rw [merge3 (fun z => h12 (Sum.inr.inj z)) (fun z => h13 (Sum.inr.inj z)) (fun z => h23 (Sum.inr.inj z))]
  have r2' := r2.on c2 e3
  have gu : Grow H3 (upd H3 p (.dK [(.inr k1, .ref q), (.inr k2, v2), (.inr k3, v3)])) (Rg (w.add p) (ls ++ [q])) (Rg (w.add p) (ls ++ [q])) := grow_upd (.inl (.inr rfl))
  have c4 := Ctx.setH (o := .dK [(.inr k1, .ref q), (.inr k2, v2), (.inr k3, v3)]) c3 hp3 n0 ng np
  have g1 : Grow (upd H3 p (.dK [(.inr k1, .ref q), (.inr k2, v2), (.inr k3, v3)])) (upd H3 p (.dK [(.inr k1, .ref q), (.inr k2, v2), (.inr k3, v3)])) (Rg (w.add p) (ls ++ [q])) (Rg w (ls ++ [q] ++ [p])) := grow_iff fun a r => rg_add.mpr r
  have hlen : ls.length = L1.length := paired_len n.c.lo
  have hq1 : (ls ++ [q])[L1.length]? = some q := by
    rw [← hlen, List.getElem?_append_right (Nat.le_refl _), Nat.sub_self]
    rfl
  have n2 := c4.showM (m := .dh [(.inr k1, .l L1.length), (.inr k2, s2), (.inr k3, s3)]) c.reg
    ⟨_, upd_same, .cons ⟨rfl, q, hq1, rfl⟩ (.cons ⟨rfl, (r2'.grow gu (Pre.refl _) (Pre.refl _)).grow g1 (Pre.refl _) (Pre.refl _)⟩ (.cons ⟨rfl, (r3.grow gu (Pre.refl _) (Pre.refl _)).grow g1 (Pre.refl _) (Pre.refl _)⟩ .nil))⟩
    (fun y e => by cases e) n0 ng np (fun z => nR (.inl z))
  refine s.rt (ls ++ [q] ++ [p]) σ _ Δ G3 _ (.ref p) (.l L3.length) n2.own ⟨p, ?_, rfl⟩ k3'
  rw [← paired_len c3.lo, List.getElem?_append_right (Nat.le_refl _), Nat.sub_self]
  rfl
end
end DL

namespace DL
open PySem PySem.Spec PyProof.Rows L2
/-! ### wide ints -/
def Wd (n : Nat) (x : Int) : Prop := x.natAbs < 2 ^ n
theorem Wd.mono {n m : Nat} {x : Int} (h : Wd n x) (l : n ≤ m) : Wd m x := Nat.lt_of_lt_of_le h (Nat.pow_le_pow_right (by decide) l)
theorem Wd.add {n : Nat} {x y : Int} (h : Wd n x) (k : Wd n y) : Wd (n + 1) (x + y) := by
  unfold Wd at *
  rw [Nat.pow_succ]
  generalize 2 ^ n = p at *
  omega
theorem Wd.mul {n m : Nat} {x y : Int} (h : Wd n x) (k : Wd m y) : Wd (n + m) (x * y) := by
  unfold Wd at *
  rw [Nat.pow_add, Int.natAbs_mul]
  exact Nat.mul_lt_mul'' h k
theorem Wd.of {n : Nat} {x : Int} (h0 : 0 ≤ x) (h : x < 2 ^ n) : Wd n x := by
  unfold Wd
  have : ((2 ^ n : Nat) : Int) = 2 ^ n := by norm_cast
  omega
theorem Wd.div {n : Nat} {z m : Int} (h : Wd n z) (h0 : 0 ≤ z) (hm : 0 < m) : Wd n (z / m) := by
  unfold Wd at *
  have h1 : z / m ≤ z := Int.ediv_le_self m h0
  have h2 : 0 ≤ z / m := Int.ediv_nonneg h0 (by omega)
  generalize 2 ^ n = p at *
  omega
theorem wd_bits {z : Int} (h : Builtin.Int.intBits z ≤ 1048576) : Wd 1048576 z := by
  refine Wd.mono (n := Builtin.Int.intBits z) ?_ h
  unfold Wd Builtin.Int.intBits
  split
  · rename_i e
    have : z = 0 := by simpa using e
    subst this
    decide
  · exact Nat.lt_log2_self
theorem Wd.mulX {n m : Nat} {x y : Int} (h : Wd n x) (k : Wd m y) (l : n + m ≤ 134217728) : CMulX x y := mulx_ok h k l
def uMulX (K : PySem.W.Frag) : R2 := fun x y H Q => uMulT K x y H Q ∨ rI CMulX (fun i j => .int (i * j)) x y H Q
theorem uo_mulX {X : Cx} : OpR X (binaryOp .Mult) (uMulX X.K) := uo_mulT.or op_mulX
section
variable {K : PySem.W.Frag} {Δ : Sl} {G L : List M} {Qd : Po} {Qn : PoN}
theorem u_mulX_i {i j : Int} (hc : CMul i j) (k : Qd (.d (.int (i * j))) G L) : OpC K (uMulX K) (.d (.int i)) (.d (.int j)) Δ G L Qd := opc_orl (u_mulT_i hc k)
theorem u_mulX_w {i j : Int} (hc : CMulX i j) (k : Qd (.d (.int (i * j))) G L) : OpC K (uMulX K) (.d (.int i)) (.d (.int j)) Δ G L Qd := opc_orr (opc_Ii (g := fun i j => i * j) hc k)
end
/-! ### the deck: a dict of cells (a list of ints), a seed and a count -/
def ekK (c : S) (seed cnt : Int) : List (Key × S) := [(.inr "cells", c), (.inr "seed", .d (.int seed)), (.inr "at", .d (.int cnt))]
theorem key_ne {x y : Str} (h : x ≠ y) : ¬ (Sum.inr x : Key) = .inr y := fun z => h (Sum.inr.inj z)
theorem cs : ("cells" : Str) ≠ "seed" := by decide
theorem ca : ("cells" : Str) ≠ "at" := by decide
theorem sa : ("seed" : Str) ≠ "at" := by decide
theorem lk_cells {c : S} {seed cnt : Int} : lkS (ekK c seed cnt) (.inr "cells") = some c := by
  unfold ekK lkS
  rw [if_pos rfl]
theorem lk_seed {c : S} {seed cnt : Int} : lkS (ekK c seed cnt) (.inr "seed") = some (.d (.int seed)) := by
  unfold ekK lkS
  rw [if_neg (key_ne cs)]
  unfold lkS
  rw [if_pos rfl]
theorem lk_at {c : S} {seed cnt : Int} : lkS (ekK c seed cnt) (.inr "at") = some (.d (.int cnt)) := by
  unfold ekK lkS
  rw [if_neg (key_ne ca)]
  unfold lkS
  rw [if_neg (key_ne sa)]
  unfold lkS
  rw [if_pos rfl]
theorem pu_at {c : S} {seed cnt n : Int} : puS (ekK c seed cnt) (.inr "at") (.d (.int n)) = ekK c seed n := by
  unfold ekK puS
  rw [if_neg (key_ne ca)]
  unfold puS
  rw [if_neg (key_ne sa)]
  unfold puS
  rw [if_pos rfl]
  rfl
section
variable {K : PySem.W.Frag} {Δ : Sl} {G L : List M} {Qd : Po}
theorem dhG_g {k : Nat} {kvs : List (Key × S)} (h : G[k]? = some (.dh kvs)) : dhG G L (.g k) = some kvs := by
  show (match G[k]? with
    | some (.dh ds) => some ds
    | _ => none) = _
  rw [h]
theorem dk_cells {k : Nat} {c : S} {seed cnt : Int} (h : G[k]? = some (.dh (ekK c seed cnt))) (q : Qd c G L) : OpC K rDGet (.g k) (.d (.str "cells")) Δ G L Qd :=
  u_dgetS ⟨_, dhG_g h, _, lk_cells, q⟩
theorem dk_seed {k : Nat} {c : S} {seed cnt : Int} (h : G[k]? = some (.dh (ekK c seed cnt))) (q : Qd (.d (.int seed)) G L) : OpC K rDGet (.g k) (.d (.str "seed")) Δ G L Qd :=
  u_dgetS ⟨_, dhG_g h, _, lk_seed, q⟩
theorem dk_at {k : Nat} {c : S} {seed cnt : Int} (h : G[k]? = some (.dh (ekK c seed cnt))) (q : Qd (.d (.int cnt)) G L) : OpC K rDGet (.g k) (.d (.str "at")) Δ G L Qd :=
  u_dgetS ⟨_, dhG_g h, _, lk_at, q⟩
theorem sto_at {k : Nat} {c : S} {seed cnt n : Int} {Qt : List M → List M → Prop} (h : G[k]? = some (.dh (ekK c seed cnt))) (q : Qt (G.set k (.dh (ekK c seed n))) L) : StoC K rSetD (.g k) (.d (.str "at")) (.d (.int n)) Δ G L Qt :=
  sto_dg ⟨h, (by show 3 < 100; decide), (by rw [lk_at]; rfl), (by rw [pu_at]; exact q)⟩
end
structure Ek (G : List M) (k c : Nat) (n : Int) (cells : List Int) (seed cnt : Int) : Prop where
  hk : G[k]? = some (.dh (ekK (.g c) seed cnt))
  hc : G[c]? = some (.pl (cells.map D.int))
  ne : k ≠ c
  s0 : 0 ≤ seed
  s1 : seed < 2 ^ 128
  n0 : 0 ≤ cnt
  n1 : cnt ≤ n
  cl : cells.length ≤ 1000
  cb : ∀ z ∈ cells, Wd 1048576 z
def ekSet (G : List M) (k c : Nat) (cells : List Int) (seed cnt : Int) : List M := (G.set c (.pl (cells.map D.int))).set k (.dh (ekK (.g c) seed cnt))
def EkTo (G : List M) (k c : Nat) (n : Int) (G' : List M) : Prop := ∃ cells seed cnt, G' = ekSet G k c cells seed cnt ∧ Ek G' k c n cells seed cnt
theorem ekTo_mk {G : List M} {k c : Nat} {n : Int} {cells : List Int} {seed cnt : Int} {x y : M} (hk : G[k]? = some x) (hc : G[c]? = some y) (ne : k ≠ c) (s0 : 0 ≤ seed) (s1 : seed < 2 ^ 128) (n0 : 0 ≤ cnt) (n1 : cnt ≤ n) (cl : cells.length ≤ 1000) (cb : ∀ z ∈ cells, Wd 1048576 z) :
    EkTo G k c n ((G.set k (.dh (ekK (.g c) seed cnt))).set c (.pl (cells.map D.int))) := by
  refine ⟨cells, seed, cnt, set_comm ne, ?_⟩
  rw [set_comm ne]
  exact ⟨set_at ((set_off ne).trans hk), by rw [set_off (Ne.symm ne)]; exact set_at hc, ne, s0, s1, n0, n1, cl, cb⟩
def spDrawE : DSpec := fun ss G Q => ∃ (k c : Nat) (m n : Int) (cells : List Int) (seed cnt : Int), ss = [.g k, .d (.int m)] ∧ Ek G k c n cells seed cnt ∧ n ≤ 2 ^ 32 ∧ 0 < m ∧ m < 2 ^ 60 ∧
  ∀ r G', EkTo G k c (n + 1) G' → 0 ≤ r → r < m → Q (.v (.d (.int r))) G'
theorem EkTo.dk {G G' : List M} {k c : Nat} {n : Int} (h : EkTo G k c n G') : ∃ cells seed cnt, Ek G' k c n cells seed cnt := let ⟨a, b, d, _, e⟩ := h; ⟨a, b, d, e⟩
theorem EkTo.trans {G G1 G2 : List M} {k c : Nat} {n m : Int} (h : EkTo G k c n G1) (h2 : EkTo G1 k c m G2) : EkTo G k c m G2 := by
  obtain ⟨a, b, d, rfl, q⟩ := h
  obtain ⟨a', b', d', rfl, q'⟩ := h2
  refine ⟨a', b', d', ?_, q'⟩
  unfold ekSet
  rw [set_comm (Ne.symm q'.ne), set_set, set_comm q'.ne, set_set]
theorem EkTo.refl {G : List M} {k c : Nat} {n : Int} {cells : List Int} {seed cnt : Int} (h : Ek G k c n cells seed cnt) : EkTo G k c n G := by
  refine ⟨cells, seed, cnt, ?_, h⟩
  unfold ekSet
  rw [set_same h.hc, set_same h.hk]
theorem EkTo.mono {G G' : List M} {k c : Nat} {n m : Int} (h : EkTo G k c n G') (e : n ≤ m) : EkTo G k c m G' := by
  obtain ⟨a, b, d, rfl, q⟩ := h
  exact ⟨a, b, d, rfl, ⟨q.hk, q.hc, q.ne, q.s0, q.s1, q.n0, Int.le_trans q.n1 e, q.cl, q.cb⟩⟩
theorem draw_useE {G : List M} {k c : Nat} {m n : Int} {cells : List Int} {seed cnt : Int} {Q : Res → List M → Prop} (h : Ek G k c n cells seed cnt) (h1 : n ≤ 2 ^ 32) (h2 : 0 < m) (h3 : m < 2 ^ 60)
    (k' : ∀ r G' cells' seed' cnt', EkTo G k c (n + 1) G' → Ek G' k c (n + 1) cells' seed' cnt' → 0 ≤ r → r < m → Q (.v (.d (.int r))) G') : spDrawE [.g k, .d (.int m)] G Q :=
  ⟨k, c, m, n, cells, seed, cnt, rfl, h, h1, h2, h3, fun r G' t a b => let ⟨x, y, z, q⟩ := t.dk; k' r G' x y z t q a b⟩
def spDeckE : DSpec := fun ss G Q => ∃ ns : List Int, ss = [.d (.scr ns)] ∧ ns.length ≤ 63 ∧ (∀ z ∈ ns, Wd 1048576 z) ∧ ∀ (cells : List Int) (seed : Int), cells.length ≤ 63 → (∀ z ∈ cells, Wd 1048576 z) → 0 ≤ seed → seed < 2 ^ 128 → Q (.new [.pl (cells.map D.int), .dh (ekK (.l 0) seed 0)] 1) G
def spLawE : DSpec := fun ss G Q => ∃ ns : List Int, ss = [.d (.scr ns)] ∧ G = [] ∧ ns.length ≤ 63 ∧ (∀ z ∈ ns, Wd 1048576 z) ∧ Q (.v (.d (.bl true))) []
theorem spLawE_in {ns : List Int} (h : ns.length ≤ 63) (hb : ∀ z ∈ ns, Builtin.Int.intBits z ≤ 1048576) : spLawE [.d (.scr ns)] [] fun r _ => r = .v (.d (.bl true)) := ⟨ns, rfl, rfl, h, fun z hz => wd_bits (hb z hz), rfl⟩
end DL

namespace DL
open PySem PySem.Spec PyProof.Rows L2
/-! ### max(xs, default=d), sum(xs, start=d), max of a list, zip -/
def maxDf (d : Int) : List Int → Int
  | [] => d
  | n :: ns => ns.foldl max n
theorem reads_ints {h : Heap} : ∀ {ns : List Int} {us : List Value}, Vals (ns.map V.int) us → ReadsAll h us (ns.map PyData.int) []
  | [], _, .nil => .nil
  | n :: ns, _, .cons r t => by
    obtain ⟨k, rfl⟩ := r
    exact .cons (as := []) (bs := []) (.int n k) (reads_ints t)
theorem alikeAll_ints (ns : List Int) : PySem.W.AlikeAll (ns.map PyData.int) := by
  refine ⟨fun x hx y hy => ?_, fun x hx => ?_⟩
  · obtain ⟨i, _, rfl⟩ := List.mem_map.mp hx
    obtain ⟨j, _, rfl⟩ := List.mem_map.mp hy
    rfl
  · obtain ⟨i, _, rfl⟩ := List.mem_map.mp hx
    intro z
    cases z
theorem args_sum_start (a v : Value) : argsOk "sum" ⟨[a], [(Str.ofString "start", v)]⟩ := by unfold argsOk; kernel_rfl
section
variable {prog : Program} {w : World} {A : Around} {E : Value → Shared → Prop} {s : Shared}
theorem walks_shift {I : Addr} {fp wr : List Addr} {n : Nat} {P : Nat → Value → Prop} {St : Nat → Heap → Prop} (W : Walks prog w A I fp wr n P St) :
    Walks prog w A I fp wr (n + 1) (fun i v => ∃ j, i = j + 1 ∧ P j v) (fun i h => ∃ j, i = j + 1 ∧ St j h) where
  sub := W.sub
  frame := fun i h h' ⟨j, e, st⟩ k => ⟨j, e, W.frame j h h' st k⟩
  item := fun i s Q E hi ⟨j, e, st⟩ hQ => W.item j s Q E (by omega) st fun v h' tk p st' k => hQ v h' tk ⟨j, e, p⟩ ⟨j + 1, by omega, st'⟩ k
  done := fun s Q E ⟨j, e, st⟩ hQ => W.done s Q E (by rw [show n = j by omega]; exact st) hQ
  self := fun i s Q E ⟨j, e, st⟩ hQ => W.self j s Q E st hQ
theorem preSum_shift (d : Int) (val : Nat → Int) : ∀ n, preSum (fun i => match i with | 0 => d | j + 1 => val j) (n + 1) = d + preSum val n
  | 0 => by
    show (0 : Int) + d = d + 0
    omega
  | n + 1 => by
    show preSum (fun i => match i with | 0 => d | j + 1 => val j) (n + 1) + val n = d + (preSum val n + val n)
    rw [preSum_shift d val n]
    omega
theorem call_sum_start {x : Value} {d : Int} {t : Tok} {Q : Value → Shared → Prop}
    (h : wpAny (model prog w) A.in1 (pyIter x) (fun it s₂ => ∃ I fp wr n P St val, it = .ref I ∧ Walks prog w A.in1 I fp wr n P St ∧ St 0 s₂.heap ∧ (∀ b ∈ fp, b < s₂.heap.objs.size) ∧
      (∀ i v, P i v → ∃ t, v = .int (val i) t) ∧
      ∀ h' tk t', (∀ b o, b ∉ wr → s₂.heap.get? b = some o → h'.get? b = some o) → Q (.int (d + preSum val n) t') { s₂ with heap := h', toks := tk }) E s) :
    wpAny (model prog w) A (call (.builtin "sum") [x] [(Str.ofString "start", .int d t)]) Q E s := by
  refine PyProof.Rows.kmk_tree F.kind_sum F.plain_sum F.entry_sum (args_sum_start _ _) ?_
  unfold Builtin.«sum»
  simp only [List.length_cons, List.length_nil]
  rw [if_neg (by decide)]
  refine wpAny_bind (wpAny_of_eq (show Builtin.Builtins.bindParams "sum" ["start"] 0 ⟨[], [(Str.ofString "start", .int d t)]⟩ = pure [some (.int d t)] from rfl) ?_)
  refine wpAny_bind (wpAny_mono h (fun it s₂ h₂ => ?_) fun _ _ e => e)
  obtain ⟨I, fp, wr, n, P, St, val, rfl, W, hst, hfp, hval, hQ⟩ := h₂
  have rest : ∀ (t2 : Tok) (s3 : Shared) (stage : Int), (stage = 0 ∨ stage = 2) → s3.heap = s₂.heap → (∀ (h' : Heap) (tk : Nat), ({ s3 with heap := h', toks := tk } : Shared) = { s₂ with heap := h', toks := tk }) →
      wpAny (model prog w) A.in1 (do
        for (ty, what, hint) in [("str", "strings", "''"), ("bytes", "bytes", "b''"), ("bytearray", "bytearray", "b''")] do
          if ← isInstance (.int d t2) (.type ty) then
            rule "sum.start-refused"; raiseError "TypeError" s!"sum() can't sum {what} [use {hint}.join(seq) instead]"
        again (.builtin "sum.loop" ⟨[.ref I, ← newList [.int d t2], rawInt stage, rawInt 0], []⟩)) (fun fin s' => match fin with
      | .done f => (match (Except.ok f : Result) with | .ok (.ret v) => Q v s' | .ok _ => False | .error e => E e s')
      | .again c' => c'.quiet = true ∧ codeAny (model prog w) A c' (fun r s' => match r with | .ok (.ret v) => Q v s' | .ok _ => False | .error e => E e s') s') E s3 := by
    intro t2 s3 stage hstage eh es
    have eg : ∀ b, s3.heap.get? b = s₂.heap.get? b := fun b => by rw [eh]
    simp only [List.forIn_cons, List.forIn_nil]
    refine wpAny_bind (wpAny_bind (wpAny_bind (wpAny_isInstance (T := "int") (b := false) (typeIs_int _ _ _) PySem.sub_int_str ?_)))
    simp only [Bool.false_eq_true, if_false]
    refine wpAny_pure (wpAny_bind (wpAny_bind (wpAny_isInstance (T := "int") (b := false) (typeIs_int _ _ _) PySem.sub_int_bytes ?_)))
    simp only [Bool.false_eq_true, if_false]
    refine wpAny_pure (wpAny_bind (wpAny_bind (wpAny_isInstance (T := "int") (b := false) (typeIs_int _ _ _) PySem.sub_int_bytearray ?_)))
    simp only [Bool.false_eq_true, if_false]
    refine wpAny_pure (wpAny_pure ?_)
    refine wpAny_bind (wpAny_newObj_type ?_)
    have hSf : s3.heap.objs.size ∉ fp := fun hm => by
      rw [eh] at hm
      exact absurd (hfp _ hm) (Nat.lt_irrefl _)
    have e1 : preSum (fun i => match i with | 0 => d | j + 1 => val j) 1 = d := by
      show (0 : Int) + d = d
      omega
    refine wpAny_pure ⟨plainId_quiet F.plain_sum_loop _, codeAny_sum_loopG (walks_shift W) (fun i => match i with | 0 => d | j + 1 => val j) ?_ s3.heap.objs.size hSf n 1 _ t2 0 stage hstage rfl (by omega)
      ⟨0, rfl, W.frame _ _ _ hst fun b _ o e => Heap.get?_push_of_some _ ((eg b).trans e)⟩ (by rw [e1]; exact Heap.get?_push_size _ rfl) fun h' tk t' hk => ?_⟩
    · rintro i v ⟨j, rfl, p⟩
      exact hval j v p
    · rw [preSum_shift]
      show Q _ { s3 with heap := h', toks := tk }
      rw [es h' tk]
      exact hQ h' tk t' fun b o hbw e => hk b o hbw (Nat.ne_of_lt (by rw [eh]; exact Heap.lt_size e)) (Heap.get?_push_of_some _ ((eg b).trans e))
  dsimp only
  split
  · refine wpAny_bind (wpAny_rule (wpAny_bind (wpAny_mkInt (wpAny_bind (wpAny_pure ?_)))))
    exact rest _ _ 0 (Or.inl rfl) rfl fun _ _ => rfl
  · refine wpAny_bind (wpAny_pure ?_)
    exact rest _ _ 2 (Or.inr rfl) rfl fun _ _ => rfl
end
theorem iter_intTuple {prog : Program} {w : World} {A : Around} {E : Value → Shared → Prop} {s : Shared} {l : Addr} {items : Array Value} {Q : Value → Shared → Prop} (hh : A.handled = none) (hl : s.heap.IsTuple l items)
    (h : ∀ s₂ : Shared, s₂ = { s with heap := s.heap.push { cls := .type "tuple_iterator", data := .fields #[.ref l, .int 0 0] } } → l ≠ s.heap.objs.size → (s₂.heap.IsTupleIter s.heap.objs.size l 0 ∧ s₂.heap.IsTuple l items) → (∀ b ∈ [s.heap.objs.size, l], b < s₂.heap.objs.size) → Q (.ref s.heap.objs.size) s₂) :
    wpAny (model prog w) A (pyIter (.ref l)) Q E s := by
  have hlt : l < s.heap.objs.size := by obtain ⟨_, e, _⟩ := hl; exact Heap.lt_size e
  refine wpAny_pyIter_tuple hl (h _ rfl (Nat.ne_of_lt hlt) ⟨⟨_, Heap.get?_push_size _ rfl, rfl, rfl⟩, hl.push _⟩ (fun b hb => ?_))
  show b < (s.heap.push _).objs.size
  rw [Heap.size_push]
  rcases List.mem_cons.mp hb with rfl | hb
  · exact Nat.lt_succ_self _
  · rcases List.mem_cons.mp hb with rfl | hb
    · exact Nat.lt_succ_of_lt hlt
    · cases hb
def rSumS (K : PySem.W.Frag) : List V → List V → Hp → VK → Prop := fun vs zs H Q => ∃ (a : Addr) (ns : List Int) (d : Int), vs = [V.ref a] ∧ zs = [V.int d] ∧ (SqL K H a (ns.map V.int) ∨ SqT K H a (ns.map V.int)) ∧ Q (.int (d + ns.sum)) H
theorem preSum_list {ns : List Int} {xs : Array (Int × Tok)} {its : List Value} (hi : IntsAre its ns) (e : its.toArray = intItems xs) : preSum (numAt xs) xs.size = ns.sum := by
  have hn : numsOf (intItems xs).toList = ns := by rw [← e]; exact hi.numsOf
  rw [nums_intItems] at hn
  rw [preSum_eq, List.take_of_length_le (by simp), hn]
theorem crk_sumS {X : Cx} (hc : X.calm = true) : CallRK X (.builtin "sum") [("start" : Str)] (rSumS X.K) := by
  intro pins s σ H vs zs us ws Q I r rz h
  obtain ⟨a, ns, d, rfl, rfl, hs, q⟩ := h
  obtain rfl := Vals.ref1 r
  obtain ⟨w1, rfl, e1⟩ := vals1 rz
  obtain ⟨t, rfl⟩ := e1
  show wpAny (model X.prog X.w) X.A (call (.builtin "sum") [.ref a] [(Str.ofString "start", .int d t)]) (EP X pins σ Q) X.xe s
  have hh : X.A.handled = none := I.ok.hd hc
  rcases hs with hs | hs
  · obtain ⟨its, rv, hl, _⟩ := I.list hs
    have hi := rv.ints
    obtain ⟨xs, e⟩ := hi.allInts.items
    have hp := preSum_list hi e
    have hl' : s.heap.IsList a (intItems xs) := by rw [← e]; exact hl.isList
    refine call_sum_start (iter_intList hl' fun s₂ e2 st hfp hlI => ?_)
    subst e2
    refine ⟨_, _, _, _, _, _, numAt xs, rfl, Walks.list (A := X.A.in1) hh _ a hlI (intItems xs), st, hfp, (fun _ _ => intItems_at), fun h' tk t' hk => ?_⟩
    have e3 : (intItems xs).size = xs.size := by simp [intItems]
    rw [e3, hp]
    exact ⟨.int _, H, I.kept (old_kept hk), ⟨_, rfl⟩, q⟩
  · obtain ⟨its, rv, hl, _⟩ := I.tuple hs
    have hi := rv.ints
    obtain ⟨xs, e⟩ := hi.allInts.items
    have hp := preSum_list hi e
    have hl' : s.heap.IsTuple a (intItems xs) := by rw [← e]; exact hl
    refine call_sum_start (iter_intTuple hh hl' fun s₂ e2 hlI st hfp => ?_)
    subst e2
    refine ⟨_, _, _, _, _, _, numAt xs, rfl, Walks.tuple (A := X.A.in1) hh _ a hlI (intItems xs), st, hfp, (fun _ _ => intItems_at), fun h' tk t' hk => ?_⟩
    have e3 : (intItems xs).size = xs.size := by simp [intItems]
    rw [e3, hp]
    have hk2 : ∀ b o, s.heap.get? b = some o → h'.get? b = some o := fun b o e => hk b o (fun z => Nat.ne_of_lt (Heap.lt_size e) (List.mem_singleton.mp z)) (Heap.get?_push_of_some _ e)
    exact ⟨.int _, H, I.kept hk2, ⟨_, rfl⟩, q⟩
/-! ### at the level of data -/
section
variable {K : PySem.W.Frag} {Δ : Sl} {G L : List M} {Qd : Po} {ta tk : TA}
def ApK (K : PySem.W.Frag) (r : List V → List V → Hp → VK → Prop) (ss zz : List S) (Δ : Sl) (G L : List M) (Qd : Po) : Prop :=
  ∀ w ls σ H vs zs, Ctx K w ls σ H Δ G L → Paired (RS K H (Rg w ls) w.gs ls) ss vs → Paired (RS K H (Rg w ls) w.gs ls) zz zs → ∀ Q, Ret K w ls σ Δ H Qd Q → r vs zs H Q
theorem evc_ckw {r : List V → List V → Hp → VK → Prop} (h : EvA K ta Δ G L fun ss G1 L1 => EvA K tk Δ G1 L1 fun zz G2 L2 => ApK K r ss zz Δ G2 L2 Qd) : EvC K (tCKw r ta tk) Δ G L Qd := fun w ls σ H c Q ret =>
  h w ls σ H c _ fun vs ss H2 G2 L2 c2 e2 r2 k2 => k2 w ls σ H2 c2 _ fun zs zz H3 G3 L3 c3 e3 r3 k3 => k3 w ls σ H3 vs zs c3 (RSs.on c2 e3 r2) r3 Q (ret.ext (e2.trans e3))
theorem seqG_ints {w : W} {ls : List Addr} {σ : L2.St} {H : Hp} {v : V} {s : S} {ns : List Int} (c : Ctx K w ls σ H Δ G L) (r : RS K H (Rg w ls) w.gs ls s v) (h : seqG G L s = some (ns.map D.int)) : ∃ a, v = .ref a ∧ (SqL K H a (ns.map V.int) ∨ SqT K H a (ns.map V.int)) := by
  obtain ⟨a, xs, rfl, h1, q1⟩ := seqG_get c r h
  have e := RepL.intsV q1
  subst e
  exact ⟨a, rfl, h1⟩
theorem ap_sumS {s : S} {d : Int} (h : ∃ ns : List Int, seqG G L s = some (ns.map D.int) ∧ Qd (.d (.int (d + ns.sum))) G L) : ApK K (rSumS K) [s] [.d (.int d)] Δ G L Qd := fun w ls σ H vs zs c rs rz Q q => by
  obtain ⟨ns, hs, k⟩ := h
  obtain ⟨v, rfl, r⟩ := pair1 rs
  obtain ⟨z, rfl, rz2⟩ := pair1 rz
  obtain rfl : z = V.int d := rz2
  obtain ⟨a, rfl, h1⟩ := seqG_ints c r hs
  exact ⟨a, ns, d, rfl, rfl, h1, q.go c Ext.refl (s := .d (.int _)) rfl k⟩
theorem ap_maxL {s : S} (h : ∃ ns : List Int, lsG G L s = some (ns.map D.int) ∧ 0 < ns.length ∧ ∀ m, m ∈ ns → (∀ y, y ∈ ns → y ≤ m) → Qd (.d (.int m)) G L) : ApC K (rMax K) [s] Δ G L Qd := fun w ls σ H vs c rs Q q => by
  obtain ⟨ns, hs, hn, k⟩ := h
  obtain ⟨v, rfl, r⟩ := pair1 rs
  obtain ⟨a, xs, rfl, h1, q1⟩ := lsG_get c r hs
  have e := RepL.intsV q1
  subst e
  exact ⟨a, ns, rfl, .inl (.inl h1), hn, fun m h1 h2 => q.go c Ext.refl (s := .d (.int m)) rfl (k m h1 h2)⟩
end
end DL

namespace DL
open PySem PySem.Spec PyProof.Rows L2
section
variable {K : PySem.W.Frag}
/-! ### a callee sees both stores: the caller's n objects, behind them the own ones -/
section
variable {H : Hp} {R : Addr → Prop} {gs ls : List Addr}
end
section
variable {w : W} {ls : List Addr} {σ : L2.St} {H H' : Hp} {Δ : Sl} {G L G' ms : List M} {ps : List Addr}
end
section
variable {Δ : Sl} {G L : List M} {Qd : Po} {ta : TA} {sp : DSpec} {E0' : XK}
end
/-! ### a new own object is appended to a list of handles -/
section
variable {Δ : Sl} {G L : List M} {E : EndsD} {te to : TE} {t : TS}
end
/-! ### own rows become data -/
section
variable {Δ : Sl} {G L : List M} {E : EndsD} {t : TS}
def hnd (n : Nat) : List S := (List.range n).map fun i => S.l (i + 1)
end
/-! ### zip of two tuples, of two lists, as data -/
section
variable {Δ : Sl} {G L : List M} {ta : TA}
end
end
end DL

/-! zip(a, b, strict=True) of two tuples of one length -/
namespace DZs
open PySem PySem.Spec PyProof.Rows L2
open PySem.Sem (wp)
abbrev IsZipS (h : Heap) (z TI TO : Addr) (f0 : Value) : Prop :=
  h.get? z = some { cls := .type "zip", dict := none, data := .fields #[f0, .bool false, .bool true, .ref TI, .ref TO], slots := #[] }
section
variable {prog : Program} {w : World} {A : Around} {E : Value → Shared → Prop} {s : Shared}
theorem stop_iter {α : Type} {Q : α → Shared → Prop} (hh : A.handled = none) (hE : ∀ h' e, (∀ c o, s.heap.get? c = some o → h'.get? c = some o) → (∃ o, h'.get? e = some o ∧ o.cls = .type "StopIteration") → E (.ref e) { s with heap := h' }) :
    wpAny (model prog w) A (Builtin.SmallTypes.stopIteration : Sem α) Q E s := by
  unfold Builtin.SmallTypes.stopIteration
  refine wpAny_bind ?_
  simp only [newExc, newTuple]
  refine wpAny_bind (wpAny_newObj_type ?_ (by size_fits))
  refine wpAny_bind (m := firstArgMember _ _) (wpAny_of_eq (a := Value.none) (by first | rfl | (simp only [firstArgMember]; rfl)) ?_)
  refine wpAny_newObj_type ?_ (by size_fits)
  simp only [raiseNew]
  refine wpAny_bind (wpAny_handled ?_)
  rw [hh]
  refine wpAny_bind (wpAny_pure (wpAny_throw ?_))
  exact hE _ _ (fun c o e => Heap.get?_push_of_some _ (Heap.get?_push_of_some _ e)) ⟨_, Heap.get?_push_size _ rfl, rfl⟩

theorem letGo_zipS {elts : List Expr} {x1} {pos : Pos} {z TI TO T : Addr} {Q : Unit → Shared → Prop} (hz : IsZipS s.heap z TI TO (rawInt T))
    (hQ : ∀ h', IsZipS h' z TI TO .none → Heap.SameBut z s.heap h' → Q () { s with heap := h' }) :
    wpAny (model prog w) A (letOwnedTupleGo (.Tuple elts x1 pos) (.ref z) (.ref T)) Q E s := by
  unfold letOwnedTupleGo
  refine wpAny_bind (wpAny_load hz ?_)
  show wpAny _ _ (if (["enumerate", "zip", "dict_itemiterator", "dict_reverseitemiterator", "odict_iterator", "itertools.zip_longest", "itertools.pairwise"].contains "zip" &&
      (#[rawInt T, .bool false, .bool true, .ref TI, .ref TO] : Array Value)[0]? == some (rawInt T)) = true then _ else _) Q E s
  rw [if_pos (by simp)]
  refine wpAny_bind (wpAny_rule ?_)
  show wpAny _ _ (setField (.ref z) 0 .none) Q E s
  exact wpAny_setField_rec hz (by simp) fun h' hz' hs' => hQ h' hz' hs'
theorem pyIter_zipS {z TI TO : Addr} {f0 : Value} {Q : Value → Shared → Prop} (hz : IsZipS s.heap z TI TO f0) (h : Q (.ref z) s) : wpAny (model prog w) A (pyIter (.ref z)) Q E s := by
  have hT : s.TypeIs (.ref z) "zip" := ⟨_, hz, rfl⟩
  refine wpAny_pyIter_slot hT F.slot_zip_iter (wpAny_call_entry F.slot_zip_iter hT F.entry_zip_iter ?_ (F.args_zip_iter_1 _))
  show wpAny _ _ (ret (.ref z)) _ _ s
  exact wpAny_pure ⟨_, rfl, "zip", _, hT, F.slot_zip_next.lookup, h⟩
end
section
variable {prog : Program} {w : World} {A : Around} {E : Value → Shared → Prop} {s : Shared}
end
section
variable {M : Model} {A : Around} {E : Value → Shared → Prop} {s : Shared} {env : Env}
theorem cw_type_kw {pos : Pos} {T : String} {e : Expr} {rest : List Expr} {kws : List Keyword} {Q : Value → Shared → Prop}
    (h : wpAny M A (spliced (backTo pos (starEach (e :: rest) env))) (fun vs s₁ => wpAny M A (evalAll ((backToKw pos (keywordEach kws env)).map (·.2)))
      (fun kvs s₂ => wpAny M A (call (.type T) vs (((backToKw pos (keywordEach kws env)).filterMap (·.1)).zip kvs)) Q E s₂) E s₁) E s)
    (he : backTo pos (starEach (e :: rest) env) = (false, eval e env) :: backTo pos (starEach rest env)) (hplain : (backTo pos (starEach (e :: rest) env)).any (·.1) = false)
    (hall : (backToKw pos (keywordEach kws env)).all (·.1.isSome) = true) (hkw : (backToKw pos (keywordEach kws env)).any (·.1.isNone) = false) :
    wpAny M A (callWith pos (.type T) [] (backTo pos (starEach (e :: rest) env)) (backToKw pos (keywordEach kws env))) Q E s := by
  have h2 : wpAny M A (evalArgs (.type T) true (backTo pos (starEach (e :: rest) env)) (backToKw pos (keywordEach kws env))) (fun a s₁ => wpAny M A (call (.type T) ([] ++ a.pos) a.kw) Q E s₁) E s := by
    rw [he] at h ⊢
    exact evalArgs_kwB hall h
  unfold callWith
  refine wpAny_bind (wpAny_holding (wpAny_mono h2 (fun a s₁ h₁ => wpAny_bind (wpAny_standAt ?_)) fun _ _ x => x))
  simp only [hplain, hkw, Bool.or_false]
  refine wpAny_bind (wpAny_pure ?_)
  exact wpAny_bind (wpAny_mono h₁ (fun r s₂ hr => wpAny_bind (wpAny_holding (wpAny_point (wpAny_pure hr)))) fun _ _ x => x)
end
end DZs
namespace DL
open PySem PySem.Spec PyProof.Rows L2
end DL

namespace DL
open PySem PySem.Spec PyProof.Rows L2
/-! ### pairs of whole numbers; None among numbers; extend -/
theorem eqv_pair (a b c d : Int) : PyData.eqv (.tuple [.int a, .int b]) (.tuple [.int c, .int d]) = decide (a = c ∧ b = d) := by
  have h1 : ∀ x y : Int, PyData.eqv (.int x) (.int y) = decide (x = y) := fun x y => by
    simp [PyData.eqv]
    try rfl
  rw [PyData.eqv, PyData.eqvAll, PyData.eqvAll, PyData.eqvAll, h1, h1]
  simp
def rInP (K : PySem.W.Frag) : R2 := fun x y H Q => ∃ d ds, Dp K H x d ∧ Dp K H y (.tuple ds) ∧ d.canLay0 = true ∧ d.depth ≤ 32 ∧ PyData.canLayAll0 ds = true ∧ Q (.bl (ds.any fun z => PyData.eqv z d)) H
section
variable {K : PySem.W.Frag} {Δ : Sl} {G L : List M} {Qd : Po}
def pairD (a b : Int) : D := .tup [.int a, .int b]
def pairP (a b : Int) : PyData := .tuple [.int a, .int b]
theorem py_pair (a b : Int) : (pairD a b).py = some (pairP a b) := rfl
theorem shaped_pair (a b : Int) : SeqAt.shaped (pairP a b) = true := by
  unfold SeqAt.shaped
  rw [show (pairP a b).canLay0 = true from rfl, show (pairP a b).depth = 1 from by
    unfold pairP
    rw [PyData.depth, PyData.depthAll, PyData.depthAll, PyData.depthAll, PyData.depth, PyData.depth]
    rfl]
  rfl
theorem u_eq_pair {a b c d : Int} (k : Qd (.d (.bl (decide (a = c ∧ b = d)))) G L) : OpC K (uEq K) (.d (.tup [.int a, .int b])) (.d (.tup [.int c, .int d])) Δ G L Qd := by
  refine u_eq_d (a := pairD a b) (b := pairD c d) rfl rfl (py_pair a b) (py_pair c d) (shaped_pair a b) (shaped_pair c d) ?_
  rw [show PyData.eqv (pairP a b) (pairP c d) = _ from eqv_pair a b c d]
  exact k
theorem u_ne_pair {a b c d : Int} (k : Qd (.d (.bl (!decide (a = c ∧ b = d)))) G L) : OpC K (uNe K) (.d (.tup [.int a, .int b])) (.d (.tup [.int c, .int d])) Δ G L Qd := by
  refine u_ne_d (a := pairD a b) (b := pairD c d) rfl rfl (py_pair a b) (py_pair c d) (shaped_pair a b) (shaped_pair c d) ?_
  rw [show PyData.eqv (pairP a b) (pairP c d) = _ from eqv_pair a b c d]
  exact k
theorem u_in_pair {a b c d e f : Int} (k : Qd (.d (.bl (decide ((c = a ∧ d = b) ∨ (e = a ∧ f = b))))) G L) : OpC K (rInP K) (.d (.tup [.int a, .int b])) (.d (.tup [.tup [.int c, .int d], .tup [.int e, .int f]])) Δ G L Qd := fun w ls σ H vx vy c0 rx ry Q q => by
  have h1 : Dp K H vx (pairP a b) := rep_dp (py_pair a b) rx
  have h2 : Dp K H vy (.tuple [pairP c d, pairP e f]) := rep_dp (d := .tup [pairD c d, pairD e f]) rfl ry
  have hs : ∀ x y, (pairP x y).canLay0 = true ∧ (pairP x y).depth ≤ 32 := fun x y => ⟨rfl, by
    unfold pairP
    rw [PyData.depth, PyData.depthAll, PyData.depthAll, PyData.depthAll, PyData.depth, PyData.depth]
    decide⟩
  refine ⟨pairP a b, [pairP c d, pairP e f], h1, h2, (hs a b).1, (hs a b).2, rfl, ?_⟩
  have e1 : ([pairP c d, pairP e f].any fun z => PyData.eqv z (pairP a b)) = decide ((c = a ∧ d = b) ∨ (e = a ∧ f = b)) := by
    rw [List.any_cons, List.any_cons, List.any_nil, Bool.or_false, show PyData.eqv (pairP c d) (pairP a b) = _ from eqv_pair c d a b, show PyData.eqv (pairP e f) (pairP a b) = _ from eqv_pair e f a b, ← Bool.decide_or]
  rw [e1]
  exact q.go c0 Ext.refl (s := .d (.bl _)) rfl k
def oD : Option Int → D
  | none => .non
  | some i => .int i
end
end DL

namespace DL
open PySem PySem.Spec PyProof.Rows L2
/-! ### tuple * 0, * 1 -/
theorem mul_0 (l : Addr) (items : Array Value) (n : Nat) (dd : Option Addr) (sl : Array (Option Value)) (u : Tok) (c1 : items.isEmpty = false) :
    Meets (Builtin.«tuple.__mul__» ⟨[.ref l, .int 0 u], []⟩) (fun _ R s => s.heap.get? l = some { cls := .type "tuple", dict := dd, data := .seq items n, slots := sl } ∧
      R (.ok (.ret (Value.ref s.heap.objs.size))) { s with heap := s.heap.push { cls := Value.type "tuple", data := Data.seq #[] }, toks := s.toks }) :=
  .of_wp fun prog w A R s h => by
    obtain ⟨hp, g, d, tk, os⟩ := s
    obtain ⟨hl, h⟩ := h
    have f1 := AutoSeq1.idx_int
    have c2 : (items.isEmpty || (0 : Int) == 1) = false := by rw [c1]; rfl
    wp_walk using wpAny_loadPart' hl
    repeat (first
      | (refine wpAny_ite_false (decide_eq_false (by rw [c2]; exact Bool.false_ne_true)) ?_; wp_walk using wpAny_loadPart' hl)
      | (refine wpAny_ite_true (by rfl) ?_; wp_walk using wpAny_loadPart' hl))
    exact ⟨_, rfl, h⟩
theorem mul_1 (l : Addr) (items : Array Value) (n : Nat) (dd : Option Addr) (sl : Array (Option Value)) (u : Tok) (c1 : items.isEmpty = false) :
    Meets (Builtin.«tuple.__mul__» ⟨[.ref l, .int 1 u], []⟩) (fun _ R s => s.heap.get? l = some { cls := .type "tuple", dict := dd, data := .seq items n, slots := sl } ∧
      R (.ok (.ret (Value.ref l))) s) :=
  .of_wp fun prog w A R s h => by
    obtain ⟨hp, g, d, tk, os⟩ := s
    obtain ⟨hl, h⟩ := h
    have f1 := AutoSeq1.idx_int
    have c2 : (items.isEmpty || (1 : Int) == 1) = true := by rw [c1]; rfl
    wp_walk using wpAny_loadPart' hl
    exact ⟨_, rfl, h⟩
def rRepU (K : PySem.W.Frag) : R2 := fun x y H Q => ∃ l k xs, x = .ref l ∧ y = .int k ∧ SqT K H l xs ∧ xs ≠ [] ∧ 0 ≤ k ∧ k ≤ 1000 ∧ xs.length ≤ 1000 ∧ (k = 1 → Q (.ref l) H) ∧ ∀ p, H p = none → Q (.ref p) (upd H p (.tup (List.replicate k.toNat xs).flatten))
section
variable {X : Cx}
theorem op_repU : OpR X (binaryOp .Mult) (rRepU X.K) := by
  intro pins s σ H x y v u Q I rx ry h
  obtain ⟨l, k, xs, rfl, rfl, hT, hne, h1, h2, hz, q1, q⟩ := h
  by_cases k2 : 2 ≤ k
  · exact op_repT pins s σ H _ _ v u Q I rx ry ⟨l, k, xs, rfl, rfl, hT, hne, k2, h2, hz, q⟩
  cases rx
  obtain ⟨t, rfl⟩ := ry
  obtain ⟨its, r, ⟨⟨cls, dd, data, sl⟩, ho, hc, n, hd⟩, hs⟩ := I.tuple hT
  simp only at hc hd
  subst hc hd
  have hn : its ≠ [] := fun e => hne (by
    have hle := r.length
    rw [e] at hle
    exact List.eq_nil_of_length_eq_zero hle)
  have hi : its.toArray.isEmpty = false := by
    cases its with
    | nil => exact absurd rfl hn
    | cons a b => rfl
  have hk : k = 0 ∨ k = 1 := by omega
  rcases hk with rfl | rfl
  · refine wpAny_binaryOp_repeat_ref (T := "tuple") (U := "int") (by decide) ⟨_, ho, rfl⟩ (fun s' => typeIs_int s' 0 t) noFill_tuple_mul F.fills_int_mul F.slot_int_rmul repeat_tuple F.slot_int_index.lookup
      (call_meets F.slot_int_rmul (typeIs_int s 0 t) F.entry_int_rmul (F.args_int_rmul_2 _ _) (int_rmul_tuple 0 t l its.toArray n dd sl)
        ⟨ho, rfl, ⟨_, ho, rfl⟩, call_meets F.slot_tuple_mul ⟨_, ho, rfl⟩ F.entry_tuple_mul (F.args_tuple_mul_2 _ _) (mul_0 l its.toArray n dd sl t hi) ⟨ho, ?_⟩⟩)
    refine ⟨.ref s.heap.objs.size, _, I.laid (t' := s.toks) (o := .tup (List.replicate (0 : Int).toNat xs).flatten) (fun b ob q => Heap.get?_push_of_some _ q) (Nat.le_refl _) ?_, rfl, q _ (I.hok.fresh (Nat.le_refl _))⟩
    exact ⟨Nat.zero_le _, [], .nil, IsTup.new _ _⟩
  · refine wpAny_binaryOp_repeat_ref (T := "tuple") (U := "int") (by decide) ⟨_, ho, rfl⟩ (fun s' => typeIs_int s' 1 t) noFill_tuple_mul F.fills_int_mul F.slot_int_rmul repeat_tuple F.slot_int_index.lookup
      (call_meets F.slot_int_rmul (typeIs_int s 1 t) F.entry_int_rmul (F.args_int_rmul_2 _ _) (int_rmul_tuple 1 t l its.toArray n dd sl)
        ⟨ho, rfl, ⟨_, ho, rfl⟩, call_meets F.slot_tuple_mul ⟨_, ho, rfl⟩ F.entry_tuple_mul (F.args_tuple_mul_2 _ _) (mul_1 l its.toArray n dd sl t hi) ⟨ho, ?_⟩⟩)
    exact ⟨.ref l, H, I, rfl, q1 rfl⟩
end
section
variable {K : PySem.W.Frag} {Δ : Sl} {G L : List M} {Qd : Po}
theorem u_repU {xs : List D} {j : Int} (h : (0 ≤ j ∧ j ≤ 1000) ∧ xs ≠ [] ∧ xs.length ≤ 1000) (k : Qd (.d (.tup (List.replicate j.toNat xs).flatten)) G L) : OpC K (rRepU K) (.d (.tup xs)) (.d (.int j)) Δ G L Qd := fun w ls σ H vx vy c rx ry Q q => by
  obtain ⟨a, vs, rfl, h1, r1⟩ := rx
  obtain rfl : vy = V.int j := ry
  have hl := r1.length
  have hne : vs ≠ [] := fun z => h.2.1 (List.eq_nil_of_length_eq_zero (by rw [← hl, z]; rfl))
  refine ⟨a, j, vs, rfl, rfl, h1.sq, hne, h.1.1, h.1.2, by rw [hl]; exact h.2.2, fun e => ?_, fun p hp => ?_⟩
  · have e2 : (List.replicate j.toNat xs).flatten = xs := by
      rw [e]
      show [xs].flatten = xs
      simp
    rw [e2] at k
    exact q.go c Ext.refl (s := .d (.tup xs)) ⟨a, vs, rfl, h1, r1⟩ k
  · exact q.go (c.new hp) (Ext.new hp) (s := .d (.tup _)) (rep_tup c hp (repl_flat r1 _)) k
theorem u_eq_oi {o : Option Int} {e : Int} (k : Qd (.d (.bl (decide (o = some e)))) G L) : OpC K (uEq K) (.d (oD o)) (.d (.int e)) Δ G L Qd := fun w ls σ H vx vy c rx ry Q q => by
  obtain rfl : vy = V.int e := ry
  cases o with
  | none =>
    obtain rfl : vx = V.non := rx
    refine .inl ⟨rfl, ?_⟩
    have e1 : decide (V.non = V.int e) = decide ((none : Option Int) = some e) := by simp
    rw [e1]
    exact q.go c Ext.refl (s := .d (.bl _)) rfl k
  | some i =>
    obtain rfl : vx = V.int i := rx
    refine .inl ⟨rfl, ?_⟩
    have e1 : decide (V.int i = V.int e) = decide (some i = some e) := by simp
    rw [e1]
    exact q.go c Ext.refl (s := .d (.bl _)) rfl k
theorem isN_o {o : Option Int} (k : Qd (.d (.bl o.isNone)) G L) : OpC K (fun x y H Q => y = .non ∧ Q (.bl (decide (x = .non))) H) (.d (oD o)) (.d .non) Δ G L Qd := fun w ls σ H vx vy c rx ry Q q => by
  obtain rfl : vy = V.non := ry
  cases o with
  | none =>
    obtain rfl : vx = V.non := rx
    exact ⟨rfl, q.go c Ext.refl (s := .d (.bl _)) rfl (by simpa using k)⟩
  | some i =>
    obtain rfl : vx = V.int i := rx
    refine ⟨rfl, ?_⟩
    rw [decide_eq_false (by simp)]
    exact q.go c Ext.refl (s := .d (.bl false)) rfl k
theorem notN_o {o : Option Int} (k : Qd (.d (.bl o.isSome)) G L) : OpC K (fun x y H Q => y = .non ∧ Q (.bl (!decide (x = .non))) H) (.d (oD o)) (.d .non) Δ G L Qd := fun w ls σ H vx vy c rx ry Q q => by
  obtain rfl : vy = V.non := ry
  cases o with
  | none =>
    obtain rfl : vx = V.non := rx
    refine ⟨rfl, ?_⟩
    rw [decide_eq_true rfl]
    exact q.go c Ext.refl (s := .d (.bl false)) rfl k
  | some i =>
    obtain rfl : vx = V.int i := rx
    refine ⟨rfl, ?_⟩
    rw [decide_eq_false (by simp)]
    exact q.go c Ext.refl (s := .d (.bl true)) rfl k
end
end DL

/-! enumerate(a tuple) -/
namespace DEt
open PySem PySem.Spec PyProof.Rows L2
open PySem.Sem (wp)
section
variable {prog : Program} {w : World} {A : Around} {E : Value → Shared → Prop} {s : Shared}
end
section
variable {prog : Program} {w : World} {A : Around} {E : Value → Shared → Prop} {s : Shared}
end
end DEt
namespace DL
open PySem PySem.Spec PyProof.Rows L2
end DL

namespace DL
open PySem PySem.Spec PyProof.Rows L2
/-! ### a or b, a None or a number; [x] * int(b) -/
section
variable {K : PySem.W.Frag} {Δ : Sl} {G L : List M} {Qd : Po} {Qn : PoN} {ta tb : TE}
end
end DL

namespace DL
open PySem PySem.Spec PyProof.Rows L2
/-! ### dicts whose keys are pairs of whole numbers, their values whole numbers -/
def gV (p : List Key × Int) : List Key × V := (p.1, V.int p.2)
def kP (a b : Int) : List Key := [.inl a, .inl b]
def getT (kvs : List (List Key × Int)) (k : List Key) : Option Int := (kvs.find? fun kv => decide (kv.1 = k)).map (·.2)
def putT (kvs : List (List Key × Int)) (k : List Key) (v : Int) : List (List Key × Int) := if (kvs.any fun kv => decide (kv.1 = k)) = true then kvs.map (fun kv => if kv.1 = k then (kv.1, v) else kv) else kvs ++ [(k, v)]
theorem val_gV {k : List Key} : ∀ kvs : List (List Key × Int), valV (kvs.map gV) k = (getT kvs k).map V.int
  | [] => rfl
  | p :: r => by
    have ih := val_gV (k := k) r
    by_cases e : p.1 = k
    · rw [List.map_cons, valV_pos (p := gV p) e]
      unfold getT
      rw [List.find?_cons, decide_eq_true e]
      rfl
    · rw [List.map_cons, valV_neg (p := gV p) e, ih]
      unfold getT
      rw [List.find?_cons, decide_eq_false e]
theorem put_gV {k : List Key} {v : Int} (kvs : List (List Key × Int)) : putK (kvs.map gV) k (V.int v) = (putT kvs k v).map gV := by
  unfold putK putT
  have e1 : ((kvs.map gV).any fun kv => decide (kv.1 = k)) = kvs.any fun kv => decide (kv.1 = k) := by
    rw [List.any_map]
    rfl
  rw [e1]
  by_cases h : (kvs.any fun kv => decide (kv.1 = k)) = true
  · rw [if_pos h, if_pos h, List.map_map, List.map_map]
    refine List.map_congr_left fun p _ => ?_
    show (if p.1 = k then (p.1, V.int v) else gV p) = gV (if p.1 = k then (p.1, v) else p)
    by_cases e : p.1 = k
    · rw [if_pos e, if_pos e]
      rfl
    · rw [if_neg e, if_neg e]
  · rw [if_neg h, if_neg h, List.map_append]
    rfl
theorem get_put (kvs : List (List Key × Int)) (k j : List Key) (v : Int) : getT (putT kvs k v) j = if j = k then some v else getT kvs j := by
  have h := valV_put (kvs.map gV) k j (V.int v)
  rw [put_gV, val_gV, val_gV] at h
  by_cases e : j = k
  · rw [if_pos e] at h ⊢
    cases hg : getT (putT kvs k v) j with
    | none =>
      rw [hg] at h
      cases h
    | some x =>
      rw [hg] at h
      have := Option.some.inj h
      cases this
      rfl
  · rw [if_neg e] at h ⊢
    cases hg : getT (putT kvs k v) j with
    | none =>
      rw [hg] at h
      cases hj : getT kvs j with
      | none => rfl
      | some y =>
        rw [hj] at h
        cases h
    | some x =>
      rw [hg] at h
      cases hj : getT kvs j with
      | none =>
        rw [hj] at h
        cases h
      | some y =>
        rw [hj] at h
        have := Option.some.inj h
        cases this
        rfl
theorem put_len (kvs : List (List Key × Int)) (k : List Key) (v : Int) : (putT kvs k v).length ≤ kvs.length + 1 := by
  unfold putT
  split
  · rw [List.length_map]
    omega
  · rw [List.length_append]
    exact Nat.le_refl _
theorem kP_inj {a b c d : Int} : kP a b = kP c d ↔ a = c ∧ b = d := by
  unfold kP
  constructor
  · intro h
    injection h with h1 h2
    injection h2 with h2 _
    exact ⟨Sum.inl.inj h1, Sum.inl.inj h2⟩
  · rintro ⟨rfl, rfl⟩
    rfl
section
variable {K : PySem.W.Frag} {Δ : Sl} {G L : List M} {Qd : Po} {Qn : PoN}
theorem evn_dnewT (k : Qn (.dt []) G L) : EvN K tDNewT Δ G L Qn := fun w ls σ H c Q r => fun p hp => by
  have g := newAt_of (m := M.dt []) (o := .dT []) c hp upd_same (fun x e => by cases e)
  exact r p _ _ _ _ hp g (Ext.new hp) k
theorem key_pair {H : Hp} {R : Addr → Prop} {a b : Int} {v : V} (r : Rep K H R (.tup [.int a, .int b]) v) : ∃ p, v = .ref p ∧ H p = some (.tup ((kP a b).map kV)) := by
  obtain ⟨p, xs, rfl, h, r⟩ := r
  have e := RepL.intsV (ns := [a, b]) r
  subst e
  exact ⟨p, rfl, h.1⟩
theorem u_dgetT {k : Nat} {a b : Int} (h : ∃ kvs, L[k]? = some (.dt kvs) ∧ ∃ v, getT kvs (kP a b) = some v ∧ Qd (.d (.int v)) G L) : OpC K rDGet (.l k) (.d (.tup [.int a, .int b])) Δ G L Qd := fun w ls σ H vx vy c rx ry Q q => by
  obtain ⟨kvs, hk, v, hv, kk⟩ := h
  obtain ⟨d, hd, rfl⟩ := rx
  obtain ⟨d2, hd2, m⟩ := paired_get c.lo hk
  rw [hd] at hd2
  cases hd2
  obtain ⟨p, rfl, hp⟩ := key_pair ry
  refine ⟨d, V.int v, rfl, ?_, q.go c Ext.refl (s := .d (.int v)) rfl kk⟩
  have g := DGet.t (H := H) (a := d) (kvs := kvs.map gV) (k := kP a b) m hp
  rw [val_gV, hv] at g
  exact g
theorem sto_dt {k : Nat} {a b v : Int} {Qt : List M → List M → Prop} (h : ∃ kvs, L[k]? = some (.dt kvs) ∧ kvs.length < 100000 ∧ Qt G (L.set k (.dt (putT kvs (kP a b) v)))) : StoC K rSetD (.l k) (.d (.tup [.int a, .int b])) (.d (.int v)) Δ G L Qt := fun w ls σ H vo vi vv c ro ri rv Q ret => by
  obtain ⟨kvs, hk, hl, q⟩ := h
  obtain ⟨d, hd, rfl⟩ := ro
  obtain ⟨d2, hd2, m⟩ := paired_get c.lo hk
  rw [hd] at hd2
  cases hd2
  obtain ⟨p, rfl, hp⟩ := key_pair ri
  obtain rfl : vv = V.int v := rv
  have pt := DPut.t (H := H) (a := d) (kvs := kvs.map gV) (k := kP a b) (v := V.int v) m hp (by rw [List.length_map]; exact lt_line (by omega))
  rw [put_gV] at pt
  exact ⟨d, _, rfl, pt, ret _ _ _ (c.setL (m := .dt _) hd upd_same) (Ext.setL (List.mem_of_getElem? hd)) q⟩
end
end DL

namespace DL
open PySem PySem.Spec PyProof.Rows L2
/-! ### max of a tuple of whole numbers -/
def rMaxT (K : PySem.W.Frag) : List V → Hp → VK → Prop := fun vs H Q => ∃ (a : Addr) (ns : List Int), vs = [V.ref a] ∧ SqT K H a (ns.map V.int) ∧ 0 < ns.length ∧ Q (.int (maxDf 0 ns)) H
theorem cr_maxT {X : Cx} (hc : X.calm = true) (hu : X.A.units + 64 < cLine) : CallR X (.builtin "max") (rMaxT X.K) := by
  intro pins s σ H vs us Q I r h
  obtain ⟨a, ns, rfl, hs, hne, q⟩ := h
  rw [Vals.ref1 r]
  obtain ⟨its, rv, hl, _⟩ := I.tuple hs
  cases ns with
  | nil => exact absurd hne (Nat.lt_irrefl 0)
  | cons n ms =>
    have hu2 : X.A.units + 1 + PyData.depthAll (PyData.int n :: ms.map PyData.int) < cLine := by
      have := depth_ints (n :: ms)
      rw [List.map_cons] at this
      omega
    refine PySem.W.max_tuple_data (I.ok.hd hc) hl (x := .int n) (xs := ms.map PyData.int) (as := []) (by simpa using reads_ints (ns := n :: ms) rv) (alikeAll_ints (n :: ms)) hu2 fun i v h' tk bs hv hr hk => ?_
    rw [PySem.W.maxD_ints] at hr
    cases hr with
    | int _ t => exact ⟨.int _, H, I.kept hk, ⟨_, rfl⟩, q⟩
section
variable {K : PySem.W.Frag} {Δ : Sl} {G L : List M} {Qd : Po}
theorem ap_maxT {ds : List D} (h : ∃ ns : List Int, ds = ns.map D.int ∧ 0 < ns.length ∧ Qd (.d (.int (maxDf 0 ns))) G L) : ApC K (rMaxT K) [.d (.tup ds)] Δ G L Qd := fun w ls σ H vs c rs Q q => by
  obtain ⟨ns, rfl, hn, k⟩ := h
  obtain ⟨v, rfl, r⟩ := pair1 rs
  obtain ⟨a, xs, rfl, h1, q1⟩ := r
  have e := RepL.intsV q1
  subst e
  exact ⟨a, ns, rfl, h1.sq, hn, q.go c Ext.refl (s := .d (.int _)) rfl k⟩
end
end DL

/-! zip(a tuple, a list), over the library's GoesN.zip2 -/
namespace DZm
open PySem PySem.Spec PyProof.Rows L2
end DZm
namespace DL
open PySem PySem.Spec PyProof.Rows L2
end DL

/-! zip(a, b, strict=True) of two texts of one length, enumerate(a text): over the library's Draws -/
namespace DZx
open PySem PySem.Spec PyProof.Rows L2 DZs
open PySem.Sem (wp)
section
variable {prog : Program} {w : World} {A : Around} {E : Value → Shared → Prop} {s : Shared} {z TI TO i1 i2 it : Addr} {fp fp1 fp2 : List Addr} {n n1 n2 i : Nat} {P P1 P2 : Nat → Value → Prop} {St St1 St2 : Nat → Heap → Prop} {a1 a2 : Value}
end
section
variable {prog : Program} {w : World} {A : Around} {E : Value → Shared → Prop} {s : Shared} {z TI TO i1 i2 : Addr} {fp1 fp2 : List Addr} {n n1 n2 i : Nat} {P1 P2 : Nat → Value → Prop} {St1 St2 : Nat → Heap → Prop} {a1 a2 : Value}
end
section
variable {prog : Program} {w : World} {A : Around} {E : Value → Shared → Prop} {s : Shared}
end
/-! ### enumerate(a text) -/
section
variable {prog : Program} {w : World} {A : Around} {E : Value → Shared → Prop} {s : Shared}
end
end DZx
namespace DL
open PySem PySem.Spec PyProof.Rows L2
end DL

/-! texts: sorted of any number of them, rstrip, endswith, join, count; a list by a step -/
namespace DSo
open PySem PySem.Spec PyProof.Rows L2
/-! the order of texts -/
def leC : List Nat → List Nat → Bool
  | [], _ => true
  | _ :: _, [] => false
  | a :: r, b :: t => decide (a < b) || (decide (a = b) && leC r t)
theorem leC_anti : ∀ a b : List Nat, leC a b = true → leC b a = true → a = b
  | [], [], _, _ => rfl
  | [], _ :: _, _, h => by cases h
  | _ :: _, [], h, _ => by cases h
  | a :: r, b :: t, h, g => by
    unfold leC at h g
    simp only [Bool.or_eq_true, Bool.and_eq_true, decide_eq_true_eq] at h g
    rcases h with h | ⟨h, h2⟩
    · rcases g with g | ⟨g, _⟩ <;> omega
    · rcases g with g | ⟨_, g2⟩
      · omega
      · rw [h, leC_anti r t h2 g2]
def leT (a b : Str) : Bool := leC a.cps.toList b.cps.toList
theorem leT_anti {a b : Str} (h : leT a b = true) (g : leT b a = true) : a = b := by
  have := leC_anti _ _ h g
  obtain ⟨a⟩ := a
  obtain ⟨b⟩ := b
  simp at this
  rw [this]
theorem uniq : ∀ {l1 l2 : List Str}, l1.Perm l2 → l1.Pairwise (fun a b => leT a b = true) → l2.Pairwise (fun a b => leT a b = true) → l1 = l2
  | [], l2, p, _, _ => (List.Perm.nil_eq p)
  | a :: r, [], p, _, _ => absurd p.length_eq (by simp)
  | a :: r, b :: t, p, h, g => by
    have ha := p.mem_iff.mp (List.mem_cons_self (a := a) (l := r))
    have hb := p.mem_iff.mpr (List.mem_cons_self (a := b) (l := t))
    have e : a = b := by
      rcases List.mem_cons.mp ha with e | ha
      · exact e
      · rcases List.mem_cons.mp hb with e | hb
        · exact e.symm
        · exact leT_anti ((List.pairwise_cons.mp h).1 b hb) ((List.pairwise_cons.mp g).1 a ha)
    subst e
    rw [uniq p.cons_inv (List.pairwise_cons.mp h).2 (List.pairwise_cons.mp g).2]
/-! a list by a step -/
end DSo
namespace DL
open PySem PySem.Spec PyProof.Rows L2 DSo
section
variable {K : PySem.W.Frag} {Δ : Sl} {G L : List M} {Qd : Po} {Qn : PoN} {te : TE}
end
end DL

namespace DL
open PySem PySem.Spec PyProof.Rows L2
section
variable {K : PySem.W.Frag} {Δ : Sl} {G L : List M} {Qn : PoN} {wi : TI} {g : TG} {tt : TT} {te : TE} {vs : List Nat}
theorem evn_lcM {α : Type} (xs : List α) (f : α → D) (keep : α → Bool) (val : α → D) (h : EvI K wi Δ G L fun items G1 L1 => items = xs.map f ∧ xs.length < sizeLine ∧
    (∀ a ∈ xs, TgC K g (· ∈ vs) (.d (f a)) (wipeD Δ vs) G1 L1 fun Δ2 G2 L2 => EvB K tt Δ2 G2 L2 fun b G3 L3 => b = keep a ∧ (b = true → EvC K te Δ2 G3 L3 fun s G4 L4 => s = .d (val a) ∧ G4 = G1 ∧ L4 = L1) ∧ (b = false → G3 = G1 ∧ L3 = L1)) ∧
    Qn (.pl ((xs.filter keep).map val)) G1 L1) : EvN K (tLc wi g tt te vs) Δ G L Qn := by
  refine evn_lc fun w ls σ H c R q => h w ls σ H c R fun J H1 items G1 L1 c1 e1 it ⟨ex, hz, hs, hq⟩ => q J H1 items G1 L1 c1 e1 it ?_
  subst ex
  refine ⟨fun i acc G' L' => G' = G1 ∧ L' = L1 ∧ acc = ((xs.take i).filter keep).map val, ⟨rfl, rfl, by rw [List.take_zero]; rfl⟩, by rw [List.length_map]; exact hz, ?_, ?_⟩
  · rintro i d acc G' L' hd _ ⟨rfl, rfl, rfl⟩
    rw [List.getElem?_map] at hd
    cases e : xs[i]? with
    | none =>
      rw [e] at hd
      cases hd
    | some a =>
      rw [e] at hd
      cases hd
      have e2 : xs.take (i + 1) = xs.take i ++ [a] := by
        rw [List.take_succ, e]
        rfl
      intro w ls σ H v c r Q k
      refine hs a (List.mem_of_getElem? e) w ls σ H v c r Q fun σ' H' Δ' G2 L2 c' e' l' o' hb => k σ' H' Δ' G2 L2 c' e' l' o' ?_
      intro w ls σ H c Q k
      refine hb w ls σ H c Q fun b H' G3 L3 c' e' ⟨h1, h2, h3⟩ => k b H' G3 L3 c' e' ?_
      cases b with
      | true =>
        refine iteTT ((h2 rfl).imp fun s G4 L4 ⟨h4, h5, h6⟩ => ⟨val a, h4, h5, h6, ?_⟩)
        rw [e2, List.filter_append, List.map_append, List.filter_cons, if_pos h1.symm]
        rfl
      | false =>
        obtain ⟨h4, h5⟩ := h3 rfl
        refine iteFF ⟨h4, h5, ?_⟩
        rw [e2, List.filter_append, List.map_append, List.filter_cons, if_neg (by rw [← h1]; decide)]
        exact (List.append_nil _).symm
  · rintro acc G' L' ⟨rfl, rfl, rfl⟩
    rw [List.length_map, List.take_length]
    exact hq
end
end DL

/-! sets of texts: set(a list of texts), sorted of it, len of it -/
namespace DSt
open PySem PySem.Spec PyProof.Rows L2
def keyS (e : Int × Value) : Str := match e.2 with | .str k _ => k | _ => Str.empty
def GoodS (P : Program) (w : World) (e : Int × Value) : Prop := ∃ k tk, e.2 = Value.str k tk ∧ e.1 = (PySem.strKind P w).hash k

def SetS (P : Program) (w : World) (h : Heap) (a : Addr) (S : Str → Bool) (n : Nat) : Prop :=
  ∃ o es ep t, h.get? a = some o ∧ o.ExactSet ∧ o.data = .set es ep t ∧ (∀ e ∈ es.toList, GoodS P w e) ∧ (es.toList.map keyS).Nodup ∧ (∀ k, S k = true ↔ k ∈ es.toList.map keyS) ∧
    es.size < scanBound ∧ t.fits es.size = true ∧ es.size = n ∧ Ris t.place.toList ∧ (w.params.followText "set-order" = true ∨ t.led = true)

section
variable {P : Program} {w : World} {h h' : Heap} {a : Addr} {S : Str → Bool} {n : Nat}

theorem SetS.at (R : SetS P w h a S n) (k : ∀ o, h.get? a = some o → h'.get? a = some o) : SetS P w h' a S n := by
  obtain ⟨o, es, ep, t, ho, r⟩ := R
  exact ⟨o, es, ep, t, k o ho, r⟩
theorem SetS.lt (R : SetS P w h a S n) : a < h.objs.size := by
  obtain ⟨o, es, ep, t, ho, r⟩ := R
  exact Heap.lt_size ho
theorem SetS.congr {S' : Str → Bool} (R : SetS P w h a S n) (e : ∀ k, S' k = S k) : SetS P w h a S' n := by
  have q : S' = S := funext e
  rw [q]; exact R
end

section
variable {P : Program} {w : World} {A : Around} {E : Value → Shared → Prop} {s : Shared} {a : Addr} {S : Str → Bool} {n : Nat}

/-! ### add -/
end

section
variable {P : Program} {w : World} {A : Around} {R : Result → Shared → Prop} {I : Addr} {fp wr : List Addr} {G : Array GenState → Array GenState → Prop} {n : Nat} {Pv : Nat → Value → Prop} {St : Nat → Shared → Prop}
end

section
variable {P : Program} {w : World} {A : Around} {E : Value → Shared → Prop} {s : Shared}
end
section
variable {P : Program} {w : World} {A : Around} {E : Value → Shared → Prop} {s : Shared} {a : Addr}
end

/-! ### rules -/
section
variable {X : Cx}
end
end DSt
namespace DL
open PySem PySem.Spec PyProof.Rows L2 DSo DSt
section
variable {K : PySem.W.Frag} {Δ : Sl} {G L : List M} {Qd : Po} {Qn : PoN} {te : TE} {P : Program} {w0 : World}
end
end DL

/-! {True: a, False: b}[x]: the dict is made, read once, and forgotten -/
namespace DBx
open PySem PySem.Spec PyProof.Rows L2
end DBx
namespace DL
open PySem PySem.Spec PyProof.Rows L2 DBx
section
variable {K : PySem.W.Frag} {Δ : Sl} {G L : List M} {Qd : Po} {ta tb te : TE}
end
end DL

/-! a text turned about; tuple(a text) -/
namespace DRv
open PySem PySem.Spec PyProof.Rows L2
open Builtin Builtin.Str
end DRv
namespace DL
open PySem PySem.Spec PyProof.Rows L2 DRv
section
variable {K : PySem.W.Frag} {Δ : Sl} {G L : List M} {Qd : Po} {te : TE}
end
end DL

/-! truths as numbers: +, -, == with an int, str of a truth -/
namespace DBo
open PySem PySem.Spec PyProof.Rows L2 DL
end DBo
namespace DL
open PySem PySem.Spec PyProof.Rows L2 DBo
section
variable {K : PySem.W.Frag} {Δ : Sl} {G L : List M} {Qd : Po} {Qn : PoN}
end
end DL

/-! list.count of texts; upper of any text can be shown -/
namespace DLc
open PySem PySem.Spec PyProof.Rows L2
section
variable {X : Cx}
end
/-! upper -/
end DLc
namespace DL
open PySem PySem.Spec PyProof.Rows L2 DLc
section
variable {K : PySem.W.Frag} {Δ : Sl} {G L : List M} {Qd : Po}
end
end DL

/-! sum of a tuple of whole numbers -/
namespace DL
open PySem PySem.Spec PyProof.Rows L2
def rSumT (K : PySem.W.Frag) : List V → Hp → VK → Prop := fun vs H Q => ∃ (a : Addr) (ns : List Int), vs = [V.ref a] ∧ SqT K H a (ns.map V.int) ∧ Q (.int ns.sum) H
theorem cr_sumT {X : Cx} (hc : X.calm = true) : CallR X (.builtin "sum") (rSumT X.K) := by
  intro pins s σ H vs us Q I r h
  obtain ⟨a, ns, rfl, hs, q⟩ := h
  rw [Vals.ref1 r]
  have hh : X.A.handled = none := I.ok.hd hc
  obtain ⟨its, rv, hl, _⟩ := I.tuple hs
  have hi := rv.ints
  obtain ⟨xs, e⟩ := hi.allInts.items
  have hp := preSum_list hi e
  have hl' : s.heap.IsTuple a (intItems xs) := by rw [← e]; exact hl
  refine call_sum_walkG (iter_intTuple hh hl' fun s₂ e2 hlI st hfp => ?_)
  subst e2
  refine ⟨_, _, _, _, _, _, numAt xs, rfl, Walks.tuple (A := X.A.in1) hh _ a hlI (intItems xs), st, hfp, (fun _ _ => intItems_at), fun h' tk t' hk => ?_⟩
  have e3 : (intItems xs).size = xs.size := by simp [intItems]
  rw [e3, hp]
  have hk2 : ∀ b o, s.heap.get? b = some o → h'.get? b = some o := fun b o e => hk b o (fun z => Nat.ne_of_lt (Heap.lt_size e) (List.mem_singleton.mp z)) (Heap.get?_push_of_some _ e)
  exact ⟨.int _, H, I.kept hk2, ⟨_, rfl⟩, q⟩
section
variable {K : PySem.W.Frag} {Δ : Sl} {G L : List M} {Qd : Po}
theorem ap_sumT {ds : List D} (h : ∃ ns : List Int, ds = ns.map D.int ∧ Qd (.d (.int ns.sum)) G L) : ApC K (rSumT K) [.d (.tup ds)] Δ G L Qd := fun w ls σ H vs c rs Q q => by
  obtain ⟨ns, rfl, k⟩ := h
  obtain ⟨v, rfl, r⟩ := pair1 rs
  obtain ⟨a, xs, rfl, h1, q1⟩ := r
  have e := RepL.intsV q1
  subst e
  exact ⟨a, ns, rfl, h1.sq, q.go c Ext.refl (s := .d (.int _)) rfl k⟩
end
end DL

/-! a def held in a slot is called; list(range(n)); sorted(ints) -/
namespace DL
open PySem PySem.Spec PyProof.Rows L2
section
variable {K : PySem.W.Frag} {Δ : Sl} {G L : List M} {Qd : Po} {Qn : PoN} {te : TE} {ta : TA} {sp : DSpec} {E0' : XK}
end
end DL

/-! sorted(set(a list of ints)); list(range(a, b)); a list extended by it -/
namespace DSi
open PySem PySem.Spec PyProof.Rows L2
section
variable {P : Program} {w : World} {A : Around} {E : Value → Shared → Prop} {s : Shared}
end
section
variable {X : Cx}
end
end DSi
namespace DL
open PySem PySem.Spec PyProof.Rows L2 DSi
section
variable {K : PySem.W.Frag} {Δ : Sl} {G L : List M} {Qd : Po} {Qn : PoN} {te tf : TE} {w0 : World}
end
end DL

/-! a op b op c op d, as a test -/
namespace DCh
open PySem PySem.Spec PyProof.Rows L2
section
variable {X : Cx} {a b c d : Expr} {ta tb tc td : TE} {pos : Pos}
end
end DCh
namespace DL
open PySem PySem.Spec PyProof.Rows L2 DCh
section
variable {K : PySem.W.Frag} {Δ : Sl} {G L : List M} {Qb : PoB} {ta tb tc td : TE} {r r' r'' : R2}
end
end DL

/-! zip(a, b, strict=True) of two lists of one length -/
namespace DZl
open PySem PySem.Spec PyProof.Rows L2
open PySem.Sem (wp)
abbrev IsZipS (h : Heap) (z TI TO : Addr) (f0 : Value) : Prop :=
  h.get? z = some { cls := .type "zip", dict := none, data := .fields #[f0, .bool false, .bool true, .ref TI, .ref TO], slots := #[] }
section
variable {prog : Program} {w : World} {A : Around} {E : Value → Shared → Prop} {s : Shared}
theorem stop_iter {α : Type} {Q : α → Shared → Prop} (hh : A.handled = none) (hE : ∀ h' e, (∀ c o, s.heap.get? c = some o → h'.get? c = some o) → (∃ o, h'.get? e = some o ∧ o.cls = .type "StopIteration") → E (.ref e) { s with heap := h' }) :
    wpAny (model prog w) A (Builtin.SmallTypes.stopIteration : Sem α) Q E s := by
  unfold Builtin.SmallTypes.stopIteration
  refine wpAny_bind ?_
  simp only [newExc, newTuple]
  refine wpAny_bind (wpAny_newObj_type ?_ (by size_fits))
  refine wpAny_bind (m := firstArgMember _ _) (wpAny_of_eq (a := Value.none) (by first | rfl | (simp only [firstArgMember]; rfl)) ?_)
  refine wpAny_newObj_type ?_ (by size_fits)
  simp only [raiseNew]
  refine wpAny_bind (wpAny_handled ?_)
  rw [hh]
  refine wpAny_bind (wpAny_pure (wpAny_throw ?_))
  exact hE _ _ (fun c o e => Heap.get?_push_of_some _ (Heap.get?_push_of_some _ e)) ⟨_, Heap.get?_push_size _ rfl, rfl⟩

theorem letGo_zipS {elts : List Expr} {x1} {pos : Pos} {z TI TO T : Addr} {Q : Unit → Shared → Prop} (hz : IsZipS s.heap z TI TO (rawInt T))
    (hQ : ∀ h', IsZipS h' z TI TO .none → Heap.SameBut z s.heap h' → Q () { s with heap := h' }) :
    wpAny (model prog w) A (letOwnedTupleGo (.Tuple elts x1 pos) (.ref z) (.ref T)) Q E s := by
  unfold letOwnedTupleGo
  refine wpAny_bind (wpAny_load hz ?_)
  show wpAny _ _ (if (["enumerate", "zip", "dict_itemiterator", "dict_reverseitemiterator", "odict_iterator", "itertools.zip_longest", "itertools.pairwise"].contains "zip" &&
      (#[rawInt T, .bool false, .bool true, .ref TI, .ref TO] : Array Value)[0]? == some (rawInt T)) = true then _ else _) Q E s
  rw [if_pos (by simp)]
  refine wpAny_bind (wpAny_rule ?_)
  show wpAny _ _ (setField (.ref z) 0 .none) Q E s
  exact wpAny_setField_rec hz (by simp) fun h' hz' hs' => hQ h' hz' hs'
theorem pyIter_zipS {z TI TO : Addr} {f0 : Value} {Q : Value → Shared → Prop} (hz : IsZipS s.heap z TI TO f0) (h : Q (.ref z) s) : wpAny (model prog w) A (pyIter (.ref z)) Q E s := by
  have hT : s.TypeIs (.ref z) "zip" := ⟨_, hz, rfl⟩
  refine wpAny_pyIter_slot hT F.slot_zip_iter (wpAny_call_entry F.slot_zip_iter hT F.entry_zip_iter ?_ (F.args_zip_iter_1 _))
  show wpAny _ _ (ret (.ref z)) _ _ s
  exact wpAny_pure ⟨_, rfl, "zip", _, hT, F.slot_zip_next.lookup, h⟩
end
section
variable {prog : Program} {w : World} {A : Around} {E : Value → Shared → Prop} {s : Shared}
end
section
variable {M : Model} {A : Around} {E : Value → Shared → Prop} {s : Shared} {env : Env}
theorem cw_type_kw {pos : Pos} {T : String} {e : Expr} {rest : List Expr} {kws : List Keyword} {Q : Value → Shared → Prop}
    (h : wpAny M A (spliced (backTo pos (starEach (e :: rest) env))) (fun vs s₁ => wpAny M A (evalAll ((backToKw pos (keywordEach kws env)).map (·.2)))
      (fun kvs s₂ => wpAny M A (call (.type T) vs (((backToKw pos (keywordEach kws env)).filterMap (·.1)).zip kvs)) Q E s₂) E s₁) E s)
    (he : backTo pos (starEach (e :: rest) env) = (false, eval e env) :: backTo pos (starEach rest env)) (hplain : (backTo pos (starEach (e :: rest) env)).any (·.1) = false)
    (hall : (backToKw pos (keywordEach kws env)).all (·.1.isSome) = true) (hkw : (backToKw pos (keywordEach kws env)).any (·.1.isNone) = false) :
    wpAny M A (callWith pos (.type T) [] (backTo pos (starEach (e :: rest) env)) (backToKw pos (keywordEach kws env))) Q E s := by
  have h2 : wpAny M A (evalArgs (.type T) true (backTo pos (starEach (e :: rest) env)) (backToKw pos (keywordEach kws env))) (fun a s₁ => wpAny M A (call (.type T) ([] ++ a.pos) a.kw) Q E s₁) E s := by
    rw [he] at h ⊢
    exact evalArgs_kwB hall h
  unfold callWith
  refine wpAny_bind (wpAny_holding (wpAny_mono h2 (fun a s₁ h₁ => wpAny_bind (wpAny_standAt ?_)) fun _ _ x => x))
  simp only [hplain, hkw, Bool.or_false]
  refine wpAny_bind (wpAny_pure ?_)
  exact wpAny_bind (wpAny_mono h₁ (fun r s₂ hr => wpAny_bind (wpAny_holding (wpAny_point (wpAny_pure hr)))) fun _ _ x => x)
end
end DZl
namespace DL
open PySem PySem.Spec PyProof.Rows L2
end DL

namespace DL
open PySem PySem.Spec PyProof.Rows L2
section
variable {K : PySem.W.Frag} {Δ : Sl} {G L : List M} {Qd : Po}
end
end DL

/-! exceptions of own classes with one field: defs that raise, raise, try .. except .. as -/
namespace DXe
open PySem PySem.Spec PyProof.Rows L2
section
variable {X : Cx} {CX : CXT} {k i : Nat} {f : Addr} {fd : FuncData} {ps : List Str} {sp : Sp} {E : L2.St → XK} {x : Str} {p pos : Pos} {e : Expr} {es : List Expr} {t : TA}
end
/-! what isinstance says of classes -/
theorem kit_ty {K : PySem.W.Frag} {C : Addr} {T : String} (hm : PySem.W.kitMeta T = true) (h : PySem.W.subIn K (.ref C) (.type T) = some true) : PySem.W.kitOne K (.ref C) (.type T) = some true := by
  unfold PySem.W.kitOne
  rw [if_neg (by intro z; cases beq_iff_eq.mp z)]
  show (if PySem.W.kitMeta T = true then PySem.W.subIn K (.ref C) (.type T) else none) = _
  rw [if_pos hm]
  exact h
theorem kit_ref {K : PySem.W.Frag} {C D : Addr} (hC : PySem.W.subIn K (.ref C) (.ref C) = some true) (ic : PySem.W.isClsIn K D = true) (ty : PySem.W.typeIn K (.ref D) = some (.type "type")) (h : PySem.W.subIn K (.ref C) (.ref D) = some false) : PySem.W.kitOne K (.ref C) (.ref D) = some false := by
  unfold PySem.W.kitOne
  rw [if_neg (by
    intro z
    have e : C = D := Value.ref.inj (beq_iff_eq.mp z)
    subst e
    rw [hC] at h
    cases h)]
  have e2 : ((PySem.W.clsIn K D).isSome && PySem.W.typeIn K (.ref D) == some (.type "type")) = true := by
    have ic : (PySem.W.clsIn K D).isSome = true := ic
    rw [ic, ty]
    rfl
  show (if ((PySem.W.clsIn K D).isSome && PySem.W.typeIn K (.ref D) == some (.type "type")) = true then PySem.W.subIn K (.ref C) (.ref D) else none) = _
  rw [if_pos e2]
  exact h
end DXe
namespace DL
open PySem PySem.Spec PyProof.Rows L2
structure Exn where
  C : Addr
  fs : List (Str × D)
def ExnAt (K : PySem.W.Frag) (H : Hp) (R : Addr → Prop) (cls : Value) (d : Option Addr) (x : Exn) : Prop := cls = .ref x.C ∧ ∃ dd ws, d = some dd ∧ (H dd = some (.xd ws) ∧ ¬ R dd) ∧ RepF K H R x.fs ws
def WishAt (K : PySem.W.Frag) (w : W) (ls : List Addr) (H : Hp) (Wi : WX) (Qx : Exn → Sl → List M → List M → Prop) : Prop :=
  ∀ σ Δ G L cls d x, Ctx K w ls σ H Δ G L → ExnAt K H (Rg w ls) cls d x → Qx x Δ G L → Wi cls d σ H
abbrev DSpecX := List S → List M → (Res → List M → Prop) → (Exn → List M → Prop) → Prop
def spDX (K : PySem.W.Frag) (F : DSpecX) : Sp := fun vs H Q Ex => ∃ (w : W) (ss : List S) (G : List M) (Qd : Res → List M → Prop) (Qx : Exn → List M → Prop), w.H0 = H ∧ Ctx K w [] [] H [] G [] ∧ Paired (RS K H (Rg w []) w.gs []) ss vs ∧ F ss G Qd Qx ∧
  (∀ v s H' G', Ctx K w [] [] H' [] G' [] → RS K H' (Rg w []) w.gs [] s v → Qd (.v s) G' → Q v H') ∧
  (∀ ps k p ms H' G', Ctx K w ps [] H' [] G' ms → ps[k]? = some p → Qd (.new ms k) G' → Q (.ref p) H') ∧
  (∀ cls d x H' G', Ctx K w [] [] H' [] G' [] → ExnAt K H' (Rg w []) cls d x → Qx x G' → Ex cls d H')
def endsX (K : PySem.W.Frag) (E : XK) (Qd : Res → List M → Prop) (Qx : Exn → List M → Prop) : EndsD :=
  { endsD Qd with wd := fun w ls H => WishAt K w ls H (fun cls d _ H => E cls d H) fun x _ G _ => Qx x G }
section
variable {K : PySem.W.Frag}
theorem ExnAt.grow {H H' : Hp} {R R' : Addr → Prop} {cls : Value} {d : Option Addr} {x : Exn} (g : Grow H H' R R') (h : ExnAt K H R cls d x) : ExnAt K H' R' cls d x := by
  obtain ⟨e, dd, ws, ed, ⟨h1, n1⟩, r⟩ := h
  exact ⟨e, dd, ws, ed, ⟨g.keep _ _ h1 n1, fun z => n1 (g.reg _ _ h1 z)⟩, r.grow g⟩
theorem okDX {P : Program} {w : World} {mg : Str → Option Value} {base : Heap} {x qual : Str} {st : Stmt} {f : Addr} {fd : FuncData} {N ps : List Str} {k : Nat} {sp : DSpecX} (F : Fun K x qual st f fd) (S : FnScope N ps (defScope st)) (len : ∀ ss G Qd Qx, sp ss G Qd Qx → ss.length = ps.length)
    (hbody : ∀ (cdv : Value) (A : Around) (outer : List Env) (s : Shared) (H : Hp) (E : XK) (ss : List DL.S) (G : List M) (Qd : Res → List M → Prop) (Qx : Exn → List M → Prop), Room k (A.deeper (envOfC qual (defScope st) s.heap.objs.size f cdv)) → sp ss G Qd Qx →
      ∃ t, PSs (cxOf (L2.CX P w) P w K mg base N qual (defScope st) f cdv A outer s H E) (defBody st) t ∧ StC K t (startD N ss) G [] (endsX K E Qd Qx)) : FnOk P w K mg base (L2.CX P w) (k + 1) f fd ps (spDX K sp) := by
  refine F.okX S (fun vs H Q E h => ?_) (fun cdv A outer s H vs Q E hr h => ?_)
  · obtain ⟨w, ss, G, Qd, Qx, _, _, r, q, _⟩ := h
    rw [← paired_len r]
    exact len ss G Qd Qx q
  · obtain ⟨w, ss, G, Qd, Qx, h0, c, r, q, k1, k2, k3⟩ := h
    obtain ⟨t, ht, hs⟩ := hbody cdv A outer s H E ss G Qd Qx hr q
    refine ⟨t, ht, hs w [] (L2.start N vs) H ⟨c.reg, c.rin, c.nd, c.fr, c.h0, slok_start r, c.gl, c.lo, c.ld⟩ _ ⟨?_, ?_, ?_, ?_, ?_⟩⟩
    · intro ls' σ' H' Δ' G' L' c' g' n'
      exact k1 .non (.d .non) H' G' c'.forget rfl n'
    · intro ls' σ' H' Δ' G' L' v z c' rz n'
      cases z with
      | d x => exact k1 v (.d x) H' G' c'.forget (Rep.grow grow_drop rz) n'
      | g j => exact k1 v (.g j) H' G' c'.forget rz n'
      | l j =>
        obtain ⟨a, ha, rfl⟩ := rz
        exact k2 ls' j a L' H' G' c'.forgetS ha n'
    · intro ls' σ' H' Δ' G' L' c' g' n'
      exact n'.elim
    · intro ls' σ' H' Δ' G' L' c' g' n'
      exact n'.elim
    · intro ls' H' g' σ' Δ' G' L' cls d x c' xn qx
      exact k3 cls d x H' G' c'.forget (xn.grow grow_drop) qx
section
variable {Δ : Sl} {G L : List M} {Qd : Po} {E : EndsD} {ta ts : TA} {te : TE} {tt : TT} {F : DSpecX} {Wi : WX} {g : TG}
theorem spX_call {w : W} {ls : List Addr} {σ : L2.St} {H : Hp} {ss : List S} {vs : List V} {Q : VK} {Ex : XK} {Qx : Exn → List M → List M → Prop} (c : Ctx K w ls σ H Δ G L) (r : Paired (RS K H (Rg w ls) w.gs ls) ss vs) (hn : noL ss = true) (h : F ss G (asV Qd L) fun x G' => Qx x G' L) (q : Ret K w ls σ Δ H Qd Q)
    (qx : ∀ cls d x H' G', Ctx K w ls σ H' Δ G' L → Ext w ls H H' → ExnAt K H' (Rg w ls) cls d x → Qx x G' L → Ex cls d H') : spDX K F vs H Q Ex := by
  have g : Grow H H (Rg w ls) (Rg (DL.callee w ls H) []) := grow_iff fun a r => r.elim id (fun z => by cases z)
  have g' : ∀ H', Grow H' H' (Rg (DL.callee w ls H) []) (Rg w ls) := fun H' => grow_iff fun a r => .inl r
  refine ⟨DL.callee w ls H, ss, G, asV Qd L, fun x G' => Qx x G' L, rfl, c.callee, paired_map (noL_rs hn r) fun a b _ z => z.grow g (Pre.refl _) (Pre.refl _), h, fun v s H' G' c' rs k => ?_, fun ps j p ms H' G' c' hp k => ?_, fun cls d x H' G' c' xn k => ?_⟩
  · obtain ⟨cb, eb⟩ := c.back c'
    exact q v s H' G' L cb eb (RS.grow (g' H') (Pre.refl _) (Pre.nil _) rs) k
  · obtain ⟨m, x, hm, hx, k⟩ := k
    obtain ⟨cb, eb⟩ := c.back c'
    exact q _ (.d x) H' G' L cb eb (dat_rep c c' hp hm hx) k
  · obtain ⟨cb, eb⟩ := c.back c'
    exact qx cls d x H' G' cb eb (xn.grow (g' H')) k
theorem evc_callX {Ex : L2.St → XK} (h : EvA K ta Δ G L fun ss G1 L1 => noL ss = true ∧ F ss G1 (asV Qd L1) fun _ _ => False) : EvC K (tCallS (spDX K F) Ex ta) Δ G L Qd := fun w ls σ H c Q r => h w ls σ H c _ fun vs ss H2 G2 L2 c2 e2 r2 ⟨hn, k⟩ =>
  spX_call (Qx := fun _ _ _ => False) c2 r2 hn k (r.ext e2) fun _ _ _ _ _ _ _ _ z => z.elim
def EvX (K : PySem.W.Frag) (te : TE) (Wi : WX) (Δ : Sl) (G L : List M) (Qx : Exn → List M → List M → Prop) : Prop := ∀ w ls σ H, Ctx K w ls σ H Δ G L →
  (∀ cls d x H' G' L', Ctx K w ls σ H' Δ G' L' → Ext w ls H H' → ExnAt K H' (Rg w ls) cls d x → Qx x G' L' → Wi cls d σ H') → ∀ Q, te σ H Q
variable {Qx : Exn → List M → List M → Prop}
theorem evx_call (h : EvA K ta Δ G L fun ss G1 L1 => noL ss = true ∧ F ss G1 (fun _ _ => False) fun x G2 => Qx x G2 L1) : EvX K (tCallS (spDX K F) (WE Wi) ta) Wi Δ G L Qx := fun w ls σ H c qx Q => h w ls σ H c _ fun vs ss H2 G2 L2 c2 e2 r2 ⟨hn, k⟩ => by
  have h2 : F ss G2 (asV (fun _ _ _ => False) L2) fun x G' => Qx x G' L2 := by
    have e : asV (fun (_ : S) (_ _ : List M) => False) L2 = fun _ _ => False := by
      funext r G'
      cases r with
      | v s => rfl
      | new ms j =>
        refine propext ⟨fun ⟨_, _, _, _, z⟩ => z, fun z => z.elim⟩
    rw [e]
    exact k
  exact spX_call (Qd := fun _ _ _ => False) c2 r2 hn h2 (fun _ _ _ _ _ _ _ _ z => z.elim) fun cls d x H' G' c' e' xn q => qx cls d x H' G' L2 c' (e2.trans e') xn q
theorem stx_drop (h : EvX K te Wi Δ G L Qx) (hw : ∀ w ls H, E.wd w ls H → WishAt K w ls H Wi fun x Δ' G' L' => Δ' = Δ ∧ Qx x G' L') : StC K (tDrop te) Δ G L E := fun w ls σ H c D s =>
  h w ls σ H c (fun cls d x H' G' L' c' e' xn q => hw w ls H' (s.wd ls H' (e'.grow c.reg)) σ Δ G' L' cls d x c' xn ⟨rfl, q⟩) _
end
end
end DL
namespace DL
open PySem PySem.Spec PyProof.Rows L2
section
variable {K : PySem.W.Frag} {Δ : Sl} {G L : List M}
end
end DL

/-! defs whose last parameters have defaults (None all); calls that lean on them, and calls by keywords -/
namespace DL
open PySem PySem.Spec PyProof.Rows L2
section
variable {P : Program} {w : World} {K : PySem.W.Frag} {mg : Str → Option Value} {base : Heap}
end
section
variable {K : PySem.W.Frag} {Δ : Sl} {G L : List M} {Qd : Po} {ta tk : TA} {sp : DSpec} {E0' : XK}
end
end DL

/-! an own dict, its keys texts: {}, d[z], d[z] = x, d.get(z, x), sorted(d) -/
namespace DL
open PySem PySem.Spec PyProof.Rows L2
section
variable {K : PySem.W.Frag} {Δ : Sl} {G L : List M} {Qd : Po} {Qn : PoN} {te td ty tx : TE}
end
end DL

/-! sets of texts compared -/
namespace DSe
open PySem PySem.Spec PyProof.Rows L2 DSt
section
variable {P : Program} {w : World} {A : Around} {E : Value → Shared → Prop} {s : Shared} {a b : Addr} {S T : Str → Bool} {n m : Nat}
end
end DSe
namespace DL
open PySem PySem.Spec PyProof.Rows L2 DSo DSt DSe
section
variable {K : PySem.W.Frag} {Δ : Sl} {G L : List M} {Qd : Po} {t1 t2 : TE} {P : Program} {w0 : World}
end
end DL

/-! own dicts with text keys and any data as values: dict(list of pairs), z in d, z not in d, d.get(z, x) -/
namespace DL
open PySem PySem.Spec PyProof.Rows L2
section
variable {X : Cx}
end
def hX (p : Str × D) : Key × S := (.inr p.1, .d p.2)
section
variable {K : PySem.W.Frag} {Δ : Sl} {G L : List M} {Qd : Po} {Qn : PoN} {te td ty tx : TE}
/-! dict(list of pairs) -/
end
end DL

/-! set of a tuple of texts -/
namespace DSt
open PySem PySem.Spec PyProof.Rows L2
section
variable {P : Program} {w : World} {A : Around} {E : Value → Shared → Prop} {s : Shared}
end
end DSt
namespace DL
open PySem PySem.Spec PyProof.Rows L2 DSo DSt DSe
section
variable {K : PySem.W.Frag} {Δ : Sl} {G L : List M} {Qd : Po} {t1 t2 : TE} {P : Program} {w0 : World}
end
end DL

namespace DL
open PySem PySem.Spec PyProof.Rows L2
section
variable {K : PySem.W.Frag} {Δ : Sl} {G L : List M} {Qn : PoN} {wi : TI} {g : TG} {tt : TT} {te : TE} {vs : List Nat}
end
end DL

/-! zip(a, b, strict=True) of a list and a tuple of one length -/
namespace DZq
open PySem PySem.Spec PyProof.Rows L2
open PySem.Sem (wp)
open DZl (IsZipS stop_iter letGo_zipS pyIter_zipS cw_type_kw)
section
variable {prog : Program} {w : World} {A : Around} {E : Value → Shared → Prop} {s : Shared}
end
section
variable {prog : Program} {w : World} {A : Around} {E : Value → Shared → Prop} {s : Shared}
end
end DZq
namespace DL
open PySem PySem.Spec PyProof.Rows L2
end DL

namespace DL
open PySem PySem.Spec PyProof.Rows L2
end DL

/-! zip(a list, a tuple), over the library's GoesN.zip2 -/
namespace DZn
open PySem PySem.Spec PyProof.Rows L2
end DZn
namespace DL
open PySem PySem.Spec PyProof.Rows L2
end DL

/-! own classes: instances made, fields read and stored, methods called -/
namespace DL
open PySem PySem.Spec PyProof.Rows L2
section
variable {K : PySem.W.Frag}
section
variable {H : Hp} {R : Addr → Prop} {f : Str} {x : D} {v : V}
theorem RepF.look : ∀ {ds : List (Str × D)} {vs : List (Str × V)}, RepF K H R ds vs → ds.lookup f = some x → ∃ v, vs.lookup f = some v ∧ Rep K H R x v
  | [], _, _, l => by cases l
  | (g, y) :: ds, _, ⟨u, us, e, q, r⟩, l => by
    subst e
    rw [List.lookup_cons] at l ⊢
    cases e : f == g with
    | true =>
      rw [e] at l
      cases l
      exact ⟨u, rfl, q⟩
    | false =>
      rw [e] at l
      exact RepF.look r l
theorem RepF.len : ∀ {ds : List (Str × D)} {vs : List (Str × V)}, RepF K H R ds vs → vs.length = ds.length
  | [], _, e => by
    cases e
    rfl
  | _ :: _, _, ⟨u, us, e, _, r⟩ => by
    subst e
    exact congrArg (· + 1) (RepF.len r)
end
section
variable {Δ : Sl} {G L : List M} {Qd : Po} {Qn : PoN} {ta tv : TE} {t : TA} {sp : DSpec} {E0' : XK} {C : Addr} {f m : Str} {E : EndsD}
theorem Ctx.more {w : W} {ls : List Addr} {σ : L2.St} {H H' : Hp} (c : Ctx K w ls σ H Δ G L) (k : ∀ a o, H a = some o → H' a = some o) : Ctx K w ls σ H' Δ G L := by
  have g : Grow H H' (Rg w ls) (Rg w ls) := ⟨fun a o h _ => k a o h, fun _ _ _ h => h⟩
  exact ⟨c.reg, fun a r => let ⟨u, e, n⟩ := c.rin a r; ⟨u, k a u e, n⟩, c.nd, c.fr, fun a u e n => k a u (c.h0 a u e n), c.sl.grow g (Pre.refl _) (Pre.refl _),
    paired_map c.gl fun a m _ q => q.grow g (Pre.refl _) (Pre.refl _) (k a), paired_map c.lo fun a m _ q => q.grow g (Pre.refl _) (Pre.refl _) (k a), c.ld⟩
end
end
end DL

/-! a or b, of tuples -/
namespace DOr
open PySem PySem.Spec PyProof.Rows L2 DL
section
variable {K : PySem.W.Frag} {Δ : Sl} {G L : List M} {Qd : Po} {ta tb : TE}
end
end DOr

/-! sorted(a tuple of ints) -/
namespace DSq
open PySem PySem.Spec PyProof.Rows L2
section
variable {prog : Program} {w : World} {A : Around} {s : Shared} {E : Value → Shared → Prop}
end
section
open DL
variable {K : PySem.W.Frag} {Δ : Sl} {G L : List M} {Qn : PoN}
end
end DSq

/-! sorted(a list of pairs of ints) -/
namespace DSP
open PySem PySem.Spec PyProof.Rows L2 DL
section
variable {K : PySem.W.Frag} {Δ : Sl} {G L : List M} {Qn : PoN}
end
end DSP

/-! a, b, c = x, y, z -/
namespace DPr
open PySem PySem.Spec PyProof.Rows L2 DL
section
variable {K : PySem.W.Frag} {Δ : Sl} {G L : List M} {E : EndsD} {ta : TA}
end
end DPr

/-! d.get(x, y) of a dict of the top; a tuple of the top taken apart; a call of one of some defs that a name holds -/
namespace DFi
open PySem PySem.Spec PyProof.Rows L2 DL
section
variable {X : Cx} {o e f : Expr} {apos cpos : Pos} {td ty tx : TE}
end
section
variable {K : PySem.W.Frag} {Δ : Sl} {G L : List M} {Qd : Po} {td ty tx : TE}
end
end DFi

/-! a text times a whole number, to the letter -/
namespace DTx
open PySem PySem.Spec PyProof.Rows L2 DL
section
variable {K : PySem.W.Frag} {Δ : Sl} {G L : List M} {Qd : Po}
end
end DTx

/-! zip of three tuples, over the library's GoesN.zip3 -/
namespace DZ3
open PySem PySem.Spec PyProof.Rows L2
end DZ3
namespace DL
open PySem PySem.Spec PyProof.Rows L2
end DL

/-! min(a tuple of whole numbers, default=d) -/
namespace DL
open PySem PySem.Spec PyProof.Rows L2
section
variable {K : PySem.W.Frag} {Δ : Sl} {G L : List M} {Qd : Po}
end
end DL

/-! sorted(a list of rows of whole numbers, the first of them empty) -/
namespace DRw
open PySem PySem.Spec PySem.W PySem.SeqAt PySem.Calls PyProof.Rows
section
variable {prog : Program} {w : World} {A : Around} {E : Value → Shared → Prop} {s : Shared}
end
section
variable {prog : Program} {w : World} {A : Around} {E : Value → Shared → Prop} {s : Shared}
end
end DRw
namespace DRw
open PySem PySem.Spec PySem.W PyProof.Rows L2 DL
section
variable {K : PySem.W.Frag} {Δ : Sl} {G L : List M} {Qn : PoN}
end
/-! the order of rows: there is one sorted list -/
end DRw

namespace DL
open PySem PySem.Spec PyProof.Rows L2 DRw
/-! ### recursion of defs that show (with guards) -/
/-! ### rows of whole numbers compared -/
section
variable {K : PySem.W.Frag} {Δ : Sl} {G L : List M} {Qd : Po}
/-! ### bits -/
end
end DL

/-! what repr shows of a row of whole numbers is shown of no other thing -/
namespace DRi
open PySem PyProof.Rows TL L2 DL DRw
theorem all_map : ∀ ps : List PyData, PyData.shownAll ps = ps.map PyData.shown
  | [] => by rw [PyData.shownAll]; rfl
  | p :: ps => by rw [PyData.shownAll, all_map ps]; rfl
end DRi

/-! instances whose fields hold handles -/
namespace DL
open PySem PySem.Spec PyProof.Rows L2 DRw
section
variable {K : PySem.W.Frag}
section
variable {H : Hp} {R : Addr → Prop} {gs ls : List Addr} {f : Str}
end
section
variable {Δ : Sl} {G L : List M} {Qd : Po} {Qn : PoN} {ta tv : TE} {t : TA} {sp : DSpec} {E0' : XK} {C : Addr} {f m : Str} {E : EndsD}
/-! ### dicts with rows as keys -/
section
variable {H : Hp} {R : Addr → Prop} {gs ls : List Addr} {k : List Key}
end
end
end
end DL

/-! a class whose __init__ keeps its parameter and makes two empty dicts -/
namespace DL
open PySem PySem.Spec PyProof.Rows L2 DRw
section
variable {K : PySem.W.Frag}
section
variable {Δ : Sl} {G L : List M} {t : TA} {E0' : XK} {E : EndsD}
end
end
end DL

/-! max(xs, key=len), xs a list of tuples -/
namespace L2
open PySem PySem.Spec PyProof.Rows
section
variable {X : Cx}
end
end L2
namespace DL
open PySem PySem.Spec PyProof.Rows L2 DRw
section
variable {K : PySem.W.Frag} {Δ : Sl} {G L : List M} {Qd : Po}
end
end DL

/-! xs.insert(i, x), abs(i) -/
namespace DL
open PySem PySem.Spec PyProof.Rows L2 DRw
section
variable {K : PySem.W.Frag} {Δ : Sl} {G L : List M} {Qd : Po}
end
end DL

/-! own dicts whose keys are rows, their values whole numbers: stored, looked at, walked while locked, the least value -/
namespace DKd
open PySem PySem.Spec PyProof.Rows L2 DL DRw
section
variable {X : Cx} {o : Expr} {p pos apos mpos : Pos} {td : TE}
end
section
variable {K : PySem.W.Frag} {Δ : Sl} {G L : List M} {Qd : Po} {Qn : PoN}
end
end DKd

/-! own classes again: makes and methods that lean on defaults or are handed words by name, o.f op= e, len of an instance, len(range(..)) -/
namespace DSn
open PySem PySem.Spec PyProof.Rows L2
section
variable {X : Cx} {CX : CXT} {k n : Nat} {f C : Addr} {fd : FuncData} {ps ks : List Str} {sp : Sp} {E : XK} {m : Str} {apos pos : Pos} {o e : Expr} {es : List Expr} {kws : List Keyword} {ta : TE} {t tk : TA} {g : List Value → List Value → List Value} {gV : List V → List V → List V}
end
end DSn
namespace DL
open PySem PySem.Spec PyProof.Rows L2 DSn
section
variable {K : PySem.W.Frag} {Δ : Sl} {G L : List M} {Qd : Po} {Qn : PoN} {Qa : PoA} {ta tv : TE} {t tk : TA} {sp : DSpec} {E0' : XK} {C : Addr} {f m : Str} {E : EndsD} {n q : Nat}
end
end DL

/-! texts: int of a text of figures, split, index -/
namespace DTi
open PySem PySem.Spec PyProof.Rows L2
end DTi
namespace DL
open PySem PySem.Spec PyProof.Rows L2
section
variable {K : PySem.W.Frag} {Δ : Sl} {G L : List M} {Qd : Po} {Qn : PoN} {to te : TE}
end
end DL

/-! isinstance of an own class, min of three, int of several kinds -/
namespace DTj
open PySem PySem.Spec PyProof.Rows L2 DL
theorem kit_tyb {K : PySem.W.Frag} {C : Addr} {T : String} {b : Bool} (hm : PySem.W.kitMeta T = true) (h : PySem.W.subIn K (.ref C) (.type T) = some b) : PySem.W.kitOne K (.ref C) (.type T) = some b := by
  unfold PySem.W.kitOne
  rw [if_neg (by intro z; cases beq_iff_eq.mp z)]
  show (if PySem.W.kitMeta T = true then PySem.W.subIn K (.ref C) (.type T) else none) = _
  rw [if_pos hm]
  exact h
end DTj
namespace DL
open PySem PySem.Spec PyProof.Rows L2
section
variable {K : PySem.W.Frag} {Δ : Sl} {G L : List M} {Qd : Po} {Qn : PoN} {to te : TE}
end
end DL

/-! own classes: str, repr, ==, != by their own methods; f-strings; divmod -/
namespace DOw
open PySem PySem.Spec PyProof.Rows L2 DL
section
variable {X : Cx} {CX : CXT} {k : Nat} {C f : Addr} {fd : FuncData} {ps : List Str} {sp : Sp} {E : XK}
section
variable {prog : Program} {w : World} {A : Around} {E : Value → Shared → Prop} {s : Shared} {K : PySem.W.Frag} {x C f : Addr} {ox : Obj} {od : Option Obj} {L : Addr} {m : Str → Option Value} {h₀ : Heap}
end
end
end DOw
namespace DL
open PySem PySem.Spec PyProof.Rows L2 DOw
section
variable {K : PySem.W.Frag} {Δ : Sl} {G L : List M} {Qd : Po} {to te : TE} {C : Addr} {fs gs : List (Str × D)} {sp : DSpec} {E0' : XK}
end
end DL

/-! int(text, 12), int(text, 14); a text cut at its first colon -/
namespace DIb
open PySem PySem.Spec PyProof.Rows PySem.NumText PySem.Calls L2
section
variable {b : Nat} (hb : b = 12 ∨ b = 14)
include hb
end
end DIb

/-! try: .. except C: .. without a name; a text cut at its first sep; int(text, base) -/
namespace DL
open PySem PySem.Spec PyProof.Rows L2
section
variable {K : PySem.W.Frag} {Δ : Sl} {G L : List M} {E : EndsD} {Qd : Po}
end
end DL

/-! == between an instance with its own __eq__ and a thing of any kind -/
namespace DEq
open PySem PySem.Spec PyProof.Rows L2 DL
open PySem.SeqAt
open AutoSeq1 (wpAny_loadPart')
open MeetsSeq MeetsSeq2 MeetsSeq3 SeqRoads2
/-! ### a built-in's own == of an instance: no answer -/
section
variable {prog : Program} {w : World} {A : Around} {E : Value → Shared → Prop} {s : Shared} {R : Result → Shared → Prop}
end
/-! ### the reflected call -/
section
variable {prog : Program} {w : World} {A : Around} {E : Value → Shared → Prop} {s : Shared} {K : PySem.W.Frag} {x C L f : Addr} {h₀ : Heap} {m : Str → Option Value} {ox : Obj} {od : Option Obj}
end
/-! ### a thing that is no instance -/
section
variable {X : Cx} {pins : List (Addr × Obj)} {σ : L2.St} {H : Hp} {s : Shared} {y : V} {u : Value} {C x dx : Addr} {fs : List (Str × V)}
end
/-! ### == below a body -/
def RcR (X : Cx) (n : Nat) (r : R2) : Prop :=
  ∀ (A : Around) (pins : List (Addr × Obj)) (s : Shared) (σ : L2.St) (H : Hp) (x y : V) (u v : Value) (Q : VK), L2.Sub X n A → Inv X pins σ H s → RelV x u → RelV y v → r x y H Q →
    wpAny (model X.prog X.w) A (richCompare .Eq u v) (EP X pins σ Q) X.xe s
section
variable {X : Cx} {CX : CXT} {k n m : Nat} {C f : Addr} {fd : FuncData} {ps : List Str} {sp : Sp} {E : XK} {r r' : R2}
theorem RcR.mono (h : RcR X n r) (hn : n ≤ m) : RcR X m r := fun A pins s σ H x y u v Q sb => h A pins s σ H x y u v Q (sb.mono hn)
theorem RcR.or (h : RcR X n r) (h' : RcR X n r') : RcR X n (fun x y H Q => r x y H Q ∨ r' x y H Q) := fun A pins s σ H x y u v Q sb I rx ry d =>
  d.elim (h A pins s σ H x y u v Q sb I rx ry) (h' A pins s σ H x y u v Q sb I rx ry)
end
/-! ### membership, item by item -/
section
variable {prog : Program} {w : World} {A : Around} {R : Result → Shared → Prop}
end
def NF : V → Prop
  | .flt _ => False
  | _ => True
def EqB (r : R2) (x y : V) (H : Hp) (Qb : Bool → Hp → Prop) : Prop := r x y H (fun v H' => ∃ z : Bool, v = .bl z ∧ Qb z H') ∧ (x = y → Qb true H) ∧ NF x
section
variable {X : Cx} {n : Nat} {r : R2}
theorem RcR.eb (h : RcR X n r) {A : Around} {pins : List (Addr × Obj)} {s : Shared} {σ : L2.St} {H : Hp} {x y : V} {u v : Value} {Qb : Bool → Hp → Prop} (sb : L2.Sub X n A) (I : Inv X pins σ H s) (rx : RelV x u) (ry : RelV y v) (d : EqB r x y H Qb) :
    wpAny (model X.prog X.w) A (eqBool u v) (fun b s' => ∃ H', Inv X pins σ H' s' ∧ Qb b H') X.xe s := by
  unfold eqBool
  refine wpAny_holding ?_
  refine wpAny_ite_split (fun hab => ?_) (fun _ => ?_)
  · have e := eq_of_beq hab
    subst e
    refine wpAny_bind (wpAny_rule (wpAny_pure ?_))
    exact ⟨H, I, d.2.1 (rx.inj ry)⟩
  · have go : wpAny (model X.prog X.w) A (richCompare .Eq u v >>= fun w => truthOfDropped w) (fun b s' => ∃ H', Inv X pins σ H' s' ∧ Qb b H') X.xe s := by
      refine wpAny_bind (wpAny_mono (h A pins s σ H x y u v _ sb I rx ry d.1) (fun w s' q => ?_) fun _ _ x => x)
      obtain ⟨v', H', I', rv, z, rfl, q⟩ := q
      obtain rfl : w = Value.bool z := rv
      exact wpAny_truthy_bool ⟨H', I', q⟩
    have nf := d.2.2
    dsimp only
    split
    · rename_i b1 t1 b2 t2 e
      have eu : u = Value.float b1 t1 := congrArg Prod.fst e
      subst eu
      cases x with
      | flt b => exact nf.elim
      | _ => first | (obtain ⟨_, e⟩ := rx; cases e) | cases rx
    · exact go
end
/-! ### == of two tuples, item by item -/
section
variable {prog : Program} {w : World} {A : Around} {R : Result → Shared → Prop}
end
abbrev EbT := V → V → Hp → (Bool → Hp → Prop) → Prop
def EbR (X : Cx) (n : Nat) (d : EbT) : Prop := ∀ (A : Around) (pins : List (Addr × Obj)) (s : Shared) (σ : L2.St) (H : Hp) (x y : V) (u v : Value) (Qb : Bool → Hp → Prop), L2.Sub X n A → Inv X pins σ H s → RelV x u → RelV y v → d x y H Qb →
  wpAny (model X.prog X.w) A (eqBool u v) (fun b s' => ∃ H', Inv X pins σ H' s' ∧ Qb b H') X.xe s
section
variable {X : Cx} {n m : Nat} {r : R2} {d d' : EbT}
theorem EbR.mono (h : EbR X n d) (hn : n ≤ m) : EbR X m d := fun A pins s σ H x y u v Q sb => h A pins s σ H x y u v Q (sb.mono hn)
theorem EbR.or (h : EbR X n d) (h' : EbR X n d') : EbR X n (fun x y H Q => d x y H Q ∨ d' x y H Q) := fun A pins s σ H x y u v Q sb I rx ry e =>
  e.elim (h A pins s σ H x y u v Q sb I rx ry) (h' A pins s σ H x y u v Q sb I rx ry)
end
end DEq
namespace DEq
open PySem PySem.Spec PyProof.Rows L2 DL
section
variable {X : Cx} {CX CX2 : CXT} {k k2 n : Nat} {C C2 f f2 : Addr} {fd fd2 : FuncData} {ps ps2 : List Str} {sp sp2 : Sp} {E E2 : XK}
end
end DEq
namespace DL
open PySem PySem.Spec PyProof.Rows L2 DEq
section
variable {K : PySem.W.Frag} {Δ : Sl} {G L : List M} {Qd : Po} {C C2 : Addr} {fs gs : List (Str × D)} {sp sp2 : DSpec} {E0' E1' : XK} {w : W} {ls : List Addr} {σ : L2.St} {H : Hp}
end
end DL
namespace DEq
open PySem PySem.Spec PyProof.Rows L2 DL
end DEq
namespace DL
open PySem PySem.Spec PyProof.Rows L2 DEq
section
variable {K : PySem.W.Frag} {Δ : Sl} {G L : List M} {Qd : Po} {C C2 : Addr} {fs : List (Str × D)}
end
end DL

/-! f-strings with instances: {x}, {x!r} by their own __str__, __repr__ -/
namespace DFm
open PySem PySem.Spec PyProof.Rows L2 DL
section
variable {prog : Program} {w : World} {A : Around} {E : Value → Shared → Prop} {s : Shared} {K : PySem.W.Frag} {x C f : Addr} {ox : Obj} {od : Option Obj}
end
section
variable {X : Cx} {CX : CXT} {k : Nat} {C f : Addr} {fd : FuncData} {ps : List Str} {sp : Sp} {E : XK} {e : Expr} {te : TE} {pos : Pos}
end
end DFm
namespace DL
open PySem PySem.Spec PyProof.Rows L2
section
variable {K : PySem.W.Frag} {Δ : Sl} {G L : List M} {Qd : Po} {te : TE} {C : Addr} {sp : DSpec} {E0' : XK}
end
section
variable {K : PySem.W.Frag} {Δ : Sl} {G L : List M} {Qn : PoN} {te : TE}
end
end DL

/-! bool of an own instance (by its __len__), len(range(n)) -/
namespace DBl
open PySem PySem.Spec PyProof.Rows L2 PySem.W
section
variable {prog : Program} {w : World} {A : Around} {E : Value → Shared → Prop} {s : Shared} {K : Frag} {x C L f : Addr} {h₀ : Heap} {m : Str → Option Value} {ox : Obj} {od : Option Obj}
end
end DBl
namespace DL
open PySem PySem.Spec PyProof.Rows L2 DSn DBl
section
variable {K : PySem.W.Frag} {Δ : Sl} {G L : List M} {Qd : Po} {t : TA} {C : Addr} {sp : DSpec} {E0' : XK}
end
end DL

/-! own exception classes over any built-in class of exceptions: made by their own __init__ (any fields) -/
namespace DXg
open PySem PySem.Spec PyProof.Rows L2
structure BaseX (B newId initId : String) (bmB : List Value) : Prop where
  eb : ExcBaseFacts B newId initId bmB
  sf : StoreFacts B bmB "object.__setattr__" "object"
structure OexB (K : PySem.W.Frag) (C : Addr) (newId : String) (bmB : List Value) : Prop where
  cls : ∃ nm q N bs bm sn sub ab col dd k0 k1 k2 k3 k5, K.lookup C = some (excClassObj nm q C N bs bm true sn sub ab col dd k0 k1 k2 k3 k5 newId) ∧ PySem.W.excTail bmB bm = true
  sa : PySem.W.findIn K (.ref C) "__setattr__" = some (some (.builtin "object.__setattr__"))
  exC : PySem.W.subIn K (.ref C) (.type "BaseException") = some true
  tyC : PySem.W.typeIn K (.ref C) = some (.type "type")
  kC : PySem.W.keepIn K (.ref C) = true
section
variable {K : PySem.W.Frag} {C : Addr} {newId : String} {bmB : List Value}
theorem OexB.over (T : OexB K C newId bmB) : PySem.W.excOver K C bmB = true := by
  obtain ⟨nm, q, N, bs, bm, sn, sub, ab, col, dd, k0, k1, k2, k3, k5, hl, ht⟩ := T.cls
  unfold PySem.W.excOver PySem.W.clsIn
  rw [hl]
  show (C == C && PySem.W.excTail bmB bm) = true
  rw [ht, beq_self_eq_true]
  rfl
theorem OexB.cd (T : OexB K C newId bmB) : ∃ cd : ClassData, PySem.W.clsIn K C = some cd ∧ cd.hasDict = true := by
  obtain ⟨nm, q, N, bs, bm, sn, sub, ab, col, dd, k0, k1, k2, k3, k5, hl, ht⟩ := T.cls
  exact ⟨{ name := nm, bases := bs, mro := .ref C :: bm, ns := N, qualname := q, hasDict := true, slotNames := sn, subclasses := sub, abstract := ab, collection := col, hasDel := false }, by
    unfold PySem.W.clsIn
    rw [hl] <;> rfl, rfl⟩
theorem taker_no {f : Str} (h : PySem.W.findIn K (.ref C) f = some none) : PySem.W.takerIn K C f = some none := by
  unfold PySem.W.takerIn
  rw [h]
  rfl
end
section
open Builtin Builtin.ObjectAttr
variable {prog : Program} {w : World} {A : Around} {R : Result → Shared → Prop} {hp : Heap} {g : Array GenState} {d : Drawn} {t : Nat} {os : OsState} {K : W.Frag} {x C : Addr} {fv : Array Value} {newId B : String} {bmB : List Value} {f : Str} {tk : Tok} {v : Value}
theorem osaB_new (SF : StoreFacts B bmB "object.__setattr__" "object") (T : OexB K C newId bmB) (X : K.In hp) (hx : hp.get? x = some { cls := .ref C, data := .fields fv }) (hno : W.findIn K (.ref C) f = some none)
    (hq : ∀ h' tk' dx, (∀ b o, b ≠ x → hp.get? b = some o → h'.get? b = some o) → hp.objs.size ≤ dx → dx ≠ x → h'.get? x = some { cls := .ref C, dict := some dx, data := .fields fv } → h'.Ns1 dx (fun y => if y = f then some v else none) → R (.ok (.ret .none)) ⟨h', g, d, tk', os⟩) :
    codeAny (model prog w) A (.call (.builtin "object.__setattr__") ⟨[.ref x, .str f tk, v], []⟩) R ⟨hp, g, d, t, os⟩ := by
  obtain ⟨cd, hcd, hdict⟩ := T.cd
  have hne : x ≠ hp.objs.size := Nat.ne_of_lt (Heap.lt_size hx)
  have hi : W.InstAt hp x { cls := .ref C, data := .fields fv } C none := ⟨hx, rfl, rfl, trivial⟩
  refine W.osa_openX SF X hi T.over (taker_no hno) fun b => ?_
  have hcl : W.Looks (model prog w) hp (classData C) cd := W.looks_clsIn X hcd
  show wpAny _ _ (storeInOwnDict (.ref x) (.ref C) (.str f tk) f v b) _ _ _
  obtain ⟨c1, c2, c3, c4, c5, hd, c7, c8, c9, c10, c11⟩ := cd
  have hdict : hd = true := hdict
  subst hdict
  unfold storeInOwnDict ownDictForStores
  repeat (first | with_reducible refine HandSPX.store_in_new ?_ ?_ | with_reducible refine wpAny_loadPart_at hx ?_ | with_reducible refine hcl.at ?_ | wp_step)
  · exact ⟨_, #[], _, (Heap.get?_update_ne _ _ _ _ hne.symm).trans (Heap.get?_push_at rfl rfl), rfl, fun e he => absurd he (by simp), fun _ => rfl⟩
  · intro h2 tk2 hn2 hs2
    have hx2 : (hp.push { cls := .type "dict", data := .dict #[] }).get? x = some { cls := .ref C, data := .fields fv } := Heap.get?_push_of_some _ hx
    refine hq h2 tk2 hp.objs.size (fun c o hc ho => ?_) (Nat.le_refl _) hne.symm ((hs2.2 x hne).trans (Heap.get?_update_self _ hx2 rfl)) hn2
    exact (hs2.2 c (Nat.ne_of_lt (Heap.lt_size ho))).trans ((Heap.get?_update_ne _ _ _ _ hc).trans (Heap.get?_push_of_some _ ho))
theorem osaB_old {dx : Addr} {m0 : Str → Option Value} {nl : List Str} (SF : StoreFacts B bmB "object.__setattr__" "object") (T : OexB K C newId bmB) (X : K.In hp) (hx : hp.get? x = some { cls := .ref C, dict := some dx, data := .fields fv }) (hns : hp.Ns1 dx m0) (hw : Within m0 nl) (hz : nl.length ≤ 1000)
    (hno : W.findIn K (.ref C) f = some none) (hq : ∀ h' tk', (∀ b o, b ≠ dx → hp.get? b = some o → h'.get? b = some o) → h'.Ns1 dx (fun y => if y = f then some v else m0 y) → R (.ok (.ret .none)) ⟨h', g, d, tk', os⟩) :
    codeAny (model prog w) A (.call (.builtin "object.__setattr__") ⟨[.ref x, .str f tk, v], []⟩) R ⟨hp, g, d, t, os⟩ := by
  obtain ⟨cd, hcd, hdict⟩ := T.cd
  obtain ⟨oD, _, _, hoD, hdD, _⟩ := hns.count hw
  have hi : W.InstAt hp x { cls := .ref C, dict := some dx, data := .fields fv } C (some oD) := ⟨hx, rfl, rfl, hoD⟩
  refine W.osa_openX SF X hi T.over (taker_no hno) fun b => ?_
  have hcl : W.Looks (model prog w) hp (classData C) cd := W.looks_clsIn X hcd
  show wpAny _ _ (storeInOwnDict (.ref x) (.ref C) (.str f tk) f v b) _ _ _
  obtain ⟨c1, c2, c3, c4, c5, hd, c7, c8, c9, c10, c11⟩ := cd
  have hdict : hd = true := hdict
  subst hdict
  unfold storeInOwnDict ownDictForStores
  repeat (first | with_reducible refine PySem.OEX.store_in_old hns hw hz ?_ | with_reducible refine wpAny_loadPart_at hx ?_ | with_reducible refine hcl.at ?_ | wp_step)
  intro h2 tk2 hn2 hs2
  exact hq h2 tk2 (fun c o hc ho => (hs2.2 c hc).trans ho) hn2
end
section
variable {X : Cx} {pins : List (Addr × Obj)} {σ : L2.St} {H : Hp} {s : Shared} {a C dx : Addr} {f : Str} {y : V} {u : Value} {fs : List (Str × V)} {Q : Unit → Shared → Prop} {E : Value → Shared → Prop} {A : Around} {B newId initId : String} {bmB : List Value}
theorem ostB_new (BF : BaseX B newId initId bmB) (T : OexB X.K C newId bmB) (I : Inv X pins σ H s) (e : H a = some (exo a C none)) (hno : PySem.W.findIn X.K (.ref C) f = some none) (ry : RelV y u)
    (h : ∀ dx s', H dx = none → dx ≠ a → Inv X pins σ (upd (upd H dx (exd dx [(f, y)])) a (exo a C (some dx))) s' → Q () s') : wpAny (model X.prog X.w) A (setAttr (.ref a) f u) Q E s := by
  obtain ⟨t1, ho⟩ := exo_at I.hok e
  obtain ⟨hp, g, d, t, os⟩ := s
  refine PySem.W.set_plain I.kIn (ox := { cls := .ref C, dict := none, data := .fields #[.ref t1, .none, .none, .none, .bool false, .none] }) (od := none) ⟨ho, rfl, rfl, trivial⟩ T.sa (osaB_new BF.sf T I.kIn ho hno fun h2 tk2 dx kp dn dne hx hn => ?_)
  have hnd : H dx = none := I.hok.fresh dn
  have far : ∀ {c : Addr} {o : Obj}, hp.get? c = some o → c ≠ dx := fun {c o} q => Nat.ne_of_lt (Nat.lt_of_lt_of_le (Heap.lt_size q) dn)
  have off : ∀ {c : Addr}, H c = none → c ≠ a := fun {c} n z => by
    rw [z, e] at n
    cases n
  have U : Un X.fs [] H (upd (upd H dx (exd dx [(f, y)])) a (exo a C (some dx))) hp h2 := by
    refine ⟨fun c o q n _ _ => kp c o (off n) q, fun c o q n _ _ => ⟨o.slots, kp c o (off n) q⟩, fun c o q n _ => by rw [upd_ne (off n), upd_ne (far q)]; exact n, fun c o q _ => ?_, fun c xs q => ?_, fun c o v q => ?_, fun c ps q => ⟨#[], ?_⟩⟩
    · by_cases hc : c = a
      · exact ⟨_, by rw [hc]; exact hx⟩
      · exact ⟨o, kp c o hc q⟩
    · rw [upd_ne (at_ne e q exo_tup), upd_ne (ne_of_none q hnd)]
      exact q
    · rw [upd_ne (at_ne e q exo_frz), upd_ne (ne_of_none q hnd)]
      exact q
    · rw [upd_ne (at_ne e q exo_tbl), upd_ne (ne_of_none q hnd), q]
      simp
  refine h dx _ hnd dne (I.un (t' := tk2) U fun c o q => ?_)
  by_cases hc : c = a
  · subst hc
    rw [upd_same] at q
    cases q
    exact exo_ok hx
  rw [upd_ne hc] at q
  by_cases hd : c = dx
  · subst hd
    rw [upd_same] at q
    cases q
    exact exd_ok hn (relO_put (fs := []) ry fun _ => True.intro)
  rw [upd_ne hd] at q
  refine (I.hok c o q).stay (fun b v hb z => kp b v ?_ z) (fun b hb => ?_) fun b xs hb => ?_
  · rcases hb with hb | hb
    · rw [hb]
      exact hc
    · exact at_ne e hb exo_own
  · rw [upd_ne (at_ne e hb exo_own), upd_ne (ne_of_none hb hnd)]
    exact hb
  · rw [upd_ne (at_ne e hb exo_tup), upd_ne (ne_of_none hb hnd)]
    exact hb
theorem ostB_old (BF : BaseX B newId initId bmB) (T : OexB X.K C newId bmB) (I : Inv X pins σ H s) (e : H a = some (exo a C (some dx))) (ed : H dx = some (exd dx fs)) (hl : fs.length ≤ 900) (hno : PySem.W.findIn X.K (.ref C) f = some none) (ry : RelV y u)
    (h : ∀ s', Inv X pins σ (upd H dx (exd dx ((f, y) :: fs))) s' → Q () s') : wpAny (model X.prog X.w) A (setAttr (.ref a) f u) Q E s := by
  obtain ⟨t1, ho⟩ := exo_at I.hok e
  obtain ⟨mA, hns, rel⟩ := exd_at I.hok ed
  have hw := within_of rel
  obtain ⟨hp, g, d, t, os⟩ := s
  obtain ⟨oD, _, _, hoD, _⟩ := hns.count hw
  refine PySem.W.set_plain I.kIn (ox := { cls := .ref C, dict := some dx, data := .fields #[.ref t1, .none, .none, .none, .bool false, .none] }) (od := some oD) ⟨ho, rfl, rfl, hoD⟩ T.sa (osaB_old BF.sf T I.kIn ho hns hw (by rw [List.length_map]; omega) hno fun h2 tk2 kp hn => ?_)
  refine h _ (I.write (t' := tk2) (x := dx) (e := dx) (o := exd dx ((f, y) :: fs)) (by rw [ed]; exact True.intro) (.inl rfl) kp ?_ (exd_ok hn (relO_put ry rel)))
  obtain ⟨o, _, _, e', _⟩ := hn
  exact ⟨o, e'⟩
theorem oinitB {us : List Value} {Q : Value → Shared → Prop} (BF : BaseX B newId initId bmB) (T : OexB X.K C newId bmB) (I : Inv X pins σ H s) (e : H a = some (exo a C none)) (hl : us.length ≤ sizeLine) (h : ∀ s', Inv X pins σ H s' → Q .none s') :
    wpAny (model X.prog X.w) A (call (.builtin initId) (.ref a :: us)) Q E s := by
  obtain ⟨nm, q, N, bs, bm, sn, sub, ab, col, dd, k0, k1, k2, k3, k5, hlk, ht⟩ := T.cls
  obtain ⟨t1, ho⟩ := exo_at I.hok e
  obtain ⟨hp, g, d, t, os⟩ := s
  refine wpAny_call (PySem.HandSPX.init_base BF.eb (fun Y => PySem.W.excTail_contains Y bm ht) (I.kIn _ _ hlk) ho hl fun h2 t2 kp hx => ?_)
  have J := I.write (t' := t) (x := a) (e := a) (o := exo a C none) (by rw [e]; exact True.intro) (.inl rfl) kp ⟨_, hx⟩ (exo_ok hx)
  have same : upd H a (exo a C none) = H := by
    funext c
    by_cases hc : c = a
    · rw [hc, upd_same, e]
    · rw [upd_ne hc]
  rw [same] at J
  exact h _ J
end
def tBeI (K : PySem.W.Frag) (newId : String) (bmB : List Value) (ta : TA) : TE := fun σ H Q => ta σ H fun vs H1 => ∃ (a C : Addr) (ws : List V), vs = .ref a :: ws ∧ ws.length ≤ 1000 ∧ OexB K C newId bmB ∧ H1 a = some (exo a C none) ∧ Q .non H1
def tOstB (K : PySem.W.Frag) (newId : String) (bmB : List Value) (f : Str) (to te : TE) : TS := fun D σ H => te σ H fun y H1 => to σ H1 fun x H2 => ∃ a C : Addr, x = .ref a ∧ OexB K C newId bmB ∧ PySem.W.findIn K (.ref C) f = some none ∧
  ((H2 a = some (exo a C none) ∧ ∀ dx, H2 dx = none → dx ≠ a → D.nx σ (upd (upd H2 dx (exd dx [(f, y)])) a (exo a C (some dx)))) ∨
    ∃ (dx : Addr) (fs : List (Str × V)), H2 a = some (exo a C (some dx)) ∧ H2 dx = some (exd dx fs) ∧ fs.length ≤ 900 ∧ D.nx σ (upd H2 dx (exd dx ((f, y) :: fs))))
section
variable {X : Cx} {o e : Expr} {es : List Expr} {to te : TE} {ta : TA} {f : Str} {p p' p1 p2 pos : Pos} {B newId initId : String} {bmB : List Value} {bn : Str}
theorem pe_beinit {pl : Sem Bool} (BF : BaseX B newId initId bmB) (hg : Gl X bn) (hm : X.mg bn = none) (boot : bootBuiltins bn = some (.type B)) (ty : typeOf (.type B) = pure (.type "type")) (stub : Manifest.isStub B = false) (hh : PySem.W.handedIn (.builtin initId) = true)
    (vV : PySem.W.findCls X.K (.type B) (.type "type") "__init__" = some (.val (.builtin initId))) (m1 : bn ≠ "__name__") (m2 : (bn == ("__debug__" : Str)) = false) (ha : PA X (e :: es) ta)
    (hc : eval (.Call (.Attribute (.Name bn p1) "__init__" p2) (e :: es) [] pos) X.env = (do
      let cv ← eval (.Name bn p1) X.env
      standAt p2.atName
      let (fv, lead) ← holding [cv] (getMethod cv "__init__" pl)
      callWith pos fv lead (backTo pos (starEach (e :: es) X.env)) (backToKw pos (keywordEach [] X.env))) := by rfl)
    (he : starEach (e :: es) X.env = (false, eval e X.env) :: starEach es X.env := by rfl) (hpl : (backTo pos (starEach es X.env)).any (·.1) = false := by rfl) :
    PE X (.Call (.Attribute (.Name bn p1) "__init__" p2) (e :: es) [] pos) (tBeI X.K newId bmB ta) := by
  refine ⟨fun pins s σ H Q I h => ?_⟩
  refine PySem.W.methodCall_KW (ld_blt I hg hm boot ?_ m1 m2) hc
  obtain ⟨_, fr⟩ := I.fr
  refine PySem.W.method_type fr I.ok.mod.kin ty stub vV hh ?_
  show wpAny _ _ (callWith pos (Value.builtin initId) [] (backTo pos (starEach (e :: es) X.env)) []) _ _ _
  refine PyProof.Rows.callWith_method1 (thn (ha.run pos pins _ σ H _ (I.tok _) h) fun us s1 ⟨vs, H1, I1, r1, a, C, ws, ev, hz, T, ea, q⟩ => ?_) he hpl
  subst ev
  match us, r1 with
  | u0 :: ur, .cons ra rr =>
    obtain rfl : u0 = Value.ref a := ra
    have hlen : ur.length ≤ sizeLine := by
      rw [← Paired.length rr, sizeLine_eq]
      omega
    exact oinitB BF T I1 ea hlen fun s2 J => ⟨.non, H1, J, rfl, q⟩
theorem ps_ostB (BF : BaseX B newId initId bmB) (ho : PE X o to) (he : PE X e te) (hs : swapsWith e (some (.Attribute o f p')) pos.line X.env = pure false := by rfl) : PS X (.Assign [.Attribute o f p'] e pos) (tOstB X.K newId bmB f to te) := by
  refine ⟨fun pins s σ H D I h => plainObj_wpAny_Assign_Attribute (thn (he.run pins s σ H _ I h) fun v s1 ⟨y, H1, I1, r1, q1⟩ => thn (ho.run pins s1 σ H1 _ I1 q1) fun u s2 ⟨x, H2, I2, r2, a, C, ex, T, hno, q⟩ => ?_) hs⟩
  subst ex
  obtain rfl : u = Value.ref a := r2
  rcases q with ⟨ea, q⟩ | ⟨dx, fs, ea, ed, hl, q⟩
  · exact ostB_new BF T I2 ea hno r1 fun dx s3 n ne J => ⟨σ, _, J, q dx n ne⟩
  · exact ostB_old BF T I2 ea ed hl hno r1 fun s3 J => ⟨σ, _, J, q⟩
end
end DXg

/-! several except clauses, each with a name or without; the caught exception is an object that stays known -/
namespace DTm
open PySem PySem.Spec PyProof.Rows L2
open DL (exk)
section
variable {X : Cx} {pins : List (Addr × Obj)} {σ : L2.St} {H : Hp} {s : Shared}
theorem exk_ok {P : Program} {w : World} {H : Hp} {h : Heap} {a C : Addr} {d : Option Addr} {oe : Obj} {vs : Array Value} (e : h.get? a = some oe) (hc : oe.cls = .ref C) (hd : oe.dict = d) (hv : oe.data = .fields vs) : ObjOk P w H h a (exk a C d) :=
  ⟨⟨oe, vs, e, hc, hd, hv⟩, ⟨oe, e⟩, fun h1 h2 z k => by
    obtain ⟨o, ws, e1, r⟩ := z
    exact ⟨o, ws, k _ e1, r⟩⟩
theorem exk_at {P : Program} {w : World} {H : Hp} {h : Heap} {a C : Addr} {d : Option Addr} (hok : HOk P w H h) (e : H a = some (exk a C d)) : ∃ (oe : Obj) (vs : Array Value), h.get? a = some oe ∧ oe.cls = .ref C ∧ oe.dict = d ∧ oe.data = .fields vs := by
  have x : ObjOk P w H h a (.ext fun h => ∃ (oe : Obj) (vs : Array Value), h.get? a = some oe ∧ oe.cls = .ref C ∧ oe.dict = d ∧ oe.data = .fields vs) := hok a _ e
  exact x.1
theorem track (I : Inv X pins σ H s) {a C : Addr} {d : Option Addr} {oe : Obj} {vs : Array Value} (e : s.heap.get? a = some oe) (hc : oe.cls = .ref C) (hd : oe.dict = d) (hv : oe.data = .fields vs) (na : H a = none) (nL : a ≠ X.env.locals) (nC : ∀ y c, X.env.cells.lookup y = some c → a ≠ c)
    (new : ∀ o, X.s_0.heap.get? a = some o → a ∈ X.ex) (np : ∀ p ∈ X.pn ++ pins, p.1 ≠ a) : Inv X pins σ (upd H a (exk a C d)) s := by
  refine ⟨I.ok, I.os, I.bare, ⟨I.base.keep, I.base.slot, fun b o hb n hx => ?_, I.base.there, fun b xs q => ?_, fun b o u q => ?_, fun b ps q => ?_⟩, I.loc, I.cell, ?_, fun y c hy => ?_, fun p hp => ?_, fun b o q => ?_, I.len⟩
  · rw [upd_ne (fun z => hx (by subst z; exact new o hb))]
    exact I.base.free b o hb n hx
  · rw [upd_ne (ne_of_none (I.base.tups b xs q) na)]
    exact I.base.tups b xs q
  · rw [upd_ne (ne_of_none (I.base.frzs b o u q) na)]
    exact I.base.frzs b o u q
  · obtain ⟨more, q2⟩ := I.base.tbls b ps q
    exact ⟨more, by rw [upd_ne (ne_of_none q2 na)]; exact q2⟩
  · rw [upd_ne (Ne.symm nL)]
    exact I.free
  · rw [upd_ne (Ne.symm (nC y c hy))]
    exact I.freeC y c hy
  · obtain ⟨e1, n1, r⟩ := I.pin p hp
    exact ⟨e1, by rw [upd_ne (np p hp)]; exact n1, r⟩
  · by_cases hb : b = a
    · subst hb
      rw [upd_same] at q
      cases q
      exact exk_ok e hc hd hv
    rw [upd_ne hb] at q
    exact (I.hok b o q).stay (fun c v _ z => z) (fun c hc => by rw [upd_ne (ne_of_none hc na)]; exact hc) fun c xs hc => by rw [upd_ne (ne_of_none hc na)]; exact hc
abbrev suiteT (X : Cx) (a : Addr) (pn : List (Addr × Obj)) : Cx := X.suite a pn
theorem toSuiteT (I : Inv X pins σ H s) {a : Addr} : Inv (suiteT X a (X.pn ++ pins)) [] σ H s :=
  ⟨I.ok.suite _ _, I.os, I.bare, I.base, I.loc, I.cell, I.free, I.freeC, fun p hp => I.pin p (by rw [List.append_nil] at hp; exact hp), I.hok, I.len⟩
theorem ofSuiteT {pn' : List (Addr × Obj)} {a : Addr} (I : Inv (suiteT X a (X.pn ++ pins)) pn' σ H s) (ok : X.Ok) : Inv X pins σ H s :=
  ⟨ok, I.os, I.bare, I.base, I.loc, I.cell, I.free, I.freeC, fun p hp => I.pin p (List.mem_append_left _ hp), I.hok, I.len⟩
end
abbrev Cl := Value × Option Nat × TS
def unset (i : Nat) (D : Ends) : Ends := { nx := fun σ1 H1 => D.nx (σ1.set i none) H1, rt := D.rt, bk := fun σ1 H1 => D.bk (σ1.set i none) H1, ct := fun σ1 H1 => D.ct (σ1.set i none) H1 }
def wCl (a : Addr) (D : Ends) (σ : L2.St) (H : Hp) : Option Nat → TS → Prop
  | none, ts => ts D σ H
  | some i, ts => ts (unset i D) (σ.set i (some (.ref a))) H
def wAll (K : PySem.W.Frag) (Wout : WX) (D : Ends) : List Cl → WX
  | [] => Wout
  | p :: r => fun cls d σ H => ∃ b, PySem.W.exmOne K cls p.1 = some b ∧ (b = true → ∃ C, cls = .ref C ∧ ∀ a, H a = none → wCl a D σ (upd H a (exk a C d)) p.2.1 p.2.2) ∧ (b = false → wAll K Wout D r cls d σ H)
def NmOk (X : Cx) : Option Str → Option Nat → Prop
  | none, none => True
  | some n, some i => X.N.Nodup ∧ X.N[i]? = some n ∧ X.env.kindOf n = some .local
  | _, _ => False
inductive HdOk (X : Cx) : List ExceptHandler → List Cl → Prop
  | nil : HdOk X [] []
  | cons {x : Str} {c : Value} {on : Option Str} {oi : Option Nat} {ts : TS} {b₀ : Stmt} {suite : List Stmt} {np p' : Pos} {hds : List ExceptHandler} {l : List Cl} (hc : Names X x c) (hn : NmOk X on oi)
      (hsu : ∀ (a : Addr) (pn : List (Addr × Obj)), PSs (suiteT X a pn) (b₀ :: suite) ts) (r : HdOk X hds l) :
      HdOk X (.ExceptHandler (some (.Name x np)) on (b₀ :: suite) p' :: hds) ((c, oi, ts) :: l)
section
variable {X : Cx} {body : List Stmt} {hd0 : ExceptHandler} {hds : List ExceptHandler} {l : List Cl} {pos : Pos} {tb : WX → TS} {Wout : WX}
theorem ps_try_all (stk : X.stack = X.env :: X.outer) (frm : X.env.frame = some X.env.locals) (tk : Takes X Wout)
    (hb : ∀ (W : WX) (pn : List (Addr × Obj)) (xe : Value → Shared → Prop), Takes (X.tr pn xe) W → PassesOwn (model X.prog X.w) X.A X.env xe → PSs (X.tr pn xe) body (tb W))
    (hh : HdOk X (hd0 :: hds) l) : PS X (.Try body (hd0 :: hds) [] [] pos) (fun D σ H => tb (wAll X.K Wout D l) D σ H) := by
  refine ⟨fun pins s σ H D I h => ?_⟩
  have okX := I.ok
  have frs0 : X.A.frames = some (X.env :: X.outer) := by rw [okX.frames, stk]
  refine wpAny_Try_except (wpAny_mono ((hb (wAll X.K Wout D l) (X.pn ++ pins) (fun e s₁ => wpAny (model X.prog X.w) X.A (noteFrame e X.env) (fun _ s₂ => wpAny (model X.prog X.w) X.A (setFlight e none) (fun _ s₃ => wpAny (model X.prog X.w) X.A (handleBy e X.env (hd0 :: hds)) (SP X pins D) X.xe s₃) X.xe s₂) X.xe s₁) (fun u s1 xx => ?_) PassesOwn.looking).run [] s σ H D (I.toTry _) h) (fun f s1 done => ?_) (fun _ _ z => z))
  · -- what the body lets out
    obtain ⟨a, B, sI, pins1, σ1, H1, cls, d, rfl, J0, nb, up, sky, na, os, ag, wish⟩ := xx
    have J := J0.ofTry (pins := pins) okX
    rw [stk] at sky
    have Ba : B.get? a = none := by
      rcases sky with q | q | q
      · exact q.2.1
      · exact q.2.1
      · exact q.2.1
    show wpAny (model X.prog X.w) X.A (noteFrame (.ref a) X.env) _ _ _
    refine Sky.land Zc.steady frs0 frm sky fun h3 fl3 up3 => ?_
    have J3 : Inv X pins σ1 H1 { s1 with heap := h3 } := J.landed nb fl3.1 (up.trans up3) os ag
    obtain ⟨oe3, vs3, at3, zc3, dat3⟩ := fl3.there
    have nfr : a ∉ frs (X.env :: X.outer) := fun hm => by
      obtain ⟨_, o4, e4, hnf⟩ := fl3.2.2.1.mem hm
      rw [at3] at e4
      cases e4
      exact hnf _ dat3
    have nL : a ≠ X.env.locals := fun z => nfr (List.mem_filterMap.mpr ⟨X.env, List.mem_cons_self, by rw [frm, z]⟩)
    have nF : a ∉ X.fs := fun hm => by
      obtain ⟨e, he, q⟩ := List.mem_filterMap.mp hm
      exact nfr (List.mem_filterMap.mpr ⟨e, List.mem_cons_of_mem _ he, q⟩)
    have S3 := J3.suite at3 dat3 na nL nF
    have freshI : sI.heap.get? a = none := by
      cases q : sI.heap.get? a with
      | none => rfl
      | some o =>
        have := nb a o q (by
          show a ∉ frs X.stack
          rw [stk]
          exact nfr)
        rw [Ba] at this
        cases this
    have fresh0 : ∀ o, X.s_0.heap.get? a = some o → a ∈ X.ex := fun o q => by
      by_cases hx : a ∈ X.ex
      · exact hx
      · obtain ⟨o', q2⟩ := J.base.there a o q hx
        rw [freshI] at q2
        cases q2
    have npins : ∀ p ∈ X.pn ++ pins, p.1 ≠ a := fun p hp z => by
      have := (J.pin p hp).1
      rw [z, freshI] at this
      cases this
    suffices go : ∀ {hs2 : List ExceptHandler} {l2 : List Cl}, HdOk X hs2 l2 → wAll X.K Wout D l2 cls d σ1 H1 → wpAny (model X.prog X.w) X.A (handleBy (.ref a) X.env hs2) (SP X pins D) X.xe { s1 with heap := h3 } from go hh wish
    intro hs2 l2 hk
    induction hk with
    | nil =>
      intro w
      refine wpAny_handleBy_nil ?_
      obtain ⟨_, _, _, oe, vs, tb0, oT, ts', he, hz, hd, h1, hr⟩ := id fl3
      have fin : wpAny (model X.prog X.w) X.A (setFlight (.ref a) X.env.frame) (fun _ s4 => wpAny (model X.prog X.w) X.A (throw (.ref a) : Sem Flow) (SP X pins D) X.xe s4) X.xe { s1 with heap := h3 } := by
        rw [frm]
        exact HandSPX.setFlight_upZ fl3 fun h4 hh4 up4 => wpAny_throw (tk _ _ ⟨a, B, sI, pins, σ1, H1, cls, d, rfl, J, nb, (up.trans up3).trans up4, .inr (.inr (by rw [stk]; exact hh4)), na, os, ag, w⟩)
      unfold PySem.passOn
      refine wpAny_bind (wpAny_field he hd h1 ?_)
      rw [if_neg (show ¬ ((Value.ref tb0 == Value.none) = true) by simp)]
      first | exact wpAny_bind (wpAny_pure (wpAny_bind fin)) | exact wpAny_bind fin
    | @cons x c on oi ts b₀ suite np p' hds2 l3 hc hn hsu r ih =>
      intro w
      obtain ⟨b, hb1, yes, no⟩ := w
      have LT : PySem.W.Looks (model X.prog X.w) h3 (typeOf (.ref a)) cls := fun A Q E s k q => wpAny_typeOf_ref (k _ _ at3) (by rw [zc3.1]; exact q)
      have LM := PySem.W.exm_one (M := model X.prog X.w) J3.kIn LT hb1
      refine wpAny_handleBy_cons (codeAny_handlers_test ?_) (by intro q; cases q)
      have name : ∀ {Q : Value → Shared → Prop} {E : Value → Shared → Prop}, Q c { s1 with heap := h3 } → wpAny (model X.prog X.w) (X.A.mark (some (.ref a))) (eval (.Name x np) X.env) Q E { s1 with heap := h3 } := fun {Q E} q => by
        obtain ⟨hg, hdbg, hm | ⟨hm, hv, hnn⟩⟩ := hc
        · exact ld_glob (X := X.suite a ((a, oe3) :: (X.pn ++ pins))) S3 hg hm q hdbg
        · exact ld_blt (X := X.suite a ((a, oe3) :: (X.pn ++ pins))) S3 hg hm hv q hnn hdbg
      refine name (LM.here ?_)
      cases b with
      | false =>
        show wpAny _ X.A (handleBy (.ref a) X.env hds2) _ _ _
        exact ih (no rfl)
      | true =>
        obtain ⟨C, ec, goes⟩ := yes rfl
        subst ec
        have yes := goes a na
        have known : ∀ {h4 : Heap}, HandSPX.FlyingZ B (X.env :: X.outer) a (Zc (.ref C) d) h4 ∨ True → Inv X pins σ1 H1 { s1 with heap := h4 } → (∃ oe vs, h4.get? a = some oe ∧ Zc (.ref C) d oe ∧ oe.data = .fields vs) → Inv (suiteT X a (X.pn ++ pins)) [] σ1 (upd H1 a (exk a C d)) { s1 with heap := h4 } := fun {h4} _ J4 z => by
          obtain ⟨oe4, vs4, at4, zc4, dat4⟩ := z
          refine toSuiteT (track J4 at4 zc4.1 zc4.2 dat4 na nL (fun y c hy z => ?_) fresh0 npins)
          obtain ⟨v, hcell⟩ := J4.cell y c hy
          subst z
          obtain ⟨o, ho, hd⟩ := hcell
          rw [at4] at ho
          cases ho
          rw [dat4] at hd
          cases hd
        match on, oi, hn, yes with
        | none, none, _, yes =>
          refine codeAny_handlers_suite (HandSPX.lands_againZ fl3 fun h4 fl4 up4 => ?_)
          have J4 : Inv X pins σ1 H1 { s1 with heap := h4 } := J.landed nb fl4.1 ((up.trans up3).trans up4) os ag
          have S4 := known (.inr trivial) J4 fl4.there
          refine wpAny_mono ((hsu a (X.pn ++ pins)).run [] _ _ _ _ S4 yes) (fun f s6 e6 => ?_) (fun _ _ z => False.elim z)
          cases f with
          | next => exact let ⟨_, _, S6, q6⟩ := e6; ⟨_, _, ofSuiteT S6 okX, q6⟩
          | brk => exact let ⟨_, _, S6, q6⟩ := e6; ⟨_, _, ofSuiteT S6 okX, q6⟩
          | cont => exact let ⟨_, _, S6, q6⟩ := e6; ⟨_, _, ofSuiteT S6 okX, q6⟩
          | ret u => exact let ⟨_, _, _, S6, r6, q6⟩ := e6; ⟨_, _, _, ofSuiteT S6 okX, r6, q6⟩
        | some n, some i, ⟨nd, hi, hln⟩, yes =>
          refine codeAny_handlers_suite_as (HandSPX.lands_againZ fl3 fun h4 fl4 up4 => ?_)
          have J4 : Inv X pins σ1 H1 { s1 with heap := h4 } := J.landed nb fl4.1 ((up.trans up3).trans up4) os ag
          have S4 := known (.inr trivial) J4 fl4.there
          have loc : Loc X.env.scope n := .inl hln
          refine store_ok (X := suiteT X a (X.pn ++ pins)) (v := .ref a) S4 nd hi loc rfl (fun s5 S5 => ?_) (.inr hln)
          refine wpAny_mono ((hsu a (X.pn ++ pins)).run [] s5 _ _ _ S5 yes) (fun f s6 e6 => ?_) (fun _ _ z => False.elim z)
          have out : ∀ {σ6 : L2.St} {H6 : Hp} {Q : Shared → Prop}, Inv (suiteT X a (X.pn ++ pins)) [] σ6 H6 s6 → (∀ s7, Inv X pins (σ6.set i none) H6 s7 → Q s7) → wpAny (model X.prog X.w) X.A (do bindName X.env n .none; unbindBehindTheSuite X.env n p') (fun _ s7 => Q s7) X.xe s6 := fun {σ6 H6 Q} S6 hq => gone_ok (ofSuiteT S6 okX) nd hi hln hq
          cases f with
          | next => exact let ⟨_, _, S6, q6⟩ := e6; out S6 fun s7 J7 => ⟨_, _, J7, q6⟩
          | brk => exact let ⟨_, _, S6, q6⟩ := e6; out S6 fun s7 J7 => ⟨_, _, J7, q6⟩
          | cont => exact let ⟨_, _, S6, q6⟩ := e6; out S6 fun s7 J7 => ⟨_, _, J7, q6⟩
          | ret u => exact let ⟨_, _, _, S6, r6, q6⟩ := e6; out S6 fun s7 J7 => ⟨_, _, _, J7, r6, q6⟩
  · cases f with
    | next => exact let ⟨_, _, J, q⟩ := done; wpAny_execs_nil ⟨_, _, J.ofTry okX, q⟩
    | brk => exact let ⟨_, _, J, q⟩ := done; ⟨_, _, J.ofTry okX, q⟩
    | cont => exact let ⟨_, _, J, q⟩ := done; ⟨_, _, J.ofTry okX, q⟩
    | ret u => exact let ⟨_, _, _, J, r, q⟩ := done; ⟨_, _, _, J.ofTry okX, r, q⟩
end
end DTm

/-! exceptions as values: made, their fields, isinstance; raised; except clauses over them -/
namespace DXv
open PySem PySem.Spec PyProof.Rows L2 DXg DTm
open DL (exk)
section
variable {X : Cx} {pins : List (Addr × Obj)} {σ : L2.St} {H : Hp} {s : Shared}
end
section
variable {X : Cx} {e : Expr} {es : List Expr} {ta : TA} {p pos : Pos} {B newId initId : String} {bmB : List Value}
end
def tXfV (K : PySem.W.Frag) (f : Str) (te : TE) : TE := fun σ H Q => te σ H fun x H1 => ∃ (a C dd : Addr) (fs : List (Str × V)) (v : V), x = .ref a ∧ H1 a = some (exk a C (some dd)) ∧ H1 dd = some (.xd fs) ∧ (XfC K C ∧ PySem.W.findIn K (.ref C) f = some none) ∧ fs.lookup f = some v ∧ Q v H1
def rIsV (K : PySem.W.Frag) : List V → Hp → VK → Prop := fun xs H Q => ∃ (a C dd : Addr) (ws : List (Str × V)) (c : V) (b : Bool), xs = [V.ref a, c] ∧ H a = some (exk a C (some dd)) ∧ H dd = some (.xd ws) ∧ L2.ExcC K C ∧
  ((∃ cv, (∀ u, RelV c u → u = cv) ∧ PySem.W.kitOne K (.ref C) cv = some b) ∨ ∃ (tp : Addr) (qs : List Value), c = V.ref tp ∧ (∃ vs, SqT K H tp vs ∧ ∀ us, Vals vs us → us = qs) ∧ PySem.W.kitAny K (.ref C) qs = some b) ∧ Q (.bl b) H
section
variable {X : Cx} {e : Expr} {te : TE} {pos : Pos} {n : Str}
theorem exv_inst {pins : List (Addr × Obj)} {σ : L2.St} {H : Hp} {s : Shared} (I : Inv X pins σ H s) {a C dd : Addr} {ws : List (Str × V)} (ea : H a = some (exk a C (some dd))) (ed : H dd = some (.xd ws)) : ∃ (oe od : Obj) (mA : Str → Option Value), PySem.W.InstAt s.heap a oe C (some od) ∧ (∀ f, PySem.W.lookIn f od = some (mA f)) ∧ ∀ f, RelO (ws.lookup f) (mA f) := by
  obtain ⟨oe, vs, h1, hc, hd, hv⟩ := exk_at I.hok ea
  have hx : ObjOk X.prog X.w H s.heap dd (.xd ws) := I.hok dd _ ed
  obtain ⟨mA, hns, hr⟩ := hx
  obtain ⟨od, ho, hl⟩ := lookIn_ns hns
  exact ⟨oe, od, mA, ⟨h1, hc, by unfold PySem.W.notCls; rw [hv] <;> rfl, by rw [hd]; exact ho⟩, hl, hr⟩
theorem pe_xfV (he : PE X e te) (hb : attributeBase e n X.env (eval e X.env) = eval e X.env := by rfl) : PE X (.Attribute e n pos) (tXfV X.K n te) := by
  refine ⟨fun pins s σ H Q I h => attr_of hb (thn (he.run pins s σ H _ I h) fun u s1 ⟨x, H1, I1, rx, a, C, dd, fs, v, ex, ea, ed, ⟨T, hno⟩, l, q⟩ => ?_)⟩
  subst ex
  obtain rfl : u = Value.ref a := rx
  obtain ⟨oe, od, mA, J, hl, hr⟩ := exv_inst I1 ea ed
  obtain ⟨u, hu, ru⟩ := RelO.some_of (v := v) (o := mA n) (by rw [← l]; exact hr n)
  exact HandSPX.exc_get I1.kIn J T.ga T.gg T.exC (PySem.W.findObj_own T.hdC hno rfl (by rw [hl, hu])) (handed_of ru) ⟨v, H1, I1.tok _, ru, q⟩
theorem call_isV : CallR X (.builtin "isinstance") (rIsV X.K) := by
  intro pins s σ H xs us Q I r h
  obtain ⟨a, C, dd, ws, c, b, rfl, ea, ed, T, hc, q⟩ := h
  obtain ⟨oe, od, mA, J, _, _⟩ := exv_inst I ea ed
  have Z : PySem.W.KitX X.K (.ref a) (.ref C) (fun h => PySem.W.InstAt h a oe C (some od)) := PySem.W.kitx_exc (by obtain ⟨cd, h1, _⟩ := PySem.W.any_some T.hd; rw [h1]; rfl) T.hg T.hk T.hs T.ha T.hn T.ht T.hm
  match us, r with
  | [_, u], .cons rx (.cons rt .nil) =>
    cases rx
    rcases hc with ⟨cv, e1, e2⟩ | ⟨tp, qs, rfl, ⟨vs, hq, hv⟩, e2⟩
    · rw [e1 u rt]
      exact PySem.W.kia_one Z I.kIn J e2 (fun z => nomatch z) fun tk => ⟨.bl b, H, I.kept (t' := tk) fun _ _ z => z, rfl, q⟩
    · obtain rfl : u = Value.ref tp := rt
      obtain ⟨its, rv, htup, _⟩ := I.tuple hq
      rw [← hv its rv] at e2
      obtain ⟨⟨oc, odi, oda, osl⟩, h1, h2, n, h3⟩ := htup
      dsimp only at h2 h3
      subst h2
      subst h3
      exact PySem.W.kia_tup Z I.kIn J h1 e2 (fun z => nomatch z) fun tk => ⟨.bl b, H, I.kept (t' := tk) fun _ _ z => z, rfl, q⟩
end
end DXv

/-! exceptions as data: an own class's __init__, made as a value, raised, looked at; except clauses -/
namespace DL
open PySem PySem.Spec PyProof.Rows L2 DXg DTm DXv
section
variable {K : PySem.W.Frag} {newId : String} {bmB : List Value}
def spIniB (K : PySem.W.Frag) (newId : String) (bmB : List Value) (fs : List Str) : Sp := fun vs H Q _ => ∃ (a C : Addr) (xs : List V), vs = .ref a :: xs ∧ xs.length = fs.length ∧ OexB K C newId bmB ∧ (∀ f ∈ fs, PySem.W.findIn K (.ref C) f = some none) ∧ H a = some (exo a C none) ∧
  ∀ dx, H dx = none → dx ≠ a → Q .non (upd (upd H dx (exd dx (fs.zip xs).reverse)) a (exo a C (some dx)))
theorem iniB_len {fs : List Str} {vs : List V} {H : Hp} {Q : VK} {E : XK} (h : spIniB K newId bmB fs vs H Q E) : vs.length = fs.length + 1 := by
  obtain ⟨a, C, xs, rfl, hl, _⟩ := h
  rw [List.length_cons, hl]
theorem iniB1 {f m : Str} {vs : List V} {H : Hp} {Q : VK} {Ex : XK} (h : spIniB K newId bmB [f] vs H Q Ex) :
    tSeq (tDrop (tBeI K newId bmB (tCons (tVar 0) (tCons (tC (.str m)) tNil)))) (tOstB K newId bmB f (tVar 0) (tVar 1)) { nx := fun _ H' => Q .non H', rt := Q } (vs.map some) H := by
  obtain ⟨a, C, xs, rfl, hl, T, hno, ha, q⟩ := h
  match xs, hl with
  | [v], _ =>
    refine ⟨_, rfl, a, C, [.str m], rfl, (by show 1 ≤ 1000; decide), T, ha, ?_⟩
    exact ⟨_, rfl, _, rfl, a, C, rfl, T, hno f (by simp), .inl ⟨ha, fun dx hd hne => q dx hd hne⟩⟩
def exF (fs : List Str) (xs : List D) : List (Str × D) := (fs.zip xs).reverse
theorem repF_app {H : Hp} {R : Addr → Prop} : ∀ {fs gs : List (Str × D)} {ws us : List (Str × V)}, RepF K H R fs ws → RepF K H R gs us → RepF K H R (fs ++ gs) (ws ++ us)
  | [], _, _, _, h, q => by
    cases h
    exact q
  | (f, d) :: fs, _, _, _, ⟨y, ys, e, h, r⟩, q => by
    subst e
    exact ⟨y, _, rfl, h, repF_app r q⟩
theorem repF_rev {H : Hp} {R : Addr → Prop} : ∀ {fs : List (Str × D)} {ws : List (Str × V)}, RepF K H R fs ws → RepF K H R fs.reverse ws.reverse
  | [], _, h => by
    cases h
    rfl
  | (f, d) :: fs, _, ⟨y, ys, e, h, r⟩ => by
    subst e
    rw [List.reverse_cons, List.reverse_cons]
    exact repF_app (repF_rev r) ⟨y, [], rfl, h, rfl⟩
theorem repF_zip {H : Hp} {R : Addr → Prop} : ∀ {fs : List Str} {xs : List D} {vs : List V}, RepL K H R xs vs → RepF K H R (fs.zip xs) (fs.zip vs)
  | [], _, _, _ => rfl
  | f :: fs, [], _, h => by
    cases h
    rfl
  | f :: fs, x :: xs, _, ⟨y, ys, e, h, r⟩ => by
    subst e
    exact ⟨y, _, rfl, h, repF_zip r⟩
theorem repL_of {H : Hp} {R : Addr → Prop} {gs ls : List Addr} : ∀ {xs : List D} {vs : List V}, Paired (RS K H R gs ls) (xs.map S.d) vs → RepL K H R xs vs
  | [], _, .nil => rfl
  | _ :: _, _, .cons h t => ⟨_, _, rfl, h, repL_of t⟩
section
variable {Δ : Sl} {G L : List M} {Qd : Po} {E : EndsD} {ta : TA} {te : TE} {C : Addr} {fs : List Str} {Wi : WX}
theorem st_raiseB (h : EvA K ta Δ G L fun ss G1 L1 => ∃ xs : List D, ss = xs.map S.d ∧ xs.length = fs.length ∧ xs.length ≤ 1000 ∧ (OexB K C newId bmB ∧ ∀ f ∈ fs, PySem.W.findIn K (.ref C) f = some none) ∧ ∀ w ls H, E.wd w ls H → WishAt K w ls H Wi fun x' Δ' G' L' => x' = ⟨C, exF fs xs⟩ ∧ Δ' = Δ ∧ G' = G1 ∧ L' = L1) :
    StC K (fun _ σ H => tMkO C (spIniB K newId bmB fs) [] ta σ H fun cls d H' => Wi cls d σ H') Δ G L E := fun w ls σ H c D s => h w ls σ H c _ fun vs ss H2 G2 L2 c2 e2 r2 ⟨xs, e, hl, hz, ⟨T, hno⟩, k⟩ => by
  subst e
  have rl := repL_of r2
  refine ⟨by rw [rl.length]; exact hz, fun a ha => ?_⟩
  rw [List.append_nil]
  refine ⟨a, C, vs, rfl, by rw [rl.length, hl], T, hno, upd_same, fun dx hd hne => ?_⟩
  have hd2 : H2 dx = none := by
    rw [upd_ne hne] at hd
    exact hd
  refine ⟨rfl, dx, (fs.zip vs).reverse, upd_same, by rw [upd_ne hne, upd_same], hd2, ?_⟩
  have eh : upd (del (upd (upd (upd H2 a (exo a C none)) dx (exd dx (fs.zip vs).reverse)) a (exo a C (some dx))) a) dx (.xd (fs.zip vs).reverse) = upd H2 dx (.xd (fs.zip vs).reverse) := by
    funext b
    by_cases hb : b = dx
    · subst hb
      rw [upd_same, upd_same]
    · rw [upd_ne hb, upd_ne hb]
      by_cases hba : b = a
      · subst hba
        rw [del_same, ha]
      · rw [del_ne hba, upd_ne hba, upd_ne hb, upd_ne hba]
  rw [eh]
  have c3 := c2.new hd2 (o := .xd (fs.zip vs).reverse)
  have x3 := e2.trans (Ext.new hd2 (o := .xd (fs.zip vs).reverse))
  have rl3 := RepL.grow ((Ext.new (w := w) (ls := ls) hd2 (o := .xd (fs.zip vs).reverse)).grow c2.reg) rl
  exact k w ls _ (s.wd ls _ (x3.grow c.reg)) σ Δ G2 L2 (.ref C) (some dx) ⟨C, exF fs xs⟩ c3 ⟨rfl, dx, _, rfl, ⟨upd_same, c2.free hd2⟩, repF_rev (repF_zip rl3)⟩ ⟨rfl, rfl, rfl, rfl⟩
theorem repF_look {H : Hp} {R : Addr → Prop} {f : Str} {x : D} : ∀ {fs : List (Str × D)} {ws : List (Str × V)}, RepF K H R fs ws → fs.lookup f = some x → ∃ v, ws.lookup f = some v ∧ Rep K H R x v
  | [], _, _, h => by cases h
  | (n, y) :: fs, _, ⟨v, vs, e, h1, h2⟩, h => by
    subst e
    rw [List.lookup_cons] at h ⊢
    cases hb : f == n with
    | true =>
      rw [hb] at h
      cases h
      exact ⟨v, rfl, h1⟩
    | false =>
      rw [hb] at h
      exact repF_look h2 h
theorem evc_xfV {f : Str} (h : EvC K te Δ G L fun s G1 L1 => ∃ C gs x, s = .d (.exv C gs) ∧ (XfC K C ∧ PySem.W.findIn K (.ref C) f = some none) ∧ gs.lookup f = some x ∧ Qd (.d x) G1 L1) : EvC K (tXfV K f te) Δ G L Qd := fun w ls σ H c Q q => h w ls σ H c _ fun v s H2 G2 L2 c2 e2 r2 ⟨C, gs, x, e, T, hx, k⟩ => by
  subst e
  obtain ⟨a, dd, ws, rfl, ⟨h1, n1⟩, ⟨h2, n2⟩, r⟩ := r2
  obtain ⟨v, hv, rv⟩ := repF_look r hx
  exact ⟨a, C, dd, ws, v, rfl, h1, h2, T, hv, q.go c2 e2 (s := .d x) rv k⟩
theorem ap_isVt {C : Addr} {T : String} {gs : List (Str × D)} (h : ∃ b : Bool, (L2.ExcC K C ∧ PySem.W.kitOne K (.ref C) (.type T) = some b) ∧ Qd (.d (.bl b)) G L) : ApC K (rIsV K) [.d (.exv C gs), .d (.ty T)] Δ G L Qd := fun w ls σ H vs c rs Q q => by
  obtain ⟨b, ⟨T', hk⟩, k⟩ := h
  obtain ⟨v, u, rfl, ⟨a, dd, ws, rfl, ⟨h1, _⟩, ⟨h2, _⟩, _⟩, r2⟩ := pair2 rs
  have r2 : u = .ty T := r2
  subst r2
  exact ⟨a, C, dd, ws, _, b, rfl, h1, h2, T', .inl ⟨.type T, fun _ r => r, hk⟩, q.go c Ext.refl (s := .d (.bl b)) rfl k⟩
def clsD : D → Option Value
  | .ref a => some (.ref a)
  | .ty n => some (.type n)
  | _ => none
def clsDs : List D → Option (List Value)
  | [] => some []
  | d :: ds => match clsD d, clsDs ds with
    | some v, some vs => some (v :: vs)
    | _, _ => none
theorem clsDs_vals {H : Hp} {R : Addr → Prop} : ∀ {ds : List D} {vs : List V} {qs : List Value}, clsDs ds = some qs → RepL K H R ds vs → ∀ us, Vals vs us → us = qs
  | [], _, _, e, h, us, r => by
    cases e
    cases h
    cases r
    rfl
  | d :: ds, _, qs, e, ⟨y, ys, ey, h, rl⟩, us, r => by
    subst ey
    match us, r with
    | u :: us, .cons r1 r2 =>
      unfold clsDs at e
      split at e
      · rename_i v vs h1 h2
        cases e
        rw [clsDs_vals h2 rl us r2]
        congr 1
        cases d with
        | ref a =>
          cases h1
          have h : y = .ref a := h
          subst h
          exact r1
        | ty n =>
          cases h1
          have h : y = .ty n := h
          subst h
          exact r1
        | _ => cases h1
      · cases e
theorem ap_isVs {C : Addr} {gs : List (Str × D)} {ds : List D} (h : ∃ (qs : List Value) (b : Bool), clsDs ds = some qs ∧ (L2.ExcC K C ∧ PySem.W.kitAny K (.ref C) qs = some b) ∧ Qd (.d (.bl b)) G L) : ApC K (rIsV K) [.d (.exv C gs), .d (.tup ds)] Δ G L Qd := fun w ls σ H vs c rs Q q => by
  obtain ⟨qs, b, hq, ⟨T, hk⟩, k⟩ := h
  obtain ⟨v, u, rfl, ⟨a, dd, ws, rfl, ⟨h1, _⟩, ⟨h2, _⟩, _⟩, tp, us, rfl, ht, rl⟩ := pair2 rs
  exact ⟨a, C, dd, ws, _, b, rfl, h1, h2, T, .inr ⟨tp, qs, rfl, ⟨us, ht.sq, clsDs_vals hq rl⟩, hk⟩, q.go c Ext.refl (s := .d (.bl b)) rfl k⟩
def setO (o : Option Nat) (x : D) (Δ : Sl) : Sl := match o with
  | none => Δ
  | some i => Δ.set i (some (.d x))
def unO (o : Option Nat) (E : EndsD) : EndsD := match o with
  | none => E
  | some i => { E with nx := fun Δ2 G2 L2 => E.nx (Δ2.set i none) G2 L2, bk := fun Δ2 G2 L2 => E.bk (Δ2.set i none) G2 L2, ct := fun Δ2 G2 L2 => E.ct (Δ2.set i none) G2 L2 }
def ClsOk (K : PySem.W.Frag) (E : EndsD) (x : Exn) (Δ : Sl) (G L : List M) : List Cl → Prop
  | [] => False
  | p :: r => ∃ b, PySem.W.exmOne K (.ref x.C) p.1 = some b ∧ (b = true → StC K p.2.2 (setO p.2.1 (.exv x.C x.fs) Δ) G L (unO p.2.1 E)) ∧ (b = false → ClsOk K E x Δ G L r)
theorem st_tryAll {l : List Cl} {Wo : WX} {tb : WX → TS} (Qs : Exn → Sl → List M → List M → Prop) (h : ∀ Wi : WX, StC K (tb Wi) Δ G L { E with wd := fun w ls H => WishAt K w ls H Wi Qs })
    (hs : ∀ x Δ' G' L', Qs x Δ' G' L' → ClsOk K E x Δ' G' L' l) : StC K (fun D σ H => tb (wAll K Wo D l) D σ H) Δ G L E := fun w ls σ H cx D s => by
  refine h (wAll K Wo D l) w ls σ H cx D ⟨s.nx, s.rt, s.bk, s.ct, fun ls' H' g' => ?_⟩
  intro σ' Δ' G' L' cls d x c' xn q
  have hc := hs x Δ' G' L' q
  obtain ⟨rfl, dd, ws, rfl, ⟨hd, nd⟩, r⟩ := xn
  clear q hs h
  induction l with
  | nil => exact hc.elim
  | cons p l ih =>
    obtain ⟨b, hb, yes, no⟩ := hc
    refine ⟨b, hb, fun eb => ⟨x.C, rfl, fun a ha => ?_⟩, fun eb => ih (no eb)⟩
    have c2 := c'.new ha (o := exk a x.C (some dd))
    have x2 := Ext.new (w := w) (ls := ls') ha (o := exk a x.C (some dd))
    have g2 := x2.grow c'.reg
    have rx : Rep K (upd H' a (exk a x.C (some dd))) (Rg w ls') (.exv x.C x.fs) (.ref a) := ⟨a, dd, ws, rfl, ⟨upd_same, c'.free ha⟩, ⟨g2.keep _ _ hd nd, nd⟩, RepF.grow g2 r⟩
    have yes := yes eb
    obtain ⟨c, o, ts⟩ := p
    cases o with
    | none => exact yes w ls' σ' _ c2 D ⟨fun ls2 σ2 H2 Δ2 G2 L2 c3 g3 k => s.nx ls2 σ2 H2 Δ2 G2 L2 c3 ((g'.trans g2).trans g3) k, fun ls2 σ2 H2 Δ2 G2 L2 v z c3 rz k => s.rt ls2 σ2 H2 Δ2 G2 L2 v z c3 rz k, fun ls2 σ2 H2 Δ2 G2 L2 c3 g3 k => s.bk ls2 σ2 H2 Δ2 G2 L2 c3 ((g'.trans g2).trans g3) k, fun ls2 σ2 H2 Δ2 G2 L2 c3 g3 k => s.ct ls2 σ2 H2 Δ2 G2 L2 c3 ((g'.trans g2).trans g3) k, fun ls2 H2 g3 => s.wd ls2 H2 ((g'.trans g2).trans g3)⟩
    | some i =>
      have off : ∀ {ls2 : List Addr} {σ2 : L2.St} {H2 : Hp} {Δ2 : Sl} {G2 L2 : List M}, Ctx K w ls2 σ2 H2 Δ2 G2 L2 → Ctx K w ls2 (σ2.set i none) H2 (Δ2.set i none) G2 L2 := fun {ls2 σ2 H2 Δ2 G2 L2} c3 => by
        refine ⟨c3.reg, c3.rin, c3.nd, c3.fr, c3.h0, ⟨by rw [List.length_set, List.length_set, c3.sl.1], fun j z e => ?_⟩, c3.gl, c3.lo, c3.ld⟩
        rw [List.getElem?_set] at e ⊢
        split at e
        · split at e <;> cases e
        · rename_i hij
          rw [if_neg hij]
          exact c3.sl.2 j z e
      exact yes w ls' (σ'.set i (some (.ref a))) _ (c2.slot rx) _ ⟨fun ls2 σ2 H2 Δ2 G2 L2 c3 g3 k => s.nx ls2 _ H2 _ G2 L2 (off c3) ((g'.trans g2).trans g3) k, fun ls2 σ2 H2 Δ2 G2 L2 v z c3 rz k => s.rt ls2 σ2 H2 Δ2 G2 L2 v z c3 rz k, fun ls2 σ2 H2 Δ2 G2 L2 c3 g3 k => s.bk ls2 _ H2 _ G2 L2 (off c3) ((g'.trans g2).trans g3) k, fun ls2 σ2 H2 Δ2 G2 L2 c3 g3 k => s.ct ls2 _ H2 _ G2 L2 (off c3) ((g'.trans g2).trans g3) k, fun ls2 H2 g3 => s.wd ls2 H2 ((g'.trans g2).trans g3)⟩
end
end
end DL

/-! C.m(..), C an own class, m a def of it; built-in classes of exceptions as bases; what isinstance and except say of classes -/
namespace DXs
open PySem PySem.Spec PyProof.Rows L2 DXg
theorem bx_ArithmeticError : BaseX "ArithmeticError" "ArithmeticError.__new__" "ArithmeticError.__init__" [.type "ArithmeticError", .type "Exception", .type "BaseException", .type "object"] := ⟨PySem.F.excBase_ArithmeticError, PySem.F.store_ArithmeticError⟩
theorem boot_ArithmeticError : bootBuiltins "ArithmeticError" = some (.type "ArithmeticError") := by decide +kernel
theorem ty_ArithmeticError : typeOf (.type "ArithmeticError") = pure (.type "type") := by kernel_rfl
theorem st_ArithmeticError : Manifest.isStub "ArithmeticError" = false := by decide +kernel
theorem hd_ArithmeticError : PySem.W.handedIn (.builtin "ArithmeticError.__init__") = true := by decide +kernel
section
variable {K : PySem.W.Frag} {C D : Addr} {b : Bool}
theorem kit_same : PySem.W.kitOne K (.ref C) (.ref C) = some true := by
  unfold PySem.W.kitOne
  rw [if_pos (beq_self_eq_true _)]
theorem kit_cls (hC : PySem.W.subIn K (.ref C) (.ref C) = some true) (ic : PySem.W.isClsIn K D = true) (ty : PySem.W.typeIn K (.ref D) = some (.type "type")) (h : PySem.W.subIn K (.ref C) (.ref D) = some b) : PySem.W.kitOne K (.ref C) (.ref D) = some b := by
  cases b with
  | false => exact DXe.kit_ref hC ic ty h
  | true =>
    by_cases e : C = D
    · subst e
      exact kit_same
    · have e2 : ((PySem.W.clsIn K D).isSome && PySem.W.typeIn K (.ref D) == some (.type "type")) = true := by
        have ic : (PySem.W.clsIn K D).isSome = true := ic
        rw [ic, ty]
        rfl
      unfold PySem.W.kitOne
      rw [if_neg fun z => e (Value.ref.inj (beq_iff_eq.mp z))]
      show (if ((PySem.W.clsIn K D).isSome && PySem.W.typeIn K (.ref D) == some (.type "type")) = true then PySem.W.subIn K (.ref C) (.ref D) else none) = _
      rw [if_pos e2]
      exact h
end
section
variable {X : Cx} {CX : CXT} {k : Nat} {f M : Addr} {fd : FuncData} {ps : List Str} {sp : Sp} {E : XK} {cn m : Str} {p1 p2 pos : Pos} {e : Expr} {es : List Expr} {ta : TA} {mc : Value}
end
end DXs
namespace DL
open PySem PySem.Spec PyProof.Rows L2 DXg
end DL

/-! methods and defs that may raise: what is raised is wished for where the call stands; own objects handed over, words by name -/
namespace DMs
open PySem PySem.Spec PyProof.Rows L2
section
variable {X : Cx} {CX : CXT} {k n : Nat} {f C : Addr} {fd : FuncData} {ps ks : List Str} {sp : Sp} {dvs : List V} {ds : List Value} {E : L2.St → XK} {m : Str} {apos pos : Pos} {o e : Expr} {es : List Expr} {kws : List Keyword} {to : TE} {t tk : TA} {g : List Value → List Value → List Value} {gV : List V → List V → List V}
end
end DMs
namespace DL
open PySem PySem.Spec PyProof.Rows L2
section
variable {K : PySem.W.Frag} {Δ : Sl} {G L : List M} {Qd : Po} {Qx : Exn → List M → List M → Prop} {E : EndsD} {ta : TA} {to : TE} {F : DSpecX} {Wi : WX} {C : Addr} {m : Str} {Ex : L2.St → XK}
theorem isN_xv {C : Addr} {fs : List (Str × D)} (k : Qd (.d (.bl false)) G L) : OpC K (fun x y H Q => y = .non ∧ Q (.bl (decide (x = .non))) H) (.d (.exv C fs)) (.d .non) Δ G L Qd := fun w ls σ H vx vy c rx ry Q q => by
  obtain ⟨a, dd, ws, rfl, _⟩ := rx
  cases ry
  exact ⟨rfl, q.go c Ext.refl (s := .d (.bl false)) rfl k⟩
end
end DL

/-! an __init__ that keeps new dicts and lists in its own object: the list of the callee's objects grows -/
namespace DL
open PySem PySem.Spec PyProof.Rows L2
def S.gl (n : Nat) : S → S
  | .g k => .l (n + k)
  | s => s
def M.gl (n : Nat) : M → M
  | .hl xs => .hl (xs.map (S.gl n))
  | .dh kvs => .dh (kvs.map fun p => (p.1, p.2.gl n))
  | .og C fs => .og C (fs.map fun p => (p.1, p.2.gl n))
  | .dq kvs => .dq (kvs.map fun p => (p.1, p.2.gl n))
  | m => m
def WMore (w w' : W) : Prop := ∃ ps, w'.gs = w.gs ++ ps ∧ w'.H0 = w.H0 ∧ (∀ a, w'.R a ↔ w.R a ∨ a ∈ ps) ∧ ∀ a ∈ ps, w.H0 a = none
theorem WMore.refl (w : W) : WMore w w := ⟨[], (List.append_nil _).symm, rfl, fun a => ⟨.inl, fun z => z.elim id fun z => by cases z⟩, fun _ h => by cases h⟩
theorem WMore.trans {w w1 w2 : W} : WMore w w1 → WMore w1 w2 → WMore w w2 := fun ⟨ps, g1, h1, r1, n1⟩ ⟨qs, g2, h2, r2, n2⟩ => by
  refine ⟨ps ++ qs, by rw [g2, g1, List.append_assoc], h2.trans h1, fun a => ?_, fun a ha => ?_⟩
  · rw [r2, r1, List.mem_append, or_assoc]
  · rcases List.mem_append.mp ha with z | z
    · exact n1 a z
    · rw [← h1]
      exact n2 a z
section
variable {K : PySem.W.Frag}
theorem RS.gl {H : Hp} {R R' : Addr → Prop} {gs ls qs : List Addr} (g : Grow H H R R') : ∀ {s : S} {v : V}, RS K H R qs [] s v → RS K H R' gs (ls ++ qs) (s.gl ls.length) v
  | .d _, _, q => Rep.grow g q
  | .g k, _, ⟨b, hb, e⟩ => by
    refine ⟨b, ?_, e⟩
    rw [List.getElem?_append_right (Nat.le_add_right _ _), Nat.add_sub_cancel_left]
    exact hb
  | .l k, _, ⟨b, hb, e⟩ => by simp at hb
theorem MOk.gl {H : Hp} {R R' : Addr → Prop} {gs ls qs : List Addr} (g : Grow H H R R') {a : Addr} : ∀ {m : M}, MOk K H R qs [] a m → MOk K H R' gs (ls ++ qs) a (m.gl ls.length)
  | .pl _, ⟨vs, h, r⟩ => ⟨vs, h, RepL.grow g r⟩
  | .hl xs, ⟨vs, h, r⟩ => ⟨vs, h, paired_map2' r fun _ _ q => RS.gl g q⟩
  | .dc _, ⟨vs, h, r⟩ => ⟨vs, h, RepK.grow g r⟩
  | .ob _ _, ⟨dx, vs, h, r⟩ => ⟨dx, vs, h, RepF.grow g r⟩
  | .dh _, ⟨vs, h, r⟩ => ⟨vs, h, paired_map2' r fun _ _ q => ⟨q.1, RS.gl g q.2⟩⟩
  | .dt _, h => h
  | .dz _ _, h => h
  | .og _ _, ⟨dx, vs, h, r⟩ => ⟨dx, vs, h, paired_map2' r fun _ _ q => ⟨q.1, RS.gl g q.2⟩⟩
  | .dq _, ⟨vs, h, r⟩ => ⟨vs, h, paired_map2' r fun _ _ q => ⟨q.1, RS.gl g q.2⟩⟩
section
variable {Δ : Sl} {G L : List M} {E : EndsD} {N : Sl → List M → List M → Prop} {t u : TS} {tv : TE} {f : Str}
end
end
end DL

/-! what an __init__ promises that makes more objects than its own; x = C(..) of such a class -/
namespace DL
open PySem PySem.Spec PyProof.Rows L2
section
variable {P : Program} {wd : World} {K : PySem.W.Frag} {mg : Str → Option Value} {base : Heap}
end
section
variable {K : PySem.W.Frag} {Δ : Sl} {G L : List M} {E : EndsD} {t : TA} {E0' : XK}
end
end DL

/-! dicts of data, own ones and frozen ones: in, d[k], a copy, d[k] = x, d.pop(k) -/
namespace DL
open PySem PySem.Spec PyProof.Rows L2
section
variable {K : PySem.W.Frag}
section
variable {w : W} {ls : List Addr} {σ : L2.St} {H : Hp} {Δ : Sl} {G L : List M} {Qd : Po} {Qn : PoN} {td ty : TE} {v : V} {s : S} {kvs : List (Key × D)}
end
end
end DL

/-! raise C(..) from e within «except B as e» -/
namespace DRf
open PySem PySem.Spec PyProof.Rows L2
section
variable {X : Cx} {pins : List (Addr × Obj)} {σ : L2.St} {H : Hp} {s : Shared}
theorem inv_gone {i : Nat} {n : Str} {v : Option Value} {h1 : Heap} {m : Str → Option Value} {t' : Nat} (I : Inv X pins σ H s) (nod : X.N.Nodup) (at_ : X.N[i]? = some n) (names : s.heap.Ns X.env.locals m)
    (look : ∀ (i : Nat) (x : Str) (v : V), X.N[i]? = some x → σ[i]? = some (some v) → Vis X.env.scope x → ∃ u, RelV v u ∧ Look X.env s.heap m x u)
    (names1 : h1.Ns X.env.locals (fun x => if x = n then v else m x)) (same : Heap.SameBut X.env.locals s.heap h1) : Inv X pins (σ.set i none) H { s with heap := h1, toks := t' } := by
  obtain ⟨oL, _, _, eL, _⟩ := id names
  have off : ∀ b o, X.s_0.heap.get? b = some o → b ≠ X.env.locals := fun b o e => Nat.ne_of_lt (Nat.lt_of_lt_of_le (Heap.lt_size e) I.ok.above)
  constructor
  · exact I.ok
  · exact I.os
  · exact I.bare
  · constructor
    · exact fun b o e nn nb nx => (same.2 b (off b o e)).trans (I.base.keep b o e nn nb nx)
    · intro b o e nn nb nx
      obtain ⟨sl, q⟩ := I.base.slot b o e nn nb nx
      exact ⟨sl, (same.2 b (off b o e)).trans q⟩
    · exact I.base.free
    · intro b o e nx
      obtain ⟨o1, q⟩ := I.base.there b o e nx
      exact ⟨o1, (same.2 b (off b o e)).trans q⟩
    · exact I.base.tups
    · exact I.base.frzs
    · exact I.base.tbls
  · refine ⟨_, names1, fun j y v1 q1 q2 q3 => ?_⟩
    have ji : j ≠ i := fun z => by
      subst z
      by_cases short : j < σ.length
      · rw [List.getElem?_set_self short] at q2
        cases q2
      · rw [List.getElem?_eq_none (by simpa using short)] at q2
        cases q2
    rw [List.getElem?_set_ne (Ne.symm ji)] at q2
    obtain ⟨u1, rel, way⟩ := look j y v1 q1 q2 q3
    refine ⟨u1, rel, ?_⟩
    have yn : y ≠ n := fun z => ji (nodup_ix nod q1 (z ▸ at_))
    rcases way with ⟨kd, q⟩ | ⟨kd, cl, q, cellv⟩
    · exact .inl ⟨kd, (if_neg yn).trans q⟩
    · exact .inr ⟨kd, cl, q, cellv.sameBut same (I.cne y cl q)⟩
  · intro y cl q
    obtain ⟨v1, cellv⟩ := I.cell y cl q
    exact ⟨v1, cellv.sameBut same (I.cne y cl q)⟩
  · exact I.free
  · exact I.freeC
  · intro p hp
    obtain ⟨q, nn, ne, nf, dd⟩ := I.pin p hp
    exact ⟨(same.2 p.1 ne).trans q, nn, ne, nf, dd⟩
  · intro b ob q
    refine (I.hok b ob q).stay (fun c v1 hc z => (same.2 c ?_).trans z) (fun _ z => z) fun _ _ z => z
    intro z
    subst z
    rcases hc with hc | hc
    · rw [← hc, I.free] at q
      cases q
    · rw [I.free] at hc
      cases hc
  · simpa using I.len
end
section
variable {env : Env} {outer : List Env} {L a : Addr} {Z : Obj → Prop} {B : Heap}
theorem held_same {h h1 : Heap} {m m1 : Str → Option Value} (x : HandSPX.HeldZ B (env :: outer) a Z L h) (bL : B.get? L = none) (hn : h.Ns L m) (hn1 : h1.Ns L m1) (same : Heap.SameBut L h h1) : HandSPX.HeldZ B (env :: outer) a Z L h1 := by
  obtain ⟨st, b0, fr, oe, vs, T, oT, ts, he, hz, hd, h1', nT, Te, hT, dT, h3⟩ := x
  obtain ⟨oL, es, ep, eL, dL, _⟩ := id hn
  have off : ∀ {c : Addr} {o : Obj} {ws : Array Value}, h.get? c = some o → o.data = .fields ws → c ≠ L := fun {c o ws} e d z => by
    rw [z, eL] at e
    cases e
    rw [dL] at d
    cases d
  refine ⟨fun b o e => (same.2 b fun z => ?_).trans (st b o e), b0, Heap.FunFrames.sameBut same hn1 fr, oe, vs, T, oT, ts, (same.2 a (off he hd)).trans he, hz, hd, h1', nT, Te, (same.2 T (off hT dT)).trans hT, dT, h3⟩
  rw [z, bL] at e
  cases e
theorem sky_note {M : Model} {A : Around} {E₁ : Value → Shared → Prop} {s : Shared} {Q : Unit → Shared → Prop} (hZ : HandSPX.Steady Z) (frs0 : A.frames = some (env :: outer)) (hf : env.frame = some L) (x : Sky B (env :: outer) a Z L s.heap)
    (go : ∀ h1, HandSPX.HeldZ B (env :: outer) a Z L h1 → s.heap.UpToSlots h1 → Q () { s with heap := h1 }) : wpAny M A (noteFrame (.ref a) env) Q E₁ s := by
  rcases x with ⟨sB, n0, ff, oe, vs, at_, zo, dat, v1⟩ | fl | held
  · exact HandSPX.look_newZ hZ frs0 ff hf at_ sB n0 dat v1 zo go
  · exact HandSPX.looks_onZ hZ frs0 hf fl go
  · exact HandSPX.againZ hf held.2.2.2 (go s.heap held (Heap.UpToSlots.refl _))
end
section
variable {X : Cx} {W : WX} {pins : List (Addr × Obj)} {pn : List (Addr × Obj)} {a : Addr} {q0 : Addr × Obj} {i : Nat} {n : Str} {pos : Pos}
theorem as_tail (ok : X.Ok) (stk : X.stack = X.env :: X.outer) (frm : X.env.frame = some X.env.locals) (nod : X.N.Nodup) (at_ : X.N[i]? = some n) (loc : X.env.kindOf n = some .local) (tk : L2.Takes X W)
    {u : Value} {s3 : Shared} {E2 E3 : Value → Shared → Prop} (xx : L2.XE (L2H.suiteX X a (q0 :: (X.pn ++ pins))) (fun cls d σ H => W cls d (σ.set i none) H) u s3) :
    wpAny (model X.prog X.w) (X.A.mark (some (.ref a))) (noteFrame u X.env) (fun _ s4 => wpAny (model X.prog X.w) (X.A.mark (some (.ref a))) (do bindName X.env n .none; unbindBehindTheSuite X.env n pos)
      (fun _ s5 => wpAny (model X.prog X.w) (X.A.mark (some (.ref a))) (PySem.passOn "try.except-as" u X.env : Sem Flow) (fun _ _ => False) (notedBy (model X.prog X.w) (X.A.mark (some (.ref a))) X.env (cameBackBy (model X.prog X.w) X.A X.env X.xe)) s5) E2 s4) E3 s3 := by
  obtain ⟨e, B, sI, pins2, σ2, H2, cls, d, rfl, J, nb, up, sky, na, os, ag, wv⟩ := xx
  have frs0 : (X.A.mark (some (.ref a))).frames = some (X.env :: X.outer) := by
    have := ok.frames
    rw [stk] at this
    exact this
  have sky : Sky B (X.env :: X.outer) e (Zc cls d) X.env.locals s3.heap := by
    have z : Sky B X.stack e (Zc cls d) X.env.locals s3.heap := sky
    rw [stk] at z
    exact z
  refine sky_note Zc.steady frs0 frm sky fun h1 held up1 => ?_
  obtain ⟨m, names, look⟩ := id J.loc
  have plain : (X.env.scope.kind == .class || (X.env.scope.kind == .module && X.env.locals != X.env.globals)) = false := by
    rw [ok.kind]
    rfl
  have bL : B.get? X.env.locals = none := by
    obtain ⟨_, _, ⟨_, ⟨L1, _, f1, b1, _⟩, _⟩, _⟩ := id held
    rw [frm] at f1
    rw [Option.some.inj f1]
    exact b1
  have names0 : h1.Ns X.env.locals m := (up.trans up1).ns names
  refine wpAny_nameGoes_keeps (s := { s3 with heap := h1 }) loc names0 plain fun h2 v names2 same => ?_
  have held2 := held_same held bL names0 names2 same
  obtain ⟨st2, b02, ff2, tr2⟩ := held2
  obtain ⟨oe, vs, T, oT, ts, he, hz, hd, v1, r⟩ := id tr2
  unfold PySem.passOn
  refine wpAny_bind (wpAny_field he hd v1 ?_)
  rw [if_neg (show ¬ ((Value.ref T == Value.none) = true) from by simp)]
  rw [frm]
  refine wpAny_bind (HandSPX.setFlight_anyZ (fr := some X.env.locals) st2 ff2 tr2 fun h3 st3 ff3 tr3 up3 => wpAny_throw ?_)
  show wpAny _ _ (noteFrame (.ref e) X.env) _ _ _
  refine HandSPX.againZ frm tr3 ?_
  obtain ⟨oe3, vs3, T3, oT3, ts3, he3, hz3, hd3, v13, r3⟩ := id tr3
  show wpAny _ X.A (do
    if (← field (.ref e) 1) == .none then unsupported "frame.own-activation:exception-without-traceback"
    setFlight (.ref e) X.env.frame) _ _ _
  refine wpAny_bind (wpAny_field he3 hd3 v13 ?_)
  rw [if_neg (show ¬ ((Value.ref T3 == Value.none) = true) from by simp)]
  rw [frm]
  refine HandSPX.setFlight_anyZ (fr := some X.env.locals) st3 ff3 tr3 fun h4 st4 ff4 tr4 up4 => ?_
  -- the state without the exception, its name gone
  obtain ⟨oL, es, ep, eL, dL, rL⟩ := id names2
  obtain ⟨oI, esI, epI, eI, dI, rI⟩ := id names
  have self := Heap.get?_update_self (fun _ => oL) eI (Heap.get?_some_iff.mp eL).2
  have other : ∀ b, b ≠ X.env.locals → (sI.heap.update X.env.locals fun _ => oL).get? b = sI.heap.get? b := fun b hb => Heap.get?_update_other _ _ (Ne.symm hb)
  have J2 : Inv (L2H.suiteX X a (q0 :: (X.pn ++ pins))) pins2 (σ2.set i none) H2 { sI with heap := sI.heap.update X.env.locals fun _ => oL, toks := sI.toks } :=
    inv_gone J nod at_ names look ⟨oL, es, ep, self, dL, rL⟩ ⟨by simp [Heap.update], other⟩
  refine tk _ _ ⟨e, B, _, pins, σ2.set i none, H2, cls, d, rfl, L2H.unsuiteX J2 ok, fun b o q nf => ?_, fun b o q nf => ?_, .inr (.inr ?_), na, os, ag, wv⟩
  · have bl : b ≠ X.env.locals := fun z => nf (by
      rw [stk, z]
      exact List.mem_filterMap.mpr ⟨X.env, List.mem_cons_self, by rw [frm]⟩)
    have q : (sI.heap.update X.env.locals fun _ => oL).get? b = some o := q
    rw [other b bl] at q
    exact nb b o q nf
  · have q : (sI.heap.update X.env.locals fun _ => oL).get? b = some o := q
    by_cases bl : b = X.env.locals
    · subst bl
      rw [self] at q
      cases q
      exact (up3.trans up4) _ _ eL nf
    · rw [other b bl] at q
      obtain ⟨sl, q1⟩ := (up.trans up1) b o q nf
      have q2 : h2.get? b = some { o with slots := sl } := (same.2 b bl).trans q1
      obtain ⟨sl2, q3⟩ := (up3.trans up4) b _ q2 nf
      exact ⟨sl2, q3⟩
  · rw [stk]
    exact ⟨st4, b02, ff4, tr4⟩
end
section
variable {X : Cx} {pins : List (Addr × Obj)} {σ : L2.St} {H : Hp} {s : Shared}
theorem name_at {M : Model} {A : Around} {E : Value → Shared → Prop} {i : Nat} {n : Str} {v : V} {pos : Pos} {Q : Value → Shared → Prop} (I : Inv X pins σ H s) (at_ : X.N[i]? = some n) (has : σ[i]? = some (some v)) (vis : Vis X.env.scope n) (loc : X.env.kindOf n = some .local)
    (d1 : (n == ("__debug__" : Str)) = false) (h : ∀ u, RelV v u → Q u s) : wpAny M A (eval (.Name n pos) X.env) Q E s := by
  obtain ⟨m, names, look⟩ := I.loc
  obtain ⟨u, rel, way⟩ := look i n v at_ has vis
  rcases way with ⟨kd, q⟩ | ⟨kd, c, q, cellv⟩
  · exact wpAny_Name (wpAny_loadName_local I.ok.kind kd names q (h u rel)) d1
  · rw [loc] at kd
    rcases kd with kd | kd <;> cases kd
theorem ps_raiseHE {W : WX} {e : Expr} {t : L2.St → Hp → XK → Prop} {n : Str} {i : Nat} {a : Addr} {oe0 : Obj} {vs0 : Array Value} {cls0 : Value} {cpos pos : Pos} (tk : L2.Takes X W) (he : L2H.PMk5 X e t) (at_ : X.N[i]? = some n) (vis : Vis X.env.scope n) (loc : X.env.kindOf n = some .local)
    (d1 : (n == ("__debug__" : Str)) = false) (hh : X.A.handled = some (.ref a)) (pinned : (a, oe0) ∈ X.pn) (hc0 : oe0.cls = cls0) (hd0 : oe0.data = .fields vs0) (hx0 : vs0[2]? = some .none) (r0 : Raises X cls0) (nb : X.base.get? a = none) :
    PS X (.Raise (some e) (some (.Name n cpos)) pos) (fun _ σ H => σ[i]? = some (some (.ref a)) ∧ t σ H fun cls d H' => W cls d σ H') := by
  refine ⟨fun pins s σ H D I ⟨has, h⟩ => wpAny_Raise_from (wpAny_mono (he pins s σ H _ I h) (fun u s1 hu => ?_) (fun _ _ x => x))⟩
  obtain ⟨⟨x, oe, vs, sI, H', cls, d, rfl, J, k, hne, ha, hz, hd, h1, na, os, ag, r, q⟩, h5⟩ := hu
  have big : 4 < vs.size := h5 x oe vs rfl ha hd
  have Js : Inv X pins σ H' s1 := J.landed (B := sI.heap) (fun b o z _ => z) k (Heap.UpToSlots.of_keeps k) os ag
  refine name_at Js at_ has vis loc d1 fun u ru => ?_
  have ru : u = Value.ref a := ru
  subst ru
  obtain ⟨sub1, ty1⟩ := r (model X.prog X.w) sI.heap J.kIn
  obtain ⟨sub0, ty0⟩ := r0 (model X.prog X.w) X.base Js.ok.mod.kin
  have P1 : s1.heap.get? a = some oe0 := (Js.pin (a, oe0) (List.mem_append_left _ pinned)).1
  have P0 : sI.heap.get? a = some oe0 := (J.pin (a, oe0) (List.mem_append_left _ pinned)).1
  have ax : a ≠ x := fun z => by
    rw [z, hne] at P0
    cases P0
  have R : RaiseAt (model X.prog X.w) sI.heap s1.heap x oe vs cls := ⟨ha, hz.1, hd, k, hne, sub1, ty1⟩
  have R3 := R.set 3 (.ref a)
  have R4 := R3.set 4 (.bool true)
  refine raise_from_tree R big (.inr ⟨a, oe0, vs0, cls0, rfl, X.base, ⟨P1, hc0, hd0, Js.bk, nb, sub0, ty0⟩⟩) ?_
  have v1 : ((vs.setIfInBounds 3 (.ref a)).setIfInBounds 4 (.bool true))[1]? = some Value.none := HotX.set_other (by decide) (HotX.set_other (by decide) h1)
  refine setFlight_fresh (s := { s1 with heap := (s1.heap.update x (Obj.mapFields (·.setIfInBounds 3 (.ref a)))).update x (Obj.mapFields (·.setIfInBounds 4 (.bool true))) }) R4.at_ R4.dat v1 ?_
  have hot : HotX.HotAt X.A a ((s1.heap.update x (Obj.mapFields (·.setIfInBounds 3 (.ref a)))).update x (Obj.mapFields (·.setIfInBounds 4 (.bool true)))) :=
    ⟨hh, oe0, vs0, by rw [Heap.get?_update_other _ _ (Ne.symm ax), Heap.get?_update_other _ _ (Ne.symm ax)]; exact P1, hd0, hx0⟩
  refine HotX.raiseNew_hot (s := { s1 with heap := (s1.heap.update x (Obj.mapFields (·.setIfInBounds 3 (.ref a)))).update x (Obj.mapFields (·.setIfInBounds 4 (.bool true))) }) hot ax R4.at_ R4.dat (by rw [HotX.set_size, HotX.set_size]; omega) ?_
  have R2 := R4.set 2 (.ref a)
  have v12 : (((vs.setIfInBounds 3 (.ref a)).setIfInBounds 4 (.bool true)).setIfInBounds 2 (.ref a))[1]? = some Value.none := HotX.set_other (by decide) v1
  refine tk _ _ (XE.new J (fun b u z => ?_) hne R2.at_ ⟨by rw [Obj.cls_mapFields, Obj.cls_mapFields, Obj.cls_mapFields]; exact hz.1, by rw [HandSPX.dict_mapFields, HandSPX.dict_mapFields, HandSPX.dict_mapFields]; exact hz.2.1⟩ R2.dat v12 na os ag q)
  exact R2.keep b u z
end
abbrev suiteY (X : Cx) (a : Addr) (pn : List (Addr × Obj)) (xe : Value → Shared → Prop) : Cx := { X with A := X.A.mark (some (.ref a)), calm := false, pn := pn, xe := xe }
def wFrom (K : PySem.W.Frag) (c c0 : Value) (i : Nat) (t : L2.St → Hp → XK → Prop) (Wout : WX) : WX := fun cls d σ H => ∃ b, PySem.W.exmOne K cls c = some b ∧ (b = true → cls = c0 ∧ ∀ a, H a = none → t (σ.set i (some (.ref a))) H fun cls1 d1 H1 => Wout cls1 d1 ((σ.set i (some (.ref a))).set i none) H1) ∧ (b = false → Wout cls d σ H)
section
variable {X : Cx} {x n : Str} {c c0 : Value} {i : Nat} {body : List Stmt} {e : Expr} {np cpos rpos pos pos' : Pos} {tb : WX → TS} {t : L2.St → Hp → XK → Prop} {Wout : WX}
theorem ps_tryFrom (stk : X.stack = X.env :: X.outer) (frm : X.env.frame = some X.env.locals) (cl : Names X x c) (nod : X.N.Nodup) (at_ : X.N[i]? = some n) (loc : X.env.kindOf n = some .local) (vis : Vis X.env.scope n) (d1 : (n == ("__debug__" : Str)) = false) (tk : L2.Takes X Wout)
    (hb : ∀ (W : WX) (pn : List (Addr × Obj)) (xe : Value → Shared → Prop), L2N.Takes (X.tr pn xe) W → L2.Takes (X.tr pn xe) (L2H.wPass X.K c Wout) → PassesOwn (model X.prog X.w) X.A X.env xe → PSs (X.tr pn xe) body (tb W))
    (r0 : Raises X c0)
    (he : ∀ (a : Addr) (oe : Obj) (pn : List (Addr × Obj)) (xe : Value → Shared → Prop), L2H.HotC (suiteY X a ((a, oe) :: pn) xe) → L2H.PMk5 (suiteY X a ((a, oe) :: pn) xe) e t) :
    PS X (.Try body [.ExceptHandler (some (.Name x np)) (some n) [.Raise (some e) (some (.Name n cpos)) rpos] pos'] [] [] pos) (fun D σ H => tb (wFrom X.K c c0 i t Wout) D σ H) := by
  refine ⟨fun pins s σ H D I h => ?_⟩
  have okX := I.ok
  have frs0 : X.A.frames = some (X.env :: X.outer) := by rw [okX.frames, stk]
  have notFr : ∀ {B h : Heap} {a : Addr} {o : Obj} {vs : Array Value}, h.FunFrames B (X.env :: X.outer) → h.get? a = some o → o.data = .fields vs → a ∉ frs (X.env :: X.outer) := fun {B h a o vs} ff q dd hm => by
    obtain ⟨_, o1, q1, hnf⟩ := ff.mem hm
    rw [q] at q1
    cases q1
    exact hnf _ dd
  have on : ∀ {a : Addr} {B : Heap} {sI s1 : Shared} {σ1 : L2.St} {H1 : Hp} {cls : Value} {d : Option Addr} {h3 : Heap}, Inv X pins σ1 H1 sI → (∀ b o, sI.heap.get? b = some o → b ∉ frs X.stack → B.get? b = some o) → sI.heap.UpToSlots h3 →
      HandSPX.FlyingZ B (X.env :: X.outer) a (Zc cls d) h3 → H1 a = none → s1.os = sI.os → AllBare s1.gens → Wout cls d σ1 H1 → wpAny (model X.prog X.w) X.A (handleBy (.ref a) X.env []) (SP X pins D) X.xe { s1 with heap := h3 } := by
    intro a B sI s1 σ1 H1 cls d h3 J nb up fl3 na os ag wv
    refine wpAny_handleBy_nil ?_
    obtain ⟨_, _, _, oe, vs, tb0, oT, ts0, at3, hz, dat, v1, rest⟩ := id fl3
    have fin : wpAny (model X.prog X.w) X.A (setFlight (.ref a) X.env.frame) (fun _ s4 => wpAny (model X.prog X.w) X.A (throw (.ref a) : Sem Flow) (SP X pins D) X.xe s4) X.xe { s1 with heap := h3 } := by
      rw [frm]
      exact HandSPX.setFlight_upZ fl3 fun h4 hh4 up4 => wpAny_throw (tk _ _ ⟨a, B, sI, pins, σ1, H1, cls, d, rfl, J, nb, up.trans up4, .inr (.inr (by rw [stk]; exact hh4)), na, os, ag, wv⟩)
    unfold PySem.passOn
    refine wpAny_bind (wpAny_field at3 dat v1 ?_)
    rw [if_neg (show ¬ ((Value.ref tb0 == Value.none) = true) by simp)]
    first | exact wpAny_bind (wpAny_pure (wpAny_bind fin)) | exact wpAny_bind fin
  refine wpAny_Try_except (wpAny_mono ((hb (wFrom X.K c c0 i t Wout) (X.pn ++ pins) (fun u s₁ => wpAny (model X.prog X.w) X.A (noteFrame u X.env) (fun _ s₂ => wpAny (model X.prog X.w) X.A (setFlight u none) (fun _ s₃ => wpAny (model X.prog X.w) X.A (handleBy u X.env [.ExceptHandler (some (.Name x np)) (some n) [.Raise (some e) (some (.Name n cpos)) rpos] pos']) (SP X pins D) X.xe s₃) X.xe s₂) X.xe s₁) (fun u s1 xx => ?_) (fun u s1 xx => ?_) PassesOwn.looking).run [] s σ H D (I.toTry _) h) (fun f s1 done => ?_) (fun _ _ z => z))
  · -- one without a context
    obtain ⟨a, B, sI, pins1, σ1, H1, cls, d, rfl, J0, nb, up, sky, na, os, ag, b, hb1, yes, no⟩ := xx
    have J : Inv X pins σ1 H1 sI := J0.ofTry okX
    have sky : Sky B X.stack a (L2N.Zn cls d) X.env.locals s1.heap := sky
    rw [stk] at sky
    have Ba : B.get? a = none := by
      rcases sky with q | q | q
      · exact q.2.1
      · exact q.2.1
      · exact q.2.1
    show wpAny (model X.prog X.w) X.A (noteFrame (.ref a) X.env) _ _ _
    refine L2N.Sky.land L2N.Zn.steady frs0 frm sky fun h3 fl3 up3 => ?_
    have J3 : Inv X pins σ1 H1 { s1 with heap := h3 } := J.landed nb fl3.1 (up.trans up3) os ag
    obtain ⟨oe3, vs3, at3, zn3, dat3⟩ := fl3.there
    have nfr : a ∉ frs (X.env :: X.outer) := notFr fl3.2.2.1 at3 dat3
    have nL : a ≠ X.env.locals := fun z => nfr (List.mem_filterMap.mpr ⟨X.env, List.mem_cons_self, by rw [frm, z]⟩)
    have nF : a ∉ X.fs := fun hm => by
      obtain ⟨e1, he1, q⟩ := List.mem_filterMap.mp hm
      exact nfr (List.mem_filterMap.mpr ⟨e1, List.mem_cons_of_mem _ he1, q⟩)
    have S3 := J3.suite at3 dat3 na nL nF
    have LT : PySem.W.Looks (model X.prog X.w) h3 (typeOf (.ref a)) cls := fun A Q E s k q => wpAny_typeOf_ref (k _ _ at3) (by rw [zn3.1]; exact q)
    have LM := PySem.W.exm_one (M := model X.prog X.w) J3.kIn LT hb1
    refine wpAny_handleBy_cons (codeAny_handlers_test ?_) (by intro q; cases q)
    have name : ∀ {Q : Value → Shared → Prop} {E : Value → Shared → Prop}, Q c { s1 with heap := h3 } → wpAny (model X.prog X.w) (X.A.mark (some (.ref a))) (eval (.Name x np) X.env) Q E { s1 with heap := h3 } := fun {Q E} q => by
      obtain ⟨hg, hdbg, hm | ⟨hm, hv, hnn⟩⟩ := cl
      · exact ld_glob (X := X.suite a ((a, oe3) :: (X.pn ++ pins))) S3 hg hm q hdbg
      · exact ld_blt (X := X.suite a ((a, oe3) :: (X.pn ++ pins))) S3 hg hm hv q hnn hdbg
    refine name (LM.here ?_)
    cases b with
    | false =>
      show wpAny _ X.A (handleBy (.ref a) X.env []) _ _ _
      exact on J nb (up.trans up3) (L2H.flyingZ_imp (fun o z => z.zc) fl3) na os ag (no rfl)
    | true =>
      obtain ⟨ec, goes⟩ := yes rfl
      subst ec
      have yes := goes a na
      refine codeAny_handlers_suite_as (HandSPX.lands_againZ fl3 fun h4 fl4 up4 => ?_)
      have J4 : Inv X pins σ1 H1 { s1 with heap := h4 } := J.landed nb fl4.1 ((up.trans up3).trans up4) os ag
      obtain ⟨oe4, vs4, at4, zn4, dat4⟩ := fl4.there
      have S4 := J4.suite at4 dat4 na nL nF
      have lc : Loc X.env.scope n := .inl loc
      refine store_ok (X := X.suite a ((a, oe4) :: (X.pn ++ pins))) (v := .ref a) S4 nod at_ lc rfl (fun s5 S5 => ?_) (.inr loc)
      have nb0 : X.base.get? a = none := by
        cases q : X.base.get? a with
        | none => rfl
        | some o =>
          have := nb a o (J.bk a o q) (by rw [stk]; exact nfr)
          rw [Ba] at this
          cases this
      have S6 : Inv (suiteY X a ((a, oe4) :: (X.pn ++ pins)) (fun u s' => L2.XE (L2H.suiteX X a ((a, oe4) :: (X.pn ++ pins))) (fun cls d σ H => Wout cls d (σ.set i none) H) u s')) [] (σ1.set i (some (.ref a))) H1 s5 :=
        Inv.wish (X := L2H.suiteX X a ((a, oe4) :: (X.pn ++ pins))) (L2H.suiteX_of S5) _
      have tkY : L2.Takes (suiteY X a ((a, oe4) :: (X.pn ++ pins)) (fun u s' => L2.XE (L2H.suiteX X a ((a, oe4) :: (X.pn ++ pins))) (fun cls d σ H => Wout cls d (σ.set i none) H) u s')) (fun cls d σ H => Wout cls d (σ.set i none) H) := fun u2 s2 x2 => by
        obtain ⟨a2, B2, sI2, pn2, σ2, H2, cls2, d2, e2, I2, nb2, up2, sky2, na2, os2, ag2, w2⟩ := x2
        exact ⟨a2, B2, sI2, pn2, σ2, H2, cls2, d2, e2, Inv.unwish (X := L2H.suiteX X a ((a, oe4) :: (X.pn ++ pins))) I2, nb2, up2, sky2, na2, os2, ag2, w2⟩
      have hot : L2H.HotC (suiteY X a ((a, oe4) :: (X.pn ++ pins)) (fun u s' => L2.XE (L2H.suiteX X a ((a, oe4) :: (X.pn ++ pins))) (fun cls d σ H => Wout cls d (σ.set i none) H) u s')) := ⟨(a, oe4), ⟨rfl, vs4, dat4, zn4.2.2 vs4 dat4⟩, List.mem_cons_self⟩
      have hlt : i < σ1.length := by
        rw [J.len]
        exact (List.getElem?_eq_some_iff.mp at_).1
      have R := ps_raiseHE (cpos := cpos) (pos := rpos) tkY (he a oe4 (X.pn ++ pins) _ hot) at_ vis loc d1 rfl List.mem_cons_self zn4.1 dat4 (zn4.2.2 vs4 dat4) r0 nb0
      refine wpAny_mono ((pss_one R).run [] s5 _ _ { nx := fun _ _ => False, rt := fun _ _ => False, bk := fun _ _ => False, ct := fun _ _ => False } S6 ⟨by rw [List.getElem?_set_self hlt], yes⟩) (fun f s7 q7 => ?_) (fun u s7 q7 => ?_)
      · cases f with
        | next => exact let ⟨_, _, _, z⟩ := q7; z.elim
        | brk => exact let ⟨_, _, _, z⟩ := q7; z.elim
        | cont => exact let ⟨_, _, _, z⟩ := q7; z.elim
        | ret u => exact let ⟨_, _, _, _, _, z⟩ := q7; z.elim
      · exact as_tail okX stk frm nod at_ loc tk q7
  · -- any other
    obtain ⟨a, B, sI, pins1, σ1, H1, cls, d, rfl, J0, nb, up, sky, na, os, ag, hb1, hno⟩ := xx
    have J : Inv X pins σ1 H1 sI := J0.ofTry okX
    have sky : Sky B X.stack a (Zc cls d) X.env.locals s1.heap := sky
    rw [stk] at sky
    show wpAny (model X.prog X.w) X.A (noteFrame (.ref a) X.env) _ _ _
    refine L2.Sky.land Zc.steady frs0 frm sky fun h3 fl3 up3 => ?_
    have J3 : Inv X pins σ1 H1 { s1 with heap := h3 } := J.landed nb fl3.1 (up.trans up3) os ag
    obtain ⟨oe3, vs3, at3, zc3, dat3⟩ := fl3.there
    have nfr : a ∉ frs (X.env :: X.outer) := notFr fl3.2.2.1 at3 dat3
    have nL : a ≠ X.env.locals := fun z => nfr (List.mem_filterMap.mpr ⟨X.env, List.mem_cons_self, by rw [frm, z]⟩)
    have nF : a ∉ X.fs := fun hm => by
      obtain ⟨e1, he1, q⟩ := List.mem_filterMap.mp hm
      exact nfr (List.mem_filterMap.mpr ⟨e1, List.mem_cons_of_mem _ he1, q⟩)
    have S3 := J3.suite at3 dat3 na nL nF
    have LT : PySem.W.Looks (model X.prog X.w) h3 (typeOf (.ref a)) cls := fun A Q E s k q => wpAny_typeOf_ref (k _ _ at3) (by rw [zc3.1]; exact q)
    have LM := PySem.W.exm_one (M := model X.prog X.w) J3.kIn LT hb1
    refine wpAny_handleBy_cons (codeAny_handlers_test ?_) (by intro q; cases q)
    have name : ∀ {Q : Value → Shared → Prop} {E : Value → Shared → Prop}, Q c { s1 with heap := h3 } → wpAny (model X.prog X.w) (X.A.mark (some (.ref a))) (eval (.Name x np) X.env) Q E { s1 with heap := h3 } := fun {Q E} q => by
      obtain ⟨hg, hdbg, hm | ⟨hm, hv, hnn⟩⟩ := cl
      · exact ld_glob (X := X.suite a ((a, oe3) :: (X.pn ++ pins))) S3 hg hm q hdbg
      · exact ld_blt (X := X.suite a ((a, oe3) :: (X.pn ++ pins))) S3 hg hm hv q hnn hdbg
    refine name (LM.here ?_)
    show wpAny _ X.A (handleBy (.ref a) X.env []) _ _ _
    exact on J nb (up.trans up3) fl3 na os ag hno
  · cases f with
    | next => exact let ⟨_, _, J, q⟩ := done; wpAny_execs_nil ⟨_, _, J.ofTry okX, q⟩
    | brk => exact let ⟨_, _, J, q⟩ := done; ⟨_, _, J.ofTry okX, q⟩
    | cont => exact let ⟨_, _, J, q⟩ := done; ⟨_, _, J.ofTry okX, q⟩
    | ret u => exact let ⟨_, _, _, J, r, q⟩ := done; ⟨_, _, _, J.ofTry okX, r, q⟩
end
end DRf

/-! i // j that may raise; own exceptions over any base, made while another is handled -/
namespace DRd
open PySem PySem.Spec PyProof.Rows L2
theorem ty_zde : typeOf (.type "ZeroDivisionError") = pure (.type "type") := by kernel_rfl
theorem raises_zde {X : Cx} : Raises X (.type "ZeroDivisionError") := fun _ _ _ => ⟨PySem.W.Looks.of_pure excClass_ZeroDivisionError.base, PySem.W.Looks.of_pure ty_zde⟩
theorem exm_zde {K : PySem.W.Frag} : PySem.W.exmOne K (.type "ZeroDivisionError") (.type "ZeroDivisionError") = some true := by kernel_rfl
theorem okH {P : Program} {w : World} {K : PySem.W.Frag} {mg : Str → Option Value} {base : Heap} {CX : CXT} {x qual : Str} {st : Stmt} {f : Addr} {fd : FuncData} {N ps : List Str} {k : Nat} {sp : Sp} (F : Fun K x qual st f fd) (S : FnScope N ps (defScope st)) (len : ∀ vs H Q E, sp vs H Q E → vs.length = ps.length)
    (hbody : ∀ (cdv : Value) (A : Around) (outer : List Env) (s : Shared) (H : Hp) (vs : List V) (Q : VK) (E : XK) (p : Addr × Obj), L2H.Hot1 A p → L2H.RoomH k (A.deeper (envOfC qual (defScope st) s.heap.objs.size f cdv)) → sp vs H Q E →
      ∃ t, PSs (L2H.cxH CX P w K mg base N qual (defScope st) f cdv A outer s H E p) (defBody st) t ∧ t { nx := fun _ H' => Q .non H', rt := Q } (L2.start N vs) H) : L2H.FnH P w K mg base CX (k + 1) f fd ps sp := by
  obtain ⟨oc, od, kV, doc, pm, an, cdv, ct, osl, rfl, lk, hcd⟩ := F.ex
  exact L2H.fn_ofH lk hcd S len fun A outer s H vs Q E p hot hr hsp => hbody cdv A outer s H vs Q E p hot hr hsp
def tDivX (W : WX) (ta tb : TE) : TE := fun σ H Q => ta σ H fun x H1 => tb σ H1 fun y H2 => ∃ i j : Int, x = .int i ∧ y = .int j ∧ (0 ≤ j ∧ j < 1073741824) ∧ (0 < j → Q (.int (i / j)) H2) ∧ (j = 0 → ∀ d, W (.type "ZeroDivisionError") d σ H2)
section
variable {X : Cx} {W : WX} {a b : Expr} {ta tb : TE} {pos : Pos}
theorem pe_divX (hc : X.calm = true) (tk : L2N.Takes X W) (ha : PE X a ta) (hb : PE X b tb) : PE X (.BinOp a .FloorDiv b pos) (tDivX W ta tb) := by
  refine ⟨fun pins s σ H Q I h => wpAny_BinOp (binT ha hb I (R := fun x y H2 => ∃ i j : Int, x = .int i ∧ y = .int j ∧ (0 ≤ j ∧ j < 1073741824) ∧ (0 < j → Q (.int (i / j)) H2) ∧ (j = 0 → ∀ d, W (.type "ZeroDivisionError") d σ H2)) h fun v u s2 x y H2 I2 rx ry q => ?_)⟩
  obtain ⟨i, j, rfl, rfl, j0, yes, no⟩ := q
  by_cases hj : j = 0
  · subst hj
    obtain ⟨t1, rfl⟩ := rx
    obtain ⟨t2, rfl⟩ := ry
    exact PySem.AutoIntOps.floordiv_0 (by rfl) ⟨I2.ok.hd hc, fun h' tk' e hx => L2N.takes_newN (t' := tk') tk I2 hx (no rfl)⟩
  · exact op_fdiv pins s2 σ H2 (.int i) (.int j) v u Q I2 rx ry ⟨i, j, rfl, rfl, ⟨by omega, by omega⟩, yes (by omega)⟩
end
section
variable {X : Cx} {e : Expr} {es : List Expr} {ta : TA} {p pos : Pos} {B newId initId : String} {bmB : List Value}
theorem pmk5_oexBH {CX : CXT} {x : Str} {C fI : Addr} {k : Nat} {fd : FuncData} {ps : List Str} {sp : Sp} (BF : DXg.BaseX B newId initId bmB) (T : DXg.OexB X.K C newId bmB) (iC : PySem.W.findIn X.K (.ref C) "__init__" = some (some (.ref fI))) (tI : PySem.W.typeIn X.K (.ref fI) = some (.type "function"))
    (F1 : L2H.FnH X.prog X.w X.K X.mg X.base CX k fI fd ps sp) (hr : L2H.RoomH (k + 1) X.A) (hot : L2H.HotC X) (hb : Binds X.K fd ps []) (hx : Passes CX X (fun _ _ _ => False)) (hg : Gl X x) (hm : X.mg x = some (.ref C)) (ha : PA X (e :: es) ta)
    (hdb : (x == ("__debug__" : Str)) = false := by decide) (he : starEach (e :: es) X.env = (false, eval e X.env) :: starEach es X.env := by rfl) (hpl : (backTo pos (starEach es X.env)).any (·.1) = false := by rfl) :
    L2H.PMk5 X (.Call (.Name x p) (e :: es) [] pos) (tMkO C sp [] ta) := by
  intro pins s σ H Q I h
  obtain ⟨nm, q, N, bs, bm, sn, sub, ab, col, dd, k0, k1, k2, k3, k5, hlk, ht⟩ := T.cls
  obtain ⟨pn, warm, hpn⟩ := hot
  refine wpAny_Call_Name_kw (ld_glob I hg hm (PySem.W.callWith_K (h₀ := X.base) I.ok.mod.kin T.kC (thn (ha.run pos pins s σ H _ I h) fun us s1 ⟨vs, H1, I1, r1, hz, q1⟩ => ⟨I1.kIn, ?_⟩) he hpl) hdb)
  show wpAny _ _ (call (.ref C) us) _ _ _
  obtain ⟨hp, g, dr, tk, os⟩ := s1
  have sz : hp.objs.size ≤ hp.objs.size + 1 := Nat.le_succ _
  have hn : H1 (hp.objs.size + 1) = none := I1.hok.fresh sz
  have hq := q1 (hp.objs.size + 1) hn
  rw [List.append_nil] at hq
  obtain ⟨h3, eh3⟩ : ∃ h3, h3 = (hp.push (PySem.W.kdv_tup us)).push (PySem.HandSPX.excO C hp.objs.size) := ⟨_, rfl⟩
  have kp : ∀ c o, hp.get? c = some o → h3.get? c = some o := fun c o e => by rw [eh3]; exact Heap.get?_push_of_some _ (Heap.get?_push_of_some _ e)
  have got : h3.get? (hp.objs.size + 1) = some (PySem.HandSPX.excO C hp.objs.size) := by rw [eh3]; heap_get
  have I2 : Inv X pins σ (upd H1 (hp.objs.size + 1) (exo (hp.objs.size + 1) C none)) ⟨h3, g, dr, tk, os⟩ := I1.laid (t' := tk) kp sz (exo_ok got)
  have r2 : Vals (V.ref (hp.objs.size + 1) :: vs) (Value.ref (hp.objs.size + 1) :: us) := .cons rfl r1
  have hl : (Value.ref (hp.objs.size + 1) :: us ++ []).length = ps.length := by
    have e := r2.length
    rw [F1.len _ _ _ _ hq] at e
    rw [List.append_nil]
    exact e.symm
  have hus : us.length ≤ sizeLine := by
    rw [← Paired.length r1, sizeLine_eq]
    omega
  have b2 := hb ⟨h3, g, dr, tk, os⟩ (Value.ref (hp.objs.size + 1) :: us) I2.kIn hl
  rw [List.append_nil] at b2
  have P1 := I2.pin pn (List.mem_append_left _ hpn)
  have there : L2H.PinOk X.stack (upd H1 (hp.objs.size + 1) (exo (hp.objs.size + 1) C none)) ⟨h3, g, dr, tk, os⟩ pn :=
    ⟨P1.1, P1.2.1, fun hmm => (List.mem_cons.mp (I2.stkSub pn.1 hmm)).elim P1.2.2.1 P1.2.2.2.1, P1.2.2.2.2⟩
  refine wpAny_call (PySem.HandSPX.call_own BF.eb (fun Y => PySem.W.excTail_contains Y bm ht) (I1.kIn _ _ hlk) (PySem.W.looks_findIn I1.kIn iC) (fun self => PySem.W.bind_fn I1.kIn self tI) hus ?_)
  rw [← eh3]
  refine codeAny_mono (F1.run _ X.stack _ _ ⟨Value.ref (hp.objs.size + 1) :: us, []⟩ (Value.ref (hp.objs.size + 1) :: us) _ _ (fun _ _ _ => False) pn (hr.make C us []) ⟨warm.1, warm.2⟩ there (I2.env0.make C us []) b2 r2 hq) fun r s2 hq2 => ?_
  cases r with
  | error er => exact hx pins σ _ _ er s2 I2 hq2
  | ok fl =>
    cases fl with
    | ret u =>
      obtain ⟨v, H2, os2, bare2, un2, hok2, rv, ev, d, fs, ea, ed, hd1, q2⟩ := hq2
      subst ev
      obtain ⟨h2, g2, d2, t2, os'⟩ := s2
      obtain ⟨t0, G, J, kG, ge, hoe, na⟩ := mk_end0 (d2 := d2) (t2 := t2) I1 sz kp un2 hok2 os2 bare2 ea ed hd1
      refine ⟨rv, ⟨hp.objs.size + 1, _, _, ⟨G, g2, d2, t2, os'⟩, _, .ref C, some d, rfl, J, kG, ge, hoe, ⟨rfl, rfl, fun vs hv => ?_⟩, rfl, rfl, na, rfl, bare2, raises_own T.exC T.tyC, q2⟩, fun b oe ws eb gb db => ?_⟩
      · cases hv
        rfl
      · cases eb
        have gb : h2.get? (hp.objs.size + 1) = some oe := gb
        rw [hoe] at gb
        cases gb
        cases db
        show (4 : Nat) < 6
        decide
    | _ => exact False.elim hq2
end
end DRd
namespace DL
open PySem PySem.Spec PyProof.Rows L2
section
variable {K : PySem.W.Frag} {Δ : Sl} {G L : List M} {E : EndsD} {ta tb : TE}
theorem st_divX {Wi : WX} {k : Nat} (h : EvC K ta Δ G L fun x G1 L1 => EvC K tb Δ G1 L1 fun y G2 Lb => ∃ i j : Int, x = .d (.int i) ∧ y = .d (.int j) ∧ (0 ≤ j ∧ j < 1073741824) ∧ (0 < j → E.nx (Δ.set k (some (.d (.int (i / j))))) G2 Lb) ∧
    (j = 0 → ∀ w ls H, E.wd w ls H → ∀ σ d, Ctx K w ls σ H Δ G2 Lb → Wi (.type "ZeroDivisionError") d σ H)) : StC K (tAsg (DRd.tDivX Wi ta tb) (gName k)) Δ G L E := fun w ls σ H c D s => h w ls σ H c _ fun v x H1 G1 L1 c1 e1 r1 h2 => h2 w ls σ H1 c1 _ fun u y H2 G2 Lb c2 e2 r2 ⟨i, j, ex, ey, hj, yes, no⟩ => by
  subst ex
  subst ey
  obtain rfl : v = V.int i := r1
  obtain rfl : u = V.int j := r2
  refine ⟨i, j, rfl, rfl, hj, fun z => ?_, fun z d => ?_⟩
  · exact s.nx ls _ H2 _ G2 Lb (c2.slot (s := .d (.int (i / j))) rfl) ((e1.trans e2).grow c.reg) (yes z)
  · exact no z w ls H2 (s.wd ls H2 ((e1.trans e2).grow c.reg)) σ d c2
theorem Ctx.hideS {w : W} {ls : List Addr} {σ : L2.St} {H : Hp} {i : Nat} {v : V} (c : Ctx K w ls σ H Δ G L) : Ctx K w ls (σ.set i (some v)) H (Δ.set i none) G L := by
  refine ⟨c.reg, c.rin, c.nd, c.fr, c.h0, ⟨by rw [List.length_set, List.length_set, c.sl.1], fun j z e => ?_⟩, c.gl, c.lo, c.ld⟩
  rw [List.getElem?_set] at e ⊢
  split at e
  · split at e <;> cases e
  · rename_i hij
    rw [if_neg hij]
    exact c.sl.2 j z e
theorem st_tryFrom {c : Value} {i : Nat} {t : L2.St → Hp → XK → Prop} {Wo : WX} {tb : WX → TS} (Qs : Sl → List M → List M → Prop) (hx : PySem.W.exmOne K (.type "ZeroDivisionError") c = some true)
    (h : ∀ Wi : WX, StC K (tb Wi) Δ G L { E with wd := fun w ls H => ∀ (σ : L2.St) (Δ' : Sl) (G' L' : List M) (d : Option Addr), Ctx K w ls σ H Δ' G' L' → Qs Δ' G' L' → Wi (.type "ZeroDivisionError") d σ H })
    (hs : ∀ Δ' G' L', Qs Δ' G' L' → StC K (fun _ σ H => t σ H fun cls d H' => Wo cls d (σ.set i none) H') (Δ'.set i none) G' L' E) : StC K (fun D σ H => tb (DRf.wFrom K c (.type "ZeroDivisionError") i t Wo) D σ H) Δ G L E := fun w ls σ H cx D s => by
  refine h (DRf.wFrom K c (.type "ZeroDivisionError") i t Wo) w ls σ H cx D ⟨s.nx, s.rt, s.bk, s.ct, fun ls' H' g' => ?_⟩
  intro σ' Δ' G' L' d c' q
  refine ⟨true, hx, fun _ => ⟨rfl, fun a na => ?_⟩, fun e => (by cases e)⟩
  exact hs Δ' G' L' q w ls' (σ'.set i (some (.ref a))) H' c'.hideS D (s.on g')
end
end DL

open PySem L2 DL
local macro_rules | `(tactic| walk_at "side") => `(tactic| first | assumption | omega | rfl | (refine ⟨?_, ?_⟩ <;> omega) | decide)
local macro_rules | `(tactic| walk_at "d1") => `(tactic| with_reducible first
  | walk_at "own"
  | refine evc_int ?_
  | refine evc_str ?_
  | refine evc_bl ?_
  | refine evc_non ?_
  | refine evc_ref ?_
  | refine evc_ty ?_
  | refine evc_op ?_
  | refine eva_nil ?_
  | refine eva_cons ?_
  | refine evb_test ?_
  | refine evb_B ?_
  | refine evb_and ?_
  | refine evb_or ?_
  | refine evb_not ?_
  | refine evb_yes ?_
  | refine evc_if ?_
  | refine evc_andV ?_
  | refine evc_orV ?_
  | refine evc_notV ?_
  | refine evc_chain ?_
  | refine evc_cb ?_
  | refine evc_sl ?_
  | refine evo_none ?_
  | refine evo_some ?_
  | refine evc_bm ?_
  | refine evc_bm0 ?_
  | refine evc_m0 ?_
  | refine evc_m1 ?_
  | refine evc_call ?_
  | refine st_seq ?_
  | refine st_next ?_
  | refine st_break ?_
  | refine st_cont ?_
  | refine st_asg ?_
  | refine st_asgT ?_
  | refine st_if ?_
  | refine st_ret ?_
  | refine st_retN ?_
  | refine st_drop ?_
  | (refine tg_name ?hi ?_; (case hi => first | exact trivial | decide | (show _ ∈ _; decide)))
  | refine tgs_nil ?_
  | refine tgs_cons ?_
  | refine tg_sub ?_
  | refine evc_tup ?_
  | refine evi_seq ?_
  | refine evi_rng1 ?_
  | refine evi_rng2 ?_
  | (refine evn_c ?_; refine evn_lst ?_)
  | (refine evn_c ?_; refine evn_revU ?_)
  | refine evn_lst ?_
  | refine evn_revU ?_
  | refine evn_cb ?_
  | refine evn_sl ?_
  | refine evn_op ?_
  | refine u_add_i ?_
  | refine opc_I0i ?_
  | refine pow10_6 ?_
  | refine pow10_9 ?_
  | refine pow10_12 ?_
  | refine pow10_15 ?_
  | refine pow10_18 ?_
  | refine pow10_39 ?_
  | refine opc_I0b ?_
  | refine u_eq_i ?_
  | refine u_ne_i ?_
  | refine u_eq_s ?_
  | refine u_ne_s ?_
  | refine ap_int ?_
  | refine ap_intB ?_
  | refine ap_max2 ?_
  | refine ap_min2 ?_
  | refine u_isB ?_
  | refine u_notB ?_
  | refine u_eq_b ?_
  | refine u_ne_b ?_
  | refine isi_ii ?_
  | refine isi_ib ?_
  | refine isi_bb ?_
  | refine isi_bi ?_
  | refine isi_tt ?_
  | refine isi_ss ?_
  | refine st_augS ?_
  | refine opc_ip ?_
  | refine asv_v ?_
  | refine evc_neg ?_
  | refine ⟨_, rfl, ?_⟩
  | refine iteTT ?_
  | refine iteFF ?_
  | refine iteNT ?_
  | refine iteNF ?_)
local macro_rules | `(tactic| walk_at "seq") => `(tactic| first | (refine ⟨_, rfl, ?_⟩) | (refine ⟨_, lsG_g (by assumption), ?_⟩) | (refine ⟨_, lsG_l (by assumption), ?_⟩) | (refine ⟨_, seqG_g (by assumption), ?_⟩) | (refine ⟨_, seqG_l (by assumption), ?_⟩) | (refine ⟨_, hlG_g (by assumption), ?_⟩))
local macro_rules | `(tactic| walk_at "d2") => `(tactic| first
  | (with_reducible refine evc_varX ?_; refine ⟨_, rfl, ?_⟩)
  | (refine tg_tup ?hn ?_; (case hn => exact rfl); dsimp only [List.map])
  | (with_reducible refine u_mulT_i ?hc ?_; (case hc => first | exact mulL (by omega) (by omega) | exact mulR (by omega) (by omega)))
  | (with_reducible refine u_mul_i ?hc ?_; (case hc => first | exact mulL (by omega) (by omega) | exact mulR (by omega) (by omega)))
  | (with_reducible refine opc_Ii ?hc ?_; (case hc => first | omega | exact divW (by omega) (by omega)))
  | (with_reducible refine u_ix_hX ?_; walk_at "seq"; refine ⟨_, rfl, ?_⟩)
  | (with_reducible refine u_ix_gX ?_; walk_at "seq"; refine ⟨_, rfl, ?_⟩)
  | (with_reducible refine apn_c (ap_listX ?_); walk_at "seq")
  | (with_reducible refine ap_listX ?_; walk_at "seq")
  | (with_reducible refine ap_tupleX ?_; walk_at "seq")
  | (with_reducible refine ap_lenX ?_; walk_at "seq")
  | (with_reducible refine ap_lenS ?hx ?_; (case hx => walk_at "side"))
  | (with_reducible refine u_ne_nilX ?_; refine ⟨rfl, ?_⟩; walk_at "seq")
  | (with_reducible refine u_eq_nilX ?_; refine ⟨rfl, ?_⟩; walk_at "seq")
  | (with_reducible refine u_in_iX ?_; refine ⟨_, rfl, ?_⟩)
  | (with_reducible refine u_in_sX ?_; refine ⟨_, rfl, ?_⟩)
  | (with_reducible refine u_nin_iX ?_; refine ⟨_, rfl, ?_⟩)
  | (with_reducible refine u_nin_sX ?_; refine ⟨_, rfl, ?_⟩)
  | (with_reducible refine opc_orl (opc_I0i ?_))
  | (with_reducible refine opn_c (u_add_lX ?_); walk_at "seq"; walk_at "seq")
  | (with_reducible refine u_add_lX ?_; walk_at "seq"; walk_at "seq")
  | (with_reducible refine opn_c (u_mulT_lX ?_); walk_at "seq"; refine ⟨⟨by omega, by omega, le_line (Nat.le_of_ble_eq_true rfl)⟩, ?_⟩)
  | (with_reducible refine opn_c (u_mul_lX ?_); walk_at "seq"; refine ⟨⟨by omega, by omega, le_line (Nat.le_of_ble_eq_true rfl)⟩, ?_⟩)
  | (refine ⟨le_line (Nat.le_of_ble_eq_true rfl), ?_⟩)
  | (refine ⟨tyS_l rfl, ?_⟩)
  | (refine ⟨tyS_g (by assumption), ?_⟩)
  | (refine ⟨_, rfl, ?_⟩)
  | (refine ⟨_, _, rfl, rfl, ?_⟩)
  | (refine ⟨_, _, rfl, ?_⟩)
  | (refine ⟨(rfl : noL _ = true), ?_⟩))
local macro_rules | `(tactic| walk_at "d3") => `(tactic| first
  | (with_reducible refine evc_varX ?_; refine ⟨_, rfl, ?_⟩)
  | (refine tg_tup ?hn ?_; (case hn => exact rfl); dsimp only [List.map])
  | (with_reducible refine u_mulT_i ?hc ?_; (case hc => first | exact mulL (by omega) (by omega) | exact mulR (by omega) (by omega)))
  | (with_reducible refine u_mul_i ?hc ?_; (case hc => first | exact mulL (by omega) (by omega) | exact mulR (by omega) (by omega)))
  | (with_reducible refine opc_Ii ?hc ?_; (case hc => first | omega | exact divW (by omega) (by omega)))
  | (with_reducible refine apn_c (ap_listX ?_); walk_at "seq")
  | (with_reducible refine ap_listX ?_; walk_at "seq")
  | (with_reducible refine ap_tupleX ?_; walk_at "seq")
  | (with_reducible refine ap_lenX ?_; walk_at "seq")
  | (with_reducible refine ap_lenS ?hx ?_; (case hx => walk_at "side"))
  | (with_reducible refine u_ne_nilX ?_; refine ⟨rfl, ?_⟩; walk_at "seq")
  | (with_reducible refine u_eq_nilX ?_; refine ⟨rfl, ?_⟩; walk_at "seq")
  | (with_reducible refine u_in_iX ?_; refine ⟨_, rfl, ?_⟩)
  | (with_reducible refine u_in_sX ?_; refine ⟨_, rfl, ?_⟩)
  | (with_reducible refine u_nin_iX ?_; refine ⟨_, rfl, ?_⟩)
  | (with_reducible refine u_nin_sX ?_; refine ⟨_, rfl, ?_⟩)
  | (with_reducible refine opc_orl (opc_I0i ?_))
  | (with_reducible refine opn_c (u_add_lX ?_); walk_at "seq"; walk_at "seq")
  | (with_reducible refine u_add_lX ?_; walk_at "seq"; walk_at "seq")
  | (with_reducible refine opn_c (u_mulT_lX ?_); walk_at "seq"; refine ⟨⟨by omega, by omega, le_line (Nat.le_of_ble_eq_true rfl)⟩, ?_⟩)
  | (with_reducible refine opn_c (u_mul_lX ?_); walk_at "seq"; refine ⟨⟨by omega, by omega, le_line (Nat.le_of_ble_eq_true rfl)⟩, ?_⟩)
  | (refine ⟨le_line (Nat.le_of_ble_eq_true rfl), ?_⟩)
  | (refine ⟨tyS_l rfl, ?_⟩)
  | (refine ⟨tyS_g (by assumption), ?_⟩)
  | (refine ⟨_, rfl, ?_⟩)
  | (refine ⟨_, _, rfl, rfl, ?_⟩)
  | (refine ⟨_, _, rfl, ?_⟩)
  | (refine ⟨(rfl : noL _ = true), ?_⟩))
local macro_rules | `(tactic| walk_at "go1") => `(tactic| repeat (first | walk_at "d1" | walk_at "d3"))
local macro_rules | `(tactic| walk_at "go") => `(tactic| repeat (first | walk_at "d1" | walk_at "d2"))
local macro_rules | `(tactic| walk_at "f1") => `(tactic| first
  | (with_reducible refine u_add_sF ?hl ?_; (case hl => omega); intro _ _)
  | (with_reducible refine u_add_sR 0 ?hm ?hl ?_; (case hm => decide); (case hl => omega); intro _ _)
  | (with_reducible refine u_add_sR 1 ?hm ?hl ?_; (case hm => decide); (case hl => omega); intro _ _)
  | (with_reducible refine u_add_sR 2 ?hm ?hl ?_; (case hm => decide); (case hl => omega); intro _ _)
  | (with_reducible refine u_add_sR 3 ?hm ?hl ?_; (case hm => decide); (case hl => omega); intro _ _)
  | (with_reducible refine u_add_sR 4 ?hm ?hl ?_; (case hm => decide); (case hl => omega); intro _ _)
  | (with_reducible refine u_add_sR 5 ?hm ?hl ?_; (case hm => decide); (case hl => omega); intro _ _)
  | (with_reducible refine u_add_sR 6 ?hm ?hl ?_; (case hm => decide); (case hl => omega); intro _ _)
  | (with_reducible refine u_add_sR 7 ?hm ?hl ?_; (case hm => decide); (case hl => omega); intro _ _)
  | (with_reducible refine u_add_sR 8 ?hm ?hl ?_; (case hm => decide); (case hl => omega); intro _ _)
  | (with_reducible refine u_add_sLm 0 ?hm ?hl ?_; (case hm => decide); (case hl => omega); intro _ _)
  | (with_reducible refine u_add_sLm 1 ?hm ?hl ?_; (case hm => decide); (case hl => omega); intro _ _)
  | (with_reducible refine u_add_sLm 2 ?hm ?hl ?_; (case hm => decide); (case hl => omega); intro _ _)
  | (with_reducible refine u_add_sLm 3 ?hm ?hl ?_; (case hm => decide); (case hl => omega); intro _ _)
  | (with_reducible refine u_add_sLm 4 ?hm ?hl ?_; (case hm => decide); (case hl => omega); intro _ _)
  | (with_reducible refine u_add_sLm 5 ?hm ?hl ?_; (case hm => decide); (case hl => omega); intro _ _)
  | (with_reducible refine u_add_sLm 6 ?hm ?hl ?_; (case hm => decide); (case hl => omega); intro _ _)
  | (with_reducible refine u_add_sLm 7 ?hm ?hl ?_; (case hm => decide); (case hl => omega); intro _ _)
  | (with_reducible refine u_add_sLm 8 ?hm ?hl ?_; (case hm => decide); (case hl => omega); intro _ _)
  | (with_reducible refine sl_sF ?hl ?_; (case hl => omega); intro _ _)
  | (with_reducible refine mt_upperF ?hl ?_; (case hl => omega); intro _ _)
  | (with_reducible refine ap_lenSF ?hl ?_; (case hl => omega))
  | (refine ⟨⟨_, rfl⟩, ?_⟩))
local macro_rules | `(tactic| walk_at "f1") => `(tactic| first
  | (with_reducible refine u_txmul ?hm ?_; (case hm => first | (refine ⟨?_, ?_, ?_, ?_⟩ <;> decide) | (refine ⟨?_, ?_, ?_, ?_⟩ <;> omega)); intro _ _))
local macro_rules | `(tactic| walk_at "gof") => `(tactic| repeat (first | walk_at "f1" | walk_at "d1" | walk_at "d2"))

namespace Pf
open PySem L2 DL
def top (i : Nat) : Stmt := PySem.Challenge.pw_littlemasters_k28_most_a_day_told.main.body.getD i (.Pass ⟨0, 0, 0, 0⟩)
abbrev s_l_draw : Stmt := top 9
theorem sc_l_draw : FnScope ["_law_deck_here", "_law_most", "_law_at", "_law_number", "_law_cell"] ["_law_deck_here", "_law_most"] (defScope s_l_draw) := ⟨rfl, rfl, rfl, by decide +kernel, rfl, by decide +kernel, by decide +kernel⟩
abbrev s_l_deck : Stmt := top 8
theorem sc_l_deck : FnScope ["_law_script", "_law_cells", "_law_seed", "_law_cell"] ["_law_script"] (defScope s_l_deck) := ⟨rfl, rfl, rfl, by decide +kernel, rfl, by decide +kernel, by decide +kernel⟩
abbrev s_l_rooms : Stmt := top 12
theorem sc_l_rooms : FnScope ["_law_deck_here", "_law_hands", "_law_hand"] ["_law_deck_here", "_law_hands"] (defScope s_l_rooms) := ⟨rfl, rfl, rfl, by decide +kernel, rfl, by decide +kernel, by decide +kernel⟩
abbrev s_l_needs : Stmt := top 13
theorem sc_l_needs : FnScope ["_law_times", "_law_rooms_here", "_law_found", "_law_many", "_law_hands", "_law_j", "_law_h"] ["_law_times", "_law_rooms_here"] (defScope s_l_needs) := ⟨rfl, rfl, rfl, by decide +kernel, rfl, by decide +kernel, by decide +kernel⟩
abbrev s_l_least : Stmt := top 14
theorem sc_l_least : FnScope ["_law_times", "_law_rooms_here", "_law_needs_here", "_law_found", "_law_one", "_law_other", "_law_hours", "_law_more", "_law_j", "_law_h"] ["_law_times", "_law_rooms_here"] (defScope s_l_least) := ⟨rfl, rfl, rfl, by decide +kernel, rfl, by decide +kernel, by decide +kernel⟩
abbrev s_l_end : Stmt := top 15
theorem sc_l_end : FnScope ["_law_times", "_law_starts", "_law_j", "_law_h"] ["_law_times", "_law_starts"] (defScope s_l_end) := ⟨rfl, rfl, rfl, by decide +kernel, rfl, by decide +kernel, by decide +kernel⟩
abbrev s_binds : Stmt := top 5
theorem sc_binds : FnScope ["row", "day", "many", "hand"] ["row", "day", "many", "hand"] (defScope s_binds) := ⟨rfl, rfl, rfl, by decide +kernel, rfl, by decide +kernel, by decide +kernel⟩
abbrev s_l_row : Stmt := top 10
theorem sc_l_row : FnScope ["_law_deck_here", "_law_way", "_law_hands", "_law_same", "_law_found", "_law_h", "_law_some"] ["_law_deck_here"] (defScope s_l_row) := ⟨rfl, rfl, rfl, by decide +kernel, rfl, by decide +kernel, by decide +kernel⟩
abbrev s_l_day : Stmt := top 11
theorem sc_l_day : FnScope ["_law_deck_here", "_law_row_here", "_law_way", "_law_many", "_law_every", "_law_slowest", "_law_some"] ["_law_deck_here", "_law_row_here"] (defScope s_l_day) := ⟨rfl, rfl, rfl, by decide +kernel, rfl, by decide +kernel, by decide +kernel⟩
abbrev s_most_a_day : Stmt := top 6
theorem sc_most_a_day : FnScope ["row", "day", "more", "e", "many", "hands", "hand"] ["row", "day"] (defScope s_most_a_day) := ⟨rfl, rfl, rfl, by decide +kernel, rfl, by decide +kernel, by decide +kernel⟩
abbrev s_l_due : Stmt := top 16
theorem sc_l_due : FnScope ["_law_row_here", "_law_day_here", "_law_many", "_law_hands", "_law_h"] ["_law_row_here", "_law_day_here"] (defScope s_l_due) := ⟨rfl, rfl, rfl, by decide +kernel, rfl, by decide +kernel, by decide +kernel⟩
abbrev s_l_refused : Stmt := top 18
theorem sc_l_refused : FnScope ["_law_row_here", "_law_day_here", "_law_error", "e"] ["_law_row_here", "_law_day_here"] (defScope s_l_refused) := ⟨rfl, rfl, rfl, by decide +kernel, rfl, by decide +kernel, by decide +kernel⟩
abbrev s_l_by_starts : Stmt := top 17
theorem sc_l_by_starts : FnScope ["_law_row_here", "_law_rooms_here", "_law_day_here", "_law_many", "_law_times"] ["_law_row_here", "_law_rooms_here", "_law_day_here"] (defScope s_l_by_starts) := ⟨rfl, rfl, rfl, by decide +kernel, rfl, by decide +kernel, by decide +kernel⟩
abbrev s_law : Stmt := top 19
theorem sc_law : FnScope ["_law_script", "_law_deck_here", "_law_turn", "_law_row_here", "_law_rooms_here", "_law_day_here", "_law_told"] ["_law_script"] (defScope s_law) := ⟨rfl, rfl, rfl, by decide +kernel, rfl, by decide +kernel, by decide +kernel⟩
abbrev s_Endless___init__ : Stmt := inClass (top 2) 0
theorem sc_Endless___init__ : FnScope ["self", "row"] ["self", "row"] (defScope s_Endless___init__) := ⟨rfl, rfl, rfl, by decide +kernel, rfl, by decide +kernel, by decide +kernel⟩
structure TX (w : World) (K : PySem.W.Frag) (mg : Str → Option Value) where
  a_l_draw : Addr
  fd_l_draw : FuncData
  F_l_draw : Fun K "_law_draw" "_law_draw" s_l_draw a_l_draw fd_l_draw
  m_l_draw : mg "_law_draw" = some (.ref a_l_draw)
  k_l_draw : PySem.W.keepIn K (.ref a_l_draw) = true
  b_l_draw : Binds K fd_l_draw ["_law_deck_here", "_law_most"] []
  a_l_deck : Addr
  fd_l_deck : FuncData
  F_l_deck : Fun K "_law_deck" "_law_deck" s_l_deck a_l_deck fd_l_deck
  m_l_deck : mg "_law_deck" = some (.ref a_l_deck)
  k_l_deck : PySem.W.keepIn K (.ref a_l_deck) = true
  b_l_deck : Binds K fd_l_deck ["_law_script"] []
  a_l_rooms : Addr
  fd_l_rooms : FuncData
  F_l_rooms : Fun K "_law_rooms" "_law_rooms" s_l_rooms a_l_rooms fd_l_rooms
  m_l_rooms : mg "_law_rooms" = some (.ref a_l_rooms)
  k_l_rooms : PySem.W.keepIn K (.ref a_l_rooms) = true
  b_l_rooms : Binds K fd_l_rooms ["_law_deck_here", "_law_hands"] []
  a_l_needs : Addr
  fd_l_needs : FuncData
  F_l_needs : Fun K "_law_needs" "_law_needs" s_l_needs a_l_needs fd_l_needs
  m_l_needs : mg "_law_needs" = some (.ref a_l_needs)
  k_l_needs : PySem.W.keepIn K (.ref a_l_needs) = true
  b_l_needs : Binds K fd_l_needs ["_law_times", "_law_rooms_here"] []
  a_l_least : Addr
  fd_l_least : FuncData
  F_l_least : Fun K "_law_least" "_law_least" s_l_least a_l_least fd_l_least
  m_l_least : mg "_law_least" = some (.ref a_l_least)
  k_l_least : PySem.W.keepIn K (.ref a_l_least) = true
  b_l_least : Binds K fd_l_least ["_law_times", "_law_rooms_here"] []
  a_l_end : Addr
  fd_l_end : FuncData
  F_l_end : Fun K "_law_end" "_law_end" s_l_end a_l_end fd_l_end
  m_l_end : mg "_law_end" = some (.ref a_l_end)
  k_l_end : PySem.W.keepIn K (.ref a_l_end) = true
  b_l_end : Binds K fd_l_end ["_law_times", "_law_starts"] []
  a_binds : Addr
  fd_binds : FuncData
  F_binds : Fun K "binds" "binds" s_binds a_binds fd_binds
  m_binds : mg "binds" = some (.ref a_binds)
  k_binds : PySem.W.keepIn K (.ref a_binds) = true
  b_binds : Binds K fd_binds ["row", "day", "many", "hand"] []
  a_l_row : Addr
  fd_l_row : FuncData
  F_l_row : Fun K "_law_row" "_law_row" s_l_row a_l_row fd_l_row
  m_l_row : mg "_law_row" = some (.ref a_l_row)
  k_l_row : PySem.W.keepIn K (.ref a_l_row) = true
  b_l_row : Binds K fd_l_row ["_law_deck_here"] []
  a_l_day : Addr
  fd_l_day : FuncData
  F_l_day : Fun K "_law_day" "_law_day" s_l_day a_l_day fd_l_day
  m_l_day : mg "_law_day" = some (.ref a_l_day)
  k_l_day : PySem.W.keepIn K (.ref a_l_day) = true
  b_l_day : Binds K fd_l_day ["_law_deck_here", "_law_row_here"] []
  a_most_a_day : Addr
  fd_most_a_day : FuncData
  F_most_a_day : Fun K "most_a_day" "most_a_day" s_most_a_day a_most_a_day fd_most_a_day
  m_most_a_day : mg "most_a_day" = some (.ref a_most_a_day)
  k_most_a_day : PySem.W.keepIn K (.ref a_most_a_day) = true
  b_most_a_day : Binds K fd_most_a_day ["row", "day"] []
  a_l_due : Addr
  fd_l_due : FuncData
  F_l_due : Fun K "_law_due" "_law_due" s_l_due a_l_due fd_l_due
  m_l_due : mg "_law_due" = some (.ref a_l_due)
  k_l_due : PySem.W.keepIn K (.ref a_l_due) = true
  b_l_due : Binds K fd_l_due ["_law_row_here", "_law_day_here"] []
  a_l_refused : Addr
  fd_l_refused : FuncData
  F_l_refused : Fun K "_law_refused" "_law_refused" s_l_refused a_l_refused fd_l_refused
  m_l_refused : mg "_law_refused" = some (.ref a_l_refused)
  k_l_refused : PySem.W.keepIn K (.ref a_l_refused) = true
  b_l_refused : Binds K fd_l_refused ["_law_row_here", "_law_day_here"] []
  a_l_by_starts : Addr
  fd_l_by_starts : FuncData
  F_l_by_starts : Fun K "_law_by_starts" "_law_by_starts" s_l_by_starts a_l_by_starts fd_l_by_starts
  m_l_by_starts : mg "_law_by_starts" = some (.ref a_l_by_starts)
  k_l_by_starts : PySem.W.keepIn K (.ref a_l_by_starts) = true
  b_l_by_starts : Binds K fd_l_by_starts ["_law_row_here", "_law_rooms_here", "_law_day_here"] []
  a_law : Addr
  fd_law : FuncData
  F_law : Fun K "law" "law" s_law a_law fd_law
  m_law : mg "law" = some (.ref a_law)
  k_law : PySem.W.keepIn K (.ref a_law) = true
  b_law : Binds K fd_law ["_law_script"] []
  z_ArithmeticError : mg "ArithmeticError" = none
  z_Exception : mg "Exception" = none
  z_ValueError : mg "ValueError" = none
  z_ZeroDivisionError : mg "ZeroDivisionError" = none
  z_int : mg "int" = none
  z_isinstance : mg "isinstance" = none
  z_len : mg "len" = none
  z_list : mg "list" = none
  z_max : mg "max" = none
  z_min : mg "min" = none
  z_range : mg "range" = none
  z_repr : mg "repr" = none
  z_sum : mg "sum" = none
  z_tuple : mg "tuple" = none
  a_Endless : Addr
  m_Endless : mg "Endless" = some (.ref a_Endless)
  a_MasterError : Addr
  m_MasterError : mg "MasterError" = some (.ref a_MasterError)
  a_NoShare : Addr
  m_NoShare : mg "NoShare" = some (.ref a_NoShare)
  vb_ArithmeticError : PySem.W.findCls K (.type "ArithmeticError") (.type "type") "__init__" = some (.val (.builtin "ArithmeticError.__init__"))
  vb_Exception : PySem.W.findCls K (.type "Exception") (.type "type") "__init__" = some (.val (.builtin "Exception.__init__"))
  ai_Endless : Addr
  ti_Endless : PySem.W.typeIn K (.ref ai_Endless) = some (.type "function")
  ki_Endless : PySem.W.keepIn K (.ref ai_Endless) = true
  fi_Endless : FuncData
  Fi_Endless : Fun K "__init__" "Endless.__init__" s_Endless___init__ ai_Endless fi_Endless
  bi_Endless : Binds K fi_Endless ["self", "row"] []
  o_Endless : DXg.OexB K a_Endless "ArithmeticError.__new__" [.type "ArithmeticError", .type "Exception", .type "BaseException", .type "object"]
  ii_Endless : PySem.W.findIn K (.ref a_Endless) "__init__" = some (some (.ref ai_Endless))
  n_Endless_row : PySem.W.findIn K (.ref a_Endless) "row" = some none
  x_Endless : XfC K a_Endless
  e_Endless : L2.ExcC K a_Endless
  k_Endless_MasterError : PySem.W.kitOne K (.ref a_Endless) (.ref a_MasterError) = some false
  k_Endless_NoShare : PySem.W.kitOne K (.ref a_Endless) (.ref a_NoShare) = some false
  k_Endless_ArithmeticError : PySem.W.kitOne K (.ref a_Endless) (.type "ArithmeticError") = some true
  k_Endless_ValueError : PySem.W.kitOne K (.ref a_Endless) (.type "ValueError") = some false
  k_Endless_ZeroDivisionError : PySem.W.kitOne K (.ref a_Endless) (.type "ZeroDivisionError") = some false
  s_Endless_Endless : PySem.W.exmOne K (.ref a_Endless) (.ref a_Endless) = some true
end Pf
namespace Pf
open PySem L2 DL
abbrev sp_l_draw : DSpec := spDrawE
abbrev sp_l_deck : DSpec := spDeckE
def rowD (r : List Int) : D := .tup (r.map D.int)
def tblD (t : List (List Int)) : D := .tup (t.map rowD)
def mat (f : Nat → Nat → Int) (m H : Nat) : List (List Int) := (List.range m).map fun b => (List.range H).map (f b)
def rm (r : List Int) (h : Nat) : Option Nat := (r[h]?).map Int.toNat
def F (T : Nat → Nat → Int) (R : Nat → Option Nat) (b h : Nat) : Int :=
  max 0 (max (if 0 < h then F T R b (h - 1) + T b (h - 1) else 0) (max (if 0 < b then F T R (b - 1) h + T (b - 1) h else 0)
    (match R h with
      | some r => if r < b then F T R (b - 1 - r) (h + 1) else 0
      | none => 0)))
termination_by (b, h)
decreasing_by
  · exact Prod.Lex.right _ (by omega)
  · exact Prod.Lex.left _ _ (by omega)
  · exact Prod.Lex.left _ _ (by omega)
theorem lexInd {P : Nat → Nat → Prop} (s : ∀ b h, (∀ b' h', (b' < b ∨ b' = b ∧ h' < h) → P b' h') → P b h) : ∀ b h, P b h := by
  intro b
  induction b using Nat.strongRecOn with
  | _ b ihb =>
    intro h
    induction h using Nat.strongRecOn with
    | _ h ihh =>
      refine s b h fun b' h' l => ?_
      rcases l with l | ⟨rfl, l⟩
      · exact ihb b' l h'
      · exact ihh h' l
section
variable {T T' : Nat → Nat → Int} {R R' : Nat → Option Nat}
theorem F_nn (b h : Nat) : 0 ≤ F T R b h := by
  rw [F]
  omega
theorem F_h (b h : Nat) : F T R b h + T b h ≤ F T R b (h + 1) := by
  conv => rhs; rw [F]
  rw [if_pos (Nat.succ_pos h), show h + 1 - 1 = h from rfl]
  omega
theorem F_b (b h : Nat) : F T R b h + T b h ≤ F T R (b + 1) h := by
  conv => rhs; rw [F]
  rw [if_pos (Nat.succ_pos b), show b + 1 - 1 = b from rfl]
  omega
theorem F_r {b h r : Nat} (hr : R h = some r) (hb : r < b) : F T R (b - 1 - r) (h + 1) ≤ F T R b h := by
  conv => rhs; rw [F]
  rw [hr]
  simp only [if_pos hb]
  omega
theorem F_le {b h : Nat} {z : Int} (z0 : 0 ≤ z) (h1 : 0 < h → F T R b (h - 1) + T b (h - 1) ≤ z) (h2 : 0 < b → F T R (b - 1) h + T (b - 1) h ≤ z) (h3 : ∀ r, R h = some r → r < b → F T R (b - 1 - r) (h + 1) ≤ z) : F T R b h ≤ z := by
  rw [F]
  have e1 : (if 0 < h then F T R b (h - 1) + T b (h - 1) else 0) ≤ z := by
    split
    · exact h1 (by assumption)
    · exact z0
  have e2 : (if 0 < b then F T R (b - 1) h + T (b - 1) h else 0) ≤ z := by
    split
    · exact h2 (by assumption)
    · exact z0
  have e3 : (match R h with
      | some r => if r < b then F T R (b - 1 - r) (h + 1) else 0
      | none => 0) ≤ z := by
    split
    · rename_i r hr
      split
      · exact h3 r hr (by assumption)
      · exact z0
    · exact z0
  omega
theorem F_00 : F T R 0 0 = 0 := by
  have := F_le (T := T) (R := R) (b := 0) (h := 0) (z := 0) (Int.le_refl _) (fun l => by omega) (fun l => by omega) fun r _ l => by omega
  have := F_nn (T := T) (R := R) 0 0
  omega
theorem F_up (hT : ∀ b h, 0 ≤ T b h) (h : Nat) : ∀ {b c : Nat}, b ≤ c → F T R b h ≤ F T R c h := by
  intro b c l
  induction c with
  | zero =>
    rw [show b = 0 by omega]
    exact Int.le_refl _
  | succ c ih =>
    by_cases e : b = c + 1
    · rw [e]
      exact Int.le_refl _
    · have h1 := ih (by omega)
      have h2 := F_b (T := T) (R := R) c h
      have h3 := hT c h
      omega
theorem F_right (hT : ∀ b h, 0 ≤ T b h) (b : Nat) : ∀ {h c : Nat}, h ≤ c → F T R b h ≤ F T R b c := by
  intro h c l
  induction c with
  | zero =>
    rw [show h = 0 by omega]
    exact Int.le_refl _
  | succ c ih =>
    by_cases e : h = c + 1
    · rw [e]
      exact Int.le_refl _
    · have h1 := ih (by omega)
      have h2 := F_h (T := T) (R := R) b c
      have h3 := hT b c
      omega
theorem F_last (hT : ∀ b h, 0 ≤ T b h) {m H b h : Nat} (hb : b < m) (hh : h < H) : F T R b h + T b h ≤ F T R (m - 1) (H - 1) + T (m - 1) (H - 1) := by
  have h0 := hT (m - 1) (H - 1)
  by_cases e : b = m - 1 ∧ h = H - 1
  · rw [e.1, e.2]
    exact Int.le_refl _
  by_cases e1 : b = m - 1
  · have f := F_h (T := T) (R := R) b h
    have g := F_right (R := R) hT b (h := h + 1) (c := H - 1) (by omega)
    rw [← e1]
    rw [← e1] at h0
    omega
  · have f := F_b (T := T) (R := R) b h
    have g := F_up (R := R) hT h (b := b + 1) (c := m - 1) (by omega)
    have g2 := F_right (R := R) hT (m - 1) (h := h) (c := H - 1) (by omega)
    omega
end
/-! tables as functions -/
theorem mat_len {f : Nat → Nat → Int} {m H : Nat} : (mat f m H).length = m := by
  unfold mat
  rw [List.length_map, List.length_range]
theorem mat_get {f : Nat → Nat → Int} {m H b : Nat} (hb : b < m) : (mat f m H)[b]? = some ((List.range H).map (f b)) := by
  unfold mat
  rw [List.getElem?_map, List.getElem?_range hb]
  rfl
theorem row_get {f : Nat → Int} {H h : Nat} (hh : h < H) : ((List.range H).map f)[h]? = some (f h) := by
  rw [List.getElem?_map, List.getElem?_range hh]
  rfl
def MatS (G : List M) (s : S) (rows : List (List Int)) : Prop := s = S.d (tblD rows) ∨ ∃ (k : Nat) (hs : List S), s = S.g k ∧ G[k]? = some (M.hl hs) ∧ ∀ (i : Nat) (row : List Int), rows[i]? = some row → ∃ j : Nat, hs[i]? = some (S.g j) ∧ G[j]? = some (M.pl (row.map D.int))
def RowS (G : List M) (s : S) (row : List Int) : Prop := s = S.d (rowD row) ∨ ∃ j : Nat, s = S.g j ∧ G[j]? = some (M.pl (row.map D.int))
theorem RowS.seq {G L : List M} {s : S} {row : List Int} (h : RowS G s row) : seqG G L s = some (row.map D.int) := by
  rcases h with rfl | ⟨j, rfl, h⟩
  · rfl
  · exact seqG_g h
theorem atI_nat {α : Type} {xs : List α} {i : Int} {x : α} (h0 : 0 ≤ i) (h : xs[i.toNat]? = some x) : atI xs i = some x := atI_of h (by omega)
theorem mat_ixX {K : PySem.W.Frag} {Δ : Sl} {G L : List M} {Qd : Po} {x : S} {i : Int} (h : ∃ rows row, MatS G x rows ∧ 0 ≤ i ∧ rows[i.toNat]? = some row ∧ ∀ s, RowS G s row → Qd s G L) : OpC K (rIx K) x (.d (.int i)) Δ G L Qd := by
  obtain ⟨rows, row, hm, h0, hr, k⟩ := h
  rcases hm with rfl | ⟨a, hs, rfl, hg, hr2⟩
  · exact u_ix_g (xs := rows.map rowD) (d := rowD row) rfl (atI_nat h0 (by rw [List.getElem?_map, hr]; rfl)) (k _ (.inl rfl))
  · obtain ⟨j, hj, hj2⟩ := hr2 _ row hr
    exact u_ix_h (xs := hs) (s := .g j) (hlG_g hg) (atI_nat h0 hj) (k _ (.inr ⟨j, rfl, hj2⟩))
theorem row_ixX {K : PySem.W.Frag} {Δ : Sl} {G L : List M} {Qd : Po} {x : S} {i : Int} (h : ∃ row z, RowS G x row ∧ 0 ≤ i ∧ row[i.toNat]? = some z ∧ Qd (.d (.int z)) G L) : OpC K (rIx K) x (.d (.int i)) Δ G L Qd := by
  obtain ⟨row, z, hr, h0, hz, k⟩ := h
  exact u_ix_g (xs := row.map D.int) (d := .int z) hr.seq (atI_nat h0 (by rw [List.getElem?_map, hz]; rfl)) k
structure DayOk (T : Nat → Nat → Int) (m H : Nat) (r : List Int) : Prop where
  m1 : 1 ≤ m
  m2 : m ≤ 100
  h1 : 1 ≤ H
  h2 : H ≤ 10
  rl : r.length + 1 ≤ H
  rn : ∀ z ∈ r, 0 ≤ z
  tn : ∀ b h, 0 ≤ T b h
/-! the own rows, seen by a callee -/
theorem len_row {K : PySem.W.Frag} {Δ : Sl} {G L : List M} {Qd : Po} {s : S} {row : List Int} (hs : RowS G s row) (k : Qd (.d (.int (row.length : Nat))) G L) : ApC K (uLen K) [s] Δ G L Qd := ap_len hs.seq (by rw [List.length_map]; exact k)
theorem le_maxDf {d n : Int} {ns : List Int} (h : n ∈ ns) : n ≤ maxDf d ns := by
  cases ns with
  | nil => cases h
  | cons y ms =>
    show n ≤ ms.foldl max y
    have up : ∀ (ms : List Int) (y : Int), y ≤ ms.foldl max y := by
      intro ms
      induction ms with
      | nil => exact fun y => Int.le_refl _
      | cons x ms ih => exact fun y => by have := ih (max y x); show y ≤ ms.foldl max (max y x); omega
    have go : ∀ (ms : List Int) (y n : Int), n ∈ y :: ms → n ≤ ms.foldl max y := by
      intro ms
      induction ms with
      | nil =>
        intro y n h
        rw [List.mem_singleton] at h
        rw [h]
        exact Int.le_refl _
      | cons x ms ih =>
        intro y n h
        show n ≤ ms.foldl max (max y x)
        rcases List.mem_cons.mp h with rfl | h
        · have := up ms (max n x)
          omega
        · rcases List.mem_cons.mp h with rfl | h
          · have := up ms (max y n)
            omega
          · exact ih (max y x) n (List.mem_cons_of_mem _ h)
    exact go ms y n h
def IsEnd (T S : Nat → Nat → Int) (m H : Nat) (e : Int) : Prop := (∃ b h, b < m ∧ h < H ∧ e = S b h + T b h) ∧ ∀ b h, b < m → h < H → S b h + T b h ≤ e
theorem st_imp {K : PySem.W.Frag} {Δ : Sl} {G L : List M} {E : EndsD} {t : TS} {P : Sl → List M → List M → Prop} (h : StC K t Δ G L { E with nx := P }) (k : ∀ Δ' G' L', P Δ' G' L' → E.nx Δ' G' L') : StC K t Δ G L E := fun w ls σ H c D s =>
  h w ls σ H c D ⟨fun ls' σ' H' Δ' G' L' c' g' p => s.nx ls' σ' H' Δ' G' L' c' g' (k _ _ _ p), s.rt, s.bk, s.ct, s.wd⟩
theorem if_join {K : PySem.W.Frag} {Δ : Sl} {G L : List M} {E : EndsD} {t u : TS} {b : Bool} (P : Sl → List M → List M → Prop) (h1 : b = true → StC K t Δ G L { E with nx := P }) (h2 : b = false → StC K u Δ G L { E with nx := P }) (k : ∀ Δ' G' L', P Δ' G' L' → E.nx Δ' G' L') :
    if b = true then StC K t Δ G L E else StC K u Δ G L E := by
  cases b with
  | true => exact iteTT (st_imp (h1 rfl) k)
  | false => exact iteFF (st_imp (h2 rfl) k)
theorem ix_rng {K : PySem.W.Frag} {Δ : Sl} {G L : List M} {Qd : Po} {x : S} {i : Int} {f : Nat → Int} {H : Nat} (h : Nat) (hx : seqG G L x = some (((List.range H).map f).map D.int)) (e : i = (h : Int)) (hh : h < H) (k : Qd (.d (.int (f h))) G L) : OpC K (rIx K) x (.d (.int i)) Δ G L Qd :=
  u_ix_g hx (atI_of (j := h) (by rw [List.getElem?_map, row_get hh]; rfl) e) k
theorem ix_mat {K : PySem.W.Frag} {Δ : Sl} {G L : List M} {Qd : Po} {x : S} {i : Int} {f : Nat → Nat → Int} {m H : Nat} {g : List Int → D} (b : Nat) (hx : seqG G L x = some ((mat f m H).map g)) (e : i = (b : Int)) (hb : b < m) (k : Qd (.d (g ((List.range H).map (f b)))) G L) : OpC K (rIx K) x (.d (.int i)) Δ G L Qd :=
  u_ix_g hx (atI_of (j := b) (by rw [List.getElem?_map, mat_get hb]; rfl) e) k
theorem end_last {T : Nat → Nat → Int} {R : Nat → Option Nat} {m H : Nat} {e : Int} (hT : ∀ b h, 0 ≤ T b h) (hm : 1 ≤ m) (hH : 1 ≤ H) (he : IsEnd T (F T R) m H e) : F T R (m - 1) (H - 1) + T (m - 1) (H - 1) = e := by
  obtain ⟨⟨b, h, l1, l2, rfl⟩, h2⟩ := he
  have h3 := h2 (m - 1) (H - 1) (by omega) (by omega)
  have h4 := F_last (R := R) hT l1 l2
  omega
def sptD (p : Nat × Nat) : D := .tup [.int (p.1 : Nat), .int (p.2 : Nat)]
theorem pair_eq {a b : Nat × Nat} : ((a.1 : Nat) : Int) = ((b.1 : Nat) : Int) ∧ ((a.2 : Nat) : Int) = ((b.2 : Nat) : Int) ↔ a = b := by
  constructor
  · rintro ⟨h1, h2⟩
    exact Prod.ext (by omega) (by omega)
  · rintro rfl
    exact ⟨rfl, rfl⟩
theorem take_snoc {α : Type} {l : List α} {i : Nat} {x : α} (h : l[i]? = some x) : l.take (i + 1) = l.take i ++ [x] := by
  rw [List.take_succ, h]
  rfl
def sp_l_rooms : DSpec := fun ss G Q => ∃ (k c : Nat) (n : Int) (cells : List Int) (seed cnt h : Int), ss = [.g k, .d (.int h)] ∧ Ek G k c n cells seed cnt ∧ n + 100 ≤ 2 ^ 32 ∧ (1 ≤ h ∧ h ≤ 10) ∧
  ∀ (r : List Int) G', (r.length : Int) = h - 1 → (∀ z ∈ r, 0 ≤ z ∧ z ≤ 12) → EkTo G k c (n + 100) G' → Q (.v (.d (rowD r))) G'
/-! what must go ahead of what -/
abbrev Nd := (Nat × Nat) × (Nat × Nat) × Int
def ndD (n : Nd) : D := .tup [sptD n.1, sptD n.2.1, .int n.2.2]
def optN (p : Prop) [Decidable p] (x : Nd) : List Nd := if p then [x] else []
def nd (T : Nat → Nat → Int) (r : List Int) (m H b h : Nat) : List Nd :=
  (optN (h + 1 < H) ((h, b), (h + 1, b), T b h) ++ optN (b + 1 < m) ((h, b), (h, b + 1), T b h)) ++ optN (h + 1 < H ∧ b + 1 + (r.getD h 0).toNat < m) ((h + 1, b), (h, b + 1 + (r.getD h 0).toNat), 0)
def needs (T : Nat → Nat → Int) (r : List Int) (m H : Nat) : List Nd := (List.range m).flatMap fun b => (List.range H).flatMap (nd T r m H b)
theorem optN_y {p : Prop} [Decidable p] {x : Nd} (h : p) : optN p x = [x] := if_pos h
theorem optN_n {p : Prop} [Decidable p] {x : Nd} (h : ¬ p) : optN p x = [] := if_neg h
theorem optN_len (p : Prop) [Decidable p] (x : Nd) : (optN p x).length ≤ 1 := by
  unfold optN
  split
  · exact Nat.le_refl _
  · exact Nat.zero_le _
theorem optN_mem {p : Prop} [Decidable p] {x y : Nd} (h : y ∈ optN p x) : p ∧ y = x := by
  unfold optN at h
  split at h
  · rename_i hp
    exact ⟨hp, List.mem_singleton.mp h⟩
  · cases h
theorem nd_len (T : Nat → Nat → Int) (r : List Int) (m H b h : Nat) : (nd T r m H b h).length ≤ 3 := by
  unfold nd
  rw [List.length_append, List.length_append]
  have h1 := optN_len (h + 1 < H) ((h, b), (h + 1, b), T b h)
  have h2 := optN_len (b + 1 < m) ((h, b), (h, b + 1), T b h)
  have h3 := optN_len (h + 1 < H ∧ b + 1 + (r.getD h 0).toNat < m) ((h + 1, b), (h, b + 1 + (r.getD h 0).toNat), 0)
  omega
theorem flat_succ {α : Type} (f : Nat → List α) (n : Nat) : (List.range (n + 1)).flatMap f = (List.range n).flatMap f ++ f n := by
  rw [List.range_succ, List.flatMap_append, List.flatMap_singleton]
theorem flat_len {α : Type} {f : Nat → List α} {k : Nat} (h : ∀ x, (f x).length ≤ k) : ∀ n, ((List.range n).flatMap f).length ≤ n * k
  | 0 => Nat.zero_le _
  | n + 1 => by
    rw [flat_succ, List.length_append, Nat.succ_mul]
    have := flat_len h n
    have := h n
    omega
theorem row_len (T : Nat → Nat → Int) (r : List Int) (m H b n : Nat) : ((List.range n).flatMap (nd T r m H b)).length ≤ n * 3 := flat_len (fun h => nd_len T r m H b h) n
theorem needs_pre (T : Nat → Nat → Int) (r : List Int) (m H n : Nat) : ((List.range n).flatMap fun b => (List.range H).flatMap (nd T r m H b)).length ≤ n * (H * 3) := flat_len (fun b => row_len T r m H b H) n
theorem needs_len (T : Nat → Nat → Int) (r : List Int) {m H : Nat} (hm : m ≤ 100) (hH : H ≤ 10) : (needs T r m H).length ≤ 3000 := by
  have h1 := needs_pre T r m H m
  have h2 : m * (H * 3) ≤ 100 * (10 * 3) := Nat.mul_le_mul hm (by omega)
  unfold needs
  omega
theorem needs_mem {T : Nat → Nat → Int} {r : List Int} {m H : Nat} {n : Nd} : n ∈ needs T r m H ↔ ∃ b, b < m ∧ ∃ h, h < H ∧ n ∈ nd T r m H b h := by
  unfold needs
  simp only [List.mem_flatMap, List.mem_range]
theorem nd_mem {T : Nat → Nat → Int} {r : List Int} {m H b h : Nat} {n : Nd} : n ∈ nd T r m H b h → (h + 1 < H ∧ n = ((h, b), (h + 1, b), T b h)) ∨ (b + 1 < m ∧ n = ((h, b), (h, b + 1), T b h)) ∨ ((h + 1 < H ∧ b + 1 + (r.getD h 0).toNat < m) ∧ n = ((h + 1, b), (h, b + 1 + (r.getD h 0).toNat), 0)) := fun hn => by
  unfold nd at hn
  rcases List.mem_append.mp hn with hn | hn
  · rcases List.mem_append.mp hn with hn | hn
    · exact .inl (optN_mem hn)
    · exact .inr (.inl (optN_mem hn))
  · exact .inr (.inr (optN_mem hn))
theorem nd_1 {T : Nat → Nat → Int} {r : List Int} {m H b h : Nat} (hb : b < m) (hh : h + 1 < H) : ((h, b), (h + 1, b), T b h) ∈ needs T r m H := needs_mem.mpr ⟨b, hb, h, by omega, List.mem_append_left _ (List.mem_append_left _ (by rw [optN_y hh]; exact List.mem_singleton.mpr rfl))⟩
theorem nd_2 {T : Nat → Nat → Int} {r : List Int} {m H b h : Nat} (hb : b + 1 < m) (hh : h < H) : ((h, b), (h, b + 1), T b h) ∈ needs T r m H := needs_mem.mpr ⟨b, by omega, h, hh, List.mem_append_left _ (List.mem_append_right _ (by rw [optN_y hb]; exact List.mem_singleton.mpr rfl))⟩
theorem nd_3 {T : Nat → Nat → Int} {r : List Int} {m H b h : Nat} (hb : b + 1 + (r.getD h 0).toNat < m) (hh : h + 1 < H) : ((h + 1, b), (h, b + 1 + (r.getD h 0).toNat), 0) ∈ needs T r m H := needs_mem.mpr ⟨b, by omega, h, by omega, List.mem_append_right _ (by rw [optN_y ⟨hh, hb⟩]; exact List.mem_singleton.mpr rfl)⟩
theorem rm_getD {r : List Int} {h : Nat} (hh : h < r.length) : rm r h = some (r.getD h 0).toNat := by
  unfold rm
  rw [List.getD_eq_getElem?_getD, List.getElem?_eq_getElem hh]
  rfl
abbrev at2 (X : Nat → Nat → Int) (p : Nat × Nat) : Int := X p.2 p.1
structure NdOk (T : Nat → Nat → Int) (r : List Int) (m H : Nat) (n : Nd) : Prop where
  a1 : n.1.1 < H
  a2 : n.1.2 < m
  b1 : n.2.1.1 < H
  b2 : n.2.1.2 < m
  lt : n.1.2 < n.2.1.2 ∨ (n.1.2 = n.2.1.2 ∧ n.1.1 < n.2.1.1)
  nn : 0 ≤ n.2.2
  le : at2 (F T (rm r)) n.1 + n.2.2 ≤ at2 (F T (rm r)) n.2.1
theorem needs_ok {T : Nat → Nat → Int} {r : List Int} {m H : Nat} (hT : ∀ b h, 0 ≤ T b h) (hre : r.length + 1 = H) {n : Nd} (hn : n ∈ needs T r m H) : NdOk T r m H n := by
  obtain ⟨b, hb, h, hh, hn⟩ := needs_mem.mp hn
  rcases nd_mem hn with ⟨l, rfl⟩ | ⟨l, rfl⟩ | ⟨⟨l1, l2⟩, rfl⟩
  · exact ⟨hh, hb, l, hb, .inr ⟨rfl, Nat.lt_succ_self _⟩, hT b h, F_h b h⟩
  · exact ⟨hh, hb, hh, l, .inl (Nat.lt_succ_self _), hT b h, F_b b h⟩
  · refine ⟨l1, hb, hh, l2, .inl (by show b < b + 1 + _; omega), Int.le_refl _, ?_⟩
    have f := F_r (T := T) (R := rm r) (h := h) (b := b + 1 + (r.getD h 0).toNat) (rm_getD (by omega)) (by omega)
    rw [show b + 1 + (r.getD h 0).toNat - 1 - (r.getD h 0).toNat = b by omega] at f
    show F T (rm r) b (h + 1) + 0 ≤ F T (rm r) (b + 1 + (r.getD h 0).toNat) h
    omega
theorem needs_low {T : Nat → Nat → Int} {r : List Int} {m H : Nat} (hre : r.length + 1 = H) {b h : Nat} {z : Int} (hb : b < m) (hh : h < H) (z0 : 0 ≤ z) (k : ∀ n ∈ needs T r m H, n.2.1 = (h, b) → at2 (F T (rm r)) n.1 + n.2.2 ≤ z) : F T (rm r) b h ≤ z := by
  refine F_le z0 (fun l => ?_) (fun l => ?_) fun r0 hr l => ?_
  · have := k _ (nd_1 (r := r) (T := T) (h := h - 1) hb (by omega)) (by rw [show h - 1 + 1 = h by omega])
    exact this
  · have := k _ (nd_2 (r := r) (T := T) (b := b - 1) (m := m) (by omega) hh) (by rw [show b - 1 + 1 = b by omega])
    exact this
  · have hl : h < r.length := by
      by_cases hl : h < r.length
      · exact hl
      · unfold rm at hr
        rw [List.getElem?_eq_none (by omega)] at hr
        cases hr
    rw [rm_getD hl] at hr
    have hr := Option.some.inj hr
    have e : b - 1 - r0 + 1 + (r.getD h 0).toNat = b := by omega
    have := k _ (nd_3 (r := r) (T := T) (m := m) (H := H) (b := b - 1 - r0) (h := h) (by omega) (by omega)) (by rw [e])
    have this : F T (rm r) (b - 1 - r0) (h + 1) + 0 ≤ z := this
    omega
theorem needs_all {T : Nat → Nat → Int} {r : List Int} {m H b h : Nat} (hb : b < m) (hh : h < H) (h0 : ¬ (h = 0 ∧ b = 0)) : ∃ n ∈ needs T r m H, n.2.1 = (h, b) := by
  by_cases l : 0 < h
  · exact ⟨_, nd_1 (r := r) (T := T) (h := h - 1) hb (by omega), by rw [show h - 1 + 1 = h by omega]⟩
  · exact ⟨_, nd_2 (r := r) (T := T) (b := b - 1) (m := m) (by omega) hh, by rw [show b - 1 + 1 = b by omega]⟩
theorem least_eq {T X : Nat → Nat → Int} {r : List Int} {m H : Nat} (hT : ∀ b h, 0 ≤ T b h) (hre : r.length + 1 = H) (hX : ∀ b h, b < m → h < H → 0 ≤ X b h ∧ X b h ≤ F T (rm r) b h) (k : ∀ n ∈ needs T r m H, at2 X n.1 + n.2.2 ≤ at2 X n.2.1) : ∀ b h, (b < m → h < H → X b h = F T (rm r) b h) := by
  refine lexInd fun b h ih => fun hb hh => ?_
  have h1 := hX b h hb hh
  have : F T (rm r) b h ≤ X b h := needs_low hre hb hh h1.1 fun n hn e => by
    have o := needs_ok hT hre hn
    have a := k n hn
    obtain ⟨p, q, v⟩ := n
    have e : q = (h, b) := e
    subst e
    have i := ih p.2 p.1 o.lt o.a2 o.a1
    show F T (rm r) p.2 p.1 + v ≤ X b h
    rw [← i]
    exact a
  omega
def kp (p : Nat × Nat) : List Key := kP (p.1 : Nat) (p.2 : Nat)
theorem kp_inj {p q : Nat × Nat} : kp p = kp q ↔ p = q := by
  unfold kp
  rw [kP_inj]
  exact pair_eq
theorem put_len_in {kvs : List (List Key × Int)} {k : List Key} {v x : Int} (h : getT kvs k = some x) : (putT kvs k v).length = kvs.length := by
  unfold putT
  rw [if_pos, List.length_map]
  unfold getT at h
  obtain ⟨y, hy, _⟩ := Option.map_eq_some_iff.mp h
  exact List.any_eq_true.mpr ⟨y, List.mem_of_find?_eq_some hy, List.find?_some (p := fun kv : List Key × Int => decide (kv.1 = k)) hy⟩
def gap (T X : Nat → Nat → Int) (R : Nat → Option Nat) (m H : Nat) : Nat := ((List.range m).map fun b => ((List.range H).map fun h => (F T R b h - X b h).toNat).sum).sum
theorem sum_le {f g : Nat → Nat} : ∀ {l : List Nat}, (∀ x ∈ l, f x ≤ g x) → (l.map f).sum ≤ (l.map g).sum
  | [], _ => Nat.le_refl _
  | x :: l, h => by
    rw [List.map_cons, List.map_cons, List.sum_cons, List.sum_cons]
    have h1 := h x (List.mem_cons_self ..)
    have h2 := sum_le (l := l) fun y hy => h y (List.mem_cons_of_mem _ hy)
    omega
theorem sum_lt {f g : Nat → Nat} : ∀ {l : List Nat}, (∀ x ∈ l, f x ≤ g x) → (∃ x ∈ l, f x < g x) → (l.map f).sum < (l.map g).sum
  | [], _, ⟨x, hx, _⟩ => by cases hx
  | x :: l, h, ⟨y, hy, k⟩ => by
    rw [List.map_cons, List.map_cons, List.sum_cons, List.sum_cons]
    have h1 := h x (List.mem_cons_self ..)
    have h2 := sum_le (l := l) fun y hy => h y (List.mem_cons_of_mem _ hy)
    rcases List.mem_cons.mp hy with rfl | hy
    · omega
    · have h3 := sum_lt (l := l) (fun y hy => h y (List.mem_cons_of_mem _ hy)) ⟨y, hy, k⟩
      omega
def lift (X : Nat → Nat → Int) (p : Nat × Nat) (v : Int) (b h : Nat) : Int := if (h, b) = p then v else X b h
theorem gap_lt {T X : Nat → Nat → Int} {R : Nat → Option Nat} {m H : Nat} {p : Nat × Nat} {v : Int} (h1 : p.1 < H) (h2 : p.2 < m) (h3 : at2 X p < v) (h4 : v ≤ at2 (F T R) p) : gap T (lift X p v) R m H < gap T X R m H := by
  have le : ∀ b h, (F T R b h - lift X p v b h).toNat ≤ (F T R b h - X b h).toNat := fun b h => by
    unfold lift
    split
    · rename_i e
      have h3 : X p.2 p.1 < v := h3
      have h4 : v ≤ F T R p.2 p.1 := h4
      rw [← e] at h3 h4
      dsimp only at h3 h4
      omega
    · exact Nat.le_refl _
  refine sum_lt (fun b _ => sum_le fun h _ => le b h) ⟨p.2, List.mem_range.mpr h2, ?_⟩
  refine sum_lt (fun h _ => le p.2 h) ⟨p.1, List.mem_range.mpr h1, ?_⟩
  have h3 : X p.2 p.1 < v := h3
  have h4 : v ≤ F T R p.2 p.1 := h4
  show (F T R p.2 p.1 - lift X p v p.2 p.1).toNat < _
  unfold lift
  rw [if_pos rfl]
  omega
def Holds (kvs : List (List Key × Int)) (X : Nat → Nat → Int) (m H : Nat) : Prop := ∀ p : Nat × Nat, p.1 < H → p.2 < m → getT kvs (kp p) = some (at2 X p)
theorem holds_put {kvs : List (List Key × Int)} {X : Nat → Nat → Int} {m H : Nat} (h : Holds kvs X m H) (p : Nat × Nat) (v : Int) : Holds (putT kvs (kp p) v) (lift X p v) m H := fun q h1 h2 => by
  rw [get_put]
  show _ = some (if (q.1, q.2) = p then v else X q.2 q.1)
  by_cases e : q = p
  · rw [if_pos (kp_inj.mpr e), if_pos e]
  · rw [if_neg (fun z => e (kp_inj.mp z)), if_neg e]
    exact h q h1 h2
/-! rows read off -/
def cellV (X : Nat → Nat → Int) (b : Nat) : D → D
  | .int h => .int (X b h.toNat)
  | d => d
def rowV (X : Nat → Nat → Int) (H : Nat) : D → D
  | .int b => rowD ((List.range H).map (X b.toNat))
  | d => d
def endV (U S : Nat → Nat → Int) (H : Nat) : D → D
  | .int b => .int (maxDf 0 ((List.range H).map fun h => S b.toNat h + U b.toNat h))
  | d => d
theorem cells_row {X : Nat → Nat → Int} {b H : Nat} : (rngD 0 ((H : Nat) : Int).toNat).map (cellV X b) = ((List.range H).map (X b)).map D.int := by
  unfold rngD
  rw [List.map_map, List.map_map, Int.toNat_natCast]
  refine List.map_congr_left fun h _ => ?_
  show D.int (X b ((0 : Int) + (h : Int)).toNat) = D.int (X b h)
  rw [Int.zero_add, Int.toNat_natCast]
theorem rows_tbl {X : Nat → Nat → Int} {m H : Nat} : (rngD 0 ((m : Nat) : Int).toNat).map (rowV X H) = (mat X m H).map rowD := by
  unfold rngD mat
  rw [List.map_map, List.map_map, Int.toNat_natCast]
  refine List.map_congr_left fun b _ => ?_
  show rowD ((List.range H).map (X ((0 : Int) + (b : Int)).toNat)) = rowD ((List.range H).map (X b))
  rw [Int.zero_add, Int.toNat_natCast]
theorem ends_rows {U S : Nat → Nat → Int} {m H : Nat} : (rngD 0 ((m : Nat) : Int).toNat).map (endV U S H) = ((List.range m).map fun b => maxDf 0 ((List.range H).map fun h => S b h + U b h)).map D.int := by
  unfold rngD
  rw [List.map_map, List.map_map, Int.toNat_natCast]
  refine List.map_congr_left fun b _ => ?_
  show D.int (maxDf 0 ((List.range H).map fun h => S ((0 : Int) + (b : Int)).toNat h + U ((0 : Int) + (b : Int)).toNat h)) = D.int _
  rw [Int.zero_add, Int.toNat_natCast]
theorem max_mem {d : Int} {ns : List Int} (h : ns ≠ []) : maxDf d ns ∈ ns := by
  cases ns with
  | nil => exact absurd rfl h
  | cons n ms =>
    show ms.foldl max n ∈ n :: ms
    have : ∀ (ms : List Int) (n : Int), ms.foldl max n ∈ n :: ms := by
      intro ms
      induction ms with
      | nil => exact fun n => List.mem_singleton.mpr rfl
      | cons x ms ih =>
        intro n
        have := ih (max n x)
        show ms.foldl max (max n x) ∈ _
        rcases List.mem_cons.mp this with e | e
        · rw [e]
          by_cases l : n ≤ x
          · rw [Int.max_eq_right l]
            exact List.mem_cons_of_mem _ (List.mem_cons_self ..)
          · rw [Int.max_eq_left (by omega)]
            exact List.mem_cons_self ..
        · exact List.mem_cons_of_mem _ (List.mem_cons_of_mem _ e)
    exact this ms n
theorem max_is {ns : List Int} {e : Int} (he : e ∈ ns) (hm : ∀ y ∈ ns, y ≤ e) : e = maxDf 0 ns := by
  have h1 := le_maxDf (d := 0) he
  have h2 := hm _ (max_mem (d := 0) (ns := ns) (fun z => by rw [z] at he; cases he))
  omega
theorem end_is {U S : Nat → Nat → Int} {m H : Nat} {e : Int} (hH : 1 ≤ H) (he : e ∈ (List.range m).map fun b => maxDf 0 ((List.range H).map fun h => S b h + U b h)) (hm : ∀ y ∈ (List.range m).map (fun b => maxDf 0 ((List.range H).map fun h => S b h + U b h)), y ≤ e) : IsEnd U S m H e := by
  constructor
  · obtain ⟨b, hb, rfl⟩ := List.mem_map.mp he
    have := max_mem (d := 0) (ns := (List.range H).map fun h => S b h + U b h) (fun z => by
      have := congrArg List.length z
      rw [List.length_map, List.length_range] at this
      have : H = 0 := this
      omega)
    obtain ⟨h, hh, e2⟩ := List.mem_map.mp this
    exact ⟨b, h, List.mem_range.mp hb, List.mem_range.mp hh, e2.symm⟩
  · intro b h l1 l2
    have h1 := hm _ (List.mem_map.mpr ⟨b, List.mem_range.mpr l1, rfl⟩)
    have h2 := le_maxDf (d := 0) (ns := (List.range H).map fun h => S b h + U b h) (List.mem_map.mpr ⟨h, List.mem_range.mpr l2, rfl⟩)
    omega
/-! starts drawn later -/
def LInv (T : Nat → Nat → Int) (r : List Int) (m H : Nat) (kvs : List (List Key × Int)) (X : Nat → Nat → Int) (b h : Nat) : Prop := ∀ b' h', ((b' < b ∧ h' < H) ∨ (b' = b ∧ h' < h)) → getT kvs (kp (h', b')) = some (X b' h') ∧ (0 ≤ X b' h' ∧ X b' h' ≤ 2000 * ((b' * H + h' + 1 : Nat) : Int)) ∧ ∀ n ∈ needs T r m H, n.2.1 = (h', b') → at2 X n.1 + n.2.2 ≤ X b' h'
theorem LInv.next {T : Nat → Nat → Int} {r : List Int} {m H : Nat} {kvs : List (List Key × Int)} {X : Nat → Nat → Int} {b : Nat} (h : LInv T r m H kvs X b H) : LInv T r m H kvs X (b + 1) 0 := fun b' h' l => h b' h' (by omega)
def sp_l_needs : DSpec := fun ss G Q => ∃ (T : Nat → Nat → Int) (m H : Nat) (r : List Int), ss = [.d (tblD (mat T m H)), .d (rowD r)] ∧ DayOk T m H r ∧ r.length + 1 = H ∧ Q (.v (.d (.lst ((needs T r m H).map ndD)))) G
def sp_l_least : DSpec := fun ss G Q => ∃ (T : Nat → Nat → Int) (m H : Nat) (r : List Int), ss = [.d (tblD (mat T m H)), .d (rowD r)] ∧ DayOk T m H r ∧ r.length + 1 = H ∧ Q (.v (.d (tblD (mat (F T (rm r)) m H)))) G
def sp_l_end : DSpec := fun ss G Q => ∃ (T S : Nat → Nat → Int) (m H : Nat), ss = [.d (tblD (mat T m H)), .d (tblD (mat S m H))] ∧ (1 ≤ m ∧ m ≤ 100) ∧ (1 ≤ H ∧ H ≤ 10) ∧ ∀ e, IsEnd T S m H e → Q (.v (.d (.int e))) G
/-! how long a batch waits between hands -/
def Small (X : Nat → Nat → Int) (m H : Nat) : Prop := ∀ b h, b < m → h < H → 0 ≤ X b h ∧ X b h ≤ 10 ^ 10
/-! the most batches a day -/
structure RowOk (r : List Int) : Prop where
  l0 : 1 ≤ r.length
  l1 : r.length ≤ 5
  x : ∀ z ∈ r, 0 ≤ z ∧ z ≤ 999
def mx (r : List Int) : Int := maxDf 0 r
theorem fold_max : ∀ (ns : List Int) (n : Int), (ns.foldl max n = n ∨ ns.foldl max n ∈ ns) ∧ n ≤ ns.foldl max n ∧ ∀ z ∈ ns, z ≤ ns.foldl max n
  | [], n => ⟨.inl rfl, Int.le_refl _, fun z h => by cases h⟩
  | m :: ns, n => by
    obtain ⟨h1, h2, h3⟩ := fold_max ns (max n m)
    have e : (m :: ns).foldl max n = ns.foldl max (max n m) := rfl
    rw [e]
    have a : n ≤ max n m := by omega
    have b : m ≤ max n m := by omega
    refine ⟨?_, Int.le_trans a h2, fun z hz => ?_⟩
    · rcases h1 with h1 | h1
      · rw [h1]
        by_cases hl : n ≤ m
        · exact .inr (by rw [show max n m = m by omega]; exact List.mem_cons_self)
        · exact .inl (by omega)
      · exact .inr (List.mem_cons_of_mem _ h1)
    · rcases List.mem_cons.mp hz with e | hz
      · rw [e]
        exact Int.le_trans b h2
      · exact h3 z hz
theorem mx_mem {r : List Int} (h : 1 ≤ r.length) : mx r ∈ r ∧ ∀ z ∈ r, z ≤ mx r := by
  cases r with
  | nil => cases h
  | cons n ns =>
    obtain ⟨h1, h2, h3⟩ := fold_max ns n
    have e : mx (n :: ns) = ns.foldl max n := rfl
    rw [e]
    refine ⟨?_, fun z hz => ?_⟩
    · rcases h1 with h1 | h1
      · rw [h1]
        exact List.mem_cons_self
      · exact List.mem_cons_of_mem _ h1
    · rcases List.mem_cons.mp hz with e | hz
      · rw [e]
        exact h2
      · exact h3 z hz
theorem RowOk.mx {r : List Int} (h : RowOk r) : 0 ≤ Pf.mx r ∧ Pf.mx r ≤ 999 := h.x _ (mx_mem h.l0).1
theorem sum_bd : ∀ {r : List Int}, (∀ z ∈ r, 0 ≤ z ∧ z ≤ 999) → 0 ≤ r.sum ∧ r.sum ≤ 999 * (r.length : Nat)
  | [], _ => ⟨Int.le_refl _, Int.le_refl _⟩
  | z :: r, h => by
    have h1 := h z List.mem_cons_self
    have h2 := sum_bd (r := r) fun y hy => h y (List.mem_cons_of_mem _ hy)
    rw [List.sum_cons, List.length_cons]
    omega
theorem RowOk.sum {r : List Int} (h : RowOk r) : 0 ≤ r.sum ∧ r.sum ≤ 4995 := by
  have := sum_bd h.x
  have := h.l1
  omega
theorem row_at28 {r : List Int} {b : Int} (h0 : 0 ≤ b) (h1 : b < (r.length : Nat)) : r[b.toNat]? = some (r.getD b.toNat 0) := by
  rw [List.getD_eq_getElem?_getD, List.getElem?_eq_getElem (by omega)]
  rfl
def iv : D → Int
  | .int z => z
  | _ => 0
def bindsB (r : List Int) (day many hand : Int) : Bool := decide (many * r.getD hand.toNat 0 + r.sum > day)
def mostI (r : List Int) (day a b : Int) : Bool := (decide (b < (r.length : Nat)) && bindsB r day a b) && (decide (a = 0) || decide ((a - 1) * mx r + r.sum ≤ day))
def dueN (r : List Int) (day : Int) : Int := if 0 < (day - r.sum) / mx r + 1 then (day - r.sum) / mx r + 1 else 0
theorem due_ok {r : List Int} (h : RowOk r) (hm : 0 < mx r) (day : Int) : (∃ j : Nat, j < r.length ∧ bindsB r day (dueN r day) (j : Int) = true) ∧ ∀ b : Int, b < (r.length : Nat) → bindsB r day (dueN r day) b = true → mostI r day (dueN r day) b = true := by
  have hd := Int.emod_add_mul_ediv (day - r.sum) (mx r)
  have h0 := Int.emod_nonneg (day - r.sum) (Int.ne_of_gt hm)
  have h1 := Int.emod_lt_of_pos (day - r.sum) hm
  generalize hq : (day - r.sum) / mx r = q at hd
  have key : mx r * dueN r day + r.sum > day ∧ (dueN r day = 0 ∨ mx r * (dueN r day - 1) + r.sum ≤ day) := by
    unfold dueN
    rw [hq]
    split
    · rw [Int.mul_add, Int.mul_one, Int.add_sub_cancel]
      exact ⟨by omega, .inr (by omega)⟩
    · rename_i hn
      have hq1 : q ≤ -1 := by omega
      have : mx r * q ≤ mx r * (-1) := Int.mul_le_mul_of_nonneg_left hq1 (Int.le_of_lt hm)
      exact ⟨by omega, .inl rfl⟩
  refine ⟨?_, fun b hb hbi => ?_⟩
  · obtain ⟨j, hj, e⟩ := List.mem_iff_getElem.mp (mx_mem h.l0).1
    refine ⟨j, hj, ?_⟩
    unfold bindsB
    rw [Int.toNat_natCast, List.getD_eq_getElem?_getD, List.getElem?_eq_getElem hj]
    show decide (dueN r day * r[j] + r.sum > day) = true
    rw [e, Int.mul_comm]
    exact decide_eq_true key.1
  · unfold mostI
    rw [hbi, decide_eq_true hb]
    rcases key.2 with e | e
    · rw [decide_eq_true e]
      rfl
    · rw [Int.mul_comm] at e
      rw [decide_eq_true e, Bool.or_true]
      rfl
def sp_binds : DSpec := fun ss G Q => ∃ (r : List Int) (day many hand : Int), ss = [.d (rowD r), .d (.int day), .d (.int many), .d (.int hand)] ∧ RowOk r ∧ (0 ≤ hand ∧ hand < (r.length : Nat)) ∧ Q (.v (.d (.bl (bindsB r day many hand)))) G
def sp_l_row : DSpec := fun ss G Q => ∃ (k c : Nat) (n : Int) (cells : List Int) (seed cnt : Int), ss = [.g k] ∧ Ek G k c n cells seed cnt ∧ n + 100 ≤ 2 ^ 32 ∧
  ∀ (r : List Int) G', RowOk r → EkTo G k c (n + 100) G' → Q (.v (.d (rowD r))) G'
def sp_l_day : DSpec := fun ss G Q => ∃ (k c : Nat) (n : Int) (cells : List Int) (seed cnt : Int) (r : List Int), ss = [.g k, .d (rowD r)] ∧ Ek G k c n cells seed cnt ∧ n + 10 ≤ 2 ^ 32 ∧ RowOk r ∧
  ∀ (day : Int) G', 0 ≤ day → day ≤ 1000000 → EkTo G k c (n + 10) G' → Q (.v (.d (.int day))) G'
section
variable {K : PySem.W.Frag} {Δ : Sl} {G L : List M} {Qd : Po} {te : TE}
theorem sum_use {r : List Int} (k : Qd (.d (.int r.sum)) G L) : ApC K (rSumT K) [.d (rowD r)] Δ G L Qd := ap_sumT ⟨r, rfl, k⟩
theorem max_use {r : List Int} (h : RowOk r) (k : Qd (.d (.int (mx r))) G L) : ApC K (rMaxT K) [.d (rowD r)] Δ G L Qd := ap_maxT ⟨r, rfl, h.l0, k⟩
theorem sumS_use {r : List Int} {d : Int} (k : Qd (.d (.int (d + r.sum))) G L) : ApK K (rSumS K) [.d (rowD r)] [.d (.int d)] Δ G L Qd := ap_sumS ⟨r, rfl, k⟩
theorem row_use {r : List Int} {i : Int} (h0 : 0 ≤ i) (h1 : i < (r.length : Nat)) (k : Qd (.d (.int (r.getD i.toNat 0))) G L) : OpC K (rIx K) (.d (rowD r)) (.d (.int i)) Δ G L Qd :=
  u_ix_gX ⟨r.map D.int, rfl, .int (r.getD i.toNat 0), atI_of (j := i.toNat) (by rw [List.getElem?_map, row_at28 h0 h1]; rfl) (by omega), k⟩
end
section
variable {K : PySem.W.Frag} {Δ : Sl} {G L : List M}
end
/-! alike batches -/
def upTo (t : Nat → Int) : Nat → Int
  | 0 => 0
  | h + 1 => upTo t h + t h
theorem F_alike_le {U : Nat → Nat → Int} {R : Nat → Option Nat} {t : Nat → Int} {M : Int} (hU : ∀ b h, U b h = t h) (ht : ∀ h, 0 ≤ t h) (hM : ∀ h, t h ≤ M) : ∀ (n b h : Nat), 2 * b + h ≤ n → F U R b h ≤ upTo t h + b * M := by
  have up0 : ∀ h, 0 ≤ upTo t h := fun h => by
    induction h with
    | zero => exact Int.le_refl _
    | succ h ih =>
      have := ht h
      show 0 ≤ upTo t h + t h
      omega
  have m0 : 0 ≤ M := Int.le_trans (ht 0) (hM 0)
  intro n
  induction n with
  | zero =>
    intro b h hn
    obtain ⟨rfl, rfl⟩ : b = 0 ∧ h = 0 := ⟨by omega, by omega⟩
    rw [F_00]
    show (0 : Int) ≤ 0 + ((0 : Nat) : Int) * M
    omega
  | succ n ih =>
    intro b h hn
    have bm : ∀ c : Nat, 0 ≤ (c : Int) * M := fun c => Int.mul_nonneg (by omega) m0
    refine F_le (by have := up0 h; have := bm b; omega) (fun l => ?_) (fun l => ?_) (fun r hr l => ?_)
    · obtain ⟨h, rfl⟩ : ∃ k, h = k + 1 := ⟨h - 1, by omega⟩
      have := ih b h (by omega)
      rw [hU]
      show F U R b h + t h ≤ upTo t h + t h + b * M
      omega
    · obtain ⟨b, rfl⟩ : ∃ k, b = k + 1 := ⟨b - 1, by omega⟩
      have := ih b h (by omega)
      have := hM h
      rw [hU]
      show F U R b h + t h ≤ upTo t h + ((b + 1 : Nat) : Int) * M
      rw [Int.natCast_succ, Int.add_mul, Int.one_mul]
      omega
    · obtain ⟨b, rfl⟩ : ∃ k, b = k + 1 := ⟨b - 1, by omega⟩
      have a := ih (b + 1 - 1 - r) (h + 1) (by omega)
      have a2 : upTo t (h + 1) = upTo t h + t h := rfl
      have := hM h
      have a3 : ((b + 1 - 1 - r : Nat) : Int) * M ≤ (b : Int) * M := Int.mul_le_mul_of_nonneg_right (by omega) m0
      rw [Int.natCast_succ, Int.add_mul, Int.one_mul]
      omega
theorem upTo_mono {t : Nat → Int} (ht : ∀ h, 0 ≤ t h) {U : Nat → Nat → Int} {R : Nat → Option Nat} {b : Nat} (hU : ∀ b h, U b h = t h) : ∀ n h, F U R b h + (upTo t (h + n) - upTo t h) ≤ F U R b (h + n)
  | 0, h => by
    show F U R b h + (upTo t h - upTo t h) ≤ F U R b h
    omega
  | n + 1, h => by
    have ih := upTo_mono ht hU (R := R) (b := b) n h
    have : F U R b (h + n) + U b (h + n) ≤ F U R b (h + n + 1) := F_h (T := U) (R := R) b (h + n)
    rw [hU] at this
    have e : upTo t (h + (n + 1)) = upTo t (h + n) + t (h + n) := rfl
    show F U R b h + (upTo t (h + (n + 1)) - upTo t h) ≤ F U R b (h + n + 1)
    omega
theorem F_down {t : Nat → Int} {U : Nat → Nat → Int} {R : Nat → Option Nat} (hU : ∀ b h, U b h = t h) : ∀ b h, F U R 0 h + b * t h ≤ F U R b h
  | 0, h => by
    show F U R 0 h + ((0 : Nat) : Int) * t h ≤ _
    omega
  | b + 1, h => by
    have ih := F_down hU (R := R) b h
    have := F_b (T := U) (R := R) b h
    rw [hU] at this
    rw [Int.natCast_succ, Int.add_mul, Int.one_mul]
    omega
theorem F_alike {U : Nat → Nat → Int} {R : Nat → Option Nat} {t : Nat → Int} {n H : Nat} {M : Int} (hU : ∀ b h, U b h = t h) (ht : ∀ h, 0 ≤ t h) (hH : 1 ≤ H) (hM : ∀ h, t h ≤ M) (hm : ∃ h, h < H ∧ t h = M) : F U R n (H - 1) + t (H - 1) = upTo t H + n * M := by
  obtain ⟨H, rfl⟩ : ∃ k, H = k + 1 := ⟨H - 1, by omega⟩
  obtain ⟨h, hh, he⟩ := hm
  have a := F_alike_le (R := R) hU ht hM (2 * n + H) n H (Nat.le_refl _)
  have b := F_down (R := R) hU n h
  have c := upTo_mono (R := R) (b := n) ht hU (H - h) h
  rw [show h + (H - h) = H by omega] at c
  have d := upTo_mono (R := R) (b := 0) ht hU h 0
  rw [F_00, Nat.zero_add] at d
  have d0 : upTo t 0 = 0 := rfl
  show F U R n H + t H = upTo t H + t H + n * M
  rw [he] at b
  omega
theorem upTo_row (r : List Int) : ∀ k, k ≤ r.length → upTo (fun h => r.getD h 0) k = (r.take k).sum
  | 0, _ => rfl
  | k + 1, hk => by
    have e : r[k]? = some (r.getD k 0) := by
      rw [List.getD_eq_getElem?_getD, List.getElem?_eq_getElem (by omega)]
      rfl
    show upTo (fun h => r.getD h 0) k + r.getD k 0 = _
    rw [upTo_row r k (by omega), List.take_succ, e, List.sum_append]
    show _ = _ + (r.getD k 0 + 0)
    rw [Int.add_zero]
theorem mat_row (r : List Int) (m : Nat) : mat (fun _ h => r.getD h 0) m r.length = List.replicate m r := by
  unfold mat
  have e : (List.range r.length).map (fun h => r.getD h 0) = r := by
    refine List.ext_getElem? fun i => ?_
    rw [List.getElem?_map]
    by_cases hi : i < r.length
    · rw [List.getElem?_range hi, List.getElem?_eq_getElem hi]
      show some (r.getD i 0) = _
      rw [List.getD_eq_getElem?_getD, List.getElem?_eq_getElem hi]
      rfl
    · rw [List.getElem?_eq_none (by rw [List.length_range]; omega), List.getElem?_eq_none (by omega)]
      rfl
  refine List.ext_getElem? fun i => ?_
  rw [List.getElem?_map, List.getElem?_replicate]
  by_cases hi : i < m
  · rw [List.getElem?_range hi, if_pos hi]
    show some ((List.range r.length).map fun h => r.getD h 0) = _
    rw [e]
  · rw [List.getElem?_eq_none (by rw [List.length_range]; omega), if_neg hi]
    rfl
theorem tbl_rep (r : List Int) (m : Nat) : tblD (mat (fun _ h => r.getD h 0) m r.length) = .tup (List.replicate m [rowD r]).flatten := by
  rw [mat_row]
  unfold tblD
  congr 1
  induction m with
  | zero => rfl
  | succ m ih =>
    rw [List.replicate_succ, List.map_cons, ih, List.replicate_succ, List.flatten_cons]
    rfl
theorem due_iff {r : List Int} {day : Int} (hm : 0 < mx r) (m : Nat) : day < r.sum + m * mx r ↔ dueN r day ≤ m := by
  have h : (day - r.sum) / mx r < m ↔ day - r.sum < m * mx r := Int.ediv_lt_iff_lt_mul hm
  unfold dueN
  constructor
  · intro x
    have := h.mpr (by omega)
    split <;> omega
  · intro x
    have : (day - r.sum) / mx r < m := by
      split at x <;> omega
    have := h.mp this
    omega
theorem due_nn (r : List Int) (day : Int) : 0 ≤ dueN r day := by
  unfold dueN
  split <;> omega
theorem due_small {r : List Int} {day : Int} (hm : 0 < mx r) (hs : 0 ≤ r.sum) (h : day ≤ 1000000) : dueN r day ≤ 1000001 := by
  refine (due_iff hm 1000001).mp ?_
  have : ((1000001 : Nat) : Int) * 1 ≤ ((1000001 : Nat) : Int) * mx r := Int.mul_le_mul_of_nonneg_left (by omega) (by omega)
  omega
/-! the most batches a day: refused for rows of noughts -/
def bindFst (r : List Int) (day : Int) : Nat := ((List.range r.length).filter fun (j : Nat) => bindsB r day (dueN r day) (j : Int)).headD 0
theorem bindFst_lt {r : List Int} {day : Int} (h : 1 ≤ r.length) : bindFst r day < r.length := by
  unfold bindFst
  cases e : (List.range r.length).filter fun (j : Nat) => bindsB r day (dueN r day) (j : Int) with
  | nil => exact h
  | cons x xs => exact List.mem_range.mp (List.mem_filter.mp (e ▸ List.mem_cons_self)).1
def endless (C : Addr) (r : List Int) : Exn := ⟨C, [("row", rowD r)]⟩
def sp_most_a_day (C : Addr) : DSpecX := fun ss G Q Qx => ∃ (r : List Int) (day : Int), ss = [.d (rowD r), .d (.int day)] ∧ RowOk r ∧ (0 < mx r → Q (.v (.d (.tup [.int (dueN r day), .int (bindFst r day)]))) G) ∧ (mx r = 0 → Qx (endless C r) G)
def sp_l_due : DSpec := fun ss G Q => ∃ (r : List Int) (day : Int), ss = [.d (rowD r), .d (.int day)] ∧ RowOk r ∧ 0 < mx r ∧ Q (.v (.d (.tup [.int (dueN r day), .int (bindFst r day)]))) G
def sp_l_refused : DSpec := fun ss G Q => ∃ (r : List Int) (day : Int), ss = [.d (rowD r), .d (.int day)] ∧ RowOk r ∧ mx r = 0 ∧ Q (.v (.d (.bl true))) G
def sp_l_by_starts : DSpec := fun ss G Q => ∃ (r q : List Int) (day : Int), ss = [.d (rowD r), .d (rowD q), .d (.int day)] ∧ RowOk r ∧ 0 < mx r ∧ q.length + 1 = r.length ∧ (∀ z ∈ q, 0 ≤ z) ∧ Q (.v (.d (.int (if 12 < dueN r day then 12 else dueN r day)))) G
abbrev sp_law : DSpec := spLawE
theorem law_in {ns : List Int} (h : ns.length ≤ 63) (hb : ∀ z ∈ ns, Builtin.Int.intBits z ≤ 1048576) : sp_law [.d (.scr ns)] [] fun r _ => r = .v (.d (.bl true)) := spLawE_in h hb
end Pf
namespace Pf
open PySem L2 DL
theorem ok_ini_Endless {P : Program} {w : World} {K : PySem.W.Frag} {mg : Str → Option Value} {base : Heap} (T : TX w K mg) : FnOk P w K mg base CX0 1 T.ai_Endless T.fi_Endless ["self", "row"] (spIniB K "ArithmeticError.__new__" [.type "ArithmeticError", .type "Exception", .type "BaseException", .type "object"] ["row"]) := by
  refine T.Fi_Endless.ok sc_Endless___init__ (fun vs H Q E h => iniB_len h) (fun cdv A outer s H vs Q E hr h => ?_)
  have e := iniB_len h
  refine ⟨_, pss_cons (ps_expr (DXg.pe_beinit DXs.bx_ArithmeticError rfl T.z_ArithmeticError DXs.boot_ArithmeticError DXs.ty_ArithmeticError DXs.st_ArithmeticError DXs.hd_ArithmeticError T.vb_ArithmeticError (by decide) (by decide) (pa_cons (pv 0) (pa_cons pe_str pa_nil)))) (pss_one (DXg.ps_ostB DXs.bx_ArithmeticError (pv 0) (pv 1))), ?_⟩
  have z := iniB1 (m := "a row without hours") h
  match vs, e with
  | [_, _], _ => exact z
end Pf
namespace Pf
open PySem L2 DL
theorem ok_inih_Endless {P : Program} {w : World} {K : PySem.W.Frag} {mg : Str → Option Value} {base : Heap} (T : TX w K mg) : L2H.FnH P w K mg base CX0 1 T.ai_Endless T.fi_Endless ["self", "row"] (spIniB K "ArithmeticError.__new__" [.type "ArithmeticError", .type "Exception", .type "BaseException", .type "object"] ["row"]) := by
  refine DRd.okH T.Fi_Endless sc_Endless___init__ (fun vs H Q E h => iniB_len h) (fun cdv A outer s H vs Q E p hot hr h => ?_)
  have e := iniB_len h
  refine ⟨_, pss_cons (ps_expr (DXg.pe_beinit DXs.bx_ArithmeticError rfl T.z_ArithmeticError DXs.boot_ArithmeticError DXs.ty_ArithmeticError DXs.st_ArithmeticError DXs.hd_ArithmeticError T.vb_ArithmeticError (by decide) (by decide) (pa_cons (pv 0) (pa_cons pe_str pa_nil)))) (pss_one (DXg.ps_ostB DXs.bx_ArithmeticError (pv 0) (pv 1))), ?_⟩
  have z := iniB1 (m := "a row without hours") h
  match vs, e with
  | [_, _], _ => exact z
end Pf
local macro_rules | `(tactic| walk_at "draw") => `(tactic| (refine DL.draw_useE (by assumption) (by omega) (by first | omega | (simp only [List.length_map]; omega)) (by first | omega | (simp only [List.length_map]; omega)) ?_; intro _ _ _ _ _ _ _ _ _; dsimp only [asV]))
local macro_rules | `(tactic| walk_at "god") => `(tactic| repeat (first | walk_at "f1" | walk_at "d1" | walk_at "d2" | walk_at "draw"))
local macro_rules | `(tactic| walk_at "d1") => `(tactic| with_reducible first | refine u_eq_ss ?_ | refine u_ne_ss ?_ | refine st_par ?_ | refine iteDr ?_ | refine iteNDr ?_)
local macro_rules | `(tactic| walk_at "ixb") => `(tactic| ((try simp only [List.length_set, List.length_map, List.length_cons, List.length_nil]); omega))
local macro_rules | `(tactic| walk_at "d1") => `(tactic| (with_reducible refine u_get_intX ?_; refine ⟨_, rfl, ?_⟩; refine And.intro ?hb ?_; (case hb => refine ⟨?_, ?_⟩ <;> walk_at "ixb")))
local macro_rules | `(tactic| walk_at "d1") => `(tactic| (with_reducible refine sto_intX ?_; refine ⟨_, rfl, ?_⟩; refine And.intro ?hb ?_; (case hb => refine ⟨?_, ?_⟩ <;> walk_at "ixb")))
local macro_rules | `(tactic| walk_at "ixi") => `(tactic| (with_reducible refine u_ix_intX ?_; refine ⟨_, rfl, ?_⟩; refine And.intro ?hb ?_; (case hb => refine ⟨?_, ?_⟩ <;> walk_at "ixb")))
local macro_rules | `(tactic| walk_at "d1") => `(tactic| (with_reducible refine u_eqL0e ?_; walk_at "seq"; refine ⟨rfl, ?_⟩))
local macro_rules | `(tactic| walk_at "d1") => `(tactic| (with_reducible refine u_neL0e ?_; walk_at "seq"; refine ⟨rfl, ?_⟩))
local macro_rules | `(tactic| walk_at "d1") => `(tactic| with_reducible first | refine u_eqT0 ?_ | refine u_neT0 ?_ | refine u_eq_pair ?_ | refine u_ne_pair ?_ | refine u_in_pair ?_ | refine u_eq_oi ?_ | refine isN_o ?_ | refine notN_o ?_)
local macro_rules | `(tactic| walk_at "d1") => `(tactic| (with_reducible refine ap_isiX ?_; first | refine ⟨_, true, rfl, rfl, ?_⟩ | refine ⟨_, false, rfl, rfl, ?_⟩))
local macro_rules | `(tactic| walk_at "d1") => `(tactic| (with_reducible refine evn_dnewT ?_))
local macro_rules | `(tactic| walk_at "d1") => `(tactic| (with_reducible refine evn_c (evn_dnewT ?_)))


namespace Pf
open PySem L2 DL
section
variable {P : Program} {w : World} {K : PySem.W.Frag} {mg : Str → Option Value} {base : Heap}
theorem ok_l_draw (T : TX w K mg) : FnOk P w K mg base CX0 1 T.a_l_draw T.fd_l_draw ["_law_deck_here", "_law_most"] (spD K sp_l_draw) := by
  refine okD (k := 0) T.F_l_draw sc_l_draw (fun ss G Qd h => ?_) (fun cdv A outer s H E ss G Qd hr h => ?_)
  · obtain ⟨k, c, m, n, cells, seed, cnt, rfl, hD, hn, hm0, hm1, q⟩ := h
    rfl
  · obtain ⟨k, c, m, n, cells, seed, cnt, rfl, hD, hn, hm0, hm1, q⟩ := h
    refine ⟨_, (pss_cons (ps_asg (pe_op (show OpR _ (binaryOp .Add) (uAdd K) from uo_add) (show PE _ _ (tOp rDGet _ _) from pe_dgetO (Nat.lt_of_le_of_lt (Nat.add_le_add_left (by decide) _) hr.units) (pv 0) pe_str (fun _ _ => rfl)) pe_int) (pg_sub (pv 0) pe_str (set_dict (Nat.lt_of_le_of_lt (Nat.add_le_add_left (by decide) _) hr.units))))
      (pss_cons (ps_set (i := 2) sc_l_draw.nd rfl (Or.inl rfl) (show PE _ _ (tOp rDGet _ _) from pe_dgetO (Nat.lt_of_le_of_lt (Nat.add_le_add_left (by decide) _) hr.units) (pv 0) pe_str (fun _ _ => rfl)))
      (pss_cons (ps_set (i := 3) sc_l_draw.nd rfl (Or.inl rfl) (pe_op (show OpR _ (binaryOp .Add) (uAdd K) from uo_add) (show PE _ _ (tOp rDGet _ _) from pe_dgetO (Nat.lt_of_le_of_lt (Nat.add_le_add_left (by decide) _) hr.units) (pv 0) pe_str (fun _ _ => rfl)) (pe_op (show OpR _ (binaryOp .Mult) (uMulX K) from uo_mulX) (pe_op (show OpR _ (binaryOp .Mult) (uMulX K) from uo_mulX) pe_int (pv 2)) (pv 2))))
      (pss_cons (ps_if (pt_cmpR (show OpR _ (compareOp .NotEq) (rEqL0 K true) from op_neL0 hr.units) (show PE _ _ (tOp rDGet _ _) from pe_dgetO (Nat.lt_of_le_of_lt (Nat.add_le_add_left (by decide) _) hr.units) (pv 0) pe_str (fun _ _ => rfl)) (pe_lst pa_nil) (nomark _)) (pss_cons (ps_set (i := 4) sc_l_draw.nd rfl (Or.inl rfl) (pe_bm0 PySem.F.plainAttrs_list PySem.F.slot_list_pop PySem.F.type_list_pop mt_pop (show PE _ _ (tOp rDGet _ _) from pe_dgetO (Nat.lt_of_le_of_lt (Nat.add_le_add_left (by decide) _) hr.units) (pv 0) pe_str (fun _ _ => rfl))))
      (pss_cons (ps_if (pt_cmpR op_ge (pv 4) (pe_op op_pow pe_int pe_int) (nomark _)) (pss_cons (ps_expr (pe_bm PySem.F.plainAttrs_list PySem.F.slot_list_append PySem.F.type_list_append mt_append (show PE _ _ (tOp rDGet _ _) from pe_dgetO (Nat.lt_of_le_of_lt (Nat.add_le_add_left (by decide) _) hr.units) (pv 0) pe_str (fun _ _ => rfl)) (pa_cons (pe_op op_fdivW (pv 4) (pv 1)) pa_nil)))
      (pss_one (ps_ret (pe_op op_mod (pv 4) (pv 1))))) pss_nil)
      (pss_one (ps_set (i := 3) sc_l_draw.nd rfl (Or.inl rfl) (pe_op (show OpR _ (binaryOp .Add) (uAdd K) from uo_add) (pv 3) (pe_op (show OpR _ (binaryOp .Mult) (uMulX K) from uo_mulX) pe_int (pv 4))))))) pss_nil)
      (pss_cons (ps_set (i := 3) sc_l_draw.nd rfl (Or.inl rfl) (pe_op op_mod (pe_op (show OpR _ (binaryOp .Mult) (uMulX K) from uo_mulX) (pv 3) (pe_op (show OpR _ (binaryOp .Add) (uAdd K) from uo_add) (pv 3) (pe_op (show OpR _ (binaryOp .Mult) (uMulX K) from uo_mulX) pe_int (pv 2)))) pe_int))
      (pss_cons (ps_set (i := 3) sc_l_draw.nd rfl (Or.inl rfl) (pe_op op_mod (pe_op (show OpR _ (binaryOp .Add) (uAdd K) from uo_add) (pe_op (show OpR _ (binaryOp .Mult) (uMulX K) from uo_mulX) (pv 3) (pv 3)) (pe_op (show OpR _ (binaryOp .Mult) (uMulX K) from uo_mulX) pe_int (pv 2))) pe_int))
      (pss_one (ps_ret (pe_op op_mod (pe_op op_fdivW (pv 3) pe_int) (pv 1)))))))))), ?_⟩
    simp only [cxOf, Cx.nox, Cx.wish, Cx.blk, startD, List.map, List.length_cons, List.length_nil, Nat.reduceAdd, Nat.reduceSub, List.replicate, List.cons_append, List.nil_append]
    obtain ⟨hk, hc, ne, s0, s1, n0, n1, cl, cb⟩ := hD
    have fin : ∀ (z : Int) (cs : List Int), cs.length ≤ 1000 → (∀ z ∈ cs, Wd 1048576 z) → (endsD Qd).rt (.d (.int (z % m))) ((G.set k (.dh (ekK (.g c) seed (cnt + 1)))).set c (.pl (cs.map D.int))) [] :=
      fun z cs hl hb => q _ _ (ekTo_mk hk hc ne s0 s1 (by omega) (by omega) hl hb) (Int.emod_nonneg _ (by omega)) (Int.emod_lt_of_pos _ hm0)
    walk_at "go"
    refine dk_at hk ?_
    walk_at "go"
    refine sto_at hk ?_
    have hk1 := set_at (x := M.dh (ekK (.g c) seed (cnt + 1))) hk
    have hc1 : (G.set k (M.dh (ekK (.g c) seed (cnt + 1))))[c]? = _ := (set_off (Ne.symm ne)).trans hc
    generalize hG1 : G.set k (M.dh (ekK (.g c) seed (cnt + 1))) = G1 at *
    have wa : Wd 40 (cnt + 1) := Wd.of (by omega) (by omega)
    have w0 : Wd 200 (seed + 104729 * (cnt + 1) * (cnt + 1)) := ((Wd.of s0 s1).mono (by decide : 128 ≤ 199)).add ((((Wd.of (by decide) (by decide) : Wd 17 104729).mul wa).mul wa).mono (by decide))
    have w1 : Wd 60 (69621 * (cnt + 1)) := (((Wd.of (by decide) (by decide) : Wd 17 69621).mul wa).mono (by decide))
    walk_at "go"
    refine dk_at hk1 ?_
    walk_at "go"
    refine dk_seed hk1 ?_
    walk_at "go"
    refine u_mulX_i (mulL (by decide) (by decide)) ?_
    walk_at "go"
    refine u_mulX_i (mulR (by omega) (by omega)) ?_
    walk_at "go"
    refine dk_cells hk1 ?_
    walk_at "go"
    generalize seed + 104729 * (cnt + 1) * (cnt + 1) = x0 at *
    refine iteB (fun hne => ?_) (fun hem => ?_)
    · have hpos : 0 < cells.length := by
        cases cells with
        | nil => cases hne
        | cons _ _ => exact Nat.succ_pos _
      have hlast : (cells.map D.int)[(cells.map D.int).length - 1]? = some (D.int (cells.getLast (List.ne_nil_of_length_pos hpos))) := by
        rw [List.length_map, List.getElem?_map, List.getLast_eq_getElem, List.getElem?_eq_getElem]
        rfl
      have hzb := cb _ (List.getLast_mem (List.ne_nil_of_length_pos hpos))
      have hdb : ∀ z ∈ cells.dropLast, Wd 1048576 z := fun z hz => cb z ((List.dropLast_sublist cells).subset hz)
      generalize cells.getLast _ = z at hlast hzb
      walk_at "go"
      refine dk_cells hk1 ?_
      walk_at "go"
      try refine ⟨tyS_g hc1, ?_⟩
      refine mt_pop_g hc1 hlast ?_
      generalize hG2 : G1.set c (M.pl (cells.map D.int).dropLast) = G2
      have hk2 : G2[k]? = some (M.dh (ekK (.g c) seed (cnt + 1))) := by rw [← hG2, set_off ne, hk1]
      have hc2 : G2[c]? = some (M.pl (cells.dropLast.map D.int)) := by rw [← hG2, set_at hc1, List.map_dropLast]
      walk_at "go"
      refine iteD (fun hge => ?_) (fun hlt => ?_)
      · walk_at "go"
        try refine dk_cells hk2 ?_
        walk_at "go"
        try refine ⟨tyS_g hc2, ?_⟩
        walk_at "go"
        refine mt_app_g hc2 (by rw [List.length_map, List.length_dropLast]; exact lt_line (by omega)) ?_
        walk_at "go"
        have f := fin z (cells.dropLast ++ [z / m]) (by rw [List.length_append, List.length_dropLast]; show _ + 1 ≤ _; omega) (fun y hy => (List.mem_append.mp hy).elim (hdb y) fun hy => by
          rw [List.mem_singleton] at hy
          rw [hy]
          exact hzb.div (by omega) hm0)
        rw [← hG2, set_set]
        rw [List.map_append] at f
        exact f
      · walk_at "go"
        refine u_mulX_i (mulL (by decide) (by decide)) ?_
        walk_at "go"
        have w2 : Wd 1048593 (x0 + 48271 * z) := (w0.mono (by decide)).add (((Wd.of (by decide) (by decide) : Wd 16 48271).mul hzb).mono (by decide))
        generalize x0 + 48271 * z = x1 at *
        refine u_mulX_i (mulL (by decide) (by decide)) ?_
        walk_at "go"
        refine u_mulX_w (w2.mulX ((w2.add (w1.mono (by decide)))) (by decide)) ?_
        walk_at "go"
        have wy : Wd 127 (x1 * (x1 + 69621 * (cnt + 1)) % 170141183460469231731687303715884105727) := Wd.of (Int.emod_nonneg _ (by decide)) (Int.lt_trans (Int.emod_lt_of_pos _ (by decide)) (by decide))
        generalize x1 * (x1 + 69621 * (cnt + 1)) % 170141183460469231731687303715884105727 = y1 at *
        refine u_mulX_w (wy.mulX wy (by decide)) ?_
        walk_at "go"
        refine u_mulX_i (mulL (by decide) (by decide)) ?_
        walk_at "go"
        have f := fun y => fin y cells.dropLast (by rw [List.length_dropLast]; omega) hdb
        rw [List.map_dropLast, hG2] at f
        exact f _
    · walk_at "go"
      refine u_mulX_i (mulL (by decide) (by decide)) ?_
      walk_at "go"
      refine u_mulX_w (w0.mulX ((w0.add (w1.mono (by decide)))) (by decide)) ?_
      walk_at "go"
      have wy : Wd 127 (x0 * (x0 + 69621 * (cnt + 1)) % 170141183460469231731687303715884105727) := Wd.of (Int.emod_nonneg _ (by decide)) (Int.lt_trans (Int.emod_lt_of_pos _ (by decide)) (by decide))
      generalize x0 * (x0 + 69621 * (cnt + 1)) % 170141183460469231731687303715884105727 = y1 at *
      refine u_mulX_w (wy.mulX wy (by decide)) ?_
      walk_at "go"
      refine u_mulX_i (mulL (by decide) (by decide)) ?_
      walk_at "go"
      have f := fun y => fin y cells cl cb
      rw [set_same hc1] at f
      exact f _
end
end Pf
namespace Pf
open PySem L2 DL
section
variable {P : Program} {w : World} {K : PySem.W.Frag} {mg : Str → Option Value} {base : Heap}
theorem ok_l_deck (T : TX w K mg) : FnOk P w K mg base CX0 1 T.a_l_deck T.fd_l_deck ["_law_script"] (spD K sp_l_deck) := by
  refine okD (k := 0) T.F_l_deck sc_l_deck (fun ss G Qd h => ?_) (fun cdv A outer s H E ss G Qd hr h => ?_)
  · obtain ⟨ns, rfl, hns, hnb, q⟩ := h
    rfl
  · obtain ⟨ns, rfl, hns, hnb, q⟩ := h
    refine ⟨_, (pss_cons (ps_set (i := 1) sc_l_deck.nd rfl (Or.inl rfl) (pe_callTy (show CallR _ (.type "list") (uList K) from (uc_list rfl)) (by rfl) T.z_list (by decide +kernel) (pa_cons (pe_slice (show SlR _ (uSl K) from us_sl) (pv 0) po_none (po_some pe_int)) pa_nil)))
      (pss_cons (ps_set (i := 2) sc_l_deck.nd rfl (Or.inl rfl) (pe_op (show OpR _ (binaryOp .Add) (uAdd K) from uo_add) pe_int (pe_callB (show CallR _ (.builtin "len") (uLen K) from uc_len) (by rfl) T.z_len (by decide +kernel) (pa_cons (pv 1) pa_nil))))
      (pss_cons (ps_for PassesOwn.never rfl (pi_seq (pv 1)) (pg_name (i := 3) sc_l_deck.nd rfl (Or.inl rfl)) (pss_one (ps_set (i := 2) sc_l_deck.nd rfl (Or.inl rfl) (pe_op op_mod (pe_op (show OpR _ (binaryOp .Add) (uAdd K) from uo_add) (pe_op (show OpR _ (binaryOp .Mult) (uMulT K) from uo_mulT) (pv 2) pe_int) (pv 3)) pe_int))))
      (pss_one (ps_ret (pe_disp (pps_cons pe_str (pe_revU (pv 1)) (pps_cons pe_str (pv 2) (pps_cons pe_str pe_int pps_nil))) rfl rfl (by intro h; cases h) (by decide))))))), ?_⟩
    simp only [cxOf, Cx.nox, Cx.wish, Cx.blk, startD, List.map, List.length_cons, List.length_nil, Nat.reduceAdd, Nat.reduceSub, List.replicate, List.cons_append, List.nil_append]
    walk_at "go"
    refine sln_c (sl_scr ?_)
    walk_at "go"
    obtain ⟨cells, hc, hl, hm⟩ := cutD_map D.int ns none (some 63)
    rw [hc]
    generalize hD : ([some (S.d (D.scr ns)), none, none, none].set 1 (some (S.d (D.lst (cells.map D.int))))) = Δ
    have hD' : Δ = [some (S.d (D.scr ns)), some (S.d (D.lst (cells.map D.int))), none, none] := hD.symm
    subst hD'
    clear hD
    walk_at "go"
    refine st_for ?_
    refine evi_seq (evc_varX ⟨_, rfl, _, _, rfl, rfl, ?_⟩)
    refine ⟨fun i Δ' G' L' => ∃ (seed : Int) (x3 : Option S), Δ' = [some (S.d (D.scr ns)), some (S.d (D.lst (cells.map D.int))), some (.d (.int seed)), x3] ∧ G' = G ∧ L' = [] ∧ 0 ≤ seed ∧ seed < 2 ^ 128, ?_, ?_, ?_⟩
    · exact ⟨_, none, rfl, rfl, rfl, (by omega), (by rw [List.length_map]; omega)⟩
    · rintro i d Δ' G' L' hd ⟨seed, x3, rfl, rfl, rfl, s0, s1⟩
      obtain ⟨z, hz, rfl⟩ := get_map hd
      walk_at "go"
      exact ⟨rfl, Int.emod_nonneg _ (by decide), Int.lt_trans (Int.emod_lt_of_pos _ (by decide)) (by decide)⟩
    · rintro Δ' G' L' ⟨seed, x3, rfl, rfl, rfl, s0, s1⟩
      refine st_retD cs ca sa ?_
      refine evn_revU ?_
      walk_at "go"
      have f := q cells.reverse seed (by rw [List.length_reverse]; omega) (fun z hz => hnb z (hm z (List.mem_reverse.mp hz))) s0 s1
      rw [List.map_reverse] at f
      exact f
end
end Pf
namespace Pf
open PySem L2 DL
section
variable {P : Program} {w : World} {K : PySem.W.Frag} {mg : Str → Option Value} {base : Heap}
theorem ok_l_rooms (T : TX w K mg) (G_l_draw : FnOk P w K mg base CX0 1 T.a_l_draw T.fd_l_draw ["_law_deck_here", "_law_most"] (spD K sp_l_draw)) : FnOk P w K mg base CX0 2 T.a_l_rooms T.fd_l_rooms ["_law_deck_here", "_law_hands"] (spD K sp_l_rooms) := by
  refine okD (k := 1) T.F_l_rooms sc_l_rooms (fun ss G Qd h => ?_) (fun cdv A outer s H E ss G Qd hr h => ?_)
  · obtain ⟨k, c, n, cells, seed, cnt, h, rfl, hD, hn, hh, q⟩ := h
    rfl
  · obtain ⟨k, c, n, cells, seed, cnt, h, rfl, hD, hn, hh, q⟩ := h
    refine ⟨_, (pss_one (ps_ret (pe_callTy (show CallR _ (.type "tuple") (uTuple K) from uc_tuple) (by rfl) T.z_tuple (by decide +kernel) (pa_cons (pe_lc (own := [("_law_hand", 2)]) (g := (gName 2)) (tt := tYes) (by rfl) sc_l_rooms.nd (pi_range1 rfl T.z_range (pa_cons (pe_op op_sub (pv 1) pe_int) pa_nil)) (blkOk_by (N := ["_law_deck_here", "_law_hands", "_law_hand"]) (sc := defScope s_l_rooms) (by decide +kernel)) (fun _ _ _ _ _ => (pg_name (i := 2) sc_l_rooms.nd rfl (Or.inl rfl))) (fun _ _ _ _ _ => pts_nil) (fun _ _ _ _ _ => (pe_ix (show IxR _ (rIx K) from ix_seq) (pe_lst (pa_cons pe_int (pa_cons pe_int (pa_cons pe_int (pa_cons pe_int (pa_cons (pe_call G_l_draw (hr.mono (by decide)) rfl T.m_l_draw T.k_l_draw T.b_l_draw .nil pass0 (pa_cons (pv 0) (pa_cons pe_int pa_nil))) pa_nil)))))) (pe_call G_l_draw (hr.mono (by decide)) rfl T.m_l_draw T.k_l_draw T.b_l_draw .nil pass0 (pa_cons (pv 0) (pa_cons pe_int pa_nil))) (fun _ _ => rfl)))) pa_nil)))), ?_⟩
    simp only [cxOf, Cx.nox, Cx.wish, Cx.blk, startD, List.map, List.length_cons, List.length_nil, Nat.reduceAdd, Nat.reduceSub, List.replicate, List.cons_append, List.nil_append]
    walk_at "god"
    refine evn_c (evn_lc ?_)
    walk_at "god"
    refine ⟨by omega, by omega, ?_⟩
    refine ⟨fun j acc G2 L2 => ∃ zs : List Int, acc = zs.map D.int ∧ zs.length = j ∧ (∀ z ∈ zs, 0 ≤ z ∧ z ≤ 12) ∧ L2 = [] ∧ EkTo G k c (n + 2 * (j : Int)) G2, ⟨[], rfl, rfl, (fun z hz => by cases hz), rfl, (EkTo.refl hD).mono (by omega)⟩, by rw [rngD_len]; exact lt_line (by omega), ?_, ?_⟩
    · rintro j d acc G2 L2 hd _ ⟨zs, rfl, hzl, hzs, rfl, t2⟩
      obtain ⟨hj, rfl⟩ := rngD_get hd
      obtain ⟨_, _, _, Dt2⟩ := t2.dk
      walk_at "god"
      refine u_ix_all ⟨_, rfl, by assumption, by show _ < ((5 : Nat) : Int); omega, fun d hd => ?_⟩
      obtain ⟨z, rfl, z0, z1⟩ : ∃ z, d = D.int z ∧ 0 ≤ z ∧ z ≤ 12 := by
        simp only [List.mem_cons, List.not_mem_nil, or_false] at hd
        rcases hd with rfl | rfl | rfl | rfl | rfl
        all_goals exact ⟨_, rfl, by omega, by omega⟩
      rename_i q0 G10 _ _ _ p0 _ a0 b0 q1 G11 _ _ _ p1 _ a1 b1
      refine ⟨_, rfl, zs ++ [z], by rw [List.map_append]; rfl, by rw [List.length_append, hzl]; rfl, fun y hy => ?_, rfl, ((t2.trans p0).trans p1).mono (by omega)⟩
      rcases List.mem_append.mp hy with hy | hy
      · exact hzs y hy
      · rw [List.mem_singleton] at hy
        rw [hy]
        exact ⟨z0, z1⟩
    · rintro acc G2 L2 ⟨zs, rfl, hzl, hzs, rfl, t2⟩
      rw [rngD_len] at hzl t2
      walk_at "god"
      exact q zs _ (by omega) hzs (t2.mono (by omega))

end
end Pf
namespace Pf
open PySem L2 DL
section
variable {P : Program} {w : World} {K : PySem.W.Frag} {mg : Str → Option Value} {base : Heap}
local macro_rules | `(tactic| walk_at "own") => `(tactic| first | (with_reducible refine st_own (i := 2) ?_))
theorem ok_l_needs (T : TX w K mg) : FnOk P w K mg base CX0 1 T.a_l_needs T.fd_l_needs ["_law_times", "_law_rooms_here"] (spD K sp_l_needs) := by
  refine okD (k := 0) T.F_l_needs sc_l_needs (fun ss G Qd h => ?_) (fun cdv A outer s H E ss G Qd hr h => ?_)
  · obtain ⟨U, m, H, r, rfl, hD, hre, q⟩ := h
    rfl
  · obtain ⟨U, m, H, r, rfl, hD, hre, q⟩ := h
    refine ⟨_, (pss_cons (ps_set (i := 2) sc_l_needs.nd rfl (Or.inl rfl) (pe_lst pa_nil))
      (pss_cons (ps_par (i := 3) (j := 4) (by rfl) sc_l_needs.nd rfl rfl (by decide) rfl rfl (pa_cons (pe_callB (show CallR _ (.builtin "len") (uLen K) from uc_len) (by rfl) T.z_len (by decide +kernel) (pa_cons (pv 0) pa_nil)) (pa_cons (pe_callB (show CallR _ (.builtin "len") (uLen K) from uc_len) (by rfl) T.z_len (by decide +kernel) (pa_cons (pe_ix (show IxR _ (rIx K) from ix_seq) (pv 0) pe_int (fun _ _ => rfl)) pa_nil)) pa_nil)) (by rfl))
      (pss_cons (ps_for PassesOwn.never rfl (pi_range1 rfl T.z_range (pa_cons (pv 3) pa_nil)) (pg_name (i := 5) sc_l_needs.nd rfl (Or.inl rfl)) (pss_one (ps_for PassesOwn.never rfl (pi_range1 rfl T.z_range (pa_cons (pv 4) pa_nil)) (pg_name (i := 6) sc_l_needs.nd rfl (Or.inl rfl)) (pss_cons (ps_if (pt_cmpR op_lt (pe_op (show OpR _ (binaryOp .Add) (uAdd K) from uo_add) (pv 6) pe_int) (pv 4) (nomark _)) (pss_one (ps_expr (pe_bm PySem.F.plainAttrs_list PySem.F.slot_list_append PySem.F.type_list_append mt_append (pv 2) (pa_cons (pe_tup (pa_cons (pe_tup (pa_cons (pv 6) (pa_cons (pv 5) pa_nil))) (pa_cons (pe_tup (pa_cons (pe_op (show OpR _ (binaryOp .Add) (uAdd K) from uo_add) (pv 6) pe_int) (pa_cons (pv 5) pa_nil))) (pa_cons (pe_ix (show IxR _ (rIx K) from ix_seq) (pe_ix (show IxR _ (rIx K) from ix_seq) (pv 0) (pv 5) (fun _ _ => rfl)) (pv 6) (fun _ _ => rfl)) pa_nil)))) pa_nil)))) pss_nil)
      (pss_cons (ps_if (pt_cmpR op_lt (pe_op (show OpR _ (binaryOp .Add) (uAdd K) from uo_add) (pv 5) pe_int) (pv 3) (nomark _)) (pss_one (ps_expr (pe_bm PySem.F.plainAttrs_list PySem.F.slot_list_append PySem.F.type_list_append mt_append (pv 2) (pa_cons (pe_tup (pa_cons (pe_tup (pa_cons (pv 6) (pa_cons (pv 5) pa_nil))) (pa_cons (pe_tup (pa_cons (pv 6) (pa_cons (pe_op (show OpR _ (binaryOp .Add) (uAdd K) from uo_add) (pv 5) pe_int) pa_nil))) (pa_cons (pe_ix (show IxR _ (rIx K) from ix_seq) (pe_ix (show IxR _ (rIx K) from ix_seq) (pv 0) (pv 5) (fun _ _ => rfl)) (pv 6) (fun _ _ => rfl)) pa_nil)))) pa_nil)))) pss_nil)
      (pss_one (ps_if (PW.pt (pw_and (pt_cmpR op_lt (pe_op (show OpR _ (binaryOp .Add) (uAdd K) from uo_add) (pv 6) pe_int) (pv 4) (nomark _)) (pw_and1 (pt_cmpR op_lt (pe_op (show OpR _ (binaryOp .Add) (uAdd K) from uo_add) (pe_op (show OpR _ (binaryOp .Add) (uAdd K) from uo_add) (pv 5) pe_int) (pe_ix (show IxR _ (rIx K) from ix_seq) (pv 1) (pv 6) (fun _ _ => rfl))) (pv 3) (nomark _))))) (pss_one (ps_expr (pe_bm PySem.F.plainAttrs_list PySem.F.slot_list_append PySem.F.type_list_append mt_append (pv 2) (pa_cons (pe_tup (pa_cons (pe_tup (pa_cons (pe_op (show OpR _ (binaryOp .Add) (uAdd K) from uo_add) (pv 6) pe_int) (pa_cons (pv 5) pa_nil))) (pa_cons (pe_tup (pa_cons (pv 6) (pa_cons (pe_op (show OpR _ (binaryOp .Add) (uAdd K) from uo_add) (pe_op (show OpR _ (binaryOp .Add) (uAdd K) from uo_add) (pv 5) pe_int) (pe_ix (show IxR _ (rIx K) from ix_seq) (pv 1) (pv 6) (fun _ _ => rfl))) pa_nil))) (pa_cons pe_int pa_nil)))) pa_nil)))) pss_nil)))))))
      (pss_one (ps_ret (pv 2)))))), ?_⟩
    simp only [cxOf, Cx.nox, Cx.wish, Cx.blk, startD, List.map, List.length_cons, List.length_nil, Nat.reduceAdd, Nat.reduceSub, List.replicate, List.cons_append, List.nil_append]
    have hm1 := hD.m1
    have hm2 := hD.m2
    have hh1 := hD.h1
    have hh2 := hD.h2
    have hml : (List.map rowD (mat U m H)).length = m := by rw [List.length_map, mat_len]
    walk_at "go"
    refine mat_ixX ⟨mat U m H, _, .inl rfl, Int.le_refl _, mat_get (by omega), fun s hs => ?_⟩
    walk_at "go"
    refine len_row hs ?_
    rw [hml, List.length_map, List.length_range]
    walk_at "go"
    refine st_for ?_
    walk_at "go"
    refine ⟨by omega, by omega, ?_⟩
    refine ⟨fun b Δ' G' L' => ∃ (x5 x6 : Option S), Δ' = [some (.d (tblD (mat U m H))), some (.d (rowD r)), some (.l 0), some (.d (.int (m : Nat))), some (.d (.int (H : Nat))), x5, x6] ∧ G = G' ∧ L' = [.pl (((List.range b).flatMap fun b => (List.range H).flatMap (nd U r m H b)).map ndD)], ?_, ?_, ?_⟩
    · exact ⟨none, none, rfl, rfl, rfl⟩
    · rintro b d Δ' G' L' hd ⟨x5, x6, rfl, rfl, rfl⟩
      obtain ⟨hb, rfl⟩ := rngD_get hd
      rw [show (0 : Int) + (b : Int) = b from Int.zero_add _]
      have hb : b < m := by omega
      have hl1 := needs_pre U r m H b
      have hl2 : b * (H * 3) ≤ 100 * (10 * 3) := Nat.mul_le_mul (by omega) (by omega)
      refine tg_name trivial ?_
      refine st_imp (P := fun Δ' G' L' => ∃ (x5 x6 : Option S), Δ' = [some (.d (tblD (mat U m H))), some (.d (rowD r)), some (.l 0), some (.d (.int (m : Nat))), some (.d (.int (H : Nat))), x5, x6] ∧ G = G' ∧ L' = [.pl (((List.range b).flatMap (fun b => (List.range H).flatMap (nd U r m H b)) ++ (List.range H).flatMap (nd U r m H b)).map ndD)]) ?_ (fun Δ' G' L' h => by
        dsimp only
        rw [flat_succ]
        exact h)
      generalize (List.range b).flatMap (fun b => (List.range H).flatMap (nd U r m H b)) = pre at *
      refine st_for ?_
      walk_at "go"
      refine ⟨by omega, by omega, ?_⟩
      refine ⟨fun h Δ' G' L' => ∃ (x6 : Option S), Δ' = [some (.d (tblD (mat U m H))), some (.d (rowD r)), some (.l 0), some (.d (.int (m : Nat))), some (.d (.int (H : Nat))), some (.d (.int (b : Nat))), x6] ∧ G = G' ∧ L' = [.pl ((pre ++ (List.range h).flatMap (nd U r m H b)).map ndD)], ?_, ?_, ?_⟩
      · exact ⟨x6, rfl, rfl, by rw [List.range_zero, List.flatMap_nil, List.append_nil]⟩
      · rintro h d Δ' G' L' hd ⟨x6, rfl, rfl, rfl⟩
        obtain ⟨hh, rfl⟩ := rngD_get hd
        rw [show (0 : Int) + (h : Int) = h from Int.zero_add _]
        have hh : h < H := by omega
        have hl3 := row_len U r m H b h
        have hl4 : (pre ++ (List.range h).flatMap (nd U r m H b)).length ≤ 4000 := by
          rw [List.length_append]
          omega
        refine tg_name trivial ?_
        refine st_imp (P := fun Δ' G' L' => ∃ (x6 : Option S), Δ' = [some (.d (tblD (mat U m H))), some (.d (rowD r)), some (.l 0), some (.d (.int (m : Nat))), some (.d (.int (H : Nat))), some (.d (.int (b : Nat))), x6] ∧ G = G' ∧ L' = [.pl ((pre ++ (List.range h).flatMap (nd U r m H b) ++ nd U r m H b h).map ndD)]) ?_ (fun Δ' G' L' h => by
          dsimp only
          rw [flat_succ, ← List.append_assoc]
          exact h)
        generalize pre ++ (List.range h).flatMap (nd U r m H b) = pr at *
        walk_at "go"
        have o1 := optN_len (h + 1 < H) ((h, b), (h + 1, b), U b h)
        have o2 := optN_len (b + 1 < m) ((h, b), (h, b + 1), U b h)
        have hrl : h + 1 < H → h < r.length := fun l => by omega
        refine if_join (fun Δ' G' L' => Δ' = [some (.d (tblD (mat U m H))), some (.d (rowD r)), some (.l 0), some (.d (.int (m : Nat))), some (.d (.int (H : Nat))), some (.d (.int (b : Nat))), some (.d (.int (h : Nat)))] ∧ G = G' ∧ L' = [.pl ((pr ++ optN (h + 1 < H) ((h, b), (h + 1, b), U b h)).map ndD)]) (fun h1 => ?_) (fun h1 => ?_) ?_
        · have h1 := of_decide_eq_true h1
          walk_at "go"
          refine ix_mat (g := rowD) b rfl rfl hb ?_
          walk_at "go"
          refine ix_rng h rfl rfl hh ?_
          walk_at "go"
          refine mt_app_lX ⟨_, rfl, lt_line (by rw [List.length_map]; omega), ?_⟩
          walk_at "go"
          exact ⟨rfl, rfl, by rw [optN_y (by omega), List.map_append]; rfl⟩
        · have h1 := of_decide_eq_false h1
          walk_at "go"
          exact ⟨rfl, rfl, by rw [optN_n (by omega), List.append_nil]⟩
        rintro Δ' G' L' ⟨rfl, rfl, rfl⟩
        walk_at "go"
        refine if_join (fun Δ' G' L' => Δ' = [some (.d (tblD (mat U m H))), some (.d (rowD r)), some (.l 0), some (.d (.int (m : Nat))), some (.d (.int (H : Nat))), some (.d (.int (b : Nat))), some (.d (.int (h : Nat)))] ∧ G = G' ∧ L' = [.pl ((pr ++ (optN (h + 1 < H) ((h, b), (h + 1, b), U b h) ++ optN (b + 1 < m) ((h, b), (h, b + 1), U b h))).map ndD)]) (fun h1 => ?_) (fun h1 => ?_) ?_
        · have h1 := of_decide_eq_true h1
          walk_at "go"
          refine ix_mat (g := rowD) b rfl rfl hb ?_
          walk_at "go"
          refine ix_rng h rfl rfl hh ?_
          walk_at "go"
          refine mt_app_lX ⟨_, rfl, lt_line (by rw [List.length_map, List.length_append]; omega), ?_⟩
          walk_at "go"
          exact ⟨rfl, rfl, by rw [optN_y (p := b + 1 < m) (by omega), ← List.append_assoc, List.map_append (l₂ := [_])]; rfl⟩
        · have h1 := of_decide_eq_false h1
          walk_at "go"
          exact ⟨rfl, rfl, by rw [optN_n (p := b + 1 < m) (by omega), List.append_nil]⟩
        rintro Δ' G' L' ⟨rfl, rfl, rfl⟩
        walk_at "go"
        have skip : ¬ (h + 1 < H ∧ b + 1 + (r.getD h 0).toNat < m) → nd U r m H b h = optN (h + 1 < H) ((h, b), (h + 1, b), U b h) ++ optN (b + 1 < m) ((h, b), (h, b + 1), U b h) := fun l => by
          unfold nd
          rw [optN_n l, List.append_nil]
        refine iteD (fun h1 => ?_) (fun h1 => ?_)
        · have hlt : h < r.length := by omega
          have hz : r[h]? = some r[h] := List.getElem?_eq_getElem hlt
          have hz0 : 0 ≤ r[h] := hD.rn _ (List.getElem_mem hlt)
          have hgd : r.getD h 0 = r[h] := by
            rw [List.getD_eq_getElem?_getD, hz]
            rfl
          generalize r[h] = z at *
          walk_at "go"
          refine row_ixX ⟨r, z, .inl rfl, by omega, by rw [show (h : Int).toNat = h by omega]; exact hz, ?_⟩
          walk_at "go"
          refine iteD (fun h2 => ?_) (fun h2 => ?_)
          · walk_at "go"
            refine row_ixX ⟨r, z, .inl rfl, by omega, by rw [show (h : Int).toNat = h by omega]; exact hz, ?_⟩
            walk_at "go"
            refine mt_app_lX ⟨_, rfl, lt_line (by rw [List.length_map, List.length_append, List.length_append]; omega), ?_⟩
            walk_at "go"
            have e3 : ndD ((h + 1, b), (h, b + 1 + z.toNat), 0) = .tup [.tup [.int ((h : Int) + 1), .int (b : Nat)], .tup [.int (h : Nat), .int ((b : Int) + 1 + z)], .int 0] := by
              unfold ndD sptD
              dsimp only
              rw [show ((b + 1 + z.toNat : Nat) : Int) = (b : Int) + 1 + z by omega, show ((h + 1 : Nat) : Int) = (h : Int) + 1 from rfl]
            first | refine ⟨_, rfl, rfl, ?_⟩ | refine ⟨rfl, ?_⟩ | skip
            have e4 : nd U r m H b h = (optN (h + 1 < H) ((h, b), (h + 1, b), U b h) ++ optN (b + 1 < m) ((h, b), (h, b + 1), U b h)) ++ [((h + 1, b), (h, b + 1 + z.toNat), 0)] := by
              unfold nd
              rw [hgd, optN_y (p := h + 1 < H ∧ b + 1 + z.toNat < m) ⟨by omega, by omega⟩]
            have e5 : (pr ++ nd U r m H b h).map ndD = (pr ++ (optN (h + 1 < H) ((h, b), (h + 1, b), U b h) ++ optN (b + 1 < m) ((h, b), (h, b + 1), U b h))).map ndD ++ [ndD ((h + 1, b), (h, b + 1 + z.toNat), 0)] := by
              rw [e4, ← List.append_assoc, List.map_append (l₂ := [_])]
              rfl
            rw [e5, e3]
            rfl
          · walk_at "go"
            first | exact ⟨_, rfl, rfl, by rw [skip (by omega)]⟩ | exact ⟨rfl, by rw [skip (by omega)]⟩ | (rw [skip (by omega)])
        · walk_at "go"
          first | exact ⟨_, rfl, rfl, by rw [skip (by omega)]⟩ | exact ⟨rfl, by rw [skip (by omega)]⟩ | (rw [skip (by omega)])
      · rintro Δ' G' L' ⟨x6, rfl, rfl, rfl⟩
        rw [rngD_len, show ((H : Nat) : Int).toNat = H by omega]
        exact ⟨_, _, rfl, rfl, rfl⟩
    · rintro Δ' G' L' ⟨x5, x6, rfl, rfl, rfl⟩
      rw [rngD_len, show ((m : Nat) : Int).toNat = m by omega]
      refine st_frz 0 ⟨_, _, rfl, rfl, ?_⟩
      show StC K _ [some (.d (tblD (mat U m H))), some (.d (rowD r)), some (.d (.lst ((needs U r m H).map ndD))), some (.d (.int (m : Nat))), some (.d (.int (H : Nat))), _, _] G [] _
      walk_at "go"
      exact q
end
end Pf
namespace Pf
open PySem L2 DL
section
variable {P : Program} {w : World} {K : PySem.W.Frag} {mg : Str → Option Value} {base : Heap}
local macro_rules | `(tactic| walk_at "own") => `(tactic| first | (with_reducible refine st_own (i := 3) ?_))
theorem ok_l_least (T : TX w K mg) (G_l_needs : FnOk P w K mg base CX0 1 T.a_l_needs T.fd_l_needs ["_law_times", "_law_rooms_here"] (spD K sp_l_needs)) : FnOk P w K mg base CX0 2 T.a_l_least T.fd_l_least ["_law_times", "_law_rooms_here"] (spD K sp_l_least) := by
  refine okD (k := 1) T.F_l_least sc_l_least (fun ss G Qd h => ?_) (fun cdv A outer s H E ss G Qd hr h => ?_)
  · obtain ⟨U, m, H, r, rfl, hD, hre, q⟩ := h
    rfl
  · obtain ⟨U, m, H, r, rfl, hD, hre, q⟩ := h
    refine ⟨_, (pss_cons (ps_set (i := 2) sc_l_least.nd rfl (Or.inl rfl) (pe_call G_l_needs (hr.mono (by decide)) rfl T.m_l_needs T.k_l_needs T.b_l_needs .nil pass0 (pa_cons (pv 0) (pa_cons (pv 1) pa_nil))))
      (pss_cons (ps_set (i := 3) sc_l_least.nd rfl (Or.inr rfl) pe_dnewT)
      (pss_cons (ps_for PassesOwn.never rfl (pi_seq (pe_op (show OpR _ (binaryOp .Add) (uAdd K) from uo_add) (pv 2) (pe_lst (pa_cons (pe_tup (pa_cons (pe_tup (pa_cons pe_int (pa_cons pe_int pa_nil))) (pa_cons (pe_tup (pa_cons pe_int (pa_cons pe_int pa_nil))) (pa_cons pe_int pa_nil)))) pa_nil)))) (pg_tup rfl (pgs_cons (pg_name (i := 4) sc_l_least.nd rfl (Or.inl rfl)) (pgs_cons (pg_name (i := 5) sc_l_least.nd rfl (Or.inl rfl)) (pgs_cons (pg_name (i := 6) sc_l_least.nd rfl (Or.inl rfl)) pgs_nil)))) (pss_cons (ps_asg pe_int (pg_sub (pv 3) (pv 4) (set_dict (Nat.lt_of_le_of_lt (Nat.add_le_add_left (by decide) _) hr.units))))
      (pss_one (ps_asg pe_int (pg_sub (pv 3) (pv 5) (set_dict (Nat.lt_of_le_of_lt (Nat.add_le_add_left (by decide) _) hr.units)))))))
      (pss_cons (ps_set (i := 7) sc_l_least.nd rfl (Or.inl rfl) pe_bl)
      (pss_cons (ps_while PassesOwn.never (pt_val (pv 7)) (pss_cons (ps_set (i := 7) sc_l_least.nd rfl (Or.inl rfl) pe_bl)
      (pss_one (ps_for PassesOwn.never rfl (pi_seq (pv 2)) (pg_tup rfl (pgs_cons (pg_name (i := 4) sc_l_least.nd rfl (Or.inl rfl)) (pgs_cons (pg_name (i := 5) sc_l_least.nd rfl (Or.inl rfl)) (pgs_cons (pg_name (i := 6) sc_l_least.nd rfl (Or.inl rfl)) pgs_nil)))) (pss_one (ps_if (pt_cmpR op_lt (show PE _ _ (tOp rDGet _ _) from pe_dgetO (Nat.lt_of_le_of_lt (Nat.add_le_add_left (by decide) _) hr.units) (pv 3) (pv 5) (fun _ _ => rfl)) (pe_op (show OpR _ (binaryOp .Add) (uAdd K) from uo_add) (show PE _ _ (tOp rDGet _ _) from pe_dgetO (Nat.lt_of_le_of_lt (Nat.add_le_add_left (by decide) _) hr.units) (pv 3) (pv 4) (fun _ _ => rfl)) (pv 6)) (nomark _)) (pss_cons (ps_asg (pe_op (show OpR _ (binaryOp .Add) (uAdd K) from uo_add) (show PE _ _ (tOp rDGet _ _) from pe_dgetO (Nat.lt_of_le_of_lt (Nat.add_le_add_left (by decide) _) hr.units) (pv 3) (pv 4) (fun _ _ => rfl)) (pv 6)) (pg_sub (pv 3) (pv 5) (set_dict (Nat.lt_of_le_of_lt (Nat.add_le_add_left (by decide) _) hr.units))))
      (pss_one (ps_set (i := 7) sc_l_least.nd rfl (Or.inl rfl) pe_bl))) pss_nil))))))
      (pss_one (ps_ret (pe_callTy (show CallR _ (.type "tuple") (uTuple K) from uc_tuple) (by rfl) T.z_tuple (by decide +kernel) (pa_cons (pe_lc (own := [("_law_j", 8)]) (g := (gName 8)) (tt := tYes) (by rfl) sc_l_least.nd (pi_range1 rfl T.z_range (pa_cons (pe_callB (show CallR _ (.builtin "len") (uLen K) from uc_len) (by rfl) T.z_len (by decide +kernel) (pa_cons (pv 0) pa_nil)) pa_nil)) (blkOk_by (N := ["_law_times", "_law_rooms_here", "_law_needs_here", "_law_found", "_law_one", "_law_other", "_law_hours", "_law_more", "_law_j", "_law_h"]) (sc := defScope s_l_least) (by decide +kernel)) (fun _ _ _ _ _ => (pg_name (i := 8) sc_l_least.nd rfl (Or.inr rfl))) (fun _ _ _ _ _ => pts_nil) (fun _ _ _ _ _ => (pe_callTy (show CallR _ (.type "tuple") (uTuple K) from uc_tuple) (by rfl) T.z_tuple (by decide +kernel) (pa_cons (pe_lc (own := [("_law_h", 9)]) (g := (gName 9)) (tt := tYes) (by rfl) sc_l_least.nd (pi_range1 rfl T.z_range (pa_cons (pe_callB (show CallR _ (.builtin "len") (uLen K) from uc_len) (by rfl) T.z_len (by decide +kernel) (pa_cons (pe_ix (show IxR _ (rIx K) from ix_seq) (pv 0) pe_int (fun _ _ => rfl)) pa_nil)) pa_nil)) (blkOk_by (by rfl)) (fun _ _ _ _ _ => (pg_name (i := 9) sc_l_least.nd rfl (Or.inl rfl))) (fun _ _ _ _ _ => pts_nil) (fun _ _ _ _ _ => (show PE _ _ (tOp rDGet _ _) from pe_dgetO (Nat.lt_of_le_of_lt (Nat.add_le_add_left (by decide) _) hr.units) (pv 3) (pe_tup (pa_cons (pv 9) (pa_cons (pv 8) pa_nil))) (fun _ _ => rfl)))) pa_nil)))) pa_nil))))))))), ?_⟩
    simp only [cxOf, Cx.nox, Cx.wish, Cx.blk, startD, List.map, List.length_cons, List.length_nil, Nat.reduceAdd, Nat.reduceSub, List.replicate, List.cons_append, List.nil_append]
    have hm1 := hD.m1
    have hm2 := hD.m2
    have hh1 := hD.h1
    have hh2 := hD.h2
    have hT := hD.tn
    have hml : (List.map rowD (mat U m H)).length = m := by rw [List.length_map, mat_len]
    have hnl := needs_len U r hm2 hh2
    walk_at "go"
    refine ⟨U, m, H, r, rfl, hD, hre, ?_⟩
    walk_at "go"
    refine st_for ?_
    walk_at "go"
    refine ⟨le_line (by rw [List.length_map]; show _ + 1 ≤ _; omega), ?_⟩
    walk_at "go"
    have e0 : (needs U r m H).map ndD ++ [D.tup [.tup [.int 0, .int 0], .tup [.int 0, .int 0], .int 0]] = (needs U r m H ++ [((0, 0), (0, 0), 0)]).map ndD := by
      rw [List.map_append]
      rfl
    rw [e0]
    refine ⟨fun i Δ' G' L' => ∃ (kvs : List (List Key × Int)) (x4 x5 x6 : Option S), Δ' = [some (.d (tblD (mat U m H))), some (.d (rowD r)), some (.d (.lst ((needs U r m H).map ndD))), some (.l 0), x4, x5, x6, none, none, none] ∧ G = G' ∧ L' = [.dt kvs] ∧ kvs.length ≤ 2 * i ∧ (∀ n ∈ (needs U r m H ++ [((0, 0), (0, 0), 0)]).take i, getT kvs (kp n.1) = some 0 ∧ getT kvs (kp n.2.1) = some 0), ?_, ?_, ?_⟩
    · exact ⟨[], none, none, none, rfl, rfl, rfl, Nat.le_refl _, fun n hn => by rw [List.take_zero] at hn; cases hn⟩
    · rintro i d Δ' G' L' hd ⟨kvs, x4, x5, x6, rfl, rfl, rfl, hk, hall⟩
      rw [List.getElem?_map] at hd
      obtain ⟨n, hn, rfl⟩ := Option.map_eq_some_iff.mp hd
      have hi : i < 3001 := by
        have := (List.getElem?_eq_some_iff.mp hn).1
        rw [List.length_append] at this
        have : i < (needs U r m H).length + 1 := this
        omega
      have tk := take_snoc hn
      obtain ⟨⟨h1, b1⟩, ⟨h2, b2⟩, v⟩ := n
      unfold ndD sptD
      dsimp only
      walk_at "go"
      refine sto_dt ⟨kvs, rfl, by omega, ?_⟩
      have l1 := put_len kvs (kP (h1 : Nat) (b1 : Nat)) 0
      walk_at "go"
      refine sto_dt ⟨_, rfl, by omega, ?_⟩
      have l2 := put_len (putT kvs (kP (h1 : Nat) (b1 : Nat)) 0) (kP (h2 : Nat) (b2 : Nat)) 0
      walk_at "go"
      refine ⟨_, _, _, _, rfl, rfl, rfl, by omega, fun n hn => ?_⟩
      rw [tk] at hn
      rw [get_put, get_put, get_put, get_put]
      rcases List.mem_append.mp hn with hn | hn
      · obtain ⟨g1, g2⟩ := hall n hn
        rw [g1, g2]
        refine ⟨?_, ?_⟩ <;> split <;> first | rfl | (split <;> rfl)
      · rw [List.mem_singleton.mp hn]
        refine ⟨?_, ?_⟩
        · split
          · rfl
          · exact if_pos rfl
        · exact if_pos rfl
    rintro Δ' G' L' ⟨kvs, x4, x5, x6, rfl, rfl, rfl, hk, hall⟩
    rw [List.length_map] at hk hall
    rw [List.take_length] at hall
    have hhold : Holds kvs (fun _ _ => 0) m H := fun p hp1 hp2 => by
      by_cases e : p.1 = 0 ∧ p.2 = 0
      · have := (hall ((0, 0), (0, 0), 0) (List.mem_append_right _ (List.mem_singleton.mpr rfl))).1
        rw [show p = (0, 0) from Prod.ext e.1 e.2]
        exact this
      · obtain ⟨n, hn, e2⟩ := needs_all (T := U) (r := r) hp2 hp1 e
        have := (hall n (List.mem_append_left _ hn)).2
        rw [e2] at this
        exact this
    have hkl : kvs.length < 100000 := by
      rw [List.length_append] at hk
      have : kvs.length ≤ 2 * ((needs U r m H).length + 1) := hk
      omega
    clear hk hall
    walk_at "go"
    refine st_while (fun nn Δ' G' L' => ∃ (kvs : List (List Key × Int)) (X : Nat → Nat → Int) (mo : Bool) (x4 x5 x6 : Option S), Δ' = [some (.d (tblD (mat U m H))), some (.d (rowD r)), some (.d (.lst ((needs U r m H).map ndD))), some (.l 0), x4, x5, x6, some (.d (.bl mo)), none, none] ∧ G = G' ∧ L' = [.dt kvs] ∧ kvs.length < 100000 ∧ Holds kvs X m H ∧ (∀ b h, b < m → h < H → 0 ≤ X b h ∧ X b h ≤ F U (rm r) b h) ∧ (mo = false → ∀ n ∈ needs U r m H, at2 X n.1 + n.2.2 ≤ at2 X n.2.1) ∧ nn = gap U X (rm r) m H + mo.toNat) (gap U (fun _ _ => 0) (rm r) m H + 1) ?_ ?_
    · exact ⟨kvs, fun _ _ => 0, true, x4, x5, x6, rfl, rfl, rfl, hkl, hhold, fun b h _ _ => ⟨Int.le_refl _, F_nn b h⟩, (fun e => by cases e), rfl⟩
    clear hhold hkl
    rintro nn Δ' G' L' ⟨kvs, X, mo, x4, x5, x6, rfl, rfl, rfl, hkl, hhold, hX, hmo, rfl⟩
    walk_at "go"
    cases mo with
    | true =>
      refine iteTT ?_
      walk_at "go"
      refine st_for ?_
      walk_at "go"
      refine ⟨fun i Δ' G' L' => ∃ (kvs : List (List Key × Int)) (Y : Nat → Nat → Int) (mo : Bool) (x4 x5 x6 : Option S), Δ' = [some (.d (tblD (mat U m H))), some (.d (rowD r)), some (.d (.lst ((needs U r m H).map ndD))), some (.l 0), x4, x5, x6, some (.d (.bl mo)), none, none] ∧ G = G' ∧ L' = [.dt kvs] ∧ kvs.length < 100000 ∧ Holds kvs Y m H ∧ (∀ b h, b < m → h < H → 0 ≤ Y b h ∧ Y b h ≤ F U (rm r) b h) ∧ (mo = false → gap U Y (rm r) m H = gap U X (rm r) m H ∧ ∀ n ∈ (needs U r m H).take i, at2 Y n.1 + n.2.2 ≤ at2 Y n.2.1) ∧ (mo = true → gap U Y (rm r) m H < gap U X (rm r) m H), ?_, ?_, ?_⟩
      · exact ⟨kvs, X, false, _, _, _, rfl, rfl, rfl, hkl, hhold, hX, fun _ => ⟨rfl, fun n hn => by rw [List.take_zero] at hn; cases hn⟩, fun e => by cases e⟩
      · rintro i d Δ' G' L' hd ⟨kvs, Y, mo, x4, x5, x6, rfl, rfl, rfl, hkl, hhold, hY, hf, ht⟩
        rw [List.getElem?_map] at hd
        obtain ⟨n, hn, rfl⟩ := Option.map_eq_some_iff.mp hd
        have tk := take_snoc hn
        have o := needs_ok hT hre (List.mem_of_getElem? hn)
        obtain ⟨⟨h1, b1⟩, ⟨h2, b2⟩, v⟩ := n
        obtain ⟨a1, a2, c1, c2, lt, nn0, le⟩ := o
        dsimp only [at2] at a1 a2 c1 c2 lt nn0 le
        unfold ndD sptD
        dsimp only
        walk_at "go"
        refine u_dgetT ⟨_, rfl, _, hhold (h2, b2) c1 c2, ?_⟩
        walk_at "go"
        refine u_dgetT ⟨_, rfl, _, hhold (h1, b1) a1 a2, ?_⟩
        walk_at "go"
        have y1 := hY b1 h1 a2 a1
        have y2 := hY b2 h2 c2 c1
        refine iteD (fun h => ?_) (fun h => ?_)
        · have h : Y b2 h2 < Y b1 h1 + v := h
          walk_at "go"
          refine u_dgetT ⟨_, rfl, _, hhold (h1, b1) a1 a2, ?_⟩
          walk_at "go"
          refine sto_dt ⟨_, rfl, hkl, ?_⟩
          walk_at "go"
          have hg := gap_lt (T := U) (X := Y) (R := rm r) (m := m) (H := H) (p := (h2, b2)) (v := Y b1 h1 + v) c1 c2 h (by show Y b1 h1 + v ≤ F U (rm r) b2 h2; omega)
          have hl := put_len_in (v := Y b1 h1 + v) (hhold (h2, b2) c1 c2)
          have hgx : gap U Y (rm r) m H ≤ gap U X (rm r) m H := by
            cases mo with
            | false => exact Nat.le_of_eq (hf rfl).1
            | true => exact Nat.le_of_lt (ht rfl)
          refine ⟨_, lift Y (h2, b2) (Y b1 h1 + v), true, _, _, _, rfl, rfl, rfl, ?_, holds_put hhold (h2, b2) (Y b1 h1 + v), fun b h hb hh => ?_, (fun e => by cases e), fun _ => by omega⟩
          · exact hl ▸ hkl
          · unfold lift
            split
            · rename_i e
              cases e
              omega
            · exact hY b h hb hh
        · have h : ¬ Y b2 h2 < Y b1 h1 + v := h
          walk_at "go"
          refine ⟨kvs, Y, mo, _, _, _, rfl, rfl, rfl, hkl, hhold, hY, fun e => ⟨(hf e).1, fun n hn => ?_⟩, ht⟩
          rw [tk] at hn
          rcases List.mem_append.mp hn with hn | hn
          · exact (hf e).2 n hn
          · rw [List.mem_singleton.mp hn]
            show Y b1 h1 + v ≤ Y b2 h2
            omega
      · rintro Δ' G' L' ⟨kvs, Y, mo, x4, x5, x6, rfl, rfl, rfl, hkl, hhold, hY, hf, ht⟩
        rw [List.length_map, List.take_length] at hf
        cases mo with
        | true =>
          have := ht rfl
          exact ⟨gap U Y (rm r) m H + 1, by show _ < gap U X (rm r) m H + 1; omega, kvs, Y, true, _, _, _, rfl, rfl, rfl, hkl, hhold, hY, (fun e => by cases e), rfl⟩
        | false =>
          obtain ⟨f1, f2⟩ := hf rfl
          exact ⟨gap U Y (rm r) m H, by show _ < gap U X (rm r) m H + 1; omega, kvs, Y, false, _, _, _, rfl, rfl, rfl, hkl, hhold, hY, (fun _ => f2), rfl⟩
    | false =>
      refine iteFF ?_
      walk_at "go"
      have hhold : Holds kvs (F U (rm r)) m H := fun p hp1 hp2 => by
        rw [hhold p hp1 hp2]
        exact congrArg some (least_eq hT hre hX (hmo rfl) p.2 p.1 hp2 hp1)
      refine evn_c (evn_lcF (fun _ => true) (rowV (F U (rm r)) H) ?_)
      walk_at "go"
      rw [hml]
      refine ⟨by omega, by omega, ?_⟩
      refine ⟨lt_line (by rw [rngD_len]; omega), fun d hd => ?_, ?_⟩
      · obtain ⟨j, hj⟩ := List.mem_iff_getElem?.mp hd
        obtain ⟨hj, rfl⟩ := rngD_get hj
        rw [show (0 : Int) + (j : Int) = j from Int.zero_add _]
        have hj : j < m := by omega
        walk_at "go"
        refine ⟨rfl, fun _ => ?_, fun _ => ⟨rfl, rfl⟩⟩
        walk_at "go"
        refine evn_c (evn_lcF (fun _ => true) (cellV (F U (rm r)) j) ?_)
        walk_at "go"
        refine mat_ixX ⟨mat U m H, _, .inl rfl, Int.le_refl _, mat_get (by omega), fun s hs => ?_⟩
        walk_at "go"
        refine len_row hs ?_
        rw [List.length_map, List.length_range]
        walk_at "go"
        refine ⟨by omega, by omega, ?_⟩
        refine ⟨lt_line (by rw [rngD_len]; omega), fun d hd => ?_, ?_⟩
        · obtain ⟨h, hh⟩ := List.mem_iff_getElem?.mp hd
          obtain ⟨hh, rfl⟩ := rngD_get hh
          rw [show (0 : Int) + (h : Int) = h from Int.zero_add _]
          have hh : h < H := by omega
          walk_at "go"
          refine ⟨rfl, fun _ => ?_, fun _ => ⟨rfl, rfl⟩⟩
          walk_at "go"
          refine u_dgetT ⟨_, rfl, _, hhold (h, j) hh hj, ?_⟩
          walk_at "go"
          first | exact ⟨rfl, rfl, rfl⟩ | exact ⟨rfl, rfl⟩ | rfl
        · rw [filter_yes, cells_row]
          walk_at "go"
          first | exact ⟨rfl, rfl, rfl⟩ | exact ⟨rfl, rfl⟩ | rfl
      rw [filter_yes, rows_tbl]
      walk_at "go"
      exact q
end
end Pf
namespace Pf
open PySem L2 DL
section
variable {P : Program} {w : World} {K : PySem.W.Frag} {mg : Str → Option Value} {base : Heap}
theorem ok_l_end (T : TX w K mg) : FnOk P w K mg base CX0 1 T.a_l_end T.fd_l_end ["_law_times", "_law_starts"] (spD K sp_l_end) := by
  refine okD (k := 0) T.F_l_end sc_l_end (fun ss G Qd h => ?_) (fun cdv A outer s H E ss G Qd hr h => ?_)
  · obtain ⟨U, S1, m, H, rfl, hm, hH, q⟩ := h
    rfl
  · obtain ⟨U, S1, m, H, rfl, hm, hH, q⟩ := h
    refine ⟨_, (pss_one (ps_ret (pe_callB (show CallR _ (.builtin "max") (rMax K) from cr_max rfl) (by rfl) T.z_max (by decide +kernel) (pa_cons (pe_lc (own := [("_law_j", 2)]) (g := (gName 2)) (tt := tYes) (by rfl) sc_l_end.nd (pi_range1 rfl T.z_range (pa_cons (pe_callB (show CallR _ (.builtin "len") (uLen K) from uc_len) (by rfl) T.z_len (by decide +kernel) (pa_cons (pv 0) pa_nil)) pa_nil)) (blkOk_by (N := ["_law_times", "_law_starts", "_law_j", "_law_h"]) (sc := defScope s_l_end) (by decide +kernel)) (fun _ _ _ _ _ => (pg_name (i := 2) sc_l_end.nd rfl (Or.inr rfl))) (fun _ _ _ _ _ => pts_nil) (fun _ _ _ _ _ => (pe_callB (show CallR _ (.builtin "max") (rMax K) from cr_max rfl) (by rfl) T.z_max (by decide +kernel) (pa_cons (pe_lc (own := [("_law_h", 3)]) (g := (gName 3)) (tt := tYes) (by rfl) sc_l_end.nd (pi_range1 rfl T.z_range (pa_cons (pe_callB (show CallR _ (.builtin "len") (uLen K) from uc_len) (by rfl) T.z_len (by decide +kernel) (pa_cons (pe_ix (show IxR _ (rIx K) from ix_seq) (pv 0) pe_int (fun _ _ => rfl)) pa_nil)) pa_nil)) (blkOk_by (by rfl)) (fun _ _ _ _ _ => (pg_name (i := 3) sc_l_end.nd rfl (Or.inl rfl))) (fun _ _ _ _ _ => pts_nil) (fun _ _ _ _ _ => (pe_op (show OpR _ (binaryOp .Add) (uAdd K) from uo_add) (pe_ix (show IxR _ (rIx K) from ix_seq) (pe_ix (show IxR _ (rIx K) from ix_seq) (pv 1) (pv 2) (fun _ _ => rfl)) (pv 3) (fun _ _ => rfl)) (pe_ix (show IxR _ (rIx K) from ix_seq) (pe_ix (show IxR _ (rIx K) from ix_seq) (pv 0) (pv 2) (fun _ _ => rfl)) (pv 3) (fun _ _ => rfl))))) pa_nil)))) pa_nil)))), ?_⟩
    simp only [cxOf, Cx.nox, Cx.wish, Cx.blk, startD, List.map, List.length_cons, List.length_nil, Nat.reduceAdd, Nat.reduceSub, List.replicate, List.cons_append, List.nil_append]
    have hml : (List.map rowD (mat U m H)).length = m := by rw [List.length_map, mat_len]
    walk_at "go"
    refine evn_c (evn_lcF (fun _ => true) (endV U S1 H) ?_)
    walk_at "go"
    rw [hml]
    refine ⟨by omega, by omega, ?_⟩
    refine ⟨lt_line (by rw [rngD_len]; omega), fun d hd => ?_, ?_⟩
    · obtain ⟨j, hj⟩ := List.mem_iff_getElem?.mp hd
      obtain ⟨hj, rfl⟩ := rngD_get hj
      rw [show (0 : Int) + (j : Int) = j from Int.zero_add _]
      have hj : j < m := by omega
      walk_at "go"
      refine ⟨rfl, fun _ => ?_, fun _ => ⟨rfl, rfl⟩⟩
      walk_at "go"
      refine evn_c (evn_lcF (fun _ => true) (cellV (fun b h => S1 b h + U b h) j) ?_)
      walk_at "go"
      refine mat_ixX ⟨mat U m H, _, .inl rfl, Int.le_refl _, mat_get (by omega), fun s hs => ?_⟩
      walk_at "go"
      refine len_row hs ?_
      rw [List.length_map, List.length_range]
      walk_at "go"
      refine ⟨by omega, by omega, ?_⟩
      refine ⟨lt_line (by rw [rngD_len]; omega), fun d hd => ?_, ?_⟩
      · obtain ⟨h, hh⟩ := List.mem_iff_getElem?.mp hd
        obtain ⟨hh, rfl⟩ := rngD_get hh
        rw [show (0 : Int) + (h : Int) = h from Int.zero_add _]
        have hh : h < H := by omega
        walk_at "go"
        refine ⟨rfl, fun _ => ?_, fun _ => ⟨rfl, rfl⟩⟩
        walk_at "go"
        refine ix_mat (g := rowD) j rfl rfl hj ?_
        walk_at "go"
        refine ix_rng h rfl rfl hh ?_
        walk_at "go"
        refine ix_mat (g := rowD) j rfl rfl hj ?_
        walk_at "go"
        refine ix_rng h rfl rfl hh ?_
        walk_at "go"
        first | exact ⟨rfl, rfl, rfl⟩ | exact ⟨rfl, rfl⟩ | rfl
      · rw [filter_yes, cells_row]
        walk_at "go"
        refine ap_maxL ⟨_, rfl, by rw [List.length_map, List.length_range]; omega, fun e he hmax => ?_⟩
        walk_at "go"
        have ee : e = maxDf 0 ((List.range H).map fun h => S1 j h + U j h) := max_is he hmax
        first | exact ⟨by rw [ee]; rfl, rfl, rfl⟩ | exact ⟨rfl, rfl⟩ | rfl
    rw [filter_yes, ends_rows]
    walk_at "go"
    refine ap_maxL ⟨_, rfl, by rw [List.length_map, List.length_range]; omega, fun e he hmax => ?_⟩
    walk_at "go"
    exact q e (end_is hH.1 he hmax)
end
end Pf
namespace Pf
open PySem L2 DL
section
variable {P : Program} {w : World} {K : PySem.W.Frag} {mg : Str → Option Value} {base : Heap}
local macro_rules | `(tactic| walk_at "d1") => `(tactic| (with_reducible first | refine Pf.sum_use ?_ | refine Pf.max_use (by assumption) ?_ | refine Pf.sumS_use ?_ | refine evc_ckw ?_ | refine Pf.row_use (by omega) (by omega) ?_))
theorem ok_binds (T : TX w K mg) : FnOk P w K mg base CX0 1 T.a_binds T.fd_binds ["row", "day", "many", "hand"] (spD K sp_binds) := by
  refine okD (k := 0) T.F_binds sc_binds (fun ss G Qd h => ?_) (fun cdv A outer s H E ss G Qd hr h => ?_)
  · obtain ⟨r, day, many, hand, rfl, hr2, ⟨h0, h1⟩, q⟩ := h
    rfl
  · obtain ⟨r, day, many, hand, rfl, hr2, ⟨h0, h1⟩, q⟩ := h
    refine ⟨_, (pss_one (ps_ret (pe_cmpR op_gt (pe_callBK (show CallRK _ (.builtin "sum") _ (rSumS K) from crk_sumS rfl) (by rfl) T.z_sum (by decide +kernel) (pa_cons (pv 0) pa_nil) (pk_cons (pe_op (show OpR _ (binaryOp .Mult) (uMulT K) from uo_mulT) (pv 2) (pe_ix (show IxR _ (rIx K) from ix_seq) (pv 0) (pv 3) (fun _ _ => rfl))) pk_nil)) (pv 1) (nomark _)))), ?_⟩
    simp only [cxOf, Cx.nox, Cx.wish, Cx.blk, startD, List.map, List.length_cons, List.length_nil, Nat.reduceAdd, Nat.reduceSub, List.replicate, List.cons_append, List.nil_append]
    have hg := row_at28 h0 h1
    have hx := hr2.x _ (List.mem_of_getElem? hg)
    walk_at "go"
    exact q
end
end Pf
namespace Pf
open PySem L2 DL
section
variable {P : Program} {w : World} {K : PySem.W.Frag} {mg : Str → Option Value} {base : Heap}
local macro_rules | `(tactic| walk_at "own") => `(tactic| first | (with_reducible refine st_own (i := 4) ?_))
local macro_rules | `(tactic| walk_at "d1") => `(tactic| (with_reducible first | refine Pf.sum_use ?_ | refine Pf.max_use (by assumption) ?_ | refine Pf.sumS_use ?_ | refine evc_ckw ?_ | refine Pf.row_use (by omega) (by omega) ?_))
theorem ok_l_row (T : TX w K mg) (G_l_draw : FnOk P w K mg base CX0 1 T.a_l_draw T.fd_l_draw ["_law_deck_here", "_law_most"] (spD K sp_l_draw)) : FnOk P w K mg base CX0 2 T.a_l_row T.fd_l_row ["_law_deck_here"] (spD K sp_l_row) := by
  refine okD (k := 1) T.F_l_row sc_l_row (fun ss G Qd h => ?_) (fun cdv A outer s H E ss G Qd hr h => ?_)
  · obtain ⟨k, c, n, cells, seed, cnt, rfl, hD, hn, q⟩ := h
    rfl
  · obtain ⟨k, c, n, cells, seed, cnt, rfl, hD, hn, q⟩ := h
    refine ⟨_, (pss_cons (ps_set (i := 1) sc_l_row.nd rfl (Or.inl rfl) (pe_call G_l_draw (hr.mono (by decide)) rfl T.m_l_draw T.k_l_draw T.b_l_draw .nil pass0 (pa_cons (pv 0) (pa_cons pe_int pa_nil))))
      (pss_cons (ps_set (i := 2) sc_l_row.nd rfl (Or.inl rfl) (pe_ix (show IxR _ (rIx K) from ix_seq) (pe_lst (pa_cons (pe_op (show OpR _ (binaryOp .Add) (uAdd K) from uo_add) pe_int (pe_call G_l_draw (hr.mono (by decide)) rfl T.m_l_draw T.k_l_draw T.b_l_draw .nil pass0 (pa_cons (pv 0) (pa_cons pe_int pa_nil)))) (pa_cons pe_int pa_nil))) (pe_callTy uc_int (by rfl) T.z_int (by decide +kernel) (pa_cons (pe_cmpR (show OpR _ (compareOp .Eq) (uEq K) from (uo_eq hr.units)) (pe_call G_l_draw (hr.mono (by decide)) rfl T.m_l_draw T.k_l_draw T.b_l_draw .nil pass0 (pa_cons (pv 0) (pa_cons pe_int pa_nil))) pe_int (nomark _)) pa_nil)) (fun _ _ => rfl)))
      (pss_cons (ps_set (i := 3) sc_l_row.nd rfl (Or.inl rfl) (pe_call G_l_draw (hr.mono (by decide)) rfl T.m_l_draw T.k_l_draw T.b_l_draw .nil pass0 (pa_cons (pv 0) (pa_cons pe_int pa_nil))))
      (pss_cons (ps_set (i := 4) sc_l_row.nd rfl (Or.inl rfl) (pe_lst pa_nil))
      (pss_cons (ps_for PassesOwn.never rfl (pi_range1 rfl T.z_range (pa_cons (pv 2) pa_nil)) (pg_name (i := 5) sc_l_row.nd rfl (Or.inl rfl)) (pss_cons (ps_set (i := 6) sc_l_row.nd rfl (Or.inl rfl) (pe_lst (pa_cons (pe_call G_l_draw (hr.mono (by decide)) rfl T.m_l_draw T.k_l_draw T.b_l_draw .nil pass0 (pa_cons (pv 0) (pa_cons pe_int pa_nil))) (pa_cons (pe_op (show OpR _ (binaryOp .Mult) (uMulT K) from uo_mulT) (pe_call G_l_draw (hr.mono (by decide)) rfl T.m_l_draw T.k_l_draw T.b_l_draw .nil pass0 (pa_cons (pv 0) (pa_cons pe_int pa_nil))) (pe_call G_l_draw (hr.mono (by decide)) rfl T.m_l_draw T.k_l_draw T.b_l_draw .nil pass0 (pa_cons (pv 0) (pa_cons pe_int pa_nil)))) (pa_cons (pe_call G_l_draw (hr.mono (by decide)) rfl T.m_l_draw T.k_l_draw T.b_l_draw .nil pass0 (pa_cons (pv 0) (pa_cons pe_int pa_nil))) (pa_cons (pv 3) pa_nil))))))
      (pss_one (ps_expr (pe_bm PySem.F.plainAttrs_list PySem.F.slot_list_append PySem.F.type_list_append mt_append (pv 4) (pa_cons (pe_ix (show IxR _ (rIx K) from ix_seq) (pe_op (show OpR _ (binaryOp .Add) (uAdd K) from uo_add) (pv 6) (pe_lst (pa_cons (pe_ix (show IxR _ (rIx K) from ix_seq) (pe_lst (pa_cons pe_int (pa_cons pe_int (pa_cons pe_int pa_nil)))) (pe_call G_l_draw (hr.mono (by decide)) rfl T.m_l_draw T.k_l_draw T.b_l_draw .nil pass0 (pa_cons (pv 0) (pa_cons pe_int pa_nil))) (fun _ _ => rfl)) pa_nil))) (pv 1) (fun _ _ => rfl)) pa_nil))))))
      (pss_one (ps_ret (pe_callTy (show CallR _ (.type "tuple") (uTuple K) from uc_tuple) (by rfl) T.z_tuple (by decide +kernel) (pa_cons (pv 4) pa_nil))))))))), ?_⟩
    simp only [cxOf, Cx.nox, Cx.wish, Cx.blk, startD, List.map, List.length_cons, List.length_nil, Nat.reduceAdd, Nat.reduceSub, List.replicate, List.cons_append, List.nil_append]
    walk_at "god"
    rename_i way G1 _ _ _ t1 _ w0 w1 r1 G2 _ _ _ t2 D2 _ _ r3 G3 _ _ _ t3 D3 _ _
    refine u_ix_if2 (fun x hx => ?_)
    have hx5 : 1 ≤ x ∧ x ≤ 5 := by omega
    walk_at "god"
    rename_i sm G4 _ _ _ t4 D4 m0 m1
    refine st_for ?_
    walk_at "god"
    refine ⟨by omega, by omega, ?_⟩
    refine ⟨fun i Δ' G' L' => ∃ (r : List Int) (x5 x6 : Option S), Δ' = [some (.g k), some (.d (.int way)), some (.d (.int x)), some (.d (.int sm)), some (.l 0), x5, x6] ∧ L' = [.pl (r.map D.int)] ∧ r.length = i ∧ (∀ z ∈ r, 0 ≤ z ∧ z ≤ 999) ∧ EkTo G k c (n + 4 + 10 * (i : Int)) G', ?_, ?_, ?_⟩
    · exact ⟨[], none, none, rfl, rfl, rfl, (fun z h => by cases h), (t1.trans (t2.trans (t3.trans t4))).mono (by omega)⟩
    · rintro i d Δ' G' L' hd ⟨r, x5, x6, rfl, rfl, hrl, hz, t⟩
      obtain ⟨hi, rfl⟩ := rngD_get hd
      obtain ⟨_, _, _, Dt⟩ := t.dk
      walk_at "god"
      refine u_ix_all ⟨_, rfl, by assumption, by show _ < ((3 : Nat) : Int); omega, fun d hd1 => ?_⟩
      obtain ⟨z, rfl, z0, z1⟩ : ∃ z, d = D.int z ∧ 0 ≤ z ∧ z ≤ 999 := by
        simp only [List.mem_cons, List.not_mem_nil, or_false] at hd1
        rcases hd1 with rfl | rfl | rfl
        all_goals exact ⟨_, rfl, by omega, by omega⟩
      walk_at "god"
      rename_i q0 G10 _ _ _ p0 _ a0 b0 q1 G11 _ _ _ p1 _ a1 b1 q2 G12 _ _ _ p2 _ a2 b2 q3 G13 _ _ _ p3 _ a3 b3 q4 G14 _ _ _ p4 _ a4 b4
      have hp := p0.trans (p1.trans (p2.trans (p3.trans p4)))
      refine u_ix_all ⟨_, rfl, by assumption, by show _ < ((5 : Nat) : Int); omega, fun d hd2 => ?_⟩
      have hpr : 0 ≤ q1 * q2 ∧ q1 * q2 ≤ 4 := by
        have : q2 = 0 ∨ q2 = 1 := by omega
        rcases this with e | e
        · rw [e]; omega
        · rw [e]; omega
      obtain ⟨y, rfl, y0, y1⟩ : ∃ z, d = D.int z ∧ 0 ≤ z ∧ z ≤ 999 := by
        simp only [List.cons_append, List.nil_append, List.mem_cons, List.not_mem_nil, or_false] at hd2
        rcases hd2 with rfl | rfl | rfl | rfl | rfl
        · exact ⟨_, rfl, by omega, by omega⟩
        · exact ⟨_, rfl, hpr.1, by omega⟩
        · exact ⟨_, rfl, by omega, by omega⟩
        · exact ⟨_, rfl, by omega, by omega⟩
        · exact ⟨_, rfl, z0, z1⟩
      walk_at "god"
      try refine mt_app_lX ⟨_, rfl, by rw [List.length_map]; exact lt_line (by omega), ?_⟩
      walk_at "god"
      refine ⟨r ++ [y], _, _, rfl, (by rw [List.map_append]; rfl), (by rw [List.length_append, hrl]; rfl), fun x hx => ?_, (t.trans hp).mono (by omega)⟩
      rcases List.mem_append.mp hx with hx | hx
      · exact hz x hx
      · rw [List.mem_singleton] at hx
        rw [hx]
        exact ⟨y0, y1⟩
    · rintro Δ' G' L' ⟨r, x5, x6, rfl, rfl, hrl, hz, t⟩
      rw [rngD_len] at hrl t
      walk_at "god"
      exact q r _ ⟨by omega, by omega, hz⟩ (t.mono (by omega))
end
end Pf
namespace Pf
open PySem L2 DL
section
variable {P : Program} {w : World} {K : PySem.W.Frag} {mg : Str → Option Value} {base : Heap}
local macro_rules | `(tactic| walk_at "d1") => `(tactic| (with_reducible first | refine Pf.sum_use ?_ | refine Pf.max_use (by assumption) ?_ | refine Pf.sumS_use ?_ | refine evc_ckw ?_ | refine Pf.row_use (by omega) (by omega) ?_))
theorem ok_l_day (T : TX w K mg) (G_l_draw : FnOk P w K mg base CX0 1 T.a_l_draw T.fd_l_draw ["_law_deck_here", "_law_most"] (spD K sp_l_draw)) : FnOk P w K mg base CX0 2 T.a_l_day T.fd_l_day ["_law_deck_here", "_law_row_here"] (spD K sp_l_day) := by
  refine okD (k := 1) T.F_l_day sc_l_day (fun ss G Qd h => ?_) (fun cdv A outer s H E ss G Qd hr h => ?_)
  · obtain ⟨k, c, n, cells, seed, cnt, r, rfl, hD, hn, hr2, q⟩ := h
    rfl
  · obtain ⟨k, c, n, cells, seed, cnt, r, rfl, hD, hn, hr2, q⟩ := h
    refine ⟨_, (pss_cons (ps_set (i := 2) sc_l_day.nd rfl (Or.inl rfl) (pe_call G_l_draw (hr.mono (by decide)) rfl T.m_l_draw T.k_l_draw T.b_l_draw .nil pass0 (pa_cons (pv 0) (pa_cons pe_int pa_nil))))
      (pss_cons (ps_set (i := 3) sc_l_day.nd rfl (Or.inl rfl) (pe_call G_l_draw (hr.mono (by decide)) rfl T.m_l_draw T.k_l_draw T.b_l_draw .nil pass0 (pa_cons (pv 0) (pa_cons pe_int pa_nil))))
      (pss_cons (ps_par (i := 4) (j := 5) (by rfl) sc_l_day.nd rfl rfl (by decide) rfl rfl (pa_cons (pe_callB (show CallR _ (.builtin "sum") (rSumT K) from cr_sumT rfl) (by rfl) T.z_sum (by decide +kernel) (pa_cons (pv 1) pa_nil)) (pa_cons (pe_callB (show CallR _ (.builtin "max") (rMaxT K) from cr_maxT rfl hr.units) (by rfl) T.z_max (by decide +kernel) (pa_cons (pv 1) pa_nil)) pa_nil)) (by rfl))
      (pss_cons (ps_set (i := 6) sc_l_day.nd rfl (Or.inl rfl) (pe_lst (pa_cons (pe_op (show OpR _ (binaryOp .Add) (uAdd K) from uo_add) (pv 4) (pe_op (show OpR _ (binaryOp .Mult) (uMulT K) from uo_mulT) (pv 3) (pv 5))) (pa_cons (pe_op op_sub (pe_op (show OpR _ (binaryOp .Add) (uAdd K) from uo_add) (pv 4) (pe_op (show OpR _ (binaryOp .Mult) (uMulT K) from uo_mulT) (pv 3) (pv 5))) pe_int) (pa_cons (pe_op (show OpR _ (binaryOp .Add) (uAdd K) from uo_add) (pe_op (show OpR _ (binaryOp .Add) (uAdd K) from uo_add) (pv 4) (pe_op (show OpR _ (binaryOp .Mult) (uMulT K) from uo_mulT) (pv 3) (pv 5))) pe_int) (pa_cons (pe_op op_sub (pv 4) pe_int) (pa_cons pe_int (pa_cons (pv 4) pa_nil))))))))
      (pss_cons (ps_set (i := 6) sc_l_day.nd rfl (Or.inl rfl) (pe_op (show OpR _ (binaryOp .Add) (uAdd K) from uo_add) (pv 6) (pe_lst (pa_cons (pe_call G_l_draw (hr.mono (by decide)) rfl T.m_l_draw T.k_l_draw T.b_l_draw .nil pass0 (pa_cons (pv 0) (pa_cons pe_int pa_nil))) (pa_cons (pe_call G_l_draw (hr.mono (by decide)) rfl T.m_l_draw T.k_l_draw T.b_l_draw .nil pass0 (pa_cons (pv 0) (pa_cons (pe_op (show OpR _ (binaryOp .Add) (uAdd K) from uo_add) (pe_op op_pow pe_int pe_int) pe_int) pa_nil))) pa_nil)))))
      (pss_one (ps_ret (pe_callB (uc_max2 rfl) (by rfl) T.z_max (by decide +kernel) (pa_cons pe_int (pa_cons (pe_callB (uc_min2 rfl) (by rfl) T.z_min (by decide +kernel) (pa_cons (pe_op op_pow pe_int pe_int) (pa_cons (pe_ix (show IxR _ (rIx K) from ix_seq) (pv 6) (pv 2) (fun _ _ => rfl)) pa_nil))) pa_nil)))))))))), ?_⟩
    simp only [cxOf, Cx.nox, Cx.wish, Cx.blk, startD, List.map, List.length_cons, List.length_nil, Nat.reduceAdd, Nat.reduceSub, List.replicate, List.cons_append, List.nil_append]
    have hm9 := hr2.mx
    have hs9 := hr2.sum
    walk_at "god"
    refine u_ix_all ⟨_, rfl, by assumption, by show _ < ((8 : Nat) : Int); omega, fun d hd => ?_⟩
    rename_i q0 G10 _ _ _ p0 _ a0 b0 q1 G11 _ _ _ p1 _ a1 b1 q2 G12 _ _ _ p2 _ a2 b2 q3 G13 _ _ _ p3 _ a3 b3
    have hp := p0.trans (p1.trans (p2.trans p3))
    obtain ⟨y, rfl⟩ : ∃ z, d = D.int z := by
      simp only [List.cons_append, List.nil_append, List.mem_cons, List.not_mem_nil, or_false] at hd
      rcases hd with rfl | rfl | rfl | rfl | rfl | rfl | rfl | rfl
      all_goals exact ⟨_, rfl⟩
    walk_at "god"
    refine q _ _ ?_ ?_ (hp.mono (by omega))
    · split <;> (try split) <;> omega
    · split <;> (try split) <;> omega
end
end Pf
namespace Pf
open PySem L2 DL
section
variable {P : Program} {w : World} {K : PySem.W.Frag} {mg : Str → Option Value} {base : Heap}
local macro_rules | `(tactic| walk_at "d1") => `(tactic| (with_reducible first | refine Pf.sum_use ?_ | refine Pf.max_use (by assumption) ?_ | refine Pf.sumS_use ?_ | refine evc_ckw ?_ | refine Pf.row_use (by omega) (by omega) ?_))
theorem ok_most_a_day (T : TX w K mg) (G_binds : FnOk P w K mg base CX0 1 T.a_binds T.fd_binds ["row", "day", "many", "hand"] (spD K sp_binds)) (GI_Endless : FnOk P w K mg base CX0 1 T.ai_Endless T.fi_Endless ["self", "row"] (spIniB K "ArithmeticError.__new__" [.type "ArithmeticError", .type "Exception", .type "BaseException", .type "object"] ["row"])) (GH_Endless : L2H.FnH P w K mg base CX0 1 T.ai_Endless T.fi_Endless ["self", "row"] (spIniB K "ArithmeticError.__new__" [.type "ArithmeticError", .type "Exception", .type "BaseException", .type "object"] ["row"])) : FnOk P w K mg base (L2.CX P w) 3 T.a_most_a_day T.fd_most_a_day ["row", "day"] (spDX K (sp_most_a_day T.a_Endless)) := by
  refine okDX (k := 2) T.F_most_a_day sc_most_a_day (fun ss G Qd Qx h => ?_) (fun cdv A outer s H E ss G Qd Qx hr h => ?_)
  · obtain ⟨r, day, rfl, hr2, q, qx⟩ := h
    rfl
  · obtain ⟨r, day, rfl, hr2, q, qx⟩ := h
    refine ⟨_, (pss_cons (DRf.ps_tryFrom (i := 3) rfl rfl ⟨rfl, by decide, .inr ⟨T.z_ZeroDivisionError, boot_ZeroDivisionError, by decide⟩⟩ sc_most_a_day.nd rfl rfl (.inl rfl) (by decide) (takes_of rfl rfl rfl rfl) (fun W pn xe tk _ _ => (pss_one (ps_asg (show PE _ _ (DRd.tDivX W _ _) from DRd.pe_divX rfl tk (pe_op op_sub (pv 1) (pe_callB (show CallR _ (.builtin "sum") (rSumT K) from cr_sumT rfl) (by rfl) T.z_sum (by decide +kernel) (pa_cons (pv 0) pa_nil))) (pe_callB (show CallR _ (.builtin "max") (rMaxT K) from cr_maxT rfl hr.units) (by rfl) T.z_max (by decide +kernel) (pa_cons (pv 0) pa_nil))) (pg_name (i := 2) sc_most_a_day.nd rfl (Or.inl rfl))))) DRd.raises_zde (fun a oe pn xe hot => (DRd.pmk5_oexBH DXs.bx_ArithmeticError T.o_Endless T.ii_Endless T.ti_Endless GH_Endless (L2H.roomH_mark (hr.mono (by decide)) _) hot T.bi_Endless pass0 rfl T.m_Endless (pa_cons (pv 0) pa_nil))))
      (pss_cons (ps_set (i := 4) sc_most_a_day.nd rfl (Or.inr rfl) (pe_callB (uc_max2 rfl) (by rfl) T.z_max (by decide +kernel) (pa_cons pe_int (pa_cons (pe_op (show OpR _ (binaryOp .Add) (uAdd K) from uo_add) (pv 2) pe_int) pa_nil))))
      (pss_cons (ps_setLc (i := 5) (own := [("hand", 6)]) (g := (gName 6)) (by rfl) sc_most_a_day.nd rfl rfl (sw_true rfl rfl rfl (by decide +kernel)) (pi_range1 rfl T.z_range (pa_cons (pe_callB (show CallR _ (.builtin "len") (uLen K) from uc_len) (by rfl) T.z_len (by decide +kernel) (pa_cons (pv 0) pa_nil)) pa_nil)) (blkOk_by (N := ["row", "day", "more", "e", "many", "hands", "hand"]) (sc := defScope s_most_a_day) (by decide +kernel)) (fun _ _ _ _ _ => (pg_name (i := 6) sc_most_a_day.nd rfl (Or.inl rfl))) (fun _ _ _ _ _ => (pts_one (pt_val (pe_call G_binds (hr.mono (by decide)) rfl T.m_binds T.k_binds T.b_binds .nil pass0 (pa_cons (pv 0) (pa_cons (pv 1) (pa_cons (pv 4) (pa_cons (pv 6) pa_nil)))))))) (fun _ _ _ _ _ => (pv 6)))
      (pss_one (ps_ret (pe_tup (pa_cons (pv 4) (pa_cons (pe_ix (show IxR _ (rIx K) from ix_seq) (pv 5) pe_int (fun _ _ => rfl)) pa_nil)))))))), ?_⟩
    simp only [cxOf, Cx.nox, Cx.wish, Cx.blk, startD, List.map, List.length_cons, List.length_nil, Nat.reduceAdd, Nat.reduceSub, List.replicate, List.cons_append, List.nil_append]
    have hm9 := hr2.mx
    have hl5 := hr2.l1
    have hs9 := hr2.sum
    refine st_seq ?_
    refine st_tryFrom (tb := fun W => tAsg (DRd.tDivX W _ _) (gName 2)) (fun Δ' G' L' => mx r = 0 ∧ Δ' = [some (.d (rowD r)), some (.d (.int day)), none, none, none, none, none] ∧ G' = G ∧ L' = []) DRd.exm_zde (fun Wi => ?_) ?_
    · refine st_divX ?_
      walk_at "go"
      refine ⟨⟨by omega, by omega⟩, fun h0 => ?_, fun h0 w0 ls0 H0 k0 σ0 d0 c0 => k0 _ _ _ _ _ c0 ⟨h0, rfl, rfl, rfl⟩⟩
      walk_at "go"
      rw [show (if (day - r.sum) / mx r + 1 > 0 then (day - r.sum) / mx r + 1 else 0) = dueN r day from rfl]
      refine evn_c (evn_lcM (List.range r.length) (fun (j : Nat) => .int (0 + (j : Int))) (fun (j : Nat) => bindsB r day (dueN r day) (0 + (j : Int))) (fun (j : Nat) => .int (0 + (j : Int))) ?_)
      walk_at "go"
      rw [List.length_map]
      refine ⟨by omega, by omega, ?_⟩
      refine ⟨rfl, lt_line (by rw [List.length_range]; omega), ?_, ?_⟩
      · intro j hj
        have hj := List.mem_range.mp hj
        walk_at "go"
        refine ⟨r, day, dueN r day, _, rfl, hr2, ⟨by omega, by omega⟩, ?_⟩
        walk_at "go"
        refine ⟨rfl, fun _ => ?_, fun _ => ⟨rfl, rfl⟩⟩
        walk_at "go"
        exact ⟨rfl, rfl, rfl⟩
      have q := q h0
      have ef : (fun (j : Nat) => bindsB r day (dueN r day) (0 + (j : Int))) = fun (j : Nat) => bindsB r day (dueN r day) (j : Int) := funext fun j => by rw [Int.zero_add]
      obtain ⟨⟨j, hj, hjb⟩, _⟩ := due_ok hr2 h0 day
      unfold bindFst at q
      rw [ef]
      cases hf : (List.range r.length).filter (fun (j : Nat) => bindsB r day (dueN r day) (j : Int)) with
      | nil =>
        have := List.filter_eq_nil_iff.mp hf j (List.mem_range.mpr hj)
        exact absurd hjb this
      | cons h hs =>
        rw [hf] at q
        walk_at "go"
        refine u_ix_gX ⟨_, rfl, .int (0 + (h : Int)), atI_of (j := 0) rfl rfl, ?_⟩
        rw [Int.zero_add]
        walk_at "go"
        exact q
    · rintro Δ' G' L' ⟨hz, rfl, rfl, rfl⟩
      refine st_raiseB (Wi := fun cls d _ H => E cls d H) ?_
      walk_at "go"
      refine ⟨[rowD r], rfl, rfl, Nat.le_of_ble_eq_true rfl, ⟨T.o_Endless, fun f hf => by rw [List.mem_singleton.mp hf]; exact T.n_Endless_row⟩, ?_⟩
      intro w0 ls0 H0 k0 σ0 Δ0 G0 L0 cls0 d0 x0 c0 xn0 e0
      obtain ⟨rfl, rfl, rfl, rfl⟩ := e0
      exact k0 _ _ _ _ _ _ _ c0 xn0 (qx hz)
end
end Pf
namespace Pf
open PySem L2 DL
section
variable {P : Program} {w : World} {K : PySem.W.Frag} {mg : Str → Option Value} {base : Heap}
local macro_rules | `(tactic| walk_at "d1") => `(tactic| (with_reducible first | refine Pf.sum_use ?_ | refine Pf.max_use (by assumption) ?_ | refine Pf.sumS_use ?_ | refine evc_ckw ?_ | refine Pf.row_use (by omega) (by omega) ?_))
theorem ok_l_due (T : TX w K mg) : FnOk P w K mg base CX0 1 T.a_l_due T.fd_l_due ["_law_row_here", "_law_day_here"] (spD K sp_l_due) := by
  refine okD (k := 0) T.F_l_due sc_l_due (fun ss G Qd h => ?_) (fun cdv A outer s H E ss G Qd hr h => ?_)
  · obtain ⟨r, day, rfl, hr2, hm, q⟩ := h
    rfl
  · obtain ⟨r, day, rfl, hr2, hm, q⟩ := h
    refine ⟨_, (pss_cons (ps_set (i := 2) sc_l_due.nd rfl (Or.inr rfl) (pe_callB (uc_max2 rfl) (by rfl) T.z_max (by decide +kernel) (pa_cons pe_int (pa_cons (pe_op (show OpR _ (binaryOp .Add) (uAdd K) from uo_add) (pe_op op_fdivW (pe_op op_sub (pv 1) (pe_callB (show CallR _ (.builtin "sum") (rSumT K) from cr_sumT rfl) (by rfl) T.z_sum (by decide +kernel) (pa_cons (pv 0) pa_nil))) (pe_callB (show CallR _ (.builtin "max") (rMaxT K) from cr_maxT rfl hr.units) (by rfl) T.z_max (by decide +kernel) (pa_cons (pv 0) pa_nil))) pe_int) pa_nil))))
      (pss_cons (ps_setLc (i := 3) (own := [("_law_h", 4)]) (g := (gName 4)) (by rfl) sc_l_due.nd rfl rfl (sw_true rfl rfl rfl (by decide +kernel)) (pi_range1 rfl T.z_range (pa_cons (pe_callB (show CallR _ (.builtin "len") (uLen K) from uc_len) (by rfl) T.z_len (by decide +kernel) (pa_cons (pv 0) pa_nil)) pa_nil)) (blkOk_by (N := ["_law_row_here", "_law_day_here", "_law_many", "_law_hands", "_law_h"]) (sc := defScope s_l_due) (by decide +kernel)) (fun _ _ _ _ _ => (pg_name (i := 4) sc_l_due.nd rfl (Or.inl rfl))) (fun _ _ _ _ _ => (pts_one (pt_cmpR op_gt (pe_op (show OpR _ (binaryOp .Add) (uAdd K) from uo_add) (pe_callB (show CallR _ (.builtin "sum") (rSumT K) from cr_sumT rfl) (by rfl) T.z_sum (by decide +kernel) (pa_cons (pv 0) pa_nil)) (pe_op (show OpR _ (binaryOp .Mult) (uMulT K) from uo_mulT) (pv 2) (pe_ix (show IxR _ (rIx K) from ix_seq) (pv 0) (pv 4) (fun _ _ => rfl)))) (pv 1) (nomark _)))) (fun _ _ _ _ _ => (pv 4)))
      (pss_one (ps_ret (pe_tup (pa_cons (pv 2) (pa_cons (pe_ix (show IxR _ (rIx K) from ix_seq) (pv 3) pe_int (fun _ _ => rfl)) pa_nil))))))), ?_⟩
    simp only [cxOf, Cx.nox, Cx.wish, Cx.blk, startD, List.map, List.length_cons, List.length_nil, Nat.reduceAdd, Nat.reduceSub, List.replicate, List.cons_append, List.nil_append]
    have hm9 := hr2.mx
    have hl5 := hr2.l1
    walk_at "go"
    rw [show (if (day - r.sum) / mx r + 1 > 0 then (day - r.sum) / mx r + 1 else 0) = dueN r day from rfl]
    refine evn_c (evn_lcM (List.range r.length) (fun (j : Nat) => .int (0 + (j : Int))) (fun (j : Nat) => bindsB r day (dueN r day) (0 + (j : Int))) (fun (j : Nat) => .int (0 + (j : Int))) ?_)
    walk_at "go"
    rw [List.length_map]
    refine ⟨by omega, by omega, ?_⟩
    refine ⟨rfl, lt_line (by rw [List.length_range]; omega), ?_, ?_⟩
    · intro j hj
      have hj := List.mem_range.mp hj
      have hg := row_at28 (r := r) (b := 0 + (j : Int)) (by omega) (by omega)
      have hx := hr2.x _ (List.mem_of_getElem? hg)
      walk_at "go"
      have es : decide (day < r.sum + dueN r day * r.getD (0 + (j : Int)).toNat 0) = bindsB r day (dueN r day) (0 + (j : Int)) := by
        unfold bindsB
        rw [Int.add_comm r.sum]
      refine ⟨es, fun _ => ?_, fun _ => ⟨rfl, rfl⟩⟩
      walk_at "go"
      exact ⟨rfl, rfl, rfl⟩
    have ef : (fun (j : Nat) => bindsB r day (dueN r day) (0 + (j : Int))) = fun (j : Nat) => bindsB r day (dueN r day) (j : Int) := funext fun j => by rw [Int.zero_add]
    obtain ⟨⟨j, hj, hjb⟩, _⟩ := due_ok hr2 hm day
    unfold bindFst at q
    rw [ef]
    cases hf : (List.range r.length).filter (fun (j : Nat) => bindsB r day (dueN r day) (j : Int)) with
    | nil =>
      have := List.filter_eq_nil_iff.mp hf j (List.mem_range.mpr hj)
      exact absurd hjb this
    | cons h hs =>
      rw [hf] at q
      walk_at "go"
      refine u_ix_gX ⟨_, rfl, .int (0 + (h : Int)), atI_of (j := 0) rfl rfl, ?_⟩
      rw [Int.zero_add]
      walk_at "go"
      exact q
end
end Pf
namespace Pf
open PySem L2 DL
section
variable {P : Program} {w : World} {K : PySem.W.Frag} {mg : Str → Option Value} {base : Heap}
theorem ok_l_refused (T : TX w K mg) (G_most_a_day : FnOk P w K mg base (L2.CX P w) 3 T.a_most_a_day T.fd_most_a_day ["row", "day"] (spDX K (sp_most_a_day T.a_Endless))) : FnG P w K mg base 4 T.a_l_refused T.fd_l_refused ["_law_row_here", "_law_day_here"] (spD K sp_l_refused) := by
  refine okDG (k := 3) T.F_l_refused sc_l_refused (fun ss G Qd h => ?_) (fun cdv A outer s H E ss G Qd hg hr h => ?_)
  · obtain ⟨r, day, rfl, hr2, hm, q⟩ := h
    rfl
  · obtain ⟨r, day, rfl, hr2, hm, q⟩ := h
    refine ⟨_, (pss_cons (ps_set (i := 2) sc_l_refused.nd rfl (Or.inl rfl) pe_non)
      (pss_cons (DTm.ps_try_all rfl rfl takes0 (fun W pn xe tk _ => (pss_one (ps_expr (pe_callS (E := WE W) G_most_a_day (hr.mono (by decide)) rfl T.m_most_a_day T.k_most_a_day T.b_most_a_day (fun σ => passAt tk σ) (pa_cons (pv 0) (pa_cons (pv 1) pa_nil)))))) (DTm.HdOk.cons (oi := some 3) ⟨rfl, by decide, .inl T.m_Endless⟩ ⟨sc_l_refused.nd, rfl, rfl⟩ (fun _ _ => (pss_one (ps_set (i := 2) sc_l_refused.nd rfl (Or.inl rfl) (pv 3)))) DTm.HdOk.nil))
      (pss_cons (ps_if (PW.pt (pw_or (pt_cmpR op_isN (pv 2) pe_non (nomark _)) (pw_or1 (pt_not (pt_val (pe_callB (show CallR _ (.builtin "isinstance") (DXv.rIsV K) from DXv.call_isV) (by rfl) T.z_isinstance (by decide +kernel) (pa_cons (pv 2) (pa_cons (pe_bltn (v := .ty "ArithmeticError") (u := .type "ArithmeticError") (by rfl) T.z_ArithmeticError (by decide +kernel) rfl) pa_nil)))))))) (pss_one (ps_ret pe_bl)) pss_nil)
      (pss_cons (ps_if (pt_val (pe_callB (show CallR _ (.builtin "isinstance") (DXv.rIsV K) from DXv.call_isV) (by rfl) T.z_isinstance (by decide +kernel) (pa_cons (pv 2) (pa_cons (pe_tup (pa_cons (pe_glob (v := .ref T.a_MasterError) (by rfl) T.m_MasterError rfl) (pa_cons (pe_glob (v := .ref T.a_NoShare) (by rfl) T.m_NoShare rfl) (pa_cons (pe_bltn (v := .ty "ValueError") (u := .type "ValueError") (by rfl) T.z_ValueError (by decide +kernel) rfl) (pa_cons (pe_bltn (v := .ty "ZeroDivisionError") (u := .type "ZeroDivisionError") (by rfl) T.z_ZeroDivisionError (by decide +kernel) rfl) pa_nil))))) pa_nil)))) (pss_one (ps_ret pe_bl)) pss_nil)
      (pss_one (ps_ret (pe_cmpR (show OpR _ (compareOp .Eq) (uEq K) from (uo_eq hr.units)) (pe_callB (show CallR _ (.builtin "repr") (uReprX K) from uc_reprX hg hr.units) (by rfl) T.z_repr (by decide +kernel) (pa_cons (show PE _ _ (DXv.tXfV K "row" _) from DXv.pe_xfV (pv 2)) pa_nil)) (pe_callB (show CallR _ (.builtin "repr") (uReprX K) from uc_reprX hg hr.units) (by rfl) T.z_repr (by decide +kernel) (pa_cons (pv 0) pa_nil)) (nomark _)))))))), ?_⟩
    simp only [cxOf, Cx.nox, Cx.wish, Cx.blk, startD, List.map, List.length_cons, List.length_nil, Nat.reduceAdd, Nat.reduceSub, List.replicate, List.cons_append, List.nil_append]
    have hl5 := hr2.l1
    walk_at "go"
    refine st_tryAll (tb := fun W => tDrop (tCallS (spDX K (sp_most_a_day T.a_Endless)) (WE W) (tCons (tVar 0) (tCons (tVar 1) tNil)))) (fun y Δ' G' L' => y = endless T.a_Endless r ∧ Δ' = [some (.d (rowD r)), some (.d (.int day)), some (.d .non), none] ∧ G' = G ∧ L' = []) (fun Wi => ?_) ?_
    · refine stx_drop (Wi := Wi) (Qx := fun y G' L' => y = endless T.a_Endless r ∧ G' = G ∧ L' = []) (evx_call ?_) ?_
      · walk_at "go"
        first | refine ⟨r, day, rfl, hr2, fun h => ?_, fun _ => ⟨rfl, rfl, rfl⟩⟩ | refine ⟨hr2, fun h => ?_, fun _ => ⟨rfl, rfl, rfl⟩⟩
        omega
      · rintro w0 ls0 H0 k0 σ0 Δ0 G0 L0 cls0 d0 x0 c0 xn0 ⟨rfl, rfl, rfl, rfl⟩
        exact k0 _ _ _ _ _ _ _ c0 xn0 ⟨rfl, rfl, rfl, rfl⟩
    · rintro y Δ' G' L' ⟨rfl, rfl, rfl, rfl⟩
      refine ⟨true, T.s_Endless_Endless, fun _ => ?_, fun e => (by cases e)⟩
      dsimp only [setO, unO, endless, List.set]
      walk_at "go"
      refine isN_xv ?_
      walk_at "go"
      refine ap_isVt ⟨true, ⟨T.e_Endless, T.k_Endless_ArithmeticError⟩, ?_⟩
      walk_at "go"
      refine ap_isVs ⟨[.ref T.a_MasterError, .ref T.a_NoShare, .type "ValueError", .type "ZeroDivisionError"], false, rfl, ⟨T.e_Endless, by simp only [PySem.W.kitAny, T.k_Endless_MasterError, T.k_Endless_NoShare, T.k_Endless_ValueError, T.k_Endless_ZeroDivisionError]⟩, ?_⟩
      walk_at "go"
      refine evc_xfV ?_
      walk_at "go"
      refine ⟨_, _, _, rfl, ⟨T.x_Endless, T.n_Endless_row⟩, rfl, ?_⟩
      walk_at "go"
      have sh : ShX (r.length * (61 + 2) + 3) 1 (rowD r) := by
        have := shx_tup (n := 61) (k := 0) (ds := r.map D.int) fun d hd => by
          obtain ⟨z, hz, rfl⟩ := List.mem_map.mp hd
          have := hr2.x z hz
          exact shx_int 0 (by omega)
        rw [List.length_map] at this
        exact this
      refine ap_reprX1 sh (le_line (by omega)) (by decide) ?_
      walk_at "go"
      refine ap_reprX1 sh (le_line (by omega)) (by decide) ?_
      walk_at "go"
      exact q
end
end Pf
namespace Pf
open PySem L2 DL
section
variable {P : Program} {w : World} {K : PySem.W.Frag} {mg : Str → Option Value} {base : Heap}
theorem ok_l_by_starts (T : TX w K mg) (G_l_end : FnOk P w K mg base CX0 1 T.a_l_end T.fd_l_end ["_law_times", "_law_starts"] (spD K sp_l_end)) (G_l_least : FnOk P w K mg base CX0 2 T.a_l_least T.fd_l_least ["_law_times", "_law_rooms_here"] (spD K sp_l_least)) : FnOk P w K mg base CX0 3 T.a_l_by_starts T.fd_l_by_starts ["_law_row_here", "_law_rooms_here", "_law_day_here"] (spD K sp_l_by_starts) := by
  refine okD (k := 2) T.F_l_by_starts sc_l_by_starts (fun ss G Qd h => ?_) (fun cdv A outer s H E ss G Qd hr h => ?_)
  · obtain ⟨r, w, day, rfl, hr2, hm, hw, hw0, q⟩ := h
    rfl
  · obtain ⟨r, w, day, rfl, hr2, hm, hw, hw0, q⟩ := h
    refine ⟨_, (pss_cons (ps_set (i := 3) sc_l_by_starts.nd rfl (Or.inl rfl) pe_int)
      (pss_cons (ps_while PassesOwn.never (pt_cmpR op_lt (pv 3) pe_int (nomark _)) (pss_cons (ps_set (i := 4) sc_l_by_starts.nd rfl (Or.inl rfl) (pe_op (show OpR _ (binaryOp .Mult) (rRepU K) from op_repU) (pe_tup (pa_cons (pv 0) pa_nil)) (pe_op (show OpR _ (binaryOp .Add) (uAdd K) from uo_add) (pv 3) pe_int)))
      (pss_cons (ps_if (pt_cmpR op_gt (pe_call G_l_end (hr.mono (by decide)) rfl T.m_l_end T.k_l_end T.b_l_end .nil pass0 (pa_cons (pv 4) (pa_cons (pe_call G_l_least (hr.mono (by decide)) rfl T.m_l_least T.k_l_least T.b_l_least .nil pass0 (pa_cons (pv 4) (pa_cons (pv 1) pa_nil))) pa_nil))) (pv 2) (nomark _)) (pss_one (ps_ret (pv 3))) pss_nil)
      (pss_one (ps_set (i := 3) sc_l_by_starts.nd rfl (Or.inl rfl) (pe_op (show OpR _ (binaryOp .Add) (uAdd K) from uo_add) (pv 3) pe_int))))))
      (pss_one (ps_ret (pv 3))))), ?_⟩
    simp only [cxOf, Cx.nox, Cx.wish, Cx.blk, startD, List.map, List.length_cons, List.length_nil, Nat.reduceAdd, Nat.reduceSub, List.replicate, List.cons_append, List.nil_append]
    have hl5 := hr2.l1
    have hl0 := hr2.l0
    have dn := due_nn r day
    have hmx := mx_mem hr2.l0
    walk_at "go"
    refine st_while (fun f Δ' G' L' => G' = G ∧ L' = [] ∧ ∃ (m : Nat) (s4 : Option S), Δ' = [some (.d (rowD r)), some (.d (rowD w)), some (.d (.int day)), some (.d (.int (m : Int))), s4] ∧ f = 12 - m ∧ m ≤ 12 ∧ (m : Int) ≤ dueN r day) 12 ⟨rfl, rfl, 0, _, rfl, rfl, by omega, dn⟩ ?_
    rintro f Δ' G' L' ⟨rfl, rfl, m, s4, rfl, rfl, hm12, hmd⟩
    walk_at "go"
    refine iteD (fun h => ?_) (fun h => ?_)
    · have tn : ∀ b h : Nat, (0 : Int) ≤ (fun (_ : Nat) (h : Nat) => r.getD h 0) b h := fun b h => by
        show 0 ≤ r.getD h 0
        rw [List.getD_eq_getElem?_getD]
        cases e : r[h]? with
        | none => exact Int.le_refl _
        | some z => exact (hr2.x z (List.mem_of_getElem? e)).1
      have tM : ∀ h : Nat, r.getD h 0 ≤ mx r := fun h => by
        rw [List.getD_eq_getElem?_getD]
        cases e : r[h]? with
        | none => exact Int.le_of_lt hm
        | some z => exact hmx.2 z (List.mem_of_getElem? e)
      have tX : ∃ h, h < r.length ∧ r.getD h 0 = mx r := by
        obtain ⟨h, hh, e⟩ := List.getElem_of_mem hmx.1
        refine ⟨h, hh, ?_⟩
        rw [List.getD_eq_getElem?_getD, List.getElem?_eq_getElem hh]
        exact e
      walk_at "go"
      refine u_repU ⟨⟨by omega, by omega⟩, by simp, Nat.le_of_ble_eq_true rfl⟩ ?_
      rw [show ((m : Int) + 1).toNat = m + 1 by omega, ← tbl_rep r (m + 1)]
      have hD : DayOk (fun _ h => r.getD h 0) (m + 1) r.length w := ⟨by omega, by omega, by omega, by omega, by omega, hw0, tn⟩
      walk_at "go"
      refine ⟨fun _ h => r.getD h 0, m + 1, r.length, w, rfl, hD, hw, ?_⟩
      walk_at "go"
      refine ⟨fun _ h => r.getD h 0, F (fun _ h => r.getD h 0) (rm w), m + 1, r.length, rfl, ⟨by omega, by omega⟩, ⟨by omega, by omega⟩, fun e he => ?_⟩
      have ee := end_last tn (by omega) hl0 he
      have fa := F_alike (U := fun _ h => r.getD h 0) (R := rm w) (t := fun h => r.getD h 0) (n := m) (H := r.length) (fun _ _ => rfl) (fun h => tn 0 h) hl0 tM tX
      rw [upTo_row r r.length (Nat.le_refl _), List.take_length] at fa
      have fa : F (fun _ h => r.getD h 0) (rm w) m (r.length - 1) + r.getD (r.length - 1) 0 = r.sum + m * mx r := fa
      have ee : F (fun _ h => r.getD h 0) (rm w) m (r.length - 1) + r.getD (r.length - 1) 0 = e := ee
      rw [fa] at ee
      have du := due_iff (day := day) hm m
      rw [ee] at du
      walk_at "go"
      refine iteD (fun h2 => ?_) (fun h2 => ?_)
      · walk_at "go"
        have := du.mp h2
        have eq : (if 12 < dueN r day then 12 else dueN r day) = (m : Int) := by split <;> omega
        rw [eq] at q
        exact q
      · walk_at "go"
        refine ⟨12 - (m + 1), by omega, rfl, rfl, m + 1, _, rfl, rfl, by omega, ?_⟩
        have : ¬ dueN r day ≤ (m : Int) := fun x => h2 (du.mpr x)
        omega
    · walk_at "go"
      obtain rfl : m = 12 := by omega
      have e : (if 12 < dueN r day then 12 else dueN r day) = 12 := by split <;> omega
      rw [e] at q
      exact q
end
end Pf
namespace Pf
open PySem L2 DL
section
variable {P : Program} {w : World} {K : PySem.W.Frag} {mg : Str → Option Value} {base : Heap}
local macro_rules | `(tactic| walk_at "d1") => `(tactic| (with_reducible first | refine Pf.sum_use ?_ | refine Pf.max_use (by assumption) ?_ | refine Pf.sumS_use ?_ | refine evc_ckw ?_))
theorem ok_law (T : TX w K mg) (G_l_deck : FnOk P w K mg base CX0 1 T.a_l_deck T.fd_l_deck ["_law_script"] (spD K sp_l_deck)) (G_l_row : FnOk P w K mg base CX0 2 T.a_l_row T.fd_l_row ["_law_deck_here"] (spD K sp_l_row)) (G_l_rooms : FnOk P w K mg base CX0 2 T.a_l_rooms T.fd_l_rooms ["_law_deck_here", "_law_hands"] (spD K sp_l_rooms)) (G_l_refused : FnG P w K mg base 4 T.a_l_refused T.fd_l_refused ["_law_row_here", "_law_day_here"] (spD K sp_l_refused)) (G_l_day : FnOk P w K mg base CX0 2 T.a_l_day T.fd_l_day ["_law_deck_here", "_law_row_here"] (spD K sp_l_day)) (G_most_a_day : FnOk P w K mg base (L2.CX P w) 3 T.a_most_a_day T.fd_most_a_day ["row", "day"] (spDX K (sp_most_a_day T.a_Endless))) (G_l_draw : FnOk P w K mg base CX0 1 T.a_l_draw T.fd_l_draw ["_law_deck_here", "_law_most"] (spD K sp_l_draw)) (G_l_due : FnOk P w K mg base CX0 1 T.a_l_due T.fd_l_due ["_law_row_here", "_law_day_here"] (spD K sp_l_due)) (G_l_by_starts : FnOk P w K mg base CX0 3 T.a_l_by_starts T.fd_l_by_starts ["_law_row_here", "_law_rooms_here", "_law_day_here"] (spD K sp_l_by_starts)) : FnG P w K mg base 5 T.a_law T.fd_law ["_law_script"] (spD K sp_law) := by
  refine okDG (k := 4) T.F_law sc_law (fun ss G Qd h => ?_) (fun cdv A outer s H E ss G Qd hg hr h => ?_)
  · obtain ⟨ns, rfl, rfl, hl, hb, q⟩ := h
    rfl
  · obtain ⟨ns, rfl, rfl, hl, hb, q⟩ := h
    refine ⟨_, (pss_cons (ps_set (i := 1) sc_law.nd rfl (Or.inl rfl) (pe_call G_l_deck (hr.mono (by decide)) rfl T.m_l_deck T.k_l_deck T.b_l_deck .nil pass0 (pa_cons (pv 0) pa_nil)))
      (pss_cons (ps_for PassesOwn.never rfl (pi_range1 rfl T.z_range (pa_cons pe_int pa_nil)) (pg_name (i := 2) sc_law.nd rfl (Or.inl rfl)) (pss_cons (ps_set (i := 3) sc_law.nd rfl (Or.inl rfl) (pe_call G_l_row (hr.mono (by decide)) rfl T.m_l_row T.k_l_row T.b_l_row .nil pass0 (pa_cons (pv 1) pa_nil)))
      (pss_cons (ps_set (i := 4) sc_law.nd rfl (Or.inl rfl) (pe_call G_l_rooms (hr.mono (by decide)) rfl T.m_l_rooms T.k_l_rooms T.b_l_rooms .nil pass0 (pa_cons (pv 1) (pa_cons (pe_callB (show CallR _ (.builtin "len") (uLen K) from uc_len) (by rfl) T.z_len (by decide +kernel) (pa_cons (pv 3) pa_nil)) pa_nil))))
      (pss_one (ps_if (pt_cmpR (show OpR _ (compareOp .Eq) (uEq K) from (uo_eq hr.units)) (pe_callB (show CallR _ (.builtin "max") (rMaxT K) from cr_maxT rfl hr.units) (by rfl) T.z_max (by decide +kernel) (pa_cons (pv 3) pa_nil)) pe_int (nomark _)) (pss_one (ps_if (pt_not (pt_val (pe_callG G_l_refused hg (hr.mono (by decide)) rfl T.m_l_refused T.k_l_refused T.b_l_refused .nil pass0 (pa_cons (pv 3) (pa_cons (pe_call G_l_draw (hr.mono (by decide)) rfl T.m_l_draw T.k_l_draw T.b_l_draw .nil pass0 (pa_cons (pv 1) (pa_cons pe_int pa_nil))) pa_nil))))) (pss_one (ps_ret pe_bl)) pss_nil)) (pss_cons (ps_set (i := 5) sc_law.nd rfl (Or.inl rfl) (pe_call G_l_day (hr.mono (by decide)) rfl T.m_l_day T.k_l_day T.b_l_day .nil pass0 (pa_cons (pv 1) (pa_cons (pv 3) pa_nil))))
      (pss_cons (ps_set (i := 6) sc_law.nd rfl (Or.inl rfl) (pe_callS (E := WE (fun _ _ _ _ => False)) G_most_a_day (hr.mono (by decide)) rfl T.m_most_a_day T.k_most_a_day T.b_most_a_day (fun σ => passAt takes0 σ) (pa_cons (pv 3) (pa_cons (pv 5) pa_nil))))
      (pss_cons (ps_if (pt_cmpR (show OpR _ (compareOp .NotEq) (uNe K) from (uo_ne hr.units)) (pe_callB (show CallR _ (.builtin "repr") (uReprX K) from uc_reprX hg hr.units) (by rfl) T.z_repr (by decide +kernel) (pa_cons (pv 6) pa_nil)) (pe_callB (show CallR _ (.builtin "repr") (uReprX K) from uc_reprX hg hr.units) (by rfl) T.z_repr (by decide +kernel) (pa_cons (pe_call G_l_due (hr.mono (by decide)) rfl T.m_l_due T.k_l_due T.b_l_due .nil pass0 (pa_cons (pv 3) (pa_cons (pv 5) pa_nil))) pa_nil)) (nomark _)) (pss_one (ps_ret pe_bl)) pss_nil)
      (pss_one (ps_if (PW.pt (pw_and (pt_cmpR op_lt (pv 2) pe_int (nomark _)) (pw_and1 (pt_cmpR (show OpR _ (compareOp .NotEq) (uNe K) from (uo_ne hr.units)) (pe_callB (uc_min2 rfl) (by rfl) T.z_min (by decide +kernel) (pa_cons pe_int (pa_cons (pe_ix (show IxR _ (rIx K) from ix_seq) (pv 6) pe_int (fun _ _ => rfl)) pa_nil))) (pe_call G_l_by_starts (hr.mono (by decide)) rfl T.m_l_by_starts T.k_l_by_starts T.b_l_by_starts .nil pass0 (pa_cons (pv 3) (pa_cons (pv 4) (pa_cons (pv 5) pa_nil)))) (nomark _))))) (pss_one (ps_ret pe_bl)) pss_nil))))))))))
      (pss_one (ps_ret (pe_and (pe_callG G_l_refused hg (hr.mono (by decide)) rfl T.m_l_refused T.k_l_refused T.b_l_refused .nil pass0 (pa_cons (pe_tup (pa_cons pe_int pa_nil)) (pa_cons pe_int pa_nil))) (pe_one (pe_callG G_l_refused hg (hr.mono (by decide)) rfl T.m_l_refused T.k_l_refused T.b_l_refused .nil pass0 (pa_cons (pe_tup (pa_cons pe_int (pa_cons pe_int (pa_cons pe_int (pa_cons pe_int (pa_cons pe_int pa_nil)))))) (pa_cons (pe_op op_pow pe_int pe_int) pa_nil))))))))), ?_⟩
    simp only [cxOf, Cx.nox, Cx.wish, Cx.blk, startD, List.map, List.length_cons, List.length_nil, Nat.reduceAdd, Nat.reduceSub, List.replicate, List.cons_append, List.nil_append]
    refine st_seq ?_
    refine st_ownB ?_
    walk_at "go"
    refine ⟨hl, hb, fun cells seed hcl hcb hs0 hs1 => ⟨_, _, rfl, ?_⟩⟩
    refine st_law ?_
    show StC K _ [some (.d (.scr ns)), some (.g 1), none, none, none, none, none] [M.pl (cells.map D.int), .dh (ekK (.g 0) seed 0)] [] _
    have E0 : Ek [M.pl (cells.map D.int), .dh (ekK (.g 0) seed 0)] 1 0 0 cells seed 0 := ⟨rfl, rfl, by decide, hs0, hs1, by decide, by decide, by omega, hcb⟩
    generalize [M.pl (cells.map D.int), .dh (ekK (.g 0) seed 0)] = G0 at E0 ⊢
    walk_at "god"
    refine st_for ?_
    walk_at "god"
    refine ⟨by decide, by decide, ?_⟩
    refine ⟨fun i Δ' G' L' => ∃ (x2 x3 x4 x5 x6 : Option S), Δ' = [some (.d (.scr ns)), some (.g 1), x2, x3, x4, x5, x6] ∧ L' = [] ∧ EkTo G0 1 0 (30000 * (i : Int)) G', ?_, ?_, ?_⟩
    · exact ⟨none, none, none, none, none, rfl, rfl, (EkTo.refl E0).mono (by omega)⟩
    · rintro i d Δ' G' L' hd ⟨x2, x3, x4, x5, x6, rfl, rfl, t⟩
      obtain ⟨hi, rfl⟩ := rngD_get hd
      obtain ⟨_, _, _, Dt⟩ := t.dk
      have hi8 : i < 8 := hi
      walk_at "god"
      refine ⟨1, 0, _, _, _, _, rfl, Dt, by omega, fun r G3 hr2 t3 => ?_⟩
      have t3 := t.trans t3
      obtain ⟨_, _, _, D3⟩ := t3.dk
      have hm9 := hr2.mx
      have hs9 := hr2.sum
      have hl1 := hr2.l0
      have hl5 := hr2.l1
      walk_at "god"
      refine ⟨1, 0, _, _, _, _, _, rfl, D3, by omega, ⟨by rw [List.length_map]; omega, by rw [List.length_map]; omega⟩, fun w G4 hw1 hw2 t4 => ?_⟩
      have t4 := t3.trans t4
      obtain ⟨_, _, _, D4⟩ := t4.dk
      walk_at "god"
      refine iteD (fun hz => ?_) (fun hz => ?_)
      · walk_at "god"
        refine ⟨hr2, hz, ?_⟩
        dsimp only [asV]
        walk_at "god"
        exact ⟨_, _, _, _, _, rfl, rfl, (t4.trans (by assumption)).mono (by omega)⟩
      · have hm : 0 < mx r := by omega
        have hwl : w.length + 1 = r.length := by
          rw [List.length_map] at hw1
          omega
        walk_at "god"
        refine ⟨1, 0, _, _, _, _, r, rfl, D4, by omega, hr2, fun day G5 hd0 hd9 t5 => ?_⟩
        have t5 := t4.trans t5
        obtain ⟨_, _, _, D5⟩ := t5.dk
        dsimp only [asV]
        walk_at "god"
        refine evc_callX ?_
        walk_at "god"
        first | refine ⟨r, day, rfl, hr2, fun _ => ?_, fun h => by omega⟩ | refine ⟨hr2, fun _ => ?_, fun h => by omega⟩
        dsimp only [asV]
        walk_at "god"
        have sm := due_small hm hs9.1 hd9
        have sn := due_nn r day
        have sb := bindFst_lt (day := day) hl1
        have sh : ShX 129 1 (.tup [.int (dueN r day), .int (bindFst r day : Int)]) := shx_tup (n := 61) (k := 0) fun d hd => by
          simp only [List.mem_cons, List.not_mem_nil, or_false] at hd
          rcases hd with rfl | rfl
          · exact shx_int 0 (by omega)
          · exact shx_int 0 (by omega)
        refine ap_reprX1 sh (by decide) (by decide) ?_
        walk_at "god"
        first | refine ⟨r, day, rfl, hr2, hm, ?_⟩ | refine ⟨hr2, hm, ?_⟩
        dsimp only [asV]
        walk_at "god"
        refine ap_reprX1 sh (by decide) (by decide) ?_
        walk_at "god"
        refine iteD (fun h3 => ?_) (fun h3 => ?_)
        · walk_at "god"
          first | refine ⟨r, w, day, rfl, hr2, hm, hwl, fun z hz => (hw2 z hz).1, ?_⟩ | refine ⟨hr2, hm, hwl, fun z hz => (hw2 z hz).1, ?_⟩
          dsimp only [asV]
          walk_at "god"
          rw [decide_eq_true (show (if dueN r day < 12 then dueN r day else 12) = if 12 < dueN r day then 12 else dueN r day by split <;> split <;> omega)]
          walk_at "god"
          exact ⟨_, _, _, _, _, rfl, rfl, t5.mono (by omega)⟩
        · walk_at "god"
          exact ⟨_, _, _, _, _, rfl, rfl, t5.mono (by omega)⟩
    · rintro Δ' G' L' ⟨x2, x3, x4, x5, x6, rfl, rfl, t⟩
      have ok1 : RowOk [0] := ⟨by decide, by decide, by decide⟩
      have ok5 : RowOk [0, 0, 0, 0, 0] := ⟨by decide, by decide, by decide⟩
      walk_at "god"
      refine ⟨[0], 0, rfl, ok1, by decide, ?_⟩
      dsimp only [asV]
      walk_at "god"
      refine ⟨[0, 0, 0, 0, 0], _, rfl, ok5, by decide, ?_⟩
      dsimp only [asV]
      walk_at "god"
      exact q
end
end Pf
namespace Pf
open PySem L2 DL
theorem all_mk {l : PySem.W.OpenLaw} {w : World} {K : PySem.W.Frag} {h : Heap} {mg : Str → Option Value} {fa : Addr} (X : K.In h) (G : h.Ns mainGlobals mg) (hfa : mg "law" = some (.ref fa))
    {f_l_draw : Addr} {od_l_draw an_l_draw : Option Addr} {sl_l_draw : Array (Option Value)} {oc_l_draw kV_l_draw dc_l_draw pm_l_draw cd_l_draw ct_l_draw : Value}
    (a_l_draw : PySem.W.nsIn K mainGlobals "_law_draw" = some (some (.ref f_l_draw))) (l_l_draw : K.lookup f_l_draw = some ⟨oc_l_draw, od_l_draw, .func (PySem.W.fnOf "_law_draw" "_law_draw" (defArgs s_l_draw) (defBody s_l_draw) (defScope s_l_draw) .none kV_l_draw dc_l_draw pm_l_draw an_l_draw cd_l_draw ct_l_draw), sl_l_draw⟩) (c_l_draw : PySem.W.codeIn K cd_l_draw "_law_draw" = true) (k_l_draw : PySem.W.keepIn K (.ref f_l_draw) = true)
    {f_l_deck : Addr} {od_l_deck an_l_deck : Option Addr} {sl_l_deck : Array (Option Value)} {oc_l_deck kV_l_deck dc_l_deck pm_l_deck cd_l_deck ct_l_deck : Value}
    (a_l_deck : PySem.W.nsIn K mainGlobals "_law_deck" = some (some (.ref f_l_deck))) (l_l_deck : K.lookup f_l_deck = some ⟨oc_l_deck, od_l_deck, .func (PySem.W.fnOf "_law_deck" "_law_deck" (defArgs s_l_deck) (defBody s_l_deck) (defScope s_l_deck) .none kV_l_deck dc_l_deck pm_l_deck an_l_deck cd_l_deck ct_l_deck), sl_l_deck⟩) (c_l_deck : PySem.W.codeIn K cd_l_deck "_law_deck" = true) (k_l_deck : PySem.W.keepIn K (.ref f_l_deck) = true)
    {f_l_rooms : Addr} {od_l_rooms an_l_rooms : Option Addr} {sl_l_rooms : Array (Option Value)} {oc_l_rooms kV_l_rooms dc_l_rooms pm_l_rooms cd_l_rooms ct_l_rooms : Value}
    (a_l_rooms : PySem.W.nsIn K mainGlobals "_law_rooms" = some (some (.ref f_l_rooms))) (l_l_rooms : K.lookup f_l_rooms = some ⟨oc_l_rooms, od_l_rooms, .func (PySem.W.fnOf "_law_rooms" "_law_rooms" (defArgs s_l_rooms) (defBody s_l_rooms) (defScope s_l_rooms) .none kV_l_rooms dc_l_rooms pm_l_rooms an_l_rooms cd_l_rooms ct_l_rooms), sl_l_rooms⟩) (c_l_rooms : PySem.W.codeIn K cd_l_rooms "_law_rooms" = true) (k_l_rooms : PySem.W.keepIn K (.ref f_l_rooms) = true)
    {f_l_needs : Addr} {od_l_needs an_l_needs : Option Addr} {sl_l_needs : Array (Option Value)} {oc_l_needs kV_l_needs dc_l_needs pm_l_needs cd_l_needs ct_l_needs : Value}
    (a_l_needs : PySem.W.nsIn K mainGlobals "_law_needs" = some (some (.ref f_l_needs))) (l_l_needs : K.lookup f_l_needs = some ⟨oc_l_needs, od_l_needs, .func (PySem.W.fnOf "_law_needs" "_law_needs" (defArgs s_l_needs) (defBody s_l_needs) (defScope s_l_needs) .none kV_l_needs dc_l_needs pm_l_needs an_l_needs cd_l_needs ct_l_needs), sl_l_needs⟩) (c_l_needs : PySem.W.codeIn K cd_l_needs "_law_needs" = true) (k_l_needs : PySem.W.keepIn K (.ref f_l_needs) = true)
    {f_l_least : Addr} {od_l_least an_l_least : Option Addr} {sl_l_least : Array (Option Value)} {oc_l_least kV_l_least dc_l_least pm_l_least cd_l_least ct_l_least : Value}
    (a_l_least : PySem.W.nsIn K mainGlobals "_law_least" = some (some (.ref f_l_least))) (l_l_least : K.lookup f_l_least = some ⟨oc_l_least, od_l_least, .func (PySem.W.fnOf "_law_least" "_law_least" (defArgs s_l_least) (defBody s_l_least) (defScope s_l_least) .none kV_l_least dc_l_least pm_l_least an_l_least cd_l_least ct_l_least), sl_l_least⟩) (c_l_least : PySem.W.codeIn K cd_l_least "_law_least" = true) (k_l_least : PySem.W.keepIn K (.ref f_l_least) = true)
    {f_l_end : Addr} {od_l_end an_l_end : Option Addr} {sl_l_end : Array (Option Value)} {oc_l_end kV_l_end dc_l_end pm_l_end cd_l_end ct_l_end : Value}
    (a_l_end : PySem.W.nsIn K mainGlobals "_law_end" = some (some (.ref f_l_end))) (l_l_end : K.lookup f_l_end = some ⟨oc_l_end, od_l_end, .func (PySem.W.fnOf "_law_end" "_law_end" (defArgs s_l_end) (defBody s_l_end) (defScope s_l_end) .none kV_l_end dc_l_end pm_l_end an_l_end cd_l_end ct_l_end), sl_l_end⟩) (c_l_end : PySem.W.codeIn K cd_l_end "_law_end" = true) (k_l_end : PySem.W.keepIn K (.ref f_l_end) = true)
    {f_binds : Addr} {od_binds an_binds : Option Addr} {sl_binds : Array (Option Value)} {oc_binds kV_binds dc_binds pm_binds cd_binds ct_binds : Value}
    (a_binds : PySem.W.nsIn K mainGlobals "binds" = some (some (.ref f_binds))) (l_binds : K.lookup f_binds = some ⟨oc_binds, od_binds, .func (PySem.W.fnOf "binds" "binds" (defArgs s_binds) (defBody s_binds) (defScope s_binds) .none kV_binds dc_binds pm_binds an_binds cd_binds ct_binds), sl_binds⟩) (c_binds : PySem.W.codeIn K cd_binds "binds" = true) (k_binds : PySem.W.keepIn K (.ref f_binds) = true)
    {f_l_row : Addr} {od_l_row an_l_row : Option Addr} {sl_l_row : Array (Option Value)} {oc_l_row kV_l_row dc_l_row pm_l_row cd_l_row ct_l_row : Value}
    (a_l_row : PySem.W.nsIn K mainGlobals "_law_row" = some (some (.ref f_l_row))) (l_l_row : K.lookup f_l_row = some ⟨oc_l_row, od_l_row, .func (PySem.W.fnOf "_law_row" "_law_row" (defArgs s_l_row) (defBody s_l_row) (defScope s_l_row) .none kV_l_row dc_l_row pm_l_row an_l_row cd_l_row ct_l_row), sl_l_row⟩) (c_l_row : PySem.W.codeIn K cd_l_row "_law_row" = true) (k_l_row : PySem.W.keepIn K (.ref f_l_row) = true)
    {f_l_day : Addr} {od_l_day an_l_day : Option Addr} {sl_l_day : Array (Option Value)} {oc_l_day kV_l_day dc_l_day pm_l_day cd_l_day ct_l_day : Value}
    (a_l_day : PySem.W.nsIn K mainGlobals "_law_day" = some (some (.ref f_l_day))) (l_l_day : K.lookup f_l_day = some ⟨oc_l_day, od_l_day, .func (PySem.W.fnOf "_law_day" "_law_day" (defArgs s_l_day) (defBody s_l_day) (defScope s_l_day) .none kV_l_day dc_l_day pm_l_day an_l_day cd_l_day ct_l_day), sl_l_day⟩) (c_l_day : PySem.W.codeIn K cd_l_day "_law_day" = true) (k_l_day : PySem.W.keepIn K (.ref f_l_day) = true)
    {f_most_a_day : Addr} {od_most_a_day an_most_a_day : Option Addr} {sl_most_a_day : Array (Option Value)} {oc_most_a_day kV_most_a_day dc_most_a_day pm_most_a_day cd_most_a_day ct_most_a_day : Value}
    (a_most_a_day : PySem.W.nsIn K mainGlobals "most_a_day" = some (some (.ref f_most_a_day))) (l_most_a_day : K.lookup f_most_a_day = some ⟨oc_most_a_day, od_most_a_day, .func (PySem.W.fnOf "most_a_day" "most_a_day" (defArgs s_most_a_day) (defBody s_most_a_day) (defScope s_most_a_day) .none kV_most_a_day dc_most_a_day pm_most_a_day an_most_a_day cd_most_a_day ct_most_a_day), sl_most_a_day⟩) (c_most_a_day : PySem.W.codeIn K cd_most_a_day "most_a_day" = true) (k_most_a_day : PySem.W.keepIn K (.ref f_most_a_day) = true)
    {f_l_due : Addr} {od_l_due an_l_due : Option Addr} {sl_l_due : Array (Option Value)} {oc_l_due kV_l_due dc_l_due pm_l_due cd_l_due ct_l_due : Value}
    (a_l_due : PySem.W.nsIn K mainGlobals "_law_due" = some (some (.ref f_l_due))) (l_l_due : K.lookup f_l_due = some ⟨oc_l_due, od_l_due, .func (PySem.W.fnOf "_law_due" "_law_due" (defArgs s_l_due) (defBody s_l_due) (defScope s_l_due) .none kV_l_due dc_l_due pm_l_due an_l_due cd_l_due ct_l_due), sl_l_due⟩) (c_l_due : PySem.W.codeIn K cd_l_due "_law_due" = true) (k_l_due : PySem.W.keepIn K (.ref f_l_due) = true)
    {f_l_refused : Addr} {od_l_refused an_l_refused : Option Addr} {sl_l_refused : Array (Option Value)} {oc_l_refused kV_l_refused dc_l_refused pm_l_refused cd_l_refused ct_l_refused : Value}
    (a_l_refused : PySem.W.nsIn K mainGlobals "_law_refused" = some (some (.ref f_l_refused))) (l_l_refused : K.lookup f_l_refused = some ⟨oc_l_refused, od_l_refused, .func (PySem.W.fnOf "_law_refused" "_law_refused" (defArgs s_l_refused) (defBody s_l_refused) (defScope s_l_refused) .none kV_l_refused dc_l_refused pm_l_refused an_l_refused cd_l_refused ct_l_refused), sl_l_refused⟩) (c_l_refused : PySem.W.codeIn K cd_l_refused "_law_refused" = true) (k_l_refused : PySem.W.keepIn K (.ref f_l_refused) = true)
    {f_l_by_starts : Addr} {od_l_by_starts an_l_by_starts : Option Addr} {sl_l_by_starts : Array (Option Value)} {oc_l_by_starts kV_l_by_starts dc_l_by_starts pm_l_by_starts cd_l_by_starts ct_l_by_starts : Value}
    (a_l_by_starts : PySem.W.nsIn K mainGlobals "_law_by_starts" = some (some (.ref f_l_by_starts))) (l_l_by_starts : K.lookup f_l_by_starts = some ⟨oc_l_by_starts, od_l_by_starts, .func (PySem.W.fnOf "_law_by_starts" "_law_by_starts" (defArgs s_l_by_starts) (defBody s_l_by_starts) (defScope s_l_by_starts) .none kV_l_by_starts dc_l_by_starts pm_l_by_starts an_l_by_starts cd_l_by_starts ct_l_by_starts), sl_l_by_starts⟩) (c_l_by_starts : PySem.W.codeIn K cd_l_by_starts "_law_by_starts" = true) (k_l_by_starts : PySem.W.keepIn K (.ref f_l_by_starts) = true)
    {f_law : Addr} {od_law an_law : Option Addr} {sl_law : Array (Option Value)} {oc_law kV_law dc_law pm_law cd_law ct_law : Value}
    (a_law : PySem.W.nsIn K mainGlobals "law" = some (some (.ref f_law))) (l_law : K.lookup f_law = some ⟨oc_law, od_law, .func (PySem.W.fnOf "law" "law" (defArgs s_law) (defBody s_law) (defScope s_law) .none kV_law dc_law pm_law an_law cd_law ct_law), sl_law⟩) (c_law : PySem.W.codeIn K cd_law "law" = true) (k_law : PySem.W.keepIn K (.ref f_law) = true)
    {f_Endless : Addr} (a_Endless : PySem.W.nsIn K mainGlobals "Endless" = some (some (.ref f_Endless)))
    {f_MasterError : Addr} (a_MasterError : PySem.W.nsIn K mainGlobals "MasterError" = some (some (.ref f_MasterError)))
    {f_NoShare : Addr} (a_NoShare : PySem.W.nsIn K mainGlobals "NoShare" = some (some (.ref f_NoShare)))
    (vb_ArithmeticError : PySem.W.findCls K (.type "ArithmeticError") (.type "type") "__init__" = some (.val (.builtin "ArithmeticError.__init__")))
    (vb_Exception : PySem.W.findCls K (.type "Exception") (.type "type") "__init__" = some (.val (.builtin "Exception.__init__")))
    {g_Endless : Addr} {od_Endless an_Endless : Option Addr} {sl_Endless : Array (Option Value)} {oc_Endless kV_Endless dc_Endless pm_Endless cd_Endless ct_Endless : Value}
    (ii0_Endless : PySem.W.findIn K (.ref f_Endless) "__init__" = some (some (.ref g_Endless))) (ti_Endless : PySem.W.typeIn K (.ref g_Endless) = some (.type "function")) (li_Endless : K.lookup g_Endless = some ⟨oc_Endless, od_Endless, .func (PySem.W.fnOf "__init__" "Endless.__init__" (defArgs s_Endless___init__) (defBody s_Endless___init__) (defScope s_Endless___init__) .none kV_Endless dc_Endless pm_Endless an_Endless cd_Endless ct_Endless), sl_Endless⟩) (ci_Endless : PySem.W.codeIn K cd_Endless "Endless.__init__" = true) (ki_Endless : PySem.W.keepIn K (.ref g_Endless) = true)
    {nm_Endless q_Endless : Str} {N_Endless : Addr} {bs_Endless : List Value} {sn_Endless : List Str} {su_Endless : List Value} {ab_Endless : Bool} {co_Endless : Option Bool} {dd_Endless : Option Addr} {m0_Endless m1_Endless m2_Endless m3_Endless m5_Endless : Option Value}
    (l_Endless : K.lookup f_Endless = some (excClassObj nm_Endless q_Endless f_Endless N_Endless bs_Endless [.type "ArithmeticError", .type "Exception", .type "BaseException", .type "object"] true sn_Endless su_Endless ab_Endless co_Endless dd_Endless m0_Endless m1_Endless m2_Endless m3_Endless m5_Endless "ArithmeticError.__new__"))
    (sa_Endless : PySem.W.findIn K (.ref f_Endless) "__setattr__" = some (some (.builtin "object.__setattr__"))) (eC_Endless : PySem.W.subIn K (.ref f_Endless) (.type "BaseException") = some true) (tC_Endless : PySem.W.typeIn K (.ref f_Endless) = some (.type "type")) (kC_Endless : PySem.W.keepIn K (.ref f_Endless) = true)
    (ga_Endless : PySem.W.findIn K (.ref f_Endless) "__getattribute__" = some (some (.builtin "BaseException.__getattribute__"))) (gg_Endless : PySem.W.findIn K (.ref f_Endless) "__getattr__" = some none) (hC_Endless : PySem.W.hasDictIn K f_Endless = true)
    (ha_Endless : PySem.W.findIn K (.ref f_Endless) "__class__" = some (some (.builtin "object.__class__"))) (hn_Endless : PySem.W.specialIn K (.builtin "object.__class__") "__get__" = some (some (.builtin "getset_descriptor.__get__"))) (ht_Endless : PySem.W.takesIn K (.builtin "object.__class__") = some true) (hm_Endless : PySem.W.mroIn K f_Endless (.type "object") = some true)
    (iC_Endless : PySem.W.isClsIn K f_Endless = true) (sC_Endless : PySem.W.subIn K (.ref f_Endless) (.ref f_Endless) = some true)
    (n_Endless_row : PySem.W.findIn K (.ref f_Endless) "row" = some none)
    (su_Endless_ArithmeticError : PySem.W.subIn K (.ref f_Endless) (.type "ArithmeticError") = some true)
    (su_Endless_ValueError : PySem.W.subIn K (.ref f_Endless) (.type "ValueError") = some false)
    (su_Endless_ZeroDivisionError : PySem.W.subIn K (.ref f_Endless) (.type "ZeroDivisionError") = some false)
    (su_Endless_MasterError : PySem.W.subIn K (.ref f_Endless) (.ref f_MasterError) = some false)
    (su_Endless_NoShare : PySem.W.subIn K (.ref f_Endless) (.ref f_NoShare) = some false)
    (iC_MasterError : PySem.W.isClsIn K f_MasterError = true) (tC_MasterError : PySem.W.typeIn K (.ref f_MasterError) = some (.type "type")) (eC_MasterError : PySem.W.subIn K (.ref f_MasterError) (.type "BaseException") = some true) (hC_MasterError : PySem.W.hasDictIn K f_MasterError = true)
    (iC_NoShare : PySem.W.isClsIn K f_NoShare = true) (tC_NoShare : PySem.W.typeIn K (.ref f_NoShare) = some (.type "type")) (eC_NoShare : PySem.W.subIn K (.ref f_NoShare) (.type "BaseException") = some true) (hC_NoShare : PySem.W.hasDictIn K f_NoShare = true)
    (z_ArithmeticError : PySem.W.nsIn K mainGlobals "ArithmeticError" = some none)
    (z_Exception : PySem.W.nsIn K mainGlobals "Exception" = some none)
    (z_ValueError : PySem.W.nsIn K mainGlobals "ValueError" = some none)
    (z_ZeroDivisionError : PySem.W.nsIn K mainGlobals "ZeroDivisionError" = some none)
    (z_int : PySem.W.nsIn K mainGlobals "int" = some none)
    (z_isinstance : PySem.W.nsIn K mainGlobals "isinstance" = some none)
    (z_len : PySem.W.nsIn K mainGlobals "len" = some none)
    (z_list : PySem.W.nsIn K mainGlobals "list" = some none)
    (z_max : PySem.W.nsIn K mainGlobals "max" = some none)
    (z_min : PySem.W.nsIn K mainGlobals "min" = some none)
    (z_range : PySem.W.nsIn K mainGlobals "range" = some none)
    (z_repr : PySem.W.nsIn K mainGlobals "repr" = some none)
    (z_sum : PySem.W.nsIn K mainGlobals "sum" = some none)
    (z_tuple : PySem.W.nsIn K mainGlobals "tuple" = some none) :
    ∃ fd : FuncData, (∀ (s : Shared) (v : Value), BindsTo s fd ⟨[v], []⟩ [("_law_script", v)]) ∧ ∀ base : Heap, K.In base → base.Ns mainGlobals mg → FnG l.prog w K mg base 5 fa fd ["_law_script"] (spD K sp_law) := by
  have e := hfa.symm.trans (PySem.W.mg_of X G a_law)
  cases e
  have F_l_draw := fun_mk (st := s_l_draw) l_l_draw c_l_draw k_l_draw
  have b_l_draw := F_l_draw.binds (ps := ["_law_deck_here", "_law_most"]) fun _ _ _ _ _ _ us hl => match us, hl with | [_, _], _ => rfl
  have F_l_deck := fun_mk (st := s_l_deck) l_l_deck c_l_deck k_l_deck
  have b_l_deck := F_l_deck.binds (ps := ["_law_script"]) fun _ _ _ _ _ _ us hl => match us, hl with | [_], _ => rfl
  have F_l_rooms := fun_mk (st := s_l_rooms) l_l_rooms c_l_rooms k_l_rooms
  have b_l_rooms := F_l_rooms.binds (ps := ["_law_deck_here", "_law_hands"]) fun _ _ _ _ _ _ us hl => match us, hl with | [_, _], _ => rfl
  have F_l_needs := fun_mk (st := s_l_needs) l_l_needs c_l_needs k_l_needs
  have b_l_needs := F_l_needs.binds (ps := ["_law_times", "_law_rooms_here"]) fun _ _ _ _ _ _ us hl => match us, hl with | [_, _], _ => rfl
  have F_l_least := fun_mk (st := s_l_least) l_l_least c_l_least k_l_least
  have b_l_least := F_l_least.binds (ps := ["_law_times", "_law_rooms_here"]) fun _ _ _ _ _ _ us hl => match us, hl with | [_, _], _ => rfl
  have F_l_end := fun_mk (st := s_l_end) l_l_end c_l_end k_l_end
  have b_l_end := F_l_end.binds (ps := ["_law_times", "_law_starts"]) fun _ _ _ _ _ _ us hl => match us, hl with | [_, _], _ => rfl
  have F_binds := fun_mk (st := s_binds) l_binds c_binds k_binds
  have b_binds := F_binds.binds (ps := ["row", "day", "many", "hand"]) fun _ _ _ _ _ _ us hl => match us, hl with | [_, _, _, _], _ => rfl
  have F_l_row := fun_mk (st := s_l_row) l_l_row c_l_row k_l_row
  have b_l_row := F_l_row.binds (ps := ["_law_deck_here"]) fun _ _ _ _ _ _ us hl => match us, hl with | [_], _ => rfl
  have F_l_day := fun_mk (st := s_l_day) l_l_day c_l_day k_l_day
  have b_l_day := F_l_day.binds (ps := ["_law_deck_here", "_law_row_here"]) fun _ _ _ _ _ _ us hl => match us, hl with | [_, _], _ => rfl
  have F_most_a_day := fun_mk (st := s_most_a_day) l_most_a_day c_most_a_day k_most_a_day
  have b_most_a_day := F_most_a_day.binds (ps := ["row", "day"]) fun _ _ _ _ _ _ us hl => match us, hl with | [_, _], _ => rfl
  have F_l_due := fun_mk (st := s_l_due) l_l_due c_l_due k_l_due
  have b_l_due := F_l_due.binds (ps := ["_law_row_here", "_law_day_here"]) fun _ _ _ _ _ _ us hl => match us, hl with | [_, _], _ => rfl
  have F_l_refused := fun_mk (st := s_l_refused) l_l_refused c_l_refused k_l_refused
  have b_l_refused := F_l_refused.binds (ps := ["_law_row_here", "_law_day_here"]) fun _ _ _ _ _ _ us hl => match us, hl with | [_, _], _ => rfl
  have F_l_by_starts := fun_mk (st := s_l_by_starts) l_l_by_starts c_l_by_starts k_l_by_starts
  have b_l_by_starts := F_l_by_starts.binds (ps := ["_law_row_here", "_law_rooms_here", "_law_day_here"]) fun _ _ _ _ _ _ us hl => match us, hl with | [_, _, _], _ => rfl
  have F_law := fun_mk (st := s_law) l_law c_law k_law
  have b_law := F_law.binds (ps := ["_law_script"]) fun _ _ _ _ _ _ us hl => match us, hl with | [_], _ => rfl
  have Fi_Endless := fun_mk (st := s_Endless___init__) li_Endless ci_Endless ki_Endless
  have bi_Endless := Fi_Endless.binds (ps := ["self", "row"]) fun _ _ _ _ _ _ us hl => match us, hl with | [_, _], _ => rfl
  let T : TX w K mg := ⟨_, _, F_l_draw, PySem.W.mg_of X G a_l_draw, F_l_draw.kp, b_l_draw, _, _, F_l_deck, PySem.W.mg_of X G a_l_deck, F_l_deck.kp, b_l_deck, _, _, F_l_rooms, PySem.W.mg_of X G a_l_rooms, F_l_rooms.kp, b_l_rooms, _, _, F_l_needs, PySem.W.mg_of X G a_l_needs, F_l_needs.kp, b_l_needs, _, _, F_l_least, PySem.W.mg_of X G a_l_least, F_l_least.kp, b_l_least, _, _, F_l_end, PySem.W.mg_of X G a_l_end, F_l_end.kp, b_l_end, _, _, F_binds, PySem.W.mg_of X G a_binds, F_binds.kp, b_binds, _, _, F_l_row, PySem.W.mg_of X G a_l_row, F_l_row.kp, b_l_row, _, _, F_l_day, PySem.W.mg_of X G a_l_day, F_l_day.kp, b_l_day, _, _, F_most_a_day, PySem.W.mg_of X G a_most_a_day, F_most_a_day.kp, b_most_a_day, _, _, F_l_due, PySem.W.mg_of X G a_l_due, F_l_due.kp, b_l_due, _, _, F_l_refused, PySem.W.mg_of X G a_l_refused, F_l_refused.kp, b_l_refused, _, _, F_l_by_starts, PySem.W.mg_of X G a_l_by_starts, F_l_by_starts.kp, b_l_by_starts, _, _, F_law, PySem.W.mg_of X G a_law, F_law.kp, b_law, PySem.W.mg_none_of X G z_ArithmeticError, PySem.W.mg_none_of X G z_Exception, PySem.W.mg_none_of X G z_ValueError, PySem.W.mg_none_of X G z_ZeroDivisionError, PySem.W.mg_none_of X G z_int, PySem.W.mg_none_of X G z_isinstance, PySem.W.mg_none_of X G z_len, PySem.W.mg_none_of X G z_list, PySem.W.mg_none_of X G z_max, PySem.W.mg_none_of X G z_min, PySem.W.mg_none_of X G z_range, PySem.W.mg_none_of X G z_repr, PySem.W.mg_none_of X G z_sum, PySem.W.mg_none_of X G z_tuple, _, PySem.W.mg_of X G a_Endless, _, PySem.W.mg_of X G a_MasterError, _, PySem.W.mg_of X G a_NoShare, vb_ArithmeticError, vb_Exception, _, ti_Endless, ki_Endless, _, Fi_Endless, bi_Endless, ⟨⟨_, _, _, _, _, _, _, _, _, _, _, _, _, _, _, l_Endless, rfl⟩, sa_Endless, eC_Endless, tC_Endless, kC_Endless⟩, ii0_Endless, n_Endless_row, ⟨ga_Endless, gg_Endless, eC_Endless, hC_Endless⟩, ⟨ga_Endless, gg_Endless, eC_Endless, hC_Endless, ha_Endless, hn_Endless, ht_Endless, hm_Endless⟩, DXs.kit_cls sC_Endless iC_MasterError tC_MasterError su_Endless_MasterError, DXs.kit_cls sC_Endless iC_NoShare tC_NoShare su_Endless_NoShare, DTj.kit_tyb (by decide +kernel) su_Endless_ArithmeticError, DTj.kit_tyb (by decide +kernel) su_Endless_ValueError, DTj.kit_tyb (by decide +kernel) su_Endless_ZeroDivisionError, PySem.W.exm_ref eC_Endless hC_Endless tC_Endless sC_Endless⟩
  refine ⟨T.fd_law, fun s v => .of_eq rfl, fun base _ _ => ?_⟩
  have GI_Endless := ok_ini_Endless (P := l.prog) (w := w) (base := base) T
  have GH_Endless := ok_inih_Endless (P := l.prog) (w := w) (base := base) T
  have G_l_draw := ok_l_draw (P := l.prog) (w := w) (base := base) T
  have G_l_deck := ok_l_deck (P := l.prog) (w := w) (base := base) T
  have G_l_rooms := ok_l_rooms (P := l.prog) (w := w) (base := base) T G_l_draw
  have G_l_needs := ok_l_needs (P := l.prog) (w := w) (base := base) T
  have G_l_least := ok_l_least (P := l.prog) (w := w) (base := base) T G_l_needs
  have G_l_end := ok_l_end (P := l.prog) (w := w) (base := base) T
  have G_binds := ok_binds (P := l.prog) (w := w) (base := base) T
  have G_l_row := ok_l_row (P := l.prog) (w := w) (base := base) T G_l_draw
  have G_l_day := ok_l_day (P := l.prog) (w := w) (base := base) T G_l_draw
  have G_most_a_day := ok_most_a_day (P := l.prog) (w := w) (base := base) T G_binds GI_Endless GH_Endless
  have G_l_due := ok_l_due (P := l.prog) (w := w) (base := base) T
  have G_l_refused := ok_l_refused (P := l.prog) (w := w) (base := base) T G_most_a_day
  have G_l_by_starts := ok_l_by_starts (P := l.prog) (w := w) (base := base) T G_l_end G_l_least
  have G_law := ok_law (P := l.prog) (w := w) (base := base) T G_l_deck G_l_row G_l_rooms G_l_refused G_l_day G_most_a_day G_l_draw G_l_due G_l_by_starts
  exact G_law
theorem walk {l : PySem.W.OpenLaw} {q : Program} {loose : List Str} {XP : (Str → Option Value) → Heap → Prop} {YP : World → Heap → Prop} {d : DefRec} {K : Params → PySem.W.Frag} (hn : l.most = some 63) (hdf : d.params.defaults = [])
    (hY : ∀ (w : World) (h : Heap), YP w h → (K w.params).In h)
    (F : ∀ (w : World) (mg : Str → Option Value) (fa : Addr) (h : Heap), (K w.params).In h → h.Ns mainGlobals mg → mg d.name = some (.ref fa) →
      ∃ fd : FuncData, (∀ (s : Shared) (u : Value), BindsTo s fd ⟨[u], []⟩ [("_law_script", u)]) ∧ ∀ base : Heap, (K w.params).In base → base.Ns mainGlobals mg → FnG l.prog w (K w.params) mg base 5 fa fd ["_law_script"] (spD (K w.params) sp_law)) :
    PySem.W.WalkO q loose XP YP l.row.toRowW d [] (fun f vs => PySem.call f vs) :=
  DL.walk_ofG (n := 63) (k := 5) (x := "_law_script") (sp := fun w => spD (K w.params) sp_law) hn (by decide) hdf ⟨rfl, by decide, by decide⟩ hY F (fun _ _ a ns hl hb hS => law_sp (law_in hl hb) hS)
end Pf
open PySem PySem.W PyProof.Rows in
set_option maxRecDepth 100000 in
set_option maxHeartbeats 0 in
theorem PySem.Challenge.cw_littlemasters_k28_most_a_day_told_holds : PySem.Challenge.rw_littlemasters_k28_most_a_day_told.Holds := by
  refine PySem.W.headPf ?_
  k_fill
  refine Pf.walk (l := PySem.Challenge.rw_littlemasters_k28_most_a_day_told) rfl rfl (fun w h Y => PySem.W.kIn_of Y) ?F
  case F =>
    intro w mg fa h KX G hmg
    refine' Pf.all_mk KX G hmg ?a_l_draw ?l_l_draw ?c_l_draw ?k_l_draw ?a_l_deck ?l_l_deck ?c_l_deck ?k_l_deck ?a_l_rooms ?l_l_rooms ?c_l_rooms ?k_l_rooms ?a_l_needs ?l_l_needs ?c_l_needs ?k_l_needs ?a_l_least ?l_l_least ?c_l_least ?k_l_least ?a_l_end ?l_l_end ?c_l_end ?k_l_end ?a_binds ?l_binds ?c_binds ?k_binds ?a_l_row ?l_l_row ?c_l_row ?k_l_row ?a_l_day ?l_l_day ?c_l_day ?k_l_day ?a_most_a_day ?l_most_a_day ?c_most_a_day ?k_most_a_day ?a_l_due ?l_l_due ?c_l_due ?k_l_due ?a_l_refused ?l_l_refused ?c_l_refused ?k_l_refused ?a_l_by_starts ?l_l_by_starts ?c_l_by_starts ?k_l_by_starts ?a_law ?l_law ?c_law ?k_law ?a_Endless ?a_MasterError ?a_NoShare ?vb_ArithmeticError ?vb_Exception ?ii0_Endless ?ti_Endless ?li_Endless ?ci_Endless ?ki_Endless ?l_Endless ?sa_Endless ?eC_Endless ?tC_Endless ?kC_Endless ?ga_Endless ?gg_Endless ?hC_Endless ?ha_Endless ?hn_Endless ?ht_Endless ?hm_Endless ?iC_Endless ?sC_Endless ?n_Endless_row ?su_Endless_ArithmeticError ?su_Endless_ValueError ?su_Endless_ZeroDivisionError ?su_Endless_MasterError ?su_Endless_NoShare ?iC_MasterError ?tC_MasterError ?eC_MasterError ?hC_MasterError ?iC_NoShare ?tC_NoShare ?eC_NoShare ?hC_NoShare ?z_ArithmeticError ?z_Exception ?z_ValueError ?z_ZeroDivisionError ?z_int ?z_isinstance ?z_len ?z_list ?z_max ?z_min ?z_range ?z_repr ?z_sum ?z_tuple
    (case a_l_draw => k_is)
    (case l_l_draw => k_is)
    (case c_l_draw => k_is)
    (case k_l_draw => k_is)
    (case a_l_deck => k_is)
    (case l_l_deck => k_is)
    (case c_l_deck => k_is)
    (case k_l_deck => k_is)
    (case a_l_rooms => k_is)
    (case l_l_rooms => k_is)
    (case c_l_rooms => k_is)
    (case k_l_rooms => k_is)
    (case a_l_needs => k_is)
    (case l_l_needs => k_is)
    (case c_l_needs => k_is)
    (case k_l_needs => k_is)
    (case a_l_least => k_is)
    (case l_l_least => k_is)
    (case c_l_least => k_is)
    (case k_l_least => k_is)
    (case a_l_end => k_is)
    (case l_l_end => k_is)
    (case c_l_end => k_is)
    (case k_l_end => k_is)
    (case a_binds => k_is)
    (case l_binds => k_is)
    (case c_binds => k_is)
    (case k_binds => k_is)
    (case a_l_row => k_is)
    (case l_l_row => k_is)
    (case c_l_row => k_is)
    (case k_l_row => k_is)
    (case a_l_day => k_is)
    (case l_l_day => k_is)
    (case c_l_day => k_is)
    (case k_l_day => k_is)
    (case a_most_a_day => k_is)
    (case l_most_a_day => k_is)
    (case c_most_a_day => k_is)
    (case k_most_a_day => k_is)
    (case a_l_due => k_is)
    (case l_l_due => k_is)
    (case c_l_due => k_is)
    (case k_l_due => k_is)
    (case a_l_refused => k_is)
    (case l_l_refused => k_is)
    (case c_l_refused => k_is)
    (case k_l_refused => k_is)
    (case a_l_by_starts => k_is)
    (case l_l_by_starts => k_is)
    (case c_l_by_starts => k_is)
    (case k_l_by_starts => k_is)
    (case a_law => k_is)
    (case l_law => k_is)
    (case c_law => k_is)
    (case k_law => k_is)
    (case a_Endless => k_is)
    (case a_MasterError => k_is)
    (case a_NoShare => k_is)
    (case vb_ArithmeticError => k_is)
    (case vb_Exception => k_is)
    (case ii0_Endless => k_is)
    (case ti_Endless => k_is)
    (case li_Endless => k_is)
    (case ci_Endless => k_is)
    (case ki_Endless => k_is)
    (case l_Endless => k_is)
    (case sa_Endless => k_is)
    (case eC_Endless => k_is)
    (case tC_Endless => k_is)
    (case kC_Endless => k_is)
    (case ga_Endless => k_is)
    (case gg_Endless => k_is)
    (case hC_Endless => k_is)
    (case ha_Endless => k_is)
    (case hn_Endless => k_is)
    (case ht_Endless => k_is)
    (case hm_Endless => k_is)
    (case iC_Endless => k_is)
    (case sC_Endless => first | rfl | k_is)
    (case n_Endless_row => k_is)
    (case su_Endless_ArithmeticError => k_is)
    (case su_Endless_ValueError => k_is)
    (case su_Endless_ZeroDivisionError => k_is)
    (case su_Endless_MasterError => k_is)
    (case su_Endless_NoShare => k_is)
    (case iC_MasterError => k_is)
    (case tC_MasterError => k_is)
    (case eC_MasterError => k_is)
    (case hC_MasterError => k_is)
    (case iC_NoShare => k_is)
    (case tC_NoShare => k_is)
    (case eC_NoShare => k_is)
    (case hC_NoShare => k_is)
    (case z_ArithmeticError => k_is)
    (case z_Exception => k_is)
    (case z_ValueError => k_is)
    (case z_ZeroDivisionError => k_is)
    (case z_int => k_is)
    (case z_isinstance => k_is)
    (case z_len => k_is)
    (case z_list => k_is)
    (case z_max => k_is)
    (case z_min => k_is)
    (case z_range => k_is)
    (case z_repr => k_is)
    (case z_sum => k_is)
    (case z_tuple => k_is)
