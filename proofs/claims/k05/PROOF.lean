import PyProof.Rows.All
import Wide.All
import OpenK.AllK
import Wide.FinOn
import HandS.ForMost
import HandS.Evl
import HandS.Wide
import HandS.TupAny
import HandS.EndBits
import HandS.Style
import HandS.TryOnly
import HandS.WordsExc
import HandS.WrittenGet
import HandS.IsInst
import HandS.TupMul
import PyProof.NeKinds
import HandS.SortKw
import KE.DataMinMax
import HandS.Zip
import KE.GoesEnumKw
import PyProof.P3In
import HandS.Flow
import HandS.Small
import HandS.WideBits
import HandS.Zip0
import KE.GoesNew
import HandS.StrMore
import PyProof.Rows.SortShellAny
import HandS.SetFor
import HandS.Strs
import KE.KDictCopyH
import PyProof.TupleOfStr
import PyProof.Rows.IntBool
import PyProof.Rows.EqBoolInt
import PyProof.SeqRoads2
import PyProof.SumWalkG
import HandS.CallLocal
import HandS.Conv
import HandS.List
import HandS.Set
import HandS.ExcInit
import HandS.ExcField
import HandS.ExcOwn
import KE.KExcIs
import HandS.ExcIs
import HandS.Iter
import HandS.Defaults
import HandS.More
import HandS.SortRule
import KE.SortData
import KE.LtSeq
import HandS.Text
import PyProof.Rows.ReprOcc
import KE.DataMinKey
import KE.KDictWalk
import HandS.MakeKw
import PyProof.ListRange
import OpenK.KOps
import KE.KIntText
import HandS.Replace
import HandS.Flt
import KE.KCallOwn
import KE.KFmtOwn
import HandS.OwnEq
import HandS.FStr
import PyProof.InstNe
import HandS.IntHex
import KE.KEqNest
import PyProof.EqKinds
import PyProof.FactsAll.dict
import PySem.Challenge.RW_littlemasters_k05_tallies_equal_and_writ
set_option Elab.async false
set_option linter.all false
set_option pp.maxSteps 600
set_option pp.deepTerms false
set_option maxRecDepth 100000
set_option maxHeartbeats 8000000
namespace PySem.W
open PySem PySem.W PyProof.Rows
set_option maxRecDepth 100000 in
set_option maxHeartbeats 0 in
open_top headPf for PySem.Challenge.rw_littlemasters_k05_tallies_equal_and_writ
end PySem.W
namespace DL
open PySem PySem.Spec PyProof.Rows L2

inductive D where
  | non | bl (b : Bool) | int (i : Int) | str (x : Str) | ty (n : String) | ref (a : Addr)
  | scr (ns : List Int)
  | tup (ds : List D) | lst (ds : List D) | dct (kvs : List (Key × D)) | ins (C : Addr) (fs : List (Str × D)) | exn (a dd : Addr) (fs : List (Str × D))

def TupAt (K : PySem.W.Frag) (H : Hp) (R : Addr → Prop) (a : Addr) (xs : List V) : Prop := H a = some (.tup xs) ∧ ¬ R a
def LstAt (K : PySem.W.Frag) (H : Hp) (R : Addr → Prop) (a : Addr) (xs : List V) : Prop := (Rd H a (.lst xs) ∧ ¬ R a) ∨ SqL K (fun _ => none) a xs

mutual
def Rep (K : PySem.W.Frag) (H : Hp) (R : Addr → Prop) : D → V → Prop
  | .non, v => v = .non
  | .bl b, v => v = .bl b
  | .int i, v => v = .int i
  | .str x, v => v = .str x
  | .ty n, v => v = .ty n
  | .ref a, v => v = .ref a
  | .scr ns, v => ∃ a, v = .ref a ∧ LstAt K H R a (ns.map V.int)
  | .tup ds, v => ∃ a xs, v = .ref a ∧ TupAt K H R a xs ∧ RepL K H R ds xs
  | .lst ds, v => ∃ a xs, v = .ref a ∧ (H a = some (.lst xs) ∧ ¬ R a) ∧ RepL K H R ds xs
  | .dct kvs, v => ∃ a ws, v = .ref a ∧ (H a = some (.dK ws) ∧ ¬ R a) ∧ RepK K H R kvs ws
  | .ins C fs, v => ∃ a dx ws, v = .ref a ∧ (H a = some (.ins C dx ws) ∧ ¬ R a) ∧ RepF K H R fs ws
  | .exn a dd fs, v => v = .ref a ∧ ∃ ws, (H dd = some (.xd ws) ∧ ¬ R dd) ∧ RepF K H R fs ws
def RepL (K : PySem.W.Frag) (H : Hp) (R : Addr → Prop) : List D → List V → Prop
  | [], xs => xs = []
  | d :: ds, xs => ∃ y ys, xs = y :: ys ∧ Rep K H R d y ∧ RepL K H R ds ys
def RepK (K : PySem.W.Frag) (H : Hp) (R : Addr → Prop) : List (Key × D) → List (Key × V) → Prop
  | [], xs => xs = []
  | (k, d) :: ds, xs => ∃ y ys, xs = (k, y) :: ys ∧ Rep K H R d y ∧ RepK K H R ds ys
def RepF (K : PySem.W.Frag) (H : Hp) (R : Addr → Prop) : List (Str × D) → List (Str × V) → Prop
  | [], xs => xs = []
  | (k, d) :: ds, xs => ∃ y ys, xs = (k, y) :: ys ∧ Rep K H R d y ∧ RepF K H R ds ys
end

structure Grow (H H' : Hp) (R R' : Addr → Prop) : Prop where
  keep : ∀ a o, H a = some o → ¬ R a → H' a = some o
  reg : ∀ a o, H a = some o → R' a → R a
theorem Grow.refl (H : Hp) (R : Addr → Prop) : Grow H H R R := ⟨fun _ _ h _ => h, fun _ _ _ h => h⟩
theorem Grow.trans {H H1 H2 : Hp} {R R1 R2 : Addr → Prop} (a : Grow H H1 R R1) (b : Grow H1 H2 R1 R2) : Grow H H2 R R2 := by
  have k : ∀ c o, H c = some o → ¬ R c → H1 c = some o ∧ ¬ R1 c := fun c o h n => ⟨a.keep c o h n, fun r => n (a.reg c o h r)⟩
  refine ⟨fun c o h n => b.keep c o (k c o h n).1 (k c o h n).2, fun c o h r => ?_⟩
  by_cases n : R c
  · exact n
  · obtain ⟨h1, n1⟩ := k c o h n
    exact absurd (b.reg c o h1 r) n1
theorem TupAt.grow {K : PySem.W.Frag} {H H' : Hp} {R R' : Addr → Prop} {a : Addr} {xs : List V} (g : Grow H H' R R') (h : TupAt K H R a xs) : TupAt K H' R' a xs :=
  ⟨g.keep _ _ h.1 h.2, fun r => h.2 (g.reg _ _ h.1 r)⟩
theorem LstAt.grow {K : PySem.W.Frag} {H H' : Hp} {R R' : Addr → Prop} {a : Addr} {xs : List V} (g : Grow H H' R R') (h : LstAt K H R a xs) : LstAt K H' R' a xs := by
  rcases h with ⟨h | ⟨o, h⟩, n⟩ | h
  · exact .inl ⟨.inl (g.keep _ _ h n), fun r => n (g.reg _ _ h r)⟩
  · exact .inl ⟨.inr ⟨o, g.keep _ _ h n⟩, fun r => n (g.reg _ _ h r)⟩
  · exact .inr h
theorem none_rd {a : Addr} {u : HO} (h : Rd (fun _ => none) a u) : False := by
  rcases h with h | ⟨o, h⟩ <;> cases h
theorem TupAt.sq {K : PySem.W.Frag} {H : Hp} {R : Addr → Prop} {a : Addr} {xs : List V} (h : TupAt K H R a xs) : SqT K H a xs := .inl (.inl h.1)
theorem LstAt.sq {K : PySem.W.Frag} {H : Hp} {R : Addr → Prop} {a : Addr} {xs : List V} (h : LstAt K H R a xs) : SqL K H a xs := by
  rcases h with ⟨h, _⟩ | h | h
  · exact .inl h
  · exact (none_rd h).elim
  · exact .inr h

mutual
theorem Rep.grow {K : PySem.W.Frag} {H H' : Hp} {R R' : Addr → Prop} (g : Grow H H' R R') : ∀ {d : D} {v : V}, Rep K H R d v → Rep K H' R' d v
  | .non, _, h => h
  | .bl _, _, h => h
  | .int _, _, h => h
  | .str _, _, h => h
  | .ty _, _, h => h
  | .ref _, _, h => h
  | .scr _, _, ⟨a, e, h⟩ => ⟨a, e, h.grow g⟩
  | .tup _, _, ⟨a, xs, e, h, r⟩ => ⟨a, xs, e, h.grow g, RepL.grow g r⟩
  | .lst _, _, ⟨a, xs, e, ⟨h, n⟩, r⟩ => ⟨a, xs, e, ⟨g.keep _ _ h n, fun z => n (g.reg _ _ h z)⟩, RepL.grow g r⟩
  | .dct _, _, ⟨a, xs, e, ⟨h, n⟩, r⟩ => ⟨a, xs, e, ⟨g.keep _ _ h n, fun z => n (g.reg _ _ h z)⟩, RepK.grow g r⟩
  | .ins _ _, _, ⟨a, dx, xs, e, ⟨h, n⟩, r⟩ => ⟨a, dx, xs, e, ⟨g.keep _ _ h n, fun z => n (g.reg _ _ h z)⟩, RepF.grow g r⟩
  | .exn _ _ _, _, ⟨e, xs, ⟨h, n⟩, r⟩ => ⟨e, xs, ⟨g.keep _ _ h n, fun z => n (g.reg _ _ h z)⟩, RepF.grow g r⟩
theorem RepL.grow {K : PySem.W.Frag} {H H' : Hp} {R R' : Addr → Prop} (g : Grow H H' R R') : ∀ {ds : List D} {vs : List V}, RepL K H R ds vs → RepL K H' R' ds vs
  | [], _, h => h
  | _ :: _, _, ⟨y, ys, e, h, r⟩ => ⟨y, ys, e, Rep.grow g h, RepL.grow g r⟩
theorem RepK.grow {K : PySem.W.Frag} {H H' : Hp} {R R' : Addr → Prop} (g : Grow H H' R R') : ∀ {ds : List (Key × D)} {vs : List (Key × V)}, RepK K H R ds vs → RepK K H' R' ds vs
  | [], _, h => h
  | (_, _) :: _, _, ⟨y, ys, e, h, r⟩ => ⟨y, ys, e, Rep.grow g h, RepK.grow g r⟩
theorem RepF.grow {K : PySem.W.Frag} {H H' : Hp} {R R' : Addr → Prop} (g : Grow H H' R R') : ∀ {ds : List (Str × D)} {vs : List (Str × V)}, RepF K H R ds vs → RepF K H' R' ds vs
  | [], _, h => h
  | (_, _) :: _, _, ⟨y, ys, e, h, r⟩ => ⟨y, ys, e, Rep.grow g h, RepF.grow g r⟩
end

theorem RepL.length {K : PySem.W.Frag} {H : Hp} {R : Addr → Prop} : ∀ {ds : List D} {vs : List V}, RepL K H R ds vs → vs.length = ds.length
  | [], _, h => by
    cases h
    rfl
  | _ :: ds, _, ⟨y, ys, e, _, r⟩ => by
    subst e
    show ys.length + 1 = ds.length + 1
    rw [RepL.length r]
theorem RepL.get {K : PySem.W.Frag} {H : Hp} {R : Addr → Prop} : ∀ {ds : List D} {vs : List V} {i : Nat} {d : D}, RepL K H R ds vs → ds[i]? = some d → ∃ v, vs[i]? = some v ∧ Rep K H R d v
  | [], _, _, _, _, h => by simp at h
  | _ :: _, _, 0, _, ⟨y, ys, e, h, r⟩, q => by
    subst e
    simp at q
    subst q
    exact ⟨y, rfl, h⟩
  | _ :: _, _, i + 1, _, ⟨y, ys, e, h, r⟩, q => by
    subst e
    exact RepL.get (i := i) r (by simpa using q)
theorem RepL.app {K : PySem.W.Frag} {H : Hp} {R : Addr → Prop} : ∀ {ds es : List D} {vs ws : List V}, RepL K H R ds vs → RepL K H R es ws → RepL K H R (ds ++ es) (vs ++ ws)
  | [], _, _, _, h, q => by
    cases h
    exact q
  | _ :: _, _, _, _, ⟨y, ys, e, h, r⟩, q => by
    subst e
    exact ⟨y, _, rfl, h, RepL.app r q⟩
theorem RepL.one {K : PySem.W.Frag} {H : Hp} {R : Addr → Prop} {d : D} {v : V} (h : Rep K H R d v) : RepL K H R [d] [v] := ⟨v, [], rfl, h, rfl⟩
theorem RepL.take {K : PySem.W.Frag} {H : Hp} {R : Addr → Prop} : ∀ {ds : List D} {vs : List V} (n : Nat), RepL K H R ds vs → RepL K H R (ds.take n) (vs.take n)
  | _, _, 0, _ => rfl
  | [], _, _ + 1, h => by
    cases h
    rfl
  | _ :: _, _, n + 1, ⟨y, ys, e, h, r⟩ => by
    subst e
    exact ⟨y, _, rfl, h, RepL.take n r⟩
theorem RepL.drop {K : PySem.W.Frag} {H : Hp} {R : Addr → Prop} : ∀ {ds : List D} {vs : List V} (n : Nat), RepL K H R ds vs → RepL K H R (ds.drop n) (vs.drop n)
  | _, _, 0, h => h
  | [], _, _ + 1, h => by
    cases h
    rfl
  | _ :: _, _, n + 1, ⟨y, ys, e, h, r⟩ => by
    subst e
    exact RepL.drop n r
theorem RepL.ints {K : PySem.W.Frag} {H : Hp} {R : Addr → Prop} : ∀ {ns : List Int}, RepL K H R (ns.map D.int) (ns.map V.int)
  | [] => rfl
  | n :: ns => ⟨.int n, ns.map V.int, rfl, rfl, RepL.ints⟩
theorem RepL.intsV {K : PySem.W.Frag} {H : Hp} {R : Addr → Prop} : ∀ {ns : List Int} {vs : List V}, RepL K H R (ns.map D.int) vs → vs = ns.map V.int
  | [], _, h => h
  | n :: ns, _, ⟨y, ys, e, h, r⟩ => by
    subst e
    cases h
    rw [RepL.intsV r]
    rfl
theorem RepL.strsV {K : PySem.W.Frag} {H : Hp} {R : Addr → Prop} : ∀ {ns : List Str} {vs : List V}, RepL K H R (ns.map D.str) vs → vs = ns.map V.str
  | [], _, h => h
  | n :: ns, _, ⟨y, ys, e, h, r⟩ => by
    subst e
    cases h
    rw [RepL.strsV r]
    rfl
/-! ### what a slot may hold: data, a handle of the caller's store, of the own store -/
inductive S where
  | d (x : D) | g (k : Nat) | l (k : Nat)
inductive M where
  | pl (ds : List D) | hl (xs : List S) | dc (kvs : List (Key × D)) | ob (C : Addr) (fs : List (Str × D)) | dh (kvs : List (Key × S)) | dt (kvs : List (List Key × Int)) | og (C : Addr) (fs : List (Str × S)) | dq (kvs : List (List Key × S)) | dz (od : Obj) (kvs : List (List Key × Int))
def M.dat : M → Option D
  | .pl ds => some (.lst ds)
  | .hl _ => none
  | .dc kvs => some (.dct kvs)
  | .ob C fs => some (.ins C fs)
  | .dh _ => none
  | .dt _ => none
  | .og _ _ => none
  | .dq _ => none
  | .dz _ _ => none
structure W where
  R : Addr → Prop
  gs : List Addr
  H0 : Hp
def Rg (w : W) (ls : List Addr) : Addr → Prop := fun a => w.R a ∨ a ∈ ls

section
variable {K : PySem.W.Frag}
def RS (K : PySem.W.Frag) (H : Hp) (R : Addr → Prop) (gs ls : List Addr) : S → V → Prop
  | .d x, v => Rep K H R x v
  | .g k, v => ∃ a, gs[k]? = some a ∧ v = .ref a
  | .l k, v => ∃ a, ls[k]? = some a ∧ v = .ref a
def RSK (K : PySem.W.Frag) (H : Hp) (R : Addr → Prop) (gs ls : List Addr) : Key × S → Key × V → Prop := fun p q => p.1 = q.1 ∧ RS K H R gs ls p.2 q.2
def RSN {α : Type} (K : PySem.W.Frag) (H : Hp) (R : Addr → Prop) (gs ls : List Addr) : α × S → α × V → Prop := fun p q => p.1 = q.1 ∧ RS K H R gs ls p.2 q.2
def MOk (K : PySem.W.Frag) (H : Hp) (R : Addr → Prop) (gs ls : List Addr) (a : Addr) : M → Prop
  | .pl ds => ∃ vs, H a = some (.lst vs) ∧ RepL K H R ds vs
  | .hl xs => ∃ vs, H a = some (.lst vs) ∧ Paired (RS K H R gs ls) xs vs
  | .dc kvs => ∃ vs, H a = some (.dK vs) ∧ RepK K H R kvs vs
  | .ob C fs => ∃ dx vs, H a = some (.ins C dx vs) ∧ RepF K H R fs vs
  | .dh kvs => ∃ vs, H a = some (.dK vs) ∧ Paired (RSK K H R gs ls) kvs vs
  | .dt kvs => H a = some (.dT (kvs.map fun p => (p.1, V.int p.2)))
  | .dz od kvs => H a = some (.frz od (.dT (kvs.map fun p => (p.1, V.int p.2))))
  | .og C fs => ∃ dx vs, H a = some (.ins C dx vs) ∧ Paired (RSN K H R gs ls) fs vs
  | .dq kvs => ∃ vs, H a = some (.dT vs) ∧ Paired (RSN K H R gs ls) kvs vs

def NoT (o : HO) : Prop := ∀ xs, o ≠ .tup xs
abbrev Sl := List (Option S)
def SlOk (K : PySem.W.Frag) (H : Hp) (R : Addr → Prop) (gs ls : List Addr) (σ : L2.St) (Δ : Sl) : Prop :=
  σ.length = Δ.length ∧ ∀ (i : Nat) (s : S), Δ[i]? = some (some s) → ∃ v, σ[i]? = some (some v) ∧ RS K H R gs ls s v
structure Ctx (K : PySem.W.Frag) (w : W) (ls : List Addr) (σ : L2.St) (H : Hp) (Δ : Sl) (G L : List M) : Prop where
  reg : ∀ a ∈ w.gs, w.R a
  rin : ∀ a, w.R a → ∃ o, H a = some o ∧ NoT o
  nd : (w.gs ++ ls).Nodup
  fr : ∀ a ∈ ls, w.H0 a = none
  h0 : ∀ a o, w.H0 a = some o → a ∉ w.gs → H a = some o
  sl : SlOk K H (Rg w ls) w.gs ls σ Δ
  gl : Paired (MOk K H (Rg w ls) w.gs []) w.gs G
  lo : Paired (MOk K H (Rg w ls) w.gs ls) ls L
  ld : ∀ a ∈ ls, ¬ w.R a
def Ext (w : W) (ls : List Addr) (H H' : Hp) : Prop := ∀ a o, H a = some o → a ∉ w.gs → a ∉ ls → H' a = some o
theorem Ext.refl {w : W} {ls : List Addr} {H : Hp} : Ext w ls H H := fun _ _ h _ _ => h
theorem Ext.trans {w : W} {ls : List Addr} {H H1 H2 : Hp} (a : Ext w ls H H1) (b : Ext w ls H1 H2) : Ext w ls H H2 := fun c o h n m => b c o (a c o h n m) n m
theorem Ext.grow {w : W} {ls : List Addr} {H H' : Hp} (e : Ext w ls H H') (hr : ∀ a ∈ w.gs, w.R a) : Grow H H' (Rg w ls) (Rg w ls) :=
  ⟨fun a o h n => e a o h (fun z => n (.inl (hr a z))) fun z => n (.inr z), fun _ _ _ h => h⟩
def Pre (ls ls' : List Addr) : Prop := ∀ (k : Nat) a, ls[k]? = some a → ls'[k]? = some a
theorem Pre.refl (ls : List Addr) : Pre ls ls := fun _ _ h => h
theorem Pre.nil (ls : List Addr) : Pre [] ls := fun _ _ h => by simp at h
theorem Pre.app (ls qs : List Addr) : Pre ls (ls ++ qs) := fun k a h => by
  rw [List.getElem?_append_left (List.getElem?_eq_some_iff.mp h).1]
  exact h
theorem RS.grow {H H' : Hp} {R R' : Addr → Prop} {gs gs' ls ls' : List Addr} (g : Grow H H' R R') (pg : Pre gs gs') (pl : Pre ls ls') : ∀ {s : S} {v : V}, RS K H R gs ls s v → RS K H' R' gs' ls' s v
  | .d _, _, h => Rep.grow g h
  | .g _, _, ⟨a, h, e⟩ => ⟨a, pg _ _ h, e⟩
  | .l _, _, ⟨a, h, e⟩ => ⟨a, pl _ _ h, e⟩
theorem paired_map {α β : Type} {F F' : α → β → Prop} : ∀ {as : List α} {bs : List β}, Paired F as bs → (∀ a b, a ∈ as → F a b → F' a b) → Paired F' as bs
  | _, _, .nil, _ => .nil
  | _, _, .cons h t, f => .cons (f _ _ List.mem_cons_self h) (paired_map t fun a b m q => f a b (List.mem_cons_of_mem _ m) q)
theorem MOk.grow {H H' : Hp} {R R' : Addr → Prop} {gs gs' ls ls' : List Addr} (g : Grow H H' R R') (pg : Pre gs gs') (pl : Pre ls ls') {a : Addr} (k : ∀ o, H a = some o → H' a = some o) : ∀ {m : M}, MOk K H R gs ls a m → MOk K H' R' gs' ls' a m
  | .pl _, ⟨vs, h, r⟩ => ⟨vs, k _ h, RepL.grow g r⟩
  | .hl _, ⟨vs, h, r⟩ => ⟨vs, k _ h, paired_map r fun _ _ _ q => RS.grow g pg pl q⟩
  | .dc _, ⟨vs, h, r⟩ => ⟨vs, k _ h, RepK.grow g r⟩
  | .ob _ _, ⟨dx, vs, h, r⟩ => ⟨dx, vs, k _ h, RepF.grow g r⟩
  | .dh _, ⟨vs, h, r⟩ => ⟨vs, k _ h, paired_map r fun _ _ _ q => ⟨q.1, RS.grow g pg pl q.2⟩⟩
  | .dt _, h => k _ h
  | .dz _ _, h => k _ h
  | .og _ _, ⟨dx, vs, h, r⟩ => ⟨dx, vs, k _ h, paired_map r fun _ _ _ q => ⟨q.1, RS.grow g pg pl q.2⟩⟩
  | .dq _, ⟨vs, h, r⟩ => ⟨vs, k _ h, paired_map r fun _ _ _ q => ⟨q.1, RS.grow g pg pl q.2⟩⟩
theorem SlOk.grow {H H' : Hp} {R R' : Addr → Prop} {gs gs' ls ls' : List Addr} (g : Grow H H' R R') (pg : Pre gs gs') (pl : Pre ls ls') {σ : L2.St} {Δ : Sl} (h : SlOk K H R gs ls σ Δ) : SlOk K H' R' gs' ls' σ Δ :=
  ⟨h.1, fun i s e => let ⟨v, a, b⟩ := h.2 i s e; ⟨v, a, RS.grow g pg pl b⟩⟩
theorem MOk.some {H : Hp} {R : Addr → Prop} {gs ls : List Addr} {a : Addr} : ∀ {m : M}, MOk K H R gs ls a m → ∃ o, H a = some o ∧ NoT o
  | .pl _, ⟨_, h, _⟩ => ⟨_, h, fun _ z => nomatch z⟩
  | .hl _, ⟨_, h, _⟩ => ⟨_, h, fun _ z => nomatch z⟩
  | .dc _, ⟨_, h, _⟩ => ⟨_, h, fun _ z => nomatch z⟩
  | .ob _ _, ⟨_, _, h, _⟩ => ⟨_, h, fun _ z => nomatch z⟩
  | .dh _, ⟨_, h, _⟩ => ⟨_, h, fun _ z => nomatch z⟩
  | .dt _, h => ⟨_, h, fun _ z => nomatch z⟩
  | .dz _ _, h => ⟨_, h, fun _ z => nomatch z⟩
  | .og _ _, ⟨_, _, h, _⟩ => ⟨_, h, fun _ z => nomatch z⟩
  | .dq _, ⟨_, h, _⟩ => ⟨_, h, fun _ z => nomatch z⟩
theorem paired_l {α β : Type} {F : α → β → Prop} : ∀ {as : List α} {bs : List β} {a : α}, Paired F as bs → a ∈ as → ∃ b, F a b
  | _, _, _, .cons h t, m => by
    rcases List.mem_cons.mp m with rfl | m
    · exact ⟨_, h⟩
    · exact paired_l t m
theorem paired_get {α β : Type} {F : α → β → Prop} : ∀ {as : List α} {bs : List β} {i : Nat} {b : β}, Paired F as bs → bs[i]? = some b → ∃ a, as[i]? = some a ∧ F a b
  | _, _, 0, _, .cons h t, e => by
    simp at e
    subst e
    exact ⟨_, rfl, h⟩
  | _, _, i + 1, _, .cons h t, e => by
    obtain ⟨a, q, r⟩ := paired_get (i := i) t (by simpa using e)
    exact ⟨a, by simpa using q, r⟩
theorem paired_app {α β : Type} {F : α → β → Prop} : ∀ {as cs : List α} {bs ds : List β}, Paired F as bs → Paired F cs ds → Paired F (as ++ cs) (bs ++ ds)
  | _, _, _, _, .nil, q => q
  | _, _, _, _, .cons h t, q => .cons h (paired_app t q)
theorem paired_len {α β : Type} {F : α → β → Prop} : ∀ {as : List α} {bs : List β}, Paired F as bs → as.length = bs.length
  | _, _, .nil => rfl
  | _, _, .cons _ t => congrArg (· + 1) (paired_len t)
theorem paired_set {α β : Type} {F F' : α → β → Prop} : ∀ {as : List α} {bs : List β} {i : Nat} {a : α} {b : β}, Paired F as bs → as.Nodup → as[i]? = some a → F' a b → (∀ c e, c ∈ as → c ≠ a → F c e → F' c e) → Paired F' as (bs.set i b)
  | _, _, _, _, _, .nil, _, h, _, _ => by simp at h
  | _, _, 0, _, _, .cons (a := x) h t, nd, e, q, k => by
    simp at e
    subst e
    have n := (List.nodup_cons.mp nd).1
    exact .cons q (paired_map t fun c e m f => k c e (List.mem_cons_of_mem _ m) (fun z => n (z ▸ m)) f)
  | _, _, i + 1, _, _, .cons (a := x) h t, nd, e, q, k => by
    have n := (List.nodup_cons.mp nd).1
    have e' := (by simpa using e : _[i]? = some _)
    have m := List.mem_of_getElem? e'
    exact .cons (k _ _ List.mem_cons_self (fun z => n (z ▸ m)) h) (paired_set t (List.nodup_cons.mp nd).2 e' q fun c e m f => k c e (List.mem_cons_of_mem _ m) f)

section
variable {w : W} {ls : List Addr} {σ : L2.St} {H : Hp} {Δ : Sl} {G L : List M}
theorem Ctx.lin (c : Ctx K w ls σ H Δ G L) {a : Addr} (h : a ∈ ls) : ∃ o, H a = some o ∧ NoT o := by
  obtain ⟨m, q⟩ := paired_l c.lo h
  exact q.some
theorem Ctx.gin (c : Ctx K w ls σ H Δ G L) {a : Addr} (h : a ∈ w.gs) : ∃ o, H a = some o ∧ NoT o := c.rin a (c.reg a h)
theorem Ctx.free (c : Ctx K w ls σ H Δ G L) {p : Addr} (h : H p = none) : ¬ Rg w ls p := by
  rintro (r | r)
  · obtain ⟨o, e, _⟩ := c.rin p r
    rw [h] at e
    cases e
  · obtain ⟨o, e, _⟩ := c.lin r
    rw [h] at e
    cases e
theorem Ctx.free0 (c : Ctx K w ls σ H Δ G L) {p : Addr} (h : H p = none) : w.H0 p = none := by
  cases e : w.H0 p with
  | none => rfl
  | some o =>
    have n : p ∉ w.gs := fun z => c.free h (.inl (c.reg p z))
    rw [c.h0 p o e n] at h
    cases h
theorem grow_new {p : Addr} {o : HO} {R : Addr → Prop} (h : H p = none) : Grow H (upd H p o) R R :=
  ⟨fun a u e _ => by
    rw [upd_ne (ne_of_none e h)]
    exact e, fun _ _ _ r => r⟩
theorem keep_new {p : Addr} {o : HO} (h : H p = none) : ∀ a u, H a = some u → upd H p o a = some u := fun a u e => by
  rw [upd_ne (ne_of_none e h)]
  exact e
theorem Ctx.new (c : Ctx K w ls σ H Δ G L) {p : Addr} {o : HO} (h : H p = none) : Ctx K w ls σ (upd H p o) Δ G L := by
  have g : Grow H (upd H p o) (Rg w ls) (Rg w ls) := grow_new h
  have k := keep_new (o := o) h
  exact ⟨c.reg, fun a r => let ⟨u, e, n⟩ := c.rin a r; ⟨u, k a u e, n⟩, c.nd, c.fr, fun a u e n => k a u (c.h0 a u e n), c.sl.grow g (Pre.refl _) (Pre.refl _),
    paired_map c.gl fun a m _ q => q.grow g (Pre.refl _) (Pre.refl _) (k a), paired_map c.lo fun a m _ q => q.grow g (Pre.refl _) (Pre.refl _) (k a), c.ld⟩
theorem Ext.new {p : Addr} {o : HO} (h : H p = none) : Ext w ls H (upd H p o) := fun a u e _ _ => by
  rw [upd_ne (ne_of_none e h)]
  exact e
theorem grow_reg {p : Addr} (h : H p = none) : Grow H H (Rg w ls) (Rg w (ls ++ [p])) :=
  ⟨fun _ _ e _ => e, fun a o e r => by
    rcases r with r | r
    · exact .inl r
    · rcases List.mem_append.mp r with r | r
      · exact .inr r
      · rw [List.mem_singleton] at r
        subst r
        rw [h] at e
        cases e⟩
theorem grow_sub {ls' : List Addr} (h : ∀ a ∈ ls', a ∈ ls) : Grow H H (Rg w ls) (Rg w ls') :=
  ⟨fun _ _ e _ => e, fun a o e r => by
    rcases r with r | r
    · exact .inl r
    · exact .inr (h a r)⟩

/-! ### an object just made: its own, or data -/
structure NewAt (K : PySem.W.Frag) (w : W) (ls : List Addr) (σ : L2.St) (H : Hp) (Δ : Sl) (G L : List M) (p : Addr) (m : M) : Prop where
  own : Ctx K w (ls ++ [p]) σ H Δ G (L ++ [m])
  c : Ctx K w ls σ H Δ G L
  dat : ∀ x, m.dat = some x → Rep K H (Rg w ls) x (.ref p)
theorem newAt_of (c : Ctx K w ls σ H Δ G L) {p : Addr} {o : HO} {m : M} (h : H p = none) (hm : MOk K (upd H p o) (Rg w (ls ++ [p])) w.gs ls p m) (hd : ∀ x, m.dat = some x → Rep K (upd H p o) (Rg w ls) x (.ref p)) :
    NewAt K w ls σ (upd H p o) Δ G L p m := by
  have g : Grow H (upd H p o) (Rg w ls) (Rg w (ls ++ [p])) := (grow_reg h).trans (grow_new h)
  have k := keep_new (o := o) h
  have nR := c.free h
  refine ⟨⟨c.reg, fun a r => let ⟨u, e, n⟩ := c.rin a r; ⟨u, k a u e, n⟩, ?_, ?_, fun a u e n => k a u (c.h0 a u e n), c.sl.grow g (Pre.refl _) (Pre.app _ _),
    paired_map c.gl fun a m _ q => q.grow g (Pre.refl _) (Pre.nil _) (k a), paired_app (paired_map c.lo fun a m _ q => q.grow g (Pre.refl _) (Pre.app _ _) (k a)) (.cons ?_ .nil), fun a ha r => (List.mem_append.mp ha).elim (fun z => c.ld a z r) fun z => nR (.inl ((List.mem_singleton.mp z) ▸ r))⟩, c.new h, hd⟩
  · rw [← List.append_assoc]
    refine List.nodup_append.mpr ⟨c.nd, by simp, fun a ha b hb => ?_⟩
    rw [List.mem_singleton] at hb
    subst hb
    rintro rfl
    rcases List.mem_append.mp ha with z | z
    · exact nR (.inl (c.reg _ z))
    · exact nR (.inr z)
  · intro a ha
    rcases List.mem_append.mp ha with z | z
    · exact c.fr a z
    · rw [List.mem_singleton] at z
      subst z
      exact c.free0 h
  · exact hm.grow (Grow.refl _ _) (Pre.refl _) (Pre.app _ _) fun _ z => z
theorem newAt_pl (c : Ctx K w ls σ H Δ G L) {p : Addr} {ds : List D} {vs : List V} (h : H p = none) (r : RepL K H (Rg w ls) ds vs) : NewAt K w ls σ (upd H p (.lst vs)) Δ G L p (.pl ds) :=
  newAt_of c h ⟨vs, upd_same, r.grow ((grow_reg h).trans (grow_new h))⟩ fun x e => by
    cases e
    exact ⟨p, vs, rfl, ⟨upd_same, c.free h⟩, r.grow (grow_new h)⟩
theorem newAt_dc (c : Ctx K w ls σ H Δ G L) {p : Addr} {ds : List (Key × D)} {vs : List (Key × V)} (h : H p = none) (r : RepK K H (Rg w ls) ds vs) : NewAt K w ls σ (upd H p (.dK vs)) Δ G L p (.dc ds) :=
  newAt_of c h ⟨vs, upd_same, r.grow ((grow_reg h).trans (grow_new h))⟩ fun x e => by
    cases e
    exact ⟨p, vs, rfl, ⟨upd_same, c.free h⟩, r.grow (grow_new h)⟩
theorem rep_tup (c : Ctx K w ls σ H Δ G L) {p : Addr} {ds : List D} {vs : List V} (h : H p = none) (r : RepL K H (Rg w ls) ds vs) : Rep K (upd H p (.tup vs)) (Rg w ls) (.tup ds) (.ref p) :=
  ⟨p, vs, rfl, ⟨upd_same, c.free h⟩, r.grow (grow_new h)⟩
end
end
end DL

namespace DL
open PySem PySem.Spec PyProof.Rows L2
section
variable {K : PySem.W.Frag}
section
variable {w : W} {ls : List Addr} {σ : L2.St} {H : Hp} {Δ : Sl} {G L : List M}
theorem grow_upd {R : Addr → Prop} {a : Addr} {o : HO} (h : R a) : Grow H (upd H a o) R R :=
  ⟨fun b u e n => by
    rw [upd_ne (show b ≠ a from fun z => n (by rw [z]; exact h))]
    exact e, fun _ _ _ r => r⟩
theorem upd_other {a : Addr} {o : HO} {b : Addr} (n : b ≠ a) : ∀ u, H b = some u → upd H a o b = some u := fun u e => by
  rw [upd_ne n]
  exact e
theorem getElem_mem' {α : Type} {l : List α} {i : Nat} {a : α} (h : l[i]? = some a) : a ∈ l := List.mem_of_getElem? h
theorem Ctx.setL (c : Ctx K w ls σ H Δ G L) {k : Nat} {a : Addr} {o : HO} {m : M} (h : ls[k]? = some a) (hm : MOk K (upd H a o) (Rg w ls) w.gs ls a m) : Ctx K w ls σ (upd H a o) Δ G (L.set k m) := by
  have ha : a ∈ ls := getElem_mem' h
  have g : Grow H (upd H a o) (Rg w ls) (Rg w ls) := grow_upd (.inr ha)
  have ng : ∀ b ∈ w.gs, b ≠ a := fun b hb z => (List.nodup_append.mp c.nd).2.2 b hb a ha z
  refine ⟨c.reg, fun b r => ?_, c.nd, c.fr, fun b u e n => ?_, c.sl.grow g (Pre.refl _) (Pre.refl _), paired_map c.gl fun b m hb q => q.grow g (Pre.refl _) (Pre.refl _) (upd_other (ng b hb)), ?_, c.ld⟩
  · by_cases z : b = a
    · subst z
      exact hm.some
    · obtain ⟨u, e, n⟩ := c.rin b r
      exact ⟨u, by rw [upd_ne z]; exact e, n⟩
  · have z : b ≠ a := fun z => by
      rw [z, c.fr a ha] at e
      cases e
    rw [upd_ne z]
    exact c.h0 b u e n
  · exact paired_set c.lo (List.nodup_append.mp c.nd).2.1 h hm fun b e hb n q => q.grow g (Pre.refl _) (Pre.refl _) (upd_other n)
theorem Ctx.setG (c : Ctx K w ls σ H Δ G L) {k : Nat} {a : Addr} {o : HO} {m : M} (h : w.gs[k]? = some a) (hm : MOk K (upd H a o) (Rg w ls) w.gs [] a m) : Ctx K w ls σ (upd H a o) Δ (G.set k m) L := by
  have ha : a ∈ w.gs := getElem_mem' h
  have g : Grow H (upd H a o) (Rg w ls) (Rg w ls) := grow_upd (.inl (c.reg a ha))
  have ng : ∀ b ∈ ls, b ≠ a := fun b hb z => (List.nodup_append.mp c.nd).2.2 a ha b hb z.symm
  refine ⟨c.reg, fun b r => ?_, c.nd, c.fr, fun b u e n => ?_, c.sl.grow g (Pre.refl _) (Pre.refl _), ?_, paired_map c.lo fun b m hb q => q.grow g (Pre.refl _) (Pre.refl _) (upd_other (ng b hb)), c.ld⟩
  · by_cases z : b = a
    · subst z
      exact hm.some
    · obtain ⟨u, e, n⟩ := c.rin b r
      exact ⟨u, by rw [upd_ne z]; exact e, n⟩
  · rw [upd_ne (show b ≠ a from fun z => n (by rw [z]; exact ha))]
    exact c.h0 b u e n
  · exact paired_set c.gl (List.nodup_append.mp c.nd).1 h hm fun b e hb n q => q.grow g (Pre.refl _) (Pre.refl _) (upd_other n)
theorem Ext.setL {a : Addr} {o : HO} (h : a ∈ ls) : Ext w ls H (upd H a o) := fun b u e _ n => by
  rw [upd_ne (show b ≠ a from fun z => n (by rw [z]; exact h))]
  exact e
theorem Ext.setG {a : Addr} {o : HO} (h : a ∈ w.gs) : Ext w ls H (upd H a o) := fun b u e n _ => by
  rw [upd_ne (show b ≠ a from fun z => n (by rw [z]; exact h))]
  exact e
end

/-! ### evaluation at the level of data -/
abbrev Po := S → List M → List M → Prop
abbrev PoB := Bool → List M → List M → Prop
abbrev PoN := M → List M → List M → Prop
abbrev PoA := List S → List M → List M → Prop
def Ret (K : PySem.W.Frag) (w : W) (ls : List Addr) (σ : L2.St) (Δ : Sl) (H : Hp) (Qd : Po) (Q : VK) : Prop :=
  ∀ v s H2 G2 L2, Ctx K w ls σ H2 Δ G2 L2 → Ext w ls H H2 → RS K H2 (Rg w ls) w.gs ls s v → Qd s G2 L2 → Q v H2
def RetB (K : PySem.W.Frag) (w : W) (ls : List Addr) (σ : L2.St) (Δ : Sl) (H : Hp) (Qd : PoB) (Q : Bool → Hp → Prop) : Prop :=
  ∀ b H2 G2 L2, Ctx K w ls σ H2 Δ G2 L2 → Ext w ls H H2 → Qd b G2 L2 → Q b H2
def RetN (K : PySem.W.Frag) (w : W) (ls : List Addr) (σ : L2.St) (Δ : Sl) (H : Hp) (Qd : PoN) (Q : VK) : Prop :=
  ∀ p m H2 G2 L2, H p = none → NewAt K w ls σ H2 Δ G2 L2 p m → Ext w ls H H2 → Qd m G2 L2 → Q (.ref p) H2
def RetA (K : PySem.W.Frag) (w : W) (ls : List Addr) (σ : L2.St) (Δ : Sl) (H : Hp) (Qd : PoA) (Q : List V → Hp → Prop) : Prop :=
  ∀ vs ss H2 G2 L2, Ctx K w ls σ H2 Δ G2 L2 → Ext w ls H H2 → Paired (RS K H2 (Rg w ls) w.gs ls) ss vs → Qd ss G2 L2 → Q vs H2
def EvC (K : PySem.W.Frag) (te : TE) (Δ : Sl) (G L : List M) (Qd : Po) : Prop := ∀ w ls σ H, Ctx K w ls σ H Δ G L → ∀ Q : VK, Ret K w ls σ Δ H Qd Q → te σ H Q
def EvB (K : PySem.W.Frag) (te : TT) (Δ : Sl) (G L : List M) (Qd : PoB) : Prop := ∀ w ls σ H, Ctx K w ls σ H Δ G L → ∀ Q : Bool → Hp → Prop, RetB K w ls σ Δ H Qd Q → te σ H Q
def EvN (K : PySem.W.Frag) (te : TE) (Δ : Sl) (G L : List M) (Qd : PoN) : Prop := ∀ w ls σ H, Ctx K w ls σ H Δ G L → ∀ Q : VK, RetN K w ls σ Δ H Qd Q → te σ H Q
def EvA (K : PySem.W.Frag) (te : TA) (Δ : Sl) (G L : List M) (Qd : PoA) : Prop := ∀ w ls σ H, Ctx K w ls σ H Δ G L → ∀ Q : List V → Hp → Prop, RetA K w ls σ Δ H Qd Q → te σ H Q

section
variable {w : W} {ls : List Addr} {σ : L2.St} {H H1 : Hp} {Δ : Sl} {G L G1 L1 : List M} {Qd : Po} {Q : VK}
theorem Ret.go (r : Ret K w ls σ Δ H Qd Q) {v : V} {s : S} (c : Ctx K w ls σ H1 Δ G1 L1) (e : Ext w ls H H1) (q : RS K H1 (Rg w ls) w.gs ls s v) (k : Qd s G1 L1) : Q v H1 := r v s H1 G1 L1 c e q k
theorem Ret.next {Qd' : Po} (r : Ret K w ls σ Δ H Qd Q) (e : Ext w ls H H1) (k : ∀ s G L, Qd' s G L → Qd s G L) : Ret K w ls σ Δ H1 Qd' Q := fun v s H2 G2 L2 c e2 q h => r v s H2 G2 L2 c (e.trans e2) q (k _ _ _ h)
theorem Ret.ext (r : Ret K w ls σ Δ H Qd Q) (e : Ext w ls H H1) : Ret K w ls σ Δ H1 Qd Q := fun v s H2 G2 L2 c e2 q h => r v s H2 G2 L2 c (e.trans e2) q h
theorem none_back (c : Ctx K w ls σ H1 Δ G1 L1) (e : Ext w ls H H1) {p : Addr} (h : H1 p = none) : H p = none := by
  cases q : H p with
  | none => rfl
  | some o =>
    have n := c.free h
    rw [e p o q (fun z => n (.inl (c.reg p z))) (fun z => n (.inr z))] at h
    cases h
theorem RetN.ext {Qd : PoN} (r : RetN K w ls σ Δ H Qd Q) (c1 : Ctx K w ls σ H1 Δ G1 L1) (e : Ext w ls H H1) : RetN K w ls σ Δ H1 Qd Q := fun v s H2 G2 L2 hp c e2 h => r v s H2 G2 L2 (none_back c1 e hp) c (e.trans e2) h
theorem RS.on {s : S} {v : V} (c : Ctx K w ls σ H Δ G L) (e : Ext w ls H H1) (r : RS K H (Rg w ls) w.gs ls s v) : RS K H1 (Rg w ls) w.gs ls s v := r.grow (e.grow c.reg) (Pre.refl _) (Pre.refl _)
theorem RSs.on {s : List S} {v : List V} (c : Ctx K w ls σ H Δ G L) (e : Ext w ls H H1) (r : Paired (RS K H (Rg w ls) w.gs ls) s v) : Paired (RS K H1 (Rg w ls) w.gs ls) s v := paired_map r fun _ _ _ q => RS.on c e q
end

section
variable {Δ : Sl} {G L : List M} {Qd Qd' : Po} {te ta tb tc : TE} {tt tu : TT}
theorem EvC.imp (h : EvC K te Δ G L Qd) (k : ∀ s G L, Qd s G L → Qd' s G L) : EvC K te Δ G L Qd' := fun w ls σ H c Q r => h w ls σ H c Q (r.next Ext.refl k)
theorem evc_var {i : Nat} {s : S} (h : Δ[i]? = some (some s)) (k : Qd s G L) : EvC K (tVar i) Δ G L Qd := fun w ls σ H c Q r => by
  obtain ⟨v, e, q⟩ := c.sl.2 i s h
  exact ⟨v, e, r.go c Ext.refl q k⟩
theorem evc_int {i : Int} (k : Qd (.d (.int i)) G L) : EvC K (tC (.int i)) Δ G L Qd := fun w ls σ H c Q r => r.go c Ext.refl (s := .d (.int i)) rfl k
theorem evc_str {i : Str} (k : Qd (.d (.str i)) G L) : EvC K (tC (.str i)) Δ G L Qd := fun w ls σ H c Q r => r.go c Ext.refl (s := .d (.str i)) rfl k
theorem evc_bl {i : Bool} (k : Qd (.d (.bl i)) G L) : EvC K (tC (.bl i)) Δ G L Qd := fun w ls σ H c Q r => r.go c Ext.refl (s := .d (.bl i)) rfl k
theorem evc_non (k : Qd (.d .non) G L) : EvC K (tC .non) Δ G L Qd := fun w ls σ H c Q r => r.go c Ext.refl (s := .d .non) rfl k
theorem evc_ty {n : String} (k : Qd (.d (.ty n)) G L) : EvC K (tC (.ty n)) Δ G L Qd := fun w ls σ H c Q r => r.go c Ext.refl (s := .d (.ty n)) rfl k
theorem evc_ref {a : Addr} (k : Qd (.d (.ref a)) G L) : EvC K (tC (.ref a)) Δ G L Qd := fun w ls σ H c Q r => r.go c Ext.refl (s := .d (.ref a)) rfl k
theorem evn_c (h : EvN K te Δ G L fun m G1 L1 => ∃ x, m.dat = some x ∧ Qd (.d x) G1 L1) : EvC K te Δ G L Qd := fun w ls σ H c Q r => h w ls σ H c Q fun p m H2 G2 L2 _ n e ⟨x, hx, k⟩ => r.go n.c e (s := .d x) (n.dat x hx) k

/-! operations on values -/
def OpC (K : PySem.W.Frag) (r : R2) (x y : S) (Δ : Sl) (G L : List M) (Qd : Po) : Prop :=
  ∀ w ls σ H vx vy, Ctx K w ls σ H Δ G L → RS K H (Rg w ls) w.gs ls x vx → RS K H (Rg w ls) w.gs ls y vy → ∀ Q, Ret K w ls σ Δ H Qd Q → r vx vy H Q
def OpN (K : PySem.W.Frag) (r : R2) (x y : S) (Δ : Sl) (G L : List M) (Qd : PoN) : Prop :=
  ∀ w ls σ H vx vy, Ctx K w ls σ H Δ G L → RS K H (Rg w ls) w.gs ls x vx → RS K H (Rg w ls) w.gs ls y vy → ∀ Q, RetN K w ls σ Δ H Qd Q → r vx vy H Q
theorem opn_c {r : R2} {x y : S} (h : OpN K r x y Δ G L fun m G1 L1 => ∃ x, m.dat = some x ∧ Qd (.d x) G1 L1) : OpC K r x y Δ G L Qd :=
  fun w ls σ H vx vy c rx ry Q q => h w ls σ H vx vy c rx ry Q fun p m H2 G2 L2 _ n e ⟨x, hx, k⟩ => q.go n.c e (s := .d x) (n.dat x hx) k
theorem evc_op {r : R2} (h : EvC K ta Δ G L fun x G1 L1 => EvC K tb Δ G1 L1 fun y G2 L2 => OpC K r x y Δ G2 L2 Qd) : EvC K (tOp r ta tb) Δ G L Qd :=
  fun w ls σ H c Q ret => h w ls σ H c _ fun v s H2 G2 L2 c2 e2 r2 h2 => h2 w ls σ H2 c2 _ fun v3 s3 H3 G3 L3 c3 e3 r3 h3 => h3 w ls σ H3 v v3 c3 (r2.on c2 e3) r3 Q (ret.ext (e2.trans e3))
theorem evn_op {r : R2} {Qn : PoN} (h : EvC K ta Δ G L fun x G1 L1 => EvC K tb Δ G1 L1 fun y G2 L2 => OpN K r x y Δ G2 L2 Qn) : EvN K (tOp r ta tb) Δ G L Qn :=
  fun w ls σ H c Q ret => h w ls σ H c _ fun v s H2 G2 L2 c2 e2 r2 h2 => h2 w ls σ H2 c2 _ fun v3 s3 H3 G3 L3 c3 e3 r3 h3 => h3 w ls σ H3 v v3 c3 (r2.on c2 e3) r3 Q (ret.ext c3 (e2.trans e3))
theorem opc_orl {r r' : R2} {x y : S} (h : OpC K r x y Δ G L Qd) : OpC K (fun x y H Q => r x y H Q ∨ r' x y H Q) x y Δ G L Qd := fun w ls σ H vx vy c rx ry Q q => .inl (h w ls σ H vx vy c rx ry Q q)
theorem opn_orl {Qd : PoN} {r r' : R2} {x y : S} (h : OpN K r x y Δ G L Qd) : OpN K (fun x y H Q => r x y H Q ∨ r' x y H Q) x y Δ G L Qd := fun w ls σ H vx vy c rx ry Q q => .inl (h w ls σ H vx vy c rx ry Q q)
theorem opc_I0i {g : Int → Int → Int} {i j : Int} (k : Qd (.d (.int (g i j))) G L) : OpC K (rI0 fun i j => .int (g i j)) (.d (.int i)) (.d (.int j)) Δ G L Qd := fun w ls σ H vx vy c rx ry Q q =>
  ⟨i, j, rx, ry, q.go c Ext.refl (s := .d (.int (g i j))) rfl k⟩
theorem opc_I0b {g : Int → Int → Bool} {i j : Int} (k : Qd (.d (.bl (g i j))) G L) : OpC K (rI0 fun i j => .bl (g i j)) (.d (.int i)) (.d (.int j)) Δ G L Qd := fun w ls σ H vx vy c rx ry Q q =>
  ⟨i, j, rx, ry, q.go c Ext.refl (s := .d (.bl (g i j))) rfl k⟩
theorem opc_Ii {C : Int → Int → Prop} {g : Int → Int → Int} {i j : Int} (hc : C i j) (k : Qd (.d (.int (g i j))) G L) : OpC K (rI C fun i j => .int (g i j)) (.d (.int i)) (.d (.int j)) Δ G L Qd := fun w ls σ H vx vy c rx ry Q q =>
  ⟨i, j, rx, ry, hc, q.go c Ext.refl (s := .d (.int (g i j))) rfl k⟩

/-! universal operators: which one is asked is told by the values -/
def rAddSt : R2 := fun x y H Q => ∃ i j, x = .str i ∧ y = .str j ∧ i.length + j.length ≤ sizeLine ∧ Q (.str (i ++ j)) H
def uAdd (K : PySem.W.Frag) : R2 := fun x y H Q => rI0 (fun i j => .int (i + j)) x y H Q ∨ rAddSt x y H Q ∨ rCat x y H Q ∨ rCatA K x y H Q
theorem uo_add {X : Cx} : OpR X (binaryOp .Add) (uAdd X.K) := op_add.or (OpR.or (r := rAddSt) op_add_str (op_cat.or op_catA))
theorem u_add_i {i j : Int} (k : Qd (.d (.int (i + j))) G L) : OpC K (uAdd K) (.d (.int i)) (.d (.int j)) Δ G L Qd := opc_orl (opc_I0i (g := fun i j => i + j) k)
theorem u_add_s {i j : Str} (hl : i.length + j.length ≤ sizeLine) (k : Qd (.d (.str (i ++ j))) G L) : OpC K (uAdd K) (.d (.str i)) (.d (.str j)) Δ G L Qd := fun w ls σ H vx vy c rx ry Q q =>
  .inr (.inl ⟨i, j, rx, ry, hl, q.go c Ext.refl (s := .d (.str (i ++ j))) rfl k⟩)
def lsG (G L : List M) : S → Option (List D)
  | .d (.lst ds) => some ds
  | .l k => match L[k]? with
    | some (.pl ds) => some ds
    | _ => none
  | .g k => match G[k]? with
    | some (.pl ds) => some ds
    | _ => none
  | _ => none
theorem lsG_get {w : W} {ls : List Addr} {σ : L2.St} {H : Hp} {v : V} {s : S} {ds : List D} (c : Ctx K w ls σ H Δ G L) (r : RS K H (Rg w ls) w.gs ls s v) (h : lsG G L s = some ds) : ∃ a vs, v = .ref a ∧ H a = some (.lst vs) ∧ RepL K H (Rg w ls) ds vs := by
  unfold lsG at h
  split at h
  · cases h
    obtain ⟨a, xs, rfl, ⟨h1, _⟩, q⟩ := r
    exact ⟨a, xs, rfl, h1, q⟩
  · rename_i k
    split at h
    · rename_i ds' hk
      cases h
      obtain ⟨a, ha, rfl⟩ := r
      obtain ⟨b, hb, vs, h1, q⟩ := paired_get c.lo hk
      rw [ha] at hb
      cases hb
      exact ⟨a, vs, rfl, h1, q⟩
    · cases h
  · rename_i k
    split at h
    · rename_i ds' hk
      cases h
      obtain ⟨a, ha, rfl⟩ := r
      obtain ⟨b, hb, vs, h1, q⟩ := paired_get c.gl hk
      rw [ha] at hb
      cases hb
      exact ⟨a, vs, rfl, h1, q⟩
    · cases h
  · cases h
theorem u_add_l {Qn : PoN} {x y : S} {xs ys : List D} (hx : lsG G L x = some xs) (hy : lsG G L y = some ys) (hl : xs.length + ys.length ≤ sizeLine) (k : Qn (.pl (xs ++ ys)) G L) : OpN K (uAdd K) x y Δ G L Qn := fun w ls σ H vx vy c rx ry Q q => by
  obtain ⟨a, vs, rfl, h1, q1⟩ := lsG_get c rx hx
  obtain ⟨b, us, rfl, h2, q2⟩ := lsG_get c ry hy
  refine .inr (.inr (.inl ⟨a, b, vs, us, rfl, rfl, h1, h2, by rw [q1.length, q2.length]; exact hl, fun p hp => ?_⟩))
  exact q p _ _ _ _ hp (newAt_pl c hp (q1.app q2)) (Ext.new hp) k
def uMul (K : PySem.W.Frag) : R2 := fun x y H Q => rI CMul (fun i j => .int (i * j)) x y H Q ∨ rRep x y H Q
theorem uo_mul {X : Cx} : OpR X (binaryOp .Mult) (uMul X.K) := op_mul.or op_rep
theorem u_mul_i {i j : Int} (hc : CMul i j) (k : Qd (.d (.int (i * j))) G L) : OpC K (uMul K) (.d (.int i)) (.d (.int j)) Δ G L Qd := opc_orl (opc_Ii (g := fun i j => i * j) hc k)
theorem repl_flat {H : Hp} {R : Addr → Prop} {ds : List D} {vs : List V} (r : RepL K H R ds vs) : ∀ n, RepL K H R (List.replicate n ds).flatten (List.replicate n vs).flatten
  | 0 => rfl
  | n + 1 => by
    rw [List.replicate_succ, List.replicate_succ, List.flatten_cons, List.flatten_cons]
    exact r.app (repl_flat r n)
theorem u_mul_l {Qn : PoN} {x : S} {j : Int} {xs : List D} (hx : lsG G L x = some xs) (h1 : -(2 ^ 63) ≤ j) (h2 : j < 2 ^ 63) (hl : xs.length * j.toNat ≤ sizeLine) (k : Qn (.pl (List.replicate j.toNat xs).flatten) G L) : OpN K (uMul K) x (.d (.int j)) Δ G L Qn := fun w ls σ H vx vy c rx ry Q q => by
  obtain ⟨a, vs, rfl, h3, q1⟩ := lsG_get c rx hx
  refine .inr ⟨a, j, vs, rfl, ry, h3, h1, h2, by rw [q1.length]; exact hl, fun p hp => ?_⟩
  exact q p _ _ _ _ hp (newAt_pl c hp (repl_flat q1 _)) (Ext.new hp) k

/-! tests -/
theorem evb_test (h : EvC K te Δ G L fun s G1 L1 => ∃ b, s = .d (.bl b) ∧ Qb b G1 L1) : EvB K (tTest te) Δ G L Qb := fun w ls σ H c Q r => h w ls σ H c _ fun v s H2 G2 L2 c2 e2 r2 ⟨b, e, k⟩ => by
  subst e
  exact ⟨b, r2, r b H2 G2 L2 c2 e2 k⟩
theorem evb_B (h : EvC K te Δ G L fun s G1 L1 => ∃ b, s = .d (.bl b) ∧ Qb b G1 L1) : EvB K (tB te) Δ G L Qb := fun w ls σ H c Q r => h w ls σ H c _ fun v s H2 G2 L2 c2 e2 r2 ⟨b, e, k⟩ => by
  subst e
  exact ⟨b, r2, r b H2 G2 L2 c2 e2 k⟩
theorem evb_and {Qb : PoB} (h : EvB K tt Δ G L fun b G1 L1 => if b = true then EvB K tu Δ G1 L1 Qb else Qb false G1 L1) : EvB K (tAnd tt tu) Δ G L Qb := fun w ls σ H c Q r => h w ls σ H c _ fun b H2 G2 L2 c2 e2 k => by
  cases b with
  | true =>
    rw [if_pos rfl] at k ⊢
    exact k w ls σ H2 c2 _ fun b H3 G3 L3 c3 e3 k3 => r b H3 G3 L3 c3 (e2.trans e3) k3
  | false =>
    rw [if_neg Bool.false_ne_true] at k ⊢
    exact r _ H2 G2 L2 c2 e2 k
theorem evb_or {Qb : PoB} (h : EvB K tt Δ G L fun b G1 L1 => if b = true then Qb true G1 L1 else EvB K tu Δ G1 L1 Qb) : EvB K (tOr tt tu) Δ G L Qb := fun w ls σ H c Q r => h w ls σ H c _ fun b H2 G2 L2 c2 e2 k => by
  cases b with
  | true =>
    rw [if_pos rfl] at k ⊢
    exact r _ H2 G2 L2 c2 e2 k
  | false =>
    rw [if_neg Bool.false_ne_true] at k ⊢
    exact k w ls σ H2 c2 _ fun b H3 G3 L3 c3 e3 k3 => r b H3 G3 L3 c3 (e2.trans e3) k3
theorem evb_not {Qb : PoB} (h : EvB K tt Δ G L fun b G1 L1 => Qb (!b) G1 L1) : EvB K (tNot tt) Δ G L Qb := fun w ls σ H c Q r => h w ls σ H c _ fun b H2 G2 L2 c2 e2 k => r _ H2 G2 L2 c2 e2 k
theorem evb_yes {Qb : PoB} (k : Qb true G L) : EvB K tYes Δ G L Qb := fun w ls σ H c Q r => r _ H G L c Ext.refl k
theorem evc_if (h : EvB K tt Δ G L fun b G1 L1 => if b = true then EvC K ta Δ G1 L1 Qd else EvC K tb Δ G1 L1 Qd) : EvC K (tIf tt ta tb) Δ G L Qd := fun w ls σ H c Q r => h w ls σ H c _ fun b H2 G2 L2 c2 e2 k => by
  cases b with
  | true =>
    rw [if_pos rfl] at k ⊢
    exact k w ls σ H2 c2 _ (r.ext e2)
  | false =>
    rw [if_neg Bool.false_ne_true] at k ⊢
    exact k w ls σ H2 c2 _ (r.ext e2)
theorem evc_andV (h : EvC K ta Δ G L fun s G1 L1 => ∃ b, s = .d (.bl b) ∧ if b = true then EvC K tb Δ G1 L1 Qd else Qd (.d (.bl false)) G1 L1) : EvC K (tAndV ta tb) Δ G L Qd := fun w ls σ H c Q r => h w ls σ H c _ fun v s H2 G2 L2 c2 e2 r2 ⟨b, e, k⟩ => by
  subst e
  refine ⟨b, r2, ?_⟩
  cases b with
  | true =>
    rw [if_pos rfl] at k ⊢
    exact k w ls σ H2 c2 _ (r.ext e2)
  | false =>
    rw [if_neg Bool.false_ne_true] at k ⊢
    exact r.go c2 e2 (s := .d (.bl false)) rfl k
theorem evc_orV (h : EvC K ta Δ G L fun s G1 L1 => ∃ b, s = .d (.bl b) ∧ if b = true then Qd (.d (.bl true)) G1 L1 else EvC K tb Δ G1 L1 Qd) : EvC K (tOrV ta tb) Δ G L Qd := fun w ls σ H c Q r => h w ls σ H c _ fun v s H2 G2 L2 c2 e2 r2 ⟨b, e, k⟩ => by
  subst e
  refine ⟨b, r2, ?_⟩
  cases b with
  | true =>
    rw [if_pos rfl] at k ⊢
    exact r.go c2 e2 (s := .d (.bl true)) rfl k
  | false =>
    rw [if_neg Bool.false_ne_true] at k ⊢
    exact k w ls σ H2 c2 _ (r.ext e2)
theorem evc_notV (h : EvC K ta Δ G L fun s G1 L1 => ∃ b, s = .d (.bl b) ∧ Qd (.d (.bl (!b))) G1 L1) : EvC K (tNotV ta) Δ G L Qd := fun w ls σ H c Q r => h w ls σ H c _ fun v s H2 G2 L2 c2 e2 r2 ⟨b, e, k⟩ => by
  subst e
  exact ⟨b, r2, r.go c2 e2 (s := .d (.bl (!b))) rfl k⟩
theorem evc_chain {r r' : R2} (h : EvC K ta Δ G L fun x G1 L1 => EvC K tb Δ G1 L1 fun y G2 L2 => OpC K r x y Δ G2 L2 fun z G3 L3 => ∃ b, z = .d (.bl b) ∧
    if b = true then EvC K tc Δ G3 L3 fun u G4 L4 => OpC K r' y u Δ G4 L4 Qd else Qd (.d (.bl false)) G3 L3) : EvC K (tChain r r' ta tb tc) Δ G L Qd :=
  fun w ls σ H c Q ret => h w ls σ H c _ fun v s H2 G2 L2 c2 e2 r2 h2 => h2 w ls σ H2 c2 _ fun v3 s3 H3 G3 L3 c3 e3 r3 h3 => h3 w ls σ H3 v v3 c3 (r2.on c2 e3) r3 _ fun v4 s4 H4 G4 L4 c4 e4 r4 ⟨b, e, k⟩ => by
    subst e
    refine ⟨b, r4, ?_⟩
    cases b with
    | true =>
      rw [if_pos rfl] at k ⊢
      exact k w ls σ H4 c4 _ fun v5 s5 H5 G5 L5 c5 e5 r5 h5 => h5 w ls σ H5 v3 v5 c5 ((r3.on c3 e4).on c4 e5) r5 Q (ret.ext (e2.trans (e3.trans (e4.trans e5))))
    | false =>
      rw [if_neg Bool.false_ne_true] at k ⊢
      exact ret.go c4 (e2.trans (e3.trans e4)) (s := .d (.bl false)) rfl k

/-! arguments, displays -/
theorem eva_nil {Qa : PoA} (k : Qa [] G L) : EvA K tNil Δ G L Qa := fun w ls σ H c Q r => r [] [] H G L c Ext.refl .nil k
theorem eva_cons {Qa : PoA} {ts : TA} (h : EvC K te Δ G L fun x G1 L1 => EvA K ts Δ G1 L1 fun xs G2 L2 => Qa (x :: xs) G2 L2) : EvA K (tCons te ts) Δ G L Qa :=
  fun w ls σ H c Q r => h w ls σ H c _ fun v s H2 G2 L2 c2 e2 r2 h2 => h2 w ls σ H2 c2 _ fun vs ss H3 G3 L3 c3 e3 r3 h3 => r (v :: vs) (s :: ss) H3 G3 L3 c3 (e2.trans e3) (.cons (r2.on c2 e3) r3) h3
def dats : List S → Option (List D)
  | [] => some []
  | .d x :: r => match dats r with
    | some xs => some (x :: xs)
    | none => none
  | _ :: _ => none
theorem dats_rep {H : Hp} {R : Addr → Prop} {gs ls : List Addr} : ∀ {ss : List S} {ds : List D} {vs : List V}, dats ss = some ds → Paired (RS K H R gs ls) ss vs → RepL K H R ds vs
  | [], _, _, e, .nil => by
    cases e
    rfl
  | .d x :: r, ds, _, e, .cons h t => by
    unfold dats at e
    split at e
    · rename_i xs hx
      cases e
      exact ⟨_, _, rfl, h, dats_rep hx t⟩
    · cases e
theorem evc_tup {ts : TA} (h : EvA K ts Δ G L fun ss G1 L1 => ∃ ds, dats ss = some ds ∧ ds.length ≤ sizeLine ∧ Qd (.d (.tup ds)) G1 L1) : EvC K (tTup ts) Δ G L Qd := fun w ls σ H c Q r => h w ls σ H c _ fun vs ss H2 G2 L2 c2 e2 r2 ⟨ds, hd, hl, k⟩ =>
  have q := dats_rep hd r2
  ⟨by rw [q.length]; exact hl, fun p hp => r.go (c2.new hp) (e2.trans (Ext.new hp)) (s := .d (.tup ds)) (rep_tup c2 hp q) k⟩
theorem evn_lst {ts : TA} {Qn : PoN} (h : EvA K ts Δ G L fun ss G1 L1 => ∃ ds, dats ss = some ds ∧ ds.length ≤ sizeLine ∧ Qn (.pl ds) G1 L1) : EvN K (tLst ts) Δ G L Qn := fun w ls σ H c Q r => h w ls σ H c _ fun vs ss H2 G2 L2 c2 e2 r2 ⟨ds, hd, hl, k⟩ =>
  have q := dats_rep hd r2
  ⟨by rw [q.length]; exact hl, fun p hp => r p _ _ _ _ (none_back c2 e2 hp) (newAt_pl c2 hp q) (e2.trans (Ext.new hp)) k⟩
/-! subscripts -/
theorem u_ix_scr {ns : List Int} {i z : Int} (hi : atI ns i = some z) (k : Qd (.d (.int z)) G L) : OpC K (rIx K) (.d (.scr ns)) (.d (.int i)) Δ G L Qd := fun w ls σ H vx vy c rx ry Q q => by
  obtain ⟨a, rfl, h1⟩ := rx
  refine .inl ⟨a, _, i, .int z, rfl, ry, h1.sq, ?_, q.go c Ext.refl (s := .d (.int z)) rfl k⟩
  unfold atI at hi ⊢
  rw [List.length_map]
  cases e : ixN ns.length i with
  | none =>
    rw [e] at hi
    cases hi
  | some j =>
    rw [e] at hi
    show (ns.map V.int)[j]? = _
    rw [List.getElem?_map, show ns[j]? = some z from hi]
    rfl
end
end
end DL

namespace DL
open PySem PySem.Spec PyProof.Rows L2
section
variable {K : PySem.W.Frag}
structure EndsD where
  nx : Sl → List M → List M → Prop
  rt : S → List M → List M → Prop
  bk : Sl → List M → List M → Prop := fun _ _ _ => False
  ct : Sl → List M → List M → Prop := fun _ _ _ => False
  wd : W → List Addr → Hp → Prop := fun _ _ _ => True
structure SEnds (K : PySem.W.Frag) (w : W) (ls : List Addr) (H : Hp) (E : EndsD) (D : Ends) : Prop where
  nx : ∀ ls' σ H' Δ G L, Ctx K w ls' σ H' Δ G L → Grow H H' (Rg w ls) (Rg w ls') → E.nx Δ G L → D.nx σ H'
  rt : ∀ ls' σ H' Δ G L v s, Ctx K w ls' σ H' Δ G L → RS K H' (Rg w ls') w.gs ls' s v → E.rt s G L → D.rt v H'
  bk : ∀ ls' σ H' Δ G L, Ctx K w ls' σ H' Δ G L → Grow H H' (Rg w ls) (Rg w ls') → E.bk Δ G L → D.bk σ H'
  ct : ∀ ls' σ H' Δ G L, Ctx K w ls' σ H' Δ G L → Grow H H' (Rg w ls) (Rg w ls') → E.ct Δ G L → D.ct σ H'
  wd : ∀ ls' H', Grow H H' (Rg w ls) (Rg w ls') → E.wd w ls' H'
def StC (K : PySem.W.Frag) (ts : TS) (Δ : Sl) (G L : List M) (E : EndsD) : Prop := ∀ w ls σ H, Ctx K w ls σ H Δ G L → ∀ D : Ends, SEnds K w ls H E D → ts D σ H
theorem SEnds.on {w : W} {ls ls1 : List Addr} {H H1 : Hp} {E : EndsD} {D : Ends} (s : SEnds K w ls H E D) (g : Grow H H1 (Rg w ls) (Rg w ls1)) : SEnds K w ls1 H1 E D :=
  ⟨fun ls' σ H' Δ G L c g' h => s.nx ls' σ H' Δ G L c (g.trans g') h, s.rt, fun ls' σ H' Δ G L c g' h => s.bk ls' σ H' Δ G L c (g.trans g') h, fun ls' σ H' Δ G L c g' h => s.ct ls' σ H' Δ G L c (g.trans g') h, fun ls' H' g' => s.wd ls' H' (g.trans g')⟩
section
variable {Δ : Sl} {G L : List M} {E : EndsD} {te : TE} {tt : TT} {t u : TS}
theorem SlOk.set {H : Hp} {R : Addr → Prop} {gs ls : List Addr} {σ : L2.St} (h : SlOk K H R gs ls σ Δ) {i : Nat} {v : V} {s : S} (r : RS K H R gs ls s v) : SlOk K H R gs ls (σ.set i (some v)) (Δ.set i (some s)) := by
  refine ⟨by rw [List.length_set, List.length_set, h.1], fun j z e => ?_⟩
  rw [List.getElem?_set] at e ⊢
  split at e
  · rename_i hij
    subst hij
    rw [if_pos rfl]
    split at e
    · rename_i hl
      cases e
      exact ⟨v, by rw [if_pos (by rw [h.1]; exact hl)], r⟩
    · cases e
  · rename_i hij
    rw [if_neg hij]
    exact h.2 j z e
theorem Ctx.slot {w : W} {ls : List Addr} {σ : L2.St} {H : Hp} (c : Ctx K w ls σ H Δ G L) {i : Nat} {v : V} {s : S} (r : RS K H (Rg w ls) w.gs ls s v) : Ctx K w ls (σ.set i (some v)) H (Δ.set i (some s)) G L :=
  ⟨c.reg, c.rin, c.nd, c.fr, c.h0, c.sl.set r, c.gl, c.lo, c.ld⟩
theorem st_seq (h : StC K t Δ G L { E with nx := fun Δ1 G1 L1 => StC K u Δ1 G1 L1 E }) : StC K (tSeq t u) Δ G L E := fun w ls σ H c D s =>
  h w ls σ H c _ ⟨fun ls' σ' H' Δ' G' L' c' g' k => k w ls' σ' H' c' D (s.on g'), s.rt, s.bk, s.ct, s.wd⟩
theorem st_next (k : E.nx Δ G L) : StC K tNext Δ G L E := fun w ls σ H c D s => s.nx ls σ H Δ G L c (Grow.refl _ _) k
theorem st_break (k : E.bk Δ G L) : StC K tBreak Δ G L E := fun w ls σ H c D s => s.bk ls σ H Δ G L c (Grow.refl _ _) k
theorem st_cont (k : E.ct Δ G L) : StC K tCont Δ G L E := fun w ls σ H c D s => s.ct ls σ H Δ G L c (Grow.refl _ _) k
theorem st_asg {i : Nat} (h : EvC K te Δ G L fun s G1 L1 => E.nx (Δ.set i (some s)) G1 L1) : StC K (tAsg te (gName i)) Δ G L E := fun w ls σ H c D s =>
  h w ls σ H c _ fun v x H2 G2 L2 c2 e2 r2 k => s.nx ls _ H2 _ G2 L2 (c2.slot r2) (e2.grow c.reg) k
theorem st_if (h : EvB K tt Δ G L fun b G1 L1 => if b = true then StC K t Δ G1 L1 E else StC K u Δ G1 L1 E) : StC K (tIfS tt t u) Δ G L E := fun w ls σ H c D s => h w ls σ H c _ fun b H2 G2 L2 c2 e2 k => by
  cases b with
  | true =>
    rw [if_pos rfl] at k ⊢
    exact k w ls σ H2 c2 D (s.on (e2.grow c.reg))
  | false =>
    rw [if_neg Bool.false_ne_true] at k ⊢
    exact k w ls σ H2 c2 D (s.on (e2.grow c.reg))
theorem st_ret (h : EvC K te Δ G L fun s G1 L1 => E.rt s G1 L1) : StC K (tRet te) Δ G L E := fun w ls σ H c D s => h w ls σ H c _ fun v x H2 G2 L2 c2 e2 r2 k => s.rt ls σ H2 Δ G2 L2 v x c2 r2 k
theorem st_retN (k : E.rt (.d .non) G L) : StC K tRetN Δ G L E := fun w ls σ H c D s => s.rt ls σ H Δ G L .non (.d .non) c rfl k
theorem st_retO (h : EvN K te Δ G L fun m G1 L1 => E.rt (.l L1.length) G1 (L1 ++ [m])) : StC K (tRet te) Δ G L E := fun w ls σ H c D s => h w ls σ H c _ fun p m H2 G2 L2 hp n e2 k => by
  have hl : ls.length = L2.length := paired_len n.c.lo
  refine s.rt (ls ++ [p]) σ H2 Δ G2 (L2 ++ [m]) (.ref p) (.l L2.length) n.own ⟨p, ?_, rfl⟩ k
  rw [← hl, List.getElem?_append_right (Nat.le_refl _), Nat.sub_self]
  rfl
theorem st_drop (h : EvC K te Δ G L fun _ G1 L1 => E.nx Δ G1 L1) : StC K (tDrop te) Δ G L E := fun w ls σ H c D s => h w ls σ H c _ fun v x H2 G2 L2 c2 e2 r2 k => s.nx ls σ H2 Δ G2 L2 c2 (e2.grow c.reg) k

/-! targets: ok says which slots may be stored -/
abbrev PoT := Sl → List M → List M → Prop
def TgC (K : PySem.W.Frag) (g : TG) (ok : Nat → Prop) (s : S) (Δ : Sl) (G L : List M) (Qt : PoT) : Prop :=
  ∀ w ls σ H v, Ctx K w ls σ H Δ G L → RS K H (Rg w ls) w.gs ls s v → ∀ Q : L2.St → Hp → Prop,
    (∀ σ' H' Δ' G' L', Ctx K w ls σ' H' Δ' G' L' → Ext w ls H H' → σ'.length = σ.length → (∀ k, ¬ ok k → σ'[k]? = σ[k]?) → Qt Δ' G' L' → Q σ' H') → g v σ H Q
def TgCs (K : PySem.W.Frag) (g : TGs) (ok : Nat → Prop) (ss : List S) (Δ : Sl) (G L : List M) (Qt : PoT) : Prop :=
  ∀ w ls σ H vs, Ctx K w ls σ H Δ G L → Paired (RS K H (Rg w ls) w.gs ls) ss vs → ∀ Q : L2.St → Hp → Prop,
    (∀ σ' H' Δ' G' L', Ctx K w ls σ' H' Δ' G' L' → Ext w ls H H' → σ'.length = σ.length → (∀ k, ¬ ok k → σ'[k]? = σ[k]?) → Qt Δ' G' L' → Q σ' H') → g vs σ H Q
theorem tg_name {i : Nat} {s : S} {Qt : PoT} {ok : Nat → Prop} (hi : ok i) (k : Qt (Δ.set i (some s)) G L) : TgC K (gName i) ok s Δ G L Qt := fun w ls σ H v c r Q q =>
  q _ H _ G L (c.slot r) Ext.refl (List.length_set ..) (fun k hk => by
    rw [List.getElem?_set_ne (fun z => hk (by rw [← z]; exact hi))]) k
theorem tgs_nil {Qt : PoT} {ok : Nat → Prop} (k : Qt Δ G L) : TgCs K gNil ok [] Δ G L Qt := fun w ls σ H vs c r Q q => by
  cases r
  exact ⟨rfl, q σ H Δ G L c Ext.refl rfl (fun _ _ => rfl) k⟩
theorem tgs_cons {g : TG} {gs : TGs} {ok : Nat → Prop} {s : S} {ss : List S} {Qt : PoT} (h : TgC K g ok s Δ G L fun Δ1 G1 L1 => TgCs K gs ok ss Δ1 G1 L1 Qt) : TgCs K (gCons g gs) ok (s :: ss) Δ G L Qt := fun w ls σ H vs c r Q q => by
  cases r with
  | cons r1 rr =>
    refine ⟨_, _, rfl, h w ls σ H _ c r1 _ fun σ1 H1 Δ1 G1 L1 c1 e1 l1 o1 k1 => ?_⟩
    refine k1 w ls σ1 H1 _ c1 (RSs.on c e1 rr) _ fun σ2 H2 Δ2 G2 L2 c2 e2 l2 o2 k2 => ?_
    exact q σ2 H2 Δ2 G2 L2 c2 (e1.trans e2) (l2.trans l1) (fun k hk => (o2 k hk).trans (o1 k hk)) k2
theorem repL_rs {H : Hp} {R : Addr → Prop} {gs ls : List Addr} : ∀ {ds : List D} {vs : List V}, RepL K H R ds vs → Paired (RS K H R gs ls) (ds.map S.d) vs
  | [], _, h => by
    cases h
    exact .nil
  | d :: ds, _, ⟨y, ys, e, h, r⟩ => by
    subst e
    exact .cons h (repL_rs r)
theorem tg_tup {gs : TGs} {ok : Nat → Prop} {ds : List D} {n : Nat} {Qt : PoT} (hn : ds.length = n) (h : TgCs K gs ok (ds.map S.d) Δ G L Qt) : TgC K (gTup K n gs) ok (.d (.tup ds)) Δ G L Qt := fun w ls σ H v c r Q q => by
  obtain ⟨a, xs, rfl, h1, r1⟩ := r
  exact ⟨a, xs, rfl, h1.sq, by rw [r1.length]; exact hn, h w ls σ H xs c (repL_rs r1) Q q⟩
theorem st_asgT {g : TG} (h : EvC K te Δ G L fun s G1 L1 => TgC K g (fun _ => True) s Δ G1 L1 E.nx) : StC K (tAsg te g) Δ G L E := fun w ls σ H c D s =>
  h w ls σ H c _ fun v x H2 G2 L2 c2 e2 r2 k => k w ls σ H2 v c2 r2 _ fun σ' H' Δ' G' L' c' e' _ _ k' => s.nx ls σ' H' Δ' G' L' c' ((e2.trans e').grow c.reg) k'

/-! what is walked -/
structure ItOk (K : PySem.W.Frag) (w : W) (ls : List Addr) (J : It) (H1 : Hp) (items : List D) : Prop where
  go : ∀ H2 w2 ls2 σ2 Δ2 G2 L2 i d, Grow H1 H2 (Rg w ls) (Rg w2 ls2) → Ctx K w2 ls2 σ2 H2 Δ2 G2 L2 → items[i]? = some d → J.go i H2 ∧ ∀ x H', J.yld i H2 x H' → Ctx K w2 ls2 σ2 H' Δ2 G2 L2 ∧ Ext w2 ls2 H2 H' ∧ Rep K H' (Rg w2 ls2) d x
  stop : ∀ H2 w2 ls2, Grow H1 H2 (Rg w ls) (Rg w2 ls2) → J.stop items.length H2
def EvI (K : PySem.W.Frag) (wi : TI) (Δ : Sl) (G L : List M) (Qi : List D → List M → List M → Prop) : Prop :=
  ∀ w ls σ H, Ctx K w ls σ H Δ G L → ∀ R : It → Hp → Prop, (∀ J H1 items G1 L1, Ctx K w ls σ H1 Δ G1 L1 → Ext w ls H H1 → ItOk K w ls J H1 items → Qi items G1 L1 → R J H1) → wi σ H R
def rngD (lo : Int) (n : Nat) : List D := (List.range n).map fun i => .int (lo + (i : Nat))
theorem rngD_get {lo : Int} {n i : Nat} {d : D} (h : (rngD lo n)[i]? = some d) : i < n ∧ d = .int (lo + (i : Nat)) := by
  unfold rngD at h
  rw [List.getElem?_map] at h
  by_cases hi : i < n
  · rw [List.getElem?_range hi] at h
    exact ⟨hi, (Option.some.inj h).symm⟩
  · rw [List.getElem?_eq_none (by rw [List.length_range]; omega)] at h
    cases h
theorem rngD_len {lo : Int} {n : Nat} : (rngD lo n).length = n := by
  unfold rngD
  rw [List.length_map, List.length_range]
theorem itok_range {w : W} {ls : List Addr} {H : Hp} {lo : Int} {n : Nat} : ItOk K w ls (Itr lo n) H (rngD lo n) :=
  ⟨fun H3 w2 ls2 σ2 Δ2 G3 L3 i d g c3 hi => by
    obtain ⟨h1, rfl⟩ := rngD_get hi
    exact ⟨h1, fun x H' ⟨hH, hx⟩ => by
      subst hH
      exact ⟨c3, Ext.refl, hx⟩⟩, fun _ _ _ _ => Nat.le_of_eq rngD_len.symm⟩
theorem evi_rng1 {ta : TA} {Qi : List D → List M → List M → Prop} (h : EvA K ta Δ G L fun ss G1 L1 => ∃ j : Int, ss = [.d (.int j)] ∧ -(2 ^ 62) ≤ j ∧ j < 2 ^ 62 ∧ Qi (rngD 0 j.toNat) G1 L1) : EvI K (iRng1 ta) Δ G L Qi := fun w ls σ H c R q =>
  h w ls σ H c _ fun vs ss H2 G2 L2 c2 e2 r2 ⟨j, e, h1, h2, k⟩ => by
    subst e
    cases r2 with
    | cons r t =>
      cases t
      exact ⟨j, by rw [show _ = V.int j from r], h1, h2, q _ H2 _ G2 L2 c2 e2 itok_range k⟩
theorem evi_rng2 {ta : TA} {Qi : List D → List M → List M → Prop} (h : EvA K ta Δ G L fun ss G1 L1 => ∃ i j : Int, ss = [.d (.int i), .d (.int j)] ∧ (-(2 ^ 62) ≤ i ∧ i < 2 ^ 62 ∧ -(2 ^ 62) ≤ j ∧ j < 2 ^ 62) ∧ Qi (rngD i (j - i).toNat) G1 L1) : EvI K (iRng2 ta) Δ G L Qi := fun w ls σ H c R q =>
  h w ls σ H c _ fun vs ss H2 G2 L2 c2 e2 r2 ⟨i, j, e, h1, k⟩ => by
    subst e
    cases r2 with
    | cons r t =>
      cases t with
      | cons r' t' =>
        cases t'
        exact ⟨i, j, by rw [show _ = V.int i from r, show _ = V.int j from r'], h1, q _ H2 _ G2 L2 c2 e2 itok_range k⟩
theorem st_for {wi : TI} {g : TG} {tb : TS} (h : EvI K wi Δ G L fun items G1 L1 => ∃ P : Nat → Sl → List M → List M → Prop, P 0 Δ G1 L1 ∧
    (∀ i d Δ' G' L', items[i]? = some d → P i Δ' G' L' → TgC K g (fun _ => True) (.d d) Δ' G' L' fun Δ2 G2 L2 => StC K tb Δ2 G2 L2 { E with nx := P (i + 1), ct := P (i + 1), bk := E.nx }) ∧
    ∀ Δ' G' L', P items.length Δ' G' L' → E.nx Δ' G' L') : StC K (tFor wi g tb) Δ G L E := fun w ls σ H c D s =>
  h w ls σ H c _ fun J H1 items G1 L1 c1 e1 it ⟨P, p0, ps, pe⟩ => by
    have g1 : Grow H H1 (Rg w ls) (Rg w ls) := e1.grow c.reg
    refine ⟨fun i m σ' H' => m = items.length - i ∧ i ≤ items.length ∧ ∃ ls' Δ' G' L', Ctx K w ls' σ' H' Δ' G' L' ∧ Grow H1 H' (Rg w ls) (Rg w ls') ∧ P i Δ' G' L',
      ⟨_, rfl, Nat.zero_le _, ls, Δ, G1, L1, c1, Grow.refl _ _, p0⟩, ?_⟩
    rintro i m σ' H' ⟨rfl, hi, ls', Δ', G', L', c', g', p⟩
    by_cases hlt : i < items.length
    · obtain ⟨go, yl⟩ := it.go H' w ls' σ' Δ' G' L' i _ g' c' (List.getElem?_eq_getElem hlt)
      refine .inr ⟨go, fun σ2 H2 => ∃ ls2 Δ2 G2 L2, Ctx K w ls2 σ2 H2 Δ2 G2 L2 ∧ Grow H1 H2 (Rg w ls) (Rg w ls2) ∧ P (i + 1) Δ2 G2 L2, fun σ2 H2 ⟨ls2, Δ2, G2, L2, c2, g2, p2⟩ => ⟨_, by omega, rfl, hlt, ls2, Δ2, G2, L2, c2, g2, p2⟩, fun x H3 hy => ?_⟩
      obtain ⟨c3, e3, r3⟩ := yl x H3 hy
      refine ps i _ Δ' G' L' (List.getElem?_eq_getElem hlt) p w ls' σ' H3 x c3 r3 _ fun σ4 H4 Δ4 G4 L4 c4 e4 _ _ k4 => ?_
      have g4 : Grow H1 H4 (Rg w ls) (Rg w ls') := g'.trans ((e3.trans e4).grow c'.reg)
      exact k4 w ls' σ4 H4 c4 _ ⟨fun ls5 σ5 H5 Δ5 G5 L5 c5 g5 p5 => ⟨ls5, Δ5, G5, L5, c5, g4.trans g5, p5⟩, s.rt, fun ls5 σ5 H5 Δ5 G5 L5 c5 g5 p5 => s.nx ls5 σ5 H5 Δ5 G5 L5 c5 (g1.trans (g4.trans g5)) p5,
        fun ls5 σ5 H5 Δ5 G5 L5 c5 g5 p5 => ⟨ls5, Δ5, G5, L5, c5, g4.trans g5, p5⟩, fun ls5 H5 g5 => s.wd ls5 H5 (g1.trans (g4.trans g5))⟩
    · have e : i = items.length := by omega
      subst e
      exact .inl ⟨it.stop H' w ls' g', s.nx ls' σ' H' Δ' G' L' c' (g1.trans g') (pe Δ' G' L' p)⟩
theorem st_while {tb : TS} (P : Nat → Sl → List M → List M → Prop) (m0 : Nat) (p0 : P m0 Δ G L)
    (ps : ∀ m Δ' G' L', P m Δ' G' L' → EvB K tt Δ' G' L' fun b G1 L1 => if b = true then StC K tb Δ' G1 L1 { E with nx := fun Δ2 G2 L2 => ∃ m', m' < m ∧ P m' Δ2 G2 L2, ct := fun Δ2 G2 L2 => ∃ m', m' < m ∧ P m' Δ2 G2 L2, bk := E.nx } else E.nx Δ' G1 L1) : StC K (tWhile tt tb) Δ G L E := fun w ls σ H c D s => by
  refine ⟨fun m σ' H' => ∃ ls' Δ' G' L', Ctx K w ls' σ' H' Δ' G' L' ∧ Grow H H' (Rg w ls) (Rg w ls') ∧ P m Δ' G' L', ⟨m0, ls, Δ, G, L, c, Grow.refl _ _, p0⟩, ?_⟩
  rintro m σ' H' ⟨ls', Δ', G', L', c', g', p⟩
  refine ps m Δ' G' L' p w ls' σ' H' c' _ fun b H2 G2 L2 c2 e2 k => ?_
  have g2 : Grow H H2 (Rg w ls) (Rg w ls') := g'.trans (e2.grow c'.reg)
  cases b with
  | true =>
    rw [if_pos rfl] at k ⊢
    refine ⟨fun σ3 H3 => ∃ m', m' < m ∧ ∃ ls3 Δ3 G3 L3, Ctx K w ls3 σ3 H3 Δ3 G3 L3 ∧ Grow H H3 (Rg w ls) (Rg w ls3) ∧ P m' Δ3 G3 L3, fun σ3 H3 ⟨m', hm, ls3, Δ3, G3, L3, c3, g3, p3⟩ => ⟨m', hm, ls3, Δ3, G3, L3, c3, g3, p3⟩, ?_⟩
    exact k w ls' σ' H2 c2 _ ⟨fun ls5 σ5 H5 Δ5 G5 L5 c5 g5 ⟨m', hm, p5⟩ => ⟨m', hm, ls5, Δ5, G5, L5, c5, g2.trans g5, p5⟩, s.rt, fun ls5 σ5 H5 Δ5 G5 L5 c5 g5 p5 => s.nx ls5 σ5 H5 Δ5 G5 L5 c5 (g2.trans g5) p5,
      fun ls5 σ5 H5 Δ5 G5 L5 c5 g5 ⟨m', hm, p5⟩ => ⟨m', hm, ls5, Δ5, G5, L5, c5, g2.trans g5, p5⟩, fun ls5 H5 g5 => s.wd ls5 H5 (g2.trans g5)⟩
  | false =>
    rw [if_neg Bool.false_ne_true] at k ⊢
    exact s.nx ls' σ' H2 Δ' G2 L2 c2 g2 k

/-! comprehensions -/
def W.add (w : W) (p : Addr) : W := ⟨fun a => w.R a ∨ a = p, w.gs, w.H0⟩
theorem rg_add {w : W} {p : Addr} {ls : List Addr} {a : Addr} : Rg (w.add p) ls a ↔ Rg w (ls ++ [p]) a := by
  unfold Rg W.add
  rw [List.mem_append, List.mem_singleton]
  constructor
  · rintro ((h | h) | h)
    · exact .inl h
    · exact .inr (.inr h)
    · exact .inr (.inl h)
  · rintro (h | h | h)
    · exact .inl (.inl h)
    · exact .inr h
    · exact .inl (.inr h)
theorem grow_iff {H : Hp} {R R' : Addr → Prop} (h : ∀ a, R' a → R a) : Grow H H R R' := ⟨fun _ _ e _ => e, fun a _ _ r => h a r⟩
theorem Ctx.show {w : W} {ls : List Addr} {σ : L2.St} {H : Hp} {p : Addr} {vs : List V} {ds : List D} (c : Ctx K (w.add p) ls σ H Δ G L) (hr : ∀ a ∈ w.gs, w.R a) (h : H p = some (.lst vs)) (r : RepL K H (Rg (w.add p) ls) ds vs) (n0 : w.H0 p = none) (np : p ∉ w.gs) (nl : p ∉ ls) (nR : ¬ w.R p) : NewAt K w ls σ H Δ G L p (.pl ds) := by
  have g1 : Grow H H (Rg (w.add p) ls) (Rg w (ls ++ [p])) := grow_iff fun a r => rg_add.mpr r
  have g2 : Grow H H (Rg (w.add p) ls) (Rg w ls) := grow_iff fun a r => by
    rcases r with r | r
    · exact .inl (.inl r)
    · exact .inr r
  refine ⟨⟨hr, fun a r => c.rin a (.inl r), ?_, ?_, c.h0, c.sl.grow g1 (Pre.refl _) (Pre.app _ _), paired_map c.gl fun a m _ q => q.grow g1 (Pre.refl _) (Pre.nil _) (fun _ z => z),
    paired_app (paired_map c.lo fun a m _ q => q.grow g1 (Pre.refl _) (Pre.app _ _) (fun _ z => z)) (.cons ⟨vs, h, r.grow g1⟩ .nil), fun a ha r => (List.mem_append.mp ha).elim (fun z => c.ld a z (.inl r)) fun z => nR ((List.mem_singleton.mp z) ▸ r)⟩,
    ⟨hr, fun a r => c.rin a (.inl r), c.nd, c.fr, c.h0, c.sl.grow g2 (Pre.refl _) (Pre.refl _), paired_map c.gl fun a m _ q => q.grow g2 (Pre.refl _) (Pre.refl _) (fun _ z => z),
    paired_map c.lo fun a m _ q => q.grow g2 (Pre.refl _) (Pre.refl _) (fun _ z => z), fun a m r => c.ld a m (.inl r)⟩, fun x e => ?_⟩
  · show (w.gs ++ (ls ++ [p])).Nodup
    rw [← List.append_assoc]
    refine List.nodup_append.mpr ⟨c.nd, by simp, fun a ha b hb => ?_⟩
    rw [List.mem_singleton] at hb
    subst hb
    rintro rfl
    rcases List.mem_append.mp ha with z | z
    · exact np z
    · exact nl z
  · intro a ha
    rcases List.mem_append.mp ha with z | z
    · exact c.fr a z
    · rw [List.mem_singleton] at z
      subst z
      exact n0
  · cases e
    refine ⟨p, vs, rfl, ⟨h, ?_⟩, r.grow g2⟩
    rintro (z | z)
    · exact nR z
    · exact nl z
end
end
end DL

namespace DL
open PySem PySem.Spec PyProof.Rows L2
section
variable {K : PySem.W.Frag}
inductive Res where
  | v (s : S) | new (ms : List M) (k : Nat)
abbrev DSpec := List S → List M → (Res → List M → Prop) → Prop
def spD (K : PySem.W.Frag) (F : DSpec) : Sp := fun vs H Q _ => ∃ (w : W) (ss : List S) (G : List M) (Qd : Res → List M → Prop), w.H0 = H ∧ Ctx K w [] [] H [] G [] ∧ Paired (RS K H (Rg w []) w.gs []) ss vs ∧ F ss G Qd ∧
  (∀ v s H' G', Ctx K w [] [] H' [] G' [] → RS K H' (Rg w []) w.gs [] s v → Qd (.v s) G' → Q v H') ∧
  (∀ ps k p ms H' G', Ctx K w ps [] H' [] G' ms → ps[k]? = some p → Qd (.new ms k) G' → Q (.ref p) H')
def startD (N : List Str) (ss : List S) : Sl := ss.map some ++ List.replicate (N.length - ss.length) none
def endsD (Qd : Res → List M → Prop) : EndsD where
  nx := fun _ G _ => Qd (.v (.d .non)) G
  rt := fun s G L => match s with
    | .l k => Qd (.new L k) G
    | .d x => Qd (.v (.d x)) G
    | .g k => Qd (.v (.g k)) G
section
variable {w : W} {ls : List Addr} {σ : L2.St} {H : Hp} {Δ : Sl} {G L : List M}
theorem Ctx.forgetS (c : Ctx K w ls σ H Δ G L) : Ctx K w ls [] H [] G L := ⟨c.reg, c.rin, c.nd, c.fr, c.h0, ⟨rfl, fun i s e => by simp at e⟩, c.gl, c.lo, c.ld⟩
theorem grow_drop {H : Hp} {w : W} {ls : List Addr} : Grow H H (Rg w ls) (Rg w []) := ⟨fun _ _ e _ => e, fun a o e r => by
  rcases r with r | r
  · exact .inl r
  · cases r⟩
theorem Ctx.forget (c : Ctx K w ls σ H Δ G L) : Ctx K w [] [] H [] G [] :=
  ⟨c.reg, c.rin, by rw [List.append_nil]; exact (List.nodup_append.mp c.nd).1, fun _ h => (by cases h), c.h0, ⟨rfl, fun i s e => by simp at e⟩,
    paired_map c.gl fun a m _ q => q.grow grow_drop (Pre.refl _) (Pre.refl _) fun _ z => z, .nil, fun _ h => (by cases h)⟩
theorem paired_get_l {α β : Type} {F : α → β → Prop} : ∀ {as : List α} {bs : List β} {i : Nat} {a : α}, Paired F as bs → as[i]? = some a → ∃ b, bs[i]? = some b ∧ F a b
  | _, _, 0, _, .cons h t, e => by
    simp at e
    subst e
    exact ⟨_, rfl, h⟩
  | _, _, i + 1, _, .cons h t, e => by
    obtain ⟨a, q, r⟩ := paired_get_l (i := i) t (by simpa using e)
    exact ⟨a, by simpa using q, r⟩
theorem slok_start {R : Addr → Prop} {gs ls : List Addr} {N : List Str} {ss : List S} {vs : List V} (r : Paired (RS K H R gs ls) ss vs) : SlOk K H R gs ls (L2.start N vs) (startD N ss) := by
  have hl := paired_len r
  refine ⟨by unfold L2.start startD; rw [List.length_append, List.length_append, List.length_map, List.length_map, List.length_replicate, List.length_replicate, hl], fun i s e => ?_⟩
  unfold startD at e
  unfold L2.start
  by_cases hi : i < ss.length
  · rw [List.getElem?_append_left (by rw [List.length_map]; exact hi), List.getElem?_map] at e
    rw [List.getElem?_append_left (by rw [List.length_map, ← hl]; exact hi), List.getElem?_map]
    cases q : ss[i]? with
    | none =>
      rw [q] at e
      cases e
    | some z =>
      rw [q] at e
      have e : some (some z) = some (some s) := e
      cases e
      obtain ⟨v, hv, rr⟩ := paired_get_l r q
      exact ⟨v, by rw [hv]; rfl, rr⟩
  · rw [List.getElem?_append_right (by rw [List.length_map]; omega), List.getElem?_replicate] at e
    split at e <;> cases e
end
section
variable {P : Program} {w : World} {mg : Str → Option Value} {base : Heap}
theorem okD {x qual : Str} {st : Stmt} {f : Addr} {fd : FuncData} {N ps : List Str} {k : Nat} {sp : DSpec} (F : Fun K x qual st f fd) (S : FnScope N ps (defScope st)) (len : ∀ ss G Qd, sp ss G Qd → ss.length = ps.length)
    (hbody : ∀ (cdv : Value) (A : Around) (outer : List Env) (s : Shared) (H : Hp) (E : XK) (ss : List DL.S) (G : List M) (Qd : Res → List M → Prop), Room k (A.deeper (envOfC qual (defScope st) s.heap.objs.size f cdv)) → sp ss G Qd →
      ∃ t, PSs (cxOf CX0 P w K mg base N qual (defScope st) f cdv A outer s H E).nox (defBody st) t ∧ StC K t (startD N ss) G [] (endsD Qd)) : FnOk P w K mg base CX0 (k + 1) f fd ps (spD K sp) := by
  refine F.ok S (fun vs H Q E h => ?_) (fun cdv A outer s H vs Q E hr h => ?_)
  · obtain ⟨w, ss, G, Qd, _, _, r, q, _⟩ := h
    rw [← paired_len r]
    exact len ss G Qd q
  · obtain ⟨w, ss, G, Qd, h0, c, r, q, k1, k2⟩ := h
    obtain ⟨t, ht, hs⟩ := hbody cdv A outer s H E ss G Qd hr q
    refine ⟨t, ht, hs w [] (L2.start N vs) H ⟨c.reg, c.rin, c.nd, c.fr, c.h0, slok_start r, c.gl, c.lo, c.ld⟩ _ ⟨?_, ?_, ?_, ?_, fun _ _ _ => trivial⟩⟩
    · intro ls' σ' H' Δ' G' L' c' g' n'
      exact k1 .non (.d .non) H' G' c'.forget rfl n'
    · intro ls' σ' H' Δ' G' L' v z c' rz n'
      cases z with
      | d x => exact k1 v (.d x) H' G' c'.forget (Rep.grow grow_drop rz) n'
      | g j => exact k1 v (.g j) H' G' c'.forget rz n'
      | l j =>
        obtain ⟨a, ha, rfl⟩ := rz
        exact k2 ls' j a L' H' G' c'.forgetS ha n'
    · intro ls' σ' H' Δ' G' L' c' g' n'
      exact n'.elim
    · intro ls' σ' H' Δ' G' L' c' g' n'
      exact n'.elim
end

/-! ### calls -/
def noL : List S → Bool
  | [] => true
  | .l _ :: _ => false
  | _ :: r => noL r
theorem noL_rs {H : Hp} {R : Addr → Prop} {gs ls ls' : List Addr} : ∀ {ss : List S} {vs : List V}, noL ss = true → Paired (RS K H R gs ls) ss vs → Paired (RS K H R gs ls') ss vs
  | [], _, _, .nil => .nil
  | .d x :: r, _, h, .cons q t => .cons q (noL_rs (ss := r) h t)
  | .g x :: r, _, h, .cons q t => .cons q (noL_rs (ss := r) h t)
section
variable {Δ : Sl} {G L : List M} {Qd : Po} {ta : TA} {sp : DSpec} {E0' : XK}
def callee (w : W) (ls : List Addr) (H : Hp) : W := ⟨Rg w ls, w.gs, H⟩
theorem Ctx.callee {w : W} {ls : List Addr} {σ : L2.St} {H : Hp} (c : Ctx K w ls σ H Δ G L) : Ctx K (DL.callee w ls H) [] [] H [] G [] := by
  have g : Grow H H (Rg w ls) (Rg (DL.callee w ls H) []) := grow_iff fun a r => r.elim id (fun z => by cases z)
  refine ⟨fun a h => .inl (c.reg a h), fun a r => ?_, by rw [List.append_nil]; exact (List.nodup_append.mp c.nd).1, fun _ h => (by cases h), fun a o h _ => h, ⟨rfl, fun i s e => by simp at e⟩,
    paired_map c.gl fun a m _ q => q.grow g (Pre.refl _) (Pre.refl _) fun _ z => z, .nil, fun _ h => (by cases h)⟩
  rcases r with r | r
  · exact c.rin a r
  · exact c.lin r
theorem Ctx.back {w : W} {ls : List Addr} {σ : L2.St} {H H' : Hp} {G' ms : List M} {ps : List Addr} (c : Ctx K w ls σ H Δ G L) (c' : Ctx K (DL.callee w ls H) ps [] H' [] G' ms) : Ctx K w ls σ H' Δ G' L ∧ Ext w ls H H' := by
  have e : ∀ a o, H a = some o → a ∉ w.gs → H' a = some o := c'.h0
  have e2 : Ext w ls H H' := fun a o h n _ => e a o h n
  have g := e2.grow c.reg
  have nl : ∀ a ∈ ls, a ∉ w.gs := fun a h z => (List.nodup_append.mp c.nd).2.2 a z a h rfl
  have g3 : Grow H' H' (Rg (DL.callee w ls H) ps) (Rg w ls) := grow_iff fun a r => .inl r
  refine ⟨⟨c.reg, fun a r => c'.rin a (.inl r), c.nd, c.fr, fun a o h n => e a o (c.h0 a o h n) n, c.sl.grow g (Pre.refl _) (Pre.refl _),
    paired_map c'.gl fun a m _ q => q.grow g3 (Pre.refl _) (Pre.refl _) (fun _ z => z), paired_map c.lo fun a m ha q => q.grow g (Pre.refl _) (Pre.refl _) (fun o h => e a o h (nl a ha)), c.ld⟩, e2⟩
theorem new_free {w : W} {ls : List Addr} {σ : L2.St} {H H' : Hp} {G' ms : List M} {ps : List Addr} (c : Ctx K w ls σ H Δ G L) (c' : Ctx K (DL.callee w ls H) ps [] H' [] G' ms) {p : Addr} (hp : p ∈ ps) : H p = none ∧ ¬ Rg w ls p := ⟨c'.fr p hp, c.free (c'.fr p hp)⟩
theorem dat_rep {w : W} {ls : List Addr} {σ : L2.St} {H H' : Hp} {G' ms : List M} {ps : List Addr} (c : Ctx K w ls σ H Δ G L) (c' : Ctx K (DL.callee w ls H) ps [] H' [] G' ms) {k : Nat} {p : Addr} {m : M} {x : D} (hp : ps[k]? = some p) (hm : ms[k]? = some m) (hx : m.dat = some x) : Rep K H' (Rg w ls) x (.ref p) := by
  obtain ⟨_, nR⟩ := new_free c c' (List.mem_of_getElem? hp)
  obtain ⟨a, ha, q⟩ := paired_get c'.lo hm
  rw [hp] at ha
  cases ha
  have g3 : Grow H' H' (Rg (DL.callee w ls H) ps) (Rg w ls) := grow_iff fun a r => .inl r
  cases m with
  | pl ds =>
    cases hx
    obtain ⟨vs, h1, r⟩ := q
    exact ⟨p, vs, rfl, ⟨h1, nR⟩, r.grow g3⟩
  | hl xs => cases hx
  | dc ds =>
    cases hx
    obtain ⟨vs, h1, r⟩ := q
    exact ⟨p, vs, rfl, ⟨h1, nR⟩, r.grow g3⟩
  | ob C ds =>
    cases hx
    obtain ⟨dx, vs, h1, r⟩ := q
    exact ⟨p, dx, vs, rfl, ⟨h1, nR⟩, r.grow g3⟩
  | dh kvs => cases hx
  | dt kvs => cases hx
  | dz od kvs => cases hx
  | og C fs => cases hx
  | dq kvs => cases hx
def asV (Qd : Po) (L : List M) : Res → List M → Prop
  | .v s, G => Qd s G L
  | .new ms k, G => ∃ m x, ms[k]? = some m ∧ m.dat = some x ∧ Qd (.d x) G L
theorem sp_call {w : W} {ls : List Addr} {σ : L2.St} {H : Hp} {ss : List S} {vs : List V} {Q : VK} {E : XK} (c : Ctx K w ls σ H Δ G L) (r : Paired (RS K H (Rg w ls) w.gs ls) ss vs) (hn : noL ss = true) (h : sp ss G (asV Qd L)) (q : Ret K w ls σ Δ H Qd Q) : spD K sp vs H Q E := by
  have g : Grow H H (Rg w ls) (Rg (DL.callee w ls H) []) := grow_iff fun a r => r.elim id (fun z => by cases z)
  have g' : ∀ H', Grow H' H' (Rg (DL.callee w ls H) []) (Rg w ls) := fun H' => grow_iff fun a r => .inl r
  refine ⟨DL.callee w ls H, ss, G, asV Qd L, rfl, c.callee, paired_map (noL_rs hn r) fun a b _ z => z.grow g (Pre.refl _) (Pre.refl _), h, fun v s H' G' c' rs k => ?_, fun ps j p ms H' G' c' hp k => ?_⟩
  · obtain ⟨cb, eb⟩ := c.back c'
    exact q v s H' G' L cb eb (RS.grow (g' H') (Pre.refl _) (Pre.nil _) rs) k
  · obtain ⟨m, x, hm, hx, k⟩ := k
    obtain ⟨cb, eb⟩ := c.back c'
    exact q _ (.d x) H' G' L cb eb (dat_rep c c' hp hm hx) k
theorem evc_call (h : EvA K ta Δ G L fun ss G1 L1 => noL ss = true ∧ sp ss G1 (asV Qd L1)) : EvC K (tCall (spD K sp) [] E0' ta) Δ G L Qd := fun w ls σ H c Q r => h w ls σ H c _ fun vs ss H2 G2 L2 c2 e2 r2 ⟨hn, k⟩ => by
  show spD K sp (vs ++ []) H2 Q E0'
  rw [List.append_nil]
  exact sp_call c2 r2 hn k (r.ext e2)
def S.shift (n : Nat) : S → S
  | .l k => .l (n + k)
  | s => s
def M.shift (n : Nat) : M → M
  | .hl xs => .hl (xs.map (S.shift n))
  | .dh kvs => .dh (kvs.map fun p => (p.1, p.2.shift n))
  | .og C fs => .og C (fs.map fun p => (p.1, p.2.shift n))
  | .dq kvs => .dq (kvs.map fun p => (p.1, p.2.shift n))
  | m => m
theorem RS.shift {H : Hp} {R R' : Addr → Prop} {gs ls ps : List Addr} (g : Grow H H R R') : ∀ {s : S} {v : V}, RS K H R gs ps s v → RS K H R' gs (ls ++ ps) (s.shift ls.length) v
  | .d _, _, q => Rep.grow g q
  | .g _, _, q => q
  | .l k, _, ⟨b, hb, e⟩ => by
    refine ⟨b, ?_, e⟩
    rw [List.getElem?_append_right (Nat.le_add_right _ _), Nat.add_sub_cancel_left]
    exact hb
theorem paired_map2' {α β γ : Type} {F : α → β → Prop} {F' : γ → β → Prop} {f : α → γ} : ∀ {as : List α} {bs : List β}, Paired F as bs → (∀ a b, F a b → F' (f a) b) → Paired F' (as.map f) bs
  | _, _, .nil, _ => .nil
  | _, _, .cons h t, k => .cons (k _ _ h) (paired_map2' t k)
theorem MOk.shift {H : Hp} {R R' : Addr → Prop} {gs ls ps : List Addr} (g : Grow H H R R') {a : Addr} : ∀ {m : M}, MOk K H R gs ps a m → MOk K H R' gs (ls ++ ps) a (m.shift ls.length)
  | .pl _, ⟨vs, h, r⟩ => ⟨vs, h, RepL.grow g r⟩
  | .hl xs, ⟨vs, h, r⟩ => ⟨vs, h, by
    clear h
    induction r with
    | nil => exact .nil
    | cons q t ih =>
      refine .cons ?_ ih
      rename_i s v ss vs
      cases s with
      | d x => exact Rep.grow g q
      | g k => exact q
      | l k =>
        obtain ⟨b, hb, e⟩ := q
        refine ⟨b, ?_, e⟩
        rw [List.getElem?_append_right (Nat.le_add_right _ _), Nat.add_sub_cancel_left]
        exact hb⟩
  | .dc _, ⟨vs, h, r⟩ => ⟨vs, h, RepK.grow g r⟩
  | .ob _ _, ⟨dx, vs, h, r⟩ => ⟨dx, vs, h, RepF.grow g r⟩
  | .dh _, ⟨vs, h, r⟩ => ⟨vs, h, paired_map2' r fun _ _ q => ⟨q.1, q.2.shift g⟩⟩
  | .dt _, h => h
  | .dz _ _, h => h
  | .og _ _, ⟨dx, vs, h, r⟩ => ⟨dx, vs, h, paired_map2' r fun _ _ q => ⟨q.1, q.2.shift g⟩⟩
  | .dq _, ⟨vs, h, r⟩ => ⟨vs, h, paired_map2' r fun _ _ q => ⟨q.1, q.2.shift g⟩⟩
theorem paired_map2 {α β γ : Type} {F : α → β → Prop} {F' : α → γ → Prop} {f : β → γ} : ∀ {as : List α} {bs : List β}, Paired F as bs → (∀ a b, F a b → F' a (f b)) → Paired F' as (bs.map f)
  | _, _, .nil, _ => .nil
  | _, _, .cons h t, k => .cons (k _ _ h) (paired_map2 t k)
theorem Ctx.adopt {w : W} {ls : List Addr} {σ : L2.St} {H H' : Hp} {G' ms : List M} {ps : List Addr} (c : Ctx K w ls σ H Δ G L) (c' : Ctx K (DL.callee w ls H) ps [] H' [] G' ms) : Ctx K w (ls ++ ps) σ H' Δ G' (L ++ ms.map (M.shift L.length)) ∧ Grow H H' (Rg w ls) (Rg w (ls ++ ps)) := by
  have e : ∀ a o, H a = some o → a ∉ w.gs → H' a = some o := c'.h0
  have hl : ls.length = L.length := paired_len c.lo
  have nl : ∀ a ∈ ls, a ∉ w.gs := fun a h z => (List.nodup_append.mp c.nd).2.2 a z a h rfl
  have nps : ∀ a ∈ ps, H a = none := fun a h => c'.fr a h
  have g : Grow H H' (Rg w ls) (Rg w (ls ++ ps)) := ⟨fun a o h n => e a o h (fun z => n (.inl (c.reg a z))), fun a o h r => by
    rcases r with r | r
    · exact .inl r
    · rcases List.mem_append.mp r with r | r
      · exact .inr r
      · rw [nps a r] at h
        cases h⟩
  have g3 : Grow H' H' (Rg (DL.callee w ls H) ps) (Rg w (ls ++ ps)) := grow_iff fun a r => by
    rcases r with r | r
    · exact .inl (.inl r)
    · rcases List.mem_append.mp r with r | r
      · exact .inl (.inr r)
      · exact .inr r
  refine ⟨⟨c.reg, fun a r => c'.rin a (.inl r), ?_, ?_, fun a o h n => e a o (c.h0 a o h n) n, c.sl.grow g (Pre.refl _) (Pre.app _ _),
    paired_map c'.gl fun a m _ q => q.grow g3 (Pre.refl _) (Pre.refl _) (fun _ z => z), paired_app (paired_map c.lo fun a m ha q => q.grow g (Pre.refl _) (Pre.app _ _) (fun o h => e a o h (nl a ha))) ?_, fun a ha r => (List.mem_append.mp ha).elim (fun z => c.ld a z r) fun z => c.free (nps a z) (.inl r)⟩, g⟩
  · rw [← List.append_assoc]
    refine List.nodup_append.mpr ⟨c.nd, (List.nodup_append.mp c'.nd).2.1, fun a ha b hb z => ?_⟩
    subst z
    have n := nps a hb
    rcases List.mem_append.mp ha with z | z
    · obtain ⟨o, q, _⟩ := c.gin z
      rw [n] at q
      cases q
    · obtain ⟨o, q, _⟩ := c.lin z
      rw [n] at q
      cases q
  · intro a ha
    rcases List.mem_append.mp ha with z | z
    · exact c.fr a z
    · exact c.free0 (nps a z)
  · rw [← hl]
    exact paired_map2 c'.lo fun a m q => q.shift g3
theorem st_ownB {i : Nat} {E : EndsD} (h : EvA K ta Δ G L fun ss G1 L1 => noL ss = true ∧ sp ss G1 fun r G2 => ∃ ms k, r = .new ms k ∧ E.nx (Δ.set i (some (.l (L1.length + k)))) G2 (L1 ++ ms.map (M.shift L1.length))) : StC K (tAsg (tCall (spD K sp) [] E0' ta) (gName i)) Δ G L E := fun w ls σ H c D s => h w ls σ H c _ fun vs ss H2 G2 L2 c2 e2 r2 ⟨hn, k⟩ => by
  show spD K sp (vs ++ []) H2 _ E0'
  rw [List.append_nil]
  have g : Grow H2 H2 (Rg w ls) (Rg (DL.callee w ls H2) []) := grow_iff fun a r => r.elim id (fun z => by cases z)
  refine ⟨DL.callee w ls H2, ss, G2, _, rfl, c2.callee, paired_map (noL_rs hn r2) fun a b _ z => z.grow g (Pre.refl _) (Pre.refl _), k, fun v z H' G' c' rs ⟨ms, j, e, _⟩ => (by cases e), fun ps j p ms H' G' c' hp ⟨ms', j', e, k⟩ => ?_⟩
  cases e
  obtain ⟨ca, ga⟩ := c2.adopt c'
  have hl : ls.length = L2.length := paired_len c2.lo
  refine s.nx (ls ++ ps) _ H' _ G' _ (ca.slot (s := .l (L2.length + j)) ⟨p, ?_, rfl⟩) ((e2.grow c.reg).trans ga) k
  rw [← hl, List.getElem?_append_right (Nat.le_add_right _ _), Nat.add_sub_cancel_left]
  exact hp
def S.pro : S → S
  | .l k => .g k
  | s => s
def S.dem : S → S
  | .g k => .l k
  | s => s
def M.pro : M → M
  | .hl xs => .hl (xs.map S.pro)
  | .dh kvs => .dh (kvs.map fun p => (p.1, p.2.pro))
  | .og C fs => .og C (fs.map fun p => (p.1, p.2.pro))
  | .dq kvs => .dq (kvs.map fun p => (p.1, p.2.pro))
  | m => m
def M.dem : M → M
  | .hl xs => .hl (xs.map S.dem)
  | .dh kvs => .dh (kvs.map fun p => (p.1, p.2.dem))
  | .og C fs => .og C (fs.map fun p => (p.1, p.2.dem))
  | .dq kvs => .dq (kvs.map fun p => (p.1, p.2.dem))
  | m => m
theorem RS.pro {H : Hp} {R : Addr → Prop} {ls : List Addr} : ∀ {s : S} {v : V}, RS K H R [] ls s v → RS K H R ls [] s.pro v
  | .d _, _, h => h
  | .g _, _, ⟨a, h, _⟩ => by simp at h
  | .l _, _, h => h
theorem RS.dem {H : Hp} {R : Addr → Prop} {ls : List Addr} : ∀ {s : S} {v : V}, RS K H R ls [] s v → RS K H R [] ls s.dem v
  | .d _, _, h => h
  | .l _, _, ⟨a, h, _⟩ => by simp at h
  | .g _, _, h => h
theorem MOk.pro {H : Hp} {R : Addr → Prop} {ls : List Addr} {a : Addr} : ∀ {m : M}, MOk K H R [] ls a m → MOk K H R ls [] a m.pro
  | .pl _, h => h
  | .hl _, ⟨vs, h, r⟩ => ⟨vs, h, by
    clear h
    induction r with
    | nil => exact .nil
    | cons q t ih => exact .cons q.pro ih⟩
  | .dc _, h => h
  | .ob _ _, h => h
  | .dh _, ⟨vs, h, r⟩ => ⟨vs, h, paired_map2' r fun _ _ q => ⟨q.1, q.2.pro⟩⟩
  | .dt _, h => h
  | .dz _ _, h => h
  | .og _ _, ⟨dx, vs, h, r⟩ => ⟨dx, vs, h, paired_map2' r fun _ _ q => ⟨q.1, q.2.pro⟩⟩
  | .dq _, ⟨vs, h, r⟩ => ⟨vs, h, paired_map2' r fun _ _ q => ⟨q.1, q.2.pro⟩⟩
theorem MOk.dem {H : Hp} {R : Addr → Prop} {ls : List Addr} {a : Addr} : ∀ {m : M}, MOk K H R ls [] a m → MOk K H R [] ls a m.dem
  | .pl _, h => h
  | .hl _, ⟨vs, h, r⟩ => ⟨vs, h, by
    clear h
    induction r with
    | nil => exact .nil
    | cons q t ih => exact .cons q.dem ih⟩
  | .dc _, h => h
  | .ob _ _, h => h
  | .dh _, ⟨vs, h, r⟩ => ⟨vs, h, paired_map2' r fun _ _ q => ⟨q.1, q.2.dem⟩⟩
  | .dt _, h => h
  | .dz _ _, h => h
  | .og _ _, ⟨dx, vs, h, r⟩ => ⟨dx, vs, h, paired_map2' r fun _ _ q => ⟨q.1, q.2.dem⟩⟩
  | .dq _, ⟨vs, h, r⟩ => ⟨vs, h, paired_map2' r fun _ _ q => ⟨q.1, q.2.dem⟩⟩
end
end
end DL

namespace DL
open PySem PySem.Spec PyProof.Rows L2
section
variable {K : PySem.W.Frag}
/-! ### sequences -/
def seqG (G L : List M) : S → Option (List D)
  | .d (.tup ds) => some ds
  | .d (.scr ns) => some (ns.map .int)
  | s => lsG G L s
section
variable {w : W} {ls : List Addr} {σ : L2.St} {H : Hp} {Δ : Sl} {G L : List M}
theorem seqG_get {v : V} {s : S} {ds : List D} (c : Ctx K w ls σ H Δ G L) (r : RS K H (Rg w ls) w.gs ls s v) (h : seqG G L s = some ds) : ∃ a vs, v = .ref a ∧ (SqL K H a vs ∨ SqT K H a vs) ∧ RepL K H (Rg w ls) ds vs := by
  unfold seqG at h
  split at h
  · cases h
    obtain ⟨a, xs, rfl, h1, q⟩ := r
    exact ⟨a, xs, rfl, .inr h1.sq, q⟩
  · cases h
    obtain ⟨a, rfl, h1⟩ := r
    exact ⟨a, _, rfl, .inl h1.sq, RepL.ints⟩
  · obtain ⟨a, vs, e, h1, q⟩ := lsG_get c r h
    exact ⟨a, vs, e, .inl (.inl (.inl h1)), q⟩
end
section
variable {Δ : Sl} {G L : List M} {Qd : Po} {Qn : PoN} {te ta tb tc : TE}
/-! ### calls of built-ins -/
def ApC (K : PySem.W.Frag) (r : List V → Hp → VK → Prop) (ss : List S) (Δ : Sl) (G L : List M) (Qd : Po) : Prop :=
  ∀ w ls σ H vs, Ctx K w ls σ H Δ G L → Paired (RS K H (Rg w ls) w.gs ls) ss vs → ∀ Q, Ret K w ls σ Δ H Qd Q → r vs H Q
def ApN (K : PySem.W.Frag) (r : List V → Hp → VK → Prop) (ss : List S) (Δ : Sl) (G L : List M) (Qd : PoN) : Prop :=
  ∀ w ls σ H vs, Ctx K w ls σ H Δ G L → Paired (RS K H (Rg w ls) w.gs ls) ss vs → ∀ Q, RetN K w ls σ Δ H Qd Q → r vs H Q
theorem apn_c {r : List V → Hp → VK → Prop} {ss : List S} (h : ApN K r ss Δ G L fun m G1 L1 => ∃ x, m.dat = some x ∧ Qd (.d x) G1 L1) : ApC K r ss Δ G L Qd :=
  fun w ls σ H vs c rs Q q => h w ls σ H vs c rs Q fun p m H2 G2 L2 _ n e ⟨x, hx, k⟩ => q.go n.c e (s := .d x) (n.dat x hx) k
theorem evc_cb {r : List V → Hp → VK → Prop} {ta : TA} (h : EvA K ta Δ G L fun ss G1 L1 => ApC K r ss Δ G1 L1 Qd) : EvC K (tCB r ta) Δ G L Qd := fun w ls σ H c Q ret => h w ls σ H c _ fun vs ss H2 G2 L2 c2 e2 r2 k => k w ls σ H2 vs c2 r2 Q (ret.ext e2)
theorem evn_cb {r : List V → Hp → VK → Prop} {ta : TA} (h : EvA K ta Δ G L fun ss G1 L1 => ApN K r ss Δ G1 L1 Qn) : EvN K (tCB r ta) Δ G L Qn := fun w ls σ H c Q ret => h w ls σ H c _ fun vs ss H2 G2 L2 c2 e2 r2 k => k w ls σ H2 vs c2 r2 Q (ret.ext c2 e2)
theorem pair1 {F : S → V → Prop} {s : S} {vs : List V} (h : Paired F [s] vs) : ∃ v, vs = [v] ∧ F s v := by
  cases h with
  | cons q t =>
    cases t
    exact ⟨_, rfl, q⟩
theorem pair2 {F : S → V → Prop} {s t : S} {vs : List V} (h : Paired F [s, t] vs) : ∃ v u, vs = [v, u] ∧ F s v ∧ F t u := by
  cases h with
  | cons q t =>
    obtain ⟨u, rfl, r⟩ := pair1 t
    exact ⟨_, _, rfl, q, r⟩
def uLen (K : PySem.W.Frag) : List V → Hp → VK → Prop := fun xs H Q => ∃ x n, xs = [x] ∧ LenV K x H n ∧ Q (.int n) H
theorem uc_len {X : Cx} : CallR X (.builtin "len") (uLen X.K) := call_len
theorem ap_len {s : S} {ds : List D} (h : seqG G L s = some ds) (k : Qd (.d (.int (ds.length : Nat))) G L) : ApC K (uLen K) [s] Δ G L Qd := fun w ls σ H vs c rs Q q => by
  obtain ⟨v, rfl, r⟩ := pair1 rs
  obtain ⟨a, xs, rfl, h1, q1⟩ := seqG_get c r h
  refine ⟨_, ds.length, rfl, ?_, q.go c Ext.refl (s := .d (.int (ds.length : Nat))) rfl k⟩
  rcases h1 with h1 | h1
  · exact .inl ⟨xs, h1, q1.length.symm⟩
  · exact .inr ⟨xs, h1, q1.length.symm⟩
theorem ap_lenS {z : Str} (hz : z.length ≤ sizeLine) (k : Qd (.d (.int (z.length : Nat))) G L) : ApC K (uLen K) [.d (.str z)] Δ G L Qd := fun w ls σ H vs c rs Q q => by
  obtain ⟨v, rfl, r⟩ := pair1 rs
  cases r
  exact ⟨_, z.length, rfl, ⟨hz, rfl⟩, q.go c Ext.refl (s := .d (.int (z.length : Nat))) rfl k⟩
def rListQ (K : PySem.W.Frag) : List V → Hp → VK → Prop := fun xs H Q => ∃ p ys, xs = [.ref p] ∧ (SqL K H p ys ∨ SqT K H p ys) ∧ ∀ l, H l = none → Q (.ref l) (upd H l (.lst ys))
def signsV (z : Str) : List V := z.cps.toList.map fun c => V.str ⟨#[c]⟩
def signsD (z : Str) : List D := z.cps.toList.map fun c => D.str ⟨#[c]⟩
def rListS : List V → Hp → VK → Prop := fun xs H Q => ∃ z, xs = [.str z] ∧ z.length ≤ sizeLine ∧ ∀ l, H l = none → Q (.ref l) (upd H l (.lst (signsV z)))
def uList (K : PySem.W.Frag) : List V → Hp → VK → Prop := fun xs H Q => rListQ K xs H Q ∨ rListS xs H Q
theorem ap_list {s : S} {ds : List D} (h : seqG G L s = some ds) (k : Qn (.pl ds) G L) : ApN K (uList K) [s] Δ G L Qn := fun w ls σ H vs c rs Q q => by
  obtain ⟨v, rfl, r⟩ := pair1 rs
  obtain ⟨a, xs, rfl, h1, q1⟩ := seqG_get c r h
  exact .inl ⟨a, xs, rfl, h1, fun l hl => q l _ _ _ _ hl (newAt_pl c hl q1) (Ext.new hl) k⟩
def uTuple (K : PySem.W.Frag) : List V → Hp → VK → Prop := fun xs H Q => ∃ p ys, xs = [.ref p] ∧ ((SqL K H p ys ∧ ∀ l, H l = none → Q (.ref l) (upd H l (.tup ys))) ∨ (SqT K H p ys ∧ Q (.ref p) H))
theorem ap_tuple {s : S} {ds : List D} (h : lsG G L s = some ds) (k : Qd (.d (.tup ds)) G L) : ApC K (uTuple K) [s] Δ G L Qd := fun w ls σ H vs c rs Q q => by
  obtain ⟨v, rfl, r⟩ := pair1 rs
  obtain ⟨a, xs, rfl, h1, q1⟩ := lsG_get c r h
  exact ⟨a, xs, rfl, .inl ⟨.inl (.inl h1), fun l hl => q.go (c.new hl) (Ext.new hl) (s := .d (.tup ds)) (rep_tup c hl q1) k⟩⟩
def rInt1 : List V → Hp → VK → Prop := fun xs H Q => (∃ i, xs = [.int i] ∧ Q (.int i) H) ∨ ∃ k, xs = [.bl k] ∧ Q (.int (if k then 1 else 0)) H
theorem uc_int {X : Cx} : CallR X (.type "int") rInt1 := call_int1
theorem ap_int {i : Int} (k : Qd (.d (.int i)) G L) : ApC K rInt1 [.d (.int i)] Δ G L Qd := fun w ls σ H vs c rs Q q => by
  obtain ⟨v, rfl, r⟩ := pair1 rs
  cases r
  exact .inl ⟨i, rfl, q.go c Ext.refl (s := .d (.int i)) rfl k⟩
theorem ap_intB {b : Bool} (k : Qd (.d (.int (if b then 1 else 0))) G L) : ApC K rInt1 [.d (.bl b)] Δ G L Qd := fun w ls σ H vs c rs Q q => by
  obtain ⟨v, rfl, r⟩ := pair1 rs
  cases r
  exact .inr ⟨b, rfl, q.go c Ext.refl (s := .d (.int (if b then 1 else 0))) rfl k⟩

/-! ### slices -/
def SlC (K : PySem.W.Frag) (r : V → Option Int → Option Int → Hp → VK → Prop) (x : S) (lo hi : Option Int) (Δ : Sl) (G L : List M) (Qd : Po) : Prop :=
  ∀ w ls σ H vx, Ctx K w ls σ H Δ G L → RS K H (Rg w ls) w.gs ls x vx → ∀ Q, Ret K w ls σ Δ H Qd Q → r vx lo hi H Q
def SlN (K : PySem.W.Frag) (r : V → Option Int → Option Int → Hp → VK → Prop) (x : S) (lo hi : Option Int) (Δ : Sl) (G L : List M) (Qd : PoN) : Prop :=
  ∀ w ls σ H vx, Ctx K w ls σ H Δ G L → RS K H (Rg w ls) w.gs ls x vx → ∀ Q, RetN K w ls σ Δ H Qd Q → r vx lo hi H Q
def EvO (K : PySem.W.Frag) (to : TO) (Δ : Sl) (G L : List M) (Qo : Option Int → List M → List M → Prop) : Prop :=
  ∀ w ls σ H, Ctx K w ls σ H Δ G L → ∀ Q : Option Int → Hp → Prop, (∀ o H2 G2 L2, Ctx K w ls σ H2 Δ G2 L2 → Ext w ls H H2 → Qo o G2 L2 → Q o H2) → to σ H Q
theorem evo_none {Qo : Option Int → List M → List M → Prop} (k : Qo none G L) : EvO K tNoPart Δ G L Qo := fun w ls σ H c Q r => r none H G L c Ext.refl k
theorem evo_some {Qo : Option Int → List M → List M → Prop} (h : EvC K te Δ G L fun s G1 L1 => ∃ i, s = .d (.int i) ∧ Qo (some i) G1 L1) : EvO K (tPart te) Δ G L Qo := fun w ls σ H c Q r => h w ls σ H c _ fun v s H2 G2 L2 c2 e2 r2 ⟨i, e, k⟩ => by
  subst e
  exact ⟨i, r2, r (some i) H2 G2 L2 c2 e2 k⟩
theorem evc_sl {r : V → Option Int → Option Int → Hp → VK → Prop} {tl th : TO} (h : EvC K te Δ G L fun x G1 L1 => EvO K tl Δ G1 L1 fun lo G2 L2 => EvO K th Δ G2 L2 fun hi G3 L3 => SlC K r x lo hi Δ G3 L3 Qd) : EvC K (tSl r te tl th) Δ G L Qd :=
  fun w ls σ H c Q ret => h w ls σ H c _ fun v s H2 G2 L2 c2 e2 r2 h2 => h2 w ls σ H2 c2 _ fun lo H3 G3 L3 c3 e3 h3 => h3 w ls σ H3 c3 _ fun hi H4 G4 L4 c4 e4 h4 => h4 w ls σ H4 v c4 ((r2.on c2 e3).on c3 e4) Q (ret.ext (e2.trans (e3.trans e4)))
theorem evn_sl {r : V → Option Int → Option Int → Hp → VK → Prop} {tl th : TO} (h : EvC K te Δ G L fun x G1 L1 => EvO K tl Δ G1 L1 fun lo G2 L2 => EvO K th Δ G2 L2 fun hi G3 L3 => SlN K r x lo hi Δ G3 L3 Qn) : EvN K (tSl r te tl th) Δ G L Qn :=
  fun w ls σ H c Q ret => h w ls σ H c _ fun v s H2 G2 L2 c2 e2 r2 h2 => h2 w ls σ H2 c2 _ fun lo H3 G3 L3 c3 e3 h3 => h3 w ls σ H3 c3 _ fun hi H4 G4 L4 c4 e4 h4 => h4 w ls σ H4 v c4 ((r2.on c2 e3).on c3 e4) Q (ret.ext c4 (e2.trans (e3.trans e4)))
def uSl (K : PySem.W.Frag) : V → Option Int → Option Int → Hp → VK → Prop := fun x lo hi H Q => rSlL K x lo hi H Q ∨ rSlS x lo hi H Q ∨ rSlA K x lo hi H Q
theorem sl_s {z : Str} {lo hi : Option Int} (hz : z.length ≤ sizeLine) (k : Qd (.d (.str (cutS z lo hi))) G L) : SlC K (uSl K) (.d (.str z)) lo hi Δ G L Qd := fun w ls σ H v c r Q q =>
  .inr (.inl ⟨z, r, hz, q.go c Ext.refl (s := .d (.str (cutS z lo hi))) rfl k⟩)
theorem repL_rev {H : Hp} {R : Addr → Prop} : ∀ {ds : List D} {vs : List V}, RepL K H R ds vs → RepL K H R ds.reverse vs.reverse
  | [], _, h => by
    cases h
    rfl
  | d :: ds, _, ⟨y, ys, e, h, r⟩ => by
    subst e
    rw [List.reverse_cons, List.reverse_cons]
    exact (repL_rev r).app (RepL.one h)
/-! ### subscripts of lists with handles, stores -/
def hlG (G L : List M) : S → Option (List S)
  | .l k => match L[k]? with
    | some (.hl ds) => some ds
    | some (.pl ds) => some (ds.map .d)
    | _ => none
  | .g k => match G[k]? with
    | some (.hl ds) => some ds
    | some (.pl ds) => some (ds.map .d)
    | _ => none
  | _ => none
theorem hlG_get {w : W} {ls : List Addr} {σ : L2.St} {H : Hp} {v : V} {s : S} {ds : List S} (c : Ctx K w ls σ H Δ G L) (r : RS K H (Rg w ls) w.gs ls s v) (h : hlG G L s = some ds) : ∃ a vs, v = .ref a ∧ H a = some (.lst vs) ∧ Paired (RS K H (Rg w ls) w.gs ls) ds vs := by
  unfold hlG at h
  split at h
  · rename_i k
    split at h
    · rename_i ds' hk
      cases h
      obtain ⟨a, ha, rfl⟩ := r
      obtain ⟨b, hb, vs, h1, q⟩ := paired_get c.lo hk
      rw [ha] at hb
      cases hb
      exact ⟨a, vs, rfl, h1, q⟩
    · rename_i ds' hk
      cases h
      obtain ⟨a, ha, rfl⟩ := r
      obtain ⟨b, hb, vs, h1, q⟩ := paired_get c.lo hk
      rw [ha] at hb
      cases hb
      exact ⟨a, vs, rfl, h1, repL_rs q⟩
    · cases h
  · rename_i k
    split at h
    · rename_i ds' hk
      cases h
      obtain ⟨a, ha, rfl⟩ := r
      obtain ⟨b, hb, vs, h1, q⟩ := paired_get c.gl hk
      rw [ha] at hb
      cases hb
      exact ⟨a, vs, rfl, h1, paired_map q fun _ _ _ z => z.grow (Grow.refl _ _) (Pre.refl _) (Pre.nil _)⟩
    · rename_i ds' hk
      cases h
      obtain ⟨a, ha, rfl⟩ := r
      obtain ⟨b, hb, vs, h1, q⟩ := paired_get c.gl hk
      rw [ha] at hb
      cases hb
      exact ⟨a, vs, rfl, h1, repL_rs q⟩
    · cases h
  · cases h
theorem atI_some {α : Type} {xs : List α} {i : Int} {x : α} (h : atI xs i = some x) : ∃ j, ixN xs.length i = some j ∧ xs[j]? = some x := by
  unfold atI at h
  cases e : ixN xs.length i with
  | none =>
    rw [e] at h
    cases h
  | some j =>
    rw [e] at h
    exact ⟨j, rfl, h⟩
theorem u_ix_h {x : S} {xs : List S} {i : Int} {s : S} (hx : hlG G L x = some xs) (hi : atI xs i = some s) (k : Qd s G L) : OpC K (rIx K) x (.d (.int i)) Δ G L Qd := fun w ls σ H vx vy c rx ry Q q => by
  obtain ⟨a, vs, rfl, h1, q1⟩ := hlG_get c rx hx
  obtain ⟨j, e, hj⟩ := atI_some hi
  obtain ⟨v, hv, r⟩ := paired_get_l q1 hj
  refine .inl ⟨a, vs, i, v, rfl, ry, .inl (.inl h1), ?_, q.go c Ext.refl r k⟩
  unfold atI
  rw [← paired_len q1, e]
  exact hv
theorem u_ix_g {x : S} {xs : List D} {i : Int} {d : D} (hx : seqG G L x = some xs) (hi : atI xs i = some d) (k : Qd (.d d) G L) : OpC K (rIx K) x (.d (.int i)) Δ G L Qd := fun w ls σ H vx vy c rx ry Q q => by
  obtain ⟨a, vs, rfl, h1, q1⟩ := seqG_get c rx hx
  obtain ⟨j, e, hj⟩ := atI_some hi
  obtain ⟨v, hv, r⟩ := q1.get hj
  have ha : atI vs i = some v := by
    unfold atI
    rw [q1.length, e]
    exact hv
  rcases h1 with h1 | h1
  · exact .inl ⟨a, vs, i, v, rfl, ry, h1, ha, q.go c Ext.refl (s := .d d) r k⟩
  · exact .inr (.inl ⟨a, vs, i, v, rfl, ry, h1, ha, q.go c Ext.refl (s := .d d) r k⟩)
def StoC (K : PySem.W.Frag) (r : TSet) (o i v : S) (Δ : Sl) (G L : List M) (Qt : List M → List M → Prop) : Prop :=
  ∀ w ls σ H vo vi vv, Ctx K w ls σ H Δ G L → RS K H (Rg w ls) w.gs ls o vo → RS K H (Rg w ls) w.gs ls i vi → RS K H (Rg w ls) w.gs ls v vv → ∀ Q : Hp → Prop,
    (∀ H2 G2 L2, Ctx K w ls σ H2 Δ G2 L2 → Ext w ls H H2 → Qt G2 L2 → Q H2) → r vo vi vv H Q
theorem tg_sub {to ti : TE} {t : TSet} {s : S} {Qt : PoT} {ok : Nat → Prop} (h : EvC K to Δ G L fun o G1 L1 => EvC K ti Δ G1 L1 fun i G2 L2 => StoC K t o i s Δ G2 L2 fun G3 L3 => Qt Δ G3 L3) : TgC K (gSub to ti t) ok s Δ G L Qt :=
  fun w ls σ H v c r Q q => h w ls σ H c _ fun vo o H2 G2 L2 c2 e2 r2 h2 => h2 w ls σ H2 c2 _ fun vi i H3 G3 L3 c3 e3 r3 h3 =>
    h3 w ls σ H3 vo vi v c3 (r2.on c2 e3) r3 ((r.on c e2).on c2 e3) _ fun H4 G4 L4 c4 e4 k => q σ H4 Δ G4 L4 c4 (e2.trans (e3.trans e4)) rfl (fun _ _ => rfl) k
theorem repL_set {H : Hp} {R : Addr → Prop} : ∀ {ds : List D} {vs : List V} {j : Nat} {d : D} {v : V}, RepL K H R ds vs → Rep K H R d v → RepL K H R (ds.set j d) (vs.set j v)
  | [], _, _, _, _, h, _ => by
    cases h
    rfl
  | _ :: _, _, 0, _, _, ⟨y, ys, e, h, r⟩, q => by
    subst e
    exact ⟨_, _, rfl, q, r⟩
  | _ :: _, _, j + 1, _, _, ⟨y, ys, e, h, r⟩, q => by
    subst e
    exact ⟨_, _, rfl, h, repL_set r q⟩
theorem sto_lp {k : Nat} {xs : List D} {i : Int} {j : Nat} {x : D} {Qt : List M → List M → Prop} (hx : L[k]? = some (.pl xs)) (hj : ixN xs.length i = some j) (q : Qt G (L.set k (.pl (xs.set j x)))) : StoC K rSetL (.l k) (.d (.int i)) (.d x) Δ G L Qt := fun w ls σ H vo vi vv c ro ri rv Q ret => by
  obtain ⟨a, ha, rfl⟩ := ro
  obtain ⟨b, hb, vs, h1, r⟩ := paired_get c.lo hx
  rw [ha] at hb
  cases hb
  cases ri
  have g : Grow H (upd H a (.lst (vs.set j vv))) (Rg w ls) (Rg w ls) := grow_upd (.inr (List.mem_of_getElem? ha))
  exact ⟨a, vs, i, j, rfl, rfl, h1, by rw [r.length]; exact hj, ret _ _ _ (c.setL (m := .pl _) ha ⟨_, upd_same, (repL_set r rv).grow g⟩) (Ext.setL (List.mem_of_getElem? ha)) q⟩

/-! ### methods -/
def MtC (K : PySem.W.Frag) (r : V → List V → Hp → VK → Prop) (x : S) (ss : List S) (Δ : Sl) (G L : List M) (Qd : Po) : Prop :=
  ∀ w ls σ H vx vs, Ctx K w ls σ H Δ G L → RS K H (Rg w ls) w.gs ls x vx → Paired (RS K H (Rg w ls) w.gs ls) ss vs → ∀ Q, Ret K w ls σ Δ H Qd Q → r vx vs H Q
def tyS (G L : List M) (T : String) (s : S) : Prop := (T = "list" ∧ ((∃ ds, lsG G L s = some ds) ∨ ∃ ds, hlG G L s = some ds)) ∨ (T = "str" ∧ ∃ z, s = .d (.str z))
theorem tyS_ok {w : W} {ls : List Addr} {σ : L2.St} {H : Hp} {T : String} {s : S} {v : V} (c : Ctx K w ls σ H Δ G L) (r : RS K H (Rg w ls) w.gs ls s v) (h : tyS G L T s) : tyV K T v H := by
  rcases h with ⟨rfl, ⟨ds, h⟩ | ⟨ds, h⟩⟩ | ⟨rfl, z, rfl⟩
  · obtain ⟨a, vs, rfl, h1, _⟩ := lsG_get c r h
    exact .inl ⟨rfl, vs, .inl (.inl h1)⟩
  · obtain ⟨a, vs, rfl, h1, _⟩ := hlG_get c r h
    exact .inl ⟨rfl, vs, .inl (.inl h1)⟩
  · cases r
    rfl
theorem evc_bm {T : String} {r : V → List V → Hp → VK → Prop} {to : TE} {t : TA} (h : EvC K to Δ G L fun x G1 L1 => tyS G1 L1 T x ∧ EvA K t Δ G1 L1 fun ss G2 L2 => MtC K r x ss Δ G2 L2 Qd) : EvC K (tBM K T r to t) Δ G L Qd :=
  fun w ls σ H c Q ret => h w ls σ H c _ fun v s H2 G2 L2 c2 e2 r2 ⟨ht, h2⟩ => ⟨tyS_ok c2 r2 ht, h2 w ls σ H2 c2 _ fun vs ss H3 G3 L3 c3 e3 r3 h3 => h3 w ls σ H3 v vs c3 (r2.on c2 e3) r3 Q (ret.ext (e2.trans e3))⟩
theorem evc_bm0 {T : String} {r : V → List V → Hp → VK → Prop} {to : TE} (h : EvC K to Δ G L fun x G1 L1 => tyS G1 L1 T x ∧ MtC K r x [] Δ G1 L1 Qd) : EvC K (tBM0 K T r to) Δ G L Qd :=
  fun w ls σ H c Q ret => h w ls σ H c _ fun v s H2 G2 L2 c2 e2 r2 ⟨ht, h2⟩ => ⟨tyS_ok c2 r2 ht, h2 w ls σ H2 v [] c2 r2 .nil Q (ret.ext e2)⟩
theorem evc_m0 {r : V → List V → Hp → VK → Prop} {to : TE} (h : EvC K to Δ G L fun x G1 L1 => (∃ z, x = .d (.str z)) ∧ MtC K r x [] Δ G1 L1 Qd) : EvC K (tM0 r to) Δ G L Qd :=
  fun w ls σ H c Q ret => h w ls σ H c _ fun v s H2 G2 L2 c2 e2 r2 ⟨⟨z, e⟩, h2⟩ => ⟨by subst e; exact ⟨z, r2⟩, h2 w ls σ H2 v [] c2 r2 .nil Q (ret.ext e2)⟩
theorem evc_m1 {r : V → List V → Hp → VK → Prop} {to ta : TE} (h : EvC K to Δ G L fun x G1 L1 => (∃ z, x = .d (.str z)) ∧ EvC K ta Δ G1 L1 fun y G2 L2 => MtC K r x [y] Δ G2 L2 Qd) : EvC K (tM1 r to ta) Δ G L Qd :=
  fun w ls σ H c Q ret => h w ls σ H c _ fun v s H2 G2 L2 c2 e2 r2 ⟨⟨z, e⟩, h2⟩ => ⟨by subst e; exact ⟨z, r2⟩, h2 w ls σ H2 c2 _ fun vs ss H3 G3 L3 c3 e3 r3 h3 => h3 w ls σ H3 v [vs] c3 (r2.on c2 e3) (.cons r3 .nil) Q (ret.ext (e2.trans e3))⟩
theorem mt_upper_d {z : Str} (hz : z.length ≤ 5592405) (k : Qd (.d (.str (Txt.upper z))) G L) : MtC K (fun x xs H Q => ∃ a, x = .str a ∧ xs = [] ∧ a.length ≤ 5592405 ∧ Q (.str (Txt.upper a)) H) (.d (.str z)) [] Δ G L Qd := fun w ls σ H vo vs c ro rs Q ret => by
  cases rs
  exact ⟨z, ro, rfl, hz, ret.go c Ext.refl (s := .d (.str (Txt.upper z))) rfl k⟩
end
end
end DL

namespace DL
open PySem PySem.Spec PyProof.Rows L2
section
variable {K : PySem.W.Frag}
/-! ### equality of data -/
mutual
def D.py : D → Option PyData
  | .non => some .none
  | .bl b => some (.bool b)
  | .int i => some (.int i)
  | .str x => some (.str x)
  | .tup ds => match pyL ds with
    | some xs => some (.tuple xs)
    | none => none
  | .lst ds => match pyL ds with
    | some xs => some (.list xs)
    | none => none
  | _ => none
def pyL : List D → Option (List PyData)
  | [] => some []
  | d :: ds => match d.py, pyL ds with
    | some x, some xs => some (x :: xs)
    | _, _ => none
end
mutual
theorem rep_dp {H : Hp} {R : Addr → Prop} : ∀ {d : D} {v : V} {p : PyData}, d.py = some p → Rep K H R d v → Dp K H v p
  | .non, _, _, e, h => by
    cases e
    cases h
    exact .non
  | .bl _, _, _, e, h => by
    cases e
    cases h
    exact .bl _
  | .int _, _, _, e, h => by
    cases e
    cases h
    exact .int _
  | .str _, _, _, e, h => by
    cases e
    cases h
    exact .str _
  | .tup ds, _, _, e, ⟨a, xs, e1, h, r⟩ => by
    unfold D.py at e
    split at e
    · rename_i ps hp
      cases e
      subst e1
      exact .tup h.sq (repL_dp hp r)
    · cases e
  | .lst ds, _, _, e, ⟨a, xs, e1, ⟨h, _⟩, r⟩ => by
    unfold D.py at e
    split at e
    · rename_i ps hp
      cases e
      subst e1
      exact .lst (.inl (.inl h)) (repL_dp hp r)
    · cases e
  | .ty _, _, _, e, _ => by cases e
  | .ref _, _, _, e, _ => by cases e
  | .scr _, _, _, e, _ => by cases e
  | .dct _, _, _, e, _ => by cases e
  | .ins _ _, _, _, e, _ => by cases e
  | .exn _ _ _, _, _, e, _ => by cases e
theorem repL_dp {H : Hp} {R : Addr → Prop} : ∀ {ds : List D} {vs : List V} {ps : List PyData}, pyL ds = some ps → RepL K H R ds vs → DpAll K H vs ps
  | [], _, _, e, h => by
    cases e
    cases h
    exact .nil
  | d :: ds, _, _, e, ⟨y, ys, e1, h, r⟩ => by
    unfold pyL at e
    split at e
    · rename_i p ps hp hps
      cases e
      subst e1
      exact .cons (rep_dp hp h) (repL_dp hps r)
    · cases e
end
def valG (G L : List M) : S → Option D
  | .d x => some x
  | .l k => match L[k]? with
    | some (.pl ds) => some (.lst ds)
    | _ => none
  | .g k => match G[k]? with
    | some (.pl ds) => some (.lst ds)
    | _ => none
theorem valG_dp {w : W} {ls : List Addr} {σ : L2.St} {H : Hp} {Δ : Sl} {G L : List M} {v : V} {s : S} {x : D} {p : PyData} (c : Ctx K w ls σ H Δ G L) (r : RS K H (Rg w ls) w.gs ls s v) (h : valG G L s = some x) (hp : x.py = some p) : Dp K H v p := by
  unfold valG at h
  split at h
  · cases h
    exact rep_dp hp r
  · rename_i k
    split at h
    · rename_i ds hk
      cases h
      have q : lsG G L (.l k) = some ds := by
        simp only [lsG, hk]
      obtain ⟨a, vs, rfl, h1, r1⟩ := lsG_get c r q
      unfold D.py at hp
      split at hp
      · rename_i ps hps
        cases hp
        exact .lst (.inl (.inl h1)) (repL_dp hps r1)
      · cases hp
    · cases h
  · rename_i k
    split at h
    · rename_i ds hk
      cases h
      have q : lsG G L (.g k) = some ds := by
        simp only [lsG, hk]
      obtain ⟨a, vs, rfl, h1, r1⟩ := lsG_get c r q
      unfold D.py at hp
      split at hp
      · rename_i ps hps
        cases hp
        exact .lst (.inl (.inl h1)) (repL_dp hps r1)
      · cases hp
    · cases h
def uEq (K : PySem.W.Frag) : R2 := fun x y H Q => rEq x y H Q ∨ rEqD K x y H Q
def uNe (K : PySem.W.Frag) : R2 := fun x y H Q => rNe x y H Q ∨ rNeD K x y H Q
theorem uo_eq {X : Cx} (hu : X.A.units + 64 < cLine) : OpR X (compareOp .Eq) (uEq X.K) := op_eq.or (op_eqD hu)
theorem uo_ne {X : Cx} (hu : X.A.units + 64 < cLine) : OpR X (compareOp .NotEq) (uNe X.K) := op_ne.or (op_neD hu)
section
variable {Δ : Sl} {G L : List M} {Qd : Po}
theorem u_eq_i {i j : Int} (k : Qd (.d (.bl (decide (i = j)))) G L) : OpC K (uEq K) (.d (.int i)) (.d (.int j)) Δ G L Qd := fun w ls σ H vx vy c rx ry Q q => by
  cases rx
  cases ry
  refine .inl ⟨rfl, ?_⟩
  have e : decide (V.int i = V.int j) = decide (i = j) := by simp
  rw [e]
  exact q.go c Ext.refl (s := .d (.bl (decide (i = j)))) rfl k
theorem u_ne_i {i j : Int} (k : Qd (.d (.bl (!decide (i = j)))) G L) : OpC K (uNe K) (.d (.int i)) (.d (.int j)) Δ G L Qd := fun w ls σ H vx vy c rx ry Q q => by
  cases rx
  cases ry
  refine .inl ⟨rfl, ?_⟩
  have e : decide (V.int i = V.int j) = decide (i = j) := by simp
  rw [e]
  exact q.go c Ext.refl (s := .d (.bl (!decide (i = j)))) rfl k
theorem u_eq_s {i j : Str} (k : Qd (.d (.bl (decide (i = j)))) G L) : OpC K (uEq K) (.d (.str i)) (.d (.str j)) Δ G L Qd := fun w ls σ H vx vy c rx ry Q q => by
  cases rx
  cases ry
  refine .inl ⟨rfl, ?_⟩
  have e : decide (V.str i = V.str j) = decide (i = j) := by simp
  rw [e]
  exact q.go c Ext.refl (s := .d (.bl (decide (i = j)))) rfl k
theorem u_ne_s {i j : Str} (k : Qd (.d (.bl (!decide (i = j)))) G L) : OpC K (uNe K) (.d (.str i)) (.d (.str j)) Δ G L Qd := fun w ls σ H vx vy c rx ry Q q => by
  cases rx
  cases ry
  refine .inl ⟨rfl, ?_⟩
  have e : decide (V.str i = V.str j) = decide (i = j) := by simp
  rw [e]
  exact q.go c Ext.refl (s := .d (.bl (!decide (i = j)))) rfl k
theorem u_eq_d {x y : S} {a b : D} {p q : PyData} (hx : valG G L x = some a) (hy : valG G L y = some b) (hp : a.py = some p) (hq : b.py = some q) (sp : SeqAt.shaped p = true) (sq : SeqAt.shaped q = true) (k : Qd (.d (.bl (PyData.eqv p q))) G L) : OpC K (uEq K) x y Δ G L Qd := fun w ls σ H vx vy c rx ry Q ret =>
  .inr ⟨p, q, valG_dp c rx hx hp, valG_dp c ry hy hq, sp, sq, ret.go c Ext.refl (s := .d (.bl (PyData.eqv p q))) rfl k⟩
theorem u_ne_d {x y : S} {a b : D} {p q : PyData} (hx : valG G L x = some a) (hy : valG G L y = some b) (hp : a.py = some p) (hq : b.py = some q) (sp : SeqAt.shaped p = true) (sq : SeqAt.shaped q = true) (k : Qd (.d (.bl (!PyData.eqv p q))) G L) : OpC K (uNe K) x y Δ G L Qd := fun w ls σ H vx vy c rx ry Q ret =>
  .inr ⟨p, q, valG_dp c rx hx hp, valG_dp c ry hy hq, sp, sq, ret.go c Ext.refl (s := .d (.bl (!PyData.eqv p q))) rfl k⟩
theorem py_ints : ∀ ns : List Int, pyL (ns.map D.int) = some (ns.map PyData.int)
  | [] => rfl
  | n :: ns => by
    show (match (D.int n).py, pyL (ns.map D.int) with
      | some x, some xs => some (x :: xs)
      | _, _ => none) = _
    rw [py_ints ns]
    rfl
theorem canLay_ints : ∀ ns : List Int, PyData.canLayAll0 (ns.map PyData.int) = true
  | [] => rfl
  | n :: ns => by
    show (PyData.canLay0 (.int n) && PyData.canLayAll0 (ns.map PyData.int)) = true
    rw [canLay_ints ns]
    rfl
theorem depth_ints : ∀ ns : List Int, PyData.depthAll (ns.map PyData.int) ≤ 1
  | [] => by simp [PyData.depthAll]
  | n :: ns => by
    have := depth_ints ns
    simp only [List.map_cons, PyData.depthAll, PyData.depth]
    omega
theorem shaped_ints (ns : List Int) : SeqAt.shaped (.list (ns.map PyData.int)) = true := by
  have h := depth_ints ns
  unfold SeqAt.shaped
  rw [Bool.and_eq_true]
  refine ⟨canLay_ints ns, decide_eq_true ?_⟩
  simp only [PyData.depth]
  omega
theorem shaped_nil : SeqAt.shaped (.list []) = true := by decide
theorem lsG_val {s : S} {ds : List D} (h : lsG G L s = some ds) : valG G L s = some (.lst ds) := by
  unfold lsG at h
  split at h
  · cases h
    rfl
  · split at h
    · rename_i hk
      cases h
      simp only [valG, hk]
    · cases h
  · split at h
    · rename_i hk
      cases h
      simp only [valG, hk]
    · cases h
  · cases h
theorem u_ne_nil {x y : S} {ns : List Int} (hx : lsG G L x = some (ns.map D.int)) (hy : lsG G L y = some []) (k : Qd (.d (.bl (!ns.isEmpty))) G L) : OpC K (uNe K) x y Δ G L Qd := by
  have e : PyData.eqv (.list (ns.map PyData.int)) (.list []) = ns.isEmpty := by
    cases ns <;> rfl
  refine u_ne_d (lsG_val hx) (lsG_val hy) (by unfold D.py; rw [py_ints]) (by rfl) (shaped_ints ns) shaped_nil ?_
  rw [e]
  exact k
theorem u_eq_nil {x y : S} {ns : List Int} (hx : lsG G L x = some (ns.map D.int)) (hy : lsG G L y = some []) (k : Qd (.d (.bl ns.isEmpty)) G L) : OpC K (uEq K) x y Δ G L Qd := by
  have e : PyData.eqv (.list (ns.map PyData.int)) (.list []) = ns.isEmpty := by
    cases ns <;> rfl
  refine u_eq_d (lsG_val hx) (lsG_val hy) (by unfold D.py; rw [py_ints]) (by rfl) (shaped_ints ns) shaped_nil ?_
  rw [e]
  exact k
/-! membership: ints in ints, texts in texts -/
def uIn (K : PySem.W.Frag) (neg : Bool) : R2 := fun x y H Q => rIn K neg x y H Q ∨ ∃ (c : Nat) (z : Str), x = .str ⟨#[c]⟩ ∧ y = .str z ∧ Q (.bl (if neg then !decide (c ∈ z.cps.toList) else decide (c ∈ z.cps.toList))) H
theorem flat_ints (ns : List Int) : (ns.map V.int).all flatV = true := by
  rw [List.all_map, List.all_eq_true]
  intro x _
  rfl
theorem flat_strs (ns : List Str) : (ns.map V.str).all flatV = true := by
  rw [List.all_map, List.all_eq_true]
  intro x _
  rfl
theorem inV_ints {i : Int} {ns : List Int} : inV (.int i) (ns.map V.int) = decide (i ∈ ns) := by
  unfold inV
  induction ns with
  | nil => rfl
  | cons a r ih =>
    rw [List.map_cons, List.any_cons, ih]
    have : eqV (.int a) (.int i) = decide (i = a) := by
      show (a == i) = decide (i = a)
      by_cases h : a = i
      · subst h
        rw [decide_eq_true rfl]
        exact beq_self_eq_true a
      · rw [decide_eq_false (fun z => h z.symm)]
        exact beq_eq_false_iff_ne.mpr h
    rw [this, Bool.eq_iff_iff]
    simp only [Bool.or_eq_true, decide_eq_true_eq, List.mem_cons]
theorem inV_strs {i : Str} {ns : List Str} : inV (.str i) (ns.map V.str) = decide (i ∈ ns) := by
  unfold inV
  induction ns with
  | nil => rfl
  | cons a r ih =>
    rw [List.map_cons, List.any_cons, ih]
    have : eqV (.str a) (.str i) = decide (i = a) := by
      show (a == i) = decide (i = a)
      by_cases h : a = i
      · subst h
        rw [decide_eq_true rfl]
        exact beq_self_eq_true a
      · rw [decide_eq_false (fun z => h z.symm)]
        exact beq_eq_false_iff_ne.mpr h
    rw [this, Bool.eq_iff_iff]
    simp only [Bool.or_eq_true, decide_eq_true_eq, List.mem_cons]
theorem u_in_i {neg : Bool} {i : Int} {y : S} {ns : List Int} (hy : seqG G L y = some (ns.map D.int)) (k : Qd (.d (.bl (if neg then !decide (i ∈ ns) else decide (i ∈ ns)))) G L) : OpC K (uIn K neg) (.d (.int i)) y Δ G L Qd := fun w ls σ H vx vy c rx ry Q q => by
  cases rx
  obtain ⟨a, vs, rfl, h1, q1⟩ := seqG_get c ry hy
  have e := RepL.intsV q1
  subst e
  refine .inl ⟨a, _, rfl, h1, rfl, flat_ints ns, ?_⟩
  rw [inV_ints]
  exact q.go c Ext.refl (s := .d (.bl (if neg then !decide (i ∈ ns) else decide (i ∈ ns)))) rfl k
theorem u_in_s {neg : Bool} {i : Str} {y : S} {ns : List Str} (hy : seqG G L y = some (ns.map D.str)) (k : Qd (.d (.bl (if neg then !decide (i ∈ ns) else decide (i ∈ ns)))) G L) : OpC K (uIn K neg) (.d (.str i)) y Δ G L Qd := fun w ls σ H vx vy c rx ry Q q => by
  cases rx
  obtain ⟨a, vs, rfl, h1, q1⟩ := seqG_get c ry hy
  have e := RepL.strsV q1
  subst e
  refine .inl ⟨a, _, rfl, h1, rfl, flat_strs ns, ?_⟩
  rw [inV_strs]
  exact q.go c Ext.refl (s := .d (.bl (if neg then !decide (i ∈ ns) else decide (i ∈ ns)))) rfl k
end
end
end DL

namespace DL
open PySem PySem.Spec PyProof.Rows L2
/-! ### walks over a list, a tuple or a text -/
def iSeq (K : PySem.W.Frag) (tl : TE) : TI := fun σ H R => tl σ H fun x H1 => (∃ a, x = .ref a ∧ (∃ xs, SqL K H1 a xs) ∧ R (Itl K a) H1) ∨ (∃ a, x = .ref a ∧ (∃ xs, SqT K H1 a xs) ∧ R (Itt K a) H1) ∨ (∃ z, x = .str z ∧ R (Its z) H1)
theorem pi_seq {X : Cx} {tg l : Expr} {tl : TE} (hl : PE X l tl) : PI X tg l (iSeq X.K tl) := by
  refine ⟨fun pins s σ H R I h => ?_⟩
  refine thn (hl.run pins s σ H _ I h) fun v s1 ⟨x, H1, I1, r1, q1⟩ => ?_
  rcases q1 with ⟨a, e, ⟨xs, hq⟩, q⟩ | ⟨a, e, ⟨xs, hq⟩, q⟩ | ⟨z, e, q⟩
  · subst e
    cases r1
    obtain ⟨its, rv, p, hz⟩ := I1.list hq
    refine wpAny_pyIter_list p.isList ?_
    refine ⟨s1.heap.objs.size, [s1.heap.objs.size], _, _, H1, rfl, I1.kept (t' := s1.toks) fun b o e => Heap.get?_push_of_some _ e, turn_list a _, ⟨_, Heap.get?_push_size _ rfl, rfl, rfl⟩, fun b hb => ?_, q⟩
    have e : b = s1.heap.objs.size := by simpa using hb
    subst e
    exact I1.fpOk (Nat.le_refl _) (I1.hok.fresh (Nat.le_refl _))
  · subst e
    cases r1
    obtain ⟨its, rv, p, hz⟩ := I1.tuple hq
    refine wpAny_pyIter_tuple (show s1.heap.IsTuple a its.toArray from p) ?_
    refine ⟨s1.heap.objs.size, [s1.heap.objs.size], _, _, H1, rfl, I1.kept (t' := s1.toks) fun b o e => Heap.get?_push_of_some _ e, turn_tuple a _, ⟨_, Heap.get?_push_size _ rfl, rfl, rfl⟩, fun b hb => ?_, q⟩
    have e : b = s1.heap.objs.size := by simpa using hb
    subst e
    exact I1.fpOk (Nat.le_refl _) (I1.hok.fresh (Nat.le_refl _))
  · subst e
    obtain ⟨t, rfl⟩ := r1
    cases ha : z.cps.all (· < 128)
    · exact wpAny_pyIter_wide ha (pi_one (tk := s1.toks) I1 _ (turn_str _ z t "str_iterator" (.inr rfl)) ⟨_, Heap.get?_push_size _ rfl, rfl, rfl⟩ q)
    · exact wpAny_pyIter_ascii ha (pi_one (tk := s1.toks) I1 _ (turn_str _ z t "str_ascii_iterator" (.inl rfl)) ⟨_, Heap.get?_push_size _ rfl, rfl, rfl⟩ q)
section
variable {K : PySem.W.Frag} {Δ : Sl} {G L : List M} {Qd : Po} {te : TE}
def itD : D → Option (List D)
  | .lst ds => some ds
  | .tup ds => some ds
  | .scr ns => some (ns.map .int)
  | .str z => some (signsD z)
  | _ => none
theorem evi_seq {tl : TE} {Qi : List D → List M → List M → Prop} (h : EvC K tl Δ G L fun s G1 L1 => ∃ d ds, s = .d d ∧ itD d = some ds ∧ Qi ds G1 L1) : EvI K (iSeq K tl) Δ G L Qi := fun w ls σ H c R q =>
  h w ls σ H c _ fun v s H2 G2 L2 c2 e2 r2 ⟨d, ds, e, hd, k⟩ => by
    subst e
    unfold itD at hd
    split at hd
    · cases hd
      obtain ⟨a, vs, rfl, ⟨h1, n1⟩, r1⟩ := r2
      refine .inl ⟨a, rfl, ⟨vs, .inl (.inl h1)⟩, q _ H2 _ G2 L2 c2 e2 ⟨fun H3 w2 ls2 σ2 Δ2 G3 L3 i d g c3 hi => ?_, fun H3 w2 ls2 g => ?_⟩ k⟩
      · obtain ⟨x, hx, rx⟩ := (r1.grow g).get hi
        have h3 := g.keep a _ h1 n1
        refine ⟨⟨vs, x, .inl (.inl h3), hx⟩, fun y H' ⟨hH, hy⟩ => ?_⟩
        subst hH
        have e := hy vs (.inl (.inl h3))
        rw [hx] at e
        cases e
        exact ⟨c3, Ext.refl, rx⟩
      · exact ⟨vs, .inl (.inl (g.keep a _ h1 n1)), Nat.le_of_eq r1.length⟩
    · cases hd
      obtain ⟨a, vs, rfl, h1, r1⟩ := r2
      refine .inr (.inl ⟨a, rfl, ⟨vs, h1.sq⟩, q _ H2 _ G2 L2 c2 e2 ⟨fun H3 w2 ls2 σ2 Δ2 G3 L3 i d g c3 hi => ?_, fun H3 w2 ls2 g => ?_⟩ k⟩)
      · obtain ⟨x, hx, rx⟩ := (r1.grow g).get hi
        have h3 := (h1.grow g).sq
        refine ⟨⟨vs, x, h3, hx⟩, fun y H' ⟨hH, hy⟩ => ?_⟩
        subst hH
        have e := hy vs h3
        rw [hx] at e
        cases e
        exact ⟨c3, Ext.refl, rx⟩
      · exact ⟨vs, (h1.grow g).sq, Nat.le_of_eq r1.length⟩
    · rename_i ns _hh
      cases hd
      obtain ⟨a, rfl, h1⟩ := r2
      refine .inl ⟨a, rfl, ⟨_, h1.sq⟩, q _ H2 _ G2 L2 c2 e2 ⟨fun H3 w2 ls2 σ2 Δ2 G3 L3 i d g c3 hi => ?_, fun H3 w2 ls2 g => ?_⟩ k⟩
      · have h3 := (h1.grow g).sq
        obtain ⟨x, hx, rx⟩ := (RepL.ints (K := K) (H := H3) (R := Rg w2 ls2)).get hi
        refine ⟨⟨_, x, h3, hx⟩, fun y H' ⟨hH, hy⟩ => ?_⟩
        subst hH
        have e := hy _ h3
        rw [hx] at e
        cases e
        exact ⟨c3, Ext.refl, rx⟩
      · exact ⟨_, (h1.grow g).sq, by rw [List.length_map, List.length_map]; exact Nat.le_refl _⟩
    · rename_i z _hh
      cases hd
      cases r2
      have hsz : (signsD z).length = z.cps.size := by
        unfold signsD
        rw [List.length_map, Array.length_toList]
      refine .inr (.inr ⟨z, rfl, q _ H2 _ G2 L2 c2 e2 ⟨fun H3 w2 ls2 σ2 Δ2 G3 L3 i d g c3 hi => ?_, fun H3 w2 ls2 g => by show z.cps.size ≤ _; rw [hsz]; exact Nat.le_refl _⟩ k⟩)
      have hlt := (List.getElem?_eq_some_iff.mp hi).1
      rw [hsz] at hlt
      refine ⟨hlt, fun y H' ⟨hH, c, hc, hy⟩ => ?_⟩
      subst hH
      subst hy
      refine ⟨c3, Ext.refl, ?_⟩
      unfold signsD at hi
      rw [List.getElem?_map, Array.getElem?_toList, hc] at hi
      cases hi
      rfl
    · cases hd
/-! texts times ints -/
end
section
variable {K : PySem.W.Frag} {Δ : Sl} {G L : List M} {E : EndsD}
end
theorem law_sp {K : PySem.W.Frag} {sp : DSpec} {H : Hp} {a : Addr} {ns : List Int} {E : XK} (h : sp [.d (.scr ns)] [] (fun r _ => r = .v (.d (.bl true)))) (hS : SqL K H a (ns.map V.int)) : spD K sp [.ref a] H (fun v _ => v = .bl true) E := by
  refine ⟨⟨fun _ => False, [], H⟩, [.d (.scr ns)], [], _, rfl, ⟨fun _ h => (by cases h), fun _ h => h.elim, List.nodup_nil, fun _ h => (by cases h), fun a o h _ => h, ⟨rfl, fun i s e => by simp at e⟩, .nil, .nil, fun _ h => (by cases h)⟩, .cons ⟨a, rfl, ?_⟩ .nil, h, ?_, ?_⟩
  · rcases hS with h | h
    · exact .inl ⟨h, fun r => r.elim (fun z => z) (fun z => by cases z)⟩
    · exact .inr (.inr h)
  · intro v s H' G' c r e
    cases e
    exact r
  · intro ps k p ms H' G' c hp e
    cases e
end DL
namespace DL
open PySem PySem.Spec PyProof.Rows L2
theorem iteTT {A B : Prop} (h : A) : if true = true then A else B := by
  rw [if_pos rfl]
  exact h
theorem iteFF {A B : Prop} (h : B) : if false = true then A else B := by
  rw [if_neg Bool.false_ne_true]
  exact h
theorem iteD {p : Prop} [Decidable p] {A B : Prop} (h1 : p → A) (h2 : ¬ p → B) : if decide p = true then A else B := by
  by_cases h : p
  · rw [decide_eq_true h]
    exact iteTT (h1 h)
  · rw [decide_eq_false h]
    exact iteFF (h2 h)
end DL
namespace DL
open PySem PySem.Spec PyProof.Rows L2
section
variable {G L : List M} {k : Nat} {xs : List S} {ds : List D}
theorem hlG_g (h : G[k]? = some (.hl xs)) : hlG G L (.g k) = some xs := by
  simp only [hlG, h]
theorem lsG_g (h : G[k]? = some (.pl ds)) : lsG G L (.g k) = some ds := by
  simp only [lsG, h]
theorem lsG_l (h : L[k]? = some (.pl ds)) : lsG G L (.l k) = some ds := by
  simp only [lsG, h]
theorem seqG_g (h : G[k]? = some (.pl ds)) : seqG G L (.g k) = some ds := lsG_g (L := L) h
theorem seqG_l (h : L[k]? = some (.pl ds)) : seqG G L (.l k) = some ds := lsG_l (G := G) h
theorem tyS_g (h : G[k]? = some (.pl ds)) : tyS G L "list" (.g k) := .inl ⟨rfl, .inl ⟨_, lsG_g h⟩⟩
theorem tyS_l (h : L[k]? = some (.pl ds)) : tyS G L "list" (.l k) := .inl ⟨rfl, .inl ⟨_, lsG_l h⟩⟩
theorem set_at {α : Type} {l : List α} {k : Nat} {x y : α} (h : l[k]? = some y) : (l.set k x)[k]? = some x := by
  rw [List.getElem?_set_self (List.getElem?_eq_some_iff.mp h).1]
theorem set_off {α : Type} {l : List α} {k j : Nat} {x : α} (h : j ≠ k) : (l.set k x)[j]? = l[j]? := List.getElem?_set_ne (Ne.symm h)
theorem set_same {α : Type} {l : List α} {k : Nat} {x : α} (h : l[k]? = some x) : l.set k x = l := by
  refine List.ext_getElem? fun i => ?_
  by_cases e : i = k
  · subst e
    rw [set_at h, h]
  · rw [set_off e]
theorem set_comm {α : Type} {l : List α} {k j : Nat} {x y : α} (h : k ≠ j) : (l.set k x).set j y = (l.set j y).set k x := List.set_comm x y h
theorem set_set {α : Type} {l : List α} {k : Nat} {x y : α} : (l.set k x).set k y = l.set k y := List.set_set ..
end
end DL
namespace DL
open PySem PySem.Spec PyProof.Rows L2
section
variable {K : PySem.W.Frag} {Δ : Sl} {G L : List M} {Qd : Po} {Qn : PoN}
theorem evc_varX {i : Nat} (h : ∃ s, Δ[i]? = some (some s) ∧ Qd s G L) : EvC K (tVar i) Δ G L Qd := let ⟨_, e, k⟩ := h; evc_var e k
theorem u_ix_hX {x : S} {i : Int} (h : ∃ xs, hlG G L x = some xs ∧ ∃ s, atI xs i = some s ∧ Qd s G L) : OpC K (rIx K) x (.d (.int i)) Δ G L Qd := let ⟨_, e, _, e2, k⟩ := h; u_ix_h e e2 k
theorem u_ix_gX {x : S} {i : Int} (h : ∃ xs, seqG G L x = some xs ∧ ∃ d, atI xs i = some d ∧ Qd (.d d) G L) : OpC K (rIx K) x (.d (.int i)) Δ G L Qd := let ⟨_, e, _, e2, k⟩ := h; u_ix_g e e2 k
theorem ap_lenX {s : S} (h : ∃ ds, seqG G L s = some ds ∧ Qd (.d (.int (ds.length : Nat))) G L) : ApC K (uLen K) [s] Δ G L Qd := let ⟨_, e, k⟩ := h; ap_len e k
theorem ap_listX {s : S} (h : ∃ ds, seqG G L s = some ds ∧ Qn (.pl ds) G L) : ApN K (uList K) [s] Δ G L Qn := let ⟨_, e, k⟩ := h; ap_list e k
theorem ap_tupleX {s : S} (h : ∃ ds, lsG G L s = some ds ∧ Qd (.d (.tup ds)) G L) : ApC K (uTuple K) [s] Δ G L Qd := let ⟨_, e, k⟩ := h; ap_tuple e k
theorem u_ne_nilX {x y : S} (h : lsG G L y = some [] ∧ ∃ ns : List Int, lsG G L x = some (ns.map D.int) ∧ Qd (.d (.bl (!ns.isEmpty))) G L) : OpC K (uNe K) x y Δ G L Qd := let ⟨hy, _, hx, k⟩ := h; u_ne_nil hx hy k
theorem u_eq_nilX {x y : S} (h : lsG G L y = some [] ∧ ∃ ns : List Int, lsG G L x = some (ns.map D.int) ∧ Qd (.d (.bl ns.isEmpty)) G L) : OpC K (uEq K) x y Δ G L Qd := let ⟨hy, _, hx, k⟩ := h; u_eq_nil hx hy k
end
end DL
namespace DL
open PySem PySem.Spec PyProof.Rows L2
theorem le_line {n : Nat} (h : n ≤ 100000) : n ≤ sizeLine := Nat.le_trans h (by decide)
section
variable {K : PySem.W.Frag} {Δ : Sl} {G L : List M} {E : EndsD} {t u : TS}
end
end DL
namespace DL
open PySem PySem.Spec PyProof.Rows L2
section
variable {K : PySem.W.Frag} {Δ : Sl} {G L : List M} {Qd : Po}
theorem opc_powL (i j : Int) (n : Nat) {z : Int} (hj : j = (n : Int)) (hn : n ≤ 1000000) (hi : i.natAbs < 2 ^ 64) (e : i ^ n = z) (k : Qd (.d (.int z)) G L) : OpC K (rI CPow fun i j => .int (i ^ j.toNat)) (.d (.int i)) (.d (.int j)) Δ G L Qd := by
  subst hj
  subst e
  exact opc_Ii (g := fun i j => i ^ j.toNat) ⟨by omega, by omega, hi⟩ k
theorem pow10_6 (k : Qd (.d (.int 1000000)) G L) : OpC K (rI CPow fun i j => .int (i ^ j.toNat)) (.d (.int 10)) (.d (.int 6)) Δ G L Qd := opc_powL 10 6 6 rfl (by decide) (by decide) (by decide +kernel) k
theorem pow10_9 (k : Qd (.d (.int 1000000000)) G L) : OpC K (rI CPow fun i j => .int (i ^ j.toNat)) (.d (.int 10)) (.d (.int 9)) Δ G L Qd := opc_powL 10 9 9 rfl (by decide) (by decide) (by decide +kernel) k
theorem pow10_12 (k : Qd (.d (.int 1000000000000)) G L) : OpC K (rI CPow fun i j => .int (i ^ j.toNat)) (.d (.int 10)) (.d (.int 12)) Δ G L Qd := opc_powL 10 12 12 rfl (by decide) (by decide) (by decide +kernel) k
theorem pow10_15 (k : Qd (.d (.int 1000000000000000)) G L) : OpC K (rI CPow fun i j => .int (i ^ j.toNat)) (.d (.int 10)) (.d (.int 15)) Δ G L Qd := opc_powL 10 15 15 rfl (by decide) (by decide) (by decide +kernel) k
theorem pow10_18 (k : Qd (.d (.int 1000000000000000000)) G L) : OpC K (rI CPow fun i j => .int (i ^ j.toNat)) (.d (.int 10)) (.d (.int 18)) Δ G L Qd := opc_powL 10 18 18 rfl (by decide) (by decide) (by decide +kernel) k
theorem pow10_39 (k : Qd (.d (.int 1000000000000000000000000000000000000000)) G L) : OpC K (rI CPow fun i j => .int (i ^ j.toNat)) (.d (.int 10)) (.d (.int 39)) Δ G L Qd := opc_powL 10 39 39 rfl (by decide) (by decide) (by decide +kernel) k
end
end DL
namespace DL
open PySem PySem.Spec PyProof.Rows L2
theorem mulL {i j : Int} (h1 : -(2 ^ 64) < i) (h2 : i < 2 ^ 64) : CMul i j := Or.inl ⟨h1, h2⟩
theorem mulR {i j : Int} (h1 : -(2 ^ 64) < j) (h2 : j < 2 ^ 64) : CMul i j := Or.inr ⟨h1, h2⟩
theorem divW {i j : Int} (h1 : 0 < j) (h2 : j < 2 ^ 64) : CDivW i j := wide_div (b := 64) h1 (by omega) (by decide) (by decide)
end DL
namespace DL
open PySem PySem.Spec PyProof.Rows L2
end DL
namespace DL
open PySem PySem.Spec PyProof.Rows L2
section
variable {K : PySem.W.Frag} {Δ : Sl} {G L : List M} {Qn : PoN} {wi : TI} {g : TG} {tt : TT} {te : TE} {vs : List Nat}
end
end DL
namespace DL
open PySem PySem.Spec PyProof.Rows L2
theorem atI_of {α : Type} {xs : List α} {i : Int} {j : Nat} {x : α} (h : xs[j]? = some x) (e : i = (j : Int)) : atI xs i = some x := by
  subst e
  have hj := (List.getElem?_eq_some_iff.mp h).1
  unfold atI ixN
  rw [if_pos (by omega), if_pos (by omega)]
  exact h
end DL

namespace DL
open PySem PySem.Spec PyProof.Rows L2
/-! ### dicts of the top, with texts as keys -/
def DLit (K : PySem.W.Frag) (w : World) (a : Addr) (ks : List (Str × V)) : Prop := ∃ es n, K.lookup a = some ⟨.type "dict", none, .dict es n, #[]⟩ ∧ (a == sysModules) = false ∧
  Paired (fun (e : DictEntry) (p : Str × V) => (∃ t, e.key = .str p.1 t) ∧ e.hash = PyData.keyHash w.params p.1 ∧ RelV p.2 e.val) es.toList ks
theorem dlit_keys {w : World} : ∀ {es : List DictEntry} {ks : List (Str × V)}, Paired (fun (e : DictEntry) (p : Str × V) => (∃ t, e.key = .str p.1 t) ∧ e.hash = PyData.keyHash w.params p.1 ∧ RelV p.2 e.val) es ks → PySem.W.KeysLit w.params es
  | _, _, .nil => trivial
  | _, _, .cons ⟨⟨t, h1⟩, h2, _⟩ r => ⟨⟨_, t, h1, h2⟩, dlit_keys r⟩
theorem dlit_find {w : World} {z : Str} : ∀ {es : List DictEntry} {ks : List (Str × V)}, Paired (fun (e : DictEntry) (p : Str × V) => (∃ t, e.key = .str p.1 t) ∧ e.hash = PyData.keyHash w.params p.1 ∧ RelV p.2 e.val) es ks →
    es.any (·.refKey) = false ∧ (match ks.find? (fun p => p.1 == z) with
      | some p => ∃ e, es.find? (·.key.isStr z) = some e ∧ RelV p.2 e.val
      | none => es.find? (·.key.isStr z) = none)
  | _, _, .nil => ⟨rfl, rfl⟩
  | _, _, .cons (a := e) (b := p) ⟨⟨t, h1⟩, h2, h3⟩ r => by
    obtain ⟨i1, i2⟩ := dlit_find (z := z) r
    have hk : e.key.isStr z = (p.1 == z) := by
      rw [h1]
      rfl
    refine ⟨?_, ?_⟩
    · rw [List.any_cons, i1]
      have : e.refKey = false := by
        unfold DictEntry.refKey
        rw [h1]
      rw [this]
      rfl
    · rw [List.find?_cons, List.find?_cons, hk]
      cases (p.1 == z) with
      | true => exact ⟨e, rfl, h3⟩
      | false => exact i2
def dGet (ks : List (Str × V)) (z : Str) : Option V := (ks.find? (fun p => p.1 == z)).map (·.2)
theorem DLit.get {K : PySem.W.Frag} {w : World} {a : Addr} {ks : List (Str × V)} (h : DLit K w a ks) {z : Str} {v : V} (e : dGet ks z = some v) : KDct K w a z v := by
  obtain ⟨es, n, h1, h2, h3⟩ := h
  obtain ⟨h4, h5⟩ := dlit_find (z := z) h3
  unfold dGet at e
  cases hf : ks.find? (fun p => p.1 == z) with
  | none =>
    rw [hf] at e
    cases e
  | some p =>
    rw [hf] at e h5
    cases e
    obtain ⟨en, h6, h7⟩ := h5
    refine ⟨es, n, en.val, h1, dlit_keys h3, ?_, h7⟩
    unfold PySem.W.nsIn
    rw [h1]
    show (match es.toList.find? (·.key.isStr z) with
      | some e => some (some e.val)
      | none => if es.toList.any (·.refKey) then none else some none) = _
    rw [h6]
def litD : V → Option D
  | .non => some .non
  | .bl b => some (.bl b)
  | .int i => some (.int i)
  | .str x => some (.str x)
  | .ref a => some (.ref a)
  | .ty n => some (.ty n)
  | _ => none
theorem litD_rep {K : PySem.W.Frag} {H : Hp} {R : Addr → Prop} : ∀ {v : V} {d : D}, litD v = some d → Rep K H R d v
  | .non, _, e => by cases e; rfl
  | .bl _, _, e => by cases e; rfl
  | .int _, _, e => by cases e; rfl
  | .str _, _, e => by cases e; rfl
  | .ref _, _, e => by cases e; rfl
  | .ty _, _, e => by cases e; rfl
  | .byt _, _, e => by cases e
  | .flt _, _, e => by cases e
section
variable {K : PySem.W.Frag} {Δ : Sl} {G L : List M} {E : EndsD} {ta tb : TE}
end
end DL
namespace DL
open PySem PySem.Spec PyProof.Rows L2
section
variable {K : PySem.W.Frag} {Δ : Sl} {G L : List M} {Qd : Po}
/-! forgetting what a text is, keeping its length -/
theorem u_add_sF {i j : Str} (hl : i.length + j.length ≤ 100000) (k : ∀ z : Str, z.length = i.length + j.length → Qd (.d (.str z)) G L) : OpC K (uAdd K) (.d (.str i)) (.d (.str j)) Δ G L Qd :=
  u_add_s (le_line hl) (k _ (PySem.Str.length_append i j))
theorem sl_sF {z : Str} {lo hi : Option Int} (hl : z.length ≤ 100000) (k : ∀ y : Str, y.length ≤ z.length → Qd (.d (.str y)) G L) : SlC K (uSl K) (.d (.str z)) lo hi Δ G L Qd :=
  sl_s (le_line hl) (k _ (cutS_length z lo hi))
theorem mt_upperF {z : Str} (hl : z.length ≤ 100000) (k : ∀ y : Str, y.length ≤ 3 * z.length → Qd (.d (.str y)) G L) : MtC K (fun x xs H Q => ∃ a, x = .str a ∧ xs = [] ∧ a.length ≤ 5592405 ∧ Q (.str (Txt.upper a)) H) (.d (.str z)) [] Δ G L Qd :=
  mt_upper_d (by omega) (k _ (PyProof.Rows.len_upper z))
theorem ap_lenSF {z : Str} (hl : z.length ≤ 100000) (k : Qd (.d (.int (z.length : Nat))) G L) : ApC K (uLen K) [.d (.str z)] Δ G L Qd := ap_lenS (le_line hl) k
end
end DL
namespace DL
open PySem PySem.Spec PyProof.Rows L2
section
variable {K : PySem.W.Frag} {Δ : Sl} {G L : List M} {Qd : Po} {Qn : PoN}
theorem u_add_lX {x y : S} (h : ∃ xs, lsG G L x = some xs ∧ ∃ ys, lsG G L y = some ys ∧ xs.length + ys.length ≤ sizeLine ∧ Qn (.pl (xs ++ ys)) G L) : OpN K (uAdd K) x y Δ G L Qn :=
  let ⟨_, hx, _, hy, hl, k⟩ := h; u_add_l hx hy hl k
theorem u_mul_lX {x : S} {j : Int} (h : ∃ xs, lsG G L x = some xs ∧ (0 ≤ j ∧ j < 2 ^ 62 ∧ xs.length * j.toNat ≤ sizeLine) ∧ Qn (.pl (List.replicate j.toNat xs).flatten) G L) : OpN K (uMul K) x (.d (.int j)) Δ G L Qn :=
  let ⟨_, hx, ⟨h0, h1, hl⟩, k⟩ := h; u_mul_l hx (by omega) (by omega) hl k
end
end DL
namespace DL
open PySem PySem.Spec PyProof.Rows L2
section
variable {K : PySem.W.Frag} {Δ : Sl} {G L : List M} {Qd : Po} {Qn : PoN}
theorem u_add_sR (m : Nat) {i j : Str} (hm : j.length = m) (hl : i.length + m ≤ 100000) (k : ∀ z : Str, z.length = i.length + m → Qd (.d (.str z)) G L) : OpC K (uAdd K) (.d (.str i)) (.d (.str j)) Δ G L Qd :=
  u_add_sF (by omega) fun z h => k z (by omega)
theorem u_add_sLm (m : Nat) {i j : Str} (hm : i.length = m) (hl : m + j.length ≤ 100000) (k : ∀ z : Str, z.length = m + j.length → Qd (.d (.str z)) G L) : OpC K (uAdd K) (.d (.str i)) (.d (.str j)) Δ G L Qd :=
  u_add_sF (by omega) fun z h => k z (by omega)
end
end DL
namespace DL
open PySem PySem.Spec PyProof.Rows L2
section
variable {K : PySem.W.Frag} {Δ : Sl} {G L : List M} {Qd : Po} {Qn : PoN}
end
end DL
namespace DL
end DL
namespace DL
open PySem PySem.Spec PyProof.Rows L2
section
variable {K : PySem.W.Frag} {Δ : Sl} {G L : List M} {Qd : Po} {Qn : PoN}
theorem u_in_iX {i : Int} {y : S} (h : ∃ ns : List Int, seqG G L y = some (ns.map D.int) ∧ Qd (.d (.bl (decide (i ∈ ns)))) G L) : OpC K (uIn K false) (.d (.int i)) y Δ G L Qd := let ⟨_, hy, k⟩ := h; u_in_i hy k
theorem u_in_sX {i : Str} {y : S} (h : ∃ ns : List Str, seqG G L y = some (ns.map D.str) ∧ Qd (.d (.bl (decide (i ∈ ns)))) G L) : OpC K (uIn K false) (.d (.str i)) y Δ G L Qd := let ⟨_, hy, k⟩ := h; u_in_s hy k
theorem u_nin_iX {i : Int} {y : S} (h : ∃ ns : List Int, seqG G L y = some (ns.map D.int) ∧ Qd (.d (.bl (!decide (i ∈ ns)))) G L) : OpC K (uIn K true) (.d (.int i)) y Δ G L Qd := let ⟨_, hy, k⟩ := h; u_in_i hy k
theorem u_nin_sX {i : Str} {y : S} (h : ∃ ns : List Str, seqG G L y = some (ns.map D.str) ∧ Qd (.d (.bl (!decide (i ∈ ns)))) G L) : OpC K (uIn K true) (.d (.str i)) y Δ G L Qd := let ⟨_, hy, k⟩ := h; u_in_s hy k
end
end DL

namespace DL
open PySem PySem.Spec PyProof.Rows L2
/-! text * int; repr; str -/
def rTxMul : R2 := fun x y H Q => ∃ (z : Str) (k : Int), x = .str z ∧ y = .int k ∧ 0 ≤ k ∧ k ≤ 100000 ∧ z.length ≤ 100000 ∧ z.length * k.toNat ≤ 1000000 ∧ ∀ o : Str, o.length = z.length * k.toNat → Q (.str o) H
section
variable {K : PySem.W.Frag} {Δ : Sl} {G L : List M} {Qd : Po} {Qn : PoN}
theorem u_txmul {z : Str} {k : Int} (h1 : 0 ≤ k ∧ k ≤ 100000 ∧ z.length ≤ 100000 ∧ z.length * k.toNat ≤ 1000000) (q : ∀ o : Str, o.length = z.length * k.toNat → Qd (.d (.str o)) G L) : OpC K rTxMul (.d (.str z)) (.d (.int k)) Δ G L Qd := fun w ls σ H vx vy c rx ry Q qq => by
  cases rx
  cases ry
  exact ⟨z, k, rfl, rfl, h1.1, h1.2.1, h1.2.2.1, h1.2.2.2, fun o ho => qq.go c Ext.refl (s := .d (.str o)) rfl (q o ho)⟩
inductive RepOf : V → Str → Prop
  | int (i : Int) (h : i.natAbs.log2 < 1920) : RepOf (.int i) (Str.ofString (toString i))
  | bl (b : Bool) : RepOf (.bl b) (if b then "True" else "False")
  | non : RepOf .non "None"
  | str (z : Str) (h : (reprText z).length ≤ sizeLine) : RepOf (.str z) (reprText z)
def uRepr : List V → Hp → VK → Prop := fun xs H Q => ∃ x t, xs = [x] ∧ RepOf x t ∧ Q (.str t) H
theorem uc_repr {X : Cx} : CallR X (.builtin "repr") uRepr := by
  intro pins s σ H xs us Q I r h
  obtain ⟨x, z, rfl, hx, q⟩ := h
  obtain ⟨u, rfl, rx⟩ := vals1 r
  cases hx with
  | int i hz =>
    obtain ⟨t, rfl⟩ := rx
    exact PySem.P.repr_of_int hz ⟨.str _, H, I.tok _, ⟨_, rfl⟩, q⟩
  | bl b =>
    cases rx
    exact PySem.P.repr_of_bool ⟨.str _, H, I.tok _, ⟨_, rfl⟩, q⟩
  | non =>
    cases rx
    exact PySem.P.repr_of_none ⟨.str _, H, I.tok _, ⟨_, rfl⟩, q⟩
  | str z hz =>
    obtain ⟨t, rfl⟩ := rx
    exact PySem.P.repr_of_str ⟨.str _, H, I.tok _, ⟨_, rfl⟩, q⟩ hz
end
end DL

namespace DL
open PySem PySem.Spec PyProof.Rows L2
/-! isinstance of data -/
def tyD : D → Option String
  | .non => some "NoneType"
  | .bl _ => some "bool"
  | .int _ => some "int"
  | .str _ => some "str"
  | .tup _ => some "tuple"
  | .lst _ => some "list"
  | .dct _ => some "dict"
  | _ => none
theorem tyx_sqT {K : PySem.W.Frag} {H : Hp} {a : Addr} {xs : List V} (h : SqT K H a xs) : TyX K H (.ref a) (.type "tuple") := by
  rcases h with (h | ⟨o, h⟩) | ⟨o, its, n, hk, hc, _⟩
  · exact .base (.tup h)
  · exact .fTuple h
  · exact .kTuple hk hc
theorem rep_ty {K : PySem.W.Frag} {H : Hp} {R : Addr → Prop} : ∀ {d : D} {v : V} {T : String}, tyD d = some T → Rep K H R d v → TyX K H v (.type T)
  | .non, _, _, e, r => by
    cases e
    cases r
    exact .base .non
  | .bl b, _, _, e, r => by
    cases e
    cases r
    exact .base (.bl b)
  | .int i, _, _, e, r => by
    cases e
    cases r
    exact .base (.int i)
  | .str x, _, _, e, r => by
    cases e
    cases r
    exact .base (.str x)
  | .tup ds, _, _, e, r => by
    cases e
    obtain ⟨a, xs, rfl, h, _⟩ := r
    exact tyx_sqT h.sq
  | .lst ds, _, _, e, r => by
    cases e
    obtain ⟨a, xs, rfl, ⟨h, _⟩, _⟩ := r
    exact .base (.lst h)
  | .dct ds, _, _, e, r => by
    cases e
    obtain ⟨a, xs, rfl, ⟨h, _⟩, _⟩ := r
    exact .base (.dK h)
  | .ty _, _, _, e, _ => by cases e
  | .ref _, _, _, e, _ => by cases e
  | .scr _, _, _, e, _ => by cases e
  | .ins _ _, _, _, e, _ => by cases e
  | .exn _ _ _, _, _, e, _ => by cases e
section
variable {K : PySem.W.Frag} {Δ : Sl} {G L : List M} {Qd : Po} {Qn : PoN} {te : TE} {E : EndsD}
theorem ap_isi {d : D} {T U : String} {b : Bool} (h : tyD d = some T) (hb : kitB T U = some b) (k : Qd (.d (.bl b)) G L) : ApC K (rIsi K) [.d d, .d (.ty U)] Δ G L Qd := fun w ls σ H vs c rs Q q => by
  obtain ⟨v, u, rfl, r1, r2⟩ := pair2 rs
  have r2 : u = .ty U := r2
  subst r2
  exact ⟨v, _, _, _, b, rfl, .ty U, rep_ty h r1, kit_ty hb, q.go c Ext.refl (s := .d (.bl b)) rfl k⟩
/-! any of ints, all of truths -/
/-! max and min of two ints; truths compared by `is` -/
def rMax2 : List V → Hp → VK → Prop := fun xs H Q => ∃ i j, xs = [.int i, .int j] ∧ Q (.int (if j > i then j else i)) H
def rMin2 : List V → Hp → VK → Prop := fun xs H Q => ∃ i j, xs = [.int i, .int j] ∧ Q (.int (if j < i then j else i)) H
theorem uc_max2 {X : Cx} (hc : X.calm = true) : CallR X (.builtin "max") rMax2 := call_max2 hc
theorem uc_min2 {X : Cx} (hc : X.calm = true) : CallR X (.builtin "min") rMin2 := call_min2 hc
theorem ap_max2 {i j : Int} (k : Qd (.d (.int (if j > i then j else i))) G L) : ApC K rMax2 [.d (.int i), .d (.int j)] Δ G L Qd := fun w ls σ H vs c rs Q q => by
  obtain ⟨v, u, rfl, r1, r2⟩ := pair2 rs
  cases r1
  cases r2
  exact ⟨i, j, rfl, q.go c Ext.refl (s := .d (.int (if j > i then j else i))) rfl k⟩
theorem ap_min2 {i j : Int} (k : Qd (.d (.int (if j < i then j else i))) G L) : ApC K rMin2 [.d (.int i), .d (.int j)] Δ G L Qd := fun w ls σ H vs c rs Q q => by
  obtain ⟨v, u, rfl, r1, r2⟩ := pair2 rs
  cases r1
  cases r2
  exact ⟨i, j, rfl, q.go c Ext.refl (s := .d (.int (if j < i then j else i))) rfl k⟩
theorem u_isB {a b : Bool} (k : Qd (.d (.bl (decide (a = b)))) G L) : OpC K rIsB (.d (.bl a)) (.d (.bl b)) Δ G L Qd := fun w ls σ H vx vy c rx ry Q q => by
  cases rx
  cases ry
  exact ⟨a, b, rfl, rfl, q.go c Ext.refl (s := .d (.bl (decide (a = b)))) rfl k⟩
theorem u_notB {a b : Bool} (k : Qd (.d (.bl (!decide (a = b)))) G L) : OpC K rNotB (.d (.bl a)) (.d (.bl b)) Δ G L Qd := fun w ls σ H vx vy c rx ry Q q => by
  cases rx
  cases ry
  exact ⟨a, b, rfl, rfl, q.go c Ext.refl (s := .d (.bl (!decide (a = b)))) rfl k⟩
/-! truths compared by == -/
theorem u_eq_b {i j : Bool} (k : Qd (.d (.bl (decide (i = j)))) G L) : OpC K (uEq K) (.d (.bl i)) (.d (.bl j)) Δ G L Qd := fun w ls σ H vx vy c rx ry Q q => by
  cases rx
  cases ry
  refine .inl ⟨rfl, ?_⟩
  have e : decide (V.bl i = V.bl j) = decide (i = j) := by simp
  rw [e]
  exact q.go c Ext.refl (s := .d (.bl (decide (i = j)))) rfl k
theorem u_ne_b {i j : Bool} (k : Qd (.d (.bl (!decide (i = j)))) G L) : OpC K (uNe K) (.d (.bl i)) (.d (.bl j)) Δ G L Qd := fun w ls σ H vx vy c rx ry Q q => by
  cases rx
  cases ry
  refine .inl ⟨rfl, ?_⟩
  have e : decide (V.bl i = V.bl j) = decide (i = j) := by simp
  rw [e]
  exact q.go c Ext.refl (s := .d (.bl (!decide (i = j)))) rfl k
/-! lists of ints compared -/
end
end DL

namespace DL
open PySem PySem.Spec PyProof.Rows L2
/-! [::-1] of lists and of tuples -/
section
variable {prog : Program} {w : World} {A : Around} {E : Value → Shared → Prop} {s : Shared}
end
def tRevU (K : PySem.W.Frag) (te : TE) : TE := fun σ H Q => te σ H fun x H1 => ∃ a xs, x = .ref a ∧ ((SqL K H1 a xs ∧ ∀ p, H1 p = none → Q (.ref p) (upd H1 p (.lst xs.reverse))) ∨ (SqT K H1 a xs ∧ ∀ p, H1 p = none → Q (.ref p) (upd H1 p (.tup xs.reverse))))
section
variable {K : PySem.W.Frag} {Δ : Sl} {G L : List M} {Qd : Po} {Qn : PoN} {te : TE} {E : EndsD}
theorem evn_revU (h : EvC K te Δ G L fun x G1 L1 => ∃ ds, lsG G1 L1 x = some ds ∧ Qn (.pl ds.reverse) G1 L1) : EvN K (tRevU K te) Δ G L Qn := fun w ls σ H c Q ret => h w ls σ H c _ fun v s H2 G2 L2 c2 e2 r2 ⟨ds, hd, k⟩ => by
  obtain ⟨a, xs, rfl, h1, q1⟩ := lsG_get c2 r2 hd
  exact ⟨a, xs, rfl, .inl ⟨.inl (.inl h1), fun p hp => ret p _ _ _ _ (none_back c2 e2 hp) (newAt_pl c2 hp (repL_rev q1)) (e2.trans (Ext.new hp)) k⟩⟩
/-! tuple * int -/
def uMulT (K : PySem.W.Frag) : R2 := fun x y H Q => uMul K x y H Q ∨ rRepT K x y H Q
theorem uo_mulT {X : Cx} : OpR X (binaryOp .Mult) (uMulT X.K) := uo_mul.or op_repT
theorem u_mulT_i {i j : Int} (hc : CMul i j) (k : Qd (.d (.int (i * j))) G L) : OpC K (uMulT K) (.d (.int i)) (.d (.int j)) Δ G L Qd := opc_orl (u_mul_i hc k)
theorem u_mulT_lX {x : S} {j : Int} (h : ∃ xs, lsG G L x = some xs ∧ (0 ≤ j ∧ j < 2 ^ 62 ∧ xs.length * j.toNat ≤ sizeLine) ∧ Qn (.pl (List.replicate j.toNat xs).flatten) G L) : OpN K (uMulT K) x (.d (.int j)) Δ G L Qn := opn_orl (u_mul_lX h)
/-! o[i] op= e -/
theorem st_augS {to ti : TE} {tget : V → V → Hp → VK → Prop} {tip : TIp} {tset : TSet} (h : EvC K to Δ G L fun o G1 L1 => EvC K ti Δ G1 L1 fun i G2 L2 => OpC K tget o i Δ G2 L2 fun x G3 L3 => EvC K te Δ G3 L3 fun y G4 L4 =>
    OpC K tip x y Δ G4 L4 fun z G5 L5 => StoC K tset o i z Δ G5 L5 fun G6 L6 => E.nx Δ G6 L6) : StC K (tAugS to ti te tget tip tset) Δ G L E := fun w ls σ H c D s =>
  h w ls σ H c _ fun vo o H1 G1 L1 c1 e1 r1 h1 => h1 w ls σ H1 c1 _ fun vi i H2 G2 L2 c2 e2 r2 h2 =>
    h2 w ls σ H2 vo vi c2 (r1.on c1 e2) r2 _ fun vx x H3 G3 L3 c3 e3 r3 h3 => h3 w ls σ H3 c3 _ fun vy y H4 G4 L4 c4 e4 r4 h4 =>
      h4 w ls σ H4 vx vy c4 (r3.on c3 e4) r4 _ fun vz z H5 G5 L5 c5 e5 r5 h5 =>
        h5 w ls σ H5 vo vi vz c5 ((((r1.on c1 e2).on c2 e3).on c3 e4).on c4 e5) (((r2.on c2 e3).on c3 e4).on c4 e5) r5 _ fun H6 G6 L6 c6 e6 k =>
          s.nx ls σ H6 Δ G6 L6 c6 ((e1.trans (e2.trans (e3.trans (e4.trans (e5.trans e6))))).grow c.reg) k
theorem opc_ip {f : Int → Int → Int} {i j : Int} (k : Qd (.d (.int (f i j))) G L) : OpC K (ipI f) (.d (.int i)) (.d (.int j)) Δ G L Qd := fun w ls σ H vx vy c rx ry Q q => by
  cases rx
  cases ry
  exact ⟨i, j, rfl, rfl, q.go c Ext.refl (s := .d (.int (f i j))) rfl k⟩
theorem u_get_l {k : Nat} {i : Int} {d : D} {xs : List D} (hx : L[k]? = some (.pl xs)) (hi : atI xs i = some d) (q : Qd (.d d) G L) : OpC K (rIxL K) (.l k) (.d (.int i)) Δ G L Qd := fun w ls σ H vx vy c rx ry Q ret => by
  obtain ⟨a, vs, rfl, h1, q1⟩ := lsG_get c rx (lsG_l hx)
  obtain ⟨j, e, hj⟩ := atI_some hi
  obtain ⟨v, hv, r⟩ := q1.get hj
  have ha : atI vs i = some v := by
    unfold atI
    rw [q1.length, e]
    exact hv
  exact ⟨a, vs, i, v, rfl, ry, .inl (.inl h1), ha, ret.go c Ext.refl (s := .d d) r q⟩
theorem u_get_int {k : Nat} {i : Int} {xs : List Int} (hx : L[k]? = some (.pl (xs.map D.int))) (h0 : 0 ≤ i) (h1 : i < (xs.length : Nat)) (q : Qd (.d (.int (xs.getD i.toNat 0))) G L) : OpC K (rIxL K) (.l k) (.d (.int i)) Δ G L Qd := by
  obtain ⟨n, rfl⟩ := Int.eq_ofNat_of_zero_le h0
  have hn : n < xs.length := by omega
  refine u_get_l hx (atI_of (j := n) ?_ rfl) q
  rw [List.getElem?_map, List.getElem?_eq_getElem hn]
  show some (D.int xs[n]) = some (D.int (xs.getD n 0))
  rw [List.getD_eq_getElem?_getD, List.getElem?_eq_getElem hn]
  rfl
theorem sto_int {k : Nat} {i z : Int} {xs : List Int} {Qt : List M → List M → Prop} (hx : L[k]? = some (.pl (xs.map D.int))) (h0 : 0 ≤ i) (h1 : i < (xs.length : Nat)) (q : Qt G (L.set k (.pl ((xs.set i.toNat z).map D.int)))) : StoC K rSetL (.l k) (.d (.int i)) (.d (.int z)) Δ G L Qt := by
  obtain ⟨n, rfl⟩ := Int.eq_ofNat_of_zero_le h0
  have hn : n < xs.length := by omega
  have e : ixN (xs.map D.int).length (n : Int) = some n := by
    rw [List.length_map]
    unfold ixN
    rw [if_pos h0, if_pos (by omega)]
    rfl
  refine sto_lp hx e ?_
  have e2 : (xs.map D.int).set n (.int z) = (xs.set n z).map D.int := by rw [List.map_set]
  rw [e2]
  exact q
theorem isi_ii {i : Int} (k : Qd (.d (.bl true)) G L) : ApC K (rIsi K) [.d (.int i), .d (.ty "int")] Δ G L Qd := ap_isi rfl (by decide +kernel) k
theorem isi_ib {i : Int} (k : Qd (.d (.bl false)) G L) : ApC K (rIsi K) [.d (.int i), .d (.ty "bool")] Δ G L Qd := ap_isi rfl (by decide +kernel) k
theorem isi_bb {i : Bool} (k : Qd (.d (.bl true)) G L) : ApC K (rIsi K) [.d (.bl i), .d (.ty "bool")] Δ G L Qd := ap_isi rfl (by decide +kernel) k
theorem isi_bi {i : Bool} (k : Qd (.d (.bl true)) G L) : ApC K (rIsi K) [.d (.bl i), .d (.ty "int")] Δ G L Qd := ap_isi rfl (by decide +kernel) k
theorem isi_tt {ds : List D} (k : Qd (.d (.bl true)) G L) : ApC K (rIsi K) [.d (.tup ds), .d (.ty "tuple")] Δ G L Qd := ap_isi rfl (by decide +kernel) k
theorem isi_ss {z : Str} (k : Qd (.d (.bl true)) G L) : ApC K (rIsi K) [.d (.str z), .d (.ty "str")] Δ G L Qd := ap_isi rfl (by decide +kernel) k
theorem iteNT {A B : Prop} (h : B) : if (!true) = true then A else B := by
  rw [if_neg (by decide)]
  exact h
theorem iteNF {A B : Prop} (h : A) : if (!false) = true then A else B := by
  rw [if_pos (by decide)]
  exact h
end
end DL

namespace DL
open PySem PySem.Spec PyProof.Rows L2
/-! data that can be compared, with its depth -/
section
variable {K : PySem.W.Frag} {Δ : Sl} {G L : List M} {Qd : Po}
theorem u_ix_int {x : S} {i : Int} {xs : List Int} (hx : seqG G L x = some (xs.map D.int)) (h0 : 0 ≤ i) (h1 : i < (xs.length : Nat)) (q : Qd (.d (.int (xs.getD i.toNat 0))) G L) : OpC K (rIx K) x (.d (.int i)) Δ G L Qd := by
  obtain ⟨n, rfl⟩ := Int.eq_ofNat_of_zero_le h0
  have hn : n < xs.length := by omega
  refine u_ix_g hx (atI_of (j := n) ?_ rfl) q
  rw [List.getElem?_map, List.getElem?_eq_getElem hn]
  show some (D.int xs[n]) = some (D.int (xs.getD n 0))
  rw [List.getD_eq_getElem?_getD, List.getElem?_eq_getElem hn]
  rfl
theorem asv_v {s : S} (k : Qd s G L) : asV Qd L (.v s) G := k
theorem evc_neg {te : TE} (h : EvC K te Δ G L fun s G1 L1 => ∃ i, s = .d (.int i) ∧ Qd (.d (.int (-i))) G1 L1) : EvC K (tUn (rU fun i => V.int (-i)) te) Δ G L Qd := fun w ls σ H c Q ret => h w ls σ H c _ fun v s H2 G2 L2 c2 e2 r2 ⟨i, hs, k⟩ => by
  subst hs
  exact ⟨i, r2, ret.go c2 e2 (s := .d (.int (-i))) rfl k⟩
end
end DL

namespace DL
open PySem PySem.Spec PyProof.Rows L2
example : callerA.guards = some [] := rfl
/-! repr of a list or a tuple of data, where the guards are known to be empty -/
structure FnG (P : Program) (w : World) (K : PySem.W.Frag) (mg : Str → Option Value) (base : Heap) (k : Nat) (f : Addr) (fd : FuncData) (ps : List Str) (sp : Sp) : Prop where
  len : ∀ vs H Q E, sp vs H Q E → vs.length = ps.length
  run : ∀ (A : Around) (outer : List Env) (s : Shared) (H : Hp) (args : Args) (us : List Value) (vs : List V) (Q : VK) (E : XK), A.guards = some [] → Room k A → Env0 P w K mg base A outer s H →
    BindsTo s fd args (ps.zip us) → Vals vs us → sp vs H Q E → codeAny (model P w) A (.call (.ref f) args) (CR CX0 outer P w H s Q E) s
section
variable {P : Program} {w : World} {K : PySem.W.Frag} {mg : Str → Option Value} {base : Heap} {j k : Nat} {f : Addr} {fd : FuncData} {ps : List Str} {sp : Sp}
theorem FnG.of (F : FnOk P w K mg base CX0 k f fd ps sp) : FnG P w K mg base k f fd ps sp := ⟨F.len, fun A outer s H args us vs Q E _ => F.run A outer s H args us vs Q E⟩
end
section
variable {X : Cx} {f : Addr} {fd : FuncData} {ps : List Str} {sp : Sp} {ds : List Value} {dvs : List V} {k : Nat} {x : Str} {E : XK} {e : Expr} {es : List Expr} {t : TA} {p pos : Pos}
theorem run_fnG {pins : List (Addr × Obj)} {σ : L2.St} {H : Hp} {s : Shared} {Q : VK} {us : List Value} {vs : List V} (F : FnG X.prog X.w X.K X.mg X.base k f fd ps sp) (hg : X.A.guards = some []) (hr : Room k X.A) (hb : Binds X.K fd ps ds) (hd : Vals dvs ds)
    (hx : Passes CX0 X E) (I : Inv X pins σ H s) (r : Vals vs us) (h : sp (vs ++ dvs) H Q E) : wpAny (model X.prog X.w) X.A (call (.ref f) us) (EP X pins σ Q) X.xe s := by
  have both := r.append hd
  have hl := F.len _ _ _ _ h
  rw [both.length] at hl
  refine wpAny_call (codeAny_mono (F.run X.A X.stack s H ⟨us, []⟩ (us ++ ds) (vs ++ dvs) Q E hg hr I.env0 (hb s us I.kIn hl) both h) fun r s2 hq => ?_)
  match r, hq with
  | .error e, hq => exact hx pins σ H s e s2 I hq
  | .ok (.ret u), hq => exact I.after hq
  | .ok .next, hq => exact hq.elim
  | .ok .brk, hq => exact hq.elim
  | .ok .cont, hq => exact hq.elim
theorem pe_callG (F : FnG X.prog X.w X.K X.mg X.base k f fd ps sp) (hg : X.A.guards = some []) (hr : Room k X.A) (hl : Gl X x) (hm : X.mg x = some (.ref f)) (hk : PySem.W.keepIn X.K (.ref f) = true) (hb : Binds X.K fd ps ds) (hd : Vals dvs ds) (hx : Passes CX0 X E)
    (ha : PA X (e :: es) t) (hdb : (x == ("__debug__" : Str)) = false := by decide) (he : starEach (e :: es) X.env = (false, eval e X.env) :: starEach es X.env := by rfl) (hpl : (backTo pos (starEach es X.env)).any (·.1) = false := by rfl) :
    PE X (.Call (.Name x p) (e :: es) [] pos) (tCall sp dvs E t) :=
  ⟨fun pins s σ H Q I h => wpAny_Call_Name_kw (ld_glob I hl hm (PySem.W.callWith_K (h₀ := X.base) I.ok.mod.kin hk (thn (ha.run pos pins s σ H _ I h) fun us s1 ⟨vs, H1, I1, r, q⟩ => ⟨I1.kIn, run_fnG F hg hr hb hd hx I1 r q⟩) he hpl) hdb)⟩
end
section
variable {P : Program} {w : World} {K : PySem.W.Frag} {mg : Str → Option Value} {base : Heap}
theorem okFnG {x qual : Str} {st : Stmt} {f : Addr} {fd : FuncData} {N ps : List Str} {k : Nat} {sp : Sp} (F : Fun K x qual st f fd) (S : FnScope N ps (defScope st)) (len : ∀ vs H Q E, sp vs H Q E → vs.length = ps.length)
    (hbody : ∀ (cdv : Value) (A : Around) (outer : List Env) (s : Shared) (H : Hp) (vs : List V) (Q : VK) (E : XK), A.guards = some [] → Room k (A.deeper (envOfC qual (defScope st) s.heap.objs.size f cdv)) → sp vs H Q E →
      ∃ t, PSs (cxOf CX0 P w K mg base N qual (defScope st) f cdv A outer s H E).nox (defBody st) t ∧ t { nx := fun _ H' => Q .non H', rt := Q } (L2.start N vs) H) : FnG P w K mg base (k + 1) f fd ps sp := by
  obtain ⟨oc, od, kV, doc, pm, an, cdv, ct, osl, rfl, lk, hcd⟩ := F.ex
  refine ⟨len, fun A outer s H args us vs Q E hg hr e0 hb r hsp => ?_⟩
  have old : ∀ b o, base.get? b = some o → s.heap.get? b = some o := fun b o e => (e0.bs b o e).1
  have KX : K.In s.heap := e0.mod.kin.keeps old
  have kinds : ∀ y ∈ ps.zip us, (defScope st).names.lookup y.1 = some .local ∨ ((defScope st).names.lookup y.1 = some .cell ∧ ((cellsFrom (s.heap.objs.size + 1) (defScope st).names []).lookup y.1).isSome = true) := by
    rintro ⟨n, v⟩ hy
    exact (S.par n (List.of_mem_zip hy).1).imp id fun q => ⟨q, PySem.W.cellsFrom_some _ _ _ (.inl q)⟩
  refine codeAny_call_function hr.depth (KX _ _ lk) rfl S.co S.gen rfl (PySem.W.codeRec_of KX hcd) (hb _ _ _ _ (wpAny_newFunctionEnv_cells S.kind kinds fun env he s1 x => ?_))
  subst he
  refine ⟨(e0.mod.nolimit.keeps old).keeps x.toInCall.keep, codeAny_func ?_⟩
  obtain ⟨t, ht, hq⟩ := hbody cdv A outer s H vs Q E hg (hr.deeper _) hsp
  have I := inv_start (CX := CX0) (E := E) S hr.hd e0 (len _ _ _ _ hsp) r x
  refine wpAny_mono (ht.nox.run [] s1 (L2.start N vs) H _ I hq) (fun fl s2 hs => ?_) fun e s2 hs => hs
  have fin : ∀ {σ' : L2.St} {H' : Hp} {v : V} {u : Value}, Inv (cxOf CX0 P w K mg base N qual (defScope st) f cdv A outer s H E) [] σ' H' s2 → RelV v u → Q v H' → CE outer P w H s Q u s2 :=
    fun {σ' H' v u} J rv q => ⟨v, H', J.os, J.bare, J.base, J.hok, rv, q⟩
  match fl, hs with
  | .ret u, ⟨v, σ', H', J, rv, q⟩ => exact fin J rv q
  | .next, ⟨σ', H', J, q⟩ => exact fin (v := V.non) (u := Value.none) J rfl q
  | .brk, ⟨_, _, _, q⟩ => exact q.elim
  | .cont, ⟨_, _, _, q⟩ => exact q.elim
end
theorem okDG {K : PySem.W.Frag} {P : Program} {w : World} {mg : Str → Option Value} {base : Heap} {x qual : Str} {st : Stmt} {f : Addr} {fd : FuncData} {N ps : List Str} {k : Nat} {sp : DSpec} (F : Fun K x qual st f fd) (S : FnScope N ps (defScope st)) (len : ∀ ss G Qd, sp ss G Qd → ss.length = ps.length)
    (hbody : ∀ (cdv : Value) (A : Around) (outer : List Env) (s : Shared) (H : Hp) (E : XK) (ss : List DL.S) (G : List M) (Qd : Res → List M → Prop), A.guards = some [] → Room k (A.deeper (envOfC qual (defScope st) s.heap.objs.size f cdv)) → sp ss G Qd →
      ∃ t, PSs (cxOf CX0 P w K mg base N qual (defScope st) f cdv A outer s H E).nox (defBody st) t ∧ StC K t (startD N ss) G [] (endsD Qd)) : FnG P w K mg base (k + 1) f fd ps (spD K sp) := by
  refine okFnG F S (fun vs H Q E h => ?_) (fun cdv A outer s H vs Q E hg hr h => ?_)
  · obtain ⟨w, ss, G, Qd, _, _, r, q, _⟩ := h
    rw [← paired_len r]
    exact len ss G Qd q
  · obtain ⟨w, ss, G, Qd, h0, c, r, q, k1, k2⟩ := h
    obtain ⟨t, ht, hs⟩ := hbody cdv A outer s H E ss G Qd hg hr q
    refine ⟨t, ht, hs w [] (L2.start N vs) H ⟨c.reg, c.rin, c.nd, c.fr, c.h0, slok_start r, c.gl, c.lo, c.ld⟩ _ ⟨?_, ?_, ?_, ?_, fun _ _ _ => trivial⟩⟩
    · intro ls' σ' H' Δ' G' L' c' g' n'
      exact k1 .non (.d .non) H' G' c'.forget rfl n'
    · intro ls' σ' H' Δ' G' L' v z c' rz n'
      cases z with
      | d x => exact k1 v (.d x) H' G' c'.forget (Rep.grow grow_drop rz) n'
      | g j => exact k1 v (.g j) H' G' c'.forget rz n'
      | l j =>
        obtain ⟨a, ha, rfl⟩ := rz
        exact k2 ls' j a L' H' G' c'.forgetS ha n'
    · intro ls' σ' H' Δ' G' L' c' g' n'
      exact n'.elim
    · intro ls' σ' H' Δ' G' L' c' g' n'
      exact n'.elim
/-! ### the law's own call, with the guards -/
section
variable {P : Program} {w : World} {K : PySem.W.Frag} {mg mb : Str → Option Value} {k : Nat} {fa a : Addr} {fd : FuncData} {x : Str} {sp : Sp} {s1 : Shared}
theorem call_fromG (hr : Room k callerA) (H : Hp) (hF : FnG P w K mg (hidT s1.heap H) k fa fd [x] sp) (hbd : ∀ (s : Shared) (u : Value), BindsTo s fd ⟨[u], []⟩ [(x, u)])
    (e0 : Env0 P w K mg (hidT s1.heap H) callerA [] s1 H) (hO : Only H) (hp : sp [.ref a] H (fun v _ => v = .bl true) fun _ _ _ => False) :
    codeAny (model P w) callerA (.call (.ref fa) ⟨[.ref a], []⟩) (fun r s2 => r = .ok (.ret (.bool true)) ∧ OldK s1.heap s2.heap ∧ s2.os = s1.os ∧ AllBare s2.gens) s1 := by
  have run := hF.run callerA [] s1 H ⟨[.ref a], []⟩ [.ref a] [.ref a] (fun v _ => v = .bl true) (fun _ _ _ => False) rfl hr e0 (hbd s1 (.ref a)) (.cons rfl .nil) hp
  refine codeAny_mono run fun r s2 h => ?_
  match r, h with
  | .error _, h => exact h.elim
  | .ok .next, h => exact h.elim
  | .ok .brk, h => exact h.elim
  | .ok .cont, h => exact h.elim
  | .ok (.ret u), h =>
    obtain ⟨v, H2, os2, bare2, un2, hok2, rv2, rfl⟩ := h
    have eu : u = Value.bool true := rv2
    subst eu
    refine ⟨rfl, OldK.of_keep fun b o e => ?_, os2, bare2⟩
    rcases hO b with n | ⟨ob, xs, f⟩
    · exact un2.keep b o e n (fun m => by cases m) (fun m => by cases m)
    · have e1 := (e0.hok b _ f).1
      rw [e] at e1
      cases e1
      exact (hok2 b _ (un2.frzs b _ _ f)).1
end
section
variable {P : Program} {w : World} {K : PySem.W.Frag} {mg mb : Str → Option Value} {k : Nat} {fa a : Addr} {fd : FuncData} {x : Str} {sp : Sp} {s1 : Shared} {vals : List Value} {ns : List Int}
theorem env_startG (kin : K.In s1.heap) (nsG : s1.heap.Ns mainGlobals mg) (nsB : s1.heap.Ns builtinsNs mb) (eB : ∀ y : Str, y ≠ "__name__" → mb y = bootBuiltins y) (nl : s1.heap.NoLimit) (g0 : s1.gens = #[])
    (la : s1.heap.get? a = some { cls := .type "list", data := .seq vals.toArray }) (H : Hp) (hok : HOk P w H s1.heap) (only : ∀ b u, H b = some u → b = a ∧ K.lookup a = none) :
    K.In (hidT s1.heap H) ∧ (hidT s1.heap H).Ns mainGlobals mg ∧ Env0 P w K mg (hidT s1.heap H) callerA [] s1 H := by
  have free : ∀ {b : Addr} {o : Obj}, s1.heap.get? b = some o → (b = a → K.lookup a = none → False) → (hidT s1.heap H).get? b = some o := by
    intro b o e n
    refine hidT_get e ?_
    rcases q : H b with _ | u
    · rfl
    · exact (n (only b u q).1 (only b u q).2).elim
  have kin' : K.In (hidT s1.heap H) := fun b o e => free (kin b o e) fun eb n => by
    subst eb
    rw [n] at e
    cases e
  have ns' : ∀ {b : Addr} {m : Str → Option Value}, s1.heap.Ns b m → (hidT s1.heap H).Ns b m := by
    rintro b m ⟨o, es, ep, e, d, r⟩
    refine ⟨o, es, ep, free e fun eb _ => ?_, d, r⟩
    subst eb
    have eo := Option.some.inj (la.symm.trans e)
    rw [← eo] at d
    cases d
  refine ⟨kin', ns' nsG, ⟨rfl, ⟨kin', ns' nsG, ⟨mb, ns' nsB, eB⟩, ?_⟩, fun b o e => of_hidT e, Nat.le_of_eq (hidT_size _ _), trivial, (fun b m => by cases m), hok, .of_eq g0⟩⟩
  obtain ⟨mc, n1, n2⟩ := nl
  exact ⟨mc, ns' n1, n2⟩
theorem law_callG (kin : K.In s1.heap) (nsG : s1.heap.Ns mainGlobals mg) (nsB : s1.heap.Ns builtinsNs mb) (eB : ∀ y : Str, y ≠ "__name__" → mb y = bootBuiltins y) (nl : s1.heap.NoLimit) (g0 : s1.gens = #[])
    (la : s1.heap.get? a = some { cls := .type "list", data := .seq vals.toArray }) (iv : IntsAre vals ns) (hl : ns.length ≤ sizeLine) (hr : Room k callerA)
    (F : ∀ base : Heap, K.In base → base.Ns mainGlobals mg → FnG P w K mg base k fa fd [x] sp) (hbd : ∀ (s : Shared) (u : Value), BindsTo s fd ⟨[u], []⟩ [(x, u)])
    (hsp : ∀ H : Hp, Only H → SqL K H a (ns.map V.int) → sp [.ref a] H (fun v _ => v = .bl true) fun _ _ _ => False) :
    codeAny (model P w) callerA (.call (.ref fa) ⟨[.ref a], []⟩) (fun r s2 => r = .ok (.ret (.bool true)) ∧ OldK s1.heap s2.heap ∧ s2.os = s1.os ∧ AllBare s2.gens) s1 := by
  have vi := vals_ints iv
  have go : ∀ H : Hp, HOk P w H s1.heap → (∀ b u, H b = some u → b = a ∧ K.lookup a = none) → Only H → SqL K H a (ns.map V.int) → codeAny (model P w) callerA (.call (.ref fa) ⟨[.ref a], []⟩) (fun r s2 => r = .ok (.ret (.bool true)) ∧ OldK s1.heap s2.heap ∧ s2.os = s1.os ∧ AllBare s2.gens) s1 := by
    intro H hok only hO hS
    obtain ⟨k1, k2, e0⟩ := env_startG kin nsG nsB eB nl g0 la H hok only
    exact call_fromG hr H (F _ k1 k2) hbd e0 hO (hsp H hO hS)
  rcases lk : K.lookup a with _ | o
  · let o1 : HO := .frz { cls := .type "list", data := .seq vals.toArray } (.lst (ns.map V.int))
    have at_a : ∀ {b u}, (if b = a then some o1 else none) = some u → b = a ∧ u = o1 := by
      intro b u e
      by_cases z : b = a
      · rw [if_pos z] at e
        exact ⟨z, (Option.some.inj e).symm⟩
      · rw [if_neg z] at e
        cases e
    refine go (fun b => if b = a then some o1 else none) (fun b u e => ?_) (fun b u e => ⟨(at_a e).1, lk⟩) (fun b => ?_) (.inl (.inr ⟨_, if_pos rfl⟩))
    · obtain ⟨rfl, rfl⟩ := at_a e
      exact ⟨la, by rw [List.length_map]; exact hl, vals, _, vi, la⟩
    · by_cases z : b = a
      · exact .inr ⟨_, _, if_pos z⟩
      · exact .inl (if_neg z)
  · have e := kin a o lk
    rw [la] at e
    cases e
    refine go (fun _ => none) (fun b u z => by cases z) (fun b u z => by cases z) (fun _ => .inl rfl) (.inr ⟨_, vals.toArray, _, lk, rfl, rfl, rfl, ?_, by simpa using vi⟩)
    rw [List.size_toArray, iv.length]
    exact hl
end
theorem walk_ofG {l : PySem.W.OpenLaw} {n k : Nat} {q : Program} {loose : List Str} {XP : (Str → Option Value) → Heap → Prop} {YP : World → Heap → Prop} {d : DefRec} {K : Params → PySem.W.Frag} {sp : World → Sp} {x : Str}
    (most : l.most = some n) (hn : n ≤ sizeLine) (nodef : d.params.defaults = []) (room : Room k callerA) (hY : ∀ (w : World) (h : Heap), YP w h → (K w.params).In h)
    (F : ∀ (w : World) (mg : Str → Option Value) (fa : Addr) (h : Heap), (K w.params).In h → h.Ns mainGlobals mg → mg d.name = some (.ref fa) →
      ∃ fd : FuncData, (∀ (s : Shared) (u : Value), BindsTo s fd ⟨[u], []⟩ [(x, u)]) ∧ ∀ base : Heap, (K w.params).In base → base.Ns mainGlobals mg → FnG l.prog w (K w.params) mg base k fa fd [x] (sp w))
    (hsp : ∀ (w : World) (H : Hp) (a : Addr) (ns : List Int), ns.length ≤ n → (∀ z ∈ ns, Builtin.Int.intBits z ≤ 1048576) → SqL (K w.params) H a (ns.map V.int) → sp w [.ref a] H (fun v _ => v = .bl true) fun _ _ _ => False) :
    PySem.W.WalkO q loose XP YP l.row.toRowW d [] (fun f vs => PySem.call f vs) := by
  refine Att.attach_callB most nodef fun w _ s1 mg mb fa _ _ _ _ a vals ns G Y _ _ _ emg la iv hlen bits g0 => ?_
  have kin := hY w _ Y
  obtain ⟨fd, hbd, hF⟩ := F w mg fa _ kin G.T.g emg
  exact law_callG kin G.T.g G.T.b G.T.builtins G.T.nolimit g0 la iv (Nat.le_trans hlen hn) room hF hbd fun H _ hS => hsp w H a ns hlen bits hS
/-! ### what repr shows, at the level of data -/
def Shw (n k : Nat) (d : D) : Prop := ∃ p, d.py = some p ∧ p.showable = true ∧ p.hasDict = false ∧ p.depth ≤ k ∧ p.shown.length ≤ n
theorem Shw.mono {n m k j : Nat} {d : D} (h : Shw n k d) (hn : n ≤ m) (hk : k ≤ j) : Shw m j d :=
  let ⟨p, h1, h2, h3, h4, h5⟩ := h
  ⟨p, h1, h2, h3, Nat.le_trans h4 hk, Nat.le_trans h5 hn⟩
theorem digits_len (i : Int) : (toString i).toList.length ≤ (Nat.toDigits 10 i.natAbs).length + 1 := by
  cases i with
  | ofNat m =>
    show (toString m).toList.length ≤ _
    rw [Nat.toString_eq_ofList_toDigits, String.toList_ofList]
    exact Nat.le_succ _
  | negSucc m =>
    show ("-" ++ toString (m + 1)).toList.length ≤ _
    have e : (toString (m + 1)).toList = Nat.toDigits 10 (m + 1) := by rw [Nat.toString_eq_ofList_toDigits, String.toList_ofList]
    rw [String.toList_append, List.length_append, e]
    show 1 + _ ≤ (Nat.toDigits 10 (m + 1)).length + 1
    omega
theorem ofString_len (s : String) : (Str.ofString s).length = s.toList.length := by
  rw [Str.ofString_eq_toList]
  show ((s.toList.map Char.toNat).toArray).size = _
  rw [List.size_toArray, List.length_map]
theorem shw_int (k : Nat) {i : Int} (h : i.natAbs < 10 ^ 60) : Shw 61 k (.int i) := by
  refine ⟨.int i, rfl, ?_, rfl, Nat.zero_le _, ?_⟩
  · refine decide_eq_true ?_
    by_cases z : i.natAbs = 0
    · rw [z]
      decide
    · exact (Nat.log2_lt z).mpr (Nat.lt_trans h (by decide +kernel))
  · have e := digits_len i
    have e2 := (Nat.length_toDigits_le_iff (b := 10) (n := i.natAbs) (k := 60) (by decide) (by decide)).mpr h
    have e3 := ofString_len (toString i)
    show (Str.ofString (toString i)).length ≤ 61
    omega
theorem hex_len (w c : Nat) (h : c < 16 ^ w) (hw : 0 < w) : (List.replicate (w - ((Nat.toDigits 16 c).map Char.toNat).length) 48 ++ (Nat.toDigits 16 c).map Char.toNat).length ≤ w := by
  have e := (Nat.length_toDigits_le_iff (b := 16) (n := c) (k := w) (by decide) hw).mpr h
  rw [List.length_append, List.length_replicate, List.length_map]
  omega
theorem reprChar_len (q : Nat) {c : Nat} (h : c < 0x110000) : (Builtin.Str.reprChar q c).length ≤ 10 := by
  unfold Builtin.Str.reprChar
  dsimp only
  split
  · show 2 ≤ 10
    decide
  split
  · show 2 ≤ 10
    decide
  split
  · show 2 ≤ 10
    decide
  split
  · show 2 ≤ 10
    decide
  split
  · show 1 ≤ 10
    decide
  split
  · rename_i h1
    have := hex_len 2 c h1 (by decide)
    rw [List.length_append]
    show 2 + _ ≤ 10
    omega
  split
  · rename_i h1
    have := hex_len 4 c h1 (by decide)
    rw [List.length_append]
    show 2 + _ ≤ 10
    omega
  · have := hex_len 8 c (by omega) (by decide)
    rw [List.length_append]
    show 2 + _ ≤ 10
    omega
theorem fold_len (q : Nat) : ∀ (l : List Nat) (n : Nat), (∀ c ∈ l, c < 0x110000) → l.foldl (fun n c => n + (Builtin.Str.reprChar q c).length) n ≤ n + 10 * l.length
  | [], n, _ => by simp
  | c :: l, n, h => by
    have e := fold_len q l (n + (Builtin.Str.reprChar q c).length) fun d hd => h d (List.mem_cons_of_mem _ hd)
    have e1 := reprChar_len q (h c List.mem_cons_self)
    rw [List.foldl_cons, List.length_cons]
    omega
theorem strOk_mem {z : Str} (h : PyData.strOk z = true) : ∀ c ∈ z.cps.toList, c < 0x110000 := by
  unfold PyData.strOk at h
  rw [← Array.all_toList, List.all_eq_true] at h
  intro c hc
  simpa using h c hc
theorem reprText_len {z : Str} (h : PyData.strOk z = true) : (reprText z).length ≤ 10 * z.length + 2 := by
  rw [← reprLen_eq, ← Array.foldl_toList]
  have e := fold_len (reprQuote z) z.cps.toList 2 (strOk_mem h)
  have e2 : z.cps.toList.length = z.length := by
    rw [Array.length_toList]
    rfl
  omega
theorem shw_str (k : Nat) {z : Str} {m : Nat} (h : PyData.strOk z = true) (hm : z.length ≤ m) : Shw (10 * m + 2) k (.str z) :=
  ⟨.str z, rfl, rfl, rfl, Nat.zero_le _, by
    have := reprText_len h
    show (reprText z).length ≤ _
    omega⟩
theorem listText_len (ts : List Str) : (listText ts).length ≤ piled ts + 2 := by
  unfold listText
  rw [strLen_append]
  cases ts with
  | nil => show 1 + 1 ≤ 0 + 2
           decide
  | cons t ts =>
    show (textFrom 1 (("[" : Str) ++ (("" : String) : Str) ++ t) ts).length + 1 ≤ _
    rw [textFrom_length_pos _ _ _ (by decide), strLen_append, strLen_append, piled_cons]
    show 1 + 0 + t.length + _ + 1 ≤ _
    omega
theorem callr_or {X : Cx} {f : Value} {r q : List V → Hp → VK → Prop} (a : CallR X f r) (b : CallR X f q) : CallR X f (fun xs H Q => r xs H Q ∨ q xs H Q) := fun pins s σ H xs us Q I rv h =>
  h.elim (fun h => a pins s σ H xs us Q I rv h) fun h => b pins s σ H xs us Q I rv h
section
variable {K : PySem.W.Frag} {Δ : Sl} {G L : List M} {Qd : Po} {n k : Nat}
end
end DL

namespace DL
open PySem PySem.Spec PyProof.Rows L2
section
variable {K : PySem.W.Frag}
/-! ### an own object becomes data -/
def S.frz (k : Nat) (x : D) : S → S
  | .l j => if j = k then .d x else if j < k then .l j else .l (j - 1)
  | s => s
def M.frz (k : Nat) (x : D) : M → M
  | .hl xs => .hl (xs.map (S.frz k x))
  | .dh kvs => .dh (kvs.map fun p => (p.1, p.2.frz k x))
  | .og C fs => .og C (fs.map fun p => (p.1, p.2.frz k x))
  | .dq kvs => .dq (kvs.map fun p => (p.1, p.2.frz k x))
  | m => m
theorem eraseIdx_lt {α : Type} : ∀ {l : List α} {k j : Nat}, j < k → (l.eraseIdx k)[j]? = l[j]?
  | [], _, _, _ => by simp
  | _ :: _, 0, _, h => absurd h (Nat.not_lt_zero _)
  | _ :: _, _ + 1, 0, _ => rfl
  | _ :: l, k + 1, j + 1, h => eraseIdx_lt (l := l) (Nat.lt_of_succ_lt_succ h)
theorem eraseIdx_ge {α : Type} : ∀ {l : List α} {k j : Nat}, k ≤ j → (l.eraseIdx k)[j]? = l[j + 1]?
  | [], _, _, _ => by simp
  | _ :: _, 0, _, _ => rfl
  | _ :: l, k + 1, 0, h => absurd h (Nat.not_succ_le_zero _)
  | _ :: l, k + 1, j + 1, h => eraseIdx_ge (l := l) (Nat.le_of_succ_le_succ h)
theorem erase_sub {ls : List Addr} {k : Nat} {a : Addr} (h : a ∈ ls.eraseIdx k) : a ∈ ls := List.mem_of_mem_eraseIdx h
theorem paired_erase {α β : Type} {F : α → β → Prop} : ∀ {as : List α} {bs : List β} {k : Nat}, Paired F as bs → Paired F (as.eraseIdx k) (bs.eraseIdx k)
  | _, _, _, .nil => .nil
  | _, _, 0, .cons h t => t
  | _, _, k + 1, .cons h t => .cons h (paired_erase (k := k) t)
theorem nodup_erase {ls : List Addr} {k : Nat} {p : Addr} (nd : ls.Nodup) (hk : ls[k]? = some p) : p ∉ ls.eraseIdx k := by
  intro h
  obtain ⟨j, hj⟩ := List.mem_iff_getElem?.mp h
  have uniq : ∀ i, ls[i]? = some p → i = k := fun i hi => by
    have h1 := (List.getElem?_eq_some_iff.mp hi)
    have h2 := (List.getElem?_eq_some_iff.mp hk)
    exact (List.getElem_inj (h₀ := h1.1) (h₁ := h2.1) nd).mp (h1.2.trans h2.2.symm)
  rcases Nat.lt_or_ge j k with z | z
  · rw [eraseIdx_lt z] at hj
    have := uniq _ hj
    omega
  · rw [eraseIdx_ge z] at hj
    have := uniq _ hj
    omega
section
variable {w : W} {ls : List Addr} {σ : L2.St} {H : Hp} {Δ : Sl} {G L : List M}
theorem grow_frz {k : Nat} : Grow H H (Rg w ls) (Rg w (ls.eraseIdx k)) := grow_sub fun a h => erase_sub h
theorem RS.frz {gs : List Addr} {k : Nat} {p : Addr} {x : D} (hk : ls[k]? = some p) (rx : Rep K H (Rg w (ls.eraseIdx k)) x (.ref p)) : ∀ {s : S} {v : V}, RS K H (Rg w ls) gs ls s v → RS K H (Rg w (ls.eraseIdx k)) gs (ls.eraseIdx k) (s.frz k x) v
  | .d _, _, h => Rep.grow grow_frz h
  | .g _, _, h => h
  | .l j, v, ⟨a, h, e⟩ => by
    show RS K H _ gs _ (if j = k then S.d x else if j < k then S.l j else S.l (j - 1)) v
    by_cases z : j = k
    · rw [if_pos z]
      subst z
      rw [h] at hk
      cases hk
      rw [e]
      exact rx
    · rw [if_neg z]
      by_cases y : j < k
      · rw [if_pos y]
        exact ⟨a, (eraseIdx_lt y).trans h, e⟩
      · rw [if_neg y]
        refine ⟨a, (eraseIdx_ge (by omega)).trans ?_, e⟩
        rw [show j - 1 + 1 = j by omega]
        exact h
theorem paired_map3 {α β γ : Type} {F : α → β → Prop} {F' : α → γ → Prop} {f : β → γ} : ∀ {as : List α} {bs : List β}, Paired F as bs → (∀ a b, a ∈ as → F a b → F' a (f b)) → Paired F' as (bs.map f)
  | _, _, .nil, _ => .nil
  | _, _, .cons h t, k => .cons (k _ _ List.mem_cons_self h) (paired_map3 t fun a b m => k a b (List.mem_cons_of_mem _ m))
theorem paired_mapB {α β γ : Type} {F : β → α → Prop} {F' : γ → α → Prop} {f : β → γ} : ∀ {bs : List β} {as : List α}, Paired F bs as → (∀ b a, F b a → F' (f b) a) → Paired F' (bs.map f) as
  | _, _, .nil, _ => .nil
  | _, _, .cons h t, k => .cons (k _ _ h) (paired_mapB t k)
theorem MOk.frz {k : Nat} {p : Addr} {x : D} (hk : ls[k]? = Option.some p) (rx : Rep K H (Rg w (ls.eraseIdx k)) x (.ref p)) {a : Addr} : ∀ {m : M}, MOk K H (Rg w ls) w.gs ls a m → MOk K H (Rg w (ls.eraseIdx k)) w.gs (ls.eraseIdx k) a (m.frz k x)
  | .pl _, ⟨vs, h, r⟩ => ⟨vs, h, RepL.grow grow_frz r⟩
  | .hl _, ⟨vs, h, r⟩ => ⟨vs, h, paired_mapB r fun _ _ q => q.frz hk rx⟩
  | .dc _, ⟨vs, h, r⟩ => ⟨vs, h, RepK.grow grow_frz r⟩
  | .ob _ _, ⟨dx, vs, h, r⟩ => ⟨dx, vs, h, RepF.grow grow_frz r⟩
  | .dh _, ⟨vs, h, r⟩ => ⟨vs, h, paired_mapB r fun _ _ q => ⟨q.1, q.2.frz hk rx⟩⟩
  | .dt _, h => h
  | .dz _ _, h => h
  | .og _ _, ⟨dx, vs, h, r⟩ => ⟨dx, vs, h, paired_mapB r fun _ _ q => ⟨q.1, q.2.frz hk rx⟩⟩
  | .dq _, ⟨vs, h, r⟩ => ⟨vs, h, paired_mapB r fun _ _ q => ⟨q.1, q.2.frz hk rx⟩⟩
theorem Ctx.frz {k : Nat} {m : M} {x : D} (c : Ctx K w ls σ H Δ G L) (hm : L[k]? = some m) (hx : m.dat = some x) : Ctx K w (ls.eraseIdx k) σ H (Δ.map (Option.map (S.frz k x))) G ((L.eraseIdx k).map (M.frz k x)) := by
  obtain ⟨p, hp, q⟩ := paired_get c.lo hm
  have ndl := (List.nodup_append.mp c.nd).2.1
  have np : ¬ Rg w (ls.eraseIdx k) p := by
    rintro (r | r)
    · exact c.ld p (List.mem_of_getElem? hp) r
    · exact nodup_erase ndl hp r
  have rx : Rep K H (Rg w (ls.eraseIdx k)) x (.ref p) := by
    cases m with
    | pl ds =>
      cases hx
      obtain ⟨vs, h1, r⟩ := q
      exact ⟨p, vs, rfl, ⟨h1, np⟩, r.grow grow_frz⟩
    | hl xs => cases hx
    | dc ds =>
      cases hx
      obtain ⟨vs, h1, r⟩ := q
      exact ⟨p, vs, rfl, ⟨h1, np⟩, r.grow grow_frz⟩
    | ob C ds =>
      cases hx
      obtain ⟨dx, vs, h1, r⟩ := q
      exact ⟨p, dx, vs, rfl, ⟨h1, np⟩, r.grow grow_frz⟩
    | dh kvs => cases hx
    | dt kvs => cases hx
    | dz od kvs => cases hx
    | og C fs => cases hx
    | dq kvs => cases hx
  refine ⟨c.reg, c.rin, ?_, fun a h => c.fr a (erase_sub h), c.h0, ?_, paired_map c.gl fun a m _ q => q.grow grow_frz (Pre.refl _) (Pre.refl _) fun _ z => z, ?_, fun a h => c.ld a (erase_sub h)⟩
  · have nd := List.nodup_append.mp c.nd
    exact List.nodup_append.mpr ⟨nd.1, nd.2.1.eraseIdx k, fun a ha b hb => nd.2.2 a ha b (erase_sub hb)⟩
  · refine ⟨by rw [List.length_map]; exact c.sl.1, fun i s e => ?_⟩
    rw [List.getElem?_map] at e
    cases e2 : Δ[i]? with
    | none =>
      rw [e2] at e
      cases e
    | some y =>
      rw [e2] at e
      cases y with
      | none => cases e
      | some z =>
        have e := Option.some.inj e
        have e : z.frz k x = s := Option.some.inj e
        subst e
        obtain ⟨v, h1, h2⟩ := c.sl.2 i z e2
        exact ⟨v, h1, h2.frz hp rx⟩
  · exact paired_map3 (paired_erase c.lo) fun a m _ q => q.frz hp rx
end
section
variable {Δ : Sl} {G L : List M} {E : EndsD} {t : TS}
theorem st_frz (k : Nat) (h : ∃ m x, L[k]? = some m ∧ m.dat = some x ∧ StC K t (Δ.map (Option.map (S.frz k x))) G ((L.eraseIdx k).map (M.frz k x)) E) : StC K t Δ G L E := fun w ls σ H c D s => by
  obtain ⟨m, x, hm, hx, h⟩ := h
  exact h w (ls.eraseIdx k) σ H (c.frz hm hx) D (s.on grow_frz)
end
section
variable {Δ : Sl} {G L : List M} {E : EndsD} {ta : TA} {Qd : Po}
theorem st_par {i j : Nat} (h : EvA K ta Δ G L fun ss G1 L1 => ∃ x y, ss = [x, y] ∧ E.nx ((Δ.set i (some x)).set j (some y)) G1 L1) : StC K (tPar i j ta) Δ G L E := fun w ls σ H c D s => h w ls σ H c _ fun vs ss H2 G2 L2 c2 e2 r2 ⟨x, y, e, k⟩ => by
  subst e
  obtain ⟨v, u, rfl, rx, ry⟩ := pair2 r2
  exact ⟨v, u, rfl, s.nx ls _ H2 _ G2 L2 ((c2.slot rx).slot ry) (e2.grow c.reg) k⟩
theorem u_eq_ss {z : Str} (k : Qd (.d (.bl true)) G L) : OpC K (uEq K) (.d (.str z)) (.d (.str z)) Δ G L Qd := u_eq_s (by rw [decide_eq_true rfl]; exact k)
theorem u_ne_ss {z : Str} (k : Qd (.d (.bl false)) G L) : OpC K (uNe K) (.d (.str z)) (.d (.str z)) Δ G L Qd := u_ne_s (by rw [decide_eq_true rfl]; exact k)
end
theorem iteDr {α : Type} {a : α} [DecidableEq α] {A B : Prop} (h : A) : if decide (a = a) = true then A else B := by
  rw [if_pos (decide_eq_true rfl)]
  exact h
theorem iteNDr {α : Type} {a : α} [DecidableEq α] {A B : Prop} (h : B) : if (!decide (a = a)) = true then A else B := by
  rw [if_neg (by rw [decide_eq_true rfl]; decide)]
  exact h
section
variable {Δ : Sl} {G L : List M} {Qd : Po}
theorem u_get_intX {k : Nat} {i : Int} (h : ∃ xs : List Int, L[k]? = some (.pl (xs.map D.int)) ∧ (0 ≤ i ∧ i < (xs.length : Nat)) ∧ Qd (.d (.int (xs.getD i.toNat 0))) G L) : OpC K (rIxL K) (.l k) (.d (.int i)) Δ G L Qd :=
  let ⟨_, hx, h, q⟩ := h
  u_get_int hx h.1 h.2 q
theorem sto_intX {k : Nat} {i z : Int} {Qt : List M → List M → Prop} (h : ∃ xs : List Int, L[k]? = some (.pl (xs.map D.int)) ∧ (0 ≤ i ∧ i < (xs.length : Nat)) ∧ Qt G (L.set k (.pl ((xs.set i.toNat z).map D.int)))) : StoC K rSetL (.l k) (.d (.int i)) (.d (.int z)) Δ G L Qt :=
  let ⟨_, hx, h, q⟩ := h
  sto_int hx h.1 h.2 q
theorem u_ix_intX {x : S} {i : Int} (h : ∃ xs : List Int, seqG G L x = some (xs.map D.int) ∧ (0 ≤ i ∧ i < (xs.length : Nat)) ∧ Qd (.d (.int (xs.getD i.toNat 0))) G L) : OpC K (rIx K) x (.d (.int i)) Δ G L Qd :=
  let ⟨_, hx, h, q⟩ := h
  u_ix_int hx h.1 h.2 q
end
/-! ### comprehensions that look at an own object, which they leave alone -/
section
variable {Δ : Sl} {G L : List M} {te : TE} {tt : TT} {wi : TI} {g : TG} {vs : List Nat} {Qn : PoN}
end
section
variable {Δ : Sl} {G L : List M} {ta : TA}
theorem RS.other {w w2 : W} {ls : List Addr} {H H2 : Hp} {s : S} {v : V} (eg : w2.gs = w.gs) (g : Grow H H2 (Rg w ls) (Rg w2 ls)) (r : RS K H (Rg w ls) w.gs ls s v) : RS K H2 (Rg w2 ls) w2.gs ls s v := by
  rw [eg]
  exact r.grow g (Pre.refl _) (Pre.refl _)
end
end
end DL

namespace DL
open PySem PySem.Spec PyProof.Rows L2
/-! ### the deck: a list [cells, seed, count], the cells a list of ints -/
structure Dk (G : List M) (k c : Nat) (n : Int) (cells : List Int) (seed cnt : Int) : Prop where
  hk : G[k]? = some (.hl [.g c, .d (.int seed), .d (.int cnt)])
  hc : G[c]? = some (.pl (cells.map D.int))
  ne : k ≠ c
  s0 : 0 ≤ seed
  s1 : seed < 2 ^ 62
  n0 : 0 ≤ cnt
  n1 : cnt ≤ n
  cl : cells.length ≤ 1000
def dkSet (G : List M) (k c : Nat) (cells : List Int) (seed cnt : Int) : List M := (G.set c (.pl (cells.map D.int))).set k (.hl [.g c, .d (.int seed), .d (.int cnt)])
def DkTo (G : List M) (k c : Nat) (n : Int) (G' : List M) : Prop := ∃ cells seed cnt, G' = dkSet G k c cells seed cnt ∧ Dk G' k c n cells seed cnt
theorem DkTo.dk {G G' : List M} {k c : Nat} {n : Int} (h : DkTo G k c n G') : ∃ cells seed cnt, Dk G' k c n cells seed cnt := let ⟨a, b, d, _, e⟩ := h; ⟨a, b, d, e⟩
theorem DkTo.trans {G G1 G2 : List M} {k c : Nat} {n m : Int} (h : DkTo G k c n G1) (h2 : DkTo G1 k c m G2) : DkTo G k c m G2 := by
  obtain ⟨a, b, d, rfl, q⟩ := h
  obtain ⟨a', b', d', rfl, q'⟩ := h2
  refine ⟨a', b', d', ?_, q'⟩
  unfold dkSet
  rw [set_comm (Ne.symm q'.ne), set_set, set_comm q'.ne, set_set]
theorem DkTo.refl {G : List M} {k c : Nat} {n : Int} {cells : List Int} {seed cnt : Int} (h : Dk G k c n cells seed cnt) : DkTo G k c n G := by
  refine ⟨cells, seed, cnt, ?_, h⟩
  unfold dkSet
  rw [set_same h.hc, set_same h.hk]
theorem DkTo.mono {G G' : List M} {k c : Nat} {n m : Int} (h : DkTo G k c n G') (e : n ≤ m) : DkTo G k c m G' := by
  obtain ⟨a, b, d, rfl, q⟩ := h
  exact ⟨a, b, d, rfl, ⟨q.hk, q.hc, q.ne, q.s0, q.s1, q.n0, Int.le_trans q.n1 e, q.cl⟩⟩
end DL

namespace DL
open PySem PySem.Spec PyProof.Rows L2
/-! ### data with dicts in it, read off a heap: no dict of it is the table of modules -/
mutual
inductive RX (h : Heap) : Value → PyData → Prop
  | non : RX h .none .none
  | bl (b : Bool) : RX h (.bool b) (.bool b)
  | int (i : Int) (t : Tok) : RX h (.int i t) (.int i)
  | str (z : Str) (t : Tok) : RX h (.str z t) (.str z)
  | lst {a : Addr} {o : Obj} {us : Array Value} {n : Nat} {ps : List PyData} : h.get? a = some o → o.cls = .type "list" → o.data = .seq us n → RXs h us.toList ps → RX h (.ref a) (.list ps)
  | tup {a : Addr} {o : Obj} {us : Array Value} {n : Nat} {ps : List PyData} : h.get? a = some o → o.cls = .type "tuple" → o.data = .seq us n → RXs h us.toList ps → RX h (.ref a) (.tuple ps)
  | dct {a : Addr} {o : Obj} {es : Array DictEntry} {n : Nat} {ps : List (PyData × PyData)} : h.get? a = some o → o.cls = .type "dict" → o.data = .dict es n → (a == sysModules) = false → RXs h (es.toList.map (·.key)) (ps.map (·.1)) → RXs h (es.toList.map (·.val)) (ps.map (·.2)) → RX h (.ref a) (.dict ps)
inductive RXs (h : Heap) : List Value → List PyData → Prop
  | nil : RXs h [] []
  | cons {u : Value} {us : List Value} {p : PyData} {ps : List PyData} : RX h u p → RXs h us ps → RXs h (u :: us) (p :: ps)
end
section
variable {h : Heap}
mutual
theorem RX.reads : ∀ {u : Value} {p : PyData}, RX h u p → ∃ as, Reads h u p as
  | _, _, .non => ⟨_, .none⟩
  | _, _, .bl b => ⟨_, .bool b⟩
  | _, _, .int i t => ⟨_, .int i t⟩
  | _, _, .str z t => ⟨_, .str z t⟩
  | _, _, .lst e c d r => by
    obtain ⟨as, q⟩ := RXs.reads r
    exact ⟨_, .list e c d q⟩
  | _, _, .tup e c d r => by
    obtain ⟨as, q⟩ := RXs.reads r
    exact ⟨_, .tuple e c d q⟩
  | _, _, .dct e c d _ r r2 => by
    obtain ⟨as, q⟩ := RXs.reads r
    obtain ⟨bs, q2⟩ := RXs.reads r2
    exact ⟨_, .dict e c d q q2⟩
theorem RXs.reads : ∀ {us : List Value} {ps : List PyData}, RXs h us ps → ∃ as, ReadsAll h us ps as
  | _, _, .nil => ⟨_, .nil⟩
  | _, _, .cons r rs => by
    obtain ⟨as, q⟩ := RX.reads r
    obtain ⟨bs, q2⟩ := RXs.reads rs
    exact ⟨_, .cons q q2⟩
end
variable {prog : Program} {w : World}
theorem below_app {n m k : Nat} {bs cs : List Addr} (x : ReadAtMost h n bs) (y : ReadAtMost h m cs) (hn : n ≤ k) (hm : m ≤ k) : ReadAtMost h k (bs ++ cs) := (x.mono hn).append (y.mono hm)
def Rk (prog : Program) (w : World) (h : Heap) (u : Value) (p : PyData) : Prop := ∃ bs, ReadAtMost h p.depth bs ∧ ReprK prog w bs h p.depth u p.shown
def Rks (prog : Program) (w : World) (h : Heap) (us : List Value) (ps : List PyData) : Prop := ∃ bs, ReadAtMost h (PyData.depthAll ps) bs ∧ ReprAllK prog w bs h (PyData.depthAll ps) us (PyData.shownAll ps)
mutual
theorem RX.rk : ∀ {u : Value} {p : PyData}, RX h u p → p.showable = true → p.shown.length ≤ sizeLine → Rk prog w h u p
  | _, _, .non, _, _ => ⟨[], fun _ m => (by cases m), by rw [PyData.shown]; exact ReprK.of_is ReprIs.none _ _ _⟩
  | _, _, .bl b, _, _ => ⟨[], fun _ m => (by cases m), by rw [PyData.shown]; exact ReprK.of_is (ReprIs.bool b) _ _ _⟩
  | _, _, .int i t, s, _ => ⟨[], fun _ m => (by cases m), by rw [PyData.shown]; exact ReprK.of_is (ReprIs.int t (of_decide_eq_true (by rw [PyData.showable] at s; exact s))) _ _ _⟩
  | _, _, .str z t, _, l => ⟨[], fun _ m => (by cases m), by rw [PyData.shown] at l ⊢; exact ReprK.of_is (ReprIs.str z t l) _ _ _⟩
  | _, _, .lst (a := a) (us := us) (ps := ps) e c d r, s, l => by
    rw [PyData.shown] at l
    rw [PyData.showable] at s
    obtain ⟨bs, hb, hk⟩ := RXs.rk r s fun t ht => Nat.le_trans (listText_mem_le ht) l
    obtain ⟨as, rd⟩ := RX.reads (RX.lst e c d r)
    have na : a ∉ bs := not_mem_of_deeper rd (by rw [PyData.depth]; omega) hb
    refine ⟨a :: bs, ReadAtMost.cons rd (by rw [PyData.depth]; omega) hb, ?_⟩
    rw [PyData.depth, PyData.shown]
    obtain ⟨us⟩ := us
    match us, ps, r, d, hk with
    | [], _, .nil, d, hk =>
      rw [PyData.shownAll, listText_nil]
      exact ReprK.listEmpty e c d
    | x :: us, _, r, d, hk => exact ReprK.list e c d na (by simpa using hk.length_eq) fun i y ey => hk.item i y (by simpa using ey)
  | _, _, .tup (a := a) (us := us) (ps := ps) e c d r, s, l => by
    rw [PyData.shown] at l
    rw [PyData.showable] at s
    obtain ⟨bs, hb, hk⟩ := RXs.rk r s fun t ht => Nat.le_trans (tupleText_mem_le ht) l
    obtain ⟨as, rd⟩ := RX.reads (RX.tup e c d r)
    have na : a ∉ bs := not_mem_of_deeper rd (by rw [PyData.depth]; omega) hb
    refine ⟨a :: bs, ReadAtMost.cons rd (by rw [PyData.depth]; omega) hb, ?_⟩
    rw [PyData.depth, PyData.shown]
    exact ReprK.tuple e c d na hk
  | _, _, .dct (a := a) (es := es) (ps := ps) e c d ns r r2, s, l => by
    rw [PyData.shown] at l
    rw [PyData.showable] at s
    obtain ⟨s1, s2⟩ := PyData.showableKv_split ps s
    obtain ⟨b1, h1, k1⟩ := RXs.rk r s1 fun t ht => let ⟨x, m, le⟩ := PyData.shownKv_key_le ps t ht; Nat.le_trans le (Nat.le_trans (dictText_mem_le m) l)
    obtain ⟨b2, h2, k2⟩ := RXs.rk r2 s2 fun t ht => let ⟨x, m, le⟩ := PyData.shownKv_val_le ps t ht; Nat.le_trans le (Nat.le_trans (dictText_mem_le m) l)
    have d1 := PyData.depthAll_keys_le ps
    have d2 := PyData.depthAll_vals_le ps
    obtain ⟨as, rd⟩ := RX.reads (RX.dct e c d ns r r2)
    have hb := below_app h1 h2 d1 d2
    have na : a ∉ b1 ++ b2 := not_mem_of_deeper rd (by rw [PyData.depth]; omega) hb
    refine ⟨a :: (b1 ++ b2), ReadAtMost.cons rd (by rw [PyData.depth]; omega) hb, ?_⟩
    rw [PyData.depth, PyData.shown, PyData.shownKv_eq]
    exact ReprK.dict e c d ns na (ReprEntriesK.of_two _ _ _ (k1.more_le (fun b m => List.mem_append_left _ m) d1) (k2.more_le (fun b m => List.mem_append_right _ m) d2))
theorem RXs.rk : ∀ {us : List Value} {ps : List PyData}, RXs h us ps → PyData.showableAll ps = true → (∀ t ∈ PyData.shownAll ps, t.length ≤ sizeLine) → Rks prog w h us ps
  | _, _, .nil, _, _ => ⟨[], fun _ m => (by cases m), by rw [PyData.shownAll]; exact .nil⟩
  | _, _, .cons (p := p) (ps := ps) r rs, s, l => by
    rw [PyData.showableAll, Bool.and_eq_true] at s
    rw [PyData.shownAll] at l
    obtain ⟨b1, h1, k1⟩ := RX.rk r s.1 (l _ List.mem_cons_self)
    obtain ⟨b2, h2, k2⟩ := RXs.rk rs s.2 fun t ht => l t (List.mem_cons_of_mem _ ht)
    refine ⟨b1 ++ b2, ?_, ?_⟩
    · rw [PyData.depthAll]
      exact below_app h1 h2 (Nat.le_max_left _ _) (Nat.le_max_right _ _)
    · rw [PyData.depthAll, PyData.shownAll]
      exact .cons ((k1.more fun b m => List.mem_append_left _ m).level_le (Nat.le_max_left _ _)) (k2.more_le (fun b m => List.mem_append_right _ m) (Nat.le_max_right _ _))
end
theorem RX.shows {a : Addr} {p : PyData} (r : RX h (.ref a) p) (s : p.showable = true) (l : p.shown.length ≤ sizeLine) : ∃ T f, ShowsBy prog w h a p T f := by
  cases r with
  | lst e c d r =>
    rename_i o us n ps
    rw [PyData.shown] at l
    rw [PyData.showable] at s
    obtain ⟨bs, hb, hk⟩ := RXs.rk (prog := prog) (w := w) r s fun t ht => Nat.le_trans (listText_mem_le ht) l
    obtain ⟨as, rd⟩ := RX.reads (RX.lst e c d r)
    have na : a ∉ bs := not_mem_of_deeper rd (by rw [PyData.depth]; omega) hb
    refine ⟨_, _, F.slot_list_repr.toG, F.slot_list_str, F.slot_list_format, fun x k => ⟨o, k _ _ e, c⟩, fun A E x Q g u k q => ?_⟩
    rw [PyData.depth] at u
    rw [PyData.shown] at q
    obtain ⟨us⟩ := us
    match us, ps, r, d, hk, q with
    | [], _, .nil, d, hk, q =>
      rw [PyData.shownAll, listText_nil] at q
      exact call_list_repr_empty ⟨o, k _ _ e, c⟩ (k _ _ e) d (q x.heap _ _ fun _ _ z => z)
    | y :: us, _, r, d, hk, q => exact call_list_reprK e c d na (by simpa using hk.length_eq) (fun i y ey => hk.item i y (by simpa using ey)) g (fun b _ => Clear.nil b) u k q l
  | tup e c d r =>
    rename_i o us n ps
    rw [PyData.shown] at l
    rw [PyData.showable] at s
    obtain ⟨bs, hb, hk⟩ := RXs.rk (prog := prog) (w := w) r s fun t ht => Nat.le_trans (tupleText_mem_le ht) l
    obtain ⟨as, rd⟩ := RX.reads (RX.tup e c d r)
    have na : a ∉ bs := not_mem_of_deeper rd (by rw [PyData.depth]; omega) hb
    refine ⟨_, _, F.slot_tuple_repr, F.slot_tuple_str, F.slot_tuple_format, fun x k => ⟨o, k _ _ e, c⟩, fun A E x Q g u k q => ?_⟩
    rw [PyData.depth] at u
    rw [PyData.shown] at q
    exact call_tuple_reprK e c d na hk g (fun b _ => Clear.nil b) u k q l
  | dct e c d ns r r2 =>
    rename_i o es n ps
    rw [PyData.shown] at l
    rw [PyData.showable] at s
    obtain ⟨s1, s2⟩ := PyData.showableKv_split ps s
    obtain ⟨b1, h1, k1⟩ := RXs.rk (prog := prog) (w := w) r s1 fun t ht => let ⟨x, m, le⟩ := PyData.shownKv_key_le ps t ht; Nat.le_trans le (Nat.le_trans (dictText_mem_le m) l)
    obtain ⟨b2, h2, k2⟩ := RXs.rk (prog := prog) (w := w) r2 s2 fun t ht => let ⟨x, m, le⟩ := PyData.shownKv_val_le ps t ht; Nat.le_trans le (Nat.le_trans (dictText_mem_le m) l)
    have d1 := PyData.depthAll_keys_le ps
    have d2 := PyData.depthAll_vals_le ps
    obtain ⟨as, rd⟩ := RX.reads (RX.dct e c d ns r r2)
    have na : a ∉ b1 ++ b2 := not_mem_of_deeper rd (by rw [PyData.depth]; omega) (below_app h1 h2 d1 d2)
    refine ⟨_, _, F.slot_dict_repr, F.slot_dict_str, F.slot_dict_format, fun x k => ⟨o, k _ _ e, c⟩, fun A E x Q g u k q => ?_⟩
    rw [PyData.depth] at u
    rw [PyData.shown, PyData.shownKv_eq] at q
    exact call_dict_reprK e c d ns na (ReprEntriesK.of_two _ _ _ (k1.more_le (fun b m => List.mem_append_left _ m) d1) (k2.more_le (fun b m => List.mem_append_right _ m) d2)) g (fun b _ => Clear.nil b) u k q (by rw [← PyData.shownKv_eq]; exact l)
end
/-! ### the same at the level of data -/
def keyPy : Key → PyData
  | .inl i => .int i
  | .inr x => .str x
mutual
def D.pyX : D → Option PyData
  | .non => some .none
  | .bl b => some (.bool b)
  | .int i => some (.int i)
  | .str x => some (.str x)
  | .tup ds => match pyXL ds with
    | some xs => some (.tuple xs)
    | none => none
  | .lst ds => match pyXL ds with
    | some xs => some (.list xs)
    | none => none
  | .dct kvs => match pyXK kvs with
    | some xs => some (.dict xs)
    | none => none
  | _ => none
def pyXL : List D → Option (List PyData)
  | [] => some []
  | d :: ds => match d.pyX, pyXL ds with
    | some x, some xs => some (x :: xs)
    | _, _ => none
def pyXK : List (Key × D) → Option (List (PyData × PyData))
  | [] => some []
  | (k, d) :: ds => match d.pyX, pyXK ds with
    | some x, some xs => some ((keyPy k, x) :: xs)
    | _, _ => none
end
section
variable {X : Cx} {pins : List (Addr × Obj)} {σ : L2.St} {H : Hp} {s : Shared} {R : Addr → Prop}
theorem keys_rx {h : Heap} {P : Program} {w : World} : ∀ {es : List DictEntry} {kvs : List (Key × Value)} {ws : List (Key × V)} {ds : List (Key × D)} {ps : List (PyData × PyData)}, Pairs (mixKind P w) es kvs → KV ws kvs → RepK X.K H R ds ws → pyXK ds = some ps → RXs h (es.map (·.key)) (ps.map (·.1))
  | _, _, _, [], _, c, v, r, e => by
    cases e
    cases r
    cases v
    cases c
    exact .nil
  | _, _, _, (k, d) :: ds, _, c, v, ⟨y, ys, e1, _, r⟩, e => by
    subst e1
    unfold pyXK at e
    split at e
    · rename_i x xs hx hxs
      cases e
      cases v with
      | cons q t =>
        rename_i kv kvs'
        cases c with
        | cons c1 c2 c3 =>
          rename_i en es'
          refine .cons ?_ (keys_rx c3 t r hxs)
          obtain ⟨k2, u2⟩ := kv
          obtain ⟨q1, _⟩ := q
          have q1 : k = k2 := q1
          subst q1
          rcases keyIs_shape c1 with ⟨i, tk, e1, e2⟩ | ⟨z, tk, e1, e2⟩
          · have e1 : k = .inl i := e1
            subst e1
            show RX h en.key (.int i)
            rw [e2]
            exact .int i tk
          · have e1 : k = .inr z := e1
            subst e1
            show RX h en.key (.str z)
            rw [e2]
            exact .str z tk
    · cases e
mutual
theorem rep_rx (I : Inv X pins σ H s) : ∀ {d : D} {v : V} {p : PyData} {u : Value}, d.pyX = some p → Rep X.K H R d v → RelV v u → RX s.heap u p
  | .non, _, _, _, e, h, r => by
    cases e
    cases h
    cases r
    exact .non
  | .bl b, _, _, _, e, h, r => by
    cases e
    cases h
    cases r
    exact .bl b
  | .int i, _, _, _, e, h, r => by
    cases e
    cases h
    obtain ⟨t, rfl⟩ := r
    exact .int i t
  | .str z, _, _, _, e, h, r => by
    cases e
    cases h
    obtain ⟨t, rfl⟩ := r
    exact .str z t
  | .tup ds, _, _, _, e, ⟨a, xs, e1, h, q⟩, r => by
    unfold D.pyX at e
    split at e
    · rename_i ps hp
      cases e
      subst e1
      cases r
      obtain ⟨its, rv, ⟨o, ho, hc, n, hd⟩, _⟩ := I.tuple h.sq
      exact .tup ho hc hd (by simpa using repL_rx I hp q rv)
    · cases e
  | .lst ds, _, _, _, e, ⟨a, xs, e1, ⟨h, _⟩, q⟩, r => by
    unfold D.pyX at e
    split at e
    · rename_i ps hp
      cases e
      subst e1
      cases r
      obtain ⟨its, rv, ⟨o, n, ho, hc, _, hd⟩, _⟩ := I.list (.inl (.inl h))
      exact .lst ho hc hd (by simpa using repL_rx I hp q rv)
    · cases e
  | .dct kvs, _, _, _, e, ⟨a, ws, e1, ⟨h, _⟩, q⟩, r => by
    unfold D.pyX at e
    split at e
    · rename_i ps hp
      cases e
      subst e1
      cases r
      obtain ⟨_, ns, vs, kv, o, es, ep, ho, hx, hd, _, hpairs, _⟩ := dk_of I.hok h
      exact .dct ho hx.1 hd ns (keys_rx hpairs kv q hp) (repK_rx I hpairs kv q hp)
    · cases e
  | .ty _, _, _, _, e, _, _ => by cases e
  | .ref _, _, _, _, e, _, _ => by cases e
  | .scr _, _, _, _, e, _, _ => by cases e
  | .ins _ _, _, _, _, e, _, _ => by cases e
  | .exn _ _ _, _, _, _, e, _, _ => by cases e
theorem repL_rx (I : Inv X pins σ H s) : ∀ {ds : List D} {vs : List V} {ps : List PyData} {us : List Value}, pyXL ds = some ps → RepL X.K H R ds vs → Vals vs us → RXs s.heap us ps
  | [], _, _, _, e, h, r => by
    cases e
    cases h
    cases r
    exact .nil
  | d :: ds, _, _, _, e, ⟨y, ys, e1, h, q⟩, r => by
    subst e1
    unfold pyXL at e
    split at e
    · rename_i p ps hp hps
      cases e
      cases r with
      | cons r1 r2 => exact .cons (rep_rx I hp h r1) (repL_rx I hps q r2)
    · cases e
theorem repK_rx (I : Inv X pins σ H s) : ∀ {ds : List (Key × D)} {es : List DictEntry} {kvs : List (Key × Value)} {ws : List (Key × V)} {ps : List (PyData × PyData)}, Pairs (mixKind X.prog X.w) es kvs → KV ws kvs → RepK X.K H R ds ws → pyXK ds = some ps → RXs s.heap (es.map (·.val)) (ps.map (·.2))
  | [], _, _, _, _, c, v, r, e => by
    cases e
    cases r
    cases v
    cases c
    exact .nil
  | (k, d) :: ds, _, _, _, _, c, v, ⟨y, ys, e1, h, r⟩, e => by
    subst e1
    unfold pyXK at e
    split at e
    · rename_i x xs hx hxs
      cases e
      cases v with
      | cons q t =>
        cases c with
        | cons c1 c2 c3 =>
          refine .cons ?_ (repK_rx I c3 t r hxs)
          have q2 := rep_rx I hx h q.2
          rw [← c2] at q2
          exact q2
    · cases e
end
end
def shownX (d : D) : Str := match d.pyX with
  | some p => p.shown
  | none => ""
def ShX (n k : Nat) (d : D) : Prop := ∃ p, d.pyX = some p ∧ p.showable = true ∧ p.depth ≤ k ∧ p.shown.length ≤ n
theorem ShX.mono {n m k j : Nat} {d : D} (h : ShX n k d) (hn : n ≤ m) (hk : k ≤ j) : ShX m j d :=
  let ⟨p, h1, h2, h4, h5⟩ := h
  ⟨p, h1, h2, Nat.le_trans h4 hk, Nat.le_trans h5 hn⟩
theorem shx_int (k : Nat) {i : Int} (h : i.natAbs < 10 ^ 60) : ShX 61 k (.int i) :=
  let ⟨p, h1, h2, _, h4, h5⟩ := shw_int k h
  ⟨p, h1, h2, h4, h5⟩
theorem shx_bl (k : Nat) (b : Bool) : ShX 5 k (.bl b) := ⟨.bool b, rfl, rfl, Nat.zero_le _, by cases b <;> decide⟩
theorem shx_str (k : Nat) {z : Str} {m : Nat} (h : PyData.strOk z = true) (hm : z.length ≤ m) : ShX (10 * m + 2) k (.str z) :=
  let ⟨p, h1, h2, _, h4, h5⟩ := shw_str k h hm
  ⟨p, h1, h2, h4, h5⟩
theorem shx_all {n k : Nat} : ∀ {ds : List D}, (∀ d ∈ ds, ShX n k d) → ∃ ps, pyXL ds = some ps ∧ PyData.showableAll ps = true ∧ PyData.depthAll ps ≤ k ∧ piled (PyData.shownAll ps) ≤ ds.length * (n + 2)
  | [], _ => ⟨[], rfl, rfl, Nat.zero_le _, Nat.le_of_eq (by rw [show PyData.shownAll [] = [] from rfl]; simp [piled])⟩
  | d :: ds, h => by
    obtain ⟨p, h1, h2, h4, h5⟩ := h d List.mem_cons_self
    obtain ⟨ps, q1, q2, q4, q5⟩ := shx_all (ds := ds) fun x hx => h x (List.mem_cons_of_mem _ hx)
    refine ⟨p :: ps, ?_, ?_, ?_, ?_⟩
    · unfold pyXL
      rw [h1, q1]
    · rw [PyData.showableAll, h2, q2]
      rfl
    · rw [PyData.depthAll]
      omega
    · rw [PyData.shownAll, piled_cons, List.length_cons, Nat.succ_mul]
      omega
theorem shx_lst {n k : Nat} {ds : List D} (h : ∀ d ∈ ds, ShX n k d) : ShX (ds.length * (n + 2) + 3) (k + 1) (.lst ds) := by
  obtain ⟨ps, q1, q2, q4, q5⟩ := shx_all h
  refine ⟨.list ps, ?_, ?_, ?_, ?_⟩
  · unfold D.pyX
    rw [q1]
  · rw [PyData.showable, q2]
  · rw [PyData.depth]
    omega
  · rw [PyData.shown]
    have := listText_len (PyData.shownAll ps)
    omega
def rReprX (K : PySem.W.Frag) : List V → Hp → VK → Prop := fun xs H Q => ∃ (R : Addr → Prop) (a : Addr) (d : D) (p : PyData), xs = [V.ref a] ∧ d.pyX = some p ∧ Rep K H R d (.ref a) ∧ p.showable = true ∧ p.depth ≤ 62 ∧ p.shown.length ≤ sizeLine ∧ Q (.str p.shown) H
def uReprX (K : PySem.W.Frag) : List V → Hp → VK → Prop := fun xs H Q => uRepr xs H Q ∨ rReprX K xs H Q
theorem uc_reprX1 {X : Cx} (hg : X.A.guards = some []) (hu : X.A.units + 64 < cLine) : CallR X (.builtin "repr") (rReprX X.K) := by
  intro pins s σ H xs us Q I r h
  obtain ⟨R, a, d, p, rfl, hp, rd, hs, hdep, hz, q⟩ := h
  obtain ⟨u, rfl, ru⟩ := vals1 r
  have rx := rep_rx I hp rd ru
  cases (show u = Value.ref a from ru)
  obtain ⟨T, f, S⟩ := RX.shows (prog := X.prog) (w := X.w) rx hs hz
  refine call_repr_slot (by omega) (S.typeIs s fun _ _ e => e) S.slotRepr (S.call X.A.in1 _ s _ hg (by show X.A.units + 1 + p.depth < cLine; omega) (fun _ _ e => e) fun h' t tk hk => ?_)
  exact ⟨_, _, rfl, V.str p.shown, H, I.kept hk, ⟨_, rfl⟩, q⟩
theorem uc_reprX {X : Cx} (hg : X.A.guards = some []) (hu : X.A.units + 64 < cLine) : CallR X (.builtin "repr") (uReprX X.K) := callr_or uc_repr (uc_reprX1 hg hu)
section
variable {K : PySem.W.Frag} {Δ : Sl} {G L : List M} {Qd : Po} {n k : Nat}
theorem ap_reprX1 {d : D} (h : ShX n k d) (hn : n ≤ sizeLine) (hk : k ≤ 62) (q : Qd (.d (.str (shownX d))) G L) : ApC K (uReprX K) [.d d] Δ G L Qd := by
  obtain ⟨p, hp, h2, h4, h5⟩ := h
  have e : shownX d = p.shown := by
    unfold shownX
    rw [hp]
  rw [e] at q
  have h5 := Nat.le_trans h5 hn
  have h4 := Nat.le_trans h4 hk
  intro w ls σ H vs c r Q ret
  obtain ⟨v, rfl, rv⟩ := pair1 r
  have fin : ∀ a, v = .ref a → uReprX K [v] H Q := fun a ea => by
    subst ea
    exact .inr ⟨Rg w ls, a, d, p, rfl, hp, rv, h2, h4, h5, ret.go c Ext.refl (s := .d (.str p.shown)) rfl q⟩
  cases d with
  | tup ds => exact fin _ rv.choose_spec.choose_spec.1
  | lst ds => exact fin _ rv.choose_spec.choose_spec.1
  | dct ds => exact fin _ rv.choose_spec.choose_spec.1
  | non =>
    cases rv
    cases hp
    exact .inl ⟨_, _, rfl, .non, ret.go c Ext.refl (s := .d (.str "None")) rfl q⟩
  | bl b =>
    cases rv
    cases hp
    refine .inl ⟨_, _, rfl, .bl b, ret.go c Ext.refl (s := .d (.str (if b then "True" else "False"))) rfl ?_⟩
    cases b <;> exact q
  | int i =>
    cases rv
    cases hp
    exact .inl ⟨_, _, rfl, .int i (of_decide_eq_true h2), ret.go c Ext.refl (s := .d (.str (Str.ofString (toString i)))) rfl q⟩
  | str z =>
    cases rv
    cases hp
    exact .inl ⟨_, _, rfl, .str z h5, ret.go c Ext.refl (s := .d (.str (reprText z))) rfl q⟩
  | ty n => cases hp
  | ref a => cases hp
  | scr ns => cases hp
  | ins C fs => cases hp
  | exn a dd fs => cases hp
end
end DL

namespace DL
open PySem PySem.Spec PyProof.Rows L2
/-! ### things of any kind -/
def Px (d : D) : Prop := ∃ p, d.pyX = some p
theorem ShX.px {n k : Nat} {d : D} (h : ShX n k d) : Px d := let ⟨p, e, _⟩ := h; ⟨p, e⟩
/-! how many signs d has at most when it is shown -/
/-! ints below b, texts of signs, no deeper than h -/
mutual
def Ok (b h : Nat) : D → Prop
  | .non => True
  | .bl _ => True
  | .int i => i.natAbs ≤ b
  | .str z => PyData.strOk z = true
  | .tup ds => ∃ k, h = k + 1 ∧ OkL b k ds
  | .lst ds => ∃ k, h = k + 1 ∧ OkL b k ds
  | .dct kvs => ∃ k, h = k + 1 ∧ OkK b k kvs
  | _ => False
def OkL (b h : Nat) : List D → Prop
  | [] => True
  | d :: ds => Ok b h d ∧ OkL b h ds
def OkK (b h : Nat) : List (Key × D) → Prop
  | [] => True
  | (k, d) :: ds => (∃ i : Int, k = .inl i ∧ i.natAbs ≤ b) ∧ Ok b h d ∧ OkK b h ds
end
mutual
theorem Ok.mono {b c : Nat} (hb : b ≤ c) : ∀ {h k : Nat} {d : D}, h ≤ k → Ok b h d → Ok c k d
  | _, _, .non, _, _ => trivial
  | _, _, .bl _, _, _ => trivial
  | _, _, .int _, _, q => Nat.le_trans q hb
  | _, _, .str _, _, q => q
  | _, k, .tup _, l, ⟨j, e, q⟩ => ⟨k - 1, by omega, OkL.mono hb (by omega) q⟩
  | _, k, .lst _, l, ⟨j, e, q⟩ => ⟨k - 1, by omega, OkL.mono hb (by omega) q⟩
  | _, k, .dct _, l, ⟨j, e, q⟩ => ⟨k - 1, by omega, OkK.mono hb (by omega) q⟩
  | _, _, .ty _, _, q => q.elim
  | _, _, .ref _, _, q => q.elim
  | _, _, .scr _, _, q => q.elim
  | _, _, .ins _ _, _, q => q.elim
  | _, _, .exn _ _ _, _, q => q.elim
theorem OkL.mono {b c : Nat} (hb : b ≤ c) : ∀ {h k : Nat} {ds : List D}, h ≤ k → OkL b h ds → OkL c k ds
  | _, _, [], _, _ => trivial
  | _, _, _ :: _, l, ⟨q, r⟩ => ⟨Ok.mono hb l q, OkL.mono hb l r⟩
theorem OkK.mono {b c : Nat} (hb : b ≤ c) : ∀ {h k : Nat} {ds : List (Key × D)}, h ≤ k → OkK b h ds → OkK c k ds
  | _, _, [], _, _ => trivial
  | _, _, (_, _) :: _, l, ⟨⟨i, e, x⟩, q, r⟩ => ⟨⟨i, e, Nat.le_trans x hb⟩, Ok.mono hb l q, OkK.mono hb l r⟩
end
/-! ### t == () for a tuple of anything -/
def rEqL0 (K : PySem.W.Frag) (n : Bool) : R2 := fun x y H Q => ∃ (a b : Addr) (xs : List V), x = .ref a ∧ y = .ref b ∧ H a = some (.lst xs) ∧ H b = some (.lst []) ∧ Q (.bl (xor n xs.isEmpty)) H
section
variable {K : PySem.W.Frag} {Δ : Sl} {G L : List M} {Qd : Po} {Qn : PoN}
theorem u_eqL0 {n : Bool} {x y : S} (h : ∃ ds, lsG G L x = some ds ∧ lsG G L y = some [] ∧ Qd (.d (.bl (xor n ds.isEmpty))) G L) : OpC K (rEqL0 K n) x y Δ G L Qd := fun w ls σ H vx vy c rx ry Q q => by
  obtain ⟨ds, hx, hy, k⟩ := h
  obtain ⟨a, xs, rfl, h1, r1⟩ := lsG_get c rx hx
  obtain ⟨b, ys, rfl, h2, r2⟩ := lsG_get c ry hy
  cases r2
  refine ⟨a, b, xs, rfl, rfl, h1, h2, ?_⟩
  have e : xs.isEmpty = ds.isEmpty := by
    have := r1.length
    cases xs <;> cases ds <;> first | rfl | cases this
  rw [e]
  exact q.go c Ext.refl (s := .d (.bl (xor n ds.isEmpty))) rfl k
theorem u_eqL0e {x y : S} (h : ∃ ds, lsG G L x = some ds ∧ lsG G L y = some [] ∧ Qd (.d (.bl ds.isEmpty)) G L) : OpC K (rEqL0 K false) x y Δ G L Qd :=
  let ⟨ds, hx, hy, k⟩ := h
  u_eqL0 ⟨ds, hx, hy, by rw [Bool.false_xor]; exact k⟩
theorem u_neL0e {x y : S} (h : ∃ ds, lsG G L x = some ds ∧ lsG G L y = some [] ∧ Qd (.d (.bl (!ds.isEmpty))) G L) : OpC K (rEqL0 K true) x y Δ G L Qd :=
  let ⟨ds, hx, hy, k⟩ := h
  u_eqL0 ⟨ds, hx, hy, by rw [Bool.true_xor]; exact k⟩
end
end DL

namespace DL
open PySem PySem.Spec PyProof.Rows L2
section
variable {K : PySem.W.Frag}
section
variable {Δ : Sl} {G L : List M} {Qd : Po} {Qn : PoN} {te : TE}
theorem evn_dnew (k : Qn (.dc []) G L) : EvN K tDNewK Δ G L Qn := fun w ls σ H c Q r => fun p hp => r p _ _ _ _ hp (newAt_dc (ds := []) c hp rfl) (Ext.new hp) k
def rStrI : List V → Hp → VK → Prop := fun xs H Q => ∃ i, xs = [.int i] ∧ i.natAbs.log2 < 1920 ∧ Q (.str (Str.ofString (toString i))) H
theorem uc_strI {X : Cx} : CallR X (.type "str") rStrI := call_str_int
theorem digits_ok (i : Int) : PyData.strOk (Str.ofString (toString i)) = true := by
  rw [Str.ofString_eq_toList]
  unfold PyData.strOk
  show ((((toString i).toList.map Char.toNat).toArray).all fun c => decide (c < 0x110000)) = true
  rw [List.all_toArray, List.all_eq_true]
  intro c hc
  obtain ⟨ch, _, rfl⟩ := List.mem_map.mp hc
  have := ch.valid
  refine decide_eq_true ?_
  show ch.val.toNat < _
  rcases this with h | ⟨_, h⟩
  · have h : ch.val.toNat < 0xd800 := h
    omega
  · exact h
end
end
/-! ### a def that calls itself -/
end DL

namespace DL
open PySem PySem.Spec PyProof.Rows L2
/-! ### dicts that hold handles: reading, storing, and a new one with a new object in it -/
section
variable {K : PySem.W.Frag} {Δ : Sl} {G L : List M} {Qd : Po} {Qn : PoN} {te : TE} {E : EndsD}
end
end DL

namespace DL
open PySem PySem.Spec PyProof.Rows L2
/-! ### wide ints -/
def Wd (n : Nat) (x : Int) : Prop := x.natAbs < 2 ^ n
theorem Wd.mono {n m : Nat} {x : Int} (h : Wd n x) (l : n ≤ m) : Wd m x := Nat.lt_of_lt_of_le h (Nat.pow_le_pow_right (by decide) l)
theorem Wd.add {n : Nat} {x y : Int} (h : Wd n x) (k : Wd n y) : Wd (n + 1) (x + y) := by
  unfold Wd at *
  rw [Nat.pow_succ]
  generalize 2 ^ n = p at *
  omega
theorem Wd.of {n : Nat} {x : Int} (h0 : 0 ≤ x) (h : x < 2 ^ n) : Wd n x := by
  unfold Wd
  have : ((2 ^ n : Nat) : Int) = 2 ^ n := by norm_cast
  omega
theorem Wd.div {n : Nat} {z m : Int} (h : Wd n z) (h0 : 0 ≤ z) (hm : 0 < m) : Wd n (z / m) := by
  unfold Wd at *
  have h1 : z / m ≤ z := Int.ediv_le_self m h0
  have h2 : 0 ≤ z / m := Int.ediv_nonneg h0 (by omega)
  generalize 2 ^ n = p at *
  omega
theorem wd_bits {z : Int} (h : Builtin.Int.intBits z ≤ 1048576) : Wd 1048576 z := by
  refine Wd.mono (n := Builtin.Int.intBits z) ?_ h
  unfold Wd Builtin.Int.intBits
  split
  · rename_i e
    have : z = 0 := by simpa using e
    subst this
    decide
  · exact Nat.lt_log2_self
section
variable {K : PySem.W.Frag} {Δ : Sl} {G L : List M} {Qd : Po} {Qn : PoN}
end
/-! ### the deck: a dict of cells (a list of ints), a seed and a count -/
def ekK (c : S) (seed cnt : Int) : List (Key × S) := [(.inr "cells", c), (.inr "seed", .d (.int seed)), (.inr "at", .d (.int cnt))]
theorem cs : ("cells" : Str) ≠ "seed" := by decide
theorem ca : ("cells" : Str) ≠ "at" := by decide
section
variable {K : PySem.W.Frag} {Δ : Sl} {G L : List M} {Qd : Po}
end
structure Ek (G : List M) (k c : Nat) (n : Int) (cells : List Int) (seed cnt : Int) : Prop where
  hk : G[k]? = some (.dh (ekK (.g c) seed cnt))
  hc : G[c]? = some (.pl (cells.map D.int))
  ne : k ≠ c
  s0 : 0 ≤ seed
  s1 : seed < 2 ^ 128
  n0 : 0 ≤ cnt
  n1 : cnt ≤ n
  cl : cells.length ≤ 1000
  cb : ∀ z ∈ cells, Wd 1048576 z
def ekSet (G : List M) (k c : Nat) (cells : List Int) (seed cnt : Int) : List M := (G.set c (.pl (cells.map D.int))).set k (.dh (ekK (.g c) seed cnt))
def EkTo (G : List M) (k c : Nat) (n : Int) (G' : List M) : Prop := ∃ cells seed cnt, G' = ekSet G k c cells seed cnt ∧ Ek G' k c n cells seed cnt
def spDrawE : DSpec := fun ss G Q => ∃ (k c : Nat) (m n : Int) (cells : List Int) (seed cnt : Int), ss = [.g k, .d (.int m)] ∧ Ek G k c n cells seed cnt ∧ n ≤ 2 ^ 32 ∧ 0 < m ∧ m < 2 ^ 60 ∧
  ∀ r G', EkTo G k c (n + 1) G' → 0 ≤ r → r < m → Q (.v (.d (.int r))) G'
theorem EkTo.dk {G G' : List M} {k c : Nat} {n : Int} (h : EkTo G k c n G') : ∃ cells seed cnt, Ek G' k c n cells seed cnt := let ⟨a, b, d, _, e⟩ := h; ⟨a, b, d, e⟩
theorem EkTo.trans {G G1 G2 : List M} {k c : Nat} {n m : Int} (h : EkTo G k c n G1) (h2 : EkTo G1 k c m G2) : EkTo G k c m G2 := by
  obtain ⟨a, b, d, rfl, q⟩ := h
  obtain ⟨a', b', d', rfl, q'⟩ := h2
  refine ⟨a', b', d', ?_, q'⟩
  unfold ekSet
  rw [set_comm (Ne.symm q'.ne), set_set, set_comm q'.ne, set_set]
theorem EkTo.refl {G : List M} {k c : Nat} {n : Int} {cells : List Int} {seed cnt : Int} (h : Ek G k c n cells seed cnt) : EkTo G k c n G := by
  refine ⟨cells, seed, cnt, ?_, h⟩
  unfold ekSet
  rw [set_same h.hc, set_same h.hk]
theorem EkTo.mono {G G' : List M} {k c : Nat} {n m : Int} (h : EkTo G k c n G') (e : n ≤ m) : EkTo G k c m G' := by
  obtain ⟨a, b, d, rfl, q⟩ := h
  exact ⟨a, b, d, rfl, ⟨q.hk, q.hc, q.ne, q.s0, q.s1, q.n0, Int.le_trans q.n1 e, q.cl, q.cb⟩⟩
theorem draw_useE {G : List M} {k c : Nat} {m n : Int} {cells : List Int} {seed cnt : Int} {Q : Res → List M → Prop} (h : Ek G k c n cells seed cnt) (h1 : n ≤ 2 ^ 32) (h2 : 0 < m) (h3 : m < 2 ^ 60)
    (k' : ∀ r G' cells' seed' cnt', EkTo G k c (n + 1) G' → Ek G' k c (n + 1) cells' seed' cnt' → 0 ≤ r → r < m → Q (.v (.d (.int r))) G') : spDrawE [.g k, .d (.int m)] G Q :=
  ⟨k, c, m, n, cells, seed, cnt, rfl, h, h1, h2, h3, fun r G' t a b => let ⟨x, y, z, q⟩ := t.dk; k' r G' x y z t q a b⟩
def spLawE : DSpec := fun ss G Q => ∃ ns : List Int, ss = [.d (.scr ns)] ∧ G = [] ∧ ns.length ≤ 63 ∧ (∀ z ∈ ns, Wd 1048576 z) ∧ Q (.v (.d (.bl true))) []
theorem spLawE_in {ns : List Int} (h : ns.length ≤ 63) (hb : ∀ z ∈ ns, Builtin.Int.intBits z ≤ 1048576) : spLawE [.d (.scr ns)] [] fun r _ => r = .v (.d (.bl true)) := ⟨ns, rfl, rfl, h, fun z hz => wd_bits (hb z hz), rfl⟩
end DL

namespace DL
open PySem PySem.Spec PyProof.Rows L2
/-! ### max(xs, default=d), sum(xs, start=d), max of a list, zip -/
section
variable {prog : Program} {w : World} {A : Around} {E : Value → Shared → Prop} {s : Shared}
end
/-! ### at the level of data -/
section
variable {K : PySem.W.Frag} {Δ : Sl} {G L : List M} {Qd : Po} {ta tk : TA}
end
end DL

namespace DL
open PySem PySem.Spec PyProof.Rows L2
section
variable {K : PySem.W.Frag}
/-! ### a callee sees both stores: the caller's n objects, behind them the own ones -/
def S.proN (n : Nat) : S → S
  | .l k => .g (n + k)
  | s => s
def S.demN (n : Nat) : S → S
  | .g k => if k < n then .g k else .l (k - n)
  | s => s
def M.proN (n : Nat) : M → M
  | .hl xs => .hl (xs.map (S.proN n))
  | .dh kvs => .dh (kvs.map fun p => (p.1, p.2.proN n))
  | .og C fs => .og C (fs.map fun p => (p.1, p.2.proN n))
  | .dq kvs => .dq (kvs.map fun p => (p.1, p.2.proN n))
  | m => m
def M.demN (n : Nat) : M → M
  | .hl xs => .hl (xs.map (S.demN n))
  | .dh kvs => .dh (kvs.map fun p => (p.1, p.2.demN n))
  | .og C fs => .og C (fs.map fun p => (p.1, p.2.demN n))
  | .dq kvs => .dq (kvs.map fun p => (p.1, p.2.demN n))
  | m => m
def S.okN (n : Nat) : S → Prop
  | .g k => k < n
  | .l _ => False
  | _ => True
def M.okN (n : Nat) : M → Prop
  | .hl xs => ∀ s ∈ xs, s.okN n
  | .dh kvs => ∀ p ∈ kvs, p.2.okN n
  | .og _ fs => ∀ p ∈ fs, p.2.okN n
  | .dq kvs => ∀ p ∈ kvs, p.2.okN n
  | _ => True
section
variable {H : Hp} {R : Addr → Prop} {gs ls : List Addr}
theorem getElem?_r {α : Type} {xs ys : List α} {k : Nat} {n : Nat} (hn : xs.length = n) : (xs ++ ys)[n + k]? = ys[k]? := by
  rw [List.getElem?_append_right (by omega), show n + k - xs.length = k by omega]
theorem RS.proN {n : Nat} (hn : gs.length = n) : ∀ {s : S} {v : V}, RS K H R gs ls s v → RS K H R (gs ++ ls) [] (s.proN n) v
  | .d _, _, h => h
  | .g _, _, ⟨a, h, e⟩ => ⟨a, Pre.app gs ls _ _ h, e⟩
  | .l _, _, ⟨a, h, e⟩ => ⟨a, (getElem?_r hn).trans h, e⟩
theorem RS.demN {n : Nat} (hn : gs.length = n) : ∀ {s : S} {v : V}, RS K H R (gs ++ ls) [] s v → RS K H R gs ls (s.demN n) v
  | .d _, _, h => h
  | .l _, _, ⟨a, h, _⟩ => by simp at h
  | .g k, _, ⟨a, h, e⟩ => by
    show RS K H R gs ls (if k < n then S.g k else S.l (k - n)) _
    by_cases hk : k < n
    · rw [if_pos hk]
      refine ⟨a, ?_, e⟩
      rw [List.getElem?_append_left (by omega)] at h
      exact h
    · rw [if_neg hk]
      refine ⟨a, ?_, e⟩
      rw [List.getElem?_append_right (by omega), hn] at h
      exact h
theorem RS.keepN {n : Nat} (hn : gs.length = n) : ∀ {s : S} {v : V}, s.okN n → RS K H R (gs ++ ls) [] s v → RS K H R gs [] s v
  | .d _, _, _, h => h
  | .l _, _, o, _ => o.elim
  | .g k, _, o, ⟨a, h, e⟩ => ⟨a, by
      have o' : k < n := o
      rw [List.getElem?_append_left (by omega)] at h
      exact h, e⟩
theorem RS.isN {n : Nat} (hn : gs.length = n) : ∀ {s : S} {v : V}, RS K H R gs [] s v → s.okN n
  | .d _, _, _ => trivial
  | .l _, _, ⟨a, h, _⟩ => by simp at h
  | .g k, _, ⟨a, h, _⟩ => by
    have := (List.getElem?_eq_some_iff.mp h).1
    show k < n
    omega
theorem MOk.proN {n : Nat} (hn : gs.length = n) {a : Addr} : ∀ {m : M}, MOk K H R gs ls a m → MOk K H R (gs ++ ls) [] a (m.proN n)
  | .pl _, h => h
  | .hl _, ⟨vs, h, r⟩ => ⟨vs, h, paired_mapB r fun _ _ q => q.proN hn⟩
  | .dc _, h => h
  | .ob _ _, h => h
  | .dh _, ⟨vs, h, r⟩ => ⟨vs, h, paired_mapB r fun _ _ q => ⟨q.1, q.2.proN hn⟩⟩
  | .dt _, h => h
  | .dz _ _, h => h
  | .og _ _, ⟨dx, vs, h, r⟩ => ⟨dx, vs, h, paired_mapB r fun _ _ q => ⟨q.1, q.2.proN hn⟩⟩
  | .dq _, ⟨vs, h, r⟩ => ⟨vs, h, paired_mapB r fun _ _ q => ⟨q.1, q.2.proN hn⟩⟩
theorem MOk.demN {n : Nat} (hn : gs.length = n) {a : Addr} : ∀ {m : M}, MOk K H R (gs ++ ls) [] a m → MOk K H R gs ls a (m.demN n)
  | .pl _, h => h
  | .hl _, ⟨vs, h, r⟩ => ⟨vs, h, paired_mapB r fun _ _ q => q.demN hn⟩
  | .dc _, h => h
  | .ob _ _, h => h
  | .dh _, ⟨vs, h, r⟩ => ⟨vs, h, paired_mapB r fun _ _ q => ⟨q.1, q.2.demN hn⟩⟩
  | .dt _, h => h
  | .dz _ _, h => h
  | .og _ _, ⟨dx, vs, h, r⟩ => ⟨dx, vs, h, paired_mapB r fun _ _ q => ⟨q.1, q.2.demN hn⟩⟩
  | .dq _, ⟨vs, h, r⟩ => ⟨vs, h, paired_mapB r fun _ _ q => ⟨q.1, q.2.demN hn⟩⟩
theorem MOk.keepN {n : Nat} (hn : gs.length = n) {a : Addr} : ∀ {m : M}, m.okN n → MOk K H R (gs ++ ls) [] a m → MOk K H R gs [] a m
  | .pl _, _, h => h
  | .hl _, o, ⟨vs, h, r⟩ => ⟨vs, h, paired_map r fun s _ ms q => q.keepN hn (o s ms)⟩
  | .dc _, _, h => h
  | .ob _ _, _, h => h
  | .dh _, o, ⟨vs, h, r⟩ => ⟨vs, h, paired_map r fun p _ ms q => ⟨q.1, q.2.keepN hn (o p ms)⟩⟩
  | .dt _, _, h => h
  | .dz _ _, _, h => h
  | .og _ _, o, ⟨dx, vs, h, r⟩ => ⟨dx, vs, h, paired_map r fun p _ ms q => ⟨q.1, q.2.keepN hn (o p ms)⟩⟩
  | .dq _, o, ⟨vs, h, r⟩ => ⟨vs, h, paired_map r fun p _ ms q => ⟨q.1, q.2.keepN hn (o p ms)⟩⟩
theorem paired_inr {α β : Type} {F : α → β → Prop} : ∀ {as : List α} {bs : List β} {b : β}, Paired F as bs → b ∈ bs → ∃ a, F a b
  | _, _, _, .cons h t, m => by
    rcases List.mem_cons.mp m with rfl | m
    · exact ⟨_, h⟩
    · exact paired_inr t m
theorem MOk.isN {n : Nat} (hn : gs.length = n) {a : Addr} : ∀ {m : M}, MOk K H R gs [] a m → m.okN n
  | .pl _, _ => trivial
  | .hl _, ⟨vs, h, r⟩ => fun s ms => let ⟨v, q⟩ := paired_l r ms; q.isN hn
  | .dc _, _ => trivial
  | .ob _ _, _ => trivial
  | .dh _, ⟨vs, h, r⟩ => fun p ms => let ⟨v, q⟩ := paired_l r ms; q.2.isN hn
  | .dt _, _ => trivial
  | .dz _ _, _ => trivial
  | .og _ _, ⟨_, vs, h, r⟩ => fun p ms => let ⟨v, q⟩ := paired_l r ms; q.2.isN hn
  | .dq _, ⟨vs, h, r⟩ => fun p ms => let ⟨v, q⟩ := paired_l r ms; q.2.isN hn
end
section
variable {w : W} {ls : List Addr} {σ : L2.St} {H H' : Hp} {Δ : Sl} {G L G' ms : List M} {ps : List Addr}
theorem Ctx.okN (c : Ctx K w ls σ H Δ G L) : ∀ m ∈ G, m.okN G.length := fun m hm => by
  obtain ⟨a, q⟩ := paired_inr c.gl hm
  exact MOk.isN (paired_len c.gl) q
def calleeGL (w : W) (ls : List Addr) (H : Hp) : W := ⟨Rg w ls, w.gs ++ ls, H⟩
theorem Ctx.calleeGL (c : Ctx K w ls σ H Δ G L) : Ctx K (DL.calleeGL w ls H) [] [] H [] (G ++ L.map (M.proN G.length)) [] := by
  have hn : w.gs.length = G.length := paired_len c.gl
  have g : Grow H H (Rg w ls) (Rg (DL.calleeGL w ls H) []) := grow_iff fun a r => r.elim id (fun z => by cases z)
  refine ⟨fun a h => ?_, fun a r => ?_, by rw [List.append_nil]; exact c.nd, fun _ h => (by cases h), fun a o h _ => h, ⟨rfl, fun i s e => by simp at e⟩, ?_, .nil, fun _ h => (by cases h)⟩
  · rcases List.mem_append.mp h with h | h
    · exact .inl (c.reg a h)
    · exact .inr h
  · rcases r with r | r
    · exact c.rin a r
    · exact c.lin r
  · refine paired_app (paired_map c.gl fun a m _ q => q.grow g (Pre.app _ _) (Pre.refl _) fun _ z => z) (paired_map2 c.lo fun a m q => ?_)
    exact (MOk.proN hn q).grow g (Pre.refl _) (Pre.refl _) fun _ z => z
theorem paired_split {α β : Type} {F : α → β → Prop} : ∀ {as cs : List α} {bs ds : List β}, as.length = bs.length → Paired F (as ++ cs) (bs ++ ds) → Paired F as bs ∧ Paired F cs ds
  | [], _, [], _, _, q => ⟨.nil, q⟩
  | a :: as, cs, b :: bs, ds, h, .cons q t => by
    obtain ⟨p1, p2⟩ := paired_split (Nat.succ.inj h) t
    exact ⟨.cons q p1, p2⟩
theorem paired_mem {α β : Type} {F : α → β → Prop} : ∀ {as : List α} {bs : List β}, Paired F as bs → Paired (fun a b => b ∈ bs ∧ F a b) as bs
  | _, _, .nil => .nil
  | _, _, .cons q t => .cons ⟨List.mem_cons_self, q⟩ (paired_map (paired_mem t) fun _ _ _ z => ⟨List.mem_cons_of_mem _ z.1, z.2⟩)
theorem Ctx.backGL {Ga La : List M} (c : Ctx K w ls σ H Δ G L) (c' : Ctx K (DL.calleeGL w ls H) ps [] H' [] (Ga ++ La) ms) (hl : Ga.length = G.length) (hk : ∀ m ∈ Ga, m.okN G.length) : Ctx K w ls σ H' Δ Ga (La.map (M.demN G.length)) ∧ Ext w ls H H' := by
  have hn : w.gs.length = G.length := paired_len c.gl
  have e : ∀ a o, H a = some o → a ∉ w.gs ++ ls → H' a = some o := c'.h0
  have e2 : Ext w ls H H' := fun a o h n m => e a o h fun z => (List.mem_append.mp z).elim n m
  have g := e2.grow c.reg
  have g3 : Grow H' H' (Rg (DL.calleeGL w ls H) ps) (Rg w ls) := grow_iff fun a r => .inl r
  obtain ⟨p1, p2⟩ := paired_split (hn.trans hl.symm) c'.gl
  refine ⟨⟨c.reg, fun a r => c'.rin a (.inl r), c.nd, c.fr, fun a o h n => e a o (c.h0 a o h n) fun z => (List.mem_append.mp z).elim n (fun z => (by rw [c.fr a z] at h; cases h)), c.sl.grow g (Pre.refl _) (Pre.refl _), ?_, ?_, c.ld⟩, e2⟩
  · have p3 := paired_mem p1
    exact paired_map p3 fun a m _ q => (MOk.keepN hn (hk m q.1) q.2).grow g3 (Pre.refl _) (Pre.refl _) fun _ z => z
  · exact paired_map2 p2 fun a m q => (MOk.demN hn q).grow g3 (Pre.refl _) (Pre.refl _) fun _ z => z
end
section
variable {Δ : Sl} {G L : List M} {Qd : Po} {ta : TA} {sp : DSpec} {E0' : XK}
def asVGL (n : Nat) (Qd : Po) : Res → List M → Prop
  | .v s, G' => ∃ Ga La, G' = Ga ++ La ∧ Ga.length = n ∧ (∀ m ∈ Ga, m.okN n) ∧ Qd (s.demN n) Ga (La.map (M.demN n))
  | .new _ _, _ => False
theorem evc_callGL (h : EvA K ta Δ G L fun ss G1 L1 => (∀ m ∈ G1, m.okN G1.length) → sp (ss.map (S.proN G1.length)) (G1 ++ L1.map (M.proN G1.length)) (asVGL G1.length Qd)) : EvC K (tCall (spD K sp) [] E0' ta) Δ G L Qd := fun w ls σ H c Q r => h w ls σ H c _ fun vs ss H2 G2 L2 c2 e2 r2 k => by
  show spD K sp (vs ++ []) H2 Q E0'
  rw [List.append_nil]
  have hn : w.gs.length = G2.length := paired_len c2.gl
  have g : Grow H2 H2 (Rg w ls) (Rg (DL.calleeGL w ls H2) []) := grow_iff fun a r => r.elim id (fun z => by cases z)
  have g' : ∀ H' ps, Grow H' H' (Rg (DL.calleeGL w ls H2) ps) (Rg w ls) := fun H' ps => grow_iff fun a r => .inl r
  refine ⟨DL.calleeGL w ls H2, ss.map (S.proN G2.length), G2 ++ L2.map (M.proN G2.length), asVGL G2.length Qd, rfl, c2.calleeGL, paired_mapB r2 fun _ _ q => (RS.proN hn q).grow g (Pre.refl _) (Pre.refl _), k c2.okN, fun v s H' G' c' rs k => ?_, fun ps j p ms H' G' c' hp k => k.elim⟩
  obtain ⟨Ga, La, rfl, hl, hk, k⟩ := k
  obtain ⟨cb, eb⟩ := Ctx.backGL c2 c' hl hk
  exact r v (s.demN G2.length) H' Ga _ cb (e2.trans eb) ((RS.demN hn rs).grow (g' H' []) (Pre.refl _) (Pre.refl _)) k
end
/-! ### a new own object is appended to a list of handles -/
section
variable {Δ : Sl} {G L : List M} {E : EndsD} {te to : TE} {t : TS}
end
/-! ### own rows become data -/
section
variable {Δ : Sl} {G L : List M} {E : EndsD} {t : TS}
end
/-! ### zip of two tuples, of two lists, as data -/
section
variable {Δ : Sl} {G L : List M} {ta : TA}
end
end
end DL

/-! zip(a, b, strict=True) of two tuples of one length -/
namespace DZs
open PySem PySem.Spec PyProof.Rows L2
open PySem.Sem (wp)
abbrev IsZipS (h : Heap) (z TI TO : Addr) (f0 : Value) : Prop :=
  h.get? z = some { cls := .type "zip", dict := none, data := .fields #[f0, .bool false, .bool true, .ref TI, .ref TO], slots := #[] }
section
variable {prog : Program} {w : World} {A : Around} {E : Value → Shared → Prop} {s : Shared}
theorem stop_iter {α : Type} {Q : α → Shared → Prop} (hh : A.handled = none) (hE : ∀ h' e, (∀ c o, s.heap.get? c = some o → h'.get? c = some o) → (∃ o, h'.get? e = some o ∧ o.cls = .type "StopIteration") → E (.ref e) { s with heap := h' }) :
    wpAny (model prog w) A (Builtin.SmallTypes.stopIteration : Sem α) Q E s := by
  unfold Builtin.SmallTypes.stopIteration
  refine wpAny_bind ?_
  simp only [newExc, newTuple]
  refine wpAny_bind (wpAny_newObj_type ?_ (by size_fits))
  refine wpAny_bind (m := firstArgMember _ _) (wpAny_of_eq (a := Value.none) (by first | rfl | (simp only [firstArgMember]; rfl)) ?_)
  refine wpAny_newObj_type ?_ (by size_fits)
  simp only [raiseNew]
  refine wpAny_bind (wpAny_handled ?_)
  rw [hh]
  refine wpAny_bind (wpAny_pure (wpAny_throw ?_))
  exact hE _ _ (fun c o e => Heap.get?_push_of_some _ (Heap.get?_push_of_some _ e)) ⟨_, Heap.get?_push_size _ rfl, rfl⟩

theorem letGo_zipS {elts : List Expr} {x1} {pos : Pos} {z TI TO T : Addr} {Q : Unit → Shared → Prop} (hz : IsZipS s.heap z TI TO (rawInt T))
    (hQ : ∀ h', IsZipS h' z TI TO .none → Heap.SameBut z s.heap h' → Q () { s with heap := h' }) :
    wpAny (model prog w) A (letOwnedTupleGo (.Tuple elts x1 pos) (.ref z) (.ref T)) Q E s := by
  unfold letOwnedTupleGo
  refine wpAny_bind (wpAny_load hz ?_)
  show wpAny _ _ (if (["enumerate", "zip", "dict_itemiterator", "dict_reverseitemiterator", "odict_iterator", "itertools.zip_longest", "itertools.pairwise"].contains "zip" &&
      (#[rawInt T, .bool false, .bool true, .ref TI, .ref TO] : Array Value)[0]? == some (rawInt T)) = true then _ else _) Q E s
  rw [if_pos (by simp)]
  refine wpAny_bind (wpAny_rule ?_)
  show wpAny _ _ (setField (.ref z) 0 .none) Q E s
  exact wpAny_setField_rec hz (by simp) fun h' hz' hs' => hQ h' hz' hs'
theorem pyIter_zipS {z TI TO : Addr} {f0 : Value} {Q : Value → Shared → Prop} (hz : IsZipS s.heap z TI TO f0) (h : Q (.ref z) s) : wpAny (model prog w) A (pyIter (.ref z)) Q E s := by
  have hT : s.TypeIs (.ref z) "zip" := ⟨_, hz, rfl⟩
  refine wpAny_pyIter_slot hT F.slot_zip_iter (wpAny_call_entry F.slot_zip_iter hT F.entry_zip_iter ?_ (F.args_zip_iter_1 _))
  show wpAny _ _ (ret (.ref z)) _ _ s
  exact wpAny_pure ⟨_, rfl, "zip", _, hT, F.slot_zip_next.lookup, h⟩
end
section
variable {prog : Program} {w : World} {A : Around} {E : Value → Shared → Prop} {s : Shared}
end
section
variable {M : Model} {A : Around} {E : Value → Shared → Prop} {s : Shared} {env : Env}
theorem cw_type_kw {pos : Pos} {T : String} {e : Expr} {rest : List Expr} {kws : List Keyword} {Q : Value → Shared → Prop}
    (h : wpAny M A (spliced (backTo pos (starEach (e :: rest) env))) (fun vs s₁ => wpAny M A (evalAll ((backToKw pos (keywordEach kws env)).map (·.2)))
      (fun kvs s₂ => wpAny M A (call (.type T) vs (((backToKw pos (keywordEach kws env)).filterMap (·.1)).zip kvs)) Q E s₂) E s₁) E s)
    (he : backTo pos (starEach (e :: rest) env) = (false, eval e env) :: backTo pos (starEach rest env)) (hplain : (backTo pos (starEach (e :: rest) env)).any (·.1) = false)
    (hall : (backToKw pos (keywordEach kws env)).all (·.1.isSome) = true) (hkw : (backToKw pos (keywordEach kws env)).any (·.1.isNone) = false) :
    wpAny M A (callWith pos (.type T) [] (backTo pos (starEach (e :: rest) env)) (backToKw pos (keywordEach kws env))) Q E s := by
  have h2 : wpAny M A (evalArgs (.type T) true (backTo pos (starEach (e :: rest) env)) (backToKw pos (keywordEach kws env))) (fun a s₁ => wpAny M A (call (.type T) ([] ++ a.pos) a.kw) Q E s₁) E s := by
    rw [he] at h ⊢
    exact evalArgs_kwB hall h
  unfold callWith
  refine wpAny_bind (wpAny_holding (wpAny_mono h2 (fun a s₁ h₁ => wpAny_bind (wpAny_standAt ?_)) fun _ _ x => x))
  simp only [hplain, hkw, Bool.or_false]
  refine wpAny_bind (wpAny_pure ?_)
  exact wpAny_bind (wpAny_mono h₁ (fun r s₂ hr => wpAny_bind (wpAny_holding (wpAny_point (wpAny_pure hr)))) fun _ _ x => x)
end
end DZs
namespace DL
open PySem PySem.Spec PyProof.Rows L2
end DL

namespace DL
open PySem PySem.Spec PyProof.Rows L2
/-! ### pairs of whole numbers; None among numbers; extend -/
theorem eqv_pair (a b c d : Int) : PyData.eqv (.tuple [.int a, .int b]) (.tuple [.int c, .int d]) = decide (a = c ∧ b = d) := by
  have h1 : ∀ x y : Int, PyData.eqv (.int x) (.int y) = decide (x = y) := fun x y => by
    simp [PyData.eqv]
    try rfl
  rw [PyData.eqv, PyData.eqvAll, PyData.eqvAll, PyData.eqvAll, h1, h1]
  simp
section
variable {K : PySem.W.Frag} {Δ : Sl} {G L : List M} {Qd : Po}
def pairD (a b : Int) : D := .tup [.int a, .int b]
def pairP (a b : Int) : PyData := .tuple [.int a, .int b]
theorem py_pair (a b : Int) : (pairD a b).py = some (pairP a b) := rfl
theorem shaped_pair (a b : Int) : SeqAt.shaped (pairP a b) = true := by
  unfold SeqAt.shaped
  rw [show (pairP a b).canLay0 = true from rfl, show (pairP a b).depth = 1 from by
    unfold pairP
    rw [PyData.depth, PyData.depthAll, PyData.depthAll, PyData.depthAll, PyData.depth, PyData.depth]
    rfl]
  rfl
theorem u_eq_pair {a b c d : Int} (k : Qd (.d (.bl (decide (a = c ∧ b = d)))) G L) : OpC K (uEq K) (.d (.tup [.int a, .int b])) (.d (.tup [.int c, .int d])) Δ G L Qd := by
  refine u_eq_d (a := pairD a b) (b := pairD c d) rfl rfl (py_pair a b) (py_pair c d) (shaped_pair a b) (shaped_pair c d) ?_
  rw [show PyData.eqv (pairP a b) (pairP c d) = _ from eqv_pair a b c d]
  exact k
theorem u_ne_pair {a b c d : Int} (k : Qd (.d (.bl (!decide (a = c ∧ b = d)))) G L) : OpC K (uNe K) (.d (.tup [.int a, .int b])) (.d (.tup [.int c, .int d])) Δ G L Qd := by
  refine u_ne_d (a := pairD a b) (b := pairD c d) rfl rfl (py_pair a b) (py_pair c d) (shaped_pair a b) (shaped_pair c d) ?_
  rw [show PyData.eqv (pairP a b) (pairP c d) = _ from eqv_pair a b c d]
  exact k
def oD : Option Int → D
  | none => .non
  | some i => .int i
end
end DL

namespace DL
open PySem PySem.Spec PyProof.Rows L2
/-! ### tuple * 0, * 1 -/
section
variable {X : Cx}
end
section
variable {K : PySem.W.Frag} {Δ : Sl} {G L : List M} {Qd : Po}
theorem u_eq_oi {o : Option Int} {e : Int} (k : Qd (.d (.bl (decide (o = some e)))) G L) : OpC K (uEq K) (.d (oD o)) (.d (.int e)) Δ G L Qd := fun w ls σ H vx vy c rx ry Q q => by
  obtain rfl : vy = V.int e := ry
  cases o with
  | none =>
    obtain rfl : vx = V.non := rx
    refine .inl ⟨rfl, ?_⟩
    have e1 : decide (V.non = V.int e) = decide ((none : Option Int) = some e) := by simp
    rw [e1]
    exact q.go c Ext.refl (s := .d (.bl _)) rfl k
  | some i =>
    obtain rfl : vx = V.int i := rx
    refine .inl ⟨rfl, ?_⟩
    have e1 : decide (V.int i = V.int e) = decide (some i = some e) := by simp
    rw [e1]
    exact q.go c Ext.refl (s := .d (.bl _)) rfl k
theorem isN_o {o : Option Int} (k : Qd (.d (.bl o.isNone)) G L) : OpC K (fun x y H Q => y = .non ∧ Q (.bl (decide (x = .non))) H) (.d (oD o)) (.d .non) Δ G L Qd := fun w ls σ H vx vy c rx ry Q q => by
  obtain rfl : vy = V.non := ry
  cases o with
  | none =>
    obtain rfl : vx = V.non := rx
    exact ⟨rfl, q.go c Ext.refl (s := .d (.bl _)) rfl (by simpa using k)⟩
  | some i =>
    obtain rfl : vx = V.int i := rx
    refine ⟨rfl, ?_⟩
    rw [decide_eq_false (by simp)]
    exact q.go c Ext.refl (s := .d (.bl false)) rfl k
theorem notN_o {o : Option Int} (k : Qd (.d (.bl o.isSome)) G L) : OpC K (fun x y H Q => y = .non ∧ Q (.bl (!decide (x = .non))) H) (.d (oD o)) (.d .non) Δ G L Qd := fun w ls σ H vx vy c rx ry Q q => by
  obtain rfl : vy = V.non := ry
  cases o with
  | none =>
    obtain rfl : vx = V.non := rx
    refine ⟨rfl, ?_⟩
    rw [decide_eq_true rfl]
    exact q.go c Ext.refl (s := .d (.bl false)) rfl k
  | some i =>
    obtain rfl : vx = V.int i := rx
    refine ⟨rfl, ?_⟩
    rw [decide_eq_false (by simp)]
    exact q.go c Ext.refl (s := .d (.bl true)) rfl k
end
end DL

/-! enumerate(a tuple) -/
namespace DEt
open PySem PySem.Spec PyProof.Rows L2
open PySem.Sem (wp)
section
variable {prog : Program} {w : World} {A : Around} {E : Value → Shared → Prop} {s : Shared}
end
section
variable {prog : Program} {w : World} {A : Around} {E : Value → Shared → Prop} {s : Shared}
end
end DEt
namespace DL
open PySem PySem.Spec PyProof.Rows L2
end DL

namespace DL
open PySem PySem.Spec PyProof.Rows L2
/-! ### a or b, a None or a number; [x] * int(b) -/
section
variable {K : PySem.W.Frag} {Δ : Sl} {G L : List M} {Qd : Po} {Qn : PoN} {ta tb : TE}
end
end DL

namespace DL
open PySem PySem.Spec PyProof.Rows L2
/-! ### dicts whose keys are pairs of whole numbers, their values whole numbers -/
def gV (p : List Key × Int) : List Key × V := (p.1, V.int p.2)
section
variable {K : PySem.W.Frag} {Δ : Sl} {G L : List M} {Qd : Po} {Qn : PoN}
end
end DL

namespace DL
open PySem PySem.Spec PyProof.Rows L2
/-! ### max of a tuple of whole numbers -/
section
variable {K : PySem.W.Frag} {Δ : Sl} {G L : List M} {Qd : Po}
end
end DL

/-! zip(a tuple, a list), over the library's GoesN.zip2 -/
namespace DZm
open PySem PySem.Spec PyProof.Rows L2
end DZm
namespace DL
open PySem PySem.Spec PyProof.Rows L2
end DL

/-! zip(a, b, strict=True) of two texts of one length, enumerate(a text): over the library's Draws -/
namespace DZx
open PySem PySem.Spec PyProof.Rows L2 DZs
open PySem.Sem (wp)
section
variable {prog : Program} {w : World} {A : Around} {E : Value → Shared → Prop} {s : Shared} {z TI TO i1 i2 it : Addr} {fp fp1 fp2 : List Addr} {n n1 n2 i : Nat} {P P1 P2 : Nat → Value → Prop} {St St1 St2 : Nat → Heap → Prop} {a1 a2 : Value}
end
section
variable {prog : Program} {w : World} {A : Around} {E : Value → Shared → Prop} {s : Shared} {z TI TO i1 i2 : Addr} {fp1 fp2 : List Addr} {n n1 n2 i : Nat} {P1 P2 : Nat → Value → Prop} {St1 St2 : Nat → Heap → Prop} {a1 a2 : Value}
end
section
variable {prog : Program} {w : World} {A : Around} {E : Value → Shared → Prop} {s : Shared}
end
/-! ### enumerate(a text) -/
section
variable {prog : Program} {w : World} {A : Around} {E : Value → Shared → Prop} {s : Shared}
end
end DZx
namespace DL
open PySem PySem.Spec PyProof.Rows L2
end DL

/-! texts: sorted of any number of them, rstrip, endswith, join, count; a list by a step -/
namespace DSo
open PySem PySem.Spec PyProof.Rows L2
/-! the order of texts -/
def leC : List Nat → List Nat → Bool
  | [], _ => true
  | _ :: _, [] => false
  | a :: r, b :: t => decide (a < b) || (decide (a = b) && leC r t)
theorem leC_anti : ∀ a b : List Nat, leC a b = true → leC b a = true → a = b
  | [], [], _, _ => rfl
  | [], _ :: _, _, h => by cases h
  | _ :: _, [], h, _ => by cases h
  | a :: r, b :: t, h, g => by
    unfold leC at h g
    simp only [Bool.or_eq_true, Bool.and_eq_true, decide_eq_true_eq] at h g
    rcases h with h | ⟨h, h2⟩
    · rcases g with g | ⟨g, _⟩ <;> omega
    · rcases g with g | ⟨_, g2⟩
      · omega
      · rw [h, leC_anti r t h2 g2]
def leT (a b : Str) : Bool := leC a.cps.toList b.cps.toList
theorem leT_anti {a b : Str} (h : leT a b = true) (g : leT b a = true) : a = b := by
  have := leC_anti _ _ h g
  obtain ⟨a⟩ := a
  obtain ⟨b⟩ := b
  simp at this
  rw [this]
theorem uniq : ∀ {l1 l2 : List Str}, l1.Perm l2 → l1.Pairwise (fun a b => leT a b = true) → l2.Pairwise (fun a b => leT a b = true) → l1 = l2
  | [], l2, p, _, _ => (List.Perm.nil_eq p)
  | a :: r, [], p, _, _ => absurd p.length_eq (by simp)
  | a :: r, b :: t, p, h, g => by
    have ha := p.mem_iff.mp (List.mem_cons_self (a := a) (l := r))
    have hb := p.mem_iff.mpr (List.mem_cons_self (a := b) (l := t))
    have e : a = b := by
      rcases List.mem_cons.mp ha with e | ha
      · exact e
      · rcases List.mem_cons.mp hb with e | hb
        · exact e.symm
        · exact leT_anti ((List.pairwise_cons.mp h).1 b hb) ((List.pairwise_cons.mp g).1 a ha)
    subst e
    rw [uniq p.cons_inv (List.pairwise_cons.mp h).2 (List.pairwise_cons.mp g).2]
/-! a list by a step -/
end DSo
namespace DL
open PySem PySem.Spec PyProof.Rows L2 DSo
section
variable {K : PySem.W.Frag} {Δ : Sl} {G L : List M} {Qd : Po} {Qn : PoN} {te : TE}
end
end DL

namespace DL
open PySem PySem.Spec PyProof.Rows L2
section
variable {K : PySem.W.Frag} {Δ : Sl} {G L : List M} {Qn : PoN} {wi : TI} {g : TG} {tt : TT} {te : TE} {vs : List Nat}
end
end DL

/-! sets of texts: set(a list of texts), sorted of it, len of it -/
namespace DSt
open PySem PySem.Spec PyProof.Rows L2
def keyS (e : Int × Value) : Str := match e.2 with | .str k _ => k | _ => Str.empty
def GoodS (P : Program) (w : World) (e : Int × Value) : Prop := ∃ k tk, e.2 = Value.str k tk ∧ e.1 = (PySem.strKind P w).hash k

def SetS (P : Program) (w : World) (h : Heap) (a : Addr) (S : Str → Bool) (n : Nat) : Prop :=
  ∃ o es ep t, h.get? a = some o ∧ o.ExactSet ∧ o.data = .set es ep t ∧ (∀ e ∈ es.toList, GoodS P w e) ∧ (es.toList.map keyS).Nodup ∧ (∀ k, S k = true ↔ k ∈ es.toList.map keyS) ∧
    es.size < scanBound ∧ t.fits es.size = true ∧ es.size = n ∧ Ris t.place.toList ∧ (w.params.followText "set-order" = true ∨ t.led = true)

section
variable {P : Program} {w : World} {h h' : Heap} {a : Addr} {S : Str → Bool} {n : Nat}

theorem SetS.at (R : SetS P w h a S n) (k : ∀ o, h.get? a = some o → h'.get? a = some o) : SetS P w h' a S n := by
  obtain ⟨o, es, ep, t, ho, r⟩ := R
  exact ⟨o, es, ep, t, k o ho, r⟩
end

section
variable {P : Program} {w : World} {A : Around} {E : Value → Shared → Prop} {s : Shared} {a : Addr} {S : Str → Bool} {n : Nat}

/-! ### add -/
end

section
variable {P : Program} {w : World} {A : Around} {R : Result → Shared → Prop} {I : Addr} {fp wr : List Addr} {G : Array GenState → Array GenState → Prop} {n : Nat} {Pv : Nat → Value → Prop} {St : Nat → Shared → Prop}
end

section
variable {P : Program} {w : World} {A : Around} {E : Value → Shared → Prop} {s : Shared}
end
section
variable {P : Program} {w : World} {A : Around} {E : Value → Shared → Prop} {s : Shared} {a : Addr}
end

/-! ### rules -/
section
variable {X : Cx}
end
end DSt
namespace DL
open PySem PySem.Spec PyProof.Rows L2 DSo DSt
section
variable {K : PySem.W.Frag} {Δ : Sl} {G L : List M} {Qd : Po} {Qn : PoN} {te : TE} {P : Program} {w0 : World}
end
end DL

/-! {True: a, False: b}[x]: the dict is made, read once, and forgotten -/
namespace DBx
open PySem PySem.Spec PyProof.Rows L2
end DBx
namespace DL
open PySem PySem.Spec PyProof.Rows L2 DBx
section
variable {K : PySem.W.Frag} {Δ : Sl} {G L : List M} {Qd : Po} {ta tb te : TE}
end
end DL

/-! a text turned about; tuple(a text) -/
namespace DRv
open PySem PySem.Spec PyProof.Rows L2
open Builtin Builtin.Str
end DRv
namespace DL
open PySem PySem.Spec PyProof.Rows L2 DRv
section
variable {K : PySem.W.Frag} {Δ : Sl} {G L : List M} {Qd : Po} {te : TE}
end
end DL

/-! truths as numbers: +, -, == with an int, str of a truth -/
namespace DBo
open PySem PySem.Spec PyProof.Rows L2 DL
end DBo
namespace DL
open PySem PySem.Spec PyProof.Rows L2 DBo
section
variable {K : PySem.W.Frag} {Δ : Sl} {G L : List M} {Qd : Po} {Qn : PoN}
end
end DL

/-! list.count of texts; upper of any text can be shown -/
namespace DLc
open PySem PySem.Spec PyProof.Rows L2
section
variable {X : Cx}
end
/-! upper -/
theorem app_ok {x y : Str} (hx : PyData.strOk x = true) (hy : PyData.strOk y = true) : PyData.strOk (x ++ y) = true := by
  show (x.cps ++ y.cps).all (· < 0x110000) = true
  rw [Array.all_append]
  exact Bool.and_eq_true_iff.mpr ⟨hx, hy⟩
end DLc
namespace DL
open PySem PySem.Spec PyProof.Rows L2 DLc
section
variable {K : PySem.W.Frag} {Δ : Sl} {G L : List M} {Qd : Po}
end
end DL

/-! sum of a tuple of whole numbers -/
namespace DL
open PySem PySem.Spec PyProof.Rows L2
section
variable {K : PySem.W.Frag} {Δ : Sl} {G L : List M} {Qd : Po}
end
end DL

/-! a def held in a slot is called; list(range(n)); sorted(ints) -/
namespace DL
open PySem PySem.Spec PyProof.Rows L2
section
variable {K : PySem.W.Frag} {Δ : Sl} {G L : List M} {Qd : Po} {Qn : PoN} {te : TE} {ta : TA} {sp : DSpec} {E0' : XK}
end
end DL

/-! sorted(set(a list of ints)); list(range(a, b)); a list extended by it -/
namespace DSi
open PySem PySem.Spec PyProof.Rows L2
section
variable {P : Program} {w : World} {A : Around} {E : Value → Shared → Prop} {s : Shared}
end
section
variable {X : Cx}
end
end DSi
namespace DL
open PySem PySem.Spec PyProof.Rows L2 DSi
section
variable {K : PySem.W.Frag} {Δ : Sl} {G L : List M} {Qd : Po} {Qn : PoN} {te tf : TE} {w0 : World}
theorem evn_listRg2 (h : EvC K te Δ G L fun x G1 L1 => EvC K tf Δ G1 L1 fun y G2 L2 => ∃ i j, x = .d (.int i) ∧ y = .d (.int j) ∧ (-100000 ≤ i ∧ i ≤ 100000 ∧ -100000 ≤ j ∧ j ≤ 100000) ∧ Qn (.pl (rngD i (j - i).toNat)) G2 L2) : EvN K (tLstRg (tRg2 te tf)) Δ G L Qn := fun w ls σ H c Q r => h w ls σ H c _ fun v s H2 G2 L2 c2 e2 r2 h2 => h2 w ls σ H2 c2 _ fun v' s' H3 G3 L3 c3 e3 r3 ⟨i, j, e, e', ⟨h0, h1, h4, h5⟩, k⟩ => by
  subst e
  subst e'
  have r2 : v = V.int i := r2
  have r3 : v' = V.int j := r3
  refine ⟨i, j, r2, r3, (⟨by omega, by omega, by omega, by omega, by omega⟩ : RgOk i j), fun p hp => ?_⟩
  have e1 : rngD i (j - i).toNat = ((List.range (j - i).toNat).map fun (n : Nat) => i + (n : Int)).map D.int := by
    rw [List.map_map]
    rfl
  have e2' : rgV i j = ((List.range (j - i).toNat).map fun (n : Nat) => i + (n : Int)).map V.int := by
    unfold rgV
    rw [List.map_map]
    rfl
  rw [e2']
  rw [e1] at k
  exact r p _ _ _ _ (none_back c2 e2 (none_back c3 e3 hp)) (newAt_pl c3 hp RepL.ints) ((e2.trans e3).trans (Ext.new hp)) k
end
end DL

/-! a op b op c op d, as a test -/
namespace DCh
open PySem PySem.Spec PyProof.Rows L2
def tCh3 (r r' r'' : R2) (ta tb tc td : TE) : TT := fun σ H Q => ta σ H fun x H1 => tb σ H1 fun y H2 => r x y H2 fun z H3 => ∃ k, z = .bl k ∧
  (if k = true then tc σ H3 fun u H4 => r' y u H4 fun z2 H5 => ∃ k2, z2 = .bl k2 ∧ (if k2 = true then td σ H5 fun v H6 => r'' u v H6 fun z3 H7 => ∃ k3, z3 = .bl k3 ∧ Q k3 H7 else Q false H5) else Q false H3)
section
variable {X : Cx} {a b c d : Expr} {ta tb tc td : TE} {pos : Pos}
end
end DCh
namespace DL
open PySem PySem.Spec PyProof.Rows L2 DCh
section
variable {K : PySem.W.Frag} {Δ : Sl} {G L : List M} {Qb : PoB} {ta tb tc td : TE} {r r' r'' : R2}
theorem evb_ch3 (h : EvC K ta Δ G L fun x G1 L1 => EvC K tb Δ G1 L1 fun y G2 L2 => OpC K r x y Δ G2 L2 fun z G3 L3 => ∃ b, z = .d (.bl b) ∧
    if b = true then EvC K tc Δ G3 L3 fun u G4 L4 => OpC K r' y u Δ G4 L4 fun z2 G5 L5 => ∃ b2, z2 = .d (.bl b2) ∧
      if b2 = true then EvC K td Δ G5 L5 fun v G6 L6 => OpC K r'' u v Δ G6 L6 fun z3 G7 L7 => ∃ b3, z3 = .d (.bl b3) ∧ Qb b3 G7 L7 else Qb false G5 L5 else Qb false G3 L3) : EvB K (tCh3 r r' r'' ta tb tc td) Δ G L Qb :=
  fun w ls σ H c Q ret => h w ls σ H c _ fun v s H2 G2 L2 c2 e2 r2 h2 => h2 w ls σ H2 c2 _ fun v3 s3 H3 G3 L3 c3 e3 r3 h3 => h3 w ls σ H3 v v3 c3 (r2.on c2 e3) r3 _ fun v4 s4 H4 G4 L4 c4 e4 r4 ⟨b, e, k⟩ => by
    subst e
    refine ⟨b, r4, ?_⟩
    cases b with
    | true =>
      rw [if_pos rfl] at k ⊢
      exact k w ls σ H4 c4 _ fun v5 s5 H5 G5 L5 c5 e5 r5 h5 => h5 w ls σ H5 v3 v5 c5 ((r3.on c3 e4).on c4 e5) r5 _ fun v6 s6 H6 G6 L6 c6 e6 r6 ⟨b2, e', k2⟩ => by
        subst e'
        refine ⟨b2, r6, ?_⟩
        cases b2 with
        | true =>
          rw [if_pos rfl] at k2 ⊢
          exact k2 w ls σ H6 c6 _ fun v7 s7 H7 G7 L7 c7 e7 r7 h7 => h7 w ls σ H7 v5 v7 c7 ((r5.on c5 e6).on c6 e7) r7 _ fun v8 s8 H8 G8 L8 c8 e8 r8 ⟨b3, e'', k3⟩ => by
            subst e''
            exact ⟨b3, r8, ret b3 H8 G8 L8 c8 (e2.trans (e3.trans (e4.trans (e5.trans (e6.trans (e7.trans e8)))))) k3⟩
        | false =>
          rw [if_neg Bool.false_ne_true] at k2 ⊢
          exact ret _ H6 G6 L6 c6 (e2.trans (e3.trans (e4.trans (e5.trans e6)))) k2
    | false =>
      rw [if_neg Bool.false_ne_true] at k ⊢
      exact ret _ H4 G4 L4 c4 (e2.trans (e3.trans e4)) k
end
end DL

/-! zip(a, b, strict=True) of two lists of one length -/
namespace DZl
open PySem PySem.Spec PyProof.Rows L2
open PySem.Sem (wp)
abbrev IsZipS (h : Heap) (z TI TO : Addr) (f0 : Value) : Prop :=
  h.get? z = some { cls := .type "zip", dict := none, data := .fields #[f0, .bool false, .bool true, .ref TI, .ref TO], slots := #[] }
section
variable {prog : Program} {w : World} {A : Around} {E : Value → Shared → Prop} {s : Shared}
theorem stop_iter {α : Type} {Q : α → Shared → Prop} (hh : A.handled = none) (hE : ∀ h' e, (∀ c o, s.heap.get? c = some o → h'.get? c = some o) → (∃ o, h'.get? e = some o ∧ o.cls = .type "StopIteration") → E (.ref e) { s with heap := h' }) :
    wpAny (model prog w) A (Builtin.SmallTypes.stopIteration : Sem α) Q E s := by
  unfold Builtin.SmallTypes.stopIteration
  refine wpAny_bind ?_
  simp only [newExc, newTuple]
  refine wpAny_bind (wpAny_newObj_type ?_ (by size_fits))
  refine wpAny_bind (m := firstArgMember _ _) (wpAny_of_eq (a := Value.none) (by first | rfl | (simp only [firstArgMember]; rfl)) ?_)
  refine wpAny_newObj_type ?_ (by size_fits)
  simp only [raiseNew]
  refine wpAny_bind (wpAny_handled ?_)
  rw [hh]
  refine wpAny_bind (wpAny_pure (wpAny_throw ?_))
  exact hE _ _ (fun c o e => Heap.get?_push_of_some _ (Heap.get?_push_of_some _ e)) ⟨_, Heap.get?_push_size _ rfl, rfl⟩

theorem letGo_zipS {elts : List Expr} {x1} {pos : Pos} {z TI TO T : Addr} {Q : Unit → Shared → Prop} (hz : IsZipS s.heap z TI TO (rawInt T))
    (hQ : ∀ h', IsZipS h' z TI TO .none → Heap.SameBut z s.heap h' → Q () { s with heap := h' }) :
    wpAny (model prog w) A (letOwnedTupleGo (.Tuple elts x1 pos) (.ref z) (.ref T)) Q E s := by
  unfold letOwnedTupleGo
  refine wpAny_bind (wpAny_load hz ?_)
  show wpAny _ _ (if (["enumerate", "zip", "dict_itemiterator", "dict_reverseitemiterator", "odict_iterator", "itertools.zip_longest", "itertools.pairwise"].contains "zip" &&
      (#[rawInt T, .bool false, .bool true, .ref TI, .ref TO] : Array Value)[0]? == some (rawInt T)) = true then _ else _) Q E s
  rw [if_pos (by simp)]
  refine wpAny_bind (wpAny_rule ?_)
  show wpAny _ _ (setField (.ref z) 0 .none) Q E s
  exact wpAny_setField_rec hz (by simp) fun h' hz' hs' => hQ h' hz' hs'
theorem pyIter_zipS {z TI TO : Addr} {f0 : Value} {Q : Value → Shared → Prop} (hz : IsZipS s.heap z TI TO f0) (h : Q (.ref z) s) : wpAny (model prog w) A (pyIter (.ref z)) Q E s := by
  have hT : s.TypeIs (.ref z) "zip" := ⟨_, hz, rfl⟩
  refine wpAny_pyIter_slot hT F.slot_zip_iter (wpAny_call_entry F.slot_zip_iter hT F.entry_zip_iter ?_ (F.args_zip_iter_1 _))
  show wpAny _ _ (ret (.ref z)) _ _ s
  exact wpAny_pure ⟨_, rfl, "zip", _, hT, F.slot_zip_next.lookup, h⟩
end
section
variable {prog : Program} {w : World} {A : Around} {E : Value → Shared → Prop} {s : Shared}
end
section
variable {M : Model} {A : Around} {E : Value → Shared → Prop} {s : Shared} {env : Env}
theorem cw_type_kw {pos : Pos} {T : String} {e : Expr} {rest : List Expr} {kws : List Keyword} {Q : Value → Shared → Prop}
    (h : wpAny M A (spliced (backTo pos (starEach (e :: rest) env))) (fun vs s₁ => wpAny M A (evalAll ((backToKw pos (keywordEach kws env)).map (·.2)))
      (fun kvs s₂ => wpAny M A (call (.type T) vs (((backToKw pos (keywordEach kws env)).filterMap (·.1)).zip kvs)) Q E s₂) E s₁) E s)
    (he : backTo pos (starEach (e :: rest) env) = (false, eval e env) :: backTo pos (starEach rest env)) (hplain : (backTo pos (starEach (e :: rest) env)).any (·.1) = false)
    (hall : (backToKw pos (keywordEach kws env)).all (·.1.isSome) = true) (hkw : (backToKw pos (keywordEach kws env)).any (·.1.isNone) = false) :
    wpAny M A (callWith pos (.type T) [] (backTo pos (starEach (e :: rest) env)) (backToKw pos (keywordEach kws env))) Q E s := by
  have h2 : wpAny M A (evalArgs (.type T) true (backTo pos (starEach (e :: rest) env)) (backToKw pos (keywordEach kws env))) (fun a s₁ => wpAny M A (call (.type T) ([] ++ a.pos) a.kw) Q E s₁) E s := by
    rw [he] at h ⊢
    exact evalArgs_kwB hall h
  unfold callWith
  refine wpAny_bind (wpAny_holding (wpAny_mono h2 (fun a s₁ h₁ => wpAny_bind (wpAny_standAt ?_)) fun _ _ x => x))
  simp only [hplain, hkw, Bool.or_false]
  refine wpAny_bind (wpAny_pure ?_)
  exact wpAny_bind (wpAny_mono h₁ (fun r s₂ hr => wpAny_bind (wpAny_holding (wpAny_point (wpAny_pure hr)))) fun _ _ x => x)
end
end DZl
namespace DL
open PySem PySem.Spec PyProof.Rows L2
end DL

namespace DL
open PySem PySem.Spec PyProof.Rows L2
section
variable {K : PySem.W.Frag} {Δ : Sl} {G L : List M} {Qd : Po}
theorem isN_t {ds : List D} (k : Qd (.d (.bl false)) G L) : OpC K (fun x y H Q => y = .non ∧ Q (.bl (decide (x = .non))) H) (.d (.tup ds)) (.d .non) Δ G L Qd := fun w ls σ H vx vy c rx ry Q q => by
  obtain rfl : vy = V.non := ry
  obtain ⟨a, xs, rfl, _⟩ := rx
  refine ⟨rfl, ?_⟩
  rw [decide_eq_false (by simp)]
  exact q.go c Ext.refl (s := .d (.bl false)) rfl k
theorem notN_t {ds : List D} (k : Qd (.d (.bl true)) G L) : OpC K (fun x y H Q => y = .non ∧ Q (.bl (!decide (x = .non))) H) (.d (.tup ds)) (.d .non) Δ G L Qd := fun w ls σ H vx vy c rx ry Q q => by
  obtain rfl : vy = V.non := ry
  obtain ⟨a, xs, rfl, _⟩ := rx
  refine ⟨rfl, ?_⟩
  rw [decide_eq_false (by simp)]
  exact q.go c Ext.refl (s := .d (.bl true)) rfl k
end
end DL

/-! exceptions of own classes with one field: defs that raise, raise, try .. except .. as -/
namespace DXe
open PySem PySem.Spec PyProof.Rows L2
section
variable {X : Cx} {CX : CXT} {k i : Nat} {f : Addr} {fd : FuncData} {ps : List Str} {sp : Sp} {E : L2.St → XK} {x : Str} {p pos : Pos} {e : Expr} {es : List Expr} {t : TA}
end
/-! what isinstance says of classes -/
theorem kit_ty {K : PySem.W.Frag} {C : Addr} {T : String} (hm : PySem.W.kitMeta T = true) (h : PySem.W.subIn K (.ref C) (.type T) = some true) : PySem.W.kitOne K (.ref C) (.type T) = some true := by
  unfold PySem.W.kitOne
  rw [if_neg (by intro z; cases beq_iff_eq.mp z)]
  show (if PySem.W.kitMeta T = true then PySem.W.subIn K (.ref C) (.type T) else none) = _
  rw [if_pos hm]
  exact h
theorem kit_ref {K : PySem.W.Frag} {C D : Addr} (hC : PySem.W.subIn K (.ref C) (.ref C) = some true) (ic : PySem.W.isClsIn K D = true) (ty : PySem.W.typeIn K (.ref D) = some (.type "type")) (h : PySem.W.subIn K (.ref C) (.ref D) = some false) : PySem.W.kitOne K (.ref C) (.ref D) = some false := by
  unfold PySem.W.kitOne
  rw [if_neg (by
    intro z
    have e : C = D := Value.ref.inj (beq_iff_eq.mp z)
    subst e
    rw [hC] at h
    cases h)]
  have e2 : ((PySem.W.clsIn K D).isSome && PySem.W.typeIn K (.ref D) == some (.type "type")) = true := by
    have ic : (PySem.W.clsIn K D).isSome = true := ic
    rw [ic, ty]
    rfl
  show (if ((PySem.W.clsIn K D).isSome && PySem.W.typeIn K (.ref D) == some (.type "type")) = true then PySem.W.subIn K (.ref C) (.ref D) else none) = _
  rw [if_pos e2]
  exact h
end DXe
namespace DL
open PySem PySem.Spec PyProof.Rows L2
structure Exn where
  C : Addr
  fs : List (Str × D)
def ExnAt (K : PySem.W.Frag) (H : Hp) (R : Addr → Prop) (cls : Value) (d : Option Addr) (x : Exn) : Prop := cls = .ref x.C ∧ ∃ dd ws, d = some dd ∧ (H dd = some (.xd ws) ∧ ¬ R dd) ∧ RepF K H R x.fs ws
abbrev DSpecX := List S → List M → (Res → List M → Prop) → (Exn → List M → Prop) → Prop
section
variable {K : PySem.W.Frag}
theorem ExnAt.grow {H H' : Hp} {R R' : Addr → Prop} {cls : Value} {d : Option Addr} {x : Exn} (g : Grow H H' R R') (h : ExnAt K H R cls d x) : ExnAt K H' R' cls d x := by
  obtain ⟨e, dd, ws, ed, ⟨h1, n1⟩, r⟩ := h
  exact ⟨e, dd, ws, ed, ⟨g.keep _ _ h1 n1, fun z => n1 (g.reg _ _ h1 z)⟩, r.grow g⟩
section
variable {Δ : Sl} {G L : List M} {Qd : Po} {E : EndsD} {ta ts : TA} {te : TE} {tt : TT} {F : DSpecX} {Wi : WX} {g : TG}
variable {Qx : Exn → List M → List M → Prop}
end
end
end DL
namespace DL
open PySem PySem.Spec PyProof.Rows L2
section
variable {K : PySem.W.Frag} {Δ : Sl} {G L : List M}
end
end DL

/-! defs whose last parameters have defaults (None all); calls that lean on them, and calls by keywords -/
namespace DL
open PySem PySem.Spec PyProof.Rows L2
section
variable {P : Program} {w : World} {K : PySem.W.Frag} {mg : Str → Option Value} {base : Heap}
abbrev FunDf (K : PySem.W.Frag) (x qual : Str) (st : Stmt) (dvs : List V) (f : Addr) (fd : FuncData) : Prop := FunD K x qual (defArgs st) (defBody st) (defScope st) dvs [] f fd
theorem okDD {x qual : Str} {st : Stmt} {dvs : List V} {f : Addr} {fd : FuncData} {N ps : List Str} {k : Nat} {sp : DSpec} (F : FunDf K x qual st dvs f fd) (S : FnScope N ps (defScope st)) (len : ∀ ss G Qd, sp ss G Qd → ss.length = ps.length)
    (hbody : ∀ (cdv : Value) (A : Around) (outer : List Env) (s : Shared) (H : Hp) (E : XK) (ss : List DL.S) (G : List M) (Qd : Res → List M → Prop), Room k (A.deeper (envOfC qual (defScope st) s.heap.objs.size f cdv)) → sp ss G Qd →
      ∃ t, PSs (cxOf CX0 P w K mg base N qual (defScope st) f cdv A outer s H E).nox (defBody st) t ∧ StC K t (startD N ss) G [] (endsD Qd)) : FnOk P w K mg base CX0 (k + 1) f fd ps (spD K sp) := by
  refine F.ok S (fun vs H Q E h => ?_) (fun cdv A outer s H vs Q E hr h => ?_)
  · obtain ⟨w, ss, G, Qd, _, _, r, q, _⟩ := h
    rw [← paired_len r]
    exact len ss G Qd q
  · obtain ⟨w, ss, G, Qd, h0, c, r, q, k1, k2⟩ := h
    obtain ⟨t, ht, hs⟩ := hbody cdv A outer s H E ss G Qd hr q
    refine ⟨t, ht.nox, hs w [] (L2.start N vs) H ⟨c.reg, c.rin, c.nd, c.fr, c.h0, slok_start r, c.gl, c.lo, c.ld⟩ _ ⟨?_, ?_, ?_, ?_, fun _ _ _ => trivial⟩⟩
    · intro ls' σ' H' Δ' G' L' c' g' n'
      exact k1 .non (.d .non) H' G' c'.forget rfl n'
    · intro ls' σ' H' Δ' G' L' v z c' rz n'
      cases z with
      | d x => exact k1 v (.d x) H' G' c'.forget (Rep.grow grow_drop rz) n'
      | g j => exact k1 v (.g j) H' G' c'.forget rz n'
      | l j =>
        obtain ⟨a, ha, rfl⟩ := rz
        exact k2 ls' j a L' H' G' c'.forgetS ha n'
    · intro ls' σ' H' Δ' G' L' c' g' n'
      exact n'.elim
    · intro ls' σ' H' Δ' G' L' c' g' n'
      exact n'.elim
theorem kbn_all {x qual : Str} {st : Stmt} {dvs : List V} {f : Addr} {fd : FuncData} {ps : List Str} (F : FunDf K x qual st dvs f fd) (n : Nat) (ks : List Str) (hd : dvs ≠ [])
    (h : ∀ (T : Addr) (kV doc pm : Value) (an : Option Addr) (cdv ct : Value) (us its ws : List Value), us.length = n → its.length = dvs.length → ws.length = ks.length →
      ∃ k, bindArgs (PySem.W.fnOf x qual (defArgs st) (defBody st) (defScope st) (.ref T) kV doc pm an cdv ct) ⟨us, ks.zip ws⟩ = seqItems? (.ref T) >>= k ∧ k (some its.toArray) = pure (ps.zip (us ++ ws))) :
    KBn K fd ps n ks (fun us ws => us ++ ws) (fun vs zs => vs ++ zs) := by
  obtain ⟨oc, od, dV, kV, doc, pm, an, cdv, ct, osl, rfl, lk, hcd, hD, hK⟩ := F.ex
  rcases hD with ⟨e, _⟩ | ⟨_, T, o, its, m, rfl, lT, oT, rT⟩
  · exact absurd e hd
  · refine ⟨fun s us ws X l1 l2 => ?_, fun r1 r2 => r1.append r2⟩
    obtain ⟨k, e1, e2⟩ := h T kV doc pm an cdv ct us its ws l1 rT.length.symm l2
    refine BindsTo.of_looks fun M => ?_
    rw [e1]
    exact looks_items X lT oT (.of_pure e2)
end
section
variable {K : PySem.W.Frag} {Δ : Sl} {G L : List M} {Qd : Po} {ta tk : TA} {sp : DSpec} {E0' : XK}
end
end DL

/-! an own dict, its keys texts: {}, d[z], d[z] = x, d.get(z, x), sorted(d) -/
namespace DL
open PySem PySem.Spec PyProof.Rows L2
section
variable {K : PySem.W.Frag} {Δ : Sl} {G L : List M} {Qd : Po} {Qn : PoN} {te td ty tx : TE}
def hI (p : Str × Int) : Key × S := (.inr p.1, .d (.int p.2))
end
end DL

/-! sets of texts compared -/
namespace DSe
open PySem PySem.Spec PyProof.Rows L2 DSt
section
variable {P : Program} {w : World} {A : Around} {E : Value → Shared → Prop} {s : Shared} {a b : Addr} {S T : Str → Bool} {n m : Nat}
end
end DSe
namespace DL
open PySem PySem.Spec PyProof.Rows L2 DSo DSt DSe
section
variable {K : PySem.W.Frag} {Δ : Sl} {G L : List M} {Qd : Po} {t1 t2 : TE} {P : Program} {w0 : World}
end
end DL

/-! own dicts with text keys and any data as values: dict(list of pairs), z in d, z not in d, d.get(z, x) -/
namespace DL
open PySem PySem.Spec PyProof.Rows L2
section
variable {X : Cx}
end
section
variable {K : PySem.W.Frag} {Δ : Sl} {G L : List M} {Qd : Po} {Qn : PoN} {te td ty tx : TE}
/-! dict(list of pairs) -/
end
end DL

/-! set of a tuple of texts -/
namespace DSt
open PySem PySem.Spec PyProof.Rows L2
section
variable {P : Program} {w : World} {A : Around} {E : Value → Shared → Prop} {s : Shared}
end
end DSt
namespace DL
open PySem PySem.Spec PyProof.Rows L2 DSo DSt DSe
section
variable {K : PySem.W.Frag} {Δ : Sl} {G L : List M} {Qd : Po} {t1 t2 : TE} {P : Program} {w0 : World}
end
end DL

namespace DL
open PySem PySem.Spec PyProof.Rows L2
section
variable {K : PySem.W.Frag} {Δ : Sl} {G L : List M} {Qn : PoN} {wi : TI} {g : TG} {tt : TT} {te : TE} {vs : List Nat}
end
end DL

/-! zip(a, b, strict=True) of a list and a tuple of one length -/
namespace DZq
open PySem PySem.Spec PyProof.Rows L2
open PySem.Sem (wp)
open DZl (IsZipS stop_iter letGo_zipS pyIter_zipS cw_type_kw)
section
variable {prog : Program} {w : World} {A : Around} {E : Value → Shared → Prop} {s : Shared}
end
section
variable {prog : Program} {w : World} {A : Around} {E : Value → Shared → Prop} {s : Shared}
end
end DZq
namespace DL
open PySem PySem.Spec PyProof.Rows L2
end DL

namespace DL
open PySem PySem.Spec PyProof.Rows L2
end DL

/-! zip(a list, a tuple), over the library's GoesN.zip2 -/
namespace DZn
open PySem PySem.Spec PyProof.Rows L2
end DZn
namespace DL
open PySem PySem.Spec PyProof.Rows L2
end DL

/-! own classes: instances made, fields read and stored, methods called -/
namespace DL
open PySem PySem.Spec PyProof.Rows L2
def putFD (f : Str) (x : D) : List (Str × D) → List (Str × D)
  | [] => [(f, x)]
  | (g, y) :: r => if g = f then (g, x) :: r else (g, y) :: putFD f x r
section
variable {K : PySem.W.Frag}
section
variable {H : Hp} {R : Addr → Prop} {f : Str} {x : D} {v : V}
theorem RepF.putF (h : Rep K H R x v) : ∀ {ds : List (Str × D)} {vs : List (Str × V)}, RepF K H R ds vs → RepF K H R (putFD f x ds) (L2.putF f v vs)
  | [], _, e => by
    cases e
    exact ⟨v, [], rfl, h, rfl⟩
  | (g, y) :: ds, _, ⟨u, us, e, q, r⟩ => by
    subst e
    show RepF K H R (if g = f then (g, x) :: ds else (g, y) :: putFD f x ds) (if g = f then (g, v) :: us else (g, u) :: L2.putF f v us)
    by_cases e : g = f
    · rw [if_pos e, if_pos e]
      exact ⟨v, us, rfl, h, r⟩
    · rw [if_neg e, if_neg e]
      exact ⟨u, _, rfl, q, RepF.putF h r⟩
theorem RepF.look : ∀ {ds : List (Str × D)} {vs : List (Str × V)}, RepF K H R ds vs → ds.lookup f = some x → ∃ v, vs.lookup f = some v ∧ Rep K H R x v
  | [], _, _, l => by cases l
  | (g, y) :: ds, _, ⟨u, us, e, q, r⟩, l => by
    subst e
    rw [List.lookup_cons] at l ⊢
    cases e : f == g with
    | true =>
      rw [e] at l
      cases l
      exact ⟨u, rfl, q⟩
    | false =>
      rw [e] at l
      exact RepF.look r l
theorem RepF.lookN {m : Str} : ∀ {ds : List (Str × D)} {vs : List (Str × V)}, RepF K H R ds vs → ds.lookup m = none → vs.lookup m = none
  | [], _, e, _ => by
    cases e
    rfl
  | (g, y) :: ds, _, ⟨u, us, e, q, r⟩, l => by
    subst e
    rw [List.lookup_cons] at l ⊢
    cases e : m == g with
    | true =>
      rw [e] at l
      cases l
    | false =>
      rw [e] at l
      exact RepF.lookN r l
theorem RepF.len : ∀ {ds : List (Str × D)} {vs : List (Str × V)}, RepF K H R ds vs → vs.length = ds.length
  | [], _, e => by
    cases e
    rfl
  | _ :: _, _, ⟨u, us, e, _, r⟩ => by
    subst e
    exact congrArg (· + 1) (RepF.len r)
end
def obG (G L : List M) : S → Option (Addr × List (Str × D))
  | .d (.ins C fs) => some (C, fs)
  | .l k => match L[k]? with
    | some (.ob C fs) => some (C, fs)
    | _ => none
  | .g k => match G[k]? with
    | some (.ob C fs) => some (C, fs)
    | _ => none
  | _ => none
section
variable {Δ : Sl} {G L : List M} {Qd : Po} {Qn : PoN} {ta tv : TE} {t : TA} {sp : DSpec} {E0' : XK} {C : Addr} {f m : Str} {E : EndsD}
theorem obG_get {w : W} {ls : List Addr} {σ : L2.St} {H : Hp} {v : V} {s : S} {fs : List (Str × D)} (c : Ctx K w ls σ H Δ G L) (r : RS K H (Rg w ls) w.gs ls s v) (h : obG G L s = some (C, fs)) : ∃ a dx ws, v = .ref a ∧ H a = some (.ins C dx ws) ∧ RepF K H (Rg w ls) fs ws := by
  unfold obG at h
  split at h
  · cases h
    obtain ⟨a, dx, ws, rfl, ⟨h1, _⟩, q⟩ := r
    exact ⟨a, dx, ws, rfl, h1, q⟩
  · rename_i k
    split at h
    · rename_i C' fs' hk
      cases h
      obtain ⟨a, ha, rfl⟩ := r
      obtain ⟨b, hb, dx, vs, h1, q⟩ := paired_get c.lo hk
      rw [ha] at hb
      cases hb
      exact ⟨a, dx, vs, rfl, h1, q⟩
    · cases h
  · rename_i k
    split at h
    · rename_i C' fs' hk
      cases h
      obtain ⟨a, ha, rfl⟩ := r
      obtain ⟨b, hb, dx, vs, h1, q⟩ := paired_get c.gl hk
      rw [ha] at hb
      cases hb
      exact ⟨a, dx, vs, rfl, h1, q⟩
    · cases h
  · cases h
theorem evc_fld (h : EvC K ta Δ G L fun s G1 L1 => ∃ C fs x, obG G1 L1 s = some (C, fs) ∧ (Cls K C ∧ NoAttr K C f) ∧ fs.lookup f = some x ∧ Qd (.d x) G1 L1) : EvC K (tFld K ta f) Δ G L Qd := fun w ls σ H c Q r => h w ls σ H c _ fun v s H1 G1 L1 c1 e1 r1 ⟨C, fs, x, ho, hc, hl, k⟩ => by
  obtain ⟨a, dx, ws, rfl, h1, rf⟩ := obG_get c1 r1 ho
  obtain ⟨y, hy, ry⟩ := rf.look hl
  exact ⟨a, C, dx, ws, y, rfl, h1, hc.1, hc.2, hy, r.go c1 e1 (s := .d x) ry k⟩
theorem st_fldG (h : EvC K tv Δ G L fun y G1 L1 => ∃ x, y = .d x ∧ EvC K ta Δ G1 L1 fun s G2 L2 => ∃ k C fs, s = .g k ∧ G2[k]? = some (.ob C fs) ∧ (Cls K C ∧ NoAttr K C f) ∧ fs.length < 1000 ∧ E.nx Δ (G2.set k (.ob C (putFD f x fs))) L2) : StC K (sFld K ta tv f) Δ G L E := fun w ls σ H c D s =>
  h w ls σ H c _ fun v y H2 G2 L2 c2 e2 r2 ⟨x, ex, h2⟩ => h2 w ls σ H2 c2 _ fun u z H3 G3 L3 c3 e3 r3 ⟨k, C, fs, ez, hk, hc, hl, q⟩ => by
    subst ex
    subst ez
    obtain ⟨a, ha, rfl⟩ := r3
    obtain ⟨b, hb, dx, ws, h1, rf⟩ := paired_get c3.gl hk
    rw [ha] at hb
    cases hb
    have rx : Rep K H3 (Rg w ls) x v := RS.on (s := .d x) c2 e3 r2
    have hm : a ∈ w.gs := List.mem_of_getElem? ha
    refine ⟨a, C, dx, ws, rfl, h1, hc.1, hc.2, by rw [rf.len]; exact hl, ?_⟩
    have hM : MOk K (upd H3 a (.ins C dx (putF f v ws))) (Rg w ls) w.gs [] a (.ob C (putFD f x fs)) := ⟨dx, _, upd_same, (RepF.putF rx rf).grow (grow_upd (.inl (c3.reg a hm)))⟩
    exact s.nx ls σ _ Δ _ L3 (c3.setG ha hM) (((e2.trans e3).trans (Ext.setG hm)).grow c.reg) q
theorem evc_meth (h : EvC K ta Δ G L fun s G1 L1 => ∃ fs, obG G1 L1 s = some (C, fs) ∧ fs.lookup m = none ∧ EvA K t Δ G1 L1 fun ss G2 L2 => noL (s :: ss) = true ∧ sp (s :: ss) G2 (asV Qd L2)) : EvC K (tMeth C m (spD K sp) [] E0' ta t) Δ G L Qd := fun w ls σ H c Q r => h w ls σ H c _ fun v s H1 G1 L1 c1 e1 r1 ⟨fs, ho, hm, k⟩ => by
  obtain ⟨a, dx, ws, rfl, h1, rf⟩ := obG_get c1 r1 ho
  refine ⟨a, dx, ws, rfl, h1, rf.lookN hm, k w ls σ H1 c1 _ fun vs ss H2 G2 L2 c2 e2 r2 ⟨hn, k2⟩ => ?_⟩
  rw [List.append_nil]
  exact sp_call c2 (.cons (RS.on c1 e2 r1) r2) hn k2 (r.ext (e1.trans e2))
theorem Ctx.more {w : W} {ls : List Addr} {σ : L2.St} {H H' : Hp} (c : Ctx K w ls σ H Δ G L) (k : ∀ a o, H a = some o → H' a = some o) : Ctx K w ls σ H' Δ G L := by
  have g : Grow H H' (Rg w ls) (Rg w ls) := ⟨fun a o h _ => k a o h, fun _ _ _ h => h⟩
  exact ⟨c.reg, fun a r => let ⟨u, e, n⟩ := c.rin a r; ⟨u, k a u e, n⟩, c.nd, c.fr, fun a u e n => k a u (c.h0 a u e n), c.sl.grow g (Pre.refl _) (Pre.refl _),
    paired_map c.gl fun a m _ q => q.grow g (Pre.refl _) (Pre.refl _) (k a), paired_map c.lo fun a m _ q => q.grow g (Pre.refl _) (Pre.refl _) (k a), c.ld⟩
theorem evn_make (h : EvA K t Δ G L fun ss G1 L1 => ∃ ds, dats ss = some ds ∧ sp (.g 0 :: ds.map S.d) [.ob C []] fun r G' => r = .v (.d .non) ∧ ∃ fs, G' = [.ob C fs] ∧ Qn (.ob C fs) G1 L1) : EvN K (tMake C (spD K sp) [] E0' t) Δ G L Qn := fun w ls σ H c Q r => h w ls σ H c _ fun vs ss H2 G2 L2 c2 e2 r2 ⟨ds, hd, k⟩ => by
  intro x dx hx hdx hne
  rw [List.append_nil]
  have hxH : H x = none := none_back c2 e2 hx
  have q2 := dats_rep hd r2
  have kk : ∀ a o, H2 a = some o → upd (upd H2 dx (.own x)) x (.ins C dx []) a = some o := fun a o h => by
    rw [upd_ne (ne_of_none h hx), upd_ne (ne_of_none h hdx)]
    exact h
  have nx := c2.free hx
  have gW : Grow H2 (upd (upd H2 dx (.own x)) x (.ins C dx [])) (Rg w ls) (Rg ⟨fun a => Rg w ls a ∨ a = x, [x], upd (upd H2 dx (.own x)) x (.ins C dx [])⟩ []) :=
    ⟨fun a o h _ => kk a o h, fun a o h rr => by
      rcases rr with (rr | rr) | rr
      · exact rr
      · rw [rr, hx] at h
        cases h
      · cases rr⟩
  have cW : Ctx K ⟨fun a => Rg w ls a ∨ a = x, [x], upd (upd H2 dx (.own x)) x (.ins C dx [])⟩ [] [] (upd (upd H2 dx (.own x)) x (.ins C dx [])) [] [.ob C []] [] := by
    refine ⟨fun a ha => .inr (List.mem_singleton.mp ha), fun a rr => ?_, by simp, (fun a ha => by cases ha), fun a o h _ => h, ⟨rfl, fun i s e => by simp at e⟩, .cons ⟨dx, [], upd_same, rfl⟩ .nil, .nil, fun a ha => by cases ha⟩
    rcases rr with rr | rr
    · rcases rr with rr | rr
      · obtain ⟨o, ho, hn⟩ := c2.rin a rr
        exact ⟨o, kk a o ho, hn⟩
      · obtain ⟨o, ho, hn⟩ := c2.lin rr
        exact ⟨o, kk a o ho, hn⟩
    · subst rr
      exact ⟨_, upd_same, fun _ z => nomatch z⟩
  refine ⟨_, .g 0 :: ds.map S.d, [.ob C []], _, rfl, cW, .cons ⟨x, rfl, rfl⟩ (repL_rs (q2.grow gW)), k, fun v s H' G' c' rs hk => ?_, fun ps j p ms H' G' c' hp hk => (by cases hk.1)⟩
  obtain ⟨e1, fs, e3, hq⟩ := hk
  cases e1
  subst e3
  have hv : v = .non := rs
  refine ⟨hv, ?_⟩
  have keep : ∀ a o, H2 a = some o → H' a = some o := fun a o h => c'.h0 a o (kk a o h) (fun z => by
    rw [List.mem_singleton] at z
    rw [z, hx] at h
    cases h)
  obtain ⟨dx', ws, h1, rf⟩ : MOk K H' (Rg ⟨fun a => Rg w ls a ∨ a = x, [x], upd (upd H2 dx (.own x)) x (.ins C dx [])⟩ []) [x] [] x (.ob C fs) := by
    cases c'.gl with
    | cons q _ => exact q
  have cb := c2.more keep
  have eb : Ext w ls H2 H' := fun a o h _ _ => keep a o h
  have gx : Grow H2 H' (Rg w ls) (Rg w (ls ++ [x])) := ⟨fun a o h _ => keep a o h, fun a o h rr => by
    rcases rr with rr | rr
    · exact .inl rr
    · rcases List.mem_append.mp rr with rr | rr
      · exact .inr rr
      · rw [List.mem_singleton.mp rr, hx] at h
        cases h⟩
  have g1 : Grow H' H' (Rg ⟨fun a => Rg w ls a ∨ a = x, [x], upd (upd H2 dx (.own x)) x (.ins C dx [])⟩ []) (Rg w (ls ++ [x])) := grow_iff fun a rr => by
    rcases rr with rr | rr
    · exact .inl (.inl (.inl rr))
    · rcases List.mem_append.mp rr with rr | rr
      · exact .inl (.inl (.inr rr))
      · exact .inl (.inr (List.mem_singleton.mp rr))
  have g2 : Grow H' H' (Rg ⟨fun a => Rg w ls a ∨ a = x, [x], upd (upd H2 dx (.own x)) x (.ins C dx [])⟩ []) (Rg w ls) := grow_iff fun a rr => .inl (.inl rr)
  refine r x (.ob C fs) H' G2 L2 hxH ⟨⟨c2.reg, fun a rr => cb.rin a rr, ?_, ?_, fun a o h n => cb.h0 a o h n, c2.sl.grow gx (Pre.refl _) (Pre.app _ _), paired_map c2.gl fun a m _ q => q.grow gx (Pre.refl _) (Pre.nil _) (keep a),
    paired_app (paired_map c2.lo fun a m _ q => q.grow gx (Pre.refl _) (Pre.app _ _) (keep a)) (.cons ⟨dx', ws, h1, rf.grow g1⟩ .nil), fun a ha rr => ?_⟩, cb, fun y hy => ?_⟩ (e2.trans eb) hq
  · rw [← List.append_assoc]
    refine List.nodup_append.mpr ⟨c2.nd, by simp, fun a ha b hb => ?_⟩
    rw [List.mem_singleton] at hb
    subst hb
    rintro rfl
    rcases List.mem_append.mp ha with z | z
    · exact nx (.inl (c2.reg _ z))
    · exact nx (.inr z)
  · intro a ha
    rcases List.mem_append.mp ha with z | z
    · exact c2.fr a z
    · rw [List.mem_singleton.mp z]
      exact c2.free0 hx
  · rcases List.mem_append.mp ha with z | z
    · exact c2.ld a z rr
    · rw [List.mem_singleton.mp z] at rr
      exact nx (.inl rr)
  · cases hy
    exact ⟨x, dx', ws, rfl, ⟨h1, nx⟩, rf.grow g2⟩
end
end
end DL

/-! a or b, of tuples -/
namespace DOr
open PySem PySem.Spec PyProof.Rows L2 DL
section
variable {K : PySem.W.Frag} {Δ : Sl} {G L : List M} {Qd : Po} {ta tb : TE}
end
end DOr

/-! sorted(a tuple of ints) -/
namespace DSq
open PySem PySem.Spec PyProof.Rows L2
section
variable {prog : Program} {w : World} {A : Around} {s : Shared} {E : Value → Shared → Prop}
end
section
open DL
variable {K : PySem.W.Frag} {Δ : Sl} {G L : List M} {Qn : PoN}
end
end DSq

/-! sorted(a list of pairs of ints) -/
namespace DSP
open PySem PySem.Spec PyProof.Rows L2 DL
section
variable {K : PySem.W.Frag} {Δ : Sl} {G L : List M} {Qn : PoN}
end
end DSP

/-! a, b, c = x, y, z -/
namespace DPr
open PySem PySem.Spec PyProof.Rows L2 DL
section
variable {K : PySem.W.Frag} {Δ : Sl} {G L : List M} {E : EndsD} {ta : TA}
end
end DPr

/-! d.get(x, y) of a dict of the top; a tuple of the top taken apart; a call of one of some defs that a name holds -/
namespace DFi
open PySem PySem.Spec PyProof.Rows L2 DL
section
variable {X : Cx} {o e f : Expr} {apos cpos : Pos} {td ty tx : TE}
end
section
variable {K : PySem.W.Frag} {Δ : Sl} {G L : List M} {Qd : Po} {td ty tx : TE}
def TLit (K : PySem.W.Frag) (a : Addr) (xs : List V) : Prop := ∃ (o : Obj) (its : Array Value) (n : Nat), K.lookup a = some o ∧ o.cls = .type "tuple" ∧ o.data = .seq its n ∧ its.size ≤ sizeLine ∧ Vals xs its.toList
def litDs : List V → Option (List D)
  | [] => some []
  | v :: vs => match litD v, litDs vs with
    | some d, some ds => some (d :: ds)
    | _, _ => none
theorem litDs_rep {H : Hp} {R : Addr → Prop} {gs ls : List Addr} : ∀ {vs : List V} {ds : List D}, litDs vs = some ds → Paired (RS K H R gs ls) (ds.map S.d) vs
  | [], _, e => by
    cases e
    exact .nil
  | v :: vs, ds, e => by
    unfold litDs at e
    split at e
    · rename_i d ds' h1 h2
      cases e
      exact .cons (litD_rep h1) (litDs_rep h2)
    · cases e
theorem litDs_len : ∀ {vs : List V} {ds : List D}, litDs vs = some ds → vs.length = ds.length
  | [], _, e => by
    cases e
    rfl
  | v :: vs, ds, e => by
    unfold litDs at e
    split at e
    · rename_i d ds' h1 h2
      cases e
      exact congrArg (· + 1) (litDs_len h2)
    · cases e
end
end DFi

/-! a text times a whole number, to the letter -/
namespace DTx
open PySem PySem.Spec PyProof.Rows L2 DL
section
variable {K : PySem.W.Frag} {Δ : Sl} {G L : List M} {Qd : Po}
end
end DTx

/-! zip of three tuples, over the library's GoesN.zip3 -/
namespace DZ3
open PySem PySem.Spec PyProof.Rows L2
end DZ3
namespace DL
open PySem PySem.Spec PyProof.Rows L2
end DL

/-! min(a tuple of whole numbers, default=d) -/
namespace DL
open PySem PySem.Spec PyProof.Rows L2
section
variable {K : PySem.W.Frag} {Δ : Sl} {G L : List M} {Qd : Po}
end
end DL

/-! sorted(a list of rows of whole numbers, the first of them empty) -/
namespace DRw
open PySem PySem.Spec PySem.W PySem.SeqAt PySem.Calls PyProof.Rows
section
variable {prog : Program} {w : World} {A : Around} {E : Value → Shared → Prop} {s : Shared}
end
section
variable {prog : Program} {w : World} {A : Around} {E : Value → Shared → Prop} {s : Shared}
end
end DRw
namespace DRw
open PySem PySem.Spec PySem.W PyProof.Rows L2 DL
section
variable {K : PySem.W.Frag} {Δ : Sl} {G L : List M} {Qn : PoN}
end
/-! the order of rows: there is one sorted list -/
end DRw

namespace DL
open PySem PySem.Spec PyProof.Rows L2 DRw
/-! ### recursion of defs that show (with guards) -/
/-! ### rows of whole numbers compared -/
section
variable {K : PySem.W.Frag} {Δ : Sl} {G L : List M} {Qd : Po}
/-! ### bits -/
end
end DL

/-! what repr shows of a row of whole numbers is shown of no other thing -/
namespace DRi
open PySem PyProof.Rows TL L2 DL DRw
theorem all_map : ∀ ps : List PyData, PyData.shownAll ps = ps.map PyData.shown
  | [] => by rw [PyData.shownAll]; rfl
  | p :: ps => by rw [PyData.shownAll, all_map ps]; rfl
end DRi

/-! instances whose fields hold handles -/
namespace DL
open PySem PySem.Spec PyProof.Rows L2 DRw
section
variable {K : PySem.W.Frag}
section
variable {H : Hp} {R : Addr → Prop} {gs ls : List Addr} {f : Str}
end
section
variable {Δ : Sl} {G L : List M} {Qd : Po} {Qn : PoN} {ta tv : TE} {t : TA} {sp : DSpec} {E0' : XK} {C : Addr} {f m : Str} {E : EndsD}
/-! ### dicts with rows as keys -/
section
variable {H : Hp} {R : Addr → Prop} {gs ls : List Addr} {k : List Key}
end
end
end
end DL

/-! a class whose __init__ keeps its parameter and makes two empty dicts -/
namespace DL
open PySem PySem.Spec PyProof.Rows L2 DRw
section
variable {K : PySem.W.Frag}
section
variable {Δ : Sl} {G L : List M} {t : TA} {E0' : XK} {E : EndsD}
end
end
end DL

/-! max(xs, key=len), xs a list of tuples -/
namespace L2
open PySem PySem.Spec PyProof.Rows
section
variable {X : Cx}
end
end L2
namespace DL
open PySem PySem.Spec PyProof.Rows L2 DRw
section
variable {K : PySem.W.Frag} {Δ : Sl} {G L : List M} {Qd : Po}
end
end DL

/-! xs.insert(i, x), abs(i) -/
namespace DL
open PySem PySem.Spec PyProof.Rows L2 DRw
section
variable {K : PySem.W.Frag} {Δ : Sl} {G L : List M} {Qd : Po}
end
end DL

/-! own dicts whose keys are rows, their values whole numbers: stored, looked at, walked while locked, the least value -/
namespace DKd
open PySem PySem.Spec PyProof.Rows L2 DL DRw
section
variable {X : Cx} {o : Expr} {p pos apos mpos : Pos} {td : TE}
end
section
variable {K : PySem.W.Frag} {Δ : Sl} {G L : List M} {Qd : Po} {Qn : PoN}
end
end DKd

/-! own classes again: makes and methods that lean on defaults or are handed words by name, o.f op= e, len of an instance, len(range(..)) -/
namespace DSn
open PySem PySem.Spec PyProof.Rows L2
section
variable {X : Cx} {CX : CXT} {k n : Nat} {f C : Addr} {fd : FuncData} {ps ks : List Str} {sp : Sp} {E : XK} {m : Str} {apos pos : Pos} {o e : Expr} {es : List Expr} {kws : List Keyword} {ta : TE} {t tk : TA} {g : List Value → List Value → List Value} {gV : List V → List V → List V}
end
def rLenRng : List V → Hp → VK → Prop := fun xs H Q => ∃ (a : Addr) (lo hi : Int), xs = [.ref a] ∧ H a = some (.rng lo hi) ∧ hi - lo < 2 ^ 62 ∧ Q (.int (((hi - lo).toNat : Nat) : Int)) H
theorem size1 (a b : Int) : Builtin.Range.rangeSize a b 1 = (((b - a).toNat : Nat) : Int) := by
  unfold Builtin.Range.rangeSize
  rw [if_pos (by decide)]
  by_cases h : a < b
  · rw [if_pos h, Int.ediv_one]
    omega
  · rw [if_neg h]
    omega
theorem cr_lenRng {X : Cx} : CallR X (.builtin "len") rLenRng := by
  intro pins s σ H xs us Q I r h
  obtain ⟨a, lo, hi, rfl, ha, hb, q⟩ := h
  match us, r with
  | [u], .cons ra .nil =>
    obtain rfl : u = Value.ref a := ra
    obtain ⟨t1, t2, t3, ho⟩ := I.hok a _ ha
    refine PySem.call_len_range (n := (hi - lo).toNat) ho (size1 lo hi) (by omega) ?_
    exact ⟨.int (((hi - lo).toNat : Nat) : Int), H, I.kept (t' := s.toks + 1 + 1) fun _ _ z => z, ⟨_, rfl⟩, q⟩
def rLenO (C : Addr) (sp : Sp) (E : XK) : List V → Hp → VK → Prop := fun xs H Q => ∃ (a dx : Addr) (fs : List (Str × V)), xs = [.ref a] ∧ H a = some (.ins C dx fs) ∧
  sp [.ref a] H (fun v H1 => ∃ i : Int, v = .int i ∧ (0 ≤ i ∧ i < 2 ^ 63) ∧ Q (.int i) H1) E
theorem call_lenO {X : Cx} {CX : CXT} {k : Nat} {C f : Addr} {fd : FuncData} {ps : List Str} {sp : Sp} {E : XK} (F : FnOk X.prog X.w X.K X.mg X.base CX k f fd ps sp) (hr : Room (k + 1) X.A)
    (hs : PySem.W.findIn X.K (.ref C) "__len__" = some (some (.ref f))) (hf : PySem.W.isFn X.K (.ref f) = true) (hb : Binds X.K fd ps []) (hx : Passes CX X E) : CallR X (.builtin "len") (rLenO C sp E) := by
  intro pins s σ H xs us Q I r h
  obtain ⟨a, dx, fs, rfl, ea, h⟩ := h
  match us, r with
  | [u], .cons ra .nil =>
    obtain rfl : u = Value.ref a := ra
    obtain ⟨mA, J, _⟩ := ins_get I.hok ea
    obtain ⟨od, J, _⟩ := J.look
    obtain ⟨m, hF⟩ := I.fr
    refine PySem.W.len_K hF I.ok.mod.kin J hs hf ?_
    have hri : Room k X.A.in1 := hr.in1
    have e0 : Env0 X.prog X.w X.K X.mg X.base X.A.in1 X.stack s H := by
      have e := I.env0
      exact ⟨by show X.A.frames = some X.stack; exact e.frames, e.mod, e.bs, e.bsz, e.funs, e.frf, e.hok, e.bare⟩
    have hl := F.len _ _ _ _ h
    have r2 : Vals [V.ref a] [Value.ref a] := .cons rfl .nil
    refine wpAny_call (codeAny_mono (F.run X.A.in1 X.stack s H ⟨[.ref a], []⟩ [.ref a] [.ref a] _ E hri e0 (by
      have := hb s [.ref a] I.kIn (by simpa using hl)
      simpa using this) r2 h) fun r s' hq => ?_)
    cases r with
    | error e => exact hx pins σ H s e s' I hq
    | ok fl =>
      cases fl with
      | ret w =>
        obtain ⟨z, H', I', rz, i, ez, hi, q⟩ := I.after hq
        subst ez
        obtain ⟨t, rfl⟩ := rz
        exact ⟨hi, .int i, H', I'.kept (t' := s'.toks + 1) fun _ _ z => z, ⟨_, rfl⟩, q⟩
      | next => exact False.elim hq
      | brk => exact False.elim hq
      | cont => exact False.elim hq
end DSn
namespace DL
open PySem PySem.Spec PyProof.Rows L2 DSn
def tApp (t : TA) (dvs : List V) : TA := fun σ H Q => t σ H fun vs H1 => Q (vs ++ dvs) H1
def tAppK (n q : Nat) (t tk : TA) : TA := fun σ H Q => t σ H fun vs H1 => tk σ H1 fun zs H2 => vs.length = n ∧ zs.length = q ∧ Q (vs ++ zs) H2
section
variable {K : PySem.W.Frag} {Δ : Sl} {G L : List M} {Qd : Po} {Qn : PoN} {Qa : PoA} {ta tv : TE} {t tk : TA} {sp : DSpec} {E0' : XK} {C : Addr} {f m : Str} {E : EndsD} {n q : Nat}
theorem ints_rs {H : Hp} {R : Addr → Prop} {gs ls : List Addr} : ∀ is : List Int, Paired (RS K H R gs ls) (is.map fun i => S.d (.int i)) (is.map V.int)
  | [] => .nil
  | i :: is => .cons (show RS K H R gs ls (S.d (.int i)) (V.int i) from (rfl : V.int i = V.int i)) (ints_rs is)
theorem eva_appI {is : List Int} (h : EvA K t Δ G L fun ss G1 L1 => Qa (ss ++ is.map fun i => S.d (.int i)) G1 L1) : EvA K (tApp t (is.map V.int)) Δ G L Qa := fun w ls σ H c Q r => h w ls σ H c _ fun vs ss H2 G2 L2 c2 e2 r2 k =>
  r (vs ++ is.map V.int) (ss ++ is.map fun i => S.d (.int i)) H2 G2 L2 c2 e2 (paired_app r2 (ints_rs is)) k
theorem eva_appK (h : EvA K t Δ G L fun ss G1 L1 => EvA K tk Δ G1 L1 fun zs G2 L2 => ss.length = n ∧ zs.length = q ∧ Qa (ss ++ zs) G2 L2) : EvA K (tAppK n q t tk) Δ G L Qa := fun w ls σ H c Q r => h w ls σ H c _ fun vs ss H2 G2 L2 c2 e2 r2 h2 => h2 w ls σ H2 c2 _ fun us zs H3 G3 L3 c3 e3 r3 ⟨l1, l2, k⟩ =>
  ⟨(paired_len r2).symm.trans l1, (paired_len r3).symm.trans l2, r (vs ++ us) (ss ++ zs) H3 G3 L3 c3 (e2.trans e3) (paired_app (paired_map r2 fun _ _ _ z => z.on c2 e3) r3) k⟩
theorem make_app (dvs : List V) : tMake C (spD K sp) dvs E0' t = tMake C (spD K sp) [] E0' (tApp t dvs) := by
  funext σ H Q
  show t σ H _ = t σ H _
  simp only [List.append_nil]
theorem make_kw (l : Nat) : tMakeN C n l (spD K sp) (fun vs zs => vs ++ zs) E0' t tk = tMake C (spD K sp) [] E0' (tAppK n l t tk) := by
  funext σ H Q
  show t σ H _ = t σ H _
  simp only [List.append_nil, List.cons_append]
theorem evn_appMake {dvs : List V} (h : EvN K (tMake C (spD K sp) [] E0' (tApp t dvs)) Δ G L Qn) : EvN K (tMake C (spD K sp) dvs E0' t) Δ G L Qn := by rw [make_app]; exact h
theorem evn_kwMake {l : Nat} (h : EvN K (tMake C (spD K sp) [] E0' (tAppK n l t tk)) Δ G L Qn) : EvN K (tMakeN C n l (spD K sp) (fun vs zs => vs ++ zs) E0' t tk) Δ G L Qn := by rw [make_kw]; exact h
theorem ap_lenO {s : S} (h : ∃ fs, obG G L s = some (C, fs) ∧ noL [s] = true ∧ sp [s] G (asV (fun x G1 L1 => ∃ i : Int, x = .d (.int i) ∧ (0 ≤ i ∧ i < 2 ^ 63) ∧ Qd (.d (.int i)) G1 L1) L)) : ApC K (rLenO C (spD K sp) E0') [s] Δ G L Qd := fun w ls σ H vs c rs Q q => by
  obtain ⟨fs, ho, hn, k⟩ := h
  obtain ⟨v, rfl, rv⟩ := pair1 rs
  obtain ⟨a, dx, ws, rfl, h1, rf⟩ := obG_get c rv ho
  refine ⟨a, dx, ws, rfl, h1, sp_call (Qd := fun x G1 L1 => ∃ i : Int, x = .d (.int i) ∧ (0 ≤ i ∧ i < 2 ^ 63) ∧ Qd (.d (.int i)) G1 L1) c (.cons rv .nil) hn k fun v s2 H2 G2 L2 c2 e2 r2 ⟨i, es, hi, k2⟩ => ?_⟩
  subst es
  obtain rfl : v = V.int i := r2
  exact ⟨i, rfl, hi, q.go c2 e2 (s := .d (.int i)) rfl k2⟩
end
end DL

/-! texts: int of a text of figures, split, index -/
namespace DTi
open PySem PySem.Spec PyProof.Rows L2
def rIntT : List V → Hp → VK → Prop := fun xs H Q => ∃ (x : Str) (n : Int), xs = [.str x] ∧ PySem.intText? x = some n ∧ x.length ≤ 640 ∧ Q (.int n) H
def rIntU : List V → Hp → VK → Prop := fun xs H Q => DL.rInt1 xs H Q ∨ rIntT xs H Q
end DTi
namespace DL
open PySem PySem.Spec PyProof.Rows L2
section
variable {K : PySem.W.Frag} {Δ : Sl} {G L : List M} {Qd : Po} {Qn : PoN} {to te : TE}
theorem ap_intUi {i : Int} (k : Qd (.d (.int i)) G L) : ApC K DTi.rIntU [.d (.int i)] Δ G L Qd := fun w ls σ H vs c rs Q q => .inl (ap_int k w ls σ H vs c rs Q q)
theorem ap_intUb {b : Bool} (k : Qd (.d (.int (if b then 1 else 0))) G L) : ApC K DTi.rIntU [.d (.bl b)] Δ G L Qd := fun w ls σ H vs c rs Q q => .inl (ap_intB k w ls σ H vs c rs Q q)
theorem sto_gp {k : Nat} {xs : List D} {i : Int} {j : Nat} {x : D} {Qt : List M → List M → Prop} (hx : G[k]? = some (.pl xs)) (hj : ixN xs.length i = some j) (q : Qt (G.set k (.pl (xs.set j x))) L) : StoC K rSetL (.g k) (.d (.int i)) (.d x) Δ G L Qt := fun w ls σ H vo vi vv c ro ri rv Q ret => by
  obtain ⟨a, ha, rfl⟩ := ro
  obtain ⟨b, hb, vs, h1, r⟩ := paired_get c.gl hx
  rw [ha] at hb
  cases hb
  cases ri
  have g : Grow H (upd H a (.lst (vs.set j vv))) (Rg w ls) (Rg w ls) := grow_upd (.inl (c.reg a (List.mem_of_getElem? ha)))
  exact ⟨a, vs, i, j, rfl, rfl, h1, by rw [r.length]; exact hj, ret _ _ _ (c.setG (m := .pl _) ha ⟨_, upd_same, (repL_set r rv).grow g⟩) (Ext.setG (List.mem_of_getElem? ha)) q⟩
end
end DL

/-! isinstance of an own class, min of three, int of several kinds -/
namespace DTj
open PySem PySem.Spec PyProof.Rows L2 DL
structure JI (K : PySem.W.Frag) (C : Addr) : Prop where
  ha : PySem.W.findIn K (.ref C) "__class__" = some (some (.builtin "object.__class__"))
  hn : PySem.W.specialIn K (.builtin "object.__class__") "__get__" = some (some (.builtin "getset_descriptor.__get__"))
  ht : PySem.W.takesIn K (.builtin "object.__class__") = some true
  hm : PySem.W.mroIn K C (.type "object") = some true
def rMin3 : List V → Hp → VK → Prop := fun xs H Q => ∃ i j k : Int, xs = [.int i, .int j, .int k] ∧ Q (.int (min (min i j) k)) H
end DTj
namespace DL
open PySem PySem.Spec PyProof.Rows L2
section
variable {K : PySem.W.Frag} {Δ : Sl} {G L : List M} {Qd : Po} {Qn : PoN} {to te : TE}
theorem ap_min3 {i j k : Int} (q : Qd (.d (.int (min (min i j) k))) G L) : ApC K DTj.rMin3 [.d (.int i), .d (.int j), .d (.int k)] Δ G L Qd := fun w ls σ H vs c rs Q ret => by
  cases rs with
  | cons r1 rs => cases rs with
    | cons r2 rs =>
      obtain ⟨v, rfl, r3⟩ := pair1 rs
      cases r1
      cases r2
      cases r3
      exact ⟨i, j, k, rfl, ret.go c Ext.refl (s := .d (.int _)) rfl q⟩
theorem ap_isiO {C : Addr} {fs : List (Str × D)} (h : Cls K C ∧ DTj.JI K C) (q : Qd (.d (.bl true)) G L) : ApC K (rIsi K) [.d (.ins C fs), .d (.ref C)] Δ G L Qd := fun w ls σ H vs c rs Q ret => by
  obtain ⟨v, u, rfl, ⟨a, dx, ws, rfl, ⟨h1, _⟩, _⟩, r2⟩ := pair2 rs
  have r2 : u = .ref C := r2
  subst r2
  refine ⟨_, _, .ref C, .ref C, true, rfl, .own C, .base (.ins h1 h.1 h.2.ha h.2.hn h.2.ht h.2.hm), ?_, ret.go c Ext.refl (s := .d (.bl true)) rfl q⟩
  unfold PySem.W.kitOne
  rw [if_pos (beq_self_eq_true (Value.ref C))]
end
end DL

/-! own classes: str, repr, ==, != by their own methods; f-strings; divmod -/
namespace DOw
open PySem PySem.Spec PyProof.Rows L2 DL
section
variable {X : Cx} {CX : CXT} {k : Nat} {C f : Addr} {fd : FuncData} {ps : List Str} {sp : Sp} {E : XK}
theorem run_own {A1 : Around} (hA : A1.frames = X.A.frames) (F : FnOk X.prog X.w X.K X.mg X.base CX k f fd ps sp) (hr : Room k A1) (hb : Binds X.K fd ps []) (hx : Passes CX X E)
    {pins : List (Addr × Obj)} {s : Shared} {σ : L2.St} {H : Hp} {vs : List V} {us : List Value} {Qv : VK} {R : Value → Shared → Prop} (I : Inv X pins σ H s) (r2 : Vals vs us) (h : sp vs H Qv E)
    (q : ∀ u v s' H', Inv X pins σ H' s' → RelV v u → Qv v H' → R u s') : wpAny (model X.prog X.w) A1 (call (.ref f) us) R X.xe s := by
  have e0 : Env0 X.prog X.w X.K X.mg X.base A1 X.stack s H := by
    have e := I.env0
    exact ⟨by rw [hA]; exact e.frames, e.mod, e.bs, e.bsz, e.funs, e.frf, e.hok, e.bare⟩
  have hl := F.len _ _ _ _ h
  refine wpAny_call (codeAny_mono (F.run A1 X.stack s H ⟨us, []⟩ us vs _ E hr e0 (by
    have hlu : us.length = ps.length := by rw [← r2.length]; exact hl
    have := hb s us I.kIn (by simpa using hlu)
    simpa using this) r2 h) fun r s' hq => ?_)
  cases r with
  | error e => exact hx pins σ H s e s' I hq
  | ok fl =>
    cases fl with
    | ret w =>
      obtain ⟨z, H', I', rz, qv⟩ := I.after hq
      exact q w z s' H' I' rz qv
    | next => exact False.elim hq
    | brk => exact False.elim hq
    | cont => exact False.elim hq
def rStrO (C : Addr) (sp : Sp) (E : XK) : List V → Hp → VK → Prop := fun xs H Q => ∃ (a dx : Addr) (fs : List (Str × V)), xs = [.ref a] ∧ H a = some (.ins C dx fs) ∧ sp [.ref a] H (fun v H1 => ∃ y : Str, v = .str y ∧ Q (.str y) H1) E
theorem call_strO (F : FnOk X.prog X.w X.K X.mg X.base CX k f fd ps sp) (hr : Room (k + 2) X.A) (hs : PySem.W.findIn X.K (.ref C) "__str__" = some (some (.ref f))) (hf : PySem.W.isFn X.K (.ref f) = true) (hb : Binds X.K fd ps []) (hx : Passes CX X E) :
    CallR X (.type "str") (rStrO C sp E) := by
  intro pins s σ H xs us Q I r h
  obtain ⟨a, dx, fs, rfl, ea, h⟩ := h
  match us, r with
  | [u], .cons ra .nil =>
    obtain rfl : u = Value.ref a := ra
    obtain ⟨mA, J, _⟩ := ins_get I.hok ea
    obtain ⟨od, J, _⟩ := J.look
    refine PySem.W.kso_call (hr.in1.in1).units0 I.kIn J hs hf ?_
    refine run_own (A1 := X.A.in1.in1) (vs := [V.ref a]) (us := [Value.ref a]) rfl F hr.in1.in1 hb hx I (.cons rfl .nil) h fun u v s' H' I' rv qv => ?_
    obtain ⟨y, rfl, q⟩ := qv
    obtain ⟨t, rfl⟩ := rv
    exact ⟨.str y, H', I', ⟨t, rfl⟩, q⟩
def rReprO (C : Addr) (sp : Sp) (E : XK) : List V → Hp → VK → Prop := rStrO C sp E
theorem call_reprO (F : FnOk X.prog X.w X.K X.mg X.base CX k f fd ps sp) (hr : Room (k + 1) X.A) (hs : PySem.W.findIn X.K (.ref C) "__repr__" = some (some (.ref f))) (hf : PySem.W.isFn X.K (.ref f) = true) (hb : Binds X.K fd ps []) (hx : Passes CX X E) :
    CallR X (.builtin "repr") (rReprO C sp E) := by
  intro pins s σ H xs us Q I r h
  obtain ⟨a, dx, fs, rfl, ea, h⟩ := h
  match us, r with
  | [u], .cons ra .nil =>
    obtain rfl : u = Value.ref a := ra
    obtain ⟨mA, J, _⟩ := ins_get I.hok ea
    obtain ⟨od, J, _⟩ := J.look
    obtain ⟨m, hF⟩ := I.fr
    refine PySem.W.repr_K (hr.in1).units0 hF I.ok.mod.kin J hs hf ?_
    refine run_own (A1 := X.A.in1) (vs := [V.ref a]) (us := [Value.ref a]) rfl F hr.in1 hb hx I (.cons rfl .nil) h fun u v s' H' I' rv qv => ?_
    obtain ⟨y, rfl, q⟩ := qv
    obtain ⟨t, rfl⟩ := rv
    exact ⟨.str y, H', I', ⟨t, rfl⟩, q⟩
def rEqO (C : Addr) (sp : Sp) (E : XK) : R2 := fun x y H Q => ∃ (a b dx dy : Addr) (fs gs : List (Str × V)), x = .ref a ∧ y = .ref b ∧ H a = some (.ins C dx fs) ∧ H b = some (.ins C dy gs) ∧ sp [.ref a, .ref b] H (fun v H1 => ∃ z : Bool, v = .bl z ∧ Q (.bl z) H1) E
theorem op_eqO (F : FnOk X.prog X.w X.K X.mg X.base CX k f fd ps sp) (hr : Room k X.A) (hs : PySem.W.findIn X.K (.ref C) "__eq__" = some (some (.ref f))) (hf : PySem.W.isFn X.K (.ref f) = true) (hb : Binds X.K fd ps []) (hx : Passes CX X E) :
    OpR X (compareOp .Eq) (rEqO C sp E) := by
  intro pins s σ H x y v u Q I rx ry hq
  obtain ⟨a, b, dx, dy, fs, gs, rfl, rfl, ea, eb, h⟩ := hq
  obtain rfl : v = Value.ref a := rx
  obtain rfl : u = Value.ref b := ry
  obtain ⟨mA, J, _⟩ := ins_get I.hok ea
  obtain ⟨mB, J', _⟩ := ins_get I.hok eb
  obtain ⟨od, J, _⟩ := J.look
  obtain ⟨od', J', _⟩ := J'.look
  obtain ⟨m, hF⟩ := I.fr
  show wpAny (model X.prog X.w) X.A (richCompare .Eq (.ref a) (.ref b)) (EP X pins σ Q) X.xe s
  refine PySem.W.cmp_K (op := .Eq) (tb := .ref C) hr.units0 hF I.ok.mod.kin J J'.type (by simp [PySem.W.notFirst]) hs hf ?_
  refine run_own (A1 := X.A) (vs := [V.ref a, V.ref b]) (us := [Value.ref a, Value.ref b]) rfl F hr hb hx I (.cons rfl (.cons rfl .nil)) h fun u v s' H' I' rv qv => ?_
  obtain ⟨z, rfl, q⟩ := qv
  obtain rfl : u = Value.bool z := rv
  exact ⟨.bl z, H', I', rfl, q⟩
section
variable {prog : Program} {w : World} {A : Around} {E : Value → Shared → Prop} {s : Shared} {K : PySem.W.Frag} {x C f : Addr} {ox : Obj} {od : Option Obj} {L : Addr} {m : Str → Option Value} {h₀ : Heap}
theorem ifBound_KB {M : Model} {name : Str} {id : String} {args : List Value} {Q : Option Value → Shared → Prop} (X : K.In s.heap) (I : PySem.W.InstAt s.heap x ox C od) (hs : PySem.W.findIn K (.ref C) name = some (some (.builtin id)))
    (hb : ∀ self, bindSpecial (.builtin id) self = pure (.builtin id, [self])) (h : wpAny M A (call (.builtin id) (.ref x :: args)) (fun v => Q (some v)) E s) : wpAny M A (callSpecialIfBound? (.ref x) name args) Q E s := by
  simp only [callSpecialIfBound?, bindSpecialIfBound?]
  refine wpAny_holding (wpAny_bind (wpAny_bind (wpAny_bind (I.type.here ((PySem.W.looks_findIn X hs).here ?_)))))
  refine wpAny_bind (wpAny_askSetting (wpAny_ite ?_))
  have fin : wpAny M A (call (.builtin id) ([.ref x] ++ args) >>= fun v => pure (some v)) Q E s := wpAny_bind (wpAny_mono h (fun v s' h' => wpAny_pure h') fun _ _ h' => h')
  simp only [hb]
  split
  · exact wpAny_bind (wpAny_pure (wpAny_pure fin))
  · exact wpAny_tryCatch (wpAny_bind (wpAny_pure (wpAny_pure fin)))
open Builtin PySem.Calls in
theorem ne_K {b tb : Value} {Q : Value → Shared → Prop} (hu : A.units < cLine) (hu1 : A.in1.units < cLine) (F : Fr h₀ L s.heap m) (X₀ : K.In h₀) (I : PySem.W.InstAt s.heap x ox C od) (hbt : PySem.W.Looks (model prog w) s.heap (typeOf b) tb) (hn : PySem.W.notFirst K C tb = true)
    (hs : PySem.W.findIn K (.ref C) "__eq__" = some (some (.ref f))) (hf : PySem.W.isFn K (.ref f) = true) (hne : PySem.W.findIn K (.ref C) "__ne__" = some (some (.builtin "object.__ne__"))) (hm : PySem.W.mroIn K C (.type "object") = some true)
    (h : wpAny (model prog w) A.in1 (call (.ref f) [.ref x, b]) (fun v s' => ∃ z, v = .bool z ∧ Q (.bool (!z)) s') E s) : wpAny (model prog w) A (richCompare .NotEq (.ref x) b) Q E s := by
  have X := X₀.keeps F.keep
  have ent : wpAny (model prog w) A.in1 (Builtin.«object.__ne__» ⟨[.ref x, b], []⟩) (fun fin s' => ∃ z, fin = .done (.ret (.bool z)) ∧ Q (.bool z) s') E s := by
    unfold Builtin.«object.__ne__»
    repeat (first
      | with_reducible refine wpAny_cRoomFor hu1 ?_
      | (refine wpAny_bind (m := callSpecialIfBound? (.ref x) (Str.ofString "__eq__") [b])
          (PySem.W.ifBound_K X I hs hf (wpAny_mono h (fun r s' hr => by
            obtain ⟨z, rfl, hq⟩ := hr
            repeat (first | exact ⟨_, rfl, hq⟩ | exact wpAny_pure ⟨_, rfl, hq⟩ | exact wpAny_truthy_bool ⟨_, rfl, hq⟩ | (refine wpAny_bind (m := truthy (.bool _)) (wpAny_truthy_bool ?_)) | wp_step)) fun _ _ e => e)))
      | wp_step)
  have one : wpAny (model prog w) A (tryCompare (.ref x) "__ne__" b) (fun r s' => ∃ v, r = some v ∧ Q v s') E s := by
    unfold tryCompare
    refine wpAny_bind (ifBound_KB X I hne (fun self => PySem.F.cmp_object.ne.bind self) (wpAny_call (codeAny_call_builtin PySem.F.cmp_object.ne.plain PySem.F.cmpEntry_ne (PySem.W.check_slot (i := "object.__ne__") (owner := "object") (n := "__ne__") (by decide +kernel) (by decide +kernel) (I.type.andThen (PySem.W.looks_mroIn X hm)) (PySem.F.cmpArgs_ne _ _) (wpAny_mono ent (fun fin s' hq => ?_) fun _ _ e => e)))))
    obtain ⟨z, rfl, q⟩ := hq
    exact wpAny_pure ⟨_, rfl, q⟩
  unfold richCompare
  simp only [oneThing_ref]
  refine wpAny_holding (wpAny_bind (wpAny_cRoomFor hu ?_))
  refine wpAny_bind (I.type.here (wpAny_bind (hbt.here ?_)))
  split
  · rename_i q
    have e : PySem.W.subIn K tb (.ref C) = some false := by
      rcases Bool.or_eq_true_iff.mp hn with e | e
      · rw [beq_iff_eq.mp e] at q; simp at q
      · exact beq_iff_eq.mp e
    refine wpAny_bind ((PySem.W.looks_subIn X e).here ?_)
    simp only [Bool.false_eq_true, if_false]
    refine wpAny_bind (wpAny_mono one (fun r s' z => ?_) fun _ _ e => e)
    obtain ⟨v, rfl, hq⟩ := z
    exact wpAny_pure hq
  · refine wpAny_bind (wpAny_pure ?_)
    simp only [Bool.false_eq_true, if_false]
    refine wpAny_bind (wpAny_mono one (fun r s' z => ?_) fun _ _ e => e)
    obtain ⟨v, rfl, hq⟩ := z
    exact wpAny_pure hq
end
theorem op_neO (F : FnOk X.prog X.w X.K X.mg X.base CX k f fd ps sp) (hr : Room (k + 1) X.A) (hs : PySem.W.findIn X.K (.ref C) "__eq__" = some (some (.ref f))) (hf : PySem.W.isFn X.K (.ref f) = true) (hne : PySem.W.findIn X.K (.ref C) "__ne__" = some (some (.builtin "object.__ne__"))) (hm : PySem.W.mroIn X.K C (.type "object") = some true)
    (hb : Binds X.K fd ps []) (hx : Passes CX X E) : OpR X (compareOp .NotEq) (fun x y H Q => rEqO C sp E x y H fun v H1 => ∃ z : Bool, v = .bl z ∧ Q (.bl (!z)) H1) := by
  intro pins s σ H x y v u Q I rx ry hq
  obtain ⟨a, b, dx, dy, fs, gs, rfl, rfl, ea, eb, h⟩ := hq
  obtain rfl : v = Value.ref a := rx
  obtain rfl : u = Value.ref b := ry
  obtain ⟨mA, J, _⟩ := ins_get I.hok ea
  obtain ⟨mB, J', _⟩ := ins_get I.hok eb
  obtain ⟨od, J, _⟩ := J.look
  obtain ⟨od', J', _⟩ := J'.look
  obtain ⟨m, hF⟩ := I.fr
  show wpAny (model X.prog X.w) X.A (richCompare .NotEq (.ref a) (.ref b)) (EP X pins σ Q) X.xe s
  refine ne_K (tb := .ref C) hr.units0 hr.in1.units0 hF I.ok.mod.kin J J'.type (by simp [PySem.W.notFirst]) hs hf hne hm ?_
  refine run_own (A1 := X.A.in1) (vs := [V.ref a, V.ref b]) (us := [Value.ref a, Value.ref b]) rfl F hr.in1 hb hx I (.cons rfl (.cons rfl .nil)) h fun u v s' H' I' rv qv => ?_
  obtain ⟨z, rfl, z', e, q⟩ := qv
  cases e
  obtain rfl : u = Value.bool z := rv
  exact ⟨z, rfl, .bl (!z), H', I', rfl, q⟩
end
end DOw
namespace DL
open PySem PySem.Spec PyProof.Rows L2 DOw
section
variable {K : PySem.W.Frag} {Δ : Sl} {G L : List M} {Qd : Po} {to te : TE} {C : Addr} {fs gs : List (Str × D)} {sp : DSpec} {E0' : XK}
theorem ap_strO (h : sp [.d (.ins C fs)] G (asV (fun x G1 L1 => ∃ y : Str, x = .d (.str y) ∧ Qd (.d (.str y)) G1 L1) L)) : ApC K (rStrO C (spD K sp) E0') [.d (.ins C fs)] Δ G L Qd := fun w ls σ H vs c rs Q q => by
  obtain ⟨v, rfl, rv⟩ := pair1 rs
  obtain ⟨a, dx, ws, rfl, ⟨h1, _⟩, _⟩ := id rv
  refine ⟨a, dx, ws, rfl, h1, sp_call (Qd := fun x G1 L1 => ∃ y : Str, x = .d (.str y) ∧ Qd (.d (.str y)) G1 L1) c (.cons rv .nil) rfl h fun v s2 H2 G2 L2 c2 e2 r2 ⟨y, es, k2⟩ => ?_⟩
  subst es
  obtain rfl : v = V.str y := r2
  exact ⟨y, rfl, q.go c2 e2 (s := .d (.str y)) rfl k2⟩
theorem ap_reprOw (h : sp [.d (.ins C fs)] G (asV (fun x G1 L1 => ∃ y : Str, x = .d (.str y) ∧ Qd (.d (.str y)) G1 L1) L)) : ApC K (rReprO C (spD K sp) E0') [.d (.ins C fs)] Δ G L Qd := ap_strO h
theorem u_eqO (h : sp [.d (.ins C fs), .d (.ins C gs)] G (asV (fun x G1 L1 => ∃ z : Bool, x = .d (.bl z) ∧ Qd (.d (.bl z)) G1 L1) L)) : OpC K (rEqO C (spD K sp) E0') (.d (.ins C fs)) (.d (.ins C gs)) Δ G L Qd := fun w ls σ H vx vy c rx ry Q q => by
  obtain ⟨a, dx, ws, rfl, ⟨h1, _⟩, _⟩ := id rx
  obtain ⟨b, dy, us, rfl, ⟨h2, _⟩, _⟩ := id ry
  refine ⟨a, b, dx, dy, ws, us, rfl, rfl, h1, h2, sp_call (Qd := fun x G1 L1 => ∃ z : Bool, x = .d (.bl z) ∧ Qd (.d (.bl z)) G1 L1) c (.cons rx (.cons ry .nil)) rfl h fun v s2 H2 G2 L2 c2 e2 r2 ⟨z, es, k2⟩ => ?_⟩
  subst es
  obtain rfl : v = V.bl z := r2
  exact ⟨z, rfl, q.go c2 e2 (s := .d (.bl z)) rfl k2⟩
abbrev rNeO (C : Addr) (sp : Sp) (E : XK) : R2 := fun x y H Q => rEqO C sp E x y H fun v H1 => ∃ z : Bool, v = .bl z ∧ Q (.bl (!z)) H1
theorem u_neO (h : sp [.d (.ins C fs), .d (.ins C gs)] G (asV (fun x G1 L1 => ∃ z : Bool, x = .d (.bl z) ∧ Qd (.d (.bl (!z))) G1 L1) L)) : OpC K (rNeO C (spD K sp) E0') (.d (.ins C fs)) (.d (.ins C gs)) Δ G L Qd := fun w ls σ H vx vy c rx ry Q q => by
  obtain ⟨a, dx, ws, rfl, ⟨h1, _⟩, _⟩ := id rx
  obtain ⟨b, dy, us, rfl, ⟨h2, _⟩, _⟩ := id ry
  refine ⟨a, b, dx, dy, ws, us, rfl, rfl, h1, h2, sp_call (Qd := fun x G1 L1 => ∃ z : Bool, x = .d (.bl z) ∧ Qd (.d (.bl (!z))) G1 L1) c (.cons rx (.cons ry .nil)) rfl h fun v s2 H2 G2 L2 c2 e2 r2 ⟨z, es, k2⟩ => ?_⟩
  subst es
  obtain rfl : v = V.bl z := r2
  exact ⟨z, rfl, z, rfl, q.go c2 e2 (s := .d (.bl (!z))) rfl k2⟩
theorem ap_strX {i : Int} (hi : i.natAbs.log2 < 1920) (k : Qd (.d (.str (Str.ofString (toString i)))) G L) : ApC K rStrI [.d (.int i)] Δ G L Qd := fun w ls σ H vs c rs Q q => by
  obtain ⟨v, rfl, r⟩ := pair1 rs
  obtain rfl : v = V.int i := r
  exact ⟨i, rfl, hi, q.go c Ext.refl (s := .d (.str (Str.ofString (toString i)))) rfl k⟩
theorem evc_fmtI (h : EvC K te Δ G L fun x G1 L1 => ∃ i : Int, x = .d (.int i) ∧ i.natAbs.log2 < 1920 ∧ Qd (.d (.str (Str.ofString (toString i)))) G1 L1) : EvC K (tFmt te) Δ G L Qd := fun w ls σ H c Q q => h w ls σ H c _ fun v s H2 G2 L2 c2 e2 r2 ⟨i, es, hi, k⟩ => by
  subst es
  obtain rfl : v = V.int i := r2
  exact .inr ⟨i, rfl, hi, q.go c2 e2 (s := .d (.str (Str.ofString (toString i)))) rfl k⟩
theorem evc_fmtS (h : EvC K te Δ G L fun x G1 L1 => ∃ y : Str, x = .d (.str y) ∧ y.length ≤ sizeLine ∧ Qd (.d (.str y)) G1 L1) : EvC K (tFmt te) Δ G L Qd := fun w ls σ H c Q q => h w ls σ H c _ fun v s H2 G2 L2 c2 e2 r2 ⟨y, es, hi, k⟩ => by
  subst es
  obtain rfl : v = V.str y := r2
  exact .inl ⟨y, rfl, hi, q.go c2 e2 (s := .d (.str y)) rfl k⟩
def EvJ (K : PySem.W.Frag) : List TE → Str → Sl → List M → List M → Po → Prop
  | [], acc, _, G, L, Qd => Qd (.d (.str acc)) G L
  | t :: ts, acc, Δ, G, L, Qd => EvC K t Δ G L fun x G1 L1 => ∃ y : Str, x = .d (.str y) ∧ (acc ++ y).length ≤ sizeLine ∧ EvJ K ts (acc ++ y) Δ G1 L1 Qd
theorem evj_go : ∀ {ts : List TE} {acc : Str} {G L : List M} {w : W} {ls : List Addr} {σ : L2.St} {H H0 : Hp} {Q : VK}, EvJ K ts acc Δ G L Qd → Ctx K w ls σ H Δ G L → Ext w ls H0 H → Ret K w ls σ Δ H0 Qd Q → tJs ts acc σ H fun out H1 => Q (.str out) H1
  | [], acc, G, L, w, ls, σ, H, H0, Q, h, c, e, q => q.go c e (s := .d (.str acc)) rfl h
  | t :: ts, acc, G, L, w, ls, σ, H, H0, Q, h, c, e, q => by
    refine h w ls σ H c _ fun v s H2 G2 L2 c2 e2 r2 ⟨y, es, hl, k⟩ => ?_
    subst es
    obtain rfl : v = V.str y := r2
    exact ⟨y, rfl, hl, evj_go k c2 (e.trans e2) q⟩
theorem evj_cons {t : TE} {ts : List TE} {acc : Str} (h : EvC K t Δ G L fun x G1 L1 => ∃ y : Str, x = .d (.str y) ∧ (acc ++ y).length ≤ sizeLine ∧ EvJ K ts (acc ++ y) Δ G1 L1 Qd) : EvJ K (t :: ts) acc Δ G L Qd := h
theorem empty_app (x : Str) : Str.empty ++ x = x := by
  refine TL.ext_tl ?_
  rw [TL.tl_append]
  rfl
theorem log_lt {n : Nat} (h : n < 10 ^ 60) : n.log2 < 1920 := by
  by_cases z : n = 0
  · rw [z]
    decide
  · exact (Nat.log2_lt z).mpr (Nat.lt_trans h (by decide +kernel))
theorem evc_joined {ts : List TE} (h : EvJ K ts Str.empty Δ G L Qd) : EvC K (fun σ H Q => tJs ts Str.empty σ H fun out H1 => Q (.str out) H1) Δ G L Qd := fun w ls σ H c Q q => evj_go h c Ext.refl q
end
end DL

/-! int(text, 12), int(text, 14); a text cut at its first colon -/
namespace DIb
open PySem PySem.Spec PyProof.Rows PySem.NumText PySem.Calls L2
section
variable {b : Nat} (hb : b = 12 ∨ b = 14)
include hb
end
end DIb

/-! try: .. except C: .. without a name; a text cut at its first sep; int(text, base) -/
namespace DL
open PySem PySem.Spec PyProof.Rows L2
section
variable {K : PySem.W.Frag} {Δ : Sl} {G L : List M} {E : EndsD} {Qd : Po}
end
end DL

/-! == between an instance with its own __eq__ and a thing of any kind -/
namespace DEq
open PySem PySem.Spec PyProof.Rows L2 DL
open PySem.SeqAt
open AutoSeq1 (wpAny_loadPart')
open MeetsSeq MeetsSeq2 MeetsSeq3 SeqRoads2
/-! ### a built-in's own == of an instance: no answer -/
theorem int_decl (b : Int) (u : Tok) (l C dx : Addr) :
    Meets (Builtin.«int.__eq__» ⟨[.int b u, .ref l], []⟩) (fun _ R s => s.heap.get? l = some (PySem.W.instObj C dx) ∧ R (.ok (.ret .notImplemented)) s) :=
  .of_wp fun prog w A R s h => by obtain ⟨hp, g, d, tk, os⟩ := s; obtain ⟨hl, h⟩ := h; wp_walk using wpAny_loadPart' hl, wpAny_load hl; exact ⟨_, rfl, h⟩
theorem bool_decl (b : Bool) (l C dx : Addr) :
    Meets (Builtin.«int.__eq__» ⟨[.bool b, .ref l], []⟩) (fun _ R s => s.heap.get? l = some (PySem.W.instObj C dx) ∧ R (.ok (.ret .notImplemented)) s) :=
  .of_wp fun prog w A R s h => by obtain ⟨hp, g, d, tk, os⟩ := s; obtain ⟨hl, h⟩ := h; wp_walk using wpAny_loadPart' hl, wpAny_load hl; exact ⟨_, rfl, h⟩
theorem str_decl (b : Str) (u : Tok) (l C dx : Addr) :
    Meets (Builtin.«str.__eq__» ⟨[.str b u, .ref l], []⟩) (fun _ R s => s.heap.get? l = some (PySem.W.instObj C dx) ∧ R (.ok (.ret .notImplemented)) s) :=
  .of_wp fun prog w A R s h => by obtain ⟨hp, g, d, tk, os⟩ := s; obtain ⟨hl, h⟩ := h; wp_walk using wpAny_loadPart' hl, wpAny_load hl; exact ⟨_, rfl, h⟩
section
variable {prog : Program} {w : World} {A : Around} {E : Value → Shared → Prop} {s : Shared} {R : Result → Shared → Prop}
theorem list_decl {l x C dx : Addr} {items : Array Value} {n : Nat} {dd : Option Addr} {sl : Array (Option Value)} (hl : s.heap.get? l = some { cls := .type "list", dict := dd, data := .seq items n, slots := sl }) (hx : s.heap.get? x = some (PySem.W.instObj C dx))
    (hi : PySem.W.Looks (model prog w) s.heap (isSubtype (.ref C) (.type "list")) false) (h : R (.ok (.ret .notImplemented)) s) :
    wpAny (model prog w) A.in1 (Builtin.«list.__eq__» ⟨[.ref l, .ref x], []⟩) (GQ.FinOf prog w A R) (fun e s' => R (.error e) s') s := by
  obtain ⟨hp, g, d, tk, os⟩ := s
  wp_walk using wpAny_loadPart' hl, wpAny_loadPart' hx
  refine hi.here ?_
  wp_walk using wpAny_loadPart' hl, wpAny_loadPart' hx
  exact h
theorem tup_decl {l x C dx : Addr} {items : Array Value} {n : Nat} {dd : Option Addr} {sl : Array (Option Value)} (hl : s.heap.get? l = some { cls := .type "tuple", dict := dd, data := .seq items n, slots := sl }) (hx : s.heap.get? x = some (PySem.W.instObj C dx))
    (hi : PySem.W.Looks (model prog w) s.heap (isSubtype (.ref C) (.type "tuple")) false) (h : R (.ok (.ret .notImplemented)) s) :
    wpAny (model prog w) A.in1 (Builtin.«tuple.__eq__» ⟨[.ref l, .ref x], []⟩) (GQ.FinOf prog w A R) (fun e s' => R (.error e) s') s := by
  obtain ⟨hp, g, d, tk, os⟩ := s
  wp_walk using wpAny_loadPart' hl, wpAny_loadPart' hx
  refine hi.here ?_
  wp_walk using wpAny_loadPart' hl, wpAny_loadPart' hx
  exact h
theorem dict_decl {l x C dx : Addr} {o : Obj} (hl : s.heap.get? l = some o) (hc : o.cls = .type "dict") (hx : s.heap.get? x = some (PySem.W.instObj C dx))
    (hi : PySem.W.Looks (model prog w) s.heap (isSubtype (.ref C) (.type "dict")) false) (h : R (.ok (.ret .notImplemented)) s) :
    wpAny (model prog w) A.in1 (Builtin.«dict.__eq__» ⟨[.ref l, .ref x], []⟩) (GQ.FinOf prog w A R) (fun e s' => R (.error e) s') s := by
  obtain ⟨hp, g, d, tk, os⟩ := s
  wp_walk using wpAny_loadPart' hl, wpAny_loadPart' hx
  refine hi.here ?_
  wp_walk using wpAny_loadPart' hl, wpAny_loadPart' hx
  exact h
end
/-! ### the reflected call -/
section
variable {prog : Program} {w : World} {A : Around} {E : Value → Shared → Prop} {s : Shared} {K : PySem.W.Frag} {x C L f : Addr} {h₀ : Heap} {m : Str → Option Value} {ox : Obj} {od : Option Obj}
theorem refl_K {v : Value} {T id : String} {Q : Value → Shared → Prop} (hT : s.TypeIs v T) (h1 : Slot T (cmpInfo .Eq).2.1 id)
    (hc1 : ∀ Q' : Value → Shared → Prop, Q' .notImplemented s → wpAny (model prog w) A (call (.builtin id) [v, .ref x]) Q' E s)
    (hu : A.units < cLine) (F : Fr h₀ L s.heap m) (X₀ : K.In h₀) (I : PySem.W.InstAt s.heap x ox C od) (hsub : PySem.W.mroIn K C (.type T) = some false)
    (hs : PySem.W.findIn K (.ref C) "__eq__" = some (some (.ref f))) (hf : PySem.W.isFn K (.ref f) = true)
    (h : wpAny (model prog w) A (call (.ref f) [.ref x, v]) (PySem.W.CmpBack Q) E s) : wpAny (model prog w) A (richCompare .Eq v (.ref x)) Q E s := by
  have X := X₀.keeps F.keep
  have one : wpAny (model prog w) A (tryCompare (.ref x) "__eq__" v) (fun r s' => ∃ v, r = some v ∧ Q v s') E s := by
    unfold tryCompare
    refine wpAny_bind (PySem.W.ifBound_K X I hs hf (wpAny_mono h (fun v s' hv => ?_) fun _ _ e => e))
    cases v <;> first | exact hv.elim | exact wpAny_pure ⟨_, rfl, hv⟩
  have hi : cmpInfo CmpOp.Eq = ("==", ("__eq__" : Str), ("__eq__" : Str)) := rfl
  rw [hi] at h1
  simp only [richCompare, hi, hT.oneThing_none]
  try with_reducible refine wpAny_holding ?_
  refine wpAny_bind (wpAny_cRoomFor hu ?_)
  refine wpAny_bind (wpAny_typeOf hT (wpAny_bind (I.type.here ?_)))
  rw [if_pos (by simp)]
  refine wpAny_bind ((PySem.W.looks_mroIn X hsub).here ?_)
  simp only [Bool.false_eq_true, if_false, Bool.not_false, if_true]
  refine wpAny_bind (m := tryCompare v _ (.ref x)) (wpAny_tryCompare_declines hT h1 (hc1 _ ⟨rfl, ?_⟩))
  refine wpAny_bind (m := tryCompare (.ref x) _ v) (wpAny_mono one (fun r s' z => ?_) fun _ _ e => e)
  obtain ⟨v, rfl, hq⟩ := z
  exact wpAny_pure hq
end
/-! ### a thing that is no instance -/
def Ts : List String := ["NoneType", "bool", "int", "str", "tuple", "list", "dict"]
def Thg (K : PySem.W.Frag) (H : Hp) (y : V) : Prop :=
  y = .non ∨ (∃ b, y = .bl b) ∨ (∃ i, y = .int i) ∨ (∃ z, y = .str z) ∨ (∃ a xs, y = .ref a ∧ SqT K H a xs) ∨ (∃ a xs, y = .ref a ∧ H a = some (.lst xs)) ∨ ∃ a ws, y = .ref a ∧ H a = some (.dK ws)
section
variable {X : Cx} {pins : List (Addr × Obj)} {σ : L2.St} {H : Hp} {s : Shared} {y : V} {u : Value} {C x dx : Addr} {fs : List (Str × V)}
theorem ins_obj (I : Inv X pins σ H s) (hx : H x = some (.ins C dx fs)) : s.heap.get? x = some (PySem.W.instObj C dx) := by
  obtain ⟨_, _, _, e, _⟩ := (show ObjOk X.prog X.w H s.heap x (.ins C dx fs) from I.hok x _ hx)
  exact e
theorem thg_type (I : Inv X pins σ H s) (t : Thg X.K H y) (ry : RelV y u) : ∃ T ∈ Ts, s.TypeIs u T := by
  rcases t with rfl | ⟨b, rfl⟩ | ⟨i, rfl⟩ | ⟨z, rfl⟩ | ⟨a, xs, rfl, h⟩ | ⟨a, xs, rfl, h⟩ | ⟨a, ws, rfl, h⟩
  · obtain rfl : u = Value.none := ry
    exact ⟨"NoneType", by decide, rfl⟩
  · obtain rfl : u = Value.bool b := ry
    exact ⟨"bool", by decide, rfl⟩
  · obtain ⟨t, rfl⟩ := ry
    exact ⟨"int", by decide, rfl⟩
  · obtain ⟨t, rfl⟩ := ry
    exact ⟨"str", by decide, rfl⟩
  · obtain rfl : u = Value.ref a := ry
    obtain ⟨its, r, e, _⟩ := I.tuple h
    obtain ⟨o, ho, hc, _⟩ := id e
    exact ⟨"tuple", by decide, ⟨_, ho, hc⟩⟩
  · obtain rfl : u = Value.ref a := ry
    obtain ⟨_, its, n, r, e⟩ := (show ObjOk X.prog X.w H s.heap a (.lst xs) from I.hok a _ h)
    exact ⟨"list", by decide, ⟨_, e, rfl⟩⟩
  · obtain rfl : u = Value.ref a := ry
    obtain ⟨_, _, vs, _, o, es, ep, e, hd, _⟩ := (show ObjOk X.prog X.w H s.heap a (.dK ws) from I.hok a _ h)
    exact ⟨"dict", by decide, ⟨_, e, hd.1⟩⟩
theorem thg_decl (I : Inv X pins σ H s) (t : Thg X.K H y) (ry : RelV y u) (hx : H x = some (.ins C dx fs)) (hS : (Ts.all fun T => PySem.W.mroIn X.K C (.type T) == some false) = true) (A : Around) :
    ∃ T id, T ∈ Ts ∧ s.TypeIs u T ∧ Slot T (cmpInfo .Eq).2.1 id ∧ ∀ (E : Value → Shared → Prop) (Q' : Value → Shared → Prop), Q' .notImplemented s → wpAny (model X.prog X.w) A (call (.builtin id) [u, .ref x]) Q' E s := by
  have eo := ins_obj I hx
  have sub : ∀ T ∈ Ts, PySem.W.Looks (model X.prog X.w) s.heap (isSubtype (.ref C) (.type T)) false := fun T hT => PySem.W.looks_mroIn I.kIn (beq_iff_eq.mp (List.all_eq_true.mp hS T hT))
  rcases t with rfl | ⟨b, rfl⟩ | ⟨i, rfl⟩ | ⟨z, rfl⟩ | ⟨a, xs, rfl, h⟩ | ⟨a, xs, rfl, h⟩ | ⟨a, ws, rfl, h⟩
  · obtain rfl : u = Value.none := ry
    exact ⟨"NoneType", _, by decide, rfl, F.slot_NoneType_eq, fun E Q' hq => call_gives F.slot_NoneType_eq rfl F.entry_NoneType_eq (F.args_NoneType_eq_2 _ _) (NoneType___eq___none_ref_0 x) hq⟩
  · obtain rfl : u = Value.bool b := ry
    exact ⟨"bool", _, by decide, rfl, F.slot_bool_eq, fun E Q' hq => call_meets F.slot_bool_eq rfl F.entry_int_eq (F.args_int_eq_2 _ _) (bool_decl b x C dx) ⟨eo, hq⟩⟩
  · obtain ⟨t, rfl⟩ := ry
    exact ⟨"int", _, by decide, rfl, F.slot_int_eq, fun E Q' hq => call_meets F.slot_int_eq rfl F.entry_int_eq (F.args_int_eq_2 _ _) (int_decl i t x C dx) ⟨eo, hq⟩⟩
  · obtain ⟨t, rfl⟩ := ry
    exact ⟨"str", _, by decide, rfl, F.slot_str_eq, fun E Q' hq => call_meets F.slot_str_eq rfl F.entry_str_eq (F.args_str_eq_2 _ _) (str_decl z t x C dx) ⟨eo, hq⟩⟩
  · obtain rfl : u = Value.ref a := ry
    obtain ⟨its, r, e, _⟩ := I.tuple h
    obtain ⟨⟨cls, dd, data, sl⟩, ho, hc, n, hd⟩ := id e
    simp only at hc hd
    subst hc hd
    exact ⟨"tuple", _, by decide, ⟨_, ho, rfl⟩, F.slot_tuple_eq, fun E Q' hq => GQ.call_here F.slot_tuple_eq ⟨_, ho, rfl⟩ F.entry_tuple_eq (F.args_tuple_eq_2 _ _) (tup_decl (R := wants Q' E) ho eo (sub "tuple" (by decide)) hq)⟩
  · obtain rfl : u = Value.ref a := ry
    obtain ⟨_, its, n, r, e⟩ := (show ObjOk X.prog X.w H s.heap a (.lst xs) from I.hok a _ h)
    exact ⟨"list", _, by decide, ⟨_, e, rfl⟩, F.slot_list_eq, fun E Q' hq => GQ.call_here F.slot_list_eq ⟨_, e, rfl⟩ F.entry_list_eq (F.args_list_eq_2 _ _) (list_decl (R := wants Q' E) e eo (sub "list" (by decide)) hq)⟩
  · obtain rfl : u = Value.ref a := ry
    obtain ⟨_, _, vs, _, o, es, ep, e, hd, _⟩ := (show ObjOk X.prog X.w H s.heap a (.dK ws) from I.hok a _ h)
    exact ⟨"dict", _, by decide, ⟨_, e, hd.1⟩, F.slot_dict_eq, fun E Q' hq => GQ.call_here F.slot_dict_eq ⟨_, e, hd.1⟩ F.entry_dict_eq (F.args_dict_eq_2 _ _) (dict_decl (R := wants Q' E) e hd.1 eo (sub "dict" (by decide)) hq)⟩
end
/-! ### == below a body -/
def RcR (X : Cx) (n : Nat) (r : R2) : Prop :=
  ∀ (A : Around) (pins : List (Addr × Obj)) (s : Shared) (σ : L2.St) (H : Hp) (x y : V) (u v : Value) (Q : VK), L2.Sub X n A → Inv X pins σ H s → RelV x u → RelV y v → r x y H Q →
    wpAny (model X.prog X.w) A (richCompare .Eq u v) (EP X pins σ Q) X.xe s
def AnyK (K : PySem.W.Frag) (H : Hp) (C : Addr) (y : V) : Prop := Thg K H y ∨ ∃ b C' dy gs, y = .ref b ∧ H b = some (.ins C' dy gs) ∧ PySem.W.notFirst K C (.ref C') = true
structure EqCls (K : PySem.W.Frag) (C f : Addr) : Prop where
  no : (Ts.all fun T => PySem.W.mroIn K C (.type T) == some false) = true
  nf : (Ts.all fun T => PySem.W.notFirst K C (.type T)) = true
  hs : PySem.W.findIn K (.ref C) "__eq__" = some (some (.ref f))
  hf : PySem.W.isFn K (.ref f) = true
def rEqA (K : PySem.W.Frag) (C : Addr) (sp : Sp) (E : XK) : R2 := fun x y H Q => ∃ a dx fs, x = .ref a ∧ H a = some (.ins C dx fs) ∧ AnyK K H C y ∧ sp [.ref a, y] H (fun v H1 => ∃ z : Bool, v = .bl z ∧ Q (.bl z) H1) E
def rEqR (K : PySem.W.Frag) (C : Addr) (sp : Sp) (E : XK) : R2 := fun x y H Q => ∃ a dx fs, y = .ref a ∧ H a = some (.ins C dx fs) ∧ Thg K H x ∧ sp [.ref a, x] H (fun v H1 => ∃ z : Bool, v = .bl z ∧ Q (.bl z) H1) E
section
variable {X : Cx} {CX : CXT} {k n m : Nat} {C f : Addr} {fd : FuncData} {ps : List Str} {sp : Sp} {E : XK} {r r' : R2}
theorem RcR.mono (h : RcR X n r) (hn : n ≤ m) : RcR X m r := fun A pins s σ H x y u v Q sb => h A pins s σ H x y u v Q (sb.mono hn)
theorem RcR.or (h : RcR X n r) (h' : RcR X n r') : RcR X n (fun x y H Q => r x y H Q ∨ r' x y H Q) := fun A pins s σ H x y u v Q sb I rx ry d =>
  d.elim (h A pins s σ H x y u v Q sb I rx ry) (h' A pins s σ H x y u v Q sb I rx ry)
theorem RcR.op (h : RcR X n r) (hr : Room n X.A) : OpR X (compareOp .Eq) r := fun pins s σ H x y v u Q I rx ry hq => h X.A pins s σ H x y v u Q ⟨hr, rfl⟩ I rx ry hq
theorem looks_type {M : PySem.Model} {s : Shared} {v : Value} {T : String} (h : s.TypeIs v T) : PySem.W.Looks M s.heap (typeOf v) (.type T) := fun A Q E s' k q => by
  refine wpAny_typeOf (s := s') ?_ q
  cases v with
  | ref a =>
    obtain ⟨o, ho, hc⟩ := h
    exact ⟨o, k _ _ ho, hc⟩
  | _ => exact h
theorem any_looks {pins : List (Addr × Obj)} {σ : L2.St} {H : Hp} {s : Shared} {y : V} {u : Value} (I : Inv X pins σ H s) (T : EqCls X.K C f) (t : AnyK X.K H C y) (ry : RelV y u) :
    ∃ tb, PySem.W.Looks (model X.prog X.w) s.heap (typeOf u) tb ∧ PySem.W.notFirst X.K C tb = true := by
  rcases t with t | ⟨b, C', dy, gs, rfl, hb, hn⟩
  · obtain ⟨T', hT, ht⟩ := thg_type I t ry
    exact ⟨_, looks_type ht, List.all_eq_true.mp T.nf T' hT⟩
  · obtain rfl : u = Value.ref b := ry
    obtain ⟨mB, J', _⟩ := ins_get I.hok hb
    obtain ⟨od', J', _⟩ := J'.look
    exact ⟨_, J'.type, hn⟩
theorem rcA (F : FnOk X.prog X.w X.K X.mg X.base CX k f fd ps sp) (T : EqCls X.K C f) (hb : Binds X.K fd ps []) (hx : Passes CX X E) : RcR X k (rEqA X.K C sp E) := by
  intro A pins s σ H x y u v Q sb I rx ry hq
  obtain ⟨a, dx, fs, rfl, ea, t, h⟩ := hq
  obtain rfl : u = Value.ref a := rx
  obtain ⟨mA, J, _⟩ := ins_get I.hok ea
  obtain ⟨od, J, _⟩ := J.look
  obtain ⟨tb, hl, hn⟩ := any_looks I T t ry
  obtain ⟨m, hF⟩ := I.fr
  refine PySem.W.cmp_K (op := .Eq) (tb := tb) sb.room.units0 hF I.ok.mod.kin J hl hn T.hs T.hf ?_
  refine DOw.run_own (A1 := A) (vs := [V.ref a, y]) (us := [Value.ref a, v]) sb.fr F sb.room hb hx I (.cons rfl (.cons ry .nil)) h fun u v s' H' I' rv qv => ?_
  obtain ⟨z, rfl, q⟩ := qv
  obtain rfl : u = Value.bool z := rv
  exact ⟨.bl z, H', I', rfl, q⟩
theorem rcRf (F : FnOk X.prog X.w X.K X.mg X.base CX k f fd ps sp) (T : EqCls X.K C f) (hb : Binds X.K fd ps []) (hx : Passes CX X E) : RcR X k (rEqR X.K C sp E) := by
  intro A pins s σ H x y u v Q sb I rx ry hq
  obtain ⟨a, dx, fs, rfl, ea, t, h⟩ := hq
  obtain rfl : v = Value.ref a := ry
  obtain ⟨mA, J, _⟩ := ins_get I.hok ea
  obtain ⟨od, J, _⟩ := J.look
  obtain ⟨T', id, hT, ht, sl, dc⟩ := thg_decl I t rx ea T.no A
  obtain ⟨m, hF⟩ := I.fr
  refine refl_K ht sl (fun Q' hq' => dc X.xe Q' hq') sb.room.units0 hF I.ok.mod.kin J (beq_iff_eq.mp (List.all_eq_true.mp T.no T' hT)) T.hs T.hf ?_
  refine DOw.run_own (A1 := A) (vs := [V.ref a, x]) (us := [Value.ref a, u]) sb.fr F sb.room hb hx I (.cons rfl (.cons rx .nil)) h fun u v s' H' I' rv qv => ?_
  obtain ⟨z, rfl, q⟩ := qv
  obtain rfl : u = Value.bool z := rv
  exact ⟨.bl z, H', I', rfl, q⟩
theorem op_neA (F : FnOk X.prog X.w X.K X.mg X.base CX k f fd ps sp) (hr : Room (k + 1) X.A) (T : EqCls X.K C f) (hne : PySem.W.findIn X.K (.ref C) "__ne__" = some (some (.builtin "object.__ne__"))) (hm : PySem.W.mroIn X.K C (.type "object") = some true)
    (hb : Binds X.K fd ps []) (hx : Passes CX X E) : OpR X (compareOp .NotEq) (fun x y H Q => rEqA X.K C sp E x y H fun v H1 => ∃ z : Bool, v = .bl z ∧ Q (.bl (!z)) H1) := by
  intro pins s σ H x y v u Q I rx ry hq
  obtain ⟨a, dx, fs, rfl, ea, t, h⟩ := hq
  obtain rfl : v = Value.ref a := rx
  obtain ⟨mA, J, _⟩ := ins_get I.hok ea
  obtain ⟨od, J, _⟩ := J.look
  obtain ⟨tb, hl, hn⟩ := any_looks I T t ry
  obtain ⟨m, hF⟩ := I.fr
  show wpAny (model X.prog X.w) X.A (richCompare .NotEq (.ref a) u) (EP X pins σ Q) X.xe s
  refine DOw.ne_K (tb := tb) hr.units0 hr.in1.units0 hF I.ok.mod.kin J hl hn T.hs T.hf hne hm ?_
  refine DOw.run_own (A1 := X.A.in1) (vs := [V.ref a, y]) (us := [Value.ref a, u]) rfl F hr.in1 hb hx I (.cons rfl (.cons ry .nil)) h fun u v s' H' I' rv qv => ?_
  obtain ⟨z, rfl, z', e, q⟩ := qv
  cases e
  obtain rfl : u = Value.bool z := rv
  exact ⟨z, rfl, .bl (!z), H', I', rfl, q⟩
end
/-! ### membership, item by item -/
section
variable {prog : Program} {w : World} {A : Around} {R : Result → Shared → Prop}
def InI (prog : Program) (w : World) (A : Around) (R : Result → Shared → Prop) (l : Addr) (x : Value) (N : Nat) (I : Nat → Shared → Prop) : Prop :=
  ∀ i s, I i s → ∃ (items : Array Value) (n : Nat) (dd : Option Addr) (sl : Array (Option Value)), s.heap.get? l = some { cls := .type "list", dict := dd, data := .seq items n, slots := sl } ∧ items.size = N ∧
    ∀ h : i < items.size, wpAny (model prog w) A.in1 (eqBool items[i] x) (fun r s' => if r = true then R (.ok (.ret (.bool true))) s' else I (i + 1) s') (fun e s' => R (.error e) s') s
theorem in_loopG (l : Addr) (x : Value) (N : Nat) (I : Nat → Shared → Prop) (hl : InI prog w A R l x N I) (fin : ∀ s, I N s → R (.ok (.ret (.bool false))) s) (k : Nat) :
    ∀ i : Nat, N - i = k → i ≤ N → ∀ s, I i s →
      wpAny (model prog w) A.in1 (Builtin.«list.__contains__.loop» ⟨[.ref l, x, rawInt i], []⟩) (GQ.FinOf prog w A R) (fun e s' => R (.error e) s') s := by
  induction k with
  | zero =>
    intro i hk hi s h
    obtain ⟨items, n, dd, sl, hl1, hs1, _⟩ := hl _ _ h
    have hi' : i = N := by omega
    have hR : R (.ok (.ret (.bool false))) s := fin s (hi' ▸ h)
    obtain ⟨hp, g, d, tk, os⟩ := s
    wp_walk using wpAny_loadPart' hl1
    have hi1 : items[((i : Nat) : Int).toNat]? = none := by simp; omega
    rw [hi1]
    wp_walk
    exact hR
  | succ k ih =>
    intro i hk hi s h
    obtain ⟨items, n, dd, sl, hl1, hs1, turn⟩ := hl _ _ h
    have hlt : i < items.size := by omega
    have ht := turn hlt
    obtain ⟨hp, g, d, tk, os⟩ := s
    wp_walk using wpAny_loadPart' hl1
    have hi1 : items[((i : Nat) : Int).toNat]? = some items[i] := by simp [hlt]
    have hc : ((i : Int) + 1) = ((i + 1 : Nat) : Int) := by omega
    rw [hi1]
    refine wpAny_bind (wpAny_mono ht (fun r s2 h2 => ?_) fun _ _ x => x)
    cases r with
    | true =>
      rw [if_pos rfl] at h2
      obtain ⟨hp2, g2, d2, tk2, os2⟩ := s2
      wp_walk
      exact h2
    | false =>
      rw [if_neg (by decide)] at h2
      have hrec := ih (i + 1) (by omega) (by omega) s2 h2
      obtain ⟨hp2, g2, d2, tk2, os2⟩ := s2
      wp_walk
      rw [hc]
      exact ⟨plainId_quiet plain_contains_loop _, codeAny_builtin entry_contains_loop (by
        rw [Around.under_plainId plain_contains_loop _]
        exact hrec)⟩
theorem list_inG (l : Addr) (x : Value) (N : Nat) (I : Nat → Shared → Prop) (hl : InI prog w A R l x N I) (fin : ∀ s, I N s → R (.ok (.ret (.bool false))) s) {s : Shared} (h : I 0 s) :
    wpAny (model prog w) A.in1 (Builtin.«list.__contains__» ⟨[.ref l, x], []⟩) (GQ.FinOf prog w A R) (fun e s' => R (.error e) s') s := by
  obtain ⟨items, n, dd, sl, hl1, hs1, _⟩ := hl _ _ h
  have hrec := in_loopG (A := A) (R := R) l x N I hl fin _ 0 rfl (Nat.zero_le _) s h
  obtain ⟨hp, g, d, tk, os⟩ := s
  wp_walk using wpAny_loadPart' hl1
  exact ⟨plainId_quiet plain_contains_loop _, codeAny_builtin entry_contains_loop (by
    rw [Around.under_plainId plain_contains_loop _]
    exact hrec)⟩
theorem tup_inG (l : Addr) (x : Value) (items : Array Value) (n : Nat) (dd : Option Addr) (sl : Array (Option Value)) (I : Nat → Shared → Prop)
    (turn : ∀ i (h1 : i < items.size) s, I i s → wpAny (model prog w) A.in1 (eqBool items[i] x) (fun r s' => if r = true then R (.ok (.ret (.bool true))) s' else I (i + 1) s') (fun e s' => R (.error e) s') s)
    (fin : ∀ s, I items.size s → R (.ok (.ret (.bool false))) s) {s : Shared} (hl : s.heap.get? l = some { cls := .type "tuple", dict := dd, data := .seq items n, slots := sl }) (h : I 0 s) :
    wpAny (model prog w) A.in1 (Builtin.«tuple.__contains__» ⟨[.ref l, x], []⟩) (GQ.FinOf prog w A R) (fun e s' => R (.error e) s') s := by
  have h0 := h
  obtain ⟨hp, g, d, tk, os⟩ := s
  wp_walk using wpAny_loadPart' hl, wpAny_forIn_array _ (fun rest b s' => b.1 = none ∧ ∃ i, rest = items.toList.drop i ∧ i ≤ items.size ∧ I i s') _
  case turn =>
    rintro y rest b s' ⟨hb', i, hz, hi, hI⟩
    have hlt : i < items.toList.length := by
      rcases Nat.lt_or_ge i items.toList.length with h' | h'
      · exact h'
      · rw [List.drop_of_length_le h'] at hz; cases hz
    have h1 : i < items.size := by simpa using hlt
    rw [List.drop_eq_getElem_cons hlt] at hz
    injection hz with hyx hrest
    have hy : y = items[i] := by simpa using hyx
    subst hy
    refine wpAny_bind (wpAny_mono (turn i h1 s' hI) (fun r s2 q2 => ?_) fun _ _ x => x)
    cases r with
    | true =>
      rw [if_pos rfl] at q2
      wp_walk
      exact q2
    | false =>
      rw [if_neg (by decide)] at q2
      wp_walk
      exact ⟨rfl, i + 1, hrest, h1, q2⟩
  case fin =>
    rintro ⟨b1, b2⟩ s' ⟨hb', i, hz, hi, hI⟩
    simp only at hb'
    subst hb'
    have hge : items.size ≤ i := by
      rcases Nat.lt_or_ge i items.toList.length with h' | h'
      · rw [List.drop_eq_getElem_cons h'] at hz; cases hz
      · simpa using h'
    have hi' : i = items.size := by omega
    have hR : R (.ok (.ret (.bool false))) s' := fin s' (hi' ▸ hI)
    wp_walk
    exact hR
  case h =>
    exact ⟨rfl, 0, rfl, Nat.zero_le _, h0⟩
end
def NF : V → Prop
  | .flt _ => False
  | _ => True
def EqB (r : R2) (x y : V) (H : Hp) (Qb : Bool → Hp → Prop) : Prop := r x y H (fun v H' => ∃ z : Bool, v = .bl z ∧ Qb z H') ∧ (x = y → Qb true H) ∧ NF x
def InL (P : Hp → Prop) (r : R2) (x : V) : List V → Hp → (Bool → Hp → Prop) → Prop
  | [], H, Q => Q false H
  | z :: zs, H, Q => EqB r z x H fun b H' => if b = true then Q true H' else P H' ∧ InL P r x zs H' Q
def rInW (K : PySem.W.Frag) (r : R2) (neg : Bool) : R2 := fun x y H Q => ∃ a xs, y = .ref a ∧
  ((SqL K H a xs ∧ InL (fun H' => SqL K H' a xs) r x xs H fun b H' => Q (.bl (neg ^^ b)) H') ∨ (SqT K H a xs ∧ InL (fun _ => True) r x xs H fun b H' => Q (.bl (neg ^^ b)) H'))
section
variable {X : Cx} {n : Nat} {r : R2}
theorem RcR.eb (h : RcR X n r) {A : Around} {pins : List (Addr × Obj)} {s : Shared} {σ : L2.St} {H : Hp} {x y : V} {u v : Value} {Qb : Bool → Hp → Prop} (sb : L2.Sub X n A) (I : Inv X pins σ H s) (rx : RelV x u) (ry : RelV y v) (d : EqB r x y H Qb) :
    wpAny (model X.prog X.w) A (eqBool u v) (fun b s' => ∃ H', Inv X pins σ H' s' ∧ Qb b H') X.xe s := by
  unfold eqBool
  refine wpAny_holding ?_
  refine wpAny_ite_split (fun hab => ?_) (fun _ => ?_)
  · have e := eq_of_beq hab
    subst e
    refine wpAny_bind (wpAny_rule (wpAny_pure ?_))
    exact ⟨H, I, d.2.1 (rx.inj ry)⟩
  · have go : wpAny (model X.prog X.w) A (richCompare .Eq u v >>= fun w => truthOfDropped w) (fun b s' => ∃ H', Inv X pins σ H' s' ∧ Qb b H') X.xe s := by
      refine wpAny_bind (wpAny_mono (h A pins s σ H x y u v _ sb I rx ry d.1) (fun w s' q => ?_) fun _ _ x => x)
      obtain ⟨v', H', I', rv, z, rfl, q⟩ := q
      obtain rfl : w = Value.bool z := rv
      exact wpAny_truthy_bool ⟨H', I', q⟩
    have nf := d.2.2
    dsimp only
    split
    · rename_i b1 t1 b2 t2 e
      have eu : u = Value.float b1 t1 := congrArg Prod.fst e
      subst eu
      cases x with
      | flt b => exact nf.elim
      | _ => first | (obtain ⟨_, e⟩ := rx; cases e) | cases rx
    · exact go
theorem in_call (h : RcR X n r) (hr : Room (n + 1) X.A) {pins : List (Addr × Obj)} {s : Shared} {σ : L2.St} {H : Hp} {x : V} {a : Addr} {xs : List V} {u : Value} {Qb : Bool → Hp → Prop} (I : Inv X pins σ H s) (rx : RelV x u)
    (d : (SqL X.K H a xs ∧ InL (fun H' => SqL X.K H' a xs) r x xs H Qb) ∨ (SqT X.K H a xs ∧ InL (fun _ => True) r x xs H Qb)) :
    wpAny (model X.prog X.w) X.A (contains (.ref a) u) (fun b s' => ∃ H', Inv X pins σ H' s' ∧ Qb b H') X.xe s := by
  have sb : L2.Sub X n X.A.in1 := ⟨hr.in1, rfl⟩
  rcases d with ⟨hl, d⟩ | ⟨hl, d⟩
  · obtain ⟨its, r0, ⟨o, n0, e0, hc0, _⟩, _⟩ := I.list hl
    refine wpAny_contains_slot ⟨_, e0, hc0⟩ F.slot_list_contains (wpAny_mono (GQ.call_here (Q := fun v s' => ∃ b, v = .bool b ∧ ∃ H', Inv X pins σ H' s' ∧ Qb b H') F.slot_list_contains ⟨_, e0, hc0⟩ F.entry_list_contains (F.args_list_contains_2 _ _) ?_) (fun v s' hv => ?_) fun _ _ e => e)
    · refine list_inG a u xs.length (fun i s' => ∃ H', Inv X pins σ H' s' ∧ SqL X.K H' a xs ∧ InL (fun H' => SqL X.K H' a xs) r x (xs.drop i) H' Qb) (fun i s' q => ?_) (fun s' q => ?_) ⟨H, I, hl, d⟩
      · obtain ⟨H1, I1, hl1, d1⟩ := q
        obtain ⟨its, r1, ⟨⟨oc, od, oda, osl⟩, n1, e1, hc1, hd1, hda⟩, _⟩ := I1.list hl1
        simp only at hc1 hd1 hda
        subst hc1 hd1 hda
        refine ⟨its.toArray, n1, none, osl, e1, by rw [List.size_toArray, ← r1.length], fun h1 => ?_⟩
        have k1 : i < xs.length := by rw [r1.length]; simpa using h1
        obtain ⟨w0, hw0, rw0⟩ := r1.get (List.getElem?_eq_getElem k1)
        have g1 : its[i]? = some its.toArray[i] := by
          have h1' : i < its.length := by simpa using h1
          rw [List.getElem?_eq_getElem h1'] <;> simp
        rw [g1] at hw0
        rw [Option.some.inj hw0]
        rw [List.drop_eq_getElem_cons k1] at d1
        refine wpAny_mono (h.eb sb I1 rw0 rx d1) (fun b s2 q2 => ?_) fun _ _ x => x
        obtain ⟨H2, I2, q2⟩ := q2
        cases b with
        | true => exact ⟨true, rfl, H2, I2, q2⟩
        | false => exact ⟨H2, I2, q2.1, q2.2⟩
      · obtain ⟨H1, I1, _, d1⟩ := q
        rw [List.drop_of_length_le (Nat.le_refl _)] at d1
        exact ⟨false, rfl, H1, I1, d1⟩
    · obtain ⟨b, rfl, q⟩ := hv
      exact wpAny_truthy_bool q
  · obtain ⟨its, r0, e0, _⟩ := I.tuple hl
    obtain ⟨⟨cls, dd, data, sl⟩, ho, hc, n0, hd⟩ := id e0
    simp only at hc hd
    subst hc hd
    refine wpAny_contains_slot ⟨_, ho, rfl⟩ F.slot_tuple_contains (wpAny_mono (GQ.call_here (Q := fun v s' => ∃ b, v = .bool b ∧ ∃ H', Inv X pins σ H' s' ∧ Qb b H') F.slot_tuple_contains ⟨_, ho, rfl⟩ F.entry_tuple_contains (F.args_tuple_contains_2 _ _) ?_) (fun v s' hv => ?_) fun _ _ e => e)
    · refine tup_inG a u its.toArray n0 dd sl (fun i s' => ∃ H', Inv X pins σ H' s' ∧ InL (fun _ => True) r x (xs.drop i) H' Qb) (fun i h1 s' q => ?_) (fun s' q => ?_) ho ⟨H, I, d⟩
      · obtain ⟨H1, I1, d1⟩ := q
        have k1 : i < xs.length := by rw [r0.length]; simpa using h1
        obtain ⟨w0, hw0, rw0⟩ := r0.get (List.getElem?_eq_getElem k1)
        have g1 : its[i]? = some its.toArray[i] := by
          have h1' : i < its.length := by simpa using h1
          rw [List.getElem?_eq_getElem h1'] <;> simp
        rw [g1] at hw0
        rw [Option.some.inj hw0]
        rw [List.drop_eq_getElem_cons k1] at d1
        refine wpAny_mono (h.eb sb I1 rw0 rx d1) (fun b s2 q2 => ?_) fun _ _ x => x
        obtain ⟨H2, I2, q2⟩ := q2
        cases b with
        | true => exact ⟨true, rfl, H2, I2, q2⟩
        | false => exact ⟨H2, I2, q2.2⟩
      · obtain ⟨H1, I1, d1⟩ := q
        rw [List.size_toArray, ← r0.length, List.drop_of_length_le (Nat.le_refl _)] at d1
        exact ⟨false, rfl, H1, I1, d1⟩
    · obtain ⟨b, rfl, q⟩ := hv
      exact wpAny_truthy_bool q
theorem op_inW (h : RcR X n r) (hr : Room (n + 1) X.A) : OpR X (compareOp .In) (rInW X.K r false) := by
  intro pins s σ H x y v u Q I rx ry hq
  obtain ⟨a, xs, rfl, d⟩ := hq
  obtain rfl : u = Value.ref a := ry
  show wpAny (model X.prog X.w) X.A (do return .bool (← contains (.ref a) v)) (EP X pins σ Q) X.xe s
  refine wpAny_bind (wpAny_mono (in_call h hr I rx d) (fun b s' q => ?_) fun _ _ e => e)
  obtain ⟨H', I', q⟩ := q
  rw [Bool.false_xor] at q
  exact wpAny_pure ⟨.bl b, H', I', rfl, q⟩
theorem op_notinW (h : RcR X n r) (hr : Room (n + 1) X.A) : OpR X (compareOp .NotIn) (rInW X.K r true) := by
  intro pins s σ H x y v u Q I rx ry hq
  obtain ⟨a, xs, rfl, d⟩ := hq
  obtain rfl : u = Value.ref a := ry
  show wpAny (model X.prog X.w) X.A (do return .bool (!(← contains (.ref a) v))) (EP X pins σ Q) X.xe s
  refine wpAny_bind (wpAny_mono (in_call h hr I rx d) (fun b s' q => ?_) fun _ _ e => e)
  obtain ⟨H', I', q⟩ := q
  rw [Bool.true_xor] at q
  exact wpAny_pure ⟨.bl (!b), H', I', rfl, q⟩
end
/-! ### == of two tuples, item by item -/
section
variable {prog : Program} {w : World} {A : Around} {R : Result → Shared → Prop}
theorem tup_eqG (l b : Addr) (items items2 : Array Value) (n n2 : Nat) (dd dd2 : Option Addr) (sl sl2 : Array (Option Value)) (hsz : items.size = items2.size) (I : Nat → Shared → Prop)
    (turn : ∀ i (h1 : i < items.size) (h2 : i < items2.size) s, I i s → wpAny (model prog w) A.in1 (eqBool items[i] items2[i]) (fun r s' => if r = true then I (i + 1) s' else R (.ok (.ret (.bool false))) s') (fun e s' => R (.error e) s') s)
    (fin : ∀ s, I items.size s → R (.ok (.ret (.bool true))) s) {s : Shared} (hl1 : s.heap.get? l = some { cls := .type "tuple", dict := dd, data := .seq items n, slots := sl }) (hb1 : s.heap.get? b = some { cls := .type "tuple", dict := dd2, data := .seq items2 n2, slots := sl2 }) (h : I 0 s) :
    wpAny (model prog w) A.in1 (Builtin.«tuple.__eq__» ⟨[.ref l, .ref b], []⟩) (GQ.FinOf prog w A R) (fun e s' => R (.error e) s') s := by
  have f2 := AutoSeq1.sub_tuple_tuple
  have hZ : (items.toList.zip items2.toList).length = items.size := by simp [hsz]
  have h0 := h
  obtain ⟨hp, g, d, tk, os⟩ := s
  wp_walk using wpAny_loadPart' hl1, wpAny_loadPart' hb1, wpAny_forIn_list _ (fun rest b s' => b.1 = none ∧ ∃ i, rest = (items.toList.zip items2.toList).drop i ∧ i ≤ items.size ∧ I i s') _
  case turn =>
    rintro ⟨y, x⟩ rest b s' ⟨hb', i, hz, hi, hI⟩
    have hlt : i < (items.toList.zip items2.toList).length := by
      rcases Nat.lt_or_ge i (items.toList.zip items2.toList).length with h' | h'
      · exact h'
      · rw [List.drop_of_length_le h'] at hz; cases hz
    have h1 : i < items.size := hZ ▸ hlt
    have h2 : i < items2.size := hsz ▸ h1
    rw [List.drop_eq_getElem_cons hlt] at hz
    injection hz with hyx hrest
    have hy : y = items[i] := by have := congrArg Prod.fst hyx; simpa using this
    have hx : x = items2[i] := by have := congrArg Prod.snd hyx; simpa using this
    subst hy hx
    refine wpAny_bind (wpAny_mono (turn i h1 h2 s' hI) (fun r s2 q2 => ?_) fun _ _ x => x)
    cases r with
    | true =>
      rw [if_pos rfl] at q2
      wp_walk
      exact ⟨rfl, i + 1, hrest, h1, q2⟩
    | false =>
      rw [if_neg (by decide)] at q2
      wp_walk
      exact q2
  case fin =>
    rintro ⟨b1, b2⟩ s' ⟨hb', i, hz, hi, hI⟩
    simp only at hb'
    subst hb'
    have hge : items.size ≤ i := by
      rcases Nat.lt_or_ge i (items.toList.zip items2.toList).length with h' | h'
      · rw [List.drop_eq_getElem_cons h'] at hz; cases hz
      · exact hZ ▸ h'
    have hi' : i = items.size := by omega
    have hR : R (.ok (.ret (.bool true))) s' := fin s' (hi' ▸ hI)
    wp_walk
    simpa [Builtin.Tuple.tupleCompareSizes, hsz] using hR
  case h =>
    exact ⟨rfl, 0, rfl, Nat.zero_le _, h0⟩
end
abbrev EbT := V → V → Hp → (Bool → Hp → Prop) → Prop
def EbR (X : Cx) (n : Nat) (d : EbT) : Prop := ∀ (A : Around) (pins : List (Addr × Obj)) (s : Shared) (σ : L2.St) (H : Hp) (x y : V) (u v : Value) (Qb : Bool → Hp → Prop), L2.Sub X n A → Inv X pins σ H s → RelV x u → RelV y v → d x y H Qb →
  wpAny (model X.prog X.w) A (eqBool u v) (fun b s' => ∃ H', Inv X pins σ H' s' ∧ Qb b H') X.xe s
def EqFl : EbT := fun x y H Qb => flatV x = true ∧ flatV y = true ∧ Qb (eqV x y) H
def EqL (d : EbT) : List V → List V → Hp → (Bool → Hp → Prop) → Prop
  | [], _, H, Q => Q true H
  | _ :: _, [], H, Q => Q false H
  | x :: xs, y :: ys, H, Q => d x y H fun b H' => if b = true then EqL d xs ys H' Q else Q false H'
def rTupW (K : PySem.W.Frag) (d : EbT) : R2 := fun x y H Q => ∃ a b xs ys, x = .ref a ∧ y = .ref b ∧ SqT K H a xs ∧ SqT K H b ys ∧ xs.length = ys.length ∧ EqL d xs ys H fun z H' => Q (.bl z) H'
section
variable {X : Cx} {n m : Nat} {r : R2} {d d' : EbT}
theorem RcR.ebR (h : RcR X n r) : EbR X n (EqB r) := fun _ _ _ _ _ _ _ _ _ _ sb I rx ry d => h.eb sb I rx ry d
theorem EbR.mono (h : EbR X n d) (hn : n ≤ m) : EbR X m d := fun A pins s σ H x y u v Q sb => h A pins s σ H x y u v Q (sb.mono hn)
theorem EbR.or (h : EbR X n d) (h' : EbR X n d') : EbR X n (fun x y H Q => d x y H Q ∨ d' x y H Q) := fun A pins s σ H x y u v Q sb I rx ry e =>
  e.elim (h A pins s σ H x y u v Q sb I rx ry) (h' A pins s σ H x y u v Q sb I rx ry)
theorem eb_flat : EbR X 0 EqFl := fun A pins s σ H x y u v Qb sb I rx ry e => by
  obtain ⟨fx, fy, q⟩ := e
  exact eqAt_V (A := A) (s := s) rx ry fx fy X.prog X.w X.xe _ ⟨H, I, q⟩
theorem rc_tupW (h : EbR X n d) : RcR X (n + 1) (rTupW X.K d) := by
  intro A pins s σ H x y u v Q sb I rx ry hq
  obtain ⟨a, b, xs, ys, rfl, rfl, ha, hb, hz, e⟩ := hq
  obtain rfl : u = Value.ref a := rx
  obtain rfl : v = Value.ref b := ry
  obtain ⟨its, r1, e1, _⟩ := I.tuple ha
  obtain ⟨its2, r2, e2, _⟩ := I.tuple hb
  obtain ⟨⟨cls, dd, data, sl⟩, ho, hc, n0, hd⟩ := id e1
  obtain ⟨⟨cls2, dd2, data2, sl2⟩, ho2, hc2, n2, hd2⟩ := id e2
  simp only at hc hd hc2 hd2
  subst hc hd hc2 hd2
  have hsz : its.toArray.size = its2.toArray.size := by rw [List.size_toArray, List.size_toArray, ← r1.length, ← r2.length]; exact hz
  refine wpAny_richCompare_same_room (op := .Eq) ⟨_, ho, rfl⟩ ⟨_, ho2, rfl⟩ F.slot_tuple_eq (GQ.call_here F.slot_tuple_eq ⟨_, ho, rfl⟩ F.entry_tuple_eq (F.args_tuple_eq_2 _ _) ?_) sb.room.units0
  refine tup_eqG (R := wants (fun v s' => v ≠ .notImplemented ∧ EP X pins σ Q v s') X.xe) a b its.toArray its2.toArray n0 n2 dd dd2 sl sl2 hsz (fun i s' => ∃ H', Inv X pins σ H' s' ∧ EqL d (xs.drop i) (ys.drop i) H' fun z H' => Q (.bl z) H') (fun i h1 h2 s' q => ?_) (fun s' q => ?_) ho ho2 ⟨H, I, e⟩
  · obtain ⟨H1, I1, d1⟩ := q
    have k1 : i < xs.length := by rw [r1.length]; simpa using h1
    have k2 : i < ys.length := by rw [r2.length]; simpa using h2
    obtain ⟨w1, hw1, rw1⟩ := r1.get (List.getElem?_eq_getElem k1)
    obtain ⟨w2, hw2, rw2⟩ := r2.get (List.getElem?_eq_getElem k2)
    have g1 : its[i]? = some its.toArray[i] := by
      have h1' : i < its.length := by simpa using h1
      rw [List.getElem?_eq_getElem h1'] <;> simp
    have g2 : its2[i]? = some its2.toArray[i] := by
      have h2' : i < its2.length := by simpa using h2
      rw [List.getElem?_eq_getElem h2'] <;> simp
    rw [g1] at hw1
    rw [g2] at hw2
    rw [Option.some.inj hw1, Option.some.inj hw2]
    rw [List.drop_eq_getElem_cons k1, List.drop_eq_getElem_cons k2] at d1
    refine wpAny_mono (h A.in1 pins s' σ H1 _ _ _ _ _ sb.in1 I1 rw1 rw2 d1) (fun z s2 q2 => ?_) fun _ _ x => x
    obtain ⟨H2, I2, q2⟩ := q2
    cases z with
    | true => exact ⟨H2, I2, q2⟩
    | false => exact ⟨(fun x => nomatch x), .bl false, H2, I2, rfl, q2⟩
  · obtain ⟨H1, I1, d1⟩ := q
    rw [List.size_toArray, ← r1.length, List.drop_of_length_le (Nat.le_refl _)] at d1
    exact ⟨(fun x => nomatch x), .bl true, H1, I1, rfl, d1⟩
end
end DEq
namespace DEq
open PySem PySem.Spec PyProof.Rows L2 DL
def rEqM (K : PySem.W.Frag) (C C2 : Addr) (sp sp2 : Sp) (E E2 : XK) : R2 := fun x y H Q => rEqA K C sp E x y H Q ∨ rEqA K C2 sp2 E2 x y H Q ∨ rEqR K C sp E x y H Q
section
variable {X : Cx} {CX CX2 : CXT} {k k2 n : Nat} {C C2 f f2 : Addr} {fd fd2 : FuncData} {ps ps2 : List Str} {sp sp2 : Sp} {E E2 : XK}
theorem rcM (F : FnOk X.prog X.w X.K X.mg X.base CX k f fd ps sp) (T : EqCls X.K C f) (hb : Binds X.K fd ps []) (hx : Passes CX X E) (F2 : FnOk X.prog X.w X.K X.mg X.base CX2 k2 f2 fd2 ps2 sp2) (T2 : EqCls X.K C2 f2) (hb2 : Binds X.K fd2 ps2 []) (hx2 : Passes CX2 X E2)
    (h1 : k ≤ n) (h2 : k2 ≤ n) : RcR X n (rEqM X.K C C2 sp sp2 E E2) :=
  RcR.or ((rcA F T hb hx).mono h1) (RcR.or ((rcA F2 T2 hb2 hx2).mono h2) ((rcRf F T hb hx).mono h1))
end
def EqMi (K : PySem.W.Frag) (C C2 : Addr) (sp sp2 : Sp) (E E2 : XK) : EbT := fun x y H Q => EqB (rEqM K C C2 sp sp2 E E2) x y H Q ∨ EqFl x y H Q
end DEq
namespace DL
open PySem PySem.Spec PyProof.Rows L2 DEq
def ThD : D → Prop
  | .non => True
  | .bl _ => True
  | .int _ => True
  | .str _ => True
  | .tup _ => True
  | .lst _ => True
  | .dct _ => True
  | _ => False
def PairE (sp : DSpec) (d1 d2 : D) (G L : List M) (b : Bool) : Prop := sp [.d d1, .d d2] G (asV (fun x G1 L1 => x = .d (.bl b) ∧ G1 = G ∧ L1 = L) L)
def ItE (K : PySem.W.Frag) (C C2 : Addr) (sp sp2 : DSpec) (fs : List (Str × D)) (G L : List M) (d : D) (b : Bool) : Prop :=
  (ThD d ∧ PairE sp (.ins C fs) d G L b) ∨
  (∃ gs, d = .ins C gs ∧ PairE sp (.ins C gs) (.ins C fs) G L b ∧ ∀ H R ws, RepF K H R fs ws → RepF K H R gs ws → b = true) ∨
  (∃ gs, d = .ins C2 gs ∧ C2 ≠ C ∧ PySem.W.notFirst K C2 (.ref C) = true ∧ PairE sp2 (.ins C2 gs) (.ins C fs) G L b)
section
variable {K : PySem.W.Frag} {Δ : Sl} {G L : List M} {Qd : Po} {C C2 : Addr} {fs gs : List (Str × D)} {sp sp2 : DSpec} {E0' E1' : XK} {w : W} {ls : List Addr} {σ : L2.St} {H : Hp}
theorem thd_thg {d : D} {v : V} (t : ThD d) (r : RS K H (Rg w ls) w.gs ls (.d d) v) : Thg K H v := by
  cases d with
  | non => exact .inl r
  | bl b => exact .inr (.inl ⟨b, r⟩)
  | int i => exact .inr (.inr (.inl ⟨i, r⟩))
  | str z => exact .inr (.inr (.inr (.inl ⟨z, r⟩)))
  | tup ds =>
    obtain ⟨a, xs, rfl, h, _⟩ := r
    exact .inr (.inr (.inr (.inr (.inl ⟨a, xs, rfl, h.sq⟩))))
  | lst ds =>
    obtain ⟨a, xs, rfl, h, _⟩ := r
    exact .inr (.inr (.inr (.inr (.inr (.inl ⟨a, xs, rfl, h.1⟩)))))
  | dct kvs =>
    obtain ⟨a, ws, rfl, h, _⟩ := r
    exact .inr (.inr (.inr (.inr (.inr (.inr ⟨a, ws, rfl, h.1⟩)))))
  | _ => exact t.elim
theorem thg_nf {v : V} (t : Thg K H v) : NF v := by
  rcases t with rfl | ⟨b, rfl⟩ | ⟨i, rfl⟩ | ⟨z, rfl⟩ | ⟨a, xs, rfl, h⟩ | ⟨a, xs, rfl, h⟩ | ⟨a, ws, rfl, h⟩ <;> trivial
theorem eq_run {d1 d2 : D} {v1 v2 : V} {b : Bool} {Qb : Bool → Hp → Prop} (c : Ctx K w ls σ H Δ G L) (r1 : RS K H (Rg w ls) w.gs ls (.d d1) v1) (r2 : RS K H (Rg w ls) w.gs ls (.d d2) v2) (h : PairE sp d1 d2 G L b)
    (q : ∀ H2, Ctx K w ls σ H2 Δ G L → Ext w ls H H2 → Qb b H2) : spD K sp [v1, v2] H (fun v H1 => ∃ z : Bool, v = .bl z ∧ ∃ z' : Bool, V.bl z = .bl z' ∧ Qb z' H1) E0' :=
  sp_call (Qd := fun x G1 L1 => x = .d (.bl b) ∧ G1 = G ∧ L1 = L) c (.cons r1 (.cons r2 .nil)) rfl h fun v s2 H2 G2 L2 c2 e2 r3 ⟨es, eG, eL⟩ => by
    subst es
    subst eG
    subst eL
    obtain rfl : v = V.bl b := r3
    exact ⟨b, rfl, b, rfl, q H2 c2 e2⟩
theorem it_eq {d : D} {v vn : V} {b : Bool} {Qb : Bool → Hp → Prop} (c : Ctx K w ls σ H Δ G L) (r : RS K H (Rg w ls) w.gs ls (.d d) v) (rn : RS K H (Rg w ls) w.gs ls (.d (.ins C fs)) vn) (h : ItE K C C2 sp sp2 fs G L d b)
    (q : ∀ H2, Ctx K w ls σ H2 Δ G L → Ext w ls H H2 → Qb b H2) : EqB (rEqM K C C2 (spD K sp) (spD K sp2) E0' E1') v vn H Qb := by
  obtain ⟨a, dx, us, rfl, ⟨h1, hR⟩, rf⟩ := id rn
  rcases h with ⟨t, hp⟩ | ⟨gs, rfl, hp, hi⟩ | ⟨gs, rfl, hc, hn, hp⟩
  · have tg := thd_thg t r
    refine ⟨.inr (.inr ⟨a, dx, us, rfl, h1, tg, eq_run c rn r hp q⟩), fun e => ?_, thg_nf tg⟩
    subst e
    cases d with
    | tup ds =>
      obtain ⟨a', xs, e, h, _⟩ := r
      cases e
      have h2 := h.1
      rw [h1] at h2
      cases h2
    | lst ds =>
      obtain ⟨a', xs, e, h, _⟩ := r
      cases e
      have h2 := h.1
      rw [h1] at h2
      cases h2
    | dct kvs =>
      obtain ⟨a', ws, e, h, _⟩ := r
      cases e
      have h2 := h.1
      rw [h1] at h2
      cases h2
    | non => cases r
    | bl b => cases r
    | int i => cases r
    | str z => cases r
    | _ => exact t.elim
  · obtain ⟨a', dx', us', rfl, ⟨h1', _⟩, rf'⟩ := id r
    refine ⟨.inl ⟨a', dx', us', rfl, h1', .inr ⟨a, C, dx, us, rfl, h1, by simp [PySem.W.notFirst]⟩, eq_run c r rn hp q⟩, fun e => ?_, trivial⟩
    cases e
    rw [h1] at h1'
    cases h1'
    have hb := hi _ _ _ rf rf'
    subst hb
    exact q H c Ext.refl
  · obtain ⟨a', dx', us', rfl, ⟨h1', _⟩, rf'⟩ := id r
    refine ⟨.inr (.inl ⟨a', dx', us', rfl, h1', .inr ⟨a, C, dx, us, rfl, h1, hn⟩, eq_run c r rn hp q⟩), fun e => ?_, trivial⟩
    cases e
    rw [h1] at h1'
    cases h1'
    exact (hc rfl).elim
theorem in_go {vn : V} {P : Hp → Prop} {Qf : Bool → Hp → Prop} {e : D → Bool} {H0 : Hp} (hP : ∀ H2, Ext w ls H0 H2 → P H2) :
    ∀ (ds : List D) (xs : List V) (H : Hp), Ctx K w ls σ H Δ G L → Ext w ls H0 H → RS K H (Rg w ls) w.gs ls (.d (.ins C fs)) vn → RepL K H (Rg w ls) ds xs → (∀ d ∈ ds, ItE K C C2 sp sp2 fs G L d (e d)) →
      (∀ H2, Ctx K w ls σ H2 Δ G L → Ext w ls H0 H2 → Qf (ds.any e) H2) → InL P (rEqM K C C2 (spD K sp) (spD K sp2) E0' E1') vn xs H Qf
  | [], xs, H, c, e0, rn, rl, hd, hQ => by
    obtain rfl : xs = [] := rl
    exact hQ H c e0
  | d :: ds, xs, H, c, e0, rn, rl, hd, hQ => by
    obtain ⟨y, ys, rfl, ry, rl⟩ := rl
    refine it_eq (d := d) c ry rn (hd d List.mem_cons_self) fun H2 c2 e2 => ?_
    have g := e2.grow c.reg
    have q2 := hQ
    rw [List.any_cons] at q2
    cases hb : e d with
    | true =>
      rw [if_pos rfl]
      have := q2 H2 c2 (e0.trans e2)
      rw [hb] at this
      exact this
    | false =>
      rw [if_neg (by decide)]
      rw [hb] at q2
      exact ⟨hP H2 (e0.trans e2), in_go hP ds ys H2 c2 (e0.trans e2) (RS.grow g (Pre.refl _) (Pre.refl _) rn) (RepL.grow g rl) (fun x hx => hd x (List.mem_cons_of_mem _ hx)) q2⟩
theorem u_inM {neg : Bool} {y : D} {ds : List D} {e : D → Bool} (hy : y = .lst ds ∨ y = .tup ds) (hd : ∀ d ∈ ds, ItE K C C2 sp sp2 fs G L d (e d)) (k : Qd (.d (.bl (neg ^^ ds.any e))) G L) :
    OpC K (rInW K (rEqM K C C2 (spD K sp) (spD K sp2) E0' E1') neg) (.d (.ins C fs)) (.d y) Δ G L Qd := fun w ls σ H vx vy c rx ry Q q => by
  rcases hy with rfl | rfl
  · obtain ⟨a, xs, rfl, h1, rl⟩ := ry
    refine ⟨a, xs, rfl, .inl ⟨.inl (.inl h1.1), in_go (H0 := H) (fun H2 e2 => .inl (.inl ((e2.grow c.reg).keep _ _ h1.1 h1.2))) ds xs H c Ext.refl rx rl hd fun H2 c2 e2 => ?_⟩⟩
    exact q.go c2 e2 (s := .d (.bl _)) rfl k
  · obtain ⟨a, xs, rfl, h1, rl⟩ := ry
    refine ⟨a, xs, rfl, .inr ⟨h1.sq, in_go (H0 := H) (fun _ _ => trivial) ds xs H c Ext.refl rx rl hd fun H2 c2 e2 => ?_⟩⟩
    exact q.go c2 e2 (s := .d (.bl _)) rfl k
def ItA (K : PySem.W.Frag) (C : Addr) (sp : DSpec) (fs : List (Str × D)) (G L : List M) (d : D) (b : Bool) : Prop :=
  (ThD d ∨ ∃ C' gs, d = .ins C' gs ∧ PySem.W.notFirst K C (.ref C') = true) ∧ PairE sp (.ins C fs) d G L b
theorem any_of {d : D} {v : V} (t : ThD d ∨ ∃ C' gs, d = .ins C' gs ∧ PySem.W.notFirst K C (.ref C') = true) (r : RS K H (Rg w ls) w.gs ls (.d d) v) : AnyK K H C v := by
  rcases t with t | ⟨C', gs, rfl, hn⟩
  · exact .inl (thd_thg t r)
  · obtain ⟨a, dx, us, rfl, ⟨h1, _⟩, _⟩ := r
    exact .inr ⟨a, C', dx, us, rfl, h1, hn⟩
theorem u_eqMl {d : D} {b : Bool} (h : ItA K C sp fs G L d b) (k : Qd (.d (.bl b)) G L) : OpC K (rEqM K C C2 (spD K sp) (spD K sp2) E0' E1') (.d (.ins C fs)) (.d d) Δ G L Qd := fun w ls σ H vx vy c rx ry Q q => by
  obtain ⟨a, dx, us, rfl, ⟨h1, _⟩, _⟩ := id rx
  refine .inl ⟨a, dx, us, rfl, h1, any_of h.1 ry, sp_call (Qd := fun x G1 L1 => x = .d (.bl b) ∧ G1 = G ∧ L1 = L) c (.cons rx (.cons ry .nil)) rfl h.2 fun v s2 H2 G2 L2 c2 e2 r2 ⟨es, eG, eL⟩ => ?_⟩
  subst es
  subst eG
  subst eL
  obtain rfl : v = V.bl b := r2
  exact ⟨b, rfl, q.go c2 e2 (s := .d (.bl b)) rfl k⟩
theorem u_neMl {d : D} {b : Bool} (h : ItA K C sp fs G L d b) (k : Qd (.d (.bl (!b))) G L) : OpC K (fun x y H Q => rEqA K C (spD K sp) E0' x y H fun v H1 => ∃ z : Bool, v = .bl z ∧ Q (.bl (!z)) H1) (.d (.ins C fs)) (.d d) Δ G L Qd := fun w ls σ H vx vy c rx ry Q q => by
  obtain ⟨a, dx, us, rfl, ⟨h1, _⟩, _⟩ := id rx
  refine ⟨a, dx, us, rfl, h1, any_of h.1 ry, sp_call (Qd := fun x G1 L1 => x = .d (.bl b) ∧ G1 = G ∧ L1 = L) c (.cons rx (.cons ry .nil)) rfl h.2 fun v s2 H2 G2 L2 c2 e2 r2 ⟨es, eG, eL⟩ => ?_⟩
  subst es
  subst eG
  subst eL
  obtain rfl : v = V.bl b := r2
  exact ⟨b, rfl, b, rfl, q.go c2 e2 (s := .d (.bl (!b))) rfl k⟩
theorem pair_go {d1 d2 : D} {v1 v2 : V} {b : Bool} {Q : VK} {Ex : XK} (c : Ctx K w ls σ H Δ G L) (r1 : RS K H (Rg w ls) w.gs ls (.d d1) v1) (r2 : RS K H (Rg w ls) w.gs ls (.d d2) v2) (h : PairE sp d1 d2 G L b)
    (q : Ret K w ls σ Δ H Qd Q) (k : Qd (.d (.bl b)) G L) : spD K sp [v1, v2] H (fun v H1 => ∃ z : Bool, v = .bl z ∧ Q (.bl z) H1) Ex :=
  sp_call (Qd := fun x G1 L1 => x = .d (.bl b) ∧ G1 = G ∧ L1 = L) c (.cons r1 (.cons r2 .nil)) rfl h fun v s2 H2 G2 L2 c2 e2 r3 ⟨es, eG, eL⟩ => by
    subst es
    subst eG
    subst eL
    obtain rfl : v = V.bl b := r3
    exact ⟨b, rfl, q.go c2 e2 (s := .d (.bl b)) rfl k⟩
theorem u_eqMr {d : D} {b : Bool} (h : ItE K C C2 sp sp2 fs G L d b) (k : Qd (.d (.bl b)) G L) : OpC K (rEqM K C C2 (spD K sp) (spD K sp2) E0' E1') (.d d) (.d (.ins C fs)) Δ G L Qd := fun w ls σ H vx vy c r rn Q q => by
  obtain ⟨a, dx, us, rfl, ⟨h1, hR⟩, rf⟩ := id rn
  rcases h with ⟨t, hp⟩ | ⟨gs, rfl, hp, hi⟩ | ⟨gs, rfl, hc, hn, hp⟩
  · exact .inr (.inr ⟨a, dx, us, rfl, h1, thd_thg t r, pair_go c rn r hp q k⟩)
  · obtain ⟨a', dx', us', rfl, ⟨h1', _⟩, rf'⟩ := id r
    exact .inl ⟨a', dx', us', rfl, h1', .inr ⟨a, C, dx, us, rfl, h1, by simp [PySem.W.notFirst]⟩, pair_go c r rn hp q k⟩
  · obtain ⟨a', dx', us', rfl, ⟨h1', _⟩, rf'⟩ := id r
    exact .inr (.inl ⟨a', dx', us', rfl, h1', .inr ⟨a, C, dx, us, rfl, h1, hn⟩, pair_go c r rn hp q k⟩)
def PrE (K : PySem.W.Frag) (C C2 : Addr) (sp sp2 : DSpec) (G L : List M) (d e : D) (b : Bool) : Prop :=
  (∃ i j : Int, d = .int i ∧ e = .int j ∧ b = (i == j)) ∨ ∃ fs, e = .ins C fs ∧ ItE K C C2 sp sp2 fs G L d b
def PrL (K : PySem.W.Frag) (C C2 : Addr) (sp sp2 : DSpec) (G L : List M) : List D → List D → Bool → Prop
  | [], [], b => b = true
  | d :: ds, e :: es, b => ∃ b1, PrE K C C2 sp sp2 G L d e b1 ∧ (b1 = true → PrL K C C2 sp sp2 G L ds es b) ∧ (b1 = false → b = false)
  | _, _, _ => False
theorem tup_go {H0 : Hp} {Qf : Bool → Hp → Prop} {b : Bool} (hQ : ∀ H2, Ctx K w ls σ H2 Δ G L → Ext w ls H0 H2 → Qf b H2) :
    ∀ (ds es : List D) (xs ys : List V) (H : Hp), Ctx K w ls σ H Δ G L → Ext w ls H0 H → RepL K H (Rg w ls) ds xs → RepL K H (Rg w ls) es ys → PrL K C C2 sp sp2 G L ds es b →
      EqL (EqMi K C C2 (spD K sp) (spD K sp2) E0' E1') xs ys H Qf
  | [], [], xs, ys, H, c, e0, r1, r2, h => by
    obtain rfl : xs = [] := r1
    obtain rfl : ys = [] := r2
    obtain rfl : b = true := h
    exact hQ H c e0
  | d :: ds, e :: es, xs, ys, H, c, e0, r1, r2, h => by
    obtain ⟨x, xs, rfl, rx, r1⟩ := r1
    obtain ⟨y, ys, rfl, ry, r2⟩ := r2
    obtain ⟨b1, hp, ht, hf⟩ := h
    have fin : ∀ H2, Ctx K w ls σ H2 Δ G L → Ext w ls H H2 → (if b1 = true then EqL (EqMi K C C2 (spD K sp) (spD K sp2) E0' E1') xs ys H2 Qf else Qf false H2) := fun H2 c2 e2 => by
      have g := e2.grow c.reg
      cases b1 with
      | true =>
        rw [if_pos rfl]
        exact (tup_go hQ ds es xs ys H2 c2 (e0.trans e2) (RepL.grow g r1) (RepL.grow g r2) (ht rfl))
      | false =>
        rw [if_neg (by decide)]
        have := hQ H2 c2 (e0.trans e2)
        rw [hf rfl] at this
        exact this
    show EqMi K C C2 (spD K sp) (spD K sp2) E0' E1' x y H _
    rcases hp with ⟨i, j, rfl, rfl, rfl⟩ | ⟨fs, rfl, hi⟩
    · obtain rfl : x = V.int i := rx
      obtain rfl : y = V.int j := ry
      exact .inr ⟨rfl, rfl, fin H c Ext.refl⟩
    · exact .inl (it_eq c rx ry hi fin)
  | [], _ :: _, _, _, _, _, _, _, _, h => h.elim
  | _ :: _, [], _, _, _, _, _, _, _, h => h.elim
theorem u_eqT {ds es : List D} {b : Bool} (hl : ds.length = es.length) (h : PrL K C C2 sp sp2 G L ds es b) (k : Qd (.d (.bl b)) G L) : OpC K (rTupW K (EqMi K C C2 (spD K sp) (spD K sp2) E0' E1')) (.d (.tup ds)) (.d (.tup es)) Δ G L Qd := fun w ls σ H vx vy c rx ry Q q => by
  obtain ⟨a, xs, rfl, h1, r1⟩ := rx
  obtain ⟨a', ys, rfl, h2, r2⟩ := ry
  have z := tup_go (E0' := E0') (E1' := E1') (H0 := H) (Qf := fun b H' => Q (.bl b) H') (fun H2 c2 e2 => q.go c2 e2 (s := .d (.bl b)) rfl k) ds es xs ys H c Ext.refl r1 r2 h
  exact ⟨a, a', xs, ys, rfl, rfl, h1.sq, h2.sq, by rw [r1.length, r2.length, hl], z⟩
end
end DL
namespace DEq
open PySem PySem.Spec PyProof.Rows L2 DL
theorem sub_T (K : PySem.W.Frag) (C : Addr) {T : String} {l : List Value} (h1 : PySem.fastBuiltinMro T = some l) (h2 : (l.contains (Value.ref C)) = false) : PySem.W.subIn K (.type T) (.ref C) = some false := by
  show (PySem.fastBuiltinMro T).map (fun x => x.contains (Value.ref C)) = some false
  rw [h1]
  show some (l.contains (Value.ref C)) = some false
  rw [h2]
theorem sub_Ts (K : PySem.W.Frag) (C : Addr) : ∀ T ∈ Ts, PySem.W.subIn K (.type T) (.ref C) = some false := by
  intro T hT
  simp only [Ts, List.mem_cons, List.not_mem_nil, or_false] at hT
  rcases hT with rfl | rfl | rfl | rfl | rfl | rfl | rfl
  · exact sub_T K C (l := [.type "NoneType", .type "object"]) (by kernel_rfl) rfl
  · exact sub_T K C (l := [.type "bool", .type "int", .type "object"]) (by kernel_rfl) rfl
  · exact sub_T K C (l := [.type "int", .type "object"]) (by kernel_rfl) rfl
  · exact sub_T K C (l := [.type "str", .type "object"]) (by kernel_rfl) rfl
  · exact sub_T K C (l := [.type "tuple", .type "object"]) (by kernel_rfl) rfl
  · exact sub_T K C (l := [.type "list", .type "object"]) (by kernel_rfl) rfl
  · exact sub_T K C (l := [.type "dict", .type "object"]) (by kernel_rfl) rfl
theorem nf_Ts (K : PySem.W.Frag) (C : Addr) : (Ts.all fun T => PySem.W.notFirst K C (.type T)) = true := List.all_eq_true.mpr fun T hT => by
  unfold PySem.W.notFirst
  rw [sub_Ts K C T hT]
  simp
theorem nf_own {K : PySem.W.Frag} {C C2 : Addr} (h : PySem.W.subIn K (.ref C2) (.ref C) = some false) : PySem.W.notFirst K C (.ref C2) = true := by
  unfold PySem.W.notFirst
  rw [h]
  simp
structure IsC (K : PySem.W.Frag) (C : Addr) : Prop where
  ic : PySem.W.isClsIn K C = true
  ty : PySem.W.typeIn K (.ref C) = some (.type "type")
theorem isN_one {K : PySem.W.Frag} {C : Addr} (h : IsC K C) : ∀ T ∈ Ts, PySem.W.kitOne K (.type T) (.ref C) = some false := fun T hT => by
  have := sub_Ts K C T hT
  unfold PySem.W.kitOne
  rw [if_neg (by intro z; cases beq_iff_eq.mp z)]
  show (if ((PySem.W.clsIn K C).isSome && PySem.W.typeIn K (.ref C) == some (.type "type")) = true then PySem.W.subIn K (.type T) (.ref C) else none) = _
  have e2 : ((PySem.W.clsIn K C).isSome && PySem.W.typeIn K (.ref C) == some (.type "type")) = true := by
    have ic : (PySem.W.clsIn K C).isSome = true := h.ic
    rw [ic, h.ty]
    decide
  rw [if_pos e2, this]
theorem eqCls {K : PySem.W.Frag} {C f : Addr} (h1 : PySem.W.mroIn K C (.type "NoneType") = some false) (h2 : PySem.W.mroIn K C (.type "bool") = some false) (h3 : PySem.W.mroIn K C (.type "int") = some false) (h4 : PySem.W.mroIn K C (.type "str") = some false)
    (h5 : PySem.W.mroIn K C (.type "tuple") = some false) (h6 : PySem.W.mroIn K C (.type "list") = some false) (h7 : PySem.W.mroIn K C (.type "dict") = some false) (hs : PySem.W.findIn K (.ref C) "__eq__" = some (some (.ref f))) (hf : PySem.W.isFn K (.ref f) = true) : EqCls K C f := by
  refine ⟨?_, nf_Ts K C, hs, hf⟩
  simp only [Ts, List.all_cons, List.all_nil, h1, h2, h3, h4, h5, h6, h7]
  decide
end DEq
namespace DL
open PySem PySem.Spec PyProof.Rows L2 DEq
theorem thd_ty {d : D} (h : ThD d) : ∃ T ∈ Ts, tyD d = some T := by
  cases d with
  | non => exact ⟨"NoneType", by decide, rfl⟩
  | bl b => exact ⟨"bool", by decide, rfl⟩
  | int i => exact ⟨"int", by decide, rfl⟩
  | str z => exact ⟨"str", by decide, rfl⟩
  | tup ds => exact ⟨"tuple", by decide, rfl⟩
  | lst ds => exact ⟨"list", by decide, rfl⟩
  | dct kvs => exact ⟨"dict", by decide, rfl⟩
  | _ => exact h.elim
section
variable {K : PySem.W.Frag} {Δ : Sl} {G L : List M} {Qd : Po} {C C2 : Addr} {fs : List (Str × D)}
theorem ap_isiN {d : D} (t : ThD d) (h : IsC K C) (k : Qd (.d (.bl false)) G L) : ApC K (rIsi K) [.d d, .d (.ref C)] Δ G L Qd := fun w ls σ H vs c rs Q q => by
  obtain ⟨v, u, rfl, r1, r2⟩ := pair2 rs
  have r2 : u = .ref C := r2
  subst r2
  obtain ⟨T, hT, e⟩ := thd_ty t
  exact ⟨v, _, _, _, false, rfl, .own C, rep_ty e r1, isN_one h T hT, q.go c Ext.refl (s := .d (.bl false)) rfl k⟩
theorem ap_isiO2 (h : Cls K C2 ∧ DTj.JI K C2) (hb : PySem.W.kitOne K (.ref C2) (.ref C) = some false) (k : Qd (.d (.bl false)) G L) : ApC K (rIsi K) [.d (.ins C2 fs), .d (.ref C)] Δ G L Qd := fun w ls σ H vs c rs Q q => by
  obtain ⟨v, u, rfl, ⟨a, dx, ws, rfl, ⟨h1, _⟩, _⟩, r2⟩ := pair2 rs
  have r2 : u = .ref C := r2
  subst r2
  exact ⟨_, _, .ref C2, .ref C, false, rfl, .own C, .base (.ins h1 h.1 h.2.ha h.2.hn h.2.ht h.2.hm), hb, q.go c Ext.refl (s := .d (.bl false)) rfl k⟩
end
end DL

/-! f-strings with instances: {x}, {x!r} by their own __str__, __repr__ -/
namespace DFm
open PySem PySem.Spec PyProof.Rows L2 DL
section
variable {prog : Program} {w : World} {A : Around} {E : Value → Shared → Prop} {s : Shared} {K : PySem.W.Frag} {x C f : Addr} {ox : Obj} {od : Option Obj}
end
def tFmtO (C : Addr) (sp : Sp) (E : XK) (te : TE) : TE := fun σ H Q => te σ H fun x H1 => ∃ (a dx : Addr) (fs : List (Str × V)), x = .ref a ∧ H1 a = some (.ins C dx fs) ∧ sp [.ref a] H1 (fun v H2 => ∃ y : Str, v = .str y ∧ y.length ≤ sizeLine ∧ Q (.str y) H2) E
section
variable {X : Cx} {CX : CXT} {k : Nat} {C f : Addr} {fd : FuncData} {ps : List Str} {sp : Sp} {E : XK} {e : Expr} {te : TE} {pos : Pos}
theorem pe_fmtO (he : PE X e te) (F : FnOk X.prog X.w X.K X.mg X.base CX k f fd ps sp) (hr : Room (k + 1) X.A) (hfm : PySem.W.findIn X.K (.ref C) "__format__" = some (some (.builtin "object.__format__"))) (hm : PySem.W.mroIn X.K C (.type "object") = some true)
    (hs : PySem.W.findIn X.K (.ref C) "__str__" = some (some (.ref f))) (hf : PySem.W.isFn X.K (.ref f) = true) (hb : Binds X.K fd ps []) (hx : Passes CX X E) : PE X (.FormattedValue e (-1) none pos) (tFmtO C sp E te) := by
  refine ⟨fun pins s σ H Q I h => ?_⟩
  refine wpAny_FormattedValue_plain (thn (he.run pins s σ H _ I h) fun v s1 hv => ?_)
  obtain ⟨x, H1, I1, r1, a, dx, fs, rfl, ea, q⟩ := hv
  obtain rfl : v = Value.ref a := r1
  obtain ⟨mA, J, _⟩ := ins_get I1.hok ea
  obtain ⟨od, J, _⟩ := J.look
  refine PySem.W.kfo_fieldS hr.in1.units0 I1.kIn J hfm hm hs hf ?_
  refine DOw.run_own (A1 := X.A.in1) (s := { s1 with toks := s1.toks + 1 }) (vs := [V.ref a]) (us := [Value.ref a]) rfl F hr.in1 hb hx (I1.tok _) (.cons rfl .nil) q fun u v s' H' I' rv qv => ?_
  obtain ⟨y, rfl, hz, q⟩ := qv
  obtain ⟨t, rfl⟩ := rv
  exact ⟨.str y, H', I', ⟨t, rfl⟩, q⟩
end
end DFm
namespace DL
open PySem PySem.Spec PyProof.Rows L2
section
variable {K : PySem.W.Frag} {Δ : Sl} {G L : List M} {Qd : Po} {te : TE} {C : Addr} {sp : DSpec} {E0' : XK}
theorem evc_fmtO (h : EvC K te Δ G L fun x G1 L1 => ∃ fs, x = .d (.ins C fs) ∧ sp [.d (.ins C fs)] G1 (asV (fun x G2 L2 => ∃ y : Str, x = .d (.str y) ∧ y.length ≤ sizeLine ∧ Qd (.d (.str y)) G2 L2) L1)) : EvC K (DFm.tFmtO C (spD K sp) E0' te) Δ G L Qd := fun w ls σ H c Q q => h w ls σ H c _ fun v s H2 G2 L2 c2 e2 r2 ⟨fs, es, k⟩ => by
  subst es
  obtain ⟨a, dx, ws, rfl, ⟨h1, _⟩, _⟩ := id r2
  refine ⟨a, dx, ws, rfl, h1, sp_call (Qd := fun x G2 L2 => ∃ y : Str, x = .d (.str y) ∧ y.length ≤ sizeLine ∧ Qd (.d (.str y)) G2 L2) c2 (.cons r2 .nil) rfl k fun v s3 H3 G3 L3 c3 e3 r3 ⟨y, es, hz, k3⟩ => ?_⟩
  subst es
  obtain rfl : v = V.str y := r3
  exact ⟨y, rfl, hz, q.go c3 (e2.trans e3) (s := .d (.str y)) rfl k3⟩
end
section
variable {K : PySem.W.Frag} {Δ : Sl} {G L : List M} {Qn : PoN} {te : TE}
end
end DL

/-! bool of an own instance (by its __len__), len(range(n)) -/
namespace DBl
open PySem PySem.Spec PyProof.Rows L2 PySem.W
section
variable {prog : Program} {w : World} {A : Around} {E : Value → Shared → Prop} {s : Shared} {K : Frag} {x C L f : Addr} {h₀ : Heap} {m : Str → Option Value} {ox : Obj} {od : Option Obj}
theorem len_body {Q : Value → Shared → Prop} (F : Fr h₀ L s.heap m) (X₀ : K.In h₀) (I : InstAt s.heap x ox C od) (hs : findIn K (.ref C) "__len__" = some (some (.ref f))) (hf : isFn K (.ref f) = true)
    (h : wpAny (model prog w) A (call (.ref f) [.ref x]) (PySem.W.LenBack Q) E s) : wpAny (model prog w) A (Builtin.«len» ⟨[.ref x], []⟩) (fun fin s' => ∃ r, fin = .done (.ret r) ∧ Q r s') E s := by
  unfold Builtin.«len»
  refine wpAny_bind (m := oneArg "len" _) (wpAny_pure ?_)
  refine wpAny_bind (m := callSpecial? (.ref x) (Str.ofString "__len__")) (special_fn (X₀.keeps F.keep) I hs (beq_iff_eq.mp hf) (wpAny_mono h (fun r s' hr => ?_) fun _ _ y => y))
  cases r <;> first | exact hr.elim | skip
  rename_i n u
  obtain ⟨⟨h0, h1⟩, hq⟩ := hr
  refine wpAny_bind (wpAny_holding (wpAny_pure ?_))
  refine wpAny_bind (wpAny_letGo ?_)
  show wpAny _ _ (if n < 0 then _ else _) _ _ _
  rw [if_neg (by omega)]
  show wpAny _ _ (if n ≥ 2 ^ 63 then _ else _) _ _ _
  rw [if_neg (by omega)]
  exact wpAny_bind (wpAny_mkInt (wpAny_pure ⟨_, rfl, hq⟩))
def TruBack (Q : Bool → Shared → Prop) (v : Value) (s' : Shared) : Prop := match v with
  | .int n _ => (0 ≤ n ∧ n < 2 ^ 63) ∧ Q (n != 0) { s' with toks := s'.toks + 1 }
  | _ => False
theorem truthy_len {Q : Bool → Shared → Prop} (F : Fr h₀ L s.heap m) (X₀ : K.In h₀) (I : InstAt s.heap x ox C od) (hb : findIn K (.ref C) "__bool__" = some none) (hs : findIn K (.ref C) "__len__" = some (some (.ref f))) (hf : isFn K (.ref f) = true)
    (h : wpAny (model prog w) A.in1 (call (.ref f) [.ref x]) (TruBack Q) E s) : wpAny (model prog w) A (truthy (.ref x)) Q E s := by
  have X := X₀.keeps F.keep
  have key : wpAny (model prog w) A (runValue (.builtin "len" ⟨[.ref x], []⟩)) (fun r s' => ∃ n t, r = .int n t ∧ Q (n != 0) s') E s := by
    refine wpAny_runValue (codeAny_builtin entry_len ?_)
    rw [Around.under_plainId plain_len _]
    refine wpAny_mono (len_body (Q := fun r s' => ∃ n t, r = .int n t ∧ Q (n != 0) s') F X₀ I hs hf (wpAny_mono h (fun r s' hr => ?_) fun _ _ y => y)) (fun fin s' h' => by obtain ⟨r, rfl, hq⟩ := h'; exact hq) fun _ _ e => e
    cases r <;> first | exact hr.elim | skip
    rename_i n u
    exact ⟨hr.1, n, _, rfl, hr.2⟩
  unfold truthy
  refine wpAny_bind (m := callSpecial? (.ref x) (Str.ofString "__bool__")) (wpAny_bind (wpAny_bind (I.type.here ((looks_findIn X hb).here (wpAny_pure ?_)))))
  refine wpAny_bind (wpAny_bind (I.type.here ((looks_findIn X hs).here ?_)))
  refine wpAny_bind (wpAny_mono key (fun r s' h' => ?_) fun _ _ e => e)
  obtain ⟨n, t, rfl, hq⟩ := h'
  exact wpAny_pure hq
theorem bool_body {Q : Value → Shared → Prop} (h : wpAny (model prog w) A (truthy (.ref x)) (fun b s' => Q (.bool b) s') E s) : wpAny (model prog w) A (Builtin.«bool.__new__» ⟨[.type "bool", .ref x], []⟩) (fun fin s' => ∃ r, fin = .done (.ret r) ∧ Q r s') E s := by
  have f1 := F.conv_sub_bool
  obtain ⟨hp, g, d, tk, os⟩ := s
  repeat (any_goals (first | assumption | (with_reducible refine wpAny_mono h (fun _ _ hq => ?_) fun _ _ e => e) | wp_step))
  all_goals first | exact ⟨_, rfl, hq⟩ | skip
theorem callType_at {T newId : String} {Bn : Builtin} {args : List Value} {Q : Value → Shared → Prop} (ft : TypeCalled T newId "object.__init__")
    (hne : (some newId != some "object.__new__") = true) (hct : checkTypeCall T ⟨args, []⟩ = pure ()) (hcn : checkBuiltinCall newId ⟨.type T :: args, []⟩ = pure ())
    (hok : ∀ obj, argsOk "object.__init__" ⟨obj :: args, []⟩) (entryN : entryFor table newId = some Bn)
    (h : wpAny (model prog w) A.in1.in1 (Bn ⟨.type T :: args, []⟩) (fun fin s' => ∃ r, fin = .done (.ret r) ∧ s'.TypeIs r T ∧ Q r s') E s) : wpAny (model prog w) A (call (.type T) args) Q E s := by
  obtain ⟨c, tl, hmro⟩ := ft.mro
  have hmade := ft.made
  have hsub := ft.sub
  refine wpAny_call (codeAny_of_tree ?_)
  show wpAny _ _ (callAny (.type T) _) _ _ _
  refine wpAny_pure ⟨Code.quiet_builtin _ (by decide +kernel), codeAny_builtin F.entry_type_call ?_⟩
  rw [Around.under_plain (weight_type_call_type T args []) (units_type_call_type T args [])]
  have h1 := ft.notType
  have h2 := ft.canCreate
  repeat (any_goals (first | assumption | wp_step))
  refine codeAny_mono (codeAny_call_builtin (R := wants (fun r s' => s'.TypeIs r T ∧ Q r s') E) ft.plain entryN (wpAny_of_eq hcn (wpAny_mono h (fun fin s' h' => ?_) fun _ _ e => e))) fun r s₁ hr => ?_
  · obtain ⟨r, rfl, hq⟩ := h'
    exact hq
  cases r with
  | error e => exact hr
  | ok fl =>
    cases fl with
    | ret obj =>
      obtain ⟨hT, hq⟩ := hr
      have hli := ft.init.lookup
      have hbi := ft.init.bind obj
      repeat (any_goals (first | assumption | wp_step))
      refine codeAny_mono (codeAny_call_builtin ft.init.plain F.entry_object_init (ft.init.check _ _ _ _ _ _ _ _ hT (hok obj) (object_init_meets (self := obj) (rest := args) hli hmade hne prog w _ (wants (fun r s₂ => r = .none ∧ Q obj s₂) E) s₁ ⟨hT, rfl, hq⟩))) fun r₂ s₂ hr₂ => ?_
      cases r₂ with
      | error e => exact hr₂
      | ok fl₂ =>
        cases fl₂ with
        | ret r =>
          obtain ⟨rfl, hq⟩ := hr₂
          repeat (any_goals (first | assumption | wp_step))
        | _ => exact hr₂.elim
    | _ => exact hr.elim
end
def rBoolO (C : Addr) (sp : Sp) (E : XK) : List V → Hp → VK → Prop := fun xs H Q => ∃ (a dx : Addr) (fs : List (Str × V)), xs = [.ref a] ∧ H a = some (.ins C dx fs) ∧
  sp [.ref a] H (fun v H1 => ∃ i : Int, v = .int i ∧ (0 ≤ i ∧ i < 2 ^ 63) ∧ Q (.bl (i != 0)) H1) E
theorem call_boolO {X : Cx} {CX : CXT} {k : Nat} {C f : Addr} {fd : FuncData} {ps : List Str} {sp : Sp} {E : XK} (F : FnOk X.prog X.w X.K X.mg X.base CX k f fd ps sp) (hr : Room (k + 3) X.A)
    (hz : findIn X.K (.ref C) "__bool__" = some none) (hs : findIn X.K (.ref C) "__len__" = some (some (.ref f))) (hf : isFn X.K (.ref f) = true) (hb : Binds X.K fd ps []) (hx : Passes CX X E) : CallR X (.type "bool") (rBoolO C sp E) := by
  intro pins s σ H xs us Q I r h
  obtain ⟨a, dx, fs, rfl, ea, h⟩ := h
  match us, r with
  | [u], .cons ra .nil =>
    obtain rfl : u = Value.ref a := ra
    obtain ⟨mA, J, _⟩ := ins_get I.hok ea
    obtain ⟨od, J, _⟩ := J.look
    obtain ⟨m, hF⟩ := I.fr
    refine callType_at PySem.F.called_bool PySem.F.newNe_bool (PySem.F.typeCall_bool_1 _) (PySem.F.newCall_bool_1 _) (fun obj => PySem.F.args_object_init_2 obj _) PySem.F.entry_bool_new (bool_body (truthy_len hF I.ok.mod.kin J hz hs hf ?_))
    have hri : Room k X.A.in1.in1.in1 := hr.in1.in1.in1
    have e0 : Env0 X.prog X.w X.K X.mg X.base X.A.in1.in1.in1 X.stack s H := by
      have e := I.env0
      exact ⟨by show X.A.frames = some X.stack; exact e.frames, e.mod, e.bs, e.bsz, e.funs, e.frf, e.hok, e.bare⟩
    have hl := F.len _ _ _ _ h
    have r2 : Vals [V.ref a] [Value.ref a] := .cons rfl .nil
    refine wpAny_call (codeAny_mono (F.run X.A.in1.in1.in1 X.stack s H ⟨[.ref a], []⟩ [.ref a] [.ref a] _ E hri e0 (by
      have := hb s [.ref a] I.kIn (by simpa using hl)
      simpa using this) r2 h) fun r s' hq => ?_)
    cases r with
    | error e => exact hx pins σ H s e s' I hq
    | ok fl =>
      cases fl with
      | ret w =>
        obtain ⟨z, H', I', rz, i, ez, hi, q⟩ := I.after hq
        subst ez
        obtain ⟨t, rfl⟩ := rz
        exact ⟨hi, rfl, .bl (i != 0), H', I'.kept (t' := s'.toks + 1) fun _ _ z => z, rfl, q⟩
      | _ => exact hq.elim
def rRg1 : List V → Hp → VK → Prop := fun vs H Q => ∃ j, vs = [V.int j] ∧ ∀ p, H p = none → Q (.ref p) (upd H p (.rng 0 j))
theorem cr_rg1 {X : Cx} : CallR X (.type "range") rRg1 := by
  intro pins s σ H vs us Q I r h
  obtain ⟨j, rfl, q⟩ := h
  match us, r with
  | [u], .cons ra .nil =>
    obtain ⟨t, rfl⟩ := ra
    refine call_range_1 ⟨.ref s.heap.objs.size, upd H s.heap.objs.size (.rng 0 j), I.laid (t' := s.toks + 1 + 1) (fun b o e => Heap.get?_push_of_some _ e) (Nat.le_refl _) ?_, rfl, q _ (I.hok.fresh (Nat.le_refl _))⟩
    exact ⟨s.toks, t, s.toks + 1, Heap.get?_push_size _ rfl⟩
end DBl
namespace DL
open PySem PySem.Spec PyProof.Rows L2 DSn DBl
section
variable {K : PySem.W.Frag} {Δ : Sl} {G L : List M} {Qd : Po} {t : TA} {C : Addr} {sp : DSpec} {E0' : XK}
theorem evc_lenRg1 (h : EvA K t Δ G L fun ss G1 L1 => ∃ j : Int, ss = [.d (.int j)] ∧ j < 2 ^ 62 ∧ Qd (.d (.int ((j.toNat : Nat) : Int))) G1 L1) : EvC K (tCB rLenRng (tCons (tCB rRg1 t) tNil)) Δ G L Qd := fun w ls σ H c Q r => h w ls σ H c _ fun vs ss H2 G2 L2 c2 e2 r2 ⟨j, e, hb, k⟩ => by
  subst e
  obtain ⟨v, rfl, rx⟩ := pair1 r2
  obtain rfl : v = V.int j := rx
  refine ⟨j, rfl, fun p hp => ?_⟩
  refine ⟨p, 0, j, rfl, upd_same, by omega, ?_⟩
  rw [Int.sub_zero]
  exact r.go (c2.new hp) (e2.trans (Ext.new hp)) (s := .d (.int _)) rfl k
theorem u_ix_tl {a : Addr} {i : Int} (h : ∃ xs ds, DFi.TLit K a xs ∧ DFi.litDs xs = some ds ∧ ∃ d, atI ds i = some d ∧ Qd (.d d) G L) : OpC K (rIx K) (.d (.ref a)) (.d (.int i)) Δ G L Qd := fun w ls σ H vx vy c rx ry Q q => by
  obtain ⟨xs, ds, ht, hx, d, hi, k⟩ := h
  have rx : vx = .ref a := rx
  subst rx
  have q1 := DFi.litDs_rep (K := K) (H := H) (R := Rg w ls) (gs := w.gs) (ls := ls) hx
  obtain ⟨j, e, hj⟩ := atI_some hi
  have hj2 : (ds.map S.d)[j]? = some (.d d) := by rw [List.getElem?_map, hj]; rfl
  have hjl : j < xs.length := by
    rw [DFi.litDs_len hx]
    exact (List.getElem?_eq_some_iff.mp hj).1
  obtain ⟨s, hs, r⟩ := paired_get q1 (List.getElem?_eq_getElem hjl)
  rw [hj2] at hs
  cases hs
  obtain ⟨v, hv⟩ : ∃ v, xs[j]? = some v := ⟨_, List.getElem?_eq_getElem hjl⟩
  have r : RS K H (Rg w ls) w.gs ls (.d d) v := by
    have := (List.getElem?_eq_getElem hjl).symm.trans hv
    rw [← Option.some.inj this]
    exact r
  have ha : atI xs i = some v := by
    unfold atI
    rw [DFi.litDs_len hx, e]
    exact hv
  exact .inr (.inl ⟨a, xs, i, v, rfl, ry, .inr ht, ha, q.go c Ext.refl (s := .d d) r k⟩)
theorem ap_boolO {s : S} (h : ∃ fs, obG G L s = some (C, fs) ∧ noL [s] = true ∧ sp [s] G (asV (fun x G1 L1 => ∃ i : Int, x = .d (.int i) ∧ (0 ≤ i ∧ i < 2 ^ 63) ∧ Qd (.d (.bl (i != 0))) G1 L1) L)) : ApC K (rBoolO C (spD K sp) E0') [s] Δ G L Qd := fun w ls σ H vs c rs Q q => by
  obtain ⟨fs, ho, hn, k⟩ := h
  obtain ⟨v, rfl, rv⟩ := pair1 rs
  obtain ⟨a, dx, ws, rfl, h1, rf⟩ := obG_get c rv ho
  refine ⟨a, dx, ws, rfl, h1, sp_call (Qd := fun x G1 L1 => ∃ i : Int, x = .d (.int i) ∧ (0 ≤ i ∧ i < 2 ^ 63) ∧ Qd (.d (.bl (i != 0))) G1 L1) c (.cons rv .nil) hn k fun v s2 H2 G2 L2 c2 e2 r2 ⟨i, es, hi, k2⟩ => ?_⟩
  subst es
  obtain rfl : v = V.int i := r2
  exact ⟨i, rfl, hi, q.go c2 e2 (s := .d (.bl (i != 0))) rfl k2⟩
end
end DL

open PySem L2 DL
local macro_rules | `(tactic| walk_at "side") => `(tactic| first | assumption | omega | rfl | (refine ⟨?_, ?_⟩ <;> omega) | decide)
local macro_rules | `(tactic| walk_at "d1") => `(tactic| with_reducible first
  | walk_at "own"
  | refine evc_int ?_
  | refine evc_str ?_
  | refine evc_bl ?_
  | refine evc_non ?_
  | refine evc_ref ?_
  | refine evc_ty ?_
  | refine evc_op ?_
  | refine eva_nil ?_
  | refine eva_cons ?_
  | refine evb_test ?_
  | refine evb_B ?_
  | refine evb_and ?_
  | refine evb_or ?_
  | refine evb_not ?_
  | refine evb_yes ?_
  | refine evc_if ?_
  | refine evc_andV ?_
  | refine evc_orV ?_
  | refine evc_notV ?_
  | refine evc_chain ?_
  | refine evc_cb ?_
  | refine evc_sl ?_
  | refine evo_none ?_
  | refine evo_some ?_
  | refine evc_bm ?_
  | refine evc_bm0 ?_
  | refine evc_m0 ?_
  | refine evc_m1 ?_
  | refine evc_call ?_
  | refine st_seq ?_
  | refine st_next ?_
  | refine st_break ?_
  | refine st_cont ?_
  | refine st_asg ?_
  | refine st_asgT ?_
  | refine st_if ?_
  | refine st_ret ?_
  | refine st_retN ?_
  | refine st_drop ?_
  | (refine tg_name ?hi ?_; (case hi => first | exact trivial | decide | (show _ ∈ _; decide)))
  | refine tgs_nil ?_
  | refine tgs_cons ?_
  | refine tg_sub ?_
  | refine evc_tup ?_
  | refine evi_seq ?_
  | refine evi_rng1 ?_
  | refine evi_rng2 ?_
  | (refine evn_c ?_; refine evn_lst ?_)
  | (refine evn_c ?_; refine evn_revU ?_)
  | refine evn_lst ?_
  | refine evn_revU ?_
  | refine evn_cb ?_
  | refine evn_sl ?_
  | refine evn_op ?_
  | refine u_add_i ?_
  | refine opc_I0i ?_
  | refine pow10_6 ?_
  | refine pow10_9 ?_
  | refine pow10_12 ?_
  | refine pow10_15 ?_
  | refine pow10_18 ?_
  | refine pow10_39 ?_
  | refine opc_I0b ?_
  | refine u_eq_i ?_
  | refine u_ne_i ?_
  | refine u_eq_s ?_
  | refine u_ne_s ?_
  | refine ap_int ?_
  | refine ap_intB ?_
  | refine ap_max2 ?_
  | refine ap_min2 ?_
  | refine u_isB ?_
  | refine u_notB ?_
  | refine u_eq_b ?_
  | refine u_ne_b ?_
  | refine isi_ii ?_
  | refine isi_ib ?_
  | refine isi_bb ?_
  | refine isi_bi ?_
  | refine isi_tt ?_
  | refine isi_ss ?_
  | refine st_augS ?_
  | refine opc_ip ?_
  | refine asv_v ?_
  | refine evc_neg ?_
  | refine ⟨_, rfl, ?_⟩
  | refine iteTT ?_
  | refine iteFF ?_
  | refine iteNT ?_
  | refine iteNF ?_)
local macro_rules | `(tactic| walk_at "seq") => `(tactic| first | (refine ⟨_, rfl, ?_⟩) | (refine ⟨_, lsG_g (by assumption), ?_⟩) | (refine ⟨_, lsG_l (by assumption), ?_⟩) | (refine ⟨_, seqG_g (by assumption), ?_⟩) | (refine ⟨_, seqG_l (by assumption), ?_⟩) | (refine ⟨_, hlG_g (by assumption), ?_⟩))
local macro_rules | `(tactic| walk_at "d2") => `(tactic| first
  | (with_reducible refine evc_varX ?_; refine ⟨_, rfl, ?_⟩)
  | (refine tg_tup ?hn ?_; (case hn => exact rfl); dsimp only [List.map])
  | (with_reducible refine u_mulT_i ?hc ?_; (case hc => first | exact mulL (by omega) (by omega) | exact mulR (by omega) (by omega)))
  | (with_reducible refine u_mul_i ?hc ?_; (case hc => first | exact mulL (by omega) (by omega) | exact mulR (by omega) (by omega)))
  | (with_reducible refine opc_Ii ?hc ?_; (case hc => first | omega | exact divW (by omega) (by omega)))
  | (with_reducible refine u_ix_hX ?_; walk_at "seq"; refine ⟨_, rfl, ?_⟩)
  | (with_reducible refine u_ix_gX ?_; walk_at "seq"; refine ⟨_, rfl, ?_⟩)
  | (with_reducible refine apn_c (ap_listX ?_); walk_at "seq")
  | (with_reducible refine ap_listX ?_; walk_at "seq")
  | (with_reducible refine ap_tupleX ?_; walk_at "seq")
  | (with_reducible refine ap_lenX ?_; walk_at "seq")
  | (with_reducible refine ap_lenS ?hx ?_; (case hx => walk_at "side"))
  | (with_reducible refine u_ne_nilX ?_; refine ⟨rfl, ?_⟩; walk_at "seq")
  | (with_reducible refine u_eq_nilX ?_; refine ⟨rfl, ?_⟩; walk_at "seq")
  | (with_reducible refine u_in_iX ?_; refine ⟨_, rfl, ?_⟩)
  | (with_reducible refine u_in_sX ?_; refine ⟨_, rfl, ?_⟩)
  | (with_reducible refine u_nin_iX ?_; refine ⟨_, rfl, ?_⟩)
  | (with_reducible refine u_nin_sX ?_; refine ⟨_, rfl, ?_⟩)
  | (with_reducible refine opc_orl (opc_I0i ?_))
  | (with_reducible refine opn_c (u_add_lX ?_); walk_at "seq"; walk_at "seq")
  | (with_reducible refine u_add_lX ?_; walk_at "seq"; walk_at "seq")
  | (with_reducible refine opn_c (u_mulT_lX ?_); walk_at "seq"; refine ⟨⟨by omega, by omega, le_line (Nat.le_of_ble_eq_true rfl)⟩, ?_⟩)
  | (with_reducible refine opn_c (u_mul_lX ?_); walk_at "seq"; refine ⟨⟨by omega, by omega, le_line (Nat.le_of_ble_eq_true rfl)⟩, ?_⟩)
  | (refine ⟨le_line (Nat.le_of_ble_eq_true rfl), ?_⟩)
  | (refine ⟨tyS_l rfl, ?_⟩)
  | (refine ⟨tyS_g (by assumption), ?_⟩)
  | (refine ⟨_, rfl, ?_⟩)
  | (refine ⟨_, _, rfl, rfl, ?_⟩)
  | (refine ⟨_, _, rfl, ?_⟩)
  | (refine ⟨(rfl : noL _ = true), ?_⟩))
local macro_rules | `(tactic| walk_at "d3") => `(tactic| first
  | (with_reducible refine evc_varX ?_; refine ⟨_, rfl, ?_⟩)
  | (refine tg_tup ?hn ?_; (case hn => exact rfl); dsimp only [List.map])
  | (with_reducible refine u_mulT_i ?hc ?_; (case hc => first | exact mulL (by omega) (by omega) | exact mulR (by omega) (by omega)))
  | (with_reducible refine u_mul_i ?hc ?_; (case hc => first | exact mulL (by omega) (by omega) | exact mulR (by omega) (by omega)))
  | (with_reducible refine opc_Ii ?hc ?_; (case hc => first | omega | exact divW (by omega) (by omega)))
  | (with_reducible refine apn_c (ap_listX ?_); walk_at "seq")
  | (with_reducible refine ap_listX ?_; walk_at "seq")
  | (with_reducible refine ap_tupleX ?_; walk_at "seq")
  | (with_reducible refine ap_lenX ?_; walk_at "seq")
  | (with_reducible refine ap_lenS ?hx ?_; (case hx => walk_at "side"))
  | (with_reducible refine u_ne_nilX ?_; refine ⟨rfl, ?_⟩; walk_at "seq")
  | (with_reducible refine u_eq_nilX ?_; refine ⟨rfl, ?_⟩; walk_at "seq")
  | (with_reducible refine u_in_iX ?_; refine ⟨_, rfl, ?_⟩)
  | (with_reducible refine u_in_sX ?_; refine ⟨_, rfl, ?_⟩)
  | (with_reducible refine u_nin_iX ?_; refine ⟨_, rfl, ?_⟩)
  | (with_reducible refine u_nin_sX ?_; refine ⟨_, rfl, ?_⟩)
  | (with_reducible refine opc_orl (opc_I0i ?_))
  | (with_reducible refine opn_c (u_add_lX ?_); walk_at "seq"; walk_at "seq")
  | (with_reducible refine u_add_lX ?_; walk_at "seq"; walk_at "seq")
  | (with_reducible refine opn_c (u_mulT_lX ?_); walk_at "seq"; refine ⟨⟨by omega, by omega, le_line (Nat.le_of_ble_eq_true rfl)⟩, ?_⟩)
  | (with_reducible refine opn_c (u_mul_lX ?_); walk_at "seq"; refine ⟨⟨by omega, by omega, le_line (Nat.le_of_ble_eq_true rfl)⟩, ?_⟩)
  | (refine ⟨le_line (Nat.le_of_ble_eq_true rfl), ?_⟩)
  | (refine ⟨tyS_l rfl, ?_⟩)
  | (refine ⟨tyS_g (by assumption), ?_⟩)
  | (refine ⟨_, rfl, ?_⟩)
  | (refine ⟨_, _, rfl, rfl, ?_⟩)
  | (refine ⟨_, _, rfl, ?_⟩)
  | (refine ⟨(rfl : noL _ = true), ?_⟩))
local macro_rules | `(tactic| walk_at "go1") => `(tactic| repeat (first | walk_at "d1" | walk_at "d3"))
local macro_rules | `(tactic| walk_at "go") => `(tactic| repeat (first | walk_at "d1" | walk_at "d2"))
local macro_rules | `(tactic| walk_at "f1") => `(tactic| first
  | (with_reducible refine u_add_sF ?hl ?_; (case hl => omega); intro _ _)
  | (with_reducible refine u_add_sR 0 ?hm ?hl ?_; (case hm => decide); (case hl => omega); intro _ _)
  | (with_reducible refine u_add_sR 1 ?hm ?hl ?_; (case hm => decide); (case hl => omega); intro _ _)
  | (with_reducible refine u_add_sR 2 ?hm ?hl ?_; (case hm => decide); (case hl => omega); intro _ _)
  | (with_reducible refine u_add_sR 3 ?hm ?hl ?_; (case hm => decide); (case hl => omega); intro _ _)
  | (with_reducible refine u_add_sR 4 ?hm ?hl ?_; (case hm => decide); (case hl => omega); intro _ _)
  | (with_reducible refine u_add_sR 5 ?hm ?hl ?_; (case hm => decide); (case hl => omega); intro _ _)
  | (with_reducible refine u_add_sR 6 ?hm ?hl ?_; (case hm => decide); (case hl => omega); intro _ _)
  | (with_reducible refine u_add_sR 7 ?hm ?hl ?_; (case hm => decide); (case hl => omega); intro _ _)
  | (with_reducible refine u_add_sR 8 ?hm ?hl ?_; (case hm => decide); (case hl => omega); intro _ _)
  | (with_reducible refine u_add_sLm 0 ?hm ?hl ?_; (case hm => decide); (case hl => omega); intro _ _)
  | (with_reducible refine u_add_sLm 1 ?hm ?hl ?_; (case hm => decide); (case hl => omega); intro _ _)
  | (with_reducible refine u_add_sLm 2 ?hm ?hl ?_; (case hm => decide); (case hl => omega); intro _ _)
  | (with_reducible refine u_add_sLm 3 ?hm ?hl ?_; (case hm => decide); (case hl => omega); intro _ _)
  | (with_reducible refine u_add_sLm 4 ?hm ?hl ?_; (case hm => decide); (case hl => omega); intro _ _)
  | (with_reducible refine u_add_sLm 5 ?hm ?hl ?_; (case hm => decide); (case hl => omega); intro _ _)
  | (with_reducible refine u_add_sLm 6 ?hm ?hl ?_; (case hm => decide); (case hl => omega); intro _ _)
  | (with_reducible refine u_add_sLm 7 ?hm ?hl ?_; (case hm => decide); (case hl => omega); intro _ _)
  | (with_reducible refine u_add_sLm 8 ?hm ?hl ?_; (case hm => decide); (case hl => omega); intro _ _)
  | (with_reducible refine sl_sF ?hl ?_; (case hl => omega); intro _ _)
  | (with_reducible refine mt_upperF ?hl ?_; (case hl => omega); intro _ _)
  | (with_reducible refine ap_lenSF ?hl ?_; (case hl => omega))
  | (refine ⟨⟨_, rfl⟩, ?_⟩))
local macro_rules | `(tactic| walk_at "f1") => `(tactic| first
  | (with_reducible refine u_txmul ?hm ?_; (case hm => first | (refine ⟨?_, ?_, ?_, ?_⟩ <;> decide) | (refine ⟨?_, ?_, ?_, ?_⟩ <;> omega)); intro _ _))
local macro_rules | `(tactic| walk_at "gof") => `(tactic| repeat (first | walk_at "f1" | walk_at "d1" | walk_at "d2"))

namespace Pf
open PySem L2 DL
def top (i : Nat) : Stmt := PySem.Challenge.pw_littlemasters_k05_tallies_equal_and_writ.main.body.getD i (.Pass ⟨0, 0, 0, 0⟩)
abbrev s_l_well : Stmt := top 9
theorem sc_l_well : FnScope ["_law_script", "_law_k", "_law_cell"] ["_law_script", "_law_k"] (defScope s_l_well) := ⟨rfl, rfl, rfl, by decide +kernel, rfl, by decide +kernel, by decide +kernel⟩
abbrev s_l_take : Stmt := top 10
theorem sc_l_take : FnScope ["_law_well_here", "_law_many", "_law_digit", "_law_number"] ["_law_well_here", "_law_many"] (defScope s_l_take) := ⟨rfl, rfl, rfl, by decide +kernel, rfl, by decide +kernel, by decide +kernel⟩
abbrev s_l_blades : Stmt := top 11
theorem sc_l_blades : FnScope ["_law_well_here", "_law_way", "_law_some", "_law_near"] ["_law_well_here"] (defScope s_l_blades) := ⟨rfl, rfl, rfl, by decide +kernel, rfl, by decide +kernel, by decide +kernel⟩
abbrev s_Money___init__ : Stmt := inClass (top 4) 0
theorem sc_Money___init__ : FnScope ["self", "pence"] ["self", "pence"] (defScope s_Money___init__) := ⟨rfl, rfl, rfl, by decide +kernel, rfl, by decide +kernel, by decide +kernel⟩
abbrev s_Tally___init__ : Stmt := inClass (top 7) 0
theorem sc_Tally___init__ : FnScope ["self", "blades", "dozen"] ["self", "blades", "dozen"] (defScope s_Tally___init__) := ⟨rfl, rfl, rfl, by decide +kernel, rfl, by decide +kernel, by decide +kernel⟩
abbrev s_Money___eq__ : Stmt := inClass (top 4) 1
theorem sc_Money___eq__ : FnScope ["self", "other"] ["self", "other"] (defScope s_Money___eq__) := ⟨rfl, rfl, rfl, by decide +kernel, rfl, by decide +kernel, by decide +kernel⟩
abbrev s_Tally___eq__ : Stmt := inClass (top 7) 1
theorem sc_Tally___eq__ : FnScope ["self", "other"] ["self", "other"] (defScope s_Tally___eq__) := ⟨rfl, rfl, rfl, by decide +kernel, rfl, by decide +kernel, by decide +kernel⟩
abbrev s_Tally___len__ : Stmt := inClass (top 7) 2
theorem sc_Tally___len__ : FnScope ["self"] ["self"] (defScope s_Tally___len__) := ⟨rfl, rfl, rfl, by decide +kernel, rfl, by decide +kernel, by decide +kernel⟩
abbrev s_Tally_whole : Stmt := inClass (top 7) 5
theorem sc_Tally_whole : FnScope ["self"] ["self"] (defScope s_Tally_whole) := ⟨rfl, rfl, rfl, by decide +kernel, rfl, by decide +kernel, by decide +kernel⟩
abbrev s_Tally_loose : Stmt := inClass (top 7) 6
theorem sc_Tally_loose : FnScope ["self"] ["self"] (defScope s_Tally_loose) := ⟨rfl, rfl, rfl, by decide +kernel, rfl, by decide +kernel, by decide +kernel⟩
abbrev s_Tally___str__ : Stmt := inClass (top 7) 3
theorem sc_Tally___str__ : FnScope ["self", "long"] ["self"] (defScope s_Tally___str__) := ⟨rfl, rfl, rfl, by decide +kernel, rfl, by decide +kernel, by decide +kernel⟩
abbrev s_Tally___repr__ : Stmt := inClass (top 7) 4
theorem sc_Tally___repr__ : FnScope ["self"] ["self"] (defScope s_Tally___repr__) := ⟨rfl, rfl, rfl, by decide +kernel, rfl, by decide +kernel, by decide +kernel⟩
abbrev s_l_parts : Stmt := top 12
theorem sc_l_parts : FnScope ["_law_blades_here", "_law_by", "_law_whole", "_law_step"] ["_law_blades_here", "_law_by"] (defScope s_l_parts) := ⟨rfl, rfl, rfl, by decide +kernel, rfl, by decide +kernel, by decide +kernel⟩
abbrev s_l_shown_right : Stmt := top 13
theorem sc_l_shown_right : FnScope ["_law_blades_here", "_law_by", "_law_tally", "_law_whole", "_law_over", "_law_text", "_law_found"] ["_law_blades_here", "_law_by"] (defScope s_l_shown_right) := ⟨rfl, rfl, rfl, by decide +kernel, rfl, by decide +kernel, by decide +kernel⟩
abbrev s_l_equal_right : Stmt := top 14
theorem sc_l_equal_right : FnScope ["_law_one", "_law_other", "_law_here", "_law_there", "_law_found"] ["_law_one", "_law_other"] (defScope s_l_equal_right) := ⟨rfl, rfl, rfl, by decide +kernel, rfl, by decide +kernel, by decide +kernel⟩
abbrev s_l_unlike_right : Stmt := top 15
theorem sc_l_unlike_right : FnScope ["_law_blades_here", "_law_by", "_law_tally", "_law_some", "_law_thing"] ["_law_blades_here", "_law_by"] (defScope s_l_unlike_right) := ⟨rfl, rfl, rfl, by decide +kernel, rfl, by decide +kernel, by decide +kernel⟩
abbrev s_law : Stmt := top 16
theorem sc_law : FnScope ["_law_script", "_law_k", "_law_well_here", "_law_way", "_law_dozens", "_law_one", "_law_near", "_law_other", "_law_blades_here", "_law_by"] ["_law_script"] (defScope s_law) := ⟨rfl, rfl, rfl, by decide +kernel, rfl, by decide +kernel, by decide +kernel⟩
structure TX (w : World) (K : PySem.W.Frag) (mg : Str → Option Value) where
  a_Money : Addr
  m_Money : mg "Money" = some (.ref a_Money)
  a_Tally : Addr
  m_Tally : mg "Tally" = some (.ref a_Tally)
  a_l_well : Addr
  fd_l_well : FuncData
  F_l_well : Fun K "_law_well" "_law_well" s_l_well a_l_well fd_l_well
  m_l_well : mg "_law_well" = some (.ref a_l_well)
  k_l_well : PySem.W.keepIn K (.ref a_l_well) = true
  b_l_well : Binds K fd_l_well ["_law_script", "_law_k"] []
  a_l_take : Addr
  fd_l_take : FuncData
  F_l_take : Fun K "_law_take" "_law_take" s_l_take a_l_take fd_l_take
  m_l_take : mg "_law_take" = some (.ref a_l_take)
  k_l_take : PySem.W.keepIn K (.ref a_l_take) = true
  b_l_take : Binds K fd_l_take ["_law_well_here", "_law_many"] []
  a_l_blades : Addr
  fd_l_blades : FuncData
  F_l_blades : Fun K "_law_blades" "_law_blades" s_l_blades a_l_blades fd_l_blades
  m_l_blades : mg "_law_blades" = some (.ref a_l_blades)
  k_l_blades : PySem.W.keepIn K (.ref a_l_blades) = true
  b_l_blades : Binds K fd_l_blades ["_law_well_here"] []
  a_Money___init__ : Addr
  fd_Money___init__ : FuncData
  F_Money___init__ : Fun K "__init__" "Money.__init__" s_Money___init__ a_Money___init__ fd_Money___init__
  k_Money___init__ : PySem.W.keepIn K (.ref a_Money___init__) = true
  b_Money___init__ : Binds K fd_Money___init__ ["self", "pence"] []
  a_Tally___init__ : Addr
  fd_Tally___init__ : FuncData
  F_Tally___init__ : FunDf K "__init__" "Tally.__init__" s_Tally___init__ [V.int 12] a_Tally___init__ fd_Tally___init__
  k_Tally___init__ : PySem.W.keepIn K (.ref a_Tally___init__) = true
  bd_Tally___init__ : List Value
  bv_Tally___init__ : Vals [V.int 12] bd_Tally___init__
  b_Tally___init__ : Binds K fd_Tally___init__ ["self", "blades", "dozen"] bd_Tally___init__
  bf_Tally___init__ : Binds K fd_Tally___init__ ["self", "blades", "dozen"] []
  kb_Tally___init__ : KBn K fd_Tally___init__ ["self", "blades", "dozen"] 2 ["dozen"] (fun us ws => us ++ ws) (fun vs zs => vs ++ zs)
  a_Money___eq__ : Addr
  fd_Money___eq__ : FuncData
  F_Money___eq__ : Fun K "__eq__" "Money.__eq__" s_Money___eq__ a_Money___eq__ fd_Money___eq__
  k_Money___eq__ : PySem.W.keepIn K (.ref a_Money___eq__) = true
  b_Money___eq__ : Binds K fd_Money___eq__ ["self", "other"] []
  me_Money___eq__ : Meth K a_Money "__eq__" a_Money___eq__
  a_Tally___eq__ : Addr
  fd_Tally___eq__ : FuncData
  F_Tally___eq__ : Fun K "__eq__" "Tally.__eq__" s_Tally___eq__ a_Tally___eq__ fd_Tally___eq__
  k_Tally___eq__ : PySem.W.keepIn K (.ref a_Tally___eq__) = true
  b_Tally___eq__ : Binds K fd_Tally___eq__ ["self", "other"] []
  me_Tally___eq__ : Meth K a_Tally "__eq__" a_Tally___eq__
  a_Tally___len__ : Addr
  fd_Tally___len__ : FuncData
  F_Tally___len__ : Fun K "__len__" "Tally.__len__" s_Tally___len__ a_Tally___len__ fd_Tally___len__
  k_Tally___len__ : PySem.W.keepIn K (.ref a_Tally___len__) = true
  b_Tally___len__ : Binds K fd_Tally___len__ ["self"] []
  me_Tally___len__ : Meth K a_Tally "__len__" a_Tally___len__
  a_Tally_whole : Addr
  fd_Tally_whole : FuncData
  F_Tally_whole : Fun K "whole" "Tally.whole" s_Tally_whole a_Tally_whole fd_Tally_whole
  k_Tally_whole : PySem.W.keepIn K (.ref a_Tally_whole) = true
  b_Tally_whole : Binds K fd_Tally_whole ["self"] []
  me_Tally_whole : Meth K a_Tally "whole" a_Tally_whole
  a_Tally_loose : Addr
  fd_Tally_loose : FuncData
  F_Tally_loose : Fun K "loose" "Tally.loose" s_Tally_loose a_Tally_loose fd_Tally_loose
  k_Tally_loose : PySem.W.keepIn K (.ref a_Tally_loose) = true
  b_Tally_loose : Binds K fd_Tally_loose ["self"] []
  me_Tally_loose : Meth K a_Tally "loose" a_Tally_loose
  a_Tally___str__ : Addr
  fd_Tally___str__ : FuncData
  F_Tally___str__ : Fun K "__str__" "Tally.__str__" s_Tally___str__ a_Tally___str__ fd_Tally___str__
  k_Tally___str__ : PySem.W.keepIn K (.ref a_Tally___str__) = true
  b_Tally___str__ : Binds K fd_Tally___str__ ["self"] []
  me_Tally___str__ : Meth K a_Tally "__str__" a_Tally___str__
  a_Tally___repr__ : Addr
  fd_Tally___repr__ : FuncData
  F_Tally___repr__ : Fun K "__repr__" "Tally.__repr__" s_Tally___repr__ a_Tally___repr__ fd_Tally___repr__
  k_Tally___repr__ : PySem.W.keepIn K (.ref a_Tally___repr__) = true
  b_Tally___repr__ : Binds K fd_Tally___repr__ ["self"] []
  me_Tally___repr__ : Meth K a_Tally "__repr__" a_Tally___repr__
  a_l_parts : Addr
  fd_l_parts : FuncData
  F_l_parts : Fun K "_law_parts" "_law_parts" s_l_parts a_l_parts fd_l_parts
  m_l_parts : mg "_law_parts" = some (.ref a_l_parts)
  k_l_parts : PySem.W.keepIn K (.ref a_l_parts) = true
  b_l_parts : Binds K fd_l_parts ["_law_blades_here", "_law_by"] []
  a_l_shown_right : Addr
  fd_l_shown_right : FuncData
  F_l_shown_right : Fun K "_law_shown_right" "_law_shown_right" s_l_shown_right a_l_shown_right fd_l_shown_right
  m_l_shown_right : mg "_law_shown_right" = some (.ref a_l_shown_right)
  k_l_shown_right : PySem.W.keepIn K (.ref a_l_shown_right) = true
  b_l_shown_right : Binds K fd_l_shown_right ["_law_blades_here", "_law_by"] []
  a_l_equal_right : Addr
  fd_l_equal_right : FuncData
  F_l_equal_right : Fun K "_law_equal_right" "_law_equal_right" s_l_equal_right a_l_equal_right fd_l_equal_right
  m_l_equal_right : mg "_law_equal_right" = some (.ref a_l_equal_right)
  k_l_equal_right : PySem.W.keepIn K (.ref a_l_equal_right) = true
  b_l_equal_right : Binds K fd_l_equal_right ["_law_one", "_law_other"] []
  a_l_unlike_right : Addr
  fd_l_unlike_right : FuncData
  F_l_unlike_right : Fun K "_law_unlike_right" "_law_unlike_right" s_l_unlike_right a_l_unlike_right fd_l_unlike_right
  m_l_unlike_right : mg "_law_unlike_right" = some (.ref a_l_unlike_right)
  k_l_unlike_right : PySem.W.keepIn K (.ref a_l_unlike_right) = true
  b_l_unlike_right : Binds K fd_l_unlike_right ["_law_blades_here", "_law_by"] []
  a_law : Addr
  fd_law : FuncData
  F_law : Fun K "law" "law" s_law a_law fd_law
  m_law : mg "law" = some (.ref a_law)
  k_law : PySem.W.keepIn K (.ref a_law) = true
  b_law : Binds K fd_law ["_law_script"] []
  mk_Money : Mk K a_Money a_Money___init__
  cl_Money : Cls K a_Money
  nf_Money_pence : NoAttr K a_Money "pence"
  ji_Money : DTj.JI K a_Money
  eq_Money : DEq.EqCls K a_Money a_Money___eq__
  is_Money : DEq.IsC K a_Money
  fm_Money : PySem.W.findIn K (.ref a_Money) "__format__" = some (some (.builtin "object.__format__"))
  nq_Money_Tally : PySem.W.notFirst K a_Money (.ref a_Tally) = true
  kq_Money_Tally : PySem.W.kitOne K (.ref a_Tally) (.ref a_Money) = some false
  ne_Money : PySem.W.findIn K (.ref a_Money) "__ne__" = some (some (.builtin "object.__ne__"))
  mk_Tally : Mk K a_Tally a_Tally___init__
  cl_Tally : Cls K a_Tally
  nf_Tally_blades : NoAttr K a_Tally "blades"
  nf_Tally_dozen : NoAttr K a_Tally "dozen"
  bz_Tally : PySem.W.findIn K (.ref a_Tally) "__bool__" = some none
  ji_Tally : DTj.JI K a_Tally
  eq_Tally : DEq.EqCls K a_Tally a_Tally___eq__
  is_Tally : DEq.IsC K a_Tally
  fm_Tally : PySem.W.findIn K (.ref a_Tally) "__format__" = some (some (.builtin "object.__format__"))
  nq_Tally_Money : PySem.W.notFirst K a_Tally (.ref a_Money) = true
  kq_Tally_Money : PySem.W.kitOne K (.ref a_Money) (.ref a_Tally) = some false
  ne_Tally : PySem.W.findIn K (.ref a_Tally) "__ne__" = some (some (.builtin "object.__ne__"))
  z_bool : mg "bool" = none
  z_int : mg "int" = none
  z_isinstance : mg "isinstance" = none
  z_len : mg "len" = none
  z_max : mg "max" = none
  z_min : mg "min" = none
  z_range : mg "range" = none
  z_repr : mg "repr" = none
  z_str : mg "str" = none
  a_DOZENS : Addr
  m_DOZENS : mg "DOZENS" = some (.ref a_DOZENS)
  tl_DOZENS : DFi.TLit K a_DOZENS [.int 12, .int 14]
end Pf
namespace Pf
open PySem L2 DL
/-! a well: three numbers -/
def wlM (a b c : Int) : M := .pl [.int a, .int b, .int c]
structure WlOk (a b c n : Int) : Prop where
  a0 : 0 ≤ a
  aw : Wd 1048600 a
  b0 : 0 ≤ b
  b1 : b < 1099511627776
  c0 : 0 ≤ c
  cn : c ≤ n
def Wl (G : List M) (k : Nat) (n : Int) : Prop := ∃ a b c, G[k]? = some (wlM a b c) ∧ WlOk a b c n
def WlTo (G : List M) (k : Nat) (n : Int) (G' : List M) : Prop := ∃ a b c, G' = G.set k (wlM a b c) ∧ WlOk a b c n
theorem WlOk.mono {a b c n m : Int} (h : WlOk a b c n) (l : n ≤ m) : WlOk a b c m := ⟨h.a0, h.aw, h.b0, h.b1, h.c0, Int.le_trans h.cn l⟩
theorem Wl.mono {G : List M} {k : Nat} {n m : Int} : Wl G k n → n ≤ m → Wl G k m := fun ⟨a, b, c, h, o⟩ l => ⟨a, b, c, h, o.mono l⟩
theorem WlTo.wl {G G' : List M} {k : Nat} {n m : Int} (h : Wl G k n) : WlTo G k m G' → Wl G' k m := fun ⟨a, b, c, e, o⟩ => by
  obtain ⟨_, _, _, h, _⟩ := h
  exact ⟨a, b, c, by rw [e, List.getElem?_set, if_pos rfl, if_pos (List.getElem?_eq_some_iff.mp h).1], o⟩
theorem WlTo.refl {G : List M} {k : Nat} {n : Int} : Wl G k n → WlTo G k n G := fun ⟨a, b, c, h, o⟩ => ⟨a, b, c, by
  obtain ⟨hk, e⟩ := List.getElem?_eq_some_iff.mp h
  rw [← e, List.set_getElem_self], o⟩
theorem WlTo.mono {G G' : List M} {k : Nat} {n m : Int} : WlTo G k n G' → n ≤ m → WlTo G k m G' := fun ⟨a, b, c, h, o⟩ l => ⟨a, b, c, h, o.mono l⟩
theorem WlTo.trans {G G1 G2 : List M} {k : Nat} {n m : Int} : WlTo G k n G1 → WlTo G1 k m G2 → WlTo G k m G2 := fun ⟨_, _, _, e, _⟩ ⟨a, b, c, e2, o⟩ => ⟨a, b, c, by rw [e2, e, List.set_set], o⟩
def sp_l_well : DSpec := fun ss G Q => ∃ (ns : List Int) (k : Int), ss = [.d (.scr ns), .d (.int k)] ∧ ns.length ≤ 63 ∧ (∀ z ∈ ns, Wd 1048576 z) ∧ (0 ≤ k ∧ k ≤ 63) ∧ ∀ a b : Int, WlOk a b 0 0 → Q (.new [wlM a b 0] 0) G
def sp_l_take : DSpec := fun ss G Q => ∃ (k : Nat) (m n : Int), ss = [.g k, .d (.int m)] ∧ Wl G k n ∧ n + 1 ≤ 2 ^ 32 ∧ (0 < m ∧ m ≤ 2 ^ 60) ∧ ∀ (r : Int) (G' : List M), 0 ≤ r → r < m → WlTo G k (n + 1) G' → Q (.v (.d (.int r))) G'
def WlS (G0 : List M) (k : Nat) (n : Int) (G : List M) : Prop := Wl G k n ∧ WlTo G0 k n G
theorem WlS.self {G : List M} {k : Nat} {n : Int} (h : Wl G k n) : WlS G k n G := ⟨h, WlTo.refl h⟩
theorem take_use {G0 G : List M} {k : Nat} {m n : Int} {Q : Res → List M → Prop} (h : WlS G0 k n G) (hn : n + 1 ≤ 2 ^ 32) (h0 : 0 < m) (h1 : m ≤ 2 ^ 60) (q : ∀ (r : Int) (G' : List M), 0 ≤ r → r < m → WlS G0 k (n + 1) G' → Q (.v (.d (.int r))) G') : sp_l_take [.g k, .d (.int m)] G Q :=
  ⟨k, m, n, rfl, h.1, hn, ⟨h0, h1⟩, fun r G' a b t => q r G' a b ⟨t.wl h.1, h.2.trans t⟩⟩
theorem WlS.to {G0 G : List M} {k : Nat} {n m : Int} (h : WlS G0 k n G) (l : n ≤ m) : WlTo G0 k m G := h.2.mono l
/-! texts of moneys -/
def monD (C : Addr) (p : Int) : D := .ins C [("pence", .int p)]
/-! words: their signs, and one for each -/
/-! specs -/
def sp_Money___init__ (C : Addr) : DSpec := fun ss G Q => ∃ (k : Nat) (p : Int), ss = [.g k, .d (.int p)] ∧ G[k]? = some (.ob C []) ∧ Q (.v (.d .non)) (G.set k (.ob C [("pence", .int p)]))
/-! a whole number's figures -/
abbrev dgl (n : Nat) : List Nat := (Nat.toDigits 10 n).map Char.toNat
abbrev dgS (n : Nat) : Str := Str.ofString (toString n)
theorem tl_dg (n : Nat) : TL.tl (dgS n) = dgl n := by
  unfold TL.tl dgS
  rw [Str.ofString_eq_toList, Nat.toString_eq_ofList_toDigits, String.toList_ofList]
theorem dg_len {n k : Nat} (h : n < 10 ^ k) (hk : 0 < k) : (dgS n).length ≤ k := by
  rw [TL.len_tl, tl_dg, List.length_map]
  exact (Nat.length_toDigits_le_iff (by decide) hk).mpr h
/-! a money's text -/
/-! specs of moneys -/
/-! the law's own well behind other own lists -/
def PlL (L : List M) : Prop := ∀ m ∈ L, ∃ xs, m = .pl xs
theorem PlL.pro : ∀ {L : List M}, PlL L → L.map (M.proN 0) = L
  | [], _ => rfl
  | m :: r, h => by
    obtain ⟨xs, rfl⟩ := h m List.mem_cons_self
    rw [List.map_cons, PlL.pro fun x hx => h x (List.mem_cons_of_mem _ hx)]
    rfl
theorem PlL.dem : ∀ {L : List M}, PlL L → L.map (M.demN 0) = L
  | [], _ => rfl
  | m :: r, h => by
    obtain ⟨xs, rfl⟩ := h m List.mem_cons_self
    rw [List.map_cons, PlL.dem fun x hx => h x (List.mem_cons_of_mem _ hx)]
    rfl
def WlR (R L : List M) (n : Int) : Prop := ∃ a b c, L = R ++ [wlM a b c] ∧ WlOk a b c n
theorem WlR.mono {R L : List M} {n m : Int} : WlR R L n → n ≤ m → WlR R L m := fun ⟨a, b, c, e, o⟩ l => ⟨a, b, c, e, o.mono l⟩
theorem WlR.wl {R L : List M} {n : Int} : WlR R L n → Wl L R.length n := fun ⟨a, b, c, e, o⟩ => ⟨a, b, c, by rw [e, List.getElem?_append_right (Nat.le_refl _), Nat.sub_self]; rfl, o⟩
theorem WlR.to {R L G' : List M} {n m : Int} (h : WlR R L n) : WlTo L R.length m G' → WlR R G' m := fun ⟨a, b, c, e, o⟩ => by
  obtain ⟨a', b', c', rfl, _⟩ := h
  refine ⟨a, b, c, ?_, o⟩
  rw [e, List.set_append_right _ _ (Nat.le_refl _), Nat.sub_self]
  rfl
theorem WlR.pl {R L : List M} {n : Int} (hR : PlL R) : WlR R L n → PlL L := fun ⟨a, b, c, e, _⟩ m hm => by
  rw [e] at hm
  rcases List.mem_append.mp hm with hm | hm
  · exact hR m hm
  · exact ⟨_, List.mem_singleton.mp hm⟩
section
variable {K : PySem.W.Frag} {Δ : Sl} {L : List M} {Qd : Po} {t : TA} {E0' : XK}
theorem own_takeR (R : List M) (hR : PlL R) (h : EvA K t Δ [] L fun ss G2 L2 => ∃ m n : Int, ss = [.l R.length, .d (.int m)] ∧ G2 = [] ∧ WlR R L2 n ∧ n + 1 ≤ 2 ^ 32 ∧ 0 < m ∧ m ≤ 2 ^ 60 ∧ ∀ (r : Int) (L' : List M), 0 ≤ r → r < m → WlR R L' (n + 1) → Qd (.d (.int r)) [] L') : EvC K (tCall (spD K sp_l_take) [] E0' t) Δ [] L Qd := by
  refine evc_callGL ?_
  refine fun w ls σ H c Q r => h w ls σ H c Q fun vs ss H2 G2 L2 c2 e2 r2 ⟨m, n, es, eG, hw, hn, h0, h1, q⟩ => r vs ss H2 G2 L2 c2 e2 r2 ?_
  subst es
  subst eG
  intro hok
  show sp_l_take [.g (0 + R.length), .d (.int m)] ([] ++ L2.map (M.proN 0)) _
  rw [(hw.pl hR).pro, Nat.zero_add]
  refine ⟨R.length, m, n, rfl, hw.wl, hn, ⟨h0, h1⟩, fun r G' a b t => ?_⟩
  have hw' := hw.to t
  refine ⟨[], G', rfl, rfl, ?_, ?_⟩
  · intro _ h
    cases h
  · show Qd _ [] (List.map (M.demN 0) G')
    rw [(hw'.pl hR).dem]
    exact q r G' a b hw'
theorem own_takeH {R : List M} {n : Int} (hw : WlR R L n) (hR : PlL R) (h : EvA K t Δ [] L fun ss G2 L2 => ∃ m : Int, ss = [.l R.length, .d (.int m)] ∧ G2 = [] ∧ L2 = L ∧ n + 1 ≤ 2 ^ 32 ∧ 0 < m ∧ m ≤ 2 ^ 60 ∧ ∀ (r : Int) (L' : List M), 0 ≤ r → r < m → WlR R L' (n + 1) → Qd (.d (.int r)) [] L') : EvC K (tCall (spD K sp_l_take) [] E0' t) Δ [] L Qd :=
  own_takeR R hR fun w ls σ H c Q r => h w ls σ H c Q fun vs ss H2 G2 L2 c2 e2 r2 ⟨m, es, eG, eL, hn, h0, h1, q⟩ => r vs ss H2 G2 L2 c2 e2 r2 ⟨m, n, es, eG, eL ▸ hw, hn, h0, h1, q⟩
end
/-! a halt in the walk -/
@[irreducible] def Stop (p : Prop) : Prop := p
theorem st_slots {K : PySem.W.Frag} {Δ : Sl} {G L : List M} {E : EndsD} {u : TS} (P : Sl → Prop) (h : P Δ) (k : ∀ Δ', P Δ' → StC K u Δ' G L E) : StC K u Δ G L E := k Δ h
/-! specs of k05 -/
theorem put_at {G : List M} {k : Nat} {x y : M} (h : G[k]? = some y) : (G.set k x)[k]? = some x := by
  rw [List.getElem?_set, if_pos rfl, if_pos (List.getElem?_eq_some_iff.mp h).1]
theorem put_put {G : List M} {k : Nat} {x y : M} : (G.set k x).set k y = G.set k y := List.set_set ..
theorem plNil : PlL [] := fun _ h => by cases h
def talF (n b : Int) : List (Str × D) := [("blades", .int n), ("dozen", .int b)]
def talD (C : Addr) (n b : Int) : D := .ins C (talF n b)
def showT (n b : Nat) : Str := dgS (n / b) ++ Str.ofString " " ++ (if b = 14 then Str.ofString "long " else Str.ofString "") ++ Str.ofString "dozen " ++ dgS (n % b)
def reprT (n b : Nat) : Str := Str.ofString "Tally(" ++ dgS n ++ Str.ofString ", " ++ dgS b ++ Str.ofString ")"
theorem dz_some (b : Nat) : PyData.strOk (if b = 14 then Str.ofString "long " else Str.ofString "") = true := by split <;> decide +kernel
theorem dz_len (b : Nat) : (if b = 14 then Str.ofString "long " else Str.ofString "").length ≤ 5 := by split <;> decide +kernel
theorem dgS_ok (n : Nat) : PyData.strOk (dgS n) = true := digits_ok (n : Int)
theorem dgS_len {n : Nat} (h : n ≤ 1000000) : (dgS n).length ≤ 7 := dg_len (by omega) (by decide)
theorem showT_ok (n b : Nat) : PyData.strOk (showT n b) = true :=
  DLc.app_ok (DLc.app_ok (DLc.app_ok (DLc.app_ok (dgS_ok _) (by decide +kernel)) (dz_some b)) (by decide +kernel)) (dgS_ok _)
theorem showT_len {n b : Nat} (hn : n ≤ 1000000) : (showT n b).length ≤ 30 := by
  have h1 := dgS_len (n := n / b) (Nat.le_trans (Nat.div_le_self _ _) hn)
  have h2 := dgS_len (n := n % b) (Nat.le_trans (Nat.mod_le _ _) hn)
  have h3 := dz_len b
  have l1 : (Str.ofString " ").length = 1 := by decide +kernel
  have l2 : (Str.ofString "dozen ").length = 6 := by decide +kernel
  unfold showT
  rw [Str.length_append, Str.length_append, Str.length_append, Str.length_append]
  omega
theorem law_shows {n b : Nat} (hb : b = 12 ∨ b = 14) : dgS (n / b) ++ (if b = 14 then Str.ofString " long dozen " else Str.ofString " dozen ") ++ dgS (n % b) = showT n b := by
  have e1 : TL.tl (Str.ofString " long dozen ") = TL.tl (Str.ofString " ") ++ (TL.tl (Str.ofString "long ") ++ TL.tl (Str.ofString "dozen ")) := by decide +kernel
  have e2 : TL.tl (Str.ofString " dozen ") = TL.tl (Str.ofString " ") ++ (TL.tl (Str.ofString "") ++ TL.tl (Str.ofString "dozen ")) := by decide +kernel
  refine TL.ext_tl ?_
  unfold showT
  rw [TL.tl_append, TL.tl_append, TL.tl_append, TL.tl_append, TL.tl_append, TL.tl_append]
  rcases hb with rfl | rfl
  · rw [if_neg (by decide), if_neg (by decide), e2]
    simp only [List.append_assoc]
  · rw [if_pos rfl, if_pos rfl, e1]
    simp only [List.append_assoc]
def sp_l_blades : DSpec := fun ss G Q => ∃ (k : Nat) (n : Int), ss = [.g k] ∧ Wl G k n ∧ n + 10 ≤ 2 ^ 32 ∧ ∀ (p : Int) (G' : List M), 0 ≤ p → p ≤ 1000000 → WlTo G k (n + 10) G' → Q (.v (.d (.int p))) G'
def sp_Tally___init__ (C : Addr) : DSpec := fun ss G Q => ∃ (k : Nat) (n b : Int), ss = [.g k, .d (.int n), .d (.int b)] ∧ G[k]? = some (.ob C []) ∧ Q (.v (.d .non)) (G.set k (.ob C (talF n b)))
def sp_Tally___eq__ (C CM : Addr) : DSpec := fun ss G Q => ∃ (n b : Int) (d : D), ss = [.d (talD C n b), .d d] ∧ ((∃ m e, d = talD C m e ∧ Q (.v (.d (.bl (decide (m = n ∧ e = b))))) G) ∨ (ThD d ∧ Q (.v (.d (.bl false))) G) ∨ ∃ p, d = monD CM p ∧ Q (.v (.d (.bl false))) G)
def sp_Money___eq__ (C CT : Addr) : DSpec := fun ss G Q => ∃ p n b : Int, ss = [.d (monD C p), .d (talD CT n b)] ∧ Q (.v (.d (.bl false))) G
def sp_Tally___len__ (C : Addr) : DSpec := fun ss G Q => ∃ n b : Nat, ss = [.d (talD C n b)] ∧ n ≤ 1000000 ∧ Q (.v (.d (.int n))) G
def sp_Tally_whole (C : Addr) : DSpec := fun ss G Q => ∃ n b : Nat, ss = [.d (talD C n b)] ∧ (b = 12 ∨ b = 14) ∧ Q (.v (.d (.int ((n / b : Nat) : Int)))) G
def sp_Tally_loose (C : Addr) : DSpec := fun ss G Q => ∃ n b : Nat, ss = [.d (talD C n b)] ∧ (b = 12 ∨ b = 14) ∧ Q (.v (.d (.int ((n % b : Nat) : Int)))) G
def sp_Tally___str__ (C : Addr) : DSpec := fun ss G Q => ∃ n b : Nat, ss = [.d (talD C n b)] ∧ (b = 12 ∨ b = 14) ∧ n ≤ 1000000 ∧ Q (.v (.d (.str (showT n b)))) G
def sp_Tally___repr__ (C : Addr) : DSpec := fun ss G Q => ∃ n b : Nat, ss = [.d (talD C n b)] ∧ (b = 12 ∨ b = 14) ∧ n ≤ 1000000 ∧ Q (.v (.d (.str (reprT n b)))) G
def sp_l_parts : DSpec := fun ss G Q => ∃ n b : Nat, ss = [.d (.int n), .d (.int b)] ∧ (b = 12 ∨ b = 14) ∧ n ≤ 1000000 ∧ Q (.v (.d (.tup [.int ((n / b : Nat) : Int), .int ((n % b : Nat) : Int)]))) G
def sp_l_shown_right : DSpec := fun ss G Q => ∃ n b : Nat, ss = [.d (.int n), .d (.int b)] ∧ (b = 12 ∨ b = 14) ∧ n ≤ 1000000 ∧ Q (.v (.d (.bl true))) G
def sp_l_unlike_right : DSpec := fun ss G Q => ∃ n b : Nat, ss = [.d (.int n), .d (.int b)] ∧ (b = 12 ∨ b = 14) ∧ n ≤ 1000000 ∧ Q (.v (.d (.bl true))) G
def rowT (p : Nat × Nat) : D := .tup [.int p.1, .int p.2]
def RowT (p : Nat × Nat) : Prop := p.1 ≤ 1000000 ∧ (p.2 = 12 ∨ p.2 = 14)
def sp_l_equal_right : DSpec := fun ss G Q => ∃ p r : Nat × Nat, ss = [.d (rowT p), .d (rowT r)] ∧ RowT p ∧ RowT r ∧ Q (.v (.d (.bl true))) G
abbrev sp_law : DSpec := spLawE
theorem law_in {ns : List Int} (h : ns.length ≤ 63) (hb : ∀ z ∈ ns, Builtin.Int.intBits z ≤ 1048576) : sp_law [.d (.scr ns)] [] fun r _ => r = .v (.d (.bl true)) := spLawE_in h hb
section
variable {K : PySem.W.Frag} {C CM : Addr} {G L : List M} {n b m e p : Int}
theorem it_tal : ItE K C CM (sp_Tally___eq__ C CM) (sp_Money___eq__ CM C) (talF n b) G L (talD C m e) (decide (n = m ∧ b = e)) := by
  refine .inr (.inl ⟨_, rfl, ⟨m, e, _, rfl, .inl ⟨n, b, rfl, rfl, rfl, rfl⟩⟩, fun H R ws h1 h2 => ?_⟩)
  obtain ⟨y, ys, rfl, h1, h1'⟩ := h1
  obtain ⟨z, zs, e1, h2, h2'⟩ := h2
  obtain ⟨y', ys', rfl, h1', _⟩ := h1'
  obtain ⟨z', zs', e2, h2', _⟩ := h2'
  have h1 : y = V.int n := h1
  have h2 : z = V.int m := h2
  have h1' : y' = V.int b := h1'
  have h2' : z' = V.int e := h2'
  subst h1 h2 h1' h2'
  injection e1 with e3 e4
  injection e3 with e5 e6
  injection e6 with e7
  subst e4
  injection e2 with e8 e9
  injection e8 with ea eb
  injection eb with ec
  exact decide_eq_true ⟨e7, ec⟩
theorem it_th {d : D} (t : ThD d) : ItE K C CM (sp_Tally___eq__ C CM) (sp_Money___eq__ CM C) (talF n b) G L d false := .inl ⟨t, ⟨n, b, d, rfl, .inr (.inl ⟨t, rfl, rfl, rfl⟩)⟩⟩
theorem it_mon (h : PySem.W.kitOne K (.ref CM) (.ref C) = some false) (hn : PySem.W.notFirst K CM (.ref C) = true) : ItE K C CM (sp_Tally___eq__ C CM) (sp_Money___eq__ CM C) (talF n b) G L (monD CM p) false := by
  refine .inr (.inr ⟨_, rfl, fun e => ?_, hn, ⟨p, n, b, rfl, rfl, rfl, rfl⟩⟩)
  subst e
  unfold PySem.W.kitOne at h
  rw [if_pos (beq_self_eq_true (Value.ref CM))] at h
  cases h
theorem ia_th {d : D} (t : ThD d) : ItA K C (sp_Tally___eq__ C CM) (talF n b) G L d false := ⟨.inl t, ⟨n, b, d, rfl, .inr (.inl ⟨t, rfl, rfl, rfl⟩)⟩⟩
theorem ia_mon (hn : PySem.W.notFirst K C (.ref CM) = true) : ItA K C (sp_Tally___eq__ C CM) (talF n b) G L (monD CM p) false := ⟨.inr ⟨CM, _, rfl, hn⟩, ⟨n, b, _, rfl, .inr (.inr ⟨p, rfl, rfl, rfl, rfl⟩)⟩⟩
end
section
variable {K : PySem.W.Frag} {Δ : Sl} {L : List M} {Qd : Po} {t : TA} {E0' : XK}
theorem own_bladesR (R : List M) (hR : PlL R) (h : EvA K t Δ [] L fun ss G2 L2 => ∃ n : Int, ss = [.l R.length] ∧ G2 = [] ∧ WlR R L2 n ∧ n + 10 ≤ 2 ^ 32 ∧ ∀ (p : Int) (L' : List M), 0 ≤ p → p ≤ 1000000 → WlR R L' (n + 10) → Qd (.d (.int p)) [] L') : EvC K (tCall (spD K sp_l_blades) [] E0' t) Δ [] L Qd := by
  refine evc_callGL ?_
  refine fun w ls σ H c Q r => h w ls σ H c Q fun vs ss H2 G2 L2 c2 e2 r2 ⟨n, es, eG, hw, hn, q⟩ => r vs ss H2 G2 L2 c2 e2 r2 ?_
  subst es
  subst eG
  intro hok
  show sp_l_blades [.g (0 + R.length)] ([] ++ L2.map (M.proN 0)) _
  rw [(hw.pl hR).pro, Nat.zero_add]
  refine ⟨R.length, n, rfl, hw.wl, hn, fun p G' a b t => ?_⟩
  have hw' := hw.to t
  refine ⟨[], G', rfl, rfl, ?_, ?_⟩
  · intro _ h
    cases h
  · show Qd _ [] (List.map (M.demN 0) G')
    rw [(hw'.pl hR).dem]
    exact q p G' a b hw'
theorem own_bladesH {R : List M} {n : Int} (hw : WlR R L n) (hR : PlL R) (h : EvA K t Δ [] L fun ss G2 L2 => ss = [.l R.length] ∧ G2 = [] ∧ L2 = L ∧ n + 10 ≤ 2 ^ 32 ∧ ∀ (p : Int) (L' : List M), 0 ≤ p → p ≤ 1000000 → WlR R L' (n + 10) → Qd (.d (.int p)) [] L') : EvC K (tCall (spD K sp_l_blades) [] E0' t) Δ [] L Qd :=
  own_bladesR R hR fun w ls σ H c Q r => h w ls σ H c Q fun vs ss H2 G2 L2 c2 e2 r2 ⟨es, eG, eL, hn, q⟩ => r vs ss H2 G2 L2 c2 e2 r2 ⟨n, es, eG, eL ▸ hw, hn, q⟩
end
end Pf

local macro_rules | `(tactic| walk_at "draw") => `(tactic| (refine DL.draw_useE (by assumption) (by omega) (by first | omega | (simp only [List.length_map]; omega)) (by first | omega | (simp only [List.length_map]; omega)) ?_; intro _ _ _ _ _ _ _ _ _; dsimp only [asV]))
local macro_rules | `(tactic| walk_at "god") => `(tactic| repeat (first | walk_at "f1" | walk_at "d1" | walk_at "d2" | walk_at "draw"))
local macro_rules | `(tactic| walk_at "d1") => `(tactic| with_reducible first | refine u_eq_ss ?_ | refine u_ne_ss ?_ | refine st_par ?_ | refine iteDr ?_ | refine iteNDr ?_)
local macro_rules | `(tactic| walk_at "ixb") => `(tactic| ((try simp only [List.length_set, List.length_map, List.length_cons, List.length_nil]); omega))
local macro_rules | `(tactic| walk_at "d1") => `(tactic| (with_reducible refine u_get_intX ?_; refine ⟨_, rfl, ?_⟩; refine And.intro ?hb ?_; (case hb => refine ⟨?_, ?_⟩ <;> walk_at "ixb")))
local macro_rules | `(tactic| walk_at "d1") => `(tactic| (with_reducible refine sto_intX ?_; refine ⟨_, rfl, ?_⟩; refine And.intro ?hb ?_; (case hb => refine ⟨?_, ?_⟩ <;> walk_at "ixb")))
local macro_rules | `(tactic| walk_at "ixi") => `(tactic| (with_reducible refine u_ix_intX ?_; refine ⟨_, rfl, ?_⟩; refine And.intro ?hb ?_; (case hb => refine ⟨?_, ?_⟩ <;> walk_at "ixb")))
local macro_rules | `(tactic| walk_at "d1") => `(tactic| (with_reducible refine u_eqL0e ?_; walk_at "seq"; refine ⟨rfl, ?_⟩))
local macro_rules | `(tactic| walk_at "d1") => `(tactic| (with_reducible refine u_neL0e ?_; walk_at "seq"; refine ⟨rfl, ?_⟩))
local macro_rules | `(tactic| walk_at "d1") => `(tactic| with_reducible first | refine evn_c (evn_listRg2 ?_) | refine evb_ch3 ?_ | refine isN_t ?_ | refine notN_t ?_ | refine isN_o ?_ | refine notN_o ?_ | refine u_eq_oi ?_ | refine eva_appI (is := [_]) ?_ | refine eva_appK ?_ | refine ap_intUi ?_ | refine ap_intUb ?_ | refine ap_min3 ?_)
local macro_rules | `(tactic| walk_at "gm") => `(tactic| repeat (first | walk_at "f1" | walk_at "d1" | walk_at "d2" | refine ⟨rfl, _, rfl, _, rfl, ?_⟩))
local macro_rules | `(tactic| walk_at "take") => `(tactic| (refine Pf.take_use (by assumption) (by omega) (by omega) (by omega) ?_; intro _ _ _ _ _; dsimp only [asV, asVGL]))
local macro_rules | `(tactic| walk_at "got") => `(tactic| repeat (first | walk_at "f1" | walk_at "d1" | walk_at "d2" | walk_at "take"))

namespace Pf
open PySem L2 DL
section
variable {P : Program} {w : World} {K : PySem.W.Frag} {mg : Str → Option Value} {base : Heap}
local macro_rules | `(tactic| walk_at "d1") => `(tactic| (with_reducible refine st_retO ?_))
theorem ok_l_well (T : TX w K mg) : FnOk P w K mg base CX0 1 T.a_l_well T.fd_l_well ["_law_script", "_law_k"] (spD K sp_l_well) := by
  refine okD (k := 0) T.F_l_well sc_l_well (fun ss G Qd h => ?_) (fun cdv A outer s H E ss G Qd hr h => ?_)
  · obtain ⟨ns, k, rfl, hl, hb, hk, q⟩ := h
    rfl
  · obtain ⟨ns, k, rfl, hl, hb, hk, q⟩ := h
    refine ⟨_, (pss_cons (ps_set (i := 2) sc_l_well.nd rfl (Or.inl rfl) pe_int)
      (pss_cons (ps_if (pt_cmpR op_lt (pv 1) (pe_callB (show CallR _ (.builtin "len") (uLen K) from uc_len) (by rfl) T.z_len (by decide +kernel) (pa_cons (pv 0) pa_nil)) (nomark _)) (pss_one (ps_set (i := 2) sc_l_well.nd rfl (Or.inl rfl) (pe_ix (show IxR _ (rIx K) from ix_seq) (pv 0) (pv 1) (fun _ _ => rfl)))) pss_nil)
      (pss_one (ps_ret (pe_lst (pa_cons (pe_op (show OpR _ (binaryOp .Mult) (uMulT K) from uo_mulT) (pv 2) (pe_callTy uc_int (by rfl) T.z_int (by decide +kernel) (pa_cons (pe_cmpR op_ge (pv 2) (pe_op op_pow pe_int pe_int) (nomark _)) pa_nil))) (pa_cons (pe_op (show OpR _ (binaryOp .Add) (uAdd K) from uo_add) (pe_op op_mod (pv 2) pe_int) (pe_op (show OpR _ (binaryOp .Mult) (uMulT K) from uo_mulT) pe_int (pv 1))) (pa_cons pe_int pa_nil)))))))), ?_⟩
    simp only [cxOf, Cx.nox, Cx.wish, Cx.blk, startD, List.map, List.length_cons, List.length_nil, Nat.reduceAdd, Nat.reduceSub, List.replicate, List.cons_append, List.nil_append]
    walk_at "go"
    rw [List.length_map]
    refine iteD (fun h => ?_) (fun h => ?_)
    · obtain ⟨j, rfl⟩ : ∃ j : Nat, k = (j : Int) := ⟨k.toNat, by omega⟩
      obtain ⟨z, hz⟩ : ∃ z, ns[j]? = some z := ⟨_, List.getElem?_eq_getElem (by omega)⟩
      have hzb := hb z (List.mem_of_getElem? hz)
      walk_at "go"
      refine u_ix_scr (z := z) (atI_of (j := j) hz rfl) ?_
      walk_at "go"
      refine q _ _ ⟨?_, ?_, by omega, by omega, Int.le_refl 0, Int.le_refl 0⟩
      · by_cases e : 1000000000000000000 ≤ z
        · rw [if_pos (decide_eq_true e)]
          omega
        · rw [if_neg (by rw [decide_eq_false e]; decide)]
          omega
      · by_cases e : 1000000000000000000 ≤ z
        · rw [if_pos (decide_eq_true e), Int.mul_one]
          exact hzb.mono (by decide)
        · rw [if_neg (by rw [decide_eq_false e]; decide), Int.mul_zero]
          exact Wd.of (Int.le_refl 0) (Int.pow_pos (by decide))
    · walk_at "go"
      exact q _ _ ⟨by show (0:Int) ≤ 0 * _; omega, by rw [Int.zero_mul]; exact Wd.of (Int.le_refl 0) (Int.pow_pos (by decide)), by omega, by omega, Int.le_refl 0, Int.le_refl 0⟩
end
end Pf
namespace Pf
open PySem L2 DL
section
variable {P : Program} {w : World} {K : PySem.W.Frag} {mg : Str → Option Value} {base : Heap}
theorem ok_l_take (T : TX w K mg) : FnOk P w K mg base CX0 1 T.a_l_take T.fd_l_take ["_law_well_here", "_law_many"] (spD K sp_l_take) := by
  refine okD (k := 0) T.F_l_take sc_l_take (fun ss G Qd h => ?_) (fun cdv A outer s H E ss G Qd hr h => ?_)
  · obtain ⟨k, m, n, rfl, ⟨a, b, c, hk, ho⟩, hn, ⟨hm0, hm1⟩, q⟩ := h
    rfl
  · obtain ⟨k, m, n, rfl, ⟨a, b, c, hk, ho⟩, hn, ⟨hm0, hm1⟩, q⟩ := h
    refine ⟨_, (pss_cons (ps_if (pt_cmpR op_gt (pe_ix (show IxR _ (rIx K) from ix_seq) (pv 0) pe_int (fun _ _ => rfl)) pe_int (nomark _)) (pss_cons (ps_set (i := 2) sc_l_take.nd rfl (Or.inl rfl) (pe_op op_mod (pe_ix (show IxR _ (rIx K) from ix_seq) (pv 0) pe_int (fun _ _ => rfl)) (pv 1)))
      (pss_cons (ps_asg (pe_op op_fdivW (pe_ix (show IxR _ (rIx K) from ix_seq) (pv 0) pe_int (fun _ _ => rfl)) (pv 1)) (pg_sub (pv 0) pe_int set_list))
      (pss_one (ps_ret (pv 2))))) pss_nil)
      (pss_cons (ps_asg (pe_op (show OpR _ (binaryOp .Add) (uAdd K) from uo_add) (pe_ix (show IxR _ (rIx K) from ix_seq) (pv 0) pe_int (fun _ _ => rfl)) pe_int) (pg_sub (pv 0) pe_int set_list))
      (pss_cons (ps_set (i := 3) sc_l_take.nd rfl (Or.inl rfl) (pe_op op_mod (pe_op (show OpR _ (binaryOp .Mult) (uMulT K) from uo_mulT) (pe_op (show OpR _ (binaryOp .Add) (uAdd K) from uo_add) (pe_op (show OpR _ (binaryOp .Add) (uAdd K) from uo_add) (pe_ix (show IxR _ (rIx K) from ix_seq) (pv 0) pe_int (fun _ _ => rfl)) (pe_op (show OpR _ (binaryOp .Mult) (uMulT K) from uo_mulT) pe_int (pe_ix (show IxR _ (rIx K) from ix_seq) (pv 0) pe_int (fun _ _ => rfl)))) pe_int) pe_int) pe_int))
      (pss_cons (ps_set (i := 3) sc_l_take.nd rfl (Or.inl rfl) (pe_op op_mod (pe_op (show OpR _ (binaryOp .Add) (uAdd K) from uo_add) (pe_op (show OpR _ (binaryOp .Mult) (uMulT K) from uo_mulT) (pv 3) (pv 3)) (pe_op (show OpR _ (binaryOp .Mult) (uMulT K) from uo_mulT) pe_int (pe_ix (show IxR _ (rIx K) from ix_seq) (pv 0) pe_int (fun _ _ => rfl)))) pe_int))
      (pss_cons (ps_set (i := 3) sc_l_take.nd rfl (Or.inl rfl) (pe_op (show OpR _ (binaryOp .Add) (uAdd K) from uo_add) (pe_op (show OpR _ (binaryOp .Mult) (uMulT K) from uo_mulT) (pe_op op_mod (pe_op (show OpR _ (binaryOp .Mult) (uMulT K) from uo_mulT) (pv 3) (pe_op (show OpR _ (binaryOp .Add) (uAdd K) from uo_add) (pv 3) pe_int)) pe_int) pe_int) (pv 3)))
      (pss_one (ps_ret (pe_op op_mod (pe_op op_fdivW (pe_op op_mod (pe_op (show OpR _ (binaryOp .Mult) (uMulT K) from uo_mulT) (pv 3) pe_int) pe_int) pe_int) (pv 1))))))))), ?_⟩
    simp only [cxOf, Cx.nox, Cx.wish, Cx.blk, startD, List.map, List.length_cons, List.length_nil, Nat.reduceAdd, Nat.reduceSub, List.replicate, List.cons_append, List.nil_append]
    unfold wlM at hk
    obtain ⟨a0, aw, b0, b1, c0, cn⟩ := ho
    have md : ∀ (x y : Int), 0 < y → 0 ≤ x % y ∧ x % y < y := fun x y h => ⟨Int.emod_nonneg _ (by omega), Int.emod_lt_of_pos _ h⟩
    walk_at "go"
    refine iteD (fun h => ?_) (fun h => ?_)
    · walk_at "go"
      refine sto_gp hk rfl ?_
      walk_at "go"
      exact q _ _ (md a m hm0).1 (md a m hm0).2 ⟨a / m, b, c, rfl, Int.ediv_nonneg a0 (by omega), aw.div a0 hm0, b0, b1, c0, by omega⟩
    · walk_at "go"
      refine sto_gp hk rfl ?_
      have hk1 : (G.set k (.pl [.int a, .int b, .int (c + 1)]))[k]? = some (.pl [.int a, .int b, .int (c + 1)]) := by rw [List.getElem?_set, if_pos rfl, if_pos (List.getElem?_eq_some_iff.mp hk).1]
      have q2 := fun r h0 h1 => q r (G.set k (.pl [.int a, .int b, .int (c + 1)])) h0 h1 ⟨a, b, c + 1, rfl, a0, aw, b0, b1, by omega, by omega⟩
      show StC K _ _ (G.set k (.pl [.int a, .int b, .int (c + 1)])) [] _
      generalize G.set k (.pl [.int a, .int b, .int (c + 1)]) = G1 at hk1 q2
      walk_at "go"
      exact q2 _ (md _ m hm0).1 (md _ m hm0).2
end
end Pf
namespace Pf
open PySem L2 DL
section
variable {P : Program} {w : World} {K : PySem.W.Frag} {mg : Str → Option Value} {base : Heap}
theorem ok_l_blades (T : TX w K mg) (G_l_take : FnOk P w K mg base CX0 1 T.a_l_take T.fd_l_take ["_law_well_here", "_law_many"] (spD K sp_l_take)) : FnOk P w K mg base CX0 2 T.a_l_blades T.fd_l_blades ["_law_well_here"] (spD K sp_l_blades) := by
  refine okD (k := 1) T.F_l_blades sc_l_blades (fun ss G Qd h => ?_) (fun cdv A outer s H E ss G Qd hr h => ?_)
  · obtain ⟨k, n, rfl, hw, hn, q⟩ := h
    rfl
  · obtain ⟨k, n, rfl, hw, hn, q⟩ := h
    refine ⟨_, (pss_cons (ps_set (i := 1) sc_l_blades.nd rfl (Or.inl rfl) (pe_call G_l_take (hr.mono (by decide)) rfl T.m_l_take T.k_l_take T.b_l_take .nil pass0 (pa_cons (pv 0) (pa_cons pe_int pa_nil))))
      (pss_cons (ps_set (i := 2) sc_l_blades.nd rfl (Or.inl rfl) (pe_call G_l_take (hr.mono (by decide)) rfl T.m_l_take T.k_l_take T.b_l_take .nil pass0 (pa_cons (pv 0) (pa_cons pe_int pa_nil))))
      (pss_cons (ps_set (i := 3) sc_l_blades.nd rfl (Or.inl rfl) (pe_op op_sub (pe_call G_l_take (hr.mono (by decide)) rfl T.m_l_take T.k_l_take T.b_l_take .nil pass0 (pa_cons (pv 0) (pa_cons pe_int pa_nil))) pe_int))
      (pss_one (ps_ret (pe_ix (show IxR _ (rIx K) from ix_seq) (pe_lst (pa_cons pe_int (pa_cons (pe_op op_mod (pv 2) pe_int) (pa_cons (pe_callB (uc_max2 rfl) (by rfl) T.z_max (by decide +kernel) (pa_cons pe_int (pa_cons (pe_op (show OpR _ (binaryOp .Add) (uAdd K) from uo_add) (pe_op (show OpR _ (binaryOp .Mult) (uMulT K) from uo_mulT) pe_int (pv 2)) (pv 3)) pa_nil))) (pa_cons (pe_callB (uc_max2 rfl) (by rfl) T.z_max (by decide +kernel) (pa_cons pe_int (pa_cons (pe_op (show OpR _ (binaryOp .Add) (uAdd K) from uo_add) (pe_op (show OpR _ (binaryOp .Mult) (uMulT K) from uo_mulT) pe_int (pv 2)) (pv 3)) pa_nil))) (pa_cons (pe_op op_sub (pe_op op_pow pe_int pe_int) (pv 2)) (pa_cons (pe_op (show OpR _ (binaryOp .Mult) (uMulT K) from uo_mulT) (pv 2) (pv 2)) pa_nil))))))) (pv 1) (fun _ _ => rfl))))))), ?_⟩
    simp only [cxOf, Cx.nox, Cx.wish, Cx.blk, startD, List.map, List.length_cons, List.length_nil, Nat.reduceAdd, Nat.reduceSub, List.replicate, List.cons_append, List.nil_append]
    have hw := WlS.self hw
    walk_at "got"
    rename_i r1 G1 a1 b1 c1 r2 G2 a2 b2 c2 r3 G3 a3 b3 hw3
    have e1 : r1 = 0 ∨ r1 = 1 ∨ r1 = 2 ∨ r1 = 3 ∨ r1 = 4 ∨ r1 = 5 := by omega
    clear hw c1 c2
    have hsq : 0 ≤ r2 * r2 ∧ r2 * r2 ≤ 999 * 999 := ⟨Int.mul_nonneg a2 a2, Int.mul_le_mul (by omega) (by omega) a2 (by omega)⟩
    rcases e1 with rfl | rfl | rfl | rfl | rfl | rfl
    all_goals
      walk_at "got"
      refine q _ _ ?_ ?_ (WlS.to (by assumption) (by omega))
      all_goals first | omega | (split <;> omega)
end
end Pf
namespace Pf
open PySem L2 DL
section
variable {P : Program} {w : World} {K : PySem.W.Frag} {mg : Str → Option Value} {base : Heap}
theorem ok_Money___init__ (T : TX w K mg) : FnOk P w K mg base CX0 1 T.a_Money___init__ T.fd_Money___init__ ["self", "pence"] (spD K (sp_Money___init__ T.a_Money)) := by
  refine okD (k := 0) T.F_Money___init__ sc_Money___init__ (fun ss G Qd h => ?_) (fun cdv A outer s H E ss G Qd hr h => ?_)
  · obtain ⟨k, p, rfl, hk, q⟩ := h
    rfl
  · obtain ⟨k, p, rfl, hk, q⟩ := h
    refine ⟨_, (pss_one (ps_fld (pv 0) (pv 1) rfl)), ?_⟩
    simp only [cxOf, Cx.nox, Cx.wish, Cx.blk, startD, List.map, List.length_cons, List.length_nil, Nat.reduceAdd, Nat.reduceSub, List.replicate, List.cons_append, List.nil_append]
    walk_at "go"
    refine st_fldG ?_
    walk_at "go"
    refine ⟨k, _, _, rfl, hk, ⟨T.cl_Money, T.nf_Money_pence⟩, by decide, ?_⟩
    exact q
end
end Pf
namespace Pf
open PySem L2 DL
section
variable {P : Program} {w : World} {K : PySem.W.Frag} {mg : Str → Option Value} {base : Heap}
theorem ok_Tally___init__ (T : TX w K mg) : FnOk P w K mg base CX0 1 T.a_Tally___init__ T.fd_Tally___init__ ["self", "blades", "dozen"] (spD K (sp_Tally___init__ T.a_Tally)) := by
  refine okDD (k := 0) T.F_Tally___init__ sc_Tally___init__ (fun ss G Qd h => ?_) (fun cdv A outer s H E ss G Qd hr h => ?_)
  · obtain ⟨k, n, b, rfl, hk, q⟩ := h
    rfl
  · obtain ⟨k, n, b, rfl, hk, q⟩ := h
    refine ⟨_, (pss_cons (ps_fld (pv 0) (pv 1) rfl)
      (pss_one (ps_fld (pv 0) (pv 2) rfl))), ?_⟩
    simp only [cxOf, Cx.nox, Cx.wish, Cx.blk, startD, List.map, List.length_cons, List.length_nil, Nat.reduceAdd, Nat.reduceSub, List.replicate, List.cons_append, List.nil_append]
    walk_at "go"
    refine st_fldG ?_
    walk_at "go"
    refine ⟨k, _, _, rfl, hk, ⟨T.cl_Tally, T.nf_Tally_blades⟩, by decide, ?_⟩
    have h1 := put_at (x := .ob T.a_Tally (putFD "blades" (.int n) [])) hk
    walk_at "go"
    refine st_fldG ?_
    walk_at "go"
    refine ⟨k, _, _, rfl, h1, ⟨T.cl_Tally, T.nf_Tally_dozen⟩, by show 1 < 1000; decide, ?_⟩
    rw [put_put]
    exact q
end
end Pf
namespace Pf
open PySem L2 DL
section
variable {P : Program} {w : World} {K : PySem.W.Frag} {mg : Str → Option Value} {base : Heap}
theorem ok_Money___eq__ (T : TX w K mg) : FnOk P w K mg base CX0 1 T.a_Money___eq__ T.fd_Money___eq__ ["self", "other"] (spD K (sp_Money___eq__ T.a_Money T.a_Tally)) := by
  refine okD (k := 0) T.F_Money___eq__ sc_Money___eq__ (fun ss G Qd h => ?_) (fun cdv A outer s H E ss G Qd hr h => ?_)
  · obtain ⟨p, n, b, rfl, q⟩ := h
    rfl
  · obtain ⟨p, n, b, rfl, q⟩ := h
    refine ⟨_, (pss_one (ps_ret (pe_and (pe_callB (show CallR _ (.builtin "isinstance") (rIsi K) from call_isi) (by rfl) T.z_isinstance (by decide +kernel) (pa_cons (pv 1) (pa_cons (pe_glob (v := .ref T.a_Money) (by rfl) T.m_Money rfl) pa_nil))) (pe_one (pe_cmpR (show OpR _ (compareOp .Eq) (uEq K) from (uo_eq hr.units)) (pe_fld (pv 1) rfl) (pe_fld (pv 0) rfl) (nomark _)))))), ?_⟩
    simp only [cxOf, Cx.nox, Cx.wish, Cx.blk, startD, List.map, List.length_cons, List.length_nil, Nat.reduceAdd, Nat.reduceSub, List.replicate, List.cons_append, List.nil_append]
    walk_at "go"
    refine ap_isiO2 ⟨T.cl_Tally, T.ji_Tally⟩ T.kq_Money_Tally ?_
    walk_at "go"
    exact q
end
end Pf
namespace Pf
open PySem L2 DL
section
variable {P : Program} {w : World} {K : PySem.W.Frag} {mg : Str → Option Value} {base : Heap}
local macro_rules | `(tactic| walk_at "d1") => `(tactic| (with_reducible refine evc_fld ?_))
theorem ok_Tally___eq__ (T : TX w K mg) : FnOk P w K mg base CX0 1 T.a_Tally___eq__ T.fd_Tally___eq__ ["self", "other"] (spD K (sp_Tally___eq__ T.a_Tally T.a_Money)) := by
  refine okD (k := 0) T.F_Tally___eq__ sc_Tally___eq__ (fun ss G Qd h => ?_) (fun cdv A outer s H E ss G Qd hr h => ?_)
  · obtain ⟨n, b, d, rfl, h⟩ := h
    rfl
  · obtain ⟨n, b, d, rfl, h⟩ := h
    refine ⟨_, (pss_cons (ps_if (pt_not (pt_val (pe_callB (show CallR _ (.builtin "isinstance") (rIsi K) from call_isi) (by rfl) T.z_isinstance (by decide +kernel) (pa_cons (pv 1) (pa_cons (pe_glob (v := .ref T.a_Tally) (by rfl) T.m_Tally rfl) pa_nil))))) (pss_one (ps_ret pe_bl)) pss_nil)
      (pss_one (ps_ret (pe_and (pe_cmpR (show OpR _ (compareOp .Eq) (uEq K) from (uo_eq hr.units)) (pe_fld (pv 1) rfl) (pe_fld (pv 0) rfl) (nomark _)) (pe_one (pe_cmpR (show OpR _ (compareOp .Eq) (uEq K) from (uo_eq hr.units)) (pe_fld (pv 1) rfl) (pe_fld (pv 0) rfl) (nomark _))))))), ?_⟩
    simp only [cxOf, Cx.nox, Cx.wish, Cx.blk, startD, List.map, List.length_cons, List.length_nil, Nat.reduceAdd, Nat.reduceSub, List.replicate, List.cons_append, List.nil_append]
    rcases h with ⟨m, e, rfl, q⟩ | ⟨t, q⟩ | ⟨p, rfl, q⟩
    · walk_at "go"
      refine ap_isiO ⟨T.cl_Tally, T.ji_Tally⟩ ?_
      walk_at "go"
      refine ⟨_, _, _, rfl, ⟨T.cl_Tally, T.nf_Tally_blades⟩, rfl, ?_⟩
      walk_at "go"
      refine ⟨_, _, _, rfl, ⟨T.cl_Tally, T.nf_Tally_blades⟩, rfl, ?_⟩
      walk_at "go"
      refine iteD (fun h => ?_) (fun h => ?_)
      · walk_at "go"
        refine ⟨_, _, _, rfl, ⟨T.cl_Tally, T.nf_Tally_dozen⟩, rfl, ?_⟩
        walk_at "go"
        refine ⟨_, _, _, rfl, ⟨T.cl_Tally, T.nf_Tally_dozen⟩, rfl, ?_⟩
        walk_at "go"
        rw [show decide (m = n ∧ e = b) = decide (e = b) from decide_eq_decide.mpr ⟨fun x => x.2, fun x => ⟨h, x⟩⟩] at q
        exact q
      · rw [decide_eq_false fun x => h x.1] at q
        exact q
    · walk_at "go"
      refine ap_isiN t T.is_Tally ?_
      walk_at "go"
      exact q
    · walk_at "go"
      refine ap_isiO2 ⟨T.cl_Money, T.ji_Money⟩ T.kq_Tally_Money ?_
      walk_at "go"
      exact q
end
end Pf
namespace Pf
open PySem L2 DL
section
variable {P : Program} {w : World} {K : PySem.W.Frag} {mg : Str → Option Value} {base : Heap}
local macro_rules | `(tactic| walk_at "d1") => `(tactic| (with_reducible refine evc_lenRg1 ?_))
local macro_rules | `(tactic| walk_at "d1") => `(tactic| (with_reducible refine evc_fld ?_))
theorem ok_Tally___len__ (T : TX w K mg) : FnOk P w K mg base CX0 1 T.a_Tally___len__ T.fd_Tally___len__ ["self"] (spD K (sp_Tally___len__ T.a_Tally)) := by
  refine okD (k := 0) T.F_Tally___len__ sc_Tally___len__ (fun ss G Qd h => ?_) (fun cdv A outer s H E ss G Qd hr h => ?_)
  · obtain ⟨n, b, rfl, hn, q⟩ := h
    rfl
  · obtain ⟨n, b, rfl, hn, q⟩ := h
    refine ⟨_, (pss_one (ps_ret (pe_callB (show CallR _ (.builtin "len") DSn.rLenRng from DSn.cr_lenRng) (by rfl) T.z_len (by decide +kernel) (pa_cons (pe_callTy (show CallR _ (.type "range") DBl.rRg1 from DBl.cr_rg1) (by rfl) T.z_range (by decide +kernel) (pa_cons (pe_fld (pv 0) rfl) pa_nil)) pa_nil)))), ?_⟩
    simp only [cxOf, Cx.nox, Cx.wish, Cx.blk, startD, List.map, List.length_cons, List.length_nil, Nat.reduceAdd, Nat.reduceSub, List.replicate, List.cons_append, List.nil_append]
    walk_at "go"
    refine ⟨_, _, _, rfl, ⟨T.cl_Tally, T.nf_Tally_blades⟩, rfl, ?_⟩
    walk_at "go"
    refine ⟨by omega, ?_⟩
    rw [Int.toNat_natCast]
    exact q
end
end Pf
namespace Pf
open PySem L2 DL
section
variable {P : Program} {w : World} {K : PySem.W.Frag} {mg : Str → Option Value} {base : Heap}
local macro_rules | `(tactic| walk_at "d1") => `(tactic| (with_reducible refine evc_fld ?_))
theorem ok_Tally_whole (T : TX w K mg) : FnOk P w K mg base CX0 1 T.a_Tally_whole T.fd_Tally_whole ["self"] (spD K (sp_Tally_whole T.a_Tally)) := by
  refine okD (k := 0) T.F_Tally_whole sc_Tally_whole (fun ss G Qd h => ?_) (fun cdv A outer s H E ss G Qd hr h => ?_)
  · obtain ⟨n, b, rfl, hb, q⟩ := h
    rfl
  · obtain ⟨n, b, rfl, hb, q⟩ := h
    refine ⟨_, (pss_one (ps_ret (pe_op op_fdivW (pe_fld (pv 0) rfl) (pe_fld (pv 0) rfl)))), ?_⟩
    simp only [cxOf, Cx.nox, Cx.wish, Cx.blk, startD, List.map, List.length_cons, List.length_nil, Nat.reduceAdd, Nat.reduceSub, List.replicate, List.cons_append, List.nil_append]
    walk_at "go"
    refine ⟨_, _, _, rfl, ⟨T.cl_Tally, T.nf_Tally_blades⟩, rfl, ?_⟩
    walk_at "go"
    refine ⟨_, _, _, rfl, ⟨T.cl_Tally, T.nf_Tally_dozen⟩, rfl, ?_⟩
    walk_at "go"
    rw [Int.natCast_ediv] at q
    exact q
end
end Pf
namespace Pf
open PySem L2 DL
section
variable {P : Program} {w : World} {K : PySem.W.Frag} {mg : Str → Option Value} {base : Heap}
local macro_rules | `(tactic| walk_at "d1") => `(tactic| (with_reducible refine evc_fld ?_))
theorem ok_Tally_loose (T : TX w K mg) : FnOk P w K mg base CX0 1 T.a_Tally_loose T.fd_Tally_loose ["self"] (spD K (sp_Tally_loose T.a_Tally)) := by
  refine okD (k := 0) T.F_Tally_loose sc_Tally_loose (fun ss G Qd h => ?_) (fun cdv A outer s H E ss G Qd hr h => ?_)
  · obtain ⟨n, b, rfl, hb, q⟩ := h
    rfl
  · obtain ⟨n, b, rfl, hb, q⟩ := h
    refine ⟨_, (pss_one (ps_ret (pe_op op_mod (pe_fld (pv 0) rfl) (pe_fld (pv 0) rfl)))), ?_⟩
    simp only [cxOf, Cx.nox, Cx.wish, Cx.blk, startD, List.map, List.length_cons, List.length_nil, Nat.reduceAdd, Nat.reduceSub, List.replicate, List.cons_append, List.nil_append]
    walk_at "go"
    refine ⟨_, _, _, rfl, ⟨T.cl_Tally, T.nf_Tally_blades⟩, rfl, ?_⟩
    walk_at "go"
    refine ⟨_, _, _, rfl, ⟨T.cl_Tally, T.nf_Tally_dozen⟩, rfl, ?_⟩
    walk_at "go"
    rw [Int.natCast_emod] at q
    exact q
end
end Pf
namespace Pf
open PySem L2 DL
section
variable {P : Program} {w : World} {K : PySem.W.Frag} {mg : Str → Option Value} {base : Heap}
local macro_rules | `(tactic| walk_at "d1") => `(tactic| (with_reducible refine evc_fld ?_))
local macro_rules | `(tactic| walk_at "d1") => `(tactic| (with_reducible refine evc_meth ?_))
local macro_rules | `(tactic| walk_at "d1") => `(tactic| (with_reducible refine u_ix_tl ?_))
theorem ok_Tally___str__ (T : TX w K mg) (G_Tally_whole : FnOk P w K mg base CX0 1 T.a_Tally_whole T.fd_Tally_whole ["self"] (spD K (sp_Tally_whole T.a_Tally))) (G_Tally_loose : FnOk P w K mg base CX0 1 T.a_Tally_loose T.fd_Tally_loose ["self"] (spD K (sp_Tally_loose T.a_Tally))) : FnOk P w K mg base CX0 2 T.a_Tally___str__ T.fd_Tally___str__ ["self"] (spD K (sp_Tally___str__ T.a_Tally)) := by
  refine okD (k := 1) T.F_Tally___str__ sc_Tally___str__ (fun ss G Qd h => ?_) (fun cdv A outer s H E ss G Qd hr h => ?_)
  · obtain ⟨n, b, rfl, hb, hn, q⟩ := h
    rfl
  · obtain ⟨n, b, rfl, hb, hn, q⟩ := h
    refine ⟨_, (pss_cons (ps_set (i := 1) sc_Tally___str__.nd rfl (Or.inl rfl) (pe_ifExp (pt_cmpR (show OpR _ (compareOp .Eq) (uEq K) from (uo_eq hr.units)) (pe_fld (pv 0) rfl) (pe_ix (show IxR _ (rIx K) from ix_seq) (pe_glob (v := .ref T.a_DOZENS) (by rfl) T.m_DOZENS rfl) pe_int (fun _ _ => rfl)) (nomark _)) pe_str pe_str))
      (pss_one (ps_ret (pe_joined (.cons (pe_fmt (pe_meth0 (pv 0) T.cl_Tally T.me_Tally_whole G_Tally_whole (hr.mono (by decide)) T.b_Tally_whole .nil pass0)) (.cons pe_str (.cons (pe_fmt (pv 1)) (.cons pe_str (.cons (pe_fmt (pe_meth0 (pv 0) T.cl_Tally T.me_Tally_loose G_Tally_loose (hr.mono (by decide)) T.b_Tally_loose .nil pass0)) .nil))))))))), ?_⟩
    simp only [cxOf, Cx.nox, Cx.wish, Cx.blk, startD, List.map, List.length_cons, List.length_nil, Nat.reduceAdd, Nat.reduceSub, List.replicate, List.cons_append, List.nil_append]
    have l1 : (Str.ofString " ").length = 1 := by decide +kernel
    have l2 : (Str.ofString "dozen ").length = 6 := by decide +kernel
    have h1 := dgS_len (n := n / b) (Nat.le_trans (Nat.div_le_self _ _) hn)
    have h2 := dgS_len (n := n % b) (Nat.le_trans (Nat.mod_le _ _) hn)
    have h3 := dz_len b
    have hN : ∀ m : Nat, m ≤ n → (m : Int).natAbs.log2 < 1920 := fun m h => log_lt (by rw [Int.natAbs_natCast]; omega)
    walk_at "go"
    refine ⟨_, _, _, rfl, ⟨T.cl_Tally, T.nf_Tally_dozen⟩, rfl, ?_⟩
    walk_at "go"
    refine ⟨_, _, T.tl_DOZENS, rfl, .int 14, rfl, ?_⟩
    walk_at "go"
    have fin : ∀ (z : Str), z = (if b = 14 then Str.ofString "long " else Str.ofString "") → EvC K (fun σ H Q => tJs [tFmt (tMeth T.a_Tally (Str.ofString "whole") (spD K (sp_Tally_whole T.a_Tally)) [] E0 (tVar 0) tNil), tC (V.str (Str.ofString " ")), tFmt (tVar 1), tC (V.str (Str.ofString "dozen ")), tFmt (tMeth T.a_Tally (Str.ofString "loose") (spD K (sp_Tally_loose T.a_Tally)) [] E0 (tVar 0) tNil)] Str.empty σ H fun out H1 => Q (V.str out) H1) [some (.d (talD T.a_Tally n b)), some (.d (.str z))] G [] (fun s G1 L1 => (endsD Qd).rt s G1 L1) := fun z hz => by
      subst hz
      walk_at "go"
      refine evc_joined (evj_cons (evc_fmtI ?_))
      walk_at "go"
      refine ⟨rfl, ?_⟩
      walk_at "go"
      first | refine ⟨n, b, rfl, hb, ?_⟩ | refine ⟨hb, ?_⟩
      dsimp only [asV]
      refine ⟨_, rfl, hN _ (Nat.div_le_self _ _), _, rfl, le_line (by rw [empty_app]; show (dgS (n / b)).length ≤ _; omega), ?_⟩
      rw [empty_app]
      refine evj_cons ?_
      walk_at "go"
      refine ⟨le_line (by rw [Str.length_append]; show (dgS (n / b)).length + _ ≤ _; omega), ?_⟩
      refine evj_cons (evc_fmtS ?_)
      walk_at "go"
      refine ⟨le_line (by omega), _, rfl, le_line (by rw [Str.length_append, Str.length_append]; show (dgS (n / b)).length + _ + _ ≤ _; omega), ?_⟩
      refine evj_cons ?_
      walk_at "go"
      refine ⟨le_line (by rw [Str.length_append, Str.length_append, Str.length_append]; show (dgS (n / b)).length + _ + _ + _ ≤ _; omega), ?_⟩
      refine evj_cons (evc_fmtI ?_)
      walk_at "go"
      refine ⟨rfl, ?_⟩
      walk_at "go"
      first | refine ⟨n, b, rfl, hb, ?_⟩ | refine ⟨hb, ?_⟩
      dsimp only [asV]
      refine ⟨_, rfl, hN _ (Nat.mod_le _ _), _, rfl, le_line (by rw [Str.length_append, Str.length_append, Str.length_append, Str.length_append]; show (dgS (n / b)).length + _ + _ + _ + (dgS (n % b)).length ≤ _; omega), ?_⟩
      exact q
    refine iteD (fun h => ?_) (fun h => ?_)
    · walk_at "go"
      exact fin _ (if_pos (by omega)).symm
    · walk_at "go"
      exact fin _ (if_neg (by omega)).symm
end
end Pf
namespace Pf
open PySem L2 DL
section
variable {P : Program} {w : World} {K : PySem.W.Frag} {mg : Str → Option Value} {base : Heap}
local macro_rules | `(tactic| walk_at "d1") => `(tactic| (with_reducible refine evc_fld ?_))
theorem ok_Tally___repr__ (T : TX w K mg) : FnOk P w K mg base CX0 1 T.a_Tally___repr__ T.fd_Tally___repr__ ["self"] (spD K (sp_Tally___repr__ T.a_Tally)) := by
  refine okD (k := 0) T.F_Tally___repr__ sc_Tally___repr__ (fun ss G Qd h => ?_) (fun cdv A outer s H E ss G Qd hr h => ?_)
  · obtain ⟨n, b, rfl, hb, hn, q⟩ := h
    rfl
  · obtain ⟨n, b, rfl, hb, hn, q⟩ := h
    refine ⟨_, (pss_one (ps_ret (pe_joined (.cons pe_str (.cons (pe_fmt (pe_fld (pv 0) rfl)) (.cons pe_str (.cons (pe_fmt (pe_fld (pv 0) rfl)) (.cons pe_str .nil)))))))), ?_⟩
    simp only [cxOf, Cx.nox, Cx.wish, Cx.blk, startD, List.map, List.length_cons, List.length_nil, Nat.reduceAdd, Nat.reduceSub, List.replicate, List.cons_append, List.nil_append]
    have h1 := dgS_len hn
    have h2 := dgS_len (n := b) (by omega)
    have l1 : (Str.ofString "Tally(").length = 6 := by decide +kernel
    have l2 : (Str.ofString ", ").length = 2 := by decide +kernel
    have l3 : (Str.ofString ")").length = 1 := by decide +kernel
    walk_at "go"
    refine evc_joined (evj_cons ?_)
    walk_at "go"
    refine evj_cons (evc_fmtI ?_)
    walk_at "go"
    refine ⟨_, _, _, rfl, ⟨T.cl_Tally, T.nf_Tally_blades⟩, rfl, ?_⟩
    refine ⟨_, rfl, log_lt (by omega), ?_⟩
    rw [empty_app]
    refine ⟨_, rfl, le_line (by rw [Str.length_append]; show _ + (dgS n).length ≤ _; omega), ?_⟩
    refine evj_cons ?_
    walk_at "go"
    refine ⟨le_line (by rw [Str.length_append, Str.length_append]; show _ + (dgS n).length + _ ≤ _; omega), ?_⟩
    refine evj_cons (evc_fmtI ?_)
    walk_at "go"
    refine ⟨_, _, _, rfl, ⟨T.cl_Tally, T.nf_Tally_dozen⟩, rfl, ?_⟩
    refine ⟨_, rfl, log_lt (by omega), _, rfl, le_line (by rw [Str.length_append, Str.length_append, Str.length_append]; show _ + (dgS n).length + _ + (dgS b).length ≤ _; omega), ?_⟩
    refine evj_cons ?_
    walk_at "go"
    refine ⟨le_line (by rw [Str.length_append, Str.length_append, Str.length_append, Str.length_append]; show _ + (dgS n).length + _ + (dgS b).length + _ ≤ _; omega), ?_⟩
    exact q
end
end Pf
namespace Pf
open PySem L2 DL
section
variable {P : Program} {w : World} {K : PySem.W.Frag} {mg : Str → Option Value} {base : Heap}
theorem ok_l_parts (T : TX w K mg) : FnOk P w K mg base CX0 1 T.a_l_parts T.fd_l_parts ["_law_blades_here", "_law_by"] (spD K sp_l_parts) := by
  refine okD (k := 0) T.F_l_parts sc_l_parts (fun ss G Qd h => ?_) (fun cdv A outer s H E ss G Qd hr h => ?_)
  · obtain ⟨n, b, rfl, hb, hn, q⟩ := h
    rfl
  · obtain ⟨n, b, rfl, hb, hn, q⟩ := h
    refine ⟨_, (pss_cons (ps_set (i := 2) sc_l_parts.nd rfl (Or.inl rfl) pe_int)
      (pss_cons (ps_set (i := 3) sc_l_parts.nd rfl (Or.inl rfl) (pe_op op_pow pe_int pe_int))
      (pss_cons (ps_while PassesOwn.never (pt_cmpR op_gt (pv 3) pe_int (nomark _)) (pss_cons (ps_if (pt_cmpR op_le (pe_op (show OpR _ (binaryOp .Mult) (uMulT K) from uo_mulT) (pe_op (show OpR _ (binaryOp .Add) (uAdd K) from uo_add) (pv 2) (pv 3)) (pv 1)) (pv 0) (nomark _)) (pss_one (ps_set (i := 2) sc_l_parts.nd rfl (Or.inl rfl) (pe_op (show OpR _ (binaryOp .Add) (uAdd K) from uo_add) (pv 2) (pv 3)))) pss_nil)
      (pss_one (ps_set (i := 3) sc_l_parts.nd rfl (Or.inl rfl) (pe_op op_fdivW (pv 3) pe_int)))))
      (pss_one (ps_ret (pe_tup (pa_cons (pv 2) (pa_cons (pe_op op_sub (pv 0) (pe_op (show OpR _ (binaryOp .Mult) (uMulT K) from uo_mulT) (pv 2) (pv 1))) pa_nil)))))))), ?_⟩
    simp only [cxOf, Cx.nox, Cx.wish, Cx.blk, startD, List.map, List.length_cons, List.length_nil, Nat.reduceAdd, Nat.reduceSub, List.replicate, List.cons_append, List.nil_append]
    have hb0 : 0 < b := by omega
    have hq : n / b ≤ 1000000 := Nat.le_trans (Nat.div_le_self _ _) hn
    walk_at "go"
    refine opc_powL 2 20 20 rfl (by decide) (by decide) (z := 1048576) (by decide +kernel) ?_
    walk_at "go"
    refine st_while (fun f Δ' G' L' => G' = G ∧ L' = [] ∧ ∃ w : Nat, ((∃ k : Nat, k ≤ 20 ∧ f = k + 1 ∧ w ≤ n / b ∧ n / b < w + 2 ^ (k + 1) ∧ Δ' = [some (.d (.int (n : Int))), some (.d (.int (b : Int))), some (.d (.int (w : Int))), some (.d (.int ((2 ^ k : Nat) : Int)))]) ∨ (f = 0 ∧ w = n / b ∧ Δ' = [some (.d (.int (n : Int))), some (.d (.int (b : Int))), some (.d (.int (w : Int))), some (.d (.int 0))]))) 21 ⟨rfl, rfl, 0, .inl ⟨20, Nat.le_refl _, rfl, Nat.zero_le _, by omega, rfl⟩⟩ ?_
    rintro f Δ' G' L' ⟨rfl, rfl, w, ⟨k, hk, rfl, hw, hw2, rfl⟩ | ⟨rfl, rfl, rfl⟩⟩
    · have hp : 0 < 2 ^ k := Nat.pow_pos (by decide)
      have hs : (2 ^ (k + 1) : Nat) = 2 * 2 ^ k := by rw [Nat.pow_succ]; exact Nat.mul_comm _ _
      have key : (((w : Int) + ((2 ^ k : Nat) : Int)) * (b : Int) ≤ (n : Int)) ↔ w + 2 ^ k ≤ n / b := by
        rw [Nat.le_div_iff_mul_le hb0]
        exact_mod_cast Iff.rfl
      have hz : k = 0 → (2 ^ k : Nat) = 1 := fun h => by rw [h]
      have hk1 : k ≠ 0 → (2 ^ k : Nat) = 2 * 2 ^ (k - 1) := fun h => by
        have : k = (k - 1) + 1 := by omega
        rw [this, Nat.pow_succ, Nat.mul_comm]
        simp only [Nat.add_sub_cancel]
      have hk1' : (2 ^ (k - 1 + 1) : Nat) = 2 * 2 ^ (k - 1) := by rw [Nat.pow_succ, Nat.mul_comm]
      generalize hx : (2 ^ k : Nat) = x at *
      walk_at "go"
      rw [if_pos (decide_eq_true (by omega))]
      walk_at "go"
      refine iteD (fun h => ?_) (fun h => ?_)
      · have h2 := key.mp h
        walk_at "go"
        by_cases k0 : k = 0
        · refine ⟨0, by omega, rfl, rfl, w + x, .inr ⟨rfl, by have := hz k0; omega, ?_⟩⟩
          rw [show (x : Int) / 2 = 0 by have := hz k0; omega, Int.natCast_add]
          rfl
        · refine ⟨k, by omega, rfl, rfl, w + x, .inl ⟨k - 1, by omega, by omega, h2, by rw [hk1', ← hk1 k0]; omega, ?_⟩⟩
          rw [show (x : Int) / 2 = ((2 ^ (k - 1) : Nat) : Int) by have := hk1 k0; omega, Int.natCast_add]
          rfl
      · have h2 : ¬ w + x ≤ n / b := fun z => h (key.mpr z)
        walk_at "go"
        by_cases k0 : k = 0
        · refine ⟨0, by omega, rfl, rfl, w, .inr ⟨rfl, by have := hz k0; omega, ?_⟩⟩
          rw [show (x : Int) / 2 = 0 by have := hz k0; omega]
          rfl
        · refine ⟨k, by omega, rfl, rfl, w, .inl ⟨k - 1, by omega, by omega, hw, by rw [hk1', ← hk1 k0]; omega, ?_⟩⟩
          rw [show (x : Int) / 2 = ((2 ^ (k - 1) : Nat) : Int) by have := hk1 k0; omega]
          rfl
    · walk_at "go"
      rw [if_neg (by decide)]
      walk_at "go"
      have e : (n : Int) - ((n / b : Nat) : Int) * (b : Int) = ((n % b : Nat) : Int) := by
        have := Nat.div_add_mod n b
        rw [Nat.mul_comm] at this
        rw [← Int.natCast_mul]
        omega
      rw [e]
      exact q
end
end Pf
namespace Pf
open PySem L2 DL
section
variable {P : Program} {w : World} {K : PySem.W.Frag} {mg : Str → Option Value} {base : Heap}
local macro_rules | `(tactic| walk_at "d1") => `(tactic| (with_reducible refine evc_fld ?_))
local macro_rules | `(tactic| walk_at "d1") => `(tactic| (with_reducible refine evc_meth ?_))
local macro_rules | `(tactic| walk_at "d1") => `(tactic| (with_reducible refine evn_c (evn_make ?_)))
local macro_rules | `(tactic| walk_at "d1") => `(tactic| (with_reducible refine evn_c (evn_kwMake (evn_make ?_))))
theorem ok_l_shown_right (T : TX w K mg) (G_l_parts : FnOk P w K mg base CX0 1 T.a_l_parts T.fd_l_parts ["_law_blades_here", "_law_by"] (spD K sp_l_parts)) (G_Tally___init__ : FnOk P w K mg base CX0 1 T.a_Tally___init__ T.fd_Tally___init__ ["self", "blades", "dozen"] (spD K (sp_Tally___init__ T.a_Tally))) (G_Tally___len__ : FnOk P w K mg base CX0 1 T.a_Tally___len__ T.fd_Tally___len__ ["self"] (spD K (sp_Tally___len__ T.a_Tally))) (G_Tally_whole : FnOk P w K mg base CX0 1 T.a_Tally_whole T.fd_Tally_whole ["self"] (spD K (sp_Tally_whole T.a_Tally))) (G_Tally_loose : FnOk P w K mg base CX0 1 T.a_Tally_loose T.fd_Tally_loose ["self"] (spD K (sp_Tally_loose T.a_Tally))) (G_Tally___str__ : FnOk P w K mg base CX0 2 T.a_Tally___str__ T.fd_Tally___str__ ["self"] (spD K (sp_Tally___str__ T.a_Tally))) (G_Tally___repr__ : FnOk P w K mg base CX0 1 T.a_Tally___repr__ T.fd_Tally___repr__ ["self"] (spD K (sp_Tally___repr__ T.a_Tally))) : FnG P w K mg base 6 T.a_l_shown_right T.fd_l_shown_right ["_law_blades_here", "_law_by"] (spD K sp_l_shown_right) := by
  refine okDG (k := 5) T.F_l_shown_right sc_l_shown_right (fun ss G Qd h => ?_) (fun cdv A outer s H E ss G Qd hg hr h => ?_)
  · obtain ⟨n, b, rfl, hb, hn, q⟩ := h
    rfl
  · obtain ⟨n, b, rfl, hb, hn, q⟩ := h
    refine ⟨_, (pss_cons (ps_set (i := 2) sc_l_shown_right.nd rfl (Or.inl rfl) (pe_makeN T.mk_Tally G_Tally___init__ (hr.mono (by decide)) rfl T.m_Tally T.kb_Tally___init__ pass0 (pa_cons (pv 0) pa_nil) (pk_cons (pv 1) pk_nil)))
      (pss_cons (ps_asg (pe_call G_l_parts (hr.mono (by decide)) rfl T.m_l_parts T.k_l_parts T.b_l_parts .nil pass0 (pa_cons (pv 0) (pa_cons (pv 1) pa_nil))) (pg_tup rfl (pgs_cons (pg_name (i := 3) sc_l_shown_right.nd rfl (Or.inl rfl)) (pgs_cons (pg_name (i := 4) sc_l_shown_right.nd rfl (Or.inl rfl)) pgs_nil))))
      (pss_cons (ps_set (i := 5) sc_l_shown_right.nd rfl (Or.inl rfl) (pe_op (show OpR _ (binaryOp .Add) (uAdd K) from uo_add) (pe_op (show OpR _ (binaryOp .Add) (uAdd K) from uo_add) (pe_callTy (show CallR _ (.type "str") rStrI from uc_strI) (by rfl) T.z_str (by decide +kernel) (pa_cons (pv 3) pa_nil)) (pe_ix (show IxR _ (rIx K) from ix_seq) (pe_lst (pa_cons pe_str (pa_cons pe_str pa_nil))) (pe_callTy uc_int (by rfl) T.z_int (by decide +kernel) (pa_cons (pe_cmpR (show OpR _ (compareOp .Eq) (uEq K) from (uo_eq hr.units)) (pv 1) pe_int (nomark _)) pa_nil)) (fun _ _ => rfl))) (pe_callTy (show CallR _ (.type "str") rStrI from uc_strI) (by rfl) T.z_str (by decide +kernel) (pa_cons (pv 4) pa_nil))))
      (pss_cons (ps_set (i := 6) sc_l_shown_right.nd rfl (Or.inl rfl) (pe_lst (pa_cons (pe_fld (pv 2) rfl) (pa_cons (pe_fld (pv 2) rfl) (pa_cons (pe_callB (show CallR _ (.builtin "len") (DSn.rLenO T.a_Tally (spD K (sp_Tally___len__ T.a_Tally)) E0) from DSn.call_lenO G_Tally___len__ (hr.mono (by decide)) T.me_Tally___len__.at_ T.me_Tally___len__.fn T.b_Tally___len__ pass0) (by rfl) T.z_len (by decide +kernel) (pa_cons (pv 2) pa_nil)) (pa_cons (pe_callTy (show CallR _ (.type "bool") (DBl.rBoolO T.a_Tally (spD K (sp_Tally___len__ T.a_Tally)) E0) from DBl.call_boolO G_Tally___len__ (hr.mono (by decide)) T.bz_Tally T.me_Tally___len__.at_ T.me_Tally___len__.fn T.b_Tally___len__ pass0) (by rfl) T.z_bool (by decide +kernel) (pa_cons (pv 2) pa_nil)) (pa_cons (pe_meth0 (pv 2) T.cl_Tally T.me_Tally_whole G_Tally_whole (hr.mono (by decide)) T.b_Tally_whole .nil pass0) (pa_cons (pe_meth0 (pv 2) T.cl_Tally T.me_Tally_loose G_Tally_loose (hr.mono (by decide)) T.b_Tally_loose .nil pass0) (pa_cons (pe_callTy (show CallR _ (.type "str") (DOw.rStrO T.a_Tally (spD K (sp_Tally___str__ T.a_Tally)) E0) from DOw.call_strO G_Tally___str__ (hr.mono (by decide)) T.me_Tally___str__.at_ T.me_Tally___str__.fn T.b_Tally___str__ pass0) (by rfl) T.z_str (by decide +kernel) (pa_cons (pv 2) pa_nil)) (pa_cons (pe_joined1 (show PE _ _ (DFm.tFmtO T.a_Tally (spD K (sp_Tally___str__ T.a_Tally)) E0 _) from DFm.pe_fmtO (pv 2) G_Tally___str__ (hr.mono (by decide)) T.fm_Tally T.ji_Tally.hm T.me_Tally___str__.at_ T.me_Tally___str__.fn T.b_Tally___str__ pass0)) pa_nil))))))))))
      (pss_cons (ps_if (pt_cmpR (show OpR _ (compareOp .NotEq) (uNe K) from (uo_ne hr.units)) (pe_callB (show CallR _ (.builtin "repr") (uReprX K) from uc_reprX hg hr.units) (by rfl) T.z_repr (by decide +kernel) (pa_cons (pv 6) pa_nil)) (pe_callB (show CallR _ (.builtin "repr") (uReprX K) from uc_reprX hg hr.units) (by rfl) T.z_repr (by decide +kernel) (pa_cons (pe_lst (pa_cons (pv 0) (pa_cons (pv 1) (pa_cons (pv 0) (pa_cons (pe_cmpR op_gt (pv 0) pe_int (nomark _)) (pa_cons (pv 3) (pa_cons (pv 4) (pa_cons (pv 5) (pa_cons (pv 5) pa_nil))))))))) pa_nil)) (nomark _)) (pss_one (ps_ret pe_bl)) pss_nil)
      (pss_one (ps_ret (pe_cmpR (show OpR _ (compareOp .Eq) (uEq K) from (uo_eq hr.units)) (pe_callB (show CallR _ (.builtin "repr") (DOw.rReprO T.a_Tally (spD K (sp_Tally___repr__ T.a_Tally)) E0) from DOw.call_reprO G_Tally___repr__ (hr.mono (by decide)) T.me_Tally___repr__.at_ T.me_Tally___repr__.fn T.b_Tally___repr__ pass0) (by rfl) T.z_repr (by decide +kernel) (pa_cons (pv 2) pa_nil)) (pe_op (show OpR _ (binaryOp .Add) (uAdd K) from uo_add) (pe_op (show OpR _ (binaryOp .Add) (uAdd K) from uo_add) (pe_op (show OpR _ (binaryOp .Add) (uAdd K) from uo_add) (pe_op (show OpR _ (binaryOp .Add) (uAdd K) from uo_add) pe_str (pe_callTy (show CallR _ (.type "str") rStrI from uc_strI) (by rfl) T.z_str (by decide +kernel) (pa_cons (pv 0) pa_nil))) pe_str) (pe_callTy (show CallR _ (.type "str") rStrI from uc_strI) (by rfl) T.z_str (by decide +kernel) (pa_cons (pv 1) pa_nil))) pe_str) (nomark _))))))))), ?_⟩
    simp only [cxOf, Cx.nox, Cx.wish, Cx.blk, startD, List.map, List.length_cons, List.length_nil, Nat.reduceAdd, Nat.reduceSub, List.replicate, List.cons_append, List.nil_append]
    have hN : ∀ m : Nat, m ≤ n → (m : Int).natAbs.log2 < 1920 := fun m h => log_lt (by rw [Int.natAbs_natCast]; omega)
    have h1 := dgS_len (n := n / b) (Nat.le_trans (Nat.div_le_self _ _) hn)
    have h2 := dgS_len (n := n % b) (Nat.le_trans (Nat.mod_le _ _) hn)
    have h3 := dgS_len hn
    have h4 := dgS_len (n := b) (by omega)
    walk_at "go"
    refine ⟨rfl, rfl, _, rfl, 0, _, _, rfl, rfl, rfl, _, rfl, _, rfl, ?_⟩
    walk_at "go"
    refine ⟨hb, hn, ?_⟩
    dsimp only [asV]
    walk_at "go"
    refine ap_strX (hN _ (Nat.div_le_self _ _)) ?_
    walk_at "go"
    have hz : (if b = 14 then Str.ofString " long dozen " else Str.ofString " dozen ").length ≤ 12 := by split <;> decide +kernel
    refine u_ix_g (x := .d (.lst _)) rfl (d := .str (if b = 14 then Str.ofString " long dozen " else Str.ofString " dozen ")) (by rcases hb with rfl | rfl <;> rfl) ?_
    have hzz := law_shows (n := n) hb
    generalize (if b = 14 then Str.ofString " long dozen " else Str.ofString " dozen ") = zz at hz hzz
    refine u_add_s (le_line (by show (dgS (n / b)).length + _ ≤ _; omega)) ?_
    walk_at "go"
    refine ap_strX (hN _ (Nat.mod_le _ _)) ?_
    refine u_add_s (le_line (by rw [Str.length_append]; show (dgS (n / b)).length + _ + (dgS (n % b)).length ≤ _; omega)) ?_
    rw [show (Str.ofString (toString ((n / b : Nat) : Int)) ++ zz ++ Str.ofString (toString ((n % b : Nat) : Int)) : Str) = showT n b from hzz]
    walk_at "go"
    refine ⟨_, _, _, rfl, ⟨T.cl_Tally, T.nf_Tally_blades⟩, rfl, ?_⟩
    walk_at "go"
    refine ⟨_, _, _, rfl, ⟨T.cl_Tally, T.nf_Tally_dozen⟩, rfl, ?_⟩
    walk_at "go"
    refine ap_lenO ⟨_, rfl, rfl, n, b, rfl, hn, ?_⟩
    dsimp only [asV]
    refine ⟨_, rfl, ⟨by omega, by omega⟩, ?_⟩
    walk_at "go"
    refine ap_boolO ⟨_, rfl, rfl, n, b, rfl, hn, ?_⟩
    dsimp only [asV]
    refine ⟨_, rfl, ⟨by omega, by omega⟩, ?_⟩
    walk_at "go"
    refine ⟨rfl, ?_⟩
    walk_at "go"
    first | refine ⟨n, b, rfl, hb, ?_⟩ | refine ⟨hb, ?_⟩
    dsimp only [asV]
    walk_at "go"
    refine ⟨rfl, ?_⟩
    walk_at "go"
    first | refine ⟨n, b, rfl, hb, ?_⟩ | refine ⟨hb, ?_⟩
    dsimp only [asV]
    walk_at "go"
    refine ap_strO ?_
    refine ⟨n, b, rfl, hb, hn, ?_⟩
    dsimp only [asV]
    refine ⟨_, rfl, ?_⟩
    walk_at "go"
    refine evc_fmtO ?_
    walk_at "go"
    first | refine ⟨n, b, rfl, hb, hn, ?_⟩ | refine ⟨hb, hn, ?_⟩
    dsimp only [asV]
    refine ⟨_, rfl, le_line (by have := showT_len (n := n) (b := b) hn; omega), ?_⟩
    walk_at "go"
    have eb : ((n : Int) != 0) = decide (0 < (n : Int)) := by
      by_cases h : n = 0
      · subst h
        rfl
      · rw [decide_eq_true (by omega)]
        exact bne_iff_ne.mpr (by omega)
    rw [eb]
    have ls := showT_len (n := n) (b := b) hn
    have sh : ShX 2500 1 (.lst [D.int ↑n, D.int ↑b, D.int ↑n, D.bl (decide (0 < (n : Int))), D.int ↑(n / b), D.int ↑(n % b), D.str (showT n b), D.str (showT n b)]) := (shx_lst (n := 302) (k := 0) fun d hd => by
      have hi : ∀ i : Nat, i ≤ n ∨ i ≤ 14 → ShX 302 0 (.int (i : Int)) := fun i h => (shx_int 0 (by omega)).mono (by omega) (Nat.le_refl _)
      have hs : ShX 302 0 (.str (showT n b)) := shx_str (m := 30) 0 (showT_ok n b) ls
      have h1 := Nat.div_le_self n b
      have h2 := Nat.mod_le n b
      simp only [List.mem_cons, List.not_mem_nil, or_false] at hd
      rcases hd with rfl | rfl | rfl | rfl | rfl | rfl | rfl | rfl
      · exact hi _ (by omega)
      · exact hi _ (by omega)
      · exact hi _ (by omega)
      · exact (shx_bl 0 _).mono (by omega) (Nat.le_refl _)
      · exact hi _ (by omega)
      · exact hi _ (by omega)
      · exact hs
      · exact hs).mono (by simp only [List.length_cons, List.length_nil]; omega) (Nat.le_refl _)
    have hpx := sh.px
    refine ap_reprX1 sh (by decide) (by decide) ?_
    walk_at "go"
    refine ap_reprX1 sh (by decide) (by decide) ?_
    walk_at "go"
    refine ap_reprOw ?_
    refine ⟨n, b, rfl, hb, hn, ?_⟩
    dsimp only [asV]
    refine ⟨_, rfl, ?_⟩
    walk_at "go"
    have l1 : (Str.ofString "Tally(").length = 6 := by decide +kernel
    have l2 : (Str.ofString ", ").length = 2 := by decide +kernel
    have l3 : (Str.ofString ")").length = 1 := by decide +kernel
    refine ap_strX (hN _ (Nat.le_refl _)) ?_
    refine u_add_s (le_line (by show _ + (dgS n).length ≤ _; omega)) ?_
    walk_at "go"
    refine u_add_s (le_line (by rw [Str.length_append]; show _ + (dgS n).length + _ ≤ _; omega)) ?_
    walk_at "go"
    refine ap_strX (log_lt (by omega)) ?_
    refine u_add_s (le_line (by rw [Str.length_append, Str.length_append]; show _ + (dgS n).length + _ + (dgS b).length ≤ _; omega)) ?_
    walk_at "go"
    refine u_add_s (le_line (by rw [Str.length_append, Str.length_append, Str.length_append]; show _ + (dgS n).length + _ + (dgS b).length + _ ≤ _; omega)) ?_
    walk_at "go"
    rw [decide_eq_true (show reprT n b = Str.ofString "Tally(" ++ Str.ofString (toString (n : Int)) ++ Str.ofString ", " ++ Str.ofString (toString (b : Int)) ++ Str.ofString ")" from rfl)]
    exact q
end
end Pf
namespace Pf
open PySem L2 DL
section
variable {P : Program} {w : World} {K : PySem.W.Frag} {mg : Str → Option Value} {base : Heap}
local macro_rules | `(tactic| walk_at "d1") => `(tactic| (with_reducible refine evn_c (evn_make ?_)))
local macro_rules | `(tactic| walk_at "d1") => `(tactic| (with_reducible refine evn_c (evn_kwMake (evn_make ?_))))
theorem ok_l_equal_right (T : TX w K mg) (G_Tally___init__ : FnOk P w K mg base CX0 1 T.a_Tally___init__ T.fd_Tally___init__ ["self", "blades", "dozen"] (spD K (sp_Tally___init__ T.a_Tally))) (G_Tally___eq__ : FnOk P w K mg base CX0 1 T.a_Tally___eq__ T.fd_Tally___eq__ ["self", "other"] (spD K (sp_Tally___eq__ T.a_Tally T.a_Money))) (G_Money___eq__ : FnOk P w K mg base CX0 1 T.a_Money___eq__ T.fd_Money___eq__ ["self", "other"] (spD K (sp_Money___eq__ T.a_Money T.a_Tally))) (G_Money___init__ : FnOk P w K mg base CX0 1 T.a_Money___init__ T.fd_Money___init__ ["self", "pence"] (spD K (sp_Money___init__ T.a_Money))) (G_Tally___repr__ : FnOk P w K mg base CX0 1 T.a_Tally___repr__ T.fd_Tally___repr__ ["self"] (spD K (sp_Tally___repr__ T.a_Tally))) : FnG P w K mg base 5 T.a_l_equal_right T.fd_l_equal_right ["_law_one", "_law_other"] (spD K sp_l_equal_right) := by
  refine okDG (k := 4) T.F_l_equal_right sc_l_equal_right (fun ss G Qd h => ?_) (fun cdv A outer s H E ss G Qd hg hr h => ?_)
  · obtain ⟨p, r, rfl, hp, hr2, q⟩ := h
    rfl
  · obtain ⟨p, r, rfl, hp, hr2, q⟩ := h
    refine ⟨_, (pss_cons (ps_par (i := 2) (j := 3) (by rfl) sc_l_equal_right.nd rfl rfl (by decide) rfl rfl (pa_cons (pe_make T.mk_Tally G_Tally___init__ (hr.mono (by decide)) rfl T.m_Tally T.bf_Tally___init__ .nil pass0 (pa_cons (pe_ix (show IxR _ (rIx K) from ix_seq) (pv 0) pe_int (fun _ _ => rfl)) (pa_cons (pe_ix (show IxR _ (rIx K) from ix_seq) (pv 0) pe_int (fun _ _ => rfl)) pa_nil))) (pa_cons (pe_makeN T.mk_Tally G_Tally___init__ (hr.mono (by decide)) rfl T.m_Tally T.kb_Tally___init__ pass0 (pa_cons (pe_ix (show IxR _ (rIx K) from ix_seq) (pv 1) pe_int (fun _ _ => rfl)) pa_nil) (pk_cons (pe_ix (show IxR _ (rIx K) from ix_seq) (pv 1) pe_int (fun _ _ => rfl)) pk_nil)) pa_nil)) (by rfl))
      (pss_cons (ps_set (i := 4) sc_l_equal_right.nd rfl (Or.inl rfl) (pe_lst (pa_cons (pe_cmpR (show OpR _ (compareOp .Eq) (DOw.rEqO T.a_Tally (spD K (sp_Tally___eq__ T.a_Tally T.a_Money)) E0) from DOw.op_eqO G_Tally___eq__ (hr.mono (by decide)) T.me_Tally___eq__.at_ T.me_Tally___eq__.fn T.b_Tally___eq__ pass0) (pv 2) (pv 3) (nomark _)) (pa_cons (pe_cmpR (show OpR _ (compareOp .Eq) (DOw.rEqO T.a_Tally (spD K (sp_Tally___eq__ T.a_Tally T.a_Money)) E0) from DOw.op_eqO G_Tally___eq__ (hr.mono (by decide)) T.me_Tally___eq__.at_ T.me_Tally___eq__.fn T.b_Tally___eq__ pass0) (pv 3) (pv 2) (nomark _)) (pa_cons (pe_cmpR (show OpR _ (compareOp .In) (DEq.rInW K (DEq.rEqM K T.a_Tally T.a_Money (spD K (sp_Tally___eq__ T.a_Tally T.a_Money)) (spD K (sp_Money___eq__ T.a_Money T.a_Tally)) E0 E0) false) from DEq.op_inW (DEq.rcM G_Tally___eq__ T.eq_Tally T.b_Tally___eq__ pass0 G_Money___eq__ T.eq_Money T.b_Money___eq__ pass0 (by decide) (by decide)) hr) (pv 2) (pe_lst (pa_cons (pv 3) pa_nil)) (by rfl)) (pa_cons (pe_cmpR (show OpR _ (compareOp .In) (DEq.rInW K (DEq.rEqM K T.a_Tally T.a_Money (spD K (sp_Tally___eq__ T.a_Tally T.a_Money)) (spD K (sp_Money___eq__ T.a_Money T.a_Tally)) E0 E0) false) from DEq.op_inW (DEq.rcM G_Tally___eq__ T.eq_Tally T.b_Tally___eq__ pass0 G_Money___eq__ T.eq_Money T.b_Money___eq__ pass0 (by decide) (by decide)) hr) (pv 2) (pe_tup (pa_cons pe_non (pa_cons (pv 3) pa_nil))) (by rfl)) (pa_cons (pe_cmpR (show OpR _ (compareOp .Eq) (DEq.rTupW K (DEq.EqMi K T.a_Tally T.a_Money (spD K (sp_Tally___eq__ T.a_Tally T.a_Money)) (spD K (sp_Money___eq__ T.a_Money T.a_Tally)) E0 E0)) from DEq.RcR.op (DEq.rc_tupW (DEq.EbR.or (DEq.RcR.ebR (DEq.rcM G_Tally___eq__ T.eq_Tally T.b_Tally___eq__ pass0 G_Money___eq__ T.eq_Money T.b_Money___eq__ pass0 (by decide) (by decide))) (DEq.EbR.mono DEq.eb_flat (Nat.zero_le _)))) hr) (pe_tup (pa_cons (pv 2) (pa_cons pe_int pa_nil))) (pe_tup (pa_cons (pv 3) (pa_cons pe_int pa_nil))) (nomark _)) pa_nil)))))))
      (pss_cons (ps_if (PW.pt (pw_or (pt_cmpR (show OpR _ (compareOp .NotEq) (uNe K) from (uo_ne hr.units)) (pe_callB (show CallR _ (.builtin "repr") (uReprX K) from uc_reprX hg hr.units) (by rfl) T.z_repr (by decide +kernel) (pa_cons (pv 4) pa_nil)) (pe_callB (show CallR _ (.builtin "repr") (uReprX K) from uc_reprX hg hr.units) (by rfl) T.z_repr (by decide +kernel) (pa_cons (pe_op (show OpR _ (binaryOp .Mult) (uMulT K) from uo_mulT) (pe_lst (pa_cons (pe_cmpR (show OpR _ (compareOp .Eq) (uEq K) from (uo_eq hr.units)) (pv 0) (pv 1) (nomark _)) pa_nil)) pe_int) pa_nil)) (nomark _)) (pw_or1 (pt_cmpR (show OpR _ (compareOp .NotEq) (uNe K) from (uo_ne hr.units)) (pe_callB (show CallR _ (.builtin "repr") (uReprX K) from uc_reprX hg hr.units) (by rfl) T.z_repr (by decide +kernel) (pa_cons (pe_cmpR (show OpR _ (compareOp .NotEq) (rNeO T.a_Tally (spD K (sp_Tally___eq__ T.a_Tally T.a_Money)) E0) from DOw.op_neO G_Tally___eq__ (hr.mono (by decide)) T.me_Tally___eq__.at_ T.me_Tally___eq__.fn T.ne_Tally T.ji_Tally.hm T.b_Tally___eq__ pass0) (pv 2) (pv 3) (nomark _)) pa_nil)) (pe_callB (show CallR _ (.builtin "repr") (uReprX K) from uc_reprX hg hr.units) (by rfl) T.z_repr (by decide +kernel) (pa_cons (pe_cmpR (show OpR _ (compareOp .NotEq) (uNe K) from (uo_ne hr.units)) (pv 0) (pv 1) (nomark _)) pa_nil)) (nomark _))))) (pss_one (ps_ret pe_bl)) pss_nil)
      (pss_one (ps_ret (pe_or (pe_cmpR (show OpR _ (compareOp .NotEq) (uNe K) from (uo_ne hr.units)) (pe_ix (show IxR _ (rIx K) from ix_seq) (pv 0) pe_int (fun _ _ => rfl)) pe_int (nomark _)) (pe_one (pe_and (pe_cmpR (show OpR _ (compareOp .Eq) (DOw.rEqO T.a_Tally (spD K (sp_Tally___eq__ T.a_Tally T.a_Money)) E0) from DOw.op_eqO G_Tally___eq__ (hr.mono (by decide)) T.me_Tally___eq__.at_ T.me_Tally___eq__.fn T.b_Tally___eq__ pass0) (pe_make T.mk_Tally G_Tally___init__ (hr.mono (by decide)) rfl T.m_Tally T.b_Tally___init__ T.bv_Tally___init__ pass0 (pa_cons (pe_ix (show IxR _ (rIx K) from ix_seq) (pv 0) pe_int (fun _ _ => rfl)) pa_nil)) (pv 2) (nomark _)) (pe_one (pe_cmpR (show OpR _ (compareOp .Eq) (uEq K) from (uo_eq hr.units)) (pe_callB (show CallR _ (.builtin "repr") (DOw.rReprO T.a_Tally (spD K (sp_Tally___repr__ T.a_Tally)) E0) from DOw.call_reprO G_Tally___repr__ (hr.mono (by decide)) T.me_Tally___repr__.at_ T.me_Tally___repr__.fn T.b_Tally___repr__ pass0) (by rfl) T.z_repr (by decide +kernel) (pa_cons (pe_make T.mk_Tally G_Tally___init__ (hr.mono (by decide)) rfl T.m_Tally T.b_Tally___init__ T.bv_Tally___init__ pass0 (pa_cons (pe_ix (show IxR _ (rIx K) from ix_seq) (pv 0) pe_int (fun _ _ => rfl)) pa_nil)) pa_nil)) (pe_callB (show CallR _ (.builtin "repr") (DOw.rReprO T.a_Tally (spD K (sp_Tally___repr__ T.a_Tally)) E0) from DOw.call_reprO G_Tally___repr__ (hr.mono (by decide)) T.me_Tally___repr__.at_ T.me_Tally___repr__.fn T.b_Tally___repr__ pass0) (by rfl) T.z_repr (by decide +kernel) (pa_cons (pv 2) pa_nil)) (nomark _))))))))))), ?_⟩
    simp only [cxOf, Cx.nox, Cx.wish, Cx.blk, startD, List.map, List.length_cons, List.length_nil, Nat.reduceAdd, Nat.reduceSub, List.replicate, List.cons_append, List.nil_append]
    obtain ⟨n, b⟩ := p
    obtain ⟨m, e⟩ := r
    obtain ⟨hn, hb⟩ := hp
    obtain ⟨hm, he⟩ := hr2
    show StC K _ [some (.d (.tup [.int (n : Int), .int (b : Int)])), some (.d (.tup [.int (m : Int), .int (e : Int)])), none, none, none] G [] _
    walk_at "gm"
    refine ⟨0, _, _, rfl, rfl, rfl, _, rfl, _, rfl, ?_⟩
    walk_at "gm"
    refine ⟨rfl, rfl, _, rfl, 0, _, _, rfl, rfl, rfl, _, rfl, _, rfl, ?_⟩
    walk_at "gm"
    have hsym : decide ((n : Int) = m ∧ (b : Int) = e) = decide ((m : Int) = n ∧ (e : Int) = b) := decide_eq_decide.mpr ⟨fun z => ⟨z.1.symm, z.2.symm⟩, fun z => ⟨z.1.symm, z.2.symm⟩⟩
    obtain ⟨z, hz⟩ : ∃ z, z = decide ((m : Int) = n ∧ (e : Int) = b) := ⟨_, rfl⟩
    refine u_eqO ⟨n, b, _, rfl, .inl ⟨m, e, rfl, ?_⟩⟩
    dsimp only [asV]
    rw [← hz]
    refine ⟨_, rfl, ?_⟩
    walk_at "gm"
    refine u_eqO ⟨m, e, _, rfl, .inl ⟨n, b, rfl, ?_⟩⟩
    dsimp only [asV]
    rw [hsym, ← hz]
    refine ⟨_, rfl, ?_⟩
    walk_at "gm"
    have ht : ∀ G L, ItE K T.a_Tally T.a_Money (sp_Tally___eq__ T.a_Tally T.a_Money) (sp_Money___eq__ T.a_Money T.a_Tally) (talF n b) G L (talD T.a_Tally m e) z := fun G L => by
      have := it_tal (K := K) (C := T.a_Tally) (CM := T.a_Money) (G := G) (L := L) (n := n) (b := b) (m := m) (e := e)
      rw [hsym, ← hz] at this
      exact this
    have ht2 : ∀ G L, ItE K T.a_Tally T.a_Money (sp_Tally___eq__ T.a_Tally T.a_Money) (sp_Money___eq__ T.a_Money T.a_Tally) (talF m e) G L (talD T.a_Tally n b) z := fun G L => by
      have := it_tal (K := K) (C := T.a_Tally) (CM := T.a_Money) (G := G) (L := L) (n := m) (b := e) (m := n) (e := b)
      rw [← hz] at this
      exact this
    refine u_inM (ds := [talD T.a_Tally m e]) (e := fun _ => z) (.inl rfl) (fun d hd => by rw [List.mem_singleton.mp hd]; exact ht _ _) ?_
    walk_at "gm"
    refine u_inM (ds := [.non, talD T.a_Tally m e]) (e := fun d => match d with | .ins _ _ => z | _ => false) (.inr rfl) (fun d hd => ?_) ?_
    · simp only [List.mem_cons, List.not_mem_nil, or_false] at hd
      rcases hd with rfl | rfl
      · exact it_th trivial
      · exact ht _ _
    walk_at "gm"
    refine u_eqT (ds := [talD T.a_Tally n b, .int 1]) (es := [talD T.a_Tally m e, .int 1]) (b := z) rfl ⟨z, .inr ⟨_, rfl, ht2 _ _⟩, fun h => ⟨true, .inl ⟨1, 1, rfl, rfl, rfl⟩, fun _ => h, fun h => by cases h⟩, fun h => h⟩ ?_
    walk_at "gm"
    have e1 : (false ^^ [talD T.a_Tally m e].any fun _ => z) = z := by
      show (false ^^ (z || false)) = _
      cases z <;> rfl
    have e2 : (false ^^ [D.non, talD T.a_Tally m e].any fun d => match d with | .ins _ _ => z | _ => false) = z := by
      show (false ^^ (false || (z || false))) = _
      cases z <;> rfl
    rw [e1, e2]
    clear e1 e2
    have s5 : ShX 100 1 (.lst [D.bl z, D.bl z, D.bl z, D.bl z, D.bl z]) := (shx_lst (n := 5) (k := 0) fun d hd => by
      have : d = .bl z := by
        simp only [List.mem_cons, List.not_mem_nil, or_false, or_self] at hd
        exact hd
      rw [this]
      exact shx_bl 0 _).mono (by simp only [List.length_cons, List.length_nil]; omega) (Nat.le_refl _)
    have hpx := s5.px
    refine ap_reprX1 s5 (by decide) (by decide) ?_
    walk_at "gm"
    refine u_eq_pair ?_
    rw [hsym, ← hz]
    walk_at "gm"
    rw [show (List.replicate (Int.toNat 5) [D.bl z]).flatten = [D.bl z, D.bl z, D.bl z, D.bl z, D.bl z] from rfl]
    refine ap_reprX1 s5 (by decide) (by decide) ?_
    walk_at "gm"
    refine u_neO ⟨n, b, _, rfl, .inl ⟨m, e, rfl, ?_⟩⟩
    dsimp only [asV]
    rw [← hz]
    refine ⟨_, rfl, ?_⟩
    walk_at "gm"
    have hb1 := (shx_bl 0 (!z)).px
    refine ap_reprX1 (shx_bl 0 _) (by decide) (by decide) ?_
    walk_at "gm"
    refine u_ne_pair ?_
    walk_at "gm"
    rw [hsym, ← hz]
    refine ap_reprX1 (shx_bl 0 _) (by decide) (by decide) ?_
    walk_at "gm"
    by_cases hb12 : b = 12
    · subst hb12
      rw [if_neg (by decide)]
      walk_at "gm"
      refine evn_c (evn_appMake (evn_make ?_))
      walk_at "gm"
      refine eva_appI (is := [12]) ?_
      walk_at "gm"
      refine ⟨0, _, _, rfl, rfl, rfl, _, rfl, _, rfl, ?_⟩
      walk_at "gm"
      refine u_eqO ⟨n, 12, _, rfl, .inl ⟨n, 12, rfl, ?_⟩⟩
      dsimp only [asV]
      rw [decide_eq_true (And.intro rfl rfl)]
      refine ⟨_, rfl, ?_⟩
      walk_at "gm"
      refine evn_c (evn_appMake (evn_make ?_))
      walk_at "gm"
      refine eva_appI (is := [12]) ?_
      walk_at "gm"
      refine ⟨0, _, _, rfl, rfl, rfl, _, rfl, _, rfl, ?_⟩
      walk_at "gm"
      refine ap_reprOw ?_
      refine ⟨n, 12, rfl, .inl rfl, hn, ?_⟩
      dsimp only [asV]
      refine ⟨_, rfl, ?_⟩
      walk_at "gm"
      refine ap_reprOw ?_
      refine ⟨n, 12, rfl, .inl rfl, hn, ?_⟩
      dsimp only [asV]
      refine ⟨_, rfl, ?_⟩
      walk_at "gm"
      exact q
    · rw [if_pos (by rw [decide_eq_false (by omega)]; rfl)]
      exact q
end
end Pf
namespace Pf
open PySem L2 DL
section
variable {P : Program} {w : World} {K : PySem.W.Frag} {mg : Str → Option Value} {base : Heap}
local macro_rules | `(tactic| walk_at "d1") => `(tactic| (with_reducible refine evc_fld ?_))
local macro_rules | `(tactic| walk_at "d1") => `(tactic| (with_reducible refine evn_c (evn_make ?_)))
local macro_rules | `(tactic| walk_at "d1") => `(tactic| (with_reducible refine evn_c (evn_dnew ?_)))
theorem ok_l_unlike_right (T : TX w K mg) (G_Tally___init__ : FnOk P w K mg base CX0 1 T.a_Tally___init__ T.fd_Tally___init__ ["self", "blades", "dozen"] (spD K (sp_Tally___init__ T.a_Tally))) (G_Tally___eq__ : FnOk P w K mg base CX0 1 T.a_Tally___eq__ T.fd_Tally___eq__ ["self", "other"] (spD K (sp_Tally___eq__ T.a_Tally T.a_Money))) (G_Money___eq__ : FnOk P w K mg base CX0 1 T.a_Money___eq__ T.fd_Money___eq__ ["self", "other"] (spD K (sp_Money___eq__ T.a_Money T.a_Tally))) (G_Money___init__ : FnOk P w K mg base CX0 1 T.a_Money___init__ T.fd_Money___init__ ["self", "pence"] (spD K (sp_Money___init__ T.a_Money))) (G_Tally___str__ : FnOk P w K mg base CX0 2 T.a_Tally___str__ T.fd_Tally___str__ ["self"] (spD K (sp_Tally___str__ T.a_Tally))) (G_Tally___repr__ : FnOk P w K mg base CX0 1 T.a_Tally___repr__ T.fd_Tally___repr__ ["self"] (spD K (sp_Tally___repr__ T.a_Tally))) : FnG P w K mg base 6 T.a_l_unlike_right T.fd_l_unlike_right ["_law_blades_here", "_law_by"] (spD K sp_l_unlike_right) := by
  refine okDG (k := 5) T.F_l_unlike_right sc_l_unlike_right (fun ss G Qd h => ?_) (fun cdv A outer s H E ss G Qd hg hr h => ?_)
  · obtain ⟨n, b, rfl, hb, hn, q⟩ := h
    rfl
  · obtain ⟨n, b, rfl, hb, hn, q⟩ := h
    refine ⟨_, (pss_cons (ps_set (i := 2) sc_l_unlike_right.nd rfl (Or.inl rfl) (pe_make T.mk_Tally G_Tally___init__ (hr.mono (by decide)) rfl T.m_Tally T.bf_Tally___init__ .nil pass0 (pa_cons (pv 0) (pa_cons (pv 1) pa_nil))))
      (pss_cons (ps_set (i := 3) sc_l_unlike_right.nd rfl (Or.inl rfl) (pe_lst (pa_cons (pv 0) (pa_cons (pe_callTy (show CallR _ (.type "str") (DOw.rStrO T.a_Tally (spD K (sp_Tally___str__ T.a_Tally)) E0) from DOw.call_strO G_Tally___str__ (hr.mono (by decide)) T.me_Tally___str__.at_ T.me_Tally___str__.fn T.b_Tally___str__ pass0) (by rfl) T.z_str (by decide +kernel) (pa_cons (pv 2) pa_nil)) (pa_cons (pe_callB (show CallR _ (.builtin "repr") (DOw.rReprO T.a_Tally (spD K (sp_Tally___repr__ T.a_Tally)) E0) from DOw.call_reprO G_Tally___repr__ (hr.mono (by decide)) T.me_Tally___repr__.at_ T.me_Tally___repr__.fn T.b_Tally___repr__ pass0) (by rfl) T.z_repr (by decide +kernel) (pa_cons (pv 2) pa_nil)) (pa_cons pe_non (pa_cons pe_bl (pa_cons (pe_tup (pa_cons (pv 0) (pa_cons (pv 1) pa_nil))) (pa_cons (pe_lst (pa_cons (pv 2) pa_nil)) (pa_cons (pe_tup (pa_cons (pv 2) pa_nil)) (pa_cons pe_dnewK (pa_cons (pe_make T.mk_Money G_Money___init__ (hr.mono (by decide)) rfl T.m_Money T.b_Money___init__ .nil pass0 (pa_cons (pv 0) pa_nil)) pa_nil))))))))))))
      (pss_cons (ps_for PassesOwn.never rfl (pi_seq (pe_op (show OpR _ (binaryOp .Add) (uAdd K) from uo_add) (pv 3) (pe_lst (pa_cons pe_str (pa_cons pe_int (pa_cons (pe_tup pa_nil) pa_nil)))))) (pg_name (i := 4) sc_l_unlike_right.nd rfl (Or.inl rfl)) (pss_one (ps_if (PW.pt (pw_or (pt_cmpR op_notBl (pe_cmpR (show OpR _ (compareOp .Eq) (DEq.rEqM K T.a_Tally T.a_Money (spD K (sp_Tally___eq__ T.a_Tally T.a_Money)) (spD K (sp_Money___eq__ T.a_Money T.a_Tally)) E0 E0) from DEq.RcR.op (DEq.rcM G_Tally___eq__ T.eq_Tally T.b_Tally___eq__ pass0 G_Money___eq__ T.eq_Money T.b_Money___eq__ pass0 (by decide) (by decide)) hr) (pv 2) (pv 4) (nomark _)) pe_bl (nomark _)) (pw_or (pt_cmpR op_notBl (pe_cmpR (show OpR _ (compareOp .Eq) (DEq.rEqM K T.a_Tally T.a_Money (spD K (sp_Tally___eq__ T.a_Tally T.a_Money)) (spD K (sp_Money___eq__ T.a_Money T.a_Tally)) E0 E0) from DEq.RcR.op (DEq.rcM G_Tally___eq__ T.eq_Tally T.b_Tally___eq__ pass0 G_Money___eq__ T.eq_Money T.b_Money___eq__ pass0 (by decide) (by decide)) hr) (pv 4) (pv 2) (nomark _)) pe_bl (nomark _)) (pw_or1 (pt_cmpR op_notBl (pe_cmpR (show OpR _ (compareOp .NotEq) (fun x y H Q => DEq.rEqA K T.a_Tally (spD K (sp_Tally___eq__ T.a_Tally T.a_Money)) E0 x y H fun v H1 => ∃ z : Bool, v = .bl z ∧ Q (.bl (!z)) H1) from DEq.op_neA G_Tally___eq__ (hr.mono (by decide)) T.eq_Tally T.ne_Tally T.ji_Tally.hm T.b_Tally___eq__ pass0) (pv 2) (pv 4) (nomark _)) pe_bl (nomark _)))))) (pss_one (ps_ret pe_bl)) pss_nil)))
      (pss_one (ps_ret (pe_cmpR (show OpR _ (compareOp .NotIn) (DEq.rInW K (DEq.rEqM K T.a_Tally T.a_Money (spD K (sp_Tally___eq__ T.a_Tally T.a_Money)) (spD K (sp_Money___eq__ T.a_Money T.a_Tally)) E0 E0) true) from DEq.op_notinW (DEq.rcM G_Tally___eq__ T.eq_Tally T.b_Tally___eq__ pass0 G_Money___eq__ T.eq_Money T.b_Money___eq__ pass0 (by decide) (by decide)) hr) (pv 2) (pv 3) (by rfl))))))), ?_⟩
    simp only [cxOf, Cx.nox, Cx.wish, Cx.blk, startD, List.map, List.length_cons, List.length_nil, Nat.reduceAdd, Nat.reduceSub, List.replicate, List.cons_append, List.nil_append]
    walk_at "gm"
    refine ⟨0, _, _, rfl, rfl, rfl, _, rfl, _, rfl, ?_⟩
    walk_at "gm"
    refine ap_strO ?_
    refine ⟨n, b, rfl, hb, hn, ?_⟩
    dsimp only [asV]
    refine ⟨_, rfl, ?_⟩
    walk_at "gm"
    refine ap_reprOw ?_
    refine ⟨n, b, rfl, hb, hn, ?_⟩
    dsimp only [asV]
    refine ⟨_, rfl, ?_⟩
    walk_at "gm"
    refine st_for ?_
    walk_at "gm"
    have hall : ∀ d ∈ [D.int n, D.str (showT n b), D.str (reprT n b), D.non, D.bl false, D.tup [D.int n, D.int b], D.lst [talD T.a_Tally n b], D.tup [talD T.a_Tally n b], D.dct [], monD T.a_Money n] ++ [D.str (Str.ofString ""), D.int 0, D.tup []], ThD d ∨ ∃ p, d = monD T.a_Money p := fun d hd => by
      simp only [List.mem_append, List.mem_cons, List.not_mem_nil, or_false] at hd
      rcases hd with (rfl | rfl | rfl | rfl | rfl | rfl | rfl | rfl | rfl | rfl) | (rfl | rfl | rfl)
      all_goals first | exact .inl trivial | exact .inr ⟨_, rfl⟩
    refine ⟨fun i Δ' G' L' => G' = G ∧ L' = [] ∧ ∃ u3, Δ' = [some (.d (.int n)), some (.d (.int b)), some (.d (talD T.a_Tally n b)), some (.d (.lst [D.int n, D.str (showT n b), D.str (reprT n b), D.non, D.bl false, D.tup [D.int n, D.int b], D.lst [talD T.a_Tally n b], D.tup [talD T.a_Tally n b], D.dct [], monD T.a_Money n])), u3], ⟨rfl, rfl, _, rfl⟩, ?_, ?_⟩
    · rintro i d Δ' G' L' hd ⟨rfl, rfl, u3, rfl⟩
      have hd2 := hall d (List.mem_of_getElem? hd)
      clear hall hd
      have hE : ItE K T.a_Tally T.a_Money (sp_Tally___eq__ T.a_Tally T.a_Money) (sp_Money___eq__ T.a_Money T.a_Tally) (talF n b) G' [] d false := by
        rcases hd2 with h | ⟨p, rfl⟩
        · exact it_th h
        · exact it_mon T.kq_Tally_Money T.nq_Money_Tally
      have hA : ItA K T.a_Tally (sp_Tally___eq__ T.a_Tally T.a_Money) (talF n b) G' [] d false := by
        rcases hd2 with h | ⟨p, rfl⟩
        · exact ia_th h
        · exact ia_mon T.nq_Tally_Money
      walk_at "gm"
      refine u_eqMl hA ?_
      walk_at "gm"
      refine u_eqMr hE ?_
      walk_at "gm"
      refine u_neMl hA ?_
      walk_at "gm"
      rw [if_neg (by decide)]
      walk_at "gm"
      exact ⟨rfl, rfl, _, rfl⟩
    · rintro Δ' G' L' ⟨rfl, rfl, u3, rfl⟩
      walk_at "gm"
      refine u_inM (ds := [D.int n, D.str (showT n b), D.str (reprT n b), D.non, D.bl false, D.tup [D.int n, D.int b], D.lst [talD T.a_Tally n b], D.tup [talD T.a_Tally n b], D.dct [], monD T.a_Money n]) (e := fun _ => false) (.inl rfl) (fun d hd => ?_) ?_
      · simp only [List.mem_cons, List.not_mem_nil, or_false] at hd
        rcases hd with rfl | rfl | rfl | rfl | rfl | rfl | rfl | rfl | rfl | rfl
        all_goals first | exact it_th trivial | exact it_mon T.kq_Tally_Money T.nq_Money_Tally
      · exact q
end
end Pf
namespace Pf
open PySem L2 DL
section
variable {P : Program} {w : World} {K : PySem.W.Frag} {mg : Str → Option Value} {base : Heap}
local macro_rules | `(tactic| walk_at "d1") => `(tactic| (with_reducible refine st_ownB (i := 2) ?_))
local macro_rules | `(tactic| walk_at "d1") => `(tactic| (with_reducible refine own_takeH (by assumption) plNil ?_))
local macro_rules | `(tactic| walk_at "d1") => `(tactic| (with_reducible refine own_bladesH (by assumption) plNil ?_))
theorem ok_law (T : TX w K mg) (G_l_well : FnOk P w K mg base CX0 1 T.a_l_well T.fd_l_well ["_law_script", "_law_k"] (spD K sp_l_well)) (G_l_take : FnOk P w K mg base CX0 1 T.a_l_take T.fd_l_take ["_law_well_here", "_law_many"] (spD K sp_l_take)) (G_l_blades : FnOk P w K mg base CX0 2 T.a_l_blades T.fd_l_blades ["_law_well_here"] (spD K sp_l_blades)) (G_l_equal_right : FnG P w K mg base 5 T.a_l_equal_right T.fd_l_equal_right ["_law_one", "_law_other"] (spD K sp_l_equal_right)) (G_l_shown_right : FnG P w K mg base 6 T.a_l_shown_right T.fd_l_shown_right ["_law_blades_here", "_law_by"] (spD K sp_l_shown_right)) (G_l_unlike_right : FnG P w K mg base 6 T.a_l_unlike_right T.fd_l_unlike_right ["_law_blades_here", "_law_by"] (spD K sp_l_unlike_right)) : FnG P w K mg base 7 T.a_law T.fd_law ["_law_script"] (spD K sp_law) := by
  refine okDG (k := 6) T.F_law sc_law (fun ss G Qd h => ?_) (fun cdv A outer s H E ss G Qd hg hr h => ?_)
  · obtain ⟨ns, rfl, rfl, hl, hb, q⟩ := h
    rfl
  · obtain ⟨ns, rfl, rfl, hl, hb, q⟩ := h
    refine ⟨_, (pss_cons (ps_for PassesOwn.never rfl (pi_range1 rfl T.z_range (pa_cons (pe_callB (uc_max2 rfl) (by rfl) T.z_max (by decide +kernel) (pa_cons pe_int (pa_cons (pe_callB (uc_min2 rfl) (by rfl) T.z_min (by decide +kernel) (pa_cons (pe_callB (show CallR _ (.builtin "len") (uLen K) from uc_len) (by rfl) T.z_len (by decide +kernel) (pa_cons (pv 0) pa_nil)) (pa_cons pe_int pa_nil))) pa_nil))) pa_nil)) (pg_name (i := 1) sc_law.nd rfl (Or.inl rfl)) (pss_cons (ps_set (i := 2) sc_law.nd rfl (Or.inl rfl) (pe_call G_l_well (hr.mono (by decide)) rfl T.m_l_well T.k_l_well T.b_l_well .nil pass0 (pa_cons (pv 0) (pa_cons (pv 1) pa_nil))))
      (pss_cons (ps_set (i := 3) sc_law.nd rfl (Or.inl rfl) (pe_call G_l_take (hr.mono (by decide)) rfl T.m_l_take T.k_l_take T.b_l_take .nil pass0 (pa_cons (pv 2) (pa_cons pe_int pa_nil))))
      (pss_cons (ps_set (i := 4) sc_law.nd rfl (Or.inl rfl) (pe_lst (pa_cons (pe_ix (show IxR _ (rIx K) from ix_seq) (pe_lst (pa_cons pe_int (pa_cons pe_int pa_nil))) (pe_call G_l_take (hr.mono (by decide)) rfl T.m_l_take T.k_l_take T.b_l_take .nil pass0 (pa_cons (pv 2) (pa_cons pe_int pa_nil))) (fun _ _ => rfl)) (pa_cons (pe_ix (show IxR _ (rIx K) from ix_seq) (pe_lst (pa_cons pe_int (pa_cons pe_int pa_nil))) (pe_call G_l_take (hr.mono (by decide)) rfl T.m_l_take T.k_l_take T.b_l_take .nil pass0 (pa_cons (pv 2) (pa_cons pe_int pa_nil))) (fun _ _ => rfl)) pa_nil))))
      (pss_cons (ps_set (i := 5) sc_law.nd rfl (Or.inl rfl) (pe_tup (pa_cons (pe_call G_l_blades (hr.mono (by decide)) rfl T.m_l_blades T.k_l_blades T.b_l_blades .nil pass0 (pa_cons (pv 2) pa_nil)) (pa_cons (pe_ix (show IxR _ (rIx K) from ix_seq) (pv 4) pe_int (fun _ _ => rfl)) pa_nil))))
      (pss_cons (ps_set (i := 6) sc_law.nd rfl (Or.inl rfl) (pe_op (show OpR _ (binaryOp .Add) (uAdd K) from uo_add) (pe_ix (show IxR _ (rIx K) from ix_seq) (pv 5) pe_int (fun _ _ => rfl)) (pe_ix (show IxR _ (rIx K) from ix_seq) (pe_lst (pa_cons pe_int (pa_cons (pe_un un_neg pe_int) pa_nil))) (pe_callTy uc_int (by rfl) T.z_int (by decide +kernel) (pa_cons (pe_cmpR (show OpR _ (compareOp .Eq) (uEq K) from (uo_eq hr.units)) (pe_ix (show IxR _ (rIx K) from ix_seq) (pv 5) pe_int (fun _ _ => rfl)) (pe_op op_pow pe_int pe_int) (nomark _)) pa_nil)) (fun _ _ => rfl))))
      (pss_cons (ps_set (i := 7) sc_law.nd rfl (Or.inl rfl) (pe_tup (pa_cons (pe_ix (show IxR _ (rIx K) from ix_seq) (pe_lst (pa_cons (pe_ix (show IxR _ (rIx K) from ix_seq) (pv 5) pe_int (fun _ _ => rfl)) (pa_cons (pv 6) (pa_cons (pe_call G_l_blades (hr.mono (by decide)) rfl T.m_l_blades T.k_l_blades T.b_l_blades .nil pass0 (pa_cons (pv 2) pa_nil)) (pa_cons (pe_ix (show IxR _ (rIx K) from ix_seq) (pv 5) pe_int (fun _ _ => rfl)) pa_nil))))) (pv 3) (fun _ _ => rfl)) (pa_cons (pe_ix (show IxR _ (rIx K) from ix_seq) (pv 4) pe_int (fun _ _ => rfl)) pa_nil))))
      (pss_cons (ps_for PassesOwn.never rfl (pi_seq (pe_tup (pa_cons (pv 5) (pa_cons (pv 7) (pa_cons (pv 5) pa_nil))))) (pg_tup rfl (pgs_cons (pg_name (i := 8) sc_law.nd rfl (Or.inl rfl)) (pgs_cons (pg_name (i := 9) sc_law.nd rfl (Or.inl rfl)) pgs_nil))) (pss_one (ps_if (PW.pt (pw_or (pt_not (pt_val (pe_callG G_l_shown_right hg (hr.mono (by decide)) rfl T.m_l_shown_right T.k_l_shown_right T.b_l_shown_right .nil pass0 (pa_cons (pv 8) (pa_cons (pv 9) pa_nil))))) (pw_or1 (pt_not (pt_val (pe_callG G_l_unlike_right hg (hr.mono (by decide)) rfl T.m_l_unlike_right T.k_l_unlike_right T.b_l_unlike_right .nil pass0 (pa_cons (pv 8) (pa_cons (pv 9) pa_nil)))))))) (pss_one (ps_ret pe_bl)) pss_nil)))
      (pss_one (ps_if (PW.pt (pw_or (pt_not (pt_val (pe_callG G_l_equal_right hg (hr.mono (by decide)) rfl T.m_l_equal_right T.k_l_equal_right T.b_l_equal_right .nil pass0 (pa_cons (pv 5) (pa_cons (pv 7) pa_nil))))) (pw_or (pt_not (pt_val (pe_callG G_l_equal_right hg (hr.mono (by decide)) rfl T.m_l_equal_right T.k_l_equal_right T.b_l_equal_right .nil pass0 (pa_cons (pv 7) (pa_cons (pv 5) pa_nil))))) (pw_or1 (pt_not (pt_val (pe_callG G_l_equal_right hg (hr.mono (by decide)) rfl T.m_l_equal_right T.k_l_equal_right T.b_l_equal_right .nil pass0 (pa_cons (pv 5) (pa_cons (pv 5) pa_nil))))))))) (pss_one (ps_ret pe_bl)) pss_nil))))))))))
      (pss_one (ps_ret pe_bl))), ?_⟩
    simp only [cxOf, Cx.nox, Cx.wish, Cx.blk, startD, List.map, List.length_cons, List.length_nil, Nat.reduceAdd, Nat.reduceSub, List.replicate, List.cons_append, List.nil_append]
    walk_at "go"
    refine st_for ?_
    walk_at "go"
    rw [List.length_map]
    obtain ⟨N, hN, hN1⟩ : ∃ N : Int, (if (if 6 < ((ns.length : Nat) : Int) then 6 else ((ns.length : Nat) : Int)) > 2 then (if 6 < ((ns.length : Nat) : Int) then 6 else ((ns.length : Nat) : Int)) else 2) = N ∧ 1 ≤ N ∧ N ≤ 8 := ⟨_, rfl, by split <;> split <;> omega⟩
    rw [hN]
    clear hN
    refine ⟨by omega, by omega, ?_⟩
    refine ⟨fun i Δ' G' L' => G' = [] ∧ L' = [] ∧ ∃ s1 s2 s3 s4 s5 s6 s7 s8 s9, Δ' = [some (.d (.scr ns)), s1, s2, s3, s4, s5, s6, s7, s8, s9], ⟨rfl, rfl, _, _, _, _, _, _, _, _, _, rfl⟩, ?_, ?_⟩
    · rintro i d Δ' G' L' hd ⟨rfl, rfl, s1, s2, s3, s4, s5, s6, s7, s8, s9, rfl⟩
      obtain ⟨hi, rfl⟩ := rngD_get hd
      have hi8 : i < 8 := by omega
      walk_at "go"
      first | refine ⟨ns, _, rfl, hl, hb, ⟨by omega, by omega⟩, fun a b ok => ?_⟩ | refine ⟨hl, hb, ⟨by omega, by omega⟩, fun a b ok => ?_⟩
      refine ⟨_, _, rfl, ?_⟩
      have hw : WlR [] [wlM a b 0] 0 := ⟨a, b, 0, rfl, ok⟩
      show StC K _ [some (.d (.scr ns)), some (.d (.int (0 + (i : Int)))), some (.l 0), s3, s4, s5, s6, s7, s8, s9] [] [wlM a b 0] _
      generalize [wlM a b 0] = L at hw
      have dz : ∀ r : Int, 0 ≤ r → r < 2 → ∃ b : Nat, (b = 12 ∨ b = 14) ∧ atI [D.int 12, D.int 14] r = some (.int (b : Int)) := fun r h0 h1 => by
        have : r = 0 ∨ r = 1 := by omega
        rcases this with rfl | rfl
        · exact ⟨12, .inl rfl, rfl⟩
        · exact ⟨14, .inr rfl, rfl⟩
      walk_at "go"
      first | refine ⟨_, rfl, rfl, rfl, by omega, by omega, by omega, ?_⟩ | refine ⟨rfl, rfl, by omega, by omega, by omega, ?_⟩ | refine ⟨by omega, by omega, by omega, ?_⟩
      intro r1 L1 a1 b1 hw1
      walk_at "go"
      refine ⟨rfl, rfl, by omega, by omega, by omega, ?_⟩
      intro r2 L2 a2 b2 hw2
      obtain ⟨d1, hd1, hdr⟩ := dz r2 a2 b2
      refine u_ix_g (x := .d (.lst _)) rfl (d := .int (d1 : Int)) hdr ?_
      walk_at "go"
      refine ⟨rfl, rfl, by omega, by omega, by omega, ?_⟩
      intro r3 L3 a3 b3 hw3
      obtain ⟨d2, hd2, hdr2⟩ := dz r3 a3 b3
      refine u_ix_g (x := .d (.lst _)) rfl (d := .int (d2 : Int)) hdr2 ?_
      walk_at "go"
      refine ⟨rfl, rfl, rfl, by omega, ?_⟩
      intro p L4 p0 p1 hw4
      obtain ⟨n, rfl⟩ : ∃ n : Nat, p = (n : Int) := ⟨p.toNat, by omega⟩
      have hn : n ≤ 1000000 := by omega
      obtain ⟨m, hm, hmc⟩ : ∃ m : Nat, m ≤ 1000000 ∧ ((n = 1000000 ∧ (n : Int) + -1 = m) ∨ (n ≠ 1000000 ∧ (n : Int) + 1 = m)) := by
        by_cases h : n = 1000000
        · exact ⟨n - 1, by omega, .inl ⟨h, by omega⟩⟩
        · exact ⟨n + 1, by omega, .inr ⟨h, by omega⟩⟩
      walk_at "go"
      refine u_ix_g (x := .d (.lst _)) rfl (d := .int ((m : Int) - n)) ?_ ?_
      · rcases hmc with ⟨h, h2⟩ | ⟨h, h2⟩
        · rw [if_pos (decide_eq_true (by omega)), ← h2, show (n : Int) + -1 - n = -1 by omega]
          rfl
        · rw [if_neg (by rw [decide_eq_false (by omega)]; decide), ← h2, show (n : Int) + 1 - n = 1 by omega]
          rfl
      clear hmc
      walk_at "go"
      rw [show (n : Int) + ((m : Int) - n) = m by omega]
      refine ⟨rfl, rfl, rfl, by omega, ?_⟩
      intro p2 L5 p20 p21 hw5
      obtain ⟨n2, rfl⟩ : ∃ n : Nat, p2 = (n : Int) := ⟨p2.toNat, by omega⟩
      obtain ⟨r, hr, hrc⟩ : ∃ r : Nat, r ≤ 1000000 ∧ ((r1 = 0 ∧ r = n) ∨ (r1 = 1 ∧ r = m) ∨ (r1 = 2 ∧ r = n2) ∨ (r1 = 3 ∧ r = n)) := by
        have : r1 = 0 ∨ r1 = 1 ∨ r1 = 2 ∨ r1 = 3 := by omega
        rcases this with h | h | h | h
        · exact ⟨n, by omega, .inl ⟨h, rfl⟩⟩
        · exact ⟨m, by omega, .inr (.inl ⟨h, rfl⟩)⟩
        · exact ⟨n2, by omega, .inr (.inr (.inl ⟨h, rfl⟩))⟩
        · exact ⟨n, by omega, .inr (.inr (.inr ⟨h, rfl⟩))⟩
      walk_at "go"
      refine u_ix_g (x := .d (.lst _)) rfl (d := .int (r : Int)) (by rcases hrc with ⟨rfl, rfl⟩ | ⟨rfl, rfl⟩ | ⟨rfl, rfl⟩ | ⟨rfl, rfl⟩ <;> rfl) ?_
      clear hrc
      rcases hw5 with ⟨wa, wb, wc, rfl, _⟩
      walk_at "go"
      refine st_frz 0 ⟨_, _, rfl, rfl, ?_⟩
      show StC K _ _ [] [] _
      have h1 : RowT (n, d1) := ⟨hn, hd1⟩
      have h2 : RowT (r, d2) := ⟨hr, hd2⟩
      refine st_slots (fun Δ' => ∃ t2 t3 t4 t6 t8 t9, Δ' = [some (.d (.scr ns)), some (.d (.int (0 + (i : Int)))), t2, t3, t4, some (.d (rowT (n, d1))), t6, some (.d (rowT (r, d2))), t8, t9]) ⟨_, _, _, _, _, _, rfl⟩ ?_
      rintro Δ' ⟨t2, t3, t4, t6, t8, t9, rfl⟩
      refine st_for ?_
      walk_at "go"
      refine ⟨fun j Δ' G' L' => G' = [] ∧ L' = [] ∧ ∃ u8 u9, Δ' = [some (.d (.scr ns)), some (.d (.int (0 + (i : Int)))), t2, t3, t4, some (.d (rowT (n, d1))), t6, some (.d (rowT (r, d2))), u8, u9], ⟨rfl, rfl, _, _, rfl⟩, ?_, ?_⟩
      · rintro j d Δ' G' L' hd2 ⟨rfl, rfl, u8, u9, rfl⟩
        obtain ⟨x, y, rfl, hx, hy⟩ : ∃ x y : Nat, d = .tup [.int (x : Int), .int (y : Int)] ∧ x ≤ 1000000 ∧ (y = 12 ∨ y = 14) := by
          rcases j with _ | _ | _ | j
          · cases hd2
            exact ⟨n, d1, rfl, h1.1, h1.2⟩
          · cases hd2
            exact ⟨r, d2, rfl, h2.1, h2.2⟩
          · cases hd2
            exact ⟨n, d1, rfl, h1.1, h1.2⟩
          · cases hd2
        walk_at "go"
        first | refine ⟨hy, hx, ?_⟩ | refine ⟨x, y, rfl, hy, hx, ?_⟩
        dsimp only [asV]
        walk_at "go"
        first | refine ⟨hy, hx, ?_⟩ | refine ⟨x, y, rfl, hy, hx, ?_⟩
        dsimp only [asV]
        walk_at "go"
        exact ⟨rfl, rfl, _, _, rfl⟩
      · rintro Δ' G' L' ⟨rfl, rfl, u8, u9, rfl⟩
        walk_at "go"
        first | refine ⟨h1, h2, ?_⟩ | refine ⟨(n, d1), (r, d2), rfl, h1, h2, ?_⟩
        dsimp only [asV]
        walk_at "go"
        first | refine ⟨h2, h1, ?_⟩ | refine ⟨(r, d2), (n, d1), rfl, h2, h1, ?_⟩
        dsimp only [asV]
        walk_at "go"
        first | refine ⟨h1, h1, ?_⟩ | refine ⟨(n, d1), (n, d1), rfl, h1, h1, ?_⟩
        dsimp only [asV]
        walk_at "go"
        exact ⟨rfl, rfl, _, _, _, _, _, _, _, _, _, rfl⟩
    · rintro Δ' G' L' ⟨rfl, rfl, s1, s2, s3, s4, s5, s6, s7, s8, s9, rfl⟩
      walk_at "go"
      exact q
end
end Pf
namespace Pf
open PySem L2 DL
theorem all_mk {l : PySem.W.OpenLaw} {w : World} {K : PySem.W.Frag} {h : Heap} {mg : Str → Option Value} {fa : Addr} (X : K.In h) (G : h.Ns mainGlobals mg) (hfa : mg "law" = some (.ref fa))
    {f_Money : Addr} (a_Money : PySem.W.nsIn K mainGlobals "Money" = some (some (.ref f_Money)))
    (pg_Money : PySem.W.plainGet K f_Money Str.empty = true) (hd_Money : PySem.W.hasDictIn K f_Money = true) (po_Money : PySem.W.plainOver K f_Money = true) (sa_Money : PySem.W.findIn K (.ref f_Money) "__setattr__" = some (some (.builtin "object.__setattr__"))) (mk_Money : PySem.W.makesIn K f_Money = true) (kc_Money : PySem.W.keepIn K (.ref f_Money) = true)
    (nf_Money_pence : PySem.W.findIn K (.ref f_Money) "pence" = some none)
    (ha_Money : PySem.W.findIn K (.ref f_Money) "__class__" = some (some (.builtin "object.__class__"))) (hn_Money : PySem.W.specialIn K (.builtin "object.__class__") "__get__" = some (some (.builtin "getset_descriptor.__get__"))) (ht_Money : PySem.W.takesIn K (.builtin "object.__class__") = some true) (hm_Money : PySem.W.mroIn K f_Money (.type "object") = some true)
    (mr_Money_NoneType : PySem.W.mroIn K f_Money (.type "NoneType") = some false)
    (mr_Money_bool : PySem.W.mroIn K f_Money (.type "bool") = some false)
    (mr_Money_int : PySem.W.mroIn K f_Money (.type "int") = some false)
    (mr_Money_str : PySem.W.mroIn K f_Money (.type "str") = some false)
    (mr_Money_tuple : PySem.W.mroIn K f_Money (.type "tuple") = some false)
    (mr_Money_list : PySem.W.mroIn K f_Money (.type "list") = some false)
    (mr_Money_dict : PySem.W.mroIn K f_Money (.type "dict") = some false)
    (iq_Money : PySem.W.isClsIn K f_Money = true) (tq_Money : PySem.W.typeIn K (.ref f_Money) = some (.type "type")) (sq_Money : PySem.W.subIn K (.ref f_Money) (.ref f_Money) = some true) (fm_Money : PySem.W.findIn K (.ref f_Money) "__format__" = some (some (.builtin "object.__format__")))
    (ne_Money : PySem.W.findIn K (.ref f_Money) "__ne__" = some (some (.builtin "object.__ne__")))
    {f_Tally : Addr} (a_Tally : PySem.W.nsIn K mainGlobals "Tally" = some (some (.ref f_Tally)))
    (pg_Tally : PySem.W.plainGet K f_Tally Str.empty = true) (hd_Tally : PySem.W.hasDictIn K f_Tally = true) (po_Tally : PySem.W.plainOver K f_Tally = true) (sa_Tally : PySem.W.findIn K (.ref f_Tally) "__setattr__" = some (some (.builtin "object.__setattr__"))) (mk_Tally : PySem.W.makesIn K f_Tally = true) (kc_Tally : PySem.W.keepIn K (.ref f_Tally) = true)
    (nf_Tally_blades : PySem.W.findIn K (.ref f_Tally) "blades" = some none)
    (nf_Tally_dozen : PySem.W.findIn K (.ref f_Tally) "dozen" = some none)
    (bz_Tally : PySem.W.findIn K (.ref f_Tally) "__bool__" = some none)
    (ha_Tally : PySem.W.findIn K (.ref f_Tally) "__class__" = some (some (.builtin "object.__class__"))) (hn_Tally : PySem.W.specialIn K (.builtin "object.__class__") "__get__" = some (some (.builtin "getset_descriptor.__get__"))) (ht_Tally : PySem.W.takesIn K (.builtin "object.__class__") = some true) (hm_Tally : PySem.W.mroIn K f_Tally (.type "object") = some true)
    (mr_Tally_NoneType : PySem.W.mroIn K f_Tally (.type "NoneType") = some false)
    (mr_Tally_bool : PySem.W.mroIn K f_Tally (.type "bool") = some false)
    (mr_Tally_int : PySem.W.mroIn K f_Tally (.type "int") = some false)
    (mr_Tally_str : PySem.W.mroIn K f_Tally (.type "str") = some false)
    (mr_Tally_tuple : PySem.W.mroIn K f_Tally (.type "tuple") = some false)
    (mr_Tally_list : PySem.W.mroIn K f_Tally (.type "list") = some false)
    (mr_Tally_dict : PySem.W.mroIn K f_Tally (.type "dict") = some false)
    (iq_Tally : PySem.W.isClsIn K f_Tally = true) (tq_Tally : PySem.W.typeIn K (.ref f_Tally) = some (.type "type")) (sq_Tally : PySem.W.subIn K (.ref f_Tally) (.ref f_Tally) = some true) (fm_Tally : PySem.W.findIn K (.ref f_Tally) "__format__" = some (some (.builtin "object.__format__")))
    (ne_Tally : PySem.W.findIn K (.ref f_Tally) "__ne__" = some (some (.builtin "object.__ne__")))
    (su_Tally_Money : PySem.W.subIn K (.ref f_Money) (.ref f_Tally) = some false)
    (su_Money_Tally : PySem.W.subIn K (.ref f_Tally) (.ref f_Money) = some false)
    {f_l_well : Addr} {od_l_well an_l_well : Option Addr} {sl_l_well : Array (Option Value)} {oc_l_well kV_l_well dc_l_well pm_l_well cd_l_well ct_l_well : Value}
    (a_l_well : PySem.W.nsIn K mainGlobals "_law_well" = some (some (.ref f_l_well))) (l_l_well : K.lookup f_l_well = some ⟨oc_l_well, od_l_well, .func (PySem.W.fnOf "_law_well" "_law_well" (defArgs s_l_well) (defBody s_l_well) (defScope s_l_well) .none kV_l_well dc_l_well pm_l_well an_l_well cd_l_well ct_l_well), sl_l_well⟩) (c_l_well : PySem.W.codeIn K cd_l_well "_law_well" = true) (k_l_well : PySem.W.keepIn K (.ref f_l_well) = true)
    {f_l_take : Addr} {od_l_take an_l_take : Option Addr} {sl_l_take : Array (Option Value)} {oc_l_take kV_l_take dc_l_take pm_l_take cd_l_take ct_l_take : Value}
    (a_l_take : PySem.W.nsIn K mainGlobals "_law_take" = some (some (.ref f_l_take))) (l_l_take : K.lookup f_l_take = some ⟨oc_l_take, od_l_take, .func (PySem.W.fnOf "_law_take" "_law_take" (defArgs s_l_take) (defBody s_l_take) (defScope s_l_take) .none kV_l_take dc_l_take pm_l_take an_l_take cd_l_take ct_l_take), sl_l_take⟩) (c_l_take : PySem.W.codeIn K cd_l_take "_law_take" = true) (k_l_take : PySem.W.keepIn K (.ref f_l_take) = true)
    {f_l_blades : Addr} {od_l_blades an_l_blades : Option Addr} {sl_l_blades : Array (Option Value)} {oc_l_blades kV_l_blades dc_l_blades pm_l_blades cd_l_blades ct_l_blades : Value}
    (a_l_blades : PySem.W.nsIn K mainGlobals "_law_blades" = some (some (.ref f_l_blades))) (l_l_blades : K.lookup f_l_blades = some ⟨oc_l_blades, od_l_blades, .func (PySem.W.fnOf "_law_blades" "_law_blades" (defArgs s_l_blades) (defBody s_l_blades) (defScope s_l_blades) .none kV_l_blades dc_l_blades pm_l_blades an_l_blades cd_l_blades ct_l_blades), sl_l_blades⟩) (c_l_blades : PySem.W.codeIn K cd_l_blades "_law_blades" = true) (k_l_blades : PySem.W.keepIn K (.ref f_l_blades) = true)
    {f_Money___init__ : Addr} {od_Money___init__ an_Money___init__ : Option Addr} {sl_Money___init__ : Array (Option Value)} {oc_Money___init__ kV_Money___init__ dc_Money___init__ pm_Money___init__ cd_Money___init__ ct_Money___init__ : Value}
    (a_Money___init__ : PySem.W.findIn K (.ref f_Money) "__init__" = some (some (.ref f_Money___init__))) (fn_Money___init__ : PySem.W.isFn K (.ref f_Money___init__) = true) (l_Money___init__ : K.lookup f_Money___init__ = some ⟨oc_Money___init__, od_Money___init__, .func (PySem.W.fnOf "__init__" "Money.__init__" (defArgs s_Money___init__) (defBody s_Money___init__) (defScope s_Money___init__) .none kV_Money___init__ dc_Money___init__ pm_Money___init__ an_Money___init__ cd_Money___init__ ct_Money___init__), sl_Money___init__⟩) (c_Money___init__ : PySem.W.codeIn K cd_Money___init__ "Money.__init__" = true) (k_Money___init__ : PySem.W.keepIn K (.ref f_Money___init__) = true)
    {f_Tally___init__ : Addr} {od_Tally___init__ an_Tally___init__ : Option Addr} {sl_Tally___init__ : Array (Option Value)} {oc_Tally___init__ kV_Tally___init__ dc_Tally___init__ pm_Tally___init__ cd_Tally___init__ ct_Tally___init__ : Value}
    {td_Tally___init__ : Addr} {ot_Tally___init__ : Value} {oe_Tally___init__ : Option Addr} {on_Tally___init__ : Nat} {ol_Tally___init__ : Array (Option Value)}
    (a_Tally___init__ : PySem.W.findIn K (.ref f_Tally) "__init__" = some (some (.ref f_Tally___init__))) (fn_Tally___init__ : PySem.W.isFn K (.ref f_Tally___init__) = true) (l_Tally___init__ : K.lookup f_Tally___init__ = some ⟨oc_Tally___init__, od_Tally___init__, .func (PySem.W.fnOf "__init__" "Tally.__init__" (defArgs s_Tally___init__) (defBody s_Tally___init__) (defScope s_Tally___init__) (.ref td_Tally___init__) kV_Tally___init__ dc_Tally___init__ pm_Tally___init__ an_Tally___init__ cd_Tally___init__ ct_Tally___init__), sl_Tally___init__⟩) (c_Tally___init__ : PySem.W.codeIn K cd_Tally___init__ "Tally.__init__" = true) (k_Tally___init__ : PySem.W.keepIn K (.ref f_Tally___init__) = true)
    {tk0_Tally___init__ : Tok}
    (lt_Tally___init__ : K.lookup td_Tally___init__ = some ⟨ot_Tally___init__, oe_Tally___init__, .seq #[Value.int 12 tk0_Tally___init__] on_Tally___init__, ol_Tally___init__⟩)
    {f_Money___eq__ : Addr} {od_Money___eq__ an_Money___eq__ : Option Addr} {sl_Money___eq__ : Array (Option Value)} {oc_Money___eq__ kV_Money___eq__ dc_Money___eq__ pm_Money___eq__ cd_Money___eq__ ct_Money___eq__ : Value}
    (a_Money___eq__ : PySem.W.findIn K (.ref f_Money) "__eq__" = some (some (.ref f_Money___eq__))) (fn_Money___eq__ : PySem.W.isFn K (.ref f_Money___eq__) = true) (l_Money___eq__ : K.lookup f_Money___eq__ = some ⟨oc_Money___eq__, od_Money___eq__, .func (PySem.W.fnOf "__eq__" "Money.__eq__" (defArgs s_Money___eq__) (defBody s_Money___eq__) (defScope s_Money___eq__) .none kV_Money___eq__ dc_Money___eq__ pm_Money___eq__ an_Money___eq__ cd_Money___eq__ ct_Money___eq__), sl_Money___eq__⟩) (c_Money___eq__ : PySem.W.codeIn K cd_Money___eq__ "Money.__eq__" = true) (k_Money___eq__ : PySem.W.keepIn K (.ref f_Money___eq__) = true)
    {f_Tally___eq__ : Addr} {od_Tally___eq__ an_Tally___eq__ : Option Addr} {sl_Tally___eq__ : Array (Option Value)} {oc_Tally___eq__ kV_Tally___eq__ dc_Tally___eq__ pm_Tally___eq__ cd_Tally___eq__ ct_Tally___eq__ : Value}
    (a_Tally___eq__ : PySem.W.findIn K (.ref f_Tally) "__eq__" = some (some (.ref f_Tally___eq__))) (fn_Tally___eq__ : PySem.W.isFn K (.ref f_Tally___eq__) = true) (l_Tally___eq__ : K.lookup f_Tally___eq__ = some ⟨oc_Tally___eq__, od_Tally___eq__, .func (PySem.W.fnOf "__eq__" "Tally.__eq__" (defArgs s_Tally___eq__) (defBody s_Tally___eq__) (defScope s_Tally___eq__) .none kV_Tally___eq__ dc_Tally___eq__ pm_Tally___eq__ an_Tally___eq__ cd_Tally___eq__ ct_Tally___eq__), sl_Tally___eq__⟩) (c_Tally___eq__ : PySem.W.codeIn K cd_Tally___eq__ "Tally.__eq__" = true) (k_Tally___eq__ : PySem.W.keepIn K (.ref f_Tally___eq__) = true)
    {f_Tally___len__ : Addr} {od_Tally___len__ an_Tally___len__ : Option Addr} {sl_Tally___len__ : Array (Option Value)} {oc_Tally___len__ kV_Tally___len__ dc_Tally___len__ pm_Tally___len__ cd_Tally___len__ ct_Tally___len__ : Value}
    (a_Tally___len__ : PySem.W.findIn K (.ref f_Tally) "__len__" = some (some (.ref f_Tally___len__))) (fn_Tally___len__ : PySem.W.isFn K (.ref f_Tally___len__) = true) (l_Tally___len__ : K.lookup f_Tally___len__ = some ⟨oc_Tally___len__, od_Tally___len__, .func (PySem.W.fnOf "__len__" "Tally.__len__" (defArgs s_Tally___len__) (defBody s_Tally___len__) (defScope s_Tally___len__) .none kV_Tally___len__ dc_Tally___len__ pm_Tally___len__ an_Tally___len__ cd_Tally___len__ ct_Tally___len__), sl_Tally___len__⟩) (c_Tally___len__ : PySem.W.codeIn K cd_Tally___len__ "Tally.__len__" = true) (k_Tally___len__ : PySem.W.keepIn K (.ref f_Tally___len__) = true)
    {f_Tally_whole : Addr} {od_Tally_whole an_Tally_whole : Option Addr} {sl_Tally_whole : Array (Option Value)} {oc_Tally_whole kV_Tally_whole dc_Tally_whole pm_Tally_whole cd_Tally_whole ct_Tally_whole : Value}
    (a_Tally_whole : PySem.W.findIn K (.ref f_Tally) "whole" = some (some (.ref f_Tally_whole))) (fn_Tally_whole : PySem.W.isFn K (.ref f_Tally_whole) = true) (l_Tally_whole : K.lookup f_Tally_whole = some ⟨oc_Tally_whole, od_Tally_whole, .func (PySem.W.fnOf "whole" "Tally.whole" (defArgs s_Tally_whole) (defBody s_Tally_whole) (defScope s_Tally_whole) .none kV_Tally_whole dc_Tally_whole pm_Tally_whole an_Tally_whole cd_Tally_whole ct_Tally_whole), sl_Tally_whole⟩) (c_Tally_whole : PySem.W.codeIn K cd_Tally_whole "Tally.whole" = true) (k_Tally_whole : PySem.W.keepIn K (.ref f_Tally_whole) = true)
    {f_Tally_loose : Addr} {od_Tally_loose an_Tally_loose : Option Addr} {sl_Tally_loose : Array (Option Value)} {oc_Tally_loose kV_Tally_loose dc_Tally_loose pm_Tally_loose cd_Tally_loose ct_Tally_loose : Value}
    (a_Tally_loose : PySem.W.findIn K (.ref f_Tally) "loose" = some (some (.ref f_Tally_loose))) (fn_Tally_loose : PySem.W.isFn K (.ref f_Tally_loose) = true) (l_Tally_loose : K.lookup f_Tally_loose = some ⟨oc_Tally_loose, od_Tally_loose, .func (PySem.W.fnOf "loose" "Tally.loose" (defArgs s_Tally_loose) (defBody s_Tally_loose) (defScope s_Tally_loose) .none kV_Tally_loose dc_Tally_loose pm_Tally_loose an_Tally_loose cd_Tally_loose ct_Tally_loose), sl_Tally_loose⟩) (c_Tally_loose : PySem.W.codeIn K cd_Tally_loose "Tally.loose" = true) (k_Tally_loose : PySem.W.keepIn K (.ref f_Tally_loose) = true)
    {f_Tally___str__ : Addr} {od_Tally___str__ an_Tally___str__ : Option Addr} {sl_Tally___str__ : Array (Option Value)} {oc_Tally___str__ kV_Tally___str__ dc_Tally___str__ pm_Tally___str__ cd_Tally___str__ ct_Tally___str__ : Value}
    (a_Tally___str__ : PySem.W.findIn K (.ref f_Tally) "__str__" = some (some (.ref f_Tally___str__))) (fn_Tally___str__ : PySem.W.isFn K (.ref f_Tally___str__) = true) (l_Tally___str__ : K.lookup f_Tally___str__ = some ⟨oc_Tally___str__, od_Tally___str__, .func (PySem.W.fnOf "__str__" "Tally.__str__" (defArgs s_Tally___str__) (defBody s_Tally___str__) (defScope s_Tally___str__) .none kV_Tally___str__ dc_Tally___str__ pm_Tally___str__ an_Tally___str__ cd_Tally___str__ ct_Tally___str__), sl_Tally___str__⟩) (c_Tally___str__ : PySem.W.codeIn K cd_Tally___str__ "Tally.__str__" = true) (k_Tally___str__ : PySem.W.keepIn K (.ref f_Tally___str__) = true)
    {f_Tally___repr__ : Addr} {od_Tally___repr__ an_Tally___repr__ : Option Addr} {sl_Tally___repr__ : Array (Option Value)} {oc_Tally___repr__ kV_Tally___repr__ dc_Tally___repr__ pm_Tally___repr__ cd_Tally___repr__ ct_Tally___repr__ : Value}
    (a_Tally___repr__ : PySem.W.findIn K (.ref f_Tally) "__repr__" = some (some (.ref f_Tally___repr__))) (fn_Tally___repr__ : PySem.W.isFn K (.ref f_Tally___repr__) = true) (l_Tally___repr__ : K.lookup f_Tally___repr__ = some ⟨oc_Tally___repr__, od_Tally___repr__, .func (PySem.W.fnOf "__repr__" "Tally.__repr__" (defArgs s_Tally___repr__) (defBody s_Tally___repr__) (defScope s_Tally___repr__) .none kV_Tally___repr__ dc_Tally___repr__ pm_Tally___repr__ an_Tally___repr__ cd_Tally___repr__ ct_Tally___repr__), sl_Tally___repr__⟩) (c_Tally___repr__ : PySem.W.codeIn K cd_Tally___repr__ "Tally.__repr__" = true) (k_Tally___repr__ : PySem.W.keepIn K (.ref f_Tally___repr__) = true)
    {f_l_parts : Addr} {od_l_parts an_l_parts : Option Addr} {sl_l_parts : Array (Option Value)} {oc_l_parts kV_l_parts dc_l_parts pm_l_parts cd_l_parts ct_l_parts : Value}
    (a_l_parts : PySem.W.nsIn K mainGlobals "_law_parts" = some (some (.ref f_l_parts))) (l_l_parts : K.lookup f_l_parts = some ⟨oc_l_parts, od_l_parts, .func (PySem.W.fnOf "_law_parts" "_law_parts" (defArgs s_l_parts) (defBody s_l_parts) (defScope s_l_parts) .none kV_l_parts dc_l_parts pm_l_parts an_l_parts cd_l_parts ct_l_parts), sl_l_parts⟩) (c_l_parts : PySem.W.codeIn K cd_l_parts "_law_parts" = true) (k_l_parts : PySem.W.keepIn K (.ref f_l_parts) = true)
    {f_l_shown_right : Addr} {od_l_shown_right an_l_shown_right : Option Addr} {sl_l_shown_right : Array (Option Value)} {oc_l_shown_right kV_l_shown_right dc_l_shown_right pm_l_shown_right cd_l_shown_right ct_l_shown_right : Value}
    (a_l_shown_right : PySem.W.nsIn K mainGlobals "_law_shown_right" = some (some (.ref f_l_shown_right))) (l_l_shown_right : K.lookup f_l_shown_right = some ⟨oc_l_shown_right, od_l_shown_right, .func (PySem.W.fnOf "_law_shown_right" "_law_shown_right" (defArgs s_l_shown_right) (defBody s_l_shown_right) (defScope s_l_shown_right) .none kV_l_shown_right dc_l_shown_right pm_l_shown_right an_l_shown_right cd_l_shown_right ct_l_shown_right), sl_l_shown_right⟩) (c_l_shown_right : PySem.W.codeIn K cd_l_shown_right "_law_shown_right" = true) (k_l_shown_right : PySem.W.keepIn K (.ref f_l_shown_right) = true)
    {f_l_equal_right : Addr} {od_l_equal_right an_l_equal_right : Option Addr} {sl_l_equal_right : Array (Option Value)} {oc_l_equal_right kV_l_equal_right dc_l_equal_right pm_l_equal_right cd_l_equal_right ct_l_equal_right : Value}
    (a_l_equal_right : PySem.W.nsIn K mainGlobals "_law_equal_right" = some (some (.ref f_l_equal_right))) (l_l_equal_right : K.lookup f_l_equal_right = some ⟨oc_l_equal_right, od_l_equal_right, .func (PySem.W.fnOf "_law_equal_right" "_law_equal_right" (defArgs s_l_equal_right) (defBody s_l_equal_right) (defScope s_l_equal_right) .none kV_l_equal_right dc_l_equal_right pm_l_equal_right an_l_equal_right cd_l_equal_right ct_l_equal_right), sl_l_equal_right⟩) (c_l_equal_right : PySem.W.codeIn K cd_l_equal_right "_law_equal_right" = true) (k_l_equal_right : PySem.W.keepIn K (.ref f_l_equal_right) = true)
    {f_l_unlike_right : Addr} {od_l_unlike_right an_l_unlike_right : Option Addr} {sl_l_unlike_right : Array (Option Value)} {oc_l_unlike_right kV_l_unlike_right dc_l_unlike_right pm_l_unlike_right cd_l_unlike_right ct_l_unlike_right : Value}
    (a_l_unlike_right : PySem.W.nsIn K mainGlobals "_law_unlike_right" = some (some (.ref f_l_unlike_right))) (l_l_unlike_right : K.lookup f_l_unlike_right = some ⟨oc_l_unlike_right, od_l_unlike_right, .func (PySem.W.fnOf "_law_unlike_right" "_law_unlike_right" (defArgs s_l_unlike_right) (defBody s_l_unlike_right) (defScope s_l_unlike_right) .none kV_l_unlike_right dc_l_unlike_right pm_l_unlike_right an_l_unlike_right cd_l_unlike_right ct_l_unlike_right), sl_l_unlike_right⟩) (c_l_unlike_right : PySem.W.codeIn K cd_l_unlike_right "_law_unlike_right" = true) (k_l_unlike_right : PySem.W.keepIn K (.ref f_l_unlike_right) = true)
    {f_law : Addr} {od_law an_law : Option Addr} {sl_law : Array (Option Value)} {oc_law kV_law dc_law pm_law cd_law ct_law : Value}
    (a_law : PySem.W.nsIn K mainGlobals "law" = some (some (.ref f_law))) (l_law : K.lookup f_law = some ⟨oc_law, od_law, .func (PySem.W.fnOf "law" "law" (defArgs s_law) (defBody s_law) (defScope s_law) .none kV_law dc_law pm_law an_law cd_law ct_law), sl_law⟩) (c_law : PySem.W.codeIn K cd_law "law" = true) (k_law : PySem.W.keepIn K (.ref f_law) = true)
    (z_bool : PySem.W.nsIn K mainGlobals "bool" = some none)
    (z_int : PySem.W.nsIn K mainGlobals "int" = some none)
    (z_isinstance : PySem.W.nsIn K mainGlobals "isinstance" = some none)
    (z_len : PySem.W.nsIn K mainGlobals "len" = some none)
    (z_max : PySem.W.nsIn K mainGlobals "max" = some none)
    (z_min : PySem.W.nsIn K mainGlobals "min" = some none)
    (z_range : PySem.W.nsIn K mainGlobals "range" = some none)
    (z_repr : PySem.W.nsIn K mainGlobals "repr" = some none)
    (z_str : PySem.W.nsIn K mainGlobals "str" = some none)
    {f_DOZENS : Addr} (a_DOZENS : PySem.W.nsIn K mainGlobals "DOZENS" = some (some (.ref f_DOZENS)))
    {od_DOZENS : Option Addr} {its_DOZENS : Array Value} {n_DOZENS : Nat} {sl_DOZENS : Array (Option Value)} (lt_DOZENS : K.lookup f_DOZENS = some ⟨.type "tuple", od_DOZENS, .seq its_DOZENS n_DOZENS, sl_DOZENS⟩) (zt_DOZENS : its_DOZENS.size ≤ sizeLine) (v_DOZENS : Vals [.int 12, .int 14] its_DOZENS.toList) :
    ∃ fd : FuncData, (∀ (s : Shared) (v : Value), BindsTo s fd ⟨[v], []⟩ [("_law_script", v)]) ∧ ∀ base : Heap, K.In base → base.Ns mainGlobals mg → FnG l.prog w K mg base 7 fa fd ["_law_script"] (spD K sp_law) := by
  have e := hfa.symm.trans (PySem.W.mg_of X G a_law)
  cases e
  have F_l_well := fun_mk (st := s_l_well) l_l_well c_l_well k_l_well
  have b_l_well := F_l_well.binds (ps := ["_law_script", "_law_k"]) fun _ _ _ _ _ _ us hl => match us, hl with | [_, _], _ => rfl
  have F_l_take := fun_mk (st := s_l_take) l_l_take c_l_take k_l_take
  have b_l_take := F_l_take.binds (ps := ["_law_well_here", "_law_many"]) fun _ _ _ _ _ _ us hl => match us, hl with | [_, _], _ => rfl
  have F_l_blades := fun_mk (st := s_l_blades) l_l_blades c_l_blades k_l_blades
  have b_l_blades := F_l_blades.binds (ps := ["_law_well_here"]) fun _ _ _ _ _ _ us hl => match us, hl with | [_], _ => rfl
  have F_Money___init__ := fun_mk (st := s_Money___init__) l_Money___init__ c_Money___init__ k_Money___init__
  have b_Money___init__ := F_Money___init__.binds (ps := ["self", "pence"]) fun _ _ _ _ _ _ us hl => match us, hl with | [_, _], _ => rfl
  have F_Tally___init__ : FunDf K "__init__" "Tally.__init__" s_Tally___init__ [V.int 12] f_Tally___init__ _ := ⟨⟨_, _, _, _, _, _, _, _, _, _, rfl, l_Tally___init__, c_Tally___init__, .inr ⟨(by intro h; cases h), _, _, [Value.int 12 tk0_Tally___init__], _, rfl, lt_Tally___init__, rfl, (.cons ⟨_, rfl⟩ .nil)⟩, .inl rfl⟩, k_Tally___init__⟩
  obtain ⟨bd_Tally___init__, bv_Tally___init__, b_Tally___init__⟩ := F_Tally___init__.binds1 (ps := ["self", "blades", "dozen"]) 2 0 (by intro h; cases h) rfl fun _ _ _ _ _ _ _ us its hl hi => match us, hl, its, hi with | [_, _], _, [_], _ => ⟨_, rfl, rfl⟩
  obtain ⟨bz_Tally___init__, bw_Tally___init__, bf_Tally___init__⟩ := F_Tally___init__.binds1 (ps := ["self", "blades", "dozen"]) 3 1 (by intro h; cases h) rfl fun _ _ _ _ _ _ _ us its hl hi => match us, hl, its, hi with | [_, _, _], _, [_], _ => ⟨_, rfl, rfl⟩
  cases bw_Tally___init__
  have kb_Tally___init__ := kbn_all (ps := ["self", "blades", "dozen"]) F_Tally___init__ 2 ["dozen"] (by intro h; cases h) fun _ _ _ _ _ _ _ us its ws hl hi hw => match us, hl, its, hi, ws, hw with | [_, _], _, [_], _, [_], _ => ⟨_, rfl, rfl⟩
  have F_Money___eq__ := fun_mk (st := s_Money___eq__) l_Money___eq__ c_Money___eq__ k_Money___eq__
  have b_Money___eq__ := F_Money___eq__.binds (ps := ["self", "other"]) fun _ _ _ _ _ _ us hl => match us, hl with | [_, _], _ => rfl
  have F_Tally___eq__ := fun_mk (st := s_Tally___eq__) l_Tally___eq__ c_Tally___eq__ k_Tally___eq__
  have b_Tally___eq__ := F_Tally___eq__.binds (ps := ["self", "other"]) fun _ _ _ _ _ _ us hl => match us, hl with | [_, _], _ => rfl
  have F_Tally___len__ := fun_mk (st := s_Tally___len__) l_Tally___len__ c_Tally___len__ k_Tally___len__
  have b_Tally___len__ := F_Tally___len__.binds (ps := ["self"]) fun _ _ _ _ _ _ us hl => match us, hl with | [_], _ => rfl
  have F_Tally_whole := fun_mk (st := s_Tally_whole) l_Tally_whole c_Tally_whole k_Tally_whole
  have b_Tally_whole := F_Tally_whole.binds (ps := ["self"]) fun _ _ _ _ _ _ us hl => match us, hl with | [_], _ => rfl
  have F_Tally_loose := fun_mk (st := s_Tally_loose) l_Tally_loose c_Tally_loose k_Tally_loose
  have b_Tally_loose := F_Tally_loose.binds (ps := ["self"]) fun _ _ _ _ _ _ us hl => match us, hl with | [_], _ => rfl
  have F_Tally___str__ := fun_mk (st := s_Tally___str__) l_Tally___str__ c_Tally___str__ k_Tally___str__
  have b_Tally___str__ := F_Tally___str__.binds (ps := ["self"]) fun _ _ _ _ _ _ us hl => match us, hl with | [_], _ => rfl
  have F_Tally___repr__ := fun_mk (st := s_Tally___repr__) l_Tally___repr__ c_Tally___repr__ k_Tally___repr__
  have b_Tally___repr__ := F_Tally___repr__.binds (ps := ["self"]) fun _ _ _ _ _ _ us hl => match us, hl with | [_], _ => rfl
  have F_l_parts := fun_mk (st := s_l_parts) l_l_parts c_l_parts k_l_parts
  have b_l_parts := F_l_parts.binds (ps := ["_law_blades_here", "_law_by"]) fun _ _ _ _ _ _ us hl => match us, hl with | [_, _], _ => rfl
  have F_l_shown_right := fun_mk (st := s_l_shown_right) l_l_shown_right c_l_shown_right k_l_shown_right
  have b_l_shown_right := F_l_shown_right.binds (ps := ["_law_blades_here", "_law_by"]) fun _ _ _ _ _ _ us hl => match us, hl with | [_, _], _ => rfl
  have F_l_equal_right := fun_mk (st := s_l_equal_right) l_l_equal_right c_l_equal_right k_l_equal_right
  have b_l_equal_right := F_l_equal_right.binds (ps := ["_law_one", "_law_other"]) fun _ _ _ _ _ _ us hl => match us, hl with | [_, _], _ => rfl
  have F_l_unlike_right := fun_mk (st := s_l_unlike_right) l_l_unlike_right c_l_unlike_right k_l_unlike_right
  have b_l_unlike_right := F_l_unlike_right.binds (ps := ["_law_blades_here", "_law_by"]) fun _ _ _ _ _ _ us hl => match us, hl with | [_, _], _ => rfl
  have F_law := fun_mk (st := s_law) l_law c_law k_law
  have b_law := F_law.binds (ps := ["_law_script"]) fun _ _ _ _ _ _ us hl => match us, hl with | [_], _ => rfl
  let T : TX w K mg := ⟨_, PySem.W.mg_of X G a_Money, _, PySem.W.mg_of X G a_Tally, _, _, F_l_well, PySem.W.mg_of X G a_l_well, F_l_well.kp, b_l_well, _, _, F_l_take, PySem.W.mg_of X G a_l_take, F_l_take.kp, b_l_take, _, _, F_l_blades, PySem.W.mg_of X G a_l_blades, F_l_blades.kp, b_l_blades, _, _, F_Money___init__, F_Money___init__.kp, b_Money___init__, _, _, F_Tally___init__, F_Tally___init__.kp, _, bv_Tally___init__, b_Tally___init__, bf_Tally___init__, kb_Tally___init__, _, _, F_Money___eq__, F_Money___eq__.kp, b_Money___eq__, ⟨a_Money___eq__, fn_Money___eq__, k_Money___eq__⟩, _, _, F_Tally___eq__, F_Tally___eq__.kp, b_Tally___eq__, ⟨a_Tally___eq__, fn_Tally___eq__, k_Tally___eq__⟩, _, _, F_Tally___len__, F_Tally___len__.kp, b_Tally___len__, ⟨a_Tally___len__, fn_Tally___len__, k_Tally___len__⟩, _, _, F_Tally_whole, F_Tally_whole.kp, b_Tally_whole, ⟨a_Tally_whole, fn_Tally_whole, k_Tally_whole⟩, _, _, F_Tally_loose, F_Tally_loose.kp, b_Tally_loose, ⟨a_Tally_loose, fn_Tally_loose, k_Tally_loose⟩, _, _, F_Tally___str__, F_Tally___str__.kp, b_Tally___str__, ⟨a_Tally___str__, fn_Tally___str__, k_Tally___str__⟩, _, _, F_Tally___repr__, F_Tally___repr__.kp, b_Tally___repr__, ⟨a_Tally___repr__, fn_Tally___repr__, k_Tally___repr__⟩, _, _, F_l_parts, PySem.W.mg_of X G a_l_parts, F_l_parts.kp, b_l_parts, _, _, F_l_shown_right, PySem.W.mg_of X G a_l_shown_right, F_l_shown_right.kp, b_l_shown_right, _, _, F_l_equal_right, PySem.W.mg_of X G a_l_equal_right, F_l_equal_right.kp, b_l_equal_right, _, _, F_l_unlike_right, PySem.W.mg_of X G a_l_unlike_right, F_l_unlike_right.kp, b_l_unlike_right, _, _, F_law, PySem.W.mg_of X G a_law, F_law.kp, b_law, ⟨mk_Money, a_Money___init__, fn_Money___init__, kc_Money⟩, ⟨pg_Money, hd_Money, po_Money, sa_Money⟩, nf_Money_pence, ⟨ha_Money, hn_Money, ht_Money, hm_Money⟩, DEq.eqCls mr_Money_NoneType mr_Money_bool mr_Money_int mr_Money_str mr_Money_tuple mr_Money_list mr_Money_dict a_Money___eq__ fn_Money___eq__, ⟨iq_Money, tq_Money⟩, fm_Money, DEq.nf_own su_Money_Tally, DXe.kit_ref sq_Tally iq_Money tq_Money su_Money_Tally, ne_Money, ⟨mk_Tally, a_Tally___init__, fn_Tally___init__, kc_Tally⟩, ⟨pg_Tally, hd_Tally, po_Tally, sa_Tally⟩, nf_Tally_blades, nf_Tally_dozen, bz_Tally, ⟨ha_Tally, hn_Tally, ht_Tally, hm_Tally⟩, DEq.eqCls mr_Tally_NoneType mr_Tally_bool mr_Tally_int mr_Tally_str mr_Tally_tuple mr_Tally_list mr_Tally_dict a_Tally___eq__ fn_Tally___eq__, ⟨iq_Tally, tq_Tally⟩, fm_Tally, DEq.nf_own su_Tally_Money, DXe.kit_ref sq_Money iq_Tally tq_Tally su_Tally_Money, ne_Tally, PySem.W.mg_none_of X G z_bool, PySem.W.mg_none_of X G z_int, PySem.W.mg_none_of X G z_isinstance, PySem.W.mg_none_of X G z_len, PySem.W.mg_none_of X G z_max, PySem.W.mg_none_of X G z_min, PySem.W.mg_none_of X G z_range, PySem.W.mg_none_of X G z_repr, PySem.W.mg_none_of X G z_str, _, PySem.W.mg_of X G a_DOZENS, ⟨_, _, _, lt_DOZENS, rfl, rfl, zt_DOZENS, v_DOZENS⟩⟩
  refine ⟨T.fd_law, fun s v => .of_eq rfl, fun base _ _ => ?_⟩
  have G_l_well := ok_l_well (P := l.prog) (w := w) (base := base) T
  have G_l_take := ok_l_take (P := l.prog) (w := w) (base := base) T
  have G_l_blades := ok_l_blades (P := l.prog) (w := w) (base := base) T G_l_take
  have G_Money___init__ := ok_Money___init__ (P := l.prog) (w := w) (base := base) T
  have G_Tally___init__ := ok_Tally___init__ (P := l.prog) (w := w) (base := base) T
  have G_Money___eq__ := ok_Money___eq__ (P := l.prog) (w := w) (base := base) T
  have G_Tally___eq__ := ok_Tally___eq__ (P := l.prog) (w := w) (base := base) T
  have G_Tally___len__ := ok_Tally___len__ (P := l.prog) (w := w) (base := base) T
  have G_Tally_whole := ok_Tally_whole (P := l.prog) (w := w) (base := base) T
  have G_Tally_loose := ok_Tally_loose (P := l.prog) (w := w) (base := base) T
  have G_Tally___str__ := ok_Tally___str__ (P := l.prog) (w := w) (base := base) T G_Tally_whole G_Tally_loose
  have G_Tally___repr__ := ok_Tally___repr__ (P := l.prog) (w := w) (base := base) T
  have G_l_parts := ok_l_parts (P := l.prog) (w := w) (base := base) T
  have G_l_shown_right := ok_l_shown_right (P := l.prog) (w := w) (base := base) T G_l_parts G_Tally___init__ G_Tally___len__ G_Tally_whole G_Tally_loose G_Tally___str__ G_Tally___repr__
  have G_l_equal_right := ok_l_equal_right (P := l.prog) (w := w) (base := base) T G_Tally___init__ G_Tally___eq__ G_Money___eq__ G_Money___init__ G_Tally___repr__
  have G_l_unlike_right := ok_l_unlike_right (P := l.prog) (w := w) (base := base) T G_Tally___init__ G_Tally___eq__ G_Money___eq__ G_Money___init__ G_Tally___str__ G_Tally___repr__
  have G_law := ok_law (P := l.prog) (w := w) (base := base) T G_l_well G_l_take G_l_blades G_l_equal_right G_l_shown_right G_l_unlike_right
  exact G_law
theorem walk {l : PySem.W.OpenLaw} {q : Program} {loose : List Str} {XP : (Str → Option Value) → Heap → Prop} {YP : World → Heap → Prop} {d : DefRec} {K : Params → PySem.W.Frag} (hn : l.most = some 63) (hdf : d.params.defaults = [])
    (hY : ∀ (w : World) (h : Heap), YP w h → (K w.params).In h)
    (F : ∀ (w : World) (mg : Str → Option Value) (fa : Addr) (h : Heap), (K w.params).In h → h.Ns mainGlobals mg → mg d.name = some (.ref fa) →
      ∃ fd : FuncData, (∀ (s : Shared) (u : Value), BindsTo s fd ⟨[u], []⟩ [("_law_script", u)]) ∧ ∀ base : Heap, (K w.params).In base → base.Ns mainGlobals mg → FnG l.prog w (K w.params) mg base 7 fa fd ["_law_script"] (spD (K w.params) sp_law)) :
    PySem.W.WalkO q loose XP YP l.row.toRowW d [] (fun f vs => PySem.call f vs) :=
  DL.walk_ofG (n := 63) (k := 7) (x := "_law_script") (sp := fun w => spD (K w.params) sp_law) hn (by decide) hdf ⟨rfl, by decide, by decide⟩ hY F (fun _ _ a ns hl hb hS => law_sp (law_in hl hb) hS)
end Pf
open PySem PySem.W PyProof.Rows in
set_option maxRecDepth 100000 in
set_option maxHeartbeats 0 in
theorem PySem.Challenge.cw_littlemasters_k05_tallies_equal_and_writ_holds : PySem.Challenge.rw_littlemasters_k05_tallies_equal_and_writ.Holds := by
  refine PySem.W.headPf ?_
  k_fill
  refine Pf.walk (l := PySem.Challenge.rw_littlemasters_k05_tallies_equal_and_writ) rfl rfl (fun w h Y => PySem.W.kIn_of Y) ?F
  case F =>
    intro w mg fa h KX G hmg
    refine' Pf.all_mk KX G hmg ?a_Money ?pg_Money ?hd_Money ?po_Money ?sa_Money ?mk_Money ?kc_Money ?nf_Money_pence ?ha_Money ?hn_Money ?ht_Money ?hm_Money ?mr_Money_NoneType ?mr_Money_bool ?mr_Money_int ?mr_Money_str ?mr_Money_tuple ?mr_Money_list ?mr_Money_dict ?iq_Money ?tq_Money ?sq_Money ?fm_Money ?ne_Money ?a_Tally ?pg_Tally ?hd_Tally ?po_Tally ?sa_Tally ?mk_Tally ?kc_Tally ?nf_Tally_blades ?nf_Tally_dozen ?bz_Tally ?ha_Tally ?hn_Tally ?ht_Tally ?hm_Tally ?mr_Tally_NoneType ?mr_Tally_bool ?mr_Tally_int ?mr_Tally_str ?mr_Tally_tuple ?mr_Tally_list ?mr_Tally_dict ?iq_Tally ?tq_Tally ?sq_Tally ?fm_Tally ?ne_Tally ?su_Tally_Money ?su_Money_Tally ?a_l_well ?l_l_well ?c_l_well ?k_l_well ?a_l_take ?l_l_take ?c_l_take ?k_l_take ?a_l_blades ?l_l_blades ?c_l_blades ?k_l_blades ?a_Money___init__ ?fn_Money___init__ ?l_Money___init__ ?c_Money___init__ ?k_Money___init__ ?a_Tally___init__ ?fn_Tally___init__ ?l_Tally___init__ ?c_Tally___init__ ?k_Tally___init__ ?lt_Tally___init__ ?a_Money___eq__ ?fn_Money___eq__ ?l_Money___eq__ ?c_Money___eq__ ?k_Money___eq__ ?a_Tally___eq__ ?fn_Tally___eq__ ?l_Tally___eq__ ?c_Tally___eq__ ?k_Tally___eq__ ?a_Tally___len__ ?fn_Tally___len__ ?l_Tally___len__ ?c_Tally___len__ ?k_Tally___len__ ?a_Tally_whole ?fn_Tally_whole ?l_Tally_whole ?c_Tally_whole ?k_Tally_whole ?a_Tally_loose ?fn_Tally_loose ?l_Tally_loose ?c_Tally_loose ?k_Tally_loose ?a_Tally___str__ ?fn_Tally___str__ ?l_Tally___str__ ?c_Tally___str__ ?k_Tally___str__ ?a_Tally___repr__ ?fn_Tally___repr__ ?l_Tally___repr__ ?c_Tally___repr__ ?k_Tally___repr__ ?a_l_parts ?l_l_parts ?c_l_parts ?k_l_parts ?a_l_shown_right ?l_l_shown_right ?c_l_shown_right ?k_l_shown_right ?a_l_equal_right ?l_l_equal_right ?c_l_equal_right ?k_l_equal_right ?a_l_unlike_right ?l_l_unlike_right ?c_l_unlike_right ?k_l_unlike_right ?a_law ?l_law ?c_law ?k_law ?z_bool ?z_int ?z_isinstance ?z_len ?z_max ?z_min ?z_range ?z_repr ?z_str ?a_DOZENS ?lt_DOZENS ?zt_DOZENS ?v_DOZENS
    (case a_Money => k_is)
    (case pg_Money => k_is)
    (case hd_Money => k_is)
    (case po_Money => k_is)
    (case sa_Money => k_is)
    (case mk_Money => k_is)
    (case kc_Money => k_is)
    (case nf_Money_pence => k_is)
    (case ha_Money => k_is)
    (case hn_Money => k_is)
    (case ht_Money => k_is)
    (case hm_Money => k_is)
    (case mr_Money_NoneType => k_is)
    (case mr_Money_bool => k_is)
    (case mr_Money_int => k_is)
    (case mr_Money_str => k_is)
    (case mr_Money_tuple => k_is)
    (case mr_Money_list => k_is)
    (case mr_Money_dict => k_is)
    (case iq_Money => k_is)
    (case tq_Money => k_is)
    (case sq_Money => first | rfl | k_is)
    (case fm_Money => k_is)
    (case ne_Money => k_is)
    (case a_Tally => k_is)
    (case pg_Tally => k_is)
    (case hd_Tally => k_is)
    (case po_Tally => k_is)
    (case sa_Tally => k_is)
    (case mk_Tally => k_is)
    (case kc_Tally => k_is)
    (case nf_Tally_blades => k_is)
    (case nf_Tally_dozen => k_is)
    (case bz_Tally => k_is)
    (case ha_Tally => k_is)
    (case hn_Tally => k_is)
    (case ht_Tally => k_is)
    (case hm_Tally => k_is)
    (case mr_Tally_NoneType => k_is)
    (case mr_Tally_bool => k_is)
    (case mr_Tally_int => k_is)
    (case mr_Tally_str => k_is)
    (case mr_Tally_tuple => k_is)
    (case mr_Tally_list => k_is)
    (case mr_Tally_dict => k_is)
    (case iq_Tally => k_is)
    (case tq_Tally => k_is)
    (case sq_Tally => first | rfl | k_is)
    (case fm_Tally => k_is)
    (case ne_Tally => k_is)
    (case su_Tally_Money => k_is)
    (case su_Money_Tally => k_is)
    (case a_l_well => k_is)
    (case l_l_well => k_is)
    (case c_l_well => k_is)
    (case k_l_well => k_is)
    (case a_l_take => k_is)
    (case l_l_take => k_is)
    (case c_l_take => k_is)
    (case k_l_take => k_is)
    (case a_l_blades => k_is)
    (case l_l_blades => k_is)
    (case c_l_blades => k_is)
    (case k_l_blades => k_is)
    (case a_Money___init__ => k_is)
    (case fn_Money___init__ => k_is)
    (case l_Money___init__ => k_is)
    (case c_Money___init__ => k_is)
    (case k_Money___init__ => k_is)
    (case a_Tally___init__ => k_is)
    (case fn_Tally___init__ => k_is)
    (case l_Tally___init__ => k_is)
    (case c_Tally___init__ => k_is)
    (case k_Tally___init__ => k_is)
    (case lt_Tally___init__ => k_is)
    (case a_Money___eq__ => k_is)
    (case fn_Money___eq__ => k_is)
    (case l_Money___eq__ => k_is)
    (case c_Money___eq__ => k_is)
    (case k_Money___eq__ => k_is)
    (case a_Tally___eq__ => k_is)
    (case fn_Tally___eq__ => k_is)
    (case l_Tally___eq__ => k_is)
    (case c_Tally___eq__ => k_is)
    (case k_Tally___eq__ => k_is)
    (case a_Tally___len__ => k_is)
    (case fn_Tally___len__ => k_is)
    (case l_Tally___len__ => k_is)
    (case c_Tally___len__ => k_is)
    (case k_Tally___len__ => k_is)
    (case a_Tally_whole => k_is)
    (case fn_Tally_whole => k_is)
    (case l_Tally_whole => k_is)
    (case c_Tally_whole => k_is)
    (case k_Tally_whole => k_is)
    (case a_Tally_loose => k_is)
    (case fn_Tally_loose => k_is)
    (case l_Tally_loose => k_is)
    (case c_Tally_loose => k_is)
    (case k_Tally_loose => k_is)
    (case a_Tally___str__ => k_is)
    (case fn_Tally___str__ => k_is)
    (case l_Tally___str__ => k_is)
    (case c_Tally___str__ => k_is)
    (case k_Tally___str__ => k_is)
    (case a_Tally___repr__ => k_is)
    (case fn_Tally___repr__ => k_is)
    (case l_Tally___repr__ => k_is)
    (case c_Tally___repr__ => k_is)
    (case k_Tally___repr__ => k_is)
    (case a_l_parts => k_is)
    (case l_l_parts => k_is)
    (case c_l_parts => k_is)
    (case k_l_parts => k_is)
    (case a_l_shown_right => k_is)
    (case l_l_shown_right => k_is)
    (case c_l_shown_right => k_is)
    (case k_l_shown_right => k_is)
    (case a_l_equal_right => k_is)
    (case l_l_equal_right => k_is)
    (case c_l_equal_right => k_is)
    (case k_l_equal_right => k_is)
    (case a_l_unlike_right => k_is)
    (case l_l_unlike_right => k_is)
    (case c_l_unlike_right => k_is)
    (case k_l_unlike_right => k_is)
    (case a_law => k_is)
    (case l_law => k_is)
    (case c_law => k_is)
    (case k_law => k_is)
    (case z_bool => k_is)
    (case z_int => k_is)
    (case z_isinstance => k_is)
    (case z_len => k_is)
    (case z_max => k_is)
    (case z_min => k_is)
    (case z_range => k_is)
    (case z_repr => k_is)
    (case z_str => k_is)
    (case a_DOZENS => k_is)
    (case lt_DOZENS => k_is)
    (case zt_DOZENS => decide)
    (case v_DOZENS => exact (.cons ⟨_, rfl⟩ (.cons ⟨_, rfl⟩ .nil)))
