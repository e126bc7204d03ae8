import PyProof.Rows.All
import Wide.All
import OpenK.AllK
import Wide.FinOn
import HandS.ForMost
import HandS.Evl
import HandS.Wide
import HandS.TupAny
import HandS.EndBits
import HandS.Style
import HandS.TryOnly
import HandS.WordsExc
import HandS.WrittenGet
import HandS.IsInst
import HandS.TupMul
import PyProof.NeKinds
import HandS.SortKw
import KE.DataMinMax
import HandS.Zip
import KE.GoesEnumKw
import PyProof.P3In
import HandS.Flow
import HandS.Small
import HandS.WideBits
import HandS.Zip0
import KE.GoesNew
import HandS.StrMore
import PyProof.Rows.SortShellAny
import HandS.SetFor
import HandS.Strs
import KE.KDictCopyH
import PyProof.TupleOfStr
import PyProof.Rows.IntBool
import PyProof.Rows.EqBoolInt
import PyProof.SeqRoads2
import PyProof.SumWalkG
import HandS.CallLocal
import HandS.Conv
import HandS.List
import HandS.Set
import HandS.ExcInit
import HandS.ExcField
import HandS.ExcOwn
import KE.KExcIs
import HandS.ExcIs
import HandS.Iter
import HandS.Defaults
import HandS.More
import PySem.Challenge.RW_littlemasters_k13_worn_marks_otherwise
set_option Elab.async false
set_option linter.all false
set_option pp.maxSteps 600
set_option pp.deepTerms false
set_option maxRecDepth 100000
set_option maxHeartbeats 8000000
namespace DL
open PySem PySem.Spec PyProof.Rows L2

inductive D where
  | non | bl (b : Bool) | int (i : Int) | str (x : Str) | ty (n : String) | ref (a : Addr)
  | scr (ns : List Int)
  | tup (ds : List D) | lst (ds : List D) | dct (kvs : List (Key × D)) | ins (C : Addr) (fs : List (Str × D)) | exn (a dd : Addr) (fs : List (Str × D))

/-- a tuple of the heap outside the region, or of the written part -/
def TupAt (K : PySem.W.Frag) (H : Hp) (R : Addr → Prop) (a : Addr) (xs : List V) : Prop := H a = some (.tup xs) ∧ ¬ R a
def LstAt (K : PySem.W.Frag) (H : Hp) (R : Addr → Prop) (a : Addr) (xs : List V) : Prop := (Rd H a (.lst xs) ∧ ¬ R a) ∨ SqL K (fun _ => none) a xs

mutual
def Rep (K : PySem.W.Frag) (H : Hp) (R : Addr → Prop) : D → V → Prop
  | .non, v => v = .non
  | .bl b, v => v = .bl b
  | .int i, v => v = .int i
  | .str x, v => v = .str x
  | .ty n, v => v = .ty n
  | .ref a, v => v = .ref a
  | .scr ns, v => ∃ a, v = .ref a ∧ LstAt K H R a (ns.map V.int)
  | .tup ds, v => ∃ a xs, v = .ref a ∧ TupAt K H R a xs ∧ RepL K H R ds xs
  | .lst ds, v => ∃ a xs, v = .ref a ∧ (H a = some (.lst xs) ∧ ¬ R a) ∧ RepL K H R ds xs
  | .dct kvs, v => ∃ a ws, v = .ref a ∧ (H a = some (.dK ws) ∧ ¬ R a) ∧ RepK K H R kvs ws
  | .ins C fs, v => ∃ a dx ws, v = .ref a ∧ (H a = some (.ins C dx ws) ∧ ¬ R a) ∧ RepF K H R fs ws
  | .exn a dd fs, v => v = .ref a ∧ ∃ ws, (H dd = some (.xd ws) ∧ ¬ R dd) ∧ RepF K H R fs ws
def RepL (K : PySem.W.Frag) (H : Hp) (R : Addr → Prop) : List D → List V → Prop
  | [], xs => xs = []
  | d :: ds, xs => ∃ y ys, xs = y :: ys ∧ Rep K H R d y ∧ RepL K H R ds ys
def RepK (K : PySem.W.Frag) (H : Hp) (R : Addr → Prop) : List (Key × D) → List (Key × V) → Prop
  | [], xs => xs = []
  | (k, d) :: ds, xs => ∃ y ys, xs = (k, y) :: ys ∧ Rep K H R d y ∧ RepK K H R ds ys
def RepF (K : PySem.W.Frag) (H : Hp) (R : Addr → Prop) : List (Str × D) → List (Str × V) → Prop
  | [], xs => xs = []
  | (k, d) :: ds, xs => ∃ y ys, xs = (k, y) :: ys ∧ Rep K H R d y ∧ RepF K H R ds ys
end

/-- what lies outside the region stays; the region grows by what was not there -/
structure Grow (H H' : Hp) (R R' : Addr → Prop) : Prop where
  keep : ∀ a o, H a = some o → ¬ R a → H' a = some o
  reg : ∀ a o, H a = some o → R' a → R a
theorem Grow.refl (H : Hp) (R : Addr → Prop) : Grow H H R R := ⟨fun _ _ h _ => h, fun _ _ _ h => h⟩
theorem Grow.trans {H H1 H2 : Hp} {R R1 R2 : Addr → Prop} (a : Grow H H1 R R1) (b : Grow H1 H2 R1 R2) : Grow H H2 R R2 := by
  have k : ∀ c o, H c = some o → ¬ R c → H1 c = some o ∧ ¬ R1 c := fun c o h n => ⟨a.keep c o h n, fun r => n (a.reg c o h r)⟩
  refine ⟨fun c o h n => b.keep c o (k c o h n).1 (k c o h n).2, fun c o h r => ?_⟩
  by_cases n : R c
  · exact n
  · obtain ⟨h1, n1⟩ := k c o h n
    exact absurd (b.reg c o h1 r) n1
theorem TupAt.grow {K : PySem.W.Frag} {H H' : Hp} {R R' : Addr → Prop} {a : Addr} {xs : List V} (g : Grow H H' R R') (h : TupAt K H R a xs) : TupAt K H' R' a xs :=
  ⟨g.keep _ _ h.1 h.2, fun r => h.2 (g.reg _ _ h.1 r)⟩
theorem LstAt.grow {K : PySem.W.Frag} {H H' : Hp} {R R' : Addr → Prop} {a : Addr} {xs : List V} (g : Grow H H' R R') (h : LstAt K H R a xs) : LstAt K H' R' a xs := by
  rcases h with ⟨h | ⟨o, h⟩, n⟩ | h
  · exact .inl ⟨.inl (g.keep _ _ h n), fun r => n (g.reg _ _ h r)⟩
  · exact .inl ⟨.inr ⟨o, g.keep _ _ h n⟩, fun r => n (g.reg _ _ h r)⟩
  · exact .inr h
theorem none_rd {a : Addr} {u : HO} (h : Rd (fun _ => none) a u) : False := by
  rcases h with h | ⟨o, h⟩ <;> cases h
theorem TupAt.sq {K : PySem.W.Frag} {H : Hp} {R : Addr → Prop} {a : Addr} {xs : List V} (h : TupAt K H R a xs) : SqT K H a xs := .inl (.inl h.1)
theorem LstAt.sq {K : PySem.W.Frag} {H : Hp} {R : Addr → Prop} {a : Addr} {xs : List V} (h : LstAt K H R a xs) : SqL K H a xs := by
  rcases h with ⟨h, _⟩ | h | h
  · exact .inl h
  · exact (none_rd h).elim
  · exact .inr h

mutual
theorem Rep.grow {K : PySem.W.Frag} {H H' : Hp} {R R' : Addr → Prop} (g : Grow H H' R R') : ∀ {d : D} {v : V}, Rep K H R d v → Rep K H' R' d v
  | .non, _, h => h
  | .bl _, _, h => h
  | .int _, _, h => h
  | .str _, _, h => h
  | .ty _, _, h => h
  | .ref _, _, h => h
  | .scr _, _, ⟨a, e, h⟩ => ⟨a, e, h.grow g⟩
  | .tup _, _, ⟨a, xs, e, h, r⟩ => ⟨a, xs, e, h.grow g, RepL.grow g r⟩
  | .lst _, _, ⟨a, xs, e, ⟨h, n⟩, r⟩ => ⟨a, xs, e, ⟨g.keep _ _ h n, fun z => n (g.reg _ _ h z)⟩, RepL.grow g r⟩
  | .dct _, _, ⟨a, xs, e, ⟨h, n⟩, r⟩ => ⟨a, xs, e, ⟨g.keep _ _ h n, fun z => n (g.reg _ _ h z)⟩, RepK.grow g r⟩
  | .ins _ _, _, ⟨a, dx, xs, e, ⟨h, n⟩, r⟩ => ⟨a, dx, xs, e, ⟨g.keep _ _ h n, fun z => n (g.reg _ _ h z)⟩, RepF.grow g r⟩
  | .exn _ _ _, _, ⟨e, xs, ⟨h, n⟩, r⟩ => ⟨e, xs, ⟨g.keep _ _ h n, fun z => n (g.reg _ _ h z)⟩, RepF.grow g r⟩
theorem RepL.grow {K : PySem.W.Frag} {H H' : Hp} {R R' : Addr → Prop} (g : Grow H H' R R') : ∀ {ds : List D} {vs : List V}, RepL K H R ds vs → RepL K H' R' ds vs
  | [], _, h => h
  | _ :: _, _, ⟨y, ys, e, h, r⟩ => ⟨y, ys, e, Rep.grow g h, RepL.grow g r⟩
theorem RepK.grow {K : PySem.W.Frag} {H H' : Hp} {R R' : Addr → Prop} (g : Grow H H' R R') : ∀ {ds : List (Key × D)} {vs : List (Key × V)}, RepK K H R ds vs → RepK K H' R' ds vs
  | [], _, h => h
  | (_, _) :: _, _, ⟨y, ys, e, h, r⟩ => ⟨y, ys, e, Rep.grow g h, RepK.grow g r⟩
theorem RepF.grow {K : PySem.W.Frag} {H H' : Hp} {R R' : Addr → Prop} (g : Grow H H' R R') : ∀ {ds : List (Str × D)} {vs : List (Str × V)}, RepF K H R ds vs → RepF K H' R' ds vs
  | [], _, h => h
  | (_, _) :: _, _, ⟨y, ys, e, h, r⟩ => ⟨y, ys, e, Rep.grow g h, RepF.grow g r⟩
end

theorem RepL.length {K : PySem.W.Frag} {H : Hp} {R : Addr → Prop} : ∀ {ds : List D} {vs : List V}, RepL K H R ds vs → vs.length = ds.length
  | [], _, h => by
    cases h
    rfl
  | _ :: ds, _, ⟨y, ys, e, _, r⟩ => by
    subst e
    show ys.length + 1 = ds.length + 1
    rw [RepL.length r]
theorem RepL.get {K : PySem.W.Frag} {H : Hp} {R : Addr → Prop} : ∀ {ds : List D} {vs : List V} {i : Nat} {d : D}, RepL K H R ds vs → ds[i]? = some d → ∃ v, vs[i]? = some v ∧ Rep K H R d v
  | [], _, _, _, _, h => by simp at h
  | _ :: _, _, 0, _, ⟨y, ys, e, h, r⟩, q => by
    subst e
    simp at q
    subst q
    exact ⟨y, rfl, h⟩
  | _ :: _, _, i + 1, _, ⟨y, ys, e, h, r⟩, q => by
    subst e
    exact RepL.get (i := i) r (by simpa using q)
theorem RepL.getV {K : PySem.W.Frag} {H : Hp} {R : Addr → Prop} {ds : List D} {vs : List V} {i : Nat} {v : V} (r : RepL K H R ds vs) (h : vs[i]? = some v) : ∃ d, ds[i]? = some d ∧ Rep K H R d v := by
  have hi : i < ds.length := by
    rw [← r.length]
    exact (List.getElem?_eq_some_iff.mp h).1
  obtain ⟨w, hw, q⟩ := r.get (List.getElem?_eq_getElem hi)
  rw [h] at hw
  cases hw
  exact ⟨_, List.getElem?_eq_getElem hi, q⟩
theorem RepL.app {K : PySem.W.Frag} {H : Hp} {R : Addr → Prop} : ∀ {ds es : List D} {vs ws : List V}, RepL K H R ds vs → RepL K H R es ws → RepL K H R (ds ++ es) (vs ++ ws)
  | [], _, _, _, h, q => by
    cases h
    exact q
  | _ :: _, _, _, _, ⟨y, ys, e, h, r⟩, q => by
    subst e
    exact ⟨y, _, rfl, h, RepL.app r q⟩
theorem RepL.one {K : PySem.W.Frag} {H : Hp} {R : Addr → Prop} {d : D} {v : V} (h : Rep K H R d v) : RepL K H R [d] [v] := ⟨v, [], rfl, h, rfl⟩
theorem RepL.take {K : PySem.W.Frag} {H : Hp} {R : Addr → Prop} : ∀ {ds : List D} {vs : List V} (n : Nat), RepL K H R ds vs → RepL K H R (ds.take n) (vs.take n)
  | _, _, 0, _ => rfl
  | [], _, _ + 1, h => by
    cases h
    rfl
  | _ :: _, _, n + 1, ⟨y, ys, e, h, r⟩ => by
    subst e
    exact ⟨y, _, rfl, h, RepL.take n r⟩
theorem RepL.drop {K : PySem.W.Frag} {H : Hp} {R : Addr → Prop} : ∀ {ds : List D} {vs : List V} (n : Nat), RepL K H R ds vs → RepL K H R (ds.drop n) (vs.drop n)
  | _, _, 0, h => h
  | [], _, _ + 1, h => by
    cases h
    rfl
  | _ :: _, _, n + 1, ⟨y, ys, e, h, r⟩ => by
    subst e
    exact RepL.drop n r
theorem RepL.ints {K : PySem.W.Frag} {H : Hp} {R : Addr → Prop} : ∀ {ns : List Int}, RepL K H R (ns.map D.int) (ns.map V.int)
  | [] => rfl
  | n :: ns => ⟨.int n, ns.map V.int, rfl, rfl, RepL.ints⟩
theorem RepL.intsV {K : PySem.W.Frag} {H : Hp} {R : Addr → Prop} : ∀ {ns : List Int} {vs : List V}, RepL K H R (ns.map D.int) vs → vs = ns.map V.int
  | [], _, h => h
  | n :: ns, _, ⟨y, ys, e, h, r⟩ => by
    subst e
    cases h
    rw [RepL.intsV r]
    rfl
theorem RepL.strsV {K : PySem.W.Frag} {H : Hp} {R : Addr → Prop} : ∀ {ns : List Str} {vs : List V}, RepL K H R (ns.map D.str) vs → vs = ns.map V.str
  | [], _, h => h
  | n :: ns, _, ⟨y, ys, e, h, r⟩ => by
    subst e
    cases h
    rw [RepL.strsV r]
    rfl
theorem RepL.strs {K : PySem.W.Frag} {H : Hp} {R : Addr → Prop} : ∀ {ns : List Str}, RepL K H R (ns.map D.str) (ns.map V.str)
  | [] => rfl
  | n :: ns => ⟨.str n, ns.map V.str, rfl, rfl, RepL.strs⟩

/-! ### what a slot may hold: data, a handle of the caller's store, of the own store -/
inductive S where
  | d (x : D) | g (k : Nat) | l (k : Nat)
/-- what may change: a list of data, a list with handles in it, a dict, an instance -/
inductive M where
  | pl (ds : List D) | hl (xs : List S) | dc (kvs : List (Key × D)) | ob (C : Addr) (fs : List (Str × D)) | dh (kvs : List (Key × S)) | dt (kvs : List (List Key × Int))
def M.dat : M → Option D
  | .pl ds => some (.lst ds)
  | .hl _ => none
  | .dc kvs => some (.dct kvs)
  | .ob C fs => some (.ins C fs)
  | .dh _ => none
  | .dt _ => none
structure W where
  R : Addr → Prop
  gs : List Addr
  H0 : Hp
def Rg (w : W) (ls : List Addr) : Addr → Prop := fun a => w.R a ∨ a ∈ ls

section
variable {K : PySem.W.Frag}
/-- a slot's value: region, handles -/
def RS (K : PySem.W.Frag) (H : Hp) (R : Addr → Prop) (gs ls : List Addr) : S → V → Prop
  | .d x, v => Rep K H R x v
  | .g k, v => ∃ a, gs[k]? = some a ∧ v = .ref a
  | .l k, v => ∃ a, ls[k]? = some a ∧ v = .ref a
/-- an entry of a dict that holds handles -/
def RSK (K : PySem.W.Frag) (H : Hp) (R : Addr → Prop) (gs ls : List Addr) : Key × S → Key × V → Prop := fun p q => p.1 = q.1 ∧ RS K H R gs ls p.2 q.2
def MOk (K : PySem.W.Frag) (H : Hp) (R : Addr → Prop) (gs ls : List Addr) (a : Addr) : M → Prop
  | .pl ds => ∃ vs, H a = some (.lst vs) ∧ RepL K H R ds vs
  | .hl xs => ∃ vs, H a = some (.lst vs) ∧ Paired (RS K H R gs ls) xs vs
  | .dc kvs => ∃ vs, H a = some (.dK vs) ∧ RepK K H R kvs vs
  | .ob C fs => ∃ dx vs, H a = some (.ins C dx vs) ∧ RepF K H R fs vs
  | .dh kvs => ∃ vs, H a = some (.dK vs) ∧ Paired (RSK K H R gs ls) kvs vs
  | .dt kvs => H a = some (.dT (kvs.map fun p => (p.1, V.int p.2)))

abbrev Sl := List (Option S)
def SlOk (K : PySem.W.Frag) (H : Hp) (R : Addr → Prop) (gs ls : List Addr) (σ : L2.St) (Δ : Sl) : Prop :=
  σ.length = Δ.length ∧ ∀ (i : Nat) (s : S), Δ[i]? = some (some s) → ∃ v, σ[i]? = some (some v) ∧ RS K H R gs ls s v
structure Ctx (K : PySem.W.Frag) (w : W) (ls : List Addr) (σ : L2.St) (H : Hp) (Δ : Sl) (G L : List M) : Prop where
  reg : ∀ a ∈ w.gs, w.R a
  rin : ∀ a, w.R a → ∃ o, H a = some o
  nd : (w.gs ++ ls).Nodup
  fr : ∀ a ∈ ls, w.H0 a = none
  h0 : ∀ a o, w.H0 a = some o → a ∉ w.gs → H a = some o
  sl : SlOk K H (Rg w ls) w.gs ls σ Δ
  gl : Paired (MOk K H (Rg w ls) w.gs []) w.gs G
  lo : Paired (MOk K H (Rg w ls) w.gs ls) ls L
  ld : ∀ a ∈ ls, ¬ w.R a
/-- what is not in the store stays -/
def Ext (w : W) (ls : List Addr) (H H' : Hp) : Prop := ∀ a o, H a = some o → a ∉ w.gs → a ∉ ls → H' a = some o
theorem Ext.refl {w : W} {ls : List Addr} {H : Hp} : Ext w ls H H := fun _ _ h _ _ => h
theorem Ext.trans {w : W} {ls : List Addr} {H H1 H2 : Hp} (a : Ext w ls H H1) (b : Ext w ls H1 H2) : Ext w ls H H2 := fun c o h n m => b c o (a c o h n m) n m
theorem Ext.grow {w : W} {ls : List Addr} {H H' : Hp} (e : Ext w ls H H') (hr : ∀ a ∈ w.gs, w.R a) : Grow H H' (Rg w ls) (Rg w ls) :=
  ⟨fun a o h n => e a o h (fun z => n (.inl (hr a z))) fun z => n (.inr z), fun _ _ _ h => h⟩
/-- the handles may get more -/
def Pre (ls ls' : List Addr) : Prop := ∀ (k : Nat) a, ls[k]? = some a → ls'[k]? = some a
theorem Pre.refl (ls : List Addr) : Pre ls ls := fun _ _ h => h
theorem Pre.nil (ls : List Addr) : Pre [] ls := fun _ _ h => by simp at h
theorem Pre.app (ls qs : List Addr) : Pre ls (ls ++ qs) := fun k a h => by
  rw [List.getElem?_append_left (List.getElem?_eq_some_iff.mp h).1]
  exact h
theorem RS.grow {H H' : Hp} {R R' : Addr → Prop} {gs gs' ls ls' : List Addr} (g : Grow H H' R R') (pg : Pre gs gs') (pl : Pre ls ls') : ∀ {s : S} {v : V}, RS K H R gs ls s v → RS K H' R' gs' ls' s v
  | .d _, _, h => Rep.grow g h
  | .g _, _, ⟨a, h, e⟩ => ⟨a, pg _ _ h, e⟩
  | .l _, _, ⟨a, h, e⟩ => ⟨a, pl _ _ h, e⟩
theorem paired_map {α β : Type} {F F' : α → β → Prop} : ∀ {as : List α} {bs : List β}, Paired F as bs → (∀ a b, a ∈ as → F a b → F' a b) → Paired F' as bs
  | _, _, .nil, _ => .nil
  | _, _, .cons h t, f => .cons (f _ _ List.mem_cons_self h) (paired_map t fun a b m q => f a b (List.mem_cons_of_mem _ m) q)
theorem MOk.grow {H H' : Hp} {R R' : Addr → Prop} {gs gs' ls ls' : List Addr} (g : Grow H H' R R') (pg : Pre gs gs') (pl : Pre ls ls') {a : Addr} (k : ∀ o, H a = some o → H' a = some o) : ∀ {m : M}, MOk K H R gs ls a m → MOk K H' R' gs' ls' a m
  | .pl _, ⟨vs, h, r⟩ => ⟨vs, k _ h, RepL.grow g r⟩
  | .hl _, ⟨vs, h, r⟩ => ⟨vs, k _ h, paired_map r fun _ _ _ q => RS.grow g pg pl q⟩
  | .dc _, ⟨vs, h, r⟩ => ⟨vs, k _ h, RepK.grow g r⟩
  | .ob _ _, ⟨dx, vs, h, r⟩ => ⟨dx, vs, k _ h, RepF.grow g r⟩
  | .dh _, ⟨vs, h, r⟩ => ⟨vs, k _ h, paired_map r fun _ _ _ q => ⟨q.1, RS.grow g pg pl q.2⟩⟩
  | .dt _, h => k _ h
theorem SlOk.grow {H H' : Hp} {R R' : Addr → Prop} {gs gs' ls ls' : List Addr} (g : Grow H H' R R') (pg : Pre gs gs') (pl : Pre ls ls') {σ : L2.St} {Δ : Sl} (h : SlOk K H R gs ls σ Δ) : SlOk K H' R' gs' ls' σ Δ :=
  ⟨h.1, fun i s e => let ⟨v, a, b⟩ := h.2 i s e; ⟨v, a, RS.grow g pg pl b⟩⟩
theorem MOk.some {H : Hp} {R : Addr → Prop} {gs ls : List Addr} {a : Addr} : ∀ {m : M}, MOk K H R gs ls a m → ∃ o, H a = some o
  | .pl _, ⟨_, h, _⟩ => ⟨_, h⟩
  | .hl _, ⟨_, h, _⟩ => ⟨_, h⟩
  | .dc _, ⟨_, h, _⟩ => ⟨_, h⟩
  | .ob _ _, ⟨_, _, h, _⟩ => ⟨_, h⟩
  | .dh _, ⟨_, h, _⟩ => ⟨_, h⟩
  | .dt _, h => ⟨_, h⟩
theorem paired_l {α β : Type} {F : α → β → Prop} : ∀ {as : List α} {bs : List β} {a : α}, Paired F as bs → a ∈ as → ∃ b, F a b
  | _, _, _, .cons h t, m => by
    rcases List.mem_cons.mp m with rfl | m
    · exact ⟨_, h⟩
    · exact paired_l t m
theorem paired_get {α β : Type} {F : α → β → Prop} : ∀ {as : List α} {bs : List β} {i : Nat} {b : β}, Paired F as bs → bs[i]? = some b → ∃ a, as[i]? = some a ∧ F a b
  | _, _, 0, _, .cons h t, e => by
    simp at e
    subst e
    exact ⟨_, rfl, h⟩
  | _, _, i + 1, _, .cons h t, e => by
    obtain ⟨a, q, r⟩ := paired_get (i := i) t (by simpa using e)
    exact ⟨a, by simpa using q, r⟩
theorem paired_app {α β : Type} {F : α → β → Prop} : ∀ {as cs : List α} {bs ds : List β}, Paired F as bs → Paired F cs ds → Paired F (as ++ cs) (bs ++ ds)
  | _, _, _, _, .nil, q => q
  | _, _, _, _, .cons h t, q => .cons h (paired_app t q)
theorem paired_len {α β : Type} {F : α → β → Prop} : ∀ {as : List α} {bs : List β}, Paired F as bs → as.length = bs.length
  | _, _, .nil => rfl
  | _, _, .cons _ t => congrArg (· + 1) (paired_len t)
/-- the pair at i is changed, the others are kept -/
theorem paired_set {α β : Type} {F F' : α → β → Prop} : ∀ {as : List α} {bs : List β} {i : Nat} {a : α} {b : β}, Paired F as bs → as.Nodup → as[i]? = some a → F' a b → (∀ c e, c ∈ as → c ≠ a → F c e → F' c e) → Paired F' as (bs.set i b)
  | _, _, _, _, _, .nil, _, h, _, _ => by simp at h
  | _, _, 0, _, _, .cons (a := x) h t, nd, e, q, k => by
    simp at e
    subst e
    have n := (List.nodup_cons.mp nd).1
    exact .cons q (paired_map t fun c e m f => k c e (List.mem_cons_of_mem _ m) (fun z => n (z ▸ m)) f)
  | _, _, i + 1, _, _, .cons (a := x) h t, nd, e, q, k => by
    have n := (List.nodup_cons.mp nd).1
    have e' := (by simpa using e : _[i]? = some _)
    have m := List.mem_of_getElem? e'
    exact .cons (k _ _ List.mem_cons_self (fun z => n (z ▸ m)) h) (paired_set t (List.nodup_cons.mp nd).2 e' q fun c e m f => k c e (List.mem_cons_of_mem _ m) f)

section
variable {w : W} {ls : List Addr} {σ : L2.St} {H : Hp} {Δ : Sl} {G L : List M}
theorem Ctx.lin (c : Ctx K w ls σ H Δ G L) {a : Addr} (h : a ∈ ls) : ∃ o, H a = some o := by
  obtain ⟨m, q⟩ := paired_l c.lo h
  exact q.some
theorem Ctx.gin (c : Ctx K w ls σ H Δ G L) {a : Addr} (h : a ∈ w.gs) : ∃ o, H a = some o := c.rin a (c.reg a h)
theorem Ctx.free (c : Ctx K w ls σ H Δ G L) {p : Addr} (h : H p = none) : ¬ Rg w ls p := by
  rintro (r | r)
  · obtain ⟨o, e⟩ := c.rin p r
    rw [h] at e
    cases e
  · obtain ⟨o, e⟩ := c.lin r
    rw [h] at e
    cases e
theorem Ctx.free0 (c : Ctx K w ls σ H Δ G L) {p : Addr} (h : H p = none) : w.H0 p = none := by
  cases e : w.H0 p with
  | none => rfl
  | some o =>
    have n : p ∉ w.gs := fun z => c.free h (.inl (c.reg p z))
    rw [c.h0 p o e n] at h
    cases h
theorem grow_new {p : Addr} {o : HO} {R : Addr → Prop} (h : H p = none) : Grow H (upd H p o) R R :=
  ⟨fun a u e _ => by
    rw [upd_ne (ne_of_none e h)]
    exact e, fun _ _ _ r => r⟩
theorem keep_new {p : Addr} {o : HO} (h : H p = none) : ∀ a u, H a = some u → upd H p o a = some u := fun a u e => by
  rw [upd_ne (ne_of_none e h)]
  exact e
/-- a new object that is no more than data -/
theorem Ctx.new (c : Ctx K w ls σ H Δ G L) {p : Addr} {o : HO} (h : H p = none) : Ctx K w ls σ (upd H p o) Δ G L := by
  have g : Grow H (upd H p o) (Rg w ls) (Rg w ls) := grow_new h
  have k := keep_new (o := o) h
  exact ⟨c.reg, fun a r => let ⟨u, e⟩ := c.rin a r; ⟨u, k a u e⟩, c.nd, c.fr, fun a u e n => k a u (c.h0 a u e n), c.sl.grow g (Pre.refl _) (Pre.refl _),
    paired_map c.gl fun a m _ q => q.grow g (Pre.refl _) (Pre.refl _) (k a), paired_map c.lo fun a m _ q => q.grow g (Pre.refl _) (Pre.refl _) (k a), c.ld⟩
theorem Ext.new {p : Addr} {o : HO} (h : H p = none) : Ext w ls H (upd H p o) := fun a u e _ _ => by
  rw [upd_ne (ne_of_none e h)]
  exact e
/-- the region grows by a new object -/
theorem grow_reg {p : Addr} (h : H p = none) : Grow H H (Rg w ls) (Rg w (ls ++ [p])) :=
  ⟨fun _ _ e _ => e, fun a o e r => by
    rcases r with r | r
    · exact .inl r
    · rcases List.mem_append.mp r with r | r
      · exact .inr r
      · rw [List.mem_singleton] at r
        subst r
        rw [h] at e
        cases e⟩
theorem grow_sub {ls' : List Addr} (h : ∀ a ∈ ls', a ∈ ls) : Grow H H (Rg w ls) (Rg w ls') :=
  ⟨fun _ _ e _ => e, fun a o e r => by
    rcases r with r | r
    · exact .inl r
    · exact .inr (h a r)⟩

/-! ### an object just made: its own, or data -/
structure NewAt (K : PySem.W.Frag) (w : W) (ls : List Addr) (σ : L2.St) (H : Hp) (Δ : Sl) (G L : List M) (p : Addr) (m : M) : Prop where
  own : Ctx K w (ls ++ [p]) σ H Δ G (L ++ [m])
  c : Ctx K w ls σ H Δ G L
  dat : ∀ x, m.dat = some x → Rep K H (Rg w ls) x (.ref p)
theorem newAt_of (c : Ctx K w ls σ H Δ G L) {p : Addr} {o : HO} {m : M} (h : H p = none) (hm : MOk K (upd H p o) (Rg w (ls ++ [p])) w.gs ls p m) (hd : ∀ x, m.dat = some x → Rep K (upd H p o) (Rg w ls) x (.ref p)) :
    NewAt K w ls σ (upd H p o) Δ G L p m := by
  have g : Grow H (upd H p o) (Rg w ls) (Rg w (ls ++ [p])) := (grow_reg h).trans (grow_new h)
  have k := keep_new (o := o) h
  have nR := c.free h
  refine ⟨⟨c.reg, fun a r => let ⟨u, e⟩ := c.rin a r; ⟨u, k a u e⟩, ?_, ?_, fun a u e n => k a u (c.h0 a u e n), c.sl.grow g (Pre.refl _) (Pre.app _ _),
    paired_map c.gl fun a m _ q => q.grow g (Pre.refl _) (Pre.nil _) (k a), paired_app (paired_map c.lo fun a m _ q => q.grow g (Pre.refl _) (Pre.app _ _) (k a)) (.cons ?_ .nil), fun a ha r => (List.mem_append.mp ha).elim (fun z => c.ld a z r) fun z => nR (.inl ((List.mem_singleton.mp z) ▸ r))⟩, c.new h, hd⟩
  · rw [← List.append_assoc]
    refine List.nodup_append.mpr ⟨c.nd, by simp, fun a ha b hb => ?_⟩
    rw [List.mem_singleton] at hb
    subst hb
    rintro rfl
    rcases List.mem_append.mp ha with z | z
    · exact nR (.inl (c.reg _ z))
    · exact nR (.inr z)
  · intro a ha
    rcases List.mem_append.mp ha with z | z
    · exact c.fr a z
    · rw [List.mem_singleton] at z
      subst z
      exact c.free0 h
  · exact hm.grow (Grow.refl _ _) (Pre.refl _) (Pre.app _ _) fun _ z => z
theorem newAt_pl (c : Ctx K w ls σ H Δ G L) {p : Addr} {ds : List D} {vs : List V} (h : H p = none) (r : RepL K H (Rg w ls) ds vs) : NewAt K w ls σ (upd H p (.lst vs)) Δ G L p (.pl ds) :=
  newAt_of c h ⟨vs, upd_same, r.grow ((grow_reg h).trans (grow_new h))⟩ fun x e => by
    cases e
    exact ⟨p, vs, rfl, ⟨upd_same, c.free h⟩, r.grow (grow_new h)⟩
theorem newAt_hl (c : Ctx K w ls σ H Δ G L) {p : Addr} {xs : List S} {vs : List V} (h : H p = none) (r : Paired (RS K H (Rg w ls) w.gs ls) xs vs) : NewAt K w ls σ (upd H p (.lst vs)) Δ G L p (.hl xs) :=
  newAt_of c h ⟨vs, upd_same, paired_map r fun _ _ _ q => q.grow ((grow_reg h).trans (grow_new h)) (Pre.refl _) (Pre.refl _)⟩ fun x e => by cases e
theorem newAt_dc (c : Ctx K w ls σ H Δ G L) {p : Addr} {ds : List (Key × D)} {vs : List (Key × V)} (h : H p = none) (r : RepK K H (Rg w ls) ds vs) : NewAt K w ls σ (upd H p (.dK vs)) Δ G L p (.dc ds) :=
  newAt_of c h ⟨vs, upd_same, r.grow ((grow_reg h).trans (grow_new h))⟩ fun x e => by
    cases e
    exact ⟨p, vs, rfl, ⟨upd_same, c.free h⟩, r.grow (grow_new h)⟩
theorem rep_tup (c : Ctx K w ls σ H Δ G L) {p : Addr} {ds : List D} {vs : List V} (h : H p = none) (r : RepL K H (Rg w ls) ds vs) : Rep K (upd H p (.tup vs)) (Rg w ls) (.tup ds) (.ref p) :=
  ⟨p, vs, rfl, ⟨upd_same, c.free h⟩, r.grow (grow_new h)⟩
end
end
end DL

namespace DL
open PySem PySem.Spec PyProof.Rows L2
section
variable {K : PySem.W.Frag}
section
variable {w : W} {ls : List Addr} {σ : L2.St} {H : Hp} {Δ : Sl} {G L : List M}
theorem grow_upd {R : Addr → Prop} {a : Addr} {o : HO} (h : R a) : Grow H (upd H a o) R R :=
  ⟨fun b u e n => by
    rw [upd_ne (show b ≠ a from fun z => n (by rw [z]; exact h))]
    exact e, fun _ _ _ r => r⟩
theorem upd_other {a : Addr} {o : HO} {b : Addr} (n : b ≠ a) : ∀ u, H b = some u → upd H a o b = some u := fun u e => by
  rw [upd_ne n]
  exact e
theorem getElem_mem' {α : Type} {l : List α} {i : Nat} {a : α} (h : l[i]? = some a) : a ∈ l := List.mem_of_getElem? h
/-- the own object k is changed -/
theorem Ctx.setL (c : Ctx K w ls σ H Δ G L) {k : Nat} {a : Addr} {o : HO} {m : M} (h : ls[k]? = some a) (hm : MOk K (upd H a o) (Rg w ls) w.gs ls a m) : Ctx K w ls σ (upd H a o) Δ G (L.set k m) := by
  have ha : a ∈ ls := getElem_mem' h
  have g : Grow H (upd H a o) (Rg w ls) (Rg w ls) := grow_upd (.inr ha)
  have ng : ∀ b ∈ w.gs, b ≠ a := fun b hb z => (List.nodup_append.mp c.nd).2.2 b hb a ha z
  refine ⟨c.reg, fun b r => ?_, c.nd, c.fr, fun b u e n => ?_, c.sl.grow g (Pre.refl _) (Pre.refl _), paired_map c.gl fun b m hb q => q.grow g (Pre.refl _) (Pre.refl _) (upd_other (ng b hb)), ?_, c.ld⟩
  · by_cases z : b = a
    · subst z
      exact ⟨_, upd_same⟩
    · obtain ⟨u, e⟩ := c.rin b r
      exact ⟨u, by rw [upd_ne z]; exact e⟩
  · have z : b ≠ a := fun z => by
      rw [z, c.fr a ha] at e
      cases e
    rw [upd_ne z]
    exact c.h0 b u e n
  · exact paired_set c.lo (List.nodup_append.mp c.nd).2.1 h hm fun b e hb n q => q.grow g (Pre.refl _) (Pre.refl _) (upd_other n)
/-- an object of the caller's store is changed -/
theorem Ctx.setG (c : Ctx K w ls σ H Δ G L) {k : Nat} {a : Addr} {o : HO} {m : M} (h : w.gs[k]? = some a) (hm : MOk K (upd H a o) (Rg w ls) w.gs [] a m) : Ctx K w ls σ (upd H a o) Δ (G.set k m) L := by
  have ha : a ∈ w.gs := getElem_mem' h
  have g : Grow H (upd H a o) (Rg w ls) (Rg w ls) := grow_upd (.inl (c.reg a ha))
  have ng : ∀ b ∈ ls, b ≠ a := fun b hb z => (List.nodup_append.mp c.nd).2.2 a ha b hb z.symm
  refine ⟨c.reg, fun b r => ?_, c.nd, c.fr, fun b u e n => ?_, c.sl.grow g (Pre.refl _) (Pre.refl _), ?_, paired_map c.lo fun b m hb q => q.grow g (Pre.refl _) (Pre.refl _) (upd_other (ng b hb)), c.ld⟩
  · by_cases z : b = a
    · subst z
      exact ⟨_, upd_same⟩
    · obtain ⟨u, e⟩ := c.rin b r
      exact ⟨u, by rw [upd_ne z]; exact e⟩
  · rw [upd_ne (show b ≠ a from fun z => n (by rw [z]; exact ha))]
    exact c.h0 b u e n
  · exact paired_set c.gl (List.nodup_append.mp c.nd).1 h hm fun b e hb n q => q.grow g (Pre.refl _) (Pre.refl _) (upd_other n)
theorem Ext.setL {a : Addr} {o : HO} (h : a ∈ ls) : Ext w ls H (upd H a o) := fun b u e _ n => by
  rw [upd_ne (show b ≠ a from fun z => n (by rw [z]; exact h))]
  exact e
theorem Ext.setG {a : Addr} {o : HO} (h : a ∈ w.gs) : Ext w ls H (upd H a o) := fun b u e n _ => by
  rw [upd_ne (show b ≠ a from fun z => n (by rw [z]; exact h))]
  exact e
end

/-! ### evaluation at the level of data -/
abbrev Po := S → List M → List M → Prop
abbrev PoB := Bool → List M → List M → Prop
abbrev PoN := M → List M → List M → Prop
abbrev PoA := List S → List M → List M → Prop
def Ret (K : PySem.W.Frag) (w : W) (ls : List Addr) (σ : L2.St) (Δ : Sl) (H : Hp) (Qd : Po) (Q : VK) : Prop :=
  ∀ v s H2 G2 L2, Ctx K w ls σ H2 Δ G2 L2 → Ext w ls H H2 → RS K H2 (Rg w ls) w.gs ls s v → Qd s G2 L2 → Q v H2
def RetB (K : PySem.W.Frag) (w : W) (ls : List Addr) (σ : L2.St) (Δ : Sl) (H : Hp) (Qd : PoB) (Q : Bool → Hp → Prop) : Prop :=
  ∀ b H2 G2 L2, Ctx K w ls σ H2 Δ G2 L2 → Ext w ls H H2 → Qd b G2 L2 → Q b H2
def RetN (K : PySem.W.Frag) (w : W) (ls : List Addr) (σ : L2.St) (Δ : Sl) (H : Hp) (Qd : PoN) (Q : VK) : Prop :=
  ∀ p m H2 G2 L2, H p = none → NewAt K w ls σ H2 Δ G2 L2 p m → Ext w ls H H2 → Qd m G2 L2 → Q (.ref p) H2
def RetA (K : PySem.W.Frag) (w : W) (ls : List Addr) (σ : L2.St) (Δ : Sl) (H : Hp) (Qd : PoA) (Q : List V → Hp → Prop) : Prop :=
  ∀ vs ss H2 G2 L2, Ctx K w ls σ H2 Δ G2 L2 → Ext w ls H H2 → Paired (RS K H2 (Rg w ls) w.gs ls) ss vs → Qd ss G2 L2 → Q vs H2
def EvC (K : PySem.W.Frag) (te : TE) (Δ : Sl) (G L : List M) (Qd : Po) : Prop := ∀ w ls σ H, Ctx K w ls σ H Δ G L → ∀ Q : VK, Ret K w ls σ Δ H Qd Q → te σ H Q
def EvB (K : PySem.W.Frag) (te : TT) (Δ : Sl) (G L : List M) (Qd : PoB) : Prop := ∀ w ls σ H, Ctx K w ls σ H Δ G L → ∀ Q : Bool → Hp → Prop, RetB K w ls σ Δ H Qd Q → te σ H Q
def EvN (K : PySem.W.Frag) (te : TE) (Δ : Sl) (G L : List M) (Qd : PoN) : Prop := ∀ w ls σ H, Ctx K w ls σ H Δ G L → ∀ Q : VK, RetN K w ls σ Δ H Qd Q → te σ H Q
def EvA (K : PySem.W.Frag) (te : TA) (Δ : Sl) (G L : List M) (Qd : PoA) : Prop := ∀ w ls σ H, Ctx K w ls σ H Δ G L → ∀ Q : List V → Hp → Prop, RetA K w ls σ Δ H Qd Q → te σ H Q

section
variable {w : W} {ls : List Addr} {σ : L2.St} {H H1 : Hp} {Δ : Sl} {G L G1 L1 : List M} {Qd : Po} {Q : VK}
theorem Ret.go (r : Ret K w ls σ Δ H Qd Q) {v : V} {s : S} (c : Ctx K w ls σ H1 Δ G1 L1) (e : Ext w ls H H1) (q : RS K H1 (Rg w ls) w.gs ls s v) (k : Qd s G1 L1) : Q v H1 := r v s H1 G1 L1 c e q k
theorem Ret.next {Qd' : Po} (r : Ret K w ls σ Δ H Qd Q) (e : Ext w ls H H1) (k : ∀ s G L, Qd' s G L → Qd s G L) : Ret K w ls σ Δ H1 Qd' Q := fun v s H2 G2 L2 c e2 q h => r v s H2 G2 L2 c (e.trans e2) q (k _ _ _ h)
theorem Ret.ext (r : Ret K w ls σ Δ H Qd Q) (e : Ext w ls H H1) : Ret K w ls σ Δ H1 Qd Q := fun v s H2 G2 L2 c e2 q h => r v s H2 G2 L2 c (e.trans e2) q h
theorem none_back (c : Ctx K w ls σ H1 Δ G1 L1) (e : Ext w ls H H1) {p : Addr} (h : H1 p = none) : H p = none := by
  cases q : H p with
  | none => rfl
  | some o =>
    have n := c.free h
    rw [e p o q (fun z => n (.inl (c.reg p z))) (fun z => n (.inr z))] at h
    cases h
theorem RetN.ext {Qd : PoN} (r : RetN K w ls σ Δ H Qd Q) (c1 : Ctx K w ls σ H1 Δ G1 L1) (e : Ext w ls H H1) : RetN K w ls σ Δ H1 Qd Q := fun v s H2 G2 L2 hp c e2 h => r v s H2 G2 L2 (none_back c1 e hp) c (e.trans e2) h
/-- a value carried over -/
theorem RS.on {s : S} {v : V} (c : Ctx K w ls σ H Δ G L) (e : Ext w ls H H1) (r : RS K H (Rg w ls) w.gs ls s v) : RS K H1 (Rg w ls) w.gs ls s v := r.grow (e.grow c.reg) (Pre.refl _) (Pre.refl _)
theorem RSs.on {s : List S} {v : List V} (c : Ctx K w ls σ H Δ G L) (e : Ext w ls H H1) (r : Paired (RS K H (Rg w ls) w.gs ls) s v) : Paired (RS K H1 (Rg w ls) w.gs ls) s v := paired_map r fun _ _ _ q => RS.on c e q
end

section
variable {Δ : Sl} {G L : List M} {Qd Qd' : Po} {te ta tb tc : TE} {tt tu : TT}
theorem EvC.imp (h : EvC K te Δ G L Qd) (k : ∀ s G L, Qd s G L → Qd' s G L) : EvC K te Δ G L Qd' := fun w ls σ H c Q r => h w ls σ H c Q (r.next Ext.refl k)
theorem evc_var {i : Nat} {s : S} (h : Δ[i]? = some (some s)) (k : Qd s G L) : EvC K (tVar i) Δ G L Qd := fun w ls σ H c Q r => by
  obtain ⟨v, e, q⟩ := c.sl.2 i s h
  exact ⟨v, e, r.go c Ext.refl q k⟩
theorem evc_int {i : Int} (k : Qd (.d (.int i)) G L) : EvC K (tC (.int i)) Δ G L Qd := fun w ls σ H c Q r => r.go c Ext.refl (s := .d (.int i)) rfl k
theorem evc_str {i : Str} (k : Qd (.d (.str i)) G L) : EvC K (tC (.str i)) Δ G L Qd := fun w ls σ H c Q r => r.go c Ext.refl (s := .d (.str i)) rfl k
theorem evc_bl {i : Bool} (k : Qd (.d (.bl i)) G L) : EvC K (tC (.bl i)) Δ G L Qd := fun w ls σ H c Q r => r.go c Ext.refl (s := .d (.bl i)) rfl k
theorem evc_non (k : Qd (.d .non) G L) : EvC K (tC .non) Δ G L Qd := fun w ls σ H c Q r => r.go c Ext.refl (s := .d .non) rfl k
theorem evc_ty {n : String} (k : Qd (.d (.ty n)) G L) : EvC K (tC (.ty n)) Δ G L Qd := fun w ls σ H c Q r => r.go c Ext.refl (s := .d (.ty n)) rfl k
theorem evc_ref {a : Addr} (k : Qd (.d (.ref a)) G L) : EvC K (tC (.ref a)) Δ G L Qd := fun w ls σ H c Q r => r.go c Ext.refl (s := .d (.ref a)) rfl k
/-- a new object, as data -/
theorem evn_c (h : EvN K te Δ G L fun m G1 L1 => ∃ x, m.dat = some x ∧ Qd (.d x) G1 L1) : EvC K te Δ G L Qd := fun w ls σ H c Q r => h w ls σ H c Q fun p m H2 G2 L2 _ n e ⟨x, hx, k⟩ => r.go n.c e (s := .d x) (n.dat x hx) k

/-! operations on values -/
def OpC (K : PySem.W.Frag) (r : R2) (x y : S) (Δ : Sl) (G L : List M) (Qd : Po) : Prop :=
  ∀ w ls σ H vx vy, Ctx K w ls σ H Δ G L → RS K H (Rg w ls) w.gs ls x vx → RS K H (Rg w ls) w.gs ls y vy → ∀ Q, Ret K w ls σ Δ H Qd Q → r vx vy H Q
def OpN (K : PySem.W.Frag) (r : R2) (x y : S) (Δ : Sl) (G L : List M) (Qd : PoN) : Prop :=
  ∀ w ls σ H vx vy, Ctx K w ls σ H Δ G L → RS K H (Rg w ls) w.gs ls x vx → RS K H (Rg w ls) w.gs ls y vy → ∀ Q, RetN K w ls σ Δ H Qd Q → r vx vy H Q
theorem opn_c {r : R2} {x y : S} (h : OpN K r x y Δ G L fun m G1 L1 => ∃ x, m.dat = some x ∧ Qd (.d x) G1 L1) : OpC K r x y Δ G L Qd :=
  fun w ls σ H vx vy c rx ry Q q => h w ls σ H vx vy c rx ry Q fun p m H2 G2 L2 _ n e ⟨x, hx, k⟩ => q.go n.c e (s := .d x) (n.dat x hx) k
theorem evc_op {r : R2} (h : EvC K ta Δ G L fun x G1 L1 => EvC K tb Δ G1 L1 fun y G2 L2 => OpC K r x y Δ G2 L2 Qd) : EvC K (tOp r ta tb) Δ G L Qd :=
  fun w ls σ H c Q ret => h w ls σ H c _ fun v s H2 G2 L2 c2 e2 r2 h2 => h2 w ls σ H2 c2 _ fun v3 s3 H3 G3 L3 c3 e3 r3 h3 => h3 w ls σ H3 v v3 c3 (r2.on c2 e3) r3 Q (ret.ext (e2.trans e3))
theorem evn_op {r : R2} {Qn : PoN} (h : EvC K ta Δ G L fun x G1 L1 => EvC K tb Δ G1 L1 fun y G2 L2 => OpN K r x y Δ G2 L2 Qn) : EvN K (tOp r ta tb) Δ G L Qn :=
  fun w ls σ H c Q ret => h w ls σ H c _ fun v s H2 G2 L2 c2 e2 r2 h2 => h2 w ls σ H2 c2 _ fun v3 s3 H3 G3 L3 c3 e3 r3 h3 => h3 w ls σ H3 v v3 c3 (r2.on c2 e3) r3 Q (ret.ext c3 (e2.trans e3))
theorem opc_orl {r r' : R2} {x y : S} (h : OpC K r x y Δ G L Qd) : OpC K (fun x y H Q => r x y H Q ∨ r' x y H Q) x y Δ G L Qd := fun w ls σ H vx vy c rx ry Q q => .inl (h w ls σ H vx vy c rx ry Q q)
theorem opc_orr {r r' : R2} {x y : S} (h : OpC K r' x y Δ G L Qd) : OpC K (fun x y H Q => r x y H Q ∨ r' x y H Q) x y Δ G L Qd := fun w ls σ H vx vy c rx ry Q q => .inr (h w ls σ H vx vy c rx ry Q q)
theorem opn_orl {Qd : PoN} {r r' : R2} {x y : S} (h : OpN K r x y Δ G L Qd) : OpN K (fun x y H Q => r x y H Q ∨ r' x y H Q) x y Δ G L Qd := fun w ls σ H vx vy c rx ry Q q => .inl (h w ls σ H vx vy c rx ry Q q)
theorem opn_orr {Qd : PoN} {r r' : R2} {x y : S} (h : OpN K r' x y Δ G L Qd) : OpN K (fun x y H Q => r x y H Q ∨ r' x y H Q) x y Δ G L Qd := fun w ls σ H vx vy c rx ry Q q => .inr (h w ls σ H vx vy c rx ry Q q)
/-- ints -/
theorem opc_I0i {g : Int → Int → Int} {i j : Int} (k : Qd (.d (.int (g i j))) G L) : OpC K (rI0 fun i j => .int (g i j)) (.d (.int i)) (.d (.int j)) Δ G L Qd := fun w ls σ H vx vy c rx ry Q q =>
  ⟨i, j, rx, ry, q.go c Ext.refl (s := .d (.int (g i j))) rfl k⟩
theorem opc_I0b {g : Int → Int → Bool} {i j : Int} (k : Qd (.d (.bl (g i j))) G L) : OpC K (rI0 fun i j => .bl (g i j)) (.d (.int i)) (.d (.int j)) Δ G L Qd := fun w ls σ H vx vy c rx ry Q q =>
  ⟨i, j, rx, ry, q.go c Ext.refl (s := .d (.bl (g i j))) rfl k⟩
theorem opc_Ii {C : Int → Int → Prop} {g : Int → Int → Int} {i j : Int} (hc : C i j) (k : Qd (.d (.int (g i j))) G L) : OpC K (rI C fun i j => .int (g i j)) (.d (.int i)) (.d (.int j)) Δ G L Qd := fun w ls σ H vx vy c rx ry Q q =>
  ⟨i, j, rx, ry, hc, q.go c Ext.refl (s := .d (.int (g i j))) rfl k⟩

/-! universal operators: which one is asked is told by the values -/
def rAddSt : R2 := fun x y H Q => ∃ i j, x = .str i ∧ y = .str j ∧ i.length + j.length ≤ sizeLine ∧ Q (.str (i ++ j)) H
def uAdd (K : PySem.W.Frag) : R2 := fun x y H Q => rI0 (fun i j => .int (i + j)) x y H Q ∨ rAddSt x y H Q ∨ rCat x y H Q ∨ rCatA K x y H Q
theorem uo_add {X : Cx} : OpR X (binaryOp .Add) (uAdd X.K) := op_add.or (OpR.or (r := rAddSt) op_add_str (op_cat.or op_catA))
theorem u_add_i {i j : Int} (k : Qd (.d (.int (i + j))) G L) : OpC K (uAdd K) (.d (.int i)) (.d (.int j)) Δ G L Qd := opc_orl (opc_I0i (g := fun i j => i + j) k)
theorem u_add_s {i j : Str} (hl : i.length + j.length ≤ sizeLine) (k : Qd (.d (.str (i ++ j))) G L) : OpC K (uAdd K) (.d (.str i)) (.d (.str j)) Δ G L Qd := fun w ls σ H vx vy c rx ry Q q =>
  .inr (.inl ⟨i, j, rx, ry, hl, q.go c Ext.refl (s := .d (.str (i ++ j))) rfl k⟩)
/-- the data of a list: as data, or in a store -/
def lsG (G L : List M) : S → Option (List D)
  | .d (.lst ds) => some ds
  | .l k => match L[k]? with
    | some (.pl ds) => some ds
    | _ => none
  | .g k => match G[k]? with
    | some (.pl ds) => some ds
    | _ => none
  | _ => none
theorem lsG_get {w : W} {ls : List Addr} {σ : L2.St} {H : Hp} {v : V} {s : S} {ds : List D} (c : Ctx K w ls σ H Δ G L) (r : RS K H (Rg w ls) w.gs ls s v) (h : lsG G L s = some ds) : ∃ a vs, v = .ref a ∧ H a = some (.lst vs) ∧ RepL K H (Rg w ls) ds vs := by
  unfold lsG at h
  split at h
  · cases h
    obtain ⟨a, xs, rfl, ⟨h1, _⟩, q⟩ := r
    exact ⟨a, xs, rfl, h1, q⟩
  · rename_i k
    split at h
    · rename_i ds' hk
      cases h
      obtain ⟨a, ha, rfl⟩ := r
      obtain ⟨b, hb, vs, h1, q⟩ := paired_get c.lo hk
      rw [ha] at hb
      cases hb
      exact ⟨a, vs, rfl, h1, q⟩
    · cases h
  · rename_i k
    split at h
    · rename_i ds' hk
      cases h
      obtain ⟨a, ha, rfl⟩ := r
      obtain ⟨b, hb, vs, h1, q⟩ := paired_get c.gl hk
      rw [ha] at hb
      cases hb
      exact ⟨a, vs, rfl, h1, q⟩
    · cases h
  · cases h
theorem u_add_l {Qn : PoN} {x y : S} {xs ys : List D} (hx : lsG G L x = some xs) (hy : lsG G L y = some ys) (hl : xs.length + ys.length ≤ sizeLine) (k : Qn (.pl (xs ++ ys)) G L) : OpN K (uAdd K) x y Δ G L Qn := fun w ls σ H vx vy c rx ry Q q => by
  obtain ⟨a, vs, rfl, h1, q1⟩ := lsG_get c rx hx
  obtain ⟨b, us, rfl, h2, q2⟩ := lsG_get c ry hy
  refine .inr (.inr (.inl ⟨a, b, vs, us, rfl, rfl, h1, h2, by rw [q1.length, q2.length]; exact hl, fun p hp => ?_⟩))
  exact q p _ _ _ _ hp (newAt_pl c hp (q1.app q2)) (Ext.new hp) k
theorem u_add_t {xs ys : List D} (hl : xs.length + ys.length ≤ sizeLine) (k : Qd (.d (.tup (xs ++ ys))) G L) : OpC K (uAdd K) (.d (.tup xs)) (.d (.tup ys)) Δ G L Qd := fun w ls σ H vx vy c rx ry Q q => by
  obtain ⟨a, vs, rfl, h1, q1⟩ := rx
  obtain ⟨b, us, rfl, h2, q2⟩ := ry
  refine .inr (.inr (.inr ⟨a, b, vs, us, rfl, rfl, h1.sq, h2.sq, by rw [q1.length, q2.length]; exact hl, fun e => ?_, fun _ e => ?_, fun _ _ p hp => ?_⟩))
  · subst e
    have z : xs = [] := List.eq_nil_of_length_eq_zero (by rw [← q1.length]; rfl)
    subst z
    exact q.go c Ext.refl (s := .d (.tup ys)) ⟨b, us, rfl, h2, q2⟩ k
  · subst e
    have z : ys = [] := List.eq_nil_of_length_eq_zero (by rw [← q2.length]; rfl)
    subst z
    rw [List.append_nil] at k
    exact q.go c Ext.refl (s := .d (.tup xs)) ⟨a, vs, rfl, h1, q1⟩ k
  · exact q.go (c.new hp) (Ext.new hp) (s := .d (.tup (xs ++ ys))) (rep_tup c hp (q1.app q2)) k
def uMul (K : PySem.W.Frag) : R2 := fun x y H Q => rI CMul (fun i j => .int (i * j)) x y H Q ∨ rRep x y H Q
theorem uo_mul {X : Cx} : OpR X (binaryOp .Mult) (uMul X.K) := op_mul.or op_rep
theorem u_mul_i {i j : Int} (hc : CMul i j) (k : Qd (.d (.int (i * j))) G L) : OpC K (uMul K) (.d (.int i)) (.d (.int j)) Δ G L Qd := opc_orl (opc_Ii (g := fun i j => i * j) hc k)
theorem repl_flat {H : Hp} {R : Addr → Prop} {ds : List D} {vs : List V} (r : RepL K H R ds vs) : ∀ n, RepL K H R (List.replicate n ds).flatten (List.replicate n vs).flatten
  | 0 => rfl
  | n + 1 => by
    rw [List.replicate_succ, List.replicate_succ, List.flatten_cons, List.flatten_cons]
    exact r.app (repl_flat r n)
theorem u_mul_l {Qn : PoN} {x : S} {j : Int} {xs : List D} (hx : lsG G L x = some xs) (h1 : -(2 ^ 63) ≤ j) (h2 : j < 2 ^ 63) (hl : xs.length * j.toNat ≤ sizeLine) (k : Qn (.pl (List.replicate j.toNat xs).flatten) G L) : OpN K (uMul K) x (.d (.int j)) Δ G L Qn := fun w ls σ H vx vy c rx ry Q q => by
  obtain ⟨a, vs, rfl, h3, q1⟩ := lsG_get c rx hx
  refine .inr ⟨a, j, vs, rfl, ry, h3, h1, h2, by rw [q1.length]; exact hl, fun p hp => ?_⟩
  exact q p _ _ _ _ hp (newAt_pl c hp (repl_flat q1 _)) (Ext.new hp) k

/-! tests -/
theorem evb_test (h : EvC K te Δ G L fun s G1 L1 => ∃ b, s = .d (.bl b) ∧ Qb b G1 L1) : EvB K (tTest te) Δ G L Qb := fun w ls σ H c Q r => h w ls σ H c _ fun v s H2 G2 L2 c2 e2 r2 ⟨b, e, k⟩ => by
  subst e
  exact ⟨b, r2, r b H2 G2 L2 c2 e2 k⟩
theorem evb_B (h : EvC K te Δ G L fun s G1 L1 => ∃ b, s = .d (.bl b) ∧ Qb b G1 L1) : EvB K (tB te) Δ G L Qb := fun w ls σ H c Q r => h w ls σ H c _ fun v s H2 G2 L2 c2 e2 r2 ⟨b, e, k⟩ => by
  subst e
  exact ⟨b, r2, r b H2 G2 L2 c2 e2 k⟩
theorem evb_and {Qb : PoB} (h : EvB K tt Δ G L fun b G1 L1 => if b = true then EvB K tu Δ G1 L1 Qb else Qb false G1 L1) : EvB K (tAnd tt tu) Δ G L Qb := fun w ls σ H c Q r => h w ls σ H c _ fun b H2 G2 L2 c2 e2 k => by
  cases b with
  | true =>
    rw [if_pos rfl] at k ⊢
    exact k w ls σ H2 c2 _ fun b H3 G3 L3 c3 e3 k3 => r b H3 G3 L3 c3 (e2.trans e3) k3
  | false =>
    rw [if_neg Bool.false_ne_true] at k ⊢
    exact r _ H2 G2 L2 c2 e2 k
theorem evb_or {Qb : PoB} (h : EvB K tt Δ G L fun b G1 L1 => if b = true then Qb true G1 L1 else EvB K tu Δ G1 L1 Qb) : EvB K (tOr tt tu) Δ G L Qb := fun w ls σ H c Q r => h w ls σ H c _ fun b H2 G2 L2 c2 e2 k => by
  cases b with
  | true =>
    rw [if_pos rfl] at k ⊢
    exact r _ H2 G2 L2 c2 e2 k
  | false =>
    rw [if_neg Bool.false_ne_true] at k ⊢
    exact k w ls σ H2 c2 _ fun b H3 G3 L3 c3 e3 k3 => r b H3 G3 L3 c3 (e2.trans e3) k3
theorem evb_not {Qb : PoB} (h : EvB K tt Δ G L fun b G1 L1 => Qb (!b) G1 L1) : EvB K (tNot tt) Δ G L Qb := fun w ls σ H c Q r => h w ls σ H c _ fun b H2 G2 L2 c2 e2 k => r _ H2 G2 L2 c2 e2 k
theorem evb_yes {Qb : PoB} (k : Qb true G L) : EvB K tYes Δ G L Qb := fun w ls σ H c Q r => r _ H G L c Ext.refl k
theorem evc_if (h : EvB K tt Δ G L fun b G1 L1 => if b = true then EvC K ta Δ G1 L1 Qd else EvC K tb Δ G1 L1 Qd) : EvC K (tIf tt ta tb) Δ G L Qd := fun w ls σ H c Q r => h w ls σ H c _ fun b H2 G2 L2 c2 e2 k => by
  cases b with
  | true =>
    rw [if_pos rfl] at k ⊢
    exact k w ls σ H2 c2 _ (r.ext e2)
  | false =>
    rw [if_neg Bool.false_ne_true] at k ⊢
    exact k w ls σ H2 c2 _ (r.ext e2)
theorem evc_andV (h : EvC K ta Δ G L fun s G1 L1 => ∃ b, s = .d (.bl b) ∧ if b = true then EvC K tb Δ G1 L1 Qd else Qd (.d (.bl false)) G1 L1) : EvC K (tAndV ta tb) Δ G L Qd := fun w ls σ H c Q r => h w ls σ H c _ fun v s H2 G2 L2 c2 e2 r2 ⟨b, e, k⟩ => by
  subst e
  refine ⟨b, r2, ?_⟩
  cases b with
  | true =>
    rw [if_pos rfl] at k ⊢
    exact k w ls σ H2 c2 _ (r.ext e2)
  | false =>
    rw [if_neg Bool.false_ne_true] at k ⊢
    exact r.go c2 e2 (s := .d (.bl false)) rfl k
theorem evc_orV (h : EvC K ta Δ G L fun s G1 L1 => ∃ b, s = .d (.bl b) ∧ if b = true then Qd (.d (.bl true)) G1 L1 else EvC K tb Δ G1 L1 Qd) : EvC K (tOrV ta tb) Δ G L Qd := fun w ls σ H c Q r => h w ls σ H c _ fun v s H2 G2 L2 c2 e2 r2 ⟨b, e, k⟩ => by
  subst e
  refine ⟨b, r2, ?_⟩
  cases b with
  | true =>
    rw [if_pos rfl] at k ⊢
    exact r.go c2 e2 (s := .d (.bl true)) rfl k
  | false =>
    rw [if_neg Bool.false_ne_true] at k ⊢
    exact k w ls σ H2 c2 _ (r.ext e2)
theorem evc_notV (h : EvC K ta Δ G L fun s G1 L1 => ∃ b, s = .d (.bl b) ∧ Qd (.d (.bl (!b))) G1 L1) : EvC K (tNotV ta) Δ G L Qd := fun w ls σ H c Q r => h w ls σ H c _ fun v s H2 G2 L2 c2 e2 r2 ⟨b, e, k⟩ => by
  subst e
  exact ⟨b, r2, r.go c2 e2 (s := .d (.bl (!b))) rfl k⟩
theorem evc_chain {r r' : R2} (h : EvC K ta Δ G L fun x G1 L1 => EvC K tb Δ G1 L1 fun y G2 L2 => OpC K r x y Δ G2 L2 fun z G3 L3 => ∃ b, z = .d (.bl b) ∧
    if b = true then EvC K tc Δ G3 L3 fun u G4 L4 => OpC K r' y u Δ G4 L4 Qd else Qd (.d (.bl false)) G3 L3) : EvC K (tChain r r' ta tb tc) Δ G L Qd :=
  fun w ls σ H c Q ret => h w ls σ H c _ fun v s H2 G2 L2 c2 e2 r2 h2 => h2 w ls σ H2 c2 _ fun v3 s3 H3 G3 L3 c3 e3 r3 h3 => h3 w ls σ H3 v v3 c3 (r2.on c2 e3) r3 _ fun v4 s4 H4 G4 L4 c4 e4 r4 ⟨b, e, k⟩ => by
    subst e
    refine ⟨b, r4, ?_⟩
    cases b with
    | true =>
      rw [if_pos rfl] at k ⊢
      exact k w ls σ H4 c4 _ fun v5 s5 H5 G5 L5 c5 e5 r5 h5 => h5 w ls σ H5 v3 v5 c5 ((r3.on c3 e4).on c4 e5) r5 Q (ret.ext (e2.trans (e3.trans (e4.trans e5))))
    | false =>
      rw [if_neg Bool.false_ne_true] at k ⊢
      exact ret.go c4 (e2.trans (e3.trans e4)) (s := .d (.bl false)) rfl k

/-! arguments, displays -/
theorem eva_nil {Qa : PoA} (k : Qa [] G L) : EvA K tNil Δ G L Qa := fun w ls σ H c Q r => r [] [] H G L c Ext.refl .nil k
theorem eva_cons {Qa : PoA} {ts : TA} (h : EvC K te Δ G L fun x G1 L1 => EvA K ts Δ G1 L1 fun xs G2 L2 => Qa (x :: xs) G2 L2) : EvA K (tCons te ts) Δ G L Qa :=
  fun w ls σ H c Q r => h w ls σ H c _ fun v s H2 G2 L2 c2 e2 r2 h2 => h2 w ls σ H2 c2 _ fun vs ss H3 G3 L3 c3 e3 r3 h3 => r (v :: vs) (s :: ss) H3 G3 L3 c3 (e2.trans e3) (.cons (r2.on c2 e3) r3) h3
/-- all are data -/
def dats : List S → Option (List D)
  | [] => some []
  | .d x :: r => match dats r with
    | some xs => some (x :: xs)
    | none => none
  | _ :: _ => none
theorem dats_rep {H : Hp} {R : Addr → Prop} {gs ls : List Addr} : ∀ {ss : List S} {ds : List D} {vs : List V}, dats ss = some ds → Paired (RS K H R gs ls) ss vs → RepL K H R ds vs
  | [], _, _, e, .nil => by
    cases e
    rfl
  | .d x :: r, ds, _, e, .cons h t => by
    unfold dats at e
    split at e
    · rename_i xs hx
      cases e
      exact ⟨_, _, rfl, h, dats_rep hx t⟩
    · cases e
theorem paired_len' {α β : Type} {F : α → β → Prop} {as : List α} {bs : List β} (h : Paired F as bs) : bs.length = as.length := (paired_len h).symm
theorem evc_tup {ts : TA} (h : EvA K ts Δ G L fun ss G1 L1 => ∃ ds, dats ss = some ds ∧ ds.length ≤ sizeLine ∧ Qd (.d (.tup ds)) G1 L1) : EvC K (tTup ts) Δ G L Qd := fun w ls σ H c Q r => h w ls σ H c _ fun vs ss H2 G2 L2 c2 e2 r2 ⟨ds, hd, hl, k⟩ =>
  have q := dats_rep hd r2
  ⟨by rw [q.length]; exact hl, fun p hp => r.go (c2.new hp) (e2.trans (Ext.new hp)) (s := .d (.tup ds)) (rep_tup c2 hp q) k⟩
theorem evn_lst {ts : TA} {Qn : PoN} (h : EvA K ts Δ G L fun ss G1 L1 => ∃ ds, dats ss = some ds ∧ ds.length ≤ sizeLine ∧ Qn (.pl ds) G1 L1) : EvN K (tLst ts) Δ G L Qn := fun w ls σ H c Q r => h w ls σ H c _ fun vs ss H2 G2 L2 c2 e2 r2 ⟨ds, hd, hl, k⟩ =>
  have q := dats_rep hd r2
  ⟨by rw [q.length]; exact hl, fun p hp => r p _ _ _ _ (none_back c2 e2 hp) (newAt_pl c2 hp q) (e2.trans (Ext.new hp)) k⟩
theorem evn_lstH {ts : TA} {Qn : PoN} (h : EvA K ts Δ G L fun ss G1 L1 => ss.length ≤ sizeLine ∧ Qn (.hl ss) G1 L1) : EvN K (tLst ts) Δ G L Qn := fun w ls σ H c Q r => h w ls σ H c _ fun vs ss H2 G2 L2 c2 e2 r2 ⟨hl, k⟩ =>
  ⟨by rw [paired_len' r2]; exact hl, fun p hp => r p _ _ _ _ (none_back c2 e2 hp) (newAt_hl c2 hp r2) (e2.trans (Ext.new hp)) k⟩

/-! subscripts -/
theorem u_ix_l {x : S} {xs : List D} {i : Int} {d : D} (hx : lsG G L x = some xs) (hi : atI xs i = some d) (k : Qd (.d d) G L) : OpC K (rIx K) x (.d (.int i)) Δ G L Qd := fun w ls σ H vx vy c rx ry Q q => by
  obtain ⟨a, vs, rfl, h1, q1⟩ := lsG_get c rx hx
  unfold atI at hi
  cases e : ixN xs.length i with
  | none =>
    rw [e] at hi
    cases hi
  | some j =>
    rw [e] at hi
    obtain ⟨v, hv, r⟩ := q1.get (show xs[j]? = some d from hi)
    refine .inl ⟨a, vs, i, v, rfl, ry, .inl (.inl h1), ?_, q.go c Ext.refl (s := .d d) r k⟩
    unfold atI
    rw [q1.length, e]
    exact hv
theorem u_ix_t {xs : List D} {i : Int} {d : D} (hi : atI xs i = some d) (k : Qd (.d d) G L) : OpC K (rIx K) (.d (.tup xs)) (.d (.int i)) Δ G L Qd := fun w ls σ H vx vy c rx ry Q q => by
  obtain ⟨a, vs, rfl, h1, q1⟩ := rx
  unfold atI at hi
  cases e : ixN xs.length i with
  | none =>
    rw [e] at hi
    cases hi
  | some j =>
    rw [e] at hi
    obtain ⟨v, hv, r⟩ := q1.get (show xs[j]? = some d from hi)
    refine .inr (.inl ⟨a, vs, i, v, rfl, ry, h1.sq, ?_, q.go c Ext.refl (s := .d d) r k⟩)
    unfold atI
    rw [q1.length, e]
    exact hv
theorem u_ix_s {z : Str} {i : Int} {ch : Nat} (hl : z.length ≤ sizeLine) (hi : atI z.cps.toList i = some ch) (k : Qd (.d (.str ⟨#[ch]⟩)) G L) : OpC K (rIx K) (.d (.str z)) (.d (.int i)) Δ G L Qd := fun w ls σ H vx vy c rx ry Q q =>
  .inr (.inr ⟨z, i, ch, rx, ry, hl, hi, q.go c Ext.refl (s := .d (.str ⟨#[ch]⟩)) rfl k⟩)
theorem u_ix_scr {ns : List Int} {i z : Int} (hi : atI ns i = some z) (k : Qd (.d (.int z)) G L) : OpC K (rIx K) (.d (.scr ns)) (.d (.int i)) Δ G L Qd := fun w ls σ H vx vy c rx ry Q q => by
  obtain ⟨a, rfl, h1⟩ := rx
  refine .inl ⟨a, _, i, .int z, rfl, ry, h1.sq, ?_, q.go c Ext.refl (s := .d (.int z)) rfl k⟩
  unfold atI at hi ⊢
  rw [List.length_map]
  cases e : ixN ns.length i with
  | none =>
    rw [e] at hi
    cases hi
  | some j =>
    rw [e] at hi
    show (ns.map V.int)[j]? = _
    rw [List.getElem?_map, show ns[j]? = some z from hi]
    rfl
end
end
end DL

namespace DL
open PySem PySem.Spec PyProof.Rows L2
section
variable {K : PySem.W.Frag}
structure EndsD where
  nx : Sl → List M → List M → Prop
  rt : S → List M → List M → Prop
  bk : Sl → List M → List M → Prop := fun _ _ _ => False
  ct : Sl → List M → List M → Prop := fun _ _ _ => False
  wd : W → List Addr → Hp → Prop := fun _ _ _ => True
structure SEnds (K : PySem.W.Frag) (w : W) (ls : List Addr) (H : Hp) (E : EndsD) (D : Ends) : Prop where
  nx : ∀ ls' σ H' Δ G L, Ctx K w ls' σ H' Δ G L → Grow H H' (Rg w ls) (Rg w ls') → E.nx Δ G L → D.nx σ H'
  rt : ∀ ls' σ H' Δ G L v s, Ctx K w ls' σ H' Δ G L → RS K H' (Rg w ls') w.gs ls' s v → E.rt s G L → D.rt v H'
  bk : ∀ ls' σ H' Δ G L, Ctx K w ls' σ H' Δ G L → Grow H H' (Rg w ls) (Rg w ls') → E.bk Δ G L → D.bk σ H'
  ct : ∀ ls' σ H' Δ G L, Ctx K w ls' σ H' Δ G L → Grow H H' (Rg w ls) (Rg w ls') → E.ct Δ G L → D.ct σ H'
  wd : ∀ ls' H', Grow H H' (Rg w ls) (Rg w ls') → E.wd w ls' H'
def StC (K : PySem.W.Frag) (ts : TS) (Δ : Sl) (G L : List M) (E : EndsD) : Prop := ∀ w ls σ H, Ctx K w ls σ H Δ G L → ∀ D : Ends, SEnds K w ls H E D → ts D σ H
theorem SEnds.on {w : W} {ls ls1 : List Addr} {H H1 : Hp} {E : EndsD} {D : Ends} (s : SEnds K w ls H E D) (g : Grow H H1 (Rg w ls) (Rg w ls1)) : SEnds K w ls1 H1 E D :=
  ⟨fun ls' σ H' Δ G L c g' h => s.nx ls' σ H' Δ G L c (g.trans g') h, s.rt, fun ls' σ H' Δ G L c g' h => s.bk ls' σ H' Δ G L c (g.trans g') h, fun ls' σ H' Δ G L c g' h => s.ct ls' σ H' Δ G L c (g.trans g') h, fun ls' H' g' => s.wd ls' H' (g.trans g')⟩
section
variable {Δ : Sl} {G L : List M} {E : EndsD} {te : TE} {tt : TT} {t u : TS}
/-- a slot is stored -/
theorem SlOk.set {H : Hp} {R : Addr → Prop} {gs ls : List Addr} {σ : L2.St} (h : SlOk K H R gs ls σ Δ) {i : Nat} {v : V} {s : S} (r : RS K H R gs ls s v) : SlOk K H R gs ls (σ.set i (some v)) (Δ.set i (some s)) := by
  refine ⟨by rw [List.length_set, List.length_set, h.1], fun j z e => ?_⟩
  rw [List.getElem?_set] at e ⊢
  split at e
  · rename_i hij
    subst hij
    rw [if_pos rfl]
    split at e
    · rename_i hl
      cases e
      exact ⟨v, by rw [if_pos (by rw [h.1]; exact hl)], r⟩
    · cases e
  · rename_i hij
    rw [if_neg hij]
    exact h.2 j z e
theorem Ctx.slot {w : W} {ls : List Addr} {σ : L2.St} {H : Hp} (c : Ctx K w ls σ H Δ G L) {i : Nat} {v : V} {s : S} (r : RS K H (Rg w ls) w.gs ls s v) : Ctx K w ls (σ.set i (some v)) H (Δ.set i (some s)) G L :=
  ⟨c.reg, c.rin, c.nd, c.fr, c.h0, c.sl.set r, c.gl, c.lo, c.ld⟩
theorem st_seq (h : StC K t Δ G L { E with nx := fun Δ1 G1 L1 => StC K u Δ1 G1 L1 E }) : StC K (tSeq t u) Δ G L E := fun w ls σ H c D s =>
  h w ls σ H c _ ⟨fun ls' σ' H' Δ' G' L' c' g' k => k w ls' σ' H' c' D (s.on g'), s.rt, s.bk, s.ct, s.wd⟩
theorem st_next (k : E.nx Δ G L) : StC K tNext Δ G L E := fun w ls σ H c D s => s.nx ls σ H Δ G L c (Grow.refl _ _) k
theorem st_break (k : E.bk Δ G L) : StC K tBreak Δ G L E := fun w ls σ H c D s => s.bk ls σ H Δ G L c (Grow.refl _ _) k
theorem st_cont (k : E.ct Δ G L) : StC K tCont Δ G L E := fun w ls σ H c D s => s.ct ls σ H Δ G L c (Grow.refl _ _) k
theorem st_asg {i : Nat} (h : EvC K te Δ G L fun s G1 L1 => E.nx (Δ.set i (some s)) G1 L1) : StC K (tAsg te (gName i)) Δ G L E := fun w ls σ H c D s =>
  h w ls σ H c _ fun v x H2 G2 L2 c2 e2 r2 k => s.nx ls _ H2 _ G2 L2 (c2.slot r2) (e2.grow c.reg) k
/-- a new object becomes the def's own -/
theorem st_own {i : Nat} (h : EvN K te Δ G L fun m G1 L1 => E.nx (Δ.set i (some (.l L1.length))) G1 (L1 ++ [m])) : StC K (tAsg te (gName i)) Δ G L E := fun w ls σ H c D s =>
  h w ls σ H c _ fun p m H2 G2 L2 hp n e2 k => by
    have hl : ls.length = L2.length := paired_len n.c.lo
    refine s.nx (ls ++ [p]) _ H2 _ G2 (L2 ++ [m]) (n.own.slot (s := .l L2.length) ⟨p, ?_, rfl⟩) ⟨(e2.grow c.reg).keep, fun a o q r => ?_⟩ k
    · rw [← hl, List.getElem?_append_right (Nat.le_refl _), Nat.sub_self]
      rfl
    · rcases r with r | r
      · exact .inl r
      · rcases List.mem_append.mp r with r | r
        · exact .inr r
        · rw [List.mem_singleton] at r
          subst r
          rw [hp] at q
          cases q
theorem st_if (h : EvB K tt Δ G L fun b G1 L1 => if b = true then StC K t Δ G1 L1 E else StC K u Δ G1 L1 E) : StC K (tIfS tt t u) Δ G L E := fun w ls σ H c D s => h w ls σ H c _ fun b H2 G2 L2 c2 e2 k => by
  cases b with
  | true =>
    rw [if_pos rfl] at k ⊢
    exact k w ls σ H2 c2 D (s.on (e2.grow c.reg))
  | false =>
    rw [if_neg Bool.false_ne_true] at k ⊢
    exact k w ls σ H2 c2 D (s.on (e2.grow c.reg))
theorem st_ret (h : EvC K te Δ G L fun s G1 L1 => E.rt s G1 L1) : StC K (tRet te) Δ G L E := fun w ls σ H c D s => h w ls σ H c _ fun v x H2 G2 L2 c2 e2 r2 k => s.rt ls σ H2 Δ G2 L2 v x c2 r2 k
theorem st_retN (k : E.rt (.d .non) G L) : StC K tRetN Δ G L E := fun w ls σ H c D s => s.rt ls σ H Δ G L .non (.d .non) c rfl k
theorem st_retO (h : EvN K te Δ G L fun m G1 L1 => E.rt (.l L1.length) G1 (L1 ++ [m])) : StC K (tRet te) Δ G L E := fun w ls σ H c D s => h w ls σ H c _ fun p m H2 G2 L2 hp n e2 k => by
  have hl : ls.length = L2.length := paired_len n.c.lo
  refine s.rt (ls ++ [p]) σ H2 Δ G2 (L2 ++ [m]) (.ref p) (.l L2.length) n.own ⟨p, ?_, rfl⟩ k
  rw [← hl, List.getElem?_append_right (Nat.le_refl _), Nat.sub_self]
  rfl
theorem st_drop (h : EvC K te Δ G L fun _ G1 L1 => E.nx Δ G1 L1) : StC K (tDrop te) Δ G L E := fun w ls σ H c D s => h w ls σ H c _ fun v x H2 G2 L2 c2 e2 r2 k => s.nx ls σ H2 Δ G2 L2 c2 (e2.grow c.reg) k

/-! targets: ok says which slots may be stored -/
abbrev PoT := Sl → List M → List M → Prop
def TgC (K : PySem.W.Frag) (g : TG) (ok : Nat → Prop) (s : S) (Δ : Sl) (G L : List M) (Qt : PoT) : Prop :=
  ∀ w ls σ H v, Ctx K w ls σ H Δ G L → RS K H (Rg w ls) w.gs ls s v → ∀ Q : L2.St → Hp → Prop,
    (∀ σ' H' Δ' G' L', Ctx K w ls σ' H' Δ' G' L' → Ext w ls H H' → σ'.length = σ.length → (∀ k, ¬ ok k → σ'[k]? = σ[k]?) → Qt Δ' G' L' → Q σ' H') → g v σ H Q
def TgCs (K : PySem.W.Frag) (g : TGs) (ok : Nat → Prop) (ss : List S) (Δ : Sl) (G L : List M) (Qt : PoT) : Prop :=
  ∀ w ls σ H vs, Ctx K w ls σ H Δ G L → Paired (RS K H (Rg w ls) w.gs ls) ss vs → ∀ Q : L2.St → Hp → Prop,
    (∀ σ' H' Δ' G' L', Ctx K w ls σ' H' Δ' G' L' → Ext w ls H H' → σ'.length = σ.length → (∀ k, ¬ ok k → σ'[k]? = σ[k]?) → Qt Δ' G' L' → Q σ' H') → g vs σ H Q
theorem tg_name {i : Nat} {s : S} {Qt : PoT} {ok : Nat → Prop} (hi : ok i) (k : Qt (Δ.set i (some s)) G L) : TgC K (gName i) ok s Δ G L Qt := fun w ls σ H v c r Q q =>
  q _ H _ G L (c.slot r) Ext.refl (List.length_set ..) (fun k hk => by
    rw [List.getElem?_set_ne (fun z => hk (by rw [← z]; exact hi))]) k
theorem tgs_nil {Qt : PoT} {ok : Nat → Prop} (k : Qt Δ G L) : TgCs K gNil ok [] Δ G L Qt := fun w ls σ H vs c r Q q => by
  cases r
  exact ⟨rfl, q σ H Δ G L c Ext.refl rfl (fun _ _ => rfl) k⟩
theorem tgs_cons {g : TG} {gs : TGs} {ok : Nat → Prop} {s : S} {ss : List S} {Qt : PoT} (h : TgC K g ok s Δ G L fun Δ1 G1 L1 => TgCs K gs ok ss Δ1 G1 L1 Qt) : TgCs K (gCons g gs) ok (s :: ss) Δ G L Qt := fun w ls σ H vs c r Q q => by
  cases r with
  | cons r1 rr =>
    refine ⟨_, _, rfl, h w ls σ H _ c r1 _ fun σ1 H1 Δ1 G1 L1 c1 e1 l1 o1 k1 => ?_⟩
    refine k1 w ls σ1 H1 _ c1 (RSs.on c e1 rr) _ fun σ2 H2 Δ2 G2 L2 c2 e2 l2 o2 k2 => ?_
    exact q σ2 H2 Δ2 G2 L2 c2 (e1.trans e2) (l2.trans l1) (fun k hk => (o2 k hk).trans (o1 k hk)) k2
theorem repL_rs {H : Hp} {R : Addr → Prop} {gs ls : List Addr} : ∀ {ds : List D} {vs : List V}, RepL K H R ds vs → Paired (RS K H R gs ls) (ds.map S.d) vs
  | [], _, h => by
    cases h
    exact .nil
  | d :: ds, _, ⟨y, ys, e, h, r⟩ => by
    subst e
    exact .cons h (repL_rs r)
theorem tg_tup {gs : TGs} {ok : Nat → Prop} {ds : List D} {n : Nat} {Qt : PoT} (hn : ds.length = n) (h : TgCs K gs ok (ds.map S.d) Δ G L Qt) : TgC K (gTup K n gs) ok (.d (.tup ds)) Δ G L Qt := fun w ls σ H v c r Q q => by
  obtain ⟨a, xs, rfl, h1, r1⟩ := r
  exact ⟨a, xs, rfl, h1.sq, by rw [r1.length]; exact hn, h w ls σ H xs c (repL_rs r1) Q q⟩
theorem st_asgT {g : TG} (h : EvC K te Δ G L fun s G1 L1 => TgC K g (fun _ => True) s Δ G1 L1 E.nx) : StC K (tAsg te g) Δ G L E := fun w ls σ H c D s =>
  h w ls σ H c _ fun v x H2 G2 L2 c2 e2 r2 k => k w ls σ H2 v c2 r2 _ fun σ' H' Δ' G' L' c' e' _ _ k' => s.nx ls σ' H' Δ' G' L' c' ((e2.trans e').grow c.reg) k'

/-! what is walked -/
structure ItOk (K : PySem.W.Frag) (w : W) (ls : List Addr) (J : It) (H1 : Hp) (items : List D) : Prop where
  go : ∀ H2 w2 ls2 σ2 Δ2 G2 L2 i d, Grow H1 H2 (Rg w ls) (Rg w2 ls2) → Ctx K w2 ls2 σ2 H2 Δ2 G2 L2 → items[i]? = some d → J.go i H2 ∧ ∀ x H', J.yld i H2 x H' → Ctx K w2 ls2 σ2 H' Δ2 G2 L2 ∧ Ext w2 ls2 H2 H' ∧ Rep K H' (Rg w2 ls2) d x
  stop : ∀ H2 w2 ls2, Grow H1 H2 (Rg w ls) (Rg w2 ls2) → J.stop items.length H2
def EvI (K : PySem.W.Frag) (wi : TI) (Δ : Sl) (G L : List M) (Qi : List D → List M → List M → Prop) : Prop :=
  ∀ w ls σ H, Ctx K w ls σ H Δ G L → ∀ R : It → Hp → Prop, (∀ J H1 items G1 L1, Ctx K w ls σ H1 Δ G1 L1 → Ext w ls H H1 → ItOk K w ls J H1 items → Qi items G1 L1 → R J H1) → wi σ H R
/-- over data -/
theorem evi_list {tl : TE} {Qi : List D → List M → List M → Prop} (h : EvC K tl Δ G L fun s G1 L1 => ∃ ds, s = .d (.lst ds) ∧ Qi ds G1 L1) : EvI K (iList K tl) Δ G L Qi := fun w ls σ H c R q =>
  h w ls σ H c _ fun v s H2 G2 L2 c2 e2 r2 ⟨ds, e, k⟩ => by
    subst e
    obtain ⟨a, vs, rfl, ⟨h1, n1⟩, r1⟩ := r2
    refine ⟨a, rfl, ⟨vs, .inl (.inl h1)⟩, q _ H2 ds G2 L2 c2 e2 ⟨fun H3 w2 ls2 σ2 Δ2 G3 L3 i d g c3 hi => ?_, fun H3 w2 ls2 g => ?_⟩ k⟩
    · obtain ⟨x, hx, rx⟩ := (r1.grow g).get hi
      have h3 := g.keep a _ h1 n1
      refine ⟨⟨vs, x, .inl (.inl h3), hx⟩, fun y H' ⟨hH, hy⟩ => ?_⟩
      subst hH
      have e := hy vs (.inl (.inl h3))
      rw [hx] at e
      cases e
      exact ⟨c3, Ext.refl, rx⟩
    · exact ⟨vs, .inl (.inl (g.keep a _ h1 n1)), Nat.le_of_eq r1.length⟩
theorem evi_tup {tl : TE} {Qi : List D → List M → List M → Prop} (h : EvC K tl Δ G L fun s G1 L1 => ∃ ds, s = .d (.tup ds) ∧ Qi ds G1 L1) : EvI K (iTup K tl) Δ G L Qi := fun w ls σ H c R q =>
  h w ls σ H c _ fun v s H2 G2 L2 c2 e2 r2 ⟨ds, e, k⟩ => by
    subst e
    obtain ⟨a, vs, rfl, h1, r1⟩ := r2
    refine ⟨a, rfl, ⟨vs, h1.sq⟩, q _ H2 ds G2 L2 c2 e2 ⟨fun H3 w2 ls2 σ2 Δ2 G3 L3 i d g c3 hi => ?_, fun H3 w2 ls2 g => ?_⟩ k⟩
    · obtain ⟨x, hx, rx⟩ := (r1.grow g).get hi
      have h3 := (h1.grow g).sq
      refine ⟨⟨vs, x, h3, hx⟩, fun y H' ⟨hH, hy⟩ => ?_⟩
      subst hH
      have e := hy vs h3
      rw [hx] at e
      cases e
      exact ⟨c3, Ext.refl, rx⟩
    · exact ⟨vs, (h1.grow g).sq, Nat.le_of_eq r1.length⟩
def rngD (lo : Int) (n : Nat) : List D := (List.range n).map fun i => .int (lo + (i : Nat))
theorem rngD_get {lo : Int} {n i : Nat} {d : D} (h : (rngD lo n)[i]? = some d) : i < n ∧ d = .int (lo + (i : Nat)) := by
  unfold rngD at h
  rw [List.getElem?_map] at h
  by_cases hi : i < n
  · rw [List.getElem?_range hi] at h
    exact ⟨hi, (Option.some.inj h).symm⟩
  · rw [List.getElem?_eq_none (by rw [List.length_range]; omega)] at h
    cases h
theorem rngD_len {lo : Int} {n : Nat} : (rngD lo n).length = n := by
  unfold rngD
  rw [List.length_map, List.length_range]
theorem itok_range {w : W} {ls : List Addr} {H : Hp} {lo : Int} {n : Nat} : ItOk K w ls (Itr lo n) H (rngD lo n) :=
  ⟨fun H3 w2 ls2 σ2 Δ2 G3 L3 i d g c3 hi => by
    obtain ⟨h1, rfl⟩ := rngD_get hi
    exact ⟨h1, fun x H' ⟨hH, hx⟩ => by
      subst hH
      exact ⟨c3, Ext.refl, hx⟩⟩, fun _ _ _ _ => Nat.le_of_eq rngD_len.symm⟩
theorem evi_rng1 {ta : TA} {Qi : List D → List M → List M → Prop} (h : EvA K ta Δ G L fun ss G1 L1 => ∃ j : Int, ss = [.d (.int j)] ∧ -(2 ^ 62) ≤ j ∧ j < 2 ^ 62 ∧ Qi (rngD 0 j.toNat) G1 L1) : EvI K (iRng1 ta) Δ G L Qi := fun w ls σ H c R q =>
  h w ls σ H c _ fun vs ss H2 G2 L2 c2 e2 r2 ⟨j, e, h1, h2, k⟩ => by
    subst e
    cases r2 with
    | cons r t =>
      cases t
      exact ⟨j, by rw [show _ = V.int j from r], h1, h2, q _ H2 _ G2 L2 c2 e2 itok_range k⟩
theorem evi_rng2 {ta : TA} {Qi : List D → List M → List M → Prop} (h : EvA K ta Δ G L fun ss G1 L1 => ∃ i j : Int, ss = [.d (.int i), .d (.int j)] ∧ (-(2 ^ 62) ≤ i ∧ i < 2 ^ 62 ∧ -(2 ^ 62) ≤ j ∧ j < 2 ^ 62) ∧ Qi (rngD i (j - i).toNat) G1 L1) : EvI K (iRng2 ta) Δ G L Qi := fun w ls σ H c R q =>
  h w ls σ H c _ fun vs ss H2 G2 L2 c2 e2 r2 ⟨i, j, e, h1, k⟩ => by
    subst e
    cases r2 with
    | cons r t =>
      cases t with
      | cons r' t' =>
        cases t'
        exact ⟨i, j, by rw [show _ = V.int i from r, show _ = V.int j from r'], h1, q _ H2 _ G2 L2 c2 e2 itok_range k⟩
theorem st_for {wi : TI} {g : TG} {tb : TS} (h : EvI K wi Δ G L fun items G1 L1 => ∃ P : Nat → Sl → List M → List M → Prop, P 0 Δ G1 L1 ∧
    (∀ i d Δ' G' L', items[i]? = some d → P i Δ' G' L' → TgC K g (fun _ => True) (.d d) Δ' G' L' fun Δ2 G2 L2 => StC K tb Δ2 G2 L2 { E with nx := P (i + 1), ct := P (i + 1), bk := E.nx }) ∧
    ∀ Δ' G' L', P items.length Δ' G' L' → E.nx Δ' G' L') : StC K (tFor wi g tb) Δ G L E := fun w ls σ H c D s =>
  h w ls σ H c _ fun J H1 items G1 L1 c1 e1 it ⟨P, p0, ps, pe⟩ => by
    have g1 : Grow H H1 (Rg w ls) (Rg w ls) := e1.grow c.reg
    refine ⟨fun i m σ' H' => m = items.length - i ∧ i ≤ items.length ∧ ∃ ls' Δ' G' L', Ctx K w ls' σ' H' Δ' G' L' ∧ Grow H1 H' (Rg w ls) (Rg w ls') ∧ P i Δ' G' L',
      ⟨_, rfl, Nat.zero_le _, ls, Δ, G1, L1, c1, Grow.refl _ _, p0⟩, ?_⟩
    rintro i m σ' H' ⟨rfl, hi, ls', Δ', G', L', c', g', p⟩
    by_cases hlt : i < items.length
    · obtain ⟨go, yl⟩ := it.go H' w ls' σ' Δ' G' L' i _ g' c' (List.getElem?_eq_getElem hlt)
      refine .inr ⟨go, fun σ2 H2 => ∃ ls2 Δ2 G2 L2, Ctx K w ls2 σ2 H2 Δ2 G2 L2 ∧ Grow H1 H2 (Rg w ls) (Rg w ls2) ∧ P (i + 1) Δ2 G2 L2, fun σ2 H2 ⟨ls2, Δ2, G2, L2, c2, g2, p2⟩ => ⟨_, by omega, rfl, hlt, ls2, Δ2, G2, L2, c2, g2, p2⟩, fun x H3 hy => ?_⟩
      obtain ⟨c3, e3, r3⟩ := yl x H3 hy
      refine ps i _ Δ' G' L' (List.getElem?_eq_getElem hlt) p w ls' σ' H3 x c3 r3 _ fun σ4 H4 Δ4 G4 L4 c4 e4 _ _ k4 => ?_
      have g4 : Grow H1 H4 (Rg w ls) (Rg w ls') := g'.trans ((e3.trans e4).grow c'.reg)
      exact k4 w ls' σ4 H4 c4 _ ⟨fun ls5 σ5 H5 Δ5 G5 L5 c5 g5 p5 => ⟨ls5, Δ5, G5, L5, c5, g4.trans g5, p5⟩, s.rt, fun ls5 σ5 H5 Δ5 G5 L5 c5 g5 p5 => s.nx ls5 σ5 H5 Δ5 G5 L5 c5 (g1.trans (g4.trans g5)) p5,
        fun ls5 σ5 H5 Δ5 G5 L5 c5 g5 p5 => ⟨ls5, Δ5, G5, L5, c5, g4.trans g5, p5⟩, fun ls5 H5 g5 => s.wd ls5 H5 (g1.trans (g4.trans g5))⟩
    · have e : i = items.length := by omega
      subst e
      exact .inl ⟨it.stop H' w ls' g', s.nx ls' σ' H' Δ' G' L' c' (g1.trans g') (pe Δ' G' L' p)⟩
theorem st_while {tb : TS} (P : Nat → Sl → List M → List M → Prop) (m0 : Nat) (p0 : P m0 Δ G L)
    (ps : ∀ m Δ' G' L', P m Δ' G' L' → EvB K tt Δ' G' L' fun b G1 L1 => if b = true then StC K tb Δ' G1 L1 { E with nx := fun Δ2 G2 L2 => ∃ m', m' < m ∧ P m' Δ2 G2 L2, ct := fun Δ2 G2 L2 => ∃ m', m' < m ∧ P m' Δ2 G2 L2, bk := E.nx } else E.nx Δ' G1 L1) : StC K (tWhile tt tb) Δ G L E := fun w ls σ H c D s => by
  refine ⟨fun m σ' H' => ∃ ls' Δ' G' L', Ctx K w ls' σ' H' Δ' G' L' ∧ Grow H H' (Rg w ls) (Rg w ls') ∧ P m Δ' G' L', ⟨m0, ls, Δ, G, L, c, Grow.refl _ _, p0⟩, ?_⟩
  rintro m σ' H' ⟨ls', Δ', G', L', c', g', p⟩
  refine ps m Δ' G' L' p w ls' σ' H' c' _ fun b H2 G2 L2 c2 e2 k => ?_
  have g2 : Grow H H2 (Rg w ls) (Rg w ls') := g'.trans (e2.grow c'.reg)
  cases b with
  | true =>
    rw [if_pos rfl] at k ⊢
    refine ⟨fun σ3 H3 => ∃ m', m' < m ∧ ∃ ls3 Δ3 G3 L3, Ctx K w ls3 σ3 H3 Δ3 G3 L3 ∧ Grow H H3 (Rg w ls) (Rg w ls3) ∧ P m' Δ3 G3 L3, fun σ3 H3 ⟨m', hm, ls3, Δ3, G3, L3, c3, g3, p3⟩ => ⟨m', hm, ls3, Δ3, G3, L3, c3, g3, p3⟩, ?_⟩
    exact k w ls' σ' H2 c2 _ ⟨fun ls5 σ5 H5 Δ5 G5 L5 c5 g5 ⟨m', hm, p5⟩ => ⟨m', hm, ls5, Δ5, G5, L5, c5, g2.trans g5, p5⟩, s.rt, fun ls5 σ5 H5 Δ5 G5 L5 c5 g5 p5 => s.nx ls5 σ5 H5 Δ5 G5 L5 c5 (g2.trans g5) p5,
      fun ls5 σ5 H5 Δ5 G5 L5 c5 g5 ⟨m', hm, p5⟩ => ⟨m', hm, ls5, Δ5, G5, L5, c5, g2.trans g5, p5⟩, fun ls5 H5 g5 => s.wd ls5 H5 (g2.trans g5)⟩
  | false =>
    rw [if_neg Bool.false_ne_true] at k ⊢
    exact s.nx ls' σ' H2 Δ' G2 L2 c2 g2 k

/-! comprehensions -/
def W.add (w : W) (p : Addr) : W := ⟨fun a => w.R a ∨ a = p, w.gs, w.H0⟩
theorem rg_add {w : W} {p : Addr} {ls : List Addr} {a : Addr} : Rg (w.add p) ls a ↔ Rg w (ls ++ [p]) a := by
  unfold Rg W.add
  rw [List.mem_append, List.mem_singleton]
  constructor
  · rintro ((h | h) | h)
    · exact .inl h
    · exact .inr (.inr h)
    · exact .inr (.inl h)
  · rintro (h | h | h)
    · exact .inl (.inl h)
    · exact .inr h
    · exact .inl (.inr h)
theorem grow_iff {H : Hp} {R R' : Addr → Prop} (h : ∀ a, R' a → R a) : Grow H H R R' := ⟨fun _ _ e _ => e, fun a _ _ r => h a r⟩
/-- hidden: the object at p is the caller's own -/
theorem Ctx.hide {w : W} {ls : List Addr} {σ : L2.St} {H : Hp} (c : Ctx K w ls σ H Δ G L) {p : Addr} {o : HO} (h : H p = none) : Ctx K (w.add p) ls σ (upd H p o) Δ G L := by
  have g : Grow H (upd H p o) (Rg w ls) (Rg (w.add p) ls) := ((grow_reg h).trans (grow_iff fun a r => rg_add.mp r)).trans (grow_new h)
  have k := keep_new (o := o) h
  refine ⟨fun a r => .inl (c.reg a r), fun a r => ?_, c.nd, c.fr, fun a u e n => k a u (c.h0 a u e n), c.sl.grow g (Pre.refl _) (Pre.refl _),
    paired_map c.gl fun a m _ q => q.grow g (Pre.refl _) (Pre.refl _) (k a), paired_map c.lo fun a m _ q => q.grow g (Pre.refl _) (Pre.refl _) (k a), fun a m r => r.elim (c.ld a m) fun z => c.free h (.inr (z ▸ m))⟩
  rcases r with r | r
  · obtain ⟨u, e⟩ := c.rin a r
    exact ⟨u, k a u e⟩
  · subst r
    exact ⟨o, upd_same⟩
theorem Ctx.setH {w : W} {ls : List Addr} {σ : L2.St} {H : Hp} {p : Addr} {o u : HO} (c : Ctx K (w.add p) ls σ H Δ G L) (h : H p = some u) (n0 : w.H0 p = none) (np : p ∉ w.gs) (nl : p ∉ ls) : Ctx K (w.add p) ls σ (upd H p o) Δ G L := by
  have g : Grow H (upd H p o) (Rg (w.add p) ls) (Rg (w.add p) ls) := grow_upd (.inl (.inr rfl))
  refine ⟨c.reg, fun a r => ?_, c.nd, c.fr, fun a u e n => ?_, c.sl.grow g (Pre.refl _) (Pre.refl _),
    paired_map c.gl fun a m ha q => q.grow g (Pre.refl _) (Pre.refl _) (upd_other fun z => np (z ▸ ha)), paired_map c.lo fun a m ha q => q.grow g (Pre.refl _) (Pre.refl _) (upd_other fun z => nl (z ▸ ha)), c.ld⟩
  · by_cases z : a = p
    · subst z
      exact ⟨_, upd_same⟩
    · obtain ⟨u, e⟩ := c.rin a r
      exact ⟨u, by rw [upd_ne z]; exact e⟩
  · have z : a ≠ p := fun z => by
      rw [z] at e
      rw [show w.H0 p = some u from e] at n0
      cases n0
    rw [upd_ne z]
    exact c.h0 a u e n
theorem Ctx.show {w : W} {ls : List Addr} {σ : L2.St} {H : Hp} {p : Addr} {vs : List V} {ds : List D} (c : Ctx K (w.add p) ls σ H Δ G L) (hr : ∀ a ∈ w.gs, w.R a) (h : H p = some (.lst vs)) (r : RepL K H (Rg (w.add p) ls) ds vs) (n0 : w.H0 p = none) (np : p ∉ w.gs) (nl : p ∉ ls) (nR : ¬ w.R p) : NewAt K w ls σ H Δ G L p (.pl ds) := by
  have g1 : Grow H H (Rg (w.add p) ls) (Rg w (ls ++ [p])) := grow_iff fun a r => rg_add.mpr r
  have g2 : Grow H H (Rg (w.add p) ls) (Rg w ls) := grow_iff fun a r => by
    rcases r with r | r
    · exact .inl (.inl r)
    · exact .inr r
  refine ⟨⟨hr, fun a r => c.rin a (.inl r), ?_, ?_, c.h0, c.sl.grow g1 (Pre.refl _) (Pre.app _ _), paired_map c.gl fun a m _ q => q.grow g1 (Pre.refl _) (Pre.nil _) (fun _ z => z),
    paired_app (paired_map c.lo fun a m _ q => q.grow g1 (Pre.refl _) (Pre.app _ _) (fun _ z => z)) (.cons ⟨vs, h, r.grow g1⟩ .nil), fun a ha r => (List.mem_append.mp ha).elim (fun z => c.ld a z (.inl r)) fun z => nR ((List.mem_singleton.mp z) ▸ r)⟩,
    ⟨hr, fun a r => c.rin a (.inl r), c.nd, c.fr, c.h0, c.sl.grow g2 (Pre.refl _) (Pre.refl _), paired_map c.gl fun a m _ q => q.grow g2 (Pre.refl _) (Pre.refl _) (fun _ z => z),
    paired_map c.lo fun a m _ q => q.grow g2 (Pre.refl _) (Pre.refl _) (fun _ z => z), fun a m r => c.ld a m (.inl r)⟩, fun x e => ?_⟩
  · show (w.gs ++ (ls ++ [p])).Nodup
    rw [← List.append_assoc]
    refine List.nodup_append.mpr ⟨c.nd, by simp, fun a ha b hb => ?_⟩
    rw [List.mem_singleton] at hb
    subst hb
    rintro rfl
    rcases List.mem_append.mp ha with z | z
    · exact np z
    · exact nl z
  · intro a ha
    rcases List.mem_append.mp ha with z | z
    · exact c.fr a z
    · rw [List.mem_singleton] at z
      subst z
      exact n0
  · cases e
    refine ⟨p, vs, rfl, ⟨h, ?_⟩, r.grow g2⟩
    rintro (z | z)
    · exact nR z
    · exact nl z
def wipeD (Δ : Sl) : List Nat → Sl
  | [] => Δ
  | v :: vs => (wipeD Δ vs).set v none
theorem wipe_get {σ : L2.St} {k : Nat} : ∀ {vs : List Nat}, (wipe σ vs)[k]? = if k ∈ vs ∧ k < σ.length then some none else σ[k]?
  | [] => by simp [wipe]
  | v :: vs => by
    show ((wipe σ vs).set v none)[k]? = _
    rw [List.getElem?_set, wipe_length]
    by_cases hv : v = k
    · subst hv
      by_cases hl : v < σ.length
      · simp [hl]
      · simp [hl]
    · rw [if_neg hv, wipe_get (vs := vs)]
      have : (k ∈ v :: vs) ↔ k ∈ vs := by
        rw [List.mem_cons]
        exact ⟨fun h => h.resolve_left (fun z => hv z.symm), .inr⟩
      simp only [this]
theorem wipe_eq {σ σ' : L2.St} {vs : List Nat} (hl : σ'.length = σ.length) (h : ∀ k, ¬ k ∈ vs → σ'[k]? = (wipe σ vs)[k]?) : wipe σ' vs = wipe σ vs := by
  refine List.ext_getElem? fun k => ?_
  rw [wipe_get (σ := σ'), wipe_get (σ := σ)]
  by_cases hk : k ∈ vs
  · rw [hl]
    by_cases hlt : k < σ.length
    · simp [hk, hlt]
    · simp [hk, hlt]
      omega
  · rw [if_neg (fun z => hk z.1), if_neg (fun z => hk z.1), h k hk, wipe_get, if_neg (fun z => hk z.1)]
theorem SlOk.wipe {H : Hp} {R : Addr → Prop} {gs ls : List Addr} {σ : L2.St} (h : SlOk K H R gs ls σ Δ) : ∀ vs, SlOk K H R gs ls (wipe σ vs) (wipeD Δ vs)
  | [] => h
  | v :: vs => by
    have ih := SlOk.wipe h vs
    refine ⟨by show ((L2.wipe σ vs).set v none).length = ((wipeD Δ vs).set v none).length; rw [List.length_set, List.length_set, ih.1], fun j s e => ?_⟩
    have e : ((wipeD Δ vs).set v none)[j]? = some (some s) := e
    show ∃ x, ((L2.wipe σ vs).set v none)[j]? = some (some x) ∧ _
    rw [List.getElem?_set] at e ⊢
    split at e
    · split at e <;> cases e
    · rename_i hne
      rw [if_neg hne]
      exact ih.2 j s e
theorem Ctx.wipe {w : W} {ls : List Addr} {σ : L2.St} {H : Hp} (c : Ctx K w ls σ H Δ G L) (vs : List Nat) : Ctx K w ls (wipe σ vs) H (wipeD Δ vs) G L := ⟨c.reg, c.rin, c.nd, c.fr, c.h0, c.sl.wipe vs, c.gl, c.lo, c.ld⟩
theorem evn_lc {wi : TI} {g : TG} {vs : List Nat} {Qn : PoN} (h : EvI K wi Δ G L fun items G1 L1 => ∃ P : Nat → List D → List M → List M → Prop, P 0 [] G1 L1 ∧ items.length < sizeLine ∧
    (∀ i d acc G' L', items[i]? = some d → acc.length ≤ i → P i acc G' L' → TgC K g (· ∈ vs) (.d d) (wipeD Δ vs) G' L' fun Δ2 G2 L2 =>
      EvB K tt Δ2 G2 L2 fun b G3 L3 => if b = true then EvC K te Δ2 G3 L3 fun s G4 L4 => ∃ x, s = .d x ∧ P (i + 1) (acc ++ [x]) G4 L4 else P (i + 1) acc G3 L3) ∧
    ∀ acc G' L', P items.length acc G' L' → Qn (.pl acc) G' L') : EvN K (tLc wi g tt te vs) Δ G L Qn := fun w ls σ H c Q r =>
  h w ls σ H c _ fun J H1 items G1 L1 c1 e1 it ⟨P, p0, hz, ps, pe⟩ => fun D hD => by
    have nR := c1.free hD
    have n0 := c1.free0 hD
    have ng : D ∉ w.gs := fun z => nR (.inl (c1.reg D z))
    have nl : D ∉ ls := fun z => nR (.inr z)
    have cH := c1.hide (o := .lst []) hD
    have gH : Grow H1 (upd H1 D (.lst [])) (Rg w ls) (Rg (w.add D) ls) := ((grow_reg hD).trans (grow_iff fun a r => rg_add.mp r)).trans (grow_new hD)
    refine ⟨fun i m H' => m = items.length - i ∧ i ≤ items.length ∧ ∃ acc vs' G' L', Ctx K (w.add D) ls σ H' Δ G' L' ∧ Grow H1 H' (Rg w ls) (Rg (w.add D) ls) ∧ Ext w ls H1 H' ∧ H' D = some (.lst vs') ∧ RepL K H' (Rg (w.add D) ls) acc vs' ∧ acc.length ≤ i ∧ P i acc G' L',
      ⟨_, rfl, Nat.zero_le _, [], [], G1, L1, cH, gH, Ext.new hD, upd_same, rfl, Nat.le_refl _, p0⟩, ?_⟩
    rintro i m H' ⟨rfl, hi, acc, vs', G', L', c', g', e', hD', r', hl, p⟩
    by_cases hlt : i < items.length
    · obtain ⟨go, yl⟩ := it.go H' (w.add D) ls (wipe σ vs) (wipeD Δ vs) G' L' i _ g' (c'.wipe vs) (List.getElem?_eq_getElem hlt)
      refine .inr ⟨go, fun H2 => ∃ acc2 vs2 G2 L2, Ctx K (w.add D) ls σ H2 Δ G2 L2 ∧ Grow H1 H2 (Rg w ls) (Rg (w.add D) ls) ∧ Ext w ls H1 H2 ∧ H2 D = some (.lst vs2) ∧ RepL K H2 (Rg (w.add D) ls) acc2 vs2 ∧ acc2.length ≤ i + 1 ∧ P (i + 1) acc2 G2 L2,
        fun H2 ⟨acc2, vs2, G2, L2, q⟩ => ⟨_, by omega, rfl, hlt, acc2, vs2, G2, L2, q⟩, fun x H3 hy => ?_⟩
      obtain ⟨c3, e3, r3⟩ := yl x H3 hy
      refine ps i _ acc G' L' (List.getElem?_eq_getElem hlt) hl p (w.add D) ls _ H3 x c3 r3 _ fun σ4 H4 Δ4 G4 L4 c4 e4 l4 o4 k4 => ?_
      have hw : wipe σ4 vs = wipe σ vs := wipe_eq (l4.trans (wipe_length _ _)) o4
      -- back to σ, Δ: the slots of Δ stay what they are
      have back : ∀ H5 G5 L5, Ctx K (w.add D) ls σ4 H5 Δ4 G5 L5 → Ext (w.add D) ls H' H5 → Ctx K (w.add D) ls σ H5 Δ G5 L5 := fun H5 G5 L5 c5 e5 =>
        ⟨c5.reg, c5.rin, c5.nd, c5.fr, c5.h0, c'.sl.grow (e5.grow c'.reg) (Pre.refl _) (Pre.refl _), c5.gl, c5.lo, c5.ld⟩
      have exw : ∀ H5, Ext (w.add D) ls H' H5 → Ext w ls H1 H5 := fun H5 e5 a o h1 h2 h3 => e5 a o (e' a o h1 h2 h3) h2 h3
      refine ⟨hw, k4 (w.add D) ls σ4 H4 c4 _ fun b H5 G5 L5 c5 e5 k5 => ?_⟩
      have e45 : Ext (w.add D) ls H' H5 := (e3.trans e4).trans e5
      cases b with
      | true =>
        rw [if_pos rfl] at k5 ⊢
        refine k5 (w.add D) ls σ4 H5 c5 _ fun v s H6 G6 L6 c6 e6 r6 ⟨y, e, k6⟩ => ?_
        subst e
        have e46 := e45.trans e6
        have h6 : H6 D = some (.lst vs') := e46 D _ hD' ng nl
        have r6' := r'.grow (e46.grow c'.reg)
        have gu : Grow H6 (upd H6 D (.lst (vs' ++ [v]))) (Rg (w.add D) ls) (Rg (w.add D) ls) := grow_upd (.inl (.inr rfl))
        refine ⟨vs', h6, by rw [r'.length]; omega, acc ++ [y], vs' ++ [v], G6, L6, Ctx.setH (back H6 G6 L6 c6 e46) h6 n0 ng nl, g'.trans ((e46.grow c'.reg).trans gu), ?_, upd_same, (r6'.app (RepL.one r6)).grow gu, by rw [List.length_append]; show acc.length + 1 ≤ i + 1; omega, k6⟩
        intro a o h1 h2 h3
        rw [upd_ne (ne_of_none h1 hD)]
        exact exw H6 e46 a o h1 h2 h3
      | false =>
        rw [if_neg Bool.false_ne_true] at k5 ⊢
        exact ⟨acc, vs', G5, L5, back H5 G5 L5 c5 e45, g'.trans (e45.grow c'.reg), exw H5 e45, e45 D _ hD' ng nl, r'.grow (e45.grow c'.reg), by omega, k5⟩
    · have e : i = items.length := by omega
      subst e
      exact .inl ⟨it.stop H' (w.add D) ls g', r D _ H' G' L' (none_back c1 e1 hD) (c'.show c.reg hD' r' n0 ng nl (fun z => nR (.inl z))) (e1.trans e') (pe acc G' L' p)⟩
end
end
end DL

namespace DL
open PySem PySem.Spec PyProof.Rows L2
section
variable {K : PySem.W.Frag}
/-- what a call hands back: a value, or new objects, the k-th of which is the value -/
inductive Res where
  | v (s : S) | new (ms : List M) (k : Nat)
abbrev DSpec := List S → List M → (Res → List M → Prop) → Prop
def spD (K : PySem.W.Frag) (F : DSpec) : Sp := fun vs H Q _ => ∃ (w : W) (ss : List S) (G : List M) (Qd : Res → List M → Prop), w.H0 = H ∧ Ctx K w [] [] H [] G [] ∧ Paired (RS K H (Rg w []) w.gs []) ss vs ∧ F ss G Qd ∧
  (∀ v s H' G', Ctx K w [] [] H' [] G' [] → RS K H' (Rg w []) w.gs [] s v → Qd (.v s) G' → Q v H') ∧
  (∀ ps k p ms H' G', Ctx K w ps [] H' [] G' ms → ps[k]? = some p → Qd (.new ms k) G' → Q (.ref p) H')
def startD (N : List Str) (ss : List S) : Sl := ss.map some ++ List.replicate (N.length - ss.length) none
def endsD (Qd : Res → List M → Prop) : EndsD where
  nx := fun _ G _ => Qd (.v (.d .non)) G
  rt := fun s G L => match s with
    | .l k => Qd (.new L k) G
    | .d x => Qd (.v (.d x)) G
    | .g k => Qd (.v (.g k)) G
section
variable {w : W} {ls : List Addr} {σ : L2.St} {H : Hp} {Δ : Sl} {G L : List M}
theorem Ctx.forgetS (c : Ctx K w ls σ H Δ G L) : Ctx K w ls [] H [] G L := ⟨c.reg, c.rin, c.nd, c.fr, c.h0, ⟨rfl, fun i s e => by simp at e⟩, c.gl, c.lo, c.ld⟩
theorem grow_drop {H : Hp} {w : W} {ls : List Addr} : Grow H H (Rg w ls) (Rg w []) := ⟨fun _ _ e _ => e, fun a o e r => by
  rcases r with r | r
  · exact .inl r
  · cases r⟩
theorem Ctx.forget (c : Ctx K w ls σ H Δ G L) : Ctx K w [] [] H [] G [] :=
  ⟨c.reg, c.rin, by rw [List.append_nil]; exact (List.nodup_append.mp c.nd).1, fun _ h => (by cases h), c.h0, ⟨rfl, fun i s e => by simp at e⟩,
    paired_map c.gl fun a m _ q => q.grow grow_drop (Pre.refl _) (Pre.refl _) fun _ z => z, .nil, fun _ h => (by cases h)⟩
theorem paired_get_l {α β : Type} {F : α → β → Prop} : ∀ {as : List α} {bs : List β} {i : Nat} {a : α}, Paired F as bs → as[i]? = some a → ∃ b, bs[i]? = some b ∧ F a b
  | _, _, 0, _, .cons h t, e => by
    simp at e
    subst e
    exact ⟨_, rfl, h⟩
  | _, _, i + 1, _, .cons h t, e => by
    obtain ⟨a, q, r⟩ := paired_get_l (i := i) t (by simpa using e)
    exact ⟨a, by simpa using q, r⟩
theorem slok_start {R : Addr → Prop} {gs ls : List Addr} {N : List Str} {ss : List S} {vs : List V} (r : Paired (RS K H R gs ls) ss vs) : SlOk K H R gs ls (L2.start N vs) (startD N ss) := by
  have hl := paired_len r
  refine ⟨by unfold L2.start startD; rw [List.length_append, List.length_append, List.length_map, List.length_map, List.length_replicate, List.length_replicate, hl], fun i s e => ?_⟩
  unfold startD at e
  unfold L2.start
  by_cases hi : i < ss.length
  · rw [List.getElem?_append_left (by rw [List.length_map]; exact hi), List.getElem?_map] at e
    rw [List.getElem?_append_left (by rw [List.length_map, ← hl]; exact hi), List.getElem?_map]
    cases q : ss[i]? with
    | none =>
      rw [q] at e
      cases e
    | some z =>
      rw [q] at e
      have e : some (some z) = some (some s) := e
      cases e
      obtain ⟨v, hv, rr⟩ := paired_get_l r q
      exact ⟨v, by rw [hv]; rfl, rr⟩
  · rw [List.getElem?_append_right (by rw [List.length_map]; omega), List.getElem?_replicate] at e
    split at e <;> cases e
end
section
variable {P : Program} {w : World} {mg : Str → Option Value} {base : Heap}
/-- THE RULE for a def, at the level of data -/
theorem okD {x qual : Str} {st : Stmt} {f : Addr} {fd : FuncData} {N ps : List Str} {k : Nat} {sp : DSpec} (F : Fun K x qual st f fd) (S : FnScope N ps (defScope st)) (len : ∀ ss G Qd, sp ss G Qd → ss.length = ps.length)
    (hbody : ∀ (cdv : Value) (A : Around) (outer : List Env) (s : Shared) (H : Hp) (E : XK) (ss : List DL.S) (G : List M) (Qd : Res → List M → Prop), Room k (A.deeper (envOfC qual (defScope st) s.heap.objs.size f cdv)) → sp ss G Qd →
      ∃ t, PSs (cxOf CX0 P w K mg base N qual (defScope st) f cdv A outer s H E).nox (defBody st) t ∧ StC K t (startD N ss) G [] (endsD Qd)) : FnOk P w K mg base CX0 (k + 1) f fd ps (spD K sp) := by
  refine F.ok S (fun vs H Q E h => ?_) (fun cdv A outer s H vs Q E hr h => ?_)
  · obtain ⟨w, ss, G, Qd, _, _, r, q, _⟩ := h
    rw [← paired_len r]
    exact len ss G Qd q
  · obtain ⟨w, ss, G, Qd, h0, c, r, q, k1, k2⟩ := h
    obtain ⟨t, ht, hs⟩ := hbody cdv A outer s H E ss G Qd hr q
    refine ⟨t, ht, hs w [] (L2.start N vs) H ⟨c.reg, c.rin, c.nd, c.fr, c.h0, slok_start r, c.gl, c.lo, c.ld⟩ _ ⟨?_, ?_, ?_, ?_, fun _ _ _ => trivial⟩⟩
    · intro ls' σ' H' Δ' G' L' c' g' n'
      exact k1 .non (.d .non) H' G' c'.forget rfl n'
    · intro ls' σ' H' Δ' G' L' v z c' rz n'
      cases z with
      | d x => exact k1 v (.d x) H' G' c'.forget (Rep.grow grow_drop rz) n'
      | g j => exact k1 v (.g j) H' G' c'.forget rz n'
      | l j =>
        obtain ⟨a, ha, rfl⟩ := rz
        exact k2 ls' j a L' H' G' c'.forgetS ha n'
    · intro ls' σ' H' Δ' G' L' c' g' n'
      exact n'.elim
    · intro ls' σ' H' Δ' G' L' c' g' n'
      exact n'.elim
end

/-! ### calls -/
def noL : List S → Bool
  | [] => true
  | .l _ :: _ => false
  | _ :: r => noL r
theorem noL_rs {H : Hp} {R : Addr → Prop} {gs ls ls' : List Addr} : ∀ {ss : List S} {vs : List V}, noL ss = true → Paired (RS K H R gs ls) ss vs → Paired (RS K H R gs ls') ss vs
  | [], _, _, .nil => .nil
  | .d x :: r, _, h, .cons q t => .cons q (noL_rs (ss := r) h t)
  | .g x :: r, _, h, .cons q t => .cons q (noL_rs (ss := r) h t)
section
variable {Δ : Sl} {G L : List M} {Qd : Po} {ta : TA} {sp : DSpec} {E0' : XK}
def callee (w : W) (ls : List Addr) (H : Hp) : W := ⟨Rg w ls, w.gs, H⟩
theorem rg_callee {w : W} {ls ps : List Addr} {H : Hp} {a : Addr} : Rg (callee w ls H) ps a ↔ (Rg w ls a ∨ a ∈ ps) := Iff.rfl
theorem Ctx.callee {w : W} {ls : List Addr} {σ : L2.St} {H : Hp} (c : Ctx K w ls σ H Δ G L) : Ctx K (DL.callee w ls H) [] [] H [] G [] := by
  have g : Grow H H (Rg w ls) (Rg (DL.callee w ls H) []) := grow_iff fun a r => r.elim id (fun z => by cases z)
  refine ⟨fun a h => .inl (c.reg a h), fun a r => ?_, by rw [List.append_nil]; exact (List.nodup_append.mp c.nd).1, fun _ h => (by cases h), fun a o h _ => h, ⟨rfl, fun i s e => by simp at e⟩,
    paired_map c.gl fun a m _ q => q.grow g (Pre.refl _) (Pre.refl _) fun _ z => z, .nil, fun _ h => (by cases h)⟩
  rcases r with r | r
  · exact c.rin a r
  · exact c.lin r
/-- back from a callee: its new objects ps beside what was -/
theorem Ctx.back {w : W} {ls : List Addr} {σ : L2.St} {H H' : Hp} {G' ms : List M} {ps : List Addr} (c : Ctx K w ls σ H Δ G L) (c' : Ctx K (DL.callee w ls H) ps [] H' [] G' ms) : Ctx K w ls σ H' Δ G' L ∧ Ext w ls H H' := by
  have e : ∀ a o, H a = some o → a ∉ w.gs → H' a = some o := c'.h0
  have e2 : Ext w ls H H' := fun a o h n _ => e a o h n
  have g := e2.grow c.reg
  have nl : ∀ a ∈ ls, a ∉ w.gs := fun a h z => (List.nodup_append.mp c.nd).2.2 a z a h rfl
  have g3 : Grow H' H' (Rg (DL.callee w ls H) ps) (Rg w ls) := grow_iff fun a r => .inl r
  refine ⟨⟨c.reg, fun a r => c'.rin a (.inl r), c.nd, c.fr, fun a o h n => e a o (c.h0 a o h n) n, c.sl.grow g (Pre.refl _) (Pre.refl _),
    paired_map c'.gl fun a m _ q => q.grow g3 (Pre.refl _) (Pre.refl _) (fun _ z => z), paired_map c.lo fun a m ha q => q.grow g (Pre.refl _) (Pre.refl _) (fun o h => e a o h (nl a ha)), c.ld⟩, e2⟩
theorem new_free {w : W} {ls : List Addr} {σ : L2.St} {H H' : Hp} {G' ms : List M} {ps : List Addr} (c : Ctx K w ls σ H Δ G L) (c' : Ctx K (DL.callee w ls H) ps [] H' [] G' ms) {p : Addr} (hp : p ∈ ps) : H p = none ∧ ¬ Rg w ls p := ⟨c'.fr p hp, c.free (c'.fr p hp)⟩
theorem dat_rep {w : W} {ls : List Addr} {σ : L2.St} {H H' : Hp} {G' ms : List M} {ps : List Addr} (c : Ctx K w ls σ H Δ G L) (c' : Ctx K (DL.callee w ls H) ps [] H' [] G' ms) {k : Nat} {p : Addr} {m : M} {x : D} (hp : ps[k]? = some p) (hm : ms[k]? = some m) (hx : m.dat = some x) : Rep K H' (Rg w ls) x (.ref p) := by
  obtain ⟨_, nR⟩ := new_free c c' (List.mem_of_getElem? hp)
  obtain ⟨a, ha, q⟩ := paired_get c'.lo hm
  rw [hp] at ha
  cases ha
  have g3 : Grow H' H' (Rg (DL.callee w ls H) ps) (Rg w ls) := grow_iff fun a r => .inl r
  cases m with
  | pl ds =>
    cases hx
    obtain ⟨vs, h1, r⟩ := q
    exact ⟨p, vs, rfl, ⟨h1, nR⟩, r.grow g3⟩
  | hl xs => cases hx
  | dc ds =>
    cases hx
    obtain ⟨vs, h1, r⟩ := q
    exact ⟨p, vs, rfl, ⟨h1, nR⟩, r.grow g3⟩
  | ob C ds =>
    cases hx
    obtain ⟨dx, vs, h1, r⟩ := q
    exact ⟨p, dx, vs, rfl, ⟨h1, nR⟩, r.grow g3⟩
  | dh kvs => cases hx
  | dt kvs => cases hx
/-- what a call's result gives, as a value -/
def asV (Qd : Po) (L : List M) : Res → List M → Prop
  | .v s, G => Qd s G L
  | .new ms k, G => ∃ m x, ms[k]? = some m ∧ m.dat = some x ∧ Qd (.d x) G L
theorem sp_call {w : W} {ls : List Addr} {σ : L2.St} {H : Hp} {ss : List S} {vs : List V} {Q : VK} {E : XK} (c : Ctx K w ls σ H Δ G L) (r : Paired (RS K H (Rg w ls) w.gs ls) ss vs) (hn : noL ss = true) (h : sp ss G (asV Qd L)) (q : Ret K w ls σ Δ H Qd Q) : spD K sp vs H Q E := by
  have g : Grow H H (Rg w ls) (Rg (DL.callee w ls H) []) := grow_iff fun a r => r.elim id (fun z => by cases z)
  have g' : ∀ H', Grow H' H' (Rg (DL.callee w ls H) []) (Rg w ls) := fun H' => grow_iff fun a r => .inl r
  refine ⟨DL.callee w ls H, ss, G, asV Qd L, rfl, c.callee, paired_map (noL_rs hn r) fun a b _ z => z.grow g (Pre.refl _) (Pre.refl _), h, fun v s H' G' c' rs k => ?_, fun ps j p ms H' G' c' hp k => ?_⟩
  · obtain ⟨cb, eb⟩ := c.back c'
    exact q v s H' G' L cb eb (RS.grow (g' H') (Pre.refl _) (Pre.nil _) rs) k
  · obtain ⟨m, x, hm, hx, k⟩ := k
    obtain ⟨cb, eb⟩ := c.back c'
    exact q _ (.d x) H' G' L cb eb (dat_rep c c' hp hm hx) k
theorem evc_call (h : EvA K ta Δ G L fun ss G1 L1 => noL ss = true ∧ sp ss G1 (asV Qd L1)) : EvC K (tCall (spD K sp) [] E0' ta) Δ G L Qd := fun w ls σ H c Q r => h w ls σ H c _ fun vs ss H2 G2 L2 c2 e2 r2 ⟨hn, k⟩ => by
  show spD K sp (vs ++ []) H2 Q E0'
  rw [List.append_nil]
  exact sp_call c2 r2 hn k (r.ext e2)
/-- objects made by a callee become the caller's own -/
def S.shift (n : Nat) : S → S
  | .l k => .l (n + k)
  | s => s
def M.shift (n : Nat) : M → M
  | .hl xs => .hl (xs.map (S.shift n))
  | .dh kvs => .dh (kvs.map fun p => (p.1, p.2.shift n))
  | m => m
theorem RS.shift {H : Hp} {R R' : Addr → Prop} {gs ls ps : List Addr} (g : Grow H H R R') : ∀ {s : S} {v : V}, RS K H R gs ps s v → RS K H R' gs (ls ++ ps) (s.shift ls.length) v
  | .d _, _, q => Rep.grow g q
  | .g _, _, q => q
  | .l k, _, ⟨b, hb, e⟩ => by
    refine ⟨b, ?_, e⟩
    rw [List.getElem?_append_right (Nat.le_add_right _ _), Nat.add_sub_cancel_left]
    exact hb
theorem paired_map2' {α β γ : Type} {F : α → β → Prop} {F' : γ → β → Prop} {f : α → γ} : ∀ {as : List α} {bs : List β}, Paired F as bs → (∀ a b, F a b → F' (f a) b) → Paired F' (as.map f) bs
  | _, _, .nil, _ => .nil
  | _, _, .cons h t, k => .cons (k _ _ h) (paired_map2' t k)
theorem MOk.shift {H : Hp} {R R' : Addr → Prop} {gs ls ps : List Addr} (g : Grow H H R R') {a : Addr} : ∀ {m : M}, MOk K H R gs ps a m → MOk K H R' gs (ls ++ ps) a (m.shift ls.length)
  | .pl _, ⟨vs, h, r⟩ => ⟨vs, h, RepL.grow g r⟩
  | .hl xs, ⟨vs, h, r⟩ => ⟨vs, h, by
    clear h
    induction r with
    | nil => exact .nil
    | cons q t ih =>
      refine .cons ?_ ih
      rename_i s v ss vs
      cases s with
      | d x => exact Rep.grow g q
      | g k => exact q
      | l k =>
        obtain ⟨b, hb, e⟩ := q
        refine ⟨b, ?_, e⟩
        rw [List.getElem?_append_right (Nat.le_add_right _ _), Nat.add_sub_cancel_left]
        exact hb⟩
  | .dc _, ⟨vs, h, r⟩ => ⟨vs, h, RepK.grow g r⟩
  | .ob _ _, ⟨dx, vs, h, r⟩ => ⟨dx, vs, h, RepF.grow g r⟩
  | .dh _, ⟨vs, h, r⟩ => ⟨vs, h, paired_map2' r fun _ _ q => ⟨q.1, q.2.shift g⟩⟩
  | .dt _, h => h
theorem paired_map2 {α β γ : Type} {F : α → β → Prop} {F' : α → γ → Prop} {f : β → γ} : ∀ {as : List α} {bs : List β}, Paired F as bs → (∀ a b, F a b → F' a (f b)) → Paired F' as (bs.map f)
  | _, _, .nil, _ => .nil
  | _, _, .cons h t, k => .cons (k _ _ h) (paired_map2 t k)
theorem Ctx.adopt {w : W} {ls : List Addr} {σ : L2.St} {H H' : Hp} {G' ms : List M} {ps : List Addr} (c : Ctx K w ls σ H Δ G L) (c' : Ctx K (DL.callee w ls H) ps [] H' [] G' ms) : Ctx K w (ls ++ ps) σ H' Δ G' (L ++ ms.map (M.shift L.length)) ∧ Grow H H' (Rg w ls) (Rg w (ls ++ ps)) := by
  have e : ∀ a o, H a = some o → a ∉ w.gs → H' a = some o := c'.h0
  have hl : ls.length = L.length := paired_len c.lo
  have nl : ∀ a ∈ ls, a ∉ w.gs := fun a h z => (List.nodup_append.mp c.nd).2.2 a z a h rfl
  have nps : ∀ a ∈ ps, H a = none := fun a h => c'.fr a h
  have g : Grow H H' (Rg w ls) (Rg w (ls ++ ps)) := ⟨fun a o h n => e a o h (fun z => n (.inl (c.reg a z))), fun a o h r => by
    rcases r with r | r
    · exact .inl r
    · rcases List.mem_append.mp r with r | r
      · exact .inr r
      · rw [nps a r] at h
        cases h⟩
  have g3 : Grow H' H' (Rg (DL.callee w ls H) ps) (Rg w (ls ++ ps)) := grow_iff fun a r => by
    rcases r with r | r
    · exact .inl (.inl r)
    · rcases List.mem_append.mp r with r | r
      · exact .inl (.inr r)
      · exact .inr r
  refine ⟨⟨c.reg, fun a r => c'.rin a (.inl r), ?_, ?_, fun a o h n => e a o (c.h0 a o h n) n, c.sl.grow g (Pre.refl _) (Pre.app _ _),
    paired_map c'.gl fun a m _ q => q.grow g3 (Pre.refl _) (Pre.refl _) (fun _ z => z), paired_app (paired_map c.lo fun a m ha q => q.grow g (Pre.refl _) (Pre.app _ _) (fun o h => e a o h (nl a ha))) ?_, fun a ha r => (List.mem_append.mp ha).elim (fun z => c.ld a z r) fun z => c.free (nps a z) (.inl r)⟩, g⟩
  · rw [← List.append_assoc]
    refine List.nodup_append.mpr ⟨c.nd, (List.nodup_append.mp c'.nd).2.1, fun a ha b hb z => ?_⟩
    subst z
    have n := nps a hb
    rcases List.mem_append.mp ha with z | z
    · obtain ⟨o, q⟩ := c.gin z
      rw [n] at q
      cases q
    · obtain ⟨o, q⟩ := c.lin z
      rw [n] at q
      cases q
  · intro a ha
    rcases List.mem_append.mp ha with z | z
    · exact c.fr a z
    · exact c.free0 (nps a z)
  · rw [← hl]
    exact paired_map2 c'.lo fun a m q => q.shift g3
theorem st_ownB {i : Nat} {E : EndsD} (h : EvA K ta Δ G L fun ss G1 L1 => noL ss = true ∧ sp ss G1 fun r G2 => ∃ ms k, r = .new ms k ∧ E.nx (Δ.set i (some (.l (L1.length + k)))) G2 (L1 ++ ms.map (M.shift L1.length))) : StC K (tAsg (tCall (spD K sp) [] E0' ta) (gName i)) Δ G L E := fun w ls σ H c D s => h w ls σ H c _ fun vs ss H2 G2 L2 c2 e2 r2 ⟨hn, k⟩ => by
  show spD K sp (vs ++ []) H2 _ E0'
  rw [List.append_nil]
  have g : Grow H2 H2 (Rg w ls) (Rg (DL.callee w ls H2) []) := grow_iff fun a r => r.elim id (fun z => by cases z)
  refine ⟨DL.callee w ls H2, ss, G2, _, rfl, c2.callee, paired_map (noL_rs hn r2) fun a b _ z => z.grow g (Pre.refl _) (Pre.refl _), k, fun v z H' G' c' rs ⟨ms, j, e, _⟩ => (by cases e), fun ps j p ms H' G' c' hp ⟨ms', j', e, k⟩ => ?_⟩
  cases e
  obtain ⟨ca, ga⟩ := c2.adopt c'
  have hl : ls.length = L2.length := paired_len c2.lo
  refine s.nx (ls ++ ps) _ H' _ G' _ (ca.slot (s := .l (L2.length + j)) ⟨p, ?_, rfl⟩) ((e2.grow c.reg).trans ga) k
  rw [← hl, List.getElem?_append_right (Nat.le_add_right _ _), Nat.add_sub_cancel_left]
  exact hp
/-- own objects handed to a callee (where the def has no caller's store) -/
def S.pro : S → S
  | .l k => .g k
  | s => s
def S.dem : S → S
  | .g k => .l k
  | s => s
def M.pro : M → M
  | .hl xs => .hl (xs.map S.pro)
  | .dh kvs => .dh (kvs.map fun p => (p.1, p.2.pro))
  | m => m
def M.dem : M → M
  | .hl xs => .hl (xs.map S.dem)
  | .dh kvs => .dh (kvs.map fun p => (p.1, p.2.dem))
  | m => m
theorem RS.pro {H : Hp} {R : Addr → Prop} {ls : List Addr} : ∀ {s : S} {v : V}, RS K H R [] ls s v → RS K H R ls [] s.pro v
  | .d _, _, h => h
  | .g _, _, ⟨a, h, _⟩ => by simp at h
  | .l _, _, h => h
theorem RS.dem {H : Hp} {R : Addr → Prop} {ls : List Addr} : ∀ {s : S} {v : V}, RS K H R ls [] s v → RS K H R [] ls s.dem v
  | .d _, _, h => h
  | .l _, _, ⟨a, h, _⟩ => by simp at h
  | .g _, _, h => h
theorem MOk.pro {H : Hp} {R : Addr → Prop} {ls : List Addr} {a : Addr} : ∀ {m : M}, MOk K H R [] ls a m → MOk K H R ls [] a m.pro
  | .pl _, h => h
  | .hl _, ⟨vs, h, r⟩ => ⟨vs, h, by
    clear h
    induction r with
    | nil => exact .nil
    | cons q t ih => exact .cons q.pro ih⟩
  | .dc _, h => h
  | .ob _ _, h => h
  | .dh _, ⟨vs, h, r⟩ => ⟨vs, h, paired_map2' r fun _ _ q => ⟨q.1, q.2.pro⟩⟩
  | .dt _, h => h
theorem MOk.dem {H : Hp} {R : Addr → Prop} {ls : List Addr} {a : Addr} : ∀ {m : M}, MOk K H R ls [] a m → MOk K H R [] ls a m.dem
  | .pl _, h => h
  | .hl _, ⟨vs, h, r⟩ => ⟨vs, h, by
    clear h
    induction r with
    | nil => exact .nil
    | cons q t ih => exact .cons q.dem ih⟩
  | .dc _, h => h
  | .ob _ _, h => h
  | .dh _, ⟨vs, h, r⟩ => ⟨vs, h, paired_map2' r fun _ _ q => ⟨q.1, q.2.dem⟩⟩
  | .dt _, h => h
def calleeL (w : W) (ls : List Addr) (H : Hp) : W := ⟨Rg w ls, ls, H⟩
theorem Ctx.calleeL {w : W} {ls : List Addr} {σ : L2.St} {H : Hp} (hg : w.gs = []) (c : Ctx K w ls σ H Δ G L) : Ctx K (DL.calleeL w ls H) [] [] H [] (L.map M.pro) [] := by
  have g : Grow H H (Rg w ls) (Rg (DL.calleeL w ls H) []) := grow_iff fun a r => r.elim id (fun z => by cases z)
  refine ⟨fun a h => .inr h, fun a r => ?_, by rw [List.append_nil]; exact (List.nodup_append.mp c.nd).2.1, fun _ h => (by cases h), fun a o h _ => h, ⟨rfl, fun i s e => by simp at e⟩, ?_, .nil, fun _ h => (by cases h)⟩
  · rcases r with r | r
    · exact c.rin a r
    · exact c.lin r
  · refine paired_map2 c.lo fun a m q => ?_
    rw [hg] at q
    exact (MOk.pro q).grow g (Pre.refl _) (Pre.refl _) fun _ z => z
theorem Ctx.backL {w : W} {ls : List Addr} {σ : L2.St} {H H' : Hp} {G' ms : List M} {ps : List Addr} (hg : w.gs = []) (c : Ctx K w ls σ H Δ [] L) (c' : Ctx K (DL.calleeL w ls H) ps [] H' [] G' ms) : Ctx K w ls σ H' Δ [] (G'.map M.dem) ∧ Ext w ls H H' := by
  have e : ∀ a o, H a = some o → a ∉ ls → H' a = some o := c'.h0
  have e2 : Ext w ls H H' := fun a o h _ n => e a o h n
  have g := e2.grow c.reg
  have g3 : Grow H' H' (Rg (DL.calleeL w ls H) ps) (Rg w ls) := grow_iff fun a r => .inl r
  refine ⟨⟨c.reg, fun a r => c'.rin a (.inl r), c.nd, c.fr, fun a o h n => e a o (c.h0 a o h n) (fun z => by rw [c.fr a z] at h; cases h), c.sl.grow g (Pre.refl _) (Pre.refl _), by rw [hg]; exact .nil, ?_, c.ld⟩, e2⟩
  refine paired_map2 c'.gl fun a m q => ?_
  rw [hg]
  exact (MOk.dem q).grow g3 (Pre.refl _) (Pre.refl _) fun _ z => z
def asVL (Qd : Po) : Res → List M → Prop
  | .v s, G => Qd s.dem [] (G.map M.dem)
  | .new ms k, G => ∃ m x, ms[k]? = some m ∧ m.dat = some x ∧ Qd (.d x) [] (G.map M.dem)
theorem evc_callL (h : EvA K ta Δ [] L fun ss G1 L1 => sp (ss.map S.pro) (L1.map M.pro) (asVL Qd)) : EvC K (tCall (spD K sp) [] E0' ta) Δ [] L Qd := fun w ls σ H c Q r => h w ls σ H c _ fun vs ss H2 G2 L2 c2 e2 r2 k => by
  show spD K sp (vs ++ []) H2 Q E0'
  rw [List.append_nil]
  have hg : w.gs = [] := List.eq_nil_of_length_eq_zero (paired_len c.gl)
  have hG2 : G2 = [] := List.eq_nil_of_length_eq_zero (by rw [← paired_len c2.gl, hg]; rfl)
  subst hG2
  have g : Grow H2 H2 (Rg w ls) (Rg (DL.calleeL w ls H2) []) := grow_iff fun a r => r.elim id (fun z => by cases z)
  have g' : ∀ H' ps, Grow H' H' (Rg (DL.calleeL w ls H2) ps) (Rg w ls) := fun H' ps => grow_iff fun a r => .inl r
  have r2' : Paired (RS K H2 (Rg (DL.calleeL w ls H2) []) (DL.calleeL w ls H2).gs []) (ss.map S.pro) vs := by
    rw [hg] at r2
    clear k
    induction r2 with
    | nil => exact .nil
    | cons q t ih => exact .cons (q.pro.grow g (Pre.refl _) (Pre.refl _)) ih
  refine ⟨DL.calleeL w ls H2, ss.map S.pro, L2.map M.pro, asVL Qd, rfl, c2.calleeL hg, r2', k, fun v s H' G' c' rs k => ?_, fun ps j p ms H' G' c' hp k => ?_⟩
  · obtain ⟨cb, eb⟩ := Ctx.backL hg c2 c'
    refine r v s.dem H' [] _ cb (e2.trans eb) ?_ k
    rw [hg]
    exact (RS.dem rs).grow (g' H' []) (Pre.refl _) (Pre.refl _)
  · obtain ⟨m, x, hm, hx, k⟩ := k
    obtain ⟨cb, eb⟩ := Ctx.backL hg c2 c'
    refine r _ (.d x) H' [] _ cb (e2.trans eb) ?_ k
    have hp0 : H2 p = none := c'.fr p (List.mem_of_getElem? hp)
    have nR := c2.free hp0
    obtain ⟨a, ha, q⟩ := paired_get c'.lo hm
    rw [hp] at ha
    cases ha
    cases m with
    | pl ds =>
      cases hx
      obtain ⟨vs, h1, r⟩ := q
      exact ⟨p, vs, rfl, ⟨h1, nR⟩, r.grow (g' _ _)⟩
    | hl xs => cases hx
    | dc ds =>
      cases hx
      obtain ⟨vs, h1, r⟩ := q
      exact ⟨p, vs, rfl, ⟨h1, nR⟩, r.grow (g' _ _)⟩
    | ob C ds =>
      cases hx
      obtain ⟨dx, vs, h1, r⟩ := q
      exact ⟨p, dx, vs, rfl, ⟨h1, nR⟩, r.grow (g' _ _)⟩
    | dh kvs => cases hx
    | dt kvs => cases hx
end
end
end DL

namespace DL
open PySem PySem.Spec PyProof.Rows L2
section
variable {K : PySem.W.Frag}
/-! ### sequences -/
/-- .. of a list, a tuple, the script -/
def seqG (G L : List M) : S → Option (List D)
  | .d (.tup ds) => some ds
  | .d (.scr ns) => some (ns.map .int)
  | s => lsG G L s
section
variable {w : W} {ls : List Addr} {σ : L2.St} {H : Hp} {Δ : Sl} {G L : List M}
theorem seqG_get {v : V} {s : S} {ds : List D} (c : Ctx K w ls σ H Δ G L) (r : RS K H (Rg w ls) w.gs ls s v) (h : seqG G L s = some ds) : ∃ a vs, v = .ref a ∧ (SqL K H a vs ∨ SqT K H a vs) ∧ RepL K H (Rg w ls) ds vs := by
  unfold seqG at h
  split at h
  · cases h
    obtain ⟨a, xs, rfl, h1, q⟩ := r
    exact ⟨a, xs, rfl, .inr h1.sq, q⟩
  · cases h
    obtain ⟨a, rfl, h1⟩ := r
    exact ⟨a, _, rfl, .inl h1.sq, RepL.ints⟩
  · obtain ⟨a, vs, e, h1, q⟩ := lsG_get c r h
    exact ⟨a, vs, e, .inl (.inl (.inl h1)), q⟩
end
section
variable {Δ : Sl} {G L : List M} {Qd : Po} {Qn : PoN} {te ta tb tc : TE}
/-! ### calls of built-ins -/
def ApC (K : PySem.W.Frag) (r : List V → Hp → VK → Prop) (ss : List S) (Δ : Sl) (G L : List M) (Qd : Po) : Prop :=
  ∀ w ls σ H vs, Ctx K w ls σ H Δ G L → Paired (RS K H (Rg w ls) w.gs ls) ss vs → ∀ Q, Ret K w ls σ Δ H Qd Q → r vs H Q
def ApN (K : PySem.W.Frag) (r : List V → Hp → VK → Prop) (ss : List S) (Δ : Sl) (G L : List M) (Qd : PoN) : Prop :=
  ∀ w ls σ H vs, Ctx K w ls σ H Δ G L → Paired (RS K H (Rg w ls) w.gs ls) ss vs → ∀ Q, RetN K w ls σ Δ H Qd Q → r vs H Q
theorem apn_c {r : List V → Hp → VK → Prop} {ss : List S} (h : ApN K r ss Δ G L fun m G1 L1 => ∃ x, m.dat = some x ∧ Qd (.d x) G1 L1) : ApC K r ss Δ G L Qd :=
  fun w ls σ H vs c rs Q q => h w ls σ H vs c rs Q fun p m H2 G2 L2 _ n e ⟨x, hx, k⟩ => q.go n.c e (s := .d x) (n.dat x hx) k
theorem evc_cb {r : List V → Hp → VK → Prop} {ta : TA} (h : EvA K ta Δ G L fun ss G1 L1 => ApC K r ss Δ G1 L1 Qd) : EvC K (tCB r ta) Δ G L Qd := fun w ls σ H c Q ret => h w ls σ H c _ fun vs ss H2 G2 L2 c2 e2 r2 k => k w ls σ H2 vs c2 r2 Q (ret.ext e2)
theorem evn_cb {r : List V → Hp → VK → Prop} {ta : TA} (h : EvA K ta Δ G L fun ss G1 L1 => ApN K r ss Δ G1 L1 Qn) : EvN K (tCB r ta) Δ G L Qn := fun w ls σ H c Q ret => h w ls σ H c _ fun vs ss H2 G2 L2 c2 e2 r2 k => k w ls σ H2 vs c2 r2 Q (ret.ext c2 e2)
theorem pair1 {F : S → V → Prop} {s : S} {vs : List V} (h : Paired F [s] vs) : ∃ v, vs = [v] ∧ F s v := by
  cases h with
  | cons q t =>
    cases t
    exact ⟨_, rfl, q⟩
theorem pair2 {F : S → V → Prop} {s t : S} {vs : List V} (h : Paired F [s, t] vs) : ∃ v u, vs = [v, u] ∧ F s v ∧ F t u := by
  cases h with
  | cons q t =>
    obtain ⟨u, rfl, r⟩ := pair1 t
    exact ⟨_, _, rfl, q, r⟩
def uLen (K : PySem.W.Frag) : List V → Hp → VK → Prop := fun xs H Q => ∃ x n, xs = [x] ∧ LenV K x H n ∧ Q (.int n) H
theorem uc_len {X : Cx} : CallR X (.builtin "len") (uLen X.K) := call_len
theorem ap_len {s : S} {ds : List D} (h : seqG G L s = some ds) (k : Qd (.d (.int (ds.length : Nat))) G L) : ApC K (uLen K) [s] Δ G L Qd := fun w ls σ H vs c rs Q q => by
  obtain ⟨v, rfl, r⟩ := pair1 rs
  obtain ⟨a, xs, rfl, h1, q1⟩ := seqG_get c r h
  refine ⟨_, ds.length, rfl, ?_, q.go c Ext.refl (s := .d (.int (ds.length : Nat))) rfl k⟩
  rcases h1 with h1 | h1
  · exact .inl ⟨xs, h1, q1.length.symm⟩
  · exact .inr ⟨xs, h1, q1.length.symm⟩
theorem ap_lenS {z : Str} (hz : z.length ≤ sizeLine) (k : Qd (.d (.int (z.length : Nat))) G L) : ApC K (uLen K) [.d (.str z)] Δ G L Qd := fun w ls σ H vs c rs Q q => by
  obtain ⟨v, rfl, r⟩ := pair1 rs
  cases r
  exact ⟨_, z.length, rfl, ⟨hz, rfl⟩, q.go c Ext.refl (s := .d (.int (z.length : Nat))) rfl k⟩
/-- list(..) of a sequence, of a text -/
def rListQ (K : PySem.W.Frag) : List V → Hp → VK → Prop := fun xs H Q => ∃ p ys, xs = [.ref p] ∧ (SqL K H p ys ∨ SqT K H p ys) ∧ ∀ l, H l = none → Q (.ref l) (upd H l (.lst ys))
def signsV (z : Str) : List V := z.cps.toList.map fun c => V.str ⟨#[c]⟩
def signsD (z : Str) : List D := z.cps.toList.map fun c => D.str ⟨#[c]⟩
def rListS : List V → Hp → VK → Prop := fun xs H Q => ∃ z, xs = [.str z] ∧ z.length ≤ sizeLine ∧ ∀ l, H l = none → Q (.ref l) (upd H l (.lst (signsV z)))
theorem signs_vals {z : Str} {acc : Array Value} (h : ItemsOf (SignAt z) acc z.cps.size) : Vals (signsV z) acc.toList := by
  have key : ∀ (n : Nat) (cs : List Nat) (as : List Value), cs.length = as.length → (∀ (j : Nat) v, as[j]? = some v → ∃ c u, cs[j]? = some c ∧ v = .str ⟨#[c]⟩ u) → Vals (cs.map fun c => V.str ⟨#[c]⟩) as := by
    intro n cs
    induction cs with
    | nil =>
      intro as hl _
      cases as with
      | nil => exact .nil
      | cons _ _ => simp at hl
    | cons c cs ih =>
      intro as hl hp
      cases as with
      | nil => simp at hl
      | cons a as =>
        refine .cons ?_ (ih as (by simpa using hl) fun j v hv => ?_)
        · obtain ⟨c', u, h1, h2⟩ := hp 0 a rfl
          simp at h1
          subst h1
          exact ⟨u, h2⟩
        · have := hp (j + 1) v (by simpa using hv)
          simpa using this
  refine key 0 _ _ ?_ fun j v hv => ?_
  · rw [Array.length_toList, Array.length_toList, h.1]
  · obtain ⟨c, u, h1, h2⟩ := h.2 j v (by simpa using hv)
    exact ⟨c, u, by simpa using h1, h2⟩
theorem call_list_s {X : Cx} (hc : X.calm = true) : CallR X (.type "list") rListS := by
  intro pins s σ H xs us Q I r h
  obtain ⟨z, rfl, hz, q⟩ := h
  obtain ⟨u, rfl, t, rfl⟩ := vals1 r
  refine call_list_str (I.ok.hd hc) z t (fun h' tk acc' c' hk hS' hacc => ?_) hz
  have hv := signs_vals hacc
  refine ⟨.ref s.heap.objs.size, _, I.laid (t' := tk) hk (Nat.le_refl _) (show ObjOk X.prog X.w _ h' _ (.lst (signsV z)) from ⟨?_, acc'.toList, c', hv, by simpa using hS'⟩), rfl, q _ (I.hok.fresh (Nat.le_refl _))⟩
  unfold signsV
  rw [List.length_map]
  exact hz
def uList (K : PySem.W.Frag) : List V → Hp → VK → Prop := fun xs H Q => rListQ K xs H Q ∨ rListS xs H Q
theorem uc_list {X : Cx} (hc : X.calm = true) : CallR X (.type "list") (uList X.K) := CallR.or (r := rListQ X.K) call_list_of (call_list_s hc)
theorem ap_list {s : S} {ds : List D} (h : seqG G L s = some ds) (k : Qn (.pl ds) G L) : ApN K (uList K) [s] Δ G L Qn := fun w ls σ H vs c rs Q q => by
  obtain ⟨v, rfl, r⟩ := pair1 rs
  obtain ⟨a, xs, rfl, h1, q1⟩ := seqG_get c r h
  exact .inl ⟨a, xs, rfl, h1, fun l hl => q l _ _ _ _ hl (newAt_pl c hl q1) (Ext.new hl) k⟩
theorem repL_signs {H : Hp} {R : Addr → Prop} {z : Str} : RepL K H R (signsD z) (signsV z) := by
  unfold signsD signsV
  induction z.cps.toList with
  | nil => rfl
  | cons a r ih => exact ⟨_, _, rfl, rfl, ih⟩
theorem ap_listS {z : Str} (hz : z.length ≤ sizeLine) (k : Qn (.pl (signsD z)) G L) : ApN K (uList K) [.d (.str z)] Δ G L Qn := fun w ls σ H vs c rs Q q => by
  obtain ⟨v, rfl, r⟩ := pair1 rs
  cases r
  exact .inr ⟨z, rfl, hz, fun l hl => q l _ _ _ _ hl (newAt_pl c hl repL_signs) (Ext.new hl) k⟩
def uTuple (K : PySem.W.Frag) : List V → Hp → VK → Prop := fun xs H Q => ∃ p ys, xs = [.ref p] ∧ ((SqL K H p ys ∧ ∀ l, H l = none → Q (.ref l) (upd H l (.tup ys))) ∨ (SqT K H p ys ∧ Q (.ref p) H))
theorem uc_tuple {X : Cx} : CallR X (.type "tuple") (uTuple X.K) := call_tuple_of
theorem ap_tuple {s : S} {ds : List D} (h : lsG G L s = some ds) (k : Qd (.d (.tup ds)) G L) : ApC K (uTuple K) [s] Δ G L Qd := fun w ls σ H vs c rs Q q => by
  obtain ⟨v, rfl, r⟩ := pair1 rs
  obtain ⟨a, xs, rfl, h1, q1⟩ := lsG_get c r h
  exact ⟨a, xs, rfl, .inl ⟨.inl (.inl h1), fun l hl => q.go (c.new hl) (Ext.new hl) (s := .d (.tup ds)) (rep_tup c hl q1) k⟩⟩
theorem ap_sum {s : S} {ns : List Int} (h : seqG G L s = some (ns.map D.int)) (hs : ∀ ds, s ≠ .d (.tup ds)) (k : Qd (.d (.int ns.sum)) G L) : ApC K (rSum K) [s] Δ G L Qd := fun w ls σ H vs c rs Q q => by
  obtain ⟨v, rfl, r⟩ := pair1 rs
  have key : ∃ a, v = .ref a ∧ SqL K H a (ns.map V.int) := by
    unfold seqG at h
    split at h
    · exact absurd rfl (hs _)
    · rename_i ms
      have e : ms = ns := by
        have e := Option.some.inj h
        have inj : ∀ {xs ys : List Int}, xs.map D.int = ys.map D.int → xs = ys := by
          intro xs
          induction xs with
          | nil =>
            intro ys e
            cases ys with
            | nil => rfl
            | cons _ _ => cases e
          | cons x xs ih =>
            intro ys e
            cases ys with
            | nil => cases e
            | cons y ys =>
              injection e with e1 e2
              injection e1 with e1
              rw [e1, ih e2]
        exact inj e
      subst e
      obtain ⟨a, rfl, h1⟩ := r
      exact ⟨a, rfl, h1.sq⟩
    · obtain ⟨a, xs, rfl, h1, q1⟩ := lsG_get c r h
      have e := RepL.intsV q1
      subst e
      exact ⟨a, rfl, .inl (.inl h1)⟩
  obtain ⟨a, rfl, h1⟩ := key
  exact ⟨a, ns, rfl, h1, q.go c Ext.refl (s := .d (.int ns.sum)) rfl k⟩
def rInt1 : List V → Hp → VK → Prop := fun xs H Q => (∃ i, xs = [.int i] ∧ Q (.int i) H) ∨ ∃ k, xs = [.bl k] ∧ Q (.int (if k then 1 else 0)) H
theorem uc_int {X : Cx} : CallR X (.type "int") rInt1 := call_int1
theorem ap_int {i : Int} (k : Qd (.d (.int i)) G L) : ApC K rInt1 [.d (.int i)] Δ G L Qd := fun w ls σ H vs c rs Q q => by
  obtain ⟨v, rfl, r⟩ := pair1 rs
  cases r
  exact .inl ⟨i, rfl, q.go c Ext.refl (s := .d (.int i)) rfl k⟩
theorem ap_intB {b : Bool} (k : Qd (.d (.int (if b then 1 else 0))) G L) : ApC K rInt1 [.d (.bl b)] Δ G L Qd := fun w ls σ H vs c rs Q q => by
  obtain ⟨v, rfl, r⟩ := pair1 rs
  cases r
  exact .inr ⟨b, rfl, q.go c Ext.refl (s := .d (.int (if b then 1 else 0))) rfl k⟩

/-! ### slices -/
def SlC (K : PySem.W.Frag) (r : V → Option Int → Option Int → Hp → VK → Prop) (x : S) (lo hi : Option Int) (Δ : Sl) (G L : List M) (Qd : Po) : Prop :=
  ∀ w ls σ H vx, Ctx K w ls σ H Δ G L → RS K H (Rg w ls) w.gs ls x vx → ∀ Q, Ret K w ls σ Δ H Qd Q → r vx lo hi H Q
def SlN (K : PySem.W.Frag) (r : V → Option Int → Option Int → Hp → VK → Prop) (x : S) (lo hi : Option Int) (Δ : Sl) (G L : List M) (Qd : PoN) : Prop :=
  ∀ w ls σ H vx, Ctx K w ls σ H Δ G L → RS K H (Rg w ls) w.gs ls x vx → ∀ Q, RetN K w ls σ Δ H Qd Q → r vx lo hi H Q
def EvO (K : PySem.W.Frag) (to : TO) (Δ : Sl) (G L : List M) (Qo : Option Int → List M → List M → Prop) : Prop :=
  ∀ w ls σ H, Ctx K w ls σ H Δ G L → ∀ Q : Option Int → Hp → Prop, (∀ o H2 G2 L2, Ctx K w ls σ H2 Δ G2 L2 → Ext w ls H H2 → Qo o G2 L2 → Q o H2) → to σ H Q
theorem evo_none {Qo : Option Int → List M → List M → Prop} (k : Qo none G L) : EvO K tNoPart Δ G L Qo := fun w ls σ H c Q r => r none H G L c Ext.refl k
theorem evo_some {Qo : Option Int → List M → List M → Prop} (h : EvC K te Δ G L fun s G1 L1 => ∃ i, s = .d (.int i) ∧ Qo (some i) G1 L1) : EvO K (tPart te) Δ G L Qo := fun w ls σ H c Q r => h w ls σ H c _ fun v s H2 G2 L2 c2 e2 r2 ⟨i, e, k⟩ => by
  subst e
  exact ⟨i, r2, r (some i) H2 G2 L2 c2 e2 k⟩
theorem evc_sl {r : V → Option Int → Option Int → Hp → VK → Prop} {tl th : TO} (h : EvC K te Δ G L fun x G1 L1 => EvO K tl Δ G1 L1 fun lo G2 L2 => EvO K th Δ G2 L2 fun hi G3 L3 => SlC K r x lo hi Δ G3 L3 Qd) : EvC K (tSl r te tl th) Δ G L Qd :=
  fun w ls σ H c Q ret => h w ls σ H c _ fun v s H2 G2 L2 c2 e2 r2 h2 => h2 w ls σ H2 c2 _ fun lo H3 G3 L3 c3 e3 h3 => h3 w ls σ H3 c3 _ fun hi H4 G4 L4 c4 e4 h4 => h4 w ls σ H4 v c4 ((r2.on c2 e3).on c3 e4) Q (ret.ext (e2.trans (e3.trans e4)))
theorem evn_sl {r : V → Option Int → Option Int → Hp → VK → Prop} {tl th : TO} (h : EvC K te Δ G L fun x G1 L1 => EvO K tl Δ G1 L1 fun lo G2 L2 => EvO K th Δ G2 L2 fun hi G3 L3 => SlN K r x lo hi Δ G3 L3 Qn) : EvN K (tSl r te tl th) Δ G L Qn :=
  fun w ls σ H c Q ret => h w ls σ H c _ fun v s H2 G2 L2 c2 e2 r2 h2 => h2 w ls σ H2 c2 _ fun lo H3 G3 L3 c3 e3 h3 => h3 w ls σ H3 c3 _ fun hi H4 G4 L4 c4 e4 h4 => h4 w ls σ H4 v c4 ((r2.on c2 e3).on c3 e4) Q (ret.ext c4 (e2.trans (e3.trans e4)))
theorem sln_c {r : V → Option Int → Option Int → Hp → VK → Prop} {x : S} {lo hi : Option Int} (h : SlN K r x lo hi Δ G L fun m G1 L1 => ∃ x, m.dat = some x ∧ Qd (.d x) G1 L1) : SlC K r x lo hi Δ G L Qd :=
  fun w ls σ H vx c rx Q q => h w ls σ H vx c rx Q fun p m H2 G2 L2 _ n e ⟨x, hx, k⟩ => q.go n.c e (s := .d x) (n.dat x hx) k
def uSl (K : PySem.W.Frag) : V → Option Int → Option Int → Hp → VK → Prop := fun x lo hi H Q => rSlL K x lo hi H Q ∨ rSlS x lo hi H Q ∨ rSlA K x lo hi H Q
theorem us_sl {X : Cx} : SlR X (uSl X.K) := sl_list.or (sl_str.or sl_tupA)
def cutD (xs : List D) (lo hi : Option Int) : List D := (xs.drop (HT.sIx xs.length 0 lo)).take (HT.sIx xs.length xs.length hi - HT.sIx xs.length 0 lo)
theorem RepL.cut {H : Hp} {R : Addr → Prop} {ds : List D} {vs : List V} (r : RepL K H R ds vs) (lo hi : Option Int) : RepL K H R (cutD ds lo hi) (cutV vs lo hi) := by
  unfold cutD cutV
  rw [r.length]
  exact (r.drop _).take _
theorem sl_l {x : S} {ds : List D} {lo hi : Option Int} (h : lsG G L x = some ds) (k : Qn (.pl (cutD ds lo hi)) G L) : SlN K (uSl K) x lo hi Δ G L Qn := fun w ls σ H v c r Q q => by
  obtain ⟨a, xs, rfl, h1, q1⟩ := lsG_get c r h
  exact .inl ⟨a, xs, rfl, .inl (.inl h1), fun p hp => q p _ _ _ _ hp (newAt_pl c hp (q1.cut lo hi)) (Ext.new hp) k⟩
theorem sl_scr {ns : List Int} {lo hi : Option Int} (k : Qn (.pl (cutD (ns.map .int) lo hi)) G L) : SlN K (uSl K) (.d (.scr ns)) lo hi Δ G L Qn := fun w ls σ H v c r Q q => by
  obtain ⟨a, rfl, h1⟩ := r
  exact .inl ⟨a, _, rfl, h1.sq, fun p hp => q p _ _ _ _ hp (newAt_pl c hp (RepL.ints.cut lo hi)) (Ext.new hp) k⟩
theorem sl_s {z : Str} {lo hi : Option Int} (hz : z.length ≤ sizeLine) (k : Qd (.d (.str (cutS z lo hi))) G L) : SlC K (uSl K) (.d (.str z)) lo hi Δ G L Qd := fun w ls σ H v c r Q q =>
  .inr (.inl ⟨z, r, hz, q.go c Ext.refl (s := .d (.str (cutS z lo hi))) rfl k⟩)
theorem cutV_whole {xs : List V} {lo hi : Option Int} (h : HT.sIx xs.length 0 lo = 0 ∧ HT.sIx xs.length xs.length hi = xs.length) : cutV xs lo hi = xs := by
  unfold cutV
  rw [h.1, h.2, List.drop_zero, Nat.sub_zero, List.take_length]
theorem sl_t {ds : List D} {lo hi : Option Int} (k : Qd (.d (.tup (cutD ds lo hi))) G L) : SlC K (uSl K) (.d (.tup ds)) lo hi Δ G L Qd := fun w ls σ H v c r Q q => by
  obtain ⟨a, xs, rfl, h1, q1⟩ := r
  refine .inr (.inr ⟨a, xs, rfl, h1.sq, fun e => ?_, fun _ p hp => ?_⟩)
  · have q2 := q1.cut lo hi
    rw [cutV_whole e] at q2
    exact q.go c Ext.refl (s := .d (.tup (cutD ds lo hi))) ⟨a, xs, rfl, h1, q2⟩ k
  · exact q.go (c.new hp) (Ext.new hp) (s := .d (.tup (cutD ds lo hi))) (rep_tup c hp (q1.cut lo hi)) k
theorem repL_rev {H : Hp} {R : Addr → Prop} : ∀ {ds : List D} {vs : List V}, RepL K H R ds vs → RepL K H R ds.reverse vs.reverse
  | [], _, h => by
    cases h
    rfl
  | d :: ds, _, ⟨y, ys, e, h, r⟩ => by
    subst e
    rw [List.reverse_cons, List.reverse_cons]
    exact (repL_rev r).app (RepL.one h)
theorem evn_revL (h : EvC K te Δ G L fun x G1 L1 => ∃ ds, lsG G1 L1 x = some ds ∧ Qn (.pl ds.reverse) G1 L1) : EvN K (tRevL K te) Δ G L Qn := fun w ls σ H c Q ret => h w ls σ H c _ fun v s H2 G2 L2 c2 e2 r2 ⟨ds, hd, k⟩ => by
  obtain ⟨a, xs, rfl, h1, q1⟩ := lsG_get c2 r2 hd
  exact ⟨a, xs, rfl, .inl (.inl h1), fun p hp => ret p _ _ _ _ (none_back c2 e2 hp) (newAt_pl c2 hp (repL_rev q1)) (e2.trans (Ext.new hp)) k⟩

/-! ### subscripts of lists with handles, stores -/
def hlG (G L : List M) : S → Option (List S)
  | .l k => match L[k]? with
    | some (.hl ds) => some ds
    | some (.pl ds) => some (ds.map .d)
    | _ => none
  | .g k => match G[k]? with
    | some (.hl ds) => some ds
    | some (.pl ds) => some (ds.map .d)
    | _ => none
  | _ => none
theorem hlG_get {w : W} {ls : List Addr} {σ : L2.St} {H : Hp} {v : V} {s : S} {ds : List S} (c : Ctx K w ls σ H Δ G L) (r : RS K H (Rg w ls) w.gs ls s v) (h : hlG G L s = some ds) : ∃ a vs, v = .ref a ∧ H a = some (.lst vs) ∧ Paired (RS K H (Rg w ls) w.gs ls) ds vs := by
  unfold hlG at h
  split at h
  · rename_i k
    split at h
    · rename_i ds' hk
      cases h
      obtain ⟨a, ha, rfl⟩ := r
      obtain ⟨b, hb, vs, h1, q⟩ := paired_get c.lo hk
      rw [ha] at hb
      cases hb
      exact ⟨a, vs, rfl, h1, q⟩
    · rename_i ds' hk
      cases h
      obtain ⟨a, ha, rfl⟩ := r
      obtain ⟨b, hb, vs, h1, q⟩ := paired_get c.lo hk
      rw [ha] at hb
      cases hb
      exact ⟨a, vs, rfl, h1, repL_rs q⟩
    · cases h
  · rename_i k
    split at h
    · rename_i ds' hk
      cases h
      obtain ⟨a, ha, rfl⟩ := r
      obtain ⟨b, hb, vs, h1, q⟩ := paired_get c.gl hk
      rw [ha] at hb
      cases hb
      exact ⟨a, vs, rfl, h1, paired_map q fun _ _ _ z => z.grow (Grow.refl _ _) (Pre.refl _) (Pre.nil _)⟩
    · rename_i ds' hk
      cases h
      obtain ⟨a, ha, rfl⟩ := r
      obtain ⟨b, hb, vs, h1, q⟩ := paired_get c.gl hk
      rw [ha] at hb
      cases hb
      exact ⟨a, vs, rfl, h1, repL_rs q⟩
    · cases h
  · cases h
theorem atI_some {α : Type} {xs : List α} {i : Int} {x : α} (h : atI xs i = some x) : ∃ j, ixN xs.length i = some j ∧ xs[j]? = some x := by
  unfold atI at h
  cases e : ixN xs.length i with
  | none =>
    rw [e] at h
    cases h
  | some j =>
    rw [e] at h
    exact ⟨j, rfl, h⟩
theorem u_ix_h {x : S} {xs : List S} {i : Int} {s : S} (hx : hlG G L x = some xs) (hi : atI xs i = some s) (k : Qd s G L) : OpC K (rIx K) x (.d (.int i)) Δ G L Qd := fun w ls σ H vx vy c rx ry Q q => by
  obtain ⟨a, vs, rfl, h1, q1⟩ := hlG_get c rx hx
  obtain ⟨j, e, hj⟩ := atI_some hi
  obtain ⟨v, hv, r⟩ := paired_get_l q1 hj
  refine .inl ⟨a, vs, i, v, rfl, ry, .inl (.inl h1), ?_, q.go c Ext.refl r k⟩
  unfold atI
  rw [← paired_len q1, e]
  exact hv
theorem u_ix_g {x : S} {xs : List D} {i : Int} {d : D} (hx : seqG G L x = some xs) (hi : atI xs i = some d) (k : Qd (.d d) G L) : OpC K (rIx K) x (.d (.int i)) Δ G L Qd := fun w ls σ H vx vy c rx ry Q q => by
  obtain ⟨a, vs, rfl, h1, q1⟩ := seqG_get c rx hx
  obtain ⟨j, e, hj⟩ := atI_some hi
  obtain ⟨v, hv, r⟩ := q1.get hj
  have ha : atI vs i = some v := by
    unfold atI
    rw [q1.length, e]
    exact hv
  rcases h1 with h1 | h1
  · exact .inl ⟨a, vs, i, v, rfl, ry, h1, ha, q.go c Ext.refl (s := .d d) r k⟩
  · exact .inr (.inl ⟨a, vs, i, v, rfl, ry, h1, ha, q.go c Ext.refl (s := .d d) r k⟩)
/-- o[i] = v -/
def StoC (K : PySem.W.Frag) (r : TSet) (o i v : S) (Δ : Sl) (G L : List M) (Qt : List M → List M → Prop) : Prop :=
  ∀ w ls σ H vo vi vv, Ctx K w ls σ H Δ G L → RS K H (Rg w ls) w.gs ls o vo → RS K H (Rg w ls) w.gs ls i vi → RS K H (Rg w ls) w.gs ls v vv → ∀ Q : Hp → Prop,
    (∀ H2 G2 L2, Ctx K w ls σ H2 Δ G2 L2 → Ext w ls H H2 → Qt G2 L2 → Q H2) → r vo vi vv H Q
theorem tg_sub {to ti : TE} {t : TSet} {s : S} {Qt : PoT} {ok : Nat → Prop} (h : EvC K to Δ G L fun o G1 L1 => EvC K ti Δ G1 L1 fun i G2 L2 => StoC K t o i s Δ G2 L2 fun G3 L3 => Qt Δ G3 L3) : TgC K (gSub to ti t) ok s Δ G L Qt :=
  fun w ls σ H v c r Q q => h w ls σ H c _ fun vo o H2 G2 L2 c2 e2 r2 h2 => h2 w ls σ H2 c2 _ fun vi i H3 G3 L3 c3 e3 r3 h3 =>
    h3 w ls σ H3 vo vi v c3 (r2.on c2 e3) r3 ((r.on c e2).on c2 e3) _ fun H4 G4 L4 c4 e4 k => q σ H4 Δ G4 L4 c4 (e2.trans (e3.trans e4)) rfl (fun _ _ => rfl) k
theorem paired_setV {F : S → V → Prop} {ss : List S} {vs : List V} {j : Nat} {s : S} {v : V} (h : Paired F ss vs) (q : F s v) : Paired F (ss.set j s) (vs.set j v) := by
  induction h generalizing j with
  | nil => exact .nil
  | cons a t ih =>
    cases j with
    | zero => exact .cons q t
    | succ j => exact .cons a ih
theorem repL_set {H : Hp} {R : Addr → Prop} : ∀ {ds : List D} {vs : List V} {j : Nat} {d : D} {v : V}, RepL K H R ds vs → Rep K H R d v → RepL K H R (ds.set j d) (vs.set j v)
  | [], _, _, _, _, h, _ => by
    cases h
    rfl
  | _ :: _, _, 0, _, _, ⟨y, ys, e, h, r⟩, q => by
    subst e
    exact ⟨_, _, rfl, q, r⟩
  | _ :: _, _, j + 1, _, _, ⟨y, ys, e, h, r⟩, q => by
    subst e
    exact ⟨_, _, rfl, h, repL_set r q⟩
theorem sto_gh {k : Nat} {xs : List S} {i : Int} {j : Nat} {s : S} {Qt : List M → List M → Prop} (hx : G[k]? = some (.hl xs)) (hj : ixN xs.length i = some j) (hs : noL [s] = true) (q : Qt (G.set k (.hl (xs.set j s))) L) : StoC K rSetL (.g k) (.d (.int i)) s Δ G L Qt := fun w ls σ H vo vi vv c ro ri rv Q ret => by
  obtain ⟨a, ha, rfl⟩ := ro
  obtain ⟨b, hb, vs, h1, r⟩ := paired_get c.gl hx
  rw [ha] at hb
  cases hb
  cases ri
  have g : Grow H (upd H a (.lst (vs.set j vv))) (Rg w ls) (Rg w ls) := grow_upd (.inl (c.reg a (List.mem_of_getElem? ha)))
  obtain ⟨_, rv'⟩ := pair1 (noL_rs (ls' := []) hs (.cons rv .nil))
  refine ⟨a, vs, i, j, rfl, rfl, h1, by rw [← paired_len r]; exact hj, ret _ _ _ (c.setG (m := .hl _) ha ⟨_, upd_same, paired_map (paired_setV r ?_) fun _ _ _ z => z.grow g (Pre.refl _) (Pre.refl _)⟩) (Ext.setG (List.mem_of_getElem? ha)) q⟩
  obtain ⟨e, h⟩ := rv'
  cases e
  exact h
theorem sto_lp {k : Nat} {xs : List D} {i : Int} {j : Nat} {x : D} {Qt : List M → List M → Prop} (hx : L[k]? = some (.pl xs)) (hj : ixN xs.length i = some j) (q : Qt G (L.set k (.pl (xs.set j x)))) : StoC K rSetL (.l k) (.d (.int i)) (.d x) Δ G L Qt := fun w ls σ H vo vi vv c ro ri rv Q ret => by
  obtain ⟨a, ha, rfl⟩ := ro
  obtain ⟨b, hb, vs, h1, r⟩ := paired_get c.lo hx
  rw [ha] at hb
  cases hb
  cases ri
  have g : Grow H (upd H a (.lst (vs.set j vv))) (Rg w ls) (Rg w ls) := grow_upd (.inr (List.mem_of_getElem? ha))
  exact ⟨a, vs, i, j, rfl, rfl, h1, by rw [r.length]; exact hj, ret _ _ _ (c.setL (m := .pl _) ha ⟨_, upd_same, (repL_set r rv).grow g⟩) (Ext.setL (List.mem_of_getElem? ha)) q⟩

/-! ### methods -/
def MtC (K : PySem.W.Frag) (r : V → List V → Hp → VK → Prop) (x : S) (ss : List S) (Δ : Sl) (G L : List M) (Qd : Po) : Prop :=
  ∀ w ls σ H vx vs, Ctx K w ls σ H Δ G L → RS K H (Rg w ls) w.gs ls x vx → Paired (RS K H (Rg w ls) w.gs ls) ss vs → ∀ Q, Ret K w ls σ Δ H Qd Q → r vx vs H Q
def MtN (K : PySem.W.Frag) (r : V → List V → Hp → VK → Prop) (x : S) (ss : List S) (Δ : Sl) (G L : List M) (Qd : PoN) : Prop :=
  ∀ w ls σ H vx vs, Ctx K w ls σ H Δ G L → RS K H (Rg w ls) w.gs ls x vx → Paired (RS K H (Rg w ls) w.gs ls) ss vs → ∀ Q, RetN K w ls σ Δ H Qd Q → r vx vs H Q
theorem mtn_c {r : V → List V → Hp → VK → Prop} {x : S} {ss : List S} (h : MtN K r x ss Δ G L fun m G1 L1 => ∃ x, m.dat = some x ∧ Qd (.d x) G1 L1) : MtC K r x ss Δ G L Qd :=
  fun w ls σ H vx vs c rx rs Q q => h w ls σ H vx vs c rx rs Q fun p m H2 G2 L2 _ n e ⟨x, hx, k⟩ => q.go n.c e (s := .d x) (n.dat x hx) k
/-- the receiver is of the built-in type -/
def tyS (G L : List M) (T : String) (s : S) : Prop := (T = "list" ∧ ((∃ ds, lsG G L s = some ds) ∨ ∃ ds, hlG G L s = some ds)) ∨ (T = "str" ∧ ∃ z, s = .d (.str z))
theorem tyS_ok {w : W} {ls : List Addr} {σ : L2.St} {H : Hp} {T : String} {s : S} {v : V} (c : Ctx K w ls σ H Δ G L) (r : RS K H (Rg w ls) w.gs ls s v) (h : tyS G L T s) : tyV K T v H := by
  rcases h with ⟨rfl, ⟨ds, h⟩ | ⟨ds, h⟩⟩ | ⟨rfl, z, rfl⟩
  · obtain ⟨a, vs, rfl, h1, _⟩ := lsG_get c r h
    exact .inl ⟨rfl, vs, .inl (.inl h1)⟩
  · obtain ⟨a, vs, rfl, h1, _⟩ := hlG_get c r h
    exact .inl ⟨rfl, vs, .inl (.inl h1)⟩
  · cases r
    rfl
theorem evc_bm {T : String} {r : V → List V → Hp → VK → Prop} {to : TE} {t : TA} (h : EvC K to Δ G L fun x G1 L1 => tyS G1 L1 T x ∧ EvA K t Δ G1 L1 fun ss G2 L2 => MtC K r x ss Δ G2 L2 Qd) : EvC K (tBM K T r to t) Δ G L Qd :=
  fun w ls σ H c Q ret => h w ls σ H c _ fun v s H2 G2 L2 c2 e2 r2 ⟨ht, h2⟩ => ⟨tyS_ok c2 r2 ht, h2 w ls σ H2 c2 _ fun vs ss H3 G3 L3 c3 e3 r3 h3 => h3 w ls σ H3 v vs c3 (r2.on c2 e3) r3 Q (ret.ext (e2.trans e3))⟩
theorem evc_bm0 {T : String} {r : V → List V → Hp → VK → Prop} {to : TE} (h : EvC K to Δ G L fun x G1 L1 => tyS G1 L1 T x ∧ MtC K r x [] Δ G1 L1 Qd) : EvC K (tBM0 K T r to) Δ G L Qd :=
  fun w ls σ H c Q ret => h w ls σ H c _ fun v s H2 G2 L2 c2 e2 r2 ⟨ht, h2⟩ => ⟨tyS_ok c2 r2 ht, h2 w ls σ H2 v [] c2 r2 .nil Q (ret.ext e2)⟩
theorem evc_m0 {r : V → List V → Hp → VK → Prop} {to : TE} (h : EvC K to Δ G L fun x G1 L1 => (∃ z, x = .d (.str z)) ∧ MtC K r x [] Δ G1 L1 Qd) : EvC K (tM0 r to) Δ G L Qd :=
  fun w ls σ H c Q ret => h w ls σ H c _ fun v s H2 G2 L2 c2 e2 r2 ⟨⟨z, e⟩, h2⟩ => ⟨by subst e; exact ⟨z, r2⟩, h2 w ls σ H2 v [] c2 r2 .nil Q (ret.ext e2)⟩
theorem evc_m1 {r : V → List V → Hp → VK → Prop} {to ta : TE} (h : EvC K to Δ G L fun x G1 L1 => (∃ z, x = .d (.str z)) ∧ EvC K ta Δ G1 L1 fun y G2 L2 => MtC K r x [y] Δ G2 L2 Qd) : EvC K (tM1 r to ta) Δ G L Qd :=
  fun w ls σ H c Q ret => h w ls σ H c _ fun v s H2 G2 L2 c2 e2 r2 ⟨⟨z, e⟩, h2⟩ => ⟨by subst e; exact ⟨z, r2⟩, h2 w ls σ H2 c2 _ fun vs ss H3 G3 L3 c3 e3 r3 h3 => h3 w ls σ H3 v [vs] c3 (r2.on c2 e3) (.cons r3 .nil) Q (ret.ext (e2.trans e3))⟩
/-- the own list k, the store's list k: appended, popped -/
theorem mt_app_l {k : Nat} {ds : List D} {x : D} (h : L[k]? = some (.pl ds)) (hl : ds.length < sizeLine) (q : Qd (.d .non) G (L.set k (.pl (ds ++ [x])))) : MtC K rAppend (.l k) [.d x] Δ G L Qd := fun w ls σ H vo vs c ro rs Q ret => by
  obtain ⟨v, rfl, r⟩ := pair1 rs
  obtain ⟨a, ha, rfl⟩ := ro
  obtain ⟨b, hb, us, h1, r1⟩ := paired_get c.lo h
  rw [ha] at hb
  cases hb
  have g : Grow H (upd H a (.lst (us ++ [v]))) (Rg w ls) (Rg w ls) := grow_upd (.inr (List.mem_of_getElem? ha))
  exact ⟨a, us, v, rfl, rfl, h1, by rw [r1.length]; exact hl, ret.go (c.setL (m := .pl _) ha ⟨_, upd_same, (r1.app (RepL.one r)).grow g⟩) (Ext.setL (List.mem_of_getElem? ha)) (s := .d .non) rfl q⟩
theorem mt_app_g {k : Nat} {ds : List D} {x : D} (h : G[k]? = some (.pl ds)) (hl : ds.length < sizeLine) (q : Qd (.d .non) (G.set k (.pl (ds ++ [x]))) L) : MtC K rAppend (.g k) [.d x] Δ G L Qd := fun w ls σ H vo vs c ro rs Q ret => by
  obtain ⟨v, rfl, r⟩ := pair1 rs
  obtain ⟨a, ha, rfl⟩ := ro
  obtain ⟨b, hb, us, h1, r1⟩ := paired_get c.gl h
  rw [ha] at hb
  cases hb
  have g : Grow H (upd H a (.lst (us ++ [v]))) (Rg w ls) (Rg w ls) := grow_upd (.inl (c.reg a (List.mem_of_getElem? ha)))
  exact ⟨a, us, v, rfl, rfl, h1, by rw [r1.length]; exact hl, ret.go (c.setG (m := .pl _) ha ⟨_, upd_same, (r1.app (RepL.one r)).grow g⟩) (Ext.setG (List.mem_of_getElem? ha)) (s := .d .non) rfl q⟩
theorem repL_dropLast {H : Hp} {R : Addr → Prop} {ds : List D} {vs : List V} (r : RepL K H R ds vs) : RepL K H R ds.dropLast vs.dropLast := by
  rw [List.dropLast_eq_take, List.dropLast_eq_take, r.length]
  exact r.take _
theorem mt_pop_g {k : Nat} {ds : List D} {x : D} (h : G[k]? = some (.pl ds)) (hx : ds[ds.length - 1]? = some x) (q : Qd (.d x) (G.set k (.pl ds.dropLast)) L) : MtC K rPop (.g k) [] Δ G L Qd := fun w ls σ H vo vs c ro rs Q ret => by
  cases rs
  obtain ⟨a, ha, rfl⟩ := ro
  obtain ⟨b, hb, us, h1, r1⟩ := paired_get c.gl h
  rw [ha] at hb
  cases hb
  obtain ⟨y, hy, ry⟩ := r1.get hx
  have g : Grow H (upd H a (.lst us.dropLast)) (Rg w ls) (Rg w ls) := grow_upd (.inl (c.reg a (List.mem_of_getElem? ha)))
  exact ⟨a, us, y, rfl, rfl, h1, by rw [r1.length]; exact hy, ret.go (c.setG (m := .pl _) ha ⟨_, upd_same, (repL_dropLast r1).grow g⟩) (Ext.setG (List.mem_of_getElem? ha)) (s := .d x) (ry.grow g) q⟩
theorem repL_erase {H : Hp} {R : Addr → Prop} {ds : List D} {vs : List V} (r : RepL K H R ds vs) (j : Nat) : RepL K H R (ds.eraseIdx j) (vs.eraseIdx j) := by
  rw [List.eraseIdx_eq_take_drop_succ, List.eraseIdx_eq_take_drop_succ]
  exact (r.take _).app (r.drop _)
theorem mt_popAt_l {k j : Nat} {i : Int} {ds : List D} {x : D} (h : L[k]? = some (.pl ds)) (h0 : 0 ≤ i) (hi : i < 2 ^ 62) (hj : i.toNat = j) (hx : ds[j]? = some x) (q : Qd (.d x) G (L.set k (.pl (ds.eraseIdx j)))) : MtC K rPopAt (.l k) [.d (.int i)] Δ G L Qd := fun w ls σ H vo vs c ro rs Q ret => by
  obtain ⟨v, rfl, r⟩ := pair1 rs
  cases r
  obtain ⟨a, ha, rfl⟩ := ro
  obtain ⟨b, hb, us, h1, r1⟩ := paired_get c.lo h
  rw [ha] at hb
  cases hb
  obtain ⟨y, hy, ry⟩ := r1.get hx
  have g : Grow H (upd H a (.lst (us.eraseIdx j))) (Rg w ls) (Rg w ls) := grow_upd (.inr (List.mem_of_getElem? ha))
  have hjl : j < us.length := (List.getElem?_eq_some_iff.mp hy).1
  refine ⟨a, us, i, j, y, rfl, rfl, h1, by omega, by omega, ?_, hy, ret.go (c.setL (m := .pl _) ha ⟨_, upd_same, (repL_erase r1 j).grow g⟩) (Ext.setL (List.mem_of_getElem? ha)) (s := .d x) (ry.grow g) q⟩
  rw [seqIndex_of h0 (by omega), hj]
theorem mt_upper_d {z : Str} (hz : z.length ≤ 5592405) (k : Qd (.d (.str (Txt.upper z))) G L) : MtC K (fun x xs H Q => ∃ a, x = .str a ∧ xs = [] ∧ a.length ≤ 5592405 ∧ Q (.str (Txt.upper a)) H) (.d (.str z)) [] Δ G L Qd := fun w ls σ H vo vs c ro rs Q ret => by
  cases rs
  exact ⟨z, ro, rfl, hz, ret.go c Ext.refl (s := .d (.str (Txt.upper z))) rfl k⟩
end
end
end DL

namespace DL
open PySem PySem.Spec PyProof.Rows L2
section
variable {K : PySem.W.Frag}
/-! ### equality of data -/
mutual
def D.py : D → Option PyData
  | .non => some .none
  | .bl b => some (.bool b)
  | .int i => some (.int i)
  | .str x => some (.str x)
  | .tup ds => match pyL ds with
    | some xs => some (.tuple xs)
    | none => none
  | .lst ds => match pyL ds with
    | some xs => some (.list xs)
    | none => none
  | _ => none
def pyL : List D → Option (List PyData)
  | [] => some []
  | d :: ds => match d.py, pyL ds with
    | some x, some xs => some (x :: xs)
    | _, _ => none
end
mutual
theorem rep_dp {H : Hp} {R : Addr → Prop} : ∀ {d : D} {v : V} {p : PyData}, d.py = some p → Rep K H R d v → Dp K H v p
  | .non, _, _, e, h => by
    cases e
    cases h
    exact .non
  | .bl _, _, _, e, h => by
    cases e
    cases h
    exact .bl _
  | .int _, _, _, e, h => by
    cases e
    cases h
    exact .int _
  | .str _, _, _, e, h => by
    cases e
    cases h
    exact .str _
  | .tup ds, _, _, e, ⟨a, xs, e1, h, r⟩ => by
    unfold D.py at e
    split at e
    · rename_i ps hp
      cases e
      subst e1
      exact .tup h.sq (repL_dp hp r)
    · cases e
  | .lst ds, _, _, e, ⟨a, xs, e1, ⟨h, _⟩, r⟩ => by
    unfold D.py at e
    split at e
    · rename_i ps hp
      cases e
      subst e1
      exact .lst (.inl (.inl h)) (repL_dp hp r)
    · cases e
  | .ty _, _, _, e, _ => by cases e
  | .ref _, _, _, e, _ => by cases e
  | .scr _, _, _, e, _ => by cases e
  | .dct _, _, _, e, _ => by cases e
  | .ins _ _, _, _, e, _ => by cases e
  | .exn _ _ _, _, _, e, _ => by cases e
theorem repL_dp {H : Hp} {R : Addr → Prop} : ∀ {ds : List D} {vs : List V} {ps : List PyData}, pyL ds = some ps → RepL K H R ds vs → DpAll K H vs ps
  | [], _, _, e, h => by
    cases e
    cases h
    exact .nil
  | d :: ds, _, _, e, ⟨y, ys, e1, h, r⟩ => by
    unfold pyL at e
    split at e
    · rename_i p ps hp hps
      cases e
      subst e1
      exact .cons (rep_dp hp h) (repL_dp hps r)
    · cases e
end
/-- a slot's value as data -/
def valG (G L : List M) : S → Option D
  | .d x => some x
  | .l k => match L[k]? with
    | some (.pl ds) => some (.lst ds)
    | _ => none
  | .g k => match G[k]? with
    | some (.pl ds) => some (.lst ds)
    | _ => none
theorem valG_dp {w : W} {ls : List Addr} {σ : L2.St} {H : Hp} {Δ : Sl} {G L : List M} {v : V} {s : S} {x : D} {p : PyData} (c : Ctx K w ls σ H Δ G L) (r : RS K H (Rg w ls) w.gs ls s v) (h : valG G L s = some x) (hp : x.py = some p) : Dp K H v p := by
  unfold valG at h
  split at h
  · cases h
    exact rep_dp hp r
  · rename_i k
    split at h
    · rename_i ds hk
      cases h
      have q : lsG G L (.l k) = some ds := by
        simp only [lsG, hk]
      obtain ⟨a, vs, rfl, h1, r1⟩ := lsG_get c r q
      unfold D.py at hp
      split at hp
      · rename_i ps hps
        cases hp
        exact .lst (.inl (.inl h1)) (repL_dp hps r1)
      · cases hp
    · cases h
  · rename_i k
    split at h
    · rename_i ds hk
      cases h
      have q : lsG G L (.g k) = some ds := by
        simp only [lsG, hk]
      obtain ⟨a, vs, rfl, h1, r1⟩ := lsG_get c r q
      unfold D.py at hp
      split at hp
      · rename_i ps hps
        cases hp
        exact .lst (.inl (.inl h1)) (repL_dp hps r1)
      · cases hp
    · cases h
def uEq (K : PySem.W.Frag) : R2 := fun x y H Q => rEq x y H Q ∨ rEqD K x y H Q
def uNe (K : PySem.W.Frag) : R2 := fun x y H Q => rNe x y H Q ∨ rNeD K x y H Q
theorem uo_eq {X : Cx} (hu : X.A.units + 64 < cLine) : OpR X (compareOp .Eq) (uEq X.K) := op_eq.or (op_eqD hu)
theorem uo_ne {X : Cx} (hu : X.A.units + 64 < cLine) : OpR X (compareOp .NotEq) (uNe X.K) := op_ne.or (op_neD hu)
section
variable {Δ : Sl} {G L : List M} {Qd : Po}
theorem u_eq_i {i j : Int} (k : Qd (.d (.bl (decide (i = j)))) G L) : OpC K (uEq K) (.d (.int i)) (.d (.int j)) Δ G L Qd := fun w ls σ H vx vy c rx ry Q q => by
  cases rx
  cases ry
  refine .inl ⟨rfl, ?_⟩
  have e : decide (V.int i = V.int j) = decide (i = j) := by simp
  rw [e]
  exact q.go c Ext.refl (s := .d (.bl (decide (i = j)))) rfl k
theorem u_ne_i {i j : Int} (k : Qd (.d (.bl (!decide (i = j)))) G L) : OpC K (uNe K) (.d (.int i)) (.d (.int j)) Δ G L Qd := fun w ls σ H vx vy c rx ry Q q => by
  cases rx
  cases ry
  refine .inl ⟨rfl, ?_⟩
  have e : decide (V.int i = V.int j) = decide (i = j) := by simp
  rw [e]
  exact q.go c Ext.refl (s := .d (.bl (!decide (i = j)))) rfl k
theorem u_eq_s {i j : Str} (k : Qd (.d (.bl (decide (i = j)))) G L) : OpC K (uEq K) (.d (.str i)) (.d (.str j)) Δ G L Qd := fun w ls σ H vx vy c rx ry Q q => by
  cases rx
  cases ry
  refine .inl ⟨rfl, ?_⟩
  have e : decide (V.str i = V.str j) = decide (i = j) := by simp
  rw [e]
  exact q.go c Ext.refl (s := .d (.bl (decide (i = j)))) rfl k
theorem u_ne_s {i j : Str} (k : Qd (.d (.bl (!decide (i = j)))) G L) : OpC K (uNe K) (.d (.str i)) (.d (.str j)) Δ G L Qd := fun w ls σ H vx vy c rx ry Q q => by
  cases rx
  cases ry
  refine .inl ⟨rfl, ?_⟩
  have e : decide (V.str i = V.str j) = decide (i = j) := by simp
  rw [e]
  exact q.go c Ext.refl (s := .d (.bl (!decide (i = j)))) rfl k
theorem u_eq_d {x y : S} {a b : D} {p q : PyData} (hx : valG G L x = some a) (hy : valG G L y = some b) (hp : a.py = some p) (hq : b.py = some q) (sp : SeqAt.shaped p = true) (sq : SeqAt.shaped q = true) (k : Qd (.d (.bl (PyData.eqv p q))) G L) : OpC K (uEq K) x y Δ G L Qd := fun w ls σ H vx vy c rx ry Q ret =>
  .inr ⟨p, q, valG_dp c rx hx hp, valG_dp c ry hy hq, sp, sq, ret.go c Ext.refl (s := .d (.bl (PyData.eqv p q))) rfl k⟩
theorem u_ne_d {x y : S} {a b : D} {p q : PyData} (hx : valG G L x = some a) (hy : valG G L y = some b) (hp : a.py = some p) (hq : b.py = some q) (sp : SeqAt.shaped p = true) (sq : SeqAt.shaped q = true) (k : Qd (.d (.bl (!PyData.eqv p q))) G L) : OpC K (uNe K) x y Δ G L Qd := fun w ls σ H vx vy c rx ry Q ret =>
  .inr ⟨p, q, valG_dp c rx hx hp, valG_dp c ry hy hq, sp, sq, ret.go c Ext.refl (s := .d (.bl (!PyData.eqv p q))) rfl k⟩
theorem py_ints : ∀ ns : List Int, pyL (ns.map D.int) = some (ns.map PyData.int)
  | [] => rfl
  | n :: ns => by
    show (match (D.int n).py, pyL (ns.map D.int) with
      | some x, some xs => some (x :: xs)
      | _, _ => none) = _
    rw [py_ints ns]
    rfl
theorem py_strs : ∀ ns : List Str, pyL (ns.map D.str) = some (ns.map PyData.str)
  | [] => rfl
  | n :: ns => by
    show (match (D.str n).py, pyL (ns.map D.str) with
      | some x, some xs => some (x :: xs)
      | _, _ => none) = _
    rw [py_strs ns]
    rfl
theorem canLay_ints : ∀ ns : List Int, PyData.canLayAll0 (ns.map PyData.int) = true
  | [] => rfl
  | n :: ns => by
    show (PyData.canLay0 (.int n) && PyData.canLayAll0 (ns.map PyData.int)) = true
    rw [canLay_ints ns]
    rfl
theorem depth_ints : ∀ ns : List Int, PyData.depthAll (ns.map PyData.int) ≤ 1
  | [] => by simp [PyData.depthAll]
  | n :: ns => by
    have := depth_ints ns
    simp only [List.map_cons, PyData.depthAll, PyData.depth]
    omega
theorem shaped_ints (ns : List Int) : SeqAt.shaped (.list (ns.map PyData.int)) = true := by
  have h := depth_ints ns
  unfold SeqAt.shaped
  rw [Bool.and_eq_true]
  refine ⟨canLay_ints ns, decide_eq_true ?_⟩
  simp only [PyData.depth]
  omega
theorem shaped_nil : SeqAt.shaped (.list []) = true := by decide
theorem lsG_val {s : S} {ds : List D} (h : lsG G L s = some ds) : valG G L s = some (.lst ds) := by
  unfold lsG at h
  split at h
  · cases h
    rfl
  · split at h
    · rename_i hk
      cases h
      simp only [valG, hk]
    · cases h
  · split at h
    · rename_i hk
      cases h
      simp only [valG, hk]
    · cases h
  · cases h
/-- == [] , != [] of a list of ints -/
theorem u_ne_nil {x y : S} {ns : List Int} (hx : lsG G L x = some (ns.map D.int)) (hy : lsG G L y = some []) (k : Qd (.d (.bl (!ns.isEmpty))) G L) : OpC K (uNe K) x y Δ G L Qd := by
  have e : PyData.eqv (.list (ns.map PyData.int)) (.list []) = ns.isEmpty := by
    cases ns <;> rfl
  refine u_ne_d (lsG_val hx) (lsG_val hy) (by unfold D.py; rw [py_ints]) (by rfl) (shaped_ints ns) shaped_nil ?_
  rw [e]
  exact k
theorem u_eq_nil {x y : S} {ns : List Int} (hx : lsG G L x = some (ns.map D.int)) (hy : lsG G L y = some []) (k : Qd (.d (.bl ns.isEmpty)) G L) : OpC K (uEq K) x y Δ G L Qd := by
  have e : PyData.eqv (.list (ns.map PyData.int)) (.list []) = ns.isEmpty := by
    cases ns <;> rfl
  refine u_eq_d (lsG_val hx) (lsG_val hy) (by unfold D.py; rw [py_ints]) (by rfl) (shaped_ints ns) shaped_nil ?_
  rw [e]
  exact k
/-! membership: ints in ints, texts in texts -/
def uIn (K : PySem.W.Frag) (neg : Bool) : R2 := fun x y H Q => rIn K neg x y H Q ∨ ∃ (c : Nat) (z : Str), x = .str ⟨#[c]⟩ ∧ y = .str z ∧ Q (.bl (if neg then !decide (c ∈ z.cps.toList) else decide (c ∈ z.cps.toList))) H
theorem uo_in {X : Cx} : OpR X (compareOp .In) (uIn X.K false) := op_in_seq.or op_in_sign
theorem uo_nin {X : Cx} : OpR X (compareOp .NotIn) (uIn X.K true) := op_notIn_seq.or op_notIn_sign
theorem flat_ints (ns : List Int) : (ns.map V.int).all flatV = true := by
  rw [List.all_map, List.all_eq_true]
  intro x _
  rfl
theorem flat_strs (ns : List Str) : (ns.map V.str).all flatV = true := by
  rw [List.all_map, List.all_eq_true]
  intro x _
  rfl
theorem inV_ints {i : Int} {ns : List Int} : inV (.int i) (ns.map V.int) = decide (i ∈ ns) := by
  unfold inV
  induction ns with
  | nil => rfl
  | cons a r ih =>
    rw [List.map_cons, List.any_cons, ih]
    have : eqV (.int a) (.int i) = decide (i = a) := by
      show (a == i) = decide (i = a)
      by_cases h : a = i
      · subst h
        rw [decide_eq_true rfl]
        exact beq_self_eq_true a
      · rw [decide_eq_false (fun z => h z.symm)]
        exact beq_eq_false_iff_ne.mpr h
    rw [this, Bool.eq_iff_iff]
    simp only [Bool.or_eq_true, decide_eq_true_eq, List.mem_cons]
theorem inV_strs {i : Str} {ns : List Str} : inV (.str i) (ns.map V.str) = decide (i ∈ ns) := by
  unfold inV
  induction ns with
  | nil => rfl
  | cons a r ih =>
    rw [List.map_cons, List.any_cons, ih]
    have : eqV (.str a) (.str i) = decide (i = a) := by
      show (a == i) = decide (i = a)
      by_cases h : a = i
      · subst h
        rw [decide_eq_true rfl]
        exact beq_self_eq_true a
      · rw [decide_eq_false (fun z => h z.symm)]
        exact beq_eq_false_iff_ne.mpr h
    rw [this, Bool.eq_iff_iff]
    simp only [Bool.or_eq_true, decide_eq_true_eq, List.mem_cons]
theorem u_in_i {neg : Bool} {i : Int} {y : S} {ns : List Int} (hy : seqG G L y = some (ns.map D.int)) (k : Qd (.d (.bl (if neg then !decide (i ∈ ns) else decide (i ∈ ns)))) G L) : OpC K (uIn K neg) (.d (.int i)) y Δ G L Qd := fun w ls σ H vx vy c rx ry Q q => by
  cases rx
  obtain ⟨a, vs, rfl, h1, q1⟩ := seqG_get c ry hy
  have e := RepL.intsV q1
  subst e
  refine .inl ⟨a, _, rfl, h1, rfl, flat_ints ns, ?_⟩
  rw [inV_ints]
  exact q.go c Ext.refl (s := .d (.bl (if neg then !decide (i ∈ ns) else decide (i ∈ ns)))) rfl k
theorem u_in_s {neg : Bool} {i : Str} {y : S} {ns : List Str} (hy : seqG G L y = some (ns.map D.str)) (k : Qd (.d (.bl (if neg then !decide (i ∈ ns) else decide (i ∈ ns)))) G L) : OpC K (uIn K neg) (.d (.str i)) y Δ G L Qd := fun w ls σ H vx vy c rx ry Q q => by
  cases rx
  obtain ⟨a, vs, rfl, h1, q1⟩ := seqG_get c ry hy
  have e := RepL.strsV q1
  subst e
  refine .inl ⟨a, _, rfl, h1, rfl, flat_strs ns, ?_⟩
  rw [inV_strs]
  exact q.go c Ext.refl (s := .d (.bl (if neg then !decide (i ∈ ns) else decide (i ∈ ns)))) rfl k
theorem u_in_c {neg : Bool} {ch : Nat} {z : Str} (k : Qd (.d (.bl (if neg then !decide (ch ∈ z.cps.toList) else decide (ch ∈ z.cps.toList)))) G L) : OpC K (uIn K neg) (.d (.str ⟨#[ch]⟩)) (.d (.str z)) Δ G L Qd := fun w ls σ H vx vy c rx ry Q q =>
  .inr ⟨ch, z, rx, ry, q.go c Ext.refl (s := .d (.bl (if neg then !decide (ch ∈ z.cps.toList) else decide (ch ∈ z.cps.toList)))) rfl k⟩
end
end
end DL

namespace DL
open PySem PySem.Spec PyProof.Rows L2
/-! ### walks over a list, a tuple or a text -/
def iSeq (K : PySem.W.Frag) (tl : TE) : TI := fun σ H R => tl σ H fun x H1 => (∃ a, x = .ref a ∧ (∃ xs, SqL K H1 a xs) ∧ R (Itl K a) H1) ∨ (∃ a, x = .ref a ∧ (∃ xs, SqT K H1 a xs) ∧ R (Itt K a) H1) ∨ (∃ z, x = .str z ∧ R (Its z) H1)
theorem pi_seq {X : Cx} {tg l : Expr} {tl : TE} (hl : PE X l tl) : PI X tg l (iSeq X.K tl) := by
  refine ⟨fun pins s σ H R I h => ?_⟩
  refine thn (hl.run pins s σ H _ I h) fun v s1 ⟨x, H1, I1, r1, q1⟩ => ?_
  rcases q1 with ⟨a, e, ⟨xs, hq⟩, q⟩ | ⟨a, e, ⟨xs, hq⟩, q⟩ | ⟨z, e, q⟩
  · subst e
    cases r1
    obtain ⟨its, rv, p, hz⟩ := I1.list hq
    refine wpAny_pyIter_list p.isList ?_
    refine ⟨s1.heap.objs.size, [s1.heap.objs.size], _, _, H1, rfl, I1.kept (t' := s1.toks) fun b o e => Heap.get?_push_of_some _ e, turn_list a _, ⟨_, Heap.get?_push_size _ rfl, rfl, rfl⟩, fun b hb => ?_, q⟩
    have e : b = s1.heap.objs.size := by simpa using hb
    subst e
    exact I1.fpOk (Nat.le_refl _) (I1.hok.fresh (Nat.le_refl _))
  · subst e
    cases r1
    obtain ⟨its, rv, p, hz⟩ := I1.tuple hq
    refine wpAny_pyIter_tuple (show s1.heap.IsTuple a its.toArray from p) ?_
    refine ⟨s1.heap.objs.size, [s1.heap.objs.size], _, _, H1, rfl, I1.kept (t' := s1.toks) fun b o e => Heap.get?_push_of_some _ e, turn_tuple a _, ⟨_, Heap.get?_push_size _ rfl, rfl, rfl⟩, fun b hb => ?_, q⟩
    have e : b = s1.heap.objs.size := by simpa using hb
    subst e
    exact I1.fpOk (Nat.le_refl _) (I1.hok.fresh (Nat.le_refl _))
  · subst e
    obtain ⟨t, rfl⟩ := r1
    cases ha : z.cps.all (· < 128)
    · exact wpAny_pyIter_wide ha (pi_one (tk := s1.toks) I1 _ (turn_str _ z t "str_iterator" (.inr rfl)) ⟨_, Heap.get?_push_size _ rfl, rfl, rfl⟩ q)
    · exact wpAny_pyIter_ascii ha (pi_one (tk := s1.toks) I1 _ (turn_str _ z t "str_ascii_iterator" (.inl rfl)) ⟨_, Heap.get?_push_size _ rfl, rfl, rfl⟩ q)
section
variable {K : PySem.W.Frag} {Δ : Sl} {G L : List M} {Qd : Po} {te : TE}
/-- what is walked, as data -/
def itD : D → Option (List D)
  | .lst ds => some ds
  | .tup ds => some ds
  | .scr ns => some (ns.map .int)
  | .str z => some (signsD z)
  | _ => none
theorem evi_seq {tl : TE} {Qi : List D → List M → List M → Prop} (h : EvC K tl Δ G L fun s G1 L1 => ∃ d ds, s = .d d ∧ itD d = some ds ∧ Qi ds G1 L1) : EvI K (iSeq K tl) Δ G L Qi := fun w ls σ H c R q =>
  h w ls σ H c _ fun v s H2 G2 L2 c2 e2 r2 ⟨d, ds, e, hd, k⟩ => by
    subst e
    unfold itD at hd
    split at hd
    · cases hd
      obtain ⟨a, vs, rfl, ⟨h1, n1⟩, r1⟩ := r2
      refine .inl ⟨a, rfl, ⟨vs, .inl (.inl h1)⟩, q _ H2 _ G2 L2 c2 e2 ⟨fun H3 w2 ls2 σ2 Δ2 G3 L3 i d g c3 hi => ?_, fun H3 w2 ls2 g => ?_⟩ k⟩
      · obtain ⟨x, hx, rx⟩ := (r1.grow g).get hi
        have h3 := g.keep a _ h1 n1
        refine ⟨⟨vs, x, .inl (.inl h3), hx⟩, fun y H' ⟨hH, hy⟩ => ?_⟩
        subst hH
        have e := hy vs (.inl (.inl h3))
        rw [hx] at e
        cases e
        exact ⟨c3, Ext.refl, rx⟩
      · exact ⟨vs, .inl (.inl (g.keep a _ h1 n1)), Nat.le_of_eq r1.length⟩
    · cases hd
      obtain ⟨a, vs, rfl, h1, r1⟩ := r2
      refine .inr (.inl ⟨a, rfl, ⟨vs, h1.sq⟩, q _ H2 _ G2 L2 c2 e2 ⟨fun H3 w2 ls2 σ2 Δ2 G3 L3 i d g c3 hi => ?_, fun H3 w2 ls2 g => ?_⟩ k⟩)
      · obtain ⟨x, hx, rx⟩ := (r1.grow g).get hi
        have h3 := (h1.grow g).sq
        refine ⟨⟨vs, x, h3, hx⟩, fun y H' ⟨hH, hy⟩ => ?_⟩
        subst hH
        have e := hy vs h3
        rw [hx] at e
        cases e
        exact ⟨c3, Ext.refl, rx⟩
      · exact ⟨vs, (h1.grow g).sq, Nat.le_of_eq r1.length⟩
    · rename_i ns _hh
      cases hd
      obtain ⟨a, rfl, h1⟩ := r2
      refine .inl ⟨a, rfl, ⟨_, h1.sq⟩, q _ H2 _ G2 L2 c2 e2 ⟨fun H3 w2 ls2 σ2 Δ2 G3 L3 i d g c3 hi => ?_, fun H3 w2 ls2 g => ?_⟩ k⟩
      · have h3 := (h1.grow g).sq
        obtain ⟨x, hx, rx⟩ := (RepL.ints (K := K) (H := H3) (R := Rg w2 ls2)).get hi
        refine ⟨⟨_, x, h3, hx⟩, fun y H' ⟨hH, hy⟩ => ?_⟩
        subst hH
        have e := hy _ h3
        rw [hx] at e
        cases e
        exact ⟨c3, Ext.refl, rx⟩
      · exact ⟨_, (h1.grow g).sq, by rw [List.length_map, List.length_map]; exact Nat.le_refl _⟩
    · rename_i z _hh
      cases hd
      cases r2
      have hsz : (signsD z).length = z.cps.size := by
        unfold signsD
        rw [List.length_map, Array.length_toList]
      refine .inr (.inr ⟨z, rfl, q _ H2 _ G2 L2 c2 e2 ⟨fun H3 w2 ls2 σ2 Δ2 G3 L3 i d g c3 hi => ?_, fun H3 w2 ls2 g => by show z.cps.size ≤ _; rw [hsz]; exact Nat.le_refl _⟩ k⟩)
      have hlt := (List.getElem?_eq_some_iff.mp hi).1
      rw [hsz] at hlt
      refine ⟨hlt, fun y H' ⟨hH, c, hc, hy⟩ => ?_⟩
      subst hH
      subst hy
      refine ⟨c3, Ext.refl, ?_⟩
      unfold signsD at hi
      rw [List.getElem?_map, Array.getElem?_toList, hc] at hi
      cases hi
      rfl
    · cases hd
/-! texts times ints -/
theorem fold_size {α : Type} (b : Array α) : ∀ (n : Nat) (a : Array α), ((List.replicate n b).foldl (· ++ ·) a).size = a.size + b.size * n
  | 0, a => by simp
  | n + 1, a => by
    rw [List.replicate_succ, List.foldl_cons, fold_size b n, Array.size_append, Nat.mul_succ]
    omega
def strRep (z : Str) (n : Nat) : Str := ⟨(List.replicate n z.cps).foldl (· ++ ·) #[]⟩
def rRepS : R2 := fun x y H Q => ∃ (z : Str) (n : Int), x = .str z ∧ y = .int n ∧ 1 < n ∧ n < 2 ^ 24 ∧ 0 < z.length ∧ z.length < 2 ^ 24 ∧ z.length * n.toNat ≤ 2 ^ 24 ∧ Q (.str (strRep z n.toNat)) H
theorem op_repS {X : Cx} : OpR X (binaryOp .Mult) rRepS := by
  intro pins s σ H x y v u Q I rx ry h
  obtain ⟨z, n, rfl, rfl, h1, h2, h3, h4, h5, q⟩ := h
  obtain ⟨t, rfl⟩ := rx
  obtain ⟨t', rfl⟩ := ry
  have e1 : (n == 1 || z.length == 0) = false := by
    rw [Bool.or_eq_false_iff]
    exact ⟨beq_eq_false_iff_ne.mpr (by omega), beq_eq_false_iff_ne.mpr (by omega)⟩
  refine P.mul_str ?_ (fun _ _ => ?_) (fun _ _ => ?_) ?_
  · rw [decide_eq_false (by omega), decide_eq_false (by omega)]
    rfl
  · intro hh
    have : (2 ^ 63 - 1 : Int) / n ≥ 2 ^ 24 := by
      refine Int.le_ediv_of_mul_le (by omega) ?_
      have : n < 2 ^ 24 := h2
      omega
    omega
  · show decide (z.length * n.toNat > sizeLine) = false
    have : sizeLine = 2 ^ 24 := rfl
    exact decide_eq_false (by omega)
  · rw [if_neg (by omega), if_neg (by rw [e1]; exact Bool.false_ne_true)]
    refine ⟨?_, ⟨.str _, H, I.tok _, ⟨_, rfl⟩, q⟩⟩
    show ((List.replicate n.toNat z.cps).foldl (· ++ ·) #[]).size ≤ sizeLine
    rw [fold_size]
    have : sizeLine = 2 ^ 24 := rfl
    have h5 : z.cps.size * n.toNat ≤ 2 ^ 24 := h5
    rw [this]
    simpa using h5
end
section
variable {K : PySem.W.Frag} {Δ : Sl} {G L : List M} {E : EndsD}
/-- return [a new object, ..] -/
theorem st_ret2 {t0 : TE} {ts : TA} (h : EvN K t0 Δ G L fun m0 G1 L1 => EvA K ts Δ G1 (L1 ++ [m0]) fun ss G2 L2 => ss.length + 1 ≤ sizeLine ∧ E.rt (.l L2.length) G2 (L2 ++ [.hl (.l L1.length :: ss)])) : StC K (tRet (tLst (tCons t0 ts))) Δ G L E := fun w ls σ H c D s =>
  h w ls σ H c _ fun p m H2 G2 L2 hp n e2 k => k w (ls ++ [p]) σ H2 n.own _ fun vs ss H3 G3 L3 c3 e3 r3 ⟨hl, k3⟩ => by
    have hlen : ls.length = L2.length := paired_len n.c.lo
    have hp1 : (ls ++ [p])[L2.length]? = some p := by
      rw [← hlen, List.getElem?_append_right (Nat.le_refl _), Nat.sub_self]
      rfl
    refine ⟨by rw [List.length_cons, paired_len' r3]; exact hl, fun q hq => ?_⟩
    have n2 := newAt_hl (xs := .l L2.length :: ss) c3 hq (.cons ⟨p, hp1, rfl⟩ r3)
    refine s.rt (ls ++ [p] ++ [q]) σ _ Δ G3 _ (.ref q) (.l L3.length) n2.own ⟨q, ?_, rfl⟩ k3
    rw [← paired_len c3.lo, List.getElem?_append_right (Nat.le_refl _), Nat.sub_self]
    rfl
end
/-- the law's own promise, from the script -/
theorem law_sp {K : PySem.W.Frag} {sp : DSpec} {H : Hp} {a : Addr} {ns : List Int} {E : XK} (h : sp [.d (.scr ns)] [] (fun r _ => r = .v (.d (.bl true)))) (hS : SqL K H a (ns.map V.int)) : spD K sp [.ref a] H (fun v _ => v = .bl true) E := by
  refine ⟨⟨fun _ => False, [], H⟩, [.d (.scr ns)], [], _, rfl, ⟨fun _ h => (by cases h), fun _ h => h.elim, List.nodup_nil, fun _ h => (by cases h), fun a o h _ => h, ⟨rfl, fun i s e => by simp at e⟩, .nil, .nil, fun _ h => (by cases h)⟩, .cons ⟨a, rfl, ?_⟩ .nil, h, ?_, ?_⟩
  · rcases hS with h | h
    · exact .inl ⟨h, fun r => r.elim (fun z => z) (fun z => by cases z)⟩
    · exact .inr (.inr h)
  · intro v s H' G' c r e
    cases e
    exact r
  · intro ps k p ms H' G' c hp e
    cases e
end DL
namespace DL
open PySem PySem.Spec PyProof.Rows L2
theorem iteTT {A B : Prop} (h : A) : if true = true then A else B := by
  rw [if_pos rfl]
  exact h
theorem iteFF {A B : Prop} (h : B) : if false = true then A else B := by
  rw [if_neg Bool.false_ne_true]
  exact h
theorem iteD {p : Prop} [Decidable p] {A B : Prop} (h1 : p → A) (h2 : ¬ p → B) : if decide p = true then A else B := by
  by_cases h : p
  · rw [decide_eq_true h]
    exact iteTT (h1 h)
  · rw [decide_eq_false h]
    exact iteFF (h2 h)
theorem iteND {p : Prop} [Decidable p] {A B : Prop} (h1 : ¬ p → A) (h2 : p → B) : if (!decide p) = true then A else B := by
  by_cases h : p
  · rw [decide_eq_true h]
    exact iteFF (h2 h)
  · rw [decide_eq_false h]
    exact iteTT (h1 h)
theorem iteB {b : Bool} {A B : Prop} (h1 : b = true → A) (h2 : b = false → B) : if b = true then A else B := by
  cases b with
  | true => exact iteTT (h1 rfl)
  | false => exact iteFF (h2 rfl)
end DL
namespace DL
open PySem PySem.Spec PyProof.Rows L2
section
variable {G L : List M} {k : Nat} {xs : List S} {ds : List D}
theorem hlG_g (h : G[k]? = some (.hl xs)) : hlG G L (.g k) = some xs := by
  simp only [hlG, h]
theorem hlG_gp (h : G[k]? = some (.pl ds)) : hlG G L (.g k) = some (ds.map .d) := by
  simp only [hlG, h]
theorem lsG_g (h : G[k]? = some (.pl ds)) : lsG G L (.g k) = some ds := by
  simp only [lsG, h]
theorem lsG_l (h : L[k]? = some (.pl ds)) : lsG G L (.l k) = some ds := by
  simp only [lsG, h]
theorem seqG_g (h : G[k]? = some (.pl ds)) : seqG G L (.g k) = some ds := lsG_g (L := L) h
theorem seqG_l (h : L[k]? = some (.pl ds)) : seqG G L (.l k) = some ds := lsG_l (G := G) h
theorem tyS_g (h : G[k]? = some (.pl ds)) : tyS G L "list" (.g k) := .inl ⟨rfl, .inl ⟨_, lsG_g h⟩⟩
theorem tyS_l (h : L[k]? = some (.pl ds)) : tyS G L "list" (.l k) := .inl ⟨rfl, .inl ⟨_, lsG_l h⟩⟩
theorem set_at {α : Type} {l : List α} {k : Nat} {x y : α} (h : l[k]? = some y) : (l.set k x)[k]? = some x := by
  rw [List.getElem?_set_self (List.getElem?_eq_some_iff.mp h).1]
theorem set_off {α : Type} {l : List α} {k j : Nat} {x : α} (h : j ≠ k) : (l.set k x)[j]? = l[j]? := List.getElem?_set_ne (Ne.symm h)
theorem set_same {α : Type} {l : List α} {k : Nat} {x : α} (h : l[k]? = some x) : l.set k x = l := by
  refine List.ext_getElem? fun i => ?_
  by_cases e : i = k
  · subst e
    rw [set_at h, h]
  · rw [set_off e]
theorem set_comm {α : Type} {l : List α} {k j : Nat} {x y : α} (h : k ≠ j) : (l.set k x).set j y = (l.set j y).set k x := List.set_comm x y h
theorem set_set {α : Type} {l : List α} {k : Nat} {x y : α} : (l.set k x).set k y = l.set k y := List.set_set ..
end
end DL
namespace DL
open PySem PySem.Spec PyProof.Rows L2
section
variable {K : PySem.W.Frag} {Δ : Sl} {G L : List M} {Qd : Po} {Qn : PoN}
theorem evc_varX {i : Nat} (h : ∃ s, Δ[i]? = some (some s) ∧ Qd s G L) : EvC K (tVar i) Δ G L Qd := let ⟨_, e, k⟩ := h; evc_var e k
theorem u_ix_hX {x : S} {i : Int} (h : ∃ xs, hlG G L x = some xs ∧ ∃ s, atI xs i = some s ∧ Qd s G L) : OpC K (rIx K) x (.d (.int i)) Δ G L Qd := let ⟨_, e, _, e2, k⟩ := h; u_ix_h e e2 k
theorem u_ix_gX {x : S} {i : Int} (h : ∃ xs, seqG G L x = some xs ∧ ∃ d, atI xs i = some d ∧ Qd (.d d) G L) : OpC K (rIx K) x (.d (.int i)) Δ G L Qd := let ⟨_, e, _, e2, k⟩ := h; u_ix_g e e2 k
theorem ap_lenX {s : S} (h : ∃ ds, seqG G L s = some ds ∧ Qd (.d (.int (ds.length : Nat))) G L) : ApC K (uLen K) [s] Δ G L Qd := let ⟨_, e, k⟩ := h; ap_len e k
theorem ap_listX {s : S} (h : ∃ ds, seqG G L s = some ds ∧ Qn (.pl ds) G L) : ApN K (uList K) [s] Δ G L Qn := let ⟨_, e, k⟩ := h; ap_list e k
theorem ap_tupleX {s : S} (h : ∃ ds, lsG G L s = some ds ∧ Qd (.d (.tup ds)) G L) : ApC K (uTuple K) [s] Δ G L Qd := let ⟨_, e, k⟩ := h; ap_tuple e k
theorem u_ne_nilX {x y : S} (h : lsG G L y = some [] ∧ ∃ ns : List Int, lsG G L x = some (ns.map D.int) ∧ Qd (.d (.bl (!ns.isEmpty))) G L) : OpC K (uNe K) x y Δ G L Qd := let ⟨hy, _, hx, k⟩ := h; u_ne_nil hx hy k
theorem u_eq_nilX {x y : S} (h : lsG G L y = some [] ∧ ∃ ns : List Int, lsG G L x = some (ns.map D.int) ∧ Qd (.d (.bl ns.isEmpty)) G L) : OpC K (uEq K) x y Δ G L Qd := let ⟨hy, _, hx, k⟩ := h; u_eq_nil hx hy k
end
end DL
namespace DL
open PySem PySem.Spec PyProof.Rows L2
theorem le_line {n : Nat} (h : n ≤ 100000) : n ≤ sizeLine := Nat.le_trans h (by decide)
theorem lt_line {n : Nat} (h : n ≤ 100000) : n < sizeLine := Nat.lt_of_le_of_lt h (by decide)
section
variable {K : PySem.W.Frag} {Δ : Sl} {G L : List M} {E : EndsD} {t u : TS}
/-- a word between two statements -/
theorem st_mid (P : Sl → List M → List M → Prop) (h : StC K t Δ G L { E with nx := P }) (k : ∀ Δ' G' L', P Δ' G' L' → StC K u Δ' G' L' E) : StC K (tSeq t u) Δ G L E := fun w ls σ H c D s =>
  h w ls σ H c _ ⟨fun ls' σ' H' Δ' G' L' c' g' p => k Δ' G' L' p w ls' σ' H' c' D (s.on g'), s.rt, s.bk, s.ct, s.wd⟩
end
end DL
namespace DL
open PySem PySem.Spec PyProof.Rows L2
section
variable {K : PySem.W.Frag} {Δ : Sl} {G L : List M} {Qd : Po}
theorem opc_powL (i j : Int) (n : Nat) {z : Int} (hj : j = (n : Int)) (hn : n ≤ 1000000) (hi : i.natAbs < 2 ^ 64) (e : i ^ n = z) (k : Qd (.d (.int z)) G L) : OpC K (rI CPow fun i j => .int (i ^ j.toNat)) (.d (.int i)) (.d (.int j)) Δ G L Qd := by
  subst hj
  subst e
  exact opc_Ii (g := fun i j => i ^ j.toNat) ⟨by omega, by omega, hi⟩ k
theorem pow10_6 (k : Qd (.d (.int 1000000)) G L) : OpC K (rI CPow fun i j => .int (i ^ j.toNat)) (.d (.int 10)) (.d (.int 6)) Δ G L Qd := opc_powL 10 6 6 rfl (by decide) (by decide) (by decide +kernel) k
theorem pow10_9 (k : Qd (.d (.int 1000000000)) G L) : OpC K (rI CPow fun i j => .int (i ^ j.toNat)) (.d (.int 10)) (.d (.int 9)) Δ G L Qd := opc_powL 10 9 9 rfl (by decide) (by decide) (by decide +kernel) k
theorem pow10_12 (k : Qd (.d (.int 1000000000000)) G L) : OpC K (rI CPow fun i j => .int (i ^ j.toNat)) (.d (.int 10)) (.d (.int 12)) Δ G L Qd := opc_powL 10 12 12 rfl (by decide) (by decide) (by decide +kernel) k
theorem pow10_15 (k : Qd (.d (.int 1000000000000000)) G L) : OpC K (rI CPow fun i j => .int (i ^ j.toNat)) (.d (.int 10)) (.d (.int 15)) Δ G L Qd := opc_powL 10 15 15 rfl (by decide) (by decide) (by decide +kernel) k
theorem pow10_18 (k : Qd (.d (.int 1000000000000000000)) G L) : OpC K (rI CPow fun i j => .int (i ^ j.toNat)) (.d (.int 10)) (.d (.int 18)) Δ G L Qd := opc_powL 10 18 18 rfl (by decide) (by decide) (by decide +kernel) k
theorem pow10_39 (k : Qd (.d (.int 1000000000000000000000000000000000000000)) G L) : OpC K (rI CPow fun i j => .int (i ^ j.toNat)) (.d (.int 10)) (.d (.int 39)) Δ G L Qd := opc_powL 10 39 39 rfl (by decide) (by decide) (by decide +kernel) k
end
end DL
namespace DL
open PySem PySem.Spec PyProof.Rows L2
theorem mulL {i j : Int} (h1 : -(2 ^ 64) < i) (h2 : i < 2 ^ 64) : CMul i j := Or.inl ⟨h1, h2⟩
theorem mulR {i j : Int} (h1 : -(2 ^ 64) < j) (h2 : j < 2 ^ 64) : CMul i j := Or.inr ⟨h1, h2⟩
theorem divW {i j : Int} (h1 : 0 < j) (h2 : j < 2 ^ 64) : CDivW i j := wide_div (b := 64) h1 (by omega) (by decide) (by decide)
end DL
namespace DL
open PySem PySem.Spec PyProof.Rows L2
theorem cutD_map {α : Type} (f : α → D) (xs : List α) (lo hi : Option Int) : ∃ ys : List α, cutD (xs.map f) lo hi = ys.map f ∧ ys.length ≤ xs.length ∧ ∀ y ∈ ys, y ∈ xs := by
  unfold cutD
  rw [List.length_map]
  refine ⟨(xs.drop (HT.sIx xs.length 0 lo)).take (HT.sIx xs.length xs.length hi - HT.sIx xs.length 0 lo), by rw [List.map_take, List.map_drop], ?_, fun y hy => List.mem_of_mem_drop (List.mem_of_mem_take hy)⟩
  rw [List.length_take, List.length_drop]
  omega
theorem get_map {α : Type} {f : α → D} {xs : List α} {i : Nat} {d : D} (h : (xs.map f)[i]? = some d) : ∃ x, x ∈ xs ∧ d = f x := by
  rw [List.getElem?_map] at h
  cases e : xs[i]? with
  | none =>
    rw [e] at h
    cases h
  | some x =>
    rw [e] at h
    exact ⟨x, List.mem_of_getElem? e, (Option.some.inj h).symm⟩
end DL
namespace DL
open PySem PySem.Spec PyProof.Rows L2
section
variable {K : PySem.W.Frag} {Δ : Sl} {G L : List M} {Qn : PoN} {wi : TI} {g : TG} {tt : TT} {te : TE} {vs : List Nat}
/-- a comprehension that changes nothing: what it keeps, what it makes of it -/
theorem evn_lcF (keep : D → Bool) (val : D → D) (h : EvI K wi Δ G L fun items G1 L1 => items.length < sizeLine ∧
    (∀ d ∈ items, TgC K g (· ∈ vs) (.d d) (wipeD Δ vs) G1 L1 fun Δ2 G2 L2 => EvB K tt Δ2 G2 L2 fun b G3 L3 => b = keep d ∧ (b = true → EvC K te Δ2 G3 L3 fun s G4 L4 => s = .d (val d) ∧ G4 = G1 ∧ L4 = L1) ∧ (b = false → G3 = G1 ∧ L3 = L1)) ∧
    Qn (.pl ((items.filter keep).map val)) G1 L1) : EvN K (tLc wi g tt te vs) Δ G L Qn := by
  refine evn_lc fun w ls σ H c R q => h w ls σ H c R fun J H1 items G1 L1 c1 e1 it ⟨hz, hs, hq⟩ => q J H1 items G1 L1 c1 e1 it ?_
  refine ⟨fun i acc G' L' => G' = G1 ∧ L' = L1 ∧ acc = ((items.take i).filter keep).map val, ⟨rfl, rfl, by rw [List.take_zero]; rfl⟩, hz, ?_, ?_⟩
  · rintro i d acc G' L' hd _ ⟨rfl, rfl, rfl⟩
    have hi := (List.getElem?_eq_some_iff.mp hd).1
    have e : items.take (i + 1) = items.take i ++ [d] := by
      rw [List.take_succ, hd]
      rfl
    intro w ls σ H v c r Q k
    refine hs d (List.mem_of_getElem? hd) w ls σ H v c r Q fun σ' H' Δ' G2 L2 c' e' l' o' hb => k σ' H' Δ' G2 L2 c' e' l' o' ?_
    intro w ls σ H c Q k
    refine hb w ls σ H c Q fun b H' G3 L3 c' e' ⟨h1, h2, h3⟩ => k b H' G3 L3 c' e' ?_
    cases b with
    | true =>
      refine iteTT ((h2 rfl).imp fun s G4 L4 ⟨h4, h5, h6⟩ => ⟨val d, h4, h5, h6, ?_⟩)
      rw [e, List.filter_append, List.map_append, List.filter_cons, if_pos h1.symm]
      rfl
    | false =>
      obtain ⟨h4, h5⟩ := h3 rfl
      refine iteFF ⟨h4, h5, ?_⟩
      rw [e, List.filter_append, List.map_append, List.filter_cons, if_neg (by rw [← h1]; decide)]
      exact (List.append_nil _).symm
  · rintro acc G' L' ⟨rfl, rfl, rfl⟩
    rw [List.take_length]
    exact hq
end
theorem filter_yes {α : Type} (xs : List α) : xs.filter (fun _ => true) = xs := List.filter_eq_self.mpr fun _ _ => rfl
end DL
namespace DL
open PySem PySem.Spec PyProof.Rows L2
theorem atI_of {α : Type} {xs : List α} {i : Int} {j : Nat} {x : α} (h : xs[j]? = some x) (e : i = (j : Int)) : atI xs i = some x := by
  subst e
  have hj := (List.getElem?_eq_some_iff.mp h).1
  unfold atI ixN
  rw [if_pos (by omega), if_pos (by omega)]
  exact h
theorem atI_to {α : Type} {xs : List α} {i : Int} (h0 : 0 ≤ i) (h1 : i < (xs.length : Nat)) : ∃ x, x ∈ xs ∧ atI xs i = some x := by
  have hj : i.toNat < xs.length := by omega
  exact ⟨xs[i.toNat], List.getElem_mem hj, atI_of (j := i.toNat) (List.getElem?_eq_getElem hj) (by omega)⟩
end DL

namespace DL
open PySem PySem.Spec PyProof.Rows L2
/-! ### dicts of the top, with texts as keys -/
def DLit (K : PySem.W.Frag) (w : World) (a : Addr) (ks : List (Str × V)) : Prop := ∃ es n, K.lookup a = some ⟨.type "dict", none, .dict es n, #[]⟩ ∧ (a == sysModules) = false ∧
  Paired (fun (e : DictEntry) (p : Str × V) => (∃ t, e.key = .str p.1 t) ∧ e.hash = PyData.keyHash w.params p.1 ∧ RelV p.2 e.val) es.toList ks
theorem dlit_keys {w : World} : ∀ {es : List DictEntry} {ks : List (Str × V)}, Paired (fun (e : DictEntry) (p : Str × V) => (∃ t, e.key = .str p.1 t) ∧ e.hash = PyData.keyHash w.params p.1 ∧ RelV p.2 e.val) es ks → PySem.W.KeysLit w.params es
  | _, _, .nil => trivial
  | _, _, .cons ⟨⟨t, h1⟩, h2, _⟩ r => ⟨⟨_, t, h1, h2⟩, dlit_keys r⟩
theorem dlit_find {w : World} {z : Str} : ∀ {es : List DictEntry} {ks : List (Str × V)}, Paired (fun (e : DictEntry) (p : Str × V) => (∃ t, e.key = .str p.1 t) ∧ e.hash = PyData.keyHash w.params p.1 ∧ RelV p.2 e.val) es ks →
    es.any (·.refKey) = false ∧ (match ks.find? (fun p => p.1 == z) with
      | some p => ∃ e, es.find? (·.key.isStr z) = some e ∧ RelV p.2 e.val
      | none => es.find? (·.key.isStr z) = none)
  | _, _, .nil => ⟨rfl, rfl⟩
  | _, _, .cons (a := e) (b := p) ⟨⟨t, h1⟩, h2, h3⟩ r => by
    obtain ⟨i1, i2⟩ := dlit_find (z := z) r
    have hk : e.key.isStr z = (p.1 == z) := by
      rw [h1]
      rfl
    refine ⟨?_, ?_⟩
    · rw [List.any_cons, i1]
      have : e.refKey = false := by
        unfold DictEntry.refKey
        rw [h1]
      rw [this]
      rfl
    · rw [List.find?_cons, List.find?_cons, hk]
      cases (p.1 == z) with
      | true => exact ⟨e, rfl, h3⟩
      | false => exact i2
def dGet (ks : List (Str × V)) (z : Str) : Option V := (ks.find? (fun p => p.1 == z)).map (·.2)
theorem DLit.get {K : PySem.W.Frag} {w : World} {a : Addr} {ks : List (Str × V)} (h : DLit K w a ks) {z : Str} {v : V} (e : dGet ks z = some v) : KDct K w a z v := by
  obtain ⟨es, n, h1, h2, h3⟩ := h
  obtain ⟨h4, h5⟩ := dlit_find (z := z) h3
  unfold dGet at e
  cases hf : ks.find? (fun p => p.1 == z) with
  | none =>
    rw [hf] at e
    cases e
  | some p =>
    rw [hf] at e h5
    cases e
    obtain ⟨en, h6, h7⟩ := h5
    refine ⟨es, n, en.val, h1, dlit_keys h3, ?_, h7⟩
    unfold PySem.W.nsIn
    rw [h1]
    show (match es.toList.find? (·.key.isStr z) with
      | some e => some (some e.val)
      | none => if es.toList.any (·.refKey) then none else some none) = _
    rw [h6]
theorem DLit.miss {K : PySem.W.Frag} {w : World} {a : Addr} {ks : List (Str × V)} (h : DLit K w a ks) {z : Str} (e : dGet ks z = none) : KMiss K w a z := by
  obtain ⟨es, n, h1, h2, h3⟩ := h
  obtain ⟨h4, h5⟩ := dlit_find (z := z) h3
  unfold dGet at e
  cases hf : ks.find? (fun p => p.1 == z) with
  | some p =>
    rw [hf] at e
    cases e
  | none =>
    rw [hf] at h5
    have h5 : es.toList.find? (·.key.isStr z) = none := h5
    refine ⟨es, n, h1, dlit_keys h3, h2, ?_⟩
    unfold PySem.W.nsIn
    rw [h1]
    show (match es.toList.find? (·.key.isStr z) with
      | some e => some (some e.val)
      | none => if es.toList.any (·.refKey) then none else some none) = _
    rw [h5]
    show (if es.toList.any (·.refKey) = true then none else some none) = _
    rw [h4]
    rfl
/-- a value of the top as data: an int, a text, an address -/
def litD : V → Option D
  | .non => some .non
  | .bl b => some (.bl b)
  | .int i => some (.int i)
  | .str x => some (.str x)
  | .ref a => some (.ref a)
  | .ty n => some (.ty n)
  | _ => none
theorem litD_rep {K : PySem.W.Frag} {H : Hp} {R : Addr → Prop} : ∀ {v : V} {d : D}, litD v = some d → Rep K H R d v
  | .non, _, e => by cases e; rfl
  | .bl _, _, e => by cases e; rfl
  | .int _, _, e => by cases e; rfl
  | .str _, _, e => by cases e; rfl
  | .ref _, _, e => by cases e; rfl
  | .ty _, _, e => by cases e; rfl
  | .byt _, _, e => by cases e
  | .flt _, _, e => by cases e
section
variable {K : PySem.W.Frag} {Δ : Sl} {G L : List M} {E : EndsD} {ta tb : TE}
/-- try: return C[x] except KeyError: suite -/
theorem st_tryKey {w : World} {c : Value} {ts : Addr → Value → Option Addr → TS} {Wo : WX} (h : EvC K ta Δ G L fun x G1 L1 => EvC K tb Δ G1 L1 fun y G2 L2 => ∃ p z ks, x = .d (.ref p) ∧ y = .d (.str z) ∧ DLit K w p ks ∧ PySem.W.exmOne K (.type "KeyError") c = some true ∧
    (match dGet ks z with
      | some v => ∃ d, litD v = some d ∧ E.rt (.d d) G2 L2
      | none => ∀ a d, StC K (ts a (.type "KeyError") d) Δ G2 L2 E)) : StC K (fun D σ H => tRet (tIxDX K w (wOnly K c ts Wo D) ta tb) D σ H) Δ G L E := fun wd ls σ H cx D s => h wd ls σ H cx _ fun v x H2 G2 L2 c2 e2 r2 k => k wd ls σ H2 c2 _ fun v3 y H3 G3 L3 c3 e3 r3 ⟨p, z, ks, ex, ey, hd, hx, kk⟩ => by
  subst ex
  subst ey
  cases r3
  have r2 : v = .ref p := r2
  refine ⟨p, z, r2, rfl, ?_⟩
  cases hg : dGet ks z with
  | some v =>
    rw [hg] at kk
    obtain ⟨d, hl, k⟩ := kk
    exact .inl ⟨v, hd.get hg, s.rt ls σ H3 Δ G3 L3 v (.d d) c3 (litD_rep hl) k⟩
  | none =>
    rw [hg] at kk
    exact .inr ⟨hd.miss hg, fun d => ⟨true, hx, fun _ a ha => kk a d wd ls σ H3 c3 D (s.on ((e2.trans e3).grow cx.reg)), fun q => by cases q⟩⟩
end
end DL
namespace DL
open PySem PySem.Spec PyProof.Rows L2
section
variable {K : PySem.W.Frag} {Δ : Sl} {G L : List M} {Qd : Po}
/-! forgetting what a text is, keeping its length -/
theorem u_add_sF {i j : Str} (hl : i.length + j.length ≤ 100000) (k : ∀ z : Str, z.length = i.length + j.length → Qd (.d (.str z)) G L) : OpC K (uAdd K) (.d (.str i)) (.d (.str j)) Δ G L Qd :=
  u_add_s (le_line hl) (k _ (PySem.Str.length_append i j))
theorem sl_sF {z : Str} {lo hi : Option Int} (hl : z.length ≤ 100000) (k : ∀ y : Str, y.length ≤ z.length → Qd (.d (.str y)) G L) : SlC K (uSl K) (.d (.str z)) lo hi Δ G L Qd :=
  sl_s (le_line hl) (k _ (cutS_length z lo hi))
theorem mt_upperF {z : Str} (hl : z.length ≤ 100000) (k : ∀ y : Str, y.length ≤ 3 * z.length → Qd (.d (.str y)) G L) : MtC K (fun x xs H Q => ∃ a, x = .str a ∧ xs = [] ∧ a.length ≤ 5592405 ∧ Q (.str (Txt.upper a)) H) (.d (.str z)) [] Δ G L Qd :=
  mt_upper_d (by omega) (k _ (PyProof.Rows.len_upper z))
theorem ap_lenSF {z : Str} (hl : z.length ≤ 100000) (k : Qd (.d (.int (z.length : Nat))) G L) : ApC K (uLen K) [.d (.str z)] Δ G L Qd := ap_lenS (le_line hl) k
/-- an item somewhere -/
theorem u_ix_all {x : S} {i : Int} (h : ∃ ds, seqG G L x = some ds ∧ 0 ≤ i ∧ i < (ds.length : Nat) ∧ ∀ d ∈ ds, Qd (.d d) G L) : OpC K (rIx K) x (.d (.int i)) Δ G L Qd := by
  obtain ⟨ds, hx, h0, h1, k⟩ := h
  obtain ⟨d, hd, e⟩ := atI_to h0 h1
  exact u_ix_g hx e (k d hd)
theorem st_is {E E' : EndsD} {t : TS} (h : StC K t Δ G L E) (e : E = E') : StC K t Δ G L E' := e ▸ h
end
end DL
namespace DL
open PySem PySem.Spec PyProof.Rows L2
section
variable {K : PySem.W.Frag} {Δ : Sl} {G L : List M} {Qd : Po} {Qn : PoN}
theorem u_add_lX {x y : S} (h : ∃ xs, lsG G L x = some xs ∧ ∃ ys, lsG G L y = some ys ∧ xs.length + ys.length ≤ sizeLine ∧ Qn (.pl (xs ++ ys)) G L) : OpN K (uAdd K) x y Δ G L Qn :=
  let ⟨_, hx, _, hy, hl, k⟩ := h; u_add_l hx hy hl k
theorem u_mul_lX {x : S} {j : Int} (h : ∃ xs, lsG G L x = some xs ∧ (0 ≤ j ∧ j < 2 ^ 62 ∧ xs.length * j.toNat ≤ sizeLine) ∧ Qn (.pl (List.replicate j.toNat xs).flatten) G L) : OpN K (uMul K) x (.d (.int j)) Δ G L Qn :=
  let ⟨_, hx, ⟨h0, h1, hl⟩, k⟩ := h; u_mul_l hx (by omega) (by omega) hl k
end
end DL
namespace DL
open PySem PySem.Spec PyProof.Rows L2
section
variable {K : PySem.W.Frag} {Δ : Sl} {G L : List M} {Qd : Po} {Qn : PoN}
theorem u_add_sR (m : Nat) {i j : Str} (hm : j.length = m) (hl : i.length + m ≤ 100000) (k : ∀ z : Str, z.length = i.length + m → Qd (.d (.str z)) G L) : OpC K (uAdd K) (.d (.str i)) (.d (.str j)) Δ G L Qd :=
  u_add_sF (by omega) fun z h => k z (by omega)
theorem u_add_sLm (m : Nat) {i j : Str} (hm : i.length = m) (hl : m + j.length ≤ 100000) (k : ∀ z : Str, z.length = m + j.length → Qd (.d (.str z)) G L) : OpC K (uAdd K) (.d (.str i)) (.d (.str j)) Δ G L Qd :=
  u_add_sF (by omega) fun z h => k z (by omega)
end
end DL
namespace DL
open PySem PySem.Spec PyProof.Rows L2
section
variable {K : PySem.W.Frag} {Δ : Sl} {G L : List M} {Qd : Po} {Qn : PoN}
theorem mt_popAtX {k : Nat} {i : Int} (h : ∃ ds, L[k]? = some (.pl ds) ∧ 0 ≤ i ∧ i < (ds.length : Nat) ∧ i < 2 ^ 62 ∧ ∀ j x, j < ds.length → ds[j]? = some x → Qd (.d x) G (L.set k (.pl (ds.eraseIdx j)))) : MtC K rPopAt (.l k) [.d (.int i)] Δ G L Qd := by
  obtain ⟨ds, hk, h0, h1, h2, q⟩ := h
  have hj : i.toNat < ds.length := by omega
  exact mt_popAt_l hk h0 h2 rfl (List.getElem?_eq_getElem hj) (q _ _ hj (List.getElem?_eq_getElem hj))
theorem mt_app_lX {k : Nat} {x : D} (h : ∃ ds, L[k]? = some (.pl ds) ∧ ds.length < sizeLine ∧ Qd (.d .non) G (L.set k (.pl (ds ++ [x])))) : MtC K rAppend (.l k) [.d x] Δ G L Qd := let ⟨_, h, hl, q⟩ := h; mt_app_l h hl q
theorem mt_app_gX {k : Nat} {x : D} (h : ∃ ds, G[k]? = some (.pl ds) ∧ ds.length < sizeLine ∧ Qd (.d .non) (G.set k (.pl (ds ++ [x]))) L) : MtC K rAppend (.g k) [.d x] Δ G L Qd := let ⟨_, h, hl, q⟩ := h; mt_app_g h hl q
end
end DL
namespace DL
theorem erase_map {α β : Type} (f : α → β) (xs : List α) (j : Nat) : (xs.map f).eraseIdx j = (xs.eraseIdx j).map f := by
  rw [List.eraseIdx_eq_take_drop_succ, List.eraseIdx_eq_take_drop_succ, List.map_append, List.map_take, List.map_drop]
theorem erase_len {α : Type} {xs : List α} {j : Nat} (h : j < xs.length) : (xs.eraseIdx j).length + 1 = xs.length := by
  rw [List.length_eraseIdx, if_pos h]
  omega
theorem erase_mem {α : Type} {xs : List α} {j : Nat} {x : α} (h : x ∈ xs.eraseIdx j) : x ∈ xs := List.mem_of_mem_eraseIdx h
end DL
namespace DL
open PySem PySem.Spec PyProof.Rows L2
section
variable {K : PySem.W.Frag} {Δ : Sl} {G L : List M} {Qd : Po} {Qn : PoN}
theorem u_in_iX {i : Int} {y : S} (h : ∃ ns : List Int, seqG G L y = some (ns.map D.int) ∧ Qd (.d (.bl (decide (i ∈ ns)))) G L) : OpC K (uIn K false) (.d (.int i)) y Δ G L Qd := let ⟨_, hy, k⟩ := h; u_in_i hy k
theorem u_in_sX {i : Str} {y : S} (h : ∃ ns : List Str, seqG G L y = some (ns.map D.str) ∧ Qd (.d (.bl (decide (i ∈ ns)))) G L) : OpC K (uIn K false) (.d (.str i)) y Δ G L Qd := let ⟨_, hy, k⟩ := h; u_in_s hy k
theorem u_nin_iX {i : Int} {y : S} (h : ∃ ns : List Int, seqG G L y = some (ns.map D.int) ∧ Qd (.d (.bl (!decide (i ∈ ns)))) G L) : OpC K (uIn K true) (.d (.int i)) y Δ G L Qd := let ⟨_, hy, k⟩ := h; u_in_i hy k
theorem u_nin_sX {i : Str} {y : S} (h : ∃ ns : List Str, seqG G L y = some (ns.map D.str) ∧ Qd (.d (.bl (!decide (i ∈ ns)))) G L) : OpC K (uIn K true) (.d (.str i)) y Δ G L Qd := let ⟨_, hy, k⟩ := h; u_in_s hy k
/-- a list that can be compared -/
def Eqb (ds : List D) : Prop := ∃ ps, pyL ds = some ps ∧ SeqAt.shaped (.list ps) = true
theorem eqv_nil {ds : List D} {ps : List PyData} (h : pyL ds = some ps) : PyData.eqv (.list ps) (.list []) = ds.isEmpty := by
  cases ds with
  | nil =>
    cases h
    rfl
  | cons d ds =>
    unfold pyL at h
    split at h
    · cases h
      rfl
    · cases h
theorem u_ne_nilG {x y : S} (h : lsG G L y = some [] ∧ ∃ ds, lsG G L x = some ds ∧ Eqb ds ∧ Qd (.d (.bl (!ds.isEmpty))) G L) : OpC K (uNe K) x y Δ G L Qd := by
  obtain ⟨hy, ds, hx, ⟨ps, hp, hs⟩, k⟩ := h
  refine u_ne_d (lsG_val hx) (lsG_val hy) (by unfold D.py; rw [hp]) (by rfl) hs shaped_nil ?_
  rw [eqv_nil hp]
  exact k
theorem u_eq_nilG {x y : S} (h : lsG G L y = some [] ∧ ∃ ds, lsG G L x = some ds ∧ Eqb ds ∧ Qd (.d (.bl ds.isEmpty)) G L) : OpC K (uEq K) x y Δ G L Qd := by
  obtain ⟨hy, ds, hx, ⟨ps, hp, hs⟩, k⟩ := h
  refine u_eq_d (lsG_val hx) (lsG_val hy) (by unfold D.py; rw [hp]) (by rfl) hs shaped_nil ?_
  rw [eqv_nil hp]
  exact k
theorem eqb_strs {ns : List Str} (h : ∀ s ∈ ns, PyData.strOk s = true) : Eqb (ns.map D.str) := by
  refine ⟨ns.map PyData.str, py_strs ns, ?_⟩
  have hl : PyData.canLayAll0 (ns.map PyData.str) = true := by
    induction ns with
    | nil => rfl
    | cons a r ih =>
      show (PyData.canLay0 (.str a) && PyData.canLayAll0 (r.map PyData.str)) = true
      rw [ih fun s hs => h s (List.mem_cons_of_mem _ hs), Bool.and_true]
      exact h a List.mem_cons_self
  have hd : PyData.depthAll (ns.map PyData.str) ≤ 1 := by
    clear h hl
    induction ns with
    | nil => simp [PyData.depthAll]
    | cons a r ih =>
      simp only [List.map_cons, PyData.depthAll, PyData.depth]
      omega
  unfold SeqAt.shaped
  rw [Bool.and_eq_true]
  refine ⟨hl, decide_eq_true ?_⟩
  simp only [PyData.depth]
  omega
end
end DL

namespace DL
open PySem PySem.Spec PyProof.Rows L2
/-! text * int; repr; str -/
def rTxMul : R2 := fun x y H Q => ∃ (z : Str) (k : Int), x = .str z ∧ y = .int k ∧ 0 ≤ k ∧ k ≤ 100000 ∧ z.length ≤ 100000 ∧ z.length * k.toNat ≤ 1000000 ∧ ∀ o : Str, o.length = z.length * k.toNat → Q (.str o) H
theorem txmul_len (z : Str) (k : Nat) : (Str.mk ((List.replicate k z.cps).foldl (· ++ ·) #[])).length = z.length * k := by
  show ((List.replicate k z.cps).foldl (· ++ ·) #[]).size = z.cps.size * k
  rw [size_reps, Nat.mul_comm]
  simp
theorem op_txmul {X : Cx} : OpR X (binaryOp .Mult) rTxMul := by
  intro pins s σ H x y v u Q I rx ry h
  obtain ⟨z, k, rfl, rfl, k0, k1, z1, zl, q⟩ := h
  obtain ⟨t, rfl⟩ := rx
  obtain ⟨t', rfl⟩ := ry
  refine SB.mul ⟨?_, fun h1 _ => ?_, fun _ _ => ?_⟩ fun t' k' => ⟨.str _, H, I.tok _, ⟨_, rfl⟩, q _ ?_⟩
  · have a : ¬ k < -(2 ^ 63) := by omega
    have b : ¬ k ≥ 2 ^ 63 := by omega
    rw [decide_eq_false a, decide_eq_false b]
    rfl
  · have e : (100000 : Int) ≤ (2 ^ 63 - 1) / k := (Int.le_ediv_iff_mul_le (by omega)).mpr (by
      have : 100000 * k ≤ 100000 * 100000 := Int.mul_le_mul_of_nonneg_left k1 (by decide)
      omega)
    omega
  · show decide (z.length * k.toNat > sizeLine) = false
    rw [sizeLine_eq]
    exact decide_eq_false (by omega)
  · unfold Txt.mul
    by_cases h1 : k < 1
    · have e : k = 0 := by omega
      subst e
      rfl
    · rw [if_neg h1]
      by_cases h2 : (k == 1 || z.length == 0) = true
      · rw [if_pos h2]
        simp only [Bool.or_eq_true, beq_iff_eq] at h2
        rcases h2 with h2 | h2
        · subst h2
          exact (Nat.mul_one _).symm
        · rw [h2, Nat.zero_mul]
      · rw [if_neg h2]
        exact txmul_len z k.toNat
section
variable {K : PySem.W.Frag} {Δ : Sl} {G L : List M} {Qd : Po} {Qn : PoN}
theorem u_txmul {z : Str} {k : Int} (h1 : 0 ≤ k ∧ k ≤ 100000 ∧ z.length ≤ 100000 ∧ z.length * k.toNat ≤ 1000000) (q : ∀ o : Str, o.length = z.length * k.toNat → Qd (.d (.str o)) G L) : OpC K rTxMul (.d (.str z)) (.d (.int k)) Δ G L Qd := fun w ls σ H vx vy c rx ry Q qq => by
  cases rx
  cases ry
  exact ⟨z, k, rfl, rfl, h1.1, h1.2.1, h1.2.2.1, h1.2.2.2, fun o ho => qq.go c Ext.refl (s := .d (.str o)) rfl (q o ho)⟩
/-- what repr of a small value is -/
inductive RepOf : V → Str → Prop
  | int (i : Int) (h : i.natAbs.log2 < 1920) : RepOf (.int i) (Str.ofString (toString i))
  | bl (b : Bool) : RepOf (.bl b) (if b then "True" else "False")
  | non : RepOf .non "None"
  | str (z : Str) (h : (reprText z).length ≤ sizeLine) : RepOf (.str z) (reprText z)
def uRepr : List V → Hp → VK → Prop := fun xs H Q => ∃ x t, xs = [x] ∧ RepOf x t ∧ Q (.str t) H
theorem uc_repr {X : Cx} : CallR X (.builtin "repr") uRepr := by
  intro pins s σ H xs us Q I r h
  obtain ⟨x, z, rfl, hx, q⟩ := h
  obtain ⟨u, rfl, rx⟩ := vals1 r
  cases hx with
  | int i hz =>
    obtain ⟨t, rfl⟩ := rx
    exact PySem.P.repr_of_int hz ⟨.str _, H, I.tok _, ⟨_, rfl⟩, q⟩
  | bl b =>
    cases rx
    exact PySem.P.repr_of_bool ⟨.str _, H, I.tok _, ⟨_, rfl⟩, q⟩
  | non =>
    cases rx
    exact PySem.P.repr_of_none ⟨.str _, H, I.tok _, ⟨_, rfl⟩, q⟩
  | str z hz =>
    obtain ⟨t, rfl⟩ := rx
    exact PySem.P.repr_of_str ⟨.str _, H, I.tok _, ⟨_, rfl⟩, q⟩ hz
/-- the same at the level of data -/
def reprD : D → Option Str
  | .non => some "None"
  | .bl b => some (if b then "True" else "False")
  | .int i => if i.natAbs.log2 < 1920 then some (Str.ofString (toString i)) else none
  | .str z => if (reprText z).length ≤ sizeLine then some (reprText z) else none
  | _ => none
theorem ap_repr {d : D} {t : Str} (h : reprD d = some t) (k : Qd (.d (.str t)) G L) : ApC K uRepr [.d d] Δ G L Qd := fun w ls σ H vs c rs Q q => by
  obtain ⟨v, rfl, r⟩ := pair1 rs
  have r : Rep K H (Rg w ls) d v := r
  refine ⟨v, t, rfl, ?_, q.go c Ext.refl (s := .d (.str t)) rfl k⟩
  cases d with
  | non =>
    cases r
    cases h
    exact .non
  | bl b =>
    cases r
    cases h
    exact .bl b
  | int i =>
    cases r
    have h : (if i.natAbs.log2 < 1920 then some (Str.ofString (toString i)) else none) = some t := h
    by_cases hz : i.natAbs.log2 < 1920
    · rw [if_pos hz] at h
      cases h
      exact .int i hz
    · rw [if_neg hz] at h
      cases h
  | str z =>
    cases r
    have h : (if (reprText z).length ≤ sizeLine then some (reprText z) else none) = some t := h
    by_cases hz : (reprText z).length ≤ sizeLine
    · rw [if_pos hz] at h
      cases h
      exact .str z hz
    · rw [if_neg hz] at h
      cases h
  | _ => cases h
end
end DL

namespace DL
open PySem PySem.Spec PyProof.Rows L2
/-! isinstance of data -/
def tyD : D → Option String
  | .non => some "NoneType"
  | .bl _ => some "bool"
  | .int _ => some "int"
  | .str _ => some "str"
  | .tup _ => some "tuple"
  | .lst _ => some "list"
  | .dct _ => some "dict"
  | _ => none
theorem tyx_sqT {K : PySem.W.Frag} {H : Hp} {a : Addr} {xs : List V} (h : SqT K H a xs) : TyX K H (.ref a) (.type "tuple") := by
  rcases h with (h | ⟨o, h⟩) | ⟨o, its, n, hk, hc, _⟩
  · exact .base (.tup h)
  · exact .fTuple h
  · exact .kTuple hk hc
theorem rep_ty {K : PySem.W.Frag} {H : Hp} {R : Addr → Prop} : ∀ {d : D} {v : V} {T : String}, tyD d = some T → Rep K H R d v → TyX K H v (.type T)
  | .non, _, _, e, r => by
    cases e
    cases r
    exact .base .non
  | .bl b, _, _, e, r => by
    cases e
    cases r
    exact .base (.bl b)
  | .int i, _, _, e, r => by
    cases e
    cases r
    exact .base (.int i)
  | .str x, _, _, e, r => by
    cases e
    cases r
    exact .base (.str x)
  | .tup ds, _, _, e, r => by
    cases e
    obtain ⟨a, xs, rfl, h, _⟩ := r
    exact tyx_sqT h.sq
  | .lst ds, _, _, e, r => by
    cases e
    obtain ⟨a, xs, rfl, ⟨h, _⟩, _⟩ := r
    exact .base (.lst h)
  | .dct ds, _, _, e, r => by
    cases e
    obtain ⟨a, xs, rfl, ⟨h, _⟩, _⟩ := r
    exact .base (.dK h)
  | .ty _, _, _, e, _ => by cases e
  | .ref _, _, _, e, _ => by cases e
  | .scr _, _, _, e, _ => by cases e
  | .ins _ _, _, _, e, _ => by cases e
  | .exn _ _ _, _, _, e, _ => by cases e
section
variable {K : PySem.W.Frag} {Δ : Sl} {G L : List M} {Qd : Po} {Qn : PoN} {te : TE} {E : EndsD}
theorem ap_isi {d : D} {T U : String} {b : Bool} (h : tyD d = some T) (hb : kitB T U = some b) (k : Qd (.d (.bl b)) G L) : ApC K (rIsi K) [.d d, .d (.ty U)] Δ G L Qd := fun w ls σ H vs c rs Q q => by
  obtain ⟨v, u, rfl, r1, r2⟩ := pair2 rs
  have r2 : u = .ty U := r2
  subst r2
  exact ⟨v, _, _, _, b, rfl, .ty U, rep_ty h r1, kit_ty hb, q.go c Ext.refl (s := .d (.bl b)) rfl k⟩
/-! any of ints, all of truths -/
def rAnyU (K : PySem.W.Frag) : List V → Hp → VK → Prop := fun vs H Q => ∃ (a : Addr) (ns : List Int), vs = [V.ref a] ∧ SqL K H a (ns.map V.int) ∧ Q (.bl (ns.any fun i => i != 0)) H
theorem truth_ints {prog : Program} {w : World} {A : Around} {ns : List Int} {its : List Value} (e : IntsAre its ns) : TruthOf prog w A (fun i v => its.toArray[i]? = some v) (fun i => (ns.map fun z => z != 0).getD i false) := fun i v s Q E hv hq => by
  have hv' : its[i]? = some v := by simpa using hv
  have key : ∀ {its : List Value} {ns : List Int} (i : Nat), IntsAre its ns → its[i]? = some v → ∃ z t, v = .int z t ∧ ns[i]? = some z := by
    intro its ns i e
    induction e generalizing i with
    | nil => intro h; cases h
    | cons h t r ih =>
      intro hv
      cases i with
      | zero =>
        cases hv
        exact ⟨_, _, rfl, rfl⟩
      | succ j => exact ih j hv
  obtain ⟨z, t, rfl, hz⟩ := key i e hv'
  have hg : (ns.map fun z => z != 0).getD i false = (z != 0) := by rw [List.getD_eq_getElem?_getD, List.getElem?_map, hz] <;> rfl
  have hq' : Q ((ns.map fun z => z != 0).getD i false) s := hq
  rw [hg] at hq'
  exact PySem.P.truthy_int hq'
theorem cr_anyU {X : Cx} (hc : X.calm = true) : CallR X (.builtin "any") (rAnyU X.K) := by
  intro pins s σ H vs us Q I r h
  obtain ⟨a, ns, rfl, hs, q⟩ := h
  obtain ⟨its, rv, hl, _⟩ := I.list hs
  rw [Vals.ref1 r]
  have hb : IntsAre its ns := intsAre_of rv
  have hlen := rv.length
  refine call_any_walk (iter_any hl.isList fun s3 e3 st hne => ?_)
  subst e3
  refine ⟨_, _, _, _, _, _, _, rfl, Walks.list (A := X.A.in1) (I.ok.hd hc) _ a hne its.toArray, st, truth_ints hb, fun h' tk hk => ?_⟩
  refine ⟨.bl _, H, I.kept fun b o eo => hk b o (fun hm => ?_) (Heap.get?_push_of_some _ eo), ?_, q⟩
  · rcases List.mem_cons.mp hm with e1 | hm
    · exact absurd (e1 ▸ Heap.lt_size eo) (Nat.lt_irrefl _)
    · cases hm
  · show Value.bool _ = Value.bool _
    have e := any_range (ns.map fun z => z != 0)
    rw [List.length_map, List.any_map] at e
    rw [List.length_map] at hlen
    rw [List.size_toArray, ← hlen, e]
    rfl
def uAny (K : PySem.W.Frag) : List V → Hp → VK → Prop := fun vs H Q => rAny K vs H Q ∨ rAnyU K vs H Q
theorem uc_any {X : Cx} (hc : X.calm = true) : CallR X (.builtin "any") (uAny X.K) := CallR.or (r := rAny X.K) (cr_any hc) (cr_anyU hc)
theorem ap_anyI {s : S} {ns : List Int} (h : lsG G L s = some (ns.map D.int)) (k : Qd (.d (.bl (ns.any fun i => i != 0))) G L) : ApC K (uAny K) [s] Δ G L Qd := fun w ls σ H vs c rs Q q => by
  obtain ⟨v, rfl, r⟩ := pair1 rs
  obtain ⟨a, xs, rfl, h1, r1⟩ := lsG_get c r h
  have e := RepL.intsV r1
  subst e
  exact .inr ⟨a, ns, rfl, .inl (.inl h1), q.go c Ext.refl (s := .d (.bl (ns.any fun i => i != 0))) rfl k⟩
theorem repL_bls {H : Hp} {R : Addr → Prop} : ∀ {bs : List Bool} {vs : List V}, RepL K H R (bs.map D.bl) vs → vs = bs.map V.bl
  | [], _, h => h
  | b :: bs, _, ⟨y, ys, e, h, r⟩ => by
    cases h
    rw [e, repL_bls r]
    rfl
theorem ap_allB {s : S} {bs : List Bool} (h : lsG G L s = some (bs.map D.bl)) (k : Qd (.d (.bl (bs.all id))) G L) : ApC K (rAll K) [s] Δ G L Qd := fun w ls σ H vs c rs Q q => by
  obtain ⟨v, rfl, r⟩ := pair1 rs
  obtain ⟨a, xs, rfl, h1, r1⟩ := lsG_get c r h
  have e := repL_bls r1
  subst e
  exact ⟨a, bs, rfl, .inl (.inl h1), q.go c Ext.refl (s := .d (.bl (bs.all id))) rfl k⟩
/-! max and min of two ints; truths compared by `is` -/
def rMax2 : List V → Hp → VK → Prop := fun xs H Q => ∃ i j, xs = [.int i, .int j] ∧ Q (.int (if j > i then j else i)) H
def rMin2 : List V → Hp → VK → Prop := fun xs H Q => ∃ i j, xs = [.int i, .int j] ∧ Q (.int (if j < i then j else i)) H
theorem uc_max2 {X : Cx} (hc : X.calm = true) : CallR X (.builtin "max") rMax2 := call_max2 hc
theorem uc_min2 {X : Cx} (hc : X.calm = true) : CallR X (.builtin "min") rMin2 := call_min2 hc
theorem ap_max2 {i j : Int} (k : Qd (.d (.int (if j > i then j else i))) G L) : ApC K rMax2 [.d (.int i), .d (.int j)] Δ G L Qd := fun w ls σ H vs c rs Q q => by
  obtain ⟨v, u, rfl, r1, r2⟩ := pair2 rs
  cases r1
  cases r2
  exact ⟨i, j, rfl, q.go c Ext.refl (s := .d (.int (if j > i then j else i))) rfl k⟩
theorem ap_min2 {i j : Int} (k : Qd (.d (.int (if j < i then j else i))) G L) : ApC K rMin2 [.d (.int i), .d (.int j)] Δ G L Qd := fun w ls σ H vs c rs Q q => by
  obtain ⟨v, u, rfl, r1, r2⟩ := pair2 rs
  cases r1
  cases r2
  exact ⟨i, j, rfl, q.go c Ext.refl (s := .d (.int (if j < i then j else i))) rfl k⟩
theorem u_isB {a b : Bool} (k : Qd (.d (.bl (decide (a = b)))) G L) : OpC K rIsB (.d (.bl a)) (.d (.bl b)) Δ G L Qd := fun w ls σ H vx vy c rx ry Q q => by
  cases rx
  cases ry
  exact ⟨a, b, rfl, rfl, q.go c Ext.refl (s := .d (.bl (decide (a = b)))) rfl k⟩
theorem u_notB {a b : Bool} (k : Qd (.d (.bl (!decide (a = b)))) G L) : OpC K rNotB (.d (.bl a)) (.d (.bl b)) Δ G L Qd := fun w ls σ H vx vy c rx ry Q q => by
  cases rx
  cases ry
  exact ⟨a, b, rfl, rfl, q.go c Ext.refl (s := .d (.bl (!decide (a = b)))) rfl k⟩
/-! truths compared by == -/
theorem u_eq_b {i j : Bool} (k : Qd (.d (.bl (decide (i = j)))) G L) : OpC K (uEq K) (.d (.bl i)) (.d (.bl j)) Δ G L Qd := fun w ls σ H vx vy c rx ry Q q => by
  cases rx
  cases ry
  refine .inl ⟨rfl, ?_⟩
  have e : decide (V.bl i = V.bl j) = decide (i = j) := by simp
  rw [e]
  exact q.go c Ext.refl (s := .d (.bl (decide (i = j)))) rfl k
theorem u_ne_b {i j : Bool} (k : Qd (.d (.bl (!decide (i = j)))) G L) : OpC K (uNe K) (.d (.bl i)) (.d (.bl j)) Δ G L Qd := fun w ls σ H vx vy c rx ry Q q => by
  cases rx
  cases ry
  refine .inl ⟨rfl, ?_⟩
  have e : decide (V.bl i = V.bl j) = decide (i = j) := by simp
  rw [e]
  exact q.go c Ext.refl (s := .d (.bl (!decide (i = j)))) rfl k
/-! lists of ints compared -/
theorem eqva_ints : ∀ xs ys : List Int, PyData.eqvAll (xs.map PyData.int) (ys.map PyData.int) = decide (xs = ys)
  | [], [] => by simp [PyData.eqvAll]
  | [], _ :: _ => by simp [PyData.eqvAll]
  | _ :: _, [] => by simp [PyData.eqvAll]
  | x :: xs, y :: ys => by
    rw [List.map_cons, List.map_cons, PyData.eqvAll, eqva_ints xs ys]
    have : PyData.eqv (.int x) (.int y) = decide (x = y) := by
      simp [PyData.eqv]
      try rfl
    rw [this]
    simp
theorem eqv_ints (xs ys : List Int) : PyData.eqv (.list (xs.map PyData.int)) (.list (ys.map PyData.int)) = decide (xs = ys) := by
  rw [PyData.eqv]
  exact eqva_ints xs ys
theorem py_lst_ints (xs : List Int) : (D.lst (xs.map D.int)).py = some (.list (xs.map PyData.int)) := by
  unfold D.py
  rw [py_ints]
theorem u_eq_is {x y : S} {xs ys : List Int} (hx : lsG G L x = some (xs.map D.int)) (hy : lsG G L y = some (ys.map D.int)) (k : Qd (.d (.bl (decide (xs = ys)))) G L) : OpC K (uEq K) x y Δ G L Qd := by
  refine u_eq_d (lsG_val hx) (lsG_val hy) (py_lst_ints xs) (py_lst_ints ys) (shaped_ints xs) (shaped_ints ys) ?_
  rw [eqv_ints]
  exact k
end
end DL

namespace DL
open PySem PySem.Spec PyProof.Rows L2
/-! [::-1] of lists and of tuples -/
section
variable {prog : Program} {w : World} {A : Around} {E : Value → Shared → Prop} {s : Shared}
theorem adjust_rev (n : Nat) : Builtin.Slice.sliceAdjust none none (-1) (n : Int) = ((n : Int) - 1, -1) := rfl
theorem places_rev (n : Nat) : Builtin.Slice.slicePlaces ((n : Int) - 1) (-1) (-1) = n := by
  unfold Builtin.Slice.slicePlaces
  have h1 : ¬ ((-1 : Int) > 0) := by decide
  simp only [h1, if_false, show (- -1 : Int) = 1 by decide, Int.ediv_one]
  split <;> omega
theorem applied_rev {sl : Addr} {vs : Value} {n : Nat} {Q : Int × Int × Nat → Shared → Prop} (hs : s.heap.IsSliceOf sl .none .none vs) (ps : IsPart vs (some (-1)))
    (h : Q ((n : Int) - 1, -1, n) s) : wpAny (model prog w) A (Builtin.Slice.sliceApplied (.ref sl) (pure (n : Int))) Q E s := by
  obtain ⟨os, ho, hc, hd⟩ := id hs
  unfold Builtin.Slice.sliceApplied Builtin.Slice.sliceFields
  refine wpAny_bind (wpAny_bind (wpAny_field ho hd (x := .none) rfl (wpAny_bind (wpAny_field ho hd (x := .none) rfl (wpAny_bind (wpAny_field ho hd (x := vs) rfl (wpAny_pure ?_)))))))
  refine wpAny_bind (HT.slicePart_ ps ?_)
  show wpAny _ _ (if ((-1 : Int) == 0) = true then _ else _) _ _ s
  rw [if_neg (by decide)]
  refine wpAny_bind (slicePart_none (wpAny_bind (slicePart_none (wpAny_bind (wpAny_pure ?_)))))
  show wpAny _ _ (match Builtin.Slice.sliceAdjust none none (-1) (n : Int) with | (lo, _) => pure (lo, (-1 : Int), Builtin.Slice.slicePlaces lo (-1) (-1))) _ _ s
  rw [adjust_rev]
  show wpAny _ _ (pure ((n : Int) - 1, (-1 : Int), Builtin.Slice.slicePlaces ((n : Int) - 1) (-1) (-1))) _ _ s
  rw [places_rev]
  exact wpAny_pure h
theorem fm_congr {α β : Type} {f g : α → Option β} : ∀ {l : List α}, (∀ x ∈ l, f x = g x) → l.filterMap f = l.filterMap g
  | [], _ => rfl
  | a :: l, h => by
    rw [List.filterMap_cons, List.filterMap_cons, h a List.mem_cons_self, fm_congr fun x hx => h x (List.mem_cons_of_mem _ hx)]
theorem pick_rev (xs : Array Value) : ((List.range xs.size).filterMap fun (m : Nat) => xs[(((xs.size : Int) - 1) + (m : Int) * (-1)).toNat]?).toArray = xs.toList.reverse.toArray := by
  have e : (List.range xs.size).filterMap (fun (m : Nat) => xs[(((xs.size : Int) - 1) + (m : Int) * (-1)).toNat]?) = ((List.range xs.size).map (fun k => xs.size - 1 - k)).filterMap (xs[·]?) := by
    rw [List.filterMap_map]
    refine fm_congr fun m hm => ?_
    have := List.mem_range.mp hm
    show _ = xs[xs.size - 1 - m]?
    have e2 : (((xs.size : Int) - 1) + (m : Int) * (-1)).toNat = xs.size - 1 - m := by omega
    rw [e2]
  rw [e, PySem.W.krv_range, List.filterMap_reverse, PySem.W.krv_all]
theorem getItem_tuple_rev {t sl : Addr} {items : Array Value} {vs : Value} {Q : Value → Shared → Prop} (ht : IsTup s.heap t items) (hs : s.heap.IsSliceOf sl .none .none vs) (ps : IsPart vs (some (-1)))
    (h : Q (.ref s.heap.objs.size) { s with heap := s.heap.push { cls := .type "tuple", data := .seq items.toList.reverse.toArray } })
    (hsz : items.size ≤ sizeLine) : wpAny (model prog w) A (getItem (.ref t) (.ref sl)) Q E s := by
  have htake : sizeOk (.seq items.toList.reverse.toArray) := by
    show items.toList.reverse.toArray.size ≤ sizeLine
    simpa using hsz
  obtain ⟨os, hos, hcs, hds⟩ := id hs
  have hTs : s.TypeIs (.ref sl) "slice" := ⟨os, hos, hcs⟩
  unfold getItem
  try with_reducible refine wpAny_holding ?_
  first | refine wpAny_bind (wpAny_pure ?_) | skip
  refine wpAny_bind (wpAny_sequenceKey ht.typeIs (by decide) ?_)
  refine wpAny_bind (wpAny_callSpecial?_slot (name := Str.ofString "__getitem__") ht.typeIs PyProof.Rows.slot_tuple_getitem (wpAny_call_entry PyProof.Rows.slot_tuple_getitem ht.typeIs entry_tuple_getitem ?_ (args_tuple_getitem _ _)))
  show wpAny _ _ (Builtin.Tuple.tupleItemsOf (.ref t) >>= _) _ _ s
  refine wpAny_bind (tupleItemsOf_ ht (wpAny_bind (wpAny_typeOf hTs ?_)))
  rw [if_pos (by decide)]
  refine wpAny_bind (applied_rev hs ps ?_)
  have hno : ¬ ((((items.size : Int) - 1) == 0 && (-1 : Int) == 1 && items.size == items.size) = true) := by
    intro q
    rw [Bool.and_eq_true, Bool.and_eq_true] at q
    exact absurd q.1.2 (by decide)
  show wpAny _ _ (if (((items.size : Int) - 1) == 0 && (-1 : Int) == 1 && items.size == items.size) = true then _ else _) _ _ s
  rw [if_neg hno, pick_rev]
  first
    | exact wpAny_bind (m := Builtin.Tuple.tupleExact _) (wpAny_newObj_type (wpAny_pure ⟨_, rfl, wpAny_pure h⟩) htake)
    | exact wpAny_bind (m := Builtin.Tuple.tupleExact _) (wpAny_newObj_type (wpAny_bind (wpAny_pure (wpAny_pure ⟨_, rfl, wpAny_pure h⟩))) htake)
    | exact wpAny_bind (wpAny_bind (m := Builtin.Tuple.tupleExact _) (wpAny_newObj_type (wpAny_pure (wpAny_pure ⟨_, rfl, wpAny_pure h⟩)) htake))
    | exact wpAny_bind (wpAny_bind (m := Builtin.Tuple.tupleExact _) (wpAny_newObj_type (wpAny_pure ⟨_, rfl, wpAny_pure h⟩) htake))
end
def tRevU (K : PySem.W.Frag) (te : TE) : TE := fun σ H Q => te σ H fun x H1 => ∃ a xs, x = .ref a ∧ ((SqL K H1 a xs ∧ ∀ p, H1 p = none → Q (.ref p) (upd H1 p (.lst xs.reverse))) ∨ (SqT K H1 a xs ∧ ∀ p, H1 p = none → Q (.ref p) (upd H1 p (.tup xs.reverse))))
theorem pe_revU {X : Cx} {e : Expr} {te : TE} {k : Nat} {p1 p2 p3 pos : Pos} (he : PE X e te) : PE X (.Subscript e (.Slice none none (some (.UnaryOp .USub (.Constant (.int 1) k p1) p2)) p3) pos) (tRevU X.K te) := by
  refine ⟨fun pins s σ H Q I h => Subscript_ (thn (he.run pins s σ H _ I h) fun v s1 ⟨x, H1, I1, r1, a, xs, ex, q⟩ => ?_)⟩
  subst ex
  cases r1
  have hst : PO X (some (.UnaryOp .USub (.Constant (.int 1) k p1) p2)) (tPart (tUn (rU fun i => .int (-i)) (tC (.int 1)))) := po_some (pe_un un_neg pe_int)
  refine wpAny_Slice (thn (po_none.run pins s1 σ H1 (fun o H2 => o = none ∧ H2 = H1) I1 ⟨rfl, rfl⟩) fun vl s2 ⟨l, H2, I2, pl, el, e2⟩ => ?_)
  subst el e2
  refine thn (po_none.run pins s2 σ H2 (fun o H3 => o = none ∧ H3 = H2) I2 ⟨rfl, rfl⟩) fun vu s3 ⟨u, H3, I3, pu, eu, e3⟩ => ?_
  subst eu e3
  refine thn (hst.run pins s3 σ H3 (fun o H4 => o = some (-1) ∧ H4 = H3) I3 ⟨1, rfl, -1, rfl, rfl, rfl⟩) fun vs s4 ⟨o, H4, I4, ps, eo, e4⟩ => ?_
  subst eo e4
  have I5 : Inv X pins σ H4 { s4 with heap := s4.heap.push { cls := .type "slice", data := .fields #[vl, vu, vs] } } := I4.kept (t' := s4.toks) fun b ob q => Heap.get?_push_of_some _ q
  show wpAny (model X.prog X.w) X.A (subscriptTail e (.Slice none none (some (.UnaryOp .USub (.Constant (.int 1) k p1) p2)) p3) (.ref a) (.ref s4.heap.objs.size)) (EP X pins σ Q) X.xe { s4 with heap := s4.heap.push { cls := .type "slice", data := .fields #[vl, vu, vs] } }
  rcases q with ⟨hx, q⟩ | ⟨hx, q⟩
  · obtain ⟨its, r, ht, hz⟩ := I5.list hx
    have hlen := r.length
    refine tail_any (ops := [.ref a, .ref s4.heap.objs.size]) ht.isList.typeIs (PySem.slot_list_getitem.lookup) ?_ (by with_unfolding_all rfl)
    refine wpAny_getItem_list_slice ht.isList (Heap.IsSliceOf.new _ vl vu vs) pl pu ps (by decide) ?_ (by rw [List.size_toArray]; omega)
    rw [PySem.W.krv_pick]
    refine ⟨.ref _, _, I5.laid (t' := s4.toks) (o := .lst xs.reverse) (fun b ob q => Heap.get?_push_of_some _ q) (Nat.le_refl _) ?_, rfl, q _ (I5.hok.fresh (Nat.le_refl _))⟩
    exact ⟨by rw [List.length_reverse]; exact hz, _, 0, r.reverse, Heap.get?_push_size _ rfl⟩
  · obtain ⟨its, r, ht, hz⟩ := I5.tuple hx
    have hlen := r.length
    cases pl
    cases pu
    refine tail_any (ops := [.ref a, .ref s4.heap.objs.size]) ht.typeIs (PyProof.Rows.slot_tuple_getitem.lookup) ?_ (by with_unfolding_all rfl)
    refine getItem_tuple_rev ht (Heap.IsSliceOf.new _ .none .none vs) ps ?_ (by rw [List.size_toArray]; omega)
    refine ⟨.ref _, _, I5.laid (t' := s4.toks) (o := .tup xs.reverse) (fun b ob q => Heap.get?_push_of_some _ q) (Nat.le_refl _) ?_, rfl, q _ (I5.hok.fresh (Nat.le_refl _))⟩
    exact ⟨by rw [List.length_reverse]; exact hz, its.reverse, r.reverse, IsTup.new _ _⟩
section
variable {K : PySem.W.Frag} {Δ : Sl} {G L : List M} {Qd : Po} {Qn : PoN} {te : TE} {E : EndsD}
theorem evn_revU (h : EvC K te Δ G L fun x G1 L1 => ∃ ds, lsG G1 L1 x = some ds ∧ Qn (.pl ds.reverse) G1 L1) : EvN K (tRevU K te) Δ G L Qn := fun w ls σ H c Q ret => h w ls σ H c _ fun v s H2 G2 L2 c2 e2 r2 ⟨ds, hd, k⟩ => by
  obtain ⟨a, xs, rfl, h1, q1⟩ := lsG_get c2 r2 hd
  exact ⟨a, xs, rfl, .inl ⟨.inl (.inl h1), fun p hp => ret p _ _ _ _ (none_back c2 e2 hp) (newAt_pl c2 hp (repL_rev q1)) (e2.trans (Ext.new hp)) k⟩⟩
theorem evc_revT (h : EvC K te Δ G L fun x G1 L1 => ∃ ds, x = .d (.tup ds) ∧ Qd (.d (.tup ds.reverse)) G1 L1) : EvC K (tRevU K te) Δ G L Qd := fun w ls σ H c Q q => h w ls σ H c _ fun v s H2 G2 L2 c2 e2 r2 ⟨ds, hd, k⟩ => by
  subst hd
  obtain ⟨a, xs, rfl, h1, q1⟩ := r2
  exact ⟨a, xs, rfl, .inr ⟨h1.sq, fun p hp => q.go (c2.new hp) (e2.trans (Ext.new hp)) (s := .d (.tup ds.reverse)) (rep_tup c2 hp (repL_rev q1)) k⟩⟩
/-! tuple * int -/
def uMulT (K : PySem.W.Frag) : R2 := fun x y H Q => uMul K x y H Q ∨ rRepT K x y H Q
theorem uo_mulT {X : Cx} : OpR X (binaryOp .Mult) (uMulT X.K) := uo_mul.or op_repT
theorem u_mul_t {xs : List D} {j : Int} (h : (2 ≤ j ∧ j ≤ 1000) ∧ xs ≠ [] ∧ xs.length ≤ 1000) (k : Qd (.d (.tup (List.replicate j.toNat xs).flatten)) G L) : OpC K (uMulT K) (.d (.tup xs)) (.d (.int j)) Δ G L Qd := fun w ls σ H vx vy c rx ry Q q => by
  obtain ⟨a, vs, rfl, h1, q1⟩ := rx
  have hl := q1.length
  refine .inr ⟨a, j, vs, rfl, ry, h1.sq, fun e => h.2.1 (List.eq_nil_of_length_eq_zero (by rw [← hl, e]; rfl)), h.1.1, h.1.2, by rw [hl]; exact h.2.2, fun p hp => ?_⟩
  exact q.go (c.new hp) (Ext.new hp) (s := .d (.tup (List.replicate j.toNat xs).flatten)) (rep_tup c hp (repl_flat q1 _)) k
theorem u_mul_tX {xs : List D} {j : Int} (h : ((2 ≤ j ∧ j ≤ 1000) ∧ xs ≠ [] ∧ xs.length ≤ 1000) ∧ Qd (.d (.tup (List.replicate j.toNat xs).flatten)) G L) : OpC K (uMulT K) (.d (.tup xs)) (.d (.int j)) Δ G L Qd := u_mul_t h.1 h.2
theorem u_mulT_i {i j : Int} (hc : CMul i j) (k : Qd (.d (.int (i * j))) G L) : OpC K (uMulT K) (.d (.int i)) (.d (.int j)) Δ G L Qd := opc_orl (u_mul_i hc k)
theorem u_mulT_lX {x : S} {j : Int} (h : ∃ xs, lsG G L x = some xs ∧ (0 ≤ j ∧ j < 2 ^ 62 ∧ xs.length * j.toNat ≤ sizeLine) ∧ Qn (.pl (List.replicate j.toNat xs).flatten) G L) : OpN K (uMulT K) x (.d (.int j)) Δ G L Qn := opn_orl (u_mul_lX h)
/-! o[i] op= e -/
theorem get_lst {X : Cx} : PGet X (rIxL X.K) := by
  intro pins s σ H x y v u Q I rx ry h
  obtain ⟨p, xs, i, z, rfl, rfl, hq, he, q⟩ := h
  cases rx
  obtain ⟨t, rfl⟩ := ry
  obtain ⟨its, r, pl, hz⟩ := I.list hq
  obtain ⟨j, h1, h2, h3, h4, h5⟩ := atI_get he
  obtain ⟨w, ew, rw'⟩ := r.get h2
  have hl := r.length
  have hn := line63
  have fin : EP X pins σ Q w s := ⟨z, H, I, rw', q⟩
  by_cases h0 : 0 ≤ i
  · have hj : i.toNat = j := by
      rw [seqIndex_of h0 h5] at h1
      exact Option.some.inj h1
    exact wpAny_getItem_list pl.isList h0 (by omega) (by rw [hj]; simpa using ew) fin
  · have hj : (i + (its.toArray.size : Int)).toNat = j := by
      rw [seqIndex_neg (by omega) h4] at h1
      rw [List.size_toArray, ← hl]
      exact Option.some.inj h1
    exact wpAny_getItem_list_neg pl.isList (by omega) (by rw [List.size_toArray] <;> omega) (by omega) (by rw [hj]; simpa using ew) fin
theorem st_augS {to ti : TE} {tget : V → V → Hp → VK → Prop} {tip : TIp} {tset : TSet} (h : EvC K to Δ G L fun o G1 L1 => EvC K ti Δ G1 L1 fun i G2 L2 => OpC K tget o i Δ G2 L2 fun x G3 L3 => EvC K te Δ G3 L3 fun y G4 L4 =>
    OpC K tip x y Δ G4 L4 fun z G5 L5 => StoC K tset o i z Δ G5 L5 fun G6 L6 => E.nx Δ G6 L6) : StC K (tAugS to ti te tget tip tset) Δ G L E := fun w ls σ H c D s =>
  h w ls σ H c _ fun vo o H1 G1 L1 c1 e1 r1 h1 => h1 w ls σ H1 c1 _ fun vi i H2 G2 L2 c2 e2 r2 h2 =>
    h2 w ls σ H2 vo vi c2 (r1.on c1 e2) r2 _ fun vx x H3 G3 L3 c3 e3 r3 h3 => h3 w ls σ H3 c3 _ fun vy y H4 G4 L4 c4 e4 r4 h4 =>
      h4 w ls σ H4 vx vy c4 (r3.on c3 e4) r4 _ fun vz z H5 G5 L5 c5 e5 r5 h5 =>
        h5 w ls σ H5 vo vi vz c5 ((((r1.on c1 e2).on c2 e3).on c3 e4).on c4 e5) (((r2.on c2 e3).on c3 e4).on c4 e5) r5 _ fun H6 G6 L6 c6 e6 k =>
          s.nx ls σ H6 Δ G6 L6 c6 ((e1.trans (e2.trans (e3.trans (e4.trans (e5.trans e6))))).grow c.reg) k
theorem opc_ip {f : Int → Int → Int} {i j : Int} (k : Qd (.d (.int (f i j))) G L) : OpC K (ipI f) (.d (.int i)) (.d (.int j)) Δ G L Qd := fun w ls σ H vx vy c rx ry Q q => by
  cases rx
  cases ry
  exact ⟨i, j, rfl, rfl, q.go c Ext.refl (s := .d (.int (f i j))) rfl k⟩
theorem u_get_l {k : Nat} {i : Int} {d : D} {xs : List D} (hx : L[k]? = some (.pl xs)) (hi : atI xs i = some d) (q : Qd (.d d) G L) : OpC K (rIxL K) (.l k) (.d (.int i)) Δ G L Qd := fun w ls σ H vx vy c rx ry Q ret => by
  obtain ⟨a, vs, rfl, h1, q1⟩ := lsG_get c rx (lsG_l hx)
  obtain ⟨j, e, hj⟩ := atI_some hi
  obtain ⟨v, hv, r⟩ := q1.get hj
  have ha : atI vs i = some v := by
    unfold atI
    rw [q1.length, e]
    exact hv
  exact ⟨a, vs, i, v, rfl, ry, .inl (.inl h1), ha, ret.go c Ext.refl (s := .d d) r q⟩
theorem u_get_int {k : Nat} {i : Int} {xs : List Int} (hx : L[k]? = some (.pl (xs.map D.int))) (h0 : 0 ≤ i) (h1 : i < (xs.length : Nat)) (q : Qd (.d (.int (xs.getD i.toNat 0))) G L) : OpC K (rIxL K) (.l k) (.d (.int i)) Δ G L Qd := by
  obtain ⟨n, rfl⟩ := Int.eq_ofNat_of_zero_le h0
  have hn : n < xs.length := by omega
  refine u_get_l hx (atI_of (j := n) ?_ rfl) q
  rw [List.getElem?_map, List.getElem?_eq_getElem hn]
  show some (D.int xs[n]) = some (D.int (xs.getD n 0))
  rw [List.getD_eq_getElem?_getD, List.getElem?_eq_getElem hn]
  rfl
theorem sto_int {k : Nat} {i z : Int} {xs : List Int} {Qt : List M → List M → Prop} (hx : L[k]? = some (.pl (xs.map D.int))) (h0 : 0 ≤ i) (h1 : i < (xs.length : Nat)) (q : Qt G (L.set k (.pl ((xs.set i.toNat z).map D.int)))) : StoC K rSetL (.l k) (.d (.int i)) (.d (.int z)) Δ G L Qt := by
  obtain ⟨n, rfl⟩ := Int.eq_ofNat_of_zero_le h0
  have hn : n < xs.length := by omega
  have e : ixN (xs.map D.int).length (n : Int) = some n := by
    rw [List.length_map]
    unfold ixN
    rw [if_pos h0, if_pos (by omega)]
    rfl
  refine sto_lp hx e ?_
  have e2 : (xs.map D.int).set n (.int z) = (xs.set n z).map D.int := by rw [List.map_set]
  rw [e2]
  exact q
theorem isi_ii {i : Int} (k : Qd (.d (.bl true)) G L) : ApC K (rIsi K) [.d (.int i), .d (.ty "int")] Δ G L Qd := ap_isi rfl (by decide +kernel) k
theorem isi_ib {i : Int} (k : Qd (.d (.bl false)) G L) : ApC K (rIsi K) [.d (.int i), .d (.ty "bool")] Δ G L Qd := ap_isi rfl (by decide +kernel) k
theorem isi_bb {i : Bool} (k : Qd (.d (.bl true)) G L) : ApC K (rIsi K) [.d (.bl i), .d (.ty "bool")] Δ G L Qd := ap_isi rfl (by decide +kernel) k
theorem isi_bi {i : Bool} (k : Qd (.d (.bl true)) G L) : ApC K (rIsi K) [.d (.bl i), .d (.ty "int")] Δ G L Qd := ap_isi rfl (by decide +kernel) k
theorem isi_tt {ds : List D} (k : Qd (.d (.bl true)) G L) : ApC K (rIsi K) [.d (.tup ds), .d (.ty "tuple")] Δ G L Qd := ap_isi rfl (by decide +kernel) k
theorem isi_ss {z : Str} (k : Qd (.d (.bl true)) G L) : ApC K (rIsi K) [.d (.str z), .d (.ty "str")] Δ G L Qd := ap_isi rfl (by decide +kernel) k
theorem iteNT {A B : Prop} (h : B) : if (!true) = true then A else B := by
  rw [if_neg (by decide)]
  exact h
theorem iteNF {A B : Prop} (h : A) : if (!false) = true then A else B := by
  rw [if_pos (by decide)]
  exact h
theorem iteNB {b : Bool} {A B : Prop} (h1 : b = false → A) (h2 : b = true → B) : if (!b) = true then A else B := by
  cases b with
  | true => exact iteNT (h2 rfl)
  | false => exact iteNF (h1 rfl)
end
end DL

namespace DL
open PySem PySem.Spec PyProof.Rows L2
/-! data that can be compared, with its depth -/
def Eqb1 (k : Nat) (d : D) : Prop := ∃ p, d.py = some p ∧ p.canLay0 = true ∧ p.depth ≤ k
theorem eqb1_int (k : Nat) (i : Int) : Eqb1 k (.int i) := ⟨.int i, rfl, rfl, Nat.zero_le _⟩
theorem eqb1_bl (k : Nat) (i : Bool) : Eqb1 k (.bl i) := ⟨.bool i, rfl, rfl, Nat.zero_le _⟩
theorem eqb1_non (k : Nat) : Eqb1 k .non := ⟨.none, rfl, rfl, Nat.zero_le _⟩
theorem eqb1_str (k : Nat) {z : Str} (h : PyData.strOk z = true) : Eqb1 k (.str z) := ⟨.str z, rfl, h, Nat.zero_le _⟩
theorem eqb1_all {k : Nat} : ∀ {ds : List D}, (∀ d ∈ ds, Eqb1 k d) → ∃ ps, pyL ds = some ps ∧ PyData.canLayAll0 ps = true ∧ PyData.depthAll ps ≤ k
  | [], _ => ⟨[], rfl, rfl, Nat.zero_le _⟩
  | d :: ds, h => by
    obtain ⟨p, h1, h2, h3⟩ := h d List.mem_cons_self
    obtain ⟨ps, h4, h5, h6⟩ := eqb1_all fun x hx => h x (List.mem_cons_of_mem _ hx)
    refine ⟨p :: ps, ?_, ?_, ?_⟩
    · unfold pyL
      rw [h1, h4]
    · show (p.canLay0 && PyData.canLayAll0 ps) = true
      rw [h2, h5]
      rfl
    · simp only [PyData.depthAll]
      omega
theorem eqb1_tup {k : Nat} {ds : List D} (h : ∀ d ∈ ds, Eqb1 k d) : Eqb1 (k + 1) (.tup ds) := by
  obtain ⟨ps, h1, h2, h3⟩ := eqb1_all h
  refine ⟨.tuple ps, ?_, h2, ?_⟩
  · unfold D.py
    rw [h1]
  · simp only [PyData.depth]
    omega
theorem eqb1_lst {k : Nat} {ds : List D} (h : ∀ d ∈ ds, Eqb1 k d) : Eqb1 (k + 1) (.lst ds) := by
  obtain ⟨ps, h1, h2, h3⟩ := eqb1_all h
  refine ⟨.list ps, ?_, h2, ?_⟩
  · unfold D.py
    rw [h1]
  · simp only [PyData.depth]
    omega
theorem eqb_of {k : Nat} {ds : List D} (h : ∀ d ∈ ds, Eqb1 k d) (hk : k ≤ 63) : Eqb ds := by
  obtain ⟨ps, h1, h2, h3⟩ := eqb1_all h
  refine ⟨ps, h1, ?_⟩
  unfold SeqAt.shaped
  rw [Bool.and_eq_true]
  refine ⟨h2, decide_eq_true ?_⟩
  simp only [PyData.depth]
  omega
theorem eqvt_nil {ds : List D} {ps : List PyData} (h : pyL ds = some ps) : PyData.eqv (.tuple ps) (.tuple []) = ds.isEmpty := by
  cases ds with
  | nil =>
    cases h
    rfl
  | cons d ds =>
    unfold pyL at h
    split at h
    · cases h
      rfl
    · cases h
section
variable {K : PySem.W.Frag} {Δ : Sl} {G L : List M} {Qd : Po}
theorem u_ne_t0 {ds : List D} (h : ∃ k, k ≤ 63 ∧ ∀ d ∈ ds, Eqb1 k d) (q : Qd (.d (.bl (!ds.isEmpty))) G L) : OpC K (uNe K) (.d (.tup ds)) (.d (.tup [])) Δ G L Qd := by
  obtain ⟨k, hk, h⟩ := h
  obtain ⟨ps, h1, h2, h3⟩ := eqb1_all h
  have sh : SeqAt.shaped (.tuple ps) = true := by
    unfold SeqAt.shaped
    rw [Bool.and_eq_true]
    refine ⟨h2, decide_eq_true ?_⟩
    simp only [PyData.depth]
    omega
  refine u_ne_d (a := .tup ds) (b := .tup []) rfl rfl (p := .tuple ps) (q := .tuple []) (by unfold D.py; rw [h1]) (by rfl) sh (by decide) ?_
  rw [eqvt_nil h1]
  exact q
theorem u_eq_t0 {ds : List D} (h : ∃ k, k ≤ 63 ∧ ∀ d ∈ ds, Eqb1 k d) (q : Qd (.d (.bl ds.isEmpty)) G L) : OpC K (uEq K) (.d (.tup ds)) (.d (.tup [])) Δ G L Qd := by
  obtain ⟨k, hk, h⟩ := h
  obtain ⟨ps, h1, h2, h3⟩ := eqb1_all h
  have sh : SeqAt.shaped (.tuple ps) = true := by
    unfold SeqAt.shaped
    rw [Bool.and_eq_true]
    refine ⟨h2, decide_eq_true ?_⟩
    simp only [PyData.depth]
    omega
  refine u_eq_d (a := .tup ds) (b := .tup []) rfl rfl (p := .tuple ps) (q := .tuple []) (by unfold D.py; rw [h1]) (by rfl) sh (by decide) ?_
  rw [eqvt_nil h1]
  exact q
theorem u_ix_int {x : S} {i : Int} {xs : List Int} (hx : seqG G L x = some (xs.map D.int)) (h0 : 0 ≤ i) (h1 : i < (xs.length : Nat)) (q : Qd (.d (.int (xs.getD i.toNat 0))) G L) : OpC K (rIx K) x (.d (.int i)) Δ G L Qd := by
  obtain ⟨n, rfl⟩ := Int.eq_ofNat_of_zero_le h0
  have hn : n < xs.length := by omega
  refine u_ix_g hx (atI_of (j := n) ?_ rfl) q
  rw [List.getElem?_map, List.getElem?_eq_getElem hn]
  show some (D.int xs[n]) = some (D.int (xs.getD n 0))
  rw [List.getD_eq_getElem?_getD, List.getElem?_eq_getElem hn]
  rfl
theorem rep_int (n : Nat) (z : Int) : (List.replicate n [D.int z]).flatten = (List.replicate n z).map D.int := by
  induction n with
  | zero => rfl
  | succ n ih =>
    rw [List.replicate_succ, List.flatten_cons, ih, List.replicate_succ]
    rfl
theorem asv_v {s : S} (k : Qd s G L) : asV Qd L (.v s) G := k
theorem evc_neg {te : TE} (h : EvC K te Δ G L fun s G1 L1 => ∃ i, s = .d (.int i) ∧ Qd (.d (.int (-i))) G1 L1) : EvC K (tUn (rU fun i => V.int (-i)) te) Δ G L Qd := fun w ls σ H c Q ret => h w ls σ H c _ fun v s H2 G2 L2 c2 e2 r2 ⟨i, hs, k⟩ => by
  subst hs
  exact ⟨i, r2, ret.go c2 e2 (s := .d (.int (-i))) rfl k⟩
theorem last_at {α : Type} (f : α → D) {xs : List α} (h : (xs.map f).isEmpty = false) : ∃ l, l ∈ xs ∧ atI (xs.map f) (-1) = some (f l) := by
  have hp : 0 < xs.length := by
    cases xs with
    | nil => cases h
    | cons _ _ => exact Nat.succ_pos _
  refine ⟨xs[xs.length - 1], List.getElem_mem _, ?_⟩
  unfold atI ixN
  rw [List.length_map, if_neg (by decide), if_pos (by omega)]
  have e : (-1 + ((xs.length : Nat) : Int)).toNat = xs.length - 1 := by omega
  show (xs.map f)[(-1 + ((xs.length : Nat) : Int)).toNat]? = _
  rw [e, List.getElem?_map, List.getElem?_eq_getElem (by omega)]
  rfl
end
end DL

namespace DL
open PySem PySem.Spec PyProof.Rows L2
example : callerA.guards = some [] := rfl
/-! repr of a list or a tuple of data, where the guards are known to be empty -/
def rReprD (K : PySem.W.Frag) : List V → Hp → VK → Prop := fun xs H Q => ∃ (a : Addr) (d : PyData), xs = [V.ref a] ∧ Dp K H (.ref a) d ∧ d.showable = true ∧ d.hasDict = false ∧ d.depth ≤ 63 ∧ d.shown.length ≤ sizeLine ∧ Q (.str d.shown) H
theorem uc_reprD {X : Cx} (hg : X.A.guards = some []) (hu : X.A.units + 64 < cLine) : CallR X (.builtin "repr") (rReprD X.K) := by
  intro pins s σ H xs us Q I r h
  obtain ⟨a, d, rfl, hd, hs, hn, hdep, hz, q⟩ := h
  obtain ⟨u, rfl, ru⟩ := vals1 r
  obtain ⟨as, rd⟩ := Dp.reads I d _ u hd ru
  cases (show u = Value.ref a from ru)
  refine repr_of_reads' rd hs (fun e => by rw [hn] at e; cases e) hg (by omega) (fun _ _ e => e) (fun h' t tk hk => ?_) hz
  exact ⟨.str d.shown, H, I.kept hk, ⟨_, rfl⟩, q⟩
/-- a def's promise where no object is being shown -/
structure FnG (P : Program) (w : World) (K : PySem.W.Frag) (mg : Str → Option Value) (base : Heap) (k : Nat) (f : Addr) (fd : FuncData) (ps : List Str) (sp : Sp) : Prop where
  len : ∀ vs H Q E, sp vs H Q E → vs.length = ps.length
  run : ∀ (A : Around) (outer : List Env) (s : Shared) (H : Hp) (args : Args) (us : List Value) (vs : List V) (Q : VK) (E : XK), A.guards = some [] → Room k A → Env0 P w K mg base A outer s H →
    BindsTo s fd args (ps.zip us) → Vals vs us → sp vs H Q E → codeAny (model P w) A (.call (.ref f) args) (CR CX0 outer P w H s Q E) s
section
variable {P : Program} {w : World} {K : PySem.W.Frag} {mg : Str → Option Value} {base : Heap} {j k : Nat} {f : Addr} {fd : FuncData} {ps : List Str} {sp : Sp}
theorem FnG.of (F : FnOk P w K mg base CX0 k f fd ps sp) : FnG P w K mg base k f fd ps sp := ⟨F.len, fun A outer s H args us vs Q E _ => F.run A outer s H args us vs Q E⟩
end
section
variable {X : Cx} {f : Addr} {fd : FuncData} {ps : List Str} {sp : Sp} {ds : List Value} {dvs : List V} {k : Nat} {x : Str} {E : XK} {e : Expr} {es : List Expr} {t : TA} {p pos : Pos}
theorem run_fnG {pins : List (Addr × Obj)} {σ : L2.St} {H : Hp} {s : Shared} {Q : VK} {us : List Value} {vs : List V} (F : FnG X.prog X.w X.K X.mg X.base k f fd ps sp) (hg : X.A.guards = some []) (hr : Room k X.A) (hb : Binds X.K fd ps ds) (hd : Vals dvs ds)
    (hx : Passes CX0 X E) (I : Inv X pins σ H s) (r : Vals vs us) (h : sp (vs ++ dvs) H Q E) : wpAny (model X.prog X.w) X.A (call (.ref f) us) (EP X pins σ Q) X.xe s := by
  have both := r.append hd
  have hl := F.len _ _ _ _ h
  rw [both.length] at hl
  refine wpAny_call (codeAny_mono (F.run X.A X.stack s H ⟨us, []⟩ (us ++ ds) (vs ++ dvs) Q E hg hr I.env0 (hb s us I.kIn hl) both h) fun r s2 hq => ?_)
  match r, hq with
  | .error e, hq => exact hx pins σ H s e s2 I hq
  | .ok (.ret u), hq => exact I.after hq
  | .ok .next, hq => exact hq.elim
  | .ok .brk, hq => exact hq.elim
  | .ok .cont, hq => exact hq.elim
theorem pe_callG (F : FnG X.prog X.w X.K X.mg X.base k f fd ps sp) (hg : X.A.guards = some []) (hr : Room k X.A) (hl : Gl X x) (hm : X.mg x = some (.ref f)) (hk : PySem.W.keepIn X.K (.ref f) = true) (hb : Binds X.K fd ps ds) (hd : Vals dvs ds) (hx : Passes CX0 X E)
    (ha : PA X (e :: es) t) (hdb : (x == ("__debug__" : Str)) = false := by decide) (he : starEach (e :: es) X.env = (false, eval e X.env) :: starEach es X.env := by rfl) (hpl : (backTo pos (starEach es X.env)).any (·.1) = false := by rfl) :
    PE X (.Call (.Name x p) (e :: es) [] pos) (tCall sp dvs E t) :=
  ⟨fun pins s σ H Q I h => wpAny_Call_Name_kw (ld_glob I hl hm (PySem.W.callWith_K (h₀ := X.base) I.ok.mod.kin hk (thn (ha.run pos pins s σ H _ I h) fun us s1 ⟨vs, H1, I1, r, q⟩ => ⟨I1.kIn, run_fnG F hg hr hb hd hx I1 r q⟩) he hpl) hdb)⟩
theorem pe_callG0 (F : FnG X.prog X.w X.K X.mg X.base k f fd ps sp) (hg : X.A.guards = some []) (hr : Room k X.A) (hl : Gl X x) (hm : X.mg x = some (.ref f)) (hk : PySem.W.keepIn X.K (.ref f) = true) (hb : Binds X.K fd ps ds) (hd : Vals dvs ds) (hx : Passes CX0 X E)
    (hdb : (x == ("__debug__" : Str)) = false := by decide) : PE X (.Call (.Name x p) [] [] pos) (tCall sp dvs E tNil) :=
  ⟨fun pins s σ H Q I h => wpAny_Call_Name_kw (ld_glob I hl hm (PySem.W.callWith_K0 I.kIn hk (run_fnG (us := []) F hg hr hb hd hx I .nil h)) hdb)⟩
end
section
variable {P : Program} {w : World} {K : PySem.W.Frag} {mg : Str → Option Value} {base : Heap}
theorem okFnG {x qual : Str} {st : Stmt} {f : Addr} {fd : FuncData} {N ps : List Str} {k : Nat} {sp : Sp} (F : Fun K x qual st f fd) (S : FnScope N ps (defScope st)) (len : ∀ vs H Q E, sp vs H Q E → vs.length = ps.length)
    (hbody : ∀ (cdv : Value) (A : Around) (outer : List Env) (s : Shared) (H : Hp) (vs : List V) (Q : VK) (E : XK), A.guards = some [] → Room k (A.deeper (envOfC qual (defScope st) s.heap.objs.size f cdv)) → sp vs H Q E →
      ∃ t, PSs (cxOf CX0 P w K mg base N qual (defScope st) f cdv A outer s H E).nox (defBody st) t ∧ t { nx := fun _ H' => Q .non H', rt := Q } (L2.start N vs) H) : FnG P w K mg base (k + 1) f fd ps sp := by
  obtain ⟨oc, od, kV, doc, pm, an, cdv, ct, osl, rfl, lk, hcd⟩ := F.ex
  refine ⟨len, fun A outer s H args us vs Q E hg hr e0 hb r hsp => ?_⟩
  have old : ∀ b o, base.get? b = some o → s.heap.get? b = some o := fun b o e => (e0.bs b o e).1
  have KX : K.In s.heap := e0.mod.kin.keeps old
  have kinds : ∀ y ∈ ps.zip us, (defScope st).names.lookup y.1 = some .local ∨ ((defScope st).names.lookup y.1 = some .cell ∧ ((cellsFrom (s.heap.objs.size + 1) (defScope st).names []).lookup y.1).isSome = true) := by
    rintro ⟨n, v⟩ hy
    exact (S.par n (List.of_mem_zip hy).1).imp id fun q => ⟨q, PySem.W.cellsFrom_some _ _ _ (.inl q)⟩
  refine codeAny_call_function hr.depth (KX _ _ lk) rfl S.co S.gen rfl (PySem.W.codeRec_of KX hcd) (hb _ _ _ _ (wpAny_newFunctionEnv_cells S.kind kinds fun env he s1 x => ?_))
  subst he
  refine ⟨(e0.mod.nolimit.keeps old).keeps x.toInCall.keep, codeAny_func ?_⟩
  obtain ⟨t, ht, hq⟩ := hbody cdv A outer s H vs Q E hg (hr.deeper _) hsp
  have I := inv_start (CX := CX0) (E := E) S hr.hd e0 (len _ _ _ _ hsp) r x
  refine wpAny_mono (ht.nox.run [] s1 (L2.start N vs) H _ I hq) (fun fl s2 hs => ?_) fun e s2 hs => hs
  have fin : ∀ {σ' : L2.St} {H' : Hp} {v : V} {u : Value}, Inv (cxOf CX0 P w K mg base N qual (defScope st) f cdv A outer s H E) [] σ' H' s2 → RelV v u → Q v H' → CE outer P w H s Q u s2 :=
    fun {σ' H' v u} J rv q => ⟨v, H', J.os, J.bare, J.base, J.hok, rv, q⟩
  match fl, hs with
  | .ret u, ⟨v, σ', H', J, rv, q⟩ => exact fin J rv q
  | .next, ⟨σ', H', J, q⟩ => exact fin (v := V.non) (u := Value.none) J rfl q
  | .brk, ⟨_, _, _, q⟩ => exact q.elim
  | .cont, ⟨_, _, _, q⟩ => exact q.elim
end
theorem okDG {K : PySem.W.Frag} {P : Program} {w : World} {mg : Str → Option Value} {base : Heap} {x qual : Str} {st : Stmt} {f : Addr} {fd : FuncData} {N ps : List Str} {k : Nat} {sp : DSpec} (F : Fun K x qual st f fd) (S : FnScope N ps (defScope st)) (len : ∀ ss G Qd, sp ss G Qd → ss.length = ps.length)
    (hbody : ∀ (cdv : Value) (A : Around) (outer : List Env) (s : Shared) (H : Hp) (E : XK) (ss : List DL.S) (G : List M) (Qd : Res → List M → Prop), A.guards = some [] → Room k (A.deeper (envOfC qual (defScope st) s.heap.objs.size f cdv)) → sp ss G Qd →
      ∃ t, PSs (cxOf CX0 P w K mg base N qual (defScope st) f cdv A outer s H E).nox (defBody st) t ∧ StC K t (startD N ss) G [] (endsD Qd)) : FnG P w K mg base (k + 1) f fd ps (spD K sp) := by
  refine okFnG F S (fun vs H Q E h => ?_) (fun cdv A outer s H vs Q E hg hr h => ?_)
  · obtain ⟨w, ss, G, Qd, _, _, r, q, _⟩ := h
    rw [← paired_len r]
    exact len ss G Qd q
  · obtain ⟨w, ss, G, Qd, h0, c, r, q, k1, k2⟩ := h
    obtain ⟨t, ht, hs⟩ := hbody cdv A outer s H E ss G Qd hg hr q
    refine ⟨t, ht, hs w [] (L2.start N vs) H ⟨c.reg, c.rin, c.nd, c.fr, c.h0, slok_start r, c.gl, c.lo, c.ld⟩ _ ⟨?_, ?_, ?_, ?_, fun _ _ _ => trivial⟩⟩
    · intro ls' σ' H' Δ' G' L' c' g' n'
      exact k1 .non (.d .non) H' G' c'.forget rfl n'
    · intro ls' σ' H' Δ' G' L' v z c' rz n'
      cases z with
      | d x => exact k1 v (.d x) H' G' c'.forget (Rep.grow grow_drop rz) n'
      | g j => exact k1 v (.g j) H' G' c'.forget rz n'
      | l j =>
        obtain ⟨a, ha, rfl⟩ := rz
        exact k2 ls' j a L' H' G' c'.forgetS ha n'
    · intro ls' σ' H' Δ' G' L' c' g' n'
      exact n'.elim
    · intro ls' σ' H' Δ' G' L' c' g' n'
      exact n'.elim
/-! ### the law's own call, with the guards -/
section
variable {P : Program} {w : World} {K : PySem.W.Frag} {mg mb : Str → Option Value} {k : Nat} {fa a : Addr} {fd : FuncData} {x : Str} {sp : Sp} {s1 : Shared}
/-- one call from a heap H that tracks the script at most -/
theorem call_fromG (hr : Room k callerA) (H : Hp) (hF : FnG P w K mg (hidT s1.heap H) k fa fd [x] sp) (hbd : ∀ (s : Shared) (u : Value), BindsTo s fd ⟨[u], []⟩ [(x, u)])
    (e0 : Env0 P w K mg (hidT s1.heap H) callerA [] s1 H) (hO : Only H) (hp : sp [.ref a] H (fun v _ => v = .bl true) fun _ _ _ => False) :
    codeAny (model P w) callerA (.call (.ref fa) ⟨[.ref a], []⟩) (fun r s2 => r = .ok (.ret (.bool true)) ∧ OldK s1.heap s2.heap ∧ s2.os = s1.os ∧ AllBare s2.gens) s1 := by
  have run := hF.run callerA [] s1 H ⟨[.ref a], []⟩ [.ref a] [.ref a] (fun v _ => v = .bl true) (fun _ _ _ => False) rfl hr e0 (hbd s1 (.ref a)) (.cons rfl .nil) hp
  refine codeAny_mono run fun r s2 h => ?_
  match r, h with
  | .error _, h => exact h.elim
  | .ok .next, h => exact h.elim
  | .ok .brk, h => exact h.elim
  | .ok .cont, h => exact h.elim
  | .ok (.ret u), h =>
    obtain ⟨v, H2, os2, bare2, un2, hok2, rv2, rfl⟩ := h
    have eu : u = Value.bool true := rv2
    subst eu
    refine ⟨rfl, OldK.of_keep fun b o e => ?_, os2, bare2⟩
    rcases hO b with n | ⟨ob, xs, f⟩
    · exact un2.keep b o e n (fun m => by cases m) (fun m => by cases m)
    · have e1 := (e0.hok b _ f).1
      rw [e] at e1
      cases e1
      exact (hok2 b _ (un2.frzs b _ _ f)).1
end
section
variable {P : Program} {w : World} {K : PySem.W.Frag} {mg mb : Str → Option Value} {k : Nat} {fa a : Addr} {fd : FuncData} {x : Str} {sp : Sp} {s1 : Shared} {vals : List Value} {ns : List Int}
/-- what the top has left, seen past a heap that tracks at most the script's list -/
theorem env_startG (kin : K.In s1.heap) (nsG : s1.heap.Ns mainGlobals mg) (nsB : s1.heap.Ns builtinsNs mb) (eB : ∀ y : Str, y ≠ "__name__" → mb y = bootBuiltins y) (nl : s1.heap.NoLimit) (g0 : s1.gens = #[])
    (la : s1.heap.get? a = some { cls := .type "list", data := .seq vals.toArray }) (H : Hp) (hok : HOk P w H s1.heap) (only : ∀ b u, H b = some u → b = a ∧ K.lookup a = none) :
    K.In (hidT s1.heap H) ∧ (hidT s1.heap H).Ns mainGlobals mg ∧ Env0 P w K mg (hidT s1.heap H) callerA [] s1 H := by
  have free : ∀ {b : Addr} {o : Obj}, s1.heap.get? b = some o → (b = a → K.lookup a = none → False) → (hidT s1.heap H).get? b = some o := by
    intro b o e n
    refine hidT_get e ?_
    rcases q : H b with _ | u
    · rfl
    · exact (n (only b u q).1 (only b u q).2).elim
  have kin' : K.In (hidT s1.heap H) := fun b o e => free (kin b o e) fun eb n => by
    subst eb
    rw [n] at e
    cases e
  have ns' : ∀ {b : Addr} {m : Str → Option Value}, s1.heap.Ns b m → (hidT s1.heap H).Ns b m := by
    rintro b m ⟨o, es, ep, e, d, r⟩
    refine ⟨o, es, ep, free e fun eb _ => ?_, d, r⟩
    subst eb
    have eo := Option.some.inj (la.symm.trans e)
    rw [← eo] at d
    cases d
  refine ⟨kin', ns' nsG, ⟨rfl, ⟨kin', ns' nsG, ⟨mb, ns' nsB, eB⟩, ?_⟩, fun b o e => of_hidT e, Nat.le_of_eq (hidT_size _ _), trivial, (fun b m => by cases m), hok, .of_eq g0⟩⟩
  obtain ⟨mc, n1, n2⟩ := nl
  exact ⟨mc, ns' n1, n2⟩
theorem law_callG (kin : K.In s1.heap) (nsG : s1.heap.Ns mainGlobals mg) (nsB : s1.heap.Ns builtinsNs mb) (eB : ∀ y : Str, y ≠ "__name__" → mb y = bootBuiltins y) (nl : s1.heap.NoLimit) (g0 : s1.gens = #[])
    (la : s1.heap.get? a = some { cls := .type "list", data := .seq vals.toArray }) (iv : IntsAre vals ns) (hl : ns.length ≤ sizeLine) (hr : Room k callerA)
    (F : ∀ base : Heap, K.In base → base.Ns mainGlobals mg → FnG P w K mg base k fa fd [x] sp) (hbd : ∀ (s : Shared) (u : Value), BindsTo s fd ⟨[u], []⟩ [(x, u)])
    (hsp : ∀ H : Hp, Only H → SqL K H a (ns.map V.int) → sp [.ref a] H (fun v _ => v = .bl true) fun _ _ _ => False) :
    codeAny (model P w) callerA (.call (.ref fa) ⟨[.ref a], []⟩) (fun r s2 => r = .ok (.ret (.bool true)) ∧ OldK s1.heap s2.heap ∧ s2.os = s1.os ∧ AllBare s2.gens) s1 := by
  have vi := vals_ints iv
  have go : ∀ H : Hp, HOk P w H s1.heap → (∀ b u, H b = some u → b = a ∧ K.lookup a = none) → Only H → SqL K H a (ns.map V.int) → codeAny (model P w) callerA (.call (.ref fa) ⟨[.ref a], []⟩) (fun r s2 => r = .ok (.ret (.bool true)) ∧ OldK s1.heap s2.heap ∧ s2.os = s1.os ∧ AllBare s2.gens) s1 := by
    intro H hok only hO hS
    obtain ⟨k1, k2, e0⟩ := env_startG kin nsG nsB eB nl g0 la H hok only
    exact call_fromG hr H (F _ k1 k2) hbd e0 hO (hsp H hO hS)
  rcases lk : K.lookup a with _ | o
  · let o1 : HO := .frz { cls := .type "list", data := .seq vals.toArray } (.lst (ns.map V.int))
    have at_a : ∀ {b u}, (if b = a then some o1 else none) = some u → b = a ∧ u = o1 := by
      intro b u e
      by_cases z : b = a
      · rw [if_pos z] at e
        exact ⟨z, (Option.some.inj e).symm⟩
      · rw [if_neg z] at e
        cases e
    refine go (fun b => if b = a then some o1 else none) (fun b u e => ?_) (fun b u e => ⟨(at_a e).1, lk⟩) (fun b => ?_) (.inl (.inr ⟨_, if_pos rfl⟩))
    · obtain ⟨rfl, rfl⟩ := at_a e
      exact ⟨la, by rw [List.length_map]; exact hl, vals, _, vi, la⟩
    · by_cases z : b = a
      · exact .inr ⟨_, _, if_pos z⟩
      · exact .inl (if_neg z)
  · have e := kin a o lk
    rw [la] at e
    cases e
    refine go (fun _ => none) (fun b u z => by cases z) (fun b u z => by cases z) (fun _ => .inl rfl) (.inr ⟨_, vals.toArray, _, lk, rfl, rfl, rfl, ?_, by simpa using vi⟩)
    rw [List.size_toArray, iv.length]
    exact hl
end
/-- the goal that k_head leaves, from the law's own promise -/
theorem walk_ofG {l : PySem.W.OpenLaw} {n k : Nat} {q : Program} {loose : List Str} {XP : (Str → Option Value) → Heap → Prop} {YP : World → Heap → Prop} {d : DefRec} {K : Params → PySem.W.Frag} {sp : World → Sp} {x : Str}
    (most : l.most = some n) (hn : n ≤ sizeLine) (nodef : d.params.defaults = []) (room : Room k callerA) (hY : ∀ (w : World) (h : Heap), YP w h → (K w.params).In h)
    (F : ∀ (w : World) (mg : Str → Option Value) (fa : Addr) (h : Heap), (K w.params).In h → h.Ns mainGlobals mg → mg d.name = some (.ref fa) →
      ∃ fd : FuncData, (∀ (s : Shared) (u : Value), BindsTo s fd ⟨[u], []⟩ [(x, u)]) ∧ ∀ base : Heap, (K w.params).In base → base.Ns mainGlobals mg → FnG l.prog w (K w.params) mg base k fa fd [x] (sp w))
    (hsp : ∀ (w : World) (H : Hp) (a : Addr) (ns : List Int), ns.length ≤ n → (∀ z ∈ ns, Builtin.Int.intBits z ≤ 1048576) → SqL (K w.params) H a (ns.map V.int) → sp w [.ref a] H (fun v _ => v = .bl true) fun _ _ _ => False) :
    PySem.W.WalkO q loose XP YP l.row.toRowW d [] (fun f vs => PySem.call f vs) := by
  refine Att.attach_callB most nodef fun w _ s1 mg mb fa _ _ _ _ a vals ns G Y _ _ _ emg la iv hlen bits g0 => ?_
  have kin := hY w _ Y
  obtain ⟨fd, hbd, hF⟩ := F w mg fa _ kin G.T.g emg
  exact law_callG kin G.T.g G.T.b G.T.builtins G.T.nolimit g0 la iv (Nat.le_trans hlen hn) room hF hbd fun H _ hS => hsp w H a ns hlen bits hS
/-! ### what repr shows, at the level of data -/
def shownD (d : D) : Str := match d.py with
  | some p => p.shown
  | none => ""
def Shw (n k : Nat) (d : D) : Prop := ∃ p, d.py = some p ∧ p.showable = true ∧ p.hasDict = false ∧ p.depth ≤ k ∧ p.shown.length ≤ n
theorem Shw.mono {n m k j : Nat} {d : D} (h : Shw n k d) (hn : n ≤ m) (hk : k ≤ j) : Shw m j d :=
  let ⟨p, h1, h2, h3, h4, h5⟩ := h
  ⟨p, h1, h2, h3, Nat.le_trans h4 hk, Nat.le_trans h5 hn⟩
theorem digits_len (i : Int) : (toString i).toList.length ≤ (Nat.toDigits 10 i.natAbs).length + 1 := by
  cases i with
  | ofNat m =>
    show (toString m).toList.length ≤ _
    rw [Nat.toString_eq_ofList_toDigits, String.toList_ofList]
    exact Nat.le_succ _
  | negSucc m =>
    show ("-" ++ toString (m + 1)).toList.length ≤ _
    have e : (toString (m + 1)).toList = Nat.toDigits 10 (m + 1) := by rw [Nat.toString_eq_ofList_toDigits, String.toList_ofList]
    rw [String.toList_append, List.length_append, e]
    show 1 + _ ≤ (Nat.toDigits 10 (m + 1)).length + 1
    omega
theorem ofString_len (s : String) : (Str.ofString s).length = s.toList.length := by
  rw [Str.ofString_eq_toList]
  show ((s.toList.map Char.toNat).toArray).size = _
  rw [List.size_toArray, List.length_map]
theorem shw_int (k : Nat) {i : Int} (h : i.natAbs < 10 ^ 60) : Shw 61 k (.int i) := by
  refine ⟨.int i, rfl, ?_, rfl, Nat.zero_le _, ?_⟩
  · refine decide_eq_true ?_
    by_cases z : i.natAbs = 0
    · rw [z]
      decide
    · exact (Nat.log2_lt z).mpr (Nat.lt_trans h (by decide +kernel))
  · have e := digits_len i
    have e2 := (Nat.length_toDigits_le_iff (b := 10) (n := i.natAbs) (k := 60) (by decide) (by decide)).mpr h
    have e3 := ofString_len (toString i)
    show (Str.ofString (toString i)).length ≤ 61
    omega
theorem shw_bl (k : Nat) (b : Bool) : Shw 5 k (.bl b) := ⟨.bool b, rfl, rfl, rfl, Nat.zero_le _, by cases b <;> decide⟩
theorem shw_non (k : Nat) : Shw 4 k .non := ⟨.none, rfl, rfl, rfl, Nat.zero_le _, by decide⟩
theorem hex_len (w c : Nat) (h : c < 16 ^ w) (hw : 0 < w) : (List.replicate (w - ((Nat.toDigits 16 c).map Char.toNat).length) 48 ++ (Nat.toDigits 16 c).map Char.toNat).length ≤ w := by
  have e := (Nat.length_toDigits_le_iff (b := 16) (n := c) (k := w) (by decide) hw).mpr h
  rw [List.length_append, List.length_replicate, List.length_map]
  omega
theorem reprChar_len (q : Nat) {c : Nat} (h : c < 0x110000) : (Builtin.Str.reprChar q c).length ≤ 10 := by
  unfold Builtin.Str.reprChar
  dsimp only
  split
  · show 2 ≤ 10
    decide
  split
  · show 2 ≤ 10
    decide
  split
  · show 2 ≤ 10
    decide
  split
  · show 2 ≤ 10
    decide
  split
  · show 1 ≤ 10
    decide
  split
  · rename_i h1
    have := hex_len 2 c h1 (by decide)
    rw [List.length_append]
    show 2 + _ ≤ 10
    omega
  split
  · rename_i h1
    have := hex_len 4 c h1 (by decide)
    rw [List.length_append]
    show 2 + _ ≤ 10
    omega
  · have := hex_len 8 c (by omega) (by decide)
    rw [List.length_append]
    show 2 + _ ≤ 10
    omega
theorem fold_len (q : Nat) : ∀ (l : List Nat) (n : Nat), (∀ c ∈ l, c < 0x110000) → l.foldl (fun n c => n + (Builtin.Str.reprChar q c).length) n ≤ n + 10 * l.length
  | [], n, _ => by simp
  | c :: l, n, h => by
    have e := fold_len q l (n + (Builtin.Str.reprChar q c).length) fun d hd => h d (List.mem_cons_of_mem _ hd)
    have e1 := reprChar_len q (h c List.mem_cons_self)
    rw [List.foldl_cons, List.length_cons]
    omega
theorem strOk_mem {z : Str} (h : PyData.strOk z = true) : ∀ c ∈ z.cps.toList, c < 0x110000 := by
  unfold PyData.strOk at h
  rw [← Array.all_toList, List.all_eq_true] at h
  intro c hc
  simpa using h c hc
theorem reprText_len {z : Str} (h : PyData.strOk z = true) : (reprText z).length ≤ 10 * z.length + 2 := by
  rw [← reprLen_eq, ← Array.foldl_toList]
  have e := fold_len (reprQuote z) z.cps.toList 2 (strOk_mem h)
  have e2 : z.cps.toList.length = z.length := by
    rw [Array.length_toList]
    rfl
  omega
theorem shw_str (k : Nat) {z : Str} {m : Nat} (h : PyData.strOk z = true) (hm : z.length ≤ m) : Shw (10 * m + 2) k (.str z) :=
  ⟨.str z, rfl, rfl, rfl, Nat.zero_le _, by
    have := reprText_len h
    show (reprText z).length ≤ _
    omega⟩
theorem listText_len (ts : List Str) : (listText ts).length ≤ piled ts + 2 := by
  unfold listText
  rw [strLen_append]
  cases ts with
  | nil => show 1 + 1 ≤ 0 + 2
           decide
  | cons t ts =>
    show (textFrom 1 (("[" : Str) ++ (("" : String) : Str) ++ t) ts).length + 1 ≤ _
    rw [textFrom_length_pos _ _ _ (by decide), strLen_append, strLen_append, piled_cons]
    show 1 + 0 + t.length + _ + 1 ≤ _
    omega
theorem tupleText_len (ts : List Str) : (tupleText ts).length ≤ piled ts + 3 := by
  unfold tupleText
  rw [strLen_append, strLen_append]
  have e1 : ((("(" : String) : Str)).length = 1 := rfl
  have e3 : (((if ts.length == 1 then ",)" else ")" : String) : Str)).length ≤ 2 := by split <;> decide
  rw [e1]
  by_cases h : ts = []
  · subst h
    have e4 : (Str.join ", " []).length = 0 := rfl
    rw [e4]
    omega
  · have := join_length_add ts h
    omega
theorem shw_all {n k : Nat} : ∀ {ds : List D}, (∀ d ∈ ds, Shw n k d) → ∃ ps, pyL ds = some ps ∧ PyData.showableAll ps = true ∧ PyData.hasDictAll ps = false ∧ PyData.depthAll ps ≤ k ∧ piled (PyData.shownAll ps) ≤ ds.length * (n + 2)
  | [], _ => ⟨[], rfl, rfl, rfl, Nat.zero_le _, Nat.le_of_eq (by rw [show PyData.shownAll [] = [] from rfl]; simp [piled])⟩
  | d :: ds, h => by
    obtain ⟨p, h1, h2, h3, h4, h5⟩ := h d List.mem_cons_self
    obtain ⟨ps, q1, q2, q3, q4, q5⟩ := shw_all (ds := ds) fun x hx => h x (List.mem_cons_of_mem _ hx)
    refine ⟨p :: ps, ?_, ?_, ?_, ?_, ?_⟩
    · unfold pyL
      rw [h1, q1]
    · rw [PyData.showableAll, h2, q2]
      rfl
    · rw [PyData.hasDictAll, h3, q3]
      rfl
    · rw [PyData.depthAll]
      omega
    · rw [PyData.shownAll, piled_cons, List.length_cons, Nat.succ_mul]
      omega
theorem shw_tup {n k : Nat} {ds : List D} (h : ∀ d ∈ ds, Shw n k d) : Shw (ds.length * (n + 2) + 3) (k + 1) (.tup ds) := by
  obtain ⟨ps, q1, q2, q3, q4, q5⟩ := shw_all h
  refine ⟨.tuple ps, ?_, ?_, ?_, ?_, ?_⟩
  · unfold D.py
    rw [q1]
  · rw [PyData.showable, q2]
  · rw [PyData.hasDict, q3]
  · rw [PyData.depth]
    omega
  · rw [PyData.shown]
    have := tupleText_len (PyData.shownAll ps)
    omega
theorem shw_lst {n k : Nat} {ds : List D} (h : ∀ d ∈ ds, Shw n k d) : Shw (ds.length * (n + 2) + 3) (k + 1) (.lst ds) := by
  obtain ⟨ps, q1, q2, q3, q4, q5⟩ := shw_all h
  refine ⟨.list ps, ?_, ?_, ?_, ?_, ?_⟩
  · unfold D.py
    rw [q1]
  · rw [PyData.showable, q2]
  · rw [PyData.hasDict, q3]
  · rw [PyData.depth]
    omega
  · rw [PyData.shown]
    have := listText_len (PyData.shownAll ps)
    omega
def uReprG (K : PySem.W.Frag) : List V → Hp → VK → Prop := fun xs H Q => uRepr xs H Q ∨ rReprD K xs H Q
theorem callr_or {X : Cx} {f : Value} {r q : List V → Hp → VK → Prop} (a : CallR X f r) (b : CallR X f q) : CallR X f (fun xs H Q => r xs H Q ∨ q xs H Q) := fun pins s σ H xs us Q I rv h =>
  h.elim (fun h => a pins s σ H xs us Q I rv h) fun h => b pins s σ H xs us Q I rv h
theorem uc_reprG {X : Cx} (hg : X.A.guards = some []) (hu : X.A.units + 64 < cLine) : CallR X (.builtin "repr") (uReprG X.K) := callr_or uc_repr (uc_reprD hg hu)
section
variable {K : PySem.W.Frag} {Δ : Sl} {G L : List M} {Qd : Po} {n k : Nat}
theorem ap_reprO {s : S} {d : D} {p : PyData} {w : W} {ls : List Addr} {σ : L2.St} {H : Hp} {vs : List V} {Q : VK} (c : Ctx K w ls σ H Δ G L) (r : Paired (RS K H (Rg w ls) w.gs ls) [s] vs) (ret : Ret K w ls σ Δ H Qd Q)
    (hv : valG G L s = some d) (hr : ∀ v, RS K H (Rg w ls) w.gs ls s v → ∃ a, v = .ref a) (hp : d.py = some p) (h2 : p.showable = true) (h3 : p.hasDict = false) (h4 : p.depth ≤ 63) (h5 : p.shown.length ≤ sizeLine) (q : Qd (.d (.str p.shown)) G L) : uReprG K vs H Q := by
  obtain ⟨v, rfl, rv⟩ := pair1 r
  have dp := valG_dp c rv hv hp
  obtain ⟨a, rfl⟩ := hr v rv
  exact .inr ⟨a, p, rfl, dp, h2, h3, h4, h5, ret.go c Ext.refl (s := .d (.str p.shown)) rfl q⟩
theorem ap_reprG {s : S} {d : D} (hv : valG G L s = some d) (h : Shw n k d) (hn : n ≤ sizeLine) (hk : k ≤ 63) (q : Qd (.d (.str (shownD d))) G L) : ApC K (uReprG K) [s] Δ G L Qd := by
  obtain ⟨p, hp, h2, h3, h4, h5⟩ := h
  have e : shownD d = p.shown := by
    unfold shownD
    rw [hp]
  rw [e] at q
  have h5 := Nat.le_trans h5 hn
  have h4 := Nat.le_trans h4 hk
  intro w ls σ H vs c r Q ret
  cases s with
  | l j => exact ap_reprO c r ret hv (fun v ⟨a, _, e⟩ => ⟨a, e⟩) hp h2 h3 h4 h5 q
  | g j => exact ap_reprO c r ret hv (fun v ⟨a, _, e⟩ => ⟨a, e⟩) hp h2 h3 h4 h5 q
  | d x =>
    cases hv
    cases d with
    | tup ds => exact ap_reprO c r ret rfl (fun v ⟨a, _, e, _⟩ => ⟨a, e⟩) hp h2 h3 h4 h5 q
    | lst ds => exact ap_reprO c r ret rfl (fun v ⟨a, _, e, _⟩ => ⟨a, e⟩) hp h2 h3 h4 h5 q
    | non =>
      obtain ⟨v, rfl, rv⟩ := pair1 r
      cases rv
      cases hp
      exact .inl ⟨_, _, rfl, .non, ret.go c Ext.refl (s := .d (.str "None")) rfl q⟩
    | bl b =>
      obtain ⟨v, rfl, rv⟩ := pair1 r
      cases rv
      cases hp
      refine .inl ⟨_, _, rfl, .bl b, ret.go c Ext.refl (s := .d (.str (if b then "True" else "False"))) rfl ?_⟩
      cases b <;> exact q
    | int i =>
      obtain ⟨v, rfl, rv⟩ := pair1 r
      cases rv
      cases hp
      exact .inl ⟨_, _, rfl, .int i (of_decide_eq_true h2), ret.go c Ext.refl (s := .d (.str (Str.ofString (toString i)))) rfl q⟩
    | str z =>
      obtain ⟨v, rfl, rv⟩ := pair1 r
      cases rv
      cases hp
      exact .inl ⟨_, _, rfl, .str z h5, ret.go c Ext.refl (s := .d (.str (reprText z))) rfl q⟩
    | ty n => cases hp
    | ref a => cases hp
    | scr ns => cases hp
    | dct kvs => cases hp
    | ins C fs => cases hp
    | exn a dd fs => cases hp
/-- two reprs of one datum -/
theorem ap_reprX {s : S} (h : ∃ d, valG G L s = some d ∧ ∃ n k, Shw n k d ∧ n ≤ sizeLine ∧ k ≤ 63 ∧ Qd (.d (.str (shownD d))) G L) : ApC K (uReprG K) [s] Δ G L Qd :=
  let ⟨_, hv, _, _, h, hn, hk, q⟩ := h
  ap_reprG hv h hn hk q
end
end DL

namespace DL
open PySem PySem.Spec PyProof.Rows L2
section
variable {K : PySem.W.Frag}
/-! ### an own object becomes data -/
def S.frz (k : Nat) (x : D) : S → S
  | .l j => if j = k then .d x else if j < k then .l j else .l (j - 1)
  | s => s
def noRefs (k : Nat) : List M → Bool
  | [] => true
  | .hl xs :: r => xs.all (fun s => match s with | .l j => j != k | _ => true) && noRefs k r
  | _ :: r => noRefs k r
def M.frz (k : Nat) (x : D) : M → M
  | .hl xs => .hl (xs.map (S.frz k x))
  | .dh kvs => .dh (kvs.map fun p => (p.1, p.2.frz k x))
  | m => m
theorem eraseIdx_lt {α : Type} : ∀ {l : List α} {k j : Nat}, j < k → (l.eraseIdx k)[j]? = l[j]?
  | [], _, _, _ => by simp
  | _ :: _, 0, _, h => absurd h (Nat.not_lt_zero _)
  | _ :: _, _ + 1, 0, _ => rfl
  | _ :: l, k + 1, j + 1, h => eraseIdx_lt (l := l) (Nat.lt_of_succ_lt_succ h)
theorem eraseIdx_ge {α : Type} : ∀ {l : List α} {k j : Nat}, k ≤ j → (l.eraseIdx k)[j]? = l[j + 1]?
  | [], _, _, _ => by simp
  | _ :: _, 0, _, _ => rfl
  | _ :: l, k + 1, 0, h => absurd h (Nat.not_succ_le_zero _)
  | _ :: l, k + 1, j + 1, h => eraseIdx_ge (l := l) (Nat.le_of_succ_le_succ h)
theorem mem_erase_of {ls : List Addr} {k : Nat} {a p : Addr} (h : a ∈ ls) (hk : ls[k]? = some p) (n : a ≠ p) : a ∈ ls.eraseIdx k := by
  obtain ⟨j, hj⟩ := List.mem_iff_getElem?.mp h
  rcases Nat.lt_trichotomy j k with z | z | z
  · exact List.mem_of_getElem? ((eraseIdx_lt z).trans hj)
  · subst z
    rw [hj] at hk
    exact absurd (Option.some.inj hk) n
  · refine List.mem_of_getElem? (i := j - 1) ((eraseIdx_ge (by omega)).trans ?_)
    rw [show j - 1 + 1 = j by omega]
    exact hj
theorem erase_sub {ls : List Addr} {k : Nat} {a : Addr} (h : a ∈ ls.eraseIdx k) : a ∈ ls := List.mem_of_mem_eraseIdx h
theorem paired_erase {α β : Type} {F : α → β → Prop} : ∀ {as : List α} {bs : List β} {k : Nat}, Paired F as bs → Paired F (as.eraseIdx k) (bs.eraseIdx k)
  | _, _, _, .nil => .nil
  | _, _, 0, .cons h t => t
  | _, _, k + 1, .cons h t => .cons h (paired_erase (k := k) t)
theorem nodup_erase {ls : List Addr} {k : Nat} {p : Addr} (nd : ls.Nodup) (hk : ls[k]? = some p) : p ∉ ls.eraseIdx k := by
  intro h
  obtain ⟨j, hj⟩ := List.mem_iff_getElem?.mp h
  have uniq : ∀ i, ls[i]? = some p → i = k := fun i hi => by
    have h1 := (List.getElem?_eq_some_iff.mp hi)
    have h2 := (List.getElem?_eq_some_iff.mp hk)
    exact (List.getElem_inj (h₀ := h1.1) (h₁ := h2.1) nd).mp (h1.2.trans h2.2.symm)
  rcases Nat.lt_or_ge j k with z | z
  · rw [eraseIdx_lt z] at hj
    have := uniq _ hj
    omega
  · rw [eraseIdx_ge z] at hj
    have := uniq _ hj
    omega
section
variable {w : W} {ls : List Addr} {σ : L2.St} {H : Hp} {Δ : Sl} {G L : List M}
theorem grow_frz {k : Nat} : Grow H H (Rg w ls) (Rg w (ls.eraseIdx k)) := grow_sub fun a h => erase_sub h
theorem RS.frz {gs : List Addr} {k : Nat} {p : Addr} {x : D} (hk : ls[k]? = some p) (rx : Rep K H (Rg w (ls.eraseIdx k)) x (.ref p)) : ∀ {s : S} {v : V}, RS K H (Rg w ls) gs ls s v → RS K H (Rg w (ls.eraseIdx k)) gs (ls.eraseIdx k) (s.frz k x) v
  | .d _, _, h => Rep.grow grow_frz h
  | .g _, _, h => h
  | .l j, v, ⟨a, h, e⟩ => by
    show RS K H _ gs _ (if j = k then S.d x else if j < k then S.l j else S.l (j - 1)) v
    by_cases z : j = k
    · rw [if_pos z]
      subst z
      rw [h] at hk
      cases hk
      rw [e]
      exact rx
    · rw [if_neg z]
      by_cases y : j < k
      · rw [if_pos y]
        exact ⟨a, (eraseIdx_lt y).trans h, e⟩
      · rw [if_neg y]
        refine ⟨a, (eraseIdx_ge (by omega)).trans ?_, e⟩
        rw [show j - 1 + 1 = j by omega]
        exact h
theorem paired_map3 {α β γ : Type} {F : α → β → Prop} {F' : α → γ → Prop} {f : β → γ} : ∀ {as : List α} {bs : List β}, Paired F as bs → (∀ a b, a ∈ as → F a b → F' a (f b)) → Paired F' as (bs.map f)
  | _, _, .nil, _ => .nil
  | _, _, .cons h t, k => .cons (k _ _ List.mem_cons_self h) (paired_map3 t fun a b m => k a b (List.mem_cons_of_mem _ m))
theorem paired_mapB {α β γ : Type} {F : β → α → Prop} {F' : γ → α → Prop} {f : β → γ} : ∀ {bs : List β} {as : List α}, Paired F bs as → (∀ b a, F b a → F' (f b) a) → Paired F' (bs.map f) as
  | _, _, .nil, _ => .nil
  | _, _, .cons h t, k => .cons (k _ _ h) (paired_mapB t k)
theorem MOk.frz {k : Nat} {p : Addr} {x : D} (hk : ls[k]? = Option.some p) (rx : Rep K H (Rg w (ls.eraseIdx k)) x (.ref p)) {a : Addr} : ∀ {m : M}, MOk K H (Rg w ls) w.gs ls a m → MOk K H (Rg w (ls.eraseIdx k)) w.gs (ls.eraseIdx k) a (m.frz k x)
  | .pl _, ⟨vs, h, r⟩ => ⟨vs, h, RepL.grow grow_frz r⟩
  | .hl _, ⟨vs, h, r⟩ => ⟨vs, h, paired_mapB r fun _ _ q => q.frz hk rx⟩
  | .dc _, ⟨vs, h, r⟩ => ⟨vs, h, RepK.grow grow_frz r⟩
  | .ob _ _, ⟨dx, vs, h, r⟩ => ⟨dx, vs, h, RepF.grow grow_frz r⟩
  | .dh _, ⟨vs, h, r⟩ => ⟨vs, h, paired_mapB r fun _ _ q => ⟨q.1, q.2.frz hk rx⟩⟩
  | .dt _, h => h
theorem Ctx.frz {k : Nat} {m : M} {x : D} (c : Ctx K w ls σ H Δ G L) (hm : L[k]? = some m) (hx : m.dat = some x) : Ctx K w (ls.eraseIdx k) σ H (Δ.map (Option.map (S.frz k x))) G ((L.eraseIdx k).map (M.frz k x)) := by
  obtain ⟨p, hp, q⟩ := paired_get c.lo hm
  have ndl := (List.nodup_append.mp c.nd).2.1
  have np : ¬ Rg w (ls.eraseIdx k) p := by
    rintro (r | r)
    · exact c.ld p (List.mem_of_getElem? hp) r
    · exact nodup_erase ndl hp r
  have rx : Rep K H (Rg w (ls.eraseIdx k)) x (.ref p) := by
    cases m with
    | pl ds =>
      cases hx
      obtain ⟨vs, h1, r⟩ := q
      exact ⟨p, vs, rfl, ⟨h1, np⟩, r.grow grow_frz⟩
    | hl xs => cases hx
    | dc ds =>
      cases hx
      obtain ⟨vs, h1, r⟩ := q
      exact ⟨p, vs, rfl, ⟨h1, np⟩, r.grow grow_frz⟩
    | ob C ds =>
      cases hx
      obtain ⟨dx, vs, h1, r⟩ := q
      exact ⟨p, dx, vs, rfl, ⟨h1, np⟩, r.grow grow_frz⟩
    | dh kvs => cases hx
    | dt kvs => cases hx
  refine ⟨c.reg, c.rin, ?_, fun a h => c.fr a (erase_sub h), c.h0, ?_, paired_map c.gl fun a m _ q => q.grow grow_frz (Pre.refl _) (Pre.refl _) fun _ z => z, ?_, fun a h => c.ld a (erase_sub h)⟩
  · have nd := List.nodup_append.mp c.nd
    exact List.nodup_append.mpr ⟨nd.1, nd.2.1.eraseIdx k, fun a ha b hb => nd.2.2 a ha b (erase_sub hb)⟩
  · refine ⟨by rw [List.length_map]; exact c.sl.1, fun i s e => ?_⟩
    rw [List.getElem?_map] at e
    cases e2 : Δ[i]? with
    | none =>
      rw [e2] at e
      cases e
    | some y =>
      rw [e2] at e
      cases y with
      | none => cases e
      | some z =>
        have e := Option.some.inj e
        have e : z.frz k x = s := Option.some.inj e
        subst e
        obtain ⟨v, h1, h2⟩ := c.sl.2 i z e2
        exact ⟨v, h1, h2.frz hp rx⟩
  · exact paired_map3 (paired_erase c.lo) fun a m _ q => q.frz hp rx
end
section
variable {Δ : Sl} {G L : List M} {E : EndsD} {t : TS}
/-- THE FREEZE: the own object k is from here on data -/
theorem st_frz (k : Nat) (h : ∃ m x, L[k]? = some m ∧ m.dat = some x ∧ StC K t (Δ.map (Option.map (S.frz k x))) G ((L.eraseIdx k).map (M.frz k x)) E) : StC K t Δ G L E := fun w ls σ H c D s => by
  obtain ⟨m, x, hm, hx, h⟩ := h
  exact h w (ls.eraseIdx k) σ H (c.frz hm hx) D (s.on grow_frz)
end
section
variable {Δ : Sl} {G L : List M} {E : EndsD} {ta : TA} {Qd : Po}
theorem st_par {i j : Nat} (h : EvA K ta Δ G L fun ss G1 L1 => ∃ x y, ss = [x, y] ∧ E.nx ((Δ.set i (some x)).set j (some y)) G1 L1) : StC K (tPar i j ta) Δ G L E := fun w ls σ H c D s => h w ls σ H c _ fun vs ss H2 G2 L2 c2 e2 r2 ⟨x, y, e, k⟩ => by
  subst e
  obtain ⟨v, u, rfl, rx, ry⟩ := pair2 r2
  exact ⟨v, u, rfl, s.nx ls _ H2 _ G2 L2 ((c2.slot rx).slot ry) (e2.grow c.reg) k⟩
theorem u_eq_ss {z : Str} (k : Qd (.d (.bl true)) G L) : OpC K (uEq K) (.d (.str z)) (.d (.str z)) Δ G L Qd := u_eq_s (by rw [decide_eq_true rfl]; exact k)
theorem u_ne_ss {z : Str} (k : Qd (.d (.bl false)) G L) : OpC K (uNe K) (.d (.str z)) (.d (.str z)) Δ G L Qd := u_ne_s (by rw [decide_eq_true rfl]; exact k)
end
theorem iteDr {α : Type} {a : α} [DecidableEq α] {A B : Prop} (h : A) : if decide (a = a) = true then A else B := by
  rw [if_pos (decide_eq_true rfl)]
  exact h
theorem iteNDr {α : Type} {a : α} [DecidableEq α] {A B : Prop} (h : B) : if (!decide (a = a)) = true then A else B := by
  rw [if_neg (by rw [decide_eq_true rfl]; decide)]
  exact h
section
variable {Δ : Sl} {G L : List M} {Qd : Po}
theorem u_get_intX {k : Nat} {i : Int} (h : ∃ xs : List Int, L[k]? = some (.pl (xs.map D.int)) ∧ (0 ≤ i ∧ i < (xs.length : Nat)) ∧ Qd (.d (.int (xs.getD i.toNat 0))) G L) : OpC K (rIxL K) (.l k) (.d (.int i)) Δ G L Qd :=
  let ⟨_, hx, h, q⟩ := h
  u_get_int hx h.1 h.2 q
theorem sto_intX {k : Nat} {i z : Int} {Qt : List M → List M → Prop} (h : ∃ xs : List Int, L[k]? = some (.pl (xs.map D.int)) ∧ (0 ≤ i ∧ i < (xs.length : Nat)) ∧ Qt G (L.set k (.pl ((xs.set i.toNat z).map D.int)))) : StoC K rSetL (.l k) (.d (.int i)) (.d (.int z)) Δ G L Qt :=
  let ⟨_, hx, h, q⟩ := h
  sto_int hx h.1 h.2 q
theorem u_ix_intX {x : S} {i : Int} (h : ∃ xs : List Int, seqG G L x = some (xs.map D.int) ∧ (0 ≤ i ∧ i < (xs.length : Nat)) ∧ Qd (.d (.int (xs.getD i.toNat 0))) G L) : OpC K (rIx K) x (.d (.int i)) Δ G L Qd :=
  let ⟨_, hx, h, q⟩ := h
  u_ix_int hx h.1 h.2 q
/-- [x, y][int(b)] -/
theorem u_ix_if2 {x y : Int} {b : Bool} (k : ∀ z : Int, (b = true ∧ z = y) ∨ (b = false ∧ z = x) → Qd (.d (.int z)) G L) : OpC K (rIx K) (.d (.lst [.int x, .int y])) (.d (.int (if b = true then 1 else 0))) Δ G L Qd := by
  cases b with
  | true => exact u_ix_g (xs := [.int x, .int y]) (i := if true = true then 1 else 0) (d := .int y) rfl rfl (k y (.inl ⟨rfl, rfl⟩))
  | false => exact u_ix_g (xs := [.int x, .int y]) (i := if false = true then 1 else 0) (d := .int x) rfl rfl (k x (.inr ⟨rfl, rfl⟩))
theorem u_ix_if2D {x y : D} {b : Bool} (k : ∀ z : D, (b = true ∧ z = y) ∨ (b = false ∧ z = x) → Qd (.d z) G L) : OpC K (rIx K) (.d (.lst [x, y])) (.d (.int (if b = true then 1 else 0))) Δ G L Qd := by
  cases b with
  | true => exact u_ix_g (xs := [x, y]) (i := if true = true then 1 else 0) (d := y) rfl rfl (k y (.inl ⟨rfl, rfl⟩))
  | false => exact u_ix_g (xs := [x, y]) (i := if false = true then 1 else 0) (d := x) rfl rfl (k x (.inr ⟨rfl, rfl⟩))
end
/-! ### comprehensions that look at an own object, which they leave alone -/
structure ItOkK (K : PySem.W.Frag) (w : W) (ls : List Addr) (J : It) (H1 : Hp) (items : List D) (keep : List M → List M → Prop) : Prop where
  go : ∀ H2 w2 σ2 Δ2 G2 L2 i d, w2.gs = w.gs → Grow H1 H2 (Rg w ls) (Rg w2 ls) → Ctx K w2 ls σ2 H2 Δ2 G2 L2 → keep G2 L2 → items[i]? = some d → J.go i H2 ∧ ∀ x H', J.yld i H2 x H' → Ctx K w2 ls σ2 H' Δ2 G2 L2 ∧ Ext w2 ls H2 H' ∧ Rep K H' (Rg w2 ls) d x
  stop : ∀ H2 w2 σ2 Δ2 G2 L2, w2.gs = w.gs → Grow H1 H2 (Rg w ls) (Rg w2 ls) → Ctx K w2 ls σ2 H2 Δ2 G2 L2 → keep G2 L2 → J.stop items.length H2
def EvIK (K : PySem.W.Frag) (wi : TI) (Δ : Sl) (G L : List M) (Qi : List D → (List M → List M → Prop) → List M → List M → Prop) : Prop :=
  ∀ w ls σ H, Ctx K w ls σ H Δ G L → ∀ R : It → Hp → Prop, (∀ J H1 items keep G1 L1, Ctx K w ls σ H1 Δ G1 L1 → Ext w ls H H1 → ItOkK K w ls J H1 items keep → Qi items keep G1 L1 → R J H1) → wi σ H R
section
variable {Δ : Sl} {G L : List M} {te : TE} {tt : TT} {wi : TI} {g : TG} {vs : List Nat} {Qn : PoN}
theorem evik_of {Qi : List D → (List M → List M → Prop) → List M → List M → Prop} (h : EvI K wi Δ G L fun items G1 L1 => Qi items (fun _ _ => True) G1 L1) : EvIK K wi Δ G L Qi := fun w ls σ H c R q =>
  h w ls σ H c R fun J H1 items G1 L1 c1 e1 it k => q J H1 items _ G1 L1 c1 e1 ⟨fun H2 w2 σ2 Δ2 G2 L2 i d _ gr c2 _ hi => it.go H2 w2 ls σ2 Δ2 G2 L2 i d gr c2 hi, fun H2 w2 σ2 Δ2 G2 L2 _ gr _ _ => it.stop H2 w2 ls gr⟩ k
theorem evn_lcK (h : EvIK K wi Δ G L fun items keep G1 L1 => ∃ P : Nat → List D → List M → List M → Prop, (∀ i acc G' L', P i acc G' L' → keep G' L') ∧ P 0 [] G1 L1 ∧ items.length < sizeLine ∧
    (∀ i d acc G' L', items[i]? = some d → acc.length ≤ i → P i acc G' L' → TgC K g (· ∈ vs) (.d d) (wipeD Δ vs) G' L' fun Δ2 G2 L2 =>
      EvB K tt Δ2 G2 L2 fun b G3 L3 => if b = true then EvC K te Δ2 G3 L3 fun s G4 L4 => ∃ x, s = .d x ∧ P (i + 1) (acc ++ [x]) G4 L4 else P (i + 1) acc G3 L3) ∧
    ∀ acc G' L', P items.length acc G' L' → Qn (.pl acc) G' L') : EvN K (tLc wi g tt te vs) Δ G L Qn := fun w ls σ H c Q r =>
  h w ls σ H c _ fun J H1 items keep G1 L1 c1 e1 it ⟨P, pk, p0, hz, ps, pe⟩ => fun D hD => by
    have nR := c1.free hD
    have n0 := c1.free0 hD
    have ng : D ∉ w.gs := fun z => nR (.inl (c1.reg D z))
    have nl : D ∉ ls := fun z => nR (.inr z)
    have cH := c1.hide (o := .lst []) hD
    have gH : Grow H1 (upd H1 D (.lst [])) (Rg w ls) (Rg (w.add D) ls) := ((grow_reg hD).trans (grow_iff fun a r => rg_add.mp r)).trans (grow_new hD)
    refine ⟨fun i m H' => m = items.length - i ∧ i ≤ items.length ∧ ∃ acc vs' G' L', Ctx K (w.add D) ls σ H' Δ G' L' ∧ Grow H1 H' (Rg w ls) (Rg (w.add D) ls) ∧ Ext w ls H1 H' ∧ H' D = some (.lst vs') ∧ RepL K H' (Rg (w.add D) ls) acc vs' ∧ acc.length ≤ i ∧ P i acc G' L',
      ⟨_, rfl, Nat.zero_le _, [], [], G1, L1, cH, gH, Ext.new hD, upd_same, rfl, Nat.le_refl _, p0⟩, ?_⟩
    rintro i m H' ⟨rfl, hi, acc, vs', G', L', c', g', e', hD', r', hl, p⟩
    by_cases hlt : i < items.length
    · obtain ⟨go, yl⟩ := it.go H' (w.add D) (wipe σ vs) (wipeD Δ vs) G' L' i _ rfl g' (c'.wipe vs) (pk i acc G' L' p) (List.getElem?_eq_getElem hlt)
      refine .inr ⟨go, fun H2 => ∃ acc2 vs2 G2 L2, Ctx K (w.add D) ls σ H2 Δ G2 L2 ∧ Grow H1 H2 (Rg w ls) (Rg (w.add D) ls) ∧ Ext w ls H1 H2 ∧ H2 D = some (.lst vs2) ∧ RepL K H2 (Rg (w.add D) ls) acc2 vs2 ∧ acc2.length ≤ i + 1 ∧ P (i + 1) acc2 G2 L2,
        fun H2 ⟨acc2, vs2, G2, L2, q⟩ => ⟨_, by omega, rfl, hlt, acc2, vs2, G2, L2, q⟩, fun x H3 hy => ?_⟩
      obtain ⟨c3, e3, r3⟩ := yl x H3 hy
      refine ps i _ acc G' L' (List.getElem?_eq_getElem hlt) hl p (w.add D) ls _ H3 x c3 r3 _ fun σ4 H4 Δ4 G4 L4 c4 e4 l4 o4 k4 => ?_
      have hw : wipe σ4 vs = wipe σ vs := wipe_eq (l4.trans (wipe_length _ _)) o4
      have back : ∀ H5 G5 L5, Ctx K (w.add D) ls σ4 H5 Δ4 G5 L5 → Ext (w.add D) ls H' H5 → Ctx K (w.add D) ls σ H5 Δ G5 L5 := fun H5 G5 L5 c5 e5 =>
        ⟨c5.reg, c5.rin, c5.nd, c5.fr, c5.h0, c'.sl.grow (e5.grow c'.reg) (Pre.refl _) (Pre.refl _), c5.gl, c5.lo, c5.ld⟩
      have exw : ∀ H5, Ext (w.add D) ls H' H5 → Ext w ls H1 H5 := fun H5 e5 a o h1 h2 h3 => e5 a o (e' a o h1 h2 h3) h2 h3
      refine ⟨hw, k4 (w.add D) ls σ4 H4 c4 _ fun b H5 G5 L5 c5 e5 k5 => ?_⟩
      have e45 : Ext (w.add D) ls H' H5 := (e3.trans e4).trans e5
      cases b with
      | true =>
        rw [if_pos rfl] at k5 ⊢
        refine k5 (w.add D) ls σ4 H5 c5 _ fun v s H6 G6 L6 c6 e6 r6 ⟨y, e, k6⟩ => ?_
        subst e
        have e46 := e45.trans e6
        have h6 : H6 D = some (.lst vs') := e46 D _ hD' ng nl
        have r6' := r'.grow (e46.grow c'.reg)
        have gu : Grow H6 (upd H6 D (.lst (vs' ++ [v]))) (Rg (w.add D) ls) (Rg (w.add D) ls) := grow_upd (.inl (.inr rfl))
        refine ⟨vs', h6, by rw [r'.length]; omega, acc ++ [y], vs' ++ [v], G6, L6, Ctx.setH (back H6 G6 L6 c6 e46) h6 n0 ng nl, g'.trans ((e46.grow c'.reg).trans gu), ?_, upd_same, (r6'.app (RepL.one r6)).grow gu, by rw [List.length_append]; show acc.length + 1 ≤ i + 1; omega, k6⟩
        intro a o h1 h2 h3
        rw [upd_ne (ne_of_none h1 hD)]
        exact exw H6 e46 a o h1 h2 h3
      | false =>
        rw [if_neg Bool.false_ne_true] at k5 ⊢
        exact ⟨acc, vs', G5, L5, back H5 G5 L5 c5 e45, g'.trans (e45.grow c'.reg), exw H5 e45, e45 D _ hD' ng nl, r'.grow (e45.grow c'.reg), by omega, k5⟩
    · have e : i = items.length := by omega
      subst e
      exact .inl ⟨it.stop H' (w.add D) (wipe σ vs) (wipeD Δ vs) G' L' rfl g' (c'.wipe vs) (pk _ acc G' L' p), r D _ H' G' L' (none_back c1 e1 hD) (c'.show c.reg hD' r' n0 ng nl (fun z => nR (.inl z))) (e1.trans e') (pe acc G' L' p)⟩
/-- .. that changes nothing -/
theorem evn_lcFK (kp : D → Bool) (val : D → D) (h : EvIK K wi Δ G L fun items keep G1 L1 => keep G1 L1 ∧ items.length < sizeLine ∧
    (∀ d ∈ items, TgC K g (· ∈ vs) (.d d) (wipeD Δ vs) G1 L1 fun Δ2 G2 L2 => EvB K tt Δ2 G2 L2 fun b G3 L3 => b = kp d ∧ (b = true → EvC K te Δ2 G3 L3 fun s G4 L4 => s = .d (val d) ∧ G4 = G1 ∧ L4 = L1) ∧ (b = false → G3 = G1 ∧ L3 = L1)) ∧
    Qn (.pl ((items.filter kp).map val)) G1 L1) : EvN K (tLc wi g tt te vs) Δ G L Qn := by
  refine evn_lcK fun w ls σ H c R q => h w ls σ H c R fun J H1 items keep G1 L1 c1 e1 it ⟨hk, hz, hs, hq⟩ => q J H1 items keep G1 L1 c1 e1 it ?_
  refine ⟨fun i acc G' L' => G' = G1 ∧ L' = L1 ∧ acc = ((items.take i).filter kp).map val, ?_, ⟨rfl, rfl, by rw [List.take_zero]; rfl⟩, hz, ?_, ?_⟩
  · rintro i acc G' L' ⟨rfl, rfl, _⟩
    exact hk
  · rintro i d acc G' L' hd _ ⟨rfl, rfl, rfl⟩
    have e : items.take (i + 1) = items.take i ++ [d] := by
      rw [List.take_succ, hd]
      rfl
    intro w ls σ H v c r Q k
    refine hs d (List.mem_of_getElem? hd) w ls σ H v c r Q fun σ' H' Δ' G2 L2 c' e' l' o' hb => k σ' H' Δ' G2 L2 c' e' l' o' ?_
    intro w ls σ H c Q k
    refine hb w ls σ H c Q fun b H' G3 L3 c' e' ⟨h1, h2, h3⟩ => k b H' G3 L3 c' e' ?_
    cases b with
    | true =>
      refine iteTT ((h2 rfl).imp fun s G4 L4 ⟨h4, h5, h6⟩ => ⟨val d, h4, h5, h6, ?_⟩)
      rw [e, List.filter_append, List.map_append, List.filter_cons, if_pos h1.symm]
      rfl
    | false =>
      obtain ⟨h4, h5⟩ := h3 rfl
      refine iteFF ⟨h4, h5, ?_⟩
      rw [e, List.filter_append, List.map_append, List.filter_cons, if_neg (by rw [← h1]; decide)]
      exact (List.append_nil _).symm
  · rintro acc G' L' ⟨rfl, rfl, rfl⟩
    rw [List.take_length]
    exact hq
end
section
variable {Δ : Sl} {G L : List M} {ta : TA}
theorem RS.other {w w2 : W} {ls : List Addr} {H H2 : Hp} {s : S} {v : V} (eg : w2.gs = w.gs) (g : Grow H H2 (Rg w ls) (Rg w2 ls)) (r : RS K H (Rg w ls) w.gs ls s v) : RS K H2 (Rg w2 ls) w2.gs ls s v := by
  rw [eg]
  exact r.grow g (Pre.refl _) (Pre.refl _)
def enumD (k : Nat) : List D → List D
  | [] => []
  | d :: ds => .tup [.int (k : Nat), d] :: enumD (k + 1) ds
theorem enumD_len : ∀ {ds : List D} {k : Nat}, (enumD k ds).length = ds.length
  | [], _ => rfl
  | _ :: ds, k => congrArg (· + 1) (enumD_len (ds := ds) (k := k + 1))
theorem enumD_get : ∀ {ds : List D} {k i : Nat} {d : D}, (enumD k ds)[i]? = some d → ∃ x, ds[i]? = some x ∧ d = .tup [.int ((k + i : Nat) : Int), x]
  | [], _, _, _, h => by cases h
  | x :: ds, k, 0, d, h => by
    cases h
    exact ⟨x, rfl, rfl⟩
  | x :: ds, k, i + 1, d, h => by
    obtain ⟨y, h1, h2⟩ := enumD_get (ds := ds) (k := k + 1) (i := i) h
    refine ⟨y, h1, ?_⟩
    rw [h2]
    have e : k + 1 + i = k + (i + 1) := by omega
    rw [e]
/-- enumerate(a list), own or data -/
theorem evik_enum {Qi : List D → (List M → List M → Prop) → List M → List M → Prop} (h : EvA K ta Δ G L fun ss G1 L1 => ∃ s ds, ss = [s] ∧ lsG G1 L1 s = some ds ∧ Qi (enumD 0 ds) (fun G2 L2 => lsG G2 L2 s = some ds) G1 L1) : EvIK K (iEnum K ta) Δ G L Qi := fun w ls σ H c R q =>
  h w ls σ H c _ fun us ss H2 G2 L2 c2 e2 r2 ⟨s, ds, e, hs, k⟩ => by
    subst e
    obtain ⟨v, rfl, rv⟩ := pair1 r2
    obtain ⟨a, xs, rfl, h1, q1⟩ := lsG_get c2 rv hs
    refine ⟨a, xs, rfl, .inl (.inl h1), q _ H2 _ _ G2 L2 c2 e2 ⟨fun H3 w2 σ2 Δ2 G3 L3 i d eg g c3 hk hi => ?_, fun H3 w2 σ2 Δ2 G3 L3 eg g c3 hk => ?_⟩ k⟩
    · obtain ⟨b, ys, eb, h3, q3⟩ := lsG_get c3 (rv.other eg g) hk
      cases eb
      obtain ⟨x, hx, rfl⟩ := enumD_get hi
      obtain ⟨y, hy, ry⟩ := q3.get hx
      refine ⟨⟨ys, y, .inl (.inl h3), hy⟩, fun u H' ⟨T, z, eu, hT, hH, hz⟩ => ?_⟩
      subst hH
      subst eu
      have e := hz ys (.inl (.inl h3))
      rw [hy] at e
      cases e
      rw [Nat.zero_add]
      exact ⟨c3.new hT, Ext.new hT, rep_tup c3 hT ⟨_, _, rfl, rfl, RepL.one ry⟩⟩
    · obtain ⟨b, ys, eb, h3, q3⟩ := lsG_get c3 (rv.other eg g) hk
      cases eb
      refine ⟨ys, .inl (.inl h3), ?_⟩
      rw [enumD_len, q3.length]
      exact Nat.le_refl _
/-- a list, own or data -/
theorem evik_seq {tl : TE} {Qi : List D → (List M → List M → Prop) → List M → List M → Prop} (h : EvC K tl Δ G L fun s G1 L1 => ∃ ds, lsG G1 L1 s = some ds ∧ Qi ds (fun G2 L2 => lsG G2 L2 s = some ds) G1 L1) : EvIK K (iSeq K tl) Δ G L Qi := fun w ls σ H c R q =>
  h w ls σ H c _ fun v s H2 G2 L2 c2 e2 rv ⟨ds, hs, k⟩ => by
    obtain ⟨a, xs, rfl, h1, q1⟩ := lsG_get c2 rv hs
    refine .inl ⟨a, rfl, ⟨xs, .inl (.inl h1)⟩, q _ H2 _ _ G2 L2 c2 e2 ⟨fun H3 w2 σ2 Δ2 G3 L3 i d eg g c3 hk hi => ?_, fun H3 w2 σ2 Δ2 G3 L3 eg g c3 hk => ?_⟩ k⟩
    · obtain ⟨b, ys, eb, h3, q3⟩ := lsG_get c3 (rv.other eg g) hk
      cases eb
      obtain ⟨y, hy, ry⟩ := q3.get hi
      refine ⟨⟨ys, y, .inl (.inl h3), hy⟩, fun u H' ⟨hH, hz⟩ => ?_⟩
      subst hH
      have e := hz ys (.inl (.inl h3))
      rw [hy] at e
      cases e
      exact ⟨c3, Ext.refl, ry⟩
    · obtain ⟨b, ys, eb, h3, q3⟩ := lsG_get c3 (rv.other eg g) hk
      cases eb
      exact ⟨ys, .inl (.inl h3), Nat.le_of_eq q3.length⟩
/-- enumerate(a list of data), for loops -/
theorem evi_enum {Qi : List D → List M → List M → Prop} (h : EvA K ta Δ G L fun ss G1 L1 => ∃ ds, ss = [.d (.lst ds)] ∧ Qi (enumD 0 ds) G1 L1) : EvI K (iEnum K ta) Δ G L Qi := fun w ls σ H c R q =>
  h w ls σ H c _ fun us ss H2 G2 L2 c2 e2 r2 ⟨ds, e, k⟩ => by
    subst e
    obtain ⟨v, rfl, rv⟩ := pair1 r2
    obtain ⟨a, xs, rfl, ⟨h1, n1⟩, q1⟩ := rv
    refine ⟨a, xs, rfl, .inl (.inl h1), q _ H2 _ G2 L2 c2 e2 ⟨fun H3 w2 ls2 σ2 Δ2 G3 L3 i d g c3 hi => ?_, fun H3 w2 ls2 g => ?_⟩ k⟩
    · obtain ⟨x, hx, rfl⟩ := enumD_get hi
      obtain ⟨y, hy, ry⟩ := (q1.grow g).get hx
      have h3 := g.keep a _ h1 n1
      refine ⟨⟨xs, y, .inl (.inl h3), hy⟩, fun u H' ⟨T, z, eu, hT, hH, hz⟩ => ?_⟩
      subst hH
      subst eu
      have e := hz xs (.inl (.inl h3))
      rw [hy] at e
      cases e
      rw [Nat.zero_add]
      exact ⟨c3.new hT, Ext.new hT, rep_tup c3 hT ⟨_, _, rfl, rfl, RepL.one ry⟩⟩
    · refine ⟨xs, .inl (.inl (g.keep a _ h1 n1)), ?_⟩
      rw [enumD_len, q1.length]
      exact Nat.le_refl _
end
end
end DL

namespace DL
open PySem PySem.Spec PyProof.Rows L2
/-! ### the deck: a list [cells, seed, count], the cells a list of ints -/
structure Dk (G : List M) (k c : Nat) (n : Int) (cells : List Int) (seed cnt : Int) : Prop where
  hk : G[k]? = some (.hl [.g c, .d (.int seed), .d (.int cnt)])
  hc : G[c]? = some (.pl (cells.map D.int))
  ne : k ≠ c
  s0 : 0 ≤ seed
  s1 : seed < 2 ^ 62
  n0 : 0 ≤ cnt
  n1 : cnt ≤ n
  cl : cells.length ≤ 1000
def dkSet (G : List M) (k c : Nat) (cells : List Int) (seed cnt : Int) : List M := (G.set c (.pl (cells.map D.int))).set k (.hl [.g c, .d (.int seed), .d (.int cnt)])
/-- what a draw leaves: the deck itself otherwise, all else as it was -/
def DkTo (G : List M) (k c : Nat) (n : Int) (G' : List M) : Prop := ∃ cells seed cnt, G' = dkSet G k c cells seed cnt ∧ Dk G' k c n cells seed cnt
theorem dkTo_mk {G : List M} {k c : Nat} {n : Int} {cells : List Int} {seed cnt : Int} {x y : M} (hk : G[k]? = some x) (hc : G[c]? = some y) (ne : k ≠ c) (s0 : 0 ≤ seed) (s1 : seed < 2 ^ 62) (n0 : 0 ≤ cnt) (n1 : cnt ≤ n) (cl : cells.length ≤ 1000) :
    DkTo G k c n ((G.set k (.hl [.g c, .d (.int seed), .d (.int cnt)])).set c (.pl (cells.map D.int))) := by
  refine ⟨cells, seed, cnt, set_comm ne, ?_⟩
  rw [set_comm ne]
  exact ⟨set_at ((set_off ne).trans hk), by rw [set_off (Ne.symm ne)]; exact set_at hc, ne, s0, s1, n0, n1, cl⟩
def spDraw : DSpec := fun ss G Q => ∃ (k c : Nat) (m n : Int) (cells : List Int) (seed cnt : Int), ss = [.g k, .d (.int m)] ∧ Dk G k c n cells seed cnt ∧ n ≤ 2 ^ 32 ∧ 0 < m ∧ m < 2 ^ 60 ∧
  ∀ r G', DkTo G k c (n + 1) G' → 0 ≤ r → r < m → Q (.v (.d (.int r))) G'
theorem DkTo.dk {G G' : List M} {k c : Nat} {n : Int} (h : DkTo G k c n G') : ∃ cells seed cnt, Dk G' k c n cells seed cnt := let ⟨a, b, d, _, e⟩ := h; ⟨a, b, d, e⟩
theorem DkTo.trans {G G1 G2 : List M} {k c : Nat} {n m : Int} (h : DkTo G k c n G1) (h2 : DkTo G1 k c m G2) : DkTo G k c m G2 := by
  obtain ⟨a, b, d, rfl, q⟩ := h
  obtain ⟨a', b', d', rfl, q'⟩ := h2
  refine ⟨a', b', d', ?_, q'⟩
  unfold dkSet
  rw [set_comm (Ne.symm q'.ne), set_set, set_comm q'.ne, set_set]
theorem DkTo.refl {G : List M} {k c : Nat} {n : Int} {cells : List Int} {seed cnt : Int} (h : Dk G k c n cells seed cnt) : DkTo G k c n G := by
  refine ⟨cells, seed, cnt, ?_, h⟩
  unfold dkSet
  rw [set_same h.hc, set_same h.hk]
theorem DkTo.mono {G G' : List M} {k c : Nat} {n m : Int} (h : DkTo G k c n G') (e : n ≤ m) : DkTo G k c m G' := by
  obtain ⟨a, b, d, rfl, q⟩ := h
  exact ⟨a, b, d, rfl, ⟨q.hk, q.hc, q.ne, q.s0, q.s1, q.n0, Int.le_trans q.n1 e, q.cl⟩⟩
theorem draw_use {G : List M} {k c : Nat} {m n : Int} {cells : List Int} {seed cnt : Int} {Q : Res → List M → Prop} (h : Dk G k c n cells seed cnt) (h1 : n ≤ 2 ^ 32) (h2 : 0 < m) (h3 : m < 2 ^ 60)
    (k' : ∀ r G' cells' seed' cnt', DkTo G k c (n + 1) G' → Dk G' k c (n + 1) cells' seed' cnt' → 0 ≤ r → r < m → Q (.v (.d (.int r))) G') : spDraw [.g k, .d (.int m)] G Q :=
  ⟨k, c, m, n, cells, seed, cnt, rfl, h, h1, h2, h3, fun r G' t a b => let ⟨x, y, z, q⟩ := t.dk; k' r G' x y z t q a b⟩
def spDeck : DSpec := fun ss G Q => ∃ ns : List Int, ss = [.d (.scr ns)] ∧ ns.length ≤ 63 ∧ ∀ (cells : List Int) (seed : Int), cells.length ≤ 63 → 0 ≤ seed → seed < 2 ^ 62 → Q (.new [.pl (cells.map D.int), .hl [.l 0, .d (.int seed), .d (.int 0)]] 1) G
def spLaw : DSpec := fun ss G Q => ∃ ns : List Int, ss = [.d (.scr ns)] ∧ G = [] ∧ ns.length ≤ 63 ∧ Q (.v (.d (.bl true))) []
theorem spLaw_in {ns : List Int} (h : ns.length ≤ 63) (hb : ∀ z ∈ ns, Builtin.Int.intBits z ≤ 1048576) : spLaw [.d (.scr ns)] [] fun r _ => r = .v (.d (.bl true)) := ⟨ns, rfl, rfl, h, rfl⟩
/-- the law's own objects stand from here on as a caller's -/
theorem st_law {K : PySem.W.Frag} {Δ : Sl} {L : List M} {t : TS} {Qd : Res → List M → Prop} (h : StC K t (Δ.map (Option.map S.pro)) (L.map M.pro) [] { nx := fun _ _ _ => Qd (.v (.d .non)) [], rt := fun s _ _ => ∃ x, s = .d x ∧ Qd (.v (.d x)) [] }) : StC K t Δ [] L (endsD Qd) := fun w ls σ H c D s => by
  have hg : w.gs = [] := List.eq_nil_of_length_eq_zero (paired_len c.gl)
  have cf : ∀ ls' σ' H' Δ' G' L', Ctx K ⟨Rg w ls, ls, w.H0⟩ ls' σ' H' Δ' G' L' → Ctx K w [] [] H' [] [] [] := fun ls' σ' H' Δ' G' L' c' =>
    ⟨fun a h => (by rw [hg] at h; cases h), fun a r => c'.rin a (.inl r), (by rw [hg]; exact List.nodup_nil), fun a h => (by cases h), fun a o e _ => c'.h0 a o e (fun m => by rw [c.fr a m] at e; cases e), ⟨rfl, fun i s e => by simp at e⟩, (by rw [hg]; exact .nil), .nil, fun a h => (by cases h)⟩
  have gr : ∀ ls' H', Grow H' H' (Rg ⟨Rg w ls, ls, w.H0⟩ ls') (Rg w []) := fun ls' H' => grow_iff fun a r => .inl (.inl (r.elim id fun z => by cases z))
  have g0 : Grow H H (Rg w ls) (Rg ⟨Rg w ls, ls, w.H0⟩ []) := grow_iff fun a r => r.elim id fun z => by cases z
  refine h ⟨Rg w ls, ls, w.H0⟩ [] σ H ⟨fun a m => .inr m, fun a r => r.elim (c.rin a) c.lin, (by rw [List.append_nil]; exact (List.nodup_append.mp c.nd).2.1), fun a m => (by cases m), fun a o e _ => c.h0 a o e (by rw [hg]; exact fun m => by cases m), ?_, ?_, .nil, fun a m => (by cases m)⟩ D ⟨?_, ?_, ?_, ?_, fun _ _ _ => trivial⟩
  · refine ⟨by rw [List.length_map]; exact c.sl.1, fun i s e => ?_⟩
    rw [List.getElem?_map] at e
    cases e2 : Δ[i]? with
    | none =>
      rw [e2] at e
      cases e
    | some y =>
      rw [e2] at e
      cases y with
      | none => cases e
      | some z =>
        have e : z.pro = s := Option.some.inj (Option.some.inj e)
        subst e
        obtain ⟨v, h1, h2⟩ := c.sl.2 i z e2
        rw [hg] at h2
        exact ⟨v, h1, (RS.pro h2).grow g0 (Pre.refl _) (Pre.refl _)⟩
  · refine paired_map2 c.lo fun a m q => ?_
    rw [hg] at q
    exact (MOk.pro q).grow g0 (Pre.refl _) (Pre.refl _) fun _ z => z
  · intro ls' σ' H' Δ' G' L' c' g' q
    have c0 := cf _ _ _ _ _ _ c'
    refine s.nx [] σ' H' (List.replicate σ'.length none) [] [] ⟨c0.reg, c0.rin, c0.nd, c0.fr, c0.h0, ⟨by rw [List.length_replicate], fun i z e => ?_⟩, c0.gl, c0.lo, c0.ld⟩ ⟨fun a o h n => g'.keep a o h (fun r => n (r.elim id fun z => by cases z)), fun a o h r => .inl (r.elim id fun z => by cases z)⟩ q
    rw [List.getElem?_replicate] at e
    split at e <;> cases e
  · rintro ls' σ' H' Δ' G' L' v s' c' rv ⟨x, rfl, q⟩
    exact s.rt [] [] H' [] [] [] v (.d x) (cf _ _ _ _ _ _ c') (Rep.grow (gr ls' H') rv) q
  · intro ls' σ' H' Δ' G' L' c' g' q
    exact q.elim
  · intro ls' σ' H' Δ' G' L' c' g' q
    exact q.elim
end DL

namespace DL
open PySem PySem.Spec PyProof.Rows L2
/-! ### data with dicts in it, read off a heap: no dict of it is the table of modules -/
mutual
inductive RX (h : Heap) : Value → PyData → Prop
  | non : RX h .none .none
  | bl (b : Bool) : RX h (.bool b) (.bool b)
  | int (i : Int) (t : Tok) : RX h (.int i t) (.int i)
  | str (z : Str) (t : Tok) : RX h (.str z t) (.str z)
  | lst {a : Addr} {o : Obj} {us : Array Value} {n : Nat} {ps : List PyData} : h.get? a = some o → o.cls = .type "list" → o.data = .seq us n → RXs h us.toList ps → RX h (.ref a) (.list ps)
  | tup {a : Addr} {o : Obj} {us : Array Value} {n : Nat} {ps : List PyData} : h.get? a = some o → o.cls = .type "tuple" → o.data = .seq us n → RXs h us.toList ps → RX h (.ref a) (.tuple ps)
  | dct {a : Addr} {o : Obj} {es : Array DictEntry} {n : Nat} {ps : List (PyData × PyData)} : h.get? a = some o → o.cls = .type "dict" → o.data = .dict es n → (a == sysModules) = false → RXs h (es.toList.map (·.key)) (ps.map (·.1)) → RXs h (es.toList.map (·.val)) (ps.map (·.2)) → RX h (.ref a) (.dict ps)
inductive RXs (h : Heap) : List Value → List PyData → Prop
  | nil : RXs h [] []
  | cons {u : Value} {us : List Value} {p : PyData} {ps : List PyData} : RX h u p → RXs h us ps → RXs h (u :: us) (p :: ps)
end
section
variable {h : Heap}
mutual
theorem RX.reads : ∀ {u : Value} {p : PyData}, RX h u p → ∃ as, Reads h u p as
  | _, _, .non => ⟨_, .none⟩
  | _, _, .bl b => ⟨_, .bool b⟩
  | _, _, .int i t => ⟨_, .int i t⟩
  | _, _, .str z t => ⟨_, .str z t⟩
  | _, _, .lst e c d r => by
    obtain ⟨as, q⟩ := RXs.reads r
    exact ⟨_, .list e c d q⟩
  | _, _, .tup e c d r => by
    obtain ⟨as, q⟩ := RXs.reads r
    exact ⟨_, .tuple e c d q⟩
  | _, _, .dct e c d _ r r2 => by
    obtain ⟨as, q⟩ := RXs.reads r
    obtain ⟨bs, q2⟩ := RXs.reads r2
    exact ⟨_, .dict e c d q q2⟩
theorem RXs.reads : ∀ {us : List Value} {ps : List PyData}, RXs h us ps → ∃ as, ReadsAll h us ps as
  | _, _, .nil => ⟨_, .nil⟩
  | _, _, .cons r rs => by
    obtain ⟨as, q⟩ := RX.reads r
    obtain ⟨bs, q2⟩ := RXs.reads rs
    exact ⟨_, .cons q q2⟩
end
variable {prog : Program} {w : World}
theorem below_app {n m k : Nat} {bs cs : List Addr} (x : ReadAtMost h n bs) (y : ReadAtMost h m cs) (hn : n ≤ k) (hm : m ≤ k) : ReadAtMost h k (bs ++ cs) := (x.mono hn).append (y.mono hm)
/-- how a datum is shown within another one: what lies beneath it -/
def Rk (prog : Program) (w : World) (h : Heap) (u : Value) (p : PyData) : Prop := ∃ bs, ReadAtMost h p.depth bs ∧ ReprK prog w bs h p.depth u p.shown
def Rks (prog : Program) (w : World) (h : Heap) (us : List Value) (ps : List PyData) : Prop := ∃ bs, ReadAtMost h (PyData.depthAll ps) bs ∧ ReprAllK prog w bs h (PyData.depthAll ps) us (PyData.shownAll ps)
mutual
theorem RX.rk : ∀ {u : Value} {p : PyData}, RX h u p → p.showable = true → p.shown.length ≤ sizeLine → Rk prog w h u p
  | _, _, .non, _, _ => ⟨[], fun _ m => (by cases m), by rw [PyData.shown]; exact ReprK.of_is ReprIs.none _ _ _⟩
  | _, _, .bl b, _, _ => ⟨[], fun _ m => (by cases m), by rw [PyData.shown]; exact ReprK.of_is (ReprIs.bool b) _ _ _⟩
  | _, _, .int i t, s, _ => ⟨[], fun _ m => (by cases m), by rw [PyData.shown]; exact ReprK.of_is (ReprIs.int t (of_decide_eq_true (by rw [PyData.showable] at s; exact s))) _ _ _⟩
  | _, _, .str z t, _, l => ⟨[], fun _ m => (by cases m), by rw [PyData.shown] at l ⊢; exact ReprK.of_is (ReprIs.str z t l) _ _ _⟩
  | _, _, .lst (a := a) (us := us) (ps := ps) e c d r, s, l => by
    rw [PyData.shown] at l
    rw [PyData.showable] at s
    obtain ⟨bs, hb, hk⟩ := RXs.rk r s fun t ht => Nat.le_trans (listText_mem_le ht) l
    obtain ⟨as, rd⟩ := RX.reads (RX.lst e c d r)
    have na : a ∉ bs := not_mem_of_deeper rd (by rw [PyData.depth]; omega) hb
    refine ⟨a :: bs, ReadAtMost.cons rd (by rw [PyData.depth]; omega) hb, ?_⟩
    rw [PyData.depth, PyData.shown]
    obtain ⟨us⟩ := us
    match us, ps, r, d, hk with
    | [], _, .nil, d, hk =>
      rw [PyData.shownAll, listText_nil]
      exact ReprK.listEmpty e c d
    | x :: us, _, r, d, hk => exact ReprK.list e c d na (by simpa using hk.length_eq) fun i y ey => hk.item i y (by simpa using ey)
  | _, _, .tup (a := a) (us := us) (ps := ps) e c d r, s, l => by
    rw [PyData.shown] at l
    rw [PyData.showable] at s
    obtain ⟨bs, hb, hk⟩ := RXs.rk r s fun t ht => Nat.le_trans (tupleText_mem_le ht) l
    obtain ⟨as, rd⟩ := RX.reads (RX.tup e c d r)
    have na : a ∉ bs := not_mem_of_deeper rd (by rw [PyData.depth]; omega) hb
    refine ⟨a :: bs, ReadAtMost.cons rd (by rw [PyData.depth]; omega) hb, ?_⟩
    rw [PyData.depth, PyData.shown]
    exact ReprK.tuple e c d na hk
  | _, _, .dct (a := a) (es := es) (ps := ps) e c d ns r r2, s, l => by
    rw [PyData.shown] at l
    rw [PyData.showable] at s
    obtain ⟨s1, s2⟩ := PyData.showableKv_split ps s
    obtain ⟨b1, h1, k1⟩ := RXs.rk r s1 fun t ht => let ⟨x, m, le⟩ := PyData.shownKv_key_le ps t ht; Nat.le_trans le (Nat.le_trans (dictText_mem_le m) l)
    obtain ⟨b2, h2, k2⟩ := RXs.rk r2 s2 fun t ht => let ⟨x, m, le⟩ := PyData.shownKv_val_le ps t ht; Nat.le_trans le (Nat.le_trans (dictText_mem_le m) l)
    have d1 := PyData.depthAll_keys_le ps
    have d2 := PyData.depthAll_vals_le ps
    obtain ⟨as, rd⟩ := RX.reads (RX.dct e c d ns r r2)
    have hb := below_app h1 h2 d1 d2
    have na : a ∉ b1 ++ b2 := not_mem_of_deeper rd (by rw [PyData.depth]; omega) hb
    refine ⟨a :: (b1 ++ b2), ReadAtMost.cons rd (by rw [PyData.depth]; omega) hb, ?_⟩
    rw [PyData.depth, PyData.shown, PyData.shownKv_eq]
    exact ReprK.dict e c d ns na (ReprEntriesK.of_two _ _ _ (k1.more_le (fun b m => List.mem_append_left _ m) d1) (k2.more_le (fun b m => List.mem_append_right _ m) d2))
theorem RXs.rk : ∀ {us : List Value} {ps : List PyData}, RXs h us ps → PyData.showableAll ps = true → (∀ t ∈ PyData.shownAll ps, t.length ≤ sizeLine) → Rks prog w h us ps
  | _, _, .nil, _, _ => ⟨[], fun _ m => (by cases m), by rw [PyData.shownAll]; exact .nil⟩
  | _, _, .cons (p := p) (ps := ps) r rs, s, l => by
    rw [PyData.showableAll, Bool.and_eq_true] at s
    rw [PyData.shownAll] at l
    obtain ⟨b1, h1, k1⟩ := RX.rk r s.1 (l _ List.mem_cons_self)
    obtain ⟨b2, h2, k2⟩ := RXs.rk rs s.2 fun t ht => l t (List.mem_cons_of_mem _ ht)
    refine ⟨b1 ++ b2, ?_, ?_⟩
    · rw [PyData.depthAll]
      exact below_app h1 h2 (Nat.le_max_left _ _) (Nat.le_max_right _ _)
    · rw [PyData.depthAll, PyData.shownAll]
      exact .cons ((k1.more fun b m => List.mem_append_left _ m).level_le (Nat.le_max_left _ _)) (k2.more_le (fun b m => List.mem_append_right _ m) (Nat.le_max_right _ _))
end
/-- a datum at the top -/
theorem RX.shows {a : Addr} {p : PyData} (r : RX h (.ref a) p) (s : p.showable = true) (l : p.shown.length ≤ sizeLine) : ∃ T f, ShowsBy prog w h a p T f := by
  cases r with
  | lst e c d r =>
    rename_i o us n ps
    rw [PyData.shown] at l
    rw [PyData.showable] at s
    obtain ⟨bs, hb, hk⟩ := RXs.rk (prog := prog) (w := w) r s fun t ht => Nat.le_trans (listText_mem_le ht) l
    obtain ⟨as, rd⟩ := RX.reads (RX.lst e c d r)
    have na : a ∉ bs := not_mem_of_deeper rd (by rw [PyData.depth]; omega) hb
    refine ⟨_, _, F.slot_list_repr.toG, F.slot_list_str, F.slot_list_format, fun x k => ⟨o, k _ _ e, c⟩, fun A E x Q g u k q => ?_⟩
    rw [PyData.depth] at u
    rw [PyData.shown] at q
    obtain ⟨us⟩ := us
    match us, ps, r, d, hk, q with
    | [], _, .nil, d, hk, q =>
      rw [PyData.shownAll, listText_nil] at q
      exact call_list_repr_empty ⟨o, k _ _ e, c⟩ (k _ _ e) d (q x.heap _ _ fun _ _ z => z)
    | y :: us, _, r, d, hk, q => exact call_list_reprK e c d na (by simpa using hk.length_eq) (fun i y ey => hk.item i y (by simpa using ey)) g (fun b _ => Clear.nil b) u k q l
  | tup e c d r =>
    rename_i o us n ps
    rw [PyData.shown] at l
    rw [PyData.showable] at s
    obtain ⟨bs, hb, hk⟩ := RXs.rk (prog := prog) (w := w) r s fun t ht => Nat.le_trans (tupleText_mem_le ht) l
    obtain ⟨as, rd⟩ := RX.reads (RX.tup e c d r)
    have na : a ∉ bs := not_mem_of_deeper rd (by rw [PyData.depth]; omega) hb
    refine ⟨_, _, F.slot_tuple_repr, F.slot_tuple_str, F.slot_tuple_format, fun x k => ⟨o, k _ _ e, c⟩, fun A E x Q g u k q => ?_⟩
    rw [PyData.depth] at u
    rw [PyData.shown] at q
    exact call_tuple_reprK e c d na hk g (fun b _ => Clear.nil b) u k q l
  | dct e c d ns r r2 =>
    rename_i o es n ps
    rw [PyData.shown] at l
    rw [PyData.showable] at s
    obtain ⟨s1, s2⟩ := PyData.showableKv_split ps s
    obtain ⟨b1, h1, k1⟩ := RXs.rk (prog := prog) (w := w) r s1 fun t ht => let ⟨x, m, le⟩ := PyData.shownKv_key_le ps t ht; Nat.le_trans le (Nat.le_trans (dictText_mem_le m) l)
    obtain ⟨b2, h2, k2⟩ := RXs.rk (prog := prog) (w := w) r2 s2 fun t ht => let ⟨x, m, le⟩ := PyData.shownKv_val_le ps t ht; Nat.le_trans le (Nat.le_trans (dictText_mem_le m) l)
    have d1 := PyData.depthAll_keys_le ps
    have d2 := PyData.depthAll_vals_le ps
    obtain ⟨as, rd⟩ := RX.reads (RX.dct e c d ns r r2)
    have na : a ∉ b1 ++ b2 := not_mem_of_deeper rd (by rw [PyData.depth]; omega) (below_app h1 h2 d1 d2)
    refine ⟨_, _, F.slot_dict_repr, F.slot_dict_str, F.slot_dict_format, fun x k => ⟨o, k _ _ e, c⟩, fun A E x Q g u k q => ?_⟩
    rw [PyData.depth] at u
    rw [PyData.shown, PyData.shownKv_eq] at q
    exact call_dict_reprK e c d ns na (ReprEntriesK.of_two _ _ _ (k1.more_le (fun b m => List.mem_append_left _ m) d1) (k2.more_le (fun b m => List.mem_append_right _ m) d2)) g (fun b _ => Clear.nil b) u k q (by rw [← PyData.shownKv_eq]; exact l)
end
/-! ### the same at the level of data -/
def keyPy : Key → PyData
  | .inl i => .int i
  | .inr x => .str x
mutual
def D.pyX : D → Option PyData
  | .non => some .none
  | .bl b => some (.bool b)
  | .int i => some (.int i)
  | .str x => some (.str x)
  | .tup ds => match pyXL ds with
    | some xs => some (.tuple xs)
    | none => none
  | .lst ds => match pyXL ds with
    | some xs => some (.list xs)
    | none => none
  | .dct kvs => match pyXK kvs with
    | some xs => some (.dict xs)
    | none => none
  | _ => none
def pyXL : List D → Option (List PyData)
  | [] => some []
  | d :: ds => match d.pyX, pyXL ds with
    | some x, some xs => some (x :: xs)
    | _, _ => none
def pyXK : List (Key × D) → Option (List (PyData × PyData))
  | [] => some []
  | (k, d) :: ds => match d.pyX, pyXK ds with
    | some x, some xs => some ((keyPy k, x) :: xs)
    | _, _ => none
end
section
variable {X : Cx} {pins : List (Addr × Obj)} {σ : L2.St} {H : Hp} {s : Shared} {R : Addr → Prop}
theorem keys_rx {h : Heap} {P : Program} {w : World} : ∀ {es : List DictEntry} {kvs : List (Key × Value)} {ws : List (Key × V)} {ds : List (Key × D)} {ps : List (PyData × PyData)}, Pairs (mixKind P w) es kvs → KV ws kvs → RepK X.K H R ds ws → pyXK ds = some ps → RXs h (es.map (·.key)) (ps.map (·.1))
  | _, _, _, [], _, c, v, r, e => by
    cases e
    cases r
    cases v
    cases c
    exact .nil
  | _, _, _, (k, d) :: ds, _, c, v, ⟨y, ys, e1, _, r⟩, e => by
    subst e1
    unfold pyXK at e
    split at e
    · rename_i x xs hx hxs
      cases e
      cases v with
      | cons q t =>
        rename_i kv kvs'
        cases c with
        | cons c1 c2 c3 =>
          rename_i en es'
          refine .cons ?_ (keys_rx c3 t r hxs)
          obtain ⟨k2, u2⟩ := kv
          obtain ⟨q1, _⟩ := q
          have q1 : k = k2 := q1
          subst q1
          rcases keyIs_shape c1 with ⟨i, tk, e1, e2⟩ | ⟨z, tk, e1, e2⟩
          · have e1 : k = .inl i := e1
            subst e1
            show RX h en.key (.int i)
            rw [e2]
            exact .int i tk
          · have e1 : k = .inr z := e1
            subst e1
            show RX h en.key (.str z)
            rw [e2]
            exact .str z tk
    · cases e
mutual
theorem rep_rx (I : Inv X pins σ H s) : ∀ {d : D} {v : V} {p : PyData} {u : Value}, d.pyX = some p → Rep X.K H R d v → RelV v u → RX s.heap u p
  | .non, _, _, _, e, h, r => by
    cases e
    cases h
    cases r
    exact .non
  | .bl b, _, _, _, e, h, r => by
    cases e
    cases h
    cases r
    exact .bl b
  | .int i, _, _, _, e, h, r => by
    cases e
    cases h
    obtain ⟨t, rfl⟩ := r
    exact .int i t
  | .str z, _, _, _, e, h, r => by
    cases e
    cases h
    obtain ⟨t, rfl⟩ := r
    exact .str z t
  | .tup ds, _, _, _, e, ⟨a, xs, e1, h, q⟩, r => by
    unfold D.pyX at e
    split at e
    · rename_i ps hp
      cases e
      subst e1
      cases r
      obtain ⟨its, rv, ⟨o, ho, hc, n, hd⟩, _⟩ := I.tuple h.sq
      exact .tup ho hc hd (by simpa using repL_rx I hp q rv)
    · cases e
  | .lst ds, _, _, _, e, ⟨a, xs, e1, ⟨h, _⟩, q⟩, r => by
    unfold D.pyX at e
    split at e
    · rename_i ps hp
      cases e
      subst e1
      cases r
      obtain ⟨its, rv, ⟨o, n, ho, hc, _, hd⟩, _⟩ := I.list (.inl (.inl h))
      exact .lst ho hc hd (by simpa using repL_rx I hp q rv)
    · cases e
  | .dct kvs, _, _, _, e, ⟨a, ws, e1, ⟨h, _⟩, q⟩, r => by
    unfold D.pyX at e
    split at e
    · rename_i ps hp
      cases e
      subst e1
      cases r
      obtain ⟨_, ns, vs, kv, o, es, ep, ho, hx, hd, _, hpairs, _⟩ := dk_of I.hok h
      exact .dct ho hx.1 hd ns (keys_rx hpairs kv q hp) (repK_rx I hpairs kv q hp)
    · cases e
  | .ty _, _, _, _, e, _, _ => by cases e
  | .ref _, _, _, _, e, _, _ => by cases e
  | .scr _, _, _, _, e, _, _ => by cases e
  | .ins _ _, _, _, _, e, _, _ => by cases e
  | .exn _ _ _, _, _, _, e, _, _ => by cases e
theorem repL_rx (I : Inv X pins σ H s) : ∀ {ds : List D} {vs : List V} {ps : List PyData} {us : List Value}, pyXL ds = some ps → RepL X.K H R ds vs → Vals vs us → RXs s.heap us ps
  | [], _, _, _, e, h, r => by
    cases e
    cases h
    cases r
    exact .nil
  | d :: ds, _, _, _, e, ⟨y, ys, e1, h, q⟩, r => by
    subst e1
    unfold pyXL at e
    split at e
    · rename_i p ps hp hps
      cases e
      cases r with
      | cons r1 r2 => exact .cons (rep_rx I hp h r1) (repL_rx I hps q r2)
    · cases e
theorem repK_rx (I : Inv X pins σ H s) : ∀ {ds : List (Key × D)} {es : List DictEntry} {kvs : List (Key × Value)} {ws : List (Key × V)} {ps : List (PyData × PyData)}, Pairs (mixKind X.prog X.w) es kvs → KV ws kvs → RepK X.K H R ds ws → pyXK ds = some ps → RXs s.heap (es.map (·.val)) (ps.map (·.2))
  | [], _, _, _, _, c, v, r, e => by
    cases e
    cases r
    cases v
    cases c
    exact .nil
  | (k, d) :: ds, _, _, _, _, c, v, ⟨y, ys, e1, h, r⟩, e => by
    subst e1
    unfold pyXK at e
    split at e
    · rename_i x xs hx hxs
      cases e
      cases v with
      | cons q t =>
        cases c with
        | cons c1 c2 c3 =>
          refine .cons ?_ (repK_rx I c3 t r hxs)
          have q2 := rep_rx I hx h q.2
          rw [← c2] at q2
          exact q2
    · cases e
end
end
def shownX (d : D) : Str := match d.pyX with
  | some p => p.shown
  | none => ""
/-- d can be shown: n signs at most, k deep at most -/
def ShX (n k : Nat) (d : D) : Prop := ∃ p, d.pyX = some p ∧ p.showable = true ∧ p.depth ≤ k ∧ p.shown.length ≤ n
theorem ShX.mono {n m k j : Nat} {d : D} (h : ShX n k d) (hn : n ≤ m) (hk : k ≤ j) : ShX m j d :=
  let ⟨p, h1, h2, h4, h5⟩ := h
  ⟨p, h1, h2, Nat.le_trans h4 hk, Nat.le_trans h5 hn⟩
theorem shx_int (k : Nat) {i : Int} (h : i.natAbs < 10 ^ 60) : ShX 61 k (.int i) :=
  let ⟨p, h1, h2, _, h4, h5⟩ := shw_int k h
  ⟨p, h1, h2, h4, h5⟩
theorem shx_bl (k : Nat) (b : Bool) : ShX 5 k (.bl b) := ⟨.bool b, rfl, rfl, Nat.zero_le _, by cases b <;> decide⟩
theorem shx_non (k : Nat) : ShX 4 k .non := ⟨.none, rfl, rfl, Nat.zero_le _, by decide⟩
theorem shx_str (k : Nat) {z : Str} {m : Nat} (h : PyData.strOk z = true) (hm : z.length ≤ m) : ShX (10 * m + 2) k (.str z) :=
  let ⟨p, h1, h2, _, h4, h5⟩ := shw_str k h hm
  ⟨p, h1, h2, h4, h5⟩
theorem shx_all {n k : Nat} : ∀ {ds : List D}, (∀ d ∈ ds, ShX n k d) → ∃ ps, pyXL ds = some ps ∧ PyData.showableAll ps = true ∧ PyData.depthAll ps ≤ k ∧ piled (PyData.shownAll ps) ≤ ds.length * (n + 2)
  | [], _ => ⟨[], rfl, rfl, Nat.zero_le _, Nat.le_of_eq (by rw [show PyData.shownAll [] = [] from rfl]; simp [piled])⟩
  | d :: ds, h => by
    obtain ⟨p, h1, h2, h4, h5⟩ := h d List.mem_cons_self
    obtain ⟨ps, q1, q2, q4, q5⟩ := shx_all (ds := ds) fun x hx => h x (List.mem_cons_of_mem _ hx)
    refine ⟨p :: ps, ?_, ?_, ?_, ?_⟩
    · unfold pyXL
      rw [h1, q1]
    · rw [PyData.showableAll, h2, q2]
      rfl
    · rw [PyData.depthAll]
      omega
    · rw [PyData.shownAll, piled_cons, List.length_cons, Nat.succ_mul]
      omega
theorem shx_tup {n k : Nat} {ds : List D} (h : ∀ d ∈ ds, ShX n k d) : ShX (ds.length * (n + 2) + 3) (k + 1) (.tup ds) := by
  obtain ⟨ps, q1, q2, q4, q5⟩ := shx_all h
  refine ⟨.tuple ps, ?_, ?_, ?_, ?_⟩
  · unfold D.pyX
    rw [q1]
  · rw [PyData.showable, q2]
  · rw [PyData.depth]
    omega
  · rw [PyData.shown]
    have := tupleText_len (PyData.shownAll ps)
    omega
theorem shx_lst {n k : Nat} {ds : List D} (h : ∀ d ∈ ds, ShX n k d) : ShX (ds.length * (n + 2) + 3) (k + 1) (.lst ds) := by
  obtain ⟨ps, q1, q2, q4, q5⟩ := shx_all h
  refine ⟨.list ps, ?_, ?_, ?_, ?_⟩
  · unfold D.pyX
    rw [q1]
  · rw [PyData.showable, q2]
  · rw [PyData.depth]
    omega
  · rw [PyData.shown]
    have := listText_len (PyData.shownAll ps)
    omega
theorem shx_dct0 (k : Nat) : ShX 2 (k + 1) (.dct []) := ⟨.dict [], rfl, rfl, by rw [PyData.depth, PyData.depthKv]; omega, by rw [PyData.shown, PyData.shownKv]; decide⟩
/-- {i: d} -/
theorem shx_dct1 {n k : Nat} {i : Int} {d : D} (hi : i.natAbs < 10 ^ 60) (h : ShX n k d) : ShX (n + 65) (k + 1) (.dct [(.inl i, d)]) := by
  obtain ⟨p, h1, h2, h4, h5⟩ := h
  obtain ⟨p', e1, e2, _, e4, e5⟩ := shw_int 0 hi
  cases e1
  refine ⟨.dict [(.int i, p)], ?_, ?_, ?_, ?_⟩
  · unfold D.pyX pyXK
    rw [h1]
    rfl
  · rw [PyData.showable, PyData.showableKv, PyData.showableKv, e2, h2]
    rfl
  · rw [PyData.depth, PyData.depthKv, PyData.depthKv]
    rw [PyData.depth] at e4
    have : (PyData.int i).depth = 0 := rfl
    omega
  · rw [PyData.shown, PyData.shownKv, PyData.shownKv]
    unfold dictText
    rw [strLen_append, strLen_append]
    show 1 + (PyData.shown (.int i) ++ ": " ++ p.shown).length + 1 ≤ n + 65
    rw [strLen_append, strLen_append]
    show 1 + ((PyData.shown (.int i)).length + 2 + p.shown.length) + 1 ≤ n + 65
    omega
def rReprX (K : PySem.W.Frag) : List V → Hp → VK → Prop := fun xs H Q => ∃ (R : Addr → Prop) (a : Addr) (d : D) (p : PyData), xs = [V.ref a] ∧ d.pyX = some p ∧ Rep K H R d (.ref a) ∧ p.showable = true ∧ p.depth ≤ 62 ∧ p.shown.length ≤ sizeLine ∧ Q (.str p.shown) H
def uReprX (K : PySem.W.Frag) : List V → Hp → VK → Prop := fun xs H Q => uRepr xs H Q ∨ rReprX K xs H Q
theorem uc_reprX1 {X : Cx} (hg : X.A.guards = some []) (hu : X.A.units + 64 < cLine) : CallR X (.builtin "repr") (rReprX X.K) := by
  intro pins s σ H xs us Q I r h
  obtain ⟨R, a, d, p, rfl, hp, rd, hs, hdep, hz, q⟩ := h
  obtain ⟨u, rfl, ru⟩ := vals1 r
  have rx := rep_rx I hp rd ru
  cases (show u = Value.ref a from ru)
  obtain ⟨T, f, S⟩ := RX.shows (prog := X.prog) (w := X.w) rx hs hz
  refine call_repr_slot (by omega) (S.typeIs s fun _ _ e => e) S.slotRepr (S.call X.A.in1 _ s _ hg (by show X.A.units + 1 + p.depth < cLine; omega) (fun _ _ e => e) fun h' t tk hk => ?_)
  exact ⟨_, _, rfl, V.str p.shown, H, I.kept hk, ⟨_, rfl⟩, q⟩
theorem uc_reprX {X : Cx} (hg : X.A.guards = some []) (hu : X.A.units + 64 < cLine) : CallR X (.builtin "repr") (uReprX X.K) := callr_or uc_repr (uc_reprX1 hg hu)
section
variable {K : PySem.W.Frag} {Δ : Sl} {G L : List M} {Qd : Po} {n k : Nat}
theorem ap_reprX1 {d : D} (h : ShX n k d) (hn : n ≤ sizeLine) (hk : k ≤ 62) (q : Qd (.d (.str (shownX d))) G L) : ApC K (uReprX K) [.d d] Δ G L Qd := by
  obtain ⟨p, hp, h2, h4, h5⟩ := h
  have e : shownX d = p.shown := by
    unfold shownX
    rw [hp]
  rw [e] at q
  have h5 := Nat.le_trans h5 hn
  have h4 := Nat.le_trans h4 hk
  intro w ls σ H vs c r Q ret
  obtain ⟨v, rfl, rv⟩ := pair1 r
  have fin : ∀ a, v = .ref a → uReprX K [v] H Q := fun a ea => by
    subst ea
    exact .inr ⟨Rg w ls, a, d, p, rfl, hp, rv, h2, h4, h5, ret.go c Ext.refl (s := .d (.str p.shown)) rfl q⟩
  cases d with
  | tup ds => exact fin _ rv.choose_spec.choose_spec.1
  | lst ds => exact fin _ rv.choose_spec.choose_spec.1
  | dct ds => exact fin _ rv.choose_spec.choose_spec.1
  | non =>
    cases rv
    cases hp
    exact .inl ⟨_, _, rfl, .non, ret.go c Ext.refl (s := .d (.str "None")) rfl q⟩
  | bl b =>
    cases rv
    cases hp
    refine .inl ⟨_, _, rfl, .bl b, ret.go c Ext.refl (s := .d (.str (if b then "True" else "False"))) rfl ?_⟩
    cases b <;> exact q
  | int i =>
    cases rv
    cases hp
    exact .inl ⟨_, _, rfl, .int i (of_decide_eq_true h2), ret.go c Ext.refl (s := .d (.str (Str.ofString (toString i)))) rfl q⟩
  | str z =>
    cases rv
    cases hp
    exact .inl ⟨_, _, rfl, .str z h5, ret.go c Ext.refl (s := .d (.str (reprText z))) rfl q⟩
  | ty n => cases hp
  | ref a => cases hp
  | scr ns => cases hp
  | ins C fs => cases hp
  | exn a dd fs => cases hp
end
end DL

namespace DL
open PySem PySem.Spec PyProof.Rows L2
/-! ### things of any kind -/
def Px (d : D) : Prop := ∃ p, d.pyX = some p
theorem ShX.px {n k : Nat} {d : D} (h : ShX n k d) : Px d := let ⟨p, e, _⟩ := h; ⟨p, e⟩
theorem px_ty {d : D} (h : Px d) : ∃ T, tyD d = some T := by
  obtain ⟨p, e⟩ := h
  cases d with
  | non => exact ⟨_, rfl⟩
  | bl b => exact ⟨_, rfl⟩
  | int i => exact ⟨_, rfl⟩
  | str z => exact ⟨_, rfl⟩
  | tup ds => exact ⟨_, rfl⟩
  | lst ds => exact ⟨_, rfl⟩
  | dct ds => exact ⟨_, rfl⟩
  | ty n => cases e
  | ref a => cases e
  | scr ns => cases e
  | ins C fs => cases e
  | exn a dd fs => cases e
theorem pxL_mem : ∀ {ds : List D} {ps : List PyData}, pyXL ds = some ps → ∀ d ∈ ds, Px d
  | [], _, _, d, h => by cases h
  | y :: ds, _, e, d, h => by
    unfold pyXL at e
    split at e
    · rename_i x xs hx hxs
      rcases List.mem_cons.mp h with rfl | h
      · exact ⟨x, hx⟩
      · exact pxL_mem hxs d h
    · cases e
theorem px_tup {ds : List D} (h : Px (.tup ds)) : ∀ d ∈ ds, Px d := by
  obtain ⟨p, e⟩ := h
  unfold D.pyX at e
  split at e
  · rename_i xs hx
    exact pxL_mem hx
  · cases e
theorem px_lst {ds : List D} (h : Px (.lst ds)) : ∀ d ∈ ds, Px d := by
  obtain ⟨p, e⟩ := h
  unfold D.pyX at e
  split at e
  · rename_i xs hx
    exact pxL_mem hx
  · cases e
/-- what may stand where anything may -/
inductive Kind : D → Prop
  | non : Kind .non
  | bl (b : Bool) : Kind (.bl b)
  | int (i : Int) : Kind (.int i)
  | str (z : Str) : Kind (.str z)
  | tup (ds : List D) : Kind (.tup ds)
  | lst (ds : List D) : Kind (.lst ds)
  | dct (ds : List (Key × D)) : Kind (.dct ds)
theorem px_kind {d : D} (h : Px d) : Kind d := by
  obtain ⟨p, e⟩ := h
  cases d with
  | non => exact .non
  | bl b => exact .bl b
  | int i => exact .int i
  | str z => exact .str z
  | tup ds => exact .tup ds
  | lst ds => exact .lst ds
  | dct ds => exact .dct ds
  | ty n => cases e
  | ref a => cases e
  | scr ns => cases e
  | ins C fs => cases e
  | exn a dd fs => cases e
/-! how many signs d has at most when it is shown -/
mutual
def szD : D → Nat
  | .non => 4
  | .bl _ => 5
  | .int _ => 61
  | .str z => 10 * z.length + 2
  | .tup ds => szL ds + 3
  | .lst ds => szL ds + 3
  | .dct kvs => szK kvs + 3
  | _ => 0
def szL : List D → Nat
  | [] => 0
  | d :: ds => szD d + 2 + szL ds
def szK : List (Key × D) → Nat
  | [] => 0
  | (_, d) :: ds => szD d + 66 + szK ds
end
/-! ints below b, texts of signs, no deeper than h -/
mutual
def Ok (b h : Nat) : D → Prop
  | .non => True
  | .bl _ => True
  | .int i => i.natAbs ≤ b
  | .str z => PyData.strOk z = true
  | .tup ds => ∃ k, h = k + 1 ∧ OkL b k ds
  | .lst ds => ∃ k, h = k + 1 ∧ OkL b k ds
  | .dct kvs => ∃ k, h = k + 1 ∧ OkK b k kvs
  | _ => False
def OkL (b h : Nat) : List D → Prop
  | [] => True
  | d :: ds => Ok b h d ∧ OkL b h ds
def OkK (b h : Nat) : List (Key × D) → Prop
  | [] => True
  | (k, d) :: ds => (∃ i : Int, k = .inl i ∧ i.natAbs ≤ b) ∧ Ok b h d ∧ OkK b h ds
end
mutual
theorem Ok.mono {b c : Nat} (hb : b ≤ c) : ∀ {h k : Nat} {d : D}, h ≤ k → Ok b h d → Ok c k d
  | _, _, .non, _, _ => trivial
  | _, _, .bl _, _, _ => trivial
  | _, _, .int _, _, q => Nat.le_trans q hb
  | _, _, .str _, _, q => q
  | _, k, .tup _, l, ⟨j, e, q⟩ => ⟨k - 1, by omega, OkL.mono hb (by omega) q⟩
  | _, k, .lst _, l, ⟨j, e, q⟩ => ⟨k - 1, by omega, OkL.mono hb (by omega) q⟩
  | _, k, .dct _, l, ⟨j, e, q⟩ => ⟨k - 1, by omega, OkK.mono hb (by omega) q⟩
  | _, _, .ty _, _, q => q.elim
  | _, _, .ref _, _, q => q.elim
  | _, _, .scr _, _, q => q.elim
  | _, _, .ins _ _, _, q => q.elim
  | _, _, .exn _ _ _, _, q => q.elim
theorem OkL.mono {b c : Nat} (hb : b ≤ c) : ∀ {h k : Nat} {ds : List D}, h ≤ k → OkL b h ds → OkL c k ds
  | _, _, [], _, _ => trivial
  | _, _, _ :: _, l, ⟨q, r⟩ => ⟨Ok.mono hb l q, OkL.mono hb l r⟩
theorem OkK.mono {b c : Nat} (hb : b ≤ c) : ∀ {h k : Nat} {ds : List (Key × D)}, h ≤ k → OkK b h ds → OkK c k ds
  | _, _, [], _, _ => trivial
  | _, _, (_, _) :: _, l, ⟨⟨i, e, x⟩, q, r⟩ => ⟨⟨i, e, Nat.le_trans x hb⟩, Ok.mono hb l q, OkK.mono hb l r⟩
end
theorem okL_mem {b h : Nat} : ∀ {ds : List D}, OkL b h ds → ∀ d ∈ ds, Ok b h d
  | [], _, d, m => by cases m
  | _ :: _, ⟨q, r⟩, d, m => by
    rcases List.mem_cons.mp m with rfl | m
    · exact q
    · exact okL_mem r d m
theorem okL_of {b h : Nat} : ∀ {ds : List D}, (∀ d ∈ ds, Ok b h d) → OkL b h ds
  | [], _ => trivial
  | _ :: _, f => ⟨f _ List.mem_cons_self, okL_of fun d m => f d (List.mem_cons_of_mem _ m)⟩
theorem szL_app : ∀ (xs ys : List D), szL (xs ++ ys) = szL xs + szL ys
  | [], ys => (Nat.zero_add (szL ys)).symm
  | x :: xs, ys => by
    have := szL_app xs ys
    show szD x + 2 + szL (xs ++ ys) = szD x + 2 + szL xs + szL ys
    omega
theorem szL_take_drop (n : Nat) (xs : List D) : szL (xs.take n) + szL (xs.drop n) = szL xs := by
  rw [← szL_app, List.take_append_drop]
theorem szL_get : ∀ {xs : List D} {i : Nat} {d : D}, xs[i]? = some d → szL xs = szL (xs.take i) + (szD d + 2) + szL (xs.drop (i + 1))
  | [], _, _, h => by cases h
  | x :: xs, 0, d, h => by
    cases h
    show szD x + 2 + szL xs = 0 + _ + szL xs
    omega
  | x :: xs, i + 1, d, h => by
    have := szL_get (xs := xs) (i := i) h
    show szD x + 2 + szL xs = (szD x + 2 + szL (xs.take i)) + _ + szL (xs.drop (i + 1))
    omega
theorem szL_len : ∀ (xs : List D), 2 * xs.length ≤ szL xs
  | [] => Nat.zero_le _
  | x :: xs => by
    have := szL_len xs
    show 2 * (xs.length + 1) ≤ szD x + 2 + szL xs
    omega
theorem szL_rev : ∀ (xs : List D), szL xs.reverse = szL xs
  | [] => rfl
  | x :: xs => by
    rw [List.reverse_cons, szL_app, szL_rev xs]
    show szL xs + (szD x + 2 + 0) = szD x + 2 + szL xs
    omega
mutual
theorem ok_shx : ∀ {b h : Nat} {d : D}, b < 10 ^ 60 → Ok b h d → ShX (szD d) h d
  | _, h, .non, _, _ => shx_non h
  | _, h, .bl x, _, _ => shx_bl h x
  | _, h, .int i, hb, q => shx_int h (Nat.lt_of_le_of_lt q hb)
  | _, h, .str z, _, q => shx_str h q (Nat.le_refl _)
  | _, _, .tup ds, hb, ⟨k, e, q⟩ => by
    subst e
    obtain ⟨ps, q1, q2, q4, q5⟩ := okL_shx hb q
    refine ⟨.tuple ps, ?_, ?_, ?_, ?_⟩
    · unfold D.pyX
      rw [q1]
    · rw [PyData.showable, q2]
    · rw [PyData.depth]
      omega
    · rw [PyData.shown, szD]
      have := tupleText_len (PyData.shownAll ps)
      omega
  | _, _, .lst ds, hb, ⟨k, e, q⟩ => by
    subst e
    obtain ⟨ps, q1, q2, q4, q5⟩ := okL_shx hb q
    refine ⟨.list ps, ?_, ?_, ?_, ?_⟩
    · unfold D.pyX
      rw [q1]
    · rw [PyData.showable, q2]
    · rw [PyData.depth]
      omega
    · rw [PyData.shown, szD]
      have := listText_len (PyData.shownAll ps)
      omega
  | _, _, .dct kvs, hb, ⟨k, e, q⟩ => by
    subst e
    obtain ⟨ps, q1, q2, q4, q5⟩ := okK_shx hb q
    refine ⟨.dict ps, ?_, ?_, ?_, ?_⟩
    · unfold D.pyX
      rw [q1]
    · rw [PyData.showable, q2]
    · rw [PyData.depth]
      omega
    · rw [PyData.shown, szD]
      have : (dictText (PyData.shownKv ps)).length ≤ piled (PyData.shownKv ps) + 2 := by
        unfold dictText
        rw [strLen_append, strLen_append]
        by_cases h0 : PyData.shownKv ps = []
        · rw [h0]
          show 1 + 0 + 1 ≤ _
          omega
        · have := join_length_add _ h0
          show 1 + _ + 1 ≤ _
          omega
      omega
  | _, _, .ty _, _, q => q.elim
  | _, _, .ref _, _, q => q.elim
  | _, _, .scr _, _, q => q.elim
  | _, _, .ins _ _, _, q => q.elim
  | _, _, .exn _ _ _, _, q => q.elim
theorem okL_shx : ∀ {b h : Nat} {ds : List D}, b < 10 ^ 60 → OkL b h ds → ∃ ps, pyXL ds = some ps ∧ PyData.showableAll ps = true ∧ PyData.depthAll ps ≤ h ∧ piled (PyData.shownAll ps) ≤ szL ds
  | _, _, [], _, _ => ⟨[], rfl, rfl, Nat.zero_le _, Nat.le_of_eq (by rw [show PyData.shownAll [] = [] from rfl]; rfl)⟩
  | _, _, d :: ds, hb, ⟨q, r⟩ => by
    obtain ⟨p, h1, h2, h4, h5⟩ := ok_shx hb q
    obtain ⟨ps, q1, q2, q4, q5⟩ := okL_shx hb r
    refine ⟨p :: ps, ?_, ?_, ?_, ?_⟩
    · unfold pyXL
      rw [h1, q1]
    · rw [PyData.showableAll, h2, q2]
      rfl
    · rw [PyData.depthAll]
      omega
    · rw [PyData.shownAll, piled_cons, szL]
      omega
theorem okK_shx : ∀ {b h : Nat} {ds : List (Key × D)}, b < 10 ^ 60 → OkK b h ds → ∃ ps, pyXK ds = some ps ∧ PyData.showableKv ps = true ∧ PyData.depthKv ps ≤ h ∧ piled (PyData.shownKv ps) ≤ szK ds
  | _, _, [], _, _ => ⟨[], rfl, rfl, Nat.zero_le _, Nat.le_of_eq (by rw [show PyData.shownKv [] = [] from rfl]; rfl)⟩
  | _, _, (k, d) :: ds, hb, ⟨⟨i, e, x⟩, q, r⟩ => by
    subst e
    obtain ⟨p, h1, h2, h4, h5⟩ := ok_shx hb q
    obtain ⟨ps, q1, q2, q4, q5⟩ := okK_shx hb r
    obtain ⟨p', e1, e2, _, e4, e5⟩ := shw_int 0 (i := i) (Nat.lt_of_le_of_lt x hb)
    cases e1
    refine ⟨(.int i, p) :: ps, ?_, ?_, ?_, ?_⟩
    · unfold pyXK
      rw [h1, q1]
      rfl
    · rw [PyData.showableKv, e2, h2, q2]
      rfl
    · rw [PyData.depthKv]
      have : (PyData.int i).depth = 0 := rfl
      omega
    · rw [PyData.shownKv, piled_cons, szK, strLen_append, strLen_append]
      show (PyData.shown (.int i)).length + 2 + p.shown.length + 2 + _ ≤ _
      omega
end
theorem ok_px {b h : Nat} {d : D} (hb : b < 10 ^ 60) (q : Ok b h d) : Px d := (ok_shx hb q).px
/-! ### t == () for a tuple of anything -/
def rEqT0 (K : PySem.W.Frag) : R2 := fun x y H Q => ∃ (a b : Addr) (xs : List V), x = .ref a ∧ y = .ref b ∧ SqT K H a xs ∧ SqT K H b [] ∧ Q (.bl xs.isEmpty) H
theorem op_eqT0 {X : Cx} (hu : X.A.units + 64 < cLine) : OpR X (compareOp .Eq) (rEqT0 X.K) := by
  intro pins s σ H x y v u Q I rx ry h
  obtain ⟨a, b, xs, rfl, rfl, ha, hb, q⟩ := h
  cases (show v = Value.ref a from rx)
  cases (show u = Value.ref b from ry)
  obtain ⟨its, rv, it, _⟩ := I.tuple ha
  obtain ⟨its2, rv2, it2, _⟩ := I.tuple hb
  cases rv2
  refine SeqAt.eq_tupleAt (e := fun _ => true) it it2 (by omega) (fun j h1 h2 => absurd h2 (Nat.not_lt_zero _)) ?_
  refine ⟨.bl xs.isEmpty, H, I, ?_, q⟩
  cases rv with
  | nil => rfl
  | cons r t => rfl
def rNeT0 (K : PySem.W.Frag) : R2 := fun x y H Q => ∃ (a b : Addr) (xs : List V), x = .ref a ∧ y = .ref b ∧ SqT K H a xs ∧ SqT K H b [] ∧ Q (.bl (!xs.isEmpty)) H
theorem op_neT0 {X : Cx} (hu : X.A.units + 64 < cLine) : OpR X (compareOp .NotEq) (rNeT0 X.K) := by
  intro pins s σ H x y v u Q I rx ry h
  obtain ⟨a, b, xs, rfl, rfl, ha, hb, q⟩ := h
  cases (show v = Value.ref a from rx)
  cases (show u = Value.ref b from ry)
  obtain ⟨its, rv, it, _⟩ := I.tuple ha
  obtain ⟨its2, rv2, it2, _⟩ := I.tuple hb
  cases rv2
  refine SeqAt.RcNeAt.tuples (e := fun _ => true) it it2 (by omega) (fun j h1 h2 => absurd h2 (Nat.not_lt_zero _)) _ _ _ _ ?_
  refine ⟨.bl (!xs.isEmpty), H, I, ?_, q⟩
  cases rv with
  | nil => rfl
  | cons r t => rfl
def rEqL0 (K : PySem.W.Frag) (n : Bool) : R2 := fun x y H Q => ∃ (a b : Addr) (xs : List V), x = .ref a ∧ y = .ref b ∧ H a = some (.lst xs) ∧ H b = some (.lst []) ∧ Q (.bl (xor n xs.isEmpty)) H
theorem list_is {X : Cx} {pins : List (Addr × Obj)} {σ : L2.St} {H : Hp} {s : Shared} {a : Addr} {xs : List V} (I : Inv X pins σ H s) (h : H a = some (.lst xs)) : ∃ its : List Value, Vals xs its ∧ s.heap.IsList a its.toArray := by
  obtain ⟨its, rv, ⟨o, n, ho, hc, _, hd⟩, _⟩ := I.list (show SqL X.K H a xs from .inl (.inl h))
  exact ⟨its, rv, o, ho, hc, n, hd⟩
theorem op_eqL0 {X : Cx} (hu : X.A.units + 64 < cLine) : OpR X (compareOp .Eq) (rEqL0 X.K false) := by
  intro pins s σ H x y v u Q I rx ry h
  obtain ⟨a, b, xs, rfl, rfl, ha, hb, q⟩ := h
  cases (show v = Value.ref a from rx)
  cases (show u = Value.ref b from ry)
  obtain ⟨its, rv, it⟩ := list_is I ha
  obtain ⟨its2, rv2, it2⟩ := list_is I hb
  cases rv2
  cases rv with
  | nil => exact SeqAt.eq_listAt (e := fun _ => true) it it2 rfl (by omega) (fun j h1 h2 => absurd h2 (Nat.not_lt_zero _)) ⟨.bl true, H, I, rfl, q⟩
  | cons r t => exact SeqAt.eq_list_lengthsAt it it2 rfl (by omega) ⟨.bl false, H, I, rfl, q⟩
theorem op_neL0 {X : Cx} (hu : X.A.units + 64 < cLine) : OpR X (compareOp .NotEq) (rEqL0 X.K true) := by
  intro pins s σ H x y v u Q I rx ry h
  obtain ⟨a, b, xs, rfl, rfl, ha, hb, q⟩ := h
  cases (show v = Value.ref a from rx)
  cases (show u = Value.ref b from ry)
  obtain ⟨its, rv, it⟩ := list_is I ha
  obtain ⟨its2, rv2, it2⟩ := list_is I hb
  cases rv2
  cases rv with
  | nil => exact SeqAt.RcNeAt.lists (e := fun _ => true) it it2 rfl (by omega) (fun j h1 h2 => absurd h2 (Nat.not_lt_zero _)) _ _ _ _ ⟨.bl false, H, I, rfl, q⟩
  | cons r t => exact SeqAt.RcNeAt.lists_lengths it it2 rfl (by omega) _ _ _ _ ⟨.bl true, H, I, rfl, q⟩
section
variable {K : PySem.W.Frag} {Δ : Sl} {G L : List M} {Qd : Po} {Qn : PoN}
theorem u_eqT0 {ds : List D} (k : Qd (.d (.bl ds.isEmpty)) G L) : OpC K (rEqT0 K) (.d (.tup ds)) (.d (.tup [])) Δ G L Qd := fun w ls σ H vx vy c rx ry Q q => by
  obtain ⟨a, xs, rfl, h1, r1⟩ := rx
  obtain ⟨b, ys, rfl, h2, r2⟩ := ry
  cases r2
  refine ⟨a, b, xs, rfl, rfl, h1.sq, h2.sq, ?_⟩
  have e : xs.isEmpty = ds.isEmpty := by
    have := r1.length
    cases xs <;> cases ds <;> first | rfl | cases this
  rw [e]
  exact q.go c Ext.refl (s := .d (.bl ds.isEmpty)) rfl k
theorem u_neT0 {ds : List D} (k : Qd (.d (.bl (!ds.isEmpty))) G L) : OpC K (rNeT0 K) (.d (.tup ds)) (.d (.tup [])) Δ G L Qd := fun w ls σ H vx vy c rx ry Q q => by
  obtain ⟨a, xs, rfl, h1, r1⟩ := rx
  obtain ⟨b, ys, rfl, h2, r2⟩ := ry
  cases r2
  refine ⟨a, b, xs, rfl, rfl, h1.sq, h2.sq, ?_⟩
  have e : xs.isEmpty = ds.isEmpty := by
    have := r1.length
    cases xs <;> cases ds <;> first | rfl | cases this
  rw [e]
  exact q.go c Ext.refl (s := .d (.bl (!ds.isEmpty))) rfl k
theorem u_eqL0 {n : Bool} {x y : S} (h : ∃ ds, lsG G L x = some ds ∧ lsG G L y = some [] ∧ Qd (.d (.bl (xor n ds.isEmpty))) G L) : OpC K (rEqL0 K n) x y Δ G L Qd := fun w ls σ H vx vy c rx ry Q q => by
  obtain ⟨ds, hx, hy, k⟩ := h
  obtain ⟨a, xs, rfl, h1, r1⟩ := lsG_get c rx hx
  obtain ⟨b, ys, rfl, h2, r2⟩ := lsG_get c ry hy
  cases r2
  refine ⟨a, b, xs, rfl, rfl, h1, h2, ?_⟩
  have e : xs.isEmpty = ds.isEmpty := by
    have := r1.length
    cases xs <;> cases ds <;> first | rfl | cases this
  rw [e]
  exact q.go c Ext.refl (s := .d (.bl (xor n ds.isEmpty))) rfl k
theorem u_eqL0e {x y : S} (h : ∃ ds, lsG G L x = some ds ∧ lsG G L y = some [] ∧ Qd (.d (.bl ds.isEmpty)) G L) : OpC K (rEqL0 K false) x y Δ G L Qd :=
  let ⟨ds, hx, hy, k⟩ := h
  u_eqL0 ⟨ds, hx, hy, by rw [Bool.false_xor]; exact k⟩
theorem u_neL0e {x y : S} (h : ∃ ds, lsG G L x = some ds ∧ lsG G L y = some [] ∧ Qd (.d (.bl (!ds.isEmpty))) G L) : OpC K (rEqL0 K true) x y Δ G L Qd :=
  let ⟨ds, hx, hy, k⟩ := h
  u_eqL0 ⟨ds, hx, hy, by rw [Bool.true_xor]; exact k⟩
theorem ap_isiX {d : D} {U : String} (h : ∃ T b, tyD d = some T ∧ kitB T U = some b ∧ Qd (.d (.bl b)) G L) : ApC K (rIsi K) [.d d, .d (.ty U)] Δ G L Qd :=
  let ⟨_, _, h1, h2, q⟩ := h
  ap_isi h1 h2 q
end
end DL

namespace DL
open PySem PySem.Spec PyProof.Rows L2
section
variable {K : PySem.W.Frag}
/-- the hidden object at p becomes new: its own, or data -/
theorem Ctx.showM {w : W} {ls : List Addr} {σ : L2.St} {H : Hp} {Δ : Sl} {G L : List M} {p : Addr} {m : M} (c : Ctx K (w.add p) ls σ H Δ G L) (hr : ∀ a ∈ w.gs, w.R a) (hm : MOk K H (Rg w (ls ++ [p])) w.gs ls p m) (hd : ∀ x, m.dat = some x → Rep K H (Rg w ls) x (.ref p)) (n0 : w.H0 p = none) (np : p ∉ w.gs) (nl : p ∉ ls) (nR : ¬ w.R p) : NewAt K w ls σ H Δ G L p m := by
  have g1 : Grow H H (Rg (w.add p) ls) (Rg w (ls ++ [p])) := grow_iff fun a r => rg_add.mpr r
  have g2 : Grow H H (Rg (w.add p) ls) (Rg w ls) := grow_iff fun a r => by
    rcases r with r | r
    · exact .inl (.inl r)
    · exact .inr r
  refine ⟨⟨hr, fun a r => c.rin a (.inl r), ?_, ?_, c.h0, c.sl.grow g1 (Pre.refl _) (Pre.app _ _), paired_map c.gl fun a m _ q => q.grow g1 (Pre.refl _) (Pre.nil _) (fun _ z => z),
    paired_app (paired_map c.lo fun a m _ q => q.grow g1 (Pre.refl _) (Pre.app _ _) (fun _ z => z)) (.cons (hm.grow (Grow.refl _ _) (Pre.refl _) (Pre.app _ _) fun _ z => z) .nil), fun a ha r => (List.mem_append.mp ha).elim (fun z => c.ld a z (.inl r)) fun z => nR ((List.mem_singleton.mp z) ▸ r)⟩,
    ⟨hr, fun a r => c.rin a (.inl r), c.nd, c.fr, c.h0, c.sl.grow g2 (Pre.refl _) (Pre.refl _), paired_map c.gl fun a m _ q => q.grow g2 (Pre.refl _) (Pre.refl _) (fun _ z => z),
    paired_map c.lo fun a m _ q => q.grow g2 (Pre.refl _) (Pre.refl _) (fun _ z => z), fun a m r => c.ld a m (.inl r)⟩, hd⟩
  · show (w.gs ++ (ls ++ [p])).Nodup
    rw [← List.append_assoc]
    refine List.nodup_append.mpr ⟨c.nd, by simp, fun a ha b hb => ?_⟩
    rw [List.mem_singleton] at hb
    subst hb
    rintro rfl
    rcases List.mem_append.mp ha with z | z
    · exact np z
    · exact nl z
  · intro a ha
    rcases List.mem_append.mp ha with z | z
    · exact c.fr a z
    · rw [List.mem_singleton] at z
      subst z
      exact n0
section
variable {Δ : Sl} {G L : List M} {Qd : Po} {Qn : PoN} {te : TE}
theorem evn_dnew (k : Qn (.dc []) G L) : EvN K tDNewK Δ G L Qn := fun w ls σ H c Q r => fun p hp => r p _ _ _ _ hp (newAt_dc (ds := []) c hp rfl) (Ext.new hp) k
/-- {i: e} -/
theorem evn_disp1 {i : Int} (h : EvC K te Δ G L fun s G1 L1 => ∃ x, s = .d x ∧ Qn (.dc [(.inl i, x)]) G1 L1) : EvN K (tDisp [(tC (.int i), te)]) Δ G L Qn := fun w ls σ H c Q r => fun p hp => by
  have nR := c.free hp
  have n0 := c.free0 hp
  have ng : p ∉ w.gs := fun z => nR (.inl (c.reg p z))
  have nl : p ∉ ls := fun z => nR (.inr z)
  refine h (w.add p) ls σ _ (c.hide (o := .dK []) hp) _ fun v s H2 G2 L2 c2 e2 r2 ⟨x, e, k⟩ => ?_
  subst e
  have hp2 : H2 p = some (.dK []) := e2 p _ upd_same ng nl
  refine ⟨hp2, [(.inl i, v)], rfl, (by show 1 ≤ 15; decide), ?_⟩
  have gu : Grow H2 (upd H2 p (.dK [(.inl i, v)])) (Rg (w.add p) ls) (Rg (w.add p) ls) := grow_upd (.inl (.inr rfl))
  have c3 := Ctx.setH (o := .dK [(.inl i, v)]) c2 hp2 n0 ng nl
  have rv : Rep K (upd H2 p (.dK [(.inl i, v)])) (Rg (w.add p) ls) x v := Rep.grow gu r2
  have g1 : Grow (upd H2 p (.dK [(.inl i, v)])) (upd H2 p (.dK [(.inl i, v)])) (Rg (w.add p) ls) (Rg w (ls ++ [p])) := grow_iff fun a r => rg_add.mpr r
  have g2 : Grow (upd H2 p (.dK [(.inl i, v)])) (upd H2 p (.dK [(.inl i, v)])) (Rg (w.add p) ls) (Rg w ls) := grow_iff fun a r => by
    rcases r with r | r
    · exact .inl (.inl r)
    · exact .inr r
  refine r p (.dc [(.inl i, x)]) (upd H2 p (.dK [(.inl i, v)])) G2 L2 hp (c3.showM c.reg ⟨_, upd_same, v, [], rfl, Rep.grow g1 rv, rfl⟩ (fun y e => ?_) n0 ng nl (fun z => nR (.inl z))) ?_ k
  · cases e
    refine ⟨p, _, rfl, ⟨upd_same, ?_⟩, v, [], rfl, Rep.grow g2 rv, rfl⟩
    rintro (z | z)
    · exact nR (.inl z)
    · exact nl z
  · intro a o h1 h2 h3
    have na : a ≠ p := ne_of_none h1 hp
    rw [upd_ne na]
    exact e2 a o (by rw [upd_ne na]; exact h1) h2 h3
/-- str(i) -/
def rStrI : List V → Hp → VK → Prop := fun xs H Q => ∃ i, xs = [.int i] ∧ i.natAbs.log2 < 1920 ∧ Q (.str (Str.ofString (toString i))) H
theorem uc_strI {X : Cx} : CallR X (.type "str") rStrI := call_str_int
theorem digits_ok (i : Int) : PyData.strOk (Str.ofString (toString i)) = true := by
  rw [Str.ofString_eq_toList]
  unfold PyData.strOk
  show ((((toString i).toList.map Char.toNat).toArray).all fun c => decide (c < 0x110000)) = true
  rw [List.all_toArray, List.all_eq_true]
  intro c hc
  obtain ⟨ch, _, rfl⟩ := List.mem_map.mp hc
  have := ch.valid
  refine decide_eq_true ?_
  show ch.val.toNat < _
  rcases this with h | ⟨_, h⟩
  · have h : ch.val.toNat < 0xd800 := h
    omega
  · exact h
theorem ap_strI {i : Int} (hi : i.natAbs < 10 ^ 60) (k : ∀ z : Str, PyData.strOk z = true → z.length ≤ 61 → Qd (.d (.str z)) G L) : ApC K rStrI [.d (.int i)] Δ G L Qd := fun w ls σ H vs c rs Q q => by
  obtain ⟨v, rfl, r⟩ := pair1 rs
  cases r
  obtain ⟨p, e, h2, _, _, h5⟩ := shw_int 0 hi
  cases e
  exact ⟨i, rfl, of_decide_eq_true h2, q.go c Ext.refl (s := .d (.str (Str.ofString (toString i)))) rfl (k _ (digits_ok i) h5)⟩
end
end
/-! ### a def that calls itself -/
def recPrev (s : Nat → DSpec) : Nat → DSpec
  | 0 => fun _ _ _ => False
  | h + 1 => s h
theorem fnOk_false {P : Program} {w : World} {K : PySem.W.Frag} {mg : Str → Option Value} {base : Heap} {k : Nat} {f : Addr} {fd : FuncData} {ps : List Str} {s : Nat → DSpec} : FnOk P w K mg base CX0 k f fd ps (spD K (recPrev s 0)) :=
  ⟨fun _ _ _ _ ⟨_, _, _, _, _, _, _, h, _⟩ => h.elim, fun _ _ _ _ _ _ _ _ _ _ _ _ _ ⟨_, _, _, _, _, _, _, h, _⟩ => h.elim⟩
theorem rec_ok {P : Program} {w : World} {K : PySem.W.Frag} {mg : Str → Option Value} {base : Heap} {l : Nat} {f : Addr} {fd : FuncData} {ps : List Str} {s : Nat → DSpec}
    (step : ∀ h, FnOk P w K mg base CX0 (l + h) f fd ps (spD K (recPrev s h)) → FnOk P w K mg base CX0 (l + h + 1) f fd ps (spD K (s h))) : ∀ h, FnOk P w K mg base CX0 (l + h + 1) f fd ps (spD K (s h))
  | 0 => step 0 fnOk_false
  | h + 1 => step (h + 1) (rec_ok step h)
end DL

namespace DL
open PySem PySem.Spec PyProof.Rows L2
/-! ### dicts that hold handles: reading, storing, and a new one with a new object in it -/
def rDGet : R2 := fun x y H Q => ∃ a v, x = .ref a ∧ DGet H a y (some v) ∧ Q v H
theorem pe_dgetO {X : Cx} {o i : Expr} {pos : Pos} {td ty : TE} (hu : X.A.units + 1 < cLine) (ho : PE X o td) (hi : PE X i ty) (hs : NoSl i) : PE X (.Subscript o i pos) (tOp rDGet td ty) := pe_dget hu ho hi hs
section
variable {K : PySem.W.Frag} {Δ : Sl} {G L : List M} {Qd : Po} {Qn : PoN} {te : TE} {E : EndsD}
def dhG (G L : List M) : S → Option (List (Key × S))
  | .l k => match L[k]? with
    | some (.dh ds) => some ds
    | _ => none
  | .g k => match G[k]? with
    | some (.dh ds) => some ds
    | _ => none
  | _ => none
theorem dhG_get {w : W} {ls : List Addr} {σ : L2.St} {H : Hp} {v : V} {s : S} {ds : List (Key × S)} (c : Ctx K w ls σ H Δ G L) (r : RS K H (Rg w ls) w.gs ls s v) (h : dhG G L s = some ds) :
    ∃ a vs, v = .ref a ∧ H a = some (.dK vs) ∧ Paired (RSK K H (Rg w ls) w.gs ls) ds vs := by
  unfold dhG at h
  split at h
  · rename_i k
    split at h
    · rename_i ds' hk
      cases h
      obtain ⟨a, ha, rfl⟩ := r
      obtain ⟨b, hb, vs, h1, q⟩ := paired_get c.lo hk
      rw [ha] at hb
      cases hb
      exact ⟨a, vs, rfl, h1, q⟩
    · cases h
  · rename_i k
    split at h
    · rename_i ds' hk
      cases h
      obtain ⟨a, ha, rfl⟩ := r
      obtain ⟨b, hb, vs, h1, q⟩ := paired_get c.gl hk
      rw [ha] at hb
      cases hb
      exact ⟨a, vs, rfl, h1, paired_map q fun _ _ _ z => ⟨z.1, RS.grow (Grow.refl _ _) (Pre.refl _) (Pre.nil _) z.2⟩⟩
    · cases h
  · cases h
def lkS : List (Key × S) → Key → Option S
  | [], _ => none
  | (k, s) :: r, ky => if k = ky then some s else lkS r ky
theorem lk_rs {H : Hp} {R : Addr → Prop} {gs ls : List Addr} {ky : Key} {s : S} : ∀ {kvs : List (Key × S)} {vs : List (Key × V)}, Paired (RSK K H R gs ls) kvs vs → lkS kvs ky = some s → ∃ v, valV vs ky = some v ∧ RS K H R gs ls s v
  | _, _, .nil, h => by cases h
  | (k, x) :: r, (k', v) :: vs, .cons ⟨e, q⟩ t, h => by
    obtain rfl : k = k' := e
    unfold lkS at h
    by_cases hk : k = ky
    · rw [if_pos hk] at h
      cases h
      exact ⟨v, valV_pos hk, q⟩
    · rw [if_neg hk] at h
      obtain ⟨u, h1, h2⟩ := lk_rs t h
      exact ⟨u, by rw [valV_neg hk]; exact h1, h2⟩
theorem u_dgetS {x : S} {z : Str} (h : ∃ kvs, dhG G L x = some kvs ∧ ∃ s, lkS kvs (.inr z) = some s ∧ Qd s G L) : OpC K rDGet x (.d (.str z)) Δ G L Qd := fun w ls σ H vx vy c rx ry Q q => by
  obtain ⟨kvs, hk, s, hs, k⟩ := h
  obtain ⟨a, vs, rfl, h1, r⟩ := dhG_get c rx hk
  obtain ⟨v, hv, rv⟩ := lk_rs r hs
  cases ry
  refine ⟨a, v, rfl, ?_, q.go c Ext.refl rv k⟩
  have := DGet.k (k := (.inr z : Key)) h1
  rw [hv] at this
  exact this
def puS : List (Key × S) → Key → S → List (Key × S)
  | [], _, _ => []
  | (k, s) :: r, ky, x => if k = ky then (k, x) :: puS r ky x else (k, s) :: puS r ky x
theorem pu_rs {H : Hp} {R : Addr → Prop} {gs ls : List Addr} {ky : Key} {s : S} {v : V} (rv : RS K H R gs ls s v) : ∀ {kvs : List (Key × S)} {vs : List (Key × V)}, Paired (RSK K H R gs ls) kvs vs → Paired (RSK K H R gs ls) (puS kvs ky s) (vs.map fun kv => if kv.1 = ky then (kv.1, v) else kv)
  | _, _, .nil => .nil
  | (k, x) :: r, (k', u) :: vs, .cons ⟨e, q⟩ t => by
    obtain rfl : k = k' := e
    unfold puS
    rw [List.map_cons]
    by_cases hk : k = ky
    · rw [if_pos hk, if_pos hk]
      exact .cons ⟨rfl, rv⟩ (pu_rs rv t)
    · rw [if_neg hk, if_neg hk]
      exact .cons ⟨rfl, q⟩ (pu_rs rv t)
/-- d[z] = x, z there -/
theorem sto_dg {k : Nat} {kvs : List (Key × S)} {z : Str} {x : D} {Qt : List M → List M → Prop} (h : G[k]? = some (.dh kvs) ∧ kvs.length < 100 ∧ (lkS kvs (.inr z)).isSome = true ∧ Qt (G.set k (.dh (puS kvs (.inr z) (.d x)))) L) : StoC K rSetD (.g k) (.d (.str z)) (.d x) Δ G L Qt := fun w ls σ H vo vi vv c ro ri rv Q ret => by
  obtain ⟨hx, hl, hs, q⟩ := h
  obtain ⟨a, ha, rfl⟩ := ro
  obtain ⟨b, hb, vs, h1, r⟩ := paired_get c.gl hx
  rw [ha] at hb
  cases hb
  cases ri
  obtain ⟨s, hs⟩ := Option.isSome_iff_exists.mp hs
  obtain ⟨u, hu, _⟩ := lk_rs r hs
  have e : putK vs (.inr z : Key) vv = vs.map fun kv => if kv.1 = .inr z then (kv.1, vv) else kv := by
    unfold putK
    rw [if_pos (by rw [valV_any, hu]; rfl)]
  refine ⟨a, _, rfl, DPut.k (k := (.inr z : Key)) (v := vv) h1 (Nat.lt_of_lt_of_le (m := 100) (by rw [← paired_len r]; exact hl) (by decide)), ?_⟩
  rw [e]
  have g : Grow H (upd H a (.dK (vs.map fun kv => if kv.1 = .inr z then (kv.1, vv) else kv))) (Rg w ls) (Rg w ls) := grow_upd (.inl (c.reg a (List.mem_of_getElem? ha)))
  exact ret _ _ _ (c.setG (m := .dh _) ha ⟨_, upd_same, paired_map (pu_rs (s := .d x) (ls := []) rv r) fun _ _ _ z => ⟨z.1, z.2.grow g (Pre.refl _) (Pre.refl _)⟩⟩) (Ext.setG (List.mem_of_getElem? ha)) q
theorem merge3 {k1 k2 k3 : Key} {x y z : V} (h12 : ¬ k1 = k2) (h13 : ¬ k1 = k3) (h23 : ¬ k2 = k3) : mergeK [] [(k1, x), (k2, y), (k3, z)] = [(k1, x), (k2, y), (k3, z)] := by
  simp [mergeK, putK, h12, h13, h23]
/-- return {k1: a new object, k2: .., k3: ..} -/
theorem st_retD {k1 k2 k3 : Str} {t1 t2 t3 : TE} (h12 : k1 ≠ k2) (h13 : k1 ≠ k3) (h23 : k2 ≠ k3)
    (h : EvN K t1 Δ G L fun m G1 L1 => EvC K t2 Δ G1 (L1 ++ [m]) fun s2 G2 L2 => EvC K t3 Δ G2 L2 fun s3 G3 L3 => E.rt (.l L3.length) G3 (L3 ++ [.dh [(.inr k1, .l L1.length), (.inr k2, s2), (.inr k3, s3)]])) :
    StC K (tRet (tDisp [(tC (.str k1), t1), (tC (.str k2), t2), (tC (.str k3), t3)])) Δ G L E := fun w ls σ H c D s => fun p hp => by
  have nR := c.free hp
  have n0 := c.free0 hp
  have ng : p ∉ w.gs := fun z => nR (.inl (c.reg p z))
  have nl : p ∉ ls := fun z => nR (.inr z)
  refine h (w.add p) ls σ _ (c.hide (o := .dK []) hp) _ fun q m H1 G1 L1 hq n e1 k => ?_
  have hqp : q ≠ p := fun e => by
    rw [e, upd_same] at hq
    cases hq
  refine k (w.add p) (ls ++ [q]) σ H1 n.own _ fun v2 s2 H2 G2 L2 c2 e2 r2 k2' => ?_
  refine k2' (w.add p) (ls ++ [q]) σ H2 c2 _ fun v3 s3 H3 G3 L3 c3 e3 r3 k3' => ?_
  have np : p ∉ ls ++ [q] := fun z => (List.mem_append.mp z).elim nl fun z => hqp (List.mem_singleton.mp z).symm
  have hp1 : H1 p = some (.dK []) := e1 p _ upd_same ng nl
  have hp2 : H2 p = some (.dK []) := e2 p _ hp1 ng np
  have hp3 : H3 p = some (.dK []) := e3 p _ hp2 ng np
  refine ⟨hp3, [(.inr k1, .ref q), (.inr k2, v2), (.inr k3, v3)], rfl, (by show 3 ≤ 15; decide), ?_⟩
  rw [merge3 (fun z => h12 (Sum.inr.inj z)) (fun z => h13 (Sum.inr.inj z)) (fun z => h23 (Sum.inr.inj z))]
  have r2' := r2.on c2 e3
  have gu : Grow H3 (upd H3 p (.dK [(.inr k1, .ref q), (.inr k2, v2), (.inr k3, v3)])) (Rg (w.add p) (ls ++ [q])) (Rg (w.add p) (ls ++ [q])) := grow_upd (.inl (.inr rfl))
  have c4 := Ctx.setH (o := .dK [(.inr k1, .ref q), (.inr k2, v2), (.inr k3, v3)]) c3 hp3 n0 ng np
  have g1 : Grow (upd H3 p (.dK [(.inr k1, .ref q), (.inr k2, v2), (.inr k3, v3)])) (upd H3 p (.dK [(.inr k1, .ref q), (.inr k2, v2), (.inr k3, v3)])) (Rg (w.add p) (ls ++ [q])) (Rg w (ls ++ [q] ++ [p])) := grow_iff fun a r => rg_add.mpr r
  have hlen : ls.length = L1.length := paired_len n.c.lo
  have hq1 : (ls ++ [q])[L1.length]? = some q := by
    rw [← hlen, List.getElem?_append_right (Nat.le_refl _), Nat.sub_self]
    rfl
  have n2 := c4.showM (m := .dh [(.inr k1, .l L1.length), (.inr k2, s2), (.inr k3, s3)]) c.reg
    ⟨_, upd_same, .cons ⟨rfl, q, hq1, rfl⟩ (.cons ⟨rfl, (r2'.grow gu (Pre.refl _) (Pre.refl _)).grow g1 (Pre.refl _) (Pre.refl _)⟩ (.cons ⟨rfl, (r3.grow gu (Pre.refl _) (Pre.refl _)).grow g1 (Pre.refl _) (Pre.refl _)⟩ .nil))⟩
    (fun y e => by cases e) n0 ng np (fun z => nR (.inl z))
  refine s.rt (ls ++ [q] ++ [p]) σ _ Δ G3 _ (.ref p) (.l L3.length) n2.own ⟨p, ?_, rfl⟩ k3'
  rw [← paired_len c3.lo, List.getElem?_append_right (Nat.le_refl _), Nat.sub_self]
  rfl
end
end DL

namespace DL
open PySem PySem.Spec PyProof.Rows L2
/-! ### wide ints -/
def Wd (n : Nat) (x : Int) : Prop := x.natAbs < 2 ^ n
theorem Wd.mono {n m : Nat} {x : Int} (h : Wd n x) (l : n ≤ m) : Wd m x := Nat.lt_of_lt_of_le h (Nat.pow_le_pow_right (by decide) l)
theorem Wd.add {n : Nat} {x y : Int} (h : Wd n x) (k : Wd n y) : Wd (n + 1) (x + y) := by
  unfold Wd at *
  rw [Nat.pow_succ]
  generalize 2 ^ n = p at *
  omega
theorem Wd.mul {n m : Nat} {x y : Int} (h : Wd n x) (k : Wd m y) : Wd (n + m) (x * y) := by
  unfold Wd at *
  rw [Nat.pow_add, Int.natAbs_mul]
  exact Nat.mul_lt_mul'' h k
theorem Wd.of {n : Nat} {x : Int} (h0 : 0 ≤ x) (h : x < 2 ^ n) : Wd n x := by
  unfold Wd
  have : ((2 ^ n : Nat) : Int) = 2 ^ n := by norm_cast
  omega
theorem Wd.div {n : Nat} {z m : Int} (h : Wd n z) (h0 : 0 ≤ z) (hm : 0 < m) : Wd n (z / m) := by
  unfold Wd at *
  have h1 : z / m ≤ z := Int.ediv_le_self m h0
  have h2 : 0 ≤ z / m := Int.ediv_nonneg h0 (by omega)
  generalize 2 ^ n = p at *
  omega
theorem wd_bits {z : Int} (h : Builtin.Int.intBits z ≤ 1048576) : Wd 1048576 z := by
  refine Wd.mono (n := Builtin.Int.intBits z) ?_ h
  unfold Wd Builtin.Int.intBits
  split
  · rename_i e
    have : z = 0 := by simpa using e
    subst this
    decide
  · exact Nat.lt_log2_self
theorem Wd.mulX {n m : Nat} {x y : Int} (h : Wd n x) (k : Wd m y) (l : n + m ≤ 134217728) : CMulX x y := mulx_ok h k l
def uMulX (K : PySem.W.Frag) : R2 := fun x y H Q => uMulT K x y H Q ∨ rI CMulX (fun i j => .int (i * j)) x y H Q
theorem uo_mulX {X : Cx} : OpR X (binaryOp .Mult) (uMulX X.K) := uo_mulT.or op_mulX
section
variable {K : PySem.W.Frag} {Δ : Sl} {G L : List M} {Qd : Po} {Qn : PoN}
theorem u_mulX_i {i j : Int} (hc : CMul i j) (k : Qd (.d (.int (i * j))) G L) : OpC K (uMulX K) (.d (.int i)) (.d (.int j)) Δ G L Qd := opc_orl (u_mulT_i hc k)
theorem u_mulX_w {i j : Int} (hc : CMulX i j) (k : Qd (.d (.int (i * j))) G L) : OpC K (uMulX K) (.d (.int i)) (.d (.int j)) Δ G L Qd := opc_orr (opc_Ii (g := fun i j => i * j) hc k)
end
/-! ### the deck: a dict of cells (a list of ints), a seed and a count -/
def ekK (c : S) (seed cnt : Int) : List (Key × S) := [(.inr "cells", c), (.inr "seed", .d (.int seed)), (.inr "at", .d (.int cnt))]
theorem key_ne {x y : Str} (h : x ≠ y) : ¬ (Sum.inr x : Key) = .inr y := fun z => h (Sum.inr.inj z)
theorem cs : ("cells" : Str) ≠ "seed" := by decide
theorem ca : ("cells" : Str) ≠ "at" := by decide
theorem sa : ("seed" : Str) ≠ "at" := by decide
theorem lk_cells {c : S} {seed cnt : Int} : lkS (ekK c seed cnt) (.inr "cells") = some c := by
  unfold ekK lkS
  rw [if_pos rfl]
theorem lk_seed {c : S} {seed cnt : Int} : lkS (ekK c seed cnt) (.inr "seed") = some (.d (.int seed)) := by
  unfold ekK lkS
  rw [if_neg (key_ne cs)]
  unfold lkS
  rw [if_pos rfl]
theorem lk_at {c : S} {seed cnt : Int} : lkS (ekK c seed cnt) (.inr "at") = some (.d (.int cnt)) := by
  unfold ekK lkS
  rw [if_neg (key_ne ca)]
  unfold lkS
  rw [if_neg (key_ne sa)]
  unfold lkS
  rw [if_pos rfl]
theorem pu_at {c : S} {seed cnt n : Int} : puS (ekK c seed cnt) (.inr "at") (.d (.int n)) = ekK c seed n := by
  unfold ekK puS
  rw [if_neg (key_ne ca)]
  unfold puS
  rw [if_neg (key_ne sa)]
  unfold puS
  rw [if_pos rfl]
  rfl
section
variable {K : PySem.W.Frag} {Δ : Sl} {G L : List M} {Qd : Po}
theorem dhG_g {k : Nat} {kvs : List (Key × S)} (h : G[k]? = some (.dh kvs)) : dhG G L (.g k) = some kvs := by
  show (match G[k]? with
    | some (.dh ds) => some ds
    | _ => none) = _
  rw [h]
theorem dk_cells {k : Nat} {c : S} {seed cnt : Int} (h : G[k]? = some (.dh (ekK c seed cnt))) (q : Qd c G L) : OpC K rDGet (.g k) (.d (.str "cells")) Δ G L Qd :=
  u_dgetS ⟨_, dhG_g h, _, lk_cells, q⟩
theorem dk_seed {k : Nat} {c : S} {seed cnt : Int} (h : G[k]? = some (.dh (ekK c seed cnt))) (q : Qd (.d (.int seed)) G L) : OpC K rDGet (.g k) (.d (.str "seed")) Δ G L Qd :=
  u_dgetS ⟨_, dhG_g h, _, lk_seed, q⟩
theorem dk_at {k : Nat} {c : S} {seed cnt : Int} (h : G[k]? = some (.dh (ekK c seed cnt))) (q : Qd (.d (.int cnt)) G L) : OpC K rDGet (.g k) (.d (.str "at")) Δ G L Qd :=
  u_dgetS ⟨_, dhG_g h, _, lk_at, q⟩
theorem sto_at {k : Nat} {c : S} {seed cnt n : Int} {Qt : List M → List M → Prop} (h : G[k]? = some (.dh (ekK c seed cnt))) (q : Qt (G.set k (.dh (ekK c seed n))) L) : StoC K rSetD (.g k) (.d (.str "at")) (.d (.int n)) Δ G L Qt :=
  sto_dg ⟨h, (by show 3 < 100; decide), (by rw [lk_at]; rfl), (by rw [pu_at]; exact q)⟩
end
structure Ek (G : List M) (k c : Nat) (n : Int) (cells : List Int) (seed cnt : Int) : Prop where
  hk : G[k]? = some (.dh (ekK (.g c) seed cnt))
  hc : G[c]? = some (.pl (cells.map D.int))
  ne : k ≠ c
  s0 : 0 ≤ seed
  s1 : seed < 2 ^ 128
  n0 : 0 ≤ cnt
  n1 : cnt ≤ n
  cl : cells.length ≤ 1000
  cb : ∀ z ∈ cells, Wd 1048576 z
def ekSet (G : List M) (k c : Nat) (cells : List Int) (seed cnt : Int) : List M := (G.set c (.pl (cells.map D.int))).set k (.dh (ekK (.g c) seed cnt))
/-- what a draw leaves: the deck itself otherwise, all else as it was -/
def EkTo (G : List M) (k c : Nat) (n : Int) (G' : List M) : Prop := ∃ cells seed cnt, G' = ekSet G k c cells seed cnt ∧ Ek G' k c n cells seed cnt
theorem ekTo_mk {G : List M} {k c : Nat} {n : Int} {cells : List Int} {seed cnt : Int} {x y : M} (hk : G[k]? = some x) (hc : G[c]? = some y) (ne : k ≠ c) (s0 : 0 ≤ seed) (s1 : seed < 2 ^ 128) (n0 : 0 ≤ cnt) (n1 : cnt ≤ n) (cl : cells.length ≤ 1000) (cb : ∀ z ∈ cells, Wd 1048576 z) :
    EkTo G k c n ((G.set k (.dh (ekK (.g c) seed cnt))).set c (.pl (cells.map D.int))) := by
  refine ⟨cells, seed, cnt, set_comm ne, ?_⟩
  rw [set_comm ne]
  exact ⟨set_at ((set_off ne).trans hk), by rw [set_off (Ne.symm ne)]; exact set_at hc, ne, s0, s1, n0, n1, cl, cb⟩
def spDrawE : DSpec := fun ss G Q => ∃ (k c : Nat) (m n : Int) (cells : List Int) (seed cnt : Int), ss = [.g k, .d (.int m)] ∧ Ek G k c n cells seed cnt ∧ n ≤ 2 ^ 32 ∧ 0 < m ∧ m < 2 ^ 60 ∧
  ∀ r G', EkTo G k c (n + 1) G' → 0 ≤ r → r < m → Q (.v (.d (.int r))) G'
theorem EkTo.dk {G G' : List M} {k c : Nat} {n : Int} (h : EkTo G k c n G') : ∃ cells seed cnt, Ek G' k c n cells seed cnt := let ⟨a, b, d, _, e⟩ := h; ⟨a, b, d, e⟩
theorem EkTo.trans {G G1 G2 : List M} {k c : Nat} {n m : Int} (h : EkTo G k c n G1) (h2 : EkTo G1 k c m G2) : EkTo G k c m G2 := by
  obtain ⟨a, b, d, rfl, q⟩ := h
  obtain ⟨a', b', d', rfl, q'⟩ := h2
  refine ⟨a', b', d', ?_, q'⟩
  unfold ekSet
  rw [set_comm (Ne.symm q'.ne), set_set, set_comm q'.ne, set_set]
theorem EkTo.refl {G : List M} {k c : Nat} {n : Int} {cells : List Int} {seed cnt : Int} (h : Ek G k c n cells seed cnt) : EkTo G k c n G := by
  refine ⟨cells, seed, cnt, ?_, h⟩
  unfold ekSet
  rw [set_same h.hc, set_same h.hk]
theorem EkTo.mono {G G' : List M} {k c : Nat} {n m : Int} (h : EkTo G k c n G') (e : n ≤ m) : EkTo G k c m G' := by
  obtain ⟨a, b, d, rfl, q⟩ := h
  exact ⟨a, b, d, rfl, ⟨q.hk, q.hc, q.ne, q.s0, q.s1, q.n0, Int.le_trans q.n1 e, q.cl, q.cb⟩⟩
theorem draw_useE {G : List M} {k c : Nat} {m n : Int} {cells : List Int} {seed cnt : Int} {Q : Res → List M → Prop} (h : Ek G k c n cells seed cnt) (h1 : n ≤ 2 ^ 32) (h2 : 0 < m) (h3 : m < 2 ^ 60)
    (k' : ∀ r G' cells' seed' cnt', EkTo G k c (n + 1) G' → Ek G' k c (n + 1) cells' seed' cnt' → 0 ≤ r → r < m → Q (.v (.d (.int r))) G') : spDrawE [.g k, .d (.int m)] G Q :=
  ⟨k, c, m, n, cells, seed, cnt, rfl, h, h1, h2, h3, fun r G' t a b => let ⟨x, y, z, q⟩ := t.dk; k' r G' x y z t q a b⟩
def spDeckE : DSpec := fun ss G Q => ∃ ns : List Int, ss = [.d (.scr ns)] ∧ ns.length ≤ 63 ∧ (∀ z ∈ ns, Wd 1048576 z) ∧ ∀ (cells : List Int) (seed : Int), cells.length ≤ 63 → (∀ z ∈ cells, Wd 1048576 z) → 0 ≤ seed → seed < 2 ^ 128 → Q (.new [.pl (cells.map D.int), .dh (ekK (.l 0) seed 0)] 1) G
def spLawE : DSpec := fun ss G Q => ∃ ns : List Int, ss = [.d (.scr ns)] ∧ G = [] ∧ ns.length ≤ 63 ∧ (∀ z ∈ ns, Wd 1048576 z) ∧ Q (.v (.d (.bl true))) []
theorem spLawE_in {ns : List Int} (h : ns.length ≤ 63) (hb : ∀ z ∈ ns, Builtin.Int.intBits z ≤ 1048576) : spLawE [.d (.scr ns)] [] fun r _ => r = .v (.d (.bl true)) := ⟨ns, rfl, rfl, h, fun z hz => wd_bits (hb z hz), rfl⟩
end DL

namespace DL
open PySem PySem.Spec PyProof.Rows L2
/-! ### max(xs, default=d), sum(xs, start=d), max of a list, zip -/
def maxDf (d : Int) : List Int → Int
  | [] => d
  | n :: ns => ns.foldl max n
theorem reads_ints {h : Heap} : ∀ {ns : List Int} {us : List Value}, Vals (ns.map V.int) us → ReadsAll h us (ns.map PyData.int) []
  | [], _, .nil => .nil
  | n :: ns, _, .cons r t => by
    obtain ⟨k, rfl⟩ := r
    exact .cons (as := []) (bs := []) (.int n k) (reads_ints t)
theorem alikeAll_ints (ns : List Int) : PySem.W.AlikeAll (ns.map PyData.int) := by
  refine ⟨fun x hx y hy => ?_, fun x hx => ?_⟩
  · obtain ⟨i, _, rfl⟩ := List.mem_map.mp hx
    obtain ⟨j, _, rfl⟩ := List.mem_map.mp hy
    rfl
  · obtain ⟨i, _, rfl⟩ := List.mem_map.mp hx
    intro z
    cases z
def rMaxDf (K : PySem.W.Frag) : List V → List V → Hp → VK → Prop := fun vs zs H Q => ∃ (a : Addr) (ns : List Int) (d : Int), vs = [V.ref a] ∧ zs = [V.int d] ∧ SqL K H a (ns.map V.int) ∧ Q (.int (maxDf d ns)) H
theorem crk_maxDf {X : Cx} (hc : X.calm = true) (hu : X.A.units + 64 < cLine) : CallRK X (.builtin "max") [("default" : Str)] (rMaxDf X.K) := by
  intro pins s σ H vs zs us ws Q I r rz h
  obtain ⟨a, ns, d, rfl, rfl, hs, q⟩ := h
  obtain rfl := Vals.ref1 r
  obtain ⟨w1, rfl, e1⟩ := vals1 rz
  obtain ⟨t, rfl⟩ := e1
  obtain ⟨its, rv, hl, _⟩ := I.list hs
  show wpAny (model X.prog X.w) X.A (call (.builtin "max") [.ref a] [(Str.ofString "default", .int d t)]) (EP X pins σ Q) X.xe s
  refine PySem.W.max_list_default (I.ok.hd hc) hl.isList (xs := ns.map PyData.int) (as := []) (by simpa using reads_ints rv) (alikeAll_ints ns) (by have := depth_ints ns; omega) (fun h0 h' tk hk => ?_) fun y ys i v h' tk bs he hv hr hk => ?_
  · have e : ns = [] := List.map_eq_nil_iff.mp h0
    subst e
    exact ⟨.int _, H, I.kept hk, ⟨_, rfl⟩, q⟩
  · cases ns with
    | nil => cases he
    | cons n ms =>
      cases he
      rw [PySem.W.maxD_ints] at hr
      cases hr with
      | int _ t => exact ⟨.int _, H, I.kept hk, ⟨_, rfl⟩, q⟩
theorem args_sum_start (a v : Value) : argsOk "sum" ⟨[a], [(Str.ofString "start", v)]⟩ := by unfold argsOk; kernel_rfl
section
variable {prog : Program} {w : World} {A : Around} {E : Value → Shared → Prop} {s : Shared}
/-- a walk, one step later -/
theorem walks_shift {I : Addr} {fp wr : List Addr} {n : Nat} {P : Nat → Value → Prop} {St : Nat → Heap → Prop} (W : Walks prog w A I fp wr n P St) :
    Walks prog w A I fp wr (n + 1) (fun i v => ∃ j, i = j + 1 ∧ P j v) (fun i h => ∃ j, i = j + 1 ∧ St j h) where
  sub := W.sub
  frame := fun i h h' ⟨j, e, st⟩ k => ⟨j, e, W.frame j h h' st k⟩
  item := fun i s Q E hi ⟨j, e, st⟩ hQ => W.item j s Q E (by omega) st fun v h' tk p st' k => hQ v h' tk ⟨j, e, p⟩ ⟨j + 1, by omega, st'⟩ k
  done := fun s Q E ⟨j, e, st⟩ hQ => W.done s Q E (by rw [show n = j by omega]; exact st) hQ
  self := fun i s Q E ⟨j, e, st⟩ hQ => W.self j s Q E st hQ
theorem preSum_shift (d : Int) (val : Nat → Int) : ∀ n, preSum (fun i => match i with | 0 => d | j + 1 => val j) (n + 1) = d + preSum val n
  | 0 => by
    show (0 : Int) + d = d + 0
    omega
  | n + 1 => by
    show preSum (fun i => match i with | 0 => d | j + 1 => val j) (n + 1) + val n = d + (preSum val n + val n)
    rw [preSum_shift d val n]
    omega
theorem call_sum_start {x : Value} {d : Int} {t : Tok} {Q : Value → Shared → Prop}
    (h : wpAny (model prog w) A.in1 (pyIter x) (fun it s₂ => ∃ I fp wr n P St val, it = .ref I ∧ Walks prog w A.in1 I fp wr n P St ∧ St 0 s₂.heap ∧ (∀ b ∈ fp, b < s₂.heap.objs.size) ∧
      (∀ i v, P i v → ∃ t, v = .int (val i) t) ∧
      ∀ h' tk t', (∀ b o, b ∉ wr → s₂.heap.get? b = some o → h'.get? b = some o) → Q (.int (d + preSum val n) t') { s₂ with heap := h', toks := tk }) E s) :
    wpAny (model prog w) A (call (.builtin "sum") [x] [(Str.ofString "start", .int d t)]) Q E s := by
  refine PyProof.Rows.kmk_tree F.kind_sum F.plain_sum F.entry_sum (args_sum_start _ _) ?_
  unfold Builtin.«sum»
  simp only [List.length_cons, List.length_nil]
  rw [if_neg (by decide)]
  refine wpAny_bind (wpAny_of_eq (show Builtin.Builtins.bindParams "sum" ["start"] 0 ⟨[], [(Str.ofString "start", .int d t)]⟩ = pure [some (.int d t)] from rfl) ?_)
  refine wpAny_bind (wpAny_mono h (fun it s₂ h₂ => ?_) fun _ _ e => e)
  obtain ⟨I, fp, wr, n, P, St, val, rfl, W, hst, hfp, hval, hQ⟩ := h₂
  have rest : ∀ (t2 : Tok) (s3 : Shared) (stage : Int), (stage = 0 ∨ stage = 2) → s3.heap = s₂.heap → (∀ (h' : Heap) (tk : Nat), ({ s3 with heap := h', toks := tk } : Shared) = { s₂ with heap := h', toks := tk }) →
      wpAny (model prog w) A.in1 (do
        for (ty, what, hint) in [("str", "strings", "''"), ("bytes", "bytes", "b''"), ("bytearray", "bytearray", "b''")] do
          if ← isInstance (.int d t2) (.type ty) then
            rule "sum.start-refused"; raiseError "TypeError" s!"sum() can't sum {what} [use {hint}.join(seq) instead]"
        again (.builtin "sum.loop" ⟨[.ref I, ← newList [.int d t2], rawInt stage, rawInt 0], []⟩)) (fun fin s' => match fin with
      | .done f => (match (Except.ok f : Result) with | .ok (.ret v) => Q v s' | .ok _ => False | .error e => E e s')
      | .again c' => c'.quiet = true ∧ codeAny (model prog w) A c' (fun r s' => match r with | .ok (.ret v) => Q v s' | .ok _ => False | .error e => E e s') s') E s3 := by
    intro t2 s3 stage hstage eh es
    have eg : ∀ b, s3.heap.get? b = s₂.heap.get? b := fun b => by rw [eh]
    simp only [List.forIn_cons, List.forIn_nil]
    refine wpAny_bind (wpAny_bind (wpAny_bind (wpAny_isInstance (T := "int") (b := false) (typeIs_int _ _ _) PySem.sub_int_str ?_)))
    simp only [Bool.false_eq_true, if_false]
    refine wpAny_pure (wpAny_bind (wpAny_bind (wpAny_isInstance (T := "int") (b := false) (typeIs_int _ _ _) PySem.sub_int_bytes ?_)))
    simp only [Bool.false_eq_true, if_false]
    refine wpAny_pure (wpAny_bind (wpAny_bind (wpAny_isInstance (T := "int") (b := false) (typeIs_int _ _ _) PySem.sub_int_bytearray ?_)))
    simp only [Bool.false_eq_true, if_false]
    refine wpAny_pure (wpAny_pure ?_)
    refine wpAny_bind (wpAny_newObj_type ?_)
    have hSf : s3.heap.objs.size ∉ fp := fun hm => by
      rw [eh] at hm
      exact absurd (hfp _ hm) (Nat.lt_irrefl _)
    have e1 : preSum (fun i => match i with | 0 => d | j + 1 => val j) 1 = d := by
      show (0 : Int) + d = d
      omega
    refine wpAny_pure ⟨plainId_quiet F.plain_sum_loop _, codeAny_sum_loopG (walks_shift W) (fun i => match i with | 0 => d | j + 1 => val j) ?_ s3.heap.objs.size hSf n 1 _ t2 0 stage hstage rfl (by omega)
      ⟨0, rfl, W.frame _ _ _ hst fun b _ o e => Heap.get?_push_of_some _ ((eg b).trans e)⟩ (by rw [e1]; exact Heap.get?_push_size _ rfl) fun h' tk t' hk => ?_⟩
    · rintro i v ⟨j, rfl, p⟩
      exact hval j v p
    · rw [preSum_shift]
      show Q _ { s3 with heap := h', toks := tk }
      rw [es h' tk]
      exact hQ h' tk t' fun b o hbw e => hk b o hbw (Nat.ne_of_lt (by rw [eh]; exact Heap.lt_size e)) (Heap.get?_push_of_some _ ((eg b).trans e))
  dsimp only
  split
  · refine wpAny_bind (wpAny_rule (wpAny_bind (wpAny_mkInt (wpAny_bind (wpAny_pure ?_)))))
    exact rest _ _ 0 (Or.inl rfl) rfl fun _ _ => rfl
  · refine wpAny_bind (wpAny_pure ?_)
    exact rest _ _ 2 (Or.inr rfl) rfl fun _ _ => rfl
end
theorem iter_intTuple {prog : Program} {w : World} {A : Around} {E : Value → Shared → Prop} {s : Shared} {l : Addr} {items : Array Value} {Q : Value → Shared → Prop} (hh : A.handled = none) (hl : s.heap.IsTuple l items)
    (h : ∀ s₂ : Shared, s₂ = { s with heap := s.heap.push { cls := .type "tuple_iterator", data := .fields #[.ref l, .int 0 0] } } → l ≠ s.heap.objs.size → (s₂.heap.IsTupleIter s.heap.objs.size l 0 ∧ s₂.heap.IsTuple l items) → (∀ b ∈ [s.heap.objs.size, l], b < s₂.heap.objs.size) → Q (.ref s.heap.objs.size) s₂) :
    wpAny (model prog w) A (pyIter (.ref l)) Q E s := by
  have hlt : l < s.heap.objs.size := by obtain ⟨_, e, _⟩ := hl; exact Heap.lt_size e
  refine wpAny_pyIter_tuple hl (h _ rfl (Nat.ne_of_lt hlt) ⟨⟨_, Heap.get?_push_size _ rfl, rfl, rfl⟩, hl.push _⟩ (fun b hb => ?_))
  show b < (s.heap.push _).objs.size
  rw [Heap.size_push]
  rcases List.mem_cons.mp hb with rfl | hb
  · exact Nat.lt_succ_self _
  · rcases List.mem_cons.mp hb with rfl | hb
    · exact Nat.lt_succ_of_lt hlt
    · cases hb
def rSumS (K : PySem.W.Frag) : List V → List V → Hp → VK → Prop := fun vs zs H Q => ∃ (a : Addr) (ns : List Int) (d : Int), vs = [V.ref a] ∧ zs = [V.int d] ∧ (SqL K H a (ns.map V.int) ∨ SqT K H a (ns.map V.int)) ∧ Q (.int (d + ns.sum)) H
theorem preSum_list {ns : List Int} {xs : Array (Int × Tok)} {its : List Value} (hi : IntsAre its ns) (e : its.toArray = intItems xs) : preSum (numAt xs) xs.size = ns.sum := by
  have hn : numsOf (intItems xs).toList = ns := by rw [← e]; exact hi.numsOf
  rw [nums_intItems] at hn
  rw [preSum_eq, List.take_of_length_le (by simp), hn]
theorem crk_sumS {X : Cx} (hc : X.calm = true) : CallRK X (.builtin "sum") [("start" : Str)] (rSumS X.K) := by
  intro pins s σ H vs zs us ws Q I r rz h
  obtain ⟨a, ns, d, rfl, rfl, hs, q⟩ := h
  obtain rfl := Vals.ref1 r
  obtain ⟨w1, rfl, e1⟩ := vals1 rz
  obtain ⟨t, rfl⟩ := e1
  show wpAny (model X.prog X.w) X.A (call (.builtin "sum") [.ref a] [(Str.ofString "start", .int d t)]) (EP X pins σ Q) X.xe s
  have hh : X.A.handled = none := I.ok.hd hc
  rcases hs with hs | hs
  · obtain ⟨its, rv, hl, _⟩ := I.list hs
    have hi := rv.ints
    obtain ⟨xs, e⟩ := hi.allInts.items
    have hp := preSum_list hi e
    have hl' : s.heap.IsList a (intItems xs) := by rw [← e]; exact hl.isList
    refine call_sum_start (iter_intList hl' fun s₂ e2 st hfp hlI => ?_)
    subst e2
    refine ⟨_, _, _, _, _, _, numAt xs, rfl, Walks.list (A := X.A.in1) hh _ a hlI (intItems xs), st, hfp, (fun _ _ => intItems_at), fun h' tk t' hk => ?_⟩
    have e3 : (intItems xs).size = xs.size := by simp [intItems]
    rw [e3, hp]
    exact ⟨.int _, H, I.kept (old_kept hk), ⟨_, rfl⟩, q⟩
  · obtain ⟨its, rv, hl, _⟩ := I.tuple hs
    have hi := rv.ints
    obtain ⟨xs, e⟩ := hi.allInts.items
    have hp := preSum_list hi e
    have hl' : s.heap.IsTuple a (intItems xs) := by rw [← e]; exact hl
    refine call_sum_start (iter_intTuple hh hl' fun s₂ e2 hlI st hfp => ?_)
    subst e2
    refine ⟨_, _, _, _, _, _, numAt xs, rfl, Walks.tuple (A := X.A.in1) hh _ a hlI (intItems xs), st, hfp, (fun _ _ => intItems_at), fun h' tk t' hk => ?_⟩
    have e3 : (intItems xs).size = xs.size := by simp [intItems]
    rw [e3, hp]
    have hk2 : ∀ b o, s.heap.get? b = some o → h'.get? b = some o := fun b o e => hk b o (fun z => Nat.ne_of_lt (Heap.lt_size e) (List.mem_singleton.mp z)) (Heap.get?_push_of_some _ e)
    exact ⟨.int _, H, I.kept hk2, ⟨_, rfl⟩, q⟩
/-! ### at the level of data -/
section
variable {K : PySem.W.Frag} {Δ : Sl} {G L : List M} {Qd : Po} {ta tk : TA}
def ApK (K : PySem.W.Frag) (r : List V → List V → Hp → VK → Prop) (ss zz : List S) (Δ : Sl) (G L : List M) (Qd : Po) : Prop :=
  ∀ w ls σ H vs zs, Ctx K w ls σ H Δ G L → Paired (RS K H (Rg w ls) w.gs ls) ss vs → Paired (RS K H (Rg w ls) w.gs ls) zz zs → ∀ Q, Ret K w ls σ Δ H Qd Q → r vs zs H Q
theorem evc_ckw {r : List V → List V → Hp → VK → Prop} (h : EvA K ta Δ G L fun ss G1 L1 => EvA K tk Δ G1 L1 fun zz G2 L2 => ApK K r ss zz Δ G2 L2 Qd) : EvC K (tCKw r ta tk) Δ G L Qd := fun w ls σ H c Q ret =>
  h w ls σ H c _ fun vs ss H2 G2 L2 c2 e2 r2 k2 => k2 w ls σ H2 c2 _ fun zs zz H3 G3 L3 c3 e3 r3 k3 => k3 w ls σ H3 vs zs c3 (RSs.on c2 e3 r2) r3 Q (ret.ext (e2.trans e3))
theorem seqG_ints {w : W} {ls : List Addr} {σ : L2.St} {H : Hp} {v : V} {s : S} {ns : List Int} (c : Ctx K w ls σ H Δ G L) (r : RS K H (Rg w ls) w.gs ls s v) (h : seqG G L s = some (ns.map D.int)) : ∃ a, v = .ref a ∧ (SqL K H a (ns.map V.int) ∨ SqT K H a (ns.map V.int)) := by
  obtain ⟨a, xs, rfl, h1, q1⟩ := seqG_get c r h
  have e := RepL.intsV q1
  subst e
  exact ⟨a, rfl, h1⟩
theorem ap_maxDf {s : S} {d : Int} (h : ∃ ns : List Int, lsG G L s = some (ns.map D.int) ∧ Qd (.d (.int (maxDf d ns))) G L) : ApK K (rMaxDf K) [s] [.d (.int d)] Δ G L Qd := fun w ls σ H vs zs c rs rz Q q => by
  obtain ⟨ns, hs, k⟩ := h
  obtain ⟨v, rfl, r⟩ := pair1 rs
  obtain ⟨z, rfl, rz2⟩ := pair1 rz
  obtain rfl : z = V.int d := rz2
  obtain ⟨a, xs, rfl, h1, q1⟩ := lsG_get c r hs
  have e := RepL.intsV q1
  subst e
  exact ⟨a, ns, d, rfl, rfl, .inl (.inl h1), q.go c Ext.refl (s := .d (.int _)) rfl k⟩
theorem ap_sumS {s : S} {d : Int} (h : ∃ ns : List Int, seqG G L s = some (ns.map D.int) ∧ Qd (.d (.int (d + ns.sum))) G L) : ApK K (rSumS K) [s] [.d (.int d)] Δ G L Qd := fun w ls σ H vs zs c rs rz Q q => by
  obtain ⟨ns, hs, k⟩ := h
  obtain ⟨v, rfl, r⟩ := pair1 rs
  obtain ⟨z, rfl, rz2⟩ := pair1 rz
  obtain rfl : z = V.int d := rz2
  obtain ⟨a, rfl, h1⟩ := seqG_ints c r hs
  exact ⟨a, ns, d, rfl, rfl, h1, q.go c Ext.refl (s := .d (.int _)) rfl k⟩
/-- max of a list of whole numbers, not empty -/
theorem ap_maxL {s : S} (h : ∃ ns : List Int, lsG G L s = some (ns.map D.int) ∧ 0 < ns.length ∧ ∀ m, m ∈ ns → (∀ y, y ∈ ns → y ≤ m) → Qd (.d (.int m)) G L) : ApC K (rMax K) [s] Δ G L Qd := fun w ls σ H vs c rs Q q => by
  obtain ⟨ns, hs, hn, k⟩ := h
  obtain ⟨v, rfl, r⟩ := pair1 rs
  obtain ⟨a, xs, rfl, h1, q1⟩ := lsG_get c r hs
  have e := RepL.intsV q1
  subst e
  exact ⟨a, ns, rfl, .inl (.inl h1), hn, fun m h1 h2 => q.go c Ext.refl (s := .d (.int m)) rfl (k m h1 h2)⟩
end
end DL

namespace DL
open PySem PySem.Spec PyProof.Rows L2
section
variable {K : PySem.W.Frag}
/-! ### a callee sees both stores: the caller's n objects, behind them the own ones -/
def S.proN (n : Nat) : S → S
  | .l k => .g (n + k)
  | s => s
def S.demN (n : Nat) : S → S
  | .g k => if k < n then .g k else .l (k - n)
  | s => s
def M.proN (n : Nat) : M → M
  | .hl xs => .hl (xs.map (S.proN n))
  | .dh kvs => .dh (kvs.map fun p => (p.1, p.2.proN n))
  | m => m
def M.demN (n : Nat) : M → M
  | .hl xs => .hl (xs.map (S.demN n))
  | .dh kvs => .dh (kvs.map fun p => (p.1, p.2.demN n))
  | m => m
def S.okN (n : Nat) : S → Prop
  | .g k => k < n
  | .l _ => False
  | _ => True
def M.okN (n : Nat) : M → Prop
  | .hl xs => ∀ s ∈ xs, s.okN n
  | .dh kvs => ∀ p ∈ kvs, p.2.okN n
  | _ => True
section
variable {H : Hp} {R : Addr → Prop} {gs ls : List Addr}
theorem getElem?_r {α : Type} {xs ys : List α} {k : Nat} {n : Nat} (hn : xs.length = n) : (xs ++ ys)[n + k]? = ys[k]? := by
  rw [List.getElem?_append_right (by omega), show n + k - xs.length = k by omega]
theorem RS.proN {n : Nat} (hn : gs.length = n) : ∀ {s : S} {v : V}, RS K H R gs ls s v → RS K H R (gs ++ ls) [] (s.proN n) v
  | .d _, _, h => h
  | .g _, _, ⟨a, h, e⟩ => ⟨a, Pre.app gs ls _ _ h, e⟩
  | .l _, _, ⟨a, h, e⟩ => ⟨a, (getElem?_r hn).trans h, e⟩
theorem RS.demN {n : Nat} (hn : gs.length = n) : ∀ {s : S} {v : V}, RS K H R (gs ++ ls) [] s v → RS K H R gs ls (s.demN n) v
  | .d _, _, h => h
  | .l _, _, ⟨a, h, _⟩ => by simp at h
  | .g k, _, ⟨a, h, e⟩ => by
    show RS K H R gs ls (if k < n then S.g k else S.l (k - n)) _
    by_cases hk : k < n
    · rw [if_pos hk]
      refine ⟨a, ?_, e⟩
      rw [List.getElem?_append_left (by omega)] at h
      exact h
    · rw [if_neg hk]
      refine ⟨a, ?_, e⟩
      rw [List.getElem?_append_right (by omega), hn] at h
      exact h
theorem RS.keepN {n : Nat} (hn : gs.length = n) : ∀ {s : S} {v : V}, s.okN n → RS K H R (gs ++ ls) [] s v → RS K H R gs [] s v
  | .d _, _, _, h => h
  | .l _, _, o, _ => o.elim
  | .g k, _, o, ⟨a, h, e⟩ => ⟨a, by
      have o' : k < n := o
      rw [List.getElem?_append_left (by omega)] at h
      exact h, e⟩
theorem RS.isN {n : Nat} (hn : gs.length = n) : ∀ {s : S} {v : V}, RS K H R gs [] s v → s.okN n
  | .d _, _, _ => trivial
  | .l _, _, ⟨a, h, _⟩ => by simp at h
  | .g k, _, ⟨a, h, _⟩ => by
    have := (List.getElem?_eq_some_iff.mp h).1
    show k < n
    omega
theorem MOk.proN {n : Nat} (hn : gs.length = n) {a : Addr} : ∀ {m : M}, MOk K H R gs ls a m → MOk K H R (gs ++ ls) [] a (m.proN n)
  | .pl _, h => h
  | .hl _, ⟨vs, h, r⟩ => ⟨vs, h, paired_mapB r fun _ _ q => q.proN hn⟩
  | .dc _, h => h
  | .ob _ _, h => h
  | .dh _, ⟨vs, h, r⟩ => ⟨vs, h, paired_mapB r fun _ _ q => ⟨q.1, q.2.proN hn⟩⟩
  | .dt _, h => h
theorem MOk.demN {n : Nat} (hn : gs.length = n) {a : Addr} : ∀ {m : M}, MOk K H R (gs ++ ls) [] a m → MOk K H R gs ls a (m.demN n)
  | .pl _, h => h
  | .hl _, ⟨vs, h, r⟩ => ⟨vs, h, paired_mapB r fun _ _ q => q.demN hn⟩
  | .dc _, h => h
  | .ob _ _, h => h
  | .dh _, ⟨vs, h, r⟩ => ⟨vs, h, paired_mapB r fun _ _ q => ⟨q.1, q.2.demN hn⟩⟩
  | .dt _, h => h
theorem MOk.keepN {n : Nat} (hn : gs.length = n) {a : Addr} : ∀ {m : M}, m.okN n → MOk K H R (gs ++ ls) [] a m → MOk K H R gs [] a m
  | .pl _, _, h => h
  | .hl _, o, ⟨vs, h, r⟩ => ⟨vs, h, paired_map r fun s _ ms q => q.keepN hn (o s ms)⟩
  | .dc _, _, h => h
  | .ob _ _, _, h => h
  | .dh _, o, ⟨vs, h, r⟩ => ⟨vs, h, paired_map r fun p _ ms q => ⟨q.1, q.2.keepN hn (o p ms)⟩⟩
  | .dt _, _, h => h
theorem paired_in {α β : Type} {F : α → β → Prop} : ∀ {as : List α} {bs : List β} {a : α}, Paired F as bs → a ∈ as → ∃ b, F a b := fun h m => paired_l h m
theorem paired_inr {α β : Type} {F : α → β → Prop} : ∀ {as : List α} {bs : List β} {b : β}, Paired F as bs → b ∈ bs → ∃ a, F a b
  | _, _, _, .cons h t, m => by
    rcases List.mem_cons.mp m with rfl | m
    · exact ⟨_, h⟩
    · exact paired_inr t m
theorem MOk.isN {n : Nat} (hn : gs.length = n) {a : Addr} : ∀ {m : M}, MOk K H R gs [] a m → m.okN n
  | .pl _, _ => trivial
  | .hl _, ⟨vs, h, r⟩ => fun s ms => let ⟨v, q⟩ := paired_l r ms; q.isN hn
  | .dc _, _ => trivial
  | .ob _ _, _ => trivial
  | .dh _, ⟨vs, h, r⟩ => fun p ms => let ⟨v, q⟩ := paired_l r ms; q.2.isN hn
  | .dt _, _ => trivial
end
section
variable {w : W} {ls : List Addr} {σ : L2.St} {H H' : Hp} {Δ : Sl} {G L G' ms : List M} {ps : List Addr}
theorem Ctx.okN (c : Ctx K w ls σ H Δ G L) : ∀ m ∈ G, m.okN G.length := fun m hm => by
  obtain ⟨a, q⟩ := paired_inr c.gl hm
  exact MOk.isN (paired_len c.gl) q
def calleeGL (w : W) (ls : List Addr) (H : Hp) : W := ⟨Rg w ls, w.gs ++ ls, H⟩
theorem Ctx.calleeGL (c : Ctx K w ls σ H Δ G L) : Ctx K (DL.calleeGL w ls H) [] [] H [] (G ++ L.map (M.proN G.length)) [] := by
  have hn : w.gs.length = G.length := paired_len c.gl
  have g : Grow H H (Rg w ls) (Rg (DL.calleeGL w ls H) []) := grow_iff fun a r => r.elim id (fun z => by cases z)
  refine ⟨fun a h => ?_, fun a r => ?_, by rw [List.append_nil]; exact c.nd, fun _ h => (by cases h), fun a o h _ => h, ⟨rfl, fun i s e => by simp at e⟩, ?_, .nil, fun _ h => (by cases h)⟩
  · rcases List.mem_append.mp h with h | h
    · exact .inl (c.reg a h)
    · exact .inr h
  · rcases r with r | r
    · exact c.rin a r
    · exact c.lin r
  · refine paired_app (paired_map c.gl fun a m _ q => q.grow g (Pre.app _ _) (Pre.refl _) fun _ z => z) (paired_map2 c.lo fun a m q => ?_)
    exact (MOk.proN hn q).grow g (Pre.refl _) (Pre.refl _) fun _ z => z
theorem paired_split {α β : Type} {F : α → β → Prop} : ∀ {as cs : List α} {bs ds : List β}, as.length = bs.length → Paired F (as ++ cs) (bs ++ ds) → Paired F as bs ∧ Paired F cs ds
  | [], _, [], _, _, q => ⟨.nil, q⟩
  | a :: as, cs, b :: bs, ds, h, .cons q t => by
    obtain ⟨p1, p2⟩ := paired_split (Nat.succ.inj h) t
    exact ⟨.cons q p1, p2⟩
theorem paired_mem {α β : Type} {F : α → β → Prop} : ∀ {as : List α} {bs : List β}, Paired F as bs → Paired (fun a b => b ∈ bs ∧ F a b) as bs
  | _, _, .nil => .nil
  | _, _, .cons q t => .cons ⟨List.mem_cons_self, q⟩ (paired_map (paired_mem t) fun _ _ _ z => ⟨List.mem_cons_of_mem _ z.1, z.2⟩)
theorem Ctx.backGL {Ga La : List M} (c : Ctx K w ls σ H Δ G L) (c' : Ctx K (DL.calleeGL w ls H) ps [] H' [] (Ga ++ La) ms) (hl : Ga.length = G.length) (hk : ∀ m ∈ Ga, m.okN G.length) : Ctx K w ls σ H' Δ Ga (La.map (M.demN G.length)) ∧ Ext w ls H H' := by
  have hn : w.gs.length = G.length := paired_len c.gl
  have e : ∀ a o, H a = some o → a ∉ w.gs ++ ls → H' a = some o := c'.h0
  have e2 : Ext w ls H H' := fun a o h n m => e a o h fun z => (List.mem_append.mp z).elim n m
  have g := e2.grow c.reg
  have g3 : Grow H' H' (Rg (DL.calleeGL w ls H) ps) (Rg w ls) := grow_iff fun a r => .inl r
  obtain ⟨p1, p2⟩ := paired_split (hn.trans hl.symm) c'.gl
  refine ⟨⟨c.reg, fun a r => c'.rin a (.inl r), c.nd, c.fr, fun a o h n => e a o (c.h0 a o h n) fun z => (List.mem_append.mp z).elim n (fun z => (by rw [c.fr a z] at h; cases h)), c.sl.grow g (Pre.refl _) (Pre.refl _), ?_, ?_, c.ld⟩, e2⟩
  · have p3 := paired_mem p1
    exact paired_map p3 fun a m _ q => (MOk.keepN hn (hk m q.1) q.2).grow g3 (Pre.refl _) (Pre.refl _) fun _ z => z
  · exact paired_map2 p2 fun a m q => (MOk.demN hn q).grow g3 (Pre.refl _) (Pre.refl _) fun _ z => z
end
section
variable {Δ : Sl} {G L : List M} {Qd : Po} {ta : TA} {sp : DSpec} {E0' : XK}
def asVGL (n : Nat) (Qd : Po) : Res → List M → Prop
  | .v s, G' => ∃ Ga La, G' = Ga ++ La ∧ Ga.length = n ∧ (∀ m ∈ Ga, m.okN n) ∧ Qd (s.demN n) Ga (La.map (M.demN n))
  | .new _ _, _ => False
/-- a call that may name own objects -/
theorem evc_callGL (h : EvA K ta Δ G L fun ss G1 L1 => (∀ m ∈ G1, m.okN G1.length) → sp (ss.map (S.proN G1.length)) (G1 ++ L1.map (M.proN G1.length)) (asVGL G1.length Qd)) : EvC K (tCall (spD K sp) [] E0' ta) Δ G L Qd := fun w ls σ H c Q r => h w ls σ H c _ fun vs ss H2 G2 L2 c2 e2 r2 k => by
  show spD K sp (vs ++ []) H2 Q E0'
  rw [List.append_nil]
  have hn : w.gs.length = G2.length := paired_len c2.gl
  have g : Grow H2 H2 (Rg w ls) (Rg (DL.calleeGL w ls H2) []) := grow_iff fun a r => r.elim id (fun z => by cases z)
  have g' : ∀ H' ps, Grow H' H' (Rg (DL.calleeGL w ls H2) ps) (Rg w ls) := fun H' ps => grow_iff fun a r => .inl r
  refine ⟨DL.calleeGL w ls H2, ss.map (S.proN G2.length), G2 ++ L2.map (M.proN G2.length), asVGL G2.length Qd, rfl, c2.calleeGL, paired_mapB r2 fun _ _ q => (RS.proN hn q).grow g (Pre.refl _) (Pre.refl _), k c2.okN, fun v s H' G' c' rs k => ?_, fun ps j p ms H' G' c' hp k => k.elim⟩
  obtain ⟨Ga, La, rfl, hl, hk, k⟩ := k
  obtain ⟨cb, eb⟩ := Ctx.backGL c2 c' hl hk
  exact r v (s.demN G2.length) H' Ga _ cb (e2.trans eb) ((RS.demN hn rs).grow (g' H' []) (Pre.refl _) (Pre.refl _)) k
end
/-! ### a new own object is appended to a list of handles -/
section
variable {Δ : Sl} {G L : List M} {E : EndsD} {te to : TE} {t : TS}
theorem st_appH {k : Nat} {xs : List S} (h : EvC K to Δ G L fun o G1 L1 => o = .l k ∧ L1[k]? = some (.hl xs) ∧ EvN K te Δ G1 L1 fun m G2 L2 => L2[k]? = some (.hl xs) ∧ xs.length < sizeLine ∧ E.nx Δ G2 ((L2 ++ [m]).set k (.hl (xs ++ [.l L2.length])))) :
    StC K (tDrop (tBM K "list" rAppend to (tCons te tNil))) Δ G L E := fun w ls σ H c D s => by
  refine h w ls σ H c _ fun v o H2 G2 L2 c2 e2 r2 ⟨eo, h2, h3⟩ => ?_
  subst eo
  refine ⟨tyS_ok c2 r2 (.inl ⟨rfl, .inr ⟨xs, by unfold hlG; simp only [h2]⟩⟩), h3 w ls σ H2 c2 _ fun p m H3 G3 L3 hp n e3 ⟨h4, hz, k5⟩ => ?_⟩
  have hl : ls.length = L3.length := paired_len n.c.lo
  have hk : k < L3.length := (List.getElem?_eq_some_iff.mp h4).1
  have h5 : (L3 ++ [m])[k]? = some (.hl xs) := by
    rw [List.getElem?_append_left hk]
    exact h4
  obtain ⟨a, ha, rfl⟩ := r2
  obtain ⟨b, hb, us, h6, r6⟩ := paired_get n.own.lo h5
  have ha2 : (ls ++ [p])[k]? = some a := by
    rw [List.getElem?_append_left (by omega)]
    exact ha
  rw [ha2] at hb
  cases hb
  have hma : a ∈ ls ++ [p] := List.mem_of_getElem? ha2
  have gu : Grow H3 (upd H3 a (.lst (us ++ [.ref p]))) (Rg w (ls ++ [p])) (Rg w (ls ++ [p])) := grow_upd (.inr hma)
  have gn : Grow H2 H3 (Rg w ls) (Rg w (ls ++ [p])) := ⟨(e3.grow c2.reg).keep, fun a o q r => by
    rcases r with r | r
    · exact .inl r
    · rcases List.mem_append.mp r with r | r
      · exact .inr r
      · rw [List.mem_singleton] at r
        subst r
        rw [hp] at q
        cases q⟩
  have lastp : (ls ++ [p])[L3.length]? = some p := by
    rw [← hl, List.getElem?_append_right (Nat.le_refl _), Nat.sub_self]
    rfl
  refine ⟨a, us, .ref p, rfl, rfl, h6, by rw [← paired_len r6]; exact hz, s.nx (ls ++ [p]) _ _ _ G3 _ (n.own.setL (m := .hl (xs ++ [.l L3.length])) ha2 ⟨us ++ [.ref p], upd_same, ?_⟩) ((e2.grow c.reg).trans (gn.trans gu)) k5⟩
  exact paired_app (paired_map r6 fun _ _ _ q => q.grow gu (Pre.refl _) (Pre.refl _)) (.cons ⟨p, lastp, rfl⟩ .nil)
end
/-! ### own rows become data -/
section
variable {Δ : Sl} {G L : List M} {E : EndsD} {t : TS}
theorem Ctx.hlpl {w : W} {ls : List Addr} {σ : L2.St} {H : Hp} {k : Nat} {ds : List D} (c : Ctx K w ls σ H Δ G L) (hk : L[k]? = some (.hl (ds.map S.d))) : Ctx K w ls σ H Δ G (L.set k (.pl ds)) := by
  obtain ⟨a, ha, vs, h1, r⟩ := paired_get c.lo hk
  have rl : ∀ {ds : List D} {vs : List V}, Paired (RS K H (Rg w ls) w.gs ls) (ds.map S.d) vs → RepL K H (Rg w ls) ds vs := by
    intro ds
    induction ds with
    | nil =>
      intro vs r
      cases r
      rfl
    | cons d ds ih =>
      intro vs r
      cases r with
      | cons q t => exact ⟨_, _, rfl, q, ih t⟩
  exact ⟨c.reg, c.rin, c.nd, c.fr, c.h0, c.sl, c.gl, paired_set c.lo (List.nodup_append.mp c.nd).2.1 ha ⟨vs, h1, rl r⟩ fun _ _ _ _ q => q, c.ld⟩
/-- a list of handles that holds data alone is a list of data -/
theorem st_hlpl (k : Nat) {ds : List D} (hk : L[k]? = some (.hl (ds.map S.d))) (h : StC K t Δ G (L.set k (.pl ds)) E) : StC K t Δ G L E := fun w ls σ H c D s =>
  h w ls σ H (c.hlpl hk) D s
def hnd (n : Nat) : List S := (List.range n).map fun i => S.l (i + 1)
theorem hnd_succ (n : Nat) : hnd (n + 1) = .l 1 :: (hnd n).map fun s => match s with | .l j => .l (j + 1) | s => s := by
  unfold hnd
  rw [List.range_succ_eq_map, List.map_cons, List.map_map, List.map_map]
  rfl
theorem hnd_snoc (n : Nat) : hnd (n + 1) = hnd n ++ [.l (n + 1)] := by
  unfold hnd
  rw [List.range_succ, List.map_append]
  rfl
theorem hnd_frz (n : Nat) (x : D) : (hnd (n + 1)).map (S.frz 1 x) = .d x :: hnd n := by
  unfold hnd
  rw [List.range_succ_eq_map, List.map_cons, List.map_map, List.map_cons, List.map_map]
  refine congr (congrArg List.cons rfl) (List.map_congr_left fun i _ => ?_)
  show (if i + 2 = 1 then S.d x else if i + 2 < 1 then .l (i + 2) else .l (i + 2 - 1)) = .l (i + 1)
  rw [if_neg (by omega), if_neg (by omega)]
  rfl
theorem st_frzGo (hΔ : ∀ x, Δ.map (Option.map (S.frz 1 x)) = Δ) : ∀ (rows : List (List D)) (done : List D), StC K t Δ G [.pl (done ++ rows.map D.lst)] E → StC K t Δ G (.hl (done.map S.d ++ hnd rows.length) :: rows.map M.pl) E
  | [], done, h => by
    refine st_hlpl 0 (ds := done) (by simp [hnd]) ?_
    rw [List.map_nil, List.append_nil] at h
    exact h
  | r :: rows, done, h => by
    refine st_frz 1 ⟨_, _, rfl, rfl, ?_⟩
    rw [hΔ]
    have e : ((.hl (done.map S.d ++ hnd (rows.length + 1)) :: (M.pl r :: rows.map M.pl)).eraseIdx 1).map (M.frz 1 (D.lst r)) = M.hl ((done ++ [D.lst r]).map S.d ++ hnd rows.length) :: rows.map M.pl := by
      show M.hl ((done.map S.d ++ hnd (rows.length + 1)).map (S.frz 1 (D.lst r))) :: (rows.map M.pl).map (M.frz 1 (D.lst r)) = _
      rw [List.map_append, hnd_frz, List.map_map, List.map_map, List.map_append, List.append_assoc]
      rfl
    show StC K t Δ G (((.hl (done.map S.d ++ hnd (rows.length + 1)) :: (M.pl r :: rows.map M.pl)).eraseIdx 1).map (M.frz 1 (D.lst r))) E
    rw [e]
    refine st_frzGo hΔ rows (done ++ [D.lst r]) ?_
    rw [List.append_assoc]
    exact h
/-- own rows, and the own list that holds them: a list of data -/
theorem st_frzRows (hΔ : ∀ x, Δ.map (Option.map (S.frz 1 x)) = Δ) (rows : List (List D)) (h : StC K t Δ G [.pl (rows.map D.lst)] E) : StC K t Δ G (.hl (hnd rows.length) :: rows.map M.pl) E := st_frzGo hΔ rows [] h
end
/-! ### zip of two tuples, of two lists, as data -/
section
variable {Δ : Sl} {G L : List M} {ta : TA}
def zipD : List D → List D → List D
  | x :: xs, y :: ys => .tup [x, y] :: zipD xs ys
  | _, _ => []
theorem zipD_len : ∀ {xs ys : List D}, (zipD xs ys).length = min xs.length ys.length
  | [], ys => by
    show 0 = min 0 ys.length
    omega
  | x :: xs, [] => by
    show 0 = min (xs.length + 1) 0
    omega
  | x :: xs, y :: ys => by
    show (zipD xs ys).length + 1 = min (xs.length + 1) (ys.length + 1)
    rw [zipD_len (xs := xs) (ys := ys)]
    omega
theorem zipD_get : ∀ {xs ys : List D} {i : Nat} {d : D}, (zipD xs ys)[i]? = some d → ∃ x y, xs[i]? = some x ∧ ys[i]? = some y ∧ d = .tup [x, y]
  | [], _, _, _, h => by
    rw [show zipD [] _ = [] from rfl] at h
    cases h
  | _ :: _, [], _, _, h => by
    rw [show zipD (_ :: _) [] = [] from rfl] at h
    cases h
  | x :: xs, y :: ys, 0, _, h => by
    cases h
    exact ⟨x, y, rfl, rfl, rfl⟩
  | x :: xs, y :: ys, i + 1, d, h => zipD_get (xs := xs) (ys := ys) (i := i) h
theorem evi_zipT {Qi : List D → List M → List M → Prop} (h : EvA K ta Δ G L fun ss G1 L1 => ∃ xs ys, ss = [.d (.tup xs), .d (.tup ys)] ∧ Qi (zipD xs ys) G1 L1) : EvI K (RZ.iZipA K ta) Δ G L Qi := fun w ls σ H c R q =>
  h w ls σ H c _ fun us ss H2 G2 L2 c2 e2 r2 ⟨xs, ys, e, k⟩ => by
    subst e
    obtain ⟨v, u, rfl, ⟨a, vs, rfl, h1, r1⟩, b, vs2, rfl, h3, r3⟩ := pair2 r2
    refine ⟨a, b, vs, vs2, rfl, .inr ⟨h1.sq, h3.sq, q _ H2 _ G2 L2 c2 e2 ⟨fun H3 w2 ls2 σ2 Δ2 G3 L3 i d g c3 hi => ?_, fun H3 w2 ls2 g => ?_⟩ k⟩⟩
    · obtain ⟨x, y, hx, hy, rfl⟩ := zipD_get hi
      obtain ⟨x', hx', rx⟩ := (r1.grow g).get hx
      obtain ⟨y', hy', ry⟩ := (r3.grow g).get hy
      have t1 := (h1.grow g).sq
      have t3 := (h3.grow g).sq
      refine ⟨⟨vs, vs2, x', y', t1, t3, hx', hy'⟩, fun u H' ⟨T, x2, y2, eu, hT, hH, f1, f2⟩ => ?_⟩
      subst hH
      subst eu
      have e1 := f1 vs t1
      have e2 := f2 vs2 t3
      rw [hx'] at e1
      rw [hy'] at e2
      cases e1
      cases e2
      exact ⟨c3.new hT, Ext.new hT, rep_tup c3 hT ⟨_, _, rfl, rx, RepL.one ry⟩⟩
    · refine ⟨vs, vs2, (h1.grow g).sq, (h3.grow g).sq, ?_⟩
      rw [zipD_len, r1.length, r3.length]
      omega
theorem evi_zipL {Qi : List D → List M → List M → Prop} (h : EvA K ta Δ G L fun ss G1 L1 => ∃ xs ys, ss = [.d (.lst xs), .d (.lst ys)] ∧ Qi (zipD xs ys) G1 L1) : EvI K (RZ.iZipA K ta) Δ G L Qi := fun w ls σ H c R q =>
  h w ls σ H c _ fun us ss H2 G2 L2 c2 e2 r2 ⟨xs, ys, e, k⟩ => by
    subst e
    obtain ⟨v, u, rfl, ⟨a, vs, rfl, ⟨h1, n1⟩, r1⟩, b, vs2, rfl, ⟨h3, n3⟩, r3⟩ := pair2 r2
    refine ⟨a, b, vs, vs2, rfl, .inl ⟨.inl (.inl h1), .inl (.inl h3), q _ H2 _ G2 L2 c2 e2 ⟨fun H3 w2 ls2 σ2 Δ2 G3 L3 i d g c3 hi => ?_, fun H3 w2 ls2 g => ?_⟩ k⟩⟩
    · obtain ⟨x, y, hx, hy, rfl⟩ := zipD_get hi
      obtain ⟨x', hx', rx⟩ := (r1.grow g).get hx
      obtain ⟨y', hy', ry⟩ := (r3.grow g).get hy
      have t1 : SqL K H3 a vs := .inl (.inl (g.keep _ _ h1 n1))
      have t3 : SqL K H3 b vs2 := .inl (.inl (g.keep _ _ h3 n3))
      refine ⟨⟨vs, vs2, x', y', t1, t3, hx', hy'⟩, fun u H' ⟨T, x2, y2, eu, hT, hH, f1, f2⟩ => ?_⟩
      subst hH
      subst eu
      have e1 := f1 vs t1
      have e2 := f2 vs2 t3
      rw [hx'] at e1
      rw [hy'] at e2
      cases e1
      cases e2
      exact ⟨c3.new hT, Ext.new hT, rep_tup c3 hT ⟨_, _, rfl, rx, RepL.one ry⟩⟩
    · refine ⟨vs, vs2, .inl (.inl (g.keep _ _ h1 n1)), .inl (.inl (g.keep _ _ h3 n3)), ?_⟩
      rw [zipD_len, r1.length, r3.length]
      omega
end
end
end DL

/-! zip(a, b, strict=True) of two tuples of one length -/
namespace DZs
open PySem PySem.Spec PyProof.Rows L2
open PySem.Sem (wp)
abbrev IsZipS (h : Heap) (z TI TO : Addr) (f0 : Value) : Prop :=
  h.get? z = some { cls := .type "zip", dict := none, data := .fields #[f0, .bool false, .bool true, .ref TI, .ref TO], slots := #[] }
section
variable {prog : Program} {w : World} {A : Around} {E : Value → Shared → Prop} {s : Shared}
theorem noe_item {it l : Addr} {i : Nat} {items} {x : Value} {Q : Option Value → Shared → Prop} (hit : s.heap.IsTupleIter it l i) (hl : s.heap.IsTuple l items) (hx : items[i]? = some x)
    (hQ : ∀ h', h'.IsTupleIter it l (i + 1) → Heap.SameBut it s.heap h' → Q (some x) { s with heap := h' }) : wpAny (model prog w) A (Builtin.SmallTypes.nextOrEnd (.ref it)) Q E s := by
  unfold Builtin.SmallTypes.nextOrEnd
  exact wpAny_bind (wpAny_attempt (RZ.nextOf_tuple_item hit hl hx fun h' a b => wpAny_pure (hQ h' a b)))
theorem noe_end {it l : Addr} {i : Nat} {items} {Q : Option Value → Shared → Prop} (hh : A.handled = none) (hit : s.heap.IsTupleIter it l i) (hl : s.heap.IsTuple l items) (hx : items[i]? = none)
    (hQ : ∀ h', Heap.ExtBut it s.heap h' → Q none { s with heap := h' }) : wpAny (model prog w) A (Builtin.SmallTypes.nextOrEnd (.ref it)) Q E s := by
  unfold Builtin.SmallTypes.nextOrEnd
  refine wpAny_bind (wpAny_attempt (RZ.nextOf_tuple_end hh hit hl hx fun h' e k he => ?_))
  obtain ⟨o, ho, hc⟩ := he
  exact wpAny_bind (wpAny_isInstance (T := "StopIteration") (b := true) ⟨o, ho, hc⟩ isSubtype_stop (wpAny_pure (hQ h' k)))
theorem stop_iter {α : Type} {Q : α → Shared → Prop} (hh : A.handled = none) (hE : ∀ h' e, (∀ c o, s.heap.get? c = some o → h'.get? c = some o) → (∃ o, h'.get? e = some o ∧ o.cls = .type "StopIteration") → E (.ref e) { s with heap := h' }) :
    wpAny (model prog w) A (Builtin.SmallTypes.stopIteration : Sem α) Q E s := by
  unfold Builtin.SmallTypes.stopIteration
  refine wpAny_bind ?_
  simp only [newExc, newTuple]
  refine wpAny_bind (wpAny_newObj_type ?_ (by size_fits))
  refine wpAny_bind (m := firstArgMember _ _) (wpAny_of_eq (a := Value.none) (by first | rfl | (simp only [firstArgMember]; rfl)) ?_)
  refine wpAny_newObj_type ?_ (by size_fits)
  simp only [raiseNew]
  refine wpAny_bind (wpAny_handled ?_)
  rw [hh]
  refine wpAny_bind (wpAny_pure (wpAny_throw ?_))
  exact hE _ _ (fun c o e => Heap.get?_push_of_some _ (Heap.get?_push_of_some _ e)) ⟨_, Heap.get?_push_size _ rfl, rfl⟩

theorem next_item {z TI TO i1 i2 l1 l2 : Addr} {k1 k2 : Nat} {xs ys : Array Value} {x y a b : Value} {Q : Value → Shared → Prop} (D : ZipApart z TI TO i1 i2 l1 l2)
    (hz : IsZipS s.heap z TI TO .none) (hTI : IsPair s.heap TI (.ref i1) (.ref i2)) (hTO : IsPair s.heap TO a b)
    (h1 : s.heap.IsTupleIter i1 l1 k1) (h2 : s.heap.IsTupleIter i2 l2 k2) (hl1 : s.heap.IsTuple l1 xs) (hl2 : s.heap.IsTuple l2 ys) (hx : xs[k1]? = some x) (hy : ys[k2]? = some y)
    (hQ : ∀ h', IsZipS h' z TI TO (rawInt s.heap.objs.size) → IsPair h' TO x y → h'.IsTupleIter i1 l1 (k1 + 1) → h'.IsTupleIter i2 l2 (k2 + 1) → IsPair h' s.heap.objs.size x y → h'.objs.size = s.heap.objs.size + 1 →
      (∀ c o, c ≠ z → c ≠ TO → c ≠ i1 → c ≠ i2 → s.heap.get? c = some o → h'.get? c = some o) → Q (.ref s.heap.objs.size) { s with heap := h' }) :
    wpAny (model prog w) A (Builtin.«zip.__next__» ⟨[.ref z], []⟩) (fun fin s' => ∃ v, fin = .done (.ret v) ∧ Q v s') E s := by
  show wpAny _ _ (field (.ref z) 2 >>= _) _ _ _
  refine wpAny_bind (wpAny_field hz rfl (x := .bool true) rfl ?_)
  show wpAny _ _ (field (.ref z) 3 >>= _) _ _ _
  refine wpAny_bind (wpAny_field hz rfl (x := .ref TI) rfl ?_)
  refine wpAny_bind (wpAny_seqItems hTI rfl ?_)
  show wpAny _ _ (Builtin.SmallTypes.ownedTupleIsFree (.ref z) >>= _) _ _ _
  refine wpAny_bind ?_
  unfold Builtin.SmallTypes.ownedTupleIsFree
  refine wpAny_bind (wpAny_field hz rfl (x := .none) rfl (wpAny_pure ?_))
  simp only [if_true]
  refine wpAny_bind (wpAny_rule ?_)
  refine wpAny_bind (wpAny_field hz rfl (x := .ref TO) rfl ?_)
  refine wpAny_bind (wpAny_setField_rec hz (by simp) fun h₁ hz₁ hs₁ => ?_)
  replace hz₁ : IsZipS h₁ z TI TO .ellipsis := hz₁
  refine wpAny_bind ?_
  simp only [List.zipIdx_cons, List.zipIdx_nil, List.forIn_cons, List.forIn_nil]
  refine wpAny_bind (wpAny_bind (wpAny_onRaise ?_))
  show wpAny _ _ (Builtin.SmallTypes.nextOrEnd (.ref i1)) _ _ _
  refine noe_item (h1.extBut hs₁.extBut D.i1z) (hl1.extBut hs₁.extBut D.l1z) hx fun h₂ h1₂ hs₂ => ?_
  have hTO₂ : IsPair h₂ TO a b := hs₂.extBut _ _ D.TOi1 (hs₁.extBut _ _ D.TOz hTO)
  refine wpAny_bind (wpAny_seqItems hTO₂ rfl ?_)
  refine wpAny_bind (wpAny_updateSeq_pair hTO₂ fun h₃ hTO₃ hs₃ => ?_)
  replace hTO₃ : IsPair h₃ TO x b := hTO₃
  refine wpAny_bind (wpAny_letGo (wpAny_pure ?_))
  refine wpAny_bind (wpAny_bind (wpAny_onRaise ?_))
  show wpAny _ _ (Builtin.SmallTypes.nextOrEnd (.ref i2)) _ _ _
  refine noe_item (((h2.extBut hs₁.extBut D.i2z).extBut hs₂.extBut D.i12.symm).extBut hs₃.extBut D.TOi2.symm)
    (((hl2.extBut hs₁.extBut D.l2z).extBut hs₂.extBut D.l2i1).extBut hs₃.extBut D.l2TO) hy fun h₄ h2₄ hs₄ => ?_
  have hTO₄ : IsPair h₄ TO x b := hs₄.extBut _ _ D.TOi2 hTO₃
  refine wpAny_bind (wpAny_seqItems hTO₄ rfl ?_)
  refine wpAny_bind (wpAny_updateSeq_pair hTO₄ fun h₅ hTO₅ hs₅ => ?_)
  replace hTO₅ : IsPair h₅ TO x y := hTO₅
  refine wpAny_bind (wpAny_letGo (wpAny_pure (wpAny_pure ?_)))
  refine wpAny_bind (wpAny_seqItems hTO₅ rfl ?_)
  refine wpAny_bind (wpAny_newTuple ?_)
  have hsz : h₅.objs.size = s.heap.objs.size := by rw [hs₅.1, hs₄.1, hs₃.1, hs₂.1, hs₁.1]
  have hz₅ : IsZipS h₅ z TI TO .ellipsis := hs₅.extBut _ _ D.TOz.symm (hs₄.extBut _ _ D.i2z.symm (hs₃.extBut _ _ D.TOz.symm (hs₂.extBut _ _ D.i1z.symm hz₁)))
  have hk₅ : ∀ c o, c ≠ z → c ≠ TO → c ≠ i1 → c ≠ i2 → s.heap.get? c = some o → h₅.get? c = some o := fun c o c1 c2 c3 c4 e =>
    hs₅.extBut _ _ c2 (hs₄.extBut _ _ c4 (hs₃.extBut _ _ c2 (hs₂.extBut _ _ c3 (hs₁.extBut _ _ c1 e))))
  have h1₅ : h₅.IsTupleIter i1 l1 (k1 + 1) := ((h1₂.extBut hs₃.extBut D.TOi1.symm).extBut hs₄.extBut D.i12).extBut hs₅.extBut D.TOi1.symm
  have h2₅ : h₅.IsTupleIter i2 l2 (k2 + 1) := h2₄.extBut hs₅.extBut D.TOi2.symm
  have hzlt : z < h₅.objs.size := Heap.lt_size hz₅
  show wpAny _ _ (Builtin.SmallTypes.ownedTupleHandOut (.ref z) (.ref h₅.objs.size) >>= _) _ _ _
  refine wpAny_bind ?_
  unfold Builtin.SmallTypes.ownedTupleHandOut
  have hz₆ : IsZipS (h₅.push { cls := .type "tuple", data := .seq #[x, y] }) z TI TO .ellipsis := Heap.get?_push_of_some _ hz₅
  refine wpAny_bind (wpAny_setField_rec hz₆ (by simp) fun h₇ hz₇ hs₇ => ?_)
  replace hz₇ : IsZipS h₇ z TI TO (rawInt h₅.objs.size) := hz₇
  refine wpAny_setField_rec hz₇ (by simp) fun h₈ hz₈ hs₈ => ?_
  replace hz₈ : IsZipS h₈ z TI TO (rawInt h₅.objs.size) := hz₈
  have up : ∀ c o, c ≠ z → h₅.get? c = some o → h₈.get? c = some o := fun c o c1 e => hs₈.extBut _ _ c1 (hs₇.extBut _ _ c1 (Heap.get?_push_of_some _ e))
  have hT₈ : IsPair h₈ h₅.objs.size x y := hs₈.extBut _ _ (Nat.ne_of_gt hzlt) (hs₇.extBut _ _ (Nat.ne_of_gt hzlt) (Heap.get?_push_size _ rfl))
  have hz8 : h₈.objs.size = h₅.objs.size + 1 := by rw [hs₈.1, hs₇.1, Heap.size_push]
  rw [hsz] at hz₈ hT₈ hz8
  refine wpAny_pure ⟨_, rfl, ?_⟩
  show Q (.ref h₅.objs.size) _
  rw [hsz]
  exact hQ h₈ hz₈ (up _ _ D.TOz hTO₅) (h1₅.at fun o e => up _ o D.i1z e) (h2₅.at fun o e => up _ o D.i2z e) hT₈ hz8 fun c o c1 c2 c3 c4 e => up c o c1 (hk₅ c o c1 c2 c3 c4 e)

theorem next_end {z TI TO i1 i2 l1 l2 : Addr} {k1 k2 : Nat} {xs ys : Array Value} {a b : Value} {Q : Fin → Shared → Prop} (hh : A.handled = none) (D : ZipApart z TI TO i1 i2 l1 l2)
    (hz : IsZipS s.heap z TI TO .none) (hTI : IsPair s.heap TI (.ref i1) (.ref i2)) (hTO : IsPair s.heap TO a b)
    (h1 : s.heap.IsTupleIter i1 l1 k1) (h2 : s.heap.IsTupleIter i2 l2 k2) (hl1 : s.heap.IsTuple l1 xs) (hl2 : s.heap.IsTuple l2 ys) (hx : xs[k1]? = none) (hy : ys[k2]? = none)
    (hE : ∀ h' e, (∀ c o, c ≠ z → c ≠ TO → c ≠ i1 → c ≠ i2 → s.heap.get? c = some o → h'.get? c = some o) → (∃ o, h'.get? e = some o ∧ o.cls = .type "StopIteration") → E (.ref e) { s with heap := h' }) :
    wpAny (model prog w) A (Builtin.«zip.__next__» ⟨[.ref z], []⟩) Q E s := by
  show wpAny _ _ (field (.ref z) 2 >>= _) _ _ _
  refine wpAny_bind (wpAny_field hz rfl (x := .bool true) rfl ?_)
  show wpAny _ _ (field (.ref z) 3 >>= _) _ _ _
  refine wpAny_bind (wpAny_field hz rfl (x := .ref TI) rfl ?_)
  refine wpAny_bind (wpAny_seqItems hTI rfl ?_)
  show wpAny _ _ (Builtin.SmallTypes.ownedTupleIsFree (.ref z) >>= _) _ _ _
  refine wpAny_bind ?_
  unfold Builtin.SmallTypes.ownedTupleIsFree
  refine wpAny_bind (wpAny_field hz rfl (x := .none) rfl (wpAny_pure ?_))
  simp only [if_true]
  refine wpAny_bind (wpAny_rule ?_)
  refine wpAny_bind (wpAny_field hz rfl (x := .ref TO) rfl ?_)
  refine wpAny_bind (wpAny_setField_rec hz (by simp) fun h₁ hz₁ hs₁ => ?_)
  replace hz₁ : IsZipS h₁ z TI TO .ellipsis := hz₁
  refine wpAny_bind ?_
  simp only [List.zipIdx_cons, List.zipIdx_nil, List.forIn_cons, List.forIn_nil]
  refine wpAny_bind (wpAny_bind (wpAny_onRaise ?_))
  show wpAny _ _ (Builtin.SmallTypes.nextOrEnd (.ref i1)) _ _ _
  refine noe_end hh (h1.extBut hs₁.extBut D.i1z) (hl1.extBut hs₁.extBut D.l1z) hx fun h₂ hs₂ => ?_
  have hz₂ : IsZipS h₂ z TI TO .ellipsis := hs₂ _ _ D.i1z.symm hz₁
  refine wpAny_bind (wpAny_setField_rec hz₂ (by simp) fun h₃ _ hs₃ => ?_)
  refine wpAny_bind ?_
  show wpAny _ _ ((forIn _ _ _) >>= _) _ _ _
  simp only [List.drop, List.zipIdx_cons, List.zipIdx_nil, List.forIn_cons, List.forIn_nil]
  refine wpAny_bind (wpAny_bind ?_)
  refine wpAny_bind (noe_end hh (((h2.extBut hs₁.extBut D.i2z).extBut hs₂ D.i12.symm).extBut hs₃.extBut D.i2z) (((hl2.extBut hs₁.extBut D.l2z).extBut hs₂ D.l2i1).extBut hs₃.extBut D.l2z) hy fun h₄ hs₄ => ?_)
  rw [if_neg (by decide)]
  refine wpAny_pure (wpAny_pure ?_)
  refine wpAny_bind (wpAny_rule ?_)
  exact stop_iter hh fun h₅ e hk he => hE h₅ e (fun c o c1 c2 c3 c4 x => hk c o (hs₄ _ _ c4 (hs₃.extBut _ _ c1 (hs₂ _ _ c3 (hs₁.extBut _ _ c1 x))))) he

theorem pyNext_item {z TI TO i1 i2 l1 l2 : Addr} {k1 k2 : Nat} {xs ys : Array Value} {x y a b : Value} {Q : Option Value → Shared → Prop} (D : ZipApart z TI TO i1 i2 l1 l2)
    (hz : IsZipS s.heap z TI TO .none) (hTI : IsPair s.heap TI (.ref i1) (.ref i2)) (hTO : IsPair s.heap TO a b)
    (h1 : s.heap.IsTupleIter i1 l1 k1) (h2 : s.heap.IsTupleIter i2 l2 k2) (hl1 : s.heap.IsTuple l1 xs) (hl2 : s.heap.IsTuple l2 ys) (hx : xs[k1]? = some x) (hy : ys[k2]? = some y)
    (hQ : ∀ h', IsZipS h' z TI TO (rawInt s.heap.objs.size) → IsPair h' TO x y → h'.IsTupleIter i1 l1 (k1 + 1) → h'.IsTupleIter i2 l2 (k2 + 1) → IsPair h' s.heap.objs.size x y → h'.objs.size = s.heap.objs.size + 1 →
      (∀ c o, c ≠ z → c ≠ TO → c ≠ i1 → c ≠ i2 → s.heap.get? c = some o → h'.get? c = some o) → Q (some (.ref s.heap.objs.size)) { s with heap := h' }) :
    wpAny (model prog w) A (pyNext (.ref z)) Q E s := by
  have hT : s.TypeIs (.ref z) "zip" := ⟨_, hz, rfl⟩
  unfold pyNext
  exact wpAny_bind (wpAny_attempt (wpAny_callSpecial?_slot (name := Str.ofString "__next__") hT F.slot_zip_next
    (wpAny_call_entry F.slot_zip_next hT F.entry_zip_next
      (next_item D hz hTI hTO h1 h2 hl1 hl2 hx hy fun h' a1 a2 a3 a4 a5 a6 a7 => wpAny_pure (hQ h' a1 a2 a3 a4 a5 a6 a7)) (F.args_zip_next_1 _))))
theorem pyNext_end {z TI TO i1 i2 l1 l2 : Addr} {k1 k2 : Nat} {xs ys : Array Value} {a b : Value} {Q : Option Value → Shared → Prop} (hh : A.handled = none) (D : ZipApart z TI TO i1 i2 l1 l2)
    (hz : IsZipS s.heap z TI TO .none) (hTI : IsPair s.heap TI (.ref i1) (.ref i2)) (hTO : IsPair s.heap TO a b)
    (h1 : s.heap.IsTupleIter i1 l1 k1) (h2 : s.heap.IsTupleIter i2 l2 k2) (hl1 : s.heap.IsTuple l1 xs) (hl2 : s.heap.IsTuple l2 ys) (hx : xs[k1]? = none) (hy : ys[k2]? = none)
    (hQ : ∀ h', (∀ c o, c ≠ z → c ≠ TO → c ≠ i1 → c ≠ i2 → s.heap.get? c = some o → h'.get? c = some o) → Q none { s with heap := h' }) : wpAny (model prog w) A (pyNext (.ref z)) Q E s := by
  have hT : s.TypeIs (.ref z) "zip" := ⟨_, hz, rfl⟩
  unfold pyNext
  refine wpAny_bind (wpAny_attempt (wpAny_callSpecial?_slot (name := Str.ofString "__next__") hT F.slot_zip_next
    (wpAny_call_entry F.slot_zip_next hT F.entry_zip_next (next_end hh D hz hTI hTO h1 h2 hl1 hl2 hx hy fun h' e hk he => ?_) (F.args_zip_next_1 _))))
  obtain ⟨o, ho, hc⟩ := he
  exact wpAny_bind (wpAny_isInstance (T := "StopIteration") (b := true) ⟨o, ho, hc⟩ isSubtype_stop (wpAny_pure (hQ _ hk)))
theorem letGo_zipS {elts : List Expr} {x1} {pos : Pos} {z TI TO T : Addr} {Q : Unit → Shared → Prop} (hz : IsZipS s.heap z TI TO (rawInt T))
    (hQ : ∀ h', IsZipS h' z TI TO .none → Heap.SameBut z s.heap h' → Q () { s with heap := h' }) :
    wpAny (model prog w) A (letOwnedTupleGo (.Tuple elts x1 pos) (.ref z) (.ref T)) Q E s := by
  unfold letOwnedTupleGo
  refine wpAny_bind (wpAny_load hz ?_)
  show wpAny _ _ (if (["enumerate", "zip", "dict_itemiterator", "dict_reverseitemiterator", "odict_iterator", "itertools.zip_longest", "itertools.pairwise"].contains "zip" &&
      (#[rawInt T, .bool false, .bool true, .ref TI, .ref TO] : Array Value)[0]? == some (rawInt T)) = true then _ else _) Q E s
  rw [if_pos (by simp)]
  refine wpAny_bind (wpAny_rule ?_)
  show wpAny _ _ (setField (.ref z) 0 .none) Q E s
  exact wpAny_setField_rec hz (by simp) fun h' hz' hs' => hQ h' hz' hs'
theorem pyIter_zipS {z TI TO : Addr} {f0 : Value} {Q : Value → Shared → Prop} (hz : IsZipS s.heap z TI TO f0) (h : Q (.ref z) s) : wpAny (model prog w) A (pyIter (.ref z)) Q E s := by
  have hT : s.TypeIs (.ref z) "zip" := ⟨_, hz, rfl⟩
  refine wpAny_pyIter_slot hT F.slot_zip_iter (wpAny_call_entry F.slot_zip_iter hT F.entry_zip_iter ?_ (F.args_zip_iter_1 _))
  show wpAny _ _ (ret (.ref z)) _ _ s
  exact wpAny_pure ⟨_, rfl, "zip", _, hT, F.slot_zip_next.lookup, h⟩
end
abbrev zS5 (h : Heap) (l1 l2 : Addr) : Heap := (RZ.zipTH4 h l1 l2).push { cls := .type "zip", data := .fields #[.none, .bool false, .bool true, .ref (RZ.zipTH2 h l1 l2).objs.size, .ref (RZ.zipTH3 h l1 l2).objs.size] }
theorem meets_new (l1 l2 : Addr) (xs ys : Array Value) :
    Meets (Builtin.«zip.__new__» ⟨[.type "zip", .ref l1, .ref l2], [(Str.ofString "strict", .bool true)]⟩) (fun _ R s => s.heap.IsTuple l1 xs ∧ s.heap.IsTuple l2 ys ∧
      R (.ok (.ret (.ref (RZ.zipTH4 s.heap l1 l2).objs.size))) { s with heap := zS5 s.heap l1 l2 }) :=
  .of_wp fun prog w A R s h => by
    obtain ⟨hp, g, d, tk, os⟩ := s; obtain ⟨hl1, hl2, h⟩ := h
    have hsub := sub_zip
    have hL1 : Heap.IsTuple (Shared.heap ⟨hp, g, d, tk, os⟩) l1 xs := hl1
    have hL2 : Heap.IsTuple (Shared.heap ⟨hp.push { cls := .type "tuple_iterator", data := .fields #[.ref l1, .int 0 0] }, g, d, tk, os⟩) l2 ys := Heap.IsTuple.push hl2 _
    have e2 : (Str.ofString "strict" != ("strict" : Str)) = false := by decide +kernel
    wp_walk using wpAny_pyIter_tuple hL1, wpAny_pyIter_tuple hL2
    exact ⟨_, rfl, h⟩
theorem typeCall_s (a b c : Value) : checkTypeCall "zip" ⟨[a, b], [(Str.ofString "strict", c)]⟩ = pure () := by kernel_rfl
theorem newCall_s (a b c : Value) : checkBuiltinCall "zip.__new__" ⟨[.type "zip", a, b], [(Str.ofString "strict", c)]⟩ = pure () := by kernel_rfl
theorem args_init_s (obj a b c : Value) : argsOk "object.__init__" ⟨[obj, a, b], [(Str.ofString "strict", c)]⟩ := by unfold argsOk; kernel_rfl
section
variable {prog : Program} {w : World} {A : Around} {E : Value → Shared → Prop} {s : Shared}
theorem call_zipS {l1 l2 : Addr} {xs ys : Array Value} {Q : Value → Shared → Prop} (hl1 : s.heap.IsTuple l1 xs) (hl2 : s.heap.IsTuple l2 ys)
    (h : ∀ h', IsZipS h' (s.heap.objs.size + 4) (s.heap.objs.size + 2) (s.heap.objs.size + 3) .none → IsPair h' (s.heap.objs.size + 2) (.ref s.heap.objs.size) (.ref (s.heap.objs.size + 1)) →
      IsPair h' (s.heap.objs.size + 3) .none .none → h'.IsTupleIter s.heap.objs.size l1 0 → h'.IsTupleIter (s.heap.objs.size + 1) l2 0 → h'.objs.size = s.heap.objs.size + 5 →
      (∀ c o, s.heap.get? c = some o → h'.get? c = some o) → Q (.ref (s.heap.objs.size + 4)) { s with heap := h' }) :
    wpAny (model prog w) A (call (.type "zip") [.ref l1, .ref l2] [(Str.ofString "strict", .bool true)]) Q E s := by
  refine callType_newKw F.called_zip (by decide) (typeCall_s _ _ _) (newCall_s _ _ _) (fun obj => args_init_s obj _ _ _) F.entry_zip_new
    (meets_new l1 l2 xs ys) ⟨hl1, hl2, ?_⟩
  have z1 : (RZ.zipTH1 s.heap l1).objs.size = s.heap.objs.size + 1 := Heap.size_push ..
  have z2 : (RZ.zipTH2 s.heap l1 l2).objs.size = s.heap.objs.size + 2 := by rw [Heap.size_push, z1]
  have z3 : (RZ.zipTH3 s.heap l1 l2).objs.size = s.heap.objs.size + 3 := by rw [Heap.size_push, z2]
  have z4 : (RZ.zipTH4 s.heap l1 l2).objs.size = s.heap.objs.size + 4 := by rw [Heap.size_push, z3]
  have z5 : (zS5 s.heap l1 l2).objs.size = s.heap.objs.size + 5 := by rw [Heap.size_push, z4]
  have up : ∀ {h : Heap} {b : Addr} {o u : Obj}, h.get? b = some o → (h.push u).get? b = some o := fun e => Heap.get?_push_of_some _ e
  have g5 : (zS5 s.heap l1 l2).get? (RZ.zipTH4 s.heap l1 l2).objs.size = some _ := Heap.get?_push_size _ rfl
  have g4 : (zS5 s.heap l1 l2).get? (RZ.zipTH3 s.heap l1 l2).objs.size = some _ := up (Heap.get?_push_size _ rfl)
  have g3 : (zS5 s.heap l1 l2).get? (RZ.zipTH2 s.heap l1 l2).objs.size = some _ := up (up (Heap.get?_push_size _ rfl))
  have g2 : (zS5 s.heap l1 l2).get? (RZ.zipTH1 s.heap l1).objs.size = some _ := up (up (up (Heap.get?_push_size _ rfl)))
  have g1 : (zS5 s.heap l1 l2).get? s.heap.objs.size = some _ := up (up (up (up (Heap.get?_push_size _ rfl))))
  show _ ∧ _
  rw [z2, z3, z4] at g5
  rw [z1, z2] at g3
  rw [z3] at g4
  rw [z1] at g2
  rw [z4]
  exact ⟨⟨_, g5, rfl⟩, h _ g5 g3 g4 ⟨_, g1, rfl, rfl⟩ ⟨_, g2, rfl, rfl⟩ z5 fun c o x => up (up (up (up (up x))))⟩
end
def ItzS (K : PySem.W.Frag) (a b : Addr) : It :=
  ⟨fun i H => ∃ (xs ys : List V) (x y : V), SqT K H a xs ∧ SqT K H b ys ∧ xs[i]? = some x ∧ ys[i]? = some y,
    fun i H v H' => ∃ T x y, v = .ref T ∧ H T = none ∧ H' = upd H T (.tup [x, y]) ∧ (∀ xs, SqT K H a xs → xs[i]? = some x) ∧ ∀ ys, SqT K H b ys → ys[i]? = some y,
    fun i H => ∃ xs ys : List V, SqT K H a xs ∧ SqT K H b ys ∧ xs.length ≤ i ∧ ys.length ≤ i⟩
theorem turn_zipS {P : Program} {w : World} {K : PySem.W.Frag} {elts : List Expr} {kk : Nat} {tpos : Pos} {a b z TI TO i1 i2 : Addr} (D : ZipApart z TI TO i1 i2 a b) :
    Turn P w K (.Tuple elts kk tpos) (ItzS K a b) [z, TI, TO, i1, i2] z (fun i h => IsZipS h z TI TO .none ∧ IsPair h TI (.ref i1) (.ref i2) ∧ (∃ x y, IsPair h TO x y) ∧ h.IsTupleIter i1 a i ∧ h.IsTupleIter i2 b i) where
  mem := by simp
  obj := fun i h st c hc => by
    obtain ⟨hz, hTI, ⟨x, y, hTO⟩, ⟨o1, e1, _, d1⟩, ⟨o2, e2, _, d2⟩⟩ := st
    have e' : c = z ∨ c = TI ∨ c = TO ∨ c = i1 ∨ c = i2 := by simpa using hc
    rcases e' with q | q | q | q | q
    · rw [q]; exact ⟨_, hz, fun v q => nomatch q⟩
    · rw [q]; exact ⟨_, hTI, fun v q => nomatch q⟩
    · rw [q]; exact ⟨_, hTO, fun v q => nomatch q⟩
    · rw [q]; exact ⟨o1, e1, fun v q => by rw [d1] at q; cases q⟩
    · rw [q]; exact ⟨o2, e2, fun v q => by rw [d2] at q; cases q⟩
  keep := fun i h h' st k => by
    obtain ⟨hz, hTI, ⟨x, y, hTO⟩, h1, h2⟩ := st
    exact ⟨k z (by simp) _ hz, k TI (by simp) _ hTI, ⟨x, y, k TO (by simp) _ hTO⟩, h1.at fun o q => k i1 (by simp) o q, h2.at fun o q => k i2 (by simp) o q⟩
  item := by
    intro X hP hw hK hc i pins s σ H E I hf st hg
    subst hP hw hK
    obtain ⟨hz, hTI, ⟨x0, y0, hTO⟩, h1, h2⟩ := st
    obtain ⟨xs, ys, x, y, hqx, hqy, hx, hy⟩ := hg
    obtain ⟨its, rv, p, _⟩ := I.tuple hqx
    obtain ⟨its2, rv2, p2, _⟩ := I.tuple hqy
    obtain ⟨u, hu, ru⟩ := rv.get hx
    obtain ⟨u2, hu2, ru2⟩ := rv2.get hy
    have hzl : z < s.heap.objs.size := Heap.lt_size hz
    refine pyNext_item D hz hTI hTO h1 h2 p p2 (x := u) (y := u2) (by simpa using hu) (by simpa using hu2) fun h' z' TO' h1' h2' hT hsz hk => ?_
    refine ⟨_, rfl, letGo_zipS (s := { s with heap := h' }) z' fun h'' z'' sb => ?_⟩
    have hT2 : h''.get? s.heap.objs.size = some { cls := .type "tuple", data := .seq #[u, u2] } := (sb.2 _ (Nat.ne_of_gt hzl)).trans hT
    have new : ObjOk X.prog X.w (upd H s.heap.objs.size (.tup [x, y])) h'' s.heap.objs.size (.tup [x, y]) :=
      ⟨by show 2 ≤ sizeLine; decide, [u, u2], .cons ru (.cons ru2 .nil), ⟨_, hT2, rfl, _, rfl⟩⟩
    have I1 : Inv X pins σ (upd H s.heap.objs.size (.tup [x, y])) { s with heap := h'' } :=
      I.turnedNew (t' := s.toks) (ch := [z, TI, TO, i1, i2]) (fun c o hb q => (sb.2 c (fun q' => hb (by simp [q']))).trans (hk c o (fun q' => hb (by simp [q'])) (fun q' => hb (by simp [q'])) (fun q' => hb (by simp [q'])) (fun q' => hb (by simp [q'])) q)) hf (Nat.le_refl _) new
    refine ⟨.ref s.heap.objs.size, _, I1, rfl, ⟨_, x, y, rfl, I.hok.fresh (Nat.le_refl _), rfl, fun l hl => by rw [I.tuple_inj hl hqx]; exact hx, fun l hl => by rw [I.tuple_inj hl hqy]; exact hy⟩, ⟨z'', ?_, ⟨u, u2, ?_⟩, ?_, ?_⟩, fun c hcm => ?_⟩
    · exact (sb.2 _ D.TIz).trans (hk _ _ D.TIz D.TITO D.TIi1 D.TIi2 hTI)
    · exact (sb.2 _ D.TOz).trans TO'
    · exact h1'.at fun o q => (sb.2 _ D.i1z).trans q
    · exact h2'.at fun o q => (sb.2 _ D.i2z).trans q
    · have hlt : c < s.heap.objs.size := by
        have e' : c = z ∨ c = TI ∨ c = TO ∨ c = i1 ∨ c = i2 := by simpa using hcm
        rcases e' with q | q | q | q | q
        · rw [q]; exact hzl
        · rw [q]; exact Heap.lt_size hTI
        · rw [q]; exact Heap.lt_size hTO
        · rw [q]; obtain ⟨_, e1, _⟩ := h1; exact Heap.lt_size e1
        · rw [q]; obtain ⟨_, e2, _⟩ := h2; exact Heap.lt_size e2
      rw [upd_ne (Nat.ne_of_lt hlt)]
      exact (hf c hcm).1
  done := by
    intro X hP hw hK hc i pins s σ H E I hf st hg
    subst hP hw hK
    obtain ⟨hz, hTI, ⟨x0, y0, hTO⟩, h1, h2⟩ := st
    obtain ⟨xs, ys, hqx, hqy, g1, g2⟩ := hg
    obtain ⟨its, rv, p, _⟩ := I.tuple hqx
    obtain ⟨its2, rv2, p2, _⟩ := I.tuple hqy
    have l1 := rv.length
    have l2 := rv2.length
    exact pyNext_end (I.ok.hd hc) D hz hTI hTO h1 h2 p p2 (by simp; omega) (by simp; omega) fun h' hk => ⟨rfl, I.turnedL (t' := s.toks) (ch := [z, TI, TO, i1, i2]) (fun c o hb q =>
      hk c o (fun q' => hb (by simp [q'])) (fun q' => hb (by simp [q'])) (fun q' => hb (by simp [q'])) (fun q' => hb (by simp [q'])) q) hf⟩
  self := fun A i s Q E st h => pyIter_zipS st.1 h
section
variable {M : Model} {A : Around} {E : Value → Shared → Prop} {s : Shared} {env : Env}
theorem cw_type_kw {pos : Pos} {T : String} {e : Expr} {rest : List Expr} {kws : List Keyword} {Q : Value → Shared → Prop}
    (h : wpAny M A (spliced (backTo pos (starEach (e :: rest) env))) (fun vs s₁ => wpAny M A (evalAll ((backToKw pos (keywordEach kws env)).map (·.2)))
      (fun kvs s₂ => wpAny M A (call (.type T) vs (((backToKw pos (keywordEach kws env)).filterMap (·.1)).zip kvs)) Q E s₂) E s₁) E s)
    (he : backTo pos (starEach (e :: rest) env) = (false, eval e env) :: backTo pos (starEach rest env)) (hplain : (backTo pos (starEach (e :: rest) env)).any (·.1) = false)
    (hall : (backToKw pos (keywordEach kws env)).all (·.1.isSome) = true) (hkw : (backToKw pos (keywordEach kws env)).any (·.1.isNone) = false) :
    wpAny M A (callWith pos (.type T) [] (backTo pos (starEach (e :: rest) env)) (backToKw pos (keywordEach kws env))) Q E s := by
  have h2 : wpAny M A (evalArgs (.type T) true (backTo pos (starEach (e :: rest) env)) (backToKw pos (keywordEach kws env))) (fun a s₁ => wpAny M A (call (.type T) ([] ++ a.pos) a.kw) Q E s₁) E s := by
    rw [he] at h ⊢
    exact evalArgs_kwB hall h
  unfold callWith
  refine wpAny_bind (wpAny_holding (wpAny_mono h2 (fun a s₁ h₁ => wpAny_bind (wpAny_standAt ?_)) fun _ _ x => x))
  simp only [hplain, hkw, Bool.or_false]
  refine wpAny_bind (wpAny_pure ?_)
  exact wpAny_bind (wpAny_mono h₁ (fun r s₂ hr => wpAny_bind (wpAny_holding (wpAny_point (wpAny_pure hr)))) fun _ _ x => x)
end
def iZipS (K : PySem.W.Frag) (ta tk : TA) : TI := fun σ H R => ta σ H fun vs H1 => tk σ H1 fun zs H2 => zs = [.bl true] ∧ ∃ a b xs ys, vs = [.ref a, .ref b] ∧ SqT K H2 a xs ∧ SqT K H2 b ys ∧ xs.length = ys.length ∧ R (ItzS K a b) H2
theorem pi_zipS {X : Cx} {e e2 : Expr} {ta tk : TA} {p pos tpos : Pos} {elts : List Expr} {kk : Nat} {kws : List Keyword} (hg : Gl X "zip") (hm : X.mg "zip" = none) (ha : PA X [e, e2] ta) (hkw : PK X kws tk)
    (hall : (backToKw pos (keywordEach kws X.env)).all (·.1.isSome) = true := by rfl) (hks : (backToKw pos (keywordEach kws X.env)).filterMap (·.1) = [("strict" : Str)] := by rfl)
    (he : backTo pos (starEach [e, e2] X.env) = (false, eval e X.env) :: backTo pos (starEach [e2] X.env) := by rfl)
    (hpl : (backTo pos (starEach [e, e2] X.env)).any (·.1) = false := by rfl) (hno : (backToKw pos (keywordEach kws X.env)).any (·.1.isNone) = false := by rfl) :
    PI X (.Tuple elts kk tpos) (.Call (.Name "zip" p) [e, e2] kws pos) (iZipS X.K ta tk) := by
  refine ⟨fun pins s σ H R I h => ?_⟩
  refine wpAny_Call_Name_kw (ld_blt I hg hm PyProof.Rows.boot_zip ?_)
  refine cw_type_kw (thn (ha.run pos pins s σ H _ I h) fun us s1 ⟨vs, H1, I1, r1, q1⟩ => ?_) he hpl hall hno
  refine thn (hkw.run pos pins s1 σ H1 _ I1 q1) fun ws s2 ⟨zs, H2, I2, rz, q2⟩ => ?_
  rw [hks]
  obtain ⟨ez, a, b, xs, ys, ex, hqx, hqy, hl, q⟩ := q2
  subst ex
  subst ez
  obtain ⟨w1, rfl, e1⟩ := vals1 rz
  obtain rfl : w1 = Value.bool true := e1
  cases r1 with
  | cons r rr =>
    cases rr with
    | cons r' rr =>
      cases rr
      cases r
      cases r'
      have fresh5 : ∀ c, c ∈ [s2.heap.objs.size + 4, s2.heap.objs.size + 2, s2.heap.objs.size + 3, s2.heap.objs.size, s2.heap.objs.size + 1] → FpOk X pins H2 c := fun c hcm => by
        have e' : c = s2.heap.objs.size + 4 ∨ c = s2.heap.objs.size + 2 ∨ c = s2.heap.objs.size + 3 ∨ c = s2.heap.objs.size ∨ c = s2.heap.objs.size + 1 := by simpa using hcm
        have hle : s2.heap.objs.size ≤ c := by
          rcases e' with z | z | z | z | z
          · rw [z]; exact Nat.le_add_right _ _
          · rw [z]; exact Nat.le_add_right _ _
          · rw [z]; exact Nat.le_add_right _ _
          · rw [z]; exact Nat.le_refl _
          · rw [z]; exact Nat.le_add_right _ _
        exact I2.fpOk hle (I2.hok.fresh hle)
      obtain ⟨its, rv, p1, _⟩ := I2.tuple hqx
      obtain ⟨its2, rv2, p2, _⟩ := I2.tuple hqy
      obtain ⟨o1, ho1, _⟩ := id p1
      obtain ⟨o2, ho2, _⟩ := id p2
      show wpAny _ _ (call (.type "zip") [.ref a, .ref b] [(Str.ofString "strict", .bool true)]) _ _ _
      refine call_zipS (show s2.heap.IsTuple a its.toArray from p1) (show s2.heap.IsTuple b its2.toArray from p2) fun h' hz hTI hTO h1 h2 hsz hk => pyIter_zipS hz ?_
      have I3 : Inv X pins σ H2 { s2 with heap := h' } := I2.kept (t' := s2.toks) hk
      exact ⟨s2.heap.objs.size + 4, [s2.heap.objs.size + 4, s2.heap.objs.size + 2, s2.heap.objs.size + 3, s2.heap.objs.size, s2.heap.objs.size + 1], _, _, H2, rfl, I3, turn_zipS (PySem.W.ktu_apart s2.heap.objs.size a b (Heap.lt_size ho1) (Heap.lt_size ho2)), ⟨hz, hTI, ⟨_, _, hTO⟩, h1, h2⟩, fresh5, q⟩
end DZs
namespace DL
open PySem PySem.Spec PyProof.Rows L2
theorem evi_zipS {K : PySem.W.Frag} {Δ : Sl} {G L : List M} {ta tk : TA} {Qi : List D → List M → List M → Prop} (h : EvA K ta Δ G L fun ss G1 L1 => EvA K tk Δ G1 L1 fun zz G2 L2 => zz = [.d (.bl true)] ∧ ∃ xs ys, ss = [.d (.tup xs), .d (.tup ys)] ∧ xs.length = ys.length ∧ Qi (zipD xs ys) G2 L2) : EvI K (DZs.iZipS K ta tk) Δ G L Qi := fun w ls σ H c R q =>
  h w ls σ H c _ fun us ss H2 G2 L2 c2 e2 r2 k2 => k2 w ls σ H2 c2 _ fun zs zz H3 G3 L3 c3 e3 r3 ⟨ez, xs, ys, e, hl, k⟩ => by
    subst e
    subst ez
    obtain ⟨z, rfl, rz⟩ := pair1 r3
    obtain rfl : z = V.bl true := rz
    obtain ⟨v, u, rfl, ⟨a, vs, rfl, h1, r1⟩, b, vs2, rfl, h3, r3⟩ := pair2 (RSs.on c2 e3 r2)
    refine ⟨rfl, a, b, vs, vs2, rfl, h1.sq, h3.sq, by rw [r1.length, r3.length]; exact hl, q _ H3 _ G3 L3 c3 (e2.trans e3) ⟨fun H4 w2 ls2 σ2 Δ2 G4 L4 i d g c4 hi => ?_, fun H4 w2 ls2 g => ?_⟩ k⟩
    · obtain ⟨x, y, hx, hy, rfl⟩ := zipD_get hi
      obtain ⟨x', hx', rx⟩ := (r1.grow g).get hx
      obtain ⟨y', hy', ry⟩ := (r3.grow g).get hy
      have t1 := (h1.grow g).sq
      have t3 := (h3.grow g).sq
      refine ⟨⟨vs, vs2, x', y', t1, t3, hx', hy'⟩, fun u H' ⟨T, x2, y2, eu, hT, hH, f1, f2⟩ => ?_⟩
      subst hH
      subst eu
      have e1 := f1 vs t1
      have e2 := f2 vs2 t3
      rw [hx'] at e1
      rw [hy'] at e2
      cases e1
      cases e2
      exact ⟨c4.new hT, Ext.new hT, rep_tup c4 hT ⟨_, _, rfl, rx, RepL.one ry⟩⟩
    · refine ⟨vs, vs2, (h1.grow g).sq, (h3.grow g).sq, ?_, ?_⟩
      · rw [zipD_len, r1.length]
        omega
      · rw [zipD_len, r3.length]
        omega
end DL

namespace DL
open PySem PySem.Spec PyProof.Rows L2
/-! ### pairs of whole numbers; None among numbers; extend -/
theorem eqv_pair (a b c d : Int) : PyData.eqv (.tuple [.int a, .int b]) (.tuple [.int c, .int d]) = decide (a = c ∧ b = d) := by
  have h1 : ∀ x y : Int, PyData.eqv (.int x) (.int y) = decide (x = y) := fun x y => by
    simp [PyData.eqv]
    try rfl
  rw [PyData.eqv, PyData.eqvAll, PyData.eqvAll, PyData.eqvAll, h1, h1]
  simp
def rInP (K : PySem.W.Frag) : R2 := fun x y H Q => ∃ d ds, Dp K H x d ∧ Dp K H y (.tuple ds) ∧ d.canLay0 = true ∧ d.depth ≤ 32 ∧ PyData.canLayAll0 ds = true ∧ Q (.bl (ds.any fun z => PyData.eqv z d)) H
theorem op_inP {X : Cx} (hu : X.A.units + 64 < cLine) : OpR X (compareOp .In) (rInP X.K) := by
  intro pins s σ H x y v u Q I rx ry h
  obtain ⟨d, ds, hd, he, sd, dd, se, q⟩ := h
  obtain ⟨as, r1⟩ := Dp.reads I d x v hd rx
  obtain ⟨bs, r2⟩ := Dp.reads I (.tuple ds) y u he ry
  refine SeqAt.in_tuple_reads r2 r1 se sd ?_ ⟨.bl _, H, I, rfl, q⟩
  have := Nat.min_le_right (PyData.depthAll ds) d.depth
  omega
section
variable {K : PySem.W.Frag} {Δ : Sl} {G L : List M} {Qd : Po}
def pairD (a b : Int) : D := .tup [.int a, .int b]
def pairP (a b : Int) : PyData := .tuple [.int a, .int b]
theorem py_pair (a b : Int) : (pairD a b).py = some (pairP a b) := rfl
theorem shaped_pair (a b : Int) : SeqAt.shaped (pairP a b) = true := by
  unfold SeqAt.shaped
  rw [show (pairP a b).canLay0 = true from rfl, show (pairP a b).depth = 1 from by
    unfold pairP
    rw [PyData.depth, PyData.depthAll, PyData.depthAll, PyData.depthAll, PyData.depth, PyData.depth]
    rfl]
  rfl
theorem u_eq_pair {a b c d : Int} (k : Qd (.d (.bl (decide (a = c ∧ b = d)))) G L) : OpC K (uEq K) (.d (.tup [.int a, .int b])) (.d (.tup [.int c, .int d])) Δ G L Qd := by
  refine u_eq_d (a := pairD a b) (b := pairD c d) rfl rfl (py_pair a b) (py_pair c d) (shaped_pair a b) (shaped_pair c d) ?_
  rw [show PyData.eqv (pairP a b) (pairP c d) = _ from eqv_pair a b c d]
  exact k
theorem u_ne_pair {a b c d : Int} (k : Qd (.d (.bl (!decide (a = c ∧ b = d)))) G L) : OpC K (uNe K) (.d (.tup [.int a, .int b])) (.d (.tup [.int c, .int d])) Δ G L Qd := by
  refine u_ne_d (a := pairD a b) (b := pairD c d) rfl rfl (py_pair a b) (py_pair c d) (shaped_pair a b) (shaped_pair c d) ?_
  rw [show PyData.eqv (pairP a b) (pairP c d) = _ from eqv_pair a b c d]
  exact k
theorem u_in_pair {a b c d e f : Int} (k : Qd (.d (.bl (decide ((c = a ∧ d = b) ∨ (e = a ∧ f = b))))) G L) : OpC K (rInP K) (.d (.tup [.int a, .int b])) (.d (.tup [.tup [.int c, .int d], .tup [.int e, .int f]])) Δ G L Qd := fun w ls σ H vx vy c0 rx ry Q q => by
  have h1 : Dp K H vx (pairP a b) := rep_dp (py_pair a b) rx
  have h2 : Dp K H vy (.tuple [pairP c d, pairP e f]) := rep_dp (d := .tup [pairD c d, pairD e f]) rfl ry
  have hs : ∀ x y, (pairP x y).canLay0 = true ∧ (pairP x y).depth ≤ 32 := fun x y => ⟨rfl, by
    unfold pairP
    rw [PyData.depth, PyData.depthAll, PyData.depthAll, PyData.depthAll, PyData.depth, PyData.depth]
    decide⟩
  refine ⟨pairP a b, [pairP c d, pairP e f], h1, h2, (hs a b).1, (hs a b).2, rfl, ?_⟩
  have e1 : ([pairP c d, pairP e f].any fun z => PyData.eqv z (pairP a b)) = decide ((c = a ∧ d = b) ∨ (e = a ∧ f = b)) := by
    rw [List.any_cons, List.any_cons, List.any_nil, Bool.or_false, show PyData.eqv (pairP c d) (pairP a b) = _ from eqv_pair c d a b, show PyData.eqv (pairP e f) (pairP a b) = _ from eqv_pair e f a b, ← Bool.decide_or]
  rw [e1]
  exact q.go c0 Ext.refl (s := .d (.bl _)) rfl k
/-- whole numbers, and None -/
def oD : Option Int → D
  | none => .non
  | some i => .int i
def oV : Option Int → V
  | none => .non
  | some i => .int i
theorem RepL.optsV {H : Hp} {R : Addr → Prop} : ∀ {os : List (Option Int)} {vs : List V}, RepL K H R (os.map oD) vs → vs = os.map oV
  | [], _, h => h
  | none :: os, _, ⟨y, ys, e, h, r⟩ => by
    subst e
    obtain rfl : y = V.non := h
    rw [RepL.optsV r]
    rfl
  | some i :: os, _, ⟨y, ys, e, h, r⟩ => by
    subst e
    obtain rfl : y = V.int i := h
    rw [RepL.optsV r]
    rfl
theorem inV_opts : ∀ os : List (Option Int), inV .non (os.map oV) = decide (none ∈ os)
  | [] => rfl
  | none :: os => by
    show (true || inV .non (os.map oV)) = _
    simp
  | some i :: os => by
    show (false || inV .non (os.map oV)) = _
    rw [inV_opts os]
    simp
theorem flat_opts (os : List (Option Int)) : (os.map oV).all flatV = true := by
  rw [List.all_map]
  exact List.all_eq_true.mpr fun o _ => by cases o <;> rfl
theorem u_in_non {y : S} (h : ∃ os : List (Option Int), seqG G L y = some (os.map oD) ∧ Qd (.d (.bl (decide (none ∈ os)))) G L) : OpC K (uIn K false) (.d .non) y Δ G L Qd := fun w ls σ H vx vy c rx ry Q q => by
  obtain ⟨os, hy, k⟩ := h
  obtain rfl : vx = V.non := rx
  obtain ⟨a, xs, rfl, h1, q1⟩ := seqG_get c ry hy
  have e := RepL.optsV q1
  subst e
  refine .inl ⟨a, _, rfl, h1, rfl, flat_opts os, ?_⟩
  rw [if_neg Bool.false_ne_true, inV_opts]
  exact q.go c Ext.refl (s := .d (.bl _)) rfl k
/-- an own list is lengthened -/
theorem mt_ext_lX {k : Nat} {s : S} (h : ∃ ds es, L[k]? = some (.pl ds) ∧ s = .d (.lst es) ∧ ds.length + es.length ≤ sizeLine ∧ Qd (.d .non) G (L.set k (.pl (ds ++ es)))) : MtC K rExtend (.l k) [s] Δ G L Qd := fun w ls σ H vo vs c ro rs Q ret => by
  obtain ⟨ds, es, h, rfl, hl, q⟩ := h
  obtain ⟨v, rfl, b2, zs, rfl, ⟨h2, n2⟩, r2⟩ := pair1 rs
  obtain ⟨a, ha, rfl⟩ := ro
  obtain ⟨b, hb, us, h1, r1⟩ := paired_get c.lo h
  rw [ha] at hb
  cases hb
  have g : Grow H (upd H a (.lst (us ++ zs))) (Rg w ls) (Rg w ls) := grow_upd (.inr (List.mem_of_getElem? ha))
  exact ⟨a, b2, us, zs, rfl, rfl, h1, h2, by rw [r1.length, r2.length]; exact hl, ret.go (c.setL (m := .pl _) ha ⟨_, upd_same, (r1.app r2).grow g⟩) (Ext.setL (List.mem_of_getElem? ha)) (s := .d .non) rfl q⟩
end
end DL

namespace DL
open PySem PySem.Spec PyProof.Rows L2
/-! ### tuple * 0, * 1 -/
theorem mul_0 (l : Addr) (items : Array Value) (n : Nat) (dd : Option Addr) (sl : Array (Option Value)) (u : Tok) (c1 : items.isEmpty = false) :
    Meets (Builtin.«tuple.__mul__» ⟨[.ref l, .int 0 u], []⟩) (fun _ R s => s.heap.get? l = some { cls := .type "tuple", dict := dd, data := .seq items n, slots := sl } ∧
      R (.ok (.ret (Value.ref s.heap.objs.size))) { s with heap := s.heap.push { cls := Value.type "tuple", data := Data.seq #[] }, toks := s.toks }) :=
  .of_wp fun prog w A R s h => by
    obtain ⟨hp, g, d, tk, os⟩ := s
    obtain ⟨hl, h⟩ := h
    have f1 := AutoSeq1.idx_int
    have c2 : (items.isEmpty || (0 : Int) == 1) = false := by rw [c1]; rfl
    wp_walk using wpAny_loadPart' hl
    repeat (first
      | (refine wpAny_ite_false (decide_eq_false (by rw [c2]; exact Bool.false_ne_true)) ?_; wp_walk using wpAny_loadPart' hl)
      | (refine wpAny_ite_true (by rfl) ?_; wp_walk using wpAny_loadPart' hl))
    exact ⟨_, rfl, h⟩
theorem mul_1 (l : Addr) (items : Array Value) (n : Nat) (dd : Option Addr) (sl : Array (Option Value)) (u : Tok) (c1 : items.isEmpty = false) :
    Meets (Builtin.«tuple.__mul__» ⟨[.ref l, .int 1 u], []⟩) (fun _ R s => s.heap.get? l = some { cls := .type "tuple", dict := dd, data := .seq items n, slots := sl } ∧
      R (.ok (.ret (Value.ref l))) s) :=
  .of_wp fun prog w A R s h => by
    obtain ⟨hp, g, d, tk, os⟩ := s
    obtain ⟨hl, h⟩ := h
    have f1 := AutoSeq1.idx_int
    have c2 : (items.isEmpty || (1 : Int) == 1) = true := by rw [c1]; rfl
    wp_walk using wpAny_loadPart' hl
    exact ⟨_, rfl, h⟩
def rRepU (K : PySem.W.Frag) : R2 := fun x y H Q => ∃ l k xs, x = .ref l ∧ y = .int k ∧ SqT K H l xs ∧ xs ≠ [] ∧ 0 ≤ k ∧ k ≤ 1000 ∧ xs.length ≤ 1000 ∧ (k = 1 → Q (.ref l) H) ∧ ∀ p, H p = none → Q (.ref p) (upd H p (.tup (List.replicate k.toNat xs).flatten))
section
variable {X : Cx}
theorem op_repU : OpR X (binaryOp .Mult) (rRepU X.K) := by
  intro pins s σ H x y v u Q I rx ry h
  obtain ⟨l, k, xs, rfl, rfl, hT, hne, h1, h2, hz, q1, q⟩ := h
  by_cases k2 : 2 ≤ k
  · exact op_repT pins s σ H _ _ v u Q I rx ry ⟨l, k, xs, rfl, rfl, hT, hne, k2, h2, hz, q⟩
  cases rx
  obtain ⟨t, rfl⟩ := ry
  obtain ⟨its, r, ⟨⟨cls, dd, data, sl⟩, ho, hc, n, hd⟩, hs⟩ := I.tuple hT
  simp only at hc hd
  subst hc hd
  have hn : its ≠ [] := fun e => hne (by
    have hle := r.length
    rw [e] at hle
    exact List.eq_nil_of_length_eq_zero hle)
  have hi : its.toArray.isEmpty = false := by
    cases its with
    | nil => exact absurd rfl hn
    | cons a b => rfl
  have hk : k = 0 ∨ k = 1 := by omega
  rcases hk with rfl | rfl
  · refine wpAny_binaryOp_repeat_ref (T := "tuple") (U := "int") (by decide) ⟨_, ho, rfl⟩ (fun s' => typeIs_int s' 0 t) noFill_tuple_mul F.fills_int_mul F.slot_int_rmul repeat_tuple F.slot_int_index.lookup
      (call_meets F.slot_int_rmul (typeIs_int s 0 t) F.entry_int_rmul (F.args_int_rmul_2 _ _) (int_rmul_tuple 0 t l its.toArray n dd sl)
        ⟨ho, rfl, ⟨_, ho, rfl⟩, call_meets F.slot_tuple_mul ⟨_, ho, rfl⟩ F.entry_tuple_mul (F.args_tuple_mul_2 _ _) (mul_0 l its.toArray n dd sl t hi) ⟨ho, ?_⟩⟩)
    refine ⟨.ref s.heap.objs.size, _, I.laid (t' := s.toks) (o := .tup (List.replicate (0 : Int).toNat xs).flatten) (fun b ob q => Heap.get?_push_of_some _ q) (Nat.le_refl _) ?_, rfl, q _ (I.hok.fresh (Nat.le_refl _))⟩
    exact ⟨Nat.zero_le _, [], .nil, IsTup.new _ _⟩
  · refine wpAny_binaryOp_repeat_ref (T := "tuple") (U := "int") (by decide) ⟨_, ho, rfl⟩ (fun s' => typeIs_int s' 1 t) noFill_tuple_mul F.fills_int_mul F.slot_int_rmul repeat_tuple F.slot_int_index.lookup
      (call_meets F.slot_int_rmul (typeIs_int s 1 t) F.entry_int_rmul (F.args_int_rmul_2 _ _) (int_rmul_tuple 1 t l its.toArray n dd sl)
        ⟨ho, rfl, ⟨_, ho, rfl⟩, call_meets F.slot_tuple_mul ⟨_, ho, rfl⟩ F.entry_tuple_mul (F.args_tuple_mul_2 _ _) (mul_1 l its.toArray n dd sl t hi) ⟨ho, ?_⟩⟩)
    exact ⟨.ref l, H, I, rfl, q1 rfl⟩
end
section
variable {K : PySem.W.Frag} {Δ : Sl} {G L : List M} {Qd : Po}
theorem u_repU {xs : List D} {j : Int} (h : (0 ≤ j ∧ j ≤ 1000) ∧ xs ≠ [] ∧ xs.length ≤ 1000) (k : Qd (.d (.tup (List.replicate j.toNat xs).flatten)) G L) : OpC K (rRepU K) (.d (.tup xs)) (.d (.int j)) Δ G L Qd := fun w ls σ H vx vy c rx ry Q q => by
  obtain ⟨a, vs, rfl, h1, r1⟩ := rx
  obtain rfl : vy = V.int j := ry
  have hl := r1.length
  have hne : vs ≠ [] := fun z => h.2.1 (List.eq_nil_of_length_eq_zero (by rw [← hl, z]; rfl))
  refine ⟨a, j, vs, rfl, rfl, h1.sq, hne, h.1.1, h.1.2, by rw [hl]; exact h.2.2, fun e => ?_, fun p hp => ?_⟩
  · have e2 : (List.replicate j.toNat xs).flatten = xs := by
      rw [e]
      show [xs].flatten = xs
      simp
    rw [e2] at k
    exact q.go c Ext.refl (s := .d (.tup xs)) ⟨a, vs, rfl, h1, r1⟩ k
  · exact q.go (c.new hp) (Ext.new hp) (s := .d (.tup _)) (rep_tup c hp (repl_flat r1 _)) k
/-- None or a number, compared with a number -/
theorem u_eq_oi {o : Option Int} {e : Int} (k : Qd (.d (.bl (decide (o = some e)))) G L) : OpC K (uEq K) (.d (oD o)) (.d (.int e)) Δ G L Qd := fun w ls σ H vx vy c rx ry Q q => by
  obtain rfl : vy = V.int e := ry
  cases o with
  | none =>
    obtain rfl : vx = V.non := rx
    refine .inl ⟨rfl, ?_⟩
    have e1 : decide (V.non = V.int e) = decide ((none : Option Int) = some e) := by simp
    rw [e1]
    exact q.go c Ext.refl (s := .d (.bl _)) rfl k
  | some i =>
    obtain rfl : vx = V.int i := rx
    refine .inl ⟨rfl, ?_⟩
    have e1 : decide (V.int i = V.int e) = decide (some i = some e) := by simp
    rw [e1]
    exact q.go c Ext.refl (s := .d (.bl _)) rfl k
theorem isN_o {o : Option Int} (k : Qd (.d (.bl o.isNone)) G L) : OpC K (fun x y H Q => y = .non ∧ Q (.bl (decide (x = .non))) H) (.d (oD o)) (.d .non) Δ G L Qd := fun w ls σ H vx vy c rx ry Q q => by
  obtain rfl : vy = V.non := ry
  cases o with
  | none =>
    obtain rfl : vx = V.non := rx
    exact ⟨rfl, q.go c Ext.refl (s := .d (.bl _)) rfl (by simpa using k)⟩
  | some i =>
    obtain rfl : vx = V.int i := rx
    refine ⟨rfl, ?_⟩
    rw [decide_eq_false (by simp)]
    exact q.go c Ext.refl (s := .d (.bl false)) rfl k
theorem notN_o {o : Option Int} (k : Qd (.d (.bl o.isSome)) G L) : OpC K (fun x y H Q => y = .non ∧ Q (.bl (!decide (x = .non))) H) (.d (oD o)) (.d .non) Δ G L Qd := fun w ls σ H vx vy c rx ry Q q => by
  obtain rfl : vy = V.non := ry
  cases o with
  | none =>
    obtain rfl : vx = V.non := rx
    refine ⟨rfl, ?_⟩
    rw [decide_eq_true rfl]
    exact q.go c Ext.refl (s := .d (.bl false)) rfl k
  | some i =>
    obtain rfl : vx = V.int i := rx
    refine ⟨rfl, ?_⟩
    rw [decide_eq_false (by simp)]
    exact q.go c Ext.refl (s := .d (.bl true)) rfl k
/-- equal data of one make -/
theorem u_eq_same {x y : S} {a : D} (hx : valG G L x = some a) (hy : valG G L y = some a) (h : ∃ k, k ≤ 63 ∧ Eqb1 k a) (k : Qd (.d (.bl true)) G L) : OpC K (uEq K) x y Δ G L Qd := by
  obtain ⟨n, hn, p, hp, hc, hd⟩ := h
  have sh : SeqAt.shaped p = true := by
    unfold SeqAt.shaped
    rw [hc, decide_eq_true (by omega)]
    rfl
  refine u_eq_d hx hy hp hp sh sh ?_
  rw [SeqAt.eqv_refl p hc]
  exact k
end
end DL

/-! enumerate(a tuple) -/
namespace DEt
open PySem PySem.Spec PyProof.Rows L2
open PySem.Sem (wp)
section
variable {prog : Program} {w : World} {A : Around} {E : Value → Shared → Prop} {s : Shared}
theorem next_item {e it l : Addr} {i : Nat} {items : Array Value} {x old : Value} {Q : Value → Shared → Prop}
    (he : IsEnum s.heap e it i old) (hit : s.heap.IsTupleIter it l i) (hl : s.heap.IsTuple l items) (hx : items[i]? = some x) (hne : e ≠ it)
    (hQ : ∀ h', IsEnumOut h' e it ((i : Int) + 1) x s.heap.objs.size → h'.IsTupleIter it l (i + 1) →
      h'.get? s.heap.objs.size = some { cls := .type "tuple", data := .seq #[.int i s.toks, x] } → h'.objs.size = s.heap.objs.size + 1 →
      (∀ b o, b ≠ e → b ≠ it → s.heap.get? b = some o → h'.get? b = some o) → Q (.ref s.heap.objs.size) { s with heap := h', toks := s.toks + 1 }) :
    wpAny (model prog w) A (Builtin.«enumerate.__next__» ⟨[.ref e], []⟩) (fun fin s' => ∃ v, fin = .done (.ret v) ∧ Q v s') E s := by
  obtain ⟨hp, g, d, tk, os⟩ := s
  show wpAny _ _ (field (.ref e) 2 >>= _) _ _ _
  refine wpAny_bind (wpAny_field he rfl (x := .ref it) rfl ?_)
  refine wpAny_bind (RZ.nextOf_tuple_item hit hl hx fun h₁ hit₁ hs₁ => ?_)
  replace hs₁ : Heap.SameBut it hp h₁ := hs₁
  have he₁ : IsEnum h₁ e it i old := (hs₁.2 e hne).trans he
  show wpAny _ _ (field (.ref e) 3 >>= _) _ _ ⟨h₁, g, d, tk, os⟩
  refine wpAny_bind (wpAny_field he₁ rfl (x := rawInt i) rfl ?_)
  show wpAny _ _ (field (.ref e) 4 >>= _) _ _ ⟨h₁, g, d, tk, os⟩
  refine wpAny_bind (wpAny_field he₁ rfl (x := .none) rfl ?_)
  show wpAny _ _ (mkInt i >>= _) _ _ ⟨h₁, g, d, tk, os⟩
  refine wpAny_bind (wpAny_mkInt ?_)
  show wpAny _ _ (setField (.ref e) 3 (rawInt ((i : Int) + 1)) >>= _) _ _ ⟨h₁, g, d, tk + 1, os⟩
  refine wpAny_bind (wpAny_setField_rec he₁ (by simp) fun h₂ he₂ hs₂ => ?_)
  replace hs₂ : Heap.SameBut e h₁ h₂ := hs₂
  replace he₂ : IsEnum h₂ e it ((i : Int) + 1) old := he₂
  show wpAny _ _ (setField (.ref e) 4 .none >>= _) _ _ ⟨h₂, g, d, tk + 1, os⟩
  refine wpAny_bind (wpAny_setField_rec he₂ (by simp) fun h₃ he₃ hs₃ => ?_)
  replace hs₃ : Heap.SameBut e h₂ h₃ := hs₃
  replace he₃ : IsEnum h₃ e it ((i : Int) + 1) old := he₃
  show wpAny _ _ (newTuple [.int i tk, x] >>= _) _ _ ⟨h₃, g, d, tk + 1, os⟩
  refine wpAny_bind (wpAny_newTuple ?_)
  have he₄ : IsEnum (h₃.push { cls := .type "tuple", data := .seq #[.int i tk, x] }) e it ((i : Int) + 1) old := Heap.get?_push_of_some _ he₃
  generalize hh₄ : h₃.push { cls := .type "tuple", data := .seq #[.int i tk, x] } = h₄ at he₄
  have hsz : h₃.objs.size = hp.objs.size := by rw [hs₃.1, hs₂.1, hs₁.1]
  have hel : e < hp.objs.size := Heap.lt_size he
  have ht₄ : h₄.get? hp.objs.size = some { cls := .type "tuple", data := .seq #[.int i tk, x] } := by rw [← hh₄, ← hsz]; exact Heap.get?_push_size _ rfl
  have hz₄ : h₄.objs.size = hp.objs.size + 1 := by rw [← hh₄, Heap.size_push, hsz]
  have hk₄ : ∀ b o, b ≠ e → b ≠ it → hp.get? b = some o → h₄.get? b = some o := fun b o hbe hbi hb => by
    rw [← hh₄]; exact Heap.get?_push_of_some _ (hs₃.extBut b o hbe (hs₂.extBut b o hbe (hs₁.extBut b o hbi hb)))
  have hit₄ : h₄.IsTupleIter it l (i + 1) := by
    rw [← hh₄]; obtain ⟨o, ho, r⟩ := (hit₁.extBut hs₂.extBut (Ne.symm hne)).extBut hs₃.extBut (Ne.symm hne); exact ⟨o, Heap.get?_push_of_some _ ho, r⟩
  show wpAny _ _ (Builtin.SmallTypes.ownedTupleIsFree (.ref e) >>= _) _ _ ⟨h₄, g, d, tk + 1, os⟩
  rw [hsz]
  clear hh₄ he₃ hs₃ he₂ hs₂ he₁ hs₁ hit₁ hsz h₃ h₂ h₁
  refine wpAny_bind ?_
  · unfold Builtin.SmallTypes.ownedTupleIsFree
    refine wpAny_bind (wpAny_field he₄ rfl (x := .none) rfl (wpAny_pure ?_))
    simp only [if_true]
    refine wpAny_bind (wpAny_rule ?_)
    refine wpAny_bind (wpAny_field he₄ rfl (x := old) rfl ?_)
    refine wpAny_bind (wpAny_setField_rec he₄ (by simp) fun h₅ he₅ hs₅ => ?_)
    replace hs₅ : Heap.SameBut e h₄ h₅ := hs₅
    replace he₅ : IsEnum h₅ e it ((i : Int) + 1) x := he₅
    show wpAny _ _ (Builtin.SmallTypes.ownedTupleHandOut (.ref e) (.ref hp.objs.size) >>= _) _ _ ⟨h₅, g, d, tk + 1, os⟩
    refine wpAny_bind ?_
    · unfold Builtin.SmallTypes.ownedTupleHandOut
      refine wpAny_bind (wpAny_setField_rec he₅ (by simp) fun h₆ he₆ hs₆ => ?_)
      replace hs₆ : Heap.SameBut e h₅ h₆ := hs₆
      replace he₆ : IsEnumOut h₆ e it ((i : Int) + 1) x hp.objs.size := he₆
      refine wpAny_setField_rec he₆ (by simp) fun h₇ he₇ hs₇ => ?_
      replace hs₇ : Heap.SameBut e h₆ h₇ := hs₇
      replace he₇ : IsEnumOut h₇ e it ((i : Int) + 1) x hp.objs.size := he₇
      refine wpAny_bind (wpAny_letGo (wpAny_pure ⟨_, rfl, hQ h₇ he₇ ?_ ?_ ?_ ?_⟩))
      · exact ((hit₄.extBut hs₅.extBut (Ne.symm hne)).extBut hs₆.extBut (Ne.symm hne)).extBut hs₇.extBut (Ne.symm hne)
      · exact hs₇.extBut _ _ (Nat.ne_of_gt hel) (hs₆.extBut _ _ (Nat.ne_of_gt hel) (hs₅.extBut _ _ (Nat.ne_of_gt hel) ht₄))
      · rw [hs₇.1, hs₆.1, hs₅.1, hz₄]
      · exact fun b o hbe hbi hb => hs₇.extBut b o hbe (hs₆.extBut b o hbe (hs₅.extBut b o hbe (hk₄ b o hbe hbi hb)))
theorem pyNext_item {e it l : Addr} {i : Nat} {items : Array Value} {x old : Value} {Q : Option Value → Shared → Prop}
    (he : IsEnum s.heap e it i old) (hit : s.heap.IsTupleIter it l i) (hl : s.heap.IsTuple l items) (hx : items[i]? = some x) (hne : e ≠ it)
    (hQ : ∀ h', IsEnumOut h' e it ((i : Int) + 1) x s.heap.objs.size → h'.IsTupleIter it l (i + 1) →
      h'.get? s.heap.objs.size = some { cls := .type "tuple", data := .seq #[.int i s.toks, x] } → h'.objs.size = s.heap.objs.size + 1 →
      (∀ b o, b ≠ e → b ≠ it → s.heap.get? b = some o → h'.get? b = some o) → Q (some (.ref s.heap.objs.size)) { s with heap := h', toks := s.toks + 1 }) :
    wpAny (model prog w) A (pyNext (.ref e)) Q E s := by
  have hT : s.TypeIs (.ref e) "enumerate" := ⟨_, he, rfl⟩
  unfold pyNext
  exact wpAny_bind (wpAny_attempt (wpAny_callSpecial?_slot (name := Str.ofString "__next__") hT F.slot_enumerate_next
    (wpAny_call_entry F.slot_enumerate_next hT F.entry_enumerate_next
      (next_item he hit hl hx hne fun h' a b c d k => wpAny_pure (hQ h' a b c d k)) (F.args_enumerate_next_1 _))))
theorem pyNext_end {e it l : Addr} {i : Nat} {items : Array Value} {old : Value} {Q : Option Value → Shared → Prop} (hh : A.handled = none)
    (he : IsEnum s.heap e it i old) (hit : s.heap.IsTupleIter it l i) (hl : s.heap.IsTuple l items) (hx : items[i]? = none)
    (hQ : ∀ h', Heap.ExtBut it s.heap h' → Q none { s with heap := h' }) : wpAny (model prog w) A (pyNext (.ref e)) Q E s := by
  have hT : s.TypeIs (.ref e) "enumerate" := ⟨_, he, rfl⟩
  unfold pyNext
  refine wpAny_bind (wpAny_attempt (wpAny_callSpecial?_slot (name := Str.ofString "__next__") hT F.slot_enumerate_next
    (wpAny_call_entry F.slot_enumerate_next hT F.entry_enumerate_next ?_ (F.args_enumerate_next_1 _))))
  show wpAny _ _ (field (.ref e) 2 >>= _) _ _ _
  refine wpAny_bind (wpAny_field he rfl (x := .ref it) rfl ?_)
  refine wpAny_bind (RZ.nextOf_tuple_end hh hit hl hx fun h' x he' hx' => ?_)
  obtain ⟨o, ho, hc⟩ := hx'
  refine wpAny_bind (wpAny_isInstance (T := "StopIteration") (b := true) ⟨o, ho, hc⟩ isSubtype_stop ?_)
  exact wpAny_pure (hQ _ he')
end
theorem meets_new (l : Addr) (items : Array Value) :
    Meets (Builtin.«enumerate.__new__» ⟨[.type "enumerate", .ref l], []⟩) (fun _ R s => s.heap.IsTuple l items ∧
      R (.ok (.ret (.ref (s.heap.push { cls := .type "tuple_iterator", data := .fields #[.ref l, .int 0 0] }).objs.size)))
        { s with heap := (s.heap.push { cls := .type "tuple_iterator", data := .fields #[.ref l, .int 0 0] }).push { cls := .type "enumerate", data := .fields #[.none, .bool false, .ref s.heap.objs.size, rawInt 0, .none, .none] } }) :=
  .of_wp fun prog w A R s h => by
    obtain ⟨hp, g, d, tk, os⟩ := s; obtain ⟨hl, h⟩ := h
    have hsub := sub_enumerate
    have hL : Heap.IsTuple (Shared.heap ⟨hp, g, d, tk, os⟩) l items := hl
    wp_walk using wpAny_pyIter_tuple hL
    refine wpAny_stack_any fun st => wpAny_pure ?_
    split
    · rename_i c _ _ _ _ _
      cases (c == Value.type "enumerate")
      · wp_walk using wpAny_pyIter_tuple hL
        exact ⟨_, rfl, h⟩
      · wp_walk using wpAny_pyIter_tuple hL
        exact ⟨_, rfl, h⟩
    · wp_walk using wpAny_pyIter_tuple hL
      exact ⟨_, rfl, h⟩
section
variable {prog : Program} {w : World} {A : Around} {E : Value → Shared → Prop} {s : Shared}
theorem call_enumT {l : Addr} {items : Array Value} {Q : Value → Shared → Prop} (hl : s.heap.IsTuple l items)
    (h : ∀ h', IsEnum h' (s.heap.objs.size + 1) s.heap.objs.size 0 .none → h'.IsTupleIter s.heap.objs.size l 0 → h'.objs.size = s.heap.objs.size + 2 →
      (∀ b o, s.heap.get? b = some o → h'.get? b = some o) → Q (.ref (s.heap.objs.size + 1)) { s with heap := h' }) :
    wpAny (model prog w) A (call (.type "enumerate") [.ref l]) Q E s := by
  refine callType_new F.called_enumerate (by decide) (F.typeCall_enumerate_1 _) (F.newCall_enumerate_1 _) (fun obj => F.args_object_init_2 obj _) F.entry_enumerate_new (meets_new l items) ⟨hl, ?_⟩
  have hz : (s.heap.push { cls := .type "tuple_iterator", data := .fields #[.ref l, .int 0 0] }).objs.size = s.heap.objs.size + 1 := Heap.size_push ..
  show _ ∧ _
  rw [hz]
  have he : IsEnum ((s.heap.push { cls := .type "tuple_iterator", data := .fields #[.ref l, .int 0 0] }).push { cls := .type "enumerate", data := .fields #[.none, .bool false, .ref s.heap.objs.size, rawInt 0, .none, .none] }) (s.heap.objs.size + 1) s.heap.objs.size 0 .none := by
    have := Heap.get?_push_size (s.heap.push { cls := .type "tuple_iterator", data := .fields #[.ref l, .int 0 0] }) (o := { cls := .type "enumerate", data := .fields #[.none, .bool false, .ref s.heap.objs.size, rawInt 0, .none, .none] }) rfl
    rw [hz] at this
    exact this
  exact ⟨⟨_, he, rfl⟩, h _ he ⟨_, Heap.get?_push_of_some _ (Heap.get?_push_size _ rfl), rfl, rfl⟩ (by rw [Heap.size_push, hz]) fun b o x => Heap.get?_push_of_some _ (Heap.get?_push_of_some _ x)⟩
end
def IteT (K : PySem.W.Frag) (a : Addr) : It :=
  ⟨fun i H => ∃ (xs : List V) (x : V), SqT K H a xs ∧ xs[i]? = some x, fun i H v H' => ∃ T x, v = .ref T ∧ H T = none ∧ H' = upd H T (.tup [.int (i : Nat), x]) ∧ ∀ xs, SqT K H a xs → xs[i]? = some x, fun i H => ∃ xs : List V, SqT K H a xs ∧ xs.length ≤ i⟩
theorem turn_enumT {P : Program} {w : World} {K : PySem.W.Frag} {elts : List Expr} {kk : Nat} {tpos : Pos} (a e it : Addr) :
    Turn P w K (.Tuple elts kk tpos) (IteT K a) [e, it] e (fun i h => (∃ old, IsEnum h e it ((i : Nat) : Int) old) ∧ h.IsTupleIter it a i ∧ e ≠ it) where
  mem := by simp
  obj := fun i h st b hb => by
    obtain ⟨⟨old, he⟩, ⟨o, ho, hc, hd⟩, _⟩ := st
    have e' : b = e ∨ b = it := by simpa using hb
    rcases e' with z | z
    · rw [z]; exact ⟨_, he, fun v q => nomatch q⟩
    · rw [z]; exact ⟨o, ho, fun v q => by rw [hd] at q; cases q⟩
  keep := fun i h h' st k => let ⟨⟨old, he⟩, hi, hne⟩ := st; ⟨⟨old, k e (by simp) _ he⟩, hi.at fun o q => k it (by simp) o q, hne⟩
  item := by
    intro X hP hw hK hc i pins s σ H E I hf st hg
    subst hP hw hK
    obtain ⟨⟨old, he⟩, hit, hne⟩ := st
    obtain ⟨xs, x, hq, hx⟩ := hg
    obtain ⟨its, rv, p, hz⟩ := I.tuple hq
    obtain ⟨u, hu, ru⟩ := rv.get hx
    have hel : e < s.heap.objs.size := Heap.lt_size he
    have hil : it < s.heap.objs.size := by obtain ⟨_, q, _⟩ := hit; exact Heap.lt_size q
    refine pyNext_item he hit p (x := u) (by simpa using hu) hne fun h' ho hit' hT hsz hk => ?_
    refine ⟨_, rfl, wpAny_letOwnedTupleGo_enum (s := { s with heap := h', toks := s.toks + 1 }) ho fun h'' he' sb => ?_⟩
    have hT2 : h''.get? s.heap.objs.size = some { cls := .type "tuple", data := .seq #[.int i s.toks, u] } := (sb.2 _ (Nat.ne_of_gt hel)).trans hT
    have new : ObjOk X.prog X.w (upd H s.heap.objs.size (.tup [.int (i : Nat), x])) h'' s.heap.objs.size (.tup [.int (i : Nat), x]) :=
      ⟨by show 2 ≤ sizeLine; decide, [.int i s.toks, u], .cons ⟨_, rfl⟩ (.cons ru .nil), ⟨_, hT2, rfl, _, rfl⟩⟩
    have I1 : Inv X pins σ (upd H s.heap.objs.size (.tup [.int (i : Nat), x])) { s with heap := h'', toks := s.toks + 1 } :=
      I.turnedNew (ch := [e, it]) (fun b ob hb q => (sb.2 b (fun z => hb (by simp [z]))).trans (hk b ob (fun z => hb (by simp [z])) (fun z => hb (by simp [z])) q)) hf (Nat.le_refl _) new
    refine ⟨.ref s.heap.objs.size, _, I1, rfl, ⟨_, x, rfl, I.hok.fresh (Nat.le_refl _), rfl, fun ys hy => by rw [I.tuple_inj hy hq]; exact hx⟩, ⟨⟨u, ?_⟩, hit'.at fun o q => (sb.2 it (Ne.symm hne)).trans q, hne⟩, fun b hb => ?_⟩
    · have e1 : ((i + 1 : Nat) : Int) = (i : Int) + 1 := by omega
      rw [e1]; exact he'
    · have hb' : b < s.heap.objs.size := by
        have e' : b = e ∨ b = it := by simpa using hb
        rcases e' with z | z
        · rw [z]; exact hel
        · rw [z]; exact hil
      rw [upd_ne (Nat.ne_of_lt hb')]
      exact (hf b hb).1
  done := by
    intro X hP hw hK hc i pins s σ H E I hf st hg
    subst hP hw hK
    obtain ⟨⟨old, he⟩, hit, hne⟩ := st
    obtain ⟨xs, hq, hx⟩ := hg
    obtain ⟨its, rv, p, hz⟩ := I.tuple hq
    obtain ⟨f0, f1, f2, f3, f4, f5⟩ := hf it (by simp)
    have hl := rv.length
    exact pyNext_end (I.ok.hd hc) he hit p (by simp; omega) fun h' eb => ⟨rfl, I.turned (t' := s.toks) (fun b o hb q => eb b o hb q) f0 f1 f3 f4 f5⟩
  self := fun A i s Q E st h => let ⟨⟨_, he⟩, _⟩ := st; wpAny_pyIter_enum he h
def iEnumT (K : PySem.W.Frag) (ta : TA) : TI := fun σ H R => ta σ H fun vs H1 => ∃ a xs, vs = [.ref a] ∧ SqT K H1 a xs ∧ R (IteT K a) H1
theorem pi_enumT {X : Cx} {e : Expr} {ta : TA} {p pos tpos : Pos} {elts : List Expr} {kk : Nat} (hg : Gl X "enumerate") (hm : X.mg "enumerate" = none) (ha : PA X [e] ta) (hs : starEach [e] X.env = [(false, eval e X.env)] := by rfl) :
    PI X (.Tuple elts kk tpos) (.Call (.Name "enumerate" p) [e] [] pos) (iEnumT X.K ta) := by
  refine ⟨fun pins s σ H R I h => ?_⟩
  refine Call_ (ld_blt I hg hm boot_enumerate (PyProof.Rows.callWith_type1 (thn (ha.run pos pins s σ H _ I h) fun us s1 ⟨vs, H1, I1, r1, q1⟩ => ?_) hs rfl))
  obtain ⟨a, xs, ex, hq, q⟩ := q1
  subst ex
  cases r1 with
  | cons r rr =>
    cases rr
    cases r
    obtain ⟨its, rv, p', hz⟩ := I1.tuple hq
    refine call_enumT (show s1.heap.IsTuple a its.toArray from p') fun h' he hit hsz hk => wpAny_pyIter_enum he ?_
    have I2 : Inv X pins σ H1 { s1 with heap := h' } := I1.kept (t' := s1.toks) hk
    refine ⟨s1.heap.objs.size + 1, [s1.heap.objs.size + 1, s1.heap.objs.size], _, _, H1, rfl, I2, turn_enumT a (s1.heap.objs.size + 1) s1.heap.objs.size, ⟨⟨.none, he⟩, hit, Nat.succ_ne_self _⟩, fun b hb => ?_, q⟩
    have e' : b = s1.heap.objs.size + 1 ∨ b = s1.heap.objs.size := by simpa using hb
    have hle : s1.heap.objs.size ≤ b := by
      rcases e' with z | z
      · rw [z]; exact Nat.le_add_right _ _
      · rw [z]; exact Nat.le_refl _
    exact I1.fpOk hle (I1.hok.fresh hle)
end DEt
namespace DL
open PySem PySem.Spec PyProof.Rows L2
theorem evi_enumT {K : PySem.W.Frag} {Δ : Sl} {G L : List M} {ta : TA} {Qi : List D → List M → List M → Prop} (h : EvA K ta Δ G L fun ss G1 L1 => ∃ ds, ss = [.d (.tup ds)] ∧ Qi (enumD 0 ds) G1 L1) : EvI K (DEt.iEnumT K ta) Δ G L Qi := fun w ls σ H c R q =>
  h w ls σ H c _ fun us ss H2 G2 L2 c2 e2 r2 ⟨ds, e, k⟩ => by
    subst e
    obtain ⟨v, rfl, rv⟩ := pair1 r2
    obtain ⟨a, xs, rfl, h1, q1⟩ := rv
    refine ⟨a, xs, rfl, h1.sq, q _ H2 _ G2 L2 c2 e2 ⟨fun H3 w2 ls2 σ2 Δ2 G3 L3 i d g c3 hi => ?_, fun H3 w2 ls2 g => ?_⟩ k⟩
    · obtain ⟨x, hx, rfl⟩ := enumD_get hi
      obtain ⟨y, hy, ry⟩ := (q1.grow g).get hx
      have h3 := (h1.grow g).sq
      refine ⟨⟨xs, y, h3, hy⟩, fun u H' ⟨T, z, eu, hT, hH, hz⟩ => ?_⟩
      subst hH
      subst eu
      have e := hz xs h3
      rw [hy] at e
      cases e
      rw [Nat.zero_add]
      exact ⟨c3.new hT, Ext.new hT, rep_tup c3 hT ⟨_, _, rfl, rfl, RepL.one ry⟩⟩
    · refine ⟨xs, (h1.grow g).sq, ?_⟩
      rw [enumD_len, q1.length]
      exact Nat.le_refl _
end DL

namespace DL
open PySem PySem.Spec PyProof.Rows L2
/-! ### a or b, a None or a number; [x] * int(b) -/
section
variable {K : PySem.W.Frag} {Δ : Sl} {G L : List M} {Qd : Po} {Qn : PoN} {ta tb : TE}
theorem evc_orTo (h : EvC K ta Δ G L fun s G1 L1 => ∃ o : Option Int, s = .d (oD o) ∧ ((o = none ∨ o = some 0) → EvC K tb Δ G1 L1 Qd) ∧ ∀ i, o = some i → Qd (.d (.int i)) G1 L1) : EvC K (tOrT K ta tb) Δ G L Qd := fun w ls σ H c Q q => h w ls σ H c _ fun v s H2 G2 L2 c2 e2 r2 ⟨o, e, k1, k2⟩ => by
  subst e
  cases o with
  | none =>
    obtain rfl : v = V.non := r2
    refine ⟨false, rfl, ?_⟩
    rw [if_neg Bool.false_ne_true]
    exact k1 (.inl rfl) w ls σ H2 c2 Q (q.ext e2)
  | some i =>
    obtain rfl : v = V.int i := r2
    by_cases hi : i = 0
    · refine ⟨false, by subst hi; first | trivial | rfl | decide, ?_⟩
      rw [if_neg Bool.false_ne_true]
      exact k1 (.inr (by rw [hi])) w ls σ H2 c2 Q (q.ext e2)
    · refine ⟨true, by first | exact hi | (show _ = _; simp [hi]), ?_⟩
      rw [if_pos rfl]
      exact q.go c2 e2 (s := .d (.int i)) rfl (k2 i rfl)
def optD (p : Prop) [Decidable p] (x : D) : List D := if p then [x] else []
theorem u_mul_if {p : Prop} [Decidable p] {x : D} (k : Qn (.pl (optD p x)) G L) : OpN K (uMulT K) (.d (.lst [x])) (.d (.int (if decide p = true then 1 else 0))) Δ G L Qn := by
  by_cases hp : p
  · rw [if_pos (decide_eq_true hp)]
    refine u_mulT_lX ⟨[x], rfl, ⟨by decide, by decide, le_line (Nat.le_of_ble_eq_true rfl)⟩, ?_⟩
    unfold optD at k
    rw [if_pos hp] at k
    exact k
  · rw [if_neg (by rw [decide_eq_false hp]; exact Bool.false_ne_true)]
    refine u_mulT_lX ⟨[x], rfl, ⟨by decide, by decide, le_line (Nat.le_of_ble_eq_true rfl)⟩, ?_⟩
    unfold optD at k
    rw [if_neg hp] at k
    exact k
end
end DL

namespace DL
open PySem PySem.Spec PyProof.Rows L2
/-! ### dicts whose keys are pairs of whole numbers, their values whole numbers -/
def gV (p : List Key × Int) : List Key × V := (p.1, V.int p.2)
def kP (a b : Int) : List Key := [.inl a, .inl b]
def getT (kvs : List (List Key × Int)) (k : List Key) : Option Int := (kvs.find? fun kv => decide (kv.1 = k)).map (·.2)
def putT (kvs : List (List Key × Int)) (k : List Key) (v : Int) : List (List Key × Int) := if (kvs.any fun kv => decide (kv.1 = k)) = true then kvs.map (fun kv => if kv.1 = k then (kv.1, v) else kv) else kvs ++ [(k, v)]
theorem val_gV {k : List Key} : ∀ kvs : List (List Key × Int), valV (kvs.map gV) k = (getT kvs k).map V.int
  | [] => rfl
  | p :: r => by
    have ih := val_gV (k := k) r
    by_cases e : p.1 = k
    · rw [List.map_cons, valV_pos (p := gV p) e]
      unfold getT
      rw [List.find?_cons, decide_eq_true e]
      rfl
    · rw [List.map_cons, valV_neg (p := gV p) e, ih]
      unfold getT
      rw [List.find?_cons, decide_eq_false e]
theorem put_gV {k : List Key} {v : Int} (kvs : List (List Key × Int)) : putK (kvs.map gV) k (V.int v) = (putT kvs k v).map gV := by
  unfold putK putT
  have e1 : ((kvs.map gV).any fun kv => decide (kv.1 = k)) = kvs.any fun kv => decide (kv.1 = k) := by
    rw [List.any_map]
    rfl
  rw [e1]
  by_cases h : (kvs.any fun kv => decide (kv.1 = k)) = true
  · rw [if_pos h, if_pos h, List.map_map, List.map_map]
    refine List.map_congr_left fun p _ => ?_
    show (if p.1 = k then (p.1, V.int v) else gV p) = gV (if p.1 = k then (p.1, v) else p)
    by_cases e : p.1 = k
    · rw [if_pos e, if_pos e]
      rfl
    · rw [if_neg e, if_neg e]
  · rw [if_neg h, if_neg h, List.map_append]
    rfl
theorem get_put (kvs : List (List Key × Int)) (k j : List Key) (v : Int) : getT (putT kvs k v) j = if j = k then some v else getT kvs j := by
  have h := valV_put (kvs.map gV) k j (V.int v)
  rw [put_gV, val_gV, val_gV] at h
  by_cases e : j = k
  · rw [if_pos e] at h ⊢
    cases hg : getT (putT kvs k v) j with
    | none =>
      rw [hg] at h
      cases h
    | some x =>
      rw [hg] at h
      have := Option.some.inj h
      cases this
      rfl
  · rw [if_neg e] at h ⊢
    cases hg : getT (putT kvs k v) j with
    | none =>
      rw [hg] at h
      cases hj : getT kvs j with
      | none => rfl
      | some y =>
        rw [hj] at h
        cases h
    | some x =>
      rw [hg] at h
      cases hj : getT kvs j with
      | none =>
        rw [hj] at h
        cases h
      | some y =>
        rw [hj] at h
        have := Option.some.inj h
        cases this
        rfl
theorem put_len (kvs : List (List Key × Int)) (k : List Key) (v : Int) : (putT kvs k v).length ≤ kvs.length + 1 := by
  unfold putT
  split
  · rw [List.length_map]
    omega
  · rw [List.length_append]
    exact Nat.le_refl _
theorem kP_inj {a b c d : Int} : kP a b = kP c d ↔ a = c ∧ b = d := by
  unfold kP
  constructor
  · intro h
    injection h with h1 h2
    injection h2 with h2 _
    exact ⟨Sum.inl.inj h1, Sum.inl.inj h2⟩
  · rintro ⟨rfl, rfl⟩
    rfl
section
variable {K : PySem.W.Frag} {Δ : Sl} {G L : List M} {Qd : Po} {Qn : PoN}
theorem evn_dnewT (k : Qn (.dt []) G L) : EvN K tDNewT Δ G L Qn := fun w ls σ H c Q r => fun p hp => by
  have g := newAt_of (m := M.dt []) (o := .dT []) c hp upd_same (fun x e => by cases e)
  exact r p _ _ _ _ hp g (Ext.new hp) k
def dtG (L : List M) : S → Option (List (List Key × Int))
  | .l k => match L[k]? with
    | some (.dt kvs) => some kvs
    | _ => none
  | _ => none
theorem dtG_l {k : Nat} {kvs : List (List Key × Int)} (h : L[k]? = some (.dt kvs)) : dtG L (.l k) = some kvs := by
  simp only [dtG, h]
theorem key_pair {H : Hp} {R : Addr → Prop} {a b : Int} {v : V} (r : Rep K H R (.tup [.int a, .int b]) v) : ∃ p, v = .ref p ∧ H p = some (.tup ((kP a b).map kV)) := by
  obtain ⟨p, xs, rfl, h, r⟩ := r
  have e := RepL.intsV (ns := [a, b]) r
  subst e
  exact ⟨p, rfl, h.1⟩
theorem u_dgetT {k : Nat} {a b : Int} (h : ∃ kvs, L[k]? = some (.dt kvs) ∧ ∃ v, getT kvs (kP a b) = some v ∧ Qd (.d (.int v)) G L) : OpC K rDGet (.l k) (.d (.tup [.int a, .int b])) Δ G L Qd := fun w ls σ H vx vy c rx ry Q q => by
  obtain ⟨kvs, hk, v, hv, kk⟩ := h
  obtain ⟨d, hd, rfl⟩ := rx
  obtain ⟨d2, hd2, m⟩ := paired_get c.lo hk
  rw [hd] at hd2
  cases hd2
  obtain ⟨p, rfl, hp⟩ := key_pair ry
  refine ⟨d, V.int v, rfl, ?_, q.go c Ext.refl (s := .d (.int v)) rfl kk⟩
  have g := DGet.t (H := H) (a := d) (kvs := kvs.map gV) (k := kP a b) m hp
  rw [val_gV, hv] at g
  exact g
theorem sto_dt {k : Nat} {a b v : Int} {Qt : List M → List M → Prop} (h : ∃ kvs, L[k]? = some (.dt kvs) ∧ kvs.length < 100000 ∧ Qt G (L.set k (.dt (putT kvs (kP a b) v)))) : StoC K rSetD (.l k) (.d (.tup [.int a, .int b])) (.d (.int v)) Δ G L Qt := fun w ls σ H vo vi vv c ro ri rv Q ret => by
  obtain ⟨kvs, hk, hl, q⟩ := h
  obtain ⟨d, hd, rfl⟩ := ro
  obtain ⟨d2, hd2, m⟩ := paired_get c.lo hk
  rw [hd] at hd2
  cases hd2
  obtain ⟨p, rfl, hp⟩ := key_pair ri
  obtain rfl : vv = V.int v := rv
  have pt := DPut.t (H := H) (a := d) (kvs := kvs.map gV) (k := kP a b) (v := V.int v) m hp (by rw [List.length_map]; exact lt_line (by omega))
  rw [put_gV] at pt
  exact ⟨d, _, rfl, pt, ret _ _ _ (c.setL (m := .dt _) hd upd_same) (Ext.setL (List.mem_of_getElem? hd)) q⟩
end
end DL

namespace DL
open PySem PySem.Spec PyProof.Rows L2
/-! ### max of a tuple of whole numbers -/
def rMaxT (K : PySem.W.Frag) : List V → Hp → VK → Prop := fun vs H Q => ∃ (a : Addr) (ns : List Int), vs = [V.ref a] ∧ SqT K H a (ns.map V.int) ∧ 0 < ns.length ∧ Q (.int (maxDf 0 ns)) H
theorem cr_maxT {X : Cx} (hc : X.calm = true) (hu : X.A.units + 64 < cLine) : CallR X (.builtin "max") (rMaxT X.K) := by
  intro pins s σ H vs us Q I r h
  obtain ⟨a, ns, rfl, hs, hne, q⟩ := h
  rw [Vals.ref1 r]
  obtain ⟨its, rv, hl, _⟩ := I.tuple hs
  cases ns with
  | nil => exact absurd hne (Nat.lt_irrefl 0)
  | cons n ms =>
    have hu2 : X.A.units + 1 + PyData.depthAll (PyData.int n :: ms.map PyData.int) < cLine := by
      have := depth_ints (n :: ms)
      rw [List.map_cons] at this
      omega
    refine PySem.W.max_tuple_data (I.ok.hd hc) hl (x := .int n) (xs := ms.map PyData.int) (as := []) (by simpa using reads_ints (ns := n :: ms) rv) (alikeAll_ints (n :: ms)) hu2 fun i v h' tk bs hv hr hk => ?_
    rw [PySem.W.maxD_ints] at hr
    cases hr with
    | int _ t => exact ⟨.int _, H, I.kept hk, ⟨_, rfl⟩, q⟩
section
variable {K : PySem.W.Frag} {Δ : Sl} {G L : List M} {Qd : Po}
theorem ap_maxT {ds : List D} (h : ∃ ns : List Int, ds = ns.map D.int ∧ 0 < ns.length ∧ Qd (.d (.int (maxDf 0 ns))) G L) : ApC K (rMaxT K) [.d (.tup ds)] Δ G L Qd := fun w ls σ H vs c rs Q q => by
  obtain ⟨ns, rfl, hn, k⟩ := h
  obtain ⟨v, rfl, r⟩ := pair1 rs
  obtain ⟨a, xs, rfl, h1, q1⟩ := r
  have e := RepL.intsV q1
  subst e
  exact ⟨a, ns, rfl, h1.sq, hn, q.go c Ext.refl (s := .d (.int _)) rfl k⟩
end
end DL

/-! zip(a tuple, a list), over the library's GoesN.zip2 -/
namespace DZm
open PySem PySem.Spec PyProof.Rows L2
def ItzM (K : PySem.W.Frag) (a b : Addr) : It where
  go := fun i H => ∃ (xs ys : List V) (x y : V), SqT K H a xs ∧ SqL K H b ys ∧ xs[i]? = some x ∧ ys[i]? = some y
  yld := fun i H v H' => ∃ T x y, v = V.ref T ∧ H T = none ∧ H' = upd H T (.tup [x, y]) ∧ (∀ xs, SqT K H a xs → xs[i]? = some x) ∧ ∀ ys, SqL K H b ys → ys[i]? = some y
  stop := fun i H => ∃ xs ys : List V, SqT K H a xs ∧ SqL K H b ys ∧ i = min xs.length ys.length
theorem sep_of {z TI TO i1 i2 a b : Addr} (D : ZipApart z TI TO i1 i2 a b) : ZipSep2 z TI TO i1 i2 [i1, a] [i2, b] where
  TIz := D.TIz
  TOz := D.TOz
  TITO := D.TITO
  TIi1 := D.TIi1
  mem1 := by simp
  zf1 := by simp [D.i1z.symm, D.l1z.symm]
  Tf1 := by simp [D.TOi1, D.l1TO.symm]
  TIi2 := D.TIi2
  mem2 := by simp
  zf2 := by simp [D.i2z.symm, D.l2z.symm]
  Tf2 := by simp [D.TOi2, D.l2TO.symm]
  sep1_2 := by simp [D.i12, D.l2i1.symm]
  sep2_1 := by simp [D.i12.symm, D.l1i2.symm]
theorem turn_zipM {P : Program} {w : World} {K : PySem.W.Frag} {elts : List Expr} {kk : Nat} {tpos : Pos} {a b z TI TO i1 i2 : Addr} (D : ZipApart z TI TO i1 i2 a b) :
    Turn P w K (.Tuple elts kk tpos) (ItzM K a b) [z, TI, TO, i1, i2] z (fun i h => IsZip h z TI TO .none ∧ IsTupOf2 h TI (.ref i1) (.ref i2) ∧ (∃ x y, IsTupOf2 h TO x y) ∧ h.IsTupleIter i1 a i ∧ h.IsListIter i2 b i) where
  mem := List.mem_cons_self ..
  obj := fun i h st c hc => by
    obtain ⟨hz, hTI, ⟨x, y, hTO⟩, ⟨o1, e1, _, d1⟩, o2, e2, _, d2⟩ := st
    simp only [List.mem_cons, List.not_mem_nil, or_false] at hc
    rcases hc with rfl | rfl | rfl | rfl | rfl
    · exact ⟨_, hz, fun v q => nomatch q⟩
    · exact ⟨_, hTI, fun v q => nomatch q⟩
    · exact ⟨_, hTO, fun v q => nomatch q⟩
    · exact ⟨o1, e1, fun v q => by rw [d1] at q; cases q⟩
    · exact ⟨o2, e2, fun v q => by rw [d2] at q; cases q⟩
  keep := fun i h h' st k => by
    obtain ⟨hz, hTI, ⟨x, y, hTO⟩, h1, h2⟩ := st
    exact ⟨k _ (by simp) _ hz, k _ (by simp) _ hTI, ⟨x, y, k _ (by simp) _ hTO⟩, h1.at fun o q => k _ (by simp) o q, h2.at fun o q => k _ (by simp) o q⟩
  item := by
    intro X hP hw hK hc i pins s σ H E I hf st hg
    subst hP hw hK
    obtain ⟨hz, hTI, hTO, h1, h2⟩ := st
    obtain ⟨xs, ys, x, y, hqx, hqy, hx, hy⟩ := hg
    obtain ⟨its, rv, p, _⟩ := I.tuple hqx
    obtain ⟨its2, rv2, p2, _⟩ := I.list hqy
    obtain ⟨u, hu, ru⟩ := rv.get hx
    obtain ⟨u2, hu2, ru2⟩ := rv2.get hy
    have li : i < its.toArray.size := by
      have := (List.getElem?_eq_some_iff.mp hu).1
      simpa using this
    have li2 : i < its2.toArray.size := by
      have := (List.getElem?_eq_some_iff.mp hu2).1
      simpa using this
    have hzl : z < s.heap.objs.size := Heap.lt_size hz
    have old : ∀ c ∈ [z, TI, TO, i1, i2], c < s.heap.objs.size := fun c hcm => by
      obtain ⟨_, _, hT0⟩ := hTO
      obtain ⟨_, q1, _⟩ := h1
      obtain ⟨_, q2, _⟩ := h2
      simp only [List.mem_cons, List.not_mem_nil, or_false] at hcm
      rcases hcm with rfl | rfl | rfl | rfl | rfl
      · exact hzl
      · exact Heap.lt_size hTI
      · exact Heap.lt_size hT0
      · exact Heap.lt_size q1
      · exact Heap.lt_size q2
    have W := GoesN.zip2 (elts := elts) (x1 := kk) (pos := tpos) (sep_of D) (Draws.tuple (prog := X.prog) (w := X.w) (A := X.A.in1) (I.ok.hd hc) i1 a D.l1i1 its.toArray) (Draws.list (prog := X.prog) (w := X.w) (A := X.A.in1) (I.ok.hd hc) i2 b D.l2i2 its2.toArray)
    refine W.goes i s _ E (by omega) ⟨hz, hTI, hTO, ⟨h1, p⟩, ⟨h2, p2.isList⟩⟩ fun v h' tk hY st' hk _ => ?_
    obtain ⟨T, x', y', rfl, hn, e1, e2, hT⟩ := hY
    obtain ⟨z', TI', TO', ⟨h1', _⟩, h2', _⟩ := st'
    have ex : x' = u := by
      have : its[i]? = some x' := by simpa using e1
      rw [hu] at this
      exact (Option.some.inj this).symm
    have ey : y' = u2 := by
      have : its2[i]? = some y' := by simpa using e2
      rw [hu2] at this
      exact (Option.some.inj this).symm
    subst ex
    subst ey
    have new : ObjOk X.prog X.w (upd H T (.tup [x, y])) h' T (.tup [x, y]) := ⟨by show 2 ≤ sizeLine; decide, [x', y'], .cons ru (.cons ru2 .nil), hT⟩
    have I1 : Inv X pins σ (upd H T (.tup [x, y])) { s with heap := h', toks := tk } := I.turnedNew (t' := tk) (ch := [z, TI, TO, i1, i2]) (fun c o hb q => hk c o (fun m => hb (by
      simp only [List.mem_cons, List.not_mem_nil, or_false] at m ⊢
      rcases m with m | m | m | m
      · exact .inl m
      · exact .inr (.inr (.inl m))
      · exact .inr (.inr (.inr (.inl m)))
      · exact .inr (.inr (.inr (.inr m))))) q) hf hn new
    refine ⟨.ref T, _, I1, rfl, ⟨T, x, y, rfl, I.hok.fresh hn, rfl, fun l hl => by rw [I.tuple_inj hl hqx]; exact hx, fun l hl => by rw [I.list_inj hl hqy]; exact hy⟩, ⟨z', TI', TO', h1', h2'⟩, fun c hcm => ?_⟩
    rw [upd_ne (Nat.ne_of_lt (Nat.lt_of_lt_of_le (old c hcm) hn))]
    exact (hf c hcm).1
  done := by
    intro X hP hw hK hc i pins s σ H E I hf st hg
    subst hP hw hK
    obtain ⟨hz, hTI, hTO, h1, h2⟩ := st
    obtain ⟨xs, ys, hqx, hqy, hi⟩ := hg
    obtain ⟨its, rv, p, _⟩ := I.tuple hqx
    obtain ⟨its2, rv2, p2, _⟩ := I.list hqy
    have l1 := rv.length
    have l2 := rv2.length
    have W := GoesN.zip2 (elts := elts) (x1 := kk) (pos := tpos) (sep_of D) (Draws.tuple (prog := X.prog) (w := X.w) (A := X.A.in1) (I.ok.hd hc) i1 a D.l1i1 its.toArray) (Draws.list (prog := X.prog) (w := X.w) (A := X.A.in1) (I.ok.hd hc) i2 b D.l2i2 its2.toArray)
    have en : i = min its.toArray.size its2.toArray.size := by
      rw [hi, l1, l2]
      simp
    refine W.stops s _ E (by rw [← en]; exact ⟨hz, hTI, hTO, ⟨h1, p⟩, ⟨h2, p2.isList⟩⟩) fun h' tk hk _ => I.turnedL (t' := tk) (ch := [z, TI, TO, i1, i2]) (fun c o hb q => hk c o (fun m => hb (by
      simp only [List.mem_cons, List.not_mem_nil, or_false] at m ⊢
      rcases m with m | m | m | m
      · exact .inl m
      · exact .inr (.inr (.inl m))
      · exact .inr (.inr (.inr (.inl m)))
      · exact .inr (.inr (.inr (.inr m))))) q) hf
  self := fun A i s Q E st h => wpAny_pyIter_zip st.1 h
def iZipM (K : PySem.W.Frag) (ta : TA) : TI := fun σ H R => ta σ H fun vs H1 => ∃ a b xs ys, vs = [V.ref a, V.ref b] ∧ SqT K H1 a xs ∧ SqL K H1 b ys ∧ R (ItzM K a b) H1
theorem pi_zipM {X : Cx} {e e2 : Expr} {ta : TA} {p pos tpos : Pos} {elts : List Expr} {kk : Nat} (hg : Gl X "zip") (hm : X.mg "zip" = none) (ha : PA X [e, e2] ta)
    (hs : starEach [e, e2] X.env = (false, eval e X.env) :: starEach [e2] X.env := by rfl) (hpl : (backTo pos (starEach [e2] X.env)).any (·.1) = false := by rfl) :
    PI X (.Tuple elts kk tpos) (.Call (.Name "zip" p) [e, e2] [] pos) (iZipM X.K ta) := by
  refine ⟨fun pins s σ H R I h => ?_⟩
  refine Call_ (ld_blt I hg hm PyProof.Rows.boot_zip (PyProof.Rows.callWith_type1 (thn (ha.run pos pins s σ H _ I h) fun us s1 r => ?_) hs hpl))
  obtain ⟨vs, H1, I1, r1, a, b, xs, ys, rfl, hqx, hqy, q⟩ := r
  obtain ⟨ua, ub, rfl, ra, rb⟩ : ∃ ua ub, us = [ua, ub] ∧ RelV (V.ref a) ua ∧ RelV (V.ref b) ub := by
    cases r1 with
    | cons r rr =>
      cases rr with
      | cons r' rr =>
        cases rr
        exact ⟨_, _, rfl, r, r'⟩
  obtain rfl : ua = Value.ref a := ra
  obtain rfl : ub = Value.ref b := rb
  have fresh5 : ∀ c, c ∈ [s1.heap.objs.size + 4, s1.heap.objs.size + 2, s1.heap.objs.size + 3, s1.heap.objs.size, s1.heap.objs.size + 1] → FpOk X pins H1 c := fun c hcm => by
    have hle : s1.heap.objs.size ≤ c := by
      simp only [List.mem_cons, List.not_mem_nil, or_false] at hcm
      rcases hcm with rfl | rfl | rfl | rfl | rfl <;> omega
    exact I1.fpOk hle (I1.hok.fresh hle)
  obtain ⟨its, rv, p1, _⟩ := I1.tuple hqx
  obtain ⟨its2, rv2, p2, _⟩ := I1.list hqy
  obtain ⟨o1, ho1, _⟩ := id p1
  refine zip_begins2 (begins_tuple a its.toArray) (begins_list b its2.toArray) p1 p2.isList fun h' hz hTI hTO g1 g2 hsz hk => wpAny_pyIter_zip hz ?_
  have I2 : Inv X pins σ H1 { s1 with heap := h' } := I1.kept (t' := s1.toks) hk
  exact ⟨s1.heap.objs.size + 4, [s1.heap.objs.size + 4, s1.heap.objs.size + 2, s1.heap.objs.size + 3, s1.heap.objs.size, s1.heap.objs.size + 1], _, _, H1, rfl, I2, turn_zipM (PySem.W.ktu_apart s1.heap.objs.size a b (Heap.lt_size ho1) p2.lt), ⟨hz, hTI, ⟨_, _, hTO⟩, ⟨_, g1, rfl, rfl⟩, ⟨_, g2, rfl, rfl⟩⟩, fresh5, q⟩
end DZm
namespace DL
open PySem PySem.Spec PyProof.Rows L2
theorem evi_zipM {K : PySem.W.Frag} {Δ : Sl} {G L : List M} {ta : TA} {Qi : List D → List M → List M → Prop} (h : EvA K ta Δ G L fun ss G1 L1 => ∃ xs ys, ss = [.d (.tup xs), .d (.lst ys)] ∧ Qi (zipD xs ys) G1 L1) : EvI K (DZm.iZipM K ta) Δ G L Qi := fun w ls σ H c R q =>
  h w ls σ H c _ fun us ss H2 G2 L2 c2 e2 r2 ⟨xs, ys, e, k⟩ => by
    subst e
    obtain ⟨v, u, rfl, ⟨a, vs, rfl, h1, r1⟩, b, vs2, rfl, ⟨h3, n3⟩, r3⟩ := pair2 r2
    refine ⟨a, b, vs, vs2, rfl, h1.sq, .inl (.inl h3), q _ H2 _ G2 L2 c2 e2 ⟨fun H3 w2 ls2 σ2 Δ2 G3 L3 i d g c3 hi => ?_, fun H3 w2 ls2 g => ?_⟩ k⟩
    · obtain ⟨x, y, hx, hy, rfl⟩ := zipD_get hi
      obtain ⟨x', hx', rx⟩ := (r1.grow g).get hx
      obtain ⟨y', hy', ry⟩ := (r3.grow g).get hy
      have t1 := (h1.grow g).sq
      have t3 : SqL K H3 b vs2 := .inl (.inl (g.keep _ _ h3 n3))
      refine ⟨⟨vs, vs2, x', y', t1, t3, hx', hy'⟩, fun u H' ⟨T, x2, y2, eu, hT, hH, f1, f2⟩ => ?_⟩
      subst hH
      subst eu
      have e1 := f1 vs t1
      have e2 := f2 vs2 t3
      rw [hx'] at e1
      rw [hy'] at e2
      cases e1
      cases e2
      exact ⟨c3.new hT, Ext.new hT, rep_tup c3 hT ⟨_, _, rfl, rx, RepL.one ry⟩⟩
    · refine ⟨vs, vs2, (h1.grow g).sq, .inl (.inl (g.keep _ _ h3 n3)), ?_⟩
      rw [zipD_len, r1.length, r3.length]
end DL

/-! zip(a, b, strict=True) of two texts of one length, enumerate(a text): over the library's Draws -/
namespace DZx
open PySem PySem.Spec PyProof.Rows L2 DZs
open PySem.Sem (wp)
section
variable {prog : Program} {w : World} {A : Around} {E : Value → Shared → Prop} {s : Shared} {z TI TO i1 i2 it : Addr} {fp fp1 fp2 : List Addr} {n n1 n2 i : Nat} {P P1 P2 : Nat → Value → Prop} {St St1 St2 : Nat → Heap → Prop} {a1 a2 : Value}
theorem noe_item {Q : Option Value → Shared → Prop} (D : Draws prog w A it fp n P St) (hi : i < n) (st : St i s.heap)
    (hQ : ∀ v h' tk, P i v → St (i + 1) h' → Heap.SameBut it s.heap h' → Q (some v) { s with heap := h', toks := tk }) : wpAny (model prog w) A (Builtin.SmallTypes.nextOrEnd (.ref it)) Q E s := by
  unfold Builtin.SmallTypes.nextOrEnd
  exact wpAny_bind (wpAny_attempt (D.item i s _ _ hi st fun v h' tk a b c => wpAny_pure (hQ v h' tk a b c)))
theorem noe_end {Q : Option Value → Shared → Prop} (D : Draws prog w A it fp n P St) (st : St n s.heap)
    (hQ : ∀ h', Heap.ExtBut it s.heap h' → Q none { s with heap := h' }) : wpAny (model prog w) A (Builtin.SmallTypes.nextOrEnd (.ref it)) Q E s := by
  unfold Builtin.SmallTypes.nextOrEnd
  refine wpAny_bind (wpAny_attempt (D.done s _ _ st fun h' e k he => ?_))
  obtain ⟨o, ho, hc⟩ := he
  exact wpAny_bind (wpAny_isInstance (T := "StopIteration") (b := true) ⟨o, ho, hc⟩ isSubtype_stop (wpAny_pure (hQ h' k)))
theorem next_item {Q : Value → Shared → Prop} (S : ZipSep2 z TI TO i1 i2 fp1 fp2) (D1 : Draws prog w A i1 fp1 n1 P1 St1) (D2 : Draws prog w A i2 fp2 n2 P2 St2)
    (hz : IsZipS s.heap z TI TO .none) (hTI : IsTupOf2 s.heap TI (.ref i1) (.ref i2)) (hTO : IsTupOf2 s.heap TO a1 a2) (st1 : St1 i s.heap) (st2 : St2 i s.heap) (hlt1 : i < n1) (hlt2 : i < n2)
    (hQ : ∀ x1 x2 h' tk, P1 i x1 → P2 i x2 → IsZipS h' z TI TO (rawInt s.heap.objs.size) → IsTupOf2 h' TO x1 x2 → St1 (i + 1) h' → St2 (i + 1) h' → IsTupOf2 h' s.heap.objs.size x1 x2 → h'.objs.size = s.heap.objs.size + 1 →
      (∀ c o, c ≠ z → c ≠ TO → c ≠ i1 → c ≠ i2 → s.heap.get? c = some o → h'.get? c = some o) → Q (.ref s.heap.objs.size) { s with heap := h', toks := tk }) :
    wpAny (model prog w) A (Builtin.«zip.__next__» ⟨[.ref z], []⟩) (fun fin s' => ∃ v, fin = .done (.ret v) ∧ Q v s') E s := by
  obtain ⟨hp, g, d, tk0, os⟩ := s
  show wpAny _ _ (field (.ref z) 2 >>= _) _ _ _
  refine wpAny_bind (wpAny_field hz rfl (x := .bool true) rfl ?_)
  show wpAny _ _ (field (.ref z) 3 >>= _) _ _ _
  refine wpAny_bind (wpAny_field hz rfl (x := .ref TI) rfl ?_)
  refine wpAny_bind (wpAny_seqItems hTI rfl ?_)
  show wpAny _ _ (Builtin.SmallTypes.ownedTupleIsFree (.ref z) >>= _) _ _ _
  refine wpAny_bind ?_
  unfold Builtin.SmallTypes.ownedTupleIsFree
  refine wpAny_bind (wpAny_field hz rfl (x := .none) rfl (wpAny_pure ?_))
  simp only [if_true]
  refine wpAny_bind (wpAny_rule ?_)
  refine wpAny_bind (wpAny_field hz rfl (x := .ref TO) rfl ?_)
  refine wpAny_bind (wpAny_setField_rec hz (by simp) fun g0 hz0 hs0 => ?_)
  replace hz0 : IsZipS g0 z TI TO .ellipsis := hz0
  replace hs0 : Heap.SameBut z hp g0 := hs0
  refine wpAny_bind ?_
  simp only [List.zipIdx_cons, List.zipIdx_nil, List.forIn_cons, List.forIn_nil]
  refine wpAny_bind (wpAny_bind (wpAny_onRaise ?_))
  show wpAny _ _ (Builtin.SmallTypes.nextOrEnd (.ref i1)) _ _ ⟨g0, g, d, tk0, os⟩
  refine noe_item D1 hlt1 (D1.over st1 hs0 S.zf1) fun x1 p1 tk1 hx1 sn1 hp1 => ?_
  replace hp1 : Heap.SameBut i1 g0 p1 := hp1
  have hU1 : IsTupOf2 p1 TO a1 a2 := hp1.extBut _ _ S.Ti1 (hs0.extBut _ _ S.TOz hTO)
  refine wpAny_bind (wpAny_seqItems (s := ⟨p1, g, d, tk1, os⟩) hU1 rfl ?_)
  refine wpAny_bind (updateSeq_IsTupOf2 (s := ⟨p1, g, d, tk1, os⟩) hU1 fun g1 hT1 hs1 => ?_)
  replace hT1 : IsTupOf2 g1 TO x1 a2 := hT1
  replace hs1 : Heap.SameBut TO p1 g1 := hs1
  refine wpAny_bind (wpAny_letGo (wpAny_pure ?_))
  refine wpAny_bind (wpAny_bind (wpAny_onRaise ?_))
  show wpAny _ _ (Builtin.SmallTypes.nextOrEnd (.ref i2)) _ _ ⟨g1, g, d, tk1, os⟩
  refine noe_item D2 hlt2 (D2.over (D2.over (D2.over st2 hs0 S.zf2) hp1 S.sep1_2) hs1 S.Tf2) fun x2 p2 tk2 hx2 sn2 hp2 => ?_
  replace hp2 : Heap.SameBut i2 g1 p2 := hp2
  have hU2 : IsTupOf2 p2 TO x1 a2 := hp2.extBut _ _ S.Ti2 hT1
  refine wpAny_bind (wpAny_seqItems (s := ⟨p2, g, d, tk2, os⟩) hU2 rfl ?_)
  refine wpAny_bind (updateSeq_IsTupOf2 (s := ⟨p2, g, d, tk2, os⟩) hU2 fun g2 hT2 hs2 => ?_)
  replace hT2 : IsTupOf2 g2 TO x1 x2 := hT2
  replace hs2 : Heap.SameBut TO p2 g2 := hs2
  refine wpAny_bind (wpAny_letGo (wpAny_pure (wpAny_pure ?_)))
  refine wpAny_bind (wpAny_seqItems (s := ⟨g2, g, d, tk2, os⟩) hT2 rfl ?_)
  refine wpAny_bind (wpAny_newTuple ?_)
  have hsz : g2.objs.size = hp.objs.size := by rw [hs2.1, hp2.1, hs1.1, hp1.1, hs0.1]
  have hzz : IsZipS g2 z TI TO .ellipsis := (hs2.extBut _ _ S.TOz.symm (hp2.extBut _ _ S.zi2 (hs1.extBut _ _ S.TOz.symm (hp1.extBut _ _ S.zi1 hz0))))
  have hkk : ∀ c o, c ≠ z → c ≠ TO → c ≠ i1 → c ≠ i2 → hp.get? c = some o → g2.get? c = some o := fun c o cz cT c1 c2 e =>
    (hs2.extBut _ _ cT (hp2.extBut _ _ c2 (hs1.extBut _ _ cT (hp1.extBut _ _ c1 (hs0.extBut _ _ cz e)))))
  have hj1 : St1 (i + 1) g2 := (D1.over (D1.over (D1.over sn1 hs1 S.Tf1) hp2 S.sep2_1) hs2 S.Tf1)
  have hj2 : St2 (i + 1) g2 := (D2.over sn2 hs2 S.Tf2)
  have hzlt : z < g2.objs.size := Heap.lt_size hzz
  show wpAny _ _ (Builtin.SmallTypes.ownedTupleHandOut (.ref z) (.ref g2.objs.size) >>= _) _ _ ⟨g2.push { cls := .type "tuple", data := .seq #[x1, x2] }, g, d, tk2, os⟩
  refine wpAny_bind ?_
  unfold Builtin.SmallTypes.ownedTupleHandOut
  have hz₆ : IsZipS (g2.push { cls := .type "tuple", data := .seq #[x1, x2] }) z TI TO .ellipsis := Heap.get?_push_of_some _ hzz
  refine wpAny_bind (wpAny_setField_rec hz₆ (by simp) fun h₇ hz₇ hs₇ => ?_)
  replace hz₇ : IsZipS h₇ z TI TO (rawInt g2.objs.size) := hz₇
  refine wpAny_setField_rec hz₇ (by simp) fun h₈ hz₈ hs₈ => ?_
  replace hz₈ : IsZipS h₈ z TI TO (rawInt g2.objs.size) := hz₈
  replace hs₇ : Heap.SameBut z (g2.push { cls := .type "tuple", data := .seq #[x1, x2] }) h₇ := hs₇
  replace hs₈ : Heap.SameBut z h₇ h₈ := hs₈
  have up : ∀ c o, c ≠ z → g2.get? c = some o → h₈.get? c = some o := fun c o c1 e => hs₈.extBut _ _ c1 (hs₇.extBut _ _ c1 (Heap.get?_push_of_some _ e))
  have hT₈ : IsTupOf2 h₈ g2.objs.size x1 x2 := hs₈.extBut _ _ (Nat.ne_of_gt hzlt) (hs₇.extBut _ _ (Nat.ne_of_gt hzlt) (Heap.get?_push_size _ rfl))
  have hz8 : h₈.objs.size = g2.objs.size + 1 := by rw [hs₈.1, hs₇.1, Heap.size_push]
  rw [hsz] at hz₈ hT₈ hz8
  refine wpAny_pure ⟨_, rfl, ?_⟩
  show Q (.ref g2.objs.size) ⟨h₈, g, d, tk2, os⟩
  rw [hsz]
  exact hQ x1 x2 h₈ tk2 hx1 hx2 hz₈ (up _ _ S.TOz hT2) (D1.frame _ _ _ hj1 fun b hb o e => up b o (fun q => S.zf1 (q ▸ hb)) e) (D2.frame _ _ _ hj2 fun b hb o e => up b o (fun q => S.zf2 (q ▸ hb)) e) hT₈ hz8 fun c o cz cT c1 c2 e => up c o cz (hkk c o cz cT c1 c2 e)
theorem next_end {Q : Fin → Shared → Prop} (hh : A.handled = none) (S : ZipSep2 z TI TO i1 i2 fp1 fp2) (D1 : Draws prog w A i1 fp1 n P1 St1) (D2 : Draws prog w A i2 fp2 n P2 St2)
    (hz : IsZipS s.heap z TI TO .none) (hTI : IsTupOf2 s.heap TI (.ref i1) (.ref i2)) (hTO : IsTupOf2 s.heap TO a1 a2) (st1 : St1 n s.heap) (st2 : St2 n s.heap)
    (hE : ∀ h' e, (∀ c o, c ≠ z → c ≠ TO → c ≠ i1 → c ≠ i2 → s.heap.get? c = some o → h'.get? c = some o) → (∃ o, h'.get? e = some o ∧ o.cls = .type "StopIteration") → E (.ref e) { s with heap := h' }) :
    wpAny (model prog w) A (Builtin.«zip.__next__» ⟨[.ref z], []⟩) Q E s := by
  show wpAny _ _ (field (.ref z) 2 >>= _) _ _ _
  refine wpAny_bind (wpAny_field hz rfl (x := .bool true) rfl ?_)
  show wpAny _ _ (field (.ref z) 3 >>= _) _ _ _
  refine wpAny_bind (wpAny_field hz rfl (x := .ref TI) rfl ?_)
  refine wpAny_bind (wpAny_seqItems hTI rfl ?_)
  show wpAny _ _ (Builtin.SmallTypes.ownedTupleIsFree (.ref z) >>= _) _ _ _
  refine wpAny_bind ?_
  unfold Builtin.SmallTypes.ownedTupleIsFree
  refine wpAny_bind (wpAny_field hz rfl (x := .none) rfl (wpAny_pure ?_))
  simp only [if_true]
  refine wpAny_bind (wpAny_rule ?_)
  refine wpAny_bind (wpAny_field hz rfl (x := .ref TO) rfl ?_)
  refine wpAny_bind (wpAny_setField_rec hz (by simp) fun h₁ hz₁ hs₁ => ?_)
  replace hz₁ : IsZipS h₁ z TI TO .ellipsis := hz₁
  refine wpAny_bind ?_
  simp only [List.zipIdx_cons, List.zipIdx_nil, List.forIn_cons, List.forIn_nil]
  refine wpAny_bind (wpAny_bind (wpAny_onRaise ?_))
  show wpAny _ _ (Builtin.SmallTypes.nextOrEnd (.ref i1)) _ _ _
  refine noe_end D1 (D1.over st1 hs₁ S.zf1) fun h₂ hs₂ => ?_
  have hz₂ : IsZipS h₂ z TI TO .ellipsis := hs₂ _ _ S.zi1 hz₁
  refine wpAny_bind (wpAny_setField_rec hz₂ (by simp) fun h₃ _ hs₃ => ?_)
  refine wpAny_bind ?_
  show wpAny _ _ ((forIn _ _ _) >>= _) _ _ _
  simp only [List.drop, List.zipIdx_cons, List.zipIdx_nil, List.forIn_cons, List.forIn_nil]
  refine wpAny_bind (wpAny_bind ?_)
  have st2' : St2 n h₃ := D2.over (D2.frame _ _ _ (D2.over st2 hs₁ S.zf2) fun b hb o e => hs₂ b o (fun q => S.sep1_2 (q ▸ hb)) e) hs₃ S.zf2
  refine wpAny_bind (noe_end D2 st2' fun h₄ hs₄ => ?_)
  rw [if_neg (by decide)]
  refine wpAny_pure (wpAny_pure ?_)
  refine wpAny_bind (wpAny_rule ?_)
  exact stop_iter hh fun h₅ e hk he => hE h₅ e (fun c o c1 c2 c3 c4 x => hk c o (hs₄ _ _ c4 (hs₃.extBut _ _ c1 (hs₂ _ _ c3 (hs₁.extBut _ _ c1 x))))) he
end
section
variable {prog : Program} {w : World} {A : Around} {E : Value → Shared → Prop} {s : Shared} {z TI TO i1 i2 : Addr} {fp1 fp2 : List Addr} {n n1 n2 i : Nat} {P1 P2 : Nat → Value → Prop} {St1 St2 : Nat → Heap → Prop} {a1 a2 : Value}
theorem pyNext_item {Q : Option Value → Shared → Prop} (S : ZipSep2 z TI TO i1 i2 fp1 fp2) (D1 : Draws prog w A.in1 i1 fp1 n1 P1 St1) (D2 : Draws prog w A.in1 i2 fp2 n2 P2 St2)
    (hz : IsZipS s.heap z TI TO .none) (hTI : IsTupOf2 s.heap TI (.ref i1) (.ref i2)) (hTO : IsTupOf2 s.heap TO a1 a2) (st1 : St1 i s.heap) (st2 : St2 i s.heap) (hlt1 : i < n1) (hlt2 : i < n2)
    (hQ : ∀ x1 x2 h' tk, P1 i x1 → P2 i x2 → IsZipS h' z TI TO (rawInt s.heap.objs.size) → IsTupOf2 h' TO x1 x2 → St1 (i + 1) h' → St2 (i + 1) h' → IsTupOf2 h' s.heap.objs.size x1 x2 → h'.objs.size = s.heap.objs.size + 1 →
      (∀ c o, c ≠ z → c ≠ TO → c ≠ i1 → c ≠ i2 → s.heap.get? c = some o → h'.get? c = some o) → Q (some (.ref s.heap.objs.size)) { s with heap := h', toks := tk }) :
    wpAny (model prog w) A (pyNext (.ref z)) Q E s := by
  have hT : s.TypeIs (.ref z) "zip" := ⟨_, hz, rfl⟩
  unfold pyNext
  exact wpAny_bind (wpAny_attempt (wpAny_callSpecial?_slot (name := Str.ofString "__next__") hT F.slot_zip_next
    (wpAny_call_entry F.slot_zip_next hT F.entry_zip_next
      (next_item S D1 D2 hz hTI hTO st1 st2 hlt1 hlt2 fun x1 x2 h' tk a1 a2 a3 a4 a5 a6 a7 a8 a9 => wpAny_pure (hQ x1 x2 h' tk a1 a2 a3 a4 a5 a6 a7 a8 a9)) (F.args_zip_next_1 _))))
theorem pyNext_end {Q : Option Value → Shared → Prop} (hh : A.handled = none) (S : ZipSep2 z TI TO i1 i2 fp1 fp2) (D1 : Draws prog w A.in1 i1 fp1 n P1 St1) (D2 : Draws prog w A.in1 i2 fp2 n P2 St2)
    (hz : IsZipS s.heap z TI TO .none) (hTI : IsTupOf2 s.heap TI (.ref i1) (.ref i2)) (hTO : IsTupOf2 s.heap TO a1 a2) (st1 : St1 n s.heap) (st2 : St2 n s.heap)
    (hQ : ∀ h', (∀ c o, c ≠ z → c ≠ TO → c ≠ i1 → c ≠ i2 → s.heap.get? c = some o → h'.get? c = some o) → Q none { s with heap := h' }) : wpAny (model prog w) A (pyNext (.ref z)) Q E s := by
  have hT : s.TypeIs (.ref z) "zip" := ⟨_, hz, rfl⟩
  unfold pyNext
  refine wpAny_bind (wpAny_attempt (wpAny_callSpecial?_slot (name := Str.ofString "__next__") hT F.slot_zip_next
    (wpAny_call_entry F.slot_zip_next hT F.entry_zip_next (next_end hh S D1 D2 hz hTI hTO st1 st2 fun h' e hk he => ?_) (F.args_zip_next_1 _))))
  obtain ⟨o, ho, hc⟩ := he
  exact wpAny_bind (wpAny_isInstance (T := "StopIteration") (b := true) ⟨o, ho, hc⟩ isSubtype_stop (wpAny_pure (hQ _ hk)))
end
abbrev gsZ2 (h : Heap) (o1 o2 : Obj) : Heap := (gzO2 h o1 o2).push { cls := .type "zip", data := .fields #[.none, .bool false, .bool true, .ref ((h.push o1).push o2).objs.size, .ref (gzT2 h o1 o2).objs.size] }
theorem meets_new {v1 v2 : Value} {o1 o2 : Obj} {H1 H2 : Heap → Prop} (B1 : Begins v1 o1 H1) (B2 : Begins v2 o2 H2) :
    Meets (Builtin.«zip.__new__» ⟨[.type "zip", v1, v2], [(Str.ofString "strict", .bool true)]⟩) (fun _ R s => (H1 s.heap ∧ H2 s.heap) ∧
      R (.ok (.ret (.ref (gzO2 s.heap o1 o2).objs.size))) { s with heap := gsZ2 s.heap o1 o2 }) :=
  .of_wp fun prog w A R s h => by
    obtain ⟨hp, g, d, tk, os⟩ := s; obtain ⟨⟨h1, h2⟩, h⟩ := h
    have hsub := sub_zip
    have q1 : ∀ {A' : Around} {E : Value → Shared → Prop} {Q : Value → Shared → Prop}, Q (.ref hp.objs.size) ⟨(hp.push o1), g, d, tk, os⟩ → wpAny (model prog w) A' (pyIter v1) Q E ⟨hp, g, d, tk, os⟩ :=
      fun q => B1.iter prog w _ _ ⟨hp, g, d, tk, os⟩ _ (B1.keeps _ _ h1 fun b o' e => e) q
    have q2 : ∀ {A' : Around} {E : Value → Shared → Prop} {Q : Value → Shared → Prop}, Q (.ref (hp.push o1).objs.size) ⟨((hp.push o1).push o2), g, d, tk, os⟩ → wpAny (model prog w) A' (pyIter v2) Q E ⟨(hp.push o1), g, d, tk, os⟩ :=
      fun q => B2.iter prog w _ _ ⟨(hp.push o1), g, d, tk, os⟩ _ (B2.keeps _ _ h2 fun b o' e => (Heap.get?_push_of_some _ e)) q
    have e2 : (Str.ofString "strict" != ("strict" : Str)) = false := by decide +kernel
    wp_walk using q1, q2
    exact ⟨_, rfl, h⟩
section
variable {prog : Program} {w : World} {A : Around} {E : Value → Shared → Prop} {s : Shared}
theorem call_zipX {v1 v2 : Value} {o1 o2 : Obj} {H1 H2 : Heap → Prop} {Q : Value → Shared → Prop} (B1 : Begins v1 o1 H1) (B2 : Begins v2 o2 H2) (h1 : H1 s.heap) (h2 : H2 s.heap)
    (h : ∀ h', IsZipS h' (s.heap.objs.size + 4) (s.heap.objs.size + 2) (s.heap.objs.size + 3) .none → IsTupOf2 h' (s.heap.objs.size + 2) (.ref s.heap.objs.size) (.ref (s.heap.objs.size + 1)) →
      IsTupOf2 h' (s.heap.objs.size + 3) .none .none → h'.get? s.heap.objs.size = some o1 → h'.get? (s.heap.objs.size + 1) = some o2 → h'.objs.size = s.heap.objs.size + 5 →
      (∀ c o, s.heap.get? c = some o → h'.get? c = some o) → Q (.ref (s.heap.objs.size + 4)) { s with heap := h' }) :
    wpAny (model prog w) A (call (.type "zip") [v1, v2] [(Str.ofString "strict", .bool true)]) Q E s := by
  refine callType_newKw F.called_zip (by decide) (typeCall_s _ _ _) (newCall_s _ _ _) (fun obj => args_init_s obj _ _ _) F.entry_zip_new
    (meets_new B1 B2) ⟨⟨h1, h2⟩, ?_⟩
  have z1 : (s.heap.push o1).objs.size = s.heap.objs.size + 1 := by rw [Heap.size_push]
  have z2 : ((s.heap.push o1).push o2).objs.size = s.heap.objs.size + 2 := by rw [Heap.size_push, z1]
  have zT : (gzT2 s.heap o1 o2).objs.size = s.heap.objs.size + 3 := by rw [Heap.size_push, z2]
  have zO : (gzO2 s.heap o1 o2).objs.size = s.heap.objs.size + 4 := by rw [Heap.size_push, zT]
  have zZ : (gsZ2 s.heap o1 o2).objs.size = s.heap.objs.size + 5 := by rw [Heap.size_push, zO]
  have gZ : (gsZ2 s.heap o1 o2).get? (gzO2 s.heap o1 o2).objs.size = some { cls := .type "zip", data := .fields #[.none, .bool false, .bool true, .ref ((s.heap.push o1).push o2).objs.size, .ref (gzT2 s.heap o1 o2).objs.size] } := Heap.get?_push_size _ rfl
  have gO : (gsZ2 s.heap o1 o2).get? (gzT2 s.heap o1 o2).objs.size = some { cls := .type "tuple", data := .seq #[.none, .none] } := Heap.get?_push_of_some _ (Heap.get?_push_size _ rfl)
  have gT : (gsZ2 s.heap o1 o2).get? ((s.heap.push o1).push o2).objs.size = some { cls := .type "tuple", data := .seq #[.ref s.heap.objs.size, .ref (s.heap.push o1).objs.size] } := Heap.get?_push_of_some _ (Heap.get?_push_of_some _ (Heap.get?_push_size _ rfl))
  have g1 : (gsZ2 s.heap o1 o2).get? s.heap.objs.size = some o1 := Heap.get?_push_of_some _ (Heap.get?_push_of_some _ (Heap.get?_push_of_some _ (Heap.get?_push_of_some _ (Heap.get?_push_size _ B1.free))))
  have g2 : (gsZ2 s.heap o1 o2).get? (s.heap.push o1).objs.size = some o2 := Heap.get?_push_of_some _ (Heap.get?_push_of_some _ (Heap.get?_push_of_some _ (Heap.get?_push_size _ B2.free)))
  rw [zO, zT, z2] at gZ
  rw [zT] at gO
  rw [z2, z1] at gT
  rw [z1] at g2
  show _ ∧ _
  rw [zO]
  exact ⟨⟨_, gZ, rfl⟩, h _ gZ gT gO g1 g2 zZ fun c o e => Heap.get?_push_of_some _ (Heap.get?_push_of_some _ (Heap.get?_push_of_some _ (Heap.get?_push_of_some _ (Heap.get?_push_of_some _ e))))⟩
end
/-- the pairs of signs of two texts -/
def ItzX (x y : Str) : It :=
  ⟨fun i H => ∃ c d, x.cps[i]? = some c ∧ y.cps[i]? = some d, fun i H v H' => ∃ T c d, v = .ref T ∧ H T = none ∧ H' = upd H T (.tup [.str ⟨#[c]⟩, .str ⟨#[d]⟩]) ∧ x.cps[i]? = some c ∧ y.cps[i]? = some d,
    fun i H => i = x.cps.size ∧ i = y.cps.size⟩
theorem sep_of {z TI TO i1 i2 : Addr} (h1 : TI ≠ z) (h2 : TO ≠ z) (h3 : TI ≠ TO) (h4 : TI ≠ i1) (h5 : z ≠ i1) (h6 : TO ≠ i1) (h7 : TI ≠ i2) (h8 : z ≠ i2) (h9 : TO ≠ i2) (h10 : i1 ≠ i2) : ZipSep2 z TI TO i1 i2 [i1] [i2] where
  TIz := h1
  TOz := h2
  TITO := h3
  TIi1 := h4
  mem1 := by simp
  zf1 := by simpa using h5
  Tf1 := by simpa using h6
  TIi2 := h7
  mem2 := by simp
  zf2 := by simpa using h8
  Tf2 := by simpa using h9
  sep1_2 := by simpa using h10
  sep2_1 := by simpa using h10.symm
theorem sep5 (n : Nat) : ZipSep2 (n + 4) (n + 2) (n + 3) n (n + 1) [n] [n + 1] :=
  have ne : ∀ a b : Nat, a < b → a ≠ b := fun a b h => Nat.ne_of_lt h
  sep_of (ne _ _ (by omega)) (ne _ _ (by omega)) (ne _ _ (by omega)) (ne _ _ (by omega)).symm (ne _ _ (by omega)).symm (ne _ _ (by omega)).symm (ne _ _ (by omega)).symm (ne _ _ (by omega)).symm (ne _ _ (by omega)).symm (ne _ _ (by omega))
theorem turn_zipX {P : Program} {w : World} {K : PySem.W.Frag} {elts : List Expr} {kk : Nat} {tpos : Pos} {x y : Str} {t u : Tok} {z TI TO i1 i2 : Addr} (D : ZipSep2 z TI TO i1 i2 [i1] [i2]) :
    Turn P w K (.Tuple elts kk tpos) (ItzX x y) [z, TI, TO, i1, i2] z (fun i h => IsZipS h z TI TO .none ∧ IsTupOf2 h TI (.ref i1) (.ref i2) ∧ (∃ x y, IsTupOf2 h TO x y) ∧ h.IsStrIter i1 (strIterType x) x t i ∧ h.IsStrIter i2 (strIterType y) y u i) where
  mem := List.mem_cons_self ..
  obj := fun i h st c hc => by
    obtain ⟨hz, hTI, ⟨x, y, hTO⟩, ⟨o1, e1, _, d1⟩, o2, e2, _, d2⟩ := st
    simp only [List.mem_cons, List.not_mem_nil, or_false] at hc
    rcases hc with rfl | rfl | rfl | rfl | rfl
    · exact ⟨_, hz, fun v q => nomatch q⟩
    · exact ⟨_, hTI, fun v q => nomatch q⟩
    · exact ⟨_, hTO, fun v q => nomatch q⟩
    · exact ⟨o1, e1, fun v q => by rw [d1] at q; cases q⟩
    · exact ⟨o2, e2, fun v q => by rw [d2] at q; cases q⟩
  keep := fun i h h' st k => by
    obtain ⟨hz, hTI, ⟨x, y, hTO⟩, ⟨o1, e1, h1⟩, o2, e2, h2⟩ := st
    exact ⟨k _ (by simp) _ hz, k _ (by simp) _ hTI, ⟨x, y, k _ (by simp) _ hTO⟩, ⟨o1, k _ (by simp) o1 e1, h1⟩, o2, k _ (by simp) o2 e2, h2⟩
  item := by
    intro X hP hw hK hc i pins s σ H E I hf st hg
    subst hP hw hK
    obtain ⟨hz, hTI, ⟨x0, y0, hTO⟩, h1, h2⟩ := st
    obtain ⟨c, d, hcx, hdy⟩ := hg
    have hzl : z < s.heap.objs.size := Heap.lt_size hz
    have old : ∀ c ∈ [z, TI, TO, i1, i2], c < s.heap.objs.size := fun c hcm => by
      obtain ⟨_, q1, _⟩ := id h1
      obtain ⟨_, q2, _⟩ := id h2
      simp only [List.mem_cons, List.not_mem_nil, or_false] at hcm
      rcases hcm with rfl | rfl | rfl | rfl | rfl
      · exact hzl
      · exact Heap.lt_size hTI
      · exact Heap.lt_size hTO
      · exact Heap.lt_size q1
      · exact Heap.lt_size q2
    have li : i < x.cps.size := (Array.getElem?_eq_some_iff.mp hcx).1
    have li2 : i < y.cps.size := (Array.getElem?_eq_some_iff.mp hdy).1
    refine pyNext_item D (Draws.text (prog := X.prog) (w := X.w) (A := X.A.in1) (I.ok.hd hc) i1 x t) (Draws.text (prog := X.prog) (w := X.w) (A := X.A.in1) (I.ok.hd hc) i2 y u) hz hTI hTO h1 h2 li li2 fun x1 x2 h' tk g1 g2 z' TO' h1' h2' hT hsz hk => ?_
    obtain ⟨c', t1, hc', rfl⟩ := g1
    obtain ⟨d', t2, hd', rfl⟩ := g2
    rw [hcx] at hc'
    rw [hdy] at hd'
    cases hc'
    cases hd'
    refine ⟨_, rfl, letGo_zipS (s := { s with heap := h', toks := tk }) z' fun h'' z'' sb => ?_⟩
    have hT2 : h''.get? s.heap.objs.size = some { cls := .type "tuple", data := .seq #[.str ⟨#[c]⟩ t1, .str ⟨#[d]⟩ t2] } := (sb.2 _ (Nat.ne_of_gt hzl)).trans hT
    have new : ObjOk X.prog X.w (upd H s.heap.objs.size (.tup [.str ⟨#[c]⟩, .str ⟨#[d]⟩])) h'' s.heap.objs.size (.tup [.str ⟨#[c]⟩, .str ⟨#[d]⟩]) :=
      ⟨by show 2 ≤ sizeLine; decide, [.str ⟨#[c]⟩ t1, .str ⟨#[d]⟩ t2], .cons ⟨_, rfl⟩ (.cons ⟨_, rfl⟩ .nil), ⟨_, hT2, rfl, _, rfl⟩⟩
    have I1 : Inv X pins σ (upd H s.heap.objs.size (.tup [.str ⟨#[c]⟩, .str ⟨#[d]⟩])) { s with heap := h'', toks := tk } :=
      I.turnedNew (t' := tk) (ch := [z, TI, TO, i1, i2]) (fun c o hb q => (sb.2 c (fun q' => hb (by simp [q']))).trans (hk c o (fun q' => hb (by simp [q'])) (fun q' => hb (by simp [q'])) (fun q' => hb (by simp [q'])) (fun q' => hb (by simp [q'])) q)) hf (Nat.le_refl _) new
    have i1z : i1 ≠ z := D.zi1.symm
    have i2z : i2 ≠ z := D.zi2.symm
    refine ⟨.ref s.heap.objs.size, _, I1, rfl, ⟨_, c, d, rfl, I.hok.fresh (Nat.le_refl _), rfl, hcx, hdy⟩, ⟨z'', ?_, ⟨.str ⟨#[c]⟩ t1, .str ⟨#[d]⟩ t2, ?_⟩, ?_, ?_⟩, fun c hcm => ?_⟩
    · exact (sb.2 _ D.TIz).trans (hk _ _ D.TIz D.TITO D.TIi1 D.TIi2 hTI)
    · exact (sb.2 _ D.TOz).trans TO'
    · obtain ⟨o, ho, r⟩ := h1'
      exact ⟨o, (sb.2 _ i1z).trans ho, r⟩
    · obtain ⟨o, ho, r⟩ := h2'
      exact ⟨o, (sb.2 _ i2z).trans ho, r⟩
    · rw [upd_ne (Nat.ne_of_lt (old c hcm))]
      exact (hf c hcm).1
  done := by
    intro X hP hw hK hc i pins s σ H E I hf st hg
    subst hP hw hK
    obtain ⟨hz, hTI, ⟨x0, y0, hTO⟩, h1, h2⟩ := st
    obtain ⟨g1, g2⟩ := hg
    have e12 : y.cps.size = x.cps.size := g2.symm.trans g1
    have D2 := Draws.text (prog := X.prog) (w := X.w) (A := X.A.in1) (I.ok.hd hc) i2 y u
    rw [e12] at D2
    rw [g1] at h1 h2
    exact pyNext_end (I.ok.hd hc) D (Draws.text (prog := X.prog) (w := X.w) (A := X.A.in1) (I.ok.hd hc) i1 x t) D2 hz hTI hTO h1 h2 fun h' hk => ⟨rfl, I.turnedL (t' := s.toks) (ch := [z, TI, TO, i1, i2]) (fun c o hb q =>
      hk c o (fun q' => hb (by simp [q'])) (fun q' => hb (by simp [q'])) (fun q' => hb (by simp [q'])) (fun q' => hb (by simp [q'])) q) hf⟩
  self := fun A i s Q E st h => pyIter_zipS st.1 h
def iZipX (K : PySem.W.Frag) (ta tk : TA) : TI := fun σ H R => ta σ H fun vs H1 => tk σ H1 fun zs H2 => zs = [.bl true] ∧ ∃ x y, vs = [.str x, .str y] ∧ x.length = y.length ∧ R (ItzX x y) H2
theorem pi_zipX {X : Cx} {e e2 : Expr} {ta tk : TA} {p pos tpos : Pos} {elts : List Expr} {kk : Nat} {kws : List Keyword} (hg : Gl X "zip") (hm : X.mg "zip" = none) (ha : PA X [e, e2] ta) (hkw : PK X kws tk)
    (hall : (backToKw pos (keywordEach kws X.env)).all (·.1.isSome) = true := by rfl) (hks : (backToKw pos (keywordEach kws X.env)).filterMap (·.1) = [("strict" : Str)] := by rfl)
    (he : backTo pos (starEach [e, e2] X.env) = (false, eval e X.env) :: backTo pos (starEach [e2] X.env) := by rfl)
    (hpl : (backTo pos (starEach [e, e2] X.env)).any (·.1) = false := by rfl) (hno : (backToKw pos (keywordEach kws X.env)).any (·.1.isNone) = false := by rfl) :
    PI X (.Tuple elts kk tpos) (.Call (.Name "zip" p) [e, e2] kws pos) (iZipX X.K ta tk) := by
  refine ⟨fun pins s σ H R I h => ?_⟩
  refine wpAny_Call_Name_kw (ld_blt I hg hm PyProof.Rows.boot_zip ?_)
  refine cw_type_kw (thn (ha.run pos pins s σ H _ I h) fun us s1 ⟨vs, H1, I1, r1, q1⟩ => ?_) he hpl hall hno
  refine thn (hkw.run pos pins s1 σ H1 _ I1 q1) fun ws s2 ⟨zs, H2, I2, rz, q2⟩ => ?_
  rw [hks]
  obtain ⟨ez, x, y, ex, hl, q⟩ := q2
  subst ex
  subst ez
  obtain ⟨w1, rfl, e1⟩ := vals1 rz
  obtain rfl : w1 = Value.bool true := e1
  cases r1 with
  | cons r rr =>
    cases rr with
    | cons r' rr =>
      cases rr
      obtain ⟨t, rfl⟩ := r
      obtain ⟨u, rfl⟩ := r'
      have fresh5 : ∀ c, c ∈ [s2.heap.objs.size + 4, s2.heap.objs.size + 2, s2.heap.objs.size + 3, s2.heap.objs.size, s2.heap.objs.size + 1] → FpOk X pins H2 c := fun c hcm => by
        have hle : s2.heap.objs.size ≤ c := by
          simp only [List.mem_cons, List.not_mem_nil, or_false] at hcm
          rcases hcm with rfl | rfl | rfl | rfl | rfl <;> omega
        exact I2.fpOk hle (I2.hok.fresh hle)
      show wpAny _ _ (call (.type "zip") [.str x t, .str y u] [(Str.ofString "strict", .bool true)]) _ _ _
      refine call_zipX (begins_text x t) (begins_text y u) trivial trivial fun h' hz hTI hTO g1 g2 hsz hk => pyIter_zipS hz ?_
      have I3 : Inv X pins σ H2 { s2 with heap := h' } := I2.kept (t' := s2.toks) hk
      exact ⟨s2.heap.objs.size + 4, [s2.heap.objs.size + 4, s2.heap.objs.size + 2, s2.heap.objs.size + 3, s2.heap.objs.size, s2.heap.objs.size + 1], _, _, H2, rfl, I3,
        turn_zipX (sep5 s2.heap.objs.size), ⟨hz, hTI, ⟨_, _, hTO⟩, ⟨_, g1, rfl, rfl⟩, ⟨_, g2, rfl, rfl⟩⟩, fresh5, q⟩
/-! ### enumerate(a text) -/
theorem meets_newE {v : Value} {o : Obj} {H : Heap → Prop} (B : Begins v o H) :
    Meets (Builtin.«enumerate.__new__» ⟨[.type "enumerate", v], []⟩) (fun _ R s => H s.heap ∧
      R (.ok (.ret (.ref (s.heap.push o).objs.size))) { s with heap := (s.heap.push o).push { cls := .type "enumerate", data := .fields #[.none, .bool false, .ref s.heap.objs.size, rawInt 0, .none, .none] } }) :=
  .of_wp fun prog w A R s h => by
    obtain ⟨hp, g, d, tk, os⟩ := s; obtain ⟨hl, h⟩ := h
    have hsub := sub_enumerate
    have q1 : ∀ {A' : Around} {E : Value → Shared → Prop} {Q : Value → Shared → Prop}, Q (.ref hp.objs.size) ⟨(hp.push o), g, d, tk, os⟩ → wpAny (model prog w) A' (pyIter v) Q E ⟨hp, g, d, tk, os⟩ :=
      fun q => B.iter prog w _ _ ⟨hp, g, d, tk, os⟩ _ (B.keeps _ _ hl fun b o' e => e) q
    wp_walk using q1
    refine wpAny_stack_any fun st => wpAny_pure ?_
    split
    · rename_i c _ _ _ _ _
      cases (c == Value.type "enumerate")
      · wp_walk using q1
        exact ⟨_, rfl, h⟩
      · wp_walk using q1
        exact ⟨_, rfl, h⟩
    · wp_walk using q1
      exact ⟨_, rfl, h⟩
section
variable {prog : Program} {w : World} {A : Around} {E : Value → Shared → Prop} {s : Shared}
theorem call_enumX {v : Value} {o : Obj} {H : Heap → Prop} {Q : Value → Shared → Prop} (B : Begins v o H) (hl : H s.heap)
    (h : ∀ h', IsEnum h' (s.heap.objs.size + 1) s.heap.objs.size 0 .none → h'.get? s.heap.objs.size = some o → h'.objs.size = s.heap.objs.size + 2 →
      (∀ b o, s.heap.get? b = some o → h'.get? b = some o) → Q (.ref (s.heap.objs.size + 1)) { s with heap := h' }) :
    wpAny (model prog w) A (call (.type "enumerate") [v]) Q E s := by
  refine callType_new F.called_enumerate (by decide) (F.typeCall_enumerate_1 _) (F.newCall_enumerate_1 _) (fun obj => F.args_object_init_2 obj _) F.entry_enumerate_new (meets_newE B) ⟨hl, ?_⟩
  have hz : (s.heap.push o).objs.size = s.heap.objs.size + 1 := Heap.size_push ..
  show _ ∧ _
  rw [hz]
  have he : IsEnum ((s.heap.push o).push { cls := .type "enumerate", data := .fields #[.none, .bool false, .ref s.heap.objs.size, rawInt 0, .none, .none] }) (s.heap.objs.size + 1) s.heap.objs.size 0 .none := by
    have := Heap.get?_push_size (s.heap.push o) (o := { cls := .type "enumerate", data := .fields #[.none, .bool false, .ref s.heap.objs.size, rawInt 0, .none, .none] }) rfl
    rw [hz] at this
    exact this
  exact ⟨⟨_, he, rfl⟩, h _ he (Heap.get?_push_of_some _ (Heap.get?_push_size _ B.free)) (by rw [Heap.size_push, hz]) fun b o x => Heap.get?_push_of_some _ (Heap.get?_push_of_some _ x)⟩
end
def IteX (x : Str) : It :=
  ⟨fun i H => ∃ c, x.cps[i]? = some c, fun i H v H' => ∃ T c, v = .ref T ∧ H T = none ∧ H' = upd H T (.tup [.int (i : Nat), .str ⟨#[c]⟩]) ∧ x.cps[i]? = some c, fun i H => i = x.cps.size⟩
theorem turn_enumX {P : Program} {w : World} {K : PySem.W.Frag} {elts : List Expr} {kk : Nat} {tpos : Pos} (x : Str) (t : Tok) (e it : Addr) (hne : e ≠ it) :
    Turn P w K (.Tuple elts kk tpos) (IteX x) [e, it] e (fun i h => (∃ old, IsEnum h e it (0 + ((i : Nat) : Int)) old) ∧ h.IsStrIter it (strIterType x) x t i) where
  mem := by simp
  obj := fun i h st b hb => by
    obtain ⟨⟨old, he⟩, o, ho, hc, hd⟩ := st
    have e' : b = e ∨ b = it := by simpa using hb
    rcases e' with z | z
    · rw [z]; exact ⟨_, he, fun v q => nomatch q⟩
    · rw [z]; exact ⟨o, ho, fun v q => by rw [hd] at q; cases q⟩
  keep := fun i h h' st k => let ⟨⟨old, he⟩, o, ho, hi⟩ := st; ⟨⟨old, k e (by simp) _ he⟩, o, k it (by simp) o ho, hi⟩
  item := by
    intro X hP hw hK hc i pins s σ H E I hf st hg
    subst hP hw hK
    obtain ⟨c, hcx⟩ := hg
    have W := GoesN.enumFrom (elts := elts) (x1 := kk) (pos := tpos) 0 (Draws.text (prog := X.prog) (w := X.w) (A := X.A.in1) (I.ok.hd hc) it x t) e hne (by simpa using hne) (by simp)
    have li : i < x.cps.size := (Array.getElem?_eq_some_iff.mp hcx).1
    have old : ∀ b ∈ [e, it], b < s.heap.objs.size := fun b hb => by
      obtain ⟨⟨_, he⟩, o, ho, _⟩ := st
      have e' : b = e ∨ b = it := by simpa using hb
      rcases e' with z | z
      · rw [z]; exact Heap.lt_size he
      · rw [z]; exact Heap.lt_size ho
    refine W.goes i s _ E li st fun v h' tk hY st' hk _ => ?_
    obtain ⟨T, t1, x', rfl, hn, ⟨c', t2, hc', rfl⟩, hT⟩ := hY
    rw [hcx] at hc'
    cases hc'
    have new : ObjOk X.prog X.w (upd H T (.tup [.int (i : Nat), .str ⟨#[c]⟩])) h' T (.tup [.int (i : Nat), .str ⟨#[c]⟩]) :=
      ⟨by show 2 ≤ sizeLine; decide, [.int (0 + (i : Int)) t1, .str ⟨#[c]⟩ t2], .cons ⟨t1, by rw [Int.zero_add]⟩ (.cons ⟨_, rfl⟩ .nil), hT⟩
    have I1 : Inv X pins σ (upd H T (.tup [.int (i : Nat), .str ⟨#[c]⟩])) { s with heap := h', toks := tk } := I.turnedNew (t' := tk) (ch := [e, it]) (fun c o hb q => hk c o hb q) hf hn new
    refine ⟨.ref T, _, I1, rfl, ⟨T, c, rfl, I.hok.fresh hn, rfl, hcx⟩, st', fun b hb => ?_⟩
    rw [upd_ne (Nat.ne_of_lt (Nat.lt_of_lt_of_le (old b hb) hn))]
    exact (hf b hb).1
  done := by
    intro X hP hw hK hc i pins s σ H E I hf st hg
    subst hP hw hK
    have W := GoesN.enumFrom (elts := elts) (x1 := kk) (pos := tpos) 0 (Draws.text (prog := X.prog) (w := X.w) (A := X.A.in1) (I.ok.hd hc) it x t) e hne (by simpa using hne) (by simp)
    have g : i = x.cps.size := hg
    subst g
    exact W.stops s _ E st fun h' tk hk _ => I.turnedL (t' := tk) (ch := [e, it]) (fun c o hb q => hk c o hb q) hf
  self := fun A i s Q E st h => let ⟨⟨_, he⟩, _⟩ := st; wpAny_pyIter_enum he h
def iEnumX (K : PySem.W.Frag) (ta : TA) : TI := fun σ H R => ta σ H fun vs H1 => ∃ x, vs = [.str x] ∧ R (IteX x) H1
theorem pi_enumX {X : Cx} {e : Expr} {ta : TA} {p pos tpos : Pos} {elts : List Expr} {kk : Nat} (hg : Gl X "enumerate") (hm : X.mg "enumerate" = none) (ha : PA X [e] ta) (hs : starEach [e] X.env = [(false, eval e X.env)] := by rfl) :
    PI X (.Tuple elts kk tpos) (.Call (.Name "enumerate" p) [e] [] pos) (iEnumX X.K ta) := by
  refine ⟨fun pins s σ H R I h => ?_⟩
  refine Call_ (ld_blt I hg hm boot_enumerate (PyProof.Rows.callWith_type1 (thn (ha.run pos pins s σ H _ I h) fun us s1 ⟨vs, H1, I1, r1, q1⟩ => ?_) hs rfl))
  obtain ⟨x, ex, q⟩ := q1
  subst ex
  cases r1 with
  | cons r rr =>
    cases rr
    obtain ⟨t, rfl⟩ := r
    refine call_enumX (begins_text x t) trivial fun h' he hit hsz hk => wpAny_pyIter_enum he ?_
    have I2 : Inv X pins σ H1 { s1 with heap := h' } := I1.kept (t' := s1.toks) hk
    refine ⟨s1.heap.objs.size + 1, [s1.heap.objs.size + 1, s1.heap.objs.size], _, _, H1, rfl, I2, turn_enumX x t (s1.heap.objs.size + 1) s1.heap.objs.size (Nat.succ_ne_self _), ⟨⟨.none, he⟩, ⟨_, hit, rfl, rfl⟩⟩, fun b hb => ?_, q⟩
    have e' : b = s1.heap.objs.size + 1 ∨ b = s1.heap.objs.size := by simpa using hb
    have hle : s1.heap.objs.size ≤ b := by
      rcases e' with z | z
      · rw [z]; exact Nat.le_add_right _ _
      · rw [z]; exact Nat.le_refl _
    exact I1.fpOk hle (I1.hok.fresh hle)
end DZx
namespace DL
open PySem PySem.Spec PyProof.Rows L2
theorem signsD_get {x : Str} {i : Nat} {d : D} (h : (signsD x)[i]? = some d) : ∃ c, x.cps[i]? = some c ∧ d = .str ⟨#[c]⟩ := by
  unfold signsD at h
  rw [List.getElem?_map] at h
  cases e : x.cps.toList[i]? with
  | none =>
    rw [e] at h
    cases h
  | some c =>
    rw [e] at h
    cases h
    exact ⟨c, by simpa using e, rfl⟩
theorem signsD_len (x : Str) : (signsD x).length = x.length := by
  unfold signsD
  rw [List.length_map]
  rfl
theorem evi_zipX {K : PySem.W.Frag} {Δ : Sl} {G L : List M} {ta tk : TA} {Qi : List D → List M → List M → Prop} (h : EvA K ta Δ G L fun ss G1 L1 => EvA K tk Δ G1 L1 fun zz G2 L2 => zz = [.d (.bl true)] ∧ ∃ x y, ss = [.d (.str x), .d (.str y)] ∧ x.length = y.length ∧ Qi (zipD (signsD x) (signsD y)) G2 L2) : EvI K (DZx.iZipX K ta tk) Δ G L Qi := fun w ls σ H c R q =>
  h w ls σ H c _ fun us ss H2 G2 L2 c2 e2 r2 k2 => k2 w ls σ H2 c2 _ fun zs zz H3 G3 L3 c3 e3 r3 ⟨ez, x, y, e, hl, k⟩ => by
    subst e
    subst ez
    obtain ⟨z, rfl, rz⟩ := pair1 r3
    obtain rfl : z = V.bl true := rz
    obtain ⟨v, u, rfl, ev, eu⟩ := pair2 (RSs.on c2 e3 r2)
    obtain rfl : v = .str x := ev
    obtain rfl : u = .str y := eu
    refine ⟨rfl, x, y, rfl, hl, q _ H3 _ G3 L3 c3 (e2.trans e3) ⟨fun H4 w2 ls2 σ2 Δ2 G4 L4 i d g c4 hi => ?_, fun H4 w2 ls2 g => ?_⟩ k⟩
    · obtain ⟨a, b, ha, hb, rfl⟩ := zipD_get hi
      obtain ⟨c, hc, rfl⟩ := signsD_get ha
      obtain ⟨d, hd, rfl⟩ := signsD_get hb
      refine ⟨⟨c, d, hc, hd⟩, fun u H' ⟨T, c', d', eu, hT, hH, f1, f2⟩ => ?_⟩
      subst hH
      subst eu
      rw [hc] at f1
      rw [hd] at f2
      cases f1
      cases f2
      exact ⟨c4.new hT, Ext.new hT, rep_tup c4 hT ⟨_, _, rfl, rfl, RepL.one rfl⟩⟩
    · have e1 := signsD_len x
      have e2 := signsD_len y
      refine ⟨?_, ?_⟩
      · rw [zipD_len, e1, e2, ← hl, Nat.min_self]
        rfl
      · rw [zipD_len, e1, e2, hl, Nat.min_self]
        rfl
theorem evi_enumX {K : PySem.W.Frag} {Δ : Sl} {G L : List M} {ta : TA} {Qi : List D → List M → List M → Prop} (h : EvA K ta Δ G L fun ss G1 L1 => ∃ x, ss = [.d (.str x)] ∧ Qi (enumD 0 (signsD x)) G1 L1) : EvI K (DZx.iEnumX K ta) Δ G L Qi := fun w ls σ H c R q =>
  h w ls σ H c _ fun us ss H2 G2 L2 c2 e2 r2 ⟨x, e, k⟩ => by
    subst e
    obtain ⟨v, rfl, ev⟩ := pair1 r2
    obtain rfl : v = .str x := ev
    refine ⟨x, rfl, q _ H2 _ G2 L2 c2 e2 ⟨fun H3 w2 ls2 σ2 Δ2 G3 L3 i d g c3 hi => ?_, fun H3 w2 ls2 g => ?_⟩ k⟩
    · obtain ⟨y, hy, rfl⟩ := enumD_get hi
      obtain ⟨c, hc, rfl⟩ := signsD_get hy
      refine ⟨⟨c, hc⟩, fun u H' ⟨T, z, eu, hT, hH, hz⟩ => ?_⟩
      subst hH
      subst eu
      rw [hc] at hz
      cases hz
      rw [Nat.zero_add]
      exact ⟨c3.new hT, Ext.new hT, rep_tup c3 hT ⟨_, _, rfl, rfl, RepL.one rfl⟩⟩
    · show _ = _
      rw [enumD_len, signsD_len]
      rfl
end DL

/-! texts: sorted of any number of them, rstrip, endswith, join, count; a list by a step -/
namespace DSo
open PySem PySem.Spec PyProof.Rows L2
def rSortedA (K : PySem.W.Frag) : List V → Hp → VK → Prop := fun vs H Q => ∃ (a : Addr) (xs : List Str), vs = [V.ref a] ∧ SqL K H a (xs.map V.str) ∧ ∀ (ys : List Str) (p : Addr), ys.Perm xs → sortedS ys = true → H p = none → Q (.ref p) (upd H p (.lst (ys.map V.str)))
theorem uc_sortedA {X : Cx} : CallR X (.builtin "sorted") (rSortedA X.K) := by
  intro pins s σ H vs us Q I r h
  obtain ⟨a, xs, rfl, hs, q⟩ := h
  obtain ⟨its, rv, hl, hz⟩ := I.list hs
  rw [Vals.ref1 r]
  have hlen0 := rv.length
  rw [List.length_map] at hlen0 hz
  refine PyProof.Rows.sorted_strsAny hl.isList rv.strs (by rw [← hlen0]; exact hz) fun out ys h1 h2 h3 => ?_
  obtain ⟨ep, he'⟩ := PyProof.Rows.sortedAll_at s.heap its out
  have hlen : (ys.map V.str).length ≤ sizeLine := by rw [List.length_map, h2.length_eq]; exact hz
  exact ⟨.ref _, upd H (s.heap.objs.size + 1) (.lst (ys.map V.str)), I.laid (t' := s.toks) (fun _ _ => PyProof.Rows.sortedAll_old) (Nat.le_succ _) ⟨hlen, out.toList, ep, vals_of_strs h1, he'⟩, rfl, q ys _ h2 h3 (I.hok.fresh (Nat.le_succ _))⟩
/-! the order of texts -/
def leC : List Nat → List Nat → Bool
  | [], _ => true
  | _ :: _, [] => false
  | a :: r, b :: t => decide (a < b) || (decide (a = b) && leC r t)
theorem leC_lt : ∀ a b : List Nat, (!ltCps b a) = leC a b
  | [], [] => rfl
  | [], _ :: _ => rfl
  | _ :: _, [] => rfl
  | a :: r, b :: t => by
    unfold ltCps leC
    rw [← leC_lt r t]
    by_cases h : a < b
    · have e : (b == a) = false := by simp; omega
      have f : decide (b < a) = false := by simp; omega
      simp [h, e, f]
    · by_cases g : a = b
      · subst g
        simp
      · have f : b < a := by omega
        simp [h, f, g]
theorem leC_refl : ∀ a : List Nat, leC a a = true
  | [] => rfl
  | a :: r => by
    unfold leC
    rw [leC_refl r]
    simp
theorem leC_anti : ∀ a b : List Nat, leC a b = true → leC b a = true → a = b
  | [], [], _, _ => rfl
  | [], _ :: _, _, h => by cases h
  | _ :: _, [], h, _ => by cases h
  | a :: r, b :: t, h, g => by
    unfold leC at h g
    simp only [Bool.or_eq_true, Bool.and_eq_true, decide_eq_true_eq] at h g
    rcases h with h | ⟨h, h2⟩
    · rcases g with g | ⟨g, _⟩ <;> omega
    · rcases g with g | ⟨_, g2⟩
      · omega
      · rw [h, leC_anti r t h2 g2]
theorem leC_trans : ∀ a b c : List Nat, leC a b = true → leC b c = true → leC a c = true
  | [], _, _, _, _ => rfl
  | _ :: _, [], _, h, _ => by cases h
  | _ :: _, _ :: _, [], _, h => by cases h
  | a :: r, b :: t, c :: u, h, g => by
    unfold leC at h g ⊢
    simp only [Bool.or_eq_true, Bool.and_eq_true, decide_eq_true_eq] at h g ⊢
    rcases h with h | ⟨h, h2⟩
    · rcases g with g | ⟨g, _⟩
      · exact .inl (by omega)
      · exact .inl (by omega)
    · rcases g with g | ⟨g, g2⟩
      · exact .inl (by omega)
      · exact .inr ⟨by omega, leC_trans r t u h2 g2⟩
theorem leC_total : ∀ a b : List Nat, (leC a b || leC b a) = true
  | [], _ => rfl
  | _ :: _, [] => rfl
  | a :: r, b :: t => by
    unfold leC
    have := leC_total r t
    simp only [Bool.or_eq_true, Bool.and_eq_true, decide_eq_true_eq] at this ⊢
    rcases Nat.lt_trichotomy a b with h | h | h
    · exact .inl (.inl h)
    · rcases this with q | q
      · exact .inl (.inr ⟨h, q⟩)
      · exact .inr (.inr ⟨h.symm, q⟩)
    · exact .inr (.inl h)
def leT (a b : Str) : Bool := leC a.cps.toList b.cps.toList
theorem leT_anti {a b : Str} (h : leT a b = true) (g : leT b a = true) : a = b := by
  have := leC_anti _ _ h g
  obtain ⟨a⟩ := a
  obtain ⟨b⟩ := b
  simp at this
  rw [this]
theorem leT_trans (a b c : Str) (h : leT a b = true) (g : leT b c = true) : leT a c = true := leC_trans _ _ _ h g
theorem leT_total (a b : Str) : (leT a b || leT b a) = true := leC_total _ _
/-- the sorted texts -/
def srtT (xs : List Str) : List Str := xs.mergeSort leT
theorem srtT_perm (xs : List Str) : (srtT xs).Perm xs := List.mergeSort_perm xs leT
theorem srtT_pw (xs : List Str) : (srtT xs).Pairwise (fun a b => leT a b = true) := List.pairwise_mergeSort leT_trans leT_total xs
theorem srtT_len (xs : List Str) : (srtT xs).length = xs.length := (srtT_perm xs).length_eq
theorem rising_pw : ∀ (l : List Str) (p : Str), risingS p l = true → (p :: l).Pairwise (fun a b => leT a b = true)
  | [], p, _ => by simp
  | x :: r, p, h => by
    unfold risingS at h
    rw [leC_lt, Bool.and_eq_true] at h
    have ih := rising_pw r x h.2
    refine List.pairwise_cons.mpr ⟨fun y hy => ?_, ih⟩
    rcases List.mem_cons.mp hy with e | hy
    · subst e
      exact h.1
    · exact leT_trans _ _ _ h.1 ((List.pairwise_cons.mp ih).1 y hy)
theorem sorted_pw {l : List Str} (h : sortedS l = true) : l.Pairwise (fun a b => leT a b = true) := by
  cases l with
  | nil => exact .nil
  | cons x r => exact rising_pw r x h
theorem uniq : ∀ {l1 l2 : List Str}, l1.Perm l2 → l1.Pairwise (fun a b => leT a b = true) → l2.Pairwise (fun a b => leT a b = true) → l1 = l2
  | [], l2, p, _, _ => (List.Perm.nil_eq p)
  | a :: r, [], p, _, _ => absurd p.length_eq (by simp)
  | a :: r, b :: t, p, h, g => by
    have ha := p.mem_iff.mp (List.mem_cons_self (a := a) (l := r))
    have hb := p.mem_iff.mpr (List.mem_cons_self (a := b) (l := t))
    have e : a = b := by
      rcases List.mem_cons.mp ha with e | ha
      · exact e
      · rcases List.mem_cons.mp hb with e | hb
        · exact e.symm
        · exact leT_anti ((List.pairwise_cons.mp h).1 b hb) ((List.pairwise_cons.mp g).1 a ha)
    subst e
    rw [uniq p.cons_inv (List.pairwise_cons.mp h).2 (List.pairwise_cons.mp g).2]
theorem srtT_eq {xs ys : List Str} (p : ys.Perm xs) (h : sortedS ys = true) : ys = srtT xs := uniq (p.trans (srtT_perm xs).symm) (sorted_pw h) (srtT_pw xs)
theorem srtT_congr {xs ys : List Str} (p : xs.Perm ys) : srtT xs = srtT ys := uniq ((srtT_perm xs).trans (p.trans (srtT_perm ys).symm)) (srtT_pw xs) (srtT_pw ys)
theorem srtT_filter (xs : List Str) (p : Str → Bool) : srtT (xs.filter p) = (srtT xs).filter p :=
  uniq ((srtT_perm _).trans ((srtT_perm xs).symm.filter p)) (srtT_pw _) ((srtT_pw xs).sublist (List.filter_sublist))
/-! a list by a step -/
def pickX {α : Type} (xs : List α) (js : List Nat) : List α := js.filterMap (xs[·]?)
def stepJ (n : Nat) (st : Int) : List Nat := sliceRange (sliceBounds none none (some st) n).1 (sliceBounds none none (some st) n).2.1 (sliceBounds none none (some st) n).2.2
theorem pick_vals {xs : List V} {us : List Value} (r : Vals xs us) : ∀ js : List Nat, Vals (pickX xs js) (pickX us js)
  | [] => .nil
  | j :: js => by
    unfold pickX
    rw [List.filterMap_cons, List.filterMap_cons]
    have ih := pick_vals r js
    unfold pickX at ih
    cases e : xs[j]? with
    | none =>
      have : us[j]? = none := by
        rw [List.getElem?_eq_none_iff] at e ⊢
        rw [← r.length]
        exact e
      rw [this]
      exact ih
    | some x =>
      obtain ⟨u, hu, ru⟩ := r.get e
      rw [hu]
      exact .cons ru ih
theorem slice_pick (us : List Value) (st : Int) : slicePick us.toArray none none (some st) = (pickX us (stepJ us.length st)).toArray := by
  unfold slicePick pickX stepJ
  rw [List.size_toArray]
  congr 2
  funext j
  simp
def tStepU (K : PySem.W.Frag) (st : Int) (te : TE) : TE := fun σ H Q => te σ H fun x H1 => ∃ a xs, x = .ref a ∧ SqL K H1 a xs ∧ ∀ p, H1 p = none → Q (.ref p) (upd H1 p (.lst (pickX xs (stepJ xs.length st))))
theorem pe_stepU {X : Cx} {e : Expr} {te : TE} {n : Int} {k : Nat} {p1 p2 p3 pos : Pos} (hn : -n ≠ 0) (he : PE X e te) : PE X (.Subscript e (.Slice none none (some (.UnaryOp .USub (.Constant (.int n) k p1) p2)) p3) pos) (tStepU X.K (-n) te) := by
  refine ⟨fun pins s σ H Q I h => Subscript_ (thn (he.run pins s σ H _ I h) fun v s1 ⟨x, H1, I1, r1, a, xs, ex, hx, q⟩ => ?_)⟩
  subst ex
  cases r1
  have hst : PO X (some (.UnaryOp .USub (.Constant (.int n) k p1) p2)) (tPart (tUn (rU fun i => .int (-i)) (tC (.int n)))) := po_some (pe_un un_neg pe_int)
  refine wpAny_Slice (thn (po_none.run pins s1 σ H1 (fun o H2 => o = none ∧ H2 = H1) I1 ⟨rfl, rfl⟩) fun vl s2 ⟨l, H2, I2, pl, el, e2⟩ => ?_)
  subst el e2
  refine thn (po_none.run pins s2 σ H2 (fun o H3 => o = none ∧ H3 = H2) I2 ⟨rfl, rfl⟩) fun vu s3 ⟨u, H3, I3, pu, eu, e3⟩ => ?_
  subst eu e3
  refine thn (hst.run pins s3 σ H3 (fun o H4 => o = some (-n) ∧ H4 = H3) I3 ⟨n, rfl, -n, rfl, rfl, rfl⟩) fun vs s4 ⟨o, H4, I4, ps, eo, e4⟩ => ?_
  subst eo e4
  have I5 : Inv X pins σ H4 { s4 with heap := s4.heap.push { cls := .type "slice", data := .fields #[vl, vu, vs] } } := I4.kept (t' := s4.toks) fun b ob q => Heap.get?_push_of_some _ q
  show wpAny (model X.prog X.w) X.A (subscriptTail e (.Slice none none (some (.UnaryOp .USub (.Constant (.int n) k p1) p2)) p3) (.ref a) (.ref s4.heap.objs.size)) (EP X pins σ Q) X.xe { s4 with heap := s4.heap.push { cls := .type "slice", data := .fields #[vl, vu, vs] } }
  obtain ⟨its, r, ht, hz⟩ := I5.list hx
  have hlen := r.length
  refine tail_any (ops := [.ref a, .ref s4.heap.objs.size]) ht.isList.typeIs (PySem.slot_list_getitem.lookup) ?_ (by with_unfolding_all rfl)
  refine wpAny_getItem_list_slice ht.isList (Heap.IsSliceOf.new _ vl vu vs) pl pu ps (by simpa using hn) ?_ (by rw [List.size_toArray]; omega)
  have hle := slicePick_size_le its.toArray none none (some (-n))
  rw [slice_pick] at hle ⊢
  rw [List.size_toArray, List.size_toArray, ← hlen] at hle
  have rp := pick_vals r (stepJ its.length (-n))
  have hl2 := rp.length
  rw [hlen] at q
  refine ⟨.ref _, _, I5.laid (t' := s4.toks) (o := .lst (pickX xs (stepJ its.length (-n)))) (fun b ob q => Heap.get?_push_of_some _ q) (Nat.le_refl _) ?_, rfl, q _ (I5.hok.fresh (Nat.le_refl _))⟩
  exact ⟨by rw [hl2]; rw [hlen] at hle; omega, _, 0, rp, Heap.get?_push_size _ rfl⟩
end DSo
namespace DL
open PySem PySem.Spec PyProof.Rows L2 DSo
section
variable {K : PySem.W.Frag} {Δ : Sl} {G L : List M} {Qd : Po} {Qn : PoN} {te : TE}
theorem ap_sortedX {s : S} (h : ∃ xs : List Str, lsG G L s = some (xs.map D.str) ∧ Qn (.pl ((srtT xs).map D.str)) G L) : ApN K (rSortedA K) [s] Δ G L Qn := fun w ls σ H vs c rs Q q => by
  obtain ⟨xs, hx, k⟩ := h
  obtain ⟨v, rfl, r⟩ := pair1 rs
  obtain ⟨a, us, rfl, h1, q1⟩ := lsG_get c r hx
  have e := RepL.strsV q1
  subst e
  refine ⟨a, xs, rfl, .inl (.inl h1), fun ys p py hy hp => ?_⟩
  have e := srtT_eq py hy
  subst e
  exact q p _ _ _ _ hp (newAt_pl c hp RepL.strs) (Ext.new hp) k
theorem repL_pick {H : Hp} {R : Addr → Prop} {ds : List D} {vs : List V} (r : RepL K H R ds vs) : ∀ js : List Nat, RepL K H R (pickX ds js) (pickX vs js)
  | [] => rfl
  | j :: js => by
    unfold pickX
    rw [List.filterMap_cons, List.filterMap_cons]
    have ih := repL_pick r js
    unfold pickX at ih
    cases e : ds[j]? with
    | none =>
      have : vs[j]? = none := by
        rw [List.getElem?_eq_none_iff] at e ⊢
        rw [r.length]
        exact e
      rw [this]
      exact ih
    | some x =>
      obtain ⟨u, hu, ru⟩ := r.get e
      rw [hu]
      exact ⟨_, _, rfl, ru, ih⟩
theorem evn_stepU {st : Int} (h : EvC K te Δ G L fun x G1 L1 => ∃ ds, lsG G1 L1 x = some ds ∧ Qn (.pl (pickX ds (stepJ ds.length st))) G1 L1) : EvN K (tStepU K st te) Δ G L Qn := fun w ls σ H c Q ret => h w ls σ H c _ fun v s H2 G2 L2 c2 e2 r2 ⟨ds, hd, k⟩ => by
  obtain ⟨a, xs, rfl, h1, q1⟩ := lsG_get c2 r2 hd
  refine ⟨a, xs, rfl, .inl (.inl h1), fun p hp => ?_⟩
  rw [q1.length]
  exact ret p _ _ _ _ (none_back c2 e2 hp) (newAt_pl c2 hp (repL_pick q1 _)) (e2.trans (Ext.new hp)) k
/-- methods of a text -/
theorem mt_endsD {z y : Str} (k : Qd (.d (.bl (Txt.endswith z y))) G L) : MtC K (fun x xs H Q => ∃ a b, x = .str a ∧ xs = [.str b] ∧ Q (.bl (Txt.endswith a b)) H) (.d (.str z)) [.d (.str y)] Δ G L Qd := fun w ls σ H vo vs c ro rs Q ret => by
  obtain ⟨u, rfl, ru⟩ := pair1 rs
  exact ⟨z, y, ro, by rw [show u = V.str y from ru], ret.go c Ext.refl (s := .d (.bl (Txt.endswith z y))) rfl k⟩
theorem mt_rstripD {z y : Str} (hz : z.length ≤ sizeLine) (k : Qd (.d (.str (Txt.rstripChars z y))) G L) : MtC K (fun x xs H Q => ∃ a b, x = .str a ∧ xs = [.str b] ∧ a.length ≤ sizeLine ∧ Q (.str (Txt.rstripChars a b)) H) (.d (.str z)) [.d (.str y)] Δ G L Qd := fun w ls σ H vo vs c ro rs Q ret => by
  obtain ⟨u, rfl, ru⟩ := pair1 rs
  exact ⟨z, y, ro, by rw [show u = V.str y from ru], hz, ret.go c Ext.refl (s := .d (.str (Txt.rstripChars z y))) rfl k⟩
theorem mt_countD {z y : Str} (k : Qd (.d (.int (Txt.count z y))) G L) : MtC K (fun x xs H Q => ∃ a b, x = .str a ∧ xs = [.str b] ∧ Q (.int (Txt.count a b)) H) (.d (.str z)) [.d (.str y)] Δ G L Qd := fun w ls σ H vo vs c ro rs Q ret => by
  obtain ⟨u, rfl, ru⟩ := pair1 rs
  exact ⟨z, y, ro, by rw [show u = V.str y from ru], ret.go c Ext.refl (s := .d (.int (Txt.count z y))) rfl k⟩
theorem mt_joinD {z : Str} {s : S} (h : ∃ xs : List Str, lsG G L s = some (xs.map D.str) ∧ (xs.map (·.length)).sum + xs.length * z.length ≤ 16777216 ∧ Qd (.d (.str (Txt.join z xs))) G L) : MtC K (fun x xs H Q => ∃ a p, ∃ ys : List Str, x = .str a ∧ xs = [.ref p] ∧ (SqL K H p (ys.map V.str) ∨ SqT K H p (ys.map V.str)) ∧
      (ys.map (·.length)).sum + ys.length * a.length ≤ 16777216 ∧ Q (.str (Txt.join a ys)) H) (.d (.str z)) [s] Δ G L Qd := fun w ls σ H vo vs c ro rs Q ret => by
  obtain ⟨xs, hx, hl, k⟩ := h
  obtain ⟨u, rfl, ru⟩ := pair1 rs
  obtain ⟨a, us, rfl, h1, q1⟩ := lsG_get c ru hx
  have e := RepL.strsV q1
  subst e
  exact ⟨z, a, xs, ro, rfl, .inl (.inl (.inl h1)), hl, ret.go c Ext.refl (s := .d (.str (Txt.join z xs))) rfl k⟩
end
end DL

namespace DL
open PySem PySem.Spec PyProof.Rows L2
section
variable {K : PySem.W.Frag} {Δ : Sl} {G L : List M} {Qn : PoN} {wi : TI} {g : TG} {tt : TT} {te : TE} {vs : List Nat}
/-- a comprehension that changes nothing, over the pictures of things of any kind -/
theorem evn_lcM {α : Type} (xs : List α) (f : α → D) (keep : α → Bool) (val : α → D) (h : EvI K wi Δ G L fun items G1 L1 => items = xs.map f ∧ xs.length < sizeLine ∧
    (∀ a ∈ xs, TgC K g (· ∈ vs) (.d (f a)) (wipeD Δ vs) G1 L1 fun Δ2 G2 L2 => EvB K tt Δ2 G2 L2 fun b G3 L3 => b = keep a ∧ (b = true → EvC K te Δ2 G3 L3 fun s G4 L4 => s = .d (val a) ∧ G4 = G1 ∧ L4 = L1) ∧ (b = false → G3 = G1 ∧ L3 = L1)) ∧
    Qn (.pl ((xs.filter keep).map val)) G1 L1) : EvN K (tLc wi g tt te vs) Δ G L Qn := by
  refine evn_lc fun w ls σ H c R q => h w ls σ H c R fun J H1 items G1 L1 c1 e1 it ⟨ex, hz, hs, hq⟩ => q J H1 items G1 L1 c1 e1 it ?_
  subst ex
  refine ⟨fun i acc G' L' => G' = G1 ∧ L' = L1 ∧ acc = ((xs.take i).filter keep).map val, ⟨rfl, rfl, by rw [List.take_zero]; rfl⟩, by rw [List.length_map]; exact hz, ?_, ?_⟩
  · rintro i d acc G' L' hd _ ⟨rfl, rfl, rfl⟩
    rw [List.getElem?_map] at hd
    cases e : xs[i]? with
    | none =>
      rw [e] at hd
      cases hd
    | some a =>
      rw [e] at hd
      cases hd
      have e2 : xs.take (i + 1) = xs.take i ++ [a] := by
        rw [List.take_succ, e]
        rfl
      intro w ls σ H v c r Q k
      refine hs a (List.mem_of_getElem? e) w ls σ H v c r Q fun σ' H' Δ' G2 L2 c' e' l' o' hb => k σ' H' Δ' G2 L2 c' e' l' o' ?_
      intro w ls σ H c Q k
      refine hb w ls σ H c Q fun b H' G3 L3 c' e' ⟨h1, h2, h3⟩ => k b H' G3 L3 c' e' ?_
      cases b with
      | true =>
        refine iteTT ((h2 rfl).imp fun s G4 L4 ⟨h4, h5, h6⟩ => ⟨val a, h4, h5, h6, ?_⟩)
        rw [e2, List.filter_append, List.map_append, List.filter_cons, if_pos h1.symm]
        rfl
      | false =>
        obtain ⟨h4, h5⟩ := h3 rfl
        refine iteFF ⟨h4, h5, ?_⟩
        rw [e2, List.filter_append, List.map_append, List.filter_cons, if_neg (by rw [← h1]; decide)]
        exact (List.append_nil _).symm
  · rintro acc G' L' ⟨rfl, rfl, rfl⟩
    rw [List.length_map, List.take_length]
    exact hq
theorem enumD_map {α : Type} (f : α → D) : ∀ (xs : List α) (n : Nat), enumD n (xs.map f) = (xs.zipIdx n).map fun p => .tup [.int (p.2 : Int), f p.1]
  | [], _ => rfl
  | x :: xs, n => by
    rw [List.zipIdx_cons, List.map_cons, List.map_cons, ← enumD_map f xs (n + 1)]
    rfl
theorem zipD_map {α β : Type} (f : α → D) (g : β → D) : ∀ (xs : List α) (ys : List β), zipD (xs.map f) (ys.map g) = (xs.zip ys).map fun p => .tup [f p.1, g p.2]
  | [], _ => rfl
  | _ :: _, [] => rfl
  | x :: xs, y :: ys => by
    rw [List.zip_cons_cons, List.map_cons, List.map_cons, List.map_cons, ← zipD_map f g xs ys]
    rfl
end
end DL

/-! sets of texts: set(a list of texts), sorted of it, len of it -/
namespace DSt
open PySem PySem.Spec PyProof.Rows L2
def keyS (e : Int × Value) : Str := match e.2 with | .str k _ => k | _ => Str.empty
def GoodS (P : Program) (w : World) (e : Int × Value) : Prop := ∃ k tk, e.2 = Value.str k tk ∧ e.1 = (PySem.strKind P w).hash k

/-- the set of texts at a -/
def SetS (P : Program) (w : World) (h : Heap) (a : Addr) (S : Str → Bool) (n : Nat) : Prop :=
  ∃ o es ep t, h.get? a = some o ∧ o.ExactSet ∧ o.data = .set es ep t ∧ (∀ e ∈ es.toList, GoodS P w e) ∧ (es.toList.map keyS).Nodup ∧ (∀ k, S k = true ↔ k ∈ es.toList.map keyS) ∧
    es.size < scanBound ∧ t.fits es.size = true ∧ es.size = n ∧ Ris t.place.toList ∧ (w.params.followText "set-order" = true ∨ t.led = true)

section
variable {P : Program} {w : World} {h h' : Heap} {a : Addr} {S : Str → Bool} {n : Nat}

theorem SetS.at (R : SetS P w h a S n) (k : ∀ o, h.get? a = some o → h'.get? a = some o) : SetS P w h' a S n := by
  obtain ⟨o, es, ep, t, ho, r⟩ := R
  exact ⟨o, es, ep, t, k o ho, r⟩
theorem SetS.lt (R : SetS P w h a S n) : a < h.objs.size := by
  obtain ⟨o, es, ep, t, ho, r⟩ := R
  exact Heap.lt_size ho
theorem SetS.congr {S' : Str → Bool} (R : SetS P w h a S n) (e : ∀ k, S' k = S k) : SetS P w h a S' n := by
  have q : S' = S := funext e
  rw [q]; exact R
theorem good_elems {l : List (Int × Value)} (g : ∀ e ∈ l, GoodS P w e) : ElemsOf (PySem.strKind P w) l := fun e he => by
  obtain ⟨k, tk, h1, h2⟩ := g e he
  exact ⟨⟨k, by rw [h1]; exact strKind_is P w k tk, h2⟩, by rw [h1] <;> rfl⟩
theorem good_is {e : Int × Value} (g : GoodS P w e) (k : Str) : (PySem.strKind P w).is k e.2 = true ↔ keyS e = k := by
  obtain ⟨k0, tk, h1, _⟩ := g
  unfold keyS
  rw [h1]
  show ((k0 == k) = true) ↔ k0 = k
  exact beq_iff_eq
theorem good_mem {l : List (Int × Value)} (g : ∀ e ∈ l, GoodS P w e) (k : Str) : k ∈ l.map keyS ↔ ∃ e ∈ l, (PySem.strKind P w).is k e.2 = true := by
  rw [List.mem_map]
  constructor
  · rintro ⟨e, he, q⟩
    exact ⟨e, he, (good_is (g e he) k).2 q⟩
  · rintro ⟨e, he, q⟩
    exact ⟨e, he, (good_is (g e he) k).1 q⟩
theorem SetS.setOf (R : SetS P w h a S n) : h.SetOf (PySem.strKind P w) a S n := by
  obtain ⟨o, es, ep, t, ho, hx, hd, g, nd, hm, hb, hf, hn, _⟩ := R
  exact ⟨o, es, ep, t, ho, hx, hd, good_elems g, fun k => (hm k).trans (good_mem g k), hb, hf, hn⟩
end

section
variable {P : Program} {w : World} {A : Around} {E : Value → Shared → Prop} {s : Shared} {a : Addr} {S : Str → Bool} {n : Nat}

/-! ### add -/
theorem setS_add_tail {g : Bool → Sem Unit} (hg : ∀ (b : Bool) (s₁ : Shared) (Q' : Unit → Shared → Prop), Q' () s₁ → wpAny (model P w) A (g b) Q' E s₁)
    {o : Obj} {es : Array (Int × Value)} {ep : Nat} {t : SetTable} (ho : s.heap.get? a = some o) (hex : o.ExactSet) (hd : o.data = .set es ep t)
    {es1 : Array (Int × Value)} {t2 : SetTable} {S' : Str → Bool} (g1 : ∀ e ∈ es1.toList, GoodS P w e) (nd1 : (es1.toList.map keyS).Nodup) (m1 : ∀ k, S' k = true ↔ k ∈ es1.toList.map keyS)
    (hb1 : es1.size < scanBound) (hf2 : t2.fits es1.size = true) (hr : Ris t2.place.toList) (hl : w.params.followText "set-order" = true ∨ t2.led = true) {wasDummy : Bool} {R : Option Bool → Shared → Prop}
    (hR : ∀ h', Heap.SameBut a s.heap h' → SetS P w h' a S' es1.size → R (some true) { s with heap := h' }) :
    wpAny (model P w) A (do
        storeSet a es1 t2
        if (!wasDummy && t2.tooFull) = true then do
            g (relayAll t2 es1 (SetTable.grown es1.size)).2.2
            storeSet a (relayAll t2 es1 (SetTable.grown es1.size)).1 (relayAll t2 es1 (SetTable.grown es1.size)).2.1
            pure (some true)
          else pure (some true)) R E s := by
  refine wpAny_bind (wpAny_storeSet_of ho hd ?_ (fits_of_scanBound hb1))
  have ho1 := store_at (es' := es1) (t' := t2) ho hd
  have sb1 := Heap.SameBut.update s.heap a (Obj.putSet es1 t2)
  split
  · have pm := relayAll_perm t2 es1 (SetTable.grown es1.size)
    have hf3 := relayAll_fits t2 es1 (SetTable.grown es1.size)
    have hr3 := relayAll_ris t2 es1 (SetTable.grown es1.size)
    have hl3 := relayAll_led t2 es1 (SetTable.grown es1.size)
    generalize relayAll t2 es1 (SetTable.grown es1.size) = Z at pm hf3 hr3 hl3 ⊢
    obtain ⟨es2, t3, gave⟩ := Z
    dsimp only at pm hf3 hr3 hl3 ⊢
    have hsz : es2.size = es1.size := by rw [← Array.length_toList, pm.length_eq, Array.length_toList]
    have hb2 : es2.size < scanBound := by rw [hsz]; exact hb1
    refine wpAny_bind (hg _ _ _ ?_)
    refine wpAny_bind (wpAny_storeSet_of ho1 rfl ?_ (fits_of_scanBound hb2))
    have ho2 := store_at (es' := es2) (t' := t3) ho1 rfl
    refine wpAny_pure (hR _ (sb1.trans (Heap.SameBut.update _ a _)) ?_)
    exact ⟨_, es2, _, t3, ho2, hex, rfl, fun e he => g1 e (pm.mem_iff.mp he), (pm.map keyS).nodup_iff.mpr nd1, fun k => (m1 k).trans (pm.map keyS).mem_iff.symm, hb2, hf3, hsz, hr3,
      hl.imp id fun z => by rw [hl3]; exact z⟩
  · exact wpAny_pure (hR _ sb1 ⟨_, es1, _, t2, ho1, hex, rfl, g1, nd1, m1, hb1, hf2, rfl, hr, hl⟩)

theorem setS_add_hashed {k : Str} {tk : Tok} {Q : Bool → Shared → Prop} (R : SetS P w s.heap a S n) (room : n + 1 < scanBound)
    (hQ : ∀ h', Heap.SameBut a s.heap h' → SetS P w h' a (fun j => S j || decide (j = k)) (if S k = true then n else n + 1) → Q (!S k) { s with heap := h' }) :
    wpAny (model P w) A (setAddHashed a (Value.str k tk) ((PySem.strKind P w).hash k)) Q E s := by
  obtain ⟨o, es, ep, t, ho, hex, hd, g, nd, hm, hb, hf, hn, hr, hl⟩ := R
  have hkey : (PySem.strKind P w).is k (Value.str k tk) = true := strKind_is P w k tk
  have hsc : (Value.str k tk).scannable = true := rfl
  have hel : ElemsOf (PySem.strKind P w) es.toList := good_elems g
  unfold setAddHashed setAddHashedIn
  refine wpAny_holding (wpAny_bind (wpAny_setState_of ho hd hf ?_))
  dsimp only
  rw [byScan_of hsc hb hel]
  simp only [↓reduceIte]
  unfold setAddByScan
  refine wpAny_bind ?_
  refine wpAny_bind (wpAny_rule ?_)
  refine wpAny_bind (wpAny_setScan_of hkey ho hd hf hel ?_)
  cases hfi : List.findIdx? (fun e => (PySem.strKind P w).is k e.2) es.toList with
  | some j =>
    dsimp only
    obtain ⟨hj, pj, _⟩ := List.findIdx?_eq_some_iff_getElem.mp hfi
    have hSk : S k = true := (hm k).2 ((good_mem (P := P) (w := w) g k).2 ⟨es.toList[j], List.getElem_mem hj, pj⟩)
    refine wpAny_pure (wpAny_pure ?_)
    have q := hQ s.heap (Heap.SameBut.refl a s.heap) ⟨o, es, ep, t, ho, hex, hd, g, nd, fun i => by
      rw [Bool.or_eq_true, decide_eq_true_eq, ← hm i]
      exact ⟨fun z => z.elim id (fun e => e ▸ hSk), .inl⟩, hb, hf, by rw [if_pos hSk]; exact hn, hr, hl⟩
    rw [hSk] at q
    exact q
  | none =>
    dsimp only
    have hnk : k ∉ es.toList.map keyS := fun z => by
      obtain ⟨e, he, q⟩ := (good_mem (P := P) (w := w) g k).1 z
      have c := List.findIdx?_eq_none_iff.mp hfi e he
      rw [q] at c
      cases c
    have hSk : S k = false := by
      cases q : S k with
      | false => rfl
      | true => exact absurd ((hm k).1 q) hnk
    have hgw : ∀ (b : Bool) {s₁ : Shared} {Q' : Unit → Shared → Prop}, Q' () s₁ → wpAny (model P w) A (match b with | true => rule "set.scan.the-table-gave-way" | false => pure ()) Q' E s₁ :=
      fun b s₁ Q' q => by cases b <;> first | exact wpAny_pure q | exact wpAny_rule q
    have pm := layNew_perm t es ((PySem.strKind P w).hash k) (Value.str k tk)
    have hf1 := layNew_fits t es ((PySem.strKind P w).hash k) (Value.str k tk)
    have hr1 := layNew_ris t es ((PySem.strKind P w).hash k) (Value.str k tk) hr
    have hl1 := layNew_led t es ((PySem.strKind P w).hash k) (Value.str k tk)
    generalize layNew t es ((PySem.strKind P w).hash k) (Value.str k tk) = Z at pm hf1 hr1 hl1 ⊢
    obtain ⟨es1, t1, wasDummy, gave⟩ := Z
    dsimp only at pm hf1 hr1 hl1 ⊢
    rw [Array.toList_push] at pm
    have pc : es1.toList.Perm (((PySem.strKind P w).hash k, Value.str k tk) :: es.toList) := pm.trans (List.perm_append_singleton _ _)
    have pk : (es1.toList.map keyS).Perm (k :: es.toList.map keyS) := pc.map keyS
    have g1 : ∀ e ∈ es1.toList, GoodS P w e := fun e he => by
      rcases List.mem_cons.mp (pc.mem_iff.mp he) with z | z
      · rw [z]; exact ⟨k, tk, rfl, rfl⟩
      · exact g e z
    have nd1 : (es1.toList.map keyS).Nodup := pk.nodup_iff.mpr (List.nodup_cons.mpr ⟨hnk, nd⟩)
    have m1 : ∀ i, (S i || decide (i = k)) = true ↔ i ∈ es1.toList.map keyS := fun i => by
      rw [Bool.or_eq_true, decide_eq_true_eq, hm i, pk.mem_iff, List.mem_cons]
      exact Or.comm
    have hsz : es1.size = n + 1 := by rw [← Array.length_toList, pc.length_eq, List.length_cons, Array.length_toList, hn]
    have hb1 : es1.size < scanBound := by rw [hsz]; exact room
    have hled : w.params.followText "set-order" = true ∨ t1.led = true := hl.imp id fun z => by rw [hl1]; exact z
    have fin : ∀ h', Heap.SameBut a s.heap h' → SetS P w h' a (fun j => S j || decide (j = k)) es1.size → Q true { s with heap := h' } := fun h' sb r => by
      have q := hQ h' sb
      rw [hSk] at q
      rw [hsz] at r
      exact q r
    refine wpAny_bind (hgw _ ?_)
    split
    · refine wpAny_bind ?_
      rw [hashByValue_scannable 8 hsc]
      refine wpAny_pure ?_
      refine setS_add_tail ?_ ho hex hd g1 nd1 m1 hb1 ?_ ?_ ?_ ?_
      · intro b s₁ Q' q; cases b <;> first | exact wpAny_pure q | exact wpAny_rule q
      · first | (split <;> first | exact hf1 | exact SetTable.fits_plain_off hf1) | exact hf1
      · first | (split <;> exact hr1) | exact hr1
      · first | (split <;> exact hled) | exact hled
      · intro h' sb r; dsimp only; exact wpAny_pure (fin h' sb r)
    · refine wpAny_bind (wpAny_pure ?_)
      simp only [↓reduceIte]
      refine setS_add_tail ?_ ho hex hd g1 nd1 m1 hb1 hf1 hr1 hled ?_
      · intro b s₁ Q' q; cases b <;> first | exact wpAny_pure q | exact wpAny_rule q
      · intro h' sb r; dsimp only; exact wpAny_pure (fin h' sb r)

end

/-- the texts that a list brings in, each once -/
def metS (xs : List Str) : List Str := xs.foldl (fun σ v => if σ.any (· == v) then σ else σ ++ [v]) []
theorem metS_snoc (xs : List Str) (v : Str) : metS (xs ++ [v]) = if (metS xs).any (· == v) then metS xs else metS xs ++ [v] := by
  unfold metS
  rw [List.foldl_append]
  rfl
theorem any_mem {l : List Str} {v : Str} : l.any (· == v) = true ↔ v ∈ l := by
  rw [List.any_eq_true]
  constructor
  · rintro ⟨x, hx, e⟩
    rw [← beq_iff_eq.mp e]
    exact hx
  · exact fun h => ⟨v, h, beq_self_eq_true v⟩
theorem snoc_ind {p : List Str → Prop} (h0 : p []) (h1 : ∀ xs v, p xs → p (xs ++ [v])) (xs : List Str) : p xs := by
  have key : ∀ ys : List Str, p ys.reverse := by
    intro ys
    induction ys with
    | nil => exact h0
    | cons v ys ih =>
      rw [List.reverse_cons]
      exact h1 _ _ ih
  have := key xs.reverse
  rwa [List.reverse_reverse] at this
theorem metS_ind : ∀ xs : List Str, (∀ v, v ∈ metS xs ↔ v ∈ xs) ∧ (metS xs).Nodup := by
  intro xs
  refine snoc_ind (p := fun xs => (∀ v, v ∈ metS xs ↔ v ∈ xs) ∧ (metS xs).Nodup) ⟨fun v => Iff.rfl, List.nodup_nil⟩ ?_ xs
  · intro xs v ih
    rw [metS_snoc]
    by_cases h : v ∈ metS xs
    · rw [if_pos (any_mem.mpr h)]
      refine ⟨fun u => ?_, ih.2⟩
      rw [ih.1, List.mem_append, List.mem_singleton]
      exact ⟨.inl, fun z => z.elim id fun e => by rw [e]; exact (ih.1 v).mp h⟩
    · rw [if_neg (fun z => h (any_mem.mp z))]
      refine ⟨fun u => ?_, ?_⟩
      · rw [List.mem_append, List.mem_append, ih.1]
      · rw [List.nodup_append]
        exact ⟨ih.2, by simp, fun a ha b hb => by
          rw [List.mem_singleton] at hb
          intro e
          subst e
          subst hb
          exact h ha⟩
theorem metS_mem {xs : List Str} {v : Str} : v ∈ metS xs ↔ v ∈ xs := (metS_ind xs).1 v
theorem metS_nodup (xs : List Str) : (metS xs).Nodup := (metS_ind xs).2
theorem metS_mono (xs : List Str) (v : Str) : (metS xs).length ≤ (metS (xs ++ [v])).length := by
  rw [metS_snoc]
  split
  · exact Nat.le_refl _
  · rw [List.length_append]
    exact Nat.le_add_right _ _
theorem metS_take (xs : List Str) : ∀ i, (metS (xs.take i)).length ≤ (metS xs).length := by
  intro i
  have key : ∀ ys zs : List Str, (metS ys).length ≤ (metS (ys ++ zs)).length := by
    intro ys zs
    refine snoc_ind (p := fun zs => (metS ys).length ≤ (metS (ys ++ zs)).length) (by rw [List.append_nil]; exact Nat.le_refl _) ?_ zs
    intro zs v ih
    rw [← List.append_assoc]
    exact Nat.le_trans ih (metS_mono _ _)
  have := key (xs.take i) (xs.drop i)
  rw [List.take_append_drop] at this
  exact this
section
variable {P : Program} {w : World} {A : Around} {R : Result → Shared → Prop} {I : Addr} {fp wr : List Addr} {G : Array GenState → Array GenState → Prop} {n : Nat} {Pv : Nat → Value → Prop} {St : Nat → Shared → Prop}
theorem loopS (W : WalksS P w A.in1 I fp wr G n Pv St) (S : Addr) (hSf : S ∉ fp) (xs : List Str) (hsz : xs.length = n) (hfew : (metS xs).length + 1 < scanBound)
    (hval : ∀ i v, Pv i v → ∃ t, v = .str (xs.getD i Str.empty) t) :
    ∀ (k i : Nat) (s : Shared), n - i = k → i ≤ n → St i s → SetS P w s.heap S (fun j => (metS (xs.take i)).any (· == j)) (metS (xs.take i)).length →
      (∀ s', Moved (S :: wr) G s s' → SetS P w s'.heap S (fun j => (metS xs).any (· == j)) (metS xs).length → R (.ok (.ret .none)) s') →
      codeAny (model P w) A (.builtin "set.update.loop" ⟨[.ref S, .ref I], []⟩) R s := by
  have hSw : S ∉ wr := fun h => hSf (W.sub _ h)
  have hsub : ∀ b ∈ wr, b ∈ S :: wr := fun b hb => List.mem_cons_of_mem _ hb
  intro k
  induction k with
  | zero =>
    intro i s hk hi hst hS hR
    have hin : i = n := by omega
    subst hin
    rw [← hsz, List.take_length] at hS
    refine codeAny_builtin PyProof.Rows.F.entry_set_update_loop ?_
    rw [Around.under_plainId PyProof.Rows.F.plain_set_update_loop _]
    show wpAny _ A.in1 (pyNext (.ref I) >>= _) _ _ s
    refine wpAny_bind (W.done s _ _ hst fun s' hm => ?_)
    show wpAny _ A.in1 (ret Value.none) _ _ s'
    exact wpAny_pure (hR s' (hm.mono hsub) (hS.at fun o e => hm.heap S _ hSw e))
  | succ k ih =>
    intro i s hk hi hst hS hR
    have hlt : i < n := by omega
    refine codeAny_builtin PyProof.Rows.F.entry_set_update_loop ?_
    rw [Around.under_plainId PyProof.Rows.F.plain_set_update_loop _]
    show wpAny _ A.in1 (pyNext (.ref I) >>= _) _ _ s
    refine wpAny_bind (W.item i s _ _ hlt hst fun v s' hP hst' hm => ?_)
    obtain ⟨t, rfl⟩ := hval i v hP
    have hS' : SetS P w s'.heap S (fun j => (metS (xs.take i)).any (· == j)) (metS (xs.take i)).length := hS.at fun o e => hm.heap S _ hSw e
    have hget : xs[i]? = some (xs.getD i Str.empty) := by
      rw [List.getD_eq_getElem?_getD, List.getElem?_eq_getElem (by omega)]
      rfl
    generalize xs.getD i Str.empty = x at hget
    have htk : xs.take (i + 1) = xs.take i ++ [x] := by
      rw [List.take_succ, hget]
      rfl
    show wpAny _ A.in1 (holding [Value.str x t] (setAdd S (.str x t)) >>= _) _ _ s'
    refine wpAny_bind (wpAny_holding ?_)
    unfold setAdd
    refine wpAny_holding ?_
    refine wpAny_bind ((PySem.strKind P w).pyHash (k := x) (strKind_is _ _ _ _) ?_)
    have hroom : (metS (xs.take i)).length + 1 < scanBound := Nat.lt_of_le_of_lt (Nat.succ_le_succ (metS_take xs i)) hfew
    refine setS_add_hashed (s := { s' with toks := s'.toks + 1 }) hS' hroom fun h' hsb hS2 => ?_
    have hSi : SetS P w h' S (fun j => (metS (xs.take (i + 1))).any (· == j)) (metS (xs.take (i + 1))).length := by
      rw [htk, metS_snoc]
      cases e : (metS (xs.take i)).any (· == x) with
      | true =>
        rw [e] at hS2
        rw [if_pos rfl] at hS2 ⊢
        refine hS2.congr fun j => ?_
        by_cases ej : j = x
        · subst ej
          rw [e]
          rfl
        · rw [decide_eq_false ej, Bool.or_false]
      | false =>
        rw [e] at hS2
        rw [if_neg (by decide)] at hS2 ⊢
        rw [List.length_append]
        refine hS2.congr fun j => ?_
        rw [List.any_append]
        by_cases ej : j = x
        · subst ej
          simp
        · have hb : (x == j) = false := by simpa [beq_iff_eq] using (fun h' : x = j => ej h'.symm)
          simp [hb, ej]
    refine wpAny_pure ⟨plainId_quiet PyProof.Rows.F.plain_set_update_loop _, ih (i + 1) _ (by omega) hlt (W.frame _ s' _ _ hst' (Nat.le_succ _) fun b hb o e => ?_) hSi fun s'' hm'' hS'' => ?_⟩
    · rw [hsb.2 b (fun h : b = S => hSf (by rw [← h]; exact hb))]; exact e
    · refine hR s'' (Moved.trans W.gtrans ((hm.mono hsub).then_heap (Nat.le_succ _) fun b o hb e => ?_) hm'') hS''
      rw [hsb.2 b (fun h : b = S => hb (by rw [h]; exact List.mem_cons_self))]; exact e
end

theorem setS_fresh {P : Program} {w : World} {h : Heap} {a : Addr} (ho : h.get? a = some { cls := .type "set", dict := none, data := .set #[] 0 (.fresh 0 0 (!w.params.followText "set-order")) }) : SetS P w h a (fun j => (metS []).any (· == j)) (metS []).length :=
  ⟨_, #[], 0, _, ho, ⟨rfl, rfl, rfl⟩, rfl, (fun e he => by simp at he), (by simp), (fun k => by simp [metS]), (by decide), (by rfl), rfl, List.Pairwise.nil, by
    show _ ∨ (!w.params.followText "set-order") = true
    cases w.params.followText "set-order"
    · exact .inr rfl
    · exact .inl rfl⟩

section
variable {P : Program} {w : World} {A : Around} {E : Value → Shared → Prop} {s : Shared}
theorem call_setS {l : Addr} {items : Array Value} {xs : List Str} {Q : Value → Shared → Prop} (hh : A.handled = none) (hl : s.heap.IsList l items) (hi : StrsAre items.toList xs) (hfew : (metS xs).length + 1 < scanBound)
    (h : ∀ (h' : Heap) (tk : Nat), SetS P w h' s.heap.objs.size (fun j => (metS xs).any (· == j)) (metS xs).length → (∀ b o, s.heap.get? b = some o → h'.get? b = some o) → Q (.ref s.heap.objs.size) { s with heap := h', toks := tk }) :
    wpAny (model P w) A (call (.type "set") [.ref l]) Q E s := by
  have hsz : xs.length = items.size := by rw [← StrsAre.len_eq hi, Array.length_toList]
  obtain ⟨c, tl, hmro⟩ := F.called_set.mro
  have hmade := F.called_set.made
  have hsub := F.called_set.sub
  refine wpAny_call (codeAny_of_tree ?_)
  show wpAny _ _ (callAny (.type "set") _) _ _ _
  refine wpAny_pure ⟨Code.quiet_builtin _ (by decide +kernel), codeAny_builtin F.entry_type_call ?_⟩
  rw [Around.under_plain (weight_type_call_type "set" [.ref l] []) rfl]
  have h1 := F.called_set.notType
  have h2 := F.called_set.canCreate
  have hct := F.typeCall_set_1 (.ref l)
  repeat (any_goals (first | assumption | wp_step))

  refine codeAny_mono (code_set_led1 (.ref l) (E := E) (Q₁ := fun obj s₁ => obj = .ref s.heap.objs.size ∧ s₁ = { s with heap := s.heap.push { cls := .type "set", dict := none, data := .set #[] 0 (.fresh 0 0 (!w.params.followText "set-order")) } }) ⟨rfl, rfl⟩) fun r s₁ hr => ?_
  cases r with
  | error e => exact hr
  | ok fl =>
    cases fl with
    | ret obj =>
      obtain ⟨rfl, rfl⟩ := hr
      have hS : (s.heap.push { cls := .type "set", dict := none, data := .set #[] 0 (.fresh 0 0 (!w.params.followText "set-order")) }).get? s.heap.objs.size = some { cls := .type "set", dict := none, data := .set #[] 0 (.fresh 0 0 (!w.params.followText "set-order")) } := Heap.get?_push_size _ rfl
      have hT : Shared.TypeIs { s with heap := s.heap.push { cls := .type "set", dict := none, data := .set #[] 0 (.fresh 0 0 (!w.params.followText "set-order")) } } (.ref s.heap.objs.size) "set" := ⟨_, hS, rfl⟩
      have hli := F.called_set.init.lookup
      have hbi := F.called_set.init.bind (.ref s.heap.objs.size)
      repeat (any_goals (first | assumption | wp_step))

      refine codeAny_mono (codeAny_call_builtin (R := wants (fun r s₂ => r = .none ∧ ∃ h' tk, s₂ = { s with heap := h', toks := tk } ∧ SetS P w h' s.heap.objs.size (fun j => (metS xs).any (· == j)) (metS xs).length ∧
          (∀ b o, s.heap.get? b = some o → h'.get? b = some o)) E) F.called_set.init.plain F.entry_set_init (check_set_init_1 hT ?_)) fun r₂ s₂ hr₂ => ?_
      · obtain ⟨ol, hol, hcl, nl, hdl⟩ := hl
        obtain ⟨ocls, odict, odata, oslots⟩ := ol
        simp only at hcl hdl
        subst hcl; subst hdl
        have hol' : (s.heap.push { cls := .type "set", dict := none, data := .set #[] 0 (.fresh 0 0 (!w.params.followText "set-order")) }).get? l = some { cls := .type "list", dict := odict, data := .seq items nl, slots := oslots } := Heap.get?_push_of_some _ hol
        have hsls := F.sub_list_set
        have hslf := F.sub_list_frozenset
        have hne : (Value.type "list" == Value.type "dict") = false := by decide
        have hl1 : (s.heap.push { cls := .type "set", dict := none, data := .set #[] 0 (.fresh 0 0 (!w.params.followText "set-order")) }).IsList l items := ⟨_, hol', rfl, nl, rfl⟩
        unfold Builtin.«set.__init__» noKeywords Builtin.Frozenset.updateFrom
        generalize hPI : pyIter = PI
        wp_walk
        subst hPI

        refine wpAny_pyIter_list hl1 ?_
        refine wpAny_bind (wpAny_runValue ?_)
        have hlS : l < s.heap.objs.size := Heap.lt_size hol
        have hh3 : A.in1.in1.in1.handled = none := by simp [hh]
        have hz1 : (s.heap.push { cls := .type "set", dict := none, data := .set #[] 0 (.fresh 0 0 (!w.params.followText "set-order")) }).objs.size = s.heap.objs.size + 1 := Heap.size_push ..
        have hneI : l ≠ (s.heap.push { cls := .type "set", dict := none, data := .set #[] 0 (.fresh 0 0 (!w.params.followText "set-order")) }).objs.size := by
          rw [Heap.size_push]; exact Nat.ne_of_lt (Nat.lt_succ_of_lt hlS)
        have hSf : s.heap.objs.size ∉ [(s.heap.push { cls := .type "set", dict := none, data := .set #[] 0 (.fresh 0 0 (!w.params.followText "set-order")) }).objs.size, l] := by
          rw [Heap.size_push]; simp only [List.mem_cons, List.mem_singleton, List.not_mem_nil, or_false, not_or]
          exact ⟨Nat.ne_of_lt (Nat.lt_succ_self _), Nat.ne_of_gt hlS⟩
        have hval : ∀ (i : Nat) (v : Value), items[i]? = some v → ∃ t, v = .str (xs.getD i Str.empty) t := fun i v hv => SS.strs_at hi i v (by rw [Array.getElem?_toList]; exact hv)
        have kp : ∀ b o, s.heap.get? b = some o → b ∉ [s.heap.objs.size, (s.heap.push { cls := .type "set", dict := none, data := .set #[] 0 (.fresh 0 0 (!w.params.followText "set-order")) }).objs.size] := fun b o e => by
          have hb := Heap.lt_size e
          rw [hz1]
          simp only [List.mem_cons, List.not_mem_nil, or_false, not_or]
          exact ⟨Nat.ne_of_lt hb, Nat.ne_of_lt (Nat.lt_succ_of_lt hb)⟩
        refine loopS ((Walks.list hh3 _ l hneI items).toS) s.heap.objs.size
          hSf xs hsz hfew hval (items.size - 0) 0 _ (by omega) (Nat.zero_le _)
          ⟨⟨_, Heap.get?_push_size _ rfl, rfl, rfl⟩, (hl1.push _)⟩ ?hS0 ?hR
        case hS0 =>
          have hget : ((s.heap.push { cls := .type "set", dict := none, data := .set #[] 0 (.fresh 0 0 (!w.params.followText "set-order")) }).push { cls := .type "list_iterator", data := .fields #[.ref l, .int 0 0] }).get? s.heap.objs.size
              = some { cls := .type "set", dict := none, data := .set #[] 0 (.fresh 0 0 (!w.params.followText "set-order")) } := Heap.get?_push_of_some _ hS
          exact setS_fresh hget
        case hR =>
          intro s' hm hS'
          obtain ⟨h', g2, d', tk', os'⟩ := s'
          have eg : g2 = s.gens := hm.gens
          have ed : d' = s.drawn := hm.drawn
          have eo : os' = s.os := hm.os
          subst eg; subst ed; subst eo
          show wpAny _ _ _ _ _ _
          refine wpAny_pure ?_
          show wpAny _ _ (ret Value.none) _ _ _
          exact wpAny_pure ⟨rfl, h', tk', rfl, hS', fun b o e => hm.heap b o (kp b o e) (Heap.get?_push_of_some _ (Heap.get?_push_of_some _ e))⟩

      · cases r₂ with
        | error e => exact hr₂
        | ok fl₂ =>
          cases fl₂ with
          | ret r =>
            obtain ⟨rfl, h', tk, rfl, hS', hk'⟩ := hr₂
            repeat (any_goals (first | assumption | wp_step))
            exact h _ _ hS' hk'
          | _ => exact hr₂.elim
    | _ => exact hr.elim

end
section
variable {P : Program} {w : World} {A : Around} {E : Value → Shared → Prop} {s : Shared} {a : Addr}
theorem sorted_setS {S : Str → Bool} {n : Nat} {Q : Value → Shared → Prop} (R : SetS P w s.heap a S n) (hh : A.handled = none) (h64 : n < 64)
    (hQ : ∀ s' p (out : Array Value) (c : Nat) (ns : List Str), (∀ b o, s.heap.get? b = some o → s'.heap.get? b = some o) → s'.gens = s.gens → s'.os = s.os → s.heap.objs.size ≤ p →
      s'.heap.get? p = some (seqObj "list" out c) → StrsAre out.toList ns → sortedS ns = true → ns.Nodup → (∀ k, k ∈ ns ↔ S k = true) → ns.length = n → Q (.ref p) s') :
    wpAny (model P w) A (call (.builtin "sorted") [.ref a]) Q E s := by
  obtain ⟨o, es, ep, t, ho, hex, hd, g, nd, hm, hb, hf, hn, hr, hl⟩ := R
  refine Calls.call_function_entry kind_sorted plain_sorted entry_sorted (args_sorted1 _) ?_
  unfold Builtin.«sorted»
  refine wpAny_bind (m := checkCount "sorted" 1 1 _) (wpAny_pure ?_)
  refine wpAny_bind (collect_set (A := A.in1) hh ⟨o, ho, hex.1, hd⟩ hf hb hr hl fun s1 vs k1 hz g1 o1 pm => ?_)
  have hvl : vs.length = n := by rw [pm.length_eq, List.length_map, Array.length_toList]; exact hn
  have hI : StrsAre vs (vs.map strOf) := strsAre_map vs fun v hv => by
    obtain ⟨e, he, q⟩ := List.mem_map.mp (pm.mem_iff.mp hv)
    obtain ⟨k, tk, h1, _⟩ := g e he
    exact ⟨k, tk, by rw [← q]; exact h1⟩
  have pk : (vs.map strOf).Perm (es.toList.map keyS) := by
    have q := pm.map strOf
    rw [List.map_map] at q
    have e : es.toList.map (strOf ∘ fun x => x.2) = es.toList.map keyS := List.map_congr_left fun e he => by
      obtain ⟨k, tk, h1, _⟩ := g e he
      show strOf e.2 = keyS e
      unfold keyS
      rw [h1]
      rfl
    rw [← e]
    exact q
  refine wpAny_bind (wpAny_newList ?_ (by rw [hvl, sizeLine_eq]; omega))
  have hoL : (s1.heap.push (seqObj "list" vs.toArray 0)).get? s1.heap.objs.size = some (seqObj "list" vs.toArray 0) := Heap.get?_push_size _ rfl
  refine wpAny_bind (wpAny_holding (wpAny_call_entry slot_list_sort ⟨_, hoL, rfl⟩ entry_list_sort (list_sort_treeK strKind_oneLt hoL hI.keysOf (fun v₁ v₂ rest e => keyKind_strs (by rw [← e]; exact hI)) (by rw [hvl]; exact h64) fun st' hp hs => ?_) (args_list_sort _)))
  obtain ⟨ns', a1, a2, a3⟩ := sorted_out_str hI hp hs
  refine ⟨_, rfl, ?_⟩
  obtain ⟨c, hc⟩ := sortedHeap_at (vs := vs) (out := (arrOf st').map (·.2)) hoL
  have pn : ns'.Perm (es.toList.map keyS) := a2.trans pk
  refine wpAny_pure ⟨_, rfl, hQ _ s1.heap.objs.size _ c ns' (fun b u e => ?_) g1 o1 hz hc a1 a3 (pn.nodup_iff.mpr nd) (fun k => by rw [pn.mem_iff, ← hm k]) ?_⟩
  · have q := k1 b u e
    have hlt := Heap.lt_size q
    show (sortedHeap (s1.heap.push (seqObj "list" vs.toArray 0)) s1.heap.objs.size vs ((arrOf st').map (·.2))).get? b = some u
    rw [sortedHeap_old (Nat.ne_of_lt hlt) (by rw [size_push']; exact Nat.lt_succ_of_lt hlt)]
    exact Heap.get?_push_of_some _ q
  · rw [pn.length_eq, List.length_map, Array.length_toList]; exact hn
end

/-! ### rules -/
def SetSO (P : Program) (w : World) (a : Addr) (S : Str → Bool) (n : Nat) : HO := .ext fun h => SetS P w h a S n
theorem setSO_new {w : World} {P : Program} {H : Hp} {h : Heap} {a : Addr} {S : Str → Bool} {n : Nat} (R : SetS P w h a S n) : ObjOk P w H h a (SetSO P w a S n) := by
  have ⟨o, _, _, _, ho, _⟩ := R
  exact ⟨R, ⟨o, ho⟩, fun h1 h2 p k => SetS.at p k⟩
section
variable {X : Cx}
theorem setSO_get {pins : List (Addr × Obj)} {σ : L2.St} {H : Hp} {s : Shared} {a : Addr} {S : Str → Bool} {n : Nat} (I : L2.Inv X pins σ H s) (ha : H a = some (SetSO X.prog X.w a S n)) : SetS X.prog X.w s.heap a S n := (I.hok a _ ha).1
def rSetS (P : Program) (w : World) (K : PySem.W.Frag) : List V → Hp → VK → Prop := fun vs H Q => ∃ (a : Addr) (xs : List Str), vs = [V.ref a] ∧ SqL K H a (xs.map V.str) ∧ (metS xs).length + 1 < scanBound ∧
  ∀ p, H p = none → Q (.ref p) (upd H p (SetSO P w p (fun j => (metS xs).any (· == j)) (metS xs).length))
theorem uc_setS {X : Cx} (hc : X.calm = true) : CallR X (.type "set") (rSetS X.prog X.w X.K) := by
  intro pins s σ H vs us Q I r h
  obtain ⟨a, xs, rfl, hs, hf, q⟩ := h
  obtain ⟨its, rv, hl, hz⟩ := I.list hs
  rw [Vals.ref1 r]
  refine call_setS (I.ok.hd hc) hl.isList rv.strs hf fun h' tk hS hk => ?_
  exact ⟨.ref _, upd H s.heap.objs.size (SetSO X.prog X.w s.heap.objs.size _ _), I.laid (t' := tk) hk (Nat.le_refl _) (setSO_new hS), rfl, q _ (I.hok.fresh (Nat.le_refl _))⟩
def rSortedSetS (P : Program) (w : World) : List V → Hp → VK → Prop := fun vs H Q => ∃ (a : Addr) (S : Str → Bool) (n : Nat), vs = [V.ref a] ∧ H a = some (SetSO P w a S n) ∧ n < 64 ∧
  ∀ (ys : List Str) (p : Addr), sortedS ys = true → ys.Nodup → (∀ k : Str, k ∈ ys ↔ S k = true) → ys.length = n → H p = none → Q (.ref p) (upd H p (.lst (ys.map V.str)))
theorem uc_sortedSetS {X : Cx} (hc : X.calm = true) : CallR X (.builtin "sorted") (rSortedSetS X.prog X.w) := by
  intro pins s σ H vs us Q I r h
  obtain ⟨a, S, n, rfl, ha, h64, q⟩ := h
  have R := setSO_get I ha
  rw [Vals.ref1 r]
  refine sorted_setS R (I.ok.hd hc) h64 fun s' p out c ns k g o hp hg hi hs hnd hm hl => ?_
  have hlen : (ns.map V.str).length ≤ sizeLine := by rw [List.length_map, hl, sizeLine_eq]; omega
  have hn : H p = none := I.hok.fresh hp
  have J : L2.Inv X pins σ (upd H p (.lst (ns.map V.str))) { s with heap := s'.heap, gens := s'.gens, drawn := s'.drawn, toks := s'.toks } :=
    I.call (ch := []) (Un.laid k hp hn) (I.hok.laid k hp ⟨hlen, out.toList, c, vals_of_strs hi, hg⟩) (by rw [g]; exact I.bare) (fun _ z => nomatch z)
  have e : s' = { s with heap := s'.heap, gens := s'.gens, drawn := s'.drawn, toks := s'.toks } := by
    cases s'
    cases s
    cases o
    rfl
  rw [e]
  exact ⟨.ref p, _, J, rfl, q ns p hs hnd hm hl hn⟩
def rLenSetS (P : Program) (w : World) : List V → Hp → VK → Prop := fun vs H Q => ∃ (a : Addr) (S : Str → Bool) (n : Nat), vs = [V.ref a] ∧ H a = some (SetSO P w a S n) ∧ Q (.int (n : Nat)) H
theorem uc_lenSetS {X : Cx} : CallR X (.builtin "len") (rLenSetS X.prog X.w) := by
  intro pins s σ H vs us Q I r h
  obtain ⟨a, S, n, rfl, ha, q⟩ := h
  obtain ⟨o, es, ep, t, ho, hex, hd, _, _, _, hb, hf, hn, _⟩ := setSO_get I ha
  rw [Vals.ref1 r]
  refine call_len_set ho hex hd hf (by unfold scanBound at hb; omega) ⟨.int (n : Nat), H, I.tok _, ⟨_, by rw [hn]⟩, q⟩
end
end DSt
namespace DL
open PySem PySem.Spec PyProof.Rows L2 DSo DSt
section
variable {K : PySem.W.Frag} {Δ : Sl} {G L : List M} {Qd : Po} {Qn : PoN} {te : TE} {P : Program} {w0 : World}
/-- sorted(set(a list of texts)) -/
theorem evn_sortedSet (h : EvC K te Δ G L fun s G1 L1 => ∃ xs : List Str, lsG G1 L1 s = some (xs.map D.str) ∧ (metS xs).length < 60 ∧ Qn (.pl ((srtT (metS xs)).map D.str)) G1 L1) :
    EvN K (tCB (rSortedSetS P w0) (tCons (tCB (rSetS P w0 K) (tCons te tNil)) tNil)) Δ G L Qn := fun w ls σ H c Q ret => h w ls σ H c _ fun v s H2 G2 L2 c2 e2 r2 ⟨xs, hx, hf, k⟩ => by
  obtain ⟨a, vs, rfl, h1, q1⟩ := lsG_get c2 r2 hx
  have e := RepL.strsV q1
  subst e
  refine ⟨a, xs, rfl, .inl (.inl h1), by unfold scanBound; omega, fun p hp => ?_⟩
  refine ⟨p, _, _, rfl, upd_same, by omega, fun ys p2 hs hnd hm hl hp2 => ?_⟩
  have c3 := c2.new hp (o := SetSO P w0 p (fun j => (metS xs).any (· == j)) (metS xs).length)
  have ep : ys.Perm (metS xs) := by
    refine (List.perm_ext_iff_of_nodup hnd (metS_nodup xs)).mpr fun z => ?_
    rw [hm z]
    exact any_mem
  have e := srtT_eq ep hs
  subst e
  have e3 := e2.trans (Ext.new hp (o := SetSO P w0 p (fun j => (metS xs).any (· == j)) (metS xs).length))
  exact ret p2 _ _ _ _ (none_back c3 e3 hp2) (newAt_pl c3 hp2 RepL.strs) (e3.trans (Ext.new hp2)) k
/-- len(set(a list of texts)) -/
theorem evc_lenSet (h : EvC K te Δ G L fun s G1 L1 => ∃ xs : List Str, lsG G1 L1 s = some (xs.map D.str) ∧ (metS xs).length < 60 ∧ Qd (.d (.int ((metS xs).length : Nat))) G1 L1) :
    EvC K (tCB (rLenSetS P w0) (tCons (tCB (rSetS P w0 K) (tCons te tNil)) tNil)) Δ G L Qd := fun w ls σ H c Q ret => h w ls σ H c _ fun v s H2 G2 L2 c2 e2 r2 ⟨xs, hx, hf, k⟩ => by
  obtain ⟨a, vs, rfl, h1, q1⟩ := lsG_get c2 r2 hx
  have e := RepL.strsV q1
  subst e
  refine ⟨a, xs, rfl, .inl (.inl h1), by unfold scanBound; omega, fun p hp => ?_⟩
  refine ⟨p, _, _, rfl, upd_same, ?_⟩
  exact ret.go (c2.new hp) (e2.trans (Ext.new hp)) (s := .d (.int ((metS xs).length : Nat))) rfl k
end
end DL

/-! {True: a, False: b}[x]: the dict is made, read once, and forgotten -/
namespace DBx
open PySem PySem.Spec PyProof.Rows L2
def tBoolIx (ta tb te : TE) : TE := fun σ H Q => tPairs [(tC (.bl true), ta), (tC (.bl false), tb)] σ H fun ps H2 => ∃ x y, ps = [(V.bl true, x), (V.bl false, y)] ∧ te σ H2 fun z H3 => ∃ b, z = V.bl b ∧ Q (if b = true then x else y) H3
theorem pin_one {X : Cx} {pins : List (Addr × Obj)} {σ : L2.St} {H H0 : Hp} {s : Shared} {b : Addr} {o : Obj} (I : L2.Inv X pins σ H s) (f : FpOk X pins H0 b) (g : s.heap.get? b = some o) (hn : H b = none) (hc : ∀ v, o.data ≠ .cell v) : L2.Inv X (pins ++ [(b, o)]) σ H s :=
  I.pins_of fun p hp => by
    rcases List.mem_append.mp hp with z | z
    · exact I.pin p (List.mem_append_right _ z)
    · rw [List.mem_singleton] at z
      subst z
      exact ⟨g, hn, f.2.1, f.2.2.1, hc⟩
theorem vv2 {a b c d : V} {ws : List (Value × Value)} (h : VV [(a, b), (c, d)] ws) : ∃ k va k' vb, ws = [(k, va), (k', vb)] ∧ L2.RelV a k ∧ L2.RelV b va ∧ L2.RelV c k' ∧ L2.RelV d vb := by
  cases h with
  | cons r1 t =>
    cases t with
    | cons r2 t =>
      cases t
      exact ⟨_, _, _, _, rfl, r1.1, r1.2, r2.1, r2.2⟩
theorem pe_boolIx {X : Cx} {ea eb ee : Expr} {ta tb te : TE} {k1 k2 : Nat} {p1 p2 dpos pos : Pos} (ha : PE X ea ta) (hb : PE X eb tb) (he : PE X ee te) (hs : NoSl ee) :
    PE X (.Subscript (.Dict [some (.Constant (.bool true) k1 p1), some (.Constant (.bool false) k2 p2)] [ea, eb] dpos) ee pos) (tBoolIx ta tb te) := by
  refine ⟨fun pins s σ H Q I h => ?_⟩
  refine subD_of PySem.F.slot_dict_getitem.lookup hs ?_
  refine wpAny_Dict_walk (knd := leafKind X.prog X.w) rfl rfl (by simp) (by show 2 ≤ 15; decide) ?_
  have I0 : L2.Inv X pins σ H { s with heap := s.heap.push { cls := .type "dict", data := .dict #[] } } := I.kept (t' := s.toks) fun b ob q => Heap.get?_push_of_some _ q
  have hf := I.fpOk (b := s.heap.objs.size) (Nat.le_refl _) (I.hok.fresh (Nat.le_refl _))
  have I1 := pin_one I0 hf (Heap.get?_push_size _ rfl) hf.1 (fun v q => nomatch q)
  have pps : PPs X dpos [some (.Constant (.bool true) k1 p1), some (.Constant (.bool false) k2 p2)] [ea, eb] [(tC (.bl true), ta), (tC (.bl false), tb)] := pps_cons pe_bl ha (pps_cons pe_bl hb pps_nil)
  refine thn (pps.run _ _ σ H _ I1 h) fun ws s2 ⟨ps, H2, I2, rel, x, y, ep, q⟩ => ?_
  subst ep
  obtain ⟨k1', va, k2', vb, rfl, e1, rx, e2, ry⟩ := vv2 rel
  obtain rfl : k1' = Value.bool true := e1
  obtain rfl : k2' = Value.bool false := e2
  · ·
      have pin2 := I2.pin (s.heap.objs.size, { cls := .type "dict", data := .dict #[] }) (List.mem_append_right _ (List.mem_append_right _ (List.mem_singleton.mpr rfl)))
      have hf2 : FpOk X pins H2 s.heap.objs.size := ⟨pin2.2.1, hf.2⟩
      refine ⟨[(.num 1, va), (.num 0, vb)], ⟨rfl, rfl, rfl, rfl, trivial⟩, (Heap.DictOf.new s.heap).at fun o e => ?_, fun h' dd sb => ?_⟩
      · rw [Heap.get?_push_size _ rfl] at e
        rw [pin2.1]
        exact e
      have hm : merged [] [((.num 1 : Leaf), va), (.num 0, vb)] = [(.num 1, va), (.num 0, vb)] := rfl
      rw [hm] at dd
      have J2 : L2.Inv X pins σ H2 { s2 with heap := h', toks := s2.toks + 2 } := (I2.unpinned).turnedL (ch := [s.heap.objs.size]) (fun b o hb e => (sb.2 b (fun z => hb (by rw [z]; exact List.mem_singleton.mpr rfl))).trans e) (fun b hb => by
        rw [List.mem_singleton] at hb
        rw [hb]
        exact hf2)
      obtain ⟨o, es, epo, ho, hex, hda, rest⟩ := dd
      have J3 := pin_one J2 hf2 ho hf2.1 (fun v q => by rw [hda] at q; cases q)
      refine thn (he.run _ _ σ H2 _ J3 q) fun wz s4 ⟨z, H3, I4, rz, b, ez, q4⟩ => ?_
      subst ez
      obtain rfl : wz = Value.bool b := rz
      have pin4 := I4.pin (s.heap.objs.size, o) (List.mem_append_right _ (List.mem_append_right _ (List.mem_singleton.mpr rfl)))
      have dd4 : s4.heap.DictOf (leafKind X.prog X.w) s.heap.objs.size [(.num 1, va), (.num 0, vb)] := ⟨o, es, epo, pin4.1, hex, hda, rest⟩
      refine ⟨dd4.mapOf.typeIs, ?_⟩
      cases b with
      | true =>
        refine wpAny_getItem_of (k := .num 1) (key := .bool true) rfl dd4.mapOf rfl ?_
        exact ⟨x, H3, (I4.unpinned).tok _, rx, q4⟩
      | false =>
        refine wpAny_getItem_of (k := .num 0) (key := .bool false) rfl dd4.mapOf rfl ?_
        exact ⟨y, H3, (I4.unpinned).tok _, ry, q4⟩
end DBx
namespace DL
open PySem PySem.Spec PyProof.Rows L2 DBx
section
variable {K : PySem.W.Frag} {Δ : Sl} {G L : List M} {Qd : Po} {ta tb te : TE}
theorem evc_boolIx (h : EvC K ta Δ G L fun x G1 L1 => EvC K tb Δ G1 L1 fun y G2 L2 => EvC K te Δ G2 L2 fun z G3 L3 => ∃ b, z = .d (.bl b) ∧ Qd (if b = true then x else y) G3 L3) : EvC K (tBoolIx ta tb te) Δ G L Qd := fun w ls σ H c Q ret =>
  h w ls σ H c _ fun v s H2 G2 L2 c2 e2 r2 h2 => h2 w ls σ H2 c2 _ fun v3 s3 H3 G3 L3 c3 e3 r3 h3 => ⟨v, v3, rfl, h3 w ls σ H3 c3 _ fun v4 s4 H4 G4 L4 c4 e4 r4 ⟨b, eb, k⟩ => by
    subst eb
    refine ⟨b, r4, ?_⟩
    cases b with
    | true => exact ret.go c4 (e2.trans (e3.trans e4)) (s := s) ((r2.on c2 e3).on c3 e4) k
    | false => exact ret.go c4 (e2.trans (e3.trans e4)) (s := s3) (r3.on c3 e4) k⟩
end
end DL

/-! a text turned about; tuple(a text) -/
namespace DRv
open PySem PySem.Spec PyProof.Rows L2
open Builtin Builtin.Str
def revS (z : Str) : Str := ⟨((strSliceIndices none none (-1) z.length).filterMap (z.cps[·]?)).toArray⟩
theorem revS_len (z : Str) : (revS z).length ≤ z.length := by
  show (List.toArray _).size ≤ _
  rw [List.size_toArray]
  refine Nat.le_trans (List.length_filterMap_le _ _) ?_
  show (sliceRange ((z.length : Int) - 1) (-1) (-1)).length ≤ z.length
  exact sliceRange_length_le _ _ _ _ (fun h => absurd h (by decide)) fun _ => ⟨Int.le_refl _, Int.le_refl _⟩
theorem revS_mem {z : Str} {c : Nat} (h : c ∈ (revS z).cps.toList) : c ∈ z.cps.toList := by
  have h : c ∈ (strSliceIndices none none (-1) z.length).filterMap (z.cps[·]?) := h
  obtain ⟨j, _, e⟩ := List.mem_filterMap.mp h
  obtain ⟨hj, e⟩ := Array.getElem?_eq_some_iff.mp e
  rw [← e]
  exact Array.getElem_mem_toList hj
def tRevS (te : TE) : TE := fun σ H Q => te σ H fun x H1 => ∃ z, x = V.str z ∧ z.length ≤ sizeLine ∧ Q (.str (revS z)) H1
theorem pe_revS {X : Cx} {e : Expr} {te : TE} {k : Nat} {p1 p2 p3 pos : Pos} (he : PE X e te) : PE X (.Subscript e (.Slice none none (some (.UnaryOp .USub (.Constant (.int 1) k p1) p2)) p3) pos) (tRevS te) := by
  refine ⟨fun pins s σ H Q I h => Subscript_ (thn (he.run pins s σ H _ I h) fun v s1 ⟨x, H1, I1, r1, z, ex, hz, q⟩ => ?_)⟩
  subst ex
  obtain ⟨t, rfl⟩ := r1
  have hst : PO X (some (.UnaryOp .USub (.Constant (.int 1) k p1) p2)) (tPart (tUn (rU fun i => .int (-i)) (tC (.int 1)))) := po_some (pe_un un_neg pe_int)
  refine wpAny_Slice (thn (po_none.run pins s1 σ H1 (fun o H2 => o = none ∧ H2 = H1) I1 ⟨rfl, rfl⟩) fun vl s2 ⟨l, H2, I2, pl, el, e2⟩ => ?_)
  subst el e2
  refine thn (po_none.run pins s2 σ H2 (fun o H3 => o = none ∧ H3 = H2) I2 ⟨rfl, rfl⟩) fun vu s3 ⟨u, H3, I3, pu, eu, e3⟩ => ?_
  subst eu e3
  refine thn (hst.run pins s3 σ H3 (fun o H4 => o = some (-1) ∧ H4 = H3) I3 ⟨1, rfl, -1, rfl, rfl, rfl⟩) fun vs s4 ⟨o, H4, I4, ps, eo, e4⟩ => ?_
  subst eo e4
  have I5 : L2.Inv X pins σ H4 { s4 with heap := s4.heap.push { cls := .type "slice", data := .fields #[vl, vu, vs] } } := I4.kept (t' := s4.toks) fun b ob q => Heap.get?_push_of_some _ q
  obtain ⟨l', rfl, el⟩ := IsPart.raw pl
  obtain ⟨u', rfl, eu⟩ := IsPart.raw pu
  obtain ⟨s', rfl, es⟩ := IsPart.raw ps
  obtain rfl : l' = none := by cases l' with | none => rfl | some x => cases el
  obtain rfl : u' = none := by cases u' with | none => rfl | some x => cases eu
  refine tail_any (ops := [.str z t, .ref s4.heap.objs.size]) (typeIs_str _ _ _) F.slot_str_getitem.lookup ?_ (by with_unfolding_all rfl)
  have hst1 : (s'.map (·.1)).getD 1 = -1 := by rw [es]; rfl
  refine wpAny_getItem_str_slice (l := none) (u := none) (st := s') ⟨_, Heap.get?_push_size _ rfl, rfl, rfl⟩ (by rw [hst1]; rfl) ?_
  unfold sliceMade slicePicked
  rw [hst1, if_neg (by intro h; rw [Bool.and_eq_true] at h; exact absurd h.1 (by decide))]
  exact ⟨Nat.le_trans (revS_len z) hz, .str _, H4, I5.tok _, ⟨_, rfl⟩, q⟩
/-- tuple(a text) -/
def rTupS : List V → Hp → VK → Prop := fun xs H Q => ∃ z, xs = [.str z] ∧ z.length ≤ sizeLine ∧ ∀ l, H l = none → Q (.ref l) (upd H l (.tup (DL.signsV z)))
theorem uc_tupS {X : Cx} (hc : X.calm = true) : CallR X (.type "tuple") rTupS := by
  intro pins s σ H xs us Q I r h
  obtain ⟨z, rfl, hz, q⟩ := h
  obtain ⟨u, rfl, t, rfl⟩ := vals1 r
  refine call_tuple_str (I.ok.hd hc) z t (fun h' tk acc hk hacc => ?_) hz
  have hv := DL.signs_vals hacc
  have I1 : L2.Inv X pins σ H { s with heap := h', toks := tk } := I.kept (t' := tk) hk
  have I2 : L2.Inv X pins σ (upd H h'.objs.size (.tup (DL.signsV z))) { s with heap := h'.push { cls := .type "tuple", data := .seq acc }, toks := tk } :=
    I1.laid (t' := tk) (fun b o e => Heap.get?_push_of_some _ e) (Nat.le_refl _) (show ObjOk X.prog X.w _ _ _ (.tup (DL.signsV z)) from ⟨by unfold DL.signsV; rw [List.length_map]; exact hz, acc.toList, hv, IsTup.new _ _⟩)
  exact ⟨.ref h'.objs.size, _, I2, rfl, q _ (I1.hok.fresh (Nat.le_refl _))⟩
def uTupleX (K : PySem.W.Frag) : List V → Hp → VK → Prop := fun xs H Q => DL.uTuple K xs H Q ∨ rTupS xs H Q
theorem uc_tupleX {X : Cx} (hc : X.calm = true) : CallR X (.type "tuple") (uTupleX X.K) := CallR.or (r := DL.uTuple X.K) DL.uc_tuple (uc_tupS hc)
end DRv
namespace DL
open PySem PySem.Spec PyProof.Rows L2 DRv
section
variable {K : PySem.W.Frag} {Δ : Sl} {G L : List M} {Qd : Po} {te : TE}
theorem evc_revS (h : EvC K te Δ G L fun x G1 L1 => ∃ z, x = .d (.str z) ∧ z.length ≤ sizeLine ∧ Qd (.d (.str (revS z))) G1 L1) : EvC K (tRevS te) Δ G L Qd := fun w ls σ H c Q q => h w ls σ H c _ fun v s H2 G2 L2 c2 e2 r2 ⟨z, hd, hz, k⟩ => by
  subst hd
  exact ⟨z, r2, hz, q.go c2 e2 (s := .d (.str (revS z))) rfl k⟩
theorem ap_tupleS {z : Str} (hz : z.length ≤ sizeLine) (k : Qd (.d (.tup (signsD z))) G L) : ApC K (uTupleX K) [.d (.str z)] Δ G L Qd := fun w ls σ H vs c rs Q q => by
  obtain ⟨v, rfl, r⟩ := pair1 rs
  cases r
  exact .inr ⟨z, rfl, hz, fun l hl => q.go (c.new hl) (Ext.new hl) (s := .d (.tup (signsD z))) (rep_tup c hl repL_signs) k⟩
theorem ap_tupleXX {s : S} (h : ∃ ds, lsG G L s = some ds ∧ Qd (.d (.tup ds)) G L) : ApC K (uTupleX K) [s] Δ G L Qd := fun w ls σ H vs c rs Q q => .inl (ap_tupleX h w ls σ H vs c rs Q q)
end
end DL

/-! truths as numbers: +, -, == with an int, str of a truth -/
namespace DBo
open PySem PySem.Spec PyProof.Rows L2 DL
def rAddB : R2 := fun x y H Q => (∃ b i, x = V.bl b ∧ y = V.int i ∧ Q (.int ((if b = true then 1 else 0) + i)) H) ∨ ∃ i b, x = V.int i ∧ y = V.bl b ∧ Q (.int (i + if b = true then 1 else 0)) H
def rSubB : R2 := fun x y H Q => (∃ b i, x = V.bl b ∧ y = V.int i ∧ Q (.int ((if b = true then 1 else 0) - i)) H) ∨ ∃ i b, x = V.int i ∧ y = V.bl b ∧ Q (.int (i - if b = true then 1 else 0)) H
theorem op_addB {X : Cx} : OpR X (binaryOp .Add) rAddB := by
  intro pins s σ H x y v u Q I rx ry h
  rcases h with ⟨b, i, rfl, rfl, q⟩ | ⟨i, b, rfl, rfl, q⟩
  · obtain rfl : v = Value.bool b := rx
    obtain ⟨t, rfl⟩ := ry
    exact IntBool.add_bool_int ⟨.int _, H, I.tok _, ⟨_, rfl⟩, q⟩
  · obtain ⟨t, rfl⟩ := rx
    obtain rfl : u = Value.bool b := ry
    exact PySem.add_int_bool ⟨.int _, H, I.tok _, ⟨_, rfl⟩, q⟩
theorem op_subB {X : Cx} : OpR X (binaryOp .Sub) rSubB := by
  intro pins s σ H x y v u Q I rx ry h
  rcases h with ⟨b, i, rfl, rfl, q⟩ | ⟨i, b, rfl, rfl, q⟩
  · obtain rfl : v = Value.bool b := rx
    obtain ⟨t, rfl⟩ := ry
    exact IntBool.sub_bool_int ⟨.int _, H, I.tok _, ⟨_, rfl⟩, q⟩
  · obtain ⟨t, rfl⟩ := rx
    obtain rfl : u = Value.bool b := ry
    exact IntBool.sub_int_bool ⟨.int _, H, I.tok _, ⟨_, rfl⟩, q⟩
def uAddB (K : PySem.W.Frag) : R2 := fun x y H Q => uAdd K x y H Q ∨ rAddB x y H Q
theorem uo_addB {X : Cx} : OpR X (binaryOp .Add) (uAddB X.K) := OpR.or (r := uAdd X.K) uo_add op_addB
def uSubB : R2 := fun x y H Q => rI0 (fun i j => .int (i - j)) x y H Q ∨ rSubB x y H Q
theorem uo_subB {X : Cx} : OpR X (binaryOp .Sub) uSubB := OpR.or op_sub op_subB
def uEqB (K : PySem.W.Frag) : R2 := fun x y H Q => uEq K x y H Q ∨ ∃ b i, x = V.bl b ∧ y = V.int i ∧ Q (.bl (decide ((if b = true then 1 else 0) = i))) H
theorem op_eqBI {X : Cx} : OpR X (compareOp .Eq) (fun x y H Q => ∃ b i, x = V.bl b ∧ y = V.int i ∧ Q (.bl (decide ((if b = true then 1 else 0) = i))) H) := by
  intro pins s σ H x y v u Q I rx ry h
  obtain ⟨b, i, rfl, rfl, q⟩ := h
  obtain rfl : v = Value.bool b := rx
  obtain ⟨t, rfl⟩ := ry
  exact EqBoolInt.eq_bool_int ⟨.bl _, H, I, rfl, q⟩
theorem uo_eqB {X : Cx} (hu : X.A.units + 64 < cLine) : OpR X (compareOp .Eq) (uEqB X.K) := OpR.or (r := uEq X.K) (uo_eq hu) op_eqBI
def rStrB : List V → Hp → VK → Prop := fun xs H Q => rStrI xs H Q ∨ ∃ b, xs = [V.bl b] ∧ Q (.str (if b then "True" else "False")) H
theorem call_str_b {X : Cx} : CallR X (.type "str") (fun xs H Q => ∃ b, xs = [V.bl b] ∧ Q (.str (if b then "True" else "False")) H) := by
  intro pins s σ H xs us Q I r h
  obtain ⟨b, rfl, q⟩ := h
  obtain ⟨u, rfl, e⟩ := vals1 r
  obtain rfl : u = Value.bool b := e
  exact PySem.P.str_of_bool ⟨.str _, H, I.tok _, ⟨_, rfl⟩, q⟩
theorem uc_strB {X : Cx} : CallR X (.type "str") rStrB := CallR.or (r := rStrI) uc_strI call_str_b
end DBo
namespace DL
open PySem PySem.Spec PyProof.Rows L2 DBo
section
variable {K : PySem.W.Frag} {Δ : Sl} {G L : List M} {Qd : Po} {Qn : PoN}
theorem u_addB_bi {b : Bool} {i : Int} (k : Qd (.d (.int ((if b = true then 1 else 0) + i))) G L) : OpC K (uAddB K) (.d (.bl b)) (.d (.int i)) Δ G L Qd := fun w ls σ H vx vy c rx ry Q q => by
  cases rx
  cases ry
  exact .inr (.inl ⟨b, i, rfl, rfl, q.go c Ext.refl (s := .d (.int _)) rfl k⟩)
theorem u_addB_ib {b : Bool} {i : Int} (k : Qd (.d (.int (i + if b = true then 1 else 0))) G L) : OpC K (uAddB K) (.d (.int i)) (.d (.bl b)) Δ G L Qd := fun w ls σ H vx vy c rx ry Q q => by
  cases rx
  cases ry
  exact .inr (.inr ⟨i, b, rfl, rfl, q.go c Ext.refl (s := .d (.int _)) rfl k⟩)
theorem u_addB {x y : S} (h : OpC K (uAdd K) x y Δ G L Qd) : OpC K (uAddB K) x y Δ G L Qd := fun w ls σ H vx vy c rx ry Q q => .inl (h w ls σ H vx vy c rx ry Q q)
theorem u_addBn {x y : S} (h : OpN K (uAdd K) x y Δ G L Qn) : OpN K (uAddB K) x y Δ G L Qn := fun w ls σ H vx vy c rx ry Q q => .inl (h w ls σ H vx vy c rx ry Q q)
theorem u_subB_bi {b : Bool} {i : Int} (k : Qd (.d (.int ((if b = true then 1 else 0) - i))) G L) : OpC K uSubB (.d (.bl b)) (.d (.int i)) Δ G L Qd := fun w ls σ H vx vy c rx ry Q q => by
  cases rx
  cases ry
  exact .inr (.inl ⟨b, i, rfl, rfl, q.go c Ext.refl (s := .d (.int _)) rfl k⟩)
theorem u_subB_ib {b : Bool} {i : Int} (k : Qd (.d (.int (i - if b = true then 1 else 0))) G L) : OpC K uSubB (.d (.int i)) (.d (.bl b)) Δ G L Qd := fun w ls σ H vx vy c rx ry Q q => by
  cases rx
  cases ry
  exact .inr (.inr ⟨i, b, rfl, rfl, q.go c Ext.refl (s := .d (.int _)) rfl k⟩)
theorem u_subB_i {i j : Int} (k : Qd (.d (.int (i - j))) G L) : OpC K uSubB (.d (.int i)) (.d (.int j)) Δ G L Qd := fun w ls σ H vx vy c rx ry Q q => .inl (opc_I0i (g := fun i j => i - j) k w ls σ H vx vy c rx ry Q q)
theorem u_eqB {x y : S} (h : OpC K (uEq K) x y Δ G L Qd) : OpC K (uEqB K) x y Δ G L Qd := fun w ls σ H vx vy c rx ry Q q => .inl (h w ls σ H vx vy c rx ry Q q)
theorem u_eqB_bi {b : Bool} {i : Int} (k : Qd (.d (.bl (decide ((if b = true then 1 else 0) = i)))) G L) : OpC K (uEqB K) (.d (.bl b)) (.d (.int i)) Δ G L Qd := fun w ls σ H vx vy c rx ry Q q => by
  cases rx
  cases ry
  exact .inr ⟨b, i, rfl, rfl, q.go c Ext.refl (s := .d (.bl _)) rfl k⟩
theorem ap_strB {b : Bool} (k : ∀ z : Str, PyData.strOk z = true → z.length ≤ 61 → Qd (.d (.str z)) G L) : ApC K rStrB [.d (.bl b)] Δ G L Qd := fun w ls σ H vs c rs Q q => by
  obtain ⟨v, rfl, r⟩ := pair1 rs
  cases r
  exact .inr ⟨b, rfl, q.go c Ext.refl (s := .d (.str (if b then "True" else "False"))) rfl (k _ (by cases b <;> decide +kernel) (by cases b <;> decide +kernel))⟩
theorem ap_strBi {i : Int} (hi : i.natAbs < 10 ^ 60) (k : ∀ z : Str, PyData.strOk z = true → z.length ≤ 61 → Qd (.d (.str z)) G L) : ApC K rStrB [.d (.int i)] Δ G L Qd := fun w ls σ H vs c rs Q q => .inl (ap_strI hi k w ls σ H vs c rs Q q)
end
end DL

/-! list.count of texts; upper of any text can be shown -/
namespace DLc
open PySem PySem.Spec PyProof.Rows L2
def eqkS (k : Str) (v : Value) : Bool := match v with
  | .str n _ => n.cps.toList == k.cps.toList
  | _ => false
theorem eqkS_gives {k : Str} {t : Tok} : ∀ {us : List Value} {ns : List Str}, StrsAre us ns → ∀ y ∈ us, MeetsSeq.EqGives y (.str k t) (eqkS k y)
  | _, _, .nil => fun y hy => by cases hy
  | _, _, .cons n t' h => fun y hy => by
    rcases List.mem_cons.mp hy with e | e
    · rw [e]
      exact SeqRoads2.EqGives.str n k t' t
    · exact eqkS_gives h y e
theorem eqS {n k : Str} : (n.cps.toList == k.cps.toList) = (n == k) := by
  by_cases h : n = k
  · subst h
    rw [beq_self_eq_true, beq_self_eq_true]
  · have h1 : (n == k) = false := beq_eq_false_iff_ne.mpr h
    rw [h1]
    refine beq_eq_false_iff_ne.mpr fun e => h ?_
    obtain ⟨n⟩ := n
    obtain ⟨k⟩ := k
    have e : n.toList = k.toList := e
    rw [show n = k from by simpa using e]
theorem eqkS_count {k : Str} : ∀ {us : List Value} {ns : List Str}, StrsAre us ns → us.countP (eqkS k) = ns.count k
  | _, _, .nil => rfl
  | _, _, .cons n t h => by
    have ih := eqkS_count (k := k) h
    have e : eqkS k (.str n t) = (n == k) := eqS
    rw [List.countP_cons, List.count_cons, ih, e]
section
variable {X : Cx}
def rCntS (K : PySem.W.Frag) : V → List V → Hp → VK → Prop := fun x xs H Q => ∃ (p : Addr) (ns : List Str) (k : Str), x = .ref p ∧ xs = [.str k] ∧ SqL K H p (ns.map V.str) ∧ Q (.int (ns.count k : Nat)) H
theorem mt_lcountS : MtR X "list.count" (rCntS X.K) := by
  intro pins s σ H x xs v us Q I rx rxs h
  obtain ⟨p, ns, k, rfl, rfl, hs, q⟩ := h
  cases rx
  obtain ⟨u, rfl, ru⟩ := rxs.one
  obtain ⟨t, rfl⟩ := ru
  obtain ⟨its, rv, ⟨⟨cls, dd, data, sl⟩, n, ho, hc, hdn, hd⟩, hlen⟩ := I.list hs
  simp only at hc hd
  subst hc hd
  have hi := Vals.strs rv
  refine call_meets PySem.F.slot_list_count ⟨_, ho, rfl⟩ PySem.F.entry_list_count (PySem.F.args_list_count_2 _ _)
    (SeqAt.list_countAt p its.toArray n dd sl (.str k t) (eqkS k)) ⟨ho, fun y hy => (eqkS_gives hi y (by simpa using hy)).at _ _, ?_⟩
  have ec : its.toArray.toList.countP (eqkS k) = ns.count k := eqkS_count hi
  refine ⟨.int (ns.count k : Nat), H, I.tok _, ⟨s.toks, ?_⟩, q⟩
  show Value.int ((its.toArray.toList.countP (eqkS k) : Nat) : Int) s.toks = Value.int ((ns.count k : Nat) : Int) s.toks
  rw [ec]
end
/-! upper -/
theorem shifted_ok {one : List (Nat × Nat × Nat)} (h : ∀ e ∈ one, e.2.2 + (e.2.1 - e.1) < 0x110000) {c v : Nat} (e : Unicode.shifted one c = some v) : v < 0x110000 := by
  induction one with
  | nil => cases e
  | cons a one ih =>
    obtain ⟨a, b, t⟩ := a
    unfold Unicode.shifted at e
    split at e
    · cases e
    · split at e
      · cases e
        have := h _ List.mem_cons_self
        simp only at this
        omega
      · exact ih (fun x hx => h x (List.mem_cons_of_mem _ hx)) e
theorem lookup_mem {l : List (Nat × List Nat)} {c : Nat} {cs : List Nat} (e : l.lookup c = some cs) : ∃ d, (d, cs) ∈ l := by
  induction l with
  | nil => cases e
  | cons a l ih =>
    obtain ⟨a, b⟩ := a
    rw [List.lookup_cons] at e
    split at e
    · cases e
      exact ⟨a, List.mem_cons_self⟩
    · obtain ⟨d, hd⟩ := ih e
      exact ⟨d, List.mem_cons_of_mem _ hd⟩
theorem upper_tables : (∀ e ∈ UnicodeData.oneUpper, e.2.2 + (e.2.1 - e.1) < 0x110000) ∧ ∀ e ∈ UnicodeData.severalUpper, ∀ d ∈ e.2, d < 0x110000 := by decide +kernel
theorem upperOf_ok {c : Nat} (h : c < 0x110000) : ∀ d ∈ Unicode.upperOf c, d < 0x110000 := by
  intro d hd
  unfold Unicode.upperOf Unicode.image at hd
  split at hd
  · rename_i cs e
    obtain ⟨x, hx⟩ := lookup_mem e
    exact upper_tables.2 _ hx d hd
  · rw [List.mem_singleton] at hd
    rw [hd]
    cases e : Unicode.shifted UnicodeData.oneUpper c with
    | none => exact h
    | some v => exact shifted_ok upper_tables.1 e
theorem placed_memX {x : Str} {f : Nat → Nat → List Nat} {d : Nat} (h : d ∈ (placed x f).toList) : ∃ i c, c ∈ x.cps.toList ∧ d ∈ f i c := by
  unfold placed at h
  rw [Array.toList_flatten] at h
  obtain ⟨l, hl, hd⟩ := List.mem_flatten.mp h
  obtain ⟨a, ha, rfl⟩ := List.mem_map.mp hl
  obtain ⟨i, hi, e⟩ := Array.mem_iff_getElem.mp (Array.mem_def.mpr ha)
  rw [Array.getElem_mapIdx] at e
  rw [← e] at hd
  exact ⟨i, _, Array.getElem_mem_toList _, by simpa using hd⟩
theorem upper_ok {z : Str} (h : PyData.strOk z = true) : PyData.strOk (Txt.upper z) = true := by
  have h : z.cps.all (· < 0x110000) = true := h
  rw [Array.all_eq_true_iff_forall_mem] at h
  show (Txt.upper z).cps.all (· < 0x110000) = true
  rw [Array.all_eq_true_iff_forall_mem]
  intro d hd
  obtain ⟨i, c, hc, hd⟩ := placed_memX (x := z) (f := fun _ c => Unicode.upperOf c) (Array.mem_toList_iff.mpr hd)
  exact decide_eq_true (upperOf_ok (of_decide_eq_true (h c (by simpa using hc))) d hd)
theorem app_ok {x y : Str} (hx : PyData.strOk x = true) (hy : PyData.strOk y = true) : PyData.strOk (x ++ y) = true := by
  show (x.cps ++ y.cps).all (· < 0x110000) = true
  rw [Array.all_append]
  exact Bool.and_eq_true_iff.mpr ⟨hx, hy⟩
end DLc
namespace DL
open PySem PySem.Spec PyProof.Rows L2 DLc
section
variable {K : PySem.W.Frag} {Δ : Sl} {G L : List M} {Qd : Po}
theorem mt_lcountD {s : S} {z : Str} (h : ∃ xs : List Str, lsG G L s = some (xs.map D.str) ∧ Qd (.d (.int (xs.count z : Nat))) G L) : MtC K (rCntS K) s [.d (.str z)] Δ G L Qd := fun w ls σ H vo vs c ro rs Q ret => by
  obtain ⟨xs, hx, k⟩ := h
  obtain ⟨u, rfl, ru⟩ := pair1 rs
  obtain ⟨a, us, rfl, h1, q1⟩ := lsG_get c ro hx
  have e := RepL.strsV q1
  subst e
  exact ⟨a, xs, z, rfl, by rw [show u = V.str z from ru], .inl (.inl h1), ret.go c Ext.refl (s := .d (.int (xs.count z : Nat))) rfl k⟩
end
end DL

/-! sum of a tuple of whole numbers -/
namespace DL
open PySem PySem.Spec PyProof.Rows L2
def rSumT (K : PySem.W.Frag) : List V → Hp → VK → Prop := fun vs H Q => ∃ (a : Addr) (ns : List Int), vs = [V.ref a] ∧ SqT K H a (ns.map V.int) ∧ Q (.int ns.sum) H
theorem cr_sumT {X : Cx} (hc : X.calm = true) : CallR X (.builtin "sum") (rSumT X.K) := by
  intro pins s σ H vs us Q I r h
  obtain ⟨a, ns, rfl, hs, q⟩ := h
  rw [Vals.ref1 r]
  have hh : X.A.handled = none := I.ok.hd hc
  obtain ⟨its, rv, hl, _⟩ := I.tuple hs
  have hi := rv.ints
  obtain ⟨xs, e⟩ := hi.allInts.items
  have hp := preSum_list hi e
  have hl' : s.heap.IsTuple a (intItems xs) := by rw [← e]; exact hl
  refine call_sum_walkG (iter_intTuple hh hl' fun s₂ e2 hlI st hfp => ?_)
  subst e2
  refine ⟨_, _, _, _, _, _, numAt xs, rfl, Walks.tuple (A := X.A.in1) hh _ a hlI (intItems xs), st, hfp, (fun _ _ => intItems_at), fun h' tk t' hk => ?_⟩
  have e3 : (intItems xs).size = xs.size := by simp [intItems]
  rw [e3, hp]
  have hk2 : ∀ b o, s.heap.get? b = some o → h'.get? b = some o := fun b o e => hk b o (fun z => Nat.ne_of_lt (Heap.lt_size e) (List.mem_singleton.mp z)) (Heap.get?_push_of_some _ e)
  exact ⟨.int _, H, I.kept hk2, ⟨_, rfl⟩, q⟩
section
variable {K : PySem.W.Frag} {Δ : Sl} {G L : List M} {Qd : Po}
theorem ap_sumT {ds : List D} (h : ∃ ns : List Int, ds = ns.map D.int ∧ Qd (.d (.int ns.sum)) G L) : ApC K (rSumT K) [.d (.tup ds)] Δ G L Qd := fun w ls σ H vs c rs Q q => by
  obtain ⟨ns, rfl, k⟩ := h
  obtain ⟨v, rfl, r⟩ := pair1 rs
  obtain ⟨a, xs, rfl, h1, q1⟩ := r
  have e := RepL.intsV q1
  subst e
  exact ⟨a, ns, rfl, h1.sq, q.go c Ext.refl (s := .d (.int _)) rfl k⟩
end
end DL

/-! a def held in a slot is called; list(range(n)); sorted(ints) -/
namespace DL
open PySem PySem.Spec PyProof.Rows L2
section
variable {K : PySem.W.Frag} {Δ : Sl} {G L : List M} {Qd : Po} {Qn : PoN} {te : TE} {ta : TA} {sp : DSpec} {E0' : XK}
theorem evc_held {i : Nat} {f : Addr} (h : Δ[i]? = some (some (.d (.ref f))) ∧ EvC K (tCall (spD K sp) [] E0' ta) Δ G L Qd) : EvC K (tCallL i f (spD K sp) [] E0' ta) Δ G L Qd := fun w ls σ H c Q r => by
  obtain ⟨hs, h⟩ := h
  obtain ⟨v, h1, h2⟩ := c.sl.2 i _ hs
  have h2 : v = .ref f := h2
  subst h2
  exact ⟨h1, h w ls σ H c Q r⟩
theorem evn_listRg (h : EvC K te Δ G L fun s G1 L1 => ∃ n, s = .d (.int n) ∧ (0 ≤ n ∧ n ≤ 100000) ∧ Qn (.pl (rngD 0 n.toNat)) G1 L1) : EvN K (tLstRg (tRg1 te)) Δ G L Qn := fun w ls σ H c Q r => h w ls σ H c _ fun v s H2 G2 L2 c2 e2 r2 ⟨n, e, ⟨h0, h1⟩, k⟩ => by
  subst e
  have r2 : v = V.int n := r2
  refine ⟨n, r2, RgOk.of_le (by decide) (by omega) (by decide) h0, fun p hp => ?_⟩
  have e1 : rngD 0 n.toNat = ((List.range n.toNat).map fun i => (0 : Int) + (i : Nat)).map D.int := by
    rw [List.map_map]
    rfl
  have e2' : rgV 0 n = ((List.range n.toNat).map fun i => (0 : Int) + (i : Nat)).map V.int := by
    unfold rgV
    rw [List.map_map, show (n - 0).toNat = n.toNat by omega]
    rfl
  rw [e2']
  rw [e1] at k
  exact r p _ _ _ _ (none_back c2 e2 hp) (newAt_pl c2 hp RepL.ints) (e2.trans (Ext.new hp)) k
theorem ap_sortedI {s : S} (h : ∃ ns : List Int, lsG G L s = some (ns.map D.int) ∧ ns.length < 64 ∧ ∀ ns' : List Int, ns'.Perm ns → ns'.Pairwise (· ≤ ·) → Qn (.pl (ns'.map D.int)) G L) : ApN K (rSorted K) [s] Δ G L Qn := fun w ls σ H vs c rs Q q => by
  obtain ⟨ns, hx, hl, k⟩ := h
  obtain ⟨v, rfl, r⟩ := pair1 rs
  obtain ⟨a, us, rfl, h1, q1⟩ := lsG_get c r hx
  have e := RepL.intsV q1
  subst e
  exact ⟨a, ns, rfl, .inl (.inl h1), hl, fun ys p py hy hp => q p _ _ _ _ hp (newAt_pl c hp RepL.ints) (Ext.new hp) (k ys py hy)⟩
end
end DL

/-! sorted(set(a list of ints)); list(range(a, b)); a list extended by it -/
namespace DSi
open PySem PySem.Spec PyProof.Rows L2
section
variable {P : Program} {w : World} {A : Around} {E : Value → Shared → Prop} {s : Shared}
abbrev bareS (w : World) : Obj := { cls := .type "set", dict := none, data := .set #[] 0 (.fresh 0 0 (!w.params.followText "set-order")) }
/-- the loop of update makes of a bare set what J says -/
def Filled (P : Program) (w : World) (items : Array Value) (J : Heap → Addr → Prop) : Prop :=
  ∀ {A : Around} {I : Addr} {fp wr : List Addr} {G : Array GenState → Array GenState → Prop} {St : Nat → Shared → Prop} {R : Result → Shared → Prop}, WalksS P w A.in1 I fp wr G items.size (fun i v => items[i]? = some v) St →
    ∀ (S : Addr), S ∉ fp → ∀ s : Shared, St 0 s → s.heap.get? S = some (bareS w) → (∀ s', Moved (S :: wr) G s s' → J s'.heap S → R (.ok (.ret .none)) s') →
    codeAny (model P w) A (.builtin "set.update.loop" ⟨[.ref S, .ref I], []⟩) R s
theorem set_of_list {l : Addr} {items : Array Value} {J : Heap → Addr → Prop} {Q : Value → Shared → Prop} (F0 : Filled P w items J) (hh : A.handled = none) (hl : s.heap.IsList l items)
    (h : ∀ (h' : Heap) (tk : Nat), J h' s.heap.objs.size → (∀ b o, s.heap.get? b = some o → h'.get? b = some o) → Q (.ref s.heap.objs.size) { s with heap := h', toks := tk }) :
    wpAny (model P w) A (call (.type "set") [.ref l]) Q E s := by
  obtain ⟨mc, mt, m1⟩ := F.called_set.mro
  have m2 := F.called_set.made
  have m3 := F.called_set.sub
  have m4 := F.called_set.notType
  have m5 := F.called_set.canCreate
  have m6 := F.typeCall_set_1 (.ref l)
  refine wpAny_call (codeAny_of_tree (wpAny_pure ⟨Code.quiet_builtin _ (by decide +kernel), codeAny_builtin F.entry_type_call ?_⟩))
  rw [Around.under_plain (weight_type_call_type "set" [.ref l] []) rfl]
  repeat (any_goals (first | assumption | wp_step))
  obtain ⟨n0, en⟩ : ∃ n0, n0 = s.heap.objs.size := ⟨_, rfl⟩
  refine codeAny_mono (code_set_led1 (.ref l) (E := E) (Q₁ := fun o1 s1 => o1 = .ref s.heap.objs.size ∧ s1 = { s with heap := s.heap.push (bareS w) }) ⟨rfl, rfl⟩) fun r s1 hr => ?_
  match r, hr with
  | .error _, hr => exact hr
  | .ok .next, hr => exact hr.elim
  | .ok .brk, hr => exact hr.elim
  | .ok .cont, hr => exact hr.elim
  | .ok (.ret o1), ⟨e1, e2⟩ =>
    subst e1; subst e2
    have g0 : (s.heap.push (bareS w)).get? s.heap.objs.size = some (bareS w) := Heap.get?_push_size _ rfl
    have ty0 : Shared.TypeIs { s with heap := s.heap.push (bareS w) } (.ref s.heap.objs.size) "set" := ⟨_, g0, rfl⟩
    have m7 := F.called_set.init.lookup
    have m8 := F.called_set.init.bind (.ref s.heap.objs.size)
    repeat (any_goals (first | assumption | wp_step))
    refine codeAny_mono (codeAny_call_builtin (R := wants (fun r s2 => r = .none ∧ ∃ h' tk, s2 = { s with heap := h', toks := tk } ∧ J h' s.heap.objs.size ∧ ∀ b o, s.heap.get? b = some o → h'.get? b = some o) E)
      F.called_set.init.plain F.entry_set_init (check_set_init_1 ty0 ?_)) fun r2 s2 hr2 => ?_
    · obtain ⟨⟨oc, od, ot, os⟩, q1, q2, q3, q4⟩ := hl
      dsimp only at q2 q4
      subst q2; subst q4
      have q1' : (s.heap.push (bareS w)).get? l = some { cls := .type "list", dict := od, data := .seq items q3, slots := os } := Heap.get?_push_of_some _ q1
      have n1 := F.sub_list_set
      have n2 := F.sub_list_frozenset
      have n3 : (Value.type "list" == Value.type "dict") = false := by decide
      have isl : (s.heap.push (bareS w)).IsList l items := ⟨_, q1', rfl, q3, rfl⟩
      unfold Builtin.«set.__init__» noKeywords Builtin.Frozenset.updateFrom
      generalize hPI : pyIter = PI
      wp_walk
      subst hPI
      refine wpAny_pyIter_list isl (wpAny_bind (wpAny_runValue ?_))
      have ll := Heap.lt_size q1
      have hd3 : A.in1.in1.in1.handled = none := by simp [hh]
      have sz : (s.heap.push (bareS w)).objs.size = s.heap.objs.size + 1 := Heap.size_push ..
      have ne : l ≠ (s.heap.push (bareS w)).objs.size := by
        rw [sz]
        exact Nat.ne_of_lt (Nat.lt_succ_of_lt ll)
      have nf : s.heap.objs.size ∉ [(s.heap.push (bareS w)).objs.size, l] := by
        rw [sz]
        simp only [List.mem_cons, List.not_mem_nil, or_false, not_or]
        exact ⟨Nat.ne_of_lt (Nat.lt_succ_self _), Nat.ne_of_gt ll⟩
      refine F0 ((Walks.list hd3 _ l ne items).toS) s.heap.objs.size nf _ ⟨⟨_, Heap.get?_push_size _ rfl, rfl, rfl⟩, (isl.push _)⟩ (Heap.get?_push_of_some _ g0) fun s' mv hJ => ?_
      obtain ⟨h', g2, d2, tk2, os2⟩ := s'
      have e1 : g2 = s.gens := mv.gens
      have e2 : d2 = s.drawn := mv.drawn
      have e3 : os2 = s.os := mv.os
      subst e1; subst e2; subst e3
      show wpAny _ _ (Pure.pure ()) _ _ _
      refine wpAny_pure ?_
      show wpAny _ _ (ret Value.none) _ _ _
      refine wpAny_pure ⟨rfl, h', tk2, rfl, hJ, fun b o e => mv.heap b o ?_ (Heap.get?_push_of_some _ (Heap.get?_push_of_some _ e))⟩
      have lb := Heap.lt_size e
      rw [sz]
      simp only [List.mem_cons, List.not_mem_nil, or_false, not_or]
      exact ⟨Nat.ne_of_lt lb, Nat.ne_of_lt (Nat.lt_succ_of_lt lb)⟩
    · match r2, hr2 with
      | .error _, hr2 => exact hr2
      | .ok .next, hr2 => exact hr2.elim
      | .ok .brk, hr2 => exact hr2.elim
      | .ok .cont, hr2 => exact hr2.elim
      | .ok (.ret r3), ⟨e1, h', tk, e2, hJ, hk⟩ =>
        subst e1; subst e2
        repeat (any_goals (first | assumption | wp_step))
        exact h _ _ hJ hk
theorem filled_ints {items : Array Value} {ns : List Int} (hi : IntsAre items.toList ns) (hb : ns.length + 1 < scanBound) :
    Filled P w items fun h a => ∃ c, c ≤ ns.length ∧ SetR w h a (fun j => decide (j ∈ ns)) c := fun W S hS s st g k => by
  have hsz : items.size = ns.length := by
    have q := IntsAre.length hi
    rw [Array.length_toList] at q
    exact q
  refine set_update_ints W S hS ns hsz hb (fun i v hv => ?_) (items.size - 0) 0 s (by omega) (Nat.zero_le _) st ⟨0, Nat.le_refl 0, setR_new_at g⟩ fun s' c mv hc hR => k s' mv ⟨c, by omega, hR⟩
  have lt : i < ns.length := by rw [← hsz]; exact (Array.getElem?_eq_some_iff.mp hv).1
  obtain ⟨t, e⟩ := PyProof.Rows.IntsAre.int_at hi i v (by rw [Array.getElem?_toList]; exact hv)
  refine ⟨ns[i], t, List.getElem?_eq_getElem lt, ?_⟩
  rw [e, List.getD_eq_getElem?_getD, List.getElem?_eq_getElem lt]
  rfl
end
def SetIO (w : World) (a : Addr) (S : Int → Bool) (n : Nat) : HO := .ext fun h => SetR w h a S n
theorem setIO_new {w : World} {P : Program} {H : Hp} {h : Heap} {a : Addr} {S : Int → Bool} {n : Nat} (R : SetR w h a S n) : ObjOk P w H h a (SetIO w a S n) := by
  have ⟨o, _, _, _, ho, _⟩ := R
  exact ⟨R, ⟨o, ho⟩, fun h1 h2 p k => SetR.at p k⟩
def rSetI (w : World) (K : PySem.W.Frag) : List V → Hp → VK → Prop := fun vs H Q => ∃ (a : Addr) (ns : List Int), vs = [V.ref a] ∧ SqL K H a (ns.map V.int) ∧ ns.length + 1 < scanBound ∧
  ∀ p c, c ≤ ns.length → H p = none → Q (.ref p) (upd H p (SetIO w p (fun j => decide (j ∈ ns)) c))
def rSortedSetI (w : World) : List V → Hp → VK → Prop := fun vs H Q => ∃ (a : Addr) (S : Int → Bool) (n : Nat), vs = [V.ref a] ∧ H a = some (SetIO w a S n) ∧ n < 64 ∧
  ∀ (ys : List Int) (p : Addr), ys.Pairwise (· < ·) → (∀ k, k ∈ ys ↔ S k = true) → ys.length = n → H p = none → Q (.ref p) (upd H p (.lst (ys.map V.int)))
section
variable {X : Cx}
theorem uc_setI (hc : X.calm = true) : CallR X (.type "set") (rSetI X.w X.K) := by
  intro pins s σ H vs us Q I r h
  obtain ⟨a, ns, rfl, hs, hf, q⟩ := h
  obtain ⟨its, rv, hl, hz⟩ := I.list hs
  rw [Vals.ref1 r]
  refine set_of_list (J := fun h a => ∃ c, c ≤ ns.length ∧ SetR X.w h a (fun j => decide (j ∈ ns)) c) (items := its.toArray) (fun {_ _ _ _ _ _ _} => filled_ints (P := X.prog) (w := X.w) (items := its.toArray) (ns := ns) (by simpa using rv.ints) hf) (I.ok.hd hc) hl.isList fun h' tk hJ hk => ?_
  obtain ⟨c, hc', hS⟩ := hJ
  exact ⟨.ref _, upd H s.heap.objs.size (SetIO X.w s.heap.objs.size _ _), I.laid (t' := tk) hk (Nat.le_refl _) (setIO_new hS), rfl, q _ c hc' (I.hok.fresh (Nat.le_refl _))⟩
theorem uc_sortedSetI (hc : X.calm = true) : CallR X (.builtin "sorted") (rSortedSetI X.w) := by
  intro pins s σ H vs us Q I r h
  obtain ⟨a, S, n, rfl, ha, h64, q⟩ := h
  have R : SetR X.w s.heap a S n := (I.hok a _ ha).1
  rw [Vals.ref1 r]
  refine sorted_set R (I.ok.hd hc) h64 fun s' p out c ns k g o hp hg hi hs hm hl => ?_
  have hlen : (ns.map V.int).length ≤ sizeLine := by rw [List.length_map, hl, sizeLine_eq]; omega
  have hn : H p = none := I.hok.fresh hp
  have J : L2.Inv X pins σ (upd H p (.lst (ns.map V.int))) { s with heap := s'.heap, gens := s'.gens, drawn := s'.drawn, toks := s'.toks } :=
    I.call (ch := []) (Un.laid k hp hn) (I.hok.laid k hp ⟨hlen, out.toList, c, vals_of_ints hi, hg⟩) (by rw [g]; exact I.bare) (fun _ z => nomatch z)
  have e : s' = { s with heap := s'.heap, gens := s'.gens, drawn := s'.drawn, toks := s'.toks } := by
    cases s'
    cases s
    cases o
    rfl
  rw [e]
  exact ⟨.ref p, _, J, rfl, q ns p hs hm hl hn⟩
end
end DSi
namespace DL
open PySem PySem.Spec PyProof.Rows L2 DSi
section
variable {K : PySem.W.Frag} {Δ : Sl} {G L : List M} {Qd : Po} {Qn : PoN} {te tf : TE} {w0 : World}
/-- sorted(set(a list of ints)) -/
theorem evn_sortedSetI (h : EvC K te Δ G L fun s G1 L1 => ∃ ns : List Int, lsG G1 L1 s = some (ns.map D.int) ∧ ns.length < 64 ∧ ∀ ys : List Int, ys.Pairwise (· < ·) → (∀ k, k ∈ ys ↔ k ∈ ns) → ys.length ≤ ns.length → Qn (.pl (ys.map D.int)) G1 L1) :
    EvN K (tCB (rSortedSetI w0) (tCons (tCB (rSetI w0 K) (tCons te tNil)) tNil)) Δ G L Qn := fun w ls σ H c Q ret => h w ls σ H c _ fun v s H2 G2 L2 c2 e2 r2 ⟨ns, hx, hf, k⟩ => by
  obtain ⟨a, vs, rfl, h1, q1⟩ := lsG_get c2 r2 hx
  have e := RepL.intsV q1
  subst e
  refine ⟨a, ns, rfl, .inl (.inl h1), by unfold scanBound; omega, fun p cn hcn hp => ?_⟩
  refine ⟨p, _, _, rfl, upd_same, by omega, fun ys p2 hs hm hl hp2 => ?_⟩
  have c3 := c2.new hp (o := SetIO w0 p (fun j => decide (j ∈ ns)) cn)
  have e3 := e2.trans (Ext.new hp (o := SetIO w0 p (fun j => decide (j ∈ ns)) cn))
  exact ret p2 _ _ _ _ (none_back c3 e3 hp2) (newAt_pl c3 hp2 RepL.ints) (e3.trans (Ext.new hp2)) (k ys hs (fun j => by rw [hm j, decide_eq_true_eq]) (by omega))
theorem evn_listRg2 (h : EvC K te Δ G L fun x G1 L1 => EvC K tf Δ G1 L1 fun y G2 L2 => ∃ i j, x = .d (.int i) ∧ y = .d (.int j) ∧ (-100000 ≤ i ∧ i ≤ 100000 ∧ -100000 ≤ j ∧ j ≤ 100000) ∧ Qn (.pl (rngD i (j - i).toNat)) G2 L2) : EvN K (tLstRg (tRg2 te tf)) Δ G L Qn := fun w ls σ H c Q r => h w ls σ H c _ fun v s H2 G2 L2 c2 e2 r2 h2 => h2 w ls σ H2 c2 _ fun v' s' H3 G3 L3 c3 e3 r3 ⟨i, j, e, e', ⟨h0, h1, h4, h5⟩, k⟩ => by
  subst e
  subst e'
  have r2 : v = V.int i := r2
  have r3 : v' = V.int j := r3
  refine ⟨i, j, r2, r3, (⟨by omega, by omega, by omega, by omega, by omega⟩ : RgOk i j), fun p hp => ?_⟩
  have e1 : rngD i (j - i).toNat = ((List.range (j - i).toNat).map fun (n : Nat) => i + (n : Int)).map D.int := by
    rw [List.map_map]
    rfl
  have e2' : rgV i j = ((List.range (j - i).toNat).map fun (n : Nat) => i + (n : Int)).map V.int := by
    unfold rgV
    rw [List.map_map]
    rfl
  rw [e2']
  rw [e1] at k
  exact r p _ _ _ _ (none_back c2 e2 (none_back c3 e3 hp)) (newAt_pl c3 hp RepL.ints) ((e2.trans e3).trans (Ext.new hp)) k
end
end DL

/-! a op b op c op d, as a test -/
namespace DCh
open PySem PySem.Spec PyProof.Rows L2
def tCh3 (r r' r'' : R2) (ta tb tc td : TE) : TT := fun σ H Q => ta σ H fun x H1 => tb σ H1 fun y H2 => r x y H2 fun z H3 => ∃ k, z = .bl k ∧
  (if k = true then tc σ H3 fun u H4 => r' y u H4 fun z2 H5 => ∃ k2, z2 = .bl k2 ∧ (if k2 = true then td σ H5 fun v H6 => r'' u v H6 fun z3 H7 => ∃ k3, z3 = .bl k3 ∧ Q k3 H7 else Q false H5) else Q false H3)
section
variable {X : Cx} {a b c d : Expr} {ta tb tc td : TE} {pos : Pos}
theorem pt_chain3 {op op' op'' : CmpOp} {r r' r'' : R2} (h1 : OpR X (compareOp op) r) (h2 : OpR X (compareOp op') r') (h3 : OpR X (compareOp op'') r'') (ha : PE X a ta) (hb : PE X b tb) (hc : PE X c tc) (hd : PE X d td)
    (hm : lastMarks [op, op', op''] [b, c, d] = false := by with_unfolding_all rfl) : PT X (.Compare a [op, op', op''] [b, c, d] pos) (tCh3 r r' r'' ta tb tc td) := by
  refine ⟨fun pins s σ H Q I h => isTrue_chain (thn (ha.run pins s σ H _ I h) fun v1 s1 ⟨x, H1, I1, e1, q1⟩ => test_link (thn (hb.run pins s1 σ H1 _ I1 q1) fun v2 s2 ⟨y, H2, I2, e2, q2⟩ =>
    thn (h1 pins s2 σ H2 x y v1 v2 _ I2 e1 e2 q2) fun w3 s3 ⟨z, H3, I3, e3, k, ez, q3⟩ => ?_)) hm⟩
  subst ez
  cases e3
  refine wpAny_truthy_bool ?_
  cases k with
  | false => exact ite_ff ⟨H3, I3, q3⟩
  | true =>
    refine ite_tt (test_link (thn (hc.run pins s3 σ H3 _ I3 q3) fun v4 s4 ⟨u, H4, I4, e4, q4⟩ => thn (h2 pins s4 σ H4 y u v2 v4 _ I4 e2 e4 q4) fun w5 s5 ⟨z2, H5, I5, e5, k2, ez2, q5⟩ => ?_))
    subst ez2
    cases e5
    refine wpAny_truthy_bool ?_
    cases k2 with
    | false => exact ite_ff ⟨H5, I5, q5⟩
    | true =>
      refine ite_tt (test_last (thn (hd.run pins s5 σ H5 _ I5 q5) fun v6 s6 ⟨v, H6, I6, e6, q6⟩ => thn (h3 pins s6 σ H6 u v v4 v6 _ I6 e4 e6 q6) fun w7 s7 ⟨z3, H7, I7, e7, k3, ez3, q7⟩ => ?_))
      subst ez3
      cases e7
      exact wpAny_truthy_bool ⟨H7, I7, q7⟩
end
end DCh
namespace DL
open PySem PySem.Spec PyProof.Rows L2 DCh
section
variable {K : PySem.W.Frag} {Δ : Sl} {G L : List M} {Qb : PoB} {ta tb tc td : TE} {r r' r'' : R2}
theorem evb_ch3 (h : EvC K ta Δ G L fun x G1 L1 => EvC K tb Δ G1 L1 fun y G2 L2 => OpC K r x y Δ G2 L2 fun z G3 L3 => ∃ b, z = .d (.bl b) ∧
    if b = true then EvC K tc Δ G3 L3 fun u G4 L4 => OpC K r' y u Δ G4 L4 fun z2 G5 L5 => ∃ b2, z2 = .d (.bl b2) ∧
      if b2 = true then EvC K td Δ G5 L5 fun v G6 L6 => OpC K r'' u v Δ G6 L6 fun z3 G7 L7 => ∃ b3, z3 = .d (.bl b3) ∧ Qb b3 G7 L7 else Qb false G5 L5 else Qb false G3 L3) : EvB K (tCh3 r r' r'' ta tb tc td) Δ G L Qb :=
  fun w ls σ H c Q ret => h w ls σ H c _ fun v s H2 G2 L2 c2 e2 r2 h2 => h2 w ls σ H2 c2 _ fun v3 s3 H3 G3 L3 c3 e3 r3 h3 => h3 w ls σ H3 v v3 c3 (r2.on c2 e3) r3 _ fun v4 s4 H4 G4 L4 c4 e4 r4 ⟨b, e, k⟩ => by
    subst e
    refine ⟨b, r4, ?_⟩
    cases b with
    | true =>
      rw [if_pos rfl] at k ⊢
      exact k w ls σ H4 c4 _ fun v5 s5 H5 G5 L5 c5 e5 r5 h5 => h5 w ls σ H5 v3 v5 c5 ((r3.on c3 e4).on c4 e5) r5 _ fun v6 s6 H6 G6 L6 c6 e6 r6 ⟨b2, e', k2⟩ => by
        subst e'
        refine ⟨b2, r6, ?_⟩
        cases b2 with
        | true =>
          rw [if_pos rfl] at k2 ⊢
          exact k2 w ls σ H6 c6 _ fun v7 s7 H7 G7 L7 c7 e7 r7 h7 => h7 w ls σ H7 v5 v7 c7 ((r5.on c5 e6).on c6 e7) r7 _ fun v8 s8 H8 G8 L8 c8 e8 r8 ⟨b3, e'', k3⟩ => by
            subst e''
            exact ⟨b3, r8, ret b3 H8 G8 L8 c8 (e2.trans (e3.trans (e4.trans (e5.trans (e6.trans (e7.trans e8)))))) k3⟩
        | false =>
          rw [if_neg Bool.false_ne_true] at k2 ⊢
          exact ret _ H6 G6 L6 c6 (e2.trans (e3.trans (e4.trans (e5.trans e6)))) k2
    | false =>
      rw [if_neg Bool.false_ne_true] at k ⊢
      exact ret _ H4 G4 L4 c4 (e2.trans (e3.trans e4)) k
end
end DL

/-! zip(a, b, strict=True) of two lists of one length -/
namespace DZl
open PySem PySem.Spec PyProof.Rows L2
open PySem.Sem (wp)
abbrev IsZipS (h : Heap) (z TI TO : Addr) (f0 : Value) : Prop :=
  h.get? z = some { cls := .type "zip", dict := none, data := .fields #[f0, .bool false, .bool true, .ref TI, .ref TO], slots := #[] }
section
variable {prog : Program} {w : World} {A : Around} {E : Value → Shared → Prop} {s : Shared}
theorem noe_item {it l : Addr} {i : Nat} {items} {x : Value} {Q : Option Value → Shared → Prop} (hit : s.heap.IsListIter it l i) (hl : s.heap.IsList l items) (hx : items[i]? = some x)
    (hQ : ∀ h', h'.IsListIter it l (i + 1) → Heap.SameBut it s.heap h' → Q (some x) { s with heap := h' }) : wpAny (model prog w) A (Builtin.SmallTypes.nextOrEnd (.ref it)) Q E s := by
  unfold Builtin.SmallTypes.nextOrEnd
  exact wpAny_bind (wpAny_attempt (wpAny_nextOf_list_item hit hl hx fun h' a b => wpAny_pure (hQ h' a b)))
theorem noe_end {it l : Addr} {i : Nat} {items} {Q : Option Value → Shared → Prop} (hh : A.handled = none) (hit : s.heap.IsListIter it l i) (hl : s.heap.IsList l items) (hx : items[i]? = none)
    (hQ : ∀ h', Heap.ExtBut it s.heap h' → Q none { s with heap := h' }) : wpAny (model prog w) A (Builtin.SmallTypes.nextOrEnd (.ref it)) Q E s := by
  unfold Builtin.SmallTypes.nextOrEnd
  refine wpAny_bind (wpAny_attempt (wpAny_nextOf_list_end hh hit hl hx fun h' e k he => ?_))
  obtain ⟨o, ho, hc⟩ := he
  exact wpAny_bind (wpAny_isInstance (T := "StopIteration") (b := true) ⟨o, ho, hc⟩ isSubtype_stop (wpAny_pure (hQ h' k)))
theorem stop_iter {α : Type} {Q : α → Shared → Prop} (hh : A.handled = none) (hE : ∀ h' e, (∀ c o, s.heap.get? c = some o → h'.get? c = some o) → (∃ o, h'.get? e = some o ∧ o.cls = .type "StopIteration") → E (.ref e) { s with heap := h' }) :
    wpAny (model prog w) A (Builtin.SmallTypes.stopIteration : Sem α) Q E s := by
  unfold Builtin.SmallTypes.stopIteration
  refine wpAny_bind ?_
  simp only [newExc, newTuple]
  refine wpAny_bind (wpAny_newObj_type ?_ (by size_fits))
  refine wpAny_bind (m := firstArgMember _ _) (wpAny_of_eq (a := Value.none) (by first | rfl | (simp only [firstArgMember]; rfl)) ?_)
  refine wpAny_newObj_type ?_ (by size_fits)
  simp only [raiseNew]
  refine wpAny_bind (wpAny_handled ?_)
  rw [hh]
  refine wpAny_bind (wpAny_pure (wpAny_throw ?_))
  exact hE _ _ (fun c o e => Heap.get?_push_of_some _ (Heap.get?_push_of_some _ e)) ⟨_, Heap.get?_push_size _ rfl, rfl⟩

theorem next_item {z TI TO i1 i2 l1 l2 : Addr} {k1 k2 : Nat} {xs ys : Array Value} {x y a b : Value} {Q : Value → Shared → Prop} (D : ZipApart z TI TO i1 i2 l1 l2)
    (hz : IsZipS s.heap z TI TO .none) (hTI : IsPair s.heap TI (.ref i1) (.ref i2)) (hTO : IsPair s.heap TO a b)
    (h1 : s.heap.IsListIter i1 l1 k1) (h2 : s.heap.IsListIter i2 l2 k2) (hl1 : s.heap.IsList l1 xs) (hl2 : s.heap.IsList l2 ys) (hx : xs[k1]? = some x) (hy : ys[k2]? = some y)
    (hQ : ∀ h', IsZipS h' z TI TO (rawInt s.heap.objs.size) → IsPair h' TO x y → h'.IsListIter i1 l1 (k1 + 1) → h'.IsListIter i2 l2 (k2 + 1) → IsPair h' s.heap.objs.size x y → h'.objs.size = s.heap.objs.size + 1 →
      (∀ c o, c ≠ z → c ≠ TO → c ≠ i1 → c ≠ i2 → s.heap.get? c = some o → h'.get? c = some o) → Q (.ref s.heap.objs.size) { s with heap := h' }) :
    wpAny (model prog w) A (Builtin.«zip.__next__» ⟨[.ref z], []⟩) (fun fin s' => ∃ v, fin = .done (.ret v) ∧ Q v s') E s := by
  show wpAny _ _ (field (.ref z) 2 >>= _) _ _ _
  refine wpAny_bind (wpAny_field hz rfl (x := .bool true) rfl ?_)
  show wpAny _ _ (field (.ref z) 3 >>= _) _ _ _
  refine wpAny_bind (wpAny_field hz rfl (x := .ref TI) rfl ?_)
  refine wpAny_bind (wpAny_seqItems hTI rfl ?_)
  show wpAny _ _ (Builtin.SmallTypes.ownedTupleIsFree (.ref z) >>= _) _ _ _
  refine wpAny_bind ?_
  unfold Builtin.SmallTypes.ownedTupleIsFree
  refine wpAny_bind (wpAny_field hz rfl (x := .none) rfl (wpAny_pure ?_))
  simp only [if_true]
  refine wpAny_bind (wpAny_rule ?_)
  refine wpAny_bind (wpAny_field hz rfl (x := .ref TO) rfl ?_)
  refine wpAny_bind (wpAny_setField_rec hz (by simp) fun h₁ hz₁ hs₁ => ?_)
  replace hz₁ : IsZipS h₁ z TI TO .ellipsis := hz₁
  refine wpAny_bind ?_
  simp only [List.zipIdx_cons, List.zipIdx_nil, List.forIn_cons, List.forIn_nil]
  refine wpAny_bind (wpAny_bind (wpAny_onRaise ?_))
  show wpAny _ _ (Builtin.SmallTypes.nextOrEnd (.ref i1)) _ _ _
  refine noe_item (h1.extBut hs₁.extBut D.i1z) (hl1.extBut hs₁.extBut D.l1z) hx fun h₂ h1₂ hs₂ => ?_
  have hTO₂ : IsPair h₂ TO a b := hs₂.extBut _ _ D.TOi1 (hs₁.extBut _ _ D.TOz hTO)
  refine wpAny_bind (wpAny_seqItems hTO₂ rfl ?_)
  refine wpAny_bind (wpAny_updateSeq_pair hTO₂ fun h₃ hTO₃ hs₃ => ?_)
  replace hTO₃ : IsPair h₃ TO x b := hTO₃
  refine wpAny_bind (wpAny_letGo (wpAny_pure ?_))
  refine wpAny_bind (wpAny_bind (wpAny_onRaise ?_))
  show wpAny _ _ (Builtin.SmallTypes.nextOrEnd (.ref i2)) _ _ _
  refine noe_item (((h2.extBut hs₁.extBut D.i2z).extBut hs₂.extBut D.i12.symm).extBut hs₃.extBut D.TOi2.symm)
    (((hl2.extBut hs₁.extBut D.l2z).extBut hs₂.extBut D.l2i1).extBut hs₃.extBut D.l2TO) hy fun h₄ h2₄ hs₄ => ?_
  have hTO₄ : IsPair h₄ TO x b := hs₄.extBut _ _ D.TOi2 hTO₃
  refine wpAny_bind (wpAny_seqItems hTO₄ rfl ?_)
  refine wpAny_bind (wpAny_updateSeq_pair hTO₄ fun h₅ hTO₅ hs₅ => ?_)
  replace hTO₅ : IsPair h₅ TO x y := hTO₅
  refine wpAny_bind (wpAny_letGo (wpAny_pure (wpAny_pure ?_)))
  refine wpAny_bind (wpAny_seqItems hTO₅ rfl ?_)
  refine wpAny_bind (wpAny_newTuple ?_)
  have hsz : h₅.objs.size = s.heap.objs.size := by rw [hs₅.1, hs₄.1, hs₃.1, hs₂.1, hs₁.1]
  have hz₅ : IsZipS h₅ z TI TO .ellipsis := hs₅.extBut _ _ D.TOz.symm (hs₄.extBut _ _ D.i2z.symm (hs₃.extBut _ _ D.TOz.symm (hs₂.extBut _ _ D.i1z.symm hz₁)))
  have hk₅ : ∀ c o, c ≠ z → c ≠ TO → c ≠ i1 → c ≠ i2 → s.heap.get? c = some o → h₅.get? c = some o := fun c o c1 c2 c3 c4 e =>
    hs₅.extBut _ _ c2 (hs₄.extBut _ _ c4 (hs₃.extBut _ _ c2 (hs₂.extBut _ _ c3 (hs₁.extBut _ _ c1 e))))
  have h1₅ : h₅.IsListIter i1 l1 (k1 + 1) := ((h1₂.extBut hs₃.extBut D.TOi1.symm).extBut hs₄.extBut D.i12).extBut hs₅.extBut D.TOi1.symm
  have h2₅ : h₅.IsListIter i2 l2 (k2 + 1) := h2₄.extBut hs₅.extBut D.TOi2.symm
  have hzlt : z < h₅.objs.size := Heap.lt_size hz₅
  show wpAny _ _ (Builtin.SmallTypes.ownedTupleHandOut (.ref z) (.ref h₅.objs.size) >>= _) _ _ _
  refine wpAny_bind ?_
  unfold Builtin.SmallTypes.ownedTupleHandOut
  have hz₆ : IsZipS (h₅.push { cls := .type "tuple", data := .seq #[x, y] }) z TI TO .ellipsis := Heap.get?_push_of_some _ hz₅
  refine wpAny_bind (wpAny_setField_rec hz₆ (by simp) fun h₇ hz₇ hs₇ => ?_)
  replace hz₇ : IsZipS h₇ z TI TO (rawInt h₅.objs.size) := hz₇
  refine wpAny_setField_rec hz₇ (by simp) fun h₈ hz₈ hs₈ => ?_
  replace hz₈ : IsZipS h₈ z TI TO (rawInt h₅.objs.size) := hz₈
  have up : ∀ c o, c ≠ z → h₅.get? c = some o → h₈.get? c = some o := fun c o c1 e => hs₈.extBut _ _ c1 (hs₇.extBut _ _ c1 (Heap.get?_push_of_some _ e))
  have hT₈ : IsPair h₈ h₅.objs.size x y := hs₈.extBut _ _ (Nat.ne_of_gt hzlt) (hs₇.extBut _ _ (Nat.ne_of_gt hzlt) (Heap.get?_push_size _ rfl))
  have hz8 : h₈.objs.size = h₅.objs.size + 1 := by rw [hs₈.1, hs₇.1, Heap.size_push]
  rw [hsz] at hz₈ hT₈ hz8
  refine wpAny_pure ⟨_, rfl, ?_⟩
  show Q (.ref h₅.objs.size) _
  rw [hsz]
  exact hQ h₈ hz₈ (up _ _ D.TOz hTO₅) (h1₅.at fun o e => up _ o D.i1z e) (h2₅.at fun o e => up _ o D.i2z e) hT₈ hz8 fun c o c1 c2 c3 c4 e => up c o c1 (hk₅ c o c1 c2 c3 c4 e)

theorem next_end {z TI TO i1 i2 l1 l2 : Addr} {k1 k2 : Nat} {xs ys : Array Value} {a b : Value} {Q : Fin → Shared → Prop} (hh : A.handled = none) (D : ZipApart z TI TO i1 i2 l1 l2)
    (hz : IsZipS s.heap z TI TO .none) (hTI : IsPair s.heap TI (.ref i1) (.ref i2)) (hTO : IsPair s.heap TO a b)
    (h1 : s.heap.IsListIter i1 l1 k1) (h2 : s.heap.IsListIter i2 l2 k2) (hl1 : s.heap.IsList l1 xs) (hl2 : s.heap.IsList l2 ys) (hx : xs[k1]? = none) (hy : ys[k2]? = none)
    (hE : ∀ h' e, (∀ c o, c ≠ z → c ≠ TO → c ≠ i1 → c ≠ i2 → s.heap.get? c = some o → h'.get? c = some o) → (∃ o, h'.get? e = some o ∧ o.cls = .type "StopIteration") → E (.ref e) { s with heap := h' }) :
    wpAny (model prog w) A (Builtin.«zip.__next__» ⟨[.ref z], []⟩) Q E s := by
  show wpAny _ _ (field (.ref z) 2 >>= _) _ _ _
  refine wpAny_bind (wpAny_field hz rfl (x := .bool true) rfl ?_)
  show wpAny _ _ (field (.ref z) 3 >>= _) _ _ _
  refine wpAny_bind (wpAny_field hz rfl (x := .ref TI) rfl ?_)
  refine wpAny_bind (wpAny_seqItems hTI rfl ?_)
  show wpAny _ _ (Builtin.SmallTypes.ownedTupleIsFree (.ref z) >>= _) _ _ _
  refine wpAny_bind ?_
  unfold Builtin.SmallTypes.ownedTupleIsFree
  refine wpAny_bind (wpAny_field hz rfl (x := .none) rfl (wpAny_pure ?_))
  simp only [if_true]
  refine wpAny_bind (wpAny_rule ?_)
  refine wpAny_bind (wpAny_field hz rfl (x := .ref TO) rfl ?_)
  refine wpAny_bind (wpAny_setField_rec hz (by simp) fun h₁ hz₁ hs₁ => ?_)
  replace hz₁ : IsZipS h₁ z TI TO .ellipsis := hz₁
  refine wpAny_bind ?_
  simp only [List.zipIdx_cons, List.zipIdx_nil, List.forIn_cons, List.forIn_nil]
  refine wpAny_bind (wpAny_bind (wpAny_onRaise ?_))
  show wpAny _ _ (Builtin.SmallTypes.nextOrEnd (.ref i1)) _ _ _
  refine noe_end hh (h1.extBut hs₁.extBut D.i1z) (hl1.extBut hs₁.extBut D.l1z) hx fun h₂ hs₂ => ?_
  have hz₂ : IsZipS h₂ z TI TO .ellipsis := hs₂ _ _ D.i1z.symm hz₁
  refine wpAny_bind (wpAny_setField_rec hz₂ (by simp) fun h₃ _ hs₃ => ?_)
  refine wpAny_bind ?_
  show wpAny _ _ ((forIn _ _ _) >>= _) _ _ _
  simp only [List.drop, List.zipIdx_cons, List.zipIdx_nil, List.forIn_cons, List.forIn_nil]
  refine wpAny_bind (wpAny_bind ?_)
  refine wpAny_bind (noe_end hh (((h2.extBut hs₁.extBut D.i2z).extBut hs₂ D.i12.symm).extBut hs₃.extBut D.i2z) (((hl2.extBut hs₁.extBut D.l2z).extBut hs₂ D.l2i1).extBut hs₃.extBut D.l2z) hy fun h₄ hs₄ => ?_)
  rw [if_neg (by decide)]
  refine wpAny_pure (wpAny_pure ?_)
  refine wpAny_bind (wpAny_rule ?_)
  exact stop_iter hh fun h₅ e hk he => hE h₅ e (fun c o c1 c2 c3 c4 x => hk c o (hs₄ _ _ c4 (hs₃.extBut _ _ c1 (hs₂ _ _ c3 (hs₁.extBut _ _ c1 x))))) he

theorem pyNext_item {z TI TO i1 i2 l1 l2 : Addr} {k1 k2 : Nat} {xs ys : Array Value} {x y a b : Value} {Q : Option Value → Shared → Prop} (D : ZipApart z TI TO i1 i2 l1 l2)
    (hz : IsZipS s.heap z TI TO .none) (hTI : IsPair s.heap TI (.ref i1) (.ref i2)) (hTO : IsPair s.heap TO a b)
    (h1 : s.heap.IsListIter i1 l1 k1) (h2 : s.heap.IsListIter i2 l2 k2) (hl1 : s.heap.IsList l1 xs) (hl2 : s.heap.IsList l2 ys) (hx : xs[k1]? = some x) (hy : ys[k2]? = some y)
    (hQ : ∀ h', IsZipS h' z TI TO (rawInt s.heap.objs.size) → IsPair h' TO x y → h'.IsListIter i1 l1 (k1 + 1) → h'.IsListIter i2 l2 (k2 + 1) → IsPair h' s.heap.objs.size x y → h'.objs.size = s.heap.objs.size + 1 →
      (∀ c o, c ≠ z → c ≠ TO → c ≠ i1 → c ≠ i2 → s.heap.get? c = some o → h'.get? c = some o) → Q (some (.ref s.heap.objs.size)) { s with heap := h' }) :
    wpAny (model prog w) A (pyNext (.ref z)) Q E s := by
  have hT : s.TypeIs (.ref z) "zip" := ⟨_, hz, rfl⟩
  unfold pyNext
  exact wpAny_bind (wpAny_attempt (wpAny_callSpecial?_slot (name := Str.ofString "__next__") hT F.slot_zip_next
    (wpAny_call_entry F.slot_zip_next hT F.entry_zip_next
      (next_item D hz hTI hTO h1 h2 hl1 hl2 hx hy fun h' a1 a2 a3 a4 a5 a6 a7 => wpAny_pure (hQ h' a1 a2 a3 a4 a5 a6 a7)) (F.args_zip_next_1 _))))
theorem pyNext_end {z TI TO i1 i2 l1 l2 : Addr} {k1 k2 : Nat} {xs ys : Array Value} {a b : Value} {Q : Option Value → Shared → Prop} (hh : A.handled = none) (D : ZipApart z TI TO i1 i2 l1 l2)
    (hz : IsZipS s.heap z TI TO .none) (hTI : IsPair s.heap TI (.ref i1) (.ref i2)) (hTO : IsPair s.heap TO a b)
    (h1 : s.heap.IsListIter i1 l1 k1) (h2 : s.heap.IsListIter i2 l2 k2) (hl1 : s.heap.IsList l1 xs) (hl2 : s.heap.IsList l2 ys) (hx : xs[k1]? = none) (hy : ys[k2]? = none)
    (hQ : ∀ h', (∀ c o, c ≠ z → c ≠ TO → c ≠ i1 → c ≠ i2 → s.heap.get? c = some o → h'.get? c = some o) → Q none { s with heap := h' }) : wpAny (model prog w) A (pyNext (.ref z)) Q E s := by
  have hT : s.TypeIs (.ref z) "zip" := ⟨_, hz, rfl⟩
  unfold pyNext
  refine wpAny_bind (wpAny_attempt (wpAny_callSpecial?_slot (name := Str.ofString "__next__") hT F.slot_zip_next
    (wpAny_call_entry F.slot_zip_next hT F.entry_zip_next (next_end hh D hz hTI hTO h1 h2 hl1 hl2 hx hy fun h' e hk he => ?_) (F.args_zip_next_1 _))))
  obtain ⟨o, ho, hc⟩ := he
  exact wpAny_bind (wpAny_isInstance (T := "StopIteration") (b := true) ⟨o, ho, hc⟩ isSubtype_stop (wpAny_pure (hQ _ hk)))
theorem letGo_zipS {elts : List Expr} {x1} {pos : Pos} {z TI TO T : Addr} {Q : Unit → Shared → Prop} (hz : IsZipS s.heap z TI TO (rawInt T))
    (hQ : ∀ h', IsZipS h' z TI TO .none → Heap.SameBut z s.heap h' → Q () { s with heap := h' }) :
    wpAny (model prog w) A (letOwnedTupleGo (.Tuple elts x1 pos) (.ref z) (.ref T)) Q E s := by
  unfold letOwnedTupleGo
  refine wpAny_bind (wpAny_load hz ?_)
  show wpAny _ _ (if (["enumerate", "zip", "dict_itemiterator", "dict_reverseitemiterator", "odict_iterator", "itertools.zip_longest", "itertools.pairwise"].contains "zip" &&
      (#[rawInt T, .bool false, .bool true, .ref TI, .ref TO] : Array Value)[0]? == some (rawInt T)) = true then _ else _) Q E s
  rw [if_pos (by simp)]
  refine wpAny_bind (wpAny_rule ?_)
  show wpAny _ _ (setField (.ref z) 0 .none) Q E s
  exact wpAny_setField_rec hz (by simp) fun h' hz' hs' => hQ h' hz' hs'
theorem pyIter_zipS {z TI TO : Addr} {f0 : Value} {Q : Value → Shared → Prop} (hz : IsZipS s.heap z TI TO f0) (h : Q (.ref z) s) : wpAny (model prog w) A (pyIter (.ref z)) Q E s := by
  have hT : s.TypeIs (.ref z) "zip" := ⟨_, hz, rfl⟩
  refine wpAny_pyIter_slot hT F.slot_zip_iter (wpAny_call_entry F.slot_zip_iter hT F.entry_zip_iter ?_ (F.args_zip_iter_1 _))
  show wpAny _ _ (ret (.ref z)) _ _ s
  exact wpAny_pure ⟨_, rfl, "zip", _, hT, F.slot_zip_next.lookup, h⟩
end
abbrev zS5 (h : Heap) (l1 l2 : Addr) : Heap := (zipH4 h l1 l2).push { cls := .type "zip", data := .fields #[.none, .bool false, .bool true, .ref (zipH2 h l1 l2).objs.size, .ref (zipH3 h l1 l2).objs.size] }
theorem meets_new (l1 l2 : Addr) (xs ys : Array Value) :
    Meets (Builtin.«zip.__new__» ⟨[.type "zip", .ref l1, .ref l2], [(Str.ofString "strict", .bool true)]⟩) (fun _ R s => s.heap.IsList l1 xs ∧ s.heap.IsList l2 ys ∧
      R (.ok (.ret (.ref (zipH4 s.heap l1 l2).objs.size))) { s with heap := zS5 s.heap l1 l2 }) :=
  .of_wp fun prog w A R s h => by
    obtain ⟨hp, g, d, tk, os⟩ := s; obtain ⟨hl1, hl2, h⟩ := h
    have hsub := sub_zip
    have hL1 : Heap.IsList (Shared.heap ⟨hp, g, d, tk, os⟩) l1 xs := hl1
    have hL2 : Heap.IsList (Shared.heap ⟨hp.push { cls := .type "list_iterator", data := .fields #[.ref l1, .int 0 0] }, g, d, tk, os⟩) l2 ys := Heap.IsList.push hl2 _
    have e2 : (Str.ofString "strict" != ("strict" : Str)) = false := by decide +kernel
    wp_walk using wpAny_pyIter_list hL1, wpAny_pyIter_list hL2
    exact ⟨_, rfl, h⟩
theorem typeCall_s (a b c : Value) : checkTypeCall "zip" ⟨[a, b], [(Str.ofString "strict", c)]⟩ = pure () := by kernel_rfl
theorem newCall_s (a b c : Value) : checkBuiltinCall "zip.__new__" ⟨[.type "zip", a, b], [(Str.ofString "strict", c)]⟩ = pure () := by kernel_rfl
theorem args_init_s (obj a b c : Value) : argsOk "object.__init__" ⟨[obj, a, b], [(Str.ofString "strict", c)]⟩ := by unfold argsOk; kernel_rfl
section
variable {prog : Program} {w : World} {A : Around} {E : Value → Shared → Prop} {s : Shared}
theorem call_zipS {l1 l2 : Addr} {xs ys : Array Value} {Q : Value → Shared → Prop} (hl1 : s.heap.IsList l1 xs) (hl2 : s.heap.IsList l2 ys)
    (h : ∀ h', IsZipS h' (s.heap.objs.size + 4) (s.heap.objs.size + 2) (s.heap.objs.size + 3) .none → IsPair h' (s.heap.objs.size + 2) (.ref s.heap.objs.size) (.ref (s.heap.objs.size + 1)) →
      IsPair h' (s.heap.objs.size + 3) .none .none → h'.IsListIter s.heap.objs.size l1 0 → h'.IsListIter (s.heap.objs.size + 1) l2 0 → h'.objs.size = s.heap.objs.size + 5 →
      (∀ c o, s.heap.get? c = some o → h'.get? c = some o) → Q (.ref (s.heap.objs.size + 4)) { s with heap := h' }) :
    wpAny (model prog w) A (call (.type "zip") [.ref l1, .ref l2] [(Str.ofString "strict", .bool true)]) Q E s := by
  refine callType_newKw F.called_zip (by decide) (typeCall_s _ _ _) (newCall_s _ _ _) (fun obj => args_init_s obj _ _ _) F.entry_zip_new
    (meets_new l1 l2 xs ys) ⟨hl1, hl2, ?_⟩
  have z1 : (zipH1 s.heap l1).objs.size = s.heap.objs.size + 1 := Heap.size_push ..
  have z2 : (zipH2 s.heap l1 l2).objs.size = s.heap.objs.size + 2 := by rw [Heap.size_push, z1]
  have z3 : (zipH3 s.heap l1 l2).objs.size = s.heap.objs.size + 3 := by rw [Heap.size_push, z2]
  have z4 : (zipH4 s.heap l1 l2).objs.size = s.heap.objs.size + 4 := by rw [Heap.size_push, z3]
  have z5 : (zS5 s.heap l1 l2).objs.size = s.heap.objs.size + 5 := by rw [Heap.size_push, z4]
  have up : ∀ {h : Heap} {b : Addr} {o u : Obj}, h.get? b = some o → (h.push u).get? b = some o := fun e => Heap.get?_push_of_some _ e
  have g5 : (zS5 s.heap l1 l2).get? (zipH4 s.heap l1 l2).objs.size = some _ := Heap.get?_push_size _ rfl
  have g4 : (zS5 s.heap l1 l2).get? (zipH3 s.heap l1 l2).objs.size = some _ := up (Heap.get?_push_size _ rfl)
  have g3 : (zS5 s.heap l1 l2).get? (zipH2 s.heap l1 l2).objs.size = some _ := up (up (Heap.get?_push_size _ rfl))
  have g2 : (zS5 s.heap l1 l2).get? (zipH1 s.heap l1).objs.size = some _ := up (up (up (Heap.get?_push_size _ rfl)))
  have g1 : (zS5 s.heap l1 l2).get? s.heap.objs.size = some _ := up (up (up (up (Heap.get?_push_size _ rfl))))
  show _ ∧ _
  rw [z2, z3, z4] at g5
  rw [z1, z2] at g3
  rw [z3] at g4
  rw [z1] at g2
  rw [z4]
  exact ⟨⟨_, g5, rfl⟩, h _ g5 g3 g4 ⟨_, g1, rfl, rfl⟩ ⟨_, g2, rfl, rfl⟩ z5 fun c o x => up (up (up (up (up x))))⟩
end
def ItzS (K : PySem.W.Frag) (a b : Addr) : It :=
  ⟨fun i H => ∃ (xs ys : List V) (x y : V), SqL K H a xs ∧ SqL K H b ys ∧ xs[i]? = some x ∧ ys[i]? = some y,
    fun i H v H' => ∃ T x y, v = .ref T ∧ H T = none ∧ H' = upd H T (.tup [x, y]) ∧ (∀ xs, SqL K H a xs → xs[i]? = some x) ∧ ∀ ys, SqL K H b ys → ys[i]? = some y,
    fun i H => ∃ xs ys : List V, SqL K H a xs ∧ SqL K H b ys ∧ xs.length ≤ i ∧ ys.length ≤ i⟩
theorem turn_zipS {P : Program} {w : World} {K : PySem.W.Frag} {elts : List Expr} {kk : Nat} {tpos : Pos} {a b z TI TO i1 i2 : Addr} (D : ZipApart z TI TO i1 i2 a b) :
    Turn P w K (.Tuple elts kk tpos) (ItzS K a b) [z, TI, TO, i1, i2] z (fun i h => IsZipS h z TI TO .none ∧ IsPair h TI (.ref i1) (.ref i2) ∧ (∃ x y, IsPair h TO x y) ∧ h.IsListIter i1 a i ∧ h.IsListIter i2 b i) where
  mem := by simp
  obj := fun i h st c hc => by
    obtain ⟨hz, hTI, ⟨x, y, hTO⟩, ⟨o1, e1, _, d1⟩, ⟨o2, e2, _, d2⟩⟩ := st
    have e' : c = z ∨ c = TI ∨ c = TO ∨ c = i1 ∨ c = i2 := by simpa using hc
    rcases e' with q | q | q | q | q
    · rw [q]; exact ⟨_, hz, fun v q => nomatch q⟩
    · rw [q]; exact ⟨_, hTI, fun v q => nomatch q⟩
    · rw [q]; exact ⟨_, hTO, fun v q => nomatch q⟩
    · rw [q]; exact ⟨o1, e1, fun v q => by rw [d1] at q; cases q⟩
    · rw [q]; exact ⟨o2, e2, fun v q => by rw [d2] at q; cases q⟩
  keep := fun i h h' st k => by
    obtain ⟨hz, hTI, ⟨x, y, hTO⟩, h1, h2⟩ := st
    exact ⟨k z (by simp) _ hz, k TI (by simp) _ hTI, ⟨x, y, k TO (by simp) _ hTO⟩, h1.at fun o q => k i1 (by simp) o q, h2.at fun o q => k i2 (by simp) o q⟩
  item := by
    intro X hP hw hK hc i pins s σ H E I hf st hg
    subst hP hw hK
    obtain ⟨hz, hTI, ⟨x0, y0, hTO⟩, h1, h2⟩ := st
    obtain ⟨xs, ys, x, y, hqx, hqy, hx, hy⟩ := hg
    obtain ⟨its, rv, p, _⟩ := I.list hqx
    obtain ⟨its2, rv2, p2, _⟩ := I.list hqy
    obtain ⟨u, hu, ru⟩ := rv.get hx
    obtain ⟨u2, hu2, ru2⟩ := rv2.get hy
    have hzl : z < s.heap.objs.size := Heap.lt_size hz
    refine pyNext_item D hz hTI hTO h1 h2 p.isList p2.isList (x := u) (y := u2) (by simpa using hu) (by simpa using hu2) fun h' z' TO' h1' h2' hT hsz hk => ?_
    refine ⟨_, rfl, letGo_zipS (s := { s with heap := h' }) z' fun h'' z'' sb => ?_⟩
    have hT2 : h''.get? s.heap.objs.size = some { cls := .type "tuple", data := .seq #[u, u2] } := (sb.2 _ (Nat.ne_of_gt hzl)).trans hT
    have new : ObjOk X.prog X.w (upd H s.heap.objs.size (.tup [x, y])) h'' s.heap.objs.size (.tup [x, y]) :=
      ⟨by show 2 ≤ sizeLine; decide, [u, u2], .cons ru (.cons ru2 .nil), ⟨_, hT2, rfl, _, rfl⟩⟩
    have I1 : Inv X pins σ (upd H s.heap.objs.size (.tup [x, y])) { s with heap := h'' } :=
      I.turnedNew (t' := s.toks) (ch := [z, TI, TO, i1, i2]) (fun c o hb q => (sb.2 c (fun q' => hb (by simp [q']))).trans (hk c o (fun q' => hb (by simp [q'])) (fun q' => hb (by simp [q'])) (fun q' => hb (by simp [q'])) (fun q' => hb (by simp [q'])) q)) hf (Nat.le_refl _) new
    refine ⟨.ref s.heap.objs.size, _, I1, rfl, ⟨_, x, y, rfl, I.hok.fresh (Nat.le_refl _), rfl, fun l hl => by rw [I.list_inj hl hqx]; exact hx, fun l hl => by rw [I.list_inj hl hqy]; exact hy⟩, ⟨z'', ?_, ⟨u, u2, ?_⟩, ?_, ?_⟩, fun c hcm => ?_⟩
    · exact (sb.2 _ D.TIz).trans (hk _ _ D.TIz D.TITO D.TIi1 D.TIi2 hTI)
    · exact (sb.2 _ D.TOz).trans TO'
    · exact h1'.at fun o q => (sb.2 _ D.i1z).trans q
    · exact h2'.at fun o q => (sb.2 _ D.i2z).trans q
    · have hlt : c < s.heap.objs.size := by
        have e' : c = z ∨ c = TI ∨ c = TO ∨ c = i1 ∨ c = i2 := by simpa using hcm
        rcases e' with q | q | q | q | q
        · rw [q]; exact hzl
        · rw [q]; exact Heap.lt_size hTI
        · rw [q]; exact Heap.lt_size hTO
        · rw [q]; obtain ⟨_, e1, _⟩ := h1; exact Heap.lt_size e1
        · rw [q]; obtain ⟨_, e2, _⟩ := h2; exact Heap.lt_size e2
      rw [upd_ne (Nat.ne_of_lt hlt)]
      exact (hf c hcm).1
  done := by
    intro X hP hw hK hc i pins s σ H E I hf st hg
    subst hP hw hK
    obtain ⟨hz, hTI, ⟨x0, y0, hTO⟩, h1, h2⟩ := st
    obtain ⟨xs, ys, hqx, hqy, g1, g2⟩ := hg
    obtain ⟨its, rv, p, _⟩ := I.list hqx
    obtain ⟨its2, rv2, p2, _⟩ := I.list hqy
    have l1 := rv.length
    have l2 := rv2.length
    exact pyNext_end (I.ok.hd hc) D hz hTI hTO h1 h2 p.isList p2.isList (by simp; omega) (by simp; omega) fun h' hk => ⟨rfl, I.turnedL (t' := s.toks) (ch := [z, TI, TO, i1, i2]) (fun c o hb q =>
      hk c o (fun q' => hb (by simp [q'])) (fun q' => hb (by simp [q'])) (fun q' => hb (by simp [q'])) (fun q' => hb (by simp [q'])) q) hf⟩
  self := fun A i s Q E st h => pyIter_zipS st.1 h
section
variable {M : Model} {A : Around} {E : Value → Shared → Prop} {s : Shared} {env : Env}
theorem cw_type_kw {pos : Pos} {T : String} {e : Expr} {rest : List Expr} {kws : List Keyword} {Q : Value → Shared → Prop}
    (h : wpAny M A (spliced (backTo pos (starEach (e :: rest) env))) (fun vs s₁ => wpAny M A (evalAll ((backToKw pos (keywordEach kws env)).map (·.2)))
      (fun kvs s₂ => wpAny M A (call (.type T) vs (((backToKw pos (keywordEach kws env)).filterMap (·.1)).zip kvs)) Q E s₂) E s₁) E s)
    (he : backTo pos (starEach (e :: rest) env) = (false, eval e env) :: backTo pos (starEach rest env)) (hplain : (backTo pos (starEach (e :: rest) env)).any (·.1) = false)
    (hall : (backToKw pos (keywordEach kws env)).all (·.1.isSome) = true) (hkw : (backToKw pos (keywordEach kws env)).any (·.1.isNone) = false) :
    wpAny M A (callWith pos (.type T) [] (backTo pos (starEach (e :: rest) env)) (backToKw pos (keywordEach kws env))) Q E s := by
  have h2 : wpAny M A (evalArgs (.type T) true (backTo pos (starEach (e :: rest) env)) (backToKw pos (keywordEach kws env))) (fun a s₁ => wpAny M A (call (.type T) ([] ++ a.pos) a.kw) Q E s₁) E s := by
    rw [he] at h ⊢
    exact evalArgs_kwB hall h
  unfold callWith
  refine wpAny_bind (wpAny_holding (wpAny_mono h2 (fun a s₁ h₁ => wpAny_bind (wpAny_standAt ?_)) fun _ _ x => x))
  simp only [hplain, hkw, Bool.or_false]
  refine wpAny_bind (wpAny_pure ?_)
  exact wpAny_bind (wpAny_mono h₁ (fun r s₂ hr => wpAny_bind (wpAny_holding (wpAny_point (wpAny_pure hr)))) fun _ _ x => x)
end
def iZipSL (K : PySem.W.Frag) (ta tk : TA) : TI := fun σ H R => ta σ H fun vs H1 => tk σ H1 fun zs H2 => zs = [.bl true] ∧ ∃ a b xs ys, vs = [.ref a, .ref b] ∧ SqL K H2 a xs ∧ SqL K H2 b ys ∧ xs.length = ys.length ∧ R (ItzS K a b) H2
theorem pi_zipSL {X : Cx} {e e2 : Expr} {ta tk : TA} {p pos tpos : Pos} {elts : List Expr} {kk : Nat} {kws : List Keyword} (hg : Gl X "zip") (hm : X.mg "zip" = none) (ha : PA X [e, e2] ta) (hkw : PK X kws tk)
    (hall : (backToKw pos (keywordEach kws X.env)).all (·.1.isSome) = true := by rfl) (hks : (backToKw pos (keywordEach kws X.env)).filterMap (·.1) = [("strict" : Str)] := by rfl)
    (he : backTo pos (starEach [e, e2] X.env) = (false, eval e X.env) :: backTo pos (starEach [e2] X.env) := by rfl)
    (hpl : (backTo pos (starEach [e, e2] X.env)).any (·.1) = false := by rfl) (hno : (backToKw pos (keywordEach kws X.env)).any (·.1.isNone) = false := by rfl) :
    PI X (.Tuple elts kk tpos) (.Call (.Name "zip" p) [e, e2] kws pos) (iZipSL X.K ta tk) := by
  refine ⟨fun pins s σ H R I h => ?_⟩
  refine wpAny_Call_Name_kw (ld_blt I hg hm PyProof.Rows.boot_zip ?_)
  refine cw_type_kw (thn (ha.run pos pins s σ H _ I h) fun us s1 ⟨vs, H1, I1, r1, q1⟩ => ?_) he hpl hall hno
  refine thn (hkw.run pos pins s1 σ H1 _ I1 q1) fun ws s2 ⟨zs, H2, I2, rz, q2⟩ => ?_
  rw [hks]
  obtain ⟨ez, a, b, xs, ys, ex, hqx, hqy, hl, q⟩ := q2
  subst ex
  subst ez
  obtain ⟨w1, rfl, e1⟩ := vals1 rz
  obtain rfl : w1 = Value.bool true := e1
  cases r1 with
  | cons r rr =>
    cases rr with
    | cons r' rr =>
      cases rr
      cases r
      cases r'
      have fresh5 : ∀ c, c ∈ [s2.heap.objs.size + 4, s2.heap.objs.size + 2, s2.heap.objs.size + 3, s2.heap.objs.size, s2.heap.objs.size + 1] → FpOk X pins H2 c := fun c hcm => by
        have e' : c = s2.heap.objs.size + 4 ∨ c = s2.heap.objs.size + 2 ∨ c = s2.heap.objs.size + 3 ∨ c = s2.heap.objs.size ∨ c = s2.heap.objs.size + 1 := by simpa using hcm
        have hle : s2.heap.objs.size ≤ c := by
          rcases e' with z | z | z | z | z
          · rw [z]; exact Nat.le_add_right _ _
          · rw [z]; exact Nat.le_add_right _ _
          · rw [z]; exact Nat.le_add_right _ _
          · rw [z]; exact Nat.le_refl _
          · rw [z]; exact Nat.le_add_right _ _
        exact I2.fpOk hle (I2.hok.fresh hle)
      obtain ⟨its, rv, p1, _⟩ := I2.list hqx
      obtain ⟨its2, rv2, p2, _⟩ := I2.list hqy
      obtain ⟨o1, ho1, _⟩ := id p1
      obtain ⟨o2, ho2, _⟩ := id p2
      show wpAny _ _ (call (.type "zip") [.ref a, .ref b] [(Str.ofString "strict", .bool true)]) _ _ _
      refine call_zipS (show s2.heap.IsList a its.toArray from p1.isList) (show s2.heap.IsList b its2.toArray from p2.isList) fun h' hz hTI hTO h1 h2 hsz hk => pyIter_zipS hz ?_
      have I3 : Inv X pins σ H2 { s2 with heap := h' } := I2.kept (t' := s2.toks) hk
      exact ⟨s2.heap.objs.size + 4, [s2.heap.objs.size + 4, s2.heap.objs.size + 2, s2.heap.objs.size + 3, s2.heap.objs.size, s2.heap.objs.size + 1], _, _, H2, rfl, I3, turn_zipS (PySem.W.ktu_apart s2.heap.objs.size a b p1.lt p2.lt), ⟨hz, hTI, ⟨_, _, hTO⟩, h1, h2⟩, fresh5, q⟩
end DZl
namespace DL
open PySem PySem.Spec PyProof.Rows L2
theorem evi_zipSL {K : PySem.W.Frag} {Δ : Sl} {G L : List M} {ta tk : TA} {Qi : List D → List M → List M → Prop} (h : EvA K ta Δ G L fun ss G1 L1 => EvA K tk Δ G1 L1 fun zz G2 L2 => zz = [.d (.bl true)] ∧ ∃ xs ys, ss = [.d (.lst xs), .d (.lst ys)] ∧ xs.length = ys.length ∧ Qi (zipD xs ys) G2 L2) : EvI K (DZl.iZipSL K ta tk) Δ G L Qi := fun w ls σ H c R q =>
  h w ls σ H c _ fun us ss H2 G2 L2 c2 e2 r2 k2 => k2 w ls σ H2 c2 _ fun zs zz H3 G3 L3 c3 e3 r3 ⟨ez, xs, ys, e, hl, k⟩ => by
    subst e
    subst ez
    obtain ⟨z, rfl, rz⟩ := pair1 r3
    obtain rfl : z = V.bl true := rz
    obtain ⟨v, u, rfl, ⟨a, vs, rfl, ⟨h1, n1⟩, r1⟩, b, vs2, rfl, ⟨h3, n3⟩, r3⟩ := pair2 (RSs.on c2 e3 r2)
    refine ⟨rfl, a, b, vs, vs2, rfl, .inl (.inl h1), .inl (.inl h3), by rw [r1.length, r3.length]; exact hl, q _ H3 _ G3 L3 c3 (e2.trans e3) ⟨fun H4 w2 ls2 σ2 Δ2 G4 L4 i d g c4 hi => ?_, fun H4 w2 ls2 g => ?_⟩ k⟩
    · obtain ⟨x, y, hx, hy, rfl⟩ := zipD_get hi
      obtain ⟨x', hx', rx⟩ := (r1.grow g).get hx
      obtain ⟨y', hy', ry⟩ := (r3.grow g).get hy
      have t1 : SqL K H4 a vs := .inl (.inl (g.keep _ _ h1 n1))
      have t3 : SqL K H4 b vs2 := .inl (.inl (g.keep _ _ h3 n3))
      refine ⟨⟨vs, vs2, x', y', t1, t3, hx', hy'⟩, fun u H' ⟨T, x2, y2, eu, hT, hH, f1, f2⟩ => ?_⟩
      subst hH
      subst eu
      have e1 := f1 vs t1
      have e2 := f2 vs2 t3
      rw [hx'] at e1
      rw [hy'] at e2
      cases e1
      cases e2
      exact ⟨c4.new hT, Ext.new hT, rep_tup c4 hT ⟨_, _, rfl, rx, RepL.one ry⟩⟩
    · refine ⟨vs, vs2, .inl (.inl (g.keep _ _ h1 n1)), .inl (.inl (g.keep _ _ h3 n3)), ?_, ?_⟩
      · rw [zipD_len, r1.length]
        omega
      · rw [zipD_len, r3.length]
        omega
end DL

namespace DL
open PySem PySem.Spec PyProof.Rows L2
section
variable {K : PySem.W.Frag} {Δ : Sl} {G L : List M} {Qd : Po}
/-- is None of a tuple -/
theorem isN_t {ds : List D} (k : Qd (.d (.bl false)) G L) : OpC K (fun x y H Q => y = .non ∧ Q (.bl (decide (x = .non))) H) (.d (.tup ds)) (.d .non) Δ G L Qd := fun w ls σ H vx vy c rx ry Q q => by
  obtain rfl : vy = V.non := ry
  obtain ⟨a, xs, rfl, _⟩ := rx
  refine ⟨rfl, ?_⟩
  rw [decide_eq_false (by simp)]
  exact q.go c Ext.refl (s := .d (.bl false)) rfl k
theorem notN_t {ds : List D} (k : Qd (.d (.bl true)) G L) : OpC K (fun x y H Q => y = .non ∧ Q (.bl (!decide (x = .non))) H) (.d (.tup ds)) (.d .non) Δ G L Qd := fun w ls σ H vx vy c rx ry Q q => by
  obtain rfl : vy = V.non := ry
  obtain ⟨a, xs, rfl, _⟩ := rx
  refine ⟨rfl, ?_⟩
  rw [decide_eq_false (by simp)]
  exact q.go c Ext.refl (s := .d (.bl true)) rfl k
/-- min of a list of whole numbers, not empty -/
theorem ap_minL {s : S} (h : ∃ ns : List Int, lsG G L s = some (ns.map D.int) ∧ 0 < ns.length ∧ ∀ m, m ∈ ns → (∀ y, y ∈ ns → m ≤ y) → Qd (.d (.int m)) G L) : ApC K (rMin K) [s] Δ G L Qd := fun w ls σ H vs c rs Q q => by
  obtain ⟨ns, hs, hn, k⟩ := h
  obtain ⟨v, rfl, r⟩ := pair1 rs
  obtain ⟨a, xs, rfl, h1, q1⟩ := lsG_get c r hs
  have e := RepL.intsV q1
  subst e
  exact ⟨a, ns, rfl, .inl (.inl h1), hn, fun m h1 h2 => q.go c Ext.refl (s := .d (.int m)) rfl (k m h1 h2)⟩
/-- x op= e for a slot x -/
theorem st_aug {i : Nat} {te : TE} {ti : TIp} {E : EndsD} (h : ∃ x, Δ[i]? = some (some x) ∧ EvC K te Δ G L fun y G1 L1 => OpC K ti x y Δ G1 L1 fun z G2 L2 => E.nx (Δ.set i (some z)) G2 L2) : StC K (tAug i te ti) Δ G L E := fun w ls σ H c D s => by
  obtain ⟨x, hx, h⟩ := h
  obtain ⟨v, hv, rv⟩ := c.sl.2 i x hx
  refine ⟨v, hv, h w ls σ H c _ fun v2 s2 H2 G2 L2 c2 e2 r2 h2 => h2 w ls σ H2 v v2 c2 (rv.on c e2) r2 _ fun v3 s3 H3 G3 L3 c3 e3 r3 h3 => ?_⟩
  exact s.nx ls _ H3 _ G3 L3 (c3.slot r3) ((e2.trans e3).grow c.reg) h3
theorem cutD_tk (ds : List D) (k : Nat) : cutD ds none (some (k : Int)) = ds.take k := by
  unfold cutD
  rw [HT.sIx_nat, HT.sIx_none, List.drop_zero, Nat.sub_zero]
  by_cases h : k ≤ ds.length
  · rw [Nat.min_eq_left h]
  · rw [Nat.min_eq_right (by omega), List.take_length, List.take_of_length_le (by omega)]
end
end DL

/-! exceptions of own classes with one field: defs that raise, raise, try .. except .. as -/
namespace DXe
open PySem PySem.Spec PyProof.Rows L2
/-- a held def is called that may raise, at the slots as they stand -/
def tCallLS (i : Nat) (f : Addr) (sp : Sp) (E : L2.St → XK) (t : TA) : TE := fun σ H Q => σ[i]? = some (some (.ref f)) ∧ t σ H fun vs H1 => sp vs H1 Q (E σ)
section
variable {X : Cx} {CX : CXT} {k i : Nat} {f : Addr} {fd : FuncData} {ps : List Str} {sp : Sp} {E : L2.St → XK} {x : Str} {p pos : Pos} {e : Expr} {es : List Expr} {t : TA}
theorem pe_callLS (F : FnOk X.prog X.w X.K X.mg X.base CX k f fd ps sp) (hr : Room k X.A) (hN : X.N[i]? = some x) (hv : Vis X.env.scope x) (hk : PySem.W.keepIn X.K (.ref f) = true) (hb : Binds X.K fd ps []) (hx : ∀ σ, PassesAt CX X σ (E σ)) (ha : PA X (e :: es) t)
    (hdb : (x == ("__debug__" : Str)) = false := by decide) (hcd : (x == ("__classdict__" : Str)) = false := by decide)
    (he : starEach (e :: es) X.env = (false, eval e X.env) :: starEach es X.env := by rfl) (hpl : (backTo pos (starEach es X.env)).any (·.1) = false := by rfl) : PE X (.Call (.Name x p) (e :: es) [] pos) (tCallLS i f sp E t) := by
  refine ⟨fun pins s σ H Q I h => wpAny_Call_Name_kw (thn ((pe_var (pos := p) hN hv hdb hcd).run pins s σ H (fun v H1 => v = .ref f ∧ H1 = H) I ⟨.ref f, h.1, rfl, rfl⟩) fun u s1 ⟨v, H1, I1, r1, q1⟩ => ?_)⟩
  obtain ⟨rfl, rfl⟩ := q1
  cases r1
  exact PySem.W.callWith_K (h₀ := X.base) I.ok.mod.kin hk (thn (ha.run pos pins s1 σ _ _ I1 h.2) fun us s2 ⟨vs, H2, I2, r, q⟩ => ⟨I2.kIn, run_fnS F hr hb (hx σ) I2 r q⟩) he hpl
end
/-- isinstance(e, a class or a tuple of classes), e the caught exception with its fields -/
def rIsX (K : PySem.W.Frag) (C a : Addr) (cls : Value) (d : Option Addr) : List V → Hp → VK → Prop := fun xs H Q => ∃ (c : V) (b : Bool), xs = [V.ref a, c] ∧ cls = .ref C ∧ (∃ dd ws, d = some dd ∧ H dd = some (.xd ws)) ∧
  ((∃ cv, (∀ u, RelV c u → u = cv) ∧ PySem.W.kitOne K (.ref C) cv = some b) ∨ ∃ (tp : Addr) (qs : List Addr), c = V.ref tp ∧ SqT K H tp (qs.map V.ref) ∧ PySem.W.kitAny K (.ref C) (qs.map Value.ref) = some b) ∧ Q (.bl b) H
theorem refs_vals : ∀ {qs : List Addr} {us : List Value}, Vals (qs.map V.ref) us → us = qs.map Value.ref
  | [], _, .nil => rfl
  | _ :: _, _, .cons r t => by
    rw [List.map_cons, ← refs_vals t, show _ = Value.ref _ from r]
theorem call_isX {X : Cx} {a C : Addr} {cls : Value} {d : Option Addr} {oe : Obj} {pn : List (Addr × Obj)} (T : L2.ExcC X.K C) (hz : Zc cls d oe) (hf : ∃ vs, oe.data = .fields vs) : CallR (X.suite a ((a, oe) :: pn)) (.builtin "isinstance") (rIsX X.K C a cls d) := by
  intro pins s σ H xs us Q I r h
  obtain ⟨c, b, rfl, rfl, ⟨dd, ws, rfl, ed⟩, hc, q⟩ := h
  obtain ⟨hget, _⟩ := I.pin (a, oe) (List.mem_append.mpr (.inl List.mem_cons_self))
  obtain ⟨vs, hv⟩ := hf
  obtain ⟨mA, hns, _⟩ : ObjOk X.prog X.w H s.heap dd (.xd ws) := I.hok dd _ ed
  obtain ⟨od, ho, _⟩ := lookIn_ns hns
  have J : PySem.W.InstAt s.heap a oe C (some od) := ⟨hget, hz.1, by unfold PySem.W.notCls; rw [hv] <;> rfl, by rw [hz.2]; exact ho⟩
  have Z : PySem.W.KitX X.K (.ref a) (.ref C) (fun h => PySem.W.InstAt h a oe C (some od)) := PySem.W.kitx_exc (by obtain ⟨cd, h1, _⟩ := PySem.W.any_some T.hd; rw [h1]; rfl) T.hg T.hk T.hs T.ha T.hn T.ht T.hm
  match us, r with
  | [_, u], .cons rx (.cons rt .nil) =>
    cases rx
    rcases hc with ⟨cv, e1, e2⟩ | ⟨tp, qs, rfl, hq, e2⟩
    · rw [e1 u rt]
      exact PySem.W.kia_one Z I.kIn J e2 (fun z => nomatch z) fun tk => ⟨.bl b, H, I.kept (t' := tk) fun _ _ z => z, rfl, q⟩
    · obtain rfl : u = Value.ref tp := rt
      obtain ⟨its, rv, ht, _⟩ := I.tuple hq
      rw [← refs_vals rv] at e2
      obtain ⟨⟨oc, odi, oda, osl⟩, h1, h2, n, h3⟩ := ht
      dsimp only at h2 h3
      subst h2
      subst h3
      exact PySem.W.kia_tup Z I.kIn J h1 e2 (fun z => nomatch z) fun tk => ⟨.bl b, H, I.kept (t' := tk) fun _ _ z => z, rfl, q⟩
/-! what isinstance says of classes -/
theorem kit_ty {K : PySem.W.Frag} {C : Addr} {T : String} (hm : PySem.W.kitMeta T = true) (h : PySem.W.subIn K (.ref C) (.type T) = some true) : PySem.W.kitOne K (.ref C) (.type T) = some true := by
  unfold PySem.W.kitOne
  rw [if_neg (by intro z; cases beq_iff_eq.mp z)]
  show (if PySem.W.kitMeta T = true then PySem.W.subIn K (.ref C) (.type T) else none) = _
  rw [if_pos hm]
  exact h
theorem kit_ref {K : PySem.W.Frag} {C D : Addr} (hC : PySem.W.subIn K (.ref C) (.ref C) = some true) (ic : PySem.W.isClsIn K D = true) (ty : PySem.W.typeIn K (.ref D) = some (.type "type")) (h : PySem.W.subIn K (.ref C) (.ref D) = some false) : PySem.W.kitOne K (.ref C) (.ref D) = some false := by
  unfold PySem.W.kitOne
  rw [if_neg (by
    intro z
    have e : C = D := Value.ref.inj (beq_iff_eq.mp z)
    subst e
    rw [hC] at h
    cases h)]
  have e2 : ((PySem.W.clsIn K D).isSome && PySem.W.typeIn K (.ref D) == some (.type "type")) = true := by
    have ic : (PySem.W.clsIn K D).isSome = true := ic
    rw [ic, ty]
    rfl
  show (if ((PySem.W.clsIn K D).isSome && PySem.W.typeIn K (.ref D) == some (.type "type")) = true then PySem.W.subIn K (.ref C) (.ref D) else none) = _
  rw [if_pos e2]
  exact h
theorem kit_nil {K : PySem.W.Frag} {C : Addr} : PySem.W.kitAny K (.ref C) [] = some false := rfl
theorem kit_cons {K : PySem.W.Frag} {C : Addr} {v : Value} {r : List Value} (h : PySem.W.kitOne K (.ref C) v = some false) (t : PySem.W.kitAny K (.ref C) r = some false) : PySem.W.kitAny K (.ref C) (v :: r) = some false := by
  show (match PySem.W.kitOne K (.ref C) v with | some true => some true | some false => PySem.W.kitAny K (.ref C) r | none => none) = _
  rw [h]
  exact t
end DXe
namespace DL
open PySem PySem.Spec PyProof.Rows L2
/-- an exception of the class at C, with its fields -/
structure Exn where
  C : Addr
  fs : List (Str × D)
def ExnAt (K : PySem.W.Frag) (H : Hp) (R : Addr → Prop) (cls : Value) (d : Option Addr) (x : Exn) : Prop := cls = .ref x.C ∧ ∃ dd ws, d = some dd ∧ (H dd = some (.xd ws) ∧ ¬ R dd) ∧ RepF K H R x.fs ws
def WishAt (K : PySem.W.Frag) (w : W) (ls : List Addr) (H : Hp) (Wi : WX) (Qx : Exn → Sl → List M → List M → Prop) : Prop :=
  ∀ σ Δ G L cls d x, Ctx K w ls σ H Δ G L → ExnAt K H (Rg w ls) cls d x → Qx x Δ G L → Wi cls d σ H
abbrev DSpecX := List S → List M → (Res → List M → Prop) → (Exn → List M → Prop) → Prop
def spDX (K : PySem.W.Frag) (F : DSpecX) : Sp := fun vs H Q Ex => ∃ (w : W) (ss : List S) (G : List M) (Qd : Res → List M → Prop) (Qx : Exn → List M → Prop), w.H0 = H ∧ Ctx K w [] [] H [] G [] ∧ Paired (RS K H (Rg w []) w.gs []) ss vs ∧ F ss G Qd Qx ∧
  (∀ v s H' G', Ctx K w [] [] H' [] G' [] → RS K H' (Rg w []) w.gs [] s v → Qd (.v s) G' → Q v H') ∧
  (∀ ps k p ms H' G', Ctx K w ps [] H' [] G' ms → ps[k]? = some p → Qd (.new ms k) G' → Q (.ref p) H') ∧
  (∀ cls d x H' G', Ctx K w [] [] H' [] G' [] → ExnAt K H' (Rg w []) cls d x → Qx x G' → Ex cls d H')
def endsX (K : PySem.W.Frag) (E : XK) (Qd : Res → List M → Prop) (Qx : Exn → List M → Prop) : EndsD :=
  { endsD Qd with wd := fun w ls H => WishAt K w ls H (fun cls d _ H => E cls d H) fun x _ G _ => Qx x G }
section
variable {K : PySem.W.Frag}
theorem RepF.put {H : Hp} {R : Addr → Prop} {f : Str} {x : D} {v : V} (h : Rep K H R x v) : RepF K H R [(f, x)] [(f, v)] := ⟨v, [], rfl, h, rfl⟩
theorem ExnAt.grow {H H' : Hp} {R R' : Addr → Prop} {cls : Value} {d : Option Addr} {x : Exn} (g : Grow H H' R R') (h : ExnAt K H R cls d x) : ExnAt K H' R' cls d x := by
  obtain ⟨e, dd, ws, ed, ⟨h1, n1⟩, r⟩ := h
  exact ⟨e, dd, ws, ed, ⟨g.keep _ _ h1 n1, fun z => n1 (g.reg _ _ h1 z)⟩, r.grow g⟩
/-- THE RULE for a def that may raise -/
theorem okDX {P : Program} {w : World} {mg : Str → Option Value} {base : Heap} {x qual : Str} {st : Stmt} {f : Addr} {fd : FuncData} {N ps : List Str} {k : Nat} {sp : DSpecX} (F : Fun K x qual st f fd) (S : FnScope N ps (defScope st)) (len : ∀ ss G Qd Qx, sp ss G Qd Qx → ss.length = ps.length)
    (hbody : ∀ (cdv : Value) (A : Around) (outer : List Env) (s : Shared) (H : Hp) (E : XK) (ss : List DL.S) (G : List M) (Qd : Res → List M → Prop) (Qx : Exn → List M → Prop), Room k (A.deeper (envOfC qual (defScope st) s.heap.objs.size f cdv)) → sp ss G Qd Qx →
      ∃ t, PSs (cxOf (L2.CX P w) P w K mg base N qual (defScope st) f cdv A outer s H E) (defBody st) t ∧ StC K t (startD N ss) G [] (endsX K E Qd Qx)) : FnOk P w K mg base (L2.CX P w) (k + 1) f fd ps (spDX K sp) := by
  refine F.okX S (fun vs H Q E h => ?_) (fun cdv A outer s H vs Q E hr h => ?_)
  · obtain ⟨w, ss, G, Qd, Qx, _, _, r, q, _⟩ := h
    rw [← paired_len r]
    exact len ss G Qd Qx q
  · obtain ⟨w, ss, G, Qd, Qx, h0, c, r, q, k1, k2, k3⟩ := h
    obtain ⟨t, ht, hs⟩ := hbody cdv A outer s H E ss G Qd Qx hr q
    refine ⟨t, ht, hs w [] (L2.start N vs) H ⟨c.reg, c.rin, c.nd, c.fr, c.h0, slok_start r, c.gl, c.lo, c.ld⟩ _ ⟨?_, ?_, ?_, ?_, ?_⟩⟩
    · intro ls' σ' H' Δ' G' L' c' g' n'
      exact k1 .non (.d .non) H' G' c'.forget rfl n'
    · intro ls' σ' H' Δ' G' L' v z c' rz n'
      cases z with
      | d x => exact k1 v (.d x) H' G' c'.forget (Rep.grow grow_drop rz) n'
      | g j => exact k1 v (.g j) H' G' c'.forget rz n'
      | l j =>
        obtain ⟨a, ha, rfl⟩ := rz
        exact k2 ls' j a L' H' G' c'.forgetS ha n'
    · intro ls' σ' H' Δ' G' L' c' g' n'
      exact n'.elim
    · intro ls' σ' H' Δ' G' L' c' g' n'
      exact n'.elim
    · intro ls' H' g' σ' Δ' G' L' cls d x c' xn qx
      exact k3 cls d x H' G' c'.forget (xn.grow grow_drop) qx
section
variable {Δ : Sl} {G L : List M} {Qd : Po} {E : EndsD} {ta ts : TA} {te : TE} {tt : TT} {F : DSpecX} {Wi : WX} {g : TG}
theorem spX_call {w : W} {ls : List Addr} {σ : L2.St} {H : Hp} {ss : List S} {vs : List V} {Q : VK} {Ex : XK} {Qx : Exn → List M → List M → Prop} (c : Ctx K w ls σ H Δ G L) (r : Paired (RS K H (Rg w ls) w.gs ls) ss vs) (hn : noL ss = true) (h : F ss G (asV Qd L) fun x G' => Qx x G' L) (q : Ret K w ls σ Δ H Qd Q)
    (qx : ∀ cls d x H' G', Ctx K w ls σ H' Δ G' L → Ext w ls H H' → ExnAt K H' (Rg w ls) cls d x → Qx x G' L → Ex cls d H') : spDX K F vs H Q Ex := by
  have g : Grow H H (Rg w ls) (Rg (DL.callee w ls H) []) := grow_iff fun a r => r.elim id (fun z => by cases z)
  have g' : ∀ H', Grow H' H' (Rg (DL.callee w ls H) []) (Rg w ls) := fun H' => grow_iff fun a r => .inl r
  refine ⟨DL.callee w ls H, ss, G, asV Qd L, fun x G' => Qx x G' L, rfl, c.callee, paired_map (noL_rs hn r) fun a b _ z => z.grow g (Pre.refl _) (Pre.refl _), h, fun v s H' G' c' rs k => ?_, fun ps j p ms H' G' c' hp k => ?_, fun cls d x H' G' c' xn k => ?_⟩
  · obtain ⟨cb, eb⟩ := c.back c'
    exact q v s H' G' L cb eb (RS.grow (g' H') (Pre.refl _) (Pre.nil _) rs) k
  · obtain ⟨m, x, hm, hx, k⟩ := k
    obtain ⟨cb, eb⟩ := c.back c'
    exact q _ (.d x) H' G' L cb eb (dat_rep c c' hp hm hx) k
  · obtain ⟨cb, eb⟩ := c.back c'
    exact qx cls d x H' G' cb eb (xn.grow (g' H')) k
/-- a call that raises nothing -/
theorem evc_callX {Ex : L2.St → XK} (h : EvA K ta Δ G L fun ss G1 L1 => noL ss = true ∧ F ss G1 (asV Qd L1) fun _ _ => False) : EvC K (tCallS (spDX K F) Ex ta) Δ G L Qd := fun w ls σ H c Q r => h w ls σ H c _ fun vs ss H2 G2 L2 c2 e2 r2 ⟨hn, k⟩ =>
  spX_call (Qx := fun _ _ _ => False) c2 r2 hn k (r.ext e2) fun _ _ _ _ _ _ _ _ z => z.elim
/-- te raises -/
def EvX (K : PySem.W.Frag) (te : TE) (Wi : WX) (Δ : Sl) (G L : List M) (Qx : Exn → List M → List M → Prop) : Prop := ∀ w ls σ H, Ctx K w ls σ H Δ G L →
  (∀ cls d x H' G' L', Ctx K w ls σ H' Δ G' L' → Ext w ls H H' → ExnAt K H' (Rg w ls) cls d x → Qx x G' L' → Wi cls d σ H') → ∀ Q, te σ H Q
def EvXA (K : PySem.W.Frag) (ta : TA) (Wi : WX) (Δ : Sl) (G L : List M) (Qx : Exn → List M → List M → Prop) : Prop := ∀ w ls σ H, Ctx K w ls σ H Δ G L →
  (∀ cls d x H' G' L', Ctx K w ls σ H' Δ G' L' → Ext w ls H H' → ExnAt K H' (Rg w ls) cls d x → Qx x G' L' → Wi cls d σ H') → ∀ Q, ta σ H Q
variable {Qx : Exn → List M → List M → Prop}
theorem evx_call (h : EvA K ta Δ G L fun ss G1 L1 => noL ss = true ∧ F ss G1 (fun _ _ => False) fun x G2 => Qx x G2 L1) : EvX K (tCallS (spDX K F) (WE Wi) ta) Wi Δ G L Qx := fun w ls σ H c qx Q => h w ls σ H c _ fun vs ss H2 G2 L2 c2 e2 r2 ⟨hn, k⟩ => by
  have h2 : F ss G2 (asV (fun _ _ _ => False) L2) fun x G' => Qx x G' L2 := by
    have e : asV (fun (_ : S) (_ _ : List M) => False) L2 = fun _ _ => False := by
      funext r G'
      cases r with
      | v s => rfl
      | new ms j =>
        refine propext ⟨fun ⟨_, _, _, _, z⟩ => z, fun z => z.elim⟩
    rw [e]
    exact k
  exact spX_call (Qd := fun _ _ _ => False) c2 r2 hn h2 (fun _ _ _ _ _ _ _ _ z => z.elim) fun cls d x H' G' c' e' xn q => qx cls d x H' G' L2 c' (e2.trans e') xn q
theorem evxa_here (h : EvX K te Wi Δ G L Qx) : EvXA K (tCons te ta) Wi Δ G L Qx := fun w ls σ H c qx Q => h w ls σ H c qx _
theorem evxa_next (h : EvC K te Δ G L fun _ G1 L1 => EvXA K ta Wi Δ G1 L1 Qx) : EvXA K (tCons te ta) Wi Δ G L Qx := fun w ls σ H c qx Q => h w ls σ H c _ fun v s H2 G2 L2 c2 e2 r2 h2 =>
  h2 w ls σ H2 c2 (fun cls d x H' G' L' c' e' xn q => qx cls d x H' G' L' c' (e2.trans e') xn q) _
theorem evx_tup (h : EvXA K ta Wi Δ G L Qx) : EvX K (tTup ta) Wi Δ G L Qx := fun w ls σ H c qx Q => h w ls σ H c qx _
theorem evx_cb {r : List V → Hp → VK → Prop} (h : EvXA K ta Wi Δ G L Qx) : EvX K (tCB r ta) Wi Δ G L Qx := fun w ls σ H c qx Q => h w ls σ H c qx _
/-- a statement whose expression raises -/
theorem stx_asg (h : EvX K te Wi Δ G L Qx) (hw : ∀ w ls H, E.wd w ls H → WishAt K w ls H Wi fun x Δ' G' L' => Δ' = Δ ∧ Qx x G' L') : StC K (tAsg te g) Δ G L E := fun w ls σ H c D s =>
  h w ls σ H c (fun cls d x H' G' L' c' e' xn q => hw w ls H' (s.wd ls H' (e'.grow c.reg)) σ Δ G' L' cls d x c' xn ⟨rfl, q⟩) _
theorem stx_ret (h : EvX K te Wi Δ G L Qx) (hw : ∀ w ls H, E.wd w ls H → WishAt K w ls H Wi fun x Δ' G' L' => Δ' = Δ ∧ Qx x G' L') : StC K (tRet te) Δ G L E := fun w ls σ H c D s =>
  h w ls σ H c (fun cls d x H' G' L' c' e' xn q => hw w ls H' (s.wd ls H' (e'.grow c.reg)) σ Δ G' L' cls d x c' xn ⟨rfl, q⟩) _
theorem stx_drop (h : EvX K te Wi Δ G L Qx) (hw : ∀ w ls H, E.wd w ls H → WishAt K w ls H Wi fun x Δ' G' L' => Δ' = Δ ∧ Qx x G' L') : StC K (tDrop te) Δ G L E := fun w ls σ H c D s =>
  h w ls σ H c (fun cls d x H' G' L' c' e' xn q => hw w ls H' (s.wd ls H' (e'.grow c.reg)) σ Δ G' L' cls d x c' xn ⟨rfl, q⟩) _
/-- out of a def -/
theorem wish_out {Ee : XK} {Qd : Res → List M → Prop} {Qe : Exn → List M → Prop} (h : ∀ x G' L', Qx x G' L' → Qe x G') : ∀ w ls H, (endsX K Ee Qd Qe).wd w ls H → WishAt K w ls H (fun cls d _ H => Ee cls d H) fun x Δ' G' L' => Δ' = Δ ∧ Qx x G' L' :=
  fun w ls H k σ Δ' G' L' cls d x c xn ⟨_, q⟩ => k σ Δ' G' L' cls d x c xn (h x G' L' q)
/-- an __init__ of one field: ValueError.__init__(self, ..); self.f = x -/
def spIni (K : PySem.W.Frag) (C : Addr) (f : Str) : Sp := fun vs H Q _ => ∃ (a : Addr) (v : V), vs = [.ref a, v] ∧ OexC K C ∧ PySem.W.findIn K (.ref C) f = some none ∧ H a = some (exo a C none) ∧ ∀ dx, H dx = none → dx ≠ a → Q .non (upd (upd H dx (exd dx [(f, v)])) a (exo a C (some dx)))
theorem ini_read {K : PySem.W.Frag} {C : Addr} {f m : Str} {vs : List V} {H : Hp} {Q : VK} {Ex : XK} (h : spIni K C f vs H Q Ex) :
    tSeq (tDrop (tVeI K (tCons (tVar 0) (tCons (tC (.str m)) tNil)))) (tOst K f (tVar 0) (tVar 1)) { nx := fun _ H' => Q .non H', rt := Q } (vs.map some) H := by
  obtain ⟨a, v, rfl, T, hno, ha, q⟩ := h
  refine ⟨_, rfl, a, C, [.str m], rfl, (by show 1 ≤ 1000; decide), T, ha, ?_⟩
  refine ⟨_, rfl, _, rfl, a, C, rfl, T, hno, .inl ⟨ha, fun dx hd hne => q dx hd hne⟩⟩
theorem st_raise {C : Addr} {f : Str} (h : EvA K ta Δ G L fun ss G1 L1 => ∃ x, ss = [.d x] ∧ OexC K C ∧ PySem.W.findIn K (.ref C) f = some none ∧ ∀ w ls H, E.wd w ls H → WishAt K w ls H Wi fun x' Δ' G' L' => x' = ⟨C, [(f, x)]⟩ ∧ Δ' = Δ ∧ G' = G1 ∧ L' = L1) :
    StC K (fun _ σ H => tMkO C (spIni K C f) [] ta σ H fun cls d H' => Wi cls d σ H') Δ G L E := fun w ls σ H c D s => h w ls σ H c _ fun vs ss H2 G2 L2 c2 e2 r2 ⟨x, e, T, hno, k⟩ => by
  subst e
  obtain ⟨v, rfl, rv⟩ := pair1 r2
  refine ⟨(by show 1 ≤ 1000; decide), fun a ha => ⟨a, v, rfl, T, hno, upd_same, fun dx hd hne => ?_⟩⟩
  have hd2 : H2 dx = none := by
    rw [upd_ne hne] at hd
    exact hd
  refine ⟨rfl, dx, [(f, v)], upd_same, ?_, hd2, ?_⟩
  · rw [upd_ne hne]
    exact upd_same
  have eh : upd (del (upd (upd (upd H2 a (exo a C none)) dx (exd dx [(f, v)])) a (exo a C (some dx))) a) dx (.xd [(f, v)]) = upd H2 dx (.xd [(f, v)]) := by
    funext b
    by_cases hb : b = dx
    · subst hb
      rw [upd_same, upd_same]
    · rw [upd_ne hb, upd_ne hb]
      by_cases hba : b = a
      · subst hba
        rw [del_same, ha]
      · rw [del_ne hba, upd_ne hba, upd_ne hb, upd_ne hba]
  rw [eh]
  have c3 := c2.new hd2 (o := .xd [(f, v)])
  have e3 := e2.trans (Ext.new hd2 (o := .xd [(f, v)]))
  have rv3 : Rep K (upd H2 dx (.xd [(f, v)])) (Rg w ls) x v := Rep.grow ((Ext.new (o := .xd [(f, v)]) hd2).grow c2.reg) rv
  exact k w ls _ (s.wd ls _ (e3.grow c.reg)) σ Δ G2 L2 (.ref C) (some dx) ⟨C, [(f, x)]⟩ c3 ⟨rfl, dx, _, rfl, ⟨upd_same, c2.free hd2⟩, RepF.put rv3⟩ ⟨rfl, rfl, rfl, rfl⟩
/-- try: body except C as slot i: suite -/
theorem st_tryAs {c : Value} {i : Nat} {ts : Addr → Value → Option Addr → TS} {Wo : WX} {tb : WX → TS} (Qs : Exn → Sl → List M → List M → Prop)
    (h : ∀ Wi : WX, StC K (tb Wi) Δ G L { E with wd := fun w ls H => WishAt K w ls H Wi Qs })
    (hs : ∀ x Δ' G' L', Qs x Δ' G' L' → PySem.W.exmOne K (.ref x.C) c = some true ∧ ∀ a dd, StC K (ts a (.ref x.C) (some dd)) (Δ'.set i (some (.d (.exn a dd x.fs)))) G' L' { E with nx := fun Δ2 G2 L2 => E.nx (Δ2.set i none) G2 L2, bk := fun Δ2 G2 L2 => E.bk (Δ2.set i none) G2 L2, ct := fun Δ2 G2 L2 => E.ct (Δ2.set i none) G2 L2 }) :
    StC K (fun D σ H => tb (wAs K c i ts Wo D) D σ H) Δ G L E := fun w ls σ H cx D s => by
  refine h (wAs K c i ts Wo D) w ls σ H cx D ⟨s.nx, s.rt, s.bk, s.ct, fun ls' H' g' => ?_⟩
  intro σ' Δ' G' L' cls d x c' xn q
  obtain ⟨hm, hsu⟩ := hs x Δ' G' L' q
  obtain ⟨rfl, dd, ws, rfl, hd, r⟩ := xn
  refine ⟨true, hm, fun _ a ha => ?_, fun z => by cases z⟩
  have unset : ∀ {ls2 : List Addr} {σ2 : L2.St} {H2 : Hp} {Δ2 : Sl} {G2 L2 : List M}, Ctx K w ls2 σ2 H2 Δ2 G2 L2 → Ctx K w ls2 (σ2.set i none) H2 (Δ2.set i none) G2 L2 := fun {ls2 σ2 H2 Δ2 G2 L2} c2 => by
    refine ⟨c2.reg, c2.rin, c2.nd, c2.fr, c2.h0, ⟨by rw [List.length_set, List.length_set, c2.sl.1], fun j z e => ?_⟩, c2.gl, c2.lo, c2.ld⟩
    rw [List.getElem?_set] at e ⊢
    split at e
    · split at e
      · cases e
      · cases e
    · rename_i hij
      rw [if_neg hij]
      exact c2.sl.2 j z e
  refine hsu a dd w ls' (σ'.set i (some (.ref a))) H' (c'.slot ⟨rfl, ws, hd, r⟩) _ ⟨fun ls2 σ2 H2 Δ2 G2 L2 c2 g2 k => ?_, s.rt, fun ls2 σ2 H2 Δ2 G2 L2 c2 g2 k => ?_, fun ls2 σ2 H2 Δ2 G2 L2 c2 g2 k => ?_, fun ls2 H2 g2 => s.wd ls2 H2 (g'.trans g2)⟩
  · exact s.nx ls2 _ H2 _ G2 L2 (unset c2) (g'.trans g2) k
  · exact s.bk ls2 _ H2 _ G2 L2 (unset c2) (g'.trans g2) k
  · exact s.ct ls2 _ H2 _ G2 L2 (unset c2) (g'.trans g2) k
/-- e.f of the caught exception -/
theorem evc_xf {a dd C : Addr} {f : Str} {te : TE} (h : EvC K te Δ G L fun s G1 L1 => ∃ fs x, s = .d (.exn a dd fs) ∧ fs.lookup f = some x ∧ Qd (.d x) G1 L1) : EvC K (tXf a (.ref C) (some dd) C f te) Δ G L Qd := fun w ls σ H c Q q => h w ls σ H c _ fun v s H2 G2 L2 c2 e2 r2 ⟨fs, x, e, hx, k⟩ => by
  subst e
  obtain ⟨rfl, ws, ⟨hd, n⟩, r⟩ := r2
  have key : ∀ {fs : List (Str × D)} {ws : List (Str × V)}, RepF K H2 (Rg w ls) fs ws → fs.lookup f = some x → ∃ v, ws.lookup f = some v ∧ Rep K H2 (Rg w ls) x v := by
    intro fs
    induction fs with
    | nil => intro ws _ h; cases h
    | cons p fs ih =>
      intro ws r h
      obtain ⟨n, y⟩ := p
      obtain ⟨v, vs, rfl, h1, h2⟩ := r
      rw [List.lookup_cons] at h ⊢
      cases hb : f == n with
      | true =>
        rw [hb] at h
        cases h
        exact ⟨v, rfl, h1⟩
      | false =>
        rw [hb] at h
        exact ih h2 h
  obtain ⟨v, hv, rv⟩ := key r hx
  exact ⟨rfl, rfl, dd, ws, v, rfl, hd, hv, q.go c2 e2 (s := .d x) rv k⟩
open DXe in
theorem evx_held {i : Nat} {f : Addr} (h : Δ[i]? = some (some (.d (.ref f))) ∧ EvX K (tCallS (spDX K F) (WE Wi) ta) Wi Δ G L Qx) : EvX K (tCallLS i f (spDX K F) (WE Wi) ta) Wi Δ G L Qx := fun w ls σ H c qx Q => by
  obtain ⟨hs, h⟩ := h
  obtain ⟨v, h1, h2⟩ := c.sl.2 i _ hs
  obtain rfl : v = .ref f := h2
  exact ⟨h1, h w ls σ H c qx Q⟩
open DXe in
theorem evc_heldX {i : Nat} {f : Addr} {Ex : L2.St → XK} (h : Δ[i]? = some (some (.d (.ref f))) ∧ EvC K (tCallS (spDX K F) Ex ta) Δ G L Qd) : EvC K (tCallLS i f (spDX K F) Ex ta) Δ G L Qd := fun w ls σ H c Q r => by
  obtain ⟨hs, h⟩ := h
  obtain ⟨v, h1, h2⟩ := c.sl.2 i _ hs
  obtain rfl : v = .ref f := h2
  exact ⟨h1, h w ls σ H c Q r⟩
theorem repL_refs {H : Hp} {R : Addr → Prop} : ∀ {qs : List Addr} {vs : List V}, RepL K H R (qs.map D.ref) vs → vs = qs.map V.ref
  | [], _, h => h
  | _ :: _, _, ⟨y, ys, e, h, r⟩ => by
    subst e
    cases h
    rw [repL_refs r]
    rfl
open DXe in
theorem ap_isX {a dd C : Addr} {fs : List (Str × D)} {ds : List D} (h : ∃ (qs : List Addr) (b : Bool), ds = qs.map D.ref ∧ PySem.W.kitAny K (.ref C) (qs.map Value.ref) = some b ∧ Qd (.d (.bl b)) G L) : ApC K (rIsX K C a (.ref C) (some dd)) [.d (.exn a dd fs), .d (.tup ds)] Δ G L Qd := fun w ls σ H vs c rs Q q => by
  obtain ⟨qs, b, rfl, hk, k⟩ := h
  obtain ⟨v, u, rfl, ⟨rfl, ws, ⟨hd, n⟩, _⟩, tp, us, rfl, ht, rl⟩ := pair2 rs
  have e := repL_refs rl
  subst e
  exact ⟨_, b, rfl, rfl, ⟨dd, ws, rfl, hd⟩, .inr ⟨tp, qs, rfl, ht.sq, hk⟩, q.go c Ext.refl (s := .d (.bl b)) rfl k⟩
open DXe in
theorem ap_isX1 {a dd C : Addr} {fs : List (Str × D)} {T : String} (h : ∃ b : Bool, PySem.W.kitOne K (.ref C) (.type T) = some b ∧ Qd (.d (.bl b)) G L) : ApC K (rIsX K C a (.ref C) (some dd)) [.d (.exn a dd fs), .d (.ty T)] Δ G L Qd := fun w ls σ H vs c rs Q q => by
  obtain ⟨b, hk, k⟩ := h
  obtain ⟨v, u, rfl, ⟨rfl, ws, ⟨hd, n⟩, _⟩, rfl⟩ := pair2 rs
  exact ⟨_, b, rfl, rfl, ⟨dd, ws, rfl, hd⟩, .inl ⟨.type T, fun _ r => r, hk⟩, q.go c Ext.refl (s := .d (.bl b)) rfl k⟩
end
end
end DL
namespace DL
open PySem PySem.Spec PyProof.Rows L2
/-- range(i, j, -1) -/
def rngDn (i : Int) (n : Nat) : List D := (List.range n).map fun (k : Nat) => D.int (i - (k : Int))
theorem rngDn_len {i : Int} {n : Nat} : (rngDn i n).length = n := by unfold rngDn; rw [List.length_map, List.length_range]
theorem rngDn_get {i : Int} {n k : Nat} {d : D} (h : (rngDn i n)[k]? = some d) : k < n ∧ d = .int (i - (k : Int)) := by
  unfold rngDn at h
  rw [List.getElem?_map] at h
  by_cases hk : k < n
  · rw [List.getElem?_range hk] at h
    cases h
    exact ⟨hk, rfl⟩
  · rw [List.getElem?_eq_none (by rw [List.length_range]; omega)] at h
    cases h
section
variable {K : PySem.W.Frag} {Δ : Sl} {G L : List M}
theorem evi_rngDn {ta : TA} {Qi : List D → List M → List M → Prop} (h : EvA K ta Δ G L fun ss G1 L1 => ∃ i j : Int, ss = [.d (.int i), .d (.int j), .d (.int (-1))] ∧ (-(2 ^ 62) ≤ i ∧ i < 2 ^ 62 ∧ -(2 ^ 62) ≤ j ∧ j < 2 ^ 62) ∧ Qi (rngDn i (i - j).toNat) G1 L1) : EvI K (iRng3 ta) Δ G L Qi := fun w ls σ H c R q =>
  h w ls σ H c _ fun vs ss H2 G2 L2 c2 e2 r2 ⟨i, j, e, ⟨h1, h2, h3, h4⟩, k⟩ => by
    subst e
    match vs, r2 with
    | [_, _, _], .cons r (.cons r' (.cons r'' .nil)) =>
      refine ⟨i, j, -1, _, by rw [show _ = V.int i from r, show _ = V.int j from r', show _ = V.int (-1) from r''], RgC.neg h1 h2 h3 h4, q _ H2 _ G2 L2 c2 e2 ⟨fun H3 w2 ls2 σ2 Δ2 G3 L3 n d g c3 hi => ?_, fun _ _ _ _ => Nat.le_of_eq rngDn_len.symm⟩ k⟩
      obtain ⟨hn, rfl⟩ := rngDn_get hi
      refine ⟨hn, fun x H' ⟨hH, hx⟩ => ?_⟩
      subst hH
      refine ⟨c3, Ext.refl, ?_⟩
      rw [hx]
      show V.int _ = V.int _
      congr 1
      omega
end
end DL

/-! defs whose last parameters have defaults (None all); calls that lean on them, and calls by keywords -/
namespace DL
open PySem PySem.Spec PyProof.Rows L2
section
variable {P : Program} {w : World} {K : PySem.W.Frag} {mg : Str → Option Value} {base : Heap}
abbrev FunDf (K : PySem.W.Frag) (x qual : Str) (st : Stmt) (dvs : List V) (f : Addr) (fd : FuncData) : Prop := FunD K x qual (defArgs st) (defBody st) (defScope st) dvs [] f fd
theorem okDD {x qual : Str} {st : Stmt} {dvs : List V} {f : Addr} {fd : FuncData} {N ps : List Str} {k : Nat} {sp : DSpec} (F : FunDf K x qual st dvs f fd) (S : FnScope N ps (defScope st)) (len : ∀ ss G Qd, sp ss G Qd → ss.length = ps.length)
    (hbody : ∀ (cdv : Value) (A : Around) (outer : List Env) (s : Shared) (H : Hp) (E : XK) (ss : List DL.S) (G : List M) (Qd : Res → List M → Prop), Room k (A.deeper (envOfC qual (defScope st) s.heap.objs.size f cdv)) → sp ss G Qd →
      ∃ t, PSs (cxOf CX0 P w K mg base N qual (defScope st) f cdv A outer s H E).nox (defBody st) t ∧ StC K t (startD N ss) G [] (endsD Qd)) : FnOk P w K mg base CX0 (k + 1) f fd ps (spD K sp) := by
  refine F.ok S (fun vs H Q E h => ?_) (fun cdv A outer s H vs Q E hr h => ?_)
  · obtain ⟨w, ss, G, Qd, _, _, r, q, _⟩ := h
    rw [← paired_len r]
    exact len ss G Qd q
  · obtain ⟨w, ss, G, Qd, h0, c, r, q, k1, k2⟩ := h
    obtain ⟨t, ht, hs⟩ := hbody cdv A outer s H E ss G Qd hr q
    refine ⟨t, ht.nox, hs w [] (L2.start N vs) H ⟨c.reg, c.rin, c.nd, c.fr, c.h0, slok_start r, c.gl, c.lo, c.ld⟩ _ ⟨?_, ?_, ?_, ?_, fun _ _ _ => trivial⟩⟩
    · intro ls' σ' H' Δ' G' L' c' g' n'
      exact k1 .non (.d .non) H' G' c'.forget rfl n'
    · intro ls' σ' H' Δ' G' L' v z c' rz n'
      cases z with
      | d x => exact k1 v (.d x) H' G' c'.forget (Rep.grow grow_drop rz) n'
      | g j => exact k1 v (.g j) H' G' c'.forget rz n'
      | l j =>
        obtain ⟨a, ha, rfl⟩ := rz
        exact k2 ls' j a L' H' G' c'.forgetS ha n'
    · intro ls' σ' H' Δ' G' L' c' g' n'
      exact n'.elim
    · intro ls' σ' H' Δ' G' L' c' g' n'
      exact n'.elim
/-- a call that gives some by keywords and leans on no default -/
theorem kbn_all {x qual : Str} {st : Stmt} {dvs : List V} {f : Addr} {fd : FuncData} {ps : List Str} (F : FunDf K x qual st dvs f fd) (n : Nat) (ks : List Str) (hd : dvs ≠ [])
    (h : ∀ (T : Addr) (kV doc pm : Value) (an : Option Addr) (cdv ct : Value) (us its ws : List Value), us.length = n → its.length = dvs.length → ws.length = ks.length →
      ∃ k, bindArgs (PySem.W.fnOf x qual (defArgs st) (defBody st) (defScope st) (.ref T) kV doc pm an cdv ct) ⟨us, ks.zip ws⟩ = seqItems? (.ref T) >>= k ∧ k (some its.toArray) = pure (ps.zip (us ++ ws))) :
    KBn K fd ps n ks (fun us ws => us ++ ws) (fun vs zs => vs ++ zs) := by
  obtain ⟨oc, od, dV, kV, doc, pm, an, cdv, ct, osl, rfl, lk, hcd, hD, hK⟩ := F.ex
  rcases hD with ⟨e, _⟩ | ⟨_, T, o, its, m, rfl, lT, oT, rT⟩
  · exact absurd e hd
  · refine ⟨fun s us ws X l1 l2 => ?_, fun r1 r2 => r1.append r2⟩
    obtain ⟨k, e1, e2⟩ := h T kV doc pm an cdv ct us its ws l1 rT.length.symm l2
    refine BindsTo.of_looks fun M => ?_
    rw [e1]
    exact looks_items X lT oT (.of_pure e2)
end
section
variable {K : PySem.W.Frag} {Δ : Sl} {G L : List M} {Qd : Po} {ta tk : TA} {sp : DSpec} {E0' : XK}
/-- a call that leans on one default, None -/
theorem evc_callN1 (h : EvA K ta Δ G L fun ss G1 L1 => noL (ss ++ [S.d D.non]) = true ∧ sp (ss ++ [S.d D.non]) G1 (asV Qd L1)) : EvC K (tCall (spD K sp) [V.non] E0' ta) Δ G L Qd := fun w ls σ H c Q r => h w ls σ H c _ fun vs ss H2 G2 L2 c2 e2 r2 ⟨hn, k⟩ =>
  sp_call c2 (paired_app r2 (.cons (show RS K H2 (Rg w ls) w.gs ls (S.d D.non) V.non from (rfl : V.non = V.non)) .nil)) hn k (r.ext e2)
theorem evc_callN1L (h : EvA K ta Δ [] L fun ss G1 L1 => sp ((ss ++ [S.d D.non]).map S.pro) (L1.map M.pro) (asVL Qd)) : EvC K (tCall (spD K sp) [V.non] E0' ta) Δ [] L Qd := by
  have e : ∀ te, EvC K (tCall (spD K sp) [] E0' (fun σ H Q => te σ H fun vs H1 => Q (vs ++ [V.non]) H1)) Δ [] L Qd → EvC K (tCall (spD K sp) [V.non] E0' te) Δ [] L Qd := fun te h => by
    intro w ls σ H c Q r
    have := h w ls σ H c Q r
    show te σ H fun vs H1 => spD K sp (vs ++ [V.non]) H1 Q E0'
    have this : te σ H fun vs H1 => spD K sp ((vs ++ [V.non]) ++ []) H1 Q E0' := this
    simp only [List.append_nil] at this
    exact this
  refine e ta (evc_callL ?_)
  exact fun w ls σ H c Q r => h w ls σ H c _ fun vs ss H2 G2 L2 c2 e2 r2 k => r (vs ++ [V.non]) (ss ++ [S.d D.non]) H2 G2 L2 c2 e2 (paired_app r2 (.cons (show RS K H2 (Rg w ls) w.gs ls (S.d D.non) V.non from (rfl : V.non = V.non)) .nil)) k
/-- f(e, .., k = v, ..) -/
theorem evc_callN {n m : Nat} (h : EvA K ta Δ G L fun ss G1 L1 => EvA K tk Δ G1 L1 fun zs G2 L2 => ss.length = n ∧ zs.length = m ∧ noL (ss ++ zs) = true ∧ sp (ss ++ zs) G2 (asV Qd L2)) : EvC K (tCallN n m (spD K sp) (fun vs zs => vs ++ zs) E0' ta tk) Δ G L Qd :=
  fun w ls σ H c Q r => h w ls σ H c _ fun vs ss H2 G2 L2 c2 e2 r2 h2 => h2 w ls σ H2 c2 _ fun us zs H3 G3 L3 c3 e3 r3 ⟨l1, l2, hn, k⟩ =>
    ⟨(paired_len r2).symm.trans l1, (paired_len r3).symm.trans l2, sp_call c3 (paired_app (paired_map r2 fun _ _ _ z => z.on c2 e3) r3) hn k (r.ext (e2.trans e3))⟩
end
end DL

/-! an own dict, its keys texts: {}, d[z], d[z] = x, d.get(z, x), sorted(d) -/
namespace DL
open PySem PySem.Spec PyProof.Rows L2
section
variable {K : PySem.W.Frag} {Δ : Sl} {G L : List M} {Qd : Po} {Qn : PoN} {te td ty tx : TE}
theorem evn_dnewH (k : Qn (.dh []) G L) : EvN K tDNewK Δ G L Qn := fun w ls σ H c Q r => fun p hp =>
  r p (.dh []) _ _ _ hp (newAt_of (m := M.dh []) (o := .dK []) c hp ⟨[], upd_same, .nil⟩ (fun x e => by cases e)) (Ext.new hp) k
def hI (p : Str × Int) : Key × S := (.inr p.1, .d (.int p.2))
def gI (p : Str × Int) : Key × V := (.inr p.1, .int p.2)
def getI : List (Str × Int) → Str → Option Int
  | [], _ => none
  | (k, v) :: r, z => if k = z then some v else getI r z
def putI (kvs : List (Str × Int)) (z : Str) (n : Int) : List (Str × Int) := if (getI kvs z).isSome = true then kvs.map (fun p => if p.1 = z then (p.1, n) else p) else kvs ++ [(z, n)]
theorem val_gI (z : Str) : ∀ kvs : List (Str × Int), valV (kvs.map gI) (.inr z : Key) = (getI kvs z).map V.int
  | [] => rfl
  | (k, v) :: r => by
    rw [List.map_cons]
    unfold getI
    by_cases h : k = z
    · rw [if_pos h]
      exact valV_pos (p := gI (k, v)) (by rw [h]; rfl)
    · rw [if_neg h, valV_neg (p := gI (k, v)) (fun e => h (Sum.inr.inj e))]
      exact val_gI z r
theorem put_gI (kvs : List (Str × Int)) (z : Str) (n : Int) : putK (kvs.map gI) (.inr z : Key) (.int n) = (putI kvs z n).map gI := by
  unfold putK putI
  rw [valV_any, val_gI]
  have e : ((getI kvs z).map V.int).isSome = (getI kvs z).isSome := by cases getI kvs z <;> rfl
  rw [e]
  split
  · rw [List.map_map, List.map_map]
    refine List.map_congr_left fun p _ => ?_
    show (if (gI p).1 = .inr z then ((gI p).1, V.int n) else gI p) = gI (if p.1 = z then (p.1, n) else p)
    by_cases h : p.1 = z
    · rw [if_pos h, if_pos (by show (Sum.inr p.1 : Key) = .inr z; rw [h])]
      rfl
    · rw [if_neg h, if_neg (show ¬ (gI p).1 = .inr z from fun e => h (Sum.inr.inj e))]
  · rw [List.map_append]
    rfl
theorem put_lenI (kvs : List (Str × Int)) (z : Str) (n : Int) : (putI kvs z n).length ≤ kvs.length + 1 := by
  unfold putI
  split
  · rw [List.length_map]
    omega
  · rw [List.length_append]
    exact Nat.le_refl _
theorem pair_hI {H : Hp} {R : Addr → Prop} {gs ls : List Addr} : ∀ {kvs : List (Str × Int)} {vs : List (Key × V)}, Paired (RSK K H R gs ls) (kvs.map hI) vs → vs = kvs.map gI
  | [], _, .nil => rfl
  | p :: r, (k', v) :: vs, .cons ⟨e, q⟩ t => by
    have e : (Sum.inr p.1 : Key) = k' := e
    have q : v = V.int p.2 := q
    subst e
    subst q
    rw [List.map_cons, pair_hI t]
    rfl
theorem hI_pair {H : Hp} {R : Addr → Prop} {gs ls : List Addr} : ∀ kvs : List (Str × Int), Paired (RSK K H R gs ls) (kvs.map hI) (kvs.map gI)
  | [] => .nil
  | p :: r => .cons ⟨rfl, (rfl : V.int p.2 = V.int p.2)⟩ (hI_pair r)
theorem dI_at {w : W} {ls : List Addr} {σ : L2.St} {H : Hp} {k : Nat} {v : V} {kvs : List (Str × Int)} (c : Ctx K w ls σ H Δ G L) (r : RS K H (Rg w ls) w.gs ls (.l k) v) (h : L[k]? = some (.dh (kvs.map hI))) :
    ∃ a, ls[k]? = some a ∧ v = .ref a ∧ H a = some (.dK (kvs.map gI)) := by
  obtain ⟨a, ha, rfl⟩ := r
  obtain ⟨b, hb, vs, h1, q⟩ := paired_get c.lo h
  rw [ha] at hb
  cases hb
  rw [pair_hI q] at h1
  exact ⟨a, ha, rfl, h1⟩
theorem u_dgetI {k : Nat} {z : Str} (h : ∃ kvs, L[k]? = some (.dh (kvs.map hI)) ∧ ∃ v, getI kvs z = some v ∧ Qd (.d (.int v)) G L) : OpC K rDGet (.l k) (.d (.str z)) Δ G L Qd := fun w ls σ H vx vy c rx ry Q q => by
  obtain ⟨kvs, hk, v, hv, kk⟩ := h
  obtain ⟨d, _, rfl, m⟩ := dI_at c rx hk
  obtain rfl : vy = V.str z := ry
  refine ⟨d, V.int v, rfl, ?_, q.go c Ext.refl (s := .d (.int v)) rfl kk⟩
  have g := DGet.k (k := (.inr z : Key)) m
  rw [val_gI, hv] at g
  exact g
theorem sto_dI {k : Nat} {z : Str} {n : Int} {Qt : List M → List M → Prop} (h : ∃ kvs, L[k]? = some (.dh (kvs.map hI)) ∧ kvs.length < 100000 ∧ Qt G (L.set k (.dh ((putI kvs z n).map hI)))) : StoC K rSetD (.l k) (.d (.str z)) (.d (.int n)) Δ G L Qt := fun w ls σ H vo vi vv c ro ri rv Q ret => by
  obtain ⟨kvs, hk, hl, q⟩ := h
  obtain ⟨d, hd, rfl, m⟩ := dI_at c ro hk
  obtain rfl : vi = V.str z := ri
  obtain rfl : vv = V.int n := rv
  have pt := DPut.k (k := (.inr z : Key)) (v := V.int n) m (by rw [List.length_map]; exact lt_line (by omega))
  rw [put_gI] at pt
  exact ⟨d, _, rfl, pt, ret _ _ _ (c.setL (m := .dh _) hd ⟨_, upd_same, hI_pair _⟩) (Ext.setL (List.mem_of_getElem? hd)) q⟩
/-- d.get(z, n) -/
theorem evc_dgetI (h : EvC K td Δ G L fun s G1 L1 => ∃ (k : Nat) (kvs0 : List (Str × Int)), s = .l k ∧ L1[k]? = some (.dh (kvs0.map hI)) ∧ EvC K ty Δ G1 L1 fun y G2 L2 => ∃ z : Str, y = .d (.str z) ∧ EvC K tx Δ G2 L2 fun x G3 L3 => ∃ (n : Int) (kvs : List (Str × Int)), x = .d (.int n) ∧ L3[k]? = some (.dh (kvs.map hI)) ∧ Qd (.d (.int ((getI kvs z).getD n))) G3 L3) :
    EvC K (tDGet2 td ty tx) Δ G L Qd := fun w ls σ H c Q r => h w ls σ H c _ fun v s H1 G1 L1 c1 e1 r1 ⟨k, kvs0, es, hk0, h⟩ => by
  subst es
  obtain ⟨a, ha, rfl, m0⟩ := dI_at c1 r1 hk0
  refine ⟨a, rfl, .inl ⟨_, .inl m0⟩, h w ls σ H1 c1 _ fun v2 s2 H2 G2 L2 c2 e2 r2 ⟨z, ey, h⟩ => ?_⟩
  subst ey
  obtain rfl : v2 = V.str z := r2
  refine h w ls σ H2 c2 _ fun v3 s3 H3 G3 L3 c3 e3 r3 ⟨n, kvs, ex, hk, kk⟩ => ?_
  subst ex
  obtain rfl : v3 = V.int n := r3
  obtain ⟨a', ha', ea, m⟩ := dI_at (v := .ref a) c3 ⟨a, ha, rfl⟩ hk
  cases ea
  have g := DGet.k (k := (.inr z : Key)) m
  rw [val_gI] at g
  refine ⟨_, g, r _ (.d (.int ((getI kvs z).getD n))) H3 G3 L3 c3 (e1.trans (e2.trans e3)) ?_ kk⟩
  cases getI kvs z <;> rfl
def rSortedD : List V → Hp → VK → Prop := fun xs H Q => ∃ (a : Addr) (kvs : List (Key × V)) (ks : List Str), xs = [.ref a] ∧ Rd H a (.dK kvs) ∧ kvs.map (·.1) = ks.map Sum.inr ∧ ks.length < 64 ∧
    ∀ ys p, ys.Perm ks → sortedS ys = true → H p = none → Q (.ref p) (upd H p (.lst (ys.map V.str)))
theorem uc_sortedD {X : Cx} (hcalm : X.calm = true) : CallR X (.builtin "sorted") rSortedD := call_sortedD hcalm
theorem ap_sortedDI {k : Nat} (h : ∃ kvs : List (Str × Int), L[k]? = some (.dh (kvs.map hI)) ∧ kvs.length < 64 ∧ Qn (.pl ((DSo.srtT (kvs.map (·.1))).map D.str)) G L) : ApN K rSortedD [.l k] Δ G L Qn := fun w ls σ H vs c rs Q q => by
  obtain ⟨kvs, hk, hl, kk⟩ := h
  obtain ⟨v, rfl, r⟩ := pair1 rs
  obtain ⟨a, _, rfl, m⟩ := dI_at c r hk
  refine ⟨a, _, kvs.map (·.1), rfl, .inl m, ?_, by rw [List.length_map]; exact hl, fun ys p py hy hp => ?_⟩
  · rw [List.map_map, List.map_map]
    rfl
  · rw [DSo.srtT_eq py hy] at *
    exact q p _ _ _ _ hp (newAt_pl c hp RepL.strs) (Ext.new hp) kk
theorem notN_s {z : Str} (k : Qd (.d (.bl true)) G L) : OpC K (fun x y H Q => y = .non ∧ Q (.bl (!decide (x = .non))) H) (.d (.str z)) (.d .non) Δ G L Qd := fun w ls σ H vx vy c rx ry Q q => by
  obtain rfl : vy = V.non := ry
  obtain rfl : vx = V.str z := rx
  refine ⟨rfl, ?_⟩
  rw [decide_eq_false (by simp)]
  exact q.go c Ext.refl (s := .d (.bl true)) rfl k
theorem notN_n (k : Qd (.d (.bl false)) G L) : OpC K (fun x y H Q => y = .non ∧ Q (.bl (!decide (x = .non))) H) (.d .non) (.d .non) Δ G L Qd := fun w ls σ H vx vy c rx ry Q q => by
  obtain rfl : vy = V.non := ry
  obtain rfl : vx = V.non := rx
  exact ⟨rfl, q.go c Ext.refl (s := .d (.bl false)) rfl k⟩
theorem u_eq_nons {z : Str} (k : Qd (.d (.bl false)) G L) : OpC K (uEq K) (.d .non) (.d (.str z)) Δ G L Qd := fun w ls σ H vx vy c rx ry Q q => by
  obtain rfl : vx = V.non := rx
  obtain rfl : vy = V.str z := ry
  refine .inl ⟨rfl, ?_⟩
  have e1 : decide (V.non = V.str z) = false := by simp
  rw [e1]
  exact q.go c Ext.refl (s := .d (.bl _)) rfl k
end
end DL

/-! sets of texts compared -/
namespace DSe
open PySem PySem.Spec PyProof.Rows L2 DSt
theorem entry_set_ne : entryFor table "set.__ne__" = some Builtin.«frozenset.__ne__» :=
  entryFor_alias (id' := "frozenset.__ne__") (by kernel_rfl) rfl (by decide +kernel) (by kernel_rfl)
theorem sub_set_set : isSubtype (.type "set") (.type "set") = pure true := by rw [isSubtype_type]; kernel_rfl
theorem sub_set_frozenset : isSubtype (.type "set") (.type "frozenset") = pure false := by rw [isSubtype_type]; kernel_rfl
section
variable {P : Program} {w : World} {A : Around} {E : Value → Shared → Prop} {s : Shared} {a b : Addr} {S T : Str → Bool} {n m : Nat}
theorem quiet_str {x : Value} (h : ∃ k tk, x = Value.str k tk) : Builtin.Frozenset.quietEq x = pure true := by
  obtain ⟨k, tk, rfl⟩ := h
  rfl
theorem size_set {Q : Nat → Shared → Prop} (R : SetS P w s.heap a S n) (h : Q n s) : wpAny (model P w) A (Builtin.Frozenset.sizeOf a) Q E s := by
  obtain ⟨o, es, ep, t, ho, hex, hd, g, nd, hm, hb, hf, hn, hr, hl⟩ := R
  unfold Builtin.Frozenset.sizeOf
  refine wpAny_bind (wpAny_setEntries_of ho hd hf (wpAny_pure ?_))
  rw [hn]
  exact h
theorem walk_set {Q : List (Int × Value) → Shared → Prop} (R : SetS P w s.heap a S n) (R2 : SetS P w s.heap b T m)
    (h : ∀ es : List (Int × Value), (∀ e ∈ es, GoodS P w e) → (∀ k, S k = true ↔ k ∈ es.map keyS) → Q es s) : wpAny (model P w) A (Builtin.Frozenset.walkUnseen a b) Q E s := by
  obtain ⟨o, es, ep, t, ho, hex, hd, g, nd, hm, hb, hf, hn, hr, hl⟩ := R
  obtain ⟨o2, es2, ep2, t2, ho2, hex2, hd2, g2, nd2, hm2, hb2, hf2, hn2, hr2, hl2⟩ := R2
  unfold Builtin.Frozenset.walkUnseen
  refine wpAny_bind (wpAny_setEntries_of ho hd hf ?_)
  refine wpAny_bind (wpAny_setEntries_of ho2 hd2 hf2 ?_)
  refine wpAny_bind ?_
  refine wpAny_forIn_list _ (fun l r s' => (∀ e ∈ l, GoodS P w e) ∧ r.1 = none ∧ s' = s) _ ?_ ?_ _ _ ⟨?_, rfl, rfl⟩
  · rintro ⟨hh, x⟩ rest r s' ⟨hg, hr, rfl⟩
    obtain ⟨k, tk, e1, e2⟩ := hg (hh, x) List.mem_cons_self
    have e1 : x = Value.str k tk := e1
    subst e1
    dsimp only
    rw [quiet_str ⟨k, tk, rfl⟩]
    refine wpAny_bind (wpAny_pure ?_)
    simp only [Bool.not_true, Bool.false_eq_true, if_false]
    exact wpAny_pure ⟨fun e he => hg e (List.mem_cons_of_mem _ he), rfl, rfl⟩
  · rintro ⟨r, u⟩ s' ⟨_, hr, rfl⟩
    have hr : r = none := hr
    subst hr
    exact wpAny_pure (h es.toList g hm)
  · intro e he
    rcases List.mem_append.mp he with z | z
    · exact g e z
    · exact g2 e z
theorem subset_set {id : String} {Q : Bool → Shared → Prop} (R : SetS P w s.heap a S n) (R2 : SetS P w s.heap b T m)
    (h : ∀ r : Bool, (r = true ↔ n ≤ m ∧ ∀ k, S k = true → T k = true) → Q r s) : wpAny (model P w) A (Builtin.Frozenset.subsetOf id a b) Q E s := by
  unfold Builtin.Frozenset.subsetOf
  refine wpAny_bind (size_set R ?_)
  refine wpAny_bind (size_set R2 ?_)
  by_cases hnm : n > m
  · rw [if_pos hnm]
    exact wpAny_pure (h false ⟨fun e => (by cases e), fun ⟨e, _⟩ => absurd e (by omega)⟩)
  rw [if_neg hnm]
  have R' := R
  obtain ⟨o, es0, ep, t, ho, hex, hd, _, _, _, _, hf, _⟩ := R'
  refine wpAny_bind (wpAny_setEpoch_of ho hd hf ?_)
  refine wpAny_bind (walk_set R R2 fun es g hm => ?_)
  refine wpAny_bind ?_
  refine wpAny_forIn_list _ (fun l r s' => (∀ e ∈ l, GoodS P w e ∧ S (keyS e) = true) ∧ r.1 = none ∧ s' = s ∧ ∀ k, S k = true → k ∈ l.map keyS ∨ T k = true) _ ?_ ?_ _ _
    ⟨fun e he => ⟨g e he, (hm _).mpr (List.mem_map.mpr ⟨e, he, rfl⟩)⟩, rfl, rfl, fun k hk => .inl ((hm k).mp hk)⟩
  · rintro ⟨hh, x⟩ rest r s' ⟨hg, hr, rfl, hk⟩
    obtain ⟨⟨k, tk, e1, e2⟩, hS⟩ := hg (hh, x) List.mem_cons_self
    have e1 : x = Value.str k tk := e1
    have e2 : hh = (PySem.strKind P w).hash k := e2
    subst e1
    subst e2
    have hS : S k = true := hS
    dsimp only
    refine wpAny_bind (wpAny_holding (wpAny_setFind_of (knd := PySem.strKind P w) (k := k) (strKind_is P w k tk) rfl R2.setOf fun r hr2 => ?_))
    cases hT : T k with
    | true =>
      rw [hT] at hr2
      have e : r.isNone = false := by cases r <;> simp_all
      rw [e]
      simp only [Bool.false_eq_true, if_false]
      unfold Builtin.Frozenset.unchanged
      refine wpAny_bind (wpAny_bind (wpAny_setEpoch_of ho hd hf ?_))
      rw [if_neg (by simp)]
      refine wpAny_pure (wpAny_pure ⟨fun e he => hg e (List.mem_cons_of_mem _ he), rfl, rfl, fun j hj => ?_⟩)
      rcases hk j hj with z | z
      · rcases List.mem_cons.mp z with z | z
        · refine .inr ?_
          have z : j = k := z
          rw [z]
          exact hT
        · exact .inl z
      · exact .inr z
    | false =>
      rw [hT] at hr2
      have e : r.isNone = true := by cases r <;> simp_all
      rw [e]
      simp only [if_true]
      refine wpAny_pure (wpAny_pure (h false ⟨fun e => (by cases e), fun ⟨_, q⟩ => ?_⟩))
      have := q k hS
      rw [hT] at this
      cases this
  · rintro ⟨r, u⟩ s' ⟨_, hr, rfl, hk⟩
    have hr : r = none := hr
    subst hr
    exact wpAny_pure (h true ⟨fun _ => ⟨by omega, fun k hS => (hk k hS).elim (fun z => by cases z) fun z => z⟩, fun _ => rfl⟩)
theorem rc_set_ne (ha : s.TypeIs (.ref a) "set") (hb : s.TypeIs (.ref b) "set") (hu : A.units < cLine) (R : SetS P w s.heap a S n) (R2 : SetS P w s.heap b T m) {Q : Value → Shared → Prop}
    (h : ∀ r : Bool, (r = true ↔ n = m ∧ ∀ k, S k = true → T k = true) → Q (.bool (!r)) s) : wpAny (model P w) A (richCompare .NotEq (.ref a) (.ref b)) Q E s := by
  refine wpAny_richCompare_same_room (op := .NotEq) ha hb PySem.F.slot_set_ne (wpAny_call_entry PySem.F.slot_set_ne ha entry_set_ne ?_ (PySem.F.args_set_ne_2 _ _)) hu
  show wpAny _ _ (Builtin.Frozenset.slot1 "__ne__" ⟨[.ref a, .ref b], []⟩ >>= _) _ _ s
  refine wpAny_bind ?_
  show wpAny _ _ (pure (Value.ref a, Value.ref b)) _ _ s
  refine wpAny_pure ?_
  dsimp only
  refine wpAny_bind ?_
  unfold Builtin.Frozenset.isAnySet
  refine wpAny_bind (wpAny_isInstance (T := "set") hb sub_set_set ?_)
  refine wpAny_pure ?_
  simp only [Bool.not_true, Bool.false_eq_true, if_false]
  refine wpAny_bind (wpAny_pure (wpAny_bind (wpAny_pure (wpAny_bind (size_set R (wpAny_bind (size_set R2 ?_)))))))
  have fin : ∀ r : Bool, (r = true ↔ n = m ∧ ∀ k, S k = true → T k = true) → ∀ Q' : Bool → Shared → Prop, (∀ r : Bool, (r = true ↔ n = m ∧ ∀ k, S k = true → T k = true) → Q' r s) → Q' r s := fun r hr Q' q => q r hr
  refine wpAny_bind ?_
  by_cases hnm : n = m
  · rw [if_neg (by simp [hnm])]
    refine wpAny_bind ?_
    refine wpAny_bind (wpAny_isInstance (T := "set") ha sub_set_frozenset ?_)
    refine wpAny_pure ?_
    simp only [Bool.false_eq_true, if_false]
    refine subset_set R R2 fun r hr => ?_
    refine wpAny_pure ⟨_, rfl, by simp, h r ⟨fun e => ⟨hnm, (hr.mp e).2⟩, fun e => hr.mpr ⟨by omega, e.2⟩⟩⟩
  · rw [if_pos (by simp [hnm])]
    refine wpAny_pure (wpAny_pure ⟨_, rfl, by simp, h false ⟨fun e => (by cases e), fun e => absurd e.1 hnm⟩⟩)
theorem ty_set (R : SetS P w s.heap a S n) : s.TypeIs (.ref a) "set" := R.setOf.typeIs
def rNeSet (P : Program) (w : World) : R2 := fun x y H Q => ∃ (a b : Addr) (S T : Str → Bool) (n m : Nat), x = .ref a ∧ y = .ref b ∧ H a = some (SetSO P w a S n) ∧ H b = some (SetSO P w b T m) ∧
  ∀ r : Bool, (r = true ↔ n = m ∧ ∀ k, S k = true → T k = true) → Q (.bl (!r)) H
theorem uo_neSet {X : Cx} (hu : X.A.units < cLine) : OpR X (compareOp .NotEq) (rNeSet X.prog X.w) := by
  intro pins s σ H x y v u Q I rx ry h
  obtain ⟨a, b, S, T, n, m, rfl, rfl, ea, eb, q⟩ := h
  obtain rfl : v = Value.ref a := rx
  obtain rfl : u = Value.ref b := ry
  have R := setSO_get I ea
  have R2 := setSO_get I eb
  exact rc_set_ne (ty_set R) (ty_set R2) hu R R2 fun r hr => ⟨.bl (!r), H, I, rfl, q r hr⟩
end
theorem met_eq {xs ys : List Str} : ((metS xs).length = (metS ys).length ∧ ∀ k, k ∈ xs → k ∈ ys) ↔ ∀ k, k ∈ xs ↔ k ∈ ys := by
  constructor
  · rintro ⟨hl, hs⟩ k
    refine ⟨hs k, fun hk => ?_⟩
    have hp : ((metS ys).filter fun z => decide (z ∈ metS xs)).Perm (metS xs) := by
      refine (List.perm_ext_iff_of_nodup ((metS_nodup ys).filter _) (metS_nodup xs)).mpr fun z => ?_
      rw [List.mem_filter]
      exact ⟨fun h => of_decide_eq_true h.2, fun h => ⟨metS_mem.mpr (hs z (metS_mem.mp h)), decide_eq_true h⟩⟩
    have he : ((metS ys).filter fun z => decide (z ∈ metS xs)).length = (metS ys).length := by rw [hp.length_eq, hl]
    have := List.length_filter_eq_length_iff.mp he k (metS_mem.mpr hk)
    exact metS_mem.mp (of_decide_eq_true this)
  · intro h
    refine ⟨List.Perm.length_eq ((List.perm_ext_iff_of_nodup (metS_nodup xs) (metS_nodup ys)).mpr fun z => ?_), fun k => (h k).mp⟩
    rw [metS_mem, metS_mem]
    exact h z
end DSe
namespace DL
open PySem PySem.Spec PyProof.Rows L2 DSo DSt DSe
section
variable {K : PySem.W.Frag} {Δ : Sl} {G L : List M} {Qd : Po} {t1 t2 : TE} {P : Program} {w0 : World}
/-- set(a list of texts) != set(another) -/
theorem evc_neSets (h : EvC K t1 Δ G L fun s1 G1 L1 => ∃ xs : List Str, lsG G1 L1 s1 = some (xs.map D.str) ∧ (metS xs).length < 4000 ∧ EvC K t2 Δ G1 L1 fun s2 G2 L2 => ∃ ys : List Str, lsG G2 L2 s2 = some (ys.map D.str) ∧ (metS ys).length < 4000 ∧
      ∀ r : Bool, (r = true ↔ ∀ k, k ∈ xs ↔ k ∈ ys) → Qd (.d (.bl (!r))) G2 L2) :
    EvC K (tOp (rNeSet P w0) (tCB (rSetS P w0 K) (tCons t1 tNil)) (tCB (rSetS P w0 K) (tCons t2 tNil))) Δ G L Qd := fun w ls σ H c Q ret => h w ls σ H c _ fun v s H2 G2 L2 c2 e2 r2 ⟨xs, hx, hf, h2⟩ => by
  obtain ⟨a, vs, rfl, h1, q1⟩ := lsG_get c2 r2 hx
  have e := RepL.strsV q1
  subst e
  refine ⟨a, xs, rfl, .inl (.inl h1), by unfold scanBound; omega, fun p hp => ?_⟩
  have c3 := c2.new hp (o := SetSO P w0 p (fun j => (metS xs).any (· == j)) (metS xs).length)
  have e3 := e2.trans (Ext.new hp (o := SetSO P w0 p (fun j => (metS xs).any (· == j)) (metS xs).length))
  have ng : p ∉ w.gs := fun z => c2.free hp (.inl (c2.reg p z))
  have nl : p ∉ ls := fun z => c2.free hp (.inr z)
  refine h2 w ls σ _ c3 _ fun v4 s4 H4 G4 L4 c4 e4 r4 ⟨ys, hy, hf4, k⟩ => ?_
  obtain ⟨a4, vs4, rfl, h14, q14⟩ := lsG_get c4 r4 hy
  have e := RepL.strsV q14
  subst e
  refine ⟨a4, ys, rfl, .inl (.inl h14), by unfold scanBound; omega, fun p4 hp4 => ?_⟩
  have c5 := c4.new hp4 (o := SetSO P w0 p4 (fun j => (metS ys).any (· == j)) (metS ys).length)
  have hp2 := e4 p _ upd_same ng nl
  have hne : p ≠ p4 := fun z => by rw [z, hp4] at hp2; cases hp2
  refine ⟨p, p4, fun j => (metS xs).any (· == j), fun j => (metS ys).any (· == j), (metS xs).length, (metS ys).length, rfl, rfl, ?_, upd_same, fun r hr => ?_⟩
  · exact upd_other hne _ hp2
  · refine ret _ (.d (.bl (!r))) _ _ _ c5 (e3.trans (e4.trans (Ext.new hp4))) rfl (k r (hr.trans ?_))
    rw [← met_eq]
    exact ⟨fun z => ⟨z.1, fun j hj => metS_mem.mp (any_mem.mp (z.2 j (any_mem.mpr (metS_mem.mpr hj))))⟩, fun z => ⟨z.1, fun j hj => any_mem.mpr (metS_mem.mpr (z.2 j (metS_mem.mp (any_mem.mp hj))))⟩⟩
end
end DL

/-! own dicts with text keys and any data as values: dict(list of pairs), z in d, z not in d, d.get(z, x) -/
namespace DL
open PySem PySem.Spec PyProof.Rows L2
def rInDi : R2 := fun x y H Q => ∃ a o, y = .ref a ∧ DGet H a x o ∧ Q (.bl o.isSome) H
def rNinDi : R2 := fun x y H Q => ∃ a o, y = .ref a ∧ DGet H a x o ∧ Q (.bl (!o.isSome)) H
section
variable {X : Cx}
theorem op_inDi (hu : X.A.units + 1 < cLine) : OpR X (compareOp .In) rInDi := by
  intro pins s σ H x y v u Q I rx ry h
  obtain ⟨a, o, rfl, g, q⟩ := h
  obtain rfl : u = Value.ref a := ry
  exact d_in hu I g rx fun s3 I3 => ⟨.bl o.isSome, H, I3, rfl, q⟩
theorem op_ninDi (hu : X.A.units + 1 < cLine) : OpR X (compareOp .NotIn) rNinDi := by
  intro pins s σ H x y v u Q I rx ry h
  obtain ⟨a, o, rfl, g, q⟩ := h
  obtain rfl : u = Value.ref a := ry
  exact d_notIn hu I g rx fun s3 I3 => ⟨.bl (!o.isSome), H, I3, rfl, q⟩
end
def hX (p : Str × D) : Key × S := (.inr p.1, .d p.2)
def getX : List (Str × D) → Str → Option D
  | [], _ => none
  | (k, v) :: r, z => if k = z then some v else getX r z
def putX (kvs : List (Str × D)) (z : Str) (n : D) : List (Str × D) := if (getX kvs z).isSome = true then kvs.map (fun p => if p.1 = z then (p.1, n) else p) else kvs ++ [(z, n)]
def mergeX (ps : List (Str × D)) : List (Str × D) := ps.foldl (fun acc p => putX acc p.1 p.2) []
section
variable {K : PySem.W.Frag} {Δ : Sl} {G L : List M} {Qd : Po} {Qn : PoN} {te td ty tx : TE}
theorem lk_hX (z : Str) : ∀ kvs : List (Str × D), lkS (kvs.map hX) (.inr z) = (getX kvs z).map S.d
  | [] => rfl
  | (k, v) :: r => by
    rw [List.map_cons]
    show (if (Sum.inr k : Key) = .inr z then some (S.d v) else lkS (r.map hX) (.inr z)) = _
    unfold getX
    by_cases h : k = z
    · rw [if_pos h, if_pos (by rw [h])]
      rfl
    · rw [if_neg h, if_neg (fun e => h (Sum.inr.inj e)), lk_hX z r]
theorem lk_none {H : Hp} {R : Addr → Prop} {gs ls : List Addr} {ky : Key} : ∀ {kvs : List (Key × S)} {vs : List (Key × V)}, Paired (RSK K H R gs ls) kvs vs → lkS kvs ky = none → valV vs ky = none
  | _, _, .nil, _ => rfl
  | (k, x) :: r, (k', v) :: vs, .cons ⟨e, q⟩ t, h => by
    obtain rfl : k = k' := e
    unfold lkS at h
    by_cases hk : k = ky
    · rw [if_pos hk] at h
      cases h
    · rw [if_neg hk] at h
      rw [valV_neg hk]
      exact lk_none t h
/-- what the V side holds -/
theorem get_hX {H : Hp} {R : Addr → Prop} {gs ls : List Addr} {kvs : List (Str × D)} {vs : List (Key × V)} (r : Paired (RSK K H R gs ls) (kvs.map hX) vs) (z : Str) :
    (getX kvs z = none ∧ valV vs (.inr z : Key) = none) ∨ ∃ x v, getX kvs z = some x ∧ valV vs (.inr z : Key) = some v ∧ Rep K H R x v := by
  have e := lk_hX z kvs
  cases h : getX kvs z with
  | none =>
    rw [h] at e
    exact .inl ⟨rfl, lk_none r e⟩
  | some x =>
    rw [h] at e
    obtain ⟨v, hv, rv⟩ := lk_rs r e
    exact .inr ⟨x, v, rfl, hv, rv⟩
theorem dX_at {w : W} {ls : List Addr} {σ : L2.St} {H : Hp} {k : Nat} {v : V} {kvs : List (Str × D)} (c : Ctx K w ls σ H Δ G L) (r : RS K H (Rg w ls) w.gs ls (.l k) v) (h : L[k]? = some (.dh (kvs.map hX))) :
    ∃ a vs, v = .ref a ∧ H a = some (.dK vs) ∧ Paired (RSK K H (Rg w ls) w.gs ls) (kvs.map hX) vs := by
  obtain ⟨a, ha, rfl⟩ := r
  obtain ⟨b, hb, vs, h1, q⟩ := paired_get c.lo h
  rw [ha] at hb
  cases hb
  exact ⟨a, vs, rfl, h1, q⟩
theorem u_inDX {k : Nat} {z : Str} (h : ∃ kvs, L[k]? = some (.dh (kvs.map hX)) ∧ Qd (.d (.bl (getX kvs z).isSome)) G L) : OpC K rInDi (.d (.str z)) (.l k) Δ G L Qd := fun w ls σ H vx vy c rx ry Q q => by
  obtain ⟨kvs, hk, kk⟩ := h
  obtain ⟨a, vs, rfl, m, r⟩ := dX_at c ry hk
  obtain rfl : vx = V.str z := rx
  refine ⟨a, _, rfl, DGet.k (k := (.inr z : Key)) m, ?_⟩
  have e : (valV vs (.inr z : Key)).isSome = (getX kvs z).isSome := by
    rcases get_hX r z with ⟨e1, e2⟩ | ⟨x, v, e1, e2, _⟩
    · rw [e1, e2]
      rfl
    · rw [e1, e2]
      rfl
  rw [e]
  exact q.go c Ext.refl (s := .d (.bl _)) rfl kk
theorem u_ninDX {k : Nat} {z : Str} (h : ∃ kvs, L[k]? = some (.dh (kvs.map hX)) ∧ Qd (.d (.bl (!(getX kvs z).isSome))) G L) : OpC K rNinDi (.d (.str z)) (.l k) Δ G L Qd := fun w ls σ H vx vy c rx ry Q q => by
  obtain ⟨kvs, hk, kk⟩ := h
  obtain ⟨a, vs, rfl, m, r⟩ := dX_at c ry hk
  obtain rfl : vx = V.str z := rx
  refine ⟨a, _, rfl, DGet.k (k := (.inr z : Key)) m, ?_⟩
  have e : (valV vs (.inr z : Key)).isSome = (getX kvs z).isSome := by
    rcases get_hX r z with ⟨e1, e2⟩ | ⟨x, v, e1, e2, _⟩
    · rw [e1, e2]
      rfl
    · rw [e1, e2]
      rfl
  rw [e]
  exact q.go c Ext.refl (s := .d (.bl _)) rfl kk
/-- d.get(z, x) -/
theorem evc_dgetX (h : EvC K td Δ G L fun s G1 L1 => ∃ (k : Nat) (kvs0 : List (Str × D)), s = .l k ∧ L1[k]? = some (.dh (kvs0.map hX)) ∧ EvC K ty Δ G1 L1 fun y G2 L2 => ∃ z : Str, y = .d (.str z) ∧ EvC K tx Δ G2 L2 fun x G3 L3 => ∃ (n : D) (kvs : List (Str × D)), x = .d n ∧ L3[k]? = some (.dh (kvs.map hX)) ∧ Qd (.d ((getX kvs z).getD n)) G3 L3) :
    EvC K (tDGet2 td ty tx) Δ G L Qd := fun w ls σ H c Q r => h w ls σ H c _ fun v s H1 G1 L1 c1 e1 r1 ⟨k, kvs0, es, hk0, h⟩ => by
  subst es
  have r1' := r1
  obtain ⟨a, ha, rfl⟩ := r1'
  obtain ⟨a0, vs0, ea0, m0, _⟩ := dX_at c1 r1 hk0
  cases ea0
  refine ⟨a, rfl, .inl ⟨_, .inl m0⟩, h w ls σ H1 c1 _ fun v2 s2 H2 G2 L2 c2 e2 r2 ⟨z, ey, h⟩ => ?_⟩
  subst ey
  obtain rfl : v2 = V.str z := r2
  refine h w ls σ H2 c2 _ fun v3 s3 H3 G3 L3 c3 e3 r3 ⟨n, kvs, ex, hk, kk⟩ => ?_
  subst ex
  obtain ⟨a', vs, ea, m, rr⟩ := dX_at (v := .ref a) c3 ⟨a, ha, rfl⟩ hk
  cases ea
  refine ⟨_, DGet.k (k := (.inr z : Key)) m, ?_⟩
  rcases get_hX rr z with ⟨e4, e5⟩ | ⟨x, v, e4, e5, rv⟩
  · rw [e5]
    rw [e4] at kk
    exact r _ (.d n) H3 G3 L3 c3 (e1.trans (e2.trans e3)) r3 kk
  · rw [e5]
    rw [e4] at kk
    exact r _ (.d x) H3 G3 L3 c3 (e1.trans (e2.trans e3)) rv kk
/-! dict(list of pairs) -/
def pairX (p : Str × D) : D := .tup [.str p.1, p.2]
theorem pairs_rep {H : Hp} {R : Addr → Prop} : ∀ {ps : List (Str × D)} {vs : List V}, RepL K H R (ps.map pairX) vs → ∃ (as : List Addr) (kvs : List (Key × V)), vs = as.map V.ref ∧ Paired (fun p kv => SqT K H p [kV kv.1, kv.2]) as kvs ∧
    Paired (fun (p : Str × D) (kv : Key × V) => kv.1 = .inr p.1 ∧ Rep K H R p.2 kv.2) ps kvs
  | [], vs, h => by
    have h : vs = [] := h
    exact ⟨[], [], h, .nil, .nil⟩
  | (z, x) :: r, vs, h => by
    obtain ⟨y, ys, rfl, h1, h2⟩ := h
    obtain ⟨a, xs, rfl, ht, hr⟩ := h1
    obtain ⟨v1, w1, rfl, e1, hr⟩ := hr
    obtain ⟨v2, w2, rfl, e2, hr⟩ := hr
    have hr : w2 = [] := hr
    subst hr
    have e1 : v1 = V.str z := e1
    subst e1
    obtain ⟨as, kvs, rfl, p1, p2⟩ := pairs_rep h2
    exact ⟨a :: as, (.inr z, v2) :: kvs, rfl, .cons (.inl (.inl ht.1)) p1, .cons ⟨rfl, e2⟩ p2⟩
theorem put_hX {H : Hp} {R : Addr → Prop} {gs ls : List Addr} {acc : List (Str × D)} {va : List (Key × V)} {z : Str} {x : D} {v : V} (r : Paired (RSK K H R gs ls) (acc.map hX) va) (rv : Rep K H R x v) :
    Paired (RSK K H R gs ls) ((putX acc z x).map hX) (putK va (.inr z : Key) v) := by
  have e : (valV va (.inr z : Key)).isSome = (getX acc z).isSome := by
    rcases get_hX r z with ⟨e1, e2⟩ | ⟨x, v, e1, e2, _⟩
    · rw [e1, e2]
      rfl
    · rw [e1, e2]
      rfl
  unfold putX putK
  rw [valV_any, e]
  split
  · have mp : ∀ {acc : List (Str × D)} {va : List (Key × V)}, Paired (RSK K H R gs ls) (acc.map hX) va → Paired (RSK K H R gs ls) ((acc.map fun p => if p.1 = z then (p.1, x) else p).map hX) (va.map fun kv => if kv.1 = .inr z then (kv.1, v) else kv) := by
      intro acc
      induction acc with
      | nil =>
        intro va h
        cases h
        exact .nil
      | cons p t ih =>
        obtain ⟨k, y⟩ := p
        intro va h
        cases h with
        | @cons _ kv _ vt h1 h2 =>
          obtain ⟨k', u⟩ := kv
          obtain ⟨ek, hy⟩ := h1
          have ek : (Sum.inr k : Key) = k' := ek
          subst ek
          refine .cons ?_ (ih h2)
          show RSK K H R gs ls (hX (if k = z then (k, x) else (k, y))) (if (Sum.inr k : Key) = .inr z then ((Sum.inr k : Key), v) else ((Sum.inr k : Key), u))
          by_cases hk : k = z
          · rw [if_pos hk, if_pos (by rw [hk])]
            exact ⟨rfl, rv⟩
          · rw [if_neg hk, if_neg (fun e => hk (Sum.inr.inj e))]
            exact ⟨rfl, hy⟩
    exact mp r
  · rw [List.map_append]
    exact paired_app r (.cons ⟨rfl, rv⟩ .nil)
theorem merge_hX {H : Hp} {R : Addr → Prop} {gs ls : List Addr} : ∀ {ps : List (Str × D)} {kvs : List (Key × V)} {acc : List (Str × D)} {va : List (Key × V)}, Paired (fun (p : Str × D) (kv : Key × V) => kv.1 = .inr p.1 ∧ Rep K H R p.2 kv.2) ps kvs →
    Paired (RSK K H R gs ls) (acc.map hX) va → Paired (RSK K H R gs ls) ((ps.foldl (fun acc p => putX acc p.1 p.2) acc).map hX) (mergeK va kvs)
  | [], _, _, _, .nil, h => h
  | (z, x) :: r, (k, v) :: kvs, acc, va, .cons ⟨e, rv⟩ t, h => by
    have e : k = .inr z := e
    subst e
    exact merge_hX (acc := putX acc z x) (va := putK va (.inr z : Key) v) t (put_hX h rv)
def rDictP (K : PySem.W.Frag) : List V → Hp → VK → Prop := fun xs H Q => ∃ (a : Addr) (ps : List Addr) (kvs : List (Key × V)), xs = [.ref a] ∧ SqL K H a (ps.map V.ref) ∧ Paired (fun p kv => SqT K H p [kV kv.1, kv.2]) ps kvs ∧
    ∀ p, H p = none → Q (.ref p) (upd H p (.dK (mergeK [] kvs)))
theorem uc_dictP {X : Cx} (hc : X.calm = true) : CallR X (.type "dict") (rDictP X.K) := call_dictP hc
theorem ap_dictP {s : S} (h : ∃ ps : List (Str × D), lsG G L s = some (ps.map pairX) ∧ Qn (.dh ((mergeX ps).map hX)) G L) : ApN K (rDictP K) [s] Δ G L Qn := fun w ls σ H vs c rs Q q => by
  obtain ⟨ps, hx, k⟩ := h
  obtain ⟨v, rfl, r⟩ := pair1 rs
  obtain ⟨a, us, rfl, h1, q1⟩ := lsG_get c r hx
  obtain ⟨as, kvs, rfl, p1, p2⟩ := pairs_rep q1
  refine ⟨a, as, kvs, rfl, .inl (.inl h1), p1, fun p hp => ?_⟩
  refine q p (.dh ((mergeX ps).map hX)) _ _ _ hp (newAt_of (m := M.dh _) c hp ⟨mergeK [] kvs, upd_same, ?_⟩ (fun x e => by cases e)) (Ext.new hp) k
  exact merge_hX (acc := []) (va := []) (paired_map p2 fun _ _ _ z => ⟨z.1, Rep.grow (grow_new hp) (Rep.grow (grow_reg hp) z.2)⟩) .nil
theorem getX_put (kvs : List (Str × D)) (z : Str) (n : D) (y : Str) : getX (putX kvs z n) y = if z = y then some n else getX kvs y := by
  have app : ∀ kvs : List (Str × D), getX kvs z = none → getX (kvs ++ [(z, n)]) y = if z = y then some n else getX kvs y := by
    intro kvs
    induction kvs with
    | nil => exact fun _ => rfl
    | cons p r ih =>
      obtain ⟨k, v⟩ := p
      intro h
      rw [List.cons_append]
      unfold getX at h ⊢
      by_cases hk : k = z
      · rw [if_pos hk] at h
        cases h
      · rw [if_neg hk] at h
        rw [ih h]
        by_cases hy : k = y
        · rw [if_pos hy, if_pos hy, if_neg (fun e => hk (hy.trans e.symm))]
        · rw [if_neg hy, if_neg hy]
  have mp : ∀ kvs : List (Str × D), (getX kvs z).isSome = true → getX (kvs.map fun p => if p.1 = z then (p.1, n) else p) y = if z = y then some n else getX kvs y := by
    have off : ∀ kvs : List (Str × D), z ≠ y → getX (kvs.map fun p => if p.1 = z then (p.1, n) else p) y = getX kvs y := by
      intro kvs hz
      induction kvs with
      | nil => rfl
      | cons p r ih =>
        obtain ⟨k, v⟩ := p
        rw [List.map_cons]
        by_cases hk : k = z
        · rw [if_pos hk]
          unfold getX
          rw [ih, if_neg (fun e => hz (hk.symm.trans e)), if_neg (fun e => hz (hk.symm.trans e))]
        · rw [if_neg hk]
          unfold getX
          rw [ih]
    intro kvs
    by_cases hz : z = y
    · rw [if_pos hz]
      subst hz
      induction kvs with
      | nil => exact fun h => by cases h
      | cons p r ih =>
        obtain ⟨k, v⟩ := p
        intro h
        rw [List.map_cons]
        by_cases hk : k = z
        · rw [if_pos hk]
          unfold getX
          rw [if_pos hk]
        · rw [if_neg hk]
          unfold getX at h ⊢
          rw [if_neg hk] at h ⊢
          exact ih h
    · rw [if_neg hz]
      exact fun _ => off kvs hz
  unfold putX
  by_cases h : (getX kvs z).isSome = true
  · rw [if_pos h]
    exact mp kvs h
  · rw [if_neg h]
    exact app kvs (by cases hg : getX kvs z with | none => rfl | some v => rw [hg] at h; exact absurd rfl h)
theorem getX_mem {kvs : List (Str × D)} {z : Str} : (getX kvs z).isSome = true ↔ z ∈ kvs.map (·.1) := by
  induction kvs with
  | nil => exact ⟨(fun h => by cases h), (fun h => by cases h)⟩
  | cons p r ih =>
    obtain ⟨k, v⟩ := p
    rw [List.map_cons, List.mem_cons]
    unfold getX
    by_cases hk : k = z
    · rw [if_pos hk]
      exact ⟨fun _ => .inl hk.symm, fun _ => rfl⟩
    · rw [if_neg hk, ih]
      exact ⟨.inr, fun h => h.elim (fun e => absurd e.symm hk) id⟩
theorem getX_fold (z : Str) : ∀ (ps acc : List (Str × D)), (getX (ps.foldl (fun acc p => putX acc p.1 p.2) acc) z).isSome = ((getX acc z).isSome || decide (z ∈ ps.map (·.1)))
  | [], acc => by
    rw [List.foldl_nil, List.map_nil, decide_eq_false (by intro h; cases h), Bool.or_false]
  | (k, x) :: r, acc => by
    rw [List.foldl_cons, getX_fold z r, getX_put]
    by_cases h : k = z
    · rw [if_pos h, decide_eq_true (show z ∈ ((k, x) :: r).map (·.1) from by rw [List.map_cons, List.mem_cons]; exact .inl h.symm)]
      show (true || _) = _
      rw [Bool.true_or, Bool.or_true]
    · rw [if_neg h]
      congr 1
      refine decide_eq_decide.mpr ?_
      rw [List.map_cons, List.mem_cons]
      exact ⟨.inr, fun q => q.elim (fun e => absurd e.symm h) fun q => q⟩
theorem getX_merge (z : Str) (ps : List (Str × D)) : (getX (mergeX ps) z).isSome = decide (z ∈ ps.map (·.1)) := by
  have := getX_fold z ps []
  rw [show (getX [] z).isSome = false from rfl, Bool.false_or] at this
  exact this
theorem merge_nd : ∀ (ps acc : List (Str × D)), (((acc ++ ps).map (·.1))).Nodup → ps.foldl (fun acc p => putX acc p.1 p.2) acc = acc ++ ps
  | [], acc, _ => by rw [List.foldl_nil, List.append_nil]
  | (k, x) :: r, acc, h => by
    have hk : k ∉ acc.map (·.1) := by
      rw [List.map_append, List.map_cons] at h
      intro hm
      exact (List.nodup_append.mp h).2.2 k hm k List.mem_cons_self rfl
    have e : putX acc k x = acc ++ [(k, x)] := by
      unfold putX
      rw [if_neg (fun z => hk (getX_mem.mp z))]
    rw [List.foldl_cons]
    show r.foldl _ (putX acc k x) = _
    rw [e, merge_nd r (acc ++ [(k, x)]) (by rw [List.append_assoc]; exact h), List.append_assoc]
    rfl
theorem merge_self {ps : List (Str × D)} (h : (ps.map (·.1)).Nodup) : mergeX ps = ps := merge_nd ps [] h
end
end DL

/-! set of a tuple of texts -/
namespace DSt
open PySem PySem.Spec PyProof.Rows L2
section
variable {P : Program} {w : World} {A : Around} {E : Value → Shared → Prop} {s : Shared}
theorem call_setT {l : Addr} {items : Array Value} {xs : List Str} {Q : Value → Shared → Prop} (hh : A.handled = none) (hl : s.heap.IsTuple l items) (hi : StrsAre items.toList xs) (hfew : (metS xs).length + 1 < scanBound)
    (h : ∀ (h' : Heap) (tk : Nat), SetS P w h' s.heap.objs.size (fun j => (metS xs).any (· == j)) (metS xs).length → (∀ b o, s.heap.get? b = some o → h'.get? b = some o) → Q (.ref s.heap.objs.size) { s with heap := h', toks := tk }) :
    wpAny (model P w) A (call (.type "set") [.ref l]) Q E s := by
  have hsz : xs.length = items.size := by rw [← StrsAre.len_eq hi, Array.length_toList]
  obtain ⟨c, tl, hmro⟩ := F.called_set.mro
  have hmade := F.called_set.made
  have hsub := F.called_set.sub
  refine wpAny_call (codeAny_of_tree ?_)
  show wpAny _ _ (callAny (.type "set") _) _ _ _
  refine wpAny_pure ⟨Code.quiet_builtin _ (by decide +kernel), codeAny_builtin F.entry_type_call ?_⟩
  rw [Around.under_plain (weight_type_call_type "set" [.ref l] []) rfl]
  have h1 := F.called_set.notType
  have h2 := F.called_set.canCreate
  have hct := F.typeCall_set_1 (.ref l)
  repeat (any_goals (first | assumption | wp_step))

  refine codeAny_mono (code_set_led1 (.ref l) (E := E) (Q₁ := fun obj s₁ => obj = .ref s.heap.objs.size ∧ s₁ = { s with heap := s.heap.push { cls := .type "set", dict := none, data := .set #[] 0 (.fresh 0 0 (!w.params.followText "set-order")) } }) ⟨rfl, rfl⟩) fun r s₁ hr => ?_
  cases r with
  | error e => exact hr
  | ok fl =>
    cases fl with
    | ret obj =>
      obtain ⟨rfl, rfl⟩ := hr
      have hS : (s.heap.push { cls := .type "set", dict := none, data := .set #[] 0 (.fresh 0 0 (!w.params.followText "set-order")) }).get? s.heap.objs.size = some { cls := .type "set", dict := none, data := .set #[] 0 (.fresh 0 0 (!w.params.followText "set-order")) } := Heap.get?_push_size _ rfl
      have hT : Shared.TypeIs { s with heap := s.heap.push { cls := .type "set", dict := none, data := .set #[] 0 (.fresh 0 0 (!w.params.followText "set-order")) } } (.ref s.heap.objs.size) "set" := ⟨_, hS, rfl⟩
      have hli := F.called_set.init.lookup
      have hbi := F.called_set.init.bind (.ref s.heap.objs.size)
      repeat (any_goals (first | assumption | wp_step))

      refine codeAny_mono (codeAny_call_builtin (R := wants (fun r s₂ => r = .none ∧ ∃ h' tk, s₂ = { s with heap := h', toks := tk } ∧ SetS P w h' s.heap.objs.size (fun j => (metS xs).any (· == j)) (metS xs).length ∧
          (∀ b o, s.heap.get? b = some o → h'.get? b = some o)) E) F.called_set.init.plain F.entry_set_init (check_set_init_1 hT ?_)) fun r₂ s₂ hr₂ => ?_
      · obtain ⟨ol, hol, hcl, nl, hdl⟩ := hl
        obtain ⟨ocls, odict, odata, oslots⟩ := ol
        simp only at hcl hdl
        subst hcl; subst hdl
        have hol' : (s.heap.push { cls := .type "set", dict := none, data := .set #[] 0 (.fresh 0 0 (!w.params.followText "set-order")) }).get? l = some { cls := .type "tuple", dict := odict, data := .seq items nl, slots := oslots } := Heap.get?_push_of_some _ hol
        have hsls := F.sub_tuple_set
        have hslf := F.sub_tuple_frozenset
        have hne : (Value.type "tuple" == Value.type "dict") = false := by decide
        have hl1 : (s.heap.push { cls := .type "set", dict := none, data := .set #[] 0 (.fresh 0 0 (!w.params.followText "set-order")) }).IsTuple l items := ⟨_, hol', rfl, nl, rfl⟩
        unfold Builtin.«set.__init__» noKeywords Builtin.Frozenset.updateFrom
        generalize hPI : pyIter = PI
        wp_walk
        subst hPI

        refine wpAny_pyIter_tuple hl1 ?_
        refine wpAny_bind (wpAny_runValue ?_)
        have hlS : l < s.heap.objs.size := Heap.lt_size hol
        have hh3 : A.in1.in1.in1.handled = none := by simp [hh]
        have hz1 : (s.heap.push { cls := .type "set", dict := none, data := .set #[] 0 (.fresh 0 0 (!w.params.followText "set-order")) }).objs.size = s.heap.objs.size + 1 := Heap.size_push ..
        have hneI : l ≠ (s.heap.push { cls := .type "set", dict := none, data := .set #[] 0 (.fresh 0 0 (!w.params.followText "set-order")) }).objs.size := by
          rw [Heap.size_push]; exact Nat.ne_of_lt (Nat.lt_succ_of_lt hlS)
        have hSf : s.heap.objs.size ∉ [(s.heap.push { cls := .type "set", dict := none, data := .set #[] 0 (.fresh 0 0 (!w.params.followText "set-order")) }).objs.size, l] := by
          rw [Heap.size_push]; simp only [List.mem_cons, List.mem_singleton, List.not_mem_nil, or_false, not_or]
          exact ⟨Nat.ne_of_lt (Nat.lt_succ_self _), Nat.ne_of_gt hlS⟩
        have hval : ∀ (i : Nat) (v : Value), items[i]? = some v → ∃ t, v = .str (xs.getD i Str.empty) t := fun i v hv => SS.strs_at hi i v (by rw [Array.getElem?_toList]; exact hv)
        have kp : ∀ b o, s.heap.get? b = some o → b ∉ [s.heap.objs.size, (s.heap.push { cls := .type "set", dict := none, data := .set #[] 0 (.fresh 0 0 (!w.params.followText "set-order")) }).objs.size] := fun b o e => by
          have hb := Heap.lt_size e
          rw [hz1]
          simp only [List.mem_cons, List.not_mem_nil, or_false, not_or]
          exact ⟨Nat.ne_of_lt hb, Nat.ne_of_lt (Nat.lt_succ_of_lt hb)⟩
        refine loopS ((Walks.tuple hh3 _ l hneI items).toS) s.heap.objs.size
          hSf xs hsz hfew hval (items.size - 0) 0 _ (by omega) (Nat.zero_le _)
          ⟨⟨_, Heap.get?_push_size _ rfl, rfl, rfl⟩, (hl1.push _)⟩ ?hS0 ?hR
        case hS0 =>
          have hget : ((s.heap.push { cls := .type "set", dict := none, data := .set #[] 0 (.fresh 0 0 (!w.params.followText "set-order")) }).push { cls := .type "tuple_iterator", data := .fields #[.ref l, .int 0 0] }).get? s.heap.objs.size
              = some { cls := .type "set", dict := none, data := .set #[] 0 (.fresh 0 0 (!w.params.followText "set-order")) } := Heap.get?_push_of_some _ hS
          exact setS_fresh hget
        case hR =>
          intro s' hm hS'
          obtain ⟨h', g2, d', tk', os'⟩ := s'
          have eg : g2 = s.gens := hm.gens
          have ed : d' = s.drawn := hm.drawn
          have eo : os' = s.os := hm.os
          subst eg; subst ed; subst eo
          show wpAny _ _ _ _ _ _
          refine wpAny_pure ?_
          show wpAny _ _ (ret Value.none) _ _ _
          exact wpAny_pure ⟨rfl, h', tk', rfl, hS', fun b o e => hm.heap b o (kp b o e) (Heap.get?_push_of_some _ (Heap.get?_push_of_some _ e))⟩

      · cases r₂ with
        | error e => exact hr₂
        | ok fl₂ =>
          cases fl₂ with
          | ret r =>
            obtain ⟨rfl, h', tk, rfl, hS', hk'⟩ := hr₂
            repeat (any_goals (first | assumption | wp_step))
            exact h _ _ hS' hk'
          | _ => exact hr₂.elim
    | _ => exact hr.elim

end
def rSetS2 (P : Program) (w : World) (K : PySem.W.Frag) : List V → Hp → VK → Prop := fun vs H Q => ∃ (a : Addr) (xs : List Str), vs = [V.ref a] ∧ (SqL K H a (xs.map V.str) ∨ SqT K H a (xs.map V.str)) ∧ (metS xs).length + 1 < scanBound ∧
  ∀ p, H p = none → Q (.ref p) (upd H p (SetSO P w p (fun j => (metS xs).any (· == j)) (metS xs).length))
theorem uc_setS2 {X : Cx} (hc : X.calm = true) : CallR X (.type "set") (rSetS2 X.prog X.w X.K) := by
  intro pins s σ H vs us Q I r h
  obtain ⟨a, xs, rfl, hs | hs, hf, q⟩ := h
  · obtain ⟨its, rv, hl, hz⟩ := I.list hs
    rw [Vals.ref1 r]
    refine call_setS (I.ok.hd hc) hl.isList rv.strs hf fun h' tk hS hk => ?_
    exact ⟨.ref _, upd H s.heap.objs.size (SetSO X.prog X.w s.heap.objs.size _ _), I.laid (t' := tk) hk (Nat.le_refl _) (setSO_new hS), rfl, q _ (I.hok.fresh (Nat.le_refl _))⟩
  · obtain ⟨its, rv, hl, hz⟩ := I.tuple hs
    rw [Vals.ref1 r]
    refine call_setT (I.ok.hd hc) hl rv.strs hf fun h' tk hS hk => ?_
    exact ⟨.ref _, upd H s.heap.objs.size (SetSO X.prog X.w s.heap.objs.size _ _), I.laid (t' := tk) hk (Nat.le_refl _) (setSO_new hS), rfl, q _ (I.hok.fresh (Nat.le_refl _))⟩
end DSt
namespace DL
open PySem PySem.Spec PyProof.Rows L2 DSo DSt DSe
section
variable {K : PySem.W.Frag} {Δ : Sl} {G L : List M} {Qd : Po} {t1 t2 : TE} {P : Program} {w0 : World}
/-- set(a list of texts) != set(another) -/
theorem evc_neSets2 (h : EvC K t1 Δ G L fun s1 G1 L1 => ∃ xs : List Str, seqG G1 L1 s1 = some (xs.map D.str) ∧ (metS xs).length < 4000 ∧ EvC K t2 Δ G1 L1 fun s2 G2 L2 => ∃ ys : List Str, seqG G2 L2 s2 = some (ys.map D.str) ∧ (metS ys).length < 4000 ∧
      ∀ r : Bool, (r = true ↔ ∀ k, k ∈ xs ↔ k ∈ ys) → Qd (.d (.bl (!r))) G2 L2) :
    EvC K (tOp (rNeSet P w0) (tCB (rSetS2 P w0 K) (tCons t1 tNil)) (tCB (rSetS2 P w0 K) (tCons t2 tNil))) Δ G L Qd := fun w ls σ H c Q ret => h w ls σ H c _ fun v s H2 G2 L2 c2 e2 r2 ⟨xs, hx, hf, h2⟩ => by
  obtain ⟨a, vs, rfl, h1, q1⟩ := seqG_get c2 r2 hx
  have e := RepL.strsV q1
  subst e
  refine ⟨a, xs, rfl, h1, by unfold scanBound; omega, fun p hp => ?_⟩
  have c3 := c2.new hp (o := SetSO P w0 p (fun j => (metS xs).any (· == j)) (metS xs).length)
  have e3 := e2.trans (Ext.new hp (o := SetSO P w0 p (fun j => (metS xs).any (· == j)) (metS xs).length))
  have ng : p ∉ w.gs := fun z => c2.free hp (.inl (c2.reg p z))
  have nl : p ∉ ls := fun z => c2.free hp (.inr z)
  refine h2 w ls σ _ c3 _ fun v4 s4 H4 G4 L4 c4 e4 r4 ⟨ys, hy, hf4, k⟩ => ?_
  obtain ⟨a4, vs4, rfl, h14, q14⟩ := seqG_get c4 r4 hy
  have e := RepL.strsV q14
  subst e
  refine ⟨a4, ys, rfl, h14, by unfold scanBound; omega, fun p4 hp4 => ?_⟩
  have c5 := c4.new hp4 (o := SetSO P w0 p4 (fun j => (metS ys).any (· == j)) (metS ys).length)
  have hp2 := e4 p _ upd_same ng nl
  have hne : p ≠ p4 := fun z => by rw [z, hp4] at hp2; cases hp2
  refine ⟨p, p4, fun j => (metS xs).any (· == j), fun j => (metS ys).any (· == j), (metS xs).length, (metS ys).length, rfl, rfl, ?_, upd_same, fun r hr => ?_⟩
  · exact upd_other hne _ hp2
  · refine ret _ (.d (.bl (!r))) _ _ _ c5 (e3.trans (e4.trans (Ext.new hp4))) rfl (k r (hr.trans ?_))
    rw [← met_eq]
    exact ⟨fun z => ⟨z.1, fun j hj => metS_mem.mp (any_mem.mp (z.2 j (any_mem.mpr (metS_mem.mpr hj))))⟩, fun z => ⟨z.1, fun j hj => any_mem.mpr (metS_mem.mpr (z.2 j (metS_mem.mp (any_mem.mp hj))))⟩⟩
theorem u_ne_same {x y : S} {a : D} (hx : valG G L x = some a) (hy : valG G L y = some a) (h : ∃ k, k ≤ 63 ∧ Eqb1 k a) (k : Qd (.d (.bl false)) G L) : OpC K (uNe K) x y Δ G L Qd := by
  obtain ⟨n, hn, p, hp, hc, hd⟩ := h
  have sh : SeqAt.shaped p = true := by
    unfold SeqAt.shaped
    rw [hc, decide_eq_true (by omega)]
    rfl
  refine u_ne_d hx hy hp hp sh sh ?_
  rw [SeqAt.eqv_refl p hc]
  exact k
end
end DL

namespace DL
open PySem PySem.Spec PyProof.Rows L2
section
variable {K : PySem.W.Frag} {Δ : Sl} {G L : List M} {Qn : PoN} {wi : TI} {g : TG} {tt : TT} {te : TE} {vs : List Nat}
/-- a comprehension that changes nothing, over the pictures of things told by what is walked -/
theorem evn_lcE {α : Type} (f : α → D) (keep : α → Bool) (val : α → D) (h : EvI K wi Δ G L fun items G1 L1 => ∃ xs : List α, items = xs.map f ∧ xs.length < sizeLine ∧
    (∀ a ∈ xs, TgC K g (· ∈ vs) (.d (f a)) (wipeD Δ vs) G1 L1 fun Δ2 G2 L2 => EvB K tt Δ2 G2 L2 fun b G3 L3 => b = keep a ∧ (b = true → EvC K te Δ2 G3 L3 fun s G4 L4 => s = .d (val a) ∧ G4 = G1 ∧ L4 = L1) ∧ (b = false → G3 = G1 ∧ L3 = L1)) ∧
    Qn (.pl ((xs.filter keep).map val)) G1 L1) : EvN K (tLc wi g tt te vs) Δ G L Qn := by
  refine evn_lc fun w ls σ H c R q => h w ls σ H c R fun J H1 items G1 L1 c1 e1 it ⟨xs, ex, hz, hs, hq⟩ => q J H1 items G1 L1 c1 e1 it ?_
  subst ex
  refine ⟨fun i acc G' L' => G' = G1 ∧ L' = L1 ∧ acc = ((xs.take i).filter keep).map val, ⟨rfl, rfl, by rw [List.take_zero]; rfl⟩, by rw [List.length_map]; exact hz, ?_, ?_⟩
  · rintro i d acc G' L' hd _ ⟨rfl, rfl, rfl⟩
    rw [List.getElem?_map] at hd
    cases e : xs[i]? with
    | none =>
      rw [e] at hd
      cases hd
    | some a =>
      rw [e] at hd
      cases hd
      have e2 : xs.take (i + 1) = xs.take i ++ [a] := by
        rw [List.take_succ, e]
        rfl
      intro w ls σ H v c r Q k
      refine hs a (List.mem_of_getElem? e) w ls σ H v c r Q fun σ' H' Δ' G2 L2 c' e' l' o' hb => k σ' H' Δ' G2 L2 c' e' l' o' ?_
      intro w ls σ H c Q k
      refine hb w ls σ H c Q fun b H' G3 L3 c' e' ⟨h1, h2, h3⟩ => k b H' G3 L3 c' e' ?_
      cases b with
      | true =>
        refine iteTT ((h2 rfl).imp fun s G4 L4 ⟨h4, h5, h6⟩ => ⟨val a, h4, h5, h6, ?_⟩)
        rw [e2, List.filter_append, List.map_append, List.filter_cons, if_pos h1.symm]
        rfl
      | false =>
        obtain ⟨h4, h5⟩ := h3 rfl
        refine iteFF ⟨h4, h5, ?_⟩
        rw [e2, List.filter_append, List.map_append, List.filter_cons, if_neg (by rw [← h1]; decide)]
        exact (List.append_nil _).symm
  · rintro acc G' L' ⟨rfl, rfl, rfl⟩
    rw [List.length_map, List.take_length]
    exact hq
/-- an `and` whose second part is known to say no -/
theorem ite_andF {b : Bool} {Qb : PoB} (h1 : b = true → EvB K tt Δ G L fun r G1 L1 => r = false ∧ G1 = G ∧ L1 = L) (k : Qb false G L) : if b = true then EvB K tt Δ G L Qb else Qb false G L := by
  cases b with
  | true =>
    rw [if_pos rfl]
    exact fun w ls σ H c Q r => h1 rfl w ls σ H c Q fun b H2 G2 L2 c2 e2 ⟨hb, hg, hl⟩ => r b H2 G2 L2 c2 e2 (by subst hb; subst hg; subst hl; exact k)
  | false =>
    rw [if_neg (by decide)]
    exact k

end
end DL

open PySem L2 DL
local macro_rules | `(tactic| walk_at "side") => `(tactic| first | assumption | omega | rfl | (refine ⟨?_, ?_⟩ <;> omega) | decide)
local macro_rules | `(tactic| walk_at "d1") => `(tactic| with_reducible first
  | walk_at "own"
  | refine evc_int ?_
  | refine evc_str ?_
  | refine evc_bl ?_
  | refine evc_non ?_
  | refine evc_ref ?_
  | refine evc_ty ?_
  | refine evc_op ?_
  | refine eva_nil ?_
  | refine eva_cons ?_
  | refine evb_test ?_
  | refine evb_B ?_
  | refine evb_and ?_
  | refine evb_or ?_
  | refine evb_not ?_
  | refine evb_yes ?_
  | refine evc_if ?_
  | refine evc_andV ?_
  | refine evc_orV ?_
  | refine evc_notV ?_
  | refine evc_chain ?_
  | refine evc_cb ?_
  | refine evc_sl ?_
  | refine evo_none ?_
  | refine evo_some ?_
  | refine evc_bm ?_
  | refine evc_bm0 ?_
  | refine evc_m0 ?_
  | refine evc_m1 ?_
  | refine evc_call ?_
  | refine st_seq ?_
  | refine st_next ?_
  | refine st_break ?_
  | refine st_cont ?_
  | refine st_asg ?_
  | refine st_asgT ?_
  | refine st_if ?_
  | refine st_ret ?_
  | refine st_retN ?_
  | refine st_drop ?_
  | (refine tg_name ?hi ?_; (case hi => first | exact trivial | decide | (show _ ∈ _; decide)))
  | refine tgs_nil ?_
  | refine tgs_cons ?_
  | refine tg_sub ?_
  | refine evc_tup ?_
  | refine evi_seq ?_
  | refine evi_rng1 ?_
  | refine evi_rng2 ?_
  | (refine evn_c ?_; refine evn_lst ?_)
  | (refine evn_c ?_; refine evn_revU ?_)
  | refine evn_lst ?_
  | refine evn_revU ?_
  | refine evn_cb ?_
  | refine evn_sl ?_
  | refine evn_op ?_
  | refine u_add_i ?_
  | refine opc_I0i ?_
  | refine pow10_6 ?_
  | refine pow10_9 ?_
  | refine pow10_12 ?_
  | refine pow10_15 ?_
  | refine pow10_18 ?_
  | refine pow10_39 ?_
  | refine opc_I0b ?_
  | refine u_eq_i ?_
  | refine u_ne_i ?_
  | refine u_eq_s ?_
  | refine u_ne_s ?_
  | refine ap_int ?_
  | refine ap_intB ?_
  | refine ap_max2 ?_
  | refine ap_min2 ?_
  | refine u_isB ?_
  | refine u_notB ?_
  | refine u_eq_b ?_
  | refine u_ne_b ?_
  | refine isi_ii ?_
  | refine isi_ib ?_
  | refine isi_bb ?_
  | refine isi_bi ?_
  | refine isi_tt ?_
  | refine isi_ss ?_
  | refine st_augS ?_
  | refine opc_ip ?_
  | refine asv_v ?_
  | refine evc_neg ?_
  | refine ⟨_, rfl, ?_⟩
  | refine iteTT ?_
  | refine iteFF ?_
  | refine iteNT ?_
  | refine iteNF ?_)
local macro_rules | `(tactic| walk_at "seq") => `(tactic| first | (refine ⟨_, rfl, ?_⟩) | (refine ⟨_, lsG_g (by assumption), ?_⟩) | (refine ⟨_, lsG_l (by assumption), ?_⟩) | (refine ⟨_, seqG_g (by assumption), ?_⟩) | (refine ⟨_, seqG_l (by assumption), ?_⟩) | (refine ⟨_, hlG_g (by assumption), ?_⟩))
local macro_rules | `(tactic| walk_at "d2") => `(tactic| first
  | (with_reducible refine evc_varX ?_; refine ⟨_, rfl, ?_⟩)
  | (refine tg_tup ?hn ?_; (case hn => exact rfl); dsimp only [List.map])
  | (with_reducible refine u_mulT_i ?hc ?_; (case hc => first | exact mulL (by omega) (by omega) | exact mulR (by omega) (by omega)))
  | (with_reducible refine u_mul_i ?hc ?_; (case hc => first | exact mulL (by omega) (by omega) | exact mulR (by omega) (by omega)))
  | (with_reducible refine opc_Ii ?hc ?_; (case hc => first | omega | exact divW (by omega) (by omega)))
  | (with_reducible refine u_ix_hX ?_; walk_at "seq"; refine ⟨_, rfl, ?_⟩)
  | (with_reducible refine u_ix_gX ?_; walk_at "seq"; refine ⟨_, rfl, ?_⟩)
  | (with_reducible refine apn_c (ap_listX ?_); walk_at "seq")
  | (with_reducible refine ap_listX ?_; walk_at "seq")
  | (with_reducible refine ap_tupleX ?_; walk_at "seq")
  | (with_reducible refine ap_lenX ?_; walk_at "seq")
  | (with_reducible refine ap_lenS ?hx ?_; (case hx => walk_at "side"))
  | (with_reducible refine u_ne_nilX ?_; refine ⟨rfl, ?_⟩; walk_at "seq")
  | (with_reducible refine u_eq_nilX ?_; refine ⟨rfl, ?_⟩; walk_at "seq")
  | (with_reducible refine u_in_iX ?_; refine ⟨_, rfl, ?_⟩)
  | (with_reducible refine u_in_sX ?_; refine ⟨_, rfl, ?_⟩)
  | (with_reducible refine u_nin_iX ?_; refine ⟨_, rfl, ?_⟩)
  | (with_reducible refine u_nin_sX ?_; refine ⟨_, rfl, ?_⟩)
  | (with_reducible refine opc_orl (opc_I0i ?_))
  | (with_reducible refine opn_c (u_add_lX ?_); walk_at "seq"; walk_at "seq")
  | (with_reducible refine u_add_lX ?_; walk_at "seq"; walk_at "seq")
  | (with_reducible refine opn_c (u_mulT_lX ?_); walk_at "seq"; refine ⟨⟨by omega, by omega, le_line (Nat.le_of_ble_eq_true rfl)⟩, ?_⟩)
  | (with_reducible refine opn_c (u_mul_lX ?_); walk_at "seq"; refine ⟨⟨by omega, by omega, le_line (Nat.le_of_ble_eq_true rfl)⟩, ?_⟩)
  | (refine ⟨le_line (Nat.le_of_ble_eq_true rfl), ?_⟩)
  | (refine ⟨tyS_l rfl, ?_⟩)
  | (refine ⟨tyS_g (by assumption), ?_⟩)
  | (refine ⟨_, rfl, ?_⟩)
  | (refine ⟨_, _, rfl, rfl, ?_⟩)
  | (refine ⟨_, _, rfl, ?_⟩)
  | (refine ⟨(rfl : noL _ = true), ?_⟩))
local macro_rules | `(tactic| walk_at "d3") => `(tactic| first
  | (with_reducible refine evc_varX ?_; refine ⟨_, rfl, ?_⟩)
  | (refine tg_tup ?hn ?_; (case hn => exact rfl); dsimp only [List.map])
  | (with_reducible refine u_mulT_i ?hc ?_; (case hc => first | exact mulL (by omega) (by omega) | exact mulR (by omega) (by omega)))
  | (with_reducible refine u_mul_i ?hc ?_; (case hc => first | exact mulL (by omega) (by omega) | exact mulR (by omega) (by omega)))
  | (with_reducible refine opc_Ii ?hc ?_; (case hc => first | omega | exact divW (by omega) (by omega)))
  | (with_reducible refine apn_c (ap_listX ?_); walk_at "seq")
  | (with_reducible refine ap_listX ?_; walk_at "seq")
  | (with_reducible refine ap_tupleX ?_; walk_at "seq")
  | (with_reducible refine ap_lenX ?_; walk_at "seq")
  | (with_reducible refine ap_lenS ?hx ?_; (case hx => walk_at "side"))
  | (with_reducible refine u_ne_nilX ?_; refine ⟨rfl, ?_⟩; walk_at "seq")
  | (with_reducible refine u_eq_nilX ?_; refine ⟨rfl, ?_⟩; walk_at "seq")
  | (with_reducible refine u_in_iX ?_; refine ⟨_, rfl, ?_⟩)
  | (with_reducible refine u_in_sX ?_; refine ⟨_, rfl, ?_⟩)
  | (with_reducible refine u_nin_iX ?_; refine ⟨_, rfl, ?_⟩)
  | (with_reducible refine u_nin_sX ?_; refine ⟨_, rfl, ?_⟩)
  | (with_reducible refine opc_orl (opc_I0i ?_))
  | (with_reducible refine opn_c (u_add_lX ?_); walk_at "seq"; walk_at "seq")
  | (with_reducible refine u_add_lX ?_; walk_at "seq"; walk_at "seq")
  | (with_reducible refine opn_c (u_mulT_lX ?_); walk_at "seq"; refine ⟨⟨by omega, by omega, le_line (Nat.le_of_ble_eq_true rfl)⟩, ?_⟩)
  | (with_reducible refine opn_c (u_mul_lX ?_); walk_at "seq"; refine ⟨⟨by omega, by omega, le_line (Nat.le_of_ble_eq_true rfl)⟩, ?_⟩)
  | (refine ⟨le_line (Nat.le_of_ble_eq_true rfl), ?_⟩)
  | (refine ⟨tyS_l rfl, ?_⟩)
  | (refine ⟨tyS_g (by assumption), ?_⟩)
  | (refine ⟨_, rfl, ?_⟩)
  | (refine ⟨_, _, rfl, rfl, ?_⟩)
  | (refine ⟨_, _, rfl, ?_⟩)
  | (refine ⟨(rfl : noL _ = true), ?_⟩))
local macro_rules | `(tactic| walk_at "go1") => `(tactic| repeat (first | walk_at "d1" | walk_at "d3"))
local macro_rules | `(tactic| walk_at "go") => `(tactic| repeat (first | walk_at "d1" | walk_at "d2"))
local macro_rules | `(tactic| walk_at "f1") => `(tactic| first
  | (with_reducible refine u_add_sF ?hl ?_; (case hl => omega); intro _ _)
  | (with_reducible refine u_add_sR 0 ?hm ?hl ?_; (case hm => decide); (case hl => omega); intro _ _)
  | (with_reducible refine u_add_sR 1 ?hm ?hl ?_; (case hm => decide); (case hl => omega); intro _ _)
  | (with_reducible refine u_add_sR 2 ?hm ?hl ?_; (case hm => decide); (case hl => omega); intro _ _)
  | (with_reducible refine u_add_sR 3 ?hm ?hl ?_; (case hm => decide); (case hl => omega); intro _ _)
  | (with_reducible refine u_add_sR 4 ?hm ?hl ?_; (case hm => decide); (case hl => omega); intro _ _)
  | (with_reducible refine u_add_sR 5 ?hm ?hl ?_; (case hm => decide); (case hl => omega); intro _ _)
  | (with_reducible refine u_add_sR 6 ?hm ?hl ?_; (case hm => decide); (case hl => omega); intro _ _)
  | (with_reducible refine u_add_sR 7 ?hm ?hl ?_; (case hm => decide); (case hl => omega); intro _ _)
  | (with_reducible refine u_add_sR 8 ?hm ?hl ?_; (case hm => decide); (case hl => omega); intro _ _)
  | (with_reducible refine u_add_sLm 0 ?hm ?hl ?_; (case hm => decide); (case hl => omega); intro _ _)
  | (with_reducible refine u_add_sLm 1 ?hm ?hl ?_; (case hm => decide); (case hl => omega); intro _ _)
  | (with_reducible refine u_add_sLm 2 ?hm ?hl ?_; (case hm => decide); (case hl => omega); intro _ _)
  | (with_reducible refine u_add_sLm 3 ?hm ?hl ?_; (case hm => decide); (case hl => omega); intro _ _)
  | (with_reducible refine u_add_sLm 4 ?hm ?hl ?_; (case hm => decide); (case hl => omega); intro _ _)
  | (with_reducible refine u_add_sLm 5 ?hm ?hl ?_; (case hm => decide); (case hl => omega); intro _ _)
  | (with_reducible refine u_add_sLm 6 ?hm ?hl ?_; (case hm => decide); (case hl => omega); intro _ _)
  | (with_reducible refine u_add_sLm 7 ?hm ?hl ?_; (case hm => decide); (case hl => omega); intro _ _)
  | (with_reducible refine u_add_sLm 8 ?hm ?hl ?_; (case hm => decide); (case hl => omega); intro _ _)
  | (with_reducible refine sl_sF ?hl ?_; (case hl => omega); intro _ _)
  | (with_reducible refine mt_upperF ?hl ?_; (case hl => omega); intro _ _)
  | (with_reducible refine ap_lenSF ?hl ?_; (case hl => omega))
  | (refine ⟨⟨_, rfl⟩, ?_⟩))
local macro_rules | `(tactic| walk_at "f1") => `(tactic| first
  | (with_reducible refine u_txmul ?hm ?_; (case hm => first | (refine ⟨?_, ?_, ?_, ?_⟩ <;> decide) | (refine ⟨?_, ?_, ?_, ?_⟩ <;> omega)); intro _ _))
local macro_rules | `(tactic| walk_at "gof") => `(tactic| repeat (first | walk_at "f1" | walk_at "d1" | walk_at "d2"))

namespace Pf
open PySem L2 DL
def top (i : Nat) : Stmt := PySem.Challenge.pw_littlemasters_k13_worn_marks_otherwise.main.body.getD i (.Pass ⟨0, 0, 0, 0⟩)
abbrev s_l_draw : Stmt := top 14
theorem sc_l_draw : FnScope ["_law_deck_here", "_law_most", "_law_cell", "_law_number"] ["_law_deck_here", "_law_most"] (defScope s_l_draw) := ⟨rfl, rfl, rfl, by decide +kernel, rfl, by decide +kernel, by decide +kernel⟩
abbrev s_l_deck : Stmt := top 13
theorem sc_l_deck : FnScope ["_law_script", "_law_cells", "_law_seed", "_law_cell"] ["_law_script"] (defScope s_l_deck) := ⟨rfl, rfl, rfl, by decide +kernel, rfl, by decide +kernel, by decide +kernel⟩
abbrev s_hands_for : Stmt := top 3
theorem sc_hands_for : FnScope ["house", "deed", "letter", "crafts"] ["house", "deed"] (defScope s_hands_for) := ⟨rfl, rfl, rfl, by decide +kernel, rfl, by decide +kernel, by decide +kernel⟩
abbrev s_further : Stmt := top 7
theorem sc_further : FnScope ["house", "deed", "mark", "signs", "sign"] ["house", "deed", "mark"] (defScope s_further) := ⟨rfl, rfl, rfl, by decide +kernel, rfl, by decide +kernel, by decide +kernel⟩
abbrev s_is_like : Stmt := top 8
theorem sc_is_like : FnScope ["worn", "mark", "one", "other"] ["worn", "mark"] (defScope s_is_like) := ⟨rfl, rfl, rfl, by decide +kernel, rfl, by decide +kernel, by decide +kernel⟩
abbrev s_fits : Stmt := top 9
theorem sc_fits : FnScope ["house", "worn", "found", "deed", "longer", "mark", "one"] ["house", "worn"] (defScope s_fits) := ⟨rfl, rfl, rfl, by decide +kernel, rfl, by decide +kernel, by decide +kernel⟩
abbrev s_l_marks : Stmt := top 16
theorem sc_l_marks : FnScope ["_law_house_here", "_law_done", "_law_found", "_law_deed", "_law_mark", "_law_longer", "_law_letter", "_law_crafts"] ["_law_house_here"] (defScope s_l_marks) := ⟨rfl, rfl, rfl, by decide +kernel, rfl, by decide +kernel, by decide +kernel⟩
abbrev s_is_mark : Stmt := top 4
theorem sc_is_mark : FnScope ["house", "thing", "done", "deed", "sign"] ["house", "thing"] (defScope s_is_mark) := ⟨rfl, rfl, rfl, by decide +kernel, rfl, by decide +kernel, by decide +kernel⟩
abbrev s_l_house : Stmt := top 15
theorem sc_l_house : FnScope ["_law_deck_here", "_law_way", "_law_many", "_law_first", "_law_step", "_law_found", "_law_k", "_law_letter", "_law_sure", "_law_crafts", "_law_deed"] ["_law_deck_here"] (defScope s_l_house) := ⟨rfl, rfl, rfl, by decide +kernel, rfl, by decide +kernel, by decide +kernel⟩
abbrev s_fit_all : Stmt := top 10
theorem sc_fit_all : FnScope ["house", "several", "mark", "worn"] ["house", "several"] (defScope s_fit_all) := ⟨rfl, rfl, rfl, by decide +kernel, rfl, by decide +kernel, by decide +kernel⟩
abbrev s_sure_of : Stmt := top 11
theorem sc_sure_of : FnScope ["house", "several", "marks", "found", "place", "sign", "alike", "mark"] ["house", "several"] (defScope s_sure_of) := ⟨rfl, rfl, rfl, by decide +kernel, rfl, by decide +kernel, by decide +kernel⟩
abbrev s_l_order : Stmt := top 17
theorem sc_l_order : FnScope ["_law_deck_here", "_law_many", "_law_left", "_law_k"] ["_law_deck_here", "_law_many"] (defScope s_l_order) := ⟨rfl, rfl, rfl, by decide +kernel, rfl, by decide +kernel, by decide +kernel⟩
abbrev s_l_worn_on : Stmt := top 18
theorem sc_l_worn_on : FnScope ["_law_deck_here", "_law_mark", "_law_found", "_law_at"] ["_law_deck_here", "_law_mark"] (defScope s_l_worn_on) := ⟨rfl, rfl, rfl, by decide +kernel, rfl, by decide +kernel, by decide +kernel⟩
abbrev s_l_called : Stmt := top 19
theorem sc_l_called : FnScope ["_law_house_here", "_law_by", "_law_text", "_law_names", "_law_k", "_law_letter", "_law_crafts", "_law_sign"] ["_law_house_here", "_law_by", "_law_text"] (defScope s_l_called) := ⟨rfl, rfl, rfl, by decide +kernel, rfl, by decide +kernel, by decide +kernel⟩
abbrev s_l_steps_right : Stmt := top 20
theorem sc_l_steps_right : FnScope ["_law_house_here", "_law_marks_here", "_law_worn_on_here", "_law_last", "_law_worn", "_law_found", "_law_known", "_law_mark"] ["_law_house_here", "_law_marks_here", "_law_worn_on_here"] (defScope s_l_steps_right) := ⟨rfl, rfl, rfl, by decide +kernel, rfl, by decide +kernel, by decide +kernel⟩
abbrev s_l_more_right : Stmt := top 21
theorem sc_l_more_right : FnScope ["_law_house_here", "_law_worn_on_here", "_law_ahead", "_law_sure", "_law_k", "_law_several", "_law_found", "_law_here", "_law_known", "_law_mark", "_law_j"] ["_law_house_here", "_law_worn_on_here"] (defScope s_l_more_right) := ⟨rfl, rfl, rfl, by decide +kernel, rfl, by decide +kernel, by decide +kernel⟩
abbrev s_l_others_right : Stmt := top 22
theorem sc_l_others_right : FnScope ["_law_deck_here", "_law_house_here", "_law_worn", "_law_due", "_law_moved", "_law_k", "_law_first", "_law_by", "_law_called_here", "_law_letter", "_law_crafts", "_law_mark", "_law_at", "_law_left", "_law_due_without", "_law_own", "_law_hand", "_law_more", "_law_there"] ["_law_deck_here", "_law_house_here", "_law_worn"] (defScope s_l_others_right) := ⟨rfl, rfl, rfl, by decide +kernel, rfl, by decide +kernel, by decide +kernel⟩
abbrev s_law : Stmt := top 23
theorem sc_law : FnScope ["_law_script", "_law_deck_here", "_law_asked", "_law_turn", "_law_house_here", "_law_marks_here", "_law_worn_on_here"] ["_law_script"] (defScope s_law) := ⟨rfl, rfl, rfl, by decide +kernel, rfl, by decide +kernel, by decide +kernel⟩
structure TX (w : World) (K : PySem.W.Frag) (mg : Str → Option Value) where
  a_l_draw : Addr
  fd_l_draw : FuncData
  F_l_draw : Fun K "_law_draw" "_law_draw" s_l_draw a_l_draw fd_l_draw
  m_l_draw : mg "_law_draw" = some (.ref a_l_draw)
  k_l_draw : PySem.W.keepIn K (.ref a_l_draw) = true
  b_l_draw : Binds K fd_l_draw ["_law_deck_here", "_law_most"] []
  a_l_deck : Addr
  fd_l_deck : FuncData
  F_l_deck : Fun K "_law_deck" "_law_deck" s_l_deck a_l_deck fd_l_deck
  m_l_deck : mg "_law_deck" = some (.ref a_l_deck)
  k_l_deck : PySem.W.keepIn K (.ref a_l_deck) = true
  b_l_deck : Binds K fd_l_deck ["_law_script"] []
  a_hands_for : Addr
  fd_hands_for : FuncData
  F_hands_for : Fun K "hands_for" "hands_for" s_hands_for a_hands_for fd_hands_for
  m_hands_for : mg "hands_for" = some (.ref a_hands_for)
  k_hands_for : PySem.W.keepIn K (.ref a_hands_for) = true
  b_hands_for : Binds K fd_hands_for ["house", "deed"] []
  a_further : Addr
  fd_further : FuncData
  F_further : Fun K "further" "further" s_further a_further fd_further
  m_further : mg "further" = some (.ref a_further)
  k_further : PySem.W.keepIn K (.ref a_further) = true
  b_further : Binds K fd_further ["house", "deed", "mark"] []
  a_is_like : Addr
  fd_is_like : FuncData
  F_is_like : Fun K "is_like" "is_like" s_is_like a_is_like fd_is_like
  m_is_like : mg "is_like" = some (.ref a_is_like)
  k_is_like : PySem.W.keepIn K (.ref a_is_like) = true
  b_is_like : Binds K fd_is_like ["worn", "mark"] []
  a_fits : Addr
  fd_fits : FuncData
  F_fits : Fun K "fits" "fits" s_fits a_fits fd_fits
  m_fits : mg "fits" = some (.ref a_fits)
  k_fits : PySem.W.keepIn K (.ref a_fits) = true
  b_fits : Binds K fd_fits ["house", "worn"] []
  a_l_marks : Addr
  fd_l_marks : FuncData
  F_l_marks : Fun K "_law_marks" "_law_marks" s_l_marks a_l_marks fd_l_marks
  m_l_marks : mg "_law_marks" = some (.ref a_l_marks)
  k_l_marks : PySem.W.keepIn K (.ref a_l_marks) = true
  b_l_marks : Binds K fd_l_marks ["_law_house_here"] []
  a_is_mark : Addr
  fd_is_mark : FuncData
  F_is_mark : Fun K "is_mark" "is_mark" s_is_mark a_is_mark fd_is_mark
  m_is_mark : mg "is_mark" = some (.ref a_is_mark)
  k_is_mark : PySem.W.keepIn K (.ref a_is_mark) = true
  b_is_mark : Binds K fd_is_mark ["house", "thing"] []
  a_l_house : Addr
  fd_l_house : FuncData
  F_l_house : Fun K "_law_house" "_law_house" s_l_house a_l_house fd_l_house
  m_l_house : mg "_law_house" = some (.ref a_l_house)
  k_l_house : PySem.W.keepIn K (.ref a_l_house) = true
  b_l_house : Binds K fd_l_house ["_law_deck_here"] []
  a_fit_all : Addr
  fd_fit_all : FuncData
  F_fit_all : Fun K "fit_all" "fit_all" s_fit_all a_fit_all fd_fit_all
  m_fit_all : mg "fit_all" = some (.ref a_fit_all)
  k_fit_all : PySem.W.keepIn K (.ref a_fit_all) = true
  b_fit_all : Binds K fd_fit_all ["house", "several"] []
  a_sure_of : Addr
  fd_sure_of : FuncData
  F_sure_of : Fun K "sure_of" "sure_of" s_sure_of a_sure_of fd_sure_of
  m_sure_of : mg "sure_of" = some (.ref a_sure_of)
  k_sure_of : PySem.W.keepIn K (.ref a_sure_of) = true
  b_sure_of : Binds K fd_sure_of ["house", "several"] []
  a_l_order : Addr
  fd_l_order : FuncData
  F_l_order : Fun K "_law_order" "_law_order" s_l_order a_l_order fd_l_order
  m_l_order : mg "_law_order" = some (.ref a_l_order)
  k_l_order : PySem.W.keepIn K (.ref a_l_order) = true
  b_l_order : Binds K fd_l_order ["_law_deck_here", "_law_many"] []
  a_l_worn_on : Addr
  fd_l_worn_on : FuncData
  F_l_worn_on : Fun K "_law_worn_on" "_law_worn_on" s_l_worn_on a_l_worn_on fd_l_worn_on
  m_l_worn_on : mg "_law_worn_on" = some (.ref a_l_worn_on)
  k_l_worn_on : PySem.W.keepIn K (.ref a_l_worn_on) = true
  b_l_worn_on : Binds K fd_l_worn_on ["_law_deck_here", "_law_mark"] []
  a_l_called : Addr
  fd_l_called : FuncData
  F_l_called : Fun K "_law_called" "_law_called" s_l_called a_l_called fd_l_called
  m_l_called : mg "_law_called" = some (.ref a_l_called)
  k_l_called : PySem.W.keepIn K (.ref a_l_called) = true
  b_l_called : Binds K fd_l_called ["_law_house_here", "_law_by", "_law_text"] []
  a_l_steps_right : Addr
  fd_l_steps_right : FuncData
  F_l_steps_right : Fun K "_law_steps_right" "_law_steps_right" s_l_steps_right a_l_steps_right fd_l_steps_right
  m_l_steps_right : mg "_law_steps_right" = some (.ref a_l_steps_right)
  k_l_steps_right : PySem.W.keepIn K (.ref a_l_steps_right) = true
  b_l_steps_right : Binds K fd_l_steps_right ["_law_house_here", "_law_marks_here", "_law_worn_on_here"] []
  a_l_more_right : Addr
  fd_l_more_right : FuncData
  F_l_more_right : Fun K "_law_more_right" "_law_more_right" s_l_more_right a_l_more_right fd_l_more_right
  m_l_more_right : mg "_law_more_right" = some (.ref a_l_more_right)
  k_l_more_right : PySem.W.keepIn K (.ref a_l_more_right) = true
  b_l_more_right : Binds K fd_l_more_right ["_law_house_here", "_law_worn_on_here"] []
  a_l_others_right : Addr
  fd_l_others_right : FuncData
  F_l_others_right : Fun K "_law_others_right" "_law_others_right" s_l_others_right a_l_others_right fd_l_others_right
  m_l_others_right : mg "_law_others_right" = some (.ref a_l_others_right)
  k_l_others_right : PySem.W.keepIn K (.ref a_l_others_right) = true
  b_l_others_right : Binds K fd_l_others_right ["_law_deck_here", "_law_house_here", "_law_worn"] []
  a_law : Addr
  fd_law : FuncData
  F_law : Fun K "law" "law" s_law a_law fd_law
  m_law : mg "law" = some (.ref a_law)
  k_law : PySem.W.keepIn K (.ref a_law) = true
  b_law : Binds K fd_law ["_law_script"] []
  z_all : mg "all" = none
  z_dict : mg "dict" = none
  z_enumerate : mg "enumerate" = none
  z_isinstance : mg "isinstance" = none
  z_len : mg "len" = none
  z_list : mg "list" = none
  z_range : mg "range" = none
  z_set : mg "set" = none
  z_sorted : mg "sorted" = none
  z_str : mg "str" = none
  z_tuple : mg "tuple" = none
  z_zip : mg "zip" = none
  t_BARE : Tok
  m_BARE : mg "BARE" = some (.str "." t_BARE)
  t_DEEDS : Tok
  m_DEEDS : mg "DEEDS" = some (.int 4 t_DEEDS)
  t_WORN : Tok
  m_WORN : mg "WORN" = some (.str "?" t_WORN)
end Pf
namespace Pf
open PySem PySem.Spec PyProof.Rows L2 DL DSo
abbrev sp_l_draw : DSpec := spDraw
abbrev sp_l_deck : DSpec := spDeck
abbrev sp_law : DSpec := spLaw
theorem law_in {ns : List Int} (h : ns.length ≤ 63) (hb : ∀ z ∈ ns, Builtin.Int.intBits z ≤ 1048576) : sp_law [.d (.scr ns)] [] fun r _ => r = .v (.d (.bl true)) := spLaw_in h hb
/-! marks of a house, worn marks: what the program and the law make of them -/
def letS (c : Nat) : Str := ⟨#[c]⟩
def cl (x : Str) : List Nat := x.cps.toList
theorem cl_app (x y : Str) : cl (x ++ y) = cl x ++ cl y := by
  show (x.cps ++ y.cps).toList = _
  rw [Array.toList_append]
  rfl
theorem cl_let (c : Nat) : cl (letS c) = [c] := rfl
theorem cl_len (x : Str) : (cl x).length = x.length := rfl
theorem cl_inj {x y : Str} (h : cl x = cl y) : x = y := by
  obtain ⟨x⟩ := x
  obtain ⟨y⟩ := y
  have : x.toList = y.toList := h
  rw [show x = y from by simpa using this]
theorem app_len (x y : Str) : (x ++ y).length = x.length + y.length := by
  rw [← cl_len, cl_app, List.length_append]
  rfl
theorem app_assoc (x y z : Str) : x ++ y ++ z = x ++ (y ++ z) := cl_inj (by rw [cl_app, cl_app, cl_app, cl_app, List.append_assoc])
theorem cl_cut (x : Str) (k : Nat) : cl (cutS x none (some (k : Int))) = (cl x).take k := by
  have e : cl (cutS x none (some (k : Int))) = ((cl x).drop (HT.sIx x.length 0 none)).take (HT.sIx x.length x.length (some (k : Int)) - HT.sIx x.length 0 none) := by
    unfold cutS cl
    simp
  rw [e, HT.sIx_none, HT.sIx_nat, List.drop_zero, Nat.sub_zero, ← cl_len]
  by_cases h : k ≤ (cl x).length
  · rw [Nat.min_eq_left h]
  · rw [Nat.min_eq_right (by omega), List.take_length, List.take_of_length_le (by omega)]
theorem ends_dot (m : Str) (c : Nat) : Txt.endswith (m ++ letS c) "." = decide (c = 46) := by
  unfold Txt.endswith Builtin.Str.subAt
  have e1 : ("." : Str).length = 1 := rfl
  have e2 : (m ++ letS c).length = m.length + 1 := app_len m (letS c)
  rw [e1, e2, Nat.add_sub_cancel]
  have e3 : (m ++ letS c).cps.extract m.length (m.length + 1) = #[c] := by
    apply Array.toList_inj.mp
    rw [Array.toList_extract]
    have : (m ++ letS c).cps.toList = cl m ++ [c] := cl_app m (letS c)
    rw [this]
    show ((cl m ++ [c]).drop m.length).take _ = [c]
    rw [← cl_len, List.drop_left, Nat.add_sub_cancel_left]
    rfl
  rw [e3]
  have e4 : ("." : Str).cps = #[46] := by decide
  rw [e4]
  have e5 : decide (0 + 1 ≤ m.length + 1) = true := by simp
  rw [e5, Bool.true_and]
  by_cases h : c = 46
  · subst h
    rfl
  · rw [decide_eq_false h]
    simp [h]
abbrev Hands := List (Nat × List Int)
def handD (h : Nat × List Int) : D := .tup [.str (letS h.1), .tup (h.2.map D.int)]
def houseD (hs : Hands) : D := .tup (hs.map handD)
structure HouseOk (hs : Hands) : Prop where
  l0 : 1 ≤ hs.length
  l1 : hs.length ≤ 6
  lt : ∀ h ∈ hs, 97 ≤ h.1 ∧ h.1 ≤ 122 ∧ h.2.length ≤ 4
def does (d : Nat) (h : Nat × List Int) : Bool := decide ((d : Int) ∈ h.2)
def lets (hs : Hands) (d : Nat) : List Str := (hs.filter (does d)).map fun h => letS h.1
def handsF (hs : Hands) (d : Nat) : List Str := srtT (lets hs d)
def furF (hs : Hands) (d : Nat) (m : Str) : List Str := (("." : Str) :: if Txt.endswith m "." then [] else handsF hs d).map (m ++ ·)
def likeP (a b : Nat) : Bool := decide (letS a = "?" ∨ letS a = letS b)
def likeL (a b : List Nat) : Bool := (a.zip b).all fun p => likeP p.1 p.2
def likeF (w m : Str) : Bool := likeL (cl w) (cl m)
def fitN (hs : Hands) (w : Str) : Nat → List Str
  | 0 => [""]
  | d + 1 => (fitN hs w d).flatMap fun m => (furF hs d m).filter fun x => likeF (cutS w none (some ((d + 1 : Nat) : Int))) x
def fitsF (hs : Hands) (w : Str) : List Str := srtT (fitN hs w 4)
def doneN (hs : Hands) : Nat → List Str
  | 0 => [""]
  | d + 1 => hs.flatMap fun h => if does d h = true then (doneN hs d).map (· ++ letS h.1) else []
def dots (d : Nat) : Str := cutS "...." (some (d : Int)) none
def foundN (hs : Hands) : Nat → List Str
  | 0 => []
  | d + 1 => foundN hs d ++ (doneN hs d).map (· ++ dots d)
def marksF (hs : Hands) : List Str := srtT (foundN hs 4 ++ doneN hs 4)
def fitF (ms ws : List Str) : List Str := ms.filter fun m => ws.all fun w => likeF w m
def isMarkF (hs : Hands) (m : Str) : Bool := ((cl (Txt.rstripChars m ".")).zipIdx).all fun p => decide (letS p.1 ∈ handsF hs p.2)
/-! lengths, numbers -/
theorem lets_len (hs : Hands) (d : Nat) : (lets hs d).length ≤ hs.length := by
  unfold lets
  rw [List.length_map]
  exact List.length_filter_le ..
theorem hands_len (hs : Hands) (d : Nat) : (handsF hs d).length ≤ hs.length := by
  unfold handsF
  rw [srtT_len]
  exact lets_len hs d
theorem hands_mem {hs : Hands} {d : Nat} {s : Str} : s ∈ handsF hs d ↔ s ∈ lets hs d := (srtT_perm _).mem_iff
theorem lets_mem {hs : Hands} {d : Nat} {s : Str} (h : s ∈ lets hs d) : ∃ g ∈ hs, does d g = true ∧ s = letS g.1 := by
  obtain ⟨g, hg, rfl⟩ := List.mem_map.mp h
  exact ⟨g, (List.mem_filter.mp hg).1, (List.mem_filter.mp hg).2, rfl⟩
theorem fur_mem {hs : Hands} {d : Nat} {m x : Str} (h : x ∈ furF hs d m) : ∃ c, x = m ++ letS c := by
  unfold furF at h
  obtain ⟨s, hs1, rfl⟩ := List.mem_map.mp h
  rcases List.mem_cons.mp hs1 with e | e
  · exact ⟨46, by rw [e]; rfl⟩
  · split at e
    · cases e
    · obtain ⟨g, _, _, rfl⟩ := lets_mem (hands_mem.mp e)
      exact ⟨_, rfl⟩
theorem fur_len {hs : Hands} (hh : hs.length ≤ 6) (d : Nat) (m : Str) : (furF hs d m).length ≤ 7 := by
  unfold furF
  rw [List.length_map, List.length_cons]
  have := hands_len hs d
  split
  · show 0 + 1 ≤ 7
    decide
  · omega
theorem flat_len {α β : Type} {f : α → List β} {n : Nat} : ∀ {l : List α}, (∀ a ∈ l, (f a).length ≤ n) → (l.flatMap f).length ≤ l.length * n
  | [], _ => Nat.zero_le _
  | a :: l, h => by
    rw [List.flatMap_cons, List.length_append, List.length_cons, Nat.succ_mul]
    have := h a List.mem_cons_self
    have := flat_len (l := l) fun x hx => h x (List.mem_cons_of_mem _ hx)
    omega
theorem fitN_mem {hs : Hands} {w : Str} : ∀ {d : Nat} {m : Str}, m ∈ fitN hs w d → m.length = d
  | 0, m, h => by
    rw [show m = "" from List.mem_singleton.mp h]
    rfl
  | d + 1, m, h => by
    obtain ⟨m0, h0, h1⟩ := List.mem_flatMap.mp h
    obtain ⟨c, rfl⟩ := fur_mem (List.mem_filter.mp h1).1
    rw [app_len, fitN_mem h0]
    rfl
theorem fitN_len {hs : Hands} (hh : hs.length ≤ 6) (w : Str) : ∀ d, (fitN hs w d).length ≤ 7 ^ d
  | 0 => Nat.le_refl _
  | d + 1 => by
    have h1 := fitN_len hh w d
    have h2 : (fitN hs w (d + 1)).length ≤ (fitN hs w d).length * 7 := flat_len fun m _ => Nat.le_trans (List.length_filter_le ..) (fur_len hh d m)
    rw [Nat.pow_succ]
    omega
theorem done_mem {hs : Hands} : ∀ {d : Nat} {m : Str}, m ∈ doneN hs d → m.length = d
  | 0, m, h => by
    rw [show m = "" from List.mem_singleton.mp h]
    rfl
  | d + 1, m, h => by
    obtain ⟨g, _, h1⟩ := List.mem_flatMap.mp h
    split at h1
    · obtain ⟨m0, h0, rfl⟩ := List.mem_map.mp h1
      rw [app_len, done_mem h0]
      rfl
    · cases h1
theorem done_len {hs : Hands} (hh : hs.length ≤ 6) : ∀ d, (doneN hs d).length ≤ 6 ^ d
  | 0 => Nat.le_refl _
  | d + 1 => by
    have h1 := done_len hh d
    have h2 : (doneN hs (d + 1)).length ≤ hs.length * (doneN hs d).length := flat_len fun m _ => by
      split
      · rw [List.length_map]
        exact Nat.le_refl _
      · exact Nat.zero_le _
    have h3 : hs.length * (doneN hs d).length ≤ 6 * 6 ^ d := Nat.mul_le_mul hh h1
    rw [Nat.pow_succ, Nat.mul_comm (6 ^ d)]
    omega
theorem found_len {hs : Hands} (hh : hs.length ≤ 6) : ∀ d, (foundN hs d).length ≤ d * 6 ^ d
  | 0 => Nat.le_refl _
  | d + 1 => by
    have h1 := found_len hh d
    have h2 := done_len hh d
    show (foundN hs d ++ (doneN hs d).map _).length ≤ _
    rw [List.length_append, List.length_map]
    have h3 : d * 6 ^ d + 6 ^ d ≤ (d + 1) * 6 ^ (d + 1) := by
      rw [← Nat.succ_mul]
      exact Nat.mul_le_mul (Nat.le_refl _) (Nat.pow_le_pow_right (by decide) (Nat.le_succ _))
    omega
theorem dots_len : ∀ d, d ≤ 4 → (dots d).length = 4 - d
  | 0, _ => by decide
  | 1, _ => by decide
  | 2, _ => by decide
  | 3, _ => by decide
  | 4, _ => by decide
  | d + 5, h => absurd h (by omega)
theorem found_mem {hs : Hands} : ∀ {d : Nat} {m : Str}, d ≤ 4 → m ∈ foundN hs d → m.length = 4
  | 0, m, _, h => by cases h
  | d + 1, m, hd, h => by
    rcases List.mem_append.mp h with h | h
    · exact found_mem (by omega) h
    · obtain ⟨m0, h0, rfl⟩ := List.mem_map.mp h
      rw [app_len, done_mem h0, dots_len d (by omega)]
      omega
theorem marks_mem {hs : Hands} {m : Str} (h : m ∈ marksF hs) : m.length = 4 := by
  rcases List.mem_append.mp ((srtT_perm _).mem_iff.mp h) with h | h
  · exact found_mem (by decide) h
  · exact done_mem h
theorem marks_len {hs : Hands} (hh : hs.length ≤ 6) : (marksF hs).length ≤ 6480 := by
  unfold marksF
  rw [srtT_len, List.length_append]
  have h1 := found_len hh 4
  have h2 := done_len hh 4
  omega
theorem marks_pos (hs : Hands) : 0 < (marksF hs).length := by
  unfold marksF
  rw [srtT_len, List.length_append]
  have : 0 < (foundN hs 4).length := by
    show 0 < ((([] ++ (doneN hs 0).map _) ++ _) ++ _ ++ _).length
    rw [List.length_append, List.length_append, List.length_append, List.nil_append, List.length_map]
    show 0 < 1 + _ + _ + _
    omega
  omega
/-! the two ways to all marks -/
theorem likeL_app {a b c d : List Nat} (h : a.length = b.length) : likeL (a ++ c) (b ++ d) = (likeL a b && likeL c d) := by
  unfold likeL
  rw [List.zip_append h, List.all_append]
theorem like_step {w m : Str} {d c : Nat} (hw : d < (cl w).length) (hm : m.length = d) (h : likeF (cutS w none (some ((d + 1 : Nat) : Int))) (m ++ letS c) = true) : likeF (cutS w none (some (d : Int))) m = true := by
  unfold likeF at h ⊢
  rw [cl_cut, cl_app] at h
  rw [cl_cut]
  have e : (cl w).take (d + 1) = (cl w).take d ++ [(cl w)[d]'hw] := by
    rw [List.take_succ, List.getElem?_eq_getElem hw]
    rfl
  rw [e, likeL_app (by rw [List.length_take, cl_len m, hm]; omega), Bool.and_eq_true] at h
  exact h.1
def allN (hs : Hands) : Nat → List Str
  | 0 => [""]
  | d + 1 => (allN hs d).flatMap (furF hs d)
theorem all_mem {hs : Hands} : ∀ {d : Nat} {m : Str}, m ∈ allN hs d → m.length = d
  | 0, m, h => by
    rw [show m = "" from List.mem_singleton.mp h]
    rfl
  | d + 1, m, h => by
    obtain ⟨m0, h0, h1⟩ := List.mem_flatMap.mp h
    obtain ⟨c, rfl⟩ := fur_mem h1
    rw [app_len, all_mem h0]
    rfl
theorem flat_filter {α β : Type} {q : α → Bool} {g : α → List β} : ∀ {l : List α}, (∀ m ∈ l, q m = false → g m = []) → (l.filter q).flatMap g = l.flatMap g
  | [], _ => rfl
  | a :: l, h => by
    have ih := flat_filter (l := l) fun m hm => h m (List.mem_cons_of_mem _ hm)
    rw [List.filter_cons, List.flatMap_cons]
    cases e : q a with
    | true =>
      rw [if_pos rfl, List.flatMap_cons, ih]
    | false =>
      rw [if_neg (by decide), h a List.mem_cons_self e, ih, List.nil_append]
theorem fit_all {hs : Hands} {w : Str} (hw : w.length = 4) : ∀ d, d ≤ 4 → fitN hs w d = (allN hs d).filter fun m => likeF (cutS w none (some (d : Int))) m
  | 0, _ => by
    have e : likeF (cutS w none (some ((0 : Nat) : Int))) "" = true := by
      show likeL (cl _) [] = true
      unfold likeL
      rw [List.zip_nil_right]
      rfl
    show ([""] : List Str) = List.filter _ ([""] : List Str)
    rw [List.filter_cons, e]
    rfl
  | d + 1, hd => by
    show (fitN hs w d).flatMap _ = ((allN hs d).flatMap _).filter _
    rw [fit_all hw d (by omega), List.filter_flatMap]
    refine flat_filter fun m hm hq => ?_
    refine List.filter_eq_nil_iff.mpr fun x hx hl => ?_
    obtain ⟨c, rfl⟩ := fur_mem hx
    rw [like_step (by rw [cl_len]; omega) (all_mem hm) hl] at hq
    cases hq
def dotN (hs : Hands) : Nat → List Str
  | 0 => []
  | d + 1 => (doneN hs d ++ dotN hs d).map (· ++ ".")
theorem flat_swap {α β γ : Type} (f : α → β → γ) : ∀ (l1 : List α) (l2 : List β), (l1.flatMap fun a => l2.map (f a)).Perm (l2.flatMap fun b => l1.map fun a => f a b)
  | [], l2 => by
    rw [List.flatMap_nil]
    induction l2 with
    | nil => exact .refl _
    | cons b l2 ih =>
      rw [List.flatMap_cons]
      exact ih
  | a :: l1, l2 => by
    rw [List.flatMap_cons]
    have ih := flat_swap f l1 l2
    have key : ∀ l2 : List β, (l2.flatMap fun b => (a :: l1).map fun a => f a b).Perm (l2.map (f a) ++ l2.flatMap fun b => l1.map fun a => f a b) := by
      intro l2
      induction l2 with
      | nil => exact .refl _
      | cons b l2 ih2 =>
        rw [List.flatMap_cons, List.flatMap_cons, List.map_cons, List.map_cons, List.cons_append, List.cons_append]
        refine .cons _ ?_
        refine (List.Perm.append_left _ ih2).trans ?_
        rw [← List.append_assoc, ← List.append_assoc]
        exact List.Perm.append_right _ List.perm_append_comm
    exact (List.Perm.append_left _ ih).trans (key l2).symm
theorem flat_perm {α β : Type} {l1 l2 : List α} (f : α → List β) (p : l1.Perm l2) : (l1.flatMap f).Perm (l2.flatMap f) := by
  induction p with
  | nil => exact .refl _
  | cons x _ ih =>
    rw [List.flatMap_cons, List.flatMap_cons]
    exact .append_left _ ih
  | swap x y l =>
    rw [List.flatMap_cons, List.flatMap_cons, List.flatMap_cons, List.flatMap_cons, ← List.append_assoc, ← List.append_assoc]
    exact .append_right _ List.perm_append_comm
  | trans _ _ h1 h2 => exact h1.trans h2
theorem flat_cons {α β : Type} (f : α → β) (g : α → List β) : ∀ l : List α, (l.flatMap fun a => f a :: g a).Perm (l.map f ++ l.flatMap g)
  | [] => .refl _
  | a :: l => by
    rw [List.flatMap_cons, List.flatMap_cons, List.map_cons, List.cons_append, List.cons_append]
    refine .cons _ ((List.Perm.append_left _ (flat_cons f g l)).trans ?_)
    rw [← List.append_assoc, ← List.append_assoc]
    exact .append_right _ List.perm_append_comm
theorem flat_congr {α β : Type} {f g : α → List β} : ∀ {l : List α}, (∀ a ∈ l, f a = g a) → l.flatMap f = l.flatMap g
  | [], _ => rfl
  | a :: l, h => by
    rw [List.flatMap_cons, List.flatMap_cons, h a List.mem_cons_self, flat_congr fun x hx => h x (List.mem_cons_of_mem _ hx)]
theorem done_last {hs : Hands} (hh : HouseOk hs) : ∀ {d : Nat} {m : Str}, m ∈ doneN hs d → Txt.endswith m "." = false
  | 0, m, h => by
    rw [show m = "" from List.mem_singleton.mp h]
    decide
  | d + 1, m, h => by
    obtain ⟨g, hg, h1⟩ := List.mem_flatMap.mp h
    split at h1
    · obtain ⟨m0, h0, rfl⟩ := List.mem_map.mp h1
      have := hh.lt g hg
      rw [ends_dot, decide_eq_false (by omega)]
    · cases h1
theorem dot_last {hs : Hands} : ∀ {d : Nat} {m : Str}, m ∈ dotN hs d → Txt.endswith m "." = true
  | 0, m, h => by cases h
  | d + 1, m, h => by
    obtain ⟨m0, h0, rfl⟩ := List.mem_map.mp h
    exact ends_dot m0 46
theorem done_flat (hs : Hands) (d : Nat) : doneN hs (d + 1) = (lets hs d).flatMap fun s => (doneN hs d).map (· ++ s) := by
  show hs.flatMap _ = _
  unfold lets
  rw [List.flatMap_map]
  have : ∀ l : Hands, (l.flatMap fun h => if does d h = true then (doneN hs d).map (· ++ letS h.1) else []) = (l.filter (does d)).flatMap fun h => (doneN hs d).map (· ++ letS h.1) := by
    intro l
    induction l with
    | nil => rfl
    | cons a l ih =>
      rw [List.flatMap_cons, ih, List.filter_cons]
      cases e : does d a with
      | true => rw [if_pos rfl, if_pos rfl, List.flatMap_cons]
      | false => rw [if_neg (by decide), if_neg (by decide), List.nil_append]
  exact this hs
theorem all_perm {hs : Hands} (hh : HouseOk hs) : ∀ d, (allN hs d).Perm (doneN hs d ++ dotN hs d)
  | 0 => .refl _
  | d + 1 => by
    refine (flat_perm _ (all_perm hh d)).trans ?_
    rw [List.flatMap_append]
    have e1 : (dotN hs d).flatMap (furF hs d) = (dotN hs d).map (fun m : Str => m ++ ".") := by
      have : (dotN hs d).flatMap (furF hs d) = (dotN hs d).flatMap fun m : Str => [m ++ "."] := flat_congr fun m hm => by
        unfold furF
        rw [dot_last hm]
        rfl
      rw [this]
      generalize dotN hs d = l
      induction l with
      | nil => rfl
      | cons a l ih => rw [List.flatMap_cons, ih]; rfl
    have e2 : (doneN hs d).flatMap (furF hs d) = (doneN hs d).flatMap fun m : Str => (m ++ ".") :: (handsF hs d).map (m ++ ·) := flat_congr fun m hm => by
      unfold furF
      rw [done_last hh hm]
      rfl
    rw [e1, e2]
    have p1 := flat_cons (fun m : Str => m ++ ".") (fun m => (handsF hs d).map (m ++ ·)) (doneN hs d)
    have p2 : ((doneN hs d).flatMap fun m => (handsF hs d).map (m ++ ·)).Perm (doneN hs (d + 1)) := by
      rw [done_flat]
      exact (flat_swap (fun m s : Str => m ++ s) (doneN hs d) (handsF hs d)).trans (flat_perm _ (srtT_perm _))
    show List.Perm _ (doneN hs (d + 1) ++ (doneN hs d ++ dotN hs d).map (fun m : Str => m ++ "."))
    rw [List.map_append]
    refine (List.Perm.append_right _ (p1.trans (List.Perm.append_left _ p2))).trans ?_
    refine (List.Perm.append_right _ List.perm_append_comm).trans ?_
    rw [List.append_assoc]
theorem dot_perm (hs : Hands) : (dotN hs 4).Perm (foundN hs 4) := by
  have e0 : dots 0 = "...." := by decide
  have e1 : dots 1 = "..." := by decide
  have e2 : dots 2 = ".." := by decide
  have e3 : dots 3 = "." := by decide
  have mm : ∀ (x y z : Str) (l : List Str), x ++ y = z → (l.map (· ++ x)).map (· ++ y) = l.map (· ++ z) := fun x y z l h => by
    rw [List.map_map]
    refine List.map_congr_left fun m _ => ?_
    show m ++ x ++ y = _
    rw [app_assoc, h]
  have e : dotN hs 4 = (doneN hs 3).map (fun m : Str => m ++ ".") ++ ((doneN hs 2).map (fun m : Str => m ++ "..") ++ ((doneN hs 1).map (fun m : Str => m ++ "...") ++ (doneN hs 0).map (fun m : Str => m ++ "...."))) := by
    show (doneN hs 3 ++ (doneN hs 2 ++ (doneN hs 1 ++ (doneN hs 0 ++ []).map (fun m : Str => m ++ ".")).map (fun m : Str => m ++ ".")).map (fun m : Str => m ++ ".")).map (fun m : Str => m ++ ".") = _
    simp only [List.append_nil, List.map_append]
    simp only [fun l => mm "." "." ".." l (by decide), fun l => mm ".." "." "..." l (by decide), fun l => mm "." ".." "..." l (by decide), fun l => mm "..." "." "...." l (by decide), fun l => mm "." "..." "...." l (by decide), fun l => mm ".." ".." "...." l (by decide)]
  have f : foundN hs 4 = (((doneN hs 0).map (fun m : Str => m ++ "....") ++ (doneN hs 1).map (fun m : Str => m ++ "...")) ++ (doneN hs 2).map (fun m : Str => m ++ "..")) ++ (doneN hs 3).map (fun m : Str => m ++ ".") := by
    show ((([] ++ (doneN hs 0).map (· ++ dots 0)) ++ (doneN hs 1).map (· ++ dots 1)) ++ (doneN hs 2).map (· ++ dots 2)) ++ (doneN hs 3).map (· ++ dots 3) = _
    rw [e0, e1, e2, e3, List.nil_append]
  rw [e, f]
  refine List.perm_append_comm.trans (.append_right _ ?_)
  refine List.perm_append_comm.trans (.append_right _ ?_)
  exact List.perm_append_comm
theorem all_marks {hs : Hands} (hh : HouseOk hs) : srtT (allN hs 4) = marksF hs :=
  srtT_congr ((all_perm hh 4).trans (List.perm_append_comm.trans (.append_right _ (dot_perm hs))))
/-- the program's fits are the marks that fit -/
theorem fits_eq {hs : Hands} (hh : HouseOk hs) {w : Str} (hw : w.length = 4) : fitsF hs w = (marksF hs).filter (likeF w) := by
  unfold fitsF
  rw [fit_all hw 4 (by decide), ← all_marks hh, srtT_filter]
  have e : cutS w none (some ((4 : Nat) : Int)) = w := cl_inj (by rw [cl_cut, List.take_of_length_le (by rw [cl_len]; omega)])
  rw [e]
/-! what is a mark -/
theorem done_ok {hs : Hands} (hh : HouseOk hs) : ∀ {d : Nat} {m : Str}, m ∈ doneN hs d → ∀ p ∈ (cl m).zipIdx, letS p.1 ∈ lets hs p.2 ∧ p.1 ≠ 46
  | 0, m, h, p, hp => by
    rw [show m = "" from List.mem_singleton.mp h] at hp
    cases hp
  | d + 1, m, h, p, hp => by
    obtain ⟨g, hg, h1⟩ := List.mem_flatMap.mp h
    split at h1
    · rename_i hd
      obtain ⟨m0, h0, rfl⟩ := List.mem_map.mp h1
      rw [cl_app, List.zipIdx_append, Nat.zero_add, cl_len, done_mem h0] at hp
      rcases List.mem_append.mp hp with hp | hp
      · exact done_ok hh h0 p hp
      · rw [show p = (g.1, d) from List.mem_singleton.mp hp]
        have := hh.lt g hg
        exact ⟨List.mem_map.mpr ⟨g, List.mem_filter.mpr ⟨hg, hd⟩, rfl⟩, by show g.1 ≠ 46; omega⟩
    · cases h1
theorem rstrip_dots {m : Str} {k : Nat} {x : Str} (hx : cl x = List.replicate k 46) (hm : ∀ c ∈ cl m, c ≠ 46) : Txt.rstripChars (m ++ x) "." = m := by
  have goes : ∀ c : Nat, (Array.contains (".":Str).cps c) = decide (c = 46) := fun c => by
    have e4 : ("." : Str).cps = #[46] := by decide
    rw [e4]
    by_cases h : c = 46
    · subst h
      simp
    · rw [decide_eq_false h]
      simp
      exact h
  have tw : ((cl (m ++ x)).reverse.takeWhile (Array.contains (".":Str).cps)).length = k := by
    rw [cl_app, hx, List.reverse_append, List.reverse_replicate, List.takeWhile_append_of_pos (fun c hc => by rw [goes, (List.mem_replicate.mp hc).2]; rfl), List.length_append, List.length_replicate]
    have : (cl m).reverse.takeWhile (Array.contains (".":Str).cps) = [] := by
      cases e : (cl m).reverse with
      | nil => rfl
      | cons c r =>
        have hc : c ∈ cl m := List.mem_reverse.mp (by rw [e]; exact List.mem_cons_self)
        rw [List.takeWhile_cons, goes, decide_eq_false (hm c hc)]
        rfl
    rw [this]
    rfl
  have hl : (m ++ x).length = m.length + k := by
    rw [app_len, ← cl_len x, hx, List.length_replicate]
  have hi : stripHi (Array.contains (".":Str).cps) true (m ++ x) (stripLo (Array.contains (".":Str).cps) false (m ++ x)) = m.length := by
    show (m ++ x).length - ((List.drop 0 (cl (m ++ x))).reverse.takeWhile (Array.contains (".":Str).cps)).length = _
    rw [List.drop_zero, tw, hl]
    omega
  unfold Txt.rstripChars Txt.stripBy
  have done : stripped (Array.contains (".":Str).cps) false true (m ++ x) = m := by
    unfold stripped
    rw [hi]
    apply cl_inj
    show ((m ++ x).cps.extract 0 m.length).toList = cl m
    rw [Array.toList_extract]
    have : (m ++ x).cps.toList = cl m ++ cl x := cl_app m x
    rw [this]
    show ((cl m ++ cl x).drop 0).take (m.length - 0) = cl m
    rw [List.drop_zero, Nat.sub_zero, ← cl_len, List.take_left]
  split
  · rename_i h
    unfold stripSame at h
    rw [hi, hl] at h
    simp only [Bool.and_eq_true, beq_iff_eq] at h
    have k0 : k = 0 := by omega
    subst k0
    apply cl_inj
    rw [cl_app, hx]
    exact List.append_nil _
  · exact done
theorem dots_cl : ∀ d, d ≤ 4 → cl (dots d) = List.replicate (4 - d) 46
  | 0, _ => by decide
  | 1, _ => by decide
  | 2, _ => by decide
  | 3, _ => by decide
  | 4, _ => by decide
  | d + 5, h => absurd h (by omega)
theorem done_no {hs : Hands} (hh : HouseOk hs) {d : Nat} {m : Str} (h : m ∈ doneN hs d) : ∀ c ∈ cl m, c ≠ 46 := fun c hc => by
  obtain ⟨i, hi, e⟩ := List.mem_iff_getElem.mp hc
  have : (c, i) ∈ (cl m).zipIdx := List.mem_zipIdx_iff_getElem?.mpr (by rw [← e]; exact List.getElem?_eq_getElem hi)
  exact (done_ok hh h _ this).2
theorem done_is {hs : Hands} (hh : HouseOk hs) {d : Nat} (hd : d ≤ 4) {m : Str} (h : m ∈ doneN hs d) : isMarkF hs (m ++ dots d) = true := by
  unfold isMarkF
  rw [rstrip_dots (dots_cl d hd) (done_no hh h)]
  refine List.all_eq_true.mpr fun p hp => ?_
  exact decide_eq_true (hands_mem.mpr (done_ok hh h p hp).1)
theorem found_is {hs : Hands} (hh : HouseOk hs) : ∀ {d : Nat} {m : Str}, d ≤ 4 → m ∈ foundN hs d → isMarkF hs m = true
  | 0, m, _, h => by cases h
  | d + 1, m, hd, h => by
    rcases List.mem_append.mp h with h | h
    · exact found_is hh (by omega) h
    · obtain ⟨m0, h0, rfl⟩ := List.mem_map.mp h
      exact done_is hh (by omega) h0
theorem marks_is {hs : Hands} (hh : HouseOk hs) {m : Str} (h : m ∈ marksF hs) : isMarkF hs m = true := by
  rcases List.mem_append.mp ((srtT_perm _).mem_iff.mp h) with h | h
  · exact found_is hh (by decide) h
  · have e : m ++ dots 4 = m := cl_inj (by rw [cl_app, dots_cl 4 (by decide)]; exact List.append_nil _)
    rw [← e]
    exact done_is hh (by decide) h
/-! specs of the program's marks -/
def strsD (xs : List Str) : D := .lst (xs.map D.str)
def strsT (xs : List Str) : D := .tup (xs.map D.str)
def sp_hands_for : DSpec := fun ss G Q => ∃ (hs : Hands) (d : Nat), ss = [.d (houseD hs), .d (.int (d : Int))] ∧ hs.length ≤ 6 ∧ Q (.v (.d (strsD (handsF hs d)))) G
def sp_further : DSpec := fun ss G Q => ∃ (hs : Hands) (d : Nat) (m : Str), ss = [.d (houseD hs), .d (.int (d : Int)), .d (.str m)] ∧ hs.length ≤ 6 ∧ m.length ≤ 10 ∧ Q (.v (.d (strsD (furF hs d m)))) G
def sp_is_like : DSpec := fun ss G Q => ∃ (w m : Str), ss = [.d (.str w), .d (.str m)] ∧ w.length = m.length ∧ w.length ≤ 100 ∧ Q (.v (.d (.bl (likeF w m)))) G
def sp_fits : DSpec := fun ss G Q => ∃ (hs : Hands) (w : Str), ss = [.d (houseD hs), .d (.str w)] ∧ hs.length ≤ 6 ∧ w.length = 4 ∧ Q (.v (.d (strsT (fitsF hs w)))) G
def sp_l_house : DSpec := fun ss G Q => ∃ (k c : Nat) (n : Int) (cells : List Int) (seed cnt : Int), ss = [.g k] ∧ Dk G k c n cells seed cnt ∧ n + 100 ≤ 2 ^ 32 ∧
  ∀ (hs : Hands) G', HouseOk hs → (hs.map (·.1)).Nodup → DkTo G k c (n + 100) G' → Q (.v (.d (houseD hs))) G'
def sp_l_marks : DSpec := fun ss G Q => ∃ hs : Hands, ss = [.d (houseD hs)] ∧ hs.length ≤ 6 ∧ Q (.v (.d (strsD (marksF hs)))) G
def sp_l_worn : DSpec := fun ss G Q => ∃ (k c : Nat) (n : Int) (cells : List Int) (seed cnt : Int) (m : Str), ss = [.g k, .d (.str m)] ∧ Dk G k c n cells seed cnt ∧ n + 10 ≤ 2 ^ 32 ∧ m.length = 4 ∧
  ∀ (z : Str) G', z.length = 4 → DkTo G k c (n + 10) G' → Q (.v (.d (.str z))) G'
def sp_l_fits : DSpec := fun ss G Q => ∃ (w m : Str), ss = [.d (.str w), .d (.str m)] ∧ w.length = 4 ∧ m.length = 4 ∧ Q (.v (.d (.bl (likeF w m)))) G
def sp_l_fit : DSpec := fun ss G Q => ∃ (ms ws : List Str), ss = [.d (strsD ms), .d (strsT ws)] ∧ ms.length ≤ 10000 ∧ ws.length ≤ 100 ∧ (∀ m ∈ ms, m.length = 4) ∧ (∀ w ∈ ws, w.length = 4) ∧ Q (.v (.d (strsT (fitF ms ws)))) G
theorem zip_signs (w m : Str) : zipD (signsD w) (signsD m) = ((cl w).zip (cl m)).map fun p => .tup [.str (letS p.1), .str (letS p.2)] := zipD_map (fun c => .str (letS c)) (fun c => .str (letS c)) (cl w) (cl m)
theorem signs_cl (w : Str) : signsD w = (cl w).map fun c => .str (letS c) := rfl
theorem like_all (w m : Str) : likeF w m = (((cl w).zip (cl m)).map fun p => likeP p.1 p.2).all id := by
  unfold likeF likeL
  rw [List.all_map]
  rfl
theorem line7 {n d : Nat} (hd : d ≤ 4) (h : n ≤ 7 ^ d) : n ≤ 2401 := Nat.le_trans h (Nat.pow_le_pow_right (n := 7) (i := d) (j := 4) (by decide) hd)
theorem line6 {n d : Nat} (hd : d ≤ 4) (h : n ≤ 6 ^ d) : n ≤ 1296 := Nat.le_trans h (Nat.pow_le_pow_right (n := 6) (i := d) (j := 4) (by decide) hd)
section
variable {G : List M} {Q : Res → List M → Prop} {hs : Hands}
theorem hands_use {d : Nat} (hl : hs.length ≤ 6) (k : Q (.v (.d (strsD (handsF hs d)))) G) : sp_hands_for [.d (houseD hs), .d (.int (d : Int))] G Q := ⟨hs, d, rfl, hl, k⟩
theorem further_use {d : Nat} {m : Str} (hl : hs.length ≤ 6) (hm : m.length ≤ 10) (k : Q (.v (.d (strsD (furF hs d m)))) G) : sp_further [.d (houseD hs), .d (.int (d : Int)), .d (.str m)] G Q := ⟨hs, d, m, rfl, hl, hm, k⟩
theorem like_use {w m : Str} (h : w.length = m.length) (hl : w.length ≤ 100) (k : Q (.v (.d (.bl (likeF w m)))) G) : sp_is_like [.d (.str w), .d (.str m)] G Q := ⟨w, m, rfl, h, hl, k⟩
theorem fits_use {w : Str} (hl : hs.length ≤ 6) (h : w.length = 4) (k : Q (.v (.d (strsT (fitsF hs w)))) G) : sp_fits [.d (houseD hs), .d (.str w)] G Q := ⟨hs, w, rfl, hl, h, k⟩
theorem marks_use (hl : hs.length ≤ 6) (k : Q (.v (.d (strsD (marksF hs)))) G) : sp_l_marks [.d (houseD hs)] G Q := ⟨hs, rfl, hl, k⟩
theorem lfits_use {w m : Str} (h : w.length = 4) (hl : m.length = 4) (k : Q (.v (.d (.bl (likeF w m)))) G) : sp_l_fits [.d (.str w), .d (.str m)] G Q := ⟨w, m, rfl, h, hl, k⟩
theorem lfit_use {ms ws : List Str} (h1 : ms.length ≤ 10000) (h2 : ws.length ≤ 100) (h3 : ∀ m ∈ ms, m.length = 4) (h4 : ∀ w ∈ ws, w.length = 4) (k : Q (.v (.d (strsT (fitF ms ws)))) G) : sp_l_fit [.d (strsD ms), .d (strsT ws)] G Q := ⟨ms, ws, rfl, h1, h2, h3, h4, k⟩
end
theorem hands_one {hs : Hands} {d : Nat} {s : Str} (h : s ∈ handsF hs d) : s.length = 1 := by
  obtain ⟨g, _, _, rfl⟩ := lets_mem (hands_mem.mp h)
  rfl
theorem fur_one {hs : Hands} {d : Nat} {m x : Str} (h : x ∈ furF hs d m) : x.length = m.length + 1 := by
  obtain ⟨c, rfl⟩ := fur_mem h
  rw [app_len]
  rfl
theorem cut_len {w : Str} {k : Nat} (h : k ≤ w.length) : (cutS w none (some (k : Int))).length = k := by
  rw [← cl_len, cl_cut, List.length_take, cl_len]
  omega
theorem get_mapE {α : Type} {f : α → D} {xs : List α} {i : Nat} {d : D} (h : (xs.map f)[i]? = some d) : ∃ x, xs[i]? = some x ∧ d = f x := by
  rw [List.getElem?_map] at h
  cases e : xs[i]? with
  | none =>
    rw [e] at h
    cases h
  | some x =>
    rw [e] at h
    cases h
    exact ⟨x, rfl, rfl⟩
theorem take_flat {α β : Type} {f : α → List β} {xs : List α} {j : Nat} {x : α} (h : xs[j]? = some x) : (xs.take (j + 1)).flatMap f = (xs.take j).flatMap f ++ f x := by
  rw [List.take_succ, h, List.flatMap_append]
  show _ ++ ([x].flatMap f) = _
  rw [List.flatMap_cons, List.flatMap_nil, List.append_nil]
theorem sign_at {z : Str} {k : Nat} (h : k < z.length) : atI z.cps.toList (0 + (k : Int)) = some ((cl z).getD k 0) := by
  have h' : k < (cl z).length := h
  refine atI_of (j := k) ?_ (Int.zero_add _)
  show (cl z)[k]? = _
  rw [List.getD_eq_getElem?_getD, List.getElem?_eq_getElem h']
  rfl
theorem four {l : List Nat} (h : l.length = 4) : ∃ a b c d, l = [a, b, c, d] := by
  match l, h with
  | [a, b, c, d], _ => exact ⟨a, b, c, d, rfl⟩
def oddAt (w m : Str) (k : Nat) : Bool := !decide (letS ((cl w).getD k 0) = "?") && !decide (letS ((cl w).getD k 0) = letS ((cl m).getD k 0))
theorem odd_like {w m : Str} (hw : w.length = 4) (hm : m.length = 4) : (((List.range 4).filter (oddAt w m)).map fun k : Nat => D.int (0 + (k : Int))).isEmpty = likeF w m := by
  obtain ⟨a, b, c, d, e1⟩ := four (l := cl w) hw
  obtain ⟨a', b', c', d', e2⟩ := four (l := cl m) hm
  unfold likeF likeL oddAt likeP
  rw [e1, e2]
  have er : List.range 4 = [0, 1, 2, 3] := rfl
  rw [er]
  simp only [List.filter_cons, List.filter_nil, List.getD_cons_zero, List.getD_cons_succ, List.zip_cons_cons, List.zip_nil_right, List.all_cons, List.all_nil, Bool.decide_or]
  generalize decide (letS a = "?") = p1
  generalize decide (letS b = "?") = p2
  generalize decide (letS c = "?") = p3
  generalize decide (letS d = "?") = p4
  generalize decide (letS a = letS a') = q1
  generalize decide (letS b = letS b') = q2
  generalize decide (letS c = letS c') = q3
  generalize decide (letS d = letS d') = q4
  cases p1 <;> cases p2 <;> cases p3 <;> cases p4 <;> cases q1 <;> cases q2 <;> cases q3 <;> cases q4 <;> rfl
theorem none_all {α : Type} (f : α → D) (p : α → Bool) : ∀ xs : List α, ((xs.filter fun x => !p x).map f).isEmpty = xs.all p
  | [] => rfl
  | x :: xs => by
    rw [List.filter_cons, List.all_cons]
    cases e : p x with
    | true =>
      rw [if_neg (by decide), none_all f p xs]
      rfl
    | false =>
      rw [if_pos (by decide)]
      rfl
theorem alpha : ∃ cs : List Nat, ("abcdefghijklmnopqrstuvwxyz" : Str).cps.toList = cs ∧ cs.length = 26 ∧ ∀ c ∈ cs, 97 ≤ c ∧ c ≤ 122 := ⟨_, rfl, by decide, by decide⟩
theorem alpha_at {i : Int} (h0 : 0 ≤ i) (h1 : i < 26) : ∃ c, atI ("abcdefghijklmnopqrstuvwxyz" : Str).cps.toList i = some c ∧ 97 ≤ c ∧ c ≤ 122 := by
  obtain ⟨cs, e, hl, hc⟩ := alpha
  rw [e]
  obtain ⟨c, hm, ha⟩ := atI_to (xs := cs) h0 (by omega)
  exact ⟨c, ha, hc c hm⟩
theorem rstrip_len (x y : Str) : (Txt.rstripChars x y).length ≤ x.length := by
  unfold Txt.rstripChars Txt.stripBy
  split
  · exact Nat.le_refl _
  · show (x.cps.extract _ _).size ≤ x.cps.size
    rw [Array.size_extract]
    omega
theorem isMark_all (hs : Hands) (m : Str) : isMarkF hs m = (((cl (Txt.rstripChars m ".")).zipIdx).map fun p => decide (letS p.1 ∈ handsF hs p.2)).all id := by
  unfold isMarkF
  rw [List.all_map]
  rfl
theorem join_len : ∀ xs : List Str, (∀ s ∈ xs, s.length = 1) → (Str.join "" xs).length = xs.length
  | [], _ => rfl
  | [x], h => h x List.mem_cons_self
  | x :: z :: r, h => by
    show (x ++ "" ++ Str.join "" (z :: r)).length = _
    rw [app_len, app_len, join_len (z :: r) fun s hs => h s (List.mem_cons_of_mem _ hs), h x List.mem_cons_self]
    show 1 + 0 + (r.length + 1) = r.length + 1 + 1
    omega
theorem join_one {xs : List Str} (h : ∀ s ∈ xs, s.length = 1) : (Txt.join "" xs).length = xs.length := by
  rw [show Txt.join "" xs = Str.join "" xs from TL.join_eq "" xs]
  exact join_len xs h
theorem sum_one : ∀ {xs : List Str}, (∀ s ∈ xs, s.length = 1) → (xs.map (·.length)).sum = xs.length
  | [], _ => rfl
  | x :: xs, h => by
    rw [List.map_cons, List.sum_cons, h x List.mem_cons_self, sum_one fun s hs => h s (List.mem_cons_of_mem _ hs), List.length_cons]
    omega
theorem ok_let {c : Nat} (h : c < 1114112) : ∀ x ∈ cl (letS c), x < 1114112 := fun x hx => by
  rw [show x = c from List.mem_singleton.mp hx]
  exact h
theorem done_chars {hs : Hands} (hh : HouseOk hs) : ∀ {d : Nat} {m : Str}, m ∈ doneN hs d → ∀ c ∈ cl m, c < 200
  | 0, m, h, c, hc => by
    rw [show m = "" from List.mem_singleton.mp h] at hc
    cases hc
  | d + 1, m, h, c, hc => by
    obtain ⟨g, hg, h1⟩ := List.mem_flatMap.mp h
    split at h1
    · obtain ⟨m0, h0, rfl⟩ := List.mem_map.mp h1
      rw [cl_app] at hc
      rcases List.mem_append.mp hc with hc | hc
      · exact done_chars hh h0 c hc
      · rw [show c = g.1 from List.mem_singleton.mp hc]
        have := hh.lt g hg
        omega
    · cases h1
theorem found_chars {hs : Hands} (hh : HouseOk hs) : ∀ {d : Nat} {m : Str}, d ≤ 4 → m ∈ foundN hs d → ∀ c ∈ cl m, c < 200
  | 0, m, _, h, c, hc => by cases h
  | d + 1, m, hd, h, c, hc => by
    rcases List.mem_append.mp h with h | h
    · exact found_chars hh (by omega) h c hc
    · obtain ⟨m0, h0, rfl⟩ := List.mem_map.mp h
      rw [cl_app] at hc
      rcases List.mem_append.mp hc with hc | hc
      · exact done_chars hh h0 c hc
      · rw [dots_cl d (by omega)] at hc
        rw [(List.mem_replicate.mp hc).2]
        decide
theorem marks_ok {hs : Hands} (hh : HouseOk hs) {m : Str} (h : m ∈ marksF hs) : PyData.strOk m = true := by
  have hc : ∀ c ∈ cl m, c < 200 := by
    rcases List.mem_append.mp ((srtT_perm _).mem_iff.mp h) with h | h
    · exact found_chars hh (by decide) h
    · exact done_chars hh h
  show m.cps.all (· < 0x110000) = true
  rw [Array.all_eq_true_iff_forall_mem]
  intro c hm
  have := hc c (by simpa [cl] using hm)
  exact decide_eq_true (by omega)
theorem strs_sh {xs : List Str} (h1 : ∀ x ∈ xs, PyData.strOk x = true) (h2 : ∀ x ∈ xs, x.length ≤ 4) : ShX (xs.length * 44 + 3) 1 (strsT xs) := by
  have := shx_tup (n := 42) (k := 0) (ds := xs.map D.str) fun d hd => by
    obtain ⟨x, hx, rfl⟩ := List.mem_map.mp hd
    exact shx_str 0 (m := 4) (h1 x hx) (h2 x hx)
  rw [List.length_map] at this
  exact this
theorem fit_one (hs : Hands) (hh : HouseOk hs) {w : Str} (hw : w.length = 4) : fitF (marksF hs) [w] = fitsF hs w := by
  rw [fits_eq hh hw]
  unfold fitF
  congr 1
  funext m
  simp
theorem sto_strX {K : PySem.W.Frag} {Δ : Sl} {G L : List M} {k : Nat} {i : Int} {z : Str} {Qt : List M → List M → Prop} (h : ∃ xs : List Str, L[k]? = some (.pl (xs.map D.str)) ∧ (0 ≤ i ∧ i < (xs.length : Nat)) ∧ Qt G (L.set k (.pl ((xs.set i.toNat z).map D.str)))) : StoC K rSetL (.l k) (.d (.int i)) (.d (.str z)) Δ G L Qt := by
  obtain ⟨xs, hx, ⟨h0, h1⟩, q⟩ := h
  refine sto_lp hx (j := i.toNat) ?_ ?_
  · unfold ixN
    rw [List.length_map, if_pos h0, if_pos (by omega)]
  · rw [List.map_set] at q
    exact q
theorem cl_cutFrom (x : Str) (k : Nat) : cl (cutS x (some (k : Int)) none) = (cl x).drop k := by
  have e : cl (cutS x (some (k : Int)) none) = ((cl x).drop (HT.sIx x.length 0 (some (k : Int)))).take (HT.sIx x.length x.length none - HT.sIx x.length 0 (some (k : Int))) := by
    unfold cutS cl
    simp
  rw [e, HT.sIx_none, HT.sIx_nat, ← cl_len]
  by_cases h : k ≤ (cl x).length
  · rw [Nat.min_eq_left h, List.take_of_length_le]
    rw [List.length_drop]
    exact Nat.le_refl _
  · rw [Nat.min_eq_right (by omega), List.drop_of_length_le (Nat.le_refl _), List.drop_of_length_le (by omega), List.take_nil]
theorem cutFrom_len {w : Str} {k : Nat} : (cutS w (some (k : Int)) none).length = w.length - k := by
  rw [← cl_len, cl_cutFrom, List.length_drop, cl_len]
theorem signs_strs (z : Str) : signsD z = ((cl z).map letS).map D.str := by
  rw [List.map_map]
  rfl
theorem letS_len (c : Nat) : (letS c).length = 1 := rfl
theorem pick_len {α : Type} (xs : List α) (js : List Nat) : (pickX xs js).length ≤ js.length := List.length_filterMap_le ..
theorem pick_mem {α : Type} {xs : List α} {js : List Nat} {x : α} (h : x ∈ pickX xs js) : x ∈ xs := by
  obtain ⟨j, _, e⟩ := List.mem_filterMap.mp h
  exact List.mem_of_getElem? e
/-! what is sure -/
def sgn (m : Str) (k : Nat) : Nat := (cl m).getD k 0
def sureAt (ms : List Str) (k : Nat) : Nat := match ms with
  | [] => 63
  | m :: r => if ((m :: r).all fun x => decide (letS (sgn x k) = letS (sgn m k))) = true then sgn m k else 63
theorem sureAt_cons (m : Str) (r : List Str) (k : Nat) : sureAt (m :: r) k = if ((m :: r).all fun x => decide (letS (sgn x k) = letS (sgn m k))) = true then sgn m k else 63 := rfl
def sureN (ms : List Str) : Nat → Str
  | 0 => ""
  | i + 1 => sureN ms i ++ letS (sureAt ms i)
def sureD (ms : List Str) : D := if ms.isEmpty then .non else .str (sureN ms 4)
theorem sureN_len (ms : List Str) : ∀ i, (sureN ms i).length = i
  | 0 => rfl
  | i + 1 => by
    show (sureN ms i ++ letS _).length = _
    rw [app_len, sureN_len ms i]
    rfl
/-- few texts are in a list whose texts are all among few -/
theorem nodup_len {l m : List Str} (h : l.Nodup) (s : ∀ x ∈ l, x ∈ m) : l.length ≤ m.length := by
  induction l generalizing m with
  | nil => exact Nat.zero_le _
  | cons a l ih =>
    have ha := s a List.mem_cons_self
    have hn := List.nodup_cons.mp h
    have := ih (m := m.erase a) hn.2 fun x hx => by
      refine (List.mem_erase_of_ne ?_).mpr (s x (List.mem_cons_of_mem _ hx))
      intro e
      subst e
      exact hn.1 hx
    rw [List.length_erase_of_mem ha] at this
    have := List.length_pos_of_mem ha
    rw [List.length_cons]
    omega
theorem done_in {hs : Hands} (hh : HouseOk hs) {d : Nat} {m : Str} (h : m ∈ doneN hs d) : ∀ c ∈ cl m, letS c ∈ ("." : Str) :: hs.map fun g => letS g.1 := fun c hc => by
  obtain ⟨i, hi, e⟩ := List.mem_iff_getElem.mp hc
  have : (c, i) ∈ (cl m).zipIdx := List.mem_zipIdx_iff_getElem?.mpr (by rw [← e]; exact List.getElem?_eq_getElem hi)
  obtain ⟨g, hg, _, e2⟩ := lets_mem (done_ok hh h _ this).1
  exact List.mem_cons_of_mem _ (List.mem_map.mpr ⟨g, hg, e2.symm⟩)
theorem found_in {hs : Hands} (hh : HouseOk hs) : ∀ {d : Nat} {m : Str}, d ≤ 4 → m ∈ foundN hs d → ∀ c ∈ cl m, letS c ∈ ("." : Str) :: hs.map fun g => letS g.1
  | 0, m, _, h, c, hc => by cases h
  | d + 1, m, hd, h, c, hc => by
    rcases List.mem_append.mp h with h | h
    · exact found_in hh (by omega) h c hc
    · obtain ⟨m0, h0, rfl⟩ := List.mem_map.mp h
      rw [cl_app] at hc
      rcases List.mem_append.mp hc with hc | hc
      · exact done_in hh h0 c hc
      · rw [dots_cl d (by omega)] at hc
        rw [(List.mem_replicate.mp hc).2]
        exact List.mem_cons_self
theorem marks_in {hs : Hands} (hh : HouseOk hs) {m : Str} (h : m ∈ marksF hs) {k : Nat} (hk : k < 4) : letS (sgn m k) ∈ ("." : Str) :: hs.map fun g => letS g.1 := by
  have hl : k < (cl m).length := by rw [cl_len, marks_mem h]; exact hk
  have hc : sgn m k ∈ cl m := by
    unfold sgn
    rw [List.getD_eq_getElem?_getD, List.getElem?_eq_getElem hl]
    exact List.getElem_mem hl
  rcases List.mem_append.mp ((srtT_perm _).mem_iff.mp h) with h | h
  · exact found_in hh (by decide) h _ hc
  · exact done_in hh h _ hc
theorem sgn_small {hs : Hands} (hh : HouseOk hs) {m : Str} (h : m ∈ marksF hs) {k : Nat} (hk : k < 4) : sgn m k < 200 := by
  rcases List.mem_cons.mp (marks_in hh h hk) with e | e
  · have : cl (letS (sgn m k)) = cl "." := by rw [e]
    have : sgn m k = 46 := (List.cons.inj this).1
    omega
  · obtain ⟨g, hg, e⟩ := List.mem_map.mp e
    have : cl (letS g.1) = cl (letS (sgn m k)) := by rw [e]
    have : g.1 = sgn m k := (List.cons.inj this).1
    have := hh.lt g hg
    omega
def sgns (ms : List Str) (k : Nat) : List Str := ms.map fun m => letS (sgn m k)
theorem met_few {hs : Hands} (hh : HouseOk hs) {ms : List Str} (h : ∀ m ∈ ms, m ∈ marksF hs) {k : Nat} (hk : k < 4) : (DSt.metS (sgns ms k)).length ≤ 7 := by
  refine Nat.le_trans (nodup_len (DSt.metS_nodup _) (m := ("." : Str) :: hs.map fun g => letS g.1) fun x hx => ?_) ?_
  · obtain ⟨m, hm, rfl⟩ := List.mem_map.mp (DSt.metS_mem.mp hx)
    exact marks_in hh (h m hm) hk
  · rw [List.length_cons, List.length_map]
    have := hh.l1
    omega
/-- the law's way to a sure sign -/
theorem sure_one {ms : List Str} {k : Nat} (hne : ms ≠ []) : ∃ s r, srtT (DSt.metS (sgns ms k)) = s :: r ∧ (if (if (((s :: r).length : Nat) : Int) > 1 then true else false) = true then ("?" : Str) else s) = letS (sureAt ms k) := by
  obtain ⟨m, ms', rfl⟩ : ∃ m ms', ms = m :: ms' := by
    cases ms with
    | nil => exact absurd rfl hne
    | cons m r => exact ⟨m, r, rfl⟩
  have hin : letS (sgn m k) ∈ srtT (DSt.metS (sgns (m :: ms') k)) := (srtT_perm _).mem_iff.mpr (DSt.metS_mem.mpr (List.mem_map.mpr ⟨m, List.mem_cons_self, rfl⟩))
  have hnd : (srtT (DSt.metS (sgns (m :: ms') k))).Nodup := (srtT_perm _).nodup_iff.mpr (DSt.metS_nodup _)
  have hmem : ∀ x, x ∈ srtT (DSt.metS (sgns (m :: ms') k)) ↔ x ∈ sgns (m :: ms') k := fun x => (srtT_perm _).mem_iff.trans DSt.metS_mem
  generalize srtT (DSt.metS (sgns (m :: ms') k)) = L at hin hnd hmem
  cases L with
  | nil => cases hin
  | cons s r =>
    refine ⟨s, r, rfl, ?_⟩
    rw [sureAt_cons]
    by_cases hall : ((m :: ms').all fun x => decide (letS (sgn x k) = letS (sgn m k))) = true
    · rw [if_pos hall]
      have all1 : ∀ x ∈ s :: r, x = letS (sgn m k) := fun x hx => by
        obtain ⟨y, hy, rfl⟩ := List.mem_map.mp ((hmem x).mp hx)
        exact of_decide_eq_true (List.all_eq_true.mp hall y hy)
      have hr : r = [] := by
        cases r with
        | nil => rfl
        | cons t r =>
          have e1 := all1 s List.mem_cons_self
          have e2 := all1 t (List.mem_cons_of_mem _ List.mem_cons_self)
          exact absurd (List.mem_cons.mpr (.inl (e1.trans e2.symm))) (List.nodup_cons.mp hnd).1
      subst hr
      rw [all1 s List.mem_cons_self]
      rfl
    · rw [if_neg hall]
      have hr : 1 < (s :: r).length := by
        cases r with
        | cons t r => rw [List.length_cons, List.length_cons]; omega
        | nil =>
          exfalso
          refine hall (List.all_eq_true.mpr fun x hx => decide_eq_true ?_)
          have e1 := List.mem_singleton.mp ((hmem (letS (sgn x k))).mpr (List.mem_map.mpr ⟨x, hx, rfl⟩))
          have e2 := List.mem_singleton.mp ((hmem (letS (sgn m k))).mpr (List.mem_map.mpr ⟨m, List.mem_cons_self, rfl⟩))
          rw [e1, e2]
      rw [if_pos (show (((s :: r).length : Nat) : Int) > 1 by omega), if_pos rfl]
      rfl
theorem sure_ok {hs : Hands} (hh : HouseOk hs) {ms : List Str} (h : ∀ m ∈ ms, m ∈ marksF hs) : ∀ i, i ≤ 4 → ∀ c ∈ cl (sureN ms i), c < 200
  | 0, _, c, hc => by cases hc
  | i + 1, hi, c, hc => by
    have hc : c ∈ cl (sureN ms i ++ letS (sureAt ms i)) := hc
    rw [cl_app] at hc
    rcases List.mem_append.mp hc with hc | hc
    · exact sure_ok hh h i (by omega) c hc
    · rw [show c = sureAt ms i from List.mem_singleton.mp hc]
      cases ms with
      | nil =>
        show (63 : Nat) < 200
        decide
      | cons m r =>
        rw [sureAt_cons]
        split
        · exact sgn_small hh (h m List.mem_cons_self) (by omega)
        · decide
theorem sure_sh {hs : Hands} (hh : HouseOk hs) {ms : List Str} (h : ∀ m ∈ ms, m ∈ marksF hs) : ShX 100 1 (sureD ms) := by
  unfold sureD
  split
  · exact ⟨.none, rfl, rfl, Nat.zero_le _, by decide⟩
  · have hok : PyData.strOk (sureN ms 4) = true := by
      show (sureN ms 4).cps.all (· < 0x110000) = true
      rw [Array.all_eq_true_iff_forall_mem]
      intro c hm
      have := sure_ok hh h 4 (by decide) c (by simpa [cl] using hm)
      exact decide_eq_true (by omega)
    obtain ⟨p, h1, h2, h3, h4⟩ := shx_str 1 (m := 4) hok (Nat.le_of_eq (sureN_len ms 4))
    exact ⟨p, h1, h2, h3, by omega⟩
theorem fit_rev (ms ws : List Str) : fitF ms ws.reverse = fitF ms ws := by
  unfold fitF
  congr 1
  funext m
  rw [List.all_reverse]
theorem fit_sub {ms ws : List Str} {m : Str} (h : m ∈ fitF ms ws) : m ∈ ms := (List.mem_filter.mp h).1
theorem fitall_eq {hs : Hands} (hh : HouseOk hs) {w : Str} {ws : List Str} (hw : w.length = 4) : (fitsF hs w).filter (fun m => (w :: ws).all fun w => likeF w m) = fitF (marksF hs) (w :: ws) := by
  rw [fits_eq hh hw, List.filter_filter]
  unfold fitF
  congr 1
  funext m
  rw [List.all_cons]
  cases likeF w m <;> simp
/-! anything as a mark -/
theorem count4 (b0 b1 b2 b3 : Bool) (z : Str) (hz : z.length = 4) (h0 : Builtin.Str.subAt z "." 0 = b0) (h1 : Builtin.Str.subAt z "." 1 = b1) (h2 : Builtin.Str.subAt z "." 2 = b2) (h3 : Builtin.Str.subAt z "." 3 = b3) :
    Txt.count z "." = ((b0.toNat + b1.toNat + b2.toNat + b3.toNat : Nat) : Int) := by
  unfold Txt.count Builtin.Str.occurrences
  rw [hz]
  have e1 : ("." : Str).length = 1 := rfl
  simp only [e1]
  simp [List.range', h0, h1, h2, h3]
  cases b0 <;> cases b1 <;> cases b2 <;> cases b3 <;> rfl
theorem sub_dot (z : Str) (a : Nat) (l1 l2 : List Nat) (h : cl z = l1 ++ a :: l2) : Builtin.Str.subAt z "." l1.length = decide (a = 46) := by
  unfold Builtin.Str.subAt
  have e1 : ("." : Str).length = 1 := rfl
  have e4 : ("." : Str).cps = #[46] := by decide
  rw [e1, e4]
  have e3 : z.cps.extract l1.length (l1.length + 1) = #[a] := by
    apply Array.toList_inj.mp
    rw [Array.toList_extract]
    have : z.cps.toList = l1 ++ a :: l2 := h
    rw [this]
    show ((l1 ++ a :: l2).drop l1.length).take _ = [a]
    rw [List.drop_left, Nat.add_sub_cancel_left]
    rfl
  rw [e3]
  by_cases h : a = 46
  · subst h
    rfl
  · rw [decide_eq_false h]
    simp [h]
def dotsN (l : List Nat) : Nat := (l.filter fun c => decide (c = 46)).length
theorem count_dots {z : Str} (hz : z.length = 4) : Txt.count z "." = ((dotsN (cl z) : Nat) : Int) := by
  obtain ⟨a, b, c, d, e⟩ := four (l := cl z) hz
  rw [count4 (decide (a = 46)) (decide (b = 46)) (decide (c = 46)) (decide (d = 46)) z hz (sub_dot z a [] [b, c, d] e) (sub_dot z b [a] [c, d] e) (sub_dot z c [a, b] [d] e) (sub_dot z d [a, b, c] [] e)]
  unfold dotsN
  rw [e]
  simp only [List.filter_cons, List.filter_nil]
  generalize decide (a = 46) = p
  generalize decide (b = 46) = q
  generalize decide (c = 46) = r
  generalize decide (d = 46) = s
  cases p <;> cases q <;> cases r <;> cases s <;> rfl
def stripR : List Nat → List Nat
  | [] => []
  | c :: r => match stripR r with
    | [] => if c = 46 then [] else [c]
    | x :: y => c :: x :: y
theorem stripR_cons (c : Nat) (r : List Nat) : stripR (c :: r) = match stripR r with
    | [] => if c = 46 then [] else [c]
    | x :: y => c :: x :: y := rfl
theorem strip_dec : ∀ l : List Nat, ∃ k, l = stripR l ++ List.replicate k 46 ∧ ∀ c r, (stripR l).reverse = c :: r → c ≠ 46
  | [] => ⟨0, rfl, fun c r h => by cases h⟩
  | c :: r => by
    obtain ⟨k, e, h⟩ := strip_dec r
    unfold stripR
    cases hs : stripR r with
    | nil =>
      rw [hs] at e
      by_cases hc : c = 46
      · subst hc
        refine ⟨k + 1, ?_, fun c r h => ?_⟩
        · simp only [if_true]
          rw [e]
          rfl
        · simp at h
      · refine ⟨k, ?_, fun c' r' h => ?_⟩
        · simp only [hc, if_false]
          rw [e]
          rfl
        · simp only [hc, if_false] at h
          have : c = c' := (List.cons.inj h).1
          rw [← this]
          exact hc
    | cons x y =>
      rw [hs] at e h
      refine ⟨k, ?_, fun c' r' h2 => ?_⟩
      · show c :: r = (c :: x :: y) ++ _
        conv => lhs; rw [e]
        rfl
      · have h2 : (c :: x :: y).reverse = c' :: r' := h2
        rw [List.reverse_cons] at h2
        cases hr : (x :: y).reverse with
        | nil => simp at hr
        | cons c2 r2 =>
          rw [hr] at h2
          have : c2 = c' := (List.cons.inj h2).1
          rw [← this]
          exact h c2 r2 hr
theorem rstrip_gen {m x : Str} {k : Nat} (hx : cl x = List.replicate k 46) (hm : ∀ c r, (cl m).reverse = c :: r → c ≠ 46) : Txt.rstripChars (m ++ x) "." = m := by
  have goes : ∀ c : Nat, (Array.contains (".":Str).cps c) = decide (c = 46) := fun c => by
    have e4 : ("." : Str).cps = #[46] := by decide
    rw [e4]
    by_cases h : c = 46
    · subst h
      simp
    · rw [decide_eq_false h]
      simp
      exact h
  have tw : ((cl (m ++ x)).reverse.takeWhile (Array.contains (".":Str).cps)).length = k := by
    rw [cl_app, hx, List.reverse_append, List.reverse_replicate, List.takeWhile_append_of_pos (fun c hc => by rw [goes, (List.mem_replicate.mp hc).2]; rfl), List.length_append, List.length_replicate]
    have : (cl m).reverse.takeWhile (Array.contains (".":Str).cps) = [] := by
      cases e : (cl m).reverse with
      | nil => rfl
      | cons c r =>
        rw [List.takeWhile_cons, goes, decide_eq_false (hm c r e)]
        rfl
    rw [this]
    rfl
  have hl : (m ++ x).length = m.length + k := by
    rw [app_len, ← cl_len x, hx, List.length_replicate]
  have hi : stripHi (Array.contains (".":Str).cps) true (m ++ x) (stripLo (Array.contains (".":Str).cps) false (m ++ x)) = m.length := by
    show (m ++ x).length - ((List.drop 0 (cl (m ++ x))).reverse.takeWhile (Array.contains (".":Str).cps)).length = _
    rw [List.drop_zero, tw, hl]
    omega
  unfold Txt.rstripChars Txt.stripBy
  have done : stripped (Array.contains (".":Str).cps) false true (m ++ x) = m := by
    unfold stripped
    rw [hi]
    apply cl_inj
    show ((m ++ x).cps.extract 0 m.length).toList = cl m
    rw [Array.toList_extract]
    have : (m ++ x).cps.toList = cl m ++ cl x := cl_app m x
    rw [this]
    show ((cl m ++ cl x).drop 0).take (m.length - 0) = cl m
    rw [List.drop_zero, Nat.sub_zero, ← cl_len, List.take_left]
  split
  · rename_i h
    unfold stripSame at h
    rw [hi, hl] at h
    simp only [Bool.and_eq_true, beq_iff_eq] at h
    have k0 : k = 0 := by omega
    subst k0
    apply cl_inj
    rw [cl_app, hx]
    exact List.append_nil _
  · exact done
def txL (l : List Nat) : Str := ⟨l.toArray⟩
theorem cl_tx (l : List Nat) : cl (txL l) = l := by
  unfold cl txL
  simp
theorem rstrip_cl (z : Str) : cl (Txt.rstripChars z ".") = stripR (cl z) := by
  obtain ⟨k, e, h⟩ := strip_dec (cl z)
  have e2 : z = txL (stripR (cl z)) ++ txL (List.replicate k 46) := cl_inj (by rw [cl_app, cl_tx, cl_tx]; exact e)
  conv => lhs; rw [e2]
  rw [rstrip_gen (cl_tx _) (by rw [cl_tx]; exact h), cl_tx]
def lawM (hs : Hands) : List Nat → Nat → Bool → Bool
  | [], _, _ => true
  | c :: r, i, e => if decide (letS c = ".") = true then lawM hs r (i + 1) true else if (e || !decide (letS c ∈ lets hs i)) = true then false else lawM hs r (i + 1) e
theorem let_dot (c : Nat) : decide (letS c = ".") = decide (c = 46) := by
  by_cases h : c = 46
  · subst h
    decide
  · rw [decide_eq_false h, decide_eq_false]
    intro e
    have : cl (letS c) = cl "." := by rw [e]
    exact h (List.cons.inj this).1
theorem lawM_ended (hs : Hands) : ∀ (l : List Nat) (i : Nat), lawM hs l i true = l.all fun c => decide (c = 46)
  | [], _ => rfl
  | c :: r, i => by
    unfold lawM
    rw [let_dot, List.all_cons, ← lawM_ended hs r (i + 1)]
    cases decide (c = 46) <;> rfl
theorem strip_nil : ∀ l : List Nat, (l.all fun c => decide (c = 46)) = decide (stripR l = [])
  | [] => rfl
  | c :: r => by
    rw [List.all_cons, strip_nil r, stripR_cons]
    cases hs : stripR r with
    | nil =>
      by_cases hc : c = 46
      · simp [hc]
      · simp [hc]
    | cons x y => simp
theorem no_dot {hs : Hands} (hh : HouseOk hs) (i : Nat) : decide (letS 46 ∈ handsF hs i) = false := decide_eq_false fun h => by
  obtain ⟨g, hg, _, e⟩ := lets_mem (hands_mem.mp h)
  have : cl (letS 46) = cl (letS g.1) := by rw [e]
  have := (List.cons.inj this).1
  have := hh.lt g hg
  omega
theorem law_mark {hs : Hands} (hh : HouseOk hs) : ∀ (l : List Nat) (i : Nat), lawM hs l i false = ((stripR l).zipIdx i).all fun p => decide (letS p.1 ∈ handsF hs p.2)
  | [], _ => rfl
  | c :: r, i => by
    have ih := law_mark hh r (i + 1)
    have hl : decide (letS c ∈ lets hs i) = decide (letS c ∈ handsF hs i) := by
      by_cases h : letS c ∈ lets hs i
      · rw [decide_eq_true h, decide_eq_true (hands_mem.mpr h)]
      · rw [decide_eq_false h, decide_eq_false (fun z => h (hands_mem.mp z))]
    unfold lawM stripR
    rw [let_dot, hl, lawM_ended, strip_nil]
    by_cases hc : c = 46
    · subst hc
      rw [decide_eq_true rfl, if_pos rfl]
      cases hs2 : stripR r with
      | nil => rfl
      | cons x y =>
        show decide ((x :: y : List Nat) = []) = ((46 :: x :: y : List Nat).zipIdx i).all _
        rw [List.zipIdx_cons, List.all_cons, no_dot hh i, Bool.false_and]
        exact decide_eq_false (by intro e; cases e)
    · rw [decide_eq_false hc, if_neg (by decide), Bool.false_or]
      cases hs2 : stripR r with
      | nil =>
        rw [hs2] at ih
        simp only [hc, if_false]
        rw [List.zipIdx_cons, List.all_cons, ih]
        cases decide (letS c ∈ handsF hs i) <;> rfl
      | cons x y =>
        rw [hs2] at ih
        show _ = ((c :: x :: y : List Nat).zipIdx i).all _
        rw [List.zipIdx_cons, List.all_cons, ih]
        cases decide (letS c ∈ handsF hs i) <;> rfl
theorem isMark_law {hs : Hands} (hh : HouseOk hs) (z : Str) : isMarkF hs z = lawM hs (cl z) 0 false := by
  rw [law_mark hh]
  unfold isMarkF
  rw [rstrip_cl]
/-- the stand of a mark -/
def standF (z : Str) : Int := ((Txt.rstripChars z ".").length : Nat)
theorem stand_eq {hs : Hands} (hh : HouseOk hs) {z : Str} (hz : z.length = 4) (h : isMarkF hs z = true) : standF z = 4 - Txt.count z "." := by
  rw [count_dots hz]
  unfold isMarkF at h
  rw [rstrip_cl] at h
  have e : standF z = ((stripR (cl z)).length : Nat) := by
    unfold standF
    rw [← cl_len, rstrip_cl]
  rw [e]
  obtain ⟨k, ek, _⟩ := strip_dec (cl z)
  have nd : ∀ c ∈ stripR (cl z), c ≠ 46 := fun c hc e => by
    subst e
    obtain ⟨i, hi, e⟩ := List.mem_iff_getElem.mp hc
    have hm : (46, i) ∈ (stripR (cl z)).zipIdx := List.mem_zipIdx_iff_getElem?.mpr (by rw [← e]; exact List.getElem?_eq_getElem hi)
    have := List.all_eq_true.mp h _ hm
    rw [no_dot hh] at this
    cases this
  have hn : dotsN (cl z) = k := by
    unfold dotsN
    rw [ek, List.filter_append, List.filter_eq_nil_iff.mpr (fun c hc => by simpa using nd c hc), List.nil_append]
    rw [List.filter_eq_self.mpr (fun c hc => by rw [(List.mem_replicate.mp hc).2]; rfl), List.length_replicate]
  have hl : (cl z).length = (stripR (cl z)).length + k := by
    conv => lhs; rw [ek]
    rw [List.length_append, List.length_replicate]
  rw [cl_len, hz] at hl
  rw [hn]
  omega
def isMarkX (hs : Hands) : D → Bool
  | .str z => decide (z.length = 4) && isMarkF hs z
  | _ => false
/-- a text that can be shown -/
structure TOk (n : Nat) (z : Str) : Prop where
  ok : ∀ c ∈ cl z, c < 0x110000
  ln : z.length ≤ n
theorem TOk.mono {n m : Nat} {z : Str} (h : TOk n z) (e : n ≤ m) : TOk m z := ⟨h.ok, Nat.le_trans h.ln e⟩
theorem TOk.app {n m : Nat} {x y : Str} (h : TOk n x) (g : TOk m y) : TOk (n + m) (x ++ y) := ⟨fun c hc => by
  rw [cl_app] at hc
  rcases List.mem_append.mp hc with hc | hc
  · exact h.ok c hc
  · exact g.ok c hc, by rw [app_len]; have := h.ln; have := g.ln; omega⟩
theorem TOk.cut {n : Nat} {x : Str} (h : TOk n x) (lo hi : Option Int) : TOk n (cutS x lo hi) := ⟨fun c hc => by
  have hc : c ∈ (List.toArray ((x.cps.toList.drop _).take _)).toList := hc
  simp only [List.toList_toArray] at hc
  exact h.ok c (List.mem_of_mem_drop (List.mem_of_mem_take hc)), Nat.le_trans (cutS_length x lo hi) h.ln⟩
theorem TOk.rev {n : Nat} {x : Str} (h : TOk n x) : TOk n (DRv.revS x) := ⟨fun c hc => h.ok c (DRv.revS_mem hc), Nat.le_trans (DRv.revS_len x) h.ln⟩
theorem TOk.sh {n : Nat} {x : Str} (h : TOk n x) (k : Nat) : ShX (10 * n + 2) k (.str x) := by
  have hok : PyData.strOk x = true := by
    show x.cps.all (· < 0x110000) = true
    rw [Array.all_eq_true_iff_forall_mem]
    intro c hm
    exact decide_eq_true (h.ok c (by simpa [cl] using hm))
  exact shx_str k hok h.ln
theorem TOk.letS {c : Nat} (h : c < 0x110000) : TOk 1 (letS c) := ⟨fun x hx => by rw [show x = c from List.mem_singleton.mp hx]; exact h, Nat.le_refl _⟩
theorem mark_tok {hs : Hands} (hh : HouseOk hs) {m : Str} (h : m ∈ marksF hs) : (∀ c ∈ cl m, c = 46 ∨ (97 ≤ c ∧ c ≤ 122)) ∧ TOk 4 m := by
  have key : ∀ c ∈ cl m, c = 46 ∨ (97 ≤ c ∧ c ≤ 122) := fun c hc => by
    obtain ⟨k, hk, e⟩ := List.mem_iff_getElem.mp hc
    have hk4 : k < 4 := by rw [cl_len, marks_mem h] at hk; exact hk
    have e2 : sgn m k = c := by
      unfold sgn
      rw [List.getD_eq_getElem?_getD, List.getElem?_eq_getElem hk]
      exact e
    have := marks_in hh h hk4
    rw [e2] at this
    rcases List.mem_cons.mp this with e | e
    · have : cl (Pf.letS c) = cl "." := by rw [e]
      exact .inl (List.cons.inj this).1
    · obtain ⟨g, hg, e⟩ := List.mem_map.mp e
      have : cl (Pf.letS g.1) = cl (Pf.letS c) := by rw [e]
      have := (List.cons.inj this).1
      have := hh.lt g hg
      exact .inr (by omega)
  exact ⟨key, fun c hc => by rcases key c hc with h | h <;> omega, Nat.le_of_eq (marks_mem h)⟩
theorem isMarkX_str (hs : Hands) (z : Str) : isMarkX hs (.str z) = (decide (z.length = 4) && isMarkF hs z) := rfl
section
variable {K : PySem.W.Frag} {Δ : Sl} {G L : List M} {Qd : Po} {te : TE}
theorem u_add_T {x y : Str} (h : ∃ n m, TOk n x ∧ TOk m y ∧ n + m ≤ 1000 ∧ ∀ z, TOk (n + m) z → Qd (.d (.str z)) G L) : OpC K (uAdd K) (.d (.str x)) (.d (.str y)) Δ G L Qd := by
  obtain ⟨n, m, hx, hy, hl, k⟩ := h
  exact u_add_s (le_line (by have := hx.ln; have := hy.ln; omega)) (k _ (hx.app hy))
theorem sl_T {z : Str} {lo hi : Option Int} (h : ∃ n, TOk n z ∧ n ≤ 1000 ∧ ∀ y, TOk n y → Qd (.d (.str y)) G L) : SlC K (uSl K) (.d (.str z)) lo hi Δ G L Qd := by
  obtain ⟨n, hz, hl, k⟩ := h
  exact sl_s (le_line (by have := hz.ln; omega)) (k _ (hz.cut lo hi))
theorem evc_revST (h : EvC K te Δ G L fun x G1 L1 => ∃ z n, x = .d (.str z) ∧ TOk n z ∧ n ≤ 1000 ∧ ∀ y, TOk n y → Qd (.d (.str y)) G1 L1) : EvC K (DRv.tRevS te) Δ G L Qd :=
  evc_revS (h.imp fun s G1 L1 ⟨z, n, e, hz, hl, k⟩ => ⟨z, e, le_line (by have := hz.ln; omega), k _ hz.rev⟩)
end
theorem tok_1 (x : Str) (h : x ∈ (["q", "Z", "?", "\n", "1", " ", ".", "."] : List Str)) : TOk 1 x := by
  have key : ∀ x ∈ (["q", "Z", "?", "\n", "1", " ", ".", "."] : List Str), (∀ c ∈ cl x, c < 0x110000) ∧ x.length ≤ 1 := by
    simp only [List.forall_mem_cons]
    exact ⟨by decide, by decide, by decide, by decide, by decide, by decide, by decide, by decide, fun _ h => by cases h⟩
  exact ⟨(key x h).1, (key x h).2⟩
/-! marks of a house, by membership; the house put otherwise -/
def txl (l : List Nat) : Str := ⟨l.toArray⟩
theorem cl_txl (l : List Nat) : cl (txl l) = l := by simp [cl, txl]
theorem txl_cl (x : Str) : txl (cl x) = x := cl_inj (cl_txl _)
/-- letters as far as d -/
def DoneL (hs : Hands) (l : List Nat) : Prop := ∀ i c, l[i]? = some c → ∃ h ∈ hs, does i h = true ∧ h.1 = c
theorem mem_done {hs : Hands} : ∀ {d : Nat} {m : Str}, m ∈ doneN hs d ↔ (cl m).length = d ∧ DoneL hs (cl m)
  | 0, m => by
    show m ∈ [("" : Str)] ↔ _
    rw [List.mem_singleton]
    constructor
    · rintro rfl
      exact ⟨rfl, fun i c h => by cases h⟩
    · rintro ⟨h, _⟩
      exact cl_inj (List.eq_nil_of_length_eq_zero h)
  | d + 1, m => by
    show m ∈ hs.flatMap (fun h => if does d h = true then (doneN hs d).map (· ++ letS h.1) else []) ↔ _
    rw [List.mem_flatMap]
    constructor
    · rintro ⟨h, hm, hx⟩
      by_cases hd : does d h = true
      · rw [if_pos hd] at hx
        obtain ⟨x, hx1, rfl⟩ := List.mem_map.mp hx
        obtain ⟨hl, hk⟩ := mem_done.mp hx1
        refine ⟨by rw [cl_app, List.length_append, hl]; rfl, fun i c hc => ?_⟩
        rw [cl_app] at hc
        by_cases hi : i < (cl x).length
        · rw [List.getElem?_append_left hi] at hc
          exact hk i c hc
        · rw [List.getElem?_append_right (by omega)] at hc
          have hi0 : i - (cl x).length = 0 := by
            have := (List.getElem?_eq_some_iff.mp hc).1
            have h1 : (cl (letS h.1)).length = 1 := rfl
            omega
          rw [hi0] at hc
          have e : i = d := by omega
          subst e
          exact ⟨h, hm, hd, Option.some.inj hc⟩
      · rw [if_neg hd] at hx
        cases hx
    · rintro ⟨hl, hk⟩
      obtain ⟨c, hc⟩ : ∃ c, (cl m)[d]? = some c := ⟨_, List.getElem?_eq_getElem (by omega)⟩
      obtain ⟨h, hm, hd, e⟩ := hk d c hc
      refine ⟨h, hm, ?_⟩
      rw [if_pos hd]
      have ec : cl m = (cl m).take d ++ [c] := by
        have := List.take_append_drop d (cl m)
        have e2 : (cl m).drop d = [c] := by
          rw [List.drop_eq_getElem_cons (by omega), List.drop_of_length_le (by omega)]
          rw [List.getElem?_eq_getElem (by omega)] at hc
          rw [Option.some.inj hc]
        rw [e2] at this
        exact this.symm
      refine List.mem_map.mpr ⟨txl ((cl m).take d), mem_done.mpr ⟨by rw [cl_txl, List.length_take]; omega, fun i c' hc' => ?_⟩, cl_inj ?_⟩
      · rw [cl_txl] at hc'
        have hi : i < d := by
          have := (List.getElem?_eq_some_iff.mp hc').1
          rw [List.length_take] at this
          omega
        rw [List.getElem?_take_of_lt hi] at hc'
        exact hk i c' hc'
      · rw [cl_app, cl_txl, e]
        exact ec.symm
/-- a mark: letters, then points -/
def MkL (hs : Hands) (l : List Nat) : Prop := ∃ x : List Nat, x.length ≤ 4 ∧ DoneL hs x ∧ l = x ++ List.replicate (4 - x.length) 46
theorem mem_found {hs : Hands} : ∀ {d : Nat} {m : Str}, m ∈ foundN hs d ↔ ∃ e, e < d ∧ ∃ x ∈ doneN hs e, m = x ++ dots e
  | 0, m => ⟨(fun h => by cases h), (fun ⟨e, h, _⟩ => by omega)⟩
  | d + 1, m => by
    show m ∈ foundN hs d ++ (doneN hs d).map (· ++ dots d) ↔ _
    rw [List.mem_append, mem_found, List.mem_map]
    constructor
    · rintro (⟨e, h, x, hx, rfl⟩ | ⟨x, hx, rfl⟩)
      · exact ⟨e, by omega, x, hx, rfl⟩
      · exact ⟨d, by omega, x, hx, rfl⟩
    · rintro ⟨e, h, x, hx, rfl⟩
      by_cases he : e = d
      · subst he
        exact .inr ⟨x, hx, rfl⟩
      · exact .inl ⟨e, by omega, x, hx, rfl⟩
theorem mem_marks {hs : Hands} {m : Str} : m ∈ marksF hs ↔ MkL hs (cl m) := by
  have e4 : dots 4 = "" := by decide
  have key : m ∈ marksF hs ↔ ∃ e, e ≤ 4 ∧ ∃ x ∈ doneN hs e, m = x ++ dots e := by
    unfold marksF
    rw [(srtT_perm _).mem_iff, List.mem_append, mem_found]
    constructor
    · rintro (⟨e, h, x, hx, rfl⟩ | h)
      · exact ⟨e, by omega, x, hx, rfl⟩
      · exact ⟨4, Nat.le_refl _, m, h, by rw [e4]; exact cl_inj (by rw [cl_app]; exact (List.append_nil _).symm)⟩
    · rintro ⟨e, h, x, hx, rfl⟩
      by_cases he : e = 4
      · subst he
        refine .inr ?_
        have : x ++ dots 4 = x := by rw [e4]; exact cl_inj (by rw [cl_app]; exact List.append_nil _)
        rw [this]
        exact hx
      · exact .inl ⟨e, by omega, x, hx, rfl⟩
  rw [key]
  constructor
  · rintro ⟨e, he, x, hx, rfl⟩
    obtain ⟨hl, hk⟩ := mem_done.mp hx
    refine ⟨cl x, by omega, hk, ?_⟩
    rw [cl_app, dots_cl e he, hl]
  · rintro ⟨x, hx, hk, e⟩
    refine ⟨x.length, hx, txl x, mem_done.mpr ⟨by rw [cl_txl], by rw [cl_txl]; exact hk⟩, cl_inj ?_⟩
    rw [cl_app, cl_txl, dots_cl _ hx]
    exact e
theorem mem_fits {hs : Hands} (hh : HouseOk hs) {w m : Str} (hw : w.length = 4) : m ∈ fitsF hs w ↔ MkL hs (cl m) ∧ likeF w m = true := by
  rw [fits_eq hh hw, List.mem_filter, mem_marks]
/-! the hands in another order -/
theorem hands_perm {hs hs' : Hands} (p : hs.Perm hs') (d : Nat) : handsF hs d = handsF hs' d := srtT_congr ((p.filter _).map _)
theorem fitN_perm {hs hs' : Hands} (p : hs.Perm hs') (w : Str) : ∀ d, fitN hs w d = fitN hs' w d
  | 0 => rfl
  | d + 1 => by
    show (fitN hs w d).flatMap _ = (fitN hs' w d).flatMap _
    rw [fitN_perm p w d]
    refine flat_congr fun m _ => ?_
    unfold furF
    rw [hands_perm p]
theorem fits_perm {hs hs' : Hands} (p : hs.Perm hs') (w : Str) : fitsF hs w = fitsF hs' w := by
  unfold fitsF
  rw [fitN_perm p]
/-! a hand more -/
theorem done_mono {hs hs' : Hands} (s : ∀ h ∈ hs, h ∈ hs') {l : List Nat} (h : DoneL hs l) : DoneL hs' l := fun i c hc => by
  obtain ⟨g, a, b, e⟩ := h i c hc
  exact ⟨g, s g a, b, e⟩
theorem fits_mono {hs hs' : Hands} (hh : HouseOk hs) (hh' : HouseOk hs') (s : ∀ h ∈ hs, h ∈ hs') {w m : Str} (hw : w.length = 4) (h : m ∈ fitsF hs w) : m ∈ fitsF hs' w := by
  obtain ⟨⟨x, a, b, e⟩, k⟩ := (mem_fits hh hw).mp h
  exact (mem_fits hh' hw).mpr ⟨⟨x, a, done_mono s b, e⟩, k⟩
/-! each mark once -/
def Nd (hs : Hands) : Prop := (hs.map (·.1)).Nodup
theorem letS_inj {a b : Nat} (h : letS a = letS b) : a = b := (List.cons.inj (show cl (letS a) = cl (letS b) by rw [h])).1
theorem lets_nd {hs : Hands} (nd : Nd hs) (d : Nat) : (lets hs d).Nodup := by
  have h1 : ((hs.filter (does d)).map (·.1)).Nodup := List.Nodup.sublist ((List.filter_sublist).map _) nd
  have e : lets hs d = ((hs.filter (does d)).map (·.1)).map letS := by
    unfold lets
    rw [List.map_map]
    rfl
  rw [e]
  exact List.pairwise_map.mpr (h1.imp fun {a b} (z : a ≠ b) q => z (letS_inj q))
theorem all_nd {hs : Hands} (hh : HouseOk hs) (nd : Nd hs) : ∀ d, (allN hs d).Nodup
  | 0 => List.pairwise_singleton _ _
  | d + 1 => by
    refine List.pairwise_flatMap.mpr ⟨fun m _ => ?_, (all_nd hh nd d).imp_of_mem fun {a b} ha hb hne x hx y hy e => ?_⟩
    · have inj : ∀ {s t : Str}, m ++ s = m ++ t → s = t := fun {s t} e => cl_inj (by
        have : cl (m ++ s) = cl (m ++ t) := by rw [e]
        rw [cl_app, cl_app] at this
        exact List.append_cancel_left this)
      refine List.pairwise_map.mpr (List.Pairwise.imp (fun {a b} (z : a ≠ b) q => z (inj q)) ?_)
      refine List.nodup_cons.mpr ⟨fun h => ?_, ?_⟩
      · split at h
        · cases h
        · obtain ⟨g, hg, _, e⟩ := lets_mem (hands_mem.mp h)
          have := hh.lt g hg
          have e46 : 46 = g.1 := letS_inj (show letS 46 = letS g.1 from e)
          omega
      · split
        · exact List.nodup_nil
        · exact (srtT_perm _).nodup_iff.mpr (lets_nd nd d)
    · obtain ⟨c, rfl⟩ := fur_mem hx
      obtain ⟨c', rfl⟩ := fur_mem hy
      have h1 : (cl a).length = (cl b).length := by rw [cl_len, cl_len, all_mem ha, all_mem hb]
      have : cl (a ++ letS c) = cl (b ++ letS c') := by rw [e]
      rw [cl_app, cl_app] at this
      exact hne (cl_inj (List.append_inj_left this h1))
theorem marks_nd {hs : Hands} (hh : HouseOk hs) (nd : Nd hs) : (marksF hs).Nodup := by
  rw [← all_marks hh]
  exact (srtT_perm _).nodup_iff.mpr (all_nd hh nd 4)
theorem marks_pw {hs : Hands} (hh : HouseOk hs) : (marksF hs).Pairwise (fun a b => leT a b = true) := srtT_pw _
/-! the letters of a house -/
def abcAt (first st : Int) (i : Nat) : Nat := 97 + ((first + st * (i : Int)) % 26).toNat
theorem abc_list : ("abcdefghijklmnopqrstuvwxyz" : Str).cps.toList = (List.range 26).map (97 + ·) := by decide
theorem abc_at (first st : Int) (i : Nat) : ∃ ch, atI ("abcdefghijklmnopqrstuvwxyz" : Str).cps.toList ((first + st * (0 + (i : Int))) % 26) = some ch ∧ 97 ≤ ch ∧ ch ≤ 122 ∧ ch = abcAt first st i := by
  have h0 := Int.emod_nonneg (first + st * (i : Int)) (show (26 : Int) ≠ 0 by decide)
  have h1 := Int.emod_lt_of_pos (first + st * (i : Int)) (show (0 : Int) < 26 by decide)
  rw [Int.zero_add]
  refine ⟨abcAt first st i, atI_of (j := ((first + st * (i : Int)) % 26).toNat) ?_ (by omega), ?_, ?_, rfl⟩
  · rw [abc_list, List.getElem?_map, List.getElem?_range (by omega)]
    rfl
  · unfold abcAt
    omega
  · unfold abcAt
    omega
theorem abc_nd {first st : Int} (hs : st = 1 ∨ st = 3 ∨ st = 5 ∨ st = 7 ∨ st = 9 ∨ st = 11) {n : Nat} (hn : n ≤ 6) : ((List.range n).map (abcAt first st)).Nodup := by
  refine List.pairwise_map.mpr (List.Pairwise.imp_of_mem (fun {a b} ha hb (hlt : a < b) e => ?_) List.pairwise_lt_range)
  have hb := List.mem_range.mp hb
  unfold abcAt at e
  have h0 := Int.emod_nonneg (first + st * (a : Int)) (show (26 : Int) ≠ 0 by decide)
  have h1 := Int.emod_nonneg (first + st * (b : Int)) (show (26 : Int) ≠ 0 by decide)
  have e2 : (first + st * (a : Int)) % 26 = (first + st * (b : Int)) % 26 := by omega
  rcases hs with rfl | rfl | rfl | rfl | rfl | rfl <;> omega
/-! a hand less -/
theorem mk_in {hs : Hands} {l : List Nat} (h : MkL hs l) {c : Nat} (hc : c ∈ l) : c = 46 ∨ ∃ g ∈ hs, g.1 = c := by
  obtain ⟨x, hx, hk, rfl⟩ := h
  rcases List.mem_append.mp hc with z | z
  · obtain ⟨i, hi, e⟩ := List.mem_iff_getElem.mp z
    obtain ⟨g, hg, _, e2⟩ := hk i c (by rw [List.getElem?_eq_getElem hi, e])
    exact .inr ⟨g, hg, e2⟩
  · exact .inl (List.mem_replicate.mp z).2
theorem mk_less {l r : Hands} {g : Nat × List Int} (hh : HouseOk (l ++ g :: r)) (nd : Nd (l ++ g :: r)) {x : List Nat} : MkL (l ++ r) x ↔ MkL (l ++ g :: r) x ∧ g.1 ∉ x := by
  have sub : ∀ h ∈ l ++ r, h ∈ l ++ g :: r := fun h hm => by
    rcases List.mem_append.mp hm with z | z
    · exact List.mem_append.mpr (.inl z)
    · exact List.mem_append.mpr (.inr (List.mem_cons_of_mem _ z))
  have ne : ∀ h ∈ l ++ r, h.1 ≠ g.1 := fun h hm e => by
    unfold Nd at nd
    rw [List.map_append, List.map_cons] at nd
    have n2 := List.nodup_append.mp nd
    rcases List.mem_append.mp hm with z | z
    · exact n2.2.2 h.1 (List.mem_map.mpr ⟨h, z, rfl⟩) g.1 List.mem_cons_self e
    · exact (List.nodup_cons.mp n2.2.1).1 (List.mem_map.mpr ⟨h, z, e⟩)
  have g46 : g.1 ≠ 46 := fun e => by
    have := (hh.lt g (List.mem_append.mpr (.inr List.mem_cons_self))).1
    omega
  constructor
  · intro h
    refine ⟨?_, fun hm => ?_⟩
    · obtain ⟨y, a, b, e⟩ := h
      exact ⟨y, a, done_mono sub b, e⟩
    · rcases mk_in h hm with e | ⟨k, hk, e⟩
      · exact g46 e
      · exact ne k hk e
  · rintro ⟨⟨y, a, b, rfl⟩, hm⟩
    refine ⟨y, a, fun i c hc => ?_, rfl⟩
    obtain ⟨h, hh1, hd, e⟩ := b i c hc
    refine ⟨h, ?_, hd, e⟩
    have hne : h ≠ g := fun e2 => hm (List.mem_append.mpr (.inl (by
      rw [← e2, e]
      exact List.mem_of_getElem? hc)))
    rcases List.mem_append.mp hh1 with z | z
    · exact List.mem_append.mpr (.inl z)
    · rcases List.mem_cons.mp z with z | z
      · exact absurd z hne
      · exact List.mem_append.mpr (.inr z)
theorem fits_nd {hs : Hands} (hh : HouseOk hs) (nd : Nd hs) {w : Str} (hw : w.length = 4) : (fitsF hs w).Nodup := by
  rw [fits_eq hh hw]
  exact (marks_nd hh nd).filter _
theorem fits_less {l r : Hands} {g : Nat × List Int} (hh : HouseOk (l ++ g :: r)) (nd : Nd (l ++ g :: r)) (hh' : HouseOk (l ++ r)) {w : Str} (hw : w.length = 4) :
    fitsF (l ++ r) w = (fitsF (l ++ g :: r) w).filter fun m => !decide (g.1 ∈ cl m) := by
  have nd' : Nd (l ++ r) := by
    unfold Nd at nd ⊢
    rw [List.map_append, List.map_cons] at nd
    rw [List.map_append]
    exact nd.sublist (List.Sublist.append_left (List.sublist_cons_self _ _) _)
  refine uniq ((List.perm_ext_iff_of_nodup (fits_nd hh' nd' hw) ((fits_nd hh nd hw).filter _)).mpr fun m => ?_) (srtT_pw _) ((srtT_pw _).filter _)
  rw [mem_fits hh' hw, List.mem_filter, mem_fits hh hw, mk_less hh nd]
  constructor
  · rintro ⟨⟨a, b⟩, c⟩
    exact ⟨⟨a, c⟩, by rw [decide_eq_false b]; rfl⟩
  · rintro ⟨⟨a, c⟩, b⟩
    refine ⟨⟨a, fun hm => ?_⟩, c⟩
    rw [decide_eq_true hm] at b
    cases b
/-! the hands called otherwise -/
def rnF (f : Nat → Nat) (x : Str) : Str := txl ((cl x).map f)
def renH (f : Nat → Nat) (hs : Hands) : Hands := hs.map fun h => (f h.1, h.2)
structure RenOk (f : Nat → Nat) (hs : Hands) : Prop where
  f46 : f 46 = 46
  f63 : f 63 = 63
  inj : ∀ a b, (a = 46 ∨ a = 63 ∨ ∃ g ∈ hs, g.1 = a) → (b = 46 ∨ b = 63 ∨ ∃ g ∈ hs, g.1 = b) → f a = f b → a = b
theorem mk_ren {f : Nat → Nat} {hs : Hands} (rn : RenOk f hs) {y : List Nat} : MkL (renH f hs) y ↔ ∃ l, MkL hs l ∧ y = l.map f := by
  constructor
  · rintro ⟨x, hx, hk, rfl⟩
    have ex : ∀ c ∈ x, ∃ g ∈ hs, f g.1 = c := fun c hc => by
      obtain ⟨i, hi, e⟩ := List.mem_iff_getElem.mp hc
      obtain ⟨g', hg', _, e2⟩ := hk i c (by rw [List.getElem?_eq_getElem hi, e])
      obtain ⟨g, hg, rfl⟩ := List.mem_map.mp hg'
      exact ⟨g, hg, e2⟩
    have inv : ∀ x : List Nat, (∀ c ∈ x, ∃ g ∈ hs, f g.1 = c) → ∃ z : List Nat, x = z.map f ∧ ∀ c ∈ z, ∃ g ∈ hs, g.1 = c := by
      intro x
      induction x with
      | nil => exact fun _ => ⟨[], rfl, fun _ h => by cases h⟩
      | cons c r ih =>
        intro h
        obtain ⟨z, rfl, hz⟩ := ih fun d hd => h d (List.mem_cons_of_mem _ hd)
        obtain ⟨g, hg, rfl⟩ := h c List.mem_cons_self
        refine ⟨g.1 :: z, rfl, fun d hd => ?_⟩
        rcases List.mem_cons.mp hd with rfl | hd
        · exact ⟨g, hg, rfl⟩
        · exact hz d hd
    obtain ⟨z, rfl, hz⟩ := inv x ex
    rw [List.length_map] at hx
    refine ⟨z ++ List.replicate (4 - z.length) 46, ⟨z, hx, fun i c hc => ?_, rfl⟩, by rw [List.map_append, List.map_replicate, rn.f46, List.length_map]⟩
    obtain ⟨g', hg', hd, e⟩ := hk i (f c) (by rw [List.getElem?_map, hc]; rfl)
    obtain ⟨g, hg, rfl⟩ := List.mem_map.mp hg'
    exact ⟨g, hg, hd, rn.inj _ _ (.inr (.inr ⟨g, hg, rfl⟩)) (.inr (.inr (hz c (List.mem_of_getElem? hc)))) e⟩
  · rintro ⟨l, ⟨x, hx, hk, rfl⟩, rfl⟩
    refine ⟨x.map f, by rw [List.length_map]; exact hx, fun i c hc => ?_, by rw [List.map_append, List.map_replicate, rn.f46, List.length_map]⟩
    rw [List.getElem?_map] at hc
    obtain ⟨c0, h0, rfl⟩ := Option.map_eq_some_iff.mp hc
    obtain ⟨g, hg, hd, rfl⟩ := hk i c0 h0
    exact ⟨(f g.1, g.2), List.mem_map.mpr ⟨g, hg, rfl⟩, hd, rfl⟩
theorem like_iff {w x : Str} : likeF w x = true ↔ ∀ i a b : Nat, (cl w)[i]? = some a → (cl x)[i]? = some b → a = 63 ∨ a = b := by
  have key : ∀ l m : List Nat, likeL l m = true ↔ ∀ i a b : Nat, l[i]? = some a → m[i]? = some b → a = 63 ∨ a = b := by
    intro l m
    have lp : ∀ a b, likeP a b = true ↔ a = 63 ∨ a = b := fun a b => by
      unfold likeP
      rw [decide_eq_true_iff]
      exact ⟨fun h => h.elim (fun e => .inl (letS_inj (show letS a = letS 63 from e))) fun e => .inr (letS_inj e), fun h => h.elim (fun e => .inl (by rw [e]; rfl)) fun e => .inr (by rw [e])⟩
    unfold likeL
    rw [List.all_eq_true]
    constructor
    · intro h i a b ha hb
      exact (lp a b).mp (h (a, b) (List.mem_of_getElem? (i := i) (List.getElem?_zip_eq_some.mpr ⟨ha, hb⟩)))
    · rintro h ⟨a, b⟩ hm
      obtain ⟨i, hi, e⟩ := List.mem_iff_getElem.mp hm
      have := List.getElem?_zip_eq_some.mp (show (l.zip m)[i]? = some (a, b) by rw [List.getElem?_eq_getElem hi, e])
      exact (lp a b).mpr (h i a b this.1 this.2)
  exact key _ _
theorem like_ren {f : Nat → Nat} {hs : Hands} (rn : RenOk f hs) {w x : Str} (hw : ∀ c ∈ cl w, c = 46 ∨ c = 63 ∨ ∃ g ∈ hs, g.1 = c) (hx : ∀ c ∈ cl x, c = 46 ∨ ∃ g ∈ hs, g.1 = c) : likeF (rnF f w) (rnF f x) = likeF w x := by
  refine Bool.eq_iff_iff.mpr ?_
  rw [like_iff, like_iff]
  unfold rnF
  rw [cl_txl, cl_txl]
  constructor
  · intro h i a b ha hb
    have := h i (f a) (f b) (by rw [List.getElem?_map, ha]; rfl) (by rw [List.getElem?_map, hb]; rfl)
    rcases this with e | e
    · exact .inl (rn.inj a 63 (hw a (List.mem_of_getElem? ha)) (.inr (.inl rfl)) (e.trans rn.f63.symm))
    · exact .inr (rn.inj a b (hw a (List.mem_of_getElem? ha)) ((hx b (List.mem_of_getElem? hb)).elim .inl fun z => .inr (.inr z)) e)
  · intro h i a' b' ha hb
    rw [List.getElem?_map] at ha hb
    obtain ⟨a, ha2, rfl⟩ := Option.map_eq_some_iff.mp ha
    obtain ⟨b, hb2, rfl⟩ := Option.map_eq_some_iff.mp hb
    rcases h i a b ha2 hb2 with rfl | rfl
    · exact .inl rn.f63
    · exact .inr rfl
theorem fits_ren {f : Nat → Nat} {hs : Hands} (rn : RenOk f hs) (hh : HouseOk hs) (hh' : HouseOk (renH f hs)) {w : Str} (hw : w.length = 4) (hwc : ∀ c ∈ cl w, c = 46 ∨ c = 63 ∨ ∃ g ∈ hs, g.1 = c) (k : Str) :
    k ∈ fitsF (renH f hs) (rnF f w) ↔ k ∈ (fitsF hs w).map (rnF f) := by
  have hw' : (rnF f w).length = 4 := by
    rw [← cl_len]
    unfold rnF
    rw [cl_txl, List.length_map, cl_len, hw]
  rw [mem_fits hh' hw', mk_ren rn, List.mem_map]
  constructor
  · rintro ⟨⟨l, hl, e⟩, hk⟩
    have ek : k = rnF f (txl l) := cl_inj (by unfold rnF; rw [cl_txl, cl_txl]; exact e)
    refine ⟨txl l, (mem_fits hh hw).mpr ⟨by rw [cl_txl]; exact hl, ?_⟩, ek.symm⟩
    rw [ek, like_ren rn hwc (fun c hc => mk_in hl (by rw [cl_txl] at hc; exact hc))] at hk
    exact hk
  · rintro ⟨m, hm, rfl⟩
    obtain ⟨h1, h2⟩ := (mem_fits hh hw).mp hm
    refine ⟨⟨cl m, h1, by unfold rnF; rw [cl_txl]⟩, ?_⟩
    rw [like_ren rn hwc fun c hc => mk_in h1 hc]
    exact h2
/-! a mark worn step by step -/
def setq (w : Str) (a : Nat) : Str := txl ((cl w).set a 63)
def wornF : Str → List Nat → List Str
  | m, [] => [m]
  | m, a :: r => m :: wornF (setq m a) r
theorem setq_len (w : Str) (a : Nat) : (setq w a).length = w.length := by
  rw [← cl_len]
  unfold setq
  rw [cl_txl, List.length_set, cl_len]
theorem setq_at (w : Str) (a i : Nat) : (cl (setq w a))[i]? = if a = i then ((cl w)[i]?).map fun _ => 63 else (cl w)[i]? := by
  unfold setq
  rw [cl_txl, List.getElem?_set]
  by_cases h : a = i
  · subst h
    rw [if_pos rfl, if_pos rfl]
    by_cases hl : a < (cl w).length
    · rw [if_pos hl, List.getElem?_eq_getElem hl]
      rfl
    · rw [if_neg hl, List.getElem?_eq_none (by omega)]
      rfl
  · rw [if_neg h, if_neg h]
theorem like_setq {w x : Str} (a : Nat) (h : likeF w x = true) : likeF (setq w a) x = true := by
  rw [like_iff] at h ⊢
  intro i p q hp hq
  rw [setq_at] at hp
  by_cases e : a = i
  · rw [if_pos e] at hp
    obtain ⟨_, _, rfl⟩ := Option.map_eq_some_iff.mp hp
    exact .inl rfl
  · rw [if_neg e] at hp
    exact h i p q hp hq
theorem like_self (m : Str) : likeF m m = true := like_iff.mpr fun i a b ha hb => .inr (Option.some.inj (ha.symm.trans hb))
theorem worn_len : ∀ (as : List Nat) (m : Str), (wornF m as).length = as.length + 1
  | [], _ => rfl
  | a :: r, m => by
    show (wornF (setq m a) r).length + 1 = _
    rw [worn_len r]
    rfl
theorem worn_like {x : Str} : ∀ (as : List Nat) (m : Str), likeF m x = true → ∀ w ∈ wornF m as, likeF w x = true
  | [], m, h, w, hw => by
    rw [show w = m from List.mem_singleton.mp hw]
    exact h
  | a :: r, m, h, w, hw => by
    rcases List.mem_cons.mp hw with rfl | hw
    · exact h
    · exact worn_like r _ (like_setq a h) w hw
theorem worn_four : ∀ (as : List Nat) (m : Str), m.length = 4 → ∀ w ∈ wornF m as, w.length = 4
  | [], m, h, w, hw => by
    rw [show w = m from List.mem_singleton.mp hw]
    exact h
  | a :: r, m, h, w, hw => by
    rcases List.mem_cons.mp hw with rfl | hw
    · exact h
    · exact worn_four r _ (by rw [setq_len, h]) w hw
/-- one behind another: what is like the one is like the next -/
theorem worn_next {x : Str} : ∀ (as : List Nat) (m : Str) (i : Nat) (w v : Str), (wornF m as)[i]? = some w → (wornF m as)[i + 1]? = some v → likeF w x = true → likeF v x = true
  | [], m, i, w, v, h1, h2, _ => by
    have := (List.getElem?_eq_some_iff.mp h2).1
    have e : (wornF m []).length = 1 := rfl
    omega
  | a :: r, m, 0, w, v, h1, h2, h => by
    have h1 : some m = some w := h1
    have h2 : (wornF (setq m a) r)[0]? = some v := h2
    have e : (wornF (setq m a) r)[0]? = some (setq m a) := by cases r <;> rfl
    rw [e] at h2
    rw [← Option.some.inj h2]
    rw [← Option.some.inj h1] at h
    exact like_setq a h
  | a :: r, m, i + 1, w, v, h1, h2, h => worn_next r (setq m a) i w v h1 h2 h
/-- all worn: like anything -/
theorem worn_all {x : Str} : ∀ (as : List Nat) (m : Str) (w : Str), (∀ i a, (cl m)[i]? = some a → a ≠ 63 → i ∈ as) → (wornF m as)[as.length]? = some w → likeF w x = true
  | [], m, w, hc, h => by
    have h : some m = some w := h
    rw [← Option.some.inj h, like_iff]
    intro i a b ha _
    by_cases e : a = 63
    · exact .inl e
    · cases hc i a ha e
  | a :: r, m, w, hc, h => by
    refine worn_all r (setq m a) w (fun i p hp hne => ?_) h
    rw [setq_at] at hp
    by_cases e : a = i
    · rw [if_pos e] at hp
      obtain ⟨_, _, rfl⟩ := Option.map_eq_some_iff.mp hp
      exact absurd rfl hne
    · rw [if_neg e] at hp
      rcases List.mem_cons.mp (hc i p hp hne) with z | z
      · exact absurd z.symm e
      · exact z
theorem mark_noq {hs : Hands} (hh : HouseOk hs) {m : Str} (h : m ∈ marksF hs) {c : Nat} (hc : c ∈ cl m) : c ≠ 63 := fun e => by
  rcases mk_in (mem_marks.mp h) hc with z | ⟨g, hg, z⟩
  · omega
  · have := hh.lt g hg
    omega
/-- a mark as it is: like itself alone -/
theorem like_mark {hs : Hands} (hh : HouseOk hs) {m x : Str} (h : m ∈ marksF hs) (hx : x ∈ marksF hs) : likeF m x = true ↔ x = m := by
  constructor
  · intro hl
    have hm4 : (cl m).length = 4 := by rw [cl_len]; exact marks_mem h
    have hx4 : (cl x).length = 4 := by rw [cl_len]; exact marks_mem hx
    refine cl_inj (List.ext_getElem (by omega) fun i h1 h2 => ?_)
    rcases like_iff.mp hl i _ _ (List.getElem?_eq_getElem h2) (List.getElem?_eq_getElem h1) with e | e
    · exact absurd e (mark_noq hh h (List.getElem_mem h2))
    · exact e.symm
  · rintro rfl
    exact like_self x
theorem filter_one {l : List Str} {m : Str} (nd : l.Nodup) (hm : m ∈ l) : l.filter (fun x => decide (x = m)) = [m] := by
  refine List.perm_singleton.mp ((List.perm_ext_iff_of_nodup (nd.filter _) (List.pairwise_singleton _ _)).mpr fun x => ?_)
  rw [List.mem_filter, List.mem_singleton, decide_eq_true_iff]
  exact ⟨fun h => h.2, fun h => ⟨h ▸ hm, h⟩⟩
theorem fit_worn {hs : Hands} (hh : HouseOk hs) (nd : Nd hs) {m : Str} (h : m ∈ marksF hs) (as : List Nat) : fitF (marksF hs) (wornF m as) = [m] := by
  rw [← filter_one (marks_nd hh nd) h]
  refine List.filter_congr fun x hx => ?_
  refine Bool.eq_iff_iff.mpr ?_
  rw [decide_eq_true_iff, List.all_eq_true]
  constructor
  · intro z
    exact (like_mark hh h hx).mp (z m (by cases as <;> exact List.mem_cons_self))
  · rintro rfl
    exact worn_like as x (like_self x)
theorem fit_drop {ms ws : List Str} {j k : Nat} (h : j ≤ k) {x : Str} (hx : x ∈ fitF ms (ws.drop j)) : x ∈ fitF ms (ws.drop k) := by
  obtain ⟨a, b⟩ := List.mem_filter.mp hx
  refine List.mem_filter.mpr ⟨a, List.all_eq_true.mpr fun w hw => List.all_eq_true.mp b w ?_⟩
  have e : ws.drop k = (ws.drop j).drop (k - j) := by
    rw [List.drop_drop]
    congr 1
    omega
  rw [e] at hw
  exact List.mem_of_mem_drop hw
theorem fit_has {hs : Hands} {m : Str} (h : m ∈ marksF hs) (as : List Nat) (k : Nat) : m ∈ fitF (marksF hs) ((wornF m as).drop k) :=
  List.mem_filter.mpr ⟨h, List.all_eq_true.mpr fun w hw => worn_like as m (like_self m) w (List.mem_of_mem_drop hw)⟩
/-! what is sure -/
theorem sure_iff {ms : List Str} {k c : Nat} (hne : ms ≠ []) (hc : c ≠ 63) : sureAt ms k = c ↔ ∀ x ∈ ms, sgn x k = c := by
  cases ms with
  | nil => exact absurd rfl hne
  | cons m r =>
    rw [sureAt_cons]
    constructor
    · intro h
      by_cases ha : ((m :: r).all fun x => decide (letS (sgn x k) = letS (sgn m k))) = true
      · rw [if_pos ha] at h
        intro x hx
        rw [← h]
        exact letS_inj (of_decide_eq_true (List.all_eq_true.mp ha x hx))
      · rw [if_neg ha] at h
        exact absurd h.symm hc
    · intro h
      rw [if_pos (List.all_eq_true.mpr fun x hx => decide_eq_true (by rw [h x hx, h m List.mem_cons_self])), h m List.mem_cons_self]
theorem sure_sub {ms ns : List Str} {k : Nat} (s : ∀ x ∈ ns, x ∈ ms) (hne : ns ≠ []) (h : sureAt ms k ≠ 63) : sureAt ns k = sureAt ms k := by
  have hm : ms ≠ [] := fun e => by
    subst e
    cases ns with
    | nil => exact hne rfl
    | cons x r => cases s x List.mem_cons_self
  exact (sure_iff hne h).mpr fun x hx => (sure_iff hm h).mp rfl x (s x hx)
theorem sureN_cl (ms : List Str) : ∀ i, cl (sureN ms i) = (List.range i).map (sureAt ms)
  | 0 => rfl
  | i + 1 => by
    show cl (sureN ms i ++ letS (sureAt ms i)) = _
    rw [cl_app, sureN_cl ms i, List.range_succ, List.map_append]
    rfl
theorem sure_mark {hs : Hands} (hh : HouseOk hs) {m : Str} (h : m ∈ marksF hs) : sureN [m] 4 = m := by
  have h4 : (cl m).length = 4 := by rw [cl_len]; exact marks_mem h
  refine cl_inj ?_
  rw [sureN_cl]
  refine List.ext_getElem (by rw [List.length_map, List.length_range, h4]) fun i h1 h2 => ?_
  rw [List.getElem_map, List.getElem_range, sureAt_cons, if_pos (by simp)]
  unfold sgn
  rw [List.getD_eq_getElem?_getD, List.getElem?_eq_getElem h2]
  rfl
theorem worn_at : ∀ (as : List Nat) (m : Str) (i : Nat) (a : Nat) (w : Str), as[i]? = some a → (wornF m as)[i]? = some w → (wornF m as)[i + 1]? = some (setq w a)
  | [], _, i, a, w, h, _ => by cases h
  | b :: r, m, 0, a, w, h, h2 => by
    have h : some b = some a := h
    have h2 : some m = some w := h2
    cases h
    cases h2
    show (wornF (setq m b) r)[0]? = _
    cases r <;> rfl
  | b :: r, m, i + 1, a, w, h, h2 => worn_at r (setq m b) i a w h h2
theorem setq_cut {w : Str} {a : Nat} (ha : a < w.length) : cutS w none (some (a : Int)) ++ "?" ++ cutS w (some ((a : Int) + 1)) none = setq w a := by
  refine cl_inj ?_
  have e1 := cl_cutFrom w (a + 1)
  rw [show ((a + 1 : Nat) : Int) = (a : Int) + 1 from rfl] at e1
  rw [cl_app, cl_app, cl_cut, e1]
  unfold setq
  rw [cl_txl, show cl ("?" : Str) = [63] from rfl, List.set_eq_take_append_cons_drop, if_pos (by rw [cl_len]; exact ha), List.append_assoc]
  rfl
def intD (j : Nat) : D := .int (j : Int)
theorem rng_ints (m : Nat) : rngD 0 m = (List.range m).map intD := by
  unfold rngD
  refine List.map_congr_left fun j _ => ?_
  show D.int (0 + (j : Int)) = D.int (j : Int)
  rw [Int.zero_add]
theorem era_perm : ∀ (l : List Nat) (j o : Nat), l[j]? = some o → (o :: l.eraseIdx j).Perm l
  | [], _, _, h => by cases h
  | x :: r, 0, o, h => by
    have h : some x = some o := h
    cases h
    exact .refl _
  | x :: r, j + 1, o, h => by
    show (o :: x :: r.eraseIdx j).Perm (x :: r)
    exact (List.Perm.swap _ _ _).trans ((era_perm r j o h).cons x)
theorem pick_perm {left out : List Nat} {j o m : Nat} (hj : left[j]? = some o) (hp : (left ++ out).Perm (List.range m)) : (left.eraseIdx j ++ (out ++ [o])).Perm (List.range m) := by
  refine List.Perm.trans ?_ (((era_perm left j o hj).append_right out).trans hp)
  rw [← List.append_assoc]
  exact List.perm_append_singleton _ _
/-! names -/
def pairsF : Hands → List Nat → List (Str × D)
  | h :: r, b :: t => (letS h.1, .str (letS b)) :: pairsF r t
  | _, _ => []
def byN : Hands → List Nat → Nat → Nat
  | h :: r, b :: t, c => if h.1 = c then b else byN r t c
  | _, _, c => c
theorem by_get : ∀ (hs : Hands) (bs : List Nat) (c : Nat), (getX (pairsF hs bs) (letS c)).getD (.str (letS c)) = .str (letS (byN hs bs c))
  | [], bs, c => rfl
  | h :: r, [], c => rfl
  | h :: r, b :: t, c => by
    show ((if letS h.1 = letS c then some (D.str (letS b)) else getX (pairsF r t) (letS c))).getD _ = D.str (letS (if h.1 = c then b else byN r t c))
    by_cases e : h.1 = c
    · rw [if_pos (by rw [e]), if_pos e]
      rfl
    · rw [if_neg (fun z => e (letS_inj z)), if_neg e]
      exact by_get r t c
theorem pairs_keys : ∀ (hs : Hands) (bs : List Nat), bs.length = hs.length → (pairsF hs bs).map (·.1) = hs.map fun h => letS h.1
  | [], [], _ => rfl
  | [], _ :: _, h => by cases h
  | h :: r, [], e => by cases e
  | h :: r, b :: t, e => by
    show letS h.1 :: (pairsF r t).map (·.1) = _
    rw [pairs_keys r t (Nat.succ.inj e)]
    rfl
theorem pairs_merge {hs : Hands} {bs : List Nat} (nd : Nd hs) (h : bs.length = hs.length) : mergeX (pairsF hs bs) = pairsF hs bs := by
  refine merge_self ?_
  rw [pairs_keys hs bs h]
  have e : (hs.map fun h => letS h.1) = (hs.map (·.1)).map letS := by
    rw [List.map_map]
    rfl
  rw [e]
  exact List.pairwise_map.mpr (List.Pairwise.imp (fun {a b} (z : a ≠ b) q => z (letS_inj q)) nd)
theorem pairs_zip : ∀ (hs : Hands) (bs pre : List Nat), bs.length = hs.length → (hs.zipIdx pre.length).map (fun p => D.tup [.str (letS p.1.1), .str (letS ((pre ++ bs).getD p.2 0))]) = (pairsF hs bs).map pairX
  | [], [], _, _ => rfl
  | [], _ :: _, _, h => by cases h
  | h :: r, [], _, e => by cases e
  | h :: r, b :: t, pre, e => by
    rw [List.zipIdx_cons, List.map_cons]
    have := pairs_zip r t (pre ++ [b]) (Nat.succ.inj e)
    rw [List.length_append, List.append_assoc, show [b].length = 1 from rfl] at this
    show _ :: (r.zipIdx (pre.length + 1)).map (fun p => D.tup [.str (letS p.1.1), .str (letS ((pre ++ ([b] ++ t)).getD p.2 0))]) = _
    rw [this]
    show D.tup [.str (letS h.1), .str (letS ((pre ++ b :: t).getD pre.length 0))] :: _ = pairX (letS h.1, .str (letS b)) :: _
    congr 1
    rw [List.getD_eq_getElem?_getD, List.getElem?_append_right (Nat.le_refl _), Nat.sub_self]
    rfl
theorem join_cl : ∀ xs : List Str, cl (Str.join "" xs) = xs.flatMap cl
  | [] => rfl
  | [x] => by
    show cl x = _
    rw [List.flatMap_cons, List.flatMap_nil, List.append_nil]
  | x :: z :: r => by
    show cl (x ++ "" ++ Str.join "" (z :: r)) = _
    rw [cl_app, cl_app, join_cl (z :: r), List.flatMap_cons (x := x), show cl ("" : Str) = [] from rfl, List.append_nil]
theorem join_txl (l : List Nat) : Txt.join "" (l.map letS) = txl l := by
  refine cl_inj ?_
  rw [show Txt.join "" (l.map letS) = Str.join "" (l.map letS) from TL.join_eq "" _, join_cl, cl_txl]
  induction l with
  | nil => rfl
  | cons c r ih =>
    rw [List.map_cons, List.flatMap_cons, ih]
    rfl
/-! parts of lists -/
theorem cutD_dr (ds : List D) (k : Nat) : DL.cutD ds (some (k : Int)) none = ds.drop k := by
  unfold DL.cutD
  rw [HT.sIx_nat, HT.sIx_none]
  by_cases h : k ≤ ds.length
  · rw [Nat.min_eq_left h]
    exact List.take_of_length_le (by rw [List.length_drop]; omega)
  · rw [Nat.min_eq_right (by omega), Nat.sub_self, List.take_zero, List.drop_eq_nil_of_le (by omega)]
/-! the house put otherwise: lists and letters -/
theorem found_few {hs : Hands} (hh : hs.length ≤ 6) : ∀ d, 5 * (foundN hs d).length + 1 ≤ 6 ^ d
  | 0 => Nat.le_refl _
  | d + 1 => by
    have h1 := found_few hh d
    have h2 := done_len hh d
    show 5 * (foundN hs d ++ (doneN hs d).map (· ++ dots d)).length + 1 ≤ 6 ^ d * 6
    rw [List.length_append, List.length_map]
    omega
theorem marks_few {hs : Hands} (hh : hs.length ≤ 6) : (marksF hs).length ≤ 1555 := by
  have h1 : 5 * (foundN hs 4).length + 1 ≤ 1296 := found_few hh 4
  have h2 : (doneN hs 4).length ≤ 1296 := done_len hh 4
  unfold marksF
  rw [(srtT_perm _).length_eq, List.length_append]
  omega
theorem met_len (xs : List Str) : (DSt.metS xs).length ≤ xs.length := nodup_len (DSt.metS_nodup xs) fun x h => DSt.metS_mem.mp h
def zyxAt (first : Int) (i : Nat) : Nat := 122 - ((first + 5 * (i : Int)) % 26).toNat
theorem zyx_list : ("zyxwvutsrqponmlkjihgfedcba" : Str).cps.toList = (List.range 26).map (122 - ·) := by decide
theorem zyx_at (first : Int) (i : Nat) : atI ("zyxwvutsrqponmlkjihgfedcba" : Str).cps.toList ((first + 5 * (i : Int)) % 26) = some (zyxAt first i) := by
  have h0 := Int.emod_nonneg (first + 5 * (i : Int)) (show (26 : Int) ≠ 0 by decide)
  have h1 := Int.emod_lt_of_pos (first + 5 * (i : Int)) (show (0 : Int) < 26 by decide)
  refine atI_of (j := ((first + 5 * (i : Int)) % 26).toNat) ?_ (by omega)
  rw [zyx_list, List.getElem?_map, List.getElem?_range (by omega)]
  rfl
theorem zyx_lt (first : Int) (i : Nat) : 97 ≤ zyxAt first i ∧ zyxAt first i ≤ 122 := by
  have h0 := Int.emod_nonneg (first + 5 * (i : Int)) (show (26 : Int) ≠ 0 by decide)
  have h1 := Int.emod_lt_of_pos (first + 5 * (i : Int)) (show (0 : Int) < 26 by decide)
  unfold zyxAt
  omega
theorem zyx_nd (first : Int) {n : Nat} (hn : n ≤ 6) : ((List.range n).map (zyxAt first)).Nodup := by
  refine List.pairwise_map.mpr (List.Pairwise.imp_of_mem (fun {a b} ha hb (hlt : a < b) e => ?_) List.pairwise_lt_range)
  have hb := List.mem_range.mp hb
  unfold zyxAt at e
  have h0 := Int.emod_nonneg (first + 5 * (a : Int)) (show (26 : Int) ≠ 0 by decide)
  have h1 := Int.emod_nonneg (first + 5 * (b : Int)) (show (26 : Int) ≠ 0 by decide)
  have h2 := Int.emod_lt_of_pos (first + 5 * (a : Int)) (show (0 : Int) < 26 by decide)
  have h3 := Int.emod_lt_of_pos (first + 5 * (b : Int)) (show (0 : Int) < 26 by decide)
  have e2 : (first + 5 * (a : Int)) % 26 = (first + 5 * (b : Int)) % 26 := by omega
  omega
theorem by_out : ∀ {hs : Hands} {bs : List Nat} {c : Nat}, (∀ g ∈ hs, g.1 ≠ c) → byN hs bs c = c
  | [], bs, c, _ => by cases bs <;> rfl
  | h :: r, [], c, _ => rfl
  | h :: r, b :: t, c, hc => by
    show (if h.1 = c then b else byN r t c) = c
    rw [if_neg (hc h List.mem_cons_self)]
    exact by_out fun g hg => hc g (List.mem_cons_of_mem _ hg)
theorem by_at : ∀ {hs : Hands} {bs : List Nat} {i : Nat} {g : Nat × List Int} {b : Nat}, Nd hs → hs[i]? = some g → bs[i]? = some b → byN hs bs g.1 = b
  | [], bs, i, g, b, _, h, _ => by cases h
  | h :: r, [], i, g, b, _, _, hb => by cases hb
  | h :: r, c :: t, 0, g, b, _, hg, hb => by
    have hg : some h = some g := hg
    have hb : some c = some b := hb
    cases hg
    cases hb
    exact if_pos rfl
  | h :: r, c :: t, i + 1, g, b, nd, hg, hb => by
    have hg : r[i]? = some g := hg
    have hb : t[i]? = some b := hb
    have nd2 := List.pairwise_cons.mp (show ((h :: r).map (·.1)).Nodup from nd)
    have hne : h.1 ≠ g.1 := nd2.1 g.1 (List.mem_map.mpr ⟨g, List.mem_of_getElem? hg, rfl⟩)
    show (if h.1 = g.1 then c else byN r t g.1) = b
    rw [if_neg hne]
    exact by_at nd2.2 hg hb
theorem by_in {hs : Hands} {bs : List Nat} (nd : Nd hs) (hl : bs.length = hs.length) {g : Nat × List Int} (hg : g ∈ hs) : ∃ i : Nat, hs[i]? = some g ∧ bs[i]? = some (byN hs bs g.1) := by
  obtain ⟨i, hi, e⟩ := List.mem_iff_getElem.mp hg
  have h1 : hs[i]? = some g := by rw [List.getElem?_eq_getElem hi, e]
  have h2 : bs[i]? = some bs[i] := List.getElem?_eq_getElem (by omega)
  exact ⟨i, h1, by rw [by_at nd h1 h2]; exact h2⟩
theorem ren_ok {hs : Hands} {bs : List Nat} (hh : HouseOk hs) (nd : Nd hs) (hl : bs.length = hs.length) (nb : bs.Nodup) (hb : ∀ b ∈ bs, 97 ≤ b ∧ b ≤ 122) : RenOk (byN hs bs) hs := by
  have out : ∀ c, c < 97 → byN hs bs c = c := fun c hc => by_out fun g hg e => by
    have := hh.lt g hg
    omega
  have ran : ∀ g ∈ hs, 97 ≤ byN hs bs g.1 := fun g hg => by
    obtain ⟨i, _, h⟩ := by_in nd hl hg
    exact (hb _ (List.mem_of_getElem? h)).1
  have o46 := out 46 (by decide)
  have o63 := out 63 (by decide)
  refine ⟨o46, o63, fun a b ha hb2 e => ?_⟩
  rcases ha with rfl | rfl | ⟨g, hg, rfl⟩
  · rcases hb2 with rfl | rfl | ⟨g2, hg2, rfl⟩
    · rfl
    · rw [o46, o63] at e
      exact e
    · rw [o46] at e
      have := ran g2 hg2
      omega
  · rcases hb2 with rfl | rfl | ⟨g2, hg2, rfl⟩
    · rw [o46, o63] at e
      exact e
    · rfl
    · rw [o63] at e
      have := ran g2 hg2
      omega
  · have h1 := ran g hg
    rcases hb2 with rfl | rfl | ⟨g2, hg2, rfl⟩
    · rw [o46] at e
      omega
    · rw [o63] at e
      omega
    · obtain ⟨i, hi, hbi⟩ := by_in nd hl hg
      obtain ⟨j, hj, hbj⟩ := by_in nd hl hg2
      rw [← e] at hbj
      have hli := (List.getElem?_eq_some_iff.mp hbi).1
      have hlj := (List.getElem?_eq_some_iff.mp hbj).1
      have eij : i = j := (List.getElem_inj nb (h₀ := hli) (h₁ := hlj)).mp ((List.getElem?_eq_some_iff.mp hbi).2.trans (List.getElem?_eq_some_iff.mp hbj).2.symm)
      subst eij
      rw [hi] at hj
      cases hj
      rfl
theorem ren_house {hs : Hands} {bs : List Nat} (hh : HouseOk hs) (nd : Nd hs) (hl : bs.length = hs.length) (hb : ∀ b ∈ bs, 97 ≤ b ∧ b ≤ 122) : HouseOk (renH (byN hs bs) hs) := by
  refine ⟨by unfold renH; rw [List.length_map]; exact hh.l0, by unfold renH; rw [List.length_map]; exact hh.l1, fun h hm => ?_⟩
  obtain ⟨g, hg, rfl⟩ := List.mem_map.mp hm
  obtain ⟨i, _, h⟩ := by_in nd hl hg
  have := hb _ (List.mem_of_getElem? h)
  exact ⟨this.1, this.2, (hh.lt g hg).2.2⟩
theorem ren_zip {hs : Hands} {bs : List Nat} (nd : Nd hs) (hl : bs.length = hs.length) : hs.zipIdx.map (fun p => (bs.getD p.2 0, p.1.2)) = renH (byN hs bs) hs := by
  unfold renH
  refine List.ext_getElem (by rw [List.length_map, List.length_map, List.length_zipIdx]) fun i h1 h2 => ?_
  rw [List.length_map, List.length_zipIdx] at h1
  rw [List.getElem_map, List.getElem_map, List.getElem_zipIdx, Nat.zero_add]
  show (bs.getD i 0, hs[i].2) = (byN hs bs hs[i].1, hs[i].2)
  rw [by_at nd (List.getElem?_eq_getElem h1) (List.getElem?_eq_getElem (show i < bs.length by omega)), List.getD_eq_getElem?_getD, List.getElem?_eq_getElem (show i < bs.length by omega)]
  rfl
theorem move_perm {hs : Hands} {js : List Nat} (h : js.Perm (List.range hs.length)) : (js.map fun k => hs.getD k (0, [])).Perm hs := by
  refine (h.map _).trans ?_
  have e : (List.range hs.length).map (fun k => hs.getD k (0, [])) = hs := by
    refine List.ext_getElem (by rw [List.length_map, List.length_range]) fun i h1 h2 => ?_
    rw [List.getElem_map, List.getElem_range, List.getD_eq_getElem?_getD, List.getElem?_eq_getElem h2]
    rfl
  rw [e]
def ownL (hs : Hands) : List Nat := (cl "abcdefghijklmnopqrstuvwxyz").filter fun c => !decide (letS c ∈ hs.map fun h => letS h.1)
theorem own_pos {hs : Hands} (hl : hs.length ≤ 6) : 0 < (ownL hs).length ∧ (ownL hs).length ≤ 26 := by
  have e26 : (cl "abcdefghijklmnopqrstuvwxyz").length = 26 := by decide
  refine ⟨?_, by rw [← e26]; exact List.length_filter_le _ _⟩
  rcases Nat.eq_zero_or_pos (ownL hs).length with z | z
  · have hn : ((cl "abcdefghijklmnopqrstuvwxyz").map letS).Nodup := by decide
    have := nodup_len hn (m := hs.map fun h => letS h.1) fun x hx => by
      obtain ⟨c, hc, rfl⟩ := List.mem_map.mp hx
      have h0 := List.filter_eq_nil_iff.mp (List.eq_nil_of_length_eq_zero z) c hc
      by_cases hm : letS c ∈ hs.map fun h => letS h.1
      · exact hm
      · rw [decide_eq_false hm] at h0
        exact absurd rfl h0
    rw [List.length_map, List.length_map, e26] at this
    omega
  · exact z
theorem own_lt {hs : Hands} {c : Nat} (h : c ∈ ownL hs) : 97 ≤ c ∧ c ≤ 122 := by
  have : ∀ c ∈ cl "abcdefghijklmnopqrstuvwxyz", 97 ≤ c ∧ c ≤ 122 := by decide
  exact this c (List.mem_filter.mp h).1
theorem sure_ix {ms : List Str} {k : Nat} (h : k < 4) : atI (sureN ms 4).cps.toList (k : Int) = some (sureAt ms k) := by
  refine atI_of (j := k) ?_ rfl
  show (cl (sureN ms 4))[k]? = _
  rw [sureN_cl, List.getElem?_map, List.getElem?_range h]
  rfl
def sp_fit_all : DSpec := fun ss G Q => ∃ (hs : Hands) (ws : List Str), ss = [.d (houseD hs), .d (strsT ws)] ∧ HouseOk hs ∧ (1 ≤ ws.length ∧ ws.length ≤ 100) ∧ (∀ w ∈ ws, w.length = 4) ∧ Q (.v (.d (strsT (fitF (marksF hs) ws)))) G
def sp_sure_of : DSpec := fun ss G Q => ∃ (hs : Hands) (ws : List Str), ss = [.d (houseD hs), .d (strsT ws)] ∧ HouseOk hs ∧ (1 ≤ ws.length ∧ ws.length ≤ 100) ∧ (∀ w ∈ ws, w.length = 4) ∧ Q (.v (.d (sureD (fitF (marksF hs) ws)))) G
def sp_is_mark : DSpec := fun ss G Q => ∃ (hs : Hands) (d : D), ss = [.d (houseD hs), .d d] ∧ hs.length ≤ 6 ∧ Px d ∧ (∀ z, d = .str z → z.length ≤ 100) ∧ Q (.v (.d (.bl (isMarkX hs d)))) G
def intsL (js : List Nat) : D := .lst (js.map intD)
def lettersL (bs : List Nat) : D := strsD (bs.map letS)
/-- a worn text, its signs -/
def SgOk (hs : Hands) (w : Str) : Prop := w.length = 4 ∧ ∀ c ∈ cl w, c = 46 ∨ c = 63 ∨ ∃ g ∈ hs, g.1 = c
theorem worn_sg {hs : Hands} : ∀ (as : List Nat) (m : Str), SgOk hs m → ∀ w ∈ wornF m as, SgOk hs w
  | [], m, h, w, hw => by
    rw [show w = m from List.mem_singleton.mp hw]
    exact h
  | a :: r, m, h, w, hw => by
    rcases List.mem_cons.mp hw with rfl | hw
    · exact h
    · refine worn_sg r _ ⟨by rw [setq_len]; exact h.1, fun c hc => ?_⟩ w hw
      unfold setq at hc
      rw [cl_txl] at hc
      rcases List.mem_or_eq_of_mem_set hc with z | z
      · exact h.2 c z
      · exact .inr (.inl z)
theorem mark_sg {hs : Hands} {m : Str} (h : m ∈ marksF hs) : SgOk hs m := ⟨marks_mem h, fun c hc => (mk_in (mem_marks.mp h) hc).elim .inl fun z => .inr (.inr z)⟩
def askD (a : Hands × Str × List Nat) : D := .tup [houseD a.1, strsD (marksF a.1), strsD (wornF a.2.1 a.2.2)]
def sp_l_order : DSpec := fun ss G Q => ∃ (k c : Nat) (n : Int) (cells : List Int) (seed cnt : Int) (m : Nat), ss = [.g k, .d (.int (m : Int))] ∧ Dk G k c n cells seed cnt ∧ n + 10 ≤ 2 ^ 32 ∧ m ≤ 6 ∧
  ∀ (js : List Nat) G', js.Perm (List.range m) → DkTo G k c (n + 10) G' → Q (.v (.d (intsL js))) G'
def sp_l_worn_on : DSpec := fun ss G Q => ∃ (k c : Nat) (n : Int) (cells : List Int) (seed cnt : Int) (m : Str), ss = [.g k, .d (.str m)] ∧ Dk G k c n cells seed cnt ∧ n + 10 ≤ 2 ^ 32 ∧ m.length = 4 ∧
  ∀ (js : List Nat) G', js.Perm (List.range 4) → DkTo G k c (n + 10) G' → Q (.v (.d (strsD (wornF m js)))) G'
def sp_l_called : DSpec := fun ss G Q => ∃ (hs : Hands) (bs : List Nat) (x : Str), ss = [.d (houseD hs), .d (lettersL bs), .d (.str x)] ∧ HouseOk hs ∧ Nd hs ∧ bs.length = hs.length ∧ x.length ≤ 10 ∧ Q (.v (.d (.str (rnF (byN hs bs) x)))) G
def sp_l_steps_right : DSpec := fun ss G Q => ∃ (hs : Hands) (m : Str) (js : List Nat), ss = [.d (houseD hs), .d (strsD (marksF hs)), .d (strsD (wornF m js))] ∧ HouseOk hs ∧ m ∈ marksF hs ∧ js.Perm (List.range 4) ∧ Q (.v (.d (.bl true))) G
def sp_l_more_right : DSpec := fun ss G Q => ∃ (hs : Hands) (m : Str) (js : List Nat), ss = [.d (houseD hs), .d (strsD (wornF m js))] ∧ HouseOk hs ∧ Nd hs ∧ m ∈ marksF hs ∧ js.Perm (List.range 4) ∧ Q (.v (.d (.bl true))) G
def sp_l_others_right : DSpec := fun ss G Q => ∃ (k c : Nat) (n : Int) (cells : List Int) (seed cnt : Int) (hs : Hands) (w : Str), ss = [.g k, .d (houseD hs), .d (.str w)] ∧ Dk G k c n cells seed cnt ∧ n + 100 ≤ 2 ^ 32 ∧ HouseOk hs ∧ Nd hs ∧ SgOk hs w ∧
  ∀ G', DkTo G k c (n + 100) G' → Q (.v (.d (.bl true))) G'
end Pf

local macro_rules | `(tactic| walk_at "draw") => `(tactic| (refine DL.draw_use (by assumption) (by omega) (by first | omega | (simp only [List.length_map]; omega)) (by first | omega | (simp only [List.length_map]; omega)) ?_; intro _ _ _ _ _ _ _ _ _; dsimp only [asV]))
local macro_rules | `(tactic| walk_at "god") => `(tactic| repeat (first | walk_at "f1" | walk_at "d1" | walk_at "d2" | walk_at "draw"))
local macro_rules | `(tactic| walk_at "d1") => `(tactic| with_reducible first | refine u_eq_ss ?_ | refine u_ne_ss ?_ | refine st_par ?_ | refine iteDr ?_ | refine iteNDr ?_)
local macro_rules | `(tactic| walk_at "ixb") => `(tactic| ((try simp only [List.length_set, List.length_map, List.length_cons, List.length_nil]); omega))
local macro_rules | `(tactic| walk_at "d1") => `(tactic| (with_reducible refine u_get_intX ?_; refine ⟨_, rfl, ?_⟩; refine And.intro ?hb ?_; (case hb => refine ⟨?_, ?_⟩ <;> walk_at "ixb")))
local macro_rules | `(tactic| walk_at "d1") => `(tactic| (with_reducible refine sto_intX ?_; refine ⟨_, rfl, ?_⟩; refine And.intro ?hb ?_; (case hb => refine ⟨?_, ?_⟩ <;> walk_at "ixb")))
local macro_rules | `(tactic| walk_at "ixi") => `(tactic| (with_reducible refine u_ix_intX ?_; refine ⟨_, rfl, ?_⟩; refine And.intro ?hb ?_; (case hb => refine ⟨?_, ?_⟩ <;> walk_at "ixb")))
local macro_rules | `(tactic| walk_at "d1") => `(tactic| with_reducible first | refine u_eqT0 ?_ | refine u_neT0 ?_ | refine u_eq_pair ?_ | refine u_ne_pair ?_ | refine u_in_pair ?_ | refine u_eq_oi ?_ | refine isN_o ?_ | refine notN_o ?_)
local macro_rules | `(tactic| walk_at "d1") => `(tactic| (with_reducible refine ap_isiX ?_; first | refine ⟨_, true, rfl, rfl, ?_⟩ | refine ⟨_, false, rfl, rfl, ?_⟩))
local macro_rules | `(tactic| walk_at "d1") => `(tactic| (with_reducible refine u_eqL0e ?_; walk_at "seq"; refine ⟨rfl, ?_⟩))
local macro_rules | `(tactic| walk_at "d1") => `(tactic| (with_reducible refine u_neL0e ?_; walk_at "seq"; refine ⟨rfl, ?_⟩))
local macro_rules | `(tactic| walk_at "d1") => `(tactic| with_reducible first | refine mt_endsD ?_ | refine Pf.hands_use (by assumption) ?_)
local macro_rules | `(tactic| walk_at "d1") => `(tactic| with_reducible refine Pf.further_use (by assumption) (by omega) ?_)
local macro_rules | `(tactic| walk_at "d1") => `(tactic| (refine And.intro (⟨_, rfl⟩ : ∃ z, S.d (D.str _) = S.d (D.str z)) ?_))
local macro_rules | `(tactic| walk_at "d1") => `(tactic| with_reducible refine sl_s (le_line (by omega)) ?_)
local macro_rules | `(tactic| walk_at "d1") => `(tactic| with_reducible first | refine evn_c (evn_stepU ?_) | refine sl_t ?_)

namespace Pf
open PySem L2 DL
section
variable {P : Program} {w : World} {K : PySem.W.Frag} {mg : Str → Option Value} {base : Heap}
theorem ok_l_draw (T : TX w K mg) : FnOk P w K mg base CX0 1 T.a_l_draw T.fd_l_draw ["_law_deck_here", "_law_most"] (spD K sp_l_draw) := by
  refine okD (k := 0) T.F_l_draw sc_l_draw (fun ss G Qd h => ?_) (fun cdv A outer s H E ss G Qd hr h => ?_)
  · obtain ⟨k, c, m, n, cells, seed, cnt, rfl, hD, hn, hm0, hm1, q⟩ := h
    rfl
  · obtain ⟨k, c, m, n, cells, seed, cnt, rfl, hD, hn, hm0, hm1, q⟩ := h
    refine ⟨_, (pss_cons (ps_asg (pe_op (show OpR _ (binaryOp .Add) (uAdd K) from uo_add) (pe_ix (show IxR _ (rIx K) from ix_seq) (pv 0) pe_int (fun _ _ => rfl)) pe_int) (pg_sub (pv 0) pe_int set_list))
      (pss_cons (ps_set (i := 2) sc_l_draw.nd rfl (Or.inl rfl) (pe_ix (show IxR _ (rIx K) from ix_seq) (pv 0) pe_int (fun _ _ => rfl)))
      (pss_cons (ps_if (pt_cmpR (show OpR _ (compareOp .NotEq) (rEqL0 K true) from op_neL0 hr.units) (pe_ix (show IxR _ (rIx K) from ix_seq) (pv 0) pe_int (fun _ _ => rfl)) (pe_lst pa_nil) (nomark _)) (pss_cons (ps_set (i := 2) sc_l_draw.nd rfl (Or.inl rfl) (pe_bm0 PySem.F.plainAttrs_list PySem.F.slot_list_pop PySem.F.type_list_pop mt_pop (pe_ix (show IxR _ (rIx K) from ix_seq) (pv 0) pe_int (fun _ _ => rfl))))
      (pss_one (ps_if (pt_cmpR op_ge (pv 2) (pe_op op_pow pe_int pe_int) (nomark _)) (pss_cons (ps_expr (pe_bm PySem.F.plainAttrs_list PySem.F.slot_list_append PySem.F.type_list_append mt_append (pe_ix (show IxR _ (rIx K) from ix_seq) (pv 0) pe_int (fun _ _ => rfl)) (pa_cons (pe_op op_fdivW (pv 2) (pv 1)) pa_nil)))
      (pss_one (ps_ret (pe_op op_mod (pv 2) (pv 1))))) pss_nil))) pss_nil)
      (pss_cons (ps_set (i := 3) sc_l_draw.nd rfl (Or.inl rfl) (pe_op op_mod (pe_op (show OpR _ (binaryOp .Mult) (uMulT K) from uo_mulT) (pe_op (show OpR _ (binaryOp .Add) (uAdd K) from uo_add) (pe_op (show OpR _ (binaryOp .Add) (uAdd K) from uo_add) (pe_op op_mod (pv 2) pe_int) (pe_op (show OpR _ (binaryOp .Mult) (uMulT K) from uo_mulT) pe_int (pe_ix (show IxR _ (rIx K) from ix_seq) (pv 0) pe_int (fun _ _ => rfl)))) pe_int) pe_int) pe_int))
      (pss_cons (ps_set (i := 3) sc_l_draw.nd rfl (Or.inl rfl) (pe_op op_mod (pe_op (show OpR _ (binaryOp .Add) (uAdd K) from uo_add) (pe_op (show OpR _ (binaryOp .Add) (uAdd K) from uo_add) (pe_op (show OpR _ (binaryOp .Mult) (uMulT K) from uo_mulT) (pv 3) (pv 3)) (pe_op (show OpR _ (binaryOp .Mult) (uMulT K) from uo_mulT) pe_int (pe_ix (show IxR _ (rIx K) from ix_seq) (pv 0) pe_int (fun _ _ => rfl)))) pe_int) pe_int))
      (pss_one (ps_ret (pe_op op_mod (pe_op op_fdivW (pe_op op_mod (pe_op (show OpR _ (binaryOp .Mult) (uMulT K) from uo_mulT) (pv 3) (pe_op (show OpR _ (binaryOp .Add) (uAdd K) from uo_add) (pe_op op_fdivW (pv 3) pe_int) pe_int)) pe_int) pe_int) (pv 1))))))))), ?_⟩
    simp only [cxOf, Cx.nox, Cx.wish, Cx.blk, startD, List.map, List.length_cons, List.length_nil, Nat.reduceAdd, Nat.reduceSub, List.replicate, List.cons_append, List.nil_append]
    obtain ⟨hk, hc, ne, s0, s1, n0, n1, cl⟩ := hD
    have fin : ∀ (z : Int) (cs : List Int), cs.length ≤ 1000 → (endsD Qd).rt (.d (.int (z % m))) ((G.set k (.hl [.g c, .d (.int seed), .d (.int (cnt + 1))])).set c (.pl (cs.map D.int))) [] :=
      fun z cs hl => q _ _ (dkTo_mk hk hc ne s0 s1 (by omega) (by omega) hl) (Int.emod_nonneg _ (by omega)) (Int.emod_lt_of_pos _ hm0)
    walk_at "go"
    refine sto_gh hk (i := 2) rfl ?hs ?_
    (case hs => exact rfl)
    have hk1 := set_at (x := M.hl [S.g c, .d (.int seed), .d (.int (cnt + 1))]) hk
    have hc1 : (G.set k (M.hl [S.g c, .d (.int seed), .d (.int (cnt + 1))]))[c]? = _ := (set_off (Ne.symm ne)).trans hc
    show StC K _ _ (G.set k (M.hl [S.g c, .d (.int seed), .d (.int (cnt + 1))])) _ _
    generalize hG1 : G.set k (M.hl [S.g c, .d (.int seed), .d (.int (cnt + 1))]) = G1 at *
    walk_at "go"
    refine iteB (fun hne => ?_) (fun hem => ?_)
    · have hpos : 0 < cells.length := by
        cases cells with
        | nil => cases hne
        | cons _ _ => exact Nat.succ_pos _
      have hlast : (cells.map D.int)[(cells.map D.int).length - 1]? = some (D.int (cells.getLast (List.ne_nil_of_length_pos hpos))) := by
        rw [List.length_map, List.getElem?_map, List.getLast_eq_getElem, List.getElem?_eq_getElem]
        rfl
      generalize cells.getLast _ = z at hlast
      walk_at "go"
      try refine ⟨tyS_g hc1, ?_⟩
      refine mt_pop_g hc1 hlast ?_
      generalize hG2 : G1.set c (M.pl (cells.map D.int).dropLast) = G2
      have hk2 : G2[k]? = some (M.hl [S.g c, .d (.int seed), .d (.int (cnt + 1))]) := by rw [← hG2, set_off ne, hk1]
      have hc2 : G2[c]? = some (M.pl (cells.dropLast.map D.int)) := by rw [← hG2, set_at hc1, List.map_dropLast]
      walk_at "go"
      refine iteD (fun hge => ?_) (fun hlt => ?_)
      · walk_at "go"
        walk_at "go"
        refine mt_app_g hc2 (by rw [List.length_map, List.length_dropLast]; exact lt_line (by omega)) ?_
        walk_at "go"
        have f := fin z (cells.dropLast ++ [z / m]) (by rw [List.length_append, List.length_dropLast]; show _ + 1 ≤ _; omega)
        rw [← hG2, set_set]
        rw [List.map_append] at f
        exact f
      · walk_at "go"
        have f := fun y => fin y cells.dropLast (by rw [List.length_dropLast]; omega)
        rw [List.map_dropLast, hG2] at f
        exact f _
    · walk_at "go"
      have f := fun y => fin y cells cl
      rw [set_same hc1] at f
      exact f _
end
end Pf
namespace Pf
open PySem L2 DL
section
variable {P : Program} {w : World} {K : PySem.W.Frag} {mg : Str → Option Value} {base : Heap}
theorem ok_l_deck (T : TX w K mg) : FnOk P w K mg base CX0 1 T.a_l_deck T.fd_l_deck ["_law_script"] (spD K sp_l_deck) := by
  refine okD (k := 0) T.F_l_deck sc_l_deck (fun ss G Qd h => ?_) (fun cdv A outer s H E ss G Qd hr h => ?_)
  · obtain ⟨ns, rfl, hns, q⟩ := h
    rfl
  · obtain ⟨ns, rfl, hns, q⟩ := h
    refine ⟨_, (pss_cons (ps_set (i := 1) sc_l_deck.nd rfl (Or.inl rfl) (pe_callTy (show CallR _ (.type "list") (uList K) from (uc_list rfl)) (by rfl) T.z_list (by decide +kernel) (pa_cons (pe_slice (show SlR _ (uSl K) from us_sl) (pv 0) po_none (po_some pe_int)) pa_nil)))
      (pss_cons (ps_set (i := 2) sc_l_deck.nd rfl (Or.inl rfl) pe_int)
      (pss_cons (ps_for PassesOwn.never rfl (pi_seq (pv 1)) (pg_name (i := 3) sc_l_deck.nd rfl (Or.inl rfl)) (pss_one (ps_set (i := 2) sc_l_deck.nd rfl (Or.inl rfl) (pe_op op_mod (pe_op (show OpR _ (binaryOp .Add) (uAdd K) from uo_add) (pe_op (show OpR _ (binaryOp .Add) (uAdd K) from uo_add) (pe_op (show OpR _ (binaryOp .Mult) (uMulT K) from uo_mulT) (pv 2) pe_int) (pe_op op_mod (pv 3) pe_int)) pe_int) pe_int))))
      (pss_one (ps_ret (pe_lst (pa_cons (pe_revU (pv 1)) (pa_cons (pv 2) (pa_cons pe_int pa_nil))))))))), ?_⟩
    simp only [cxOf, Cx.nox, Cx.wish, Cx.blk, startD, List.map, List.length_cons, List.length_nil, Nat.reduceAdd, Nat.reduceSub, List.replicate, List.cons_append, List.nil_append]
    walk_at "go"
    refine sln_c (sl_scr ?_)
    walk_at "go"
    obtain ⟨cells, hc, hl, _⟩ := cutD_map D.int ns none (some 63)
    rw [hc]
    generalize hD : ([some (S.d (D.scr ns)), none, none, none].set 1 (some (S.d (D.lst (cells.map D.int))))) = Δ
    have hD' : Δ = [some (S.d (D.scr ns)), some (S.d (D.lst (cells.map D.int))), none, none] := hD.symm
    subst hD'
    clear hD
    walk_at "go"
    refine st_for ?_
    refine evi_seq (evc_varX ⟨_, rfl, _, _, rfl, rfl, ?_⟩)
    refine ⟨fun i Δ' G' L' => ∃ (seed : Int) (x3 : Option S), Δ' = [some (S.d (D.scr ns)), some (S.d (D.lst (cells.map D.int))), some (.d (.int seed)), x3] ∧ G' = G ∧ L' = [] ∧ 0 ≤ seed ∧ seed < 2 ^ 62, ?_, ?_, ?_⟩
    · exact ⟨11, none, rfl, rfl, rfl, by decide, by decide⟩
    · rintro i d Δ' G' L' hd ⟨seed, x3, rfl, rfl, rfl, s0, s1⟩
      obtain ⟨z, hz, rfl⟩ := get_map hd
      walk_at "go"
      exact ⟨rfl, Int.emod_nonneg _ (by decide), Int.lt_trans (Int.emod_lt_of_pos _ (by decide)) (by decide)⟩
    · rintro Δ' G' L' ⟨seed, x3, rfl, rfl, rfl, s0, s1⟩
      refine st_ret2 ?_
      refine evn_revU ?_
      walk_at "go"
      have f := q cells.reverse seed (by rw [List.length_reverse]; omega) s0 s1
      rw [List.map_reverse] at f
      exact f
end
end Pf
namespace Pf
open PySem L2 DL
section
variable {P : Program} {w : World} {K : PySem.W.Frag} {mg : Str → Option Value} {base : Heap}
theorem ok_hands_for (T : TX w K mg) : FnOk P w K mg base CX0 1 T.a_hands_for T.fd_hands_for ["house", "deed"] (spD K sp_hands_for) := by
  refine okD (k := 0) T.F_hands_for sc_hands_for (fun ss G Qd h => ?_) (fun cdv A outer s H E ss G Qd hr h => ?_)
  · obtain ⟨hs, d, rfl, hl, q⟩ := h
    rfl
  · obtain ⟨hs, d, rfl, hl, q⟩ := h
    refine ⟨_, (pss_one (ps_ret (pe_callB (show CallR _ (.builtin "sorted") (DSo.rSortedA K) from DSo.uc_sortedA) (by rfl) T.z_sorted (by decide +kernel) (pa_cons (pe_lc (own := [("letter", 2), ("crafts", 3)]) (g := (gTup K 2 (gCons (gName 2) (gCons (gName 3) gNil)))) (by rfl) sc_hands_for.nd (pi_seq (pv 0)) (blkOk_by (N := ["house", "deed", "letter", "crafts"]) (sc := defScope s_hands_for) (by decide +kernel)) (fun _ _ _ _ _ => (pg_tup rfl (pgs_cons (pg_name (i := 2) sc_hands_for.nd rfl (Or.inl rfl)) (pgs_cons (pg_name (i := 3) sc_hands_for.nd rfl (Or.inl rfl)) pgs_nil)))) (fun _ _ _ _ _ => (pts_one (pt_cmpR (show OpR _ (compareOp .In) (uIn K false) from uo_in) (pv 1) (pv 3) (by rfl)))) (fun _ _ _ _ _ => (pv 2))) pa_nil)))), ?_⟩
    simp only [cxOf, Cx.nox, Cx.wish, Cx.blk, startD, List.map, List.length_cons, List.length_nil, Nat.reduceAdd, Nat.reduceSub, List.replicate, List.cons_append, List.nil_append]
    walk_at "go"
    · refine evn_c (evn_lcM hs handD (does d) (fun h => .str (letS h.1)) ?_)
      walk_at "go"
      refine ⟨rfl, lt_line (by omega), ?_, ?_⟩
      · intro h _
        show TgC K _ _ (.d (.tup [.str (letS h.1), .tup (h.2.map D.int)])) _ _ _ _
        walk_at "go"
        refine ⟨rfl, fun _ => ?_, fun _ => ⟨rfl, rfl⟩⟩
        walk_at "go"
        exact ⟨rfl, rfl, rfl⟩
      walk_at "go"
      refine apn_c (ap_sortedX ⟨lets hs d, ?_, ?_⟩)
      · show some _ = some _
        rw [lets, List.map_map]
        rfl
      · exact ⟨_, rfl, q⟩
end
end Pf
namespace Pf
open PySem L2 DL
section
variable {P : Program} {w : World} {K : PySem.W.Frag} {mg : Str → Option Value} {base : Heap}
local macro_rules | `(tactic| walk_at "own") => `(tactic| first | (with_reducible refine st_own (i := 3) ?_))
theorem ok_further (T : TX w K mg) (G_hands_for : FnOk P w K mg base CX0 1 T.a_hands_for T.fd_hands_for ["house", "deed"] (spD K sp_hands_for)) : FnOk P w K mg base CX0 2 T.a_further T.fd_further ["house", "deed", "mark"] (spD K sp_further) := by
  refine okD (k := 1) T.F_further sc_further (fun ss G Qd h => ?_) (fun cdv A outer s H E ss G Qd hr h => ?_)
  · obtain ⟨hs, d, m, rfl, hl, hm, q⟩ := h
    rfl
  · obtain ⟨hs, d, m, rfl, hl, hm, q⟩ := h
    refine ⟨_, (pss_cons (ps_set (i := 3) sc_further.nd rfl (Or.inl rfl) (pe_lst (pa_cons (pe_glob (v := .str ".") (by rfl) T.m_BARE ⟨_, rfl⟩) pa_nil)))
      (pss_cons (ps_if (pt_not (pt_val (pe_m1 PySem.F.slot_str_endswith PySem.F.type_str_endswith mt_endswith (pv 2) (pe_glob (v := .str ".") (by rfl) T.m_BARE ⟨_, rfl⟩)))) (pss_one (ps_expr (pe_bm PySem.F.plainAttrs_list PySem.F.slot_list_extend PySem.F.type_list_extend mt_extend (pv 3) (pa_cons (pe_call G_hands_for (hr.mono (by decide)) rfl T.m_hands_for T.k_hands_for T.b_hands_for .nil pass0 (pa_cons (pv 0) (pa_cons (pv 1) pa_nil))) pa_nil)))) pss_nil)
      (pss_one (ps_ret (pe_lc (own := [("sign", 4)]) (g := (gName 4)) (tt := tYes) (by rfl) sc_further.nd (pi_seq (pv 3)) (blkOk_by (N := ["house", "deed", "mark", "signs", "sign"]) (sc := defScope s_further) (by decide +kernel)) (fun _ _ _ _ _ => (pg_name (i := 4) sc_further.nd rfl (Or.inl rfl))) (fun _ _ _ _ _ => pts_nil) (fun _ _ _ _ _ => (pe_op (show OpR _ (binaryOp .Add) (uAdd K) from uo_add) (pv 2) (pv 4)))))))), ?_⟩
    simp only [cxOf, Cx.nox, Cx.wish, Cx.blk, startD, List.map, List.length_cons, List.length_nil, Nat.reduceAdd, Nat.reduceSub, List.replicate, List.cons_append, List.nil_append]
    have fin : ∀ xs : List Str, furF hs d m = xs.map (m ++ ·) → (∀ s ∈ xs, s.length = 1) → xs.length ≤ 7 →
        StC K (tRet (tLc (iSeq K (tVar 3)) (gName 4) tYes (tOp (uAdd K) (tVar 2) (tVar 4)) [4])) [some (.d (houseD hs)), some (.d (.int d)), some (.d (.str m)), some (.d (strsD xs)), none] G [] (endsD Qd) := by
      intro xs e h1 h2
      refine st_ret ?_
      refine evn_c (evn_lcM xs D.str (fun _ => true) (fun s => .str (m ++ s)) ?_)
      refine evi_seq (evc_varX ⟨_, rfl, _, _, rfl, rfl, ?_⟩)
      refine ⟨rfl, lt_line (by omega), ?_, ?_⟩
      · intro s hs1
        have := h1 s hs1
        walk_at "go"
        refine ⟨rfl, fun _ => ?_, fun e => (by cases e)⟩
        walk_at "go"
        refine u_add_s (le_line (by omega)) ?_
        exact ⟨rfl, rfl, rfl⟩
      rw [filter_yes]
      unfold strsD at q
      rw [e, List.map_map] at q
      exact ⟨_, rfl, q⟩
    walk_at "go"
    have hh := hands_len hs d
    refine iteB (fun hne => ?_) (fun hem => ?_)
    · walk_at "go"
      refine mt_ext_lX ⟨_, _, rfl, rfl, ?_, ?_⟩
      · rw [List.length_map]
        exact le_line (by show 1 + _ ≤ _; omega)
      refine st_frz 0 ⟨_, _, rfl, rfl, ?_⟩
      refine fin ("." :: handsF hs d) ?_ ?_ (by rw [List.length_cons]; omega)
      · unfold furF
        rw [if_neg (by rw [Bool.not_eq_true'] at hne; rw [hne]; decide)]
      · intro s h
        rcases List.mem_cons.mp h with rfl | h
        · rfl
        · exact hands_one h
    · refine st_next ?_
      refine st_frz 0 ⟨_, _, rfl, rfl, ?_⟩
      refine fin ["."] ?_ ?_ (by decide)
      · unfold furF
        rw [if_pos (by rw [Bool.not_eq_false'] at hem; exact hem)]
      · intro s h
        rw [List.mem_singleton] at h
        rw [h]
        rfl
end
end Pf
namespace Pf
open PySem L2 DL
section
variable {P : Program} {w : World} {K : PySem.W.Frag} {mg : Str → Option Value} {base : Heap}
theorem ok_is_like (T : TX w K mg) : FnOk P w K mg base CX0 1 T.a_is_like T.fd_is_like ["worn", "mark"] (spD K sp_is_like) := by
  refine okD (k := 0) T.F_is_like sc_is_like (fun ss G Qd h => ?_) (fun cdv A outer s H E ss G Qd hr h => ?_)
  · obtain ⟨w0, m, rfl, hl, hm, q⟩ := h
    rfl
  · obtain ⟨w0, m, rfl, hl, hm, q⟩ := h
    refine ⟨_, (pss_one (ps_ret (pe_callB (show CallR _ (.builtin "all") (rAll K) from (cr_all rfl)) (by rfl) T.z_all (by decide +kernel) (pa_cons (pe_lc (own := [("one", 2), ("other", 3)]) (g := (gTup K 2 (gCons (gName 2) (gCons (gName 3) gNil)))) (tt := tYes) (by rfl) sc_is_like.nd (show PI _ _ _ (DZx.iZipX K _ _) from DZx.pi_zipX rfl T.z_zip (pa_cons (pv 0) (pa_cons (pv 1) pa_nil)) (pk_cons pe_bl pk_nil)) (blkOk_by (N := ["worn", "mark", "one", "other"]) (sc := defScope s_is_like) (by decide +kernel)) (fun _ _ _ _ _ => (pg_tup rfl (pgs_cons (pg_name (i := 2) sc_is_like.nd rfl (Or.inl rfl)) (pgs_cons (pg_name (i := 3) sc_is_like.nd rfl (Or.inl rfl)) pgs_nil)))) (fun _ _ _ _ _ => pts_nil) (fun _ _ _ _ _ => (pe_cmpR (show OpR _ (compareOp .In) (uIn K false) from uo_in) (pv 2) (pe_tup (pa_cons (pe_glob (v := .str "?") (by rfl) T.m_WORN ⟨_, rfl⟩) (pa_cons (pv 3) pa_nil))) (by rfl)))) pa_nil)))), ?_⟩
    simp only [cxOf, Cx.nox, Cx.wish, Cx.blk, startD, List.map, List.length_cons, List.length_nil, Nat.reduceAdd, Nat.reduceSub, List.replicate, List.cons_append, List.nil_append]
    walk_at "go"
    · refine evn_c (evn_lcM ((cl w0).zip (cl m)) (fun p => .tup [.str (letS p.1), .str (letS p.2)]) (fun _ => true) (fun p => .bl (likeP p.1 p.2)) ?_)
      refine evi_zipX ?_
      walk_at "go"
      refine ⟨rfl, w0, m, rfl, hl, zip_signs w0 m, lt_line (by rw [List.length_zip, cl_len]; omega), ?_, ?_⟩
      · intro p _
        walk_at "go"
        refine ⟨rfl, fun _ => ?_, fun e => (by cases e)⟩
        walk_at "go"
        refine u_in_s (ns := ["?", letS p.2]) rfl ?_
        exact ⟨by simp [likeP], rfl, rfl⟩
      rw [filter_yes]
      walk_at "go"
      refine ap_allB (bs := ((cl w0).zip (cl m)).map fun p => likeP p.1 p.2) ?_ ?_
      · show some _ = some _
        rw [List.map_map]
        rfl
      · rw [like_all] at q
        exact q
end
end Pf
namespace Pf
open PySem L2 DL
section
variable {P : Program} {w : World} {K : PySem.W.Frag} {mg : Str → Option Value} {base : Heap}
local macro_rules | `(tactic| walk_at "own") => `(tactic| first | (with_reducible refine st_own (i := 4) ?_))
theorem ok_fits (T : TX w K mg) (G_further : FnOk P w K mg base CX0 2 T.a_further T.fd_further ["house", "deed", "mark"] (spD K sp_further)) (G_is_like : FnOk P w K mg base CX0 1 T.a_is_like T.fd_is_like ["worn", "mark"] (spD K sp_is_like)) : FnOk P w K mg base CX0 3 T.a_fits T.fd_fits ["house", "worn"] (spD K sp_fits) := by
  refine okD (k := 2) T.F_fits sc_fits (fun ss G Qd h => ?_) (fun cdv A outer s H E ss G Qd hr h => ?_)
  · obtain ⟨hs, w0, rfl, hl, hw, q⟩ := h
    rfl
  · obtain ⟨hs, w0, rfl, hl, hw, q⟩ := h
    refine ⟨_, (pss_cons (ps_set (i := 2) sc_fits.nd rfl (Or.inl rfl) (pe_lst (pa_cons pe_str pa_nil)))
      (pss_cons (ps_for PassesOwn.never rfl (pi_range1 rfl T.z_range (pa_cons (pe_glob (v := .int 4) (by rfl) T.m_DEEDS ⟨_, rfl⟩) pa_nil)) (pg_name (i := 3) sc_fits.nd rfl (Or.inr rfl)) (pss_cons (ps_set (i := 4) sc_fits.nd rfl (Or.inl rfl) (pe_lst pa_nil))
      (pss_cons (ps_for PassesOwn.never rfl (pi_seq (pv 2)) (pg_name (i := 5) sc_fits.nd rfl (Or.inl rfl)) (pss_one (ps_expr (pe_bm PySem.F.plainAttrs_list PySem.F.slot_list_extend PySem.F.type_list_extend mt_extend (pv 4) (pa_cons (pe_lc (own := [("one", 6)]) (g := (gName 6)) (by rfl) sc_fits.nd (pi_seq (pe_call G_further (hr.mono (by decide)) rfl T.m_further T.k_further T.b_further .nil pass0 (pa_cons (pv 0) (pa_cons (pv 3) (pa_cons (pv 5) pa_nil))))) (blkOk_by (N := ["house", "worn", "found", "deed", "longer", "mark", "one"]) (sc := defScope s_fits) (by decide +kernel)) (fun _ _ _ _ _ => (pg_name (i := 6) sc_fits.nd rfl (Or.inl rfl))) (fun _ _ _ _ _ => (pts_one (pt_val (pe_call G_is_like (hr.mono (by decide)) rfl T.m_is_like T.k_is_like T.b_is_like .nil pass0 (pa_cons (pe_slice (show SlR _ (uSl K) from us_sl) (pv 1) po_none (po_some (pe_op (show OpR _ (binaryOp .Add) (uAdd K) from uo_add) (pv 3) pe_int))) (pa_cons (pv 6) pa_nil)))))) (fun _ _ _ _ _ => (pv 6))) pa_nil)))))
      (pss_one (ps_set (i := 2) sc_fits.nd rfl (Or.inl rfl) (pv 4))))))
      (pss_one (ps_ret (pe_callTy (show CallR _ (.type "tuple") (uTuple K) from uc_tuple) (by rfl) T.z_tuple (by decide +kernel) (pa_cons (pe_callB (show CallR _ (.builtin "sorted") (DSo.rSortedA K) from DSo.uc_sortedA) (by rfl) T.z_sorted (by decide +kernel) (pa_cons (pv 2) pa_nil)) pa_nil)))))), ?_⟩
    simp only [cxOf, Cx.nox, Cx.wish, Cx.blk, startD, List.map, List.length_cons, List.length_nil, Nat.reduceAdd, Nat.reduceSub, List.replicate, List.cons_append, List.nil_append]
    walk_at "go"
    refine st_for ?_
    walk_at "go"
    refine ⟨by decide, by decide, ?_⟩
    refine ⟨fun i Δ' G' L' => ∃ (x3 x4 x5 : Option S), Δ' = [some (.d (houseD hs)), some (.d (.str w0)), some (.d (strsD (fitN hs w0 i))), x3, x4, x5, none] ∧ G' = G ∧ L' = [], ⟨none, none, none, rfl, rfl, rfl⟩, ?_, ?_⟩
    · rintro i d Δ' G' L' hd ⟨x3, x4, x5, rfl, rfl, rfl⟩
      obtain ⟨hi, rfl⟩ := rngD_get hd
      have hi4 : i < 4 := hi
      have h7 := line7 (by omega) (fitN_len hl w0 i)
      rw [Int.zero_add]
      walk_at "go"
      refine st_for ?_
      refine evi_seq (evc_varX ⟨_, rfl, _, _, rfl, rfl, ?_⟩)
      refine ⟨fun j Δ2 G2 L2 => ∃ x5 : Option S, Δ2 = [some (.d (houseD hs)), some (.d (.str w0)), some (.d (strsD (fitN hs w0 i))), some (.d (.int (i : Int))), some (.l 0), x5, none] ∧ G2 = G' ∧
        L2 = [.pl ((((fitN hs w0 i).take j).flatMap fun m => (furF hs i m).filter fun x => likeF (cutS w0 none (some ((i : Int) + 1))) x).map D.str)], ⟨_, rfl, rfl, rfl⟩, ?_, ?_⟩
      · rintro j d Δ2 G2 L2 hd ⟨x5, rfl, rfl, rfl⟩
        obtain ⟨m, hm, rfl⟩ := get_mapE hd
        have hmm := List.mem_of_getElem? hm
        have hml := fitN_mem hmm
        have hfl := fur_len hl i m
        have hcut : (cutS w0 none (some ((i : Int) + 1))).length = i + 1 := cut_len (k := i + 1) (by omega)
        have hpre : (((fitN hs w0 i).take j).flatMap fun m => (furF hs i m).filter fun x => likeF (cutS w0 none (some ((i : Int) + 1))) x).length ≤ 2401 * 7 := by
          refine Nat.le_trans (flat_len (n := 7) fun a _ => Nat.le_trans (List.length_filter_le ..) (fur_len hl i a)) (Nat.mul_le_mul_right 7 ?_)
          rw [List.length_take]
          omega
        walk_at "go"
        refine evn_c (evn_lcM (furF hs i m) D.str (fun x => likeF (cutS w0 none (some ((i : Int) + 1))) x) D.str ?_)
        refine evi_seq ?_
        walk_at "go"
        refine ⟨rfl, lt_line (by omega), ?_, ?_⟩
        · intro x hx
          have hx1 := fur_one hx
          walk_at "go"
          refine ⟨by omega, by omega, ?_⟩
          refine ⟨_, rfl, rfl, fun _ => ?_, fun _ => ⟨rfl, rfl⟩⟩
          walk_at "go"
          exact ⟨rfl, rfl, rfl⟩
        walk_at "go"
        refine mt_ext_lX ⟨_, _, rfl, rfl, ?_, ?_⟩
        · have := List.length_filter_le (fun x => likeF (cutS w0 none (some ((i : Int) + 1))) x) (furF hs i m)
          rw [List.length_map, List.length_map]
          exact le_line (by omega)
        refine ⟨_, rfl, rfl, ?_⟩
        rw [take_flat hm, List.map_append]
        rfl
      · rintro Δ2 G2 L2 ⟨x5, rfl, rfl, rfl⟩
        refine st_frz 0 ⟨_, _, rfl, rfl, ?_⟩
        walk_at "go"
        rw [List.length_map, List.take_length]
        exact ⟨_, _, _, rfl, rfl, rfl⟩
    · rintro Δ' G' L' ⟨x3, x4, x5, rfl, rfl, rfl⟩
      walk_at "go"
      refine apn_c (ap_sortedX ⟨_, rfl, ?_⟩)
      refine ⟨_, rfl, ?_⟩
      walk_at "go"
      exact q
end
end Pf
namespace Pf
open PySem L2 DL
section
variable {P : Program} {w : World} {K : PySem.W.Frag} {mg : Str → Option Value} {base : Heap}
local macro_rules | `(tactic| walk_at "own") => `(tactic| first | (with_reducible refine st_own (i := 2) ?_) | (with_reducible refine st_own (i := 5) ?_))
theorem ok_l_marks (T : TX w K mg) : FnOk P w K mg base CX0 1 T.a_l_marks T.fd_l_marks ["_law_house_here"] (spD K sp_l_marks) := by
  refine okD (k := 0) T.F_l_marks sc_l_marks (fun ss G Qd h => ?_) (fun cdv A outer s H E ss G Qd hr h => ?_)
  · obtain ⟨hs, rfl, hl, q⟩ := h
    rfl
  · obtain ⟨hs, rfl, hl, q⟩ := h
    refine ⟨_, (pss_cons (ps_set (i := 1) sc_l_marks.nd rfl (Or.inl rfl) (pe_lst (pa_cons pe_str pa_nil)))
      (pss_cons (ps_set (i := 2) sc_l_marks.nd rfl (Or.inl rfl) (pe_lst pa_nil))
      (pss_cons (ps_for PassesOwn.never rfl (pi_range1 rfl T.z_range (pa_cons pe_int pa_nil)) (pg_name (i := 3) sc_l_marks.nd rfl (Or.inr rfl)) (pss_cons (ps_expr (pe_bm PySem.F.plainAttrs_list PySem.F.slot_list_extend PySem.F.type_list_extend mt_extend (pv 2) (pa_cons (pe_lc (own := [("_law_mark", 4)]) (g := (gName 4)) (tt := tYes) (by rfl) sc_l_marks.nd (pi_seq (pv 1)) (blkOk_by (N := ["_law_house_here", "_law_done", "_law_found", "_law_deed", "_law_mark", "_law_longer", "_law_letter", "_law_crafts"]) (sc := defScope s_l_marks) (by decide +kernel)) (fun _ _ _ _ _ => (pg_name (i := 4) sc_l_marks.nd rfl (Or.inl rfl))) (fun _ _ _ _ _ => pts_nil) (fun _ _ _ _ _ => (pe_op (show OpR _ (binaryOp .Add) (uAdd K) from uo_add) (pv 4) (pe_slice (show SlR _ (uSl K) from us_sl) pe_str (po_some (pv 3)) po_none)))) pa_nil)))
      (pss_cons (ps_set (i := 5) sc_l_marks.nd rfl (Or.inl rfl) (pe_lst pa_nil))
      (pss_cons (ps_for PassesOwn.never rfl (pi_seq (pv 0)) (pg_tup rfl (pgs_cons (pg_name (i := 6) sc_l_marks.nd rfl (Or.inr rfl)) (pgs_cons (pg_name (i := 7) sc_l_marks.nd rfl (Or.inl rfl)) pgs_nil))) (pss_one (ps_if (pt_cmpR (show OpR _ (compareOp .In) (uIn K false) from uo_in) (pv 3) (pv 7) (by rfl)) (pss_one (ps_expr (pe_bm PySem.F.plainAttrs_list PySem.F.slot_list_extend PySem.F.type_list_extend mt_extend (pv 5) (pa_cons (pe_lc (own := [("_law_mark", 4)]) (g := (gName 4)) (tt := tYes) (by rfl) sc_l_marks.nd (pi_seq (pv 1)) (blkOk_by (N := ["_law_house_here", "_law_done", "_law_found", "_law_deed", "_law_mark", "_law_longer", "_law_letter", "_law_crafts"]) (sc := defScope s_l_marks) (by decide +kernel)) (fun _ _ _ _ _ => (pg_name (i := 4) sc_l_marks.nd rfl (Or.inl rfl))) (fun _ _ _ _ _ => pts_nil) (fun _ _ _ _ _ => (pe_op (show OpR _ (binaryOp .Add) (uAdd K) from uo_add) (pv 4) (pv 6)))) pa_nil)))) pss_nil)))
      (pss_one (ps_set (i := 1) sc_l_marks.nd rfl (Or.inl rfl) (pv 5)))))))
      (pss_one (ps_ret (pe_callB (show CallR _ (.builtin "sorted") (DSo.rSortedA K) from DSo.uc_sortedA) (by rfl) T.z_sorted (by decide +kernel) (pa_cons (pe_op (show OpR _ (binaryOp .Add) (uAdd K) from uo_add) (pv 2) (pv 1)) pa_nil))))))), ?_⟩
    simp only [cxOf, Cx.nox, Cx.wish, Cx.blk, startD, List.map, List.length_cons, List.length_nil, Nat.reduceAdd, Nat.reduceSub, List.replicate, List.cons_append, List.nil_append]
    walk_at "go"
    refine st_for ?_
    walk_at "go"
    refine ⟨by decide, by decide, ?_⟩
    refine ⟨fun i Δ' G' L' => ∃ (x3 x5 x6 x7 : Option S), Δ' = [some (.d (houseD hs)), some (.d (strsD (doneN hs i))), some (.l 0), x3, none, x5, x6, x7] ∧ G' = G ∧ L' = [.pl ((foundN hs i).map D.str)], ⟨none, none, none, none, rfl, rfl, rfl⟩, ?_, ?_⟩
    · rintro i d Δ' G' L' hd ⟨x3, x5, x6, x7, rfl, rfl, rfl⟩
      obtain ⟨hi, rfl⟩ := rngD_get hd
      have hi4 : i < 4 := hi
      have h6 := line6 (by omega) (done_len hl i)
      have hf : (foundN hs i).length ≤ 6480 := by
        have h1 := found_len hl i
        have h2 : i * 6 ^ i ≤ 4 * 6 ^ 4 := Nat.mul_le_mul (by omega) (Nat.pow_le_pow_right (by decide) (by omega))
        omega
      rw [Int.zero_add]
      walk_at "go"
      refine evn_c (evn_lcM (doneN hs i) D.str (fun _ => true) (fun m => .str (m ++ dots i)) ?_)
      refine evi_seq (evc_varX ⟨_, rfl, _, _, rfl, rfl, ?_⟩)
      refine ⟨rfl, lt_line (by omega), ?_, ?_⟩
      · intro m hm
        have h1 := done_mem hm
        have h2 := dots_len i (by omega)
        walk_at "go"
        refine ⟨rfl, fun _ => ?_, fun e => (by cases e)⟩
        walk_at "go"
        refine sl_s (le_line (by decide)) ?_
        refine u_add_s (le_line (by show m.length + (dots i).length ≤ _; omega)) ?_
        exact ⟨rfl, rfl, rfl⟩
      rw [filter_yes]
      walk_at "go"
      refine mt_ext_lX ⟨_, _, rfl, rfl, ?_, ?_⟩
      · rw [List.length_map, List.length_map]
        exact le_line (by omega)
      walk_at "go"
      refine st_for ?_
      refine evi_seq (evc_varX ⟨_, rfl, _, _, rfl, rfl, ?_⟩)
      refine ⟨fun j Δ2 G2 L2 => ∃ x6 x7 : Option S, Δ2 = [some (.d (houseD hs)), some (.d (strsD (doneN hs i))), some (.l 0), some (.d (.int (i : Int))), none, some (.l 1), x6, x7] ∧ G2 = G' ∧
        L2 = [.pl ((foundN hs i).map D.str ++ (doneN hs i).map fun m => D.str (m ++ dots i)), .pl (((hs.take j).flatMap fun h => if does i h = true then (doneN hs i).map (· ++ letS h.1) else []).map D.str)], ⟨_, _, rfl, rfl, rfl⟩, ?_, ?_⟩
      · rintro j d Δ2 G2 L2 hd ⟨x6, x7, rfl, rfl, rfl⟩
        obtain ⟨h, hm, rfl⟩ := get_mapE hd
        have hpre : ((hs.take j).flatMap fun h => if does i h = true then (doneN hs i).map (· ++ letS h.1) else []).length ≤ 6 * 1296 := by
          refine Nat.le_trans (flat_len (n := 1296) fun a _ => ?_) (Nat.mul_le_mul_right _ (by rw [List.length_take]; omega))
          split
          · rw [List.length_map]
            exact h6
          · exact Nat.zero_le _
        show TgC K _ _ (.d (.tup [.str (letS h.1), .tup (h.2.map D.int)])) _ _ _ _
        walk_at "go"
        refine iteD (fun hin => ?_) (fun hout => ?_)
        · walk_at "go"
          refine evn_c (evn_lcM (doneN hs i) D.str (fun _ => true) (fun m => .str (m ++ letS h.1)) ?_)
          refine evi_seq (evc_varX ⟨_, rfl, _, _, rfl, rfl, ?_⟩)
          refine ⟨rfl, lt_line (by omega), ?_, ?_⟩
          · intro m hm
            have h1 := done_mem hm
            walk_at "go"
            refine ⟨rfl, fun _ => ?_, fun e => (by cases e)⟩
            walk_at "go"
            refine u_add_s (le_line (by rw [letS_len]; omega)) ?_
            exact ⟨rfl, rfl, rfl⟩
          rw [filter_yes]
          walk_at "go"
          refine mt_ext_lX ⟨_, _, rfl, rfl, ?_, ?_⟩
          · rw [List.length_map, List.length_map]
            exact le_line (by omega)
          refine ⟨_, _, rfl, rfl, ?_⟩
          rw [take_flat hm, if_pos (show does i h = true from decide_eq_true hin), List.map_append, List.map_map]
          rfl
        · walk_at "go"
          rw [take_flat hm, if_neg (by rw [show does i h = false from decide_eq_false hout]; decide), List.append_nil]
      · rintro Δ2 G2 L2 ⟨x6, x7, rfl, rfl, rfl⟩
        refine st_frz 1 ⟨_, _, rfl, rfl, ?_⟩
        walk_at "go"
        rw [List.length_map, List.take_length]
        refine ⟨_, _, _, _, rfl, rfl, ?_⟩
        show [M.pl _] = [M.pl ((foundN hs i ++ (doneN hs i).map (· ++ dots i)).map D.str)]
        rw [List.map_append, List.map_map]
        rfl
    · rintro Δ' G' L' ⟨x3, x5, x6, x7, rfl, rfl, rfl⟩
      walk_at "go"
      have h1 := found_len hl 4
      have h2 := done_len hl 4
      refine ⟨by rw [List.length_map, List.length_map]; exact le_line (by show (foundN hs 4).length + (doneN hs 4).length ≤ _; omega), _, rfl, ?_⟩
      walk_at "go"
      refine apn_c (ap_sortedX ⟨foundN hs 4 ++ doneN hs 4, ?_, ?_⟩)
      · show some _ = some _
        rw [List.map_append]
        rfl
      · exact ⟨_, rfl, q⟩
end
end Pf
namespace Pf
open PySem L2 DL
section
variable {P : Program} {w : World} {K : PySem.W.Frag} {mg : Str → Option Value} {base : Heap}
theorem ok_is_mark (T : TX w K mg) (G_hands_for : FnOk P w K mg base CX0 1 T.a_hands_for T.fd_hands_for ["house", "deed"] (spD K sp_hands_for)) : FnOk P w K mg base CX0 2 T.a_is_mark T.fd_is_mark ["house", "thing"] (spD K sp_is_mark) := by
  refine okD (k := 1) T.F_is_mark sc_is_mark (fun ss G Qd h => ?_) (fun cdv A outer s H E ss G Qd hr h => ?_)
  · obtain ⟨hs, d, rfl, hl, hp, hz, q⟩ := h
    rfl
  · obtain ⟨hs, d, rfl, hl, hp, hz, q⟩ := h
    refine ⟨_, (pss_cons (ps_if (PW.pt (pw_or (pt_not (pt_val (pe_callB (show CallR _ (.builtin "isinstance") (rIsi K) from call_isi) (by rfl) T.z_isinstance (by decide +kernel) (pa_cons (pv 1) (pa_cons (pe_bltn (v := .ty "str") (u := .type "str") (by rfl) T.z_str (by decide +kernel) rfl) pa_nil))))) (pw_or1 (pt_cmpR (show OpR _ (compareOp .NotEq) (uNe K) from (uo_ne hr.units)) (pe_callB (show CallR _ (.builtin "len") (uLen K) from uc_len) (by rfl) T.z_len (by decide +kernel) (pa_cons (pv 1) pa_nil)) (pe_glob (v := .int 4) (by rfl) T.m_DEEDS ⟨_, rfl⟩) (nomark _))))) (pss_one (ps_ret pe_bl)) pss_nil)
      (pss_cons (ps_set (i := 2) sc_is_mark.nd rfl (Or.inl rfl) (pe_m1 PySem.F.slot_str_rstrip PySem.F.type_str_rstrip mt_rstripChars (pv 1) (pe_glob (v := .str ".") (by rfl) T.m_BARE ⟨_, rfl⟩)))
      (pss_one (ps_ret (pe_callB (show CallR _ (.builtin "all") (rAll K) from (cr_all rfl)) (by rfl) T.z_all (by decide +kernel) (pa_cons (pe_lc (own := [("deed", 3), ("sign", 4)]) (g := (gTup K 2 (gCons (gName 3) (gCons (gName 4) gNil)))) (tt := tYes) (by rfl) sc_is_mark.nd (show PI _ _ _ (DZx.iEnumX K _) from DZx.pi_enumX rfl T.z_enumerate (pa_cons (pv 2) pa_nil)) (blkOk_by (N := ["house", "thing", "done", "deed", "sign"]) (sc := defScope s_is_mark) (by decide +kernel)) (fun _ _ _ _ _ => (pg_tup rfl (pgs_cons (pg_name (i := 3) sc_is_mark.nd rfl (Or.inl rfl)) (pgs_cons (pg_name (i := 4) sc_is_mark.nd rfl (Or.inl rfl)) pgs_nil)))) (fun _ _ _ _ _ => pts_nil) (fun _ _ _ _ _ => (pe_cmpR (show OpR _ (compareOp .In) (uIn K false) from uo_in) (pv 4) (pe_call G_hands_for (hr.mono (by decide)) rfl T.m_hands_for T.k_hands_for T.b_hands_for .nil pass0 (pa_cons (pv 0) (pa_cons (pv 3) pa_nil))) (by rfl)))) pa_nil)))))), ?_⟩
    simp only [cxOf, Cx.nox, Cx.wish, Cx.blk, startD, List.map, List.length_cons, List.length_nil, Nat.reduceAdd, Nat.reduceSub, List.replicate, List.cons_append, List.nil_append]
    have no : isMarkX hs d = false → (∀ z, d ≠ .str z) → Qd (.v (.d (.bl false))) G := fun h _ => by
      rw [h] at q
      exact q
    cases d with
    | str z =>
      have hz := hz z rfl
      walk_at "go"
      refine ap_lenS (le_line (by omega)) ?_
      walk_at "go"
      refine iteND (fun h4 => ?_) (fun h4 => ?_)
      · walk_at "go"
        have e : isMarkX hs (.str z) = false := by
          rw [isMarkX_str, decide_eq_false (by omega), Bool.false_and]
        rw [e] at q
        exact q
      have h4 : z.length = 4 := by omega
      have e : isMarkX hs (.str z) = isMarkF hs z := by
        rw [isMarkX_str, decide_eq_true h4, Bool.true_and]
      rw [e] at q
      walk_at "go"
      refine mt_rstripD (le_line (by omega)) ?_
      have hr := rstrip_len z "."
      rw [isMark_all] at q
      generalize Txt.rstripChars z "." = y at hr q ⊢
      walk_at "go"
      refine evn_c (evn_lcM (cl y).zipIdx (fun p => .tup [.int (p.2 : Int), .str (letS p.1)]) (fun _ => true) (fun p => .bl (decide (letS p.1 ∈ handsF hs p.2))) ?_)
      refine evi_enumX ?_
      walk_at "go"
      refine ⟨enumD_map (fun c => .str (letS c)) (cl y) 0, lt_line (by rw [List.length_zipIdx, cl_len]; omega), ?_, ?_⟩
      · intro p _
        walk_at "go"
        refine ⟨rfl, fun _ => ?_, fun e => (by cases e)⟩
        walk_at "go"
        exact ⟨rfl, rfl, rfl⟩
      rw [filter_yes]
      walk_at "go"
      refine ap_allB (bs := (cl y).zipIdx.map fun p => decide (letS p.1 ∈ handsF hs p.2)) ?_ ?_
      · show some _ = some _
        rw [List.map_map]
        rfl
      · exact q
    | non =>
      walk_at "go"
      exact q
    | bl b =>
      walk_at "go"
      exact q
    | int i =>
      walk_at "go"
      exact q
    | tup ds =>
      walk_at "go"
      exact q
    | lst ds =>
      walk_at "go"
      exact q
    | dct kvs =>
      walk_at "go"
      exact q
    | ty n => exact absurd hp (by rintro ⟨p, h⟩; cases h)
    | ref a => exact absurd hp (by rintro ⟨p, h⟩; cases h)
    | scr ns => exact absurd hp (by rintro ⟨p, h⟩; cases h)
    | ins C fs => exact absurd hp (by rintro ⟨p, h⟩; cases h)
    | exn a dd fs => exact absurd hp (by rintro ⟨p, h⟩; cases h)
end
end Pf
namespace Pf
open PySem L2 DL
section
variable {P : Program} {w : World} {K : PySem.W.Frag} {mg : Str → Option Value} {base : Heap}
local macro_rules | `(tactic| walk_at "own") => `(tactic| first | (with_reducible refine st_own (i := 5) ?_))
theorem ok_l_house (T : TX w K mg) (G_l_draw : FnOk P w K mg base CX0 1 T.a_l_draw T.fd_l_draw ["_law_deck_here", "_law_most"] (spD K sp_l_draw)) : FnOk P w K mg base CX0 2 T.a_l_house T.fd_l_house ["_law_deck_here"] (spD K sp_l_house) := by
  refine okD (k := 1) T.F_l_house sc_l_house (fun ss G Qd h => ?_) (fun cdv A outer s H E ss G Qd hr h => ?_)
  · obtain ⟨k, c, n, cells, seed, cnt, rfl, hD, hn, q⟩ := h
    rfl
  · obtain ⟨k, c, n, cells, seed, cnt, rfl, hD, hn, q⟩ := h
    refine ⟨_, (pss_cons (ps_set (i := 1) sc_l_house.nd rfl (Or.inl rfl) (pe_call G_l_draw (hr.mono (by decide)) rfl T.m_l_draw T.k_l_draw T.b_l_draw .nil pass0 (pa_cons (pv 0) (pa_cons pe_int pa_nil))))
      (pss_cons (ps_set (i := 2) sc_l_house.nd rfl (Or.inl rfl) (pe_op (show OpR _ (binaryOp .Add) (uAdd K) from uo_add) pe_int (pe_call G_l_draw (hr.mono (by decide)) rfl T.m_l_draw T.k_l_draw T.b_l_draw .nil pass0 (pa_cons (pv 0) (pa_cons pe_int pa_nil)))))
      (pss_cons (ps_set (i := 3) sc_l_house.nd rfl (Or.inl rfl) (pe_call G_l_draw (hr.mono (by decide)) rfl T.m_l_draw T.k_l_draw T.b_l_draw .nil pass0 (pa_cons (pv 0) (pa_cons pe_int pa_nil))))
      (pss_cons (ps_set (i := 4) sc_l_house.nd rfl (Or.inl rfl) (pe_ix (show IxR _ (rIx K) from ix_seq) (pe_lst (pa_cons pe_int (pa_cons pe_int (pa_cons pe_int (pa_cons pe_int (pa_cons pe_int (pa_cons pe_int pa_nil))))))) (pe_call G_l_draw (hr.mono (by decide)) rfl T.m_l_draw T.k_l_draw T.b_l_draw .nil pass0 (pa_cons (pv 0) (pa_cons pe_int pa_nil))) (fun _ _ => rfl)))
      (pss_cons (ps_set (i := 5) sc_l_house.nd rfl (Or.inl rfl) (pe_lst pa_nil))
      (pss_cons (ps_for PassesOwn.never rfl (pi_range1 rfl T.z_range (pa_cons (pv 2) pa_nil)) (pg_name (i := 6) sc_l_house.nd rfl (Or.inl rfl)) (pss_cons (ps_set (i := 7) sc_l_house.nd rfl (Or.inl rfl) (pe_ix (show IxR _ (rIx K) from ix_seq) pe_str (pe_op op_mod (pe_op (show OpR _ (binaryOp .Add) (uAdd K) from uo_add) (pv 3) (pe_op (show OpR _ (binaryOp .Mult) (uMulT K) from uo_mulT) (pv 4) (pv 6))) pe_int) (fun _ _ => rfl)))
      (pss_cons (ps_set (i := 8) sc_l_house.nd rfl (Or.inr rfl) (pe_call G_l_draw (hr.mono (by decide)) rfl T.m_l_draw T.k_l_draw T.b_l_draw .nil pass0 (pa_cons (pv 0) (pa_cons pe_int pa_nil))))
      (pss_cons (ps_set (i := 9) sc_l_house.nd rfl (Or.inl rfl) (pe_callTy (show CallR _ (.type "tuple") (uTuple K) from uc_tuple) (by rfl) T.z_tuple (by decide +kernel) (pa_cons (pe_lc (own := [("_law_deed", 10)]) (g := (gName 10)) (by rfl) sc_l_house.nd (pi_range1 rfl T.z_range (pa_cons pe_int pa_nil)) (blkOk_by (N := ["_law_deck_here", "_law_way", "_law_many", "_law_first", "_law_step", "_law_found", "_law_k", "_law_letter", "_law_sure", "_law_crafts", "_law_deed"]) (sc := defScope s_l_house) (by decide +kernel)) (fun _ _ _ _ _ => (pg_name (i := 10) sc_l_house.nd rfl (Or.inl rfl))) (fun _ _ _ _ _ => (pts_one (PW.pt (pw_or (pt_cmpR (show OpR _ (compareOp .Eq) (uEq K) from (uo_eq hr.units)) (pv 10) (pv 8) (nomark _)) (pw_or1 (pt_cmpR (show OpR _ (compareOp .Eq) (uEq K) from (uo_eq hr.units)) (pe_call G_l_draw (hr.mono (by decide)) rfl T.m_l_draw T.k_l_draw T.b_l_draw .nil pass0 (pa_cons (pv 0) (pa_cons pe_int pa_nil))) pe_int (nomark _))))))) (fun _ _ _ _ _ => (pv 10))) pa_nil)))
      (pss_one (ps_expr (pe_bm PySem.F.plainAttrs_list PySem.F.slot_list_append PySem.F.type_list_append mt_append (pv 5) (pa_cons (pe_tup (pa_cons (pv 7) (pa_cons (pe_ix (show IxR _ (rIx K) from ix_seq) (pe_lst (pa_cons (pe_tup (pa_cons pe_int (pa_cons pe_int (pa_cons pe_int (pa_cons pe_int pa_nil))))) (pa_cons (pe_tup (pa_cons (pe_op op_mod (pv 6) pe_int) pa_nil)) (pa_cons (pv 9) (pa_cons (pv 9) pa_nil))))) (pv 1) (fun _ _ => rfl)) pa_nil))) pa_nil))))))))
      (pss_one (ps_ret (pe_callTy (show CallR _ (.type "tuple") (uTuple K) from uc_tuple) (by rfl) T.z_tuple (by decide +kernel) (pa_cons (pv 5) pa_nil)))))))))), ?_⟩
    simp only [cxOf, Cx.nox, Cx.wish, Cx.blk, startD, List.map, List.length_cons, List.length_nil, Nat.reduceAdd, Nat.reduceSub, List.replicate, List.cons_append, List.nil_append]
    walk_at "god"
    rename_i way G1 _ _ _ t1 D1 wy0 wy1 many G2 _ _ _ t2 D2 mn0 mn1 first G3 _ _ _ t3 D3 fs0 fs1 sx G4 _ _ _ t4 D4 sx0 sx1
    refine u_ix_all ⟨_, rfl, by assumption, by show _ < (6 : Int); assumption, fun d hd => ?_⟩
    obtain ⟨st, rfl, hs1⟩ : ∃ z : Int, d = .int z ∧ (z = 1 ∨ z = 3 ∨ z = 5 ∨ z = 7 ∨ z = 9 ∨ z = 11) := by
      revert d
      simp only [List.forall_mem_cons]
      exact ⟨⟨_, rfl, by decide⟩, ⟨_, rfl, by decide⟩, ⟨_, rfl, by decide⟩, ⟨_, rfl, by decide⟩, ⟨_, rfl, by decide⟩, ⟨_, rfl, by decide⟩, fun _ h => by cases h⟩
    walk_at "god"
    refine st_for ?_
    walk_at "god"
    refine ⟨by omega, by omega, ?_⟩
    refine ⟨fun i Δ' G' L' => ∃ (hs : Hands) (x6 x7 x8 x9 : Option S), Δ' = [some (.g k), some (.d (.int way)), some (.d (.int (1 + many))), some (.d (.int first)), some (.d (.int st)), some (.l 0), x6, x7, x8, x9, none] ∧
      L' = [.pl (hs.map handD)] ∧ (hs.length = i ∧ hs.map (·.1) = (List.range i).map (abcAt first st)) ∧ (∀ h ∈ hs, 97 ≤ h.1 ∧ h.1 ≤ 122 ∧ h.2.length ≤ 4) ∧ DkTo G k c (n + 4 + 10 * (i : Int)) G', ?_, ?_, ?_⟩
    · exact ⟨[], none, none, none, none, rfl, rfl, ⟨rfl, rfl⟩, (fun h z => by cases z), (t1.trans (t2.trans (t3.trans t4))).mono (by omega)⟩
    · rintro i d Δ' G' L' hd ⟨hs, x6, x7, x8, x9, rfl, rfl, ⟨hhl, hhn⟩, hhr, t⟩
      obtain ⟨hi, rfl⟩ := rngD_get hd
      obtain ⟨_, _, _, Dt⟩ := t.dk
      have hi6 : i < 6 := by omega
      walk_at "god"
      obtain ⟨ch, hch, h97, h122, hce⟩ := abc_at first st i
      refine u_ix_s (le_line (by decide)) hch ?_
      walk_at "god"
      rename_i sure G5 _ _ _ t5 D5 su0 su1
      have t5' := t.trans t5
      refine evn_c (evn_lc ?_)
      walk_at "god"
      refine ⟨by decide, by decide, ?_⟩
      refine ⟨fun i2 acc G' L' => ∃ ms : List Int, acc = ms.map D.int ∧ L' = [.pl (hs.map handD)] ∧ ms.length ≤ i2 ∧ DkTo G k c (n + 4 + 10 * (i : Int) + 1 + (i2 : Int)) G', ⟨[], rfl, rfl, Nat.zero_le _, t5'.mono (by omega)⟩, by decide, ?_, ?_⟩
      · rintro i2 d acc G' L' hd2 - ⟨ms, rfl, rfl, hms, t6⟩
        obtain ⟨hi2, rfl⟩ := rngD_get hd2
        obtain ⟨_, _, _, D6⟩ := t6.dk
        have hi4 : i2 < 4 := by
          have e : (4 : Int).toNat = 4 := rfl
          omega
        have yes : ∀ G7, DkTo G' k c (n + 4 + 10 * (i : Int) + 1 + (i2 : Int) + 1) G7 → ∃ ms' : List Int, ms.map D.int ++ [D.int (0 + (i2 : Int))] = ms'.map D.int ∧ [M.pl (hs.map handD)] = [.pl (hs.map handD)] ∧ ms'.length ≤ i2 + 1 ∧ DkTo G k c (n + 4 + 10 * (i : Int) + 1 + ((i2 + 1 : Nat) : Int)) G7 := fun G7 t7 =>
          ⟨ms ++ [0 + (i2 : Int)], by rw [List.map_append]; rfl, rfl, by rw [List.length_append]; show ms.length + 1 ≤ i2 + 1; omega, (t6.trans t7).mono (by omega)⟩
        have no : ∀ G7, DkTo G' k c (n + 4 + 10 * (i : Int) + 1 + (i2 : Int) + 1) G7 → ∃ ms' : List Int, ms.map D.int = ms'.map D.int ∧ [M.pl (hs.map handD)] = [.pl (hs.map handD)] ∧ ms'.length ≤ i2 + 1 ∧ DkTo G k c (n + 4 + 10 * (i : Int) + 1 + ((i2 + 1 : Nat) : Int)) G7 := fun G7 t7 =>
          ⟨ms, rfl, rfl, by omega, (t6.trans t7).mono (by omega)⟩
        have same : ∃ ms' : List Int, ms.map D.int ++ [D.int (0 + (i2 : Int))] = ms'.map D.int ∧ [M.pl (hs.map handD)] = [.pl (hs.map handD)] ∧ ms'.length ≤ i2 + 1 ∧ DkTo G k c (n + 4 + 10 * (i : Int) + 1 + ((i2 + 1 : Nat) : Int)) G' :=
          ⟨ms ++ [0 + (i2 : Int)], by rw [List.map_append]; rfl, rfl, by rw [List.length_append]; show ms.length + 1 ≤ i2 + 1; omega, t6.mono (by omega)⟩
        repeat' (first | walk_at "f1" | walk_at "d1" | walk_at "d2" | walk_at "draw" | refine iteD (fun _ => ?_) (fun _ => ?_))
        all_goals first | exact same | exact yes _ (by assumption) | exact no _ (by assumption) | exact ⟨rfl, by omega, (t6.trans (by assumption)).mono (by omega)⟩
      · rintro acc G' L' ⟨ms, rfl, rfl, hms, t6⟩
        have hn4 : (rngD 0 (4 : Int).toNat).length = 4 := rfl
        rw [hn4] at hms t6
        walk_at "god"
        refine u_ix_all ⟨_, rfl, by assumption, by show way < (4 : Int); assumption, fun d hd => ?_⟩
        obtain ⟨cs, rfl, hcs⟩ : ∃ cs : List Int, d = .tup (cs.map D.int) ∧ cs.length ≤ 4 := by
          revert d
          simp only [List.forall_mem_cons]
          exact ⟨⟨[0, 1, 2, 3], rfl, by decide⟩, ⟨[_], rfl, by show 1 ≤ 4; decide⟩, ⟨ms, rfl, hms⟩, ⟨ms, rfl, hms⟩, fun _ h => by cases h⟩
        walk_at "god"
        refine mt_app_lX ⟨_, rfl, by rw [List.length_map]; exact lt_line (by omega), ?_⟩
        refine ⟨hs ++ [(ch, cs)], _, _, _, _, rfl, ?_, ⟨by rw [List.length_append]; show hs.length + 1 = i + 1; omega, by rw [List.map_append, hhn, List.range_succ, List.map_append, hce]; rfl⟩, ?_, t6.mono (by omega)⟩
        · show [M.pl ((hs.map handD) ++ [_])] = [M.pl ((hs ++ [(ch, cs)]).map handD)]
          rw [List.map_append]
          rfl
        · intro h hh
          rcases List.mem_append.mp hh with z | z
          · exact hhr h z
          · rw [List.mem_singleton] at z
            subst z
            exact ⟨h97, h122, hcs⟩
    · rintro Δ' G' L' ⟨hs, x6, x7, x8, x9, rfl, rfl, ⟨hhl, hhn⟩, hhr, t⟩
      rw [rngD_len] at hhl hhn t
      walk_at "god"
      exact q hs _ ⟨by omega, by omega, hhr⟩ (by rw [hhn]; exact abc_nd hs1 (by omega)) (t.mono (by omega))
end
end Pf
namespace Pf
open PySem L2 DL
section
variable {P : Program} {w : World} {K : PySem.W.Frag} {mg : Str → Option Value} {base : Heap}
theorem ok_fit_all (T : TX w K mg) (G_fits : FnOk P w K mg base CX0 3 T.a_fits T.fd_fits ["house", "worn"] (spD K sp_fits)) (G_is_like : FnOk P w K mg base CX0 1 T.a_is_like T.fd_is_like ["worn", "mark"] (spD K sp_is_like)) : FnOk P w K mg base CX0 4 T.a_fit_all T.fd_fit_all ["house", "several"] (spD K sp_fit_all) := by
  refine okD (k := 3) T.F_fit_all sc_fit_all (fun ss G Qd h => ?_) (fun cdv A outer s H E ss G Qd hr h => ?_)
  · obtain ⟨hs, ws, rfl, hh, ⟨h1, h2⟩, hw, q⟩ := h
    rfl
  · obtain ⟨hs, ws, rfl, hh, ⟨h1, h2⟩, hw, q⟩ := h
    refine ⟨_, (pss_one (ps_ret (pe_callTy (show CallR _ (.type "tuple") (uTuple K) from uc_tuple) (by rfl) T.z_tuple (by decide +kernel) (pa_cons (pe_lc (own := [("mark", 2)]) (g := (gName 2)) (by rfl) sc_fit_all.nd (pi_seq (pe_call G_fits (hr.mono (by decide)) rfl T.m_fits T.k_fits T.b_fits .nil pass0 (pa_cons (pv 0) (pa_cons (pe_ix (show IxR _ (rIx K) from ix_seq) (pv 1) pe_int (fun _ _ => rfl)) pa_nil)))) (blkOk_by (N := ["house", "several", "mark", "worn"]) (sc := defScope s_fit_all) (by decide +kernel)) (fun _ _ _ _ _ => (pg_name (i := 2) sc_fit_all.nd rfl (Or.inr rfl))) (fun _ _ _ _ _ => (pts_one (pt_val (pe_callB (show CallR _ (.builtin "all") (rAll K) from (cr_all rfl)) (by rfl) T.z_all (by decide +kernel) (pa_cons (pe_lc (own := [("worn", 3)]) (g := (gName 3)) (tt := tYes) (by rfl) sc_fit_all.nd (show PI _ _ _ (iSeq K _) from pi_seq (pv 1)) (blkOk_by (by rfl)) (fun _ _ _ _ _ => (pg_name (i := 3) sc_fit_all.nd rfl (Or.inl rfl))) (fun _ _ _ _ _ => pts_nil) (fun _ _ _ _ _ => (pe_call G_is_like (hr.mono (by decide)) rfl T.m_is_like T.k_is_like T.b_is_like .nil pass0 (pa_cons (pv 3) (pa_cons (pv 2) pa_nil))))) pa_nil))))) (fun _ _ _ _ _ => (pv 2))) pa_nil)))), ?_⟩
    simp only [cxOf, Cx.nox, Cx.wish, Cx.blk, startD, List.map, List.length_cons, List.length_nil, Nat.reduceAdd, Nat.reduceSub, List.replicate, List.cons_append, List.nil_append]
    have hl6 := hh.l1
    obtain ⟨w0, wr, rfl⟩ : ∃ w0 wr, ws = w0 :: wr := by
      cases ws with
      | nil => exact absurd h1 (by decide)
      | cons a r => exact ⟨a, r, rfl⟩
    have h0 := hw w0 List.mem_cons_self
    rw [← fitall_eq hh h0] at q
    have hle : (fitsF hs w0).length ≤ 6480 := by
      rw [fits_eq hh h0]
      exact Nat.le_trans (List.length_filter_le ..) (marks_len hl6)
    have hm4 : ∀ m ∈ fitsF hs w0, m.length = 4 := fun m h => by
      rw [fits_eq hh h0] at h
      exact marks_mem (List.mem_filter.mp h).1
    walk_at "go"
    refine evn_c (evn_lcM (fitsF hs w0) D.str (fun m => (w0 :: wr).all fun w => likeF w m) D.str ?_)
    refine evi_seq ?_
    walk_at "go"
    refine u_ix_g (show seqG _ _ _ = some ((w0 :: wr).map D.str) from rfl) (atI_of (j := 0) rfl rfl) ?_
    walk_at "go"
    refine ⟨hl6, h0, ?_⟩
    refine ⟨_, _, rfl, rfl, rfl, lt_line (by omega), ?_, ?_⟩
    · intro m hm
      have hm4 := hm4 m hm
      walk_at "go"
      refine evn_c (evn_lcM (w0 :: wr) D.str (fun _ => true) (fun w => .bl (likeF w m)) ?_)
      refine evi_seq (evc_varX ⟨_, rfl, _, _, rfl, rfl, ?_⟩)
      refine ⟨rfl, lt_line (by omega), ?_, ?_⟩
      · intro w1 hw1
        have hw4 := hw w1 hw1
        walk_at "go"
        refine ⟨rfl, fun _ => ?_, fun e => (by cases e)⟩
        walk_at "go"
        refine ⟨by omega, by omega, ?_⟩
        exact ⟨rfl, rfl, rfl⟩
      rw [filter_yes]
      walk_at "go"
      refine ap_allB (bs := (w0 :: wr).map fun w => likeF w m) ?_ ?_
      · show some _ = some _
        rw [List.map_map]
        rfl
      rw [List.all_map]
      refine ⟨_, rfl, rfl, fun _ => ?_, fun _ => ⟨rfl, rfl⟩⟩
      walk_at "go"
      exact ⟨rfl, rfl, rfl⟩
    walk_at "go"
    exact q
end
end Pf
namespace Pf
open PySem L2 DL
section
variable {P : Program} {w : World} {K : PySem.W.Frag} {mg : Str → Option Value} {base : Heap}
local macro_rules | `(tactic| walk_at "d1") => `(tactic| with_reducible refine evc_boolIx ?_)
theorem ok_sure_of (T : TX w K mg) (G_fit_all : FnOk P w K mg base CX0 4 T.a_fit_all T.fd_fit_all ["house", "several"] (spD K sp_fit_all)) : FnOk P w K mg base CX0 5 T.a_sure_of T.fd_sure_of ["house", "several"] (spD K sp_sure_of) := by
  refine okD (k := 4) T.F_sure_of sc_sure_of (fun ss G Qd h => ?_) (fun cdv A outer s H E ss G Qd hr h => ?_)
  · obtain ⟨hs, ws, rfl, hh, ⟨h1, h2⟩, hw, q⟩ := h
    rfl
  · obtain ⟨hs, ws, rfl, hh, ⟨h1, h2⟩, hw, q⟩ := h
    refine ⟨_, (pss_cons (ps_set (i := 2) sc_sure_of.nd rfl (Or.inl rfl) (pe_call G_fit_all (hr.mono (by decide)) rfl T.m_fit_all T.k_fit_all T.b_fit_all .nil pass0 (pa_cons (pv 0) (pa_cons (pv 1) pa_nil))))
      (pss_cons (ps_if (pt_cmpR (show OpR _ (compareOp .Eq) (rEqT0 K) from op_eqT0 hr.units) (pv 2) (pe_tup pa_nil) (nomark _)) (pss_one (ps_ret pe_non)) pss_nil)
      (pss_cons (ps_set (i := 3) sc_sure_of.nd rfl (Or.inl rfl) pe_str)
      (pss_cons (ps_for PassesOwn.never rfl (show PI _ _ _ (DZx.iEnumX K _) from DZx.pi_enumX rfl T.z_enumerate (pa_cons (pe_ix (show IxR _ (rIx K) from ix_seq) (pv 2) pe_int (fun _ _ => rfl)) pa_nil)) (pg_tup rfl (pgs_cons (pg_name (i := 4) sc_sure_of.nd rfl (Or.inr rfl)) (pgs_cons (pg_name (i := 5) sc_sure_of.nd rfl (Or.inr rfl)) pgs_nil))) (pss_cons (ps_set (i := 6) sc_sure_of.nd rfl (Or.inl rfl) (pe_callB (show CallR _ (.builtin "all") (rAll K) from (cr_all rfl)) (by rfl) T.z_all (by decide +kernel) (pa_cons (pe_lc (own := [("mark", 7)]) (g := (gName 7)) (tt := tYes) (by rfl) sc_sure_of.nd (pi_seq (pv 2)) (blkOk_by (N := ["house", "several", "marks", "found", "place", "sign", "alike", "mark"]) (sc := defScope s_sure_of) (by decide +kernel)) (fun _ _ _ _ _ => (pg_name (i := 7) sc_sure_of.nd rfl (Or.inl rfl))) (fun _ _ _ _ _ => pts_nil) (fun _ _ _ _ _ => (pe_cmpR (show OpR _ (compareOp .Eq) (uEq K) from (uo_eq hr.units)) (pe_ix (show IxR _ (rIx K) from ix_seq) (pv 7) (pv 4) (fun _ _ => rfl)) (pv 5) (nomark _)))) pa_nil)))
      (pss_one (ps_set (i := 3) sc_sure_of.nd rfl (Or.inl rfl) (pe_op (show OpR _ (binaryOp .Add) (uAdd K) from uo_add) (pv 3) (show PE _ _ (DBx.tBoolIx _ _ _) from DBx.pe_boolIx (pv 5) (pe_glob (v := .str "?") (by rfl) T.m_WORN ⟨_, rfl⟩) (pv 6) (fun _ _ => rfl)))))))
      (pss_one (ps_ret (pv 3))))))), ?_⟩
    simp only [cxOf, Cx.nox, Cx.wish, Cx.blk, startD, List.map, List.length_cons, List.length_nil, Nat.reduceAdd, Nat.reduceSub, List.replicate, List.cons_append, List.nil_append]
    have hl := marks_len hh.l1
    walk_at "go"
    refine ⟨hh, ⟨h1, h2⟩, hw, ?_⟩
    have hsub : ∀ m ∈ fitF (marksF hs) ws, m ∈ marksF hs := fun m h => fit_sub h
    have hle : (fitF (marksF hs) ws).length ≤ 6480 := Nat.le_trans (List.length_filter_le ..) hl
    generalize fitF (marksF hs) ws = ms at q hsub hle ⊢
    unfold strsT
    walk_at "go"
    refine iteB (fun he => ?_) (fun hne => ?_)
    · cases ms with
      | cons m r => cases he
      | nil =>
        walk_at "go"
        exact q
    · cases ms with
      | nil => cases hne
      | cons m r =>
        have hm4 : m.length = 4 := marks_mem (hsub m List.mem_cons_self)
        walk_at "go"
        refine st_for ?_
        refine evi_enumX ?_
        walk_at "go"
        refine u_ix_g (show seqG _ _ _ = some ((m :: r).map D.str) from rfl) (atI_of (j := 0) rfl rfl) ?_
        walk_at "go"
        rw [show enumD 0 (signsD m) = _ from enumD_map (fun c => .str (letS c)) (cl m) 0]
        generalize hms : m :: r = ms at *
        refine ⟨fun i Δ' G' L' => ∃ (x4 x5 x6 : Option S), Δ' = [some (.d (houseD hs)), some (.d (.tup (ws.map D.str))), some (.d (.tup (ms.map D.str))), some (.d (.str (sureN ms i))), x4, x5, x6, none] ∧ G' = G ∧ L' = [], ⟨none, none, none, rfl, rfl, rfl⟩, ?_, ?_⟩
        · rintro i d Δ' G' L' hd ⟨x4, x5, x6, rfl, rfl, rfl⟩
          obtain ⟨p, hp, rfl⟩ := get_mapE hd
          have hi4 : i < 4 := by
            have := (List.getElem?_eq_some_iff.mp hp).1
            rw [List.length_zipIdx, cl_len, hm4] at this
            exact this
          obtain rfl : p = (sgn m i, i) := by
            rw [List.getElem?_zipIdx] at hp
            have hl : i < (cl m).length := by rw [cl_len, hm4]; exact hi4
            rw [List.getElem?_eq_getElem hl] at hp
            have e := Option.some.inj hp
            rw [← e, Nat.zero_add]
            unfold sgn
            rw [List.getD_eq_getElem?_getD, List.getElem?_eq_getElem hl]
            rfl
          walk_at "go"
          refine evn_c (evn_lcM ms D.str (fun _ => true) (fun x => .bl (decide (letS (sgn x i) = letS (sgn m i)))) ?_)
          refine evi_seq (evc_varX ⟨_, rfl, _, _, rfl, rfl, ?_⟩)
          refine ⟨rfl, lt_line (by omega), ?_, ?_⟩
          · intro x hx
            have hx4 := marks_mem (hsub x hx)
            walk_at "go"
            refine ⟨rfl, fun _ => ?_, fun e => (by cases e)⟩
            walk_at "go"
            refine u_ix_s (le_line (by omega)) (ch := sgn x i) ?_ ?_
            · have := sign_at (z := x) (k := i) (by omega)
              rw [Int.zero_add] at this
              exact this
            walk_at "go"
            exact ⟨rfl, rfl, rfl⟩
          rw [filter_yes]
          walk_at "go"
          refine ap_allB (bs := ms.map fun x => decide (letS (sgn x i) = letS (sgn m i))) ?_ ?_
          · show some _ = some _
            rw [List.map_map]
            rfl
          rw [List.all_map]
          walk_at "go"
          have hs2 : sureN ms (i + 1) = sureN ms i ++ letS (sureAt ms i) := rfl
          have hs3 : sureAt ms i = if (ms.all fun x => decide (letS (sgn x i) = letS (sgn m i))) = true then sgn m i else 63 := by rw [← hms]; rfl
          have e : (if (ms.all (id ∘ fun x => decide (letS (sgn x i) = letS (sgn m i)))) = true then S.d (D.str (letS (sgn m i))) else S.d (D.str "?")) = S.d (D.str (letS (sureAt ms i))) := by
            rw [hs3]
            by_cases h : (ms.all fun x => decide (letS (sgn x i) = letS (sgn m i))) = true
            · rw [if_pos h]
              exact if_pos h
            · rw [if_neg h]
              exact if_neg h
          rw [e]
          refine u_add_s (le_line (by rw [sureN_len, letS_len]; omega)) ?_
          exact ⟨_, _, _, rfl, rfl, rfl⟩
        · rintro Δ' G' L' ⟨x4, x5, x6, rfl, rfl, rfl⟩
          rw [List.length_map, List.length_zipIdx, cl_len, hm4]
          walk_at "go"
          have e : sureD ms = .str (sureN ms 4) := by
            unfold sureD
            rw [if_neg (by rw [← hms]; intro e; cases e)]
          rw [e] at q
          exact q
end
end Pf
namespace Pf
open PySem L2 DL
section
variable {P : Program} {w : World} {K : PySem.W.Frag} {mg : Str → Option Value} {base : Heap}
local macro_rules | `(tactic| walk_at "own") => `(tactic| first | (with_reducible refine st_own (i := 2) ?_))
theorem ok_l_order (T : TX w K mg) (G_l_draw : FnOk P w K mg base CX0 1 T.a_l_draw T.fd_l_draw ["_law_deck_here", "_law_most"] (spD K sp_l_draw)) : FnOk P w K mg base CX0 2 T.a_l_order T.fd_l_order ["_law_deck_here", "_law_many"] (spD K sp_l_order) := by
  refine okD (k := 1) T.F_l_order sc_l_order (fun ss G Qd h => ?_) (fun cdv A outer s H E ss G Qd hr h => ?_)
  · obtain ⟨k, c, n, cells, seed, cnt, m, rfl, hD, hn, hm, q⟩ := h
    rfl
  · obtain ⟨k, c, n, cells, seed, cnt, m, rfl, hD, hn, hm, q⟩ := h
    refine ⟨_, (pss_cons (ps_set (i := 2) sc_l_order.nd rfl (Or.inr rfl) (pe_listRg rfl rfl T.z_list (prg_1 rfl T.z_range (pv 1))))
      (pss_one (ps_ret (pe_lc (own := [("_law_k", 3)]) (g := (gName 3)) (tt := tYes) (by rfl) sc_l_order.nd (pi_range1 rfl T.z_range (pa_cons (pv 1) pa_nil)) (blkOk_by (N := ["_law_deck_here", "_law_many", "_law_left", "_law_k"]) (sc := defScope s_l_order) (by decide +kernel)) (fun _ _ _ _ _ => (pg_name (i := 3) sc_l_order.nd rfl (Or.inl rfl))) (fun _ _ _ _ _ => pts_nil) (fun _ _ _ _ _ => (show PE _ _ (tBM K _ _ _ _) from (pe_bm PySem.F.plainAttrs_list PySem.F.slot_list_pop PySem.F.type_list_pop mt_popAt (pv 2) (pa_cons (pe_call G_l_draw (hr.mono (by decide)) rfl T.m_l_draw T.k_l_draw T.b_l_draw .nil pass0 (pa_cons (pv 0) (pa_cons (pe_callB (show CallR _ (.builtin "len") (uLen K) from uc_len) (by rfl) T.z_len (by decide +kernel) (pa_cons (pv 2) pa_nil)) pa_nil))) pa_nil)))))))), ?_⟩
    simp only [cxOf, Cx.nox, Cx.wish, Cx.blk, startD, List.map, List.length_cons, List.length_nil, Nat.reduceAdd, Nat.reduceSub, List.replicate, List.cons_append, List.nil_append]
    walk_at "god"
    refine evn_listRg ?_
    walk_at "god"
    first | refine ⟨_, rfl, ⟨by omega, by omega⟩, ?_⟩ | refine ⟨⟨by omega, by omega⟩, ?_⟩
    rw [show ((m : Int)).toNat = m from rfl, rng_ints]
    show StC K _ [some (.g k), some (.d (.int (m : Int))), some (.l 0), none] G [.pl ((List.range m).map intD)] _
    walk_at "god"
    refine evn_c (evn_lc ?_)
    walk_at "god"
    refine ⟨by omega, by omega, ?_⟩
    refine ⟨fun i acc G2 L2 => ∃ left out : List Nat, acc = out.map intD ∧ L2 = [.pl (left.map intD)] ∧ (left ++ out).Perm (List.range m) ∧ out.length = i ∧ DkTo G k c (n + (i : Int)) G2,
      ⟨List.range m, [], rfl, rfl, by rw [List.append_nil], rfl, (DkTo.refl hD).mono (by omega)⟩, by rw [rngD_len]; exact lt_line (by omega), ?_, ?_⟩
    · rintro i d acc G2 L2 hd - ⟨left, out, rfl, rfl, hp, hl2, t⟩
      obtain ⟨hi, rfl⟩ := rngD_get hd
      have hll : left.length + i = m := by
        have := hp.length_eq
        rw [List.length_append, List.length_range] at this
        omega
      obtain ⟨_, _, _, Dt⟩ := t.dk
      have hlm2 : (left.map intD).length = left.length := List.length_map ..
      walk_at "god"
      rename_i r3 G3 _ _ _ t3 D3 _ _
      refine mt_popAtX ⟨_, rfl, by omega, by assumption, by simp only [List.length_map] at *; omega, fun j x hj hx => ?_⟩
      obtain ⟨o, hoo, rfl⟩ := get_mapE hx
      walk_at "god"
      rw [erase_map]
      exact ⟨left.eraseIdx j, out ++ [o], by rw [List.map_append]; rfl, rfl, pick_perm hoo hp, by rw [List.length_append]; show out.length + 1 = i + 1; omega, (t.trans t3).mono (by omega)⟩
    rintro acc G2 L2 ⟨left, out, rfl, rfl, hp, hl2, t⟩
    rw [rngD_len] at hl2 t
    have hl0 : left = [] := by
      have := hp.length_eq
      rw [List.length_append, List.length_range] at this
      exact List.eq_nil_of_length_eq_zero (by omega)
    subst hl0
    walk_at "god"
    exact q out _ hp (t.mono (by omega))
end
end Pf
namespace Pf
open PySem L2 DL
section
variable {P : Program} {w : World} {K : PySem.W.Frag} {mg : Str → Option Value} {base : Heap}
local macro_rules | `(tactic| walk_at "own") => `(tactic| first | (with_reducible refine st_own (i := 2) ?_))
theorem ok_l_worn_on (T : TX w K mg) (G_l_order : FnOk P w K mg base CX0 2 T.a_l_order T.fd_l_order ["_law_deck_here", "_law_many"] (spD K sp_l_order)) : FnOk P w K mg base CX0 3 T.a_l_worn_on T.fd_l_worn_on ["_law_deck_here", "_law_mark"] (spD K sp_l_worn_on) := by
  refine okD (k := 2) T.F_l_worn_on sc_l_worn_on (fun ss G Qd h => ?_) (fun cdv A outer s H E ss G Qd hr h => ?_)
  · obtain ⟨k, c, n, cells, seed, cnt, m, rfl, hD, hn, hm, q⟩ := h
    rfl
  · obtain ⟨k, c, n, cells, seed, cnt, m, rfl, hD, hn, hm, q⟩ := h
    refine ⟨_, (pss_cons (ps_set (i := 2) sc_l_worn_on.nd rfl (Or.inl rfl) (pe_lst (pa_cons (pv 1) pa_nil)))
      (pss_cons (ps_for PassesOwn.never rfl (pi_seq (pe_call G_l_order (hr.mono (by decide)) rfl T.m_l_order T.k_l_order T.b_l_order .nil pass0 (pa_cons (pv 0) (pa_cons pe_int pa_nil)))) (pg_name (i := 3) sc_l_worn_on.nd rfl (Or.inl rfl)) (pss_one (ps_expr (pe_bm PySem.F.plainAttrs_list PySem.F.slot_list_append PySem.F.type_list_append mt_append (pv 2) (pa_cons (pe_op (show OpR _ (binaryOp .Add) (uAdd K) from uo_add) (pe_op (show OpR _ (binaryOp .Add) (uAdd K) from uo_add) (pe_slice (show SlR _ (uSl K) from us_sl) (pe_ix (show IxR _ (rIx K) from ix_seq) (pv 2) (pe_un un_neg pe_int) (fun _ _ => rfl)) po_none (po_some (pv 3))) pe_str) (pe_slice (show SlR _ (uSl K) from us_sl) (pe_ix (show IxR _ (rIx K) from ix_seq) (pv 2) (pe_un un_neg pe_int) (fun _ _ => rfl)) (po_some (pe_op (show OpR _ (binaryOp .Add) (uAdd K) from uo_add) (pv 3) pe_int)) po_none)) pa_nil)))))
      (pss_one (ps_ret (pv 2))))), ?_⟩
    simp only [cxOf, Cx.nox, Cx.wish, Cx.blk, startD, List.map, List.length_cons, List.length_nil, Nat.reduceAdd, Nat.reduceSub, List.replicate, List.cons_append, List.nil_append]
    walk_at "god"
    refine st_for ?_
    refine evi_seq ?_
    walk_at "god"
    refine ⟨k, c, _, _, _, _, 4, rfl, hD, by omega, by decide, fun js G1 hp t1 => ?_⟩
    refine ⟨_, _, rfl, rfl, ?_⟩
    have hjl : js.length = 4 := by rw [hp.length_eq, List.length_range]
    have hwl := worn_len js m
    have hw4 := worn_four js m hm
    refine ⟨fun i Δ' G' L' => ∃ x3 : Option S, Δ' = [some (.g k), some (.d (.str m)), some (.l 0), x3] ∧ G' = G1 ∧ L' = [.pl (((wornF m js).take (i + 1)).map D.str)], ⟨none, rfl, rfl, by cases js <;> rfl⟩, ?_, ?_⟩
    · rintro i d Δ' G' L' hd ⟨x3, rfl, rfl, rfl⟩
      obtain ⟨a, ha, rfl⟩ := get_mapE hd
      have hi4 : i < 4 := by
        have := (List.getElem?_eq_some_iff.mp ha).1
        omega
      have ha4 : a < 4 := List.mem_range.mp (hp.mem_iff.mp (List.mem_of_getElem? ha))
      obtain ⟨w, hw⟩ : ∃ w, (wornF m js)[i]? = some w := ⟨_, List.getElem?_eq_getElem (by omega)⟩
      have hw1 := worn_at js m i a w ha hw
      have htl : ((wornF m js).take (i + 1)).length = i + 1 := by rw [List.length_take]; omega
      have htk : (wornF m js).take (i + 1 + 1) = (wornF m js).take (i + 1) ++ [setq w a] := by
        rw [List.take_add_one (l := wornF m js) (i := i + 1), hw1]
        rfl
      have hts : (wornF m js).take (i + 1) = (wornF m js).take i ++ [w] := by
        rw [List.take_add_one, hw]
        rfl
      have hlast : atI (((wornF m js).take (i + 1)).map D.str) (-1) = some (.str w) := by
        rw [hts, List.map_append]
        exact atI_last _ _
      have hll : (((wornF m js).take (i + 1)).map D.str).length < sizeLine := by rw [List.length_map, htl]; exact lt_line (by omega)
      show TgC K _ _ (.d (.int (a : Int))) _ _ _ _
      walk_at "god"
      refine u_ix_g rfl hlast ?_
      walk_at "god"
      refine sl_s ?_ ?_
      · have hwm := hw4 w (List.mem_of_getElem? hw)
        exact le_line (by omega)
      walk_at "god"
      refine u_add_s ?_ ?_
      · have hwm := hw4 w (List.mem_of_getElem? hw)
        rw [cut_len (k := a) (by omega)]
        exact le_line (show a + 1 ≤ _ by omega)
      walk_at "god"
      refine u_ix_g rfl hlast ?_
      walk_at "god"
      refine sl_s ?_ ?_
      · have hwm := hw4 w (List.mem_of_getElem? hw)
        exact le_line (by omega)
      walk_at "god"
      have hwm := hw4 w (List.mem_of_getElem? hw)
      refine u_add_s ?_ ?_
      · rw [app_len, cut_len (k := a) (by omega)]
        have hc2 : (cutS w (some ((a : Int) + 1)) none).length ≤ 4 := Nat.le_trans (cutS_length _ _ _) (by omega)
        exact le_line (show a + 1 + _ ≤ _ by omega)
      rw [setq_cut (by omega)]
      walk_at "god"
      refine mt_app_lX ⟨_, rfl, hll, ?_⟩
      refine ⟨_, rfl, rfl, ?_⟩
      rw [htk, List.map_append]
      rfl
    rintro Δ' G' L' ⟨x3, rfl, rfl, rfl⟩
    rw [show (js.map intD).length + 1 = (wornF m js).length by rw [List.length_map, hwl], List.take_length]
    refine st_frz 0 ⟨_, _, rfl, rfl, ?_⟩
    walk_at "god"
    exact q js _ hp t1
end
end Pf
namespace Pf
open PySem L2 DL
section
variable {P : Program} {w : World} {K : PySem.W.Frag} {mg : Str → Option Value} {base : Heap}
local macro_rules | `(tactic| walk_at "own") => `(tactic| first | (with_reducible refine st_own (i := 3) ?_))
theorem ok_l_called (T : TX w K mg) : FnOk P w K mg base CX0 1 T.a_l_called T.fd_l_called ["_law_house_here", "_law_by", "_law_text"] (spD K sp_l_called) := by
  refine okD (k := 0) T.F_l_called sc_l_called (fun ss G Qd h => ?_) (fun cdv A outer s H E ss G Qd hr h => ?_)
  · obtain ⟨hs, bs, x, rfl, hh, nd, hb, hx, q⟩ := h
    rfl
  · obtain ⟨hs, bs, x, rfl, hh, nd, hb, hx, q⟩ := h
    refine ⟨_, (pss_cons (ps_set (i := 3) sc_l_called.nd rfl (Or.inr rfl) (pe_callTy (show CallR _ (.type "dict") (rDictP K) from uc_dictP rfl) (by rfl) T.z_dict (by decide +kernel) (pa_cons (pe_lc (own := [("_law_k", 4), ("_law_letter", 5), ("_law_crafts", 6)]) (g := (gTup K 2 (gCons (gName 4) (gCons (gTup K 2 (gCons (gName 5) (gCons (gName 6) gNil))) gNil)))) (tt := tYes) (by rfl) sc_l_called.nd (show PI _ _ _ (DEt.iEnumT K _) from DEt.pi_enumT rfl T.z_enumerate (pa_cons (pv 0) pa_nil)) (blkOk_by (N := ["_law_house_here", "_law_by", "_law_text", "_law_names", "_law_k", "_law_letter", "_law_crafts", "_law_sign"]) (sc := defScope s_l_called) (by decide +kernel)) (fun _ _ _ _ _ => (pg_tup rfl (pgs_cons (pg_name (i := 4) sc_l_called.nd rfl (Or.inl rfl)) (pgs_cons (pg_tup rfl (pgs_cons (pg_name (i := 5) sc_l_called.nd rfl (Or.inl rfl)) (pgs_cons (pg_name (i := 6) sc_l_called.nd rfl (Or.inl rfl)) pgs_nil))) pgs_nil)))) (fun _ _ _ _ _ => pts_nil) (fun _ _ _ _ _ => (pe_tup (pa_cons (pv 5) (pa_cons (pe_ix (show IxR _ (rIx K) from ix_seq) (pv 1) (pv 4) (fun _ _ => rfl)) pa_nil))))) pa_nil)))
      (pss_one (ps_ret (pe_join pe_str (pe_lc (own := [("_law_sign", 7)]) (g := (gName 7)) (tt := tYes) (by rfl) sc_l_called.nd (pi_seq (pv 2)) (blkOk_by (N := ["_law_house_here", "_law_by", "_law_text", "_law_names", "_law_k", "_law_letter", "_law_crafts", "_law_sign"]) (sc := defScope s_l_called) (by decide +kernel)) (fun _ _ _ _ _ => (pg_name (i := 7) sc_l_called.nd rfl (Or.inl rfl))) (fun _ _ _ _ _ => pts_nil) (fun _ _ _ _ _ => (pe_dget2 (Nat.lt_of_le_of_lt (Nat.add_le_add_left (by decide) _) hr.units) (pv 3) (pv 7) (pv 7) ⟨rfl, rfl, rfl, rfl⟩))))))), ?_⟩
    simp only [cxOf, Cx.nox, Cx.wish, Cx.blk, startD, List.map, List.length_cons, List.length_nil, Nat.reduceAdd, Nat.reduceSub, List.replicate, List.cons_append, List.nil_append]
    have hl6 := hh.l1
    have hbl : (bs.map letS).length = bs.length := List.length_map ..
    walk_at "god"
    refine evn_c (evn_lcM (hs.zipIdx) (fun p => .tup [.int (p.2 : Int), handD p.1]) (fun _ => true) (fun p => .tup [.str (letS p.1.1), .str (letS (bs.getD p.2 0))]) ?_)
    refine evi_enumT ?_
    walk_at "god"
    refine ⟨enumD_map handD hs 0, lt_line (show (hs.zipIdx).length ≤ 100000 by rw [List.length_zipIdx]; omega), ?_, ?_⟩
    · rintro ⟨h, j⟩ hj
      have hjl : j < hs.length := by
        have := List.mem_zipIdx hj
        omega
      show TgC K _ _ (.d (.tup [.int (j : Int), .tup [.str (letS h.1), .tup (h.2.map D.int)]])) _ _ _ _
      walk_at "god"
      refine ⟨rfl, fun _ => ?_, fun e => (by cases e)⟩
      walk_at "god"
      refine u_ix_g (show seqG _ _ _ = some ((bs.map letS).map D.str) from rfl) (atI_of (j := j) (x := .str (letS (bs.getD j 0))) ?_ rfl) ?_
      · rw [List.getElem?_map, List.getElem?_map, List.getD_eq_getElem?_getD, List.getElem?_eq_getElem (by omega)]
        rfl
      walk_at "god"
      exact ⟨rfl, rfl, rfl⟩
    rw [filter_yes]
    walk_at "god"
    refine ap_dictP ⟨pairsF hs bs, congrArg some (pairs_zip hs bs [] hb), ?_⟩
    rw [pairs_merge nd hb]
    show StC K _ [some (.d (houseD hs)), some (.d (lettersL bs)), some (.d (.str x)), some (.l 0), none, none, none, none] G [.dh ((pairsF hs bs).map hX)] _
    walk_at "god"
    refine evn_c (evn_lcM (cl x) (fun c => .str (letS c)) (fun _ => true) (fun c => .str (letS (byN hs bs c))) ?_)
    walk_at "god"
    refine ⟨rfl, lt_line (by rw [cl_len]; omega), ?_, ?_⟩
    · intro c hc
      walk_at "god"
      refine ⟨rfl, fun _ => ?_, fun e => (by cases e)⟩
      refine evc_dgetX ?_
      walk_at "god"
      try first | refine ⟨_, _, rfl, rfl, ?_⟩ | refine ⟨_, rfl, ?_⟩ | refine ⟨rfl, ?_⟩
      walk_at "god"
      try first | refine ⟨_, rfl, ?_⟩
      walk_at "god"
      try first | refine ⟨_, pairsF hs bs, rfl, rfl, ?_⟩ | refine ⟨pairsF hs bs, rfl, ?_⟩ | refine ⟨rfl, ?_⟩
      rw [by_get]
      walk_at "god"
      exact ⟨rfl, rfl, rfl⟩
    rw [filter_yes]
    walk_at "god"
    have e1 : ((cl x).map fun c => D.str (letS (byN hs bs c))) = (((cl x).map (byN hs bs)).map letS).map D.str := by
      rw [List.map_map, List.map_map]
      rfl
    have h1 : ∀ s ∈ ((cl x).map (byN hs bs)).map letS, s.length = 1 := fun s hs => by
      obtain ⟨c, _, rfl⟩ := List.mem_map.mp hs
      rfl
    have hyl : (((cl x).map (byN hs bs)).map letS).length ≤ 10 := by
      rw [List.length_map, List.length_map, cl_len]
      exact hx
    rw [e1]
    refine mt_joinD ⟨((cl x).map (byN hs bs)).map letS, rfl, ?_, ?_⟩
    · rw [sum_one h1]
      show _ + _ * 0 ≤ _
      omega
    rw [join_txl]
    exact q
end
end Pf
namespace Pf
open PySem L2 DL
section
variable {P : Program} {w : World} {K : PySem.W.Frag} {mg : Str → Option Value} {base : Heap}
local macro_rules | `(tactic| walk_at "own") => `(tactic| first | (with_reducible refine st_own (i := 6) ?_))
theorem ok_l_steps_right (T : TX w K mg) (G_fits : FnOk P w K mg base CX0 3 T.a_fits T.fd_fits ["house", "worn"] (spD K sp_fits)) : FnOk P w K mg base CX0 4 T.a_l_steps_right T.fd_l_steps_right ["_law_house_here", "_law_marks_here", "_law_worn_on_here"] (spD K sp_l_steps_right) := by
  refine okD (k := 3) T.F_l_steps_right sc_l_steps_right (fun ss G Qd h => ?_) (fun cdv A outer s H E ss G Qd hr h => ?_)
  · obtain ⟨hs, m, js, rfl, hh, hm, hj, q⟩ := h
    rfl
  · obtain ⟨hs, m, js, rfl, hh, hm, hj, q⟩ := h
    refine ⟨_, (pss_cons (ps_set (i := 3) sc_l_steps_right.nd rfl (Or.inl rfl) (pe_tup pa_nil))
      (pss_cons (ps_for PassesOwn.never rfl (pi_seq (pv 2)) (pg_name (i := 4) sc_l_steps_right.nd rfl (Or.inl rfl)) (pss_cons (ps_set (i := 5) sc_l_steps_right.nd rfl (Or.inl rfl) (pe_call G_fits (hr.mono (by decide)) rfl T.m_fits T.k_fits T.b_fits .nil pass0 (pa_cons (pv 0) (pa_cons (pv 4) pa_nil))))
      (pss_cons (ps_set (i := 6) sc_l_steps_right.nd rfl (Or.inr rfl) (pe_callTy (show CallR _ (.type "dict") (rDictP K) from uc_dictP rfl) (by rfl) T.z_dict (by decide +kernel) (pa_cons (pe_lc (own := [("_law_mark", 7)]) (g := (gName 7)) (tt := tYes) (by rfl) sc_l_steps_right.nd (pi_seq (pv 5)) (blkOk_by (N := ["_law_house_here", "_law_marks_here", "_law_worn_on_here", "_law_last", "_law_worn", "_law_found", "_law_known", "_law_mark"]) (sc := defScope s_l_steps_right) (by decide +kernel)) (fun _ _ _ _ _ => (pg_name (i := 7) sc_l_steps_right.nd rfl (Or.inl rfl))) (fun _ _ _ _ _ => pts_nil) (fun _ _ _ _ _ => (pe_tup (pa_cons (pv 7) (pa_cons pe_bl pa_nil))))) pa_nil)))
      (pss_cons (ps_if (PW.pt (pw_or (pt_cmpR (show OpR _ (compareOp .NotIn) rNinDi from op_ninDi (Nat.lt_of_le_of_lt (Nat.add_le_add_left (by decide) _) hr.units)) (pe_ix (show IxR _ (rIx K) from ix_seq) (pv 2) pe_int (fun _ _ => rfl)) (pv 6) (by rfl)) (pw_or1 (pt_cmpR (show OpR _ (compareOp .NotEq) (rEqL0 K true) from op_neL0 hr.units) (pe_lc (own := [("_law_mark", 7)]) (g := (gName 7)) (by rfl) sc_l_steps_right.nd (pi_seq (pv 3)) (blkOk_by (N := ["_law_house_here", "_law_marks_here", "_law_worn_on_here", "_law_last", "_law_worn", "_law_found", "_law_known", "_law_mark"]) (sc := defScope s_l_steps_right) (by decide +kernel)) (fun _ _ _ _ _ => (pg_name (i := 7) sc_l_steps_right.nd rfl (Or.inl rfl))) (fun _ _ _ _ _ => (pts_one (pt_cmpR (show OpR _ (compareOp .NotIn) rNinDi from op_ninDi (Nat.lt_of_le_of_lt (Nat.add_le_add_left (by decide) _) hr.units)) (pv 7) (pv 6) (by rfl)))) (fun _ _ _ _ _ => (pv 7))) (pe_lst pa_nil) (nomark _))))) (pss_one (ps_ret pe_bl)) pss_nil)
      (pss_one (ps_set (i := 3) sc_l_steps_right.nd rfl (Or.inl rfl) (pv 5)))))))
      (pss_one (ps_ret (pe_cmpR (show OpR _ (compareOp .Eq) (uEq K) from (uo_eq hr.units)) (pe_callTy (show CallR _ (.type "list") (uList K) from (uc_list rfl)) (by rfl) T.z_list (by decide +kernel) (pa_cons (pv 3) pa_nil)) (pv 1) (nomark _)))))), ?_⟩
    simp only [cxOf, Cx.nox, Cx.wish, Cx.blk, startD, List.map, List.length_cons, List.length_nil, Nat.reduceAdd, Nat.reduceSub, List.replicate, List.cons_append, List.nil_append]
    have hl6 := hh.l1
    have hm4 := marks_mem hm
    have hjl : js.length = 4 := by rw [hj.length_eq, List.length_range]
    have hwl := worn_len js m
    have hw4 := worn_four js m hm4
    have hml := marks_len hl6
    walk_at "god"
    refine st_for ?_
    refine evi_seq (evc_varX ⟨_, rfl, _, _, rfl, rfl, ?_⟩)
    refine ⟨fun i Δ' G' L' => ∃ (last : List Str) (x4 x5 x6 x7 : Option S) (L0 : List M), Δ' = [some (.d (houseD hs)), some (.d (strsD (marksF hs))), some (.d (strsD (wornF m js))), some (.d (strsT last)), x4, x5, x6, x7] ∧ G' = G ∧ L' = L0 ∧
      ((i = 0 ∧ last = []) ∨ ∃ w, 0 < i ∧ (wornF m js)[i - 1]? = some w ∧ last = fitsF hs w), ⟨[], none, none, none, none, [], rfl, rfl, rfl, .inl ⟨rfl, rfl⟩⟩, ?_, ?_⟩
    · rintro i d Δ' G' L' hd ⟨last, x4, x5, x6, x7, L0, rfl, rfl, rfl, hlast⟩
      obtain ⟨w, hw, rfl⟩ := get_mapE hd
      have hwm := hw4 w (List.mem_of_getElem? hw)
      have hfl : (fitsF hs w).length ≤ 6480 := by
        rw [fits_eq hh hwm]
        exact Nat.le_trans (List.length_filter_le _ _) hml
      show TgC K _ _ (.d (.str w)) _ _ _ _
      walk_at "god"
      refine ⟨hl6, hwm, ?_⟩
      walk_at "god"
      refine evn_c (evn_lcM (fitsF hs w) D.str (fun _ => true) (fun x => .tup [.str x, .bl true]) ?_)
      refine evi_seq (evc_varX ⟨_, rfl, _, _, rfl, rfl, ?_⟩)
      refine ⟨rfl, lt_line (by omega), ?_, ?_⟩
      · intro x hx
        walk_at "god"
        refine ⟨rfl, fun _ => ?_, fun e => (by cases e)⟩
        walk_at "god"
        exact ⟨rfl, rfl, rfl⟩
      rw [filter_yes]
      walk_at "god"
      refine ap_dictP ⟨(fitsF hs w).map fun x => (x, .bl true), by rw [List.map_map]; rfl, ?_⟩
      generalize hkv : mergeX ((fitsF hs w).map fun x => (x, D.bl true)) = kvs
      have hin : ∀ z, (getX kvs z).isSome = decide (z ∈ fitsF hs w) := fun z => by
        rw [← hkv, getX_merge, List.map_map]
        show decide (z ∈ (fitsF hs w).map id) = _
        rw [List.map_id]
      walk_at "god"
      have hmw : m ∈ fitsF hs w := by
        rw [fits_eq hh hwm]
        exact List.mem_filter.mpr ⟨hm, worn_like js m (like_self m) w (List.mem_of_getElem? hw)⟩
      refine u_ix_g rfl (atI_of (j := 0) (x := .str m) (by cases js <;> rfl) rfl) ?_
      walk_at "god"
      refine u_ninDX ⟨kvs, List.getElem?_concat_length, ?_⟩
      rw [hin, decide_eq_true hmw]
      walk_at "god"
      have hsub : (∀ x ∈ last, x ∈ fitsF hs w) ∧ last.length ≤ 6480 := by
        rcases hlast with ⟨_, rfl⟩ | ⟨w0, hi0, hw0, rfl⟩
        · exact ⟨(fun x h => by cases h), Nat.zero_le _⟩
        · have hw04 := hw4 w0 (List.mem_of_getElem? hw0)
          refine ⟨fun x hx => ?_, ?_⟩
          · rw [fits_eq hh hw04] at hx
            rw [fits_eq hh hwm]
            obtain ⟨h1, h2⟩ := List.mem_filter.mp hx
            exact List.mem_filter.mpr ⟨h1, worn_next js m (i - 1) w0 w hw0 (by rw [Nat.sub_add_cancel hi0]; exact hw) h2⟩
          · rw [fits_eq hh hw04]
            exact Nat.le_trans (List.length_filter_le _ _) hml
      refine evn_c (evn_lcM last D.str (fun _ => false) D.str ?_)
      refine evi_seq (evc_varX ⟨_, rfl, _, _, rfl, rfl, ?_⟩)
      refine ⟨rfl, lt_line (by omega), ?_, ?_⟩
      · intro x hx
        walk_at "god"
        refine u_ninDX ⟨kvs, List.getElem?_concat_length, ?_⟩
        rw [hin, decide_eq_true (hsub.1 x hx)]
        walk_at "god"
        exact ⟨rfl, (fun e => by cases e), fun _ => ⟨rfl, rfl⟩⟩
      rw [List.filter_eq_nil_iff.mpr (fun x _ h => by cases h)]
      walk_at "god"
      first | refine iteFF ?_ | rw [if_neg (by decide)]
      walk_at "god"
      exact ⟨fitsF hs w, _, _, _, _, _, rfl, rfl, rfl, .inr ⟨w, by omega, by rw [Nat.add_sub_cancel]; exact hw, rfl⟩⟩
    rintro Δ' G' L' ⟨last, x4, x5, x6, x7, L0, rfl, rfl, rfl, hlast⟩
    have hlm : last = marksF hs := by
      have e5 : (List.map D.str (wornF m js)).length = 5 := by rw [List.length_map, hwl, hjl]
      rw [e5] at hlast
      rcases hlast with ⟨h, _⟩ | ⟨w, _, hw, rfl⟩
      · cases h
      · have hwm := hw4 w (List.mem_of_getElem? hw)
        rw [fits_eq hh hwm]
        refine List.filter_eq_self.mpr fun x hx => worn_all js m w (fun i a ha _ => ?_) (by rw [hjl]; exact hw)
        refine hj.mem_iff.mpr (List.mem_range.mpr ?_)
        have := (List.getElem?_eq_some_iff.mp ha).1
        rw [cl_len, hm4] at this
        exact this
    subst hlm
    walk_at "god"
    refine u_eq_same rfl rfl ⟨1, by decide, eqb1_lst fun d hd => ?_⟩ ?_
    · obtain ⟨x, hx, rfl⟩ := List.mem_map.mp hd
      exact eqb1_str 0 (marks_ok hh hx)
    exact q
end
end Pf
namespace Pf
open PySem L2 DL
section
variable {P : Program} {w : World} {K : PySem.W.Frag} {mg : Str → Option Value} {base : Heap}
local macro_rules | `(tactic| walk_at "own") => `(tactic| first | (with_reducible refine st_own (i := 8) ?_))
theorem ok_l_more_right (T : TX w K mg) (G_fit_all : FnOk P w K mg base CX0 4 T.a_fit_all T.fd_fit_all ["house", "several"] (spD K sp_fit_all)) (G_sure_of : FnOk P w K mg base CX0 5 T.a_sure_of T.fd_sure_of ["house", "several"] (spD K sp_sure_of)) : FnOk P w K mg base CX0 6 T.a_l_more_right T.fd_l_more_right ["_law_house_here", "_law_worn_on_here"] (spD K sp_l_more_right) := by
  refine okD (k := 5) T.F_l_more_right sc_l_more_right (fun ss G Qd h => ?_) (fun cdv A outer s H E ss G Qd hr h => ?_)
  · obtain ⟨hs, m, js, rfl, hh, nd, hm, hj, q⟩ := h
    rfl
  · obtain ⟨hs, m, js, rfl, hh, nd, hm, hj, q⟩ := h
    refine ⟨_, (pss_cons (ps_set (i := 2) sc_l_more_right.nd rfl (Or.inl rfl) (pe_call G_fit_all (hr.mono (by decide)) rfl T.m_fit_all T.k_fit_all T.b_fit_all .nil pass0 (pa_cons (pv 0) (pa_cons (pe_tup (pa_cons (pe_ix (show IxR _ (rIx K) from ix_seq) (pv 1) (pe_un un_neg pe_int) (fun _ _ => rfl)) pa_nil)) pa_nil))))
      (pss_cons (ps_set (i := 3) sc_l_more_right.nd rfl (Or.inr rfl) (pe_call G_sure_of (hr.mono (by decide)) rfl T.m_sure_of T.k_sure_of T.b_sure_of .nil pass0 (pa_cons (pv 0) (pa_cons (pe_tup (pa_cons (pe_ix (show IxR _ (rIx K) from ix_seq) (pv 1) (pe_un un_neg pe_int) (fun _ _ => rfl)) pa_nil)) pa_nil))))
      (pss_cons (ps_for PassesOwn.never rfl (pi_range2 rfl T.z_range (pa_cons pe_int (pa_cons pe_int pa_nil))) (pg_name (i := 4) sc_l_more_right.nd rfl (Or.inl rfl)) (pss_cons (ps_set (i := 5) sc_l_more_right.nd rfl (Or.inl rfl) (pe_callTy (show CallR _ (.type "tuple") (uTuple K) from uc_tuple) (by rfl) T.z_tuple (by decide +kernel) (pa_cons (pe_slice (show SlR _ (uSl K) from us_sl) (pv 1) (po_some (pe_op op_sub pe_int (pv 4))) po_none) pa_nil)))
      (pss_cons (ps_set (i := 6) sc_l_more_right.nd rfl (Or.inl rfl) (pe_call G_fit_all (hr.mono (by decide)) rfl T.m_fit_all T.k_fit_all T.b_fit_all .nil pass0 (pa_cons (pv 0) (pa_cons (pv 5) pa_nil))))
      (pss_cons (ps_set (i := 7) sc_l_more_right.nd rfl (Or.inr rfl) (pe_call G_sure_of (hr.mono (by decide)) rfl T.m_sure_of T.k_sure_of T.b_sure_of .nil pass0 (pa_cons (pv 0) (pa_cons (pv 5) pa_nil))))
      (pss_cons (ps_set (i := 8) sc_l_more_right.nd rfl (Or.inr rfl) (pe_callTy (show CallR _ (.type "dict") (rDictP K) from uc_dictP rfl) (by rfl) T.z_dict (by decide +kernel) (pa_cons (pe_lc (own := [("_law_mark", 9)]) (g := (gName 9)) (tt := tYes) (by rfl) sc_l_more_right.nd (pi_seq (pv 2)) (blkOk_by (N := ["_law_house_here", "_law_worn_on_here", "_law_ahead", "_law_sure", "_law_k", "_law_several", "_law_found", "_law_here", "_law_known", "_law_mark", "_law_j"]) (sc := defScope s_l_more_right) (by decide +kernel)) (fun _ _ _ _ _ => (pg_name (i := 9) sc_l_more_right.nd rfl (Or.inl rfl))) (fun _ _ _ _ _ => pts_nil) (fun _ _ _ _ _ => (pe_tup (pa_cons (pv 9) (pa_cons pe_bl pa_nil))))) pa_nil)))
      (pss_cons (ps_if (PW.pt (pw_or (pt_cmpR (show OpR _ (compareOp .NotEq) (rEqL0 K true) from op_neL0 hr.units) (pe_lc (own := [("_law_mark", 9)]) (g := (gName 9)) (by rfl) sc_l_more_right.nd (pi_seq (pv 6)) (blkOk_by (N := ["_law_house_here", "_law_worn_on_here", "_law_ahead", "_law_sure", "_law_k", "_law_several", "_law_found", "_law_here", "_law_known", "_law_mark", "_law_j"]) (sc := defScope s_l_more_right) (by decide +kernel)) (fun _ _ _ _ _ => (pg_name (i := 9) sc_l_more_right.nd rfl (Or.inl rfl))) (fun _ _ _ _ _ => (pts_one (pt_cmpR (show OpR _ (compareOp .NotIn) rNinDi from op_ninDi (Nat.lt_of_le_of_lt (Nat.add_le_add_left (by decide) _) hr.units)) (pv 9) (pv 8) (by rfl)))) (fun _ _ _ _ _ => (pv 9))) (pe_lst pa_nil) (nomark _)) (pw_or1 (pt_cmpR (show OpR _ (compareOp .NotIn) (uIn K true) from uo_nin) (pe_ix (show IxR _ (rIx K) from ix_seq) (pv 1) pe_int (fun _ _ => rfl)) (pv 6) (by rfl))))) (pss_one (ps_ret pe_bl)) pss_nil)
      (pss_cons (ps_if (pt_cmpR (show OpR _ (compareOp .NotEq) (rEqL0 K true) from op_neL0 hr.units) (pe_lc (own := [("_law_j", 10)]) (g := (gName 10)) (by rfl) sc_l_more_right.nd (pi_range1 rfl T.z_range (pa_cons pe_int pa_nil)) (blkOk_by (N := ["_law_house_here", "_law_worn_on_here", "_law_ahead", "_law_sure", "_law_k", "_law_several", "_law_found", "_law_here", "_law_known", "_law_mark", "_law_j"]) (sc := defScope s_l_more_right) (by decide +kernel)) (fun _ _ _ _ _ => (pg_name (i := 10) sc_l_more_right.nd rfl (Or.inl rfl))) (fun _ _ _ _ _ => (pts_one (PW.pt (pw_and (pt_cmpR (show OpR _ (compareOp .NotEq) (uNe K) from (uo_ne hr.units)) (pe_ix (show IxR _ (rIx K) from ix_seq) (pv 3) (pv 10) (fun _ _ => rfl)) pe_str (nomark _)) (pw_and1 (pt_cmpR (show OpR _ (compareOp .NotEq) (uNe K) from (uo_ne hr.units)) (pe_ix (show IxR _ (rIx K) from ix_seq) (pv 3) (pv 10) (fun _ _ => rfl)) (pe_ix (show IxR _ (rIx K) from ix_seq) (pv 7) (pv 10) (fun _ _ => rfl)) (nomark _))))))) (fun _ _ _ _ _ => (pv 10))) (pe_lst pa_nil) (nomark _)) (pss_one (ps_ret pe_bl)) pss_nil)
      (pss_one (ps_asg (pe_tup (pa_cons (pv 6) (pa_cons (pv 7) pa_nil))) (pg_tup rfl (pgs_cons (pg_name (i := 2) sc_l_more_right.nd rfl (Or.inl rfl)) (pgs_cons (pg_name (i := 3) sc_l_more_right.nd rfl (Or.inr rfl)) pgs_nil))))))))))))
      (pss_one (ps_ret (pe_and (pe_cmpR (show OpR _ (compareOp .Eq) (uEq K) from (uo_eq hr.units)) (pe_call G_fit_all (hr.mono (by decide)) rfl T.m_fit_all T.k_fit_all T.b_fit_all .nil pass0 (pa_cons (pv 0) (pa_cons (pe_callTy (show CallR _ (.type "tuple") (uTuple K) from uc_tuple) (by rfl) T.z_tuple (by decide +kernel) (pa_cons (pv 1) pa_nil)) pa_nil))) (pe_tup (pa_cons (pe_ix (show IxR _ (rIx K) from ix_seq) (pv 1) pe_int (fun _ _ => rfl)) pa_nil)) (nomark _)) (pe_one (pe_cmpR (show OpR _ (compareOp .Eq) (uEq K) from (uo_eq hr.units)) (pe_call G_sure_of (hr.mono (by decide)) rfl T.m_sure_of T.k_sure_of T.b_sure_of .nil pass0 (pa_cons (pv 0) (pa_cons (pe_tup (pa_cons (pe_ix (show IxR _ (rIx K) from ix_seq) (pv 1) pe_int (fun _ _ => rfl)) pa_nil)) pa_nil))) (pe_ix (show IxR _ (rIx K) from ix_seq) (pv 1) pe_int (fun _ _ => rfl)) (nomark _))))))))), ?_⟩
    simp only [cxOf, Cx.nox, Cx.wish, Cx.blk, startD, List.map, List.length_cons, List.length_nil, Nat.reduceAdd, Nat.reduceSub, List.replicate, List.cons_append, List.nil_append]
    have hl6 := hh.l1
    have hm4 := marks_mem hm
    have hjl : js.length = 4 := by rw [hj.length_eq, List.length_range]
    have hwl : (wornF m js).length = 5 := by rw [worn_len, hjl]
    have hw4 := worn_four js m hm4
    have hml := marks_len hl6
    obtain ⟨w4, hw⟩ : ∃ w, (wornF m js)[4]? = some w := ⟨_, List.getElem?_eq_getElem (by omega)⟩
    have hd4 : (wornF m js).drop 4 = [w4] := by
      have h4 : 4 < (wornF m js).length := by omega
      rw [List.drop_eq_getElem_cons h4, List.drop_of_length_le (by omega)]
      rw [List.getElem?_eq_getElem h4] at hw
      rw [Option.some.inj hw]
    have hts : wornF m js = (wornF m js).take 4 ++ [w4] := by rw [← hd4, List.take_append_drop]
    have hlast : atI ((wornF m js).map D.str) (-1) = some (.str w4) := by
      rw [hts, List.map_append]
      exact atI_last _ _
    have hw44 := hw4 w4 (List.mem_of_getElem? hw)
    have hfl : ∀ k, (fitF (marksF hs) ((wornF m js).drop k)).length ≤ 6480 := fun k => Nat.le_trans (List.length_filter_le _ _) hml
    have hfm : ∀ k, m ∈ fitF (marksF hs) ((wornF m js).drop k) := fun k => fit_has hm js k
    have hsd : ∀ k, sureD (fitF (marksF hs) ((wornF m js).drop k)) = .str (sureN (fitF (marksF hs) ((wornF m js).drop k)) 4) := fun k => by
      have := hfm k
      generalize fitF (marksF hs) ((wornF m js).drop k) = l at this ⊢
      cases l with
      | nil => cases this
      | cons a r => rfl
    have h1h : 1 ≤ [w4].length ∧ [w4].length ≤ 100 := ⟨Nat.le_refl 1, show 1 ≤ 100 by decide⟩
    walk_at "god"
    refine u_ix_g rfl hlast ?_
    walk_at "god"
    refine ⟨hs, [w4], rfl, hh, h1h, (fun w h => by rw [List.mem_singleton.mp h]; exact hw44), ?_⟩
    walk_at "god"
    refine u_ix_g rfl hlast ?_
    walk_at "god"
    refine ⟨hs, [w4], rfl, hh, h1h, (fun w h => by rw [List.mem_singleton.mp h]; exact hw44), ?_⟩
    rw [← hd4, hsd]
    walk_at "god"
    refine st_for ?_
    walk_at "god"
    refine ⟨⟨by decide, by decide, by decide, by decide⟩, fun i Δ' G' L' => ∃ (x4 x5 x6 x7 x8 x9 x10 : Option S) (L0 : List M), Δ' = [some (.d (houseD hs)), some (.d (strsD (wornF m js))), some (.d (strsT (fitF (marksF hs) ((wornF m js).drop (4 - i))))), some (.d (.str (sureN (fitF (marksF hs) ((wornF m js).drop (4 - i))) 4))), x4, x5, x6, x7, x8, x9, x10] ∧ G' = G ∧ L' = L0, ⟨none, none, none, none, none, none, none, [], rfl, rfl, rfl⟩, ?_, ?_⟩
    · rintro i d Δ' G' L' hd ⟨x4, x5, x6, x7, x8, x9, x10, L0, rfl, rfl, rfl⟩
      obtain ⟨hi, rfl⟩ := rngD_get hd
      have hi4 : i < 4 := hi
      walk_at "god"
      rw [show (5 : Int) - (2 + (i : Int)) = ((3 - i : Nat) : Int) by omega]
      refine sln_c (sl_l rfl ⟨_, rfl, ?_⟩)
      rw [cutD_dr, ← List.map_drop]
      walk_at "god"
      have hws : ∀ w ∈ (wornF m js).drop (3 - i), w.length = 4 := fun w h => hw4 w (List.mem_of_mem_drop h)
      have hwl3 : 1 ≤ ((wornF m js).drop (3 - i)).length ∧ ((wornF m js).drop (3 - i)).length ≤ 100 := by rw [List.length_drop]; omega
      refine ⟨hh, hwl3, hws, ?_⟩
      walk_at "god"
      refine ⟨hh, hwl3, hws, ?_⟩
      rw [hsd]
      have hsub : ∀ x ∈ fitF (marksF hs) ((wornF m js).drop (3 - i)), x ∈ fitF (marksF hs) ((wornF m js).drop (4 - i)) := fun x h => fit_drop (by omega) h
      have hsure : ∀ k, sureAt (fitF (marksF hs) ((wornF m js).drop (4 - i))) k ≠ 63 → sureAt (fitF (marksF hs) ((wornF m js).drop (3 - i))) k = sureAt (fitF (marksF hs) ((wornF m js).drop (4 - i))) k :=
        fun k h => sure_sub hsub (fun e => by have := hfm (3 - i); rw [e] at this; cases this) h
      have hm3 := hfm (3 - i)
      have hl3 := hfl (3 - i)
      have hl4 := hfl (4 - i)
      have e43 : 4 - (i + 1) = 3 - i := by omega
      generalize fitF (marksF hs) ((wornF m js).drop (4 - i)) = ahead at *
      walk_at "god"
      refine evn_c (evn_lcM ahead D.str (fun _ => true) (fun x => .tup [.str x, .bl true]) ?_)
      refine evi_seq (evc_varX ⟨_, rfl, _, _, rfl, rfl, ?_⟩)
      refine ⟨rfl, lt_line (by omega), ?_, ?_⟩
      · intro x hx
        walk_at "god"
        refine ⟨rfl, fun _ => ?_, fun e => (by cases e)⟩
        walk_at "god"
        exact ⟨rfl, rfl, rfl⟩
      rw [filter_yes]
      walk_at "god"
      refine ap_dictP ⟨ahead.map fun x => (x, .bl true), by rw [List.map_map]; rfl, ?_⟩
      generalize hkv : mergeX (ahead.map fun x => (x, D.bl true)) = kvs
      have hin : ∀ z, (getX kvs z).isSome = decide (z ∈ ahead) := fun z => by
        rw [← hkv, getX_merge, List.map_map]
        show decide (z ∈ ahead.map id) = _
        rw [List.map_id]
      walk_at "god"
      generalize hF : fitF (marksF hs) ((wornF m js).drop (3 - i)) = found at hm3 hl3 hsub hsure ⊢
      refine evn_c (evn_lcM found D.str (fun _ => false) D.str ?_)
      refine evi_seq (evc_varX ⟨_, rfl, _, _, rfl, rfl, ?_⟩)
      refine ⟨rfl, lt_line (by omega), ?_, ?_⟩
      · intro x hx
        walk_at "god"
        refine u_ninDX ⟨kvs, List.getElem?_concat_length, ?_⟩
        rw [hin, decide_eq_true (hsub x hx)]
        walk_at "god"
        exact ⟨rfl, (fun e => by cases e), fun _ => ⟨rfl, rfl⟩⟩
      rw [List.filter_eq_nil_iff.mpr (fun x _ h => by cases h)]
      walk_at "god"
      refine iteFF ?_
      walk_at "god"
      refine u_ix_g rfl (atI_of (j := 0) (x := .str m) (by cases js <;> rfl) rfl) ?_
      walk_at "god"
      rw [decide_eq_true hm3]
      walk_at "god"
      refine evn_c (evn_lcM (List.range 4) intD (fun _ => false) intD ?_)
      walk_at "god"
      refine ⟨by decide, by decide, rng_ints 4, lt_line (by decide), ?_, ?_⟩
      · intro j hj
        have hj4 : j < 4 := List.mem_range.mp hj
        show TgC K _ _ (.d (.int (j : Int))) _ _ _ _
        walk_at "god"
        refine u_ix_s (le_line (by rw [sureN_len]; decide)) (sure_ix hj4) ?_
        walk_at "god"
        refine iteND (fun hne => ?_) (fun he => ?_)
        · have hne3 : sureAt ahead j ≠ 63 := fun e => hne (by rw [e]; rfl)
          walk_at "god"
          refine u_ix_s (le_line (by rw [sureN_len]; decide)) (sure_ix hj4) ?_
          walk_at "god"
          refine u_ix_s (le_line (by rw [sureN_len]; decide)) (sure_ix hj4) ?_
          rw [hsure j hne3]
          walk_at "god"
          exact ⟨rfl, (fun e => by cases e), fun _ => ⟨rfl, rfl⟩⟩
        · walk_at "god"
          exact ⟨rfl, (fun e => by cases e), fun _ => ⟨rfl, rfl⟩⟩
      rw [List.filter_eq_nil_iff.mpr (fun x _ h => by cases h)]
      walk_at "god"
      refine iteFF ?_
      walk_at "god"
      exact ⟨_, _, _, _, _, _, _, _, (by rw [e43, hF]; rfl), rfl, rfl⟩
    rintro Δ' G' L' ⟨x4, x5, x6, x7, x8, x9, x10, L0, rfl, rfl, rfl⟩
    walk_at "god"
    refine ⟨hh, ⟨by omega, by omega⟩, hw4, ?_⟩
    rw [fit_worn hh nd hm js]
    walk_at "god"
    refine u_ix_g rfl (atI_of (j := 0) (x := .str m) (by cases js <;> rfl) rfl) ?_
    walk_at "god"
    refine u_eq_same rfl rfl ⟨1, by decide, eqb1_tup fun d hd => ?_⟩ ?_
    · rw [List.mem_singleton.mp hd]
      exact eqb1_str 0 (marks_ok hh hm)
    walk_at "god"
    refine u_ix_g rfl (atI_of (j := 0) (x := .str m) (by cases js <;> rfl) rfl) ?_
    walk_at "god"
    refine ⟨hs, [m], rfl, hh, h1h, (fun w h => by rw [List.mem_singleton.mp h]; exact hm4), ?_⟩
    rw [show fitF (marksF hs) [m] = [m] from fit_worn hh nd hm []]
    rw [show sureD [m] = .str (sureN [m] 4) from rfl, sure_mark hh hm]
    walk_at "god"
    refine u_ix_g rfl (atI_of (j := 0) (x := .str m) (by cases js <;> rfl) rfl) ?_
    walk_at "god"
    exact q
end
end Pf
namespace Pf
open PySem L2 DL
section
variable {P : Program} {w : World} {K : PySem.W.Frag} {mg : Str → Option Value} {base : Heap}
local macro_rules | `(tactic| walk_at "own") => `(tactic| first | (with_reducible refine st_own (i := 18) ?_))
local macro_rules | `(tactic| walk_at "d1") => `(tactic| with_reducible refine evc_neSets2 ?_)
theorem ok_l_others_right (T : TX w K mg) (G_fits : FnOk P w K mg base CX0 3 T.a_fits T.fd_fits ["house", "worn"] (spD K sp_fits)) (G_l_draw : FnOk P w K mg base CX0 1 T.a_l_draw T.fd_l_draw ["_law_deck_here", "_law_most"] (spD K sp_l_draw)) (G_l_order : FnOk P w K mg base CX0 2 T.a_l_order T.fd_l_order ["_law_deck_here", "_law_many"] (spD K sp_l_order)) (G_l_called : FnOk P w K mg base CX0 1 T.a_l_called T.fd_l_called ["_law_house_here", "_law_by", "_law_text"] (spD K sp_l_called)) : FnOk P w K mg base CX0 4 T.a_l_others_right T.fd_l_others_right ["_law_deck_here", "_law_house_here", "_law_worn"] (spD K sp_l_others_right) := by
  refine okD (k := 3) T.F_l_others_right sc_l_others_right (fun ss G Qd h => ?_) (fun cdv A outer s H E ss G Qd hr h => ?_)
  · obtain ⟨k, c, n, cells, seed, cnt, hs, wt, rfl, hD, hn, hh, nd, hw, q⟩ := h
    rfl
  · obtain ⟨k, c, n, cells, seed, cnt, hs, wt, rfl, hD, hn, hh, nd, hw, q⟩ := h
    refine ⟨_, (pss_cons (ps_set (i := 3) sc_l_others_right.nd rfl (Or.inl rfl) (pe_call G_fits (hr.mono (by decide)) rfl T.m_fits T.k_fits T.b_fits .nil pass0 (pa_cons (pv 1) (pa_cons (pv 2) pa_nil))))
      (pss_cons (ps_set (i := 4) sc_l_others_right.nd rfl (Or.inl rfl) (pe_callTy (show CallR _ (.type "tuple") (uTuple K) from uc_tuple) (by rfl) T.z_tuple (by decide +kernel) (pa_cons (pe_lc (own := [("_law_k", 5)]) (g := (gName 5)) (tt := tYes) (by rfl) sc_l_others_right.nd (pi_seq (pe_call G_l_order (hr.mono (by decide)) rfl T.m_l_order T.k_l_order T.b_l_order .nil pass0 (pa_cons (pv 0) (pa_cons (pe_callB (show CallR _ (.builtin "len") (uLen K) from uc_len) (by rfl) T.z_len (by decide +kernel) (pa_cons (pv 1) pa_nil)) pa_nil)))) (blkOk_by (N := ["_law_deck_here", "_law_house_here", "_law_worn", "_law_due", "_law_moved", "_law_k", "_law_first", "_law_by", "_law_called_here", "_law_letter", "_law_crafts", "_law_mark", "_law_at", "_law_left", "_law_due_without", "_law_own", "_law_hand", "_law_more", "_law_there"]) (sc := defScope s_l_others_right) (by decide +kernel)) (fun _ _ _ _ _ => (pg_name (i := 5) sc_l_others_right.nd rfl (Or.inl rfl))) (fun _ _ _ _ _ => pts_nil) (fun _ _ _ _ _ => (pe_ix (show IxR _ (rIx K) from ix_seq) (pv 1) (pv 5) (fun _ _ => rfl)))) pa_nil)))
      (pss_cons (ps_if (pt_cmpR (show OpR _ (compareOp .NotEq) (uNe K) from (uo_ne hr.units)) (pe_call G_fits (hr.mono (by decide)) rfl T.m_fits T.k_fits T.b_fits .nil pass0 (pa_cons (pv 4) (pa_cons (pv 2) pa_nil))) (pv 3) (nomark _)) (pss_one (ps_ret pe_bl)) pss_nil)
      (pss_cons (ps_set (i := 6) sc_l_others_right.nd rfl (Or.inr rfl) (pe_call G_l_draw (hr.mono (by decide)) rfl T.m_l_draw T.k_l_draw T.b_l_draw .nil pass0 (pa_cons (pv 0) (pa_cons pe_int pa_nil))))
      (pss_cons (ps_set (i := 7) sc_l_others_right.nd rfl (Or.inr rfl) (pe_lc (own := [("_law_k", 5)]) (g := (gName 5)) (tt := tYes) (by rfl) sc_l_others_right.nd (pi_range1 rfl T.z_range (pa_cons (pe_callB (show CallR _ (.builtin "len") (uLen K) from uc_len) (by rfl) T.z_len (by decide +kernel) (pa_cons (pv 1) pa_nil)) pa_nil)) (blkOk_by (N := ["_law_deck_here", "_law_house_here", "_law_worn", "_law_due", "_law_moved", "_law_k", "_law_first", "_law_by", "_law_called_here", "_law_letter", "_law_crafts", "_law_mark", "_law_at", "_law_left", "_law_due_without", "_law_own", "_law_hand", "_law_more", "_law_there"]) (sc := defScope s_l_others_right) (by decide +kernel)) (fun _ _ _ _ _ => (pg_name (i := 5) sc_l_others_right.nd rfl (Or.inl rfl))) (fun _ _ _ _ _ => pts_nil) (fun _ _ _ _ _ => (pe_ix (show IxR _ (rIx K) from ix_seq) pe_str (pe_op op_mod (pe_op (show OpR _ (binaryOp .Add) (uAdd K) from uo_add) (pv 6) (pe_op (show OpR _ (binaryOp .Mult) (uMulT K) from uo_mulT) pe_int (pv 5))) pe_int) (fun _ _ => rfl)))))
      (pss_cons (ps_set (i := 8) sc_l_others_right.nd rfl (Or.inl rfl) (pe_callTy (show CallR _ (.type "tuple") (uTuple K) from uc_tuple) (by rfl) T.z_tuple (by decide +kernel) (pa_cons (pe_lc (own := [("_law_k", 5), ("_law_letter", 9), ("_law_crafts", 10)]) (g := (gTup K 2 (gCons (gName 5) (gCons (gTup K 2 (gCons (gName 9) (gCons (gName 10) gNil))) gNil)))) (tt := tYes) (by rfl) sc_l_others_right.nd (show PI _ _ _ (DEt.iEnumT K _) from DEt.pi_enumT rfl T.z_enumerate (pa_cons (pv 1) pa_nil)) (blkOk_by (N := ["_law_deck_here", "_law_house_here", "_law_worn", "_law_due", "_law_moved", "_law_k", "_law_first", "_law_by", "_law_called_here", "_law_letter", "_law_crafts", "_law_mark", "_law_at", "_law_left", "_law_due_without", "_law_own", "_law_hand", "_law_more", "_law_there"]) (sc := defScope s_l_others_right) (by decide +kernel)) (fun _ _ _ _ _ => (pg_tup rfl (pgs_cons (pg_name (i := 5) sc_l_others_right.nd rfl (Or.inl rfl)) (pgs_cons (pg_tup rfl (pgs_cons (pg_name (i := 9) sc_l_others_right.nd rfl (Or.inl rfl)) (pgs_cons (pg_name (i := 10) sc_l_others_right.nd rfl (Or.inl rfl)) pgs_nil))) pgs_nil)))) (fun _ _ _ _ _ => pts_nil) (fun _ _ _ _ _ => (pe_tup (pa_cons (pe_ix (show IxR _ (rIx K) from ix_seq) (pv 7) (pv 5) (fun _ _ => rfl)) (pa_cons (pv 10) pa_nil))))) pa_nil)))
      (pss_cons (ps_if (pt_cmpR (show OpR _ (compareOp .NotEq) (DSe.rNeSet P w) from DSe.uo_neSet (Nat.lt_of_le_of_lt (Nat.le_add_right _ _) hr.units)) (pe_callTy (show CallR _ (.type "set") (DSt.rSetS2 P w K) from DSt.uc_setS2 rfl) (by rfl) T.z_set (by decide +kernel) (pa_cons (pe_call G_fits (hr.mono (by decide)) rfl T.m_fits T.k_fits T.b_fits .nil pass0 (pa_cons (pv 8) (pa_cons (pe_call G_l_called (hr.mono (by decide)) rfl T.m_l_called T.k_l_called T.b_l_called .nil pass0 (pa_cons (pv 1) (pa_cons (pv 7) (pa_cons (pv 2) pa_nil)))) pa_nil))) pa_nil)) (pe_callTy (show CallR _ (.type "set") (DSt.rSetS2 P w K) from DSt.uc_setS2 rfl) (by rfl) T.z_set (by decide +kernel) (pa_cons (pe_lc (own := [("_law_mark", 11)]) (g := (gName 11)) (tt := tYes) (by rfl) sc_l_others_right.nd (pi_seq (pv 3)) (blkOk_by (N := ["_law_deck_here", "_law_house_here", "_law_worn", "_law_due", "_law_moved", "_law_k", "_law_first", "_law_by", "_law_called_here", "_law_letter", "_law_crafts", "_law_mark", "_law_at", "_law_left", "_law_due_without", "_law_own", "_law_hand", "_law_more", "_law_there"]) (sc := defScope s_l_others_right) (by decide +kernel)) (fun _ _ _ _ _ => (pg_name (i := 11) sc_l_others_right.nd rfl (Or.inl rfl))) (fun _ _ _ _ _ => pts_nil) (fun _ _ _ _ _ => (pe_call G_l_called (hr.mono (by decide)) rfl T.m_l_called T.k_l_called T.b_l_called .nil pass0 (pa_cons (pv 1) (pa_cons (pv 7) (pa_cons (pv 11) pa_nil)))))) pa_nil)) (nomark _)) (pss_one (ps_ret pe_bl)) pss_nil)
      (pss_cons (ps_set (i := 12) sc_l_others_right.nd rfl (Or.inr rfl) (pe_call G_l_draw (hr.mono (by decide)) rfl T.m_l_draw T.k_l_draw T.b_l_draw .nil pass0 (pa_cons (pv 0) (pa_cons (pe_callB (show CallR _ (.builtin "len") (uLen K) from uc_len) (by rfl) T.z_len (by decide +kernel) (pa_cons (pv 1) pa_nil)) pa_nil))))
      (pss_cons (ps_set (i := 13) sc_l_others_right.nd rfl (Or.inl rfl) (pe_op (show OpR _ (binaryOp .Add) (uAdd K) from uo_add) (pe_slice (show SlR _ (uSl K) from us_sl) (pv 1) po_none (po_some (pv 12))) (pe_slice (show SlR _ (uSl K) from us_sl) (pv 1) (po_some (pe_op (show OpR _ (binaryOp .Add) (uAdd K) from uo_add) (pv 12) pe_int)) po_none)))
      (pss_cons (ps_set (i := 14) sc_l_others_right.nd rfl (Or.inl rfl) (pe_callTy (show CallR _ (.type "tuple") (uTuple K) from uc_tuple) (by rfl) T.z_tuple (by decide +kernel) (pa_cons (pe_lc (own := [("_law_mark", 11)]) (g := (gName 11)) (by rfl) sc_l_others_right.nd (pi_seq (pv 3)) (blkOk_by (N := ["_law_deck_here", "_law_house_here", "_law_worn", "_law_due", "_law_moved", "_law_k", "_law_first", "_law_by", "_law_called_here", "_law_letter", "_law_crafts", "_law_mark", "_law_at", "_law_left", "_law_due_without", "_law_own", "_law_hand", "_law_more", "_law_there"]) (sc := defScope s_l_others_right) (by decide +kernel)) (fun _ _ _ _ _ => (pg_name (i := 11) sc_l_others_right.nd rfl (Or.inl rfl))) (fun _ _ _ _ _ => (pts_one (pt_cmpR (show OpR _ (compareOp .NotIn) (uIn K true) from uo_nin) (pe_ix (show IxR _ (rIx K) from ix_seq) (pe_ix (show IxR _ (rIx K) from ix_seq) (pv 1) (pv 12) (fun _ _ => rfl)) pe_int (fun _ _ => rfl)) (pv 11) (by rfl)))) (fun _ _ _ _ _ => (pv 11))) pa_nil)))
      (pss_cons (ps_if (PW.pt (pw_and (pt_cmpR (show OpR _ (compareOp .NotEq) (rNeT0 K) from op_neT0 hr.units) (pv 13) (pe_tup pa_nil) (nomark _)) (pw_and1 (pt_cmpR (show OpR _ (compareOp .NotEq) (uNe K) from (uo_ne hr.units)) (pe_call G_fits (hr.mono (by decide)) rfl T.m_fits T.k_fits T.b_fits .nil pass0 (pa_cons (pv 13) (pa_cons (pv 2) pa_nil))) (pv 14) (nomark _))))) (pss_one (ps_ret pe_bl)) pss_nil)
      (pss_cons (ps_setLc (i := 15) (own := [("_law_letter", 9)]) (g := (gName 9)) (by rfl) sc_l_others_right.nd rfl rfl (sw_true rfl rfl rfl (by decide +kernel)) (pi_seq pe_str) (blkOk_by (N := ["_law_deck_here", "_law_house_here", "_law_worn", "_law_due", "_law_moved", "_law_k", "_law_first", "_law_by", "_law_called_here", "_law_letter", "_law_crafts", "_law_mark", "_law_at", "_law_left", "_law_due_without", "_law_own", "_law_hand", "_law_more", "_law_there"]) (sc := defScope s_l_others_right) (by decide +kernel)) (fun _ _ _ _ _ => (pg_name (i := 9) sc_l_others_right.nd rfl (Or.inl rfl))) (fun _ _ _ _ _ => (pts_one (pt_cmpR (show OpR _ (compareOp .NotIn) (uIn K true) from uo_nin) (pv 9) (pe_lc (own := [("_law_hand", 16)]) (g := (gName 16)) (tt := tYes) (by rfl) sc_l_others_right.nd (show PI _ _ _ (iSeq K _) from pi_seq (pv 1)) (blkOk_by (by rfl)) (fun _ _ _ _ _ => (pg_name (i := 16) sc_l_others_right.nd rfl (Or.inl rfl))) (fun _ _ _ _ _ => pts_nil) (fun _ _ _ _ _ => (pe_ix (show IxR _ (rIx K) from ix_seq) (pv 16) pe_int (fun _ _ => rfl)))) (by rfl)))) (fun _ _ _ _ _ => (pv 9)))
      (pss_cons (ps_set (i := 17) sc_l_others_right.nd rfl (Or.inl rfl) (pe_op (show OpR _ (binaryOp .Add) (uAdd K) from uo_add) (pe_slice (show SlR _ (uSl K) from us_sl) (pv 1) po_none (po_some pe_int)) (pe_tup (pa_cons (pe_tup (pa_cons (pe_ix (show IxR _ (rIx K) from ix_seq) (pv 15) (pe_call G_l_draw (hr.mono (by decide)) rfl T.m_l_draw T.k_l_draw T.b_l_draw .nil pass0 (pa_cons (pv 0) (pa_cons (pe_callB (show CallR _ (.builtin "len") (uLen K) from uc_len) (by rfl) T.z_len (by decide +kernel) (pa_cons (pv 15) pa_nil)) pa_nil))) (fun _ _ => rfl)) (pa_cons (pe_tup (pa_cons pe_int (pa_cons pe_int (pa_cons pe_int (pa_cons pe_int pa_nil))))) pa_nil))) pa_nil))))
      (pss_cons (ps_set (i := 18) sc_l_others_right.nd rfl (Or.inr rfl) (pe_callTy (show CallR _ (.type "dict") (rDictP K) from uc_dictP rfl) (by rfl) T.z_dict (by decide +kernel) (pa_cons (pe_lc (own := [("_law_mark", 11)]) (g := (gName 11)) (tt := tYes) (by rfl) sc_l_others_right.nd (pi_seq (pe_call G_fits (hr.mono (by decide)) rfl T.m_fits T.k_fits T.b_fits .nil pass0 (pa_cons (pv 17) (pa_cons (pv 2) pa_nil)))) (blkOk_by (N := ["_law_deck_here", "_law_house_here", "_law_worn", "_law_due", "_law_moved", "_law_k", "_law_first", "_law_by", "_law_called_here", "_law_letter", "_law_crafts", "_law_mark", "_law_at", "_law_left", "_law_due_without", "_law_own", "_law_hand", "_law_more", "_law_there"]) (sc := defScope s_l_others_right) (by decide +kernel)) (fun _ _ _ _ _ => (pg_name (i := 11) sc_l_others_right.nd rfl (Or.inl rfl))) (fun _ _ _ _ _ => pts_nil) (fun _ _ _ _ _ => (pe_tup (pa_cons (pv 11) (pa_cons pe_bl pa_nil))))) pa_nil)))
      (pss_one (ps_ret (pe_cmpR (show OpR _ (compareOp .Eq) (rEqL0 K false) from op_eqL0 hr.units) (pe_lc (own := [("_law_mark", 11)]) (g := (gName 11)) (by rfl) sc_l_others_right.nd (pi_seq (pe_call G_fits (hr.mono (by decide)) rfl T.m_fits T.k_fits T.b_fits .nil pass0 (pa_cons (pe_slice (show SlR _ (uSl K) from us_sl) (pv 1) po_none (po_some pe_int)) (pa_cons (pv 2) pa_nil)))) (blkOk_by (N := ["_law_deck_here", "_law_house_here", "_law_worn", "_law_due", "_law_moved", "_law_k", "_law_first", "_law_by", "_law_called_here", "_law_letter", "_law_crafts", "_law_mark", "_law_at", "_law_left", "_law_due_without", "_law_own", "_law_hand", "_law_more", "_law_there"]) (sc := defScope s_l_others_right) (by decide +kernel)) (fun _ _ _ _ _ => (pg_name (i := 11) sc_l_others_right.nd rfl (Or.inl rfl))) (fun _ _ _ _ _ => (pts_one (pt_cmpR (show OpR _ (compareOp .NotIn) rNinDi from op_ninDi (Nat.lt_of_le_of_lt (Nat.add_le_add_left (by decide) _) hr.units)) (pv 11) (pv 18) (by rfl)))) (fun _ _ _ _ _ => (pv 11))) (pe_lst pa_nil) (nomark _)))))))))))))))))), ?_⟩
    simp only [cxOf, Cx.nox, Cx.wish, Cx.blk, startD, List.map, List.length_cons, List.length_nil, Nat.reduceAdd, Nat.reduceSub, List.replicate, List.cons_append, List.nil_append]
    have hl6 := hh.l1
    have hl0 := hh.l0
    have hw4 := hw.1
    have hfew : ∀ hs' : Hands, HouseOk hs' → ∀ v : Str, v.length = 4 → (fitsF hs' v).length ≤ 1555 := fun hs' h' v hv => by
      rw [fits_eq h' hv]
      exact Nat.le_trans (List.length_filter_le _ _) (marks_few h'.l1)
    have hdl := hfew hs hh wt hw4
    have hd4 : ∀ m ∈ fitsF hs wt, m ∈ marksF hs := fun m h => by
      rw [fits_eq hh hw4] at h
      exact (List.mem_filter.mp h).1
    have heqb : Eqb1 1 (strsT (fitsF hs wt)) := eqb1_tup fun d hd => by
      obtain ⟨x, hx, rfl⟩ := List.mem_map.mp hd
      exact eqb1_str 0 (marks_ok hh (hd4 x hx))
    walk_at "god"
    refine ⟨hl6, hw4, ?_⟩
    walk_at "god"
    refine evn_c (evn_lcE intD (fun _ => true) (fun j => handD (hs.getD j (0, []))) ?_)
    refine evi_seq ?_
    walk_at "god"
    refine ⟨k, c, _, _, _, _, hs.length, by rw [List.length_map], hD, by omega, hl6, fun js G1 hp t1 => ?_⟩
    obtain ⟨_, _, _, D1⟩ := t1.dk
    have hjl : js.length = hs.length := by rw [hp.length_eq, List.length_range]
    refine ⟨_, _, rfl, rfl, ?_⟩
    refine ⟨js, rfl, lt_line (by omega), ?_, ?_⟩
    · intro j hj
      have hj4 : j < hs.length := List.mem_range.mp (hp.mem_iff.mp hj)
      show TgC K _ _ (.d (.int (j : Int))) _ _ _ _
      walk_at "god"
      refine ⟨rfl, fun _ => ?_, fun e => (by cases e)⟩
      walk_at "god"
      refine u_ix_g (show seqG _ _ _ = some (hs.map handD) from rfl) (atI_of (j := j) (x := handD (hs.getD j (0, []))) ?_ rfl) ?_
      · rw [List.getElem?_map, List.getD_eq_getElem?_getD, List.getElem?_eq_getElem hj4]
        rfl
      exact ⟨rfl, rfl, rfl⟩
    rw [filter_yes]
    walk_at "god"
    have hmp := move_perm hp
    refine ⟨js.map fun k => hs.getD k (0, []), wt, ?_, by rw [List.length_map]; omega, hw4, ?_⟩
    · show [S.d (.tup (js.map fun j => handD (hs.getD j (0, [])))), _] = [S.d (.tup ((js.map fun k => hs.getD k (0, [])).map handD)), _]
      rw [List.map_map]
      rfl
    rw [fits_perm hmp]
    walk_at "god"
    refine u_ne_same rfl rfl ⟨1, by decide, heqb⟩ ?_
    walk_at "god"
    rename_i r G2 cells2 seed2 cnt2 t2 D2 hr0 hr1
    obtain ⟨bs, hbs⟩ : ∃ bs, bs = (List.range hs.length).map (zyxAt r) := ⟨_, rfl⟩
    have hbl : bs.length = hs.length := by rw [hbs, List.length_map, List.length_range]
    have hbr : ∀ b ∈ bs, 97 ≤ b ∧ b ≤ 122 := fun b hb => by
      rw [hbs] at hb
      obtain ⟨j, _, rfl⟩ := List.mem_map.mp hb
      exact zyx_lt r j
    have hbn : bs.Nodup := by
      rw [hbs]
      exact zyx_nd r hl6
    have eb : (List.range hs.length).map (fun j => D.str (letS (zyxAt r j))) = (bs.map letS).map D.str := by
      rw [hbs, List.map_map, List.map_map]
      rfl
    have er : hs.zipIdx.map (fun p => D.tup [.str (letS (bs.getD p.2 0)), .tup (p.1.2.map D.int)]) = (renH (byN hs bs) hs).map handD := by
      rw [← ren_zip nd hbl, List.map_map]
      rfl
    have rno := ren_ok hh nd hbl hbn hbr
    have rnh := ren_house hh nd hbl hbr
    refine evn_c (evn_lcM (List.range hs.length) intD (fun _ => true) (fun j => .str (letS (zyxAt r j))) ?_)
    walk_at "god"
    refine ⟨by rw [List.length_map]; omega, by rw [List.length_map]; omega, by rw [List.length_map]; exact rng_ints _, lt_line (by rw [List.length_range]; omega), ?_, ?_⟩
    · intro j hj
      have hj4 : j < hs.length := List.mem_range.mp hj
      show TgC K _ _ (.d (.int (j : Int))) _ _ _ _
      walk_at "god"
      refine ⟨rfl, fun _ => ?_, fun e => (by cases e)⟩
      walk_at "god"
      refine u_ix_s (le_line (by decide)) (zyx_at r j) ?_
      exact ⟨rfl, rfl, rfl⟩
    rw [filter_yes, eb]
    walk_at "god"
    refine evn_c (evn_lcM (hs.zipIdx) (fun p => .tup [.int (p.2 : Int), handD p.1]) (fun _ => true) (fun p => .tup [.str (letS (bs.getD p.2 0)), .tup (p.1.2.map D.int)]) ?_)
    refine evi_enumT ?_
    walk_at "god"
    refine ⟨enumD_map handD hs 0, lt_line (show (hs.zipIdx).length ≤ 100000 by rw [List.length_zipIdx]; omega), ?_, ?_⟩
    · rintro ⟨h, j⟩ hj
      have hjl : j < hs.length := by
        have := List.mem_zipIdx hj
        omega
      show TgC K _ _ (.d (.tup [.int (j : Int), .tup [.str (letS h.1), .tup (h.2.map D.int)]])) _ _ _ _
      walk_at "god"
      refine ⟨rfl, fun _ => ?_, fun e => (by cases e)⟩
      walk_at "god"
      refine u_ix_g (show seqG _ _ _ = some ((bs.map letS).map D.str) from rfl) (atI_of (j := j) (x := .str (letS (bs.getD j 0))) ?_ rfl) ?_
      · rw [List.getElem?_map, List.getElem?_map, List.getD_eq_getElem?_getD, List.getElem?_eq_getElem (by omega)]
        rfl
      walk_at "god"
      exact ⟨rfl, rfl, rfl⟩
    rw [filter_yes, er]
    have rn4 : (rnF (byN hs bs) wt).length = 4 := by
      rw [← cl_len]
      unfold rnF
      rw [cl_txl, List.length_map, cl_len, hw4]
    walk_at "god"
    refine ⟨hs, bs, wt, rfl, hh, nd, hbl, by omega, ?_⟩
    walk_at "god"
    refine ⟨rnh.l1, rn4, ?_⟩
    walk_at "god"
    refine ⟨Nat.lt_of_le_of_lt (met_len _) (Nat.lt_of_le_of_lt (hfew _ rnh _ rn4) (by decide)), ?_⟩
    refine evn_c (evn_lcM (fitsF hs wt) D.str (fun _ => true) (fun m => .str (rnF (byN hs bs) m)) ?_)
    refine evi_seq (evc_varX ⟨_, rfl, _, _, rfl, rfl, ?_⟩)
    refine ⟨rfl, lt_line (by omega), ?_, ?_⟩
    · intro m hm
      have hm4 := marks_mem (hd4 m hm)
      walk_at "god"
      refine ⟨rfl, fun _ => ?_, fun e => (by cases e)⟩
      walk_at "god"
      refine ⟨hs, bs, m, rfl, hh, nd, hbl, by omega, ?_⟩
      exact ⟨rfl, rfl, rfl⟩
    rw [filter_yes]
    refine ⟨_, rfl, (fitsF hs wt).map (rnF (byN hs bs)), ?_, ?_, ?_⟩
    · show some _ = some _
      rw [List.map_map]
      rfl
    · exact Nat.lt_of_le_of_lt (met_len _) (by rw [List.length_map]; omega)
    intro rr hrr
    have hrt : rr = true := hrr.mpr fun k => fits_ren rno hh rnh hw4 hw.2 k
    subst hrt
    walk_at "god"
    rename_i at0 G3 cells3 seed3 cnt3 t3 D3 ha0 ha1
    obtain ⟨a, rfl⟩ : ∃ a : Nat, at0 = (a : Int) := ⟨at0.toNat, by omega⟩
    have ha : a < hs.length := by
      rw [List.length_map] at ha1
      omega
    obtain ⟨g, hg⟩ : ∃ g, hs[a]? = some g := ⟨_, List.getElem?_eq_getElem ha⟩
    have hsp : hs.take a ++ g :: hs.drop (a + 1) = hs := by
      have e := List.take_append_drop a hs
      rw [List.drop_eq_getElem_cons ha] at e
      rw [List.getElem?_eq_getElem ha] at hg
      rw [← Option.some.inj hg]
      exact e
    have hhs : HouseOk (hs.take a ++ g :: hs.drop (a + 1)) := by rw [hsp]; exact hh
    have nds : Nd (hs.take a ++ g :: hs.drop (a + 1)) := by rw [hsp]; exact nd
    refine sl_t ?_
    rw [cutD_tk, ← List.map_take]
    walk_at "god"
    refine sl_t ?_
    rw [show (a : Int) + 1 = ((a + 1 : Nat) : Int) from rfl, cutD_dr, ← List.map_drop]
    refine u_add_t (le_line (by rw [List.length_map, List.length_map, List.length_take, List.length_drop]; omega)) ?_
    rw [← List.map_append]
    walk_at "god"
    refine evn_c (evn_lcM (fitsF hs wt) D.str (fun m => !decide (g.1 ∈ cl m)) D.str ?_)
    refine evi_seq (evc_varX ⟨_, rfl, _, _, rfl, rfl, ?_⟩)
    refine ⟨rfl, lt_line (by omega), ?_, ?_⟩
    · intro m hm
      walk_at "god"
      refine u_ix_g (show seqG _ _ _ = some (hs.map handD) from rfl) (atI_of (j := a) (x := handD g) (by rw [List.getElem?_map, hg]; rfl) rfl) ?_
      walk_at "god"
      refine u_in_c (neg := true) (ch := g.1) ?_
      refine ⟨_, rfl, rfl, fun _ => ?_, fun _ => ⟨rfl, rfl⟩⟩
      walk_at "god"
      exact ⟨rfl, rfl, rfl⟩
    walk_at "god"
    refine ite_andF (fun hne => ?_) ?_
    · have hh' : HouseOk (hs.take a ++ hs.drop (a + 1)) := by
        refine ⟨?_, by rw [List.length_append, List.length_take, List.length_drop]; omega, fun h hm => hh.lt h (by rw [← hsp]; rcases List.mem_append.mp hm with z | z; exact List.mem_append.mpr (.inl z); exact List.mem_append.mpr (.inr (List.mem_cons_of_mem _ z)))⟩
        rcases Nat.eq_zero_or_pos (hs.take a ++ hs.drop (a + 1)).length with z | z
        · rw [List.eq_nil_of_length_eq_zero z] at hne
          cases hne
        · exact z
      walk_at "god"
      refine ⟨hh'.l1, hw4, ?_⟩
      rw [fits_less hhs nds hh' hw4, hsp]
      walk_at "god"
      refine u_ne_same rfl rfl ⟨1, by decide, eqb1_tup fun d hd => ?_⟩ ?_
      · obtain ⟨x, hx, rfl⟩ := List.mem_map.mp hd
        exact eqb1_str 0 (marks_ok hh (hd4 x (List.mem_filter.mp hx).1))
      walk_at "god"
      exact ⟨rfl, rfl, rfl⟩
    walk_at "god"
    refine evn_c (evn_lcM (cl "abcdefghijklmnopqrstuvwxyz") (fun c => .str (letS c)) (fun c => !decide (letS c ∈ hs.map fun h => letS h.1)) (fun c => .str (letS c)) ?_)
    refine evi_seq ?_
    walk_at "god"
    refine ⟨rfl, lt_line (by decide), ?_, ?_⟩
    · intro lc _
      walk_at "god"
      refine evn_c (evn_lcM hs handD (fun _ => true) (fun h => .str (letS h.1)) ?_)
      refine evi_seq (evc_varX ⟨_, rfl, _, _, rfl, rfl, ?_⟩)
      refine ⟨rfl, lt_line (by omega), ?_, ?_⟩
      · intro h hm
        show TgC K _ _ (.d (.tup [.str (letS h.1), .tup (h.2.map D.int)])) _ _ _ _
        walk_at "god"
        refine ⟨rfl, fun _ => ?_, fun e => (by cases e)⟩
        walk_at "god"
        exact ⟨rfl, rfl, rfl⟩
      rw [filter_yes]
      refine ⟨_, rfl, ?_⟩
      refine u_nin_sX ⟨hs.map fun h => letS h.1, by show some _ = some _; rw [List.map_map]; rfl, ?_⟩
      refine ⟨_, rfl, rfl, fun _ => ?_, fun _ => ⟨rfl, rfl⟩⟩
      walk_at "god"
      exact ⟨rfl, rfl, rfl⟩
    rw [show (cl "abcdefghijklmnopqrstuvwxyz").filter (fun c => !decide (letS c ∈ hs.map fun h => letS h.1)) = ownL hs from rfl]
    have ⟨ho0, ho1⟩ := own_pos hl6
    walk_at "god"
    refine sl_t ?_
    rw [show (5 : Int) = ((5 : Nat) : Int) from rfl, cutD_tk, ← List.map_take]
    walk_at "god"
    rename_i r4 G4 cells4 seed4 cnt4 t4 D4 h40 h41
    refine u_ix_all ⟨_, rfl, h40, h41, fun d hd => ?_⟩
    obtain ⟨cc, hcc, rfl⟩ := List.mem_map.mp hd
    have hcl := own_lt hcc
    walk_at "god"
    refine u_add_t (le_line (by rw [List.length_map, List.length_take]; show _ + 1 ≤ _; omega)) ?_
    have hM : HouseOk (hs.take 5 ++ [(cc, [0, 1, 2, 3])]) := by
      refine ⟨by rw [List.length_append]; exact Nat.le_add_left 1 _, by rw [List.length_append, List.length_take]; show _ + 1 ≤ _; omega, fun h hm => ?_⟩
      rcases List.mem_append.mp hm with z | z
      · exact hh.lt h (List.mem_of_mem_take z)
      · rw [List.mem_singleton.mp z]
        exact ⟨hcl.1, hcl.2, Nat.le_refl 4⟩
    have hT : HouseOk (hs.take 5) := ⟨by rw [List.length_take]; omega, by rw [List.length_take]; omega, fun h hm => hh.lt h (List.mem_of_mem_take hm)⟩
    rw [show (hs.take 5).map handD ++ [D.tup [.str (letS cc), .tup [.int 0, .int 1, .int 2, .int 3]]] = (hs.take 5 ++ [(cc, [0, 1, 2, 3])]).map handD by rw [List.map_append]; rfl]
    have hsub : ∀ m ∈ fitsF (hs.take 5) wt, m ∈ fitsF (hs.take 5 ++ [(cc, [0, 1, 2, 3])]) wt := fun m h => fits_mono hT hM (fun h hm => List.mem_append.mpr (.inl hm)) hw4 h
    have hlM := hfew _ hM wt hw4
    have hlT := hfew _ hT wt hw4
    walk_at "god"
    refine evn_c (evn_lcM (fitsF (hs.take 5 ++ [(cc, [0, 1, 2, 3])]) wt) D.str (fun _ => true) (fun x => .tup [.str x, .bl true]) ?_)
    refine evi_seq ?_
    walk_at "god"
    refine ⟨hM.l1, hw4, ?_⟩
    walk_at "god"
    refine ⟨rfl, lt_line (by omega), ?_, ?_⟩
    · intro x hx
      walk_at "god"
      refine ⟨rfl, fun _ => ?_, fun e => (by cases e)⟩
      walk_at "god"
      exact ⟨rfl, rfl, rfl⟩
    rw [filter_yes]
    generalize fitsF (hs.take 5 ++ [(cc, [0, 1, 2, 3])]) wt = there at *
    walk_at "god"
    refine ap_dictP ⟨there.map fun x => (x, .bl true), by rw [List.map_map]; rfl, ?_⟩
    generalize hkv : mergeX (there.map fun x => (x, D.bl true)) = kvs
    have hin : ∀ z, (getX kvs z).isSome = decide (z ∈ there) := fun z => by
      rw [← hkv, getX_merge, List.map_map]
      show decide (z ∈ there.map id) = _
      rw [List.map_id]
    walk_at "god"
    refine evn_c (evn_lcM (fitsF (hs.take 5) wt) D.str (fun _ => false) D.str ?_)
    refine evi_seq ?_
    walk_at "god"
    refine sl_t ?_
    rw [cutD_tk, ← List.map_take]
    walk_at "god"
    refine ⟨hT.l1, hw4, ?_⟩
    walk_at "god"
    refine ⟨rfl, lt_line (by omega), ?_, ?_⟩
    · intro x hx
      walk_at "god"
      refine u_ninDX ⟨kvs, rfl, ?_⟩
      rw [hin, decide_eq_true (hsub x hx)]
      walk_at "god"
      exact ⟨rfl, (fun e => by cases e), fun _ => ⟨rfl, rfl⟩⟩
    rw [List.filter_eq_nil_iff.mpr (fun x _ h => by cases h)]
    walk_at "god"
    exact q _ ((((t1.trans t2).trans t3).trans t4).mono (by omega))
end
end Pf
namespace Pf
open PySem L2 DL
section
variable {P : Program} {w : World} {K : PySem.W.Frag} {mg : Str → Option Value} {base : Heap}
local macro_rules | `(tactic| walk_at "own") => `(tactic| first | (with_reducible refine st_own (i := 2) ?_))
theorem ok_law (T : TX w K mg) (G_l_deck : FnOk P w K mg base CX0 1 T.a_l_deck T.fd_l_deck ["_law_script"] (spD K sp_l_deck)) (G_l_house : FnOk P w K mg base CX0 2 T.a_l_house T.fd_l_house ["_law_deck_here"] (spD K sp_l_house)) (G_l_marks : FnOk P w K mg base CX0 1 T.a_l_marks T.fd_l_marks ["_law_house_here"] (spD K sp_l_marks)) (G_l_worn_on : FnOk P w K mg base CX0 3 T.a_l_worn_on T.fd_l_worn_on ["_law_deck_here", "_law_mark"] (spD K sp_l_worn_on)) (G_l_steps_right : FnOk P w K mg base CX0 4 T.a_l_steps_right T.fd_l_steps_right ["_law_house_here", "_law_marks_here", "_law_worn_on_here"] (spD K sp_l_steps_right)) (G_l_more_right : FnOk P w K mg base CX0 6 T.a_l_more_right T.fd_l_more_right ["_law_house_here", "_law_worn_on_here"] (spD K sp_l_more_right)) (G_l_others_right : FnOk P w K mg base CX0 4 T.a_l_others_right T.fd_l_others_right ["_law_deck_here", "_law_house_here", "_law_worn"] (spD K sp_l_others_right)) (G_is_mark : FnOk P w K mg base CX0 2 T.a_is_mark T.fd_is_mark ["house", "thing"] (spD K sp_is_mark)) (G_l_draw : FnOk P w K mg base CX0 1 T.a_l_draw T.fd_l_draw ["_law_deck_here", "_law_most"] (spD K sp_l_draw)) : FnOk P w K mg base CX0 7 T.a_law T.fd_law ["_law_script"] (spD K sp_law) := by
  refine okD (k := 6) T.F_law sc_law (fun ss G Qd h => ?_) (fun cdv A outer s H E ss G Qd hr h => ?_)
  · obtain ⟨ns, rfl, rfl, hns, q⟩ := h
    rfl
  · obtain ⟨ns, rfl, rfl, hns, q⟩ := h
    refine ⟨_, (pss_cons (ps_set (i := 1) sc_law.nd rfl (Or.inl rfl) (pe_call G_l_deck (hr.mono (by decide)) rfl T.m_l_deck T.k_l_deck T.b_l_deck .nil pass0 (pa_cons (pv 0) pa_nil)))
      (pss_cons (ps_set (i := 2) sc_law.nd rfl (Or.inl rfl) (pe_lst pa_nil))
      (pss_cons (ps_for PassesOwn.never rfl (pi_range1 rfl T.z_range (pa_cons pe_int pa_nil)) (pg_name (i := 3) sc_law.nd rfl (Or.inl rfl)) (pss_cons (ps_set (i := 4) sc_law.nd rfl (Or.inl rfl) (pe_call G_l_house (hr.mono (by decide)) rfl T.m_l_house T.k_l_house T.b_l_house .nil pass0 (pa_cons (pv 1) pa_nil)))
      (pss_cons (ps_set (i := 5) sc_law.nd rfl (Or.inl rfl) (pe_call G_l_marks (hr.mono (by decide)) rfl T.m_l_marks T.k_l_marks T.b_l_marks .nil pass0 (pa_cons (pv 4) pa_nil)))
      (pss_one (ps_expr (pe_bm PySem.F.plainAttrs_list PySem.F.slot_list_append PySem.F.type_list_append mt_append (pv 2) (pa_cons (pe_tup (pa_cons (pv 4) (pa_cons (pv 5) (pa_cons (pe_call G_l_worn_on (hr.mono (by decide)) rfl T.m_l_worn_on T.k_l_worn_on T.b_l_worn_on .nil pass0 (pa_cons (pv 1) (pa_cons (pe_ix (show IxR _ (rIx K) from ix_seq) (pv 5) (pe_call G_l_draw (hr.mono (by decide)) rfl T.m_l_draw T.k_l_draw T.b_l_draw .nil pass0 (pa_cons (pv 1) (pa_cons (pe_callB (show CallR _ (.builtin "len") (uLen K) from uc_len) (by rfl) T.z_len (by decide +kernel) (pa_cons (pv 5) pa_nil)) pa_nil))) (fun _ _ => rfl)) pa_nil))) pa_nil)))) pa_nil)))))))
      (pss_cons (ps_for PassesOwn.never rfl (pi_seq (pe_op (show OpR _ (binaryOp .Add) (uAdd K) from uo_add) (pv 2) (pv 2))) (pg_tup rfl (pgs_cons (pg_name (i := 4) sc_law.nd rfl (Or.inl rfl)) (pgs_cons (pg_name (i := 5) sc_law.nd rfl (Or.inl rfl)) (pgs_cons (pg_name (i := 6) sc_law.nd rfl (Or.inl rfl)) pgs_nil)))) (pss_cons (ps_if (PW.pt (pw_or (pt_not (pt_val (pe_call G_l_steps_right (hr.mono (by decide)) rfl T.m_l_steps_right T.k_l_steps_right T.b_l_steps_right .nil pass0 (pa_cons (pv 4) (pa_cons (pv 5) (pa_cons (pv 6) pa_nil)))))) (pw_or1 (pt_not (pt_val (pe_call G_l_more_right (hr.mono (by decide)) rfl T.m_l_more_right T.k_l_more_right T.b_l_more_right .nil pass0 (pa_cons (pv 4) (pa_cons (pv 6) pa_nil)))))))) (pss_one (ps_ret pe_bl)) pss_nil)
      (pss_one (ps_if (PW.pt (pw_or (pt_not (pt_val (pe_call G_l_others_right (hr.mono (by decide)) rfl T.m_l_others_right T.k_l_others_right T.b_l_others_right .nil pass0 (pa_cons (pv 1) (pa_cons (pv 4) (pa_cons (pe_ix (show IxR _ (rIx K) from ix_seq) (pv 6) (pe_call G_l_draw (hr.mono (by decide)) rfl T.m_l_draw T.k_l_draw T.b_l_draw .nil pass0 (pa_cons (pv 1) (pa_cons pe_int pa_nil))) (fun _ _ => rfl)) pa_nil)))))) (pw_or1 (pt_cmpR op_notBl (pe_call G_is_mark (hr.mono (by decide)) rfl T.m_is_mark T.k_is_mark T.b_is_mark .nil pass0 (pa_cons (pv 4) (pa_cons (pe_ix (show IxR _ (rIx K) from ix_seq) (pv 6) pe_int (fun _ _ => rfl)) pa_nil))) pe_bl (nomark _))))) (pss_one (ps_ret pe_bl)) pss_nil))))
      (pss_one (ps_ret pe_bl)))))), ?_⟩
    simp only [cxOf, Cx.nox, Cx.wish, Cx.blk, startD, List.map, List.length_cons, List.length_nil, Nat.reduceAdd, Nat.reduceSub, List.replicate, List.cons_append, List.nil_append]
    refine st_seq ?_
    refine st_ownB ?_
    walk_at "go"
    refine ⟨hns, fun cells seed hcl hs0 hs1 => ⟨_, _, rfl, ?_⟩⟩
    refine st_law ?_
    show StC K _ [some (.d (.scr ns)), some (.g 1), none, none, none, none, none] [M.pl (cells.map D.int), .hl [.g 0, .d (.int seed), .d (.int 0)]] [] _
    have D0 : Dk [M.pl (cells.map D.int), .hl [.g 0, .d (.int seed), .d (.int 0)]] 1 0 0 cells seed 0 := ⟨rfl, rfl, by decide, hs0, hs1, by decide, by decide, by omega⟩
    generalize [M.pl (cells.map D.int), .hl [.g 0, .d (.int seed), .d (.int 0)]] = G0 at D0 ⊢
    walk_at "god"
    refine st_for ?_
    walk_at "god"
    refine ⟨by decide, by decide, ?_⟩
    refine ⟨fun i Δ' G' L' => ∃ (as : List (Hands × Str × List Nat)) (x3 x4 x5 x6 : Option S), Δ' = [some (.d (.scr ns)), some (.g 1), some (.l 0), x3, x4, x5, x6] ∧ L' = [.pl (as.map askD)] ∧ as.length = i ∧ (∀ a ∈ as, HouseOk a.1 ∧ Nd a.1 ∧ a.2.1 ∈ marksF a.1 ∧ a.2.2.Perm (List.range 4)) ∧ DkTo G0 1 0 (1500 * (i : Int)) G',
      ⟨[], none, none, none, none, rfl, rfl, rfl, (fun a h => by cases h), (DkTo.refl D0).mono (by omega)⟩, ?_, ?_⟩
    · rintro i d Δ' G' L' hd ⟨as, x3, x4, x5, x6, rfl, rfl, hal, hak, t⟩
      obtain ⟨hi, rfl⟩ := rngD_get hd
      have hi3 : i < 2 := hi
      obtain ⟨_, _, _, Dt⟩ := t.dk
      walk_at "god"
      refine ⟨1, 0, _, _, _, _, rfl, Dt, by omega, fun hs G3 hh nd t3 => ?_⟩
      have t3 := t.trans t3
      obtain ⟨_, _, _, Dt3⟩ := t3.dk
      have hl6 := hh.l1
      have hml := marks_len hh.l1
      have hmp := marks_pos hs
      walk_at "god"
      refine ⟨hl6, ?_⟩
      walk_at "god"
      rename_i r G4 cells4 seed4 cnt4 t4 D4 h40 h41
      refine u_ix_all ⟨_, rfl, h40, h41, fun d hd => ?_⟩
      obtain ⟨m, hm, rfl⟩ := List.mem_map.mp hd
      walk_at "god"
      refine ⟨1, 0, _, _, _, _, m, rfl, D4, by omega, marks_mem hm, fun js G5 hj t5 => ?_⟩
      walk_at "god"
      refine mt_app_lX ⟨_, rfl, by rw [List.length_map]; exact lt_line (by omega), ?_⟩
      refine ⟨as ++ [(hs, m, js)], _, _, _, _, rfl, ?_, by rw [List.length_append, hal]; rfl, ?_, ((t3.trans t4).trans t5).mono (by omega)⟩
      · rw [List.map_append]
        rfl
      · intro a ha
        rcases List.mem_append.mp ha with ha | ha
        · exact hak a ha
        · rw [List.mem_singleton] at ha
          rw [ha]
          exact ⟨hh, nd, hm, hj⟩
    · rintro Δ' G' L' ⟨as, x3, x4, x5, x6, rfl, rfl, hal, hak, t⟩
      rw [rngD_len] at hal t
      have hal : as.length = 2 := hal
      have t : DkTo G0 1 0 3000 G' := t
      walk_at "god"
      refine st_for ?_
      refine evi_seq ?_
      walk_at "god"
      refine ⟨by rw [List.length_map]; exact le_line (by omega), ?_⟩
      refine ⟨_, rfl, _, _, rfl, rfl, ?_⟩
      refine ⟨fun i Δ' G' L' => ∃ (x3 x4 x5 x6 : Option S), Δ' = [some (.d (.scr ns)), some (.g 1), some (.l 0), x3, x4, x5, x6] ∧ L' = [.pl (as.map askD)] ∧ DkTo G0 1 0 (3000 + 200 * (i : Int)) G',
        ⟨_, _, _, _, rfl, rfl, t.mono (by omega)⟩, ?_, ?_⟩
      · rintro i d Δ' G2 L2 hd ⟨x3, x4, x5, x6, rfl, rfl, t2⟩
        have hi : i < 4 := by
          have := (List.getElem?_eq_some_iff.mp hd).1
          rw [List.length_append, List.length_map, hal] at this
          exact this
        obtain ⟨a, ha, rfl⟩ : ∃ a ∈ as, d = askD a := by
          rcases List.mem_append.mp (List.mem_of_getElem? hd) with z | z
          · obtain ⟨a, ha, rfl⟩ := List.mem_map.mp z
            exact ⟨a, ha, rfl⟩
          · obtain ⟨a, ha, rfl⟩ := List.mem_map.mp z
            exact ⟨a, ha, rfl⟩
        obtain ⟨hs, m, js⟩ := a
        obtain ⟨hh, nd, hm, hj⟩ := hak _ ha
        have hjl : js.length = 4 := by rw [hj.length_eq, List.length_range]
        have hwl : (wornF m js).length = 5 := by rw [worn_len, hjl]
        obtain ⟨_, _, _, Dt⟩ := t2.dk
        have hl6 := hh.l1
        show TgC K _ _ (.d (.tup [houseD hs, strsD (marksF hs), strsD (wornF m js)])) _ _ _ _
        walk_at "god"
        refine ⟨hs, m, js, rfl, hh, hm, hj, ?_⟩
        walk_at "god"
        refine ⟨hs, m, js, rfl, hh, nd, hm, hj, ?_⟩
        walk_at "god"
        rename_i r G4 cells4 seed4 cnt4 t4 D4 h40 h41
        refine u_ix_all ⟨_, rfl, h40, (by rw [List.length_map, hwl]; exact h41), fun d hd => ?_⟩
        obtain ⟨w, hw, rfl⟩ := List.mem_map.mp hd
        walk_at "god"
        refine ⟨1, 0, _, _, _, _, hs, w, rfl, D4, by omega, hh, nd, worn_sg js m (mark_sg hm) w hw, fun G5 t5 => ?_⟩
        walk_at "god"
        refine u_ix_g rfl (atI_of (j := 0) (x := .str m) (by cases js <;> rfl) rfl) ?_
        walk_at "god"
        refine ⟨hl6, ⟨_, rfl⟩, (fun z e => by cases e; rw [marks_mem hm]; decide), ?_⟩
        rw [isMarkX_str, marks_is hh hm, decide_eq_true (marks_mem hm)]
        walk_at "god"
        refine iteNDr ?_
        walk_at "god"
        exact ⟨_, _, _, _, rfl, rfl, ((t2.trans t4).trans t5).mono (by omega)⟩
      · rintro Δ' G2 L2 ⟨x3, x4, x5, x6, rfl, rfl, t2⟩
        walk_at "god"
        exact q
end
end Pf
namespace Pf
open PySem L2 DL
theorem all_mk {l : PySem.W.OpenLaw} {w : World} {K : PySem.W.Frag} {h : Heap} {mg : Str → Option Value} {fa : Addr} (X : K.In h) (G : h.Ns mainGlobals mg) (hfa : mg "law" = some (.ref fa))
    {f_l_draw : Addr} {od_l_draw an_l_draw : Option Addr} {sl_l_draw : Array (Option Value)} {oc_l_draw kV_l_draw dc_l_draw pm_l_draw cd_l_draw ct_l_draw : Value}
    (a_l_draw : PySem.W.nsIn K mainGlobals "_law_draw" = some (some (.ref f_l_draw))) (l_l_draw : K.lookup f_l_draw = some ⟨oc_l_draw, od_l_draw, .func (PySem.W.fnOf "_law_draw" "_law_draw" (defArgs s_l_draw) (defBody s_l_draw) (defScope s_l_draw) .none kV_l_draw dc_l_draw pm_l_draw an_l_draw cd_l_draw ct_l_draw), sl_l_draw⟩) (c_l_draw : PySem.W.codeIn K cd_l_draw "_law_draw" = true) (k_l_draw : PySem.W.keepIn K (.ref f_l_draw) = true)
    {f_l_deck : Addr} {od_l_deck an_l_deck : Option Addr} {sl_l_deck : Array (Option Value)} {oc_l_deck kV_l_deck dc_l_deck pm_l_deck cd_l_deck ct_l_deck : Value}
    (a_l_deck : PySem.W.nsIn K mainGlobals "_law_deck" = some (some (.ref f_l_deck))) (l_l_deck : K.lookup f_l_deck = some ⟨oc_l_deck, od_l_deck, .func (PySem.W.fnOf "_law_deck" "_law_deck" (defArgs s_l_deck) (defBody s_l_deck) (defScope s_l_deck) .none kV_l_deck dc_l_deck pm_l_deck an_l_deck cd_l_deck ct_l_deck), sl_l_deck⟩) (c_l_deck : PySem.W.codeIn K cd_l_deck "_law_deck" = true) (k_l_deck : PySem.W.keepIn K (.ref f_l_deck) = true)
    {f_hands_for : Addr} {od_hands_for an_hands_for : Option Addr} {sl_hands_for : Array (Option Value)} {oc_hands_for kV_hands_for dc_hands_for pm_hands_for cd_hands_for ct_hands_for : Value}
    (a_hands_for : PySem.W.nsIn K mainGlobals "hands_for" = some (some (.ref f_hands_for))) (l_hands_for : K.lookup f_hands_for = some ⟨oc_hands_for, od_hands_for, .func (PySem.W.fnOf "hands_for" "hands_for" (defArgs s_hands_for) (defBody s_hands_for) (defScope s_hands_for) .none kV_hands_for dc_hands_for pm_hands_for an_hands_for cd_hands_for ct_hands_for), sl_hands_for⟩) (c_hands_for : PySem.W.codeIn K cd_hands_for "hands_for" = true) (k_hands_for : PySem.W.keepIn K (.ref f_hands_for) = true)
    {f_further : Addr} {od_further an_further : Option Addr} {sl_further : Array (Option Value)} {oc_further kV_further dc_further pm_further cd_further ct_further : Value}
    (a_further : PySem.W.nsIn K mainGlobals "further" = some (some (.ref f_further))) (l_further : K.lookup f_further = some ⟨oc_further, od_further, .func (PySem.W.fnOf "further" "further" (defArgs s_further) (defBody s_further) (defScope s_further) .none kV_further dc_further pm_further an_further cd_further ct_further), sl_further⟩) (c_further : PySem.W.codeIn K cd_further "further" = true) (k_further : PySem.W.keepIn K (.ref f_further) = true)
    {f_is_like : Addr} {od_is_like an_is_like : Option Addr} {sl_is_like : Array (Option Value)} {oc_is_like kV_is_like dc_is_like pm_is_like cd_is_like ct_is_like : Value}
    (a_is_like : PySem.W.nsIn K mainGlobals "is_like" = some (some (.ref f_is_like))) (l_is_like : K.lookup f_is_like = some ⟨oc_is_like, od_is_like, .func (PySem.W.fnOf "is_like" "is_like" (defArgs s_is_like) (defBody s_is_like) (defScope s_is_like) .none kV_is_like dc_is_like pm_is_like an_is_like cd_is_like ct_is_like), sl_is_like⟩) (c_is_like : PySem.W.codeIn K cd_is_like "is_like" = true) (k_is_like : PySem.W.keepIn K (.ref f_is_like) = true)
    {f_fits : Addr} {od_fits an_fits : Option Addr} {sl_fits : Array (Option Value)} {oc_fits kV_fits dc_fits pm_fits cd_fits ct_fits : Value}
    (a_fits : PySem.W.nsIn K mainGlobals "fits" = some (some (.ref f_fits))) (l_fits : K.lookup f_fits = some ⟨oc_fits, od_fits, .func (PySem.W.fnOf "fits" "fits" (defArgs s_fits) (defBody s_fits) (defScope s_fits) .none kV_fits dc_fits pm_fits an_fits cd_fits ct_fits), sl_fits⟩) (c_fits : PySem.W.codeIn K cd_fits "fits" = true) (k_fits : PySem.W.keepIn K (.ref f_fits) = true)
    {f_l_marks : Addr} {od_l_marks an_l_marks : Option Addr} {sl_l_marks : Array (Option Value)} {oc_l_marks kV_l_marks dc_l_marks pm_l_marks cd_l_marks ct_l_marks : Value}
    (a_l_marks : PySem.W.nsIn K mainGlobals "_law_marks" = some (some (.ref f_l_marks))) (l_l_marks : K.lookup f_l_marks = some ⟨oc_l_marks, od_l_marks, .func (PySem.W.fnOf "_law_marks" "_law_marks" (defArgs s_l_marks) (defBody s_l_marks) (defScope s_l_marks) .none kV_l_marks dc_l_marks pm_l_marks an_l_marks cd_l_marks ct_l_marks), sl_l_marks⟩) (c_l_marks : PySem.W.codeIn K cd_l_marks "_law_marks" = true) (k_l_marks : PySem.W.keepIn K (.ref f_l_marks) = true)
    {f_is_mark : Addr} {od_is_mark an_is_mark : Option Addr} {sl_is_mark : Array (Option Value)} {oc_is_mark kV_is_mark dc_is_mark pm_is_mark cd_is_mark ct_is_mark : Value}
    (a_is_mark : PySem.W.nsIn K mainGlobals "is_mark" = some (some (.ref f_is_mark))) (l_is_mark : K.lookup f_is_mark = some ⟨oc_is_mark, od_is_mark, .func (PySem.W.fnOf "is_mark" "is_mark" (defArgs s_is_mark) (defBody s_is_mark) (defScope s_is_mark) .none kV_is_mark dc_is_mark pm_is_mark an_is_mark cd_is_mark ct_is_mark), sl_is_mark⟩) (c_is_mark : PySem.W.codeIn K cd_is_mark "is_mark" = true) (k_is_mark : PySem.W.keepIn K (.ref f_is_mark) = true)
    {f_l_house : Addr} {od_l_house an_l_house : Option Addr} {sl_l_house : Array (Option Value)} {oc_l_house kV_l_house dc_l_house pm_l_house cd_l_house ct_l_house : Value}
    (a_l_house : PySem.W.nsIn K mainGlobals "_law_house" = some (some (.ref f_l_house))) (l_l_house : K.lookup f_l_house = some ⟨oc_l_house, od_l_house, .func (PySem.W.fnOf "_law_house" "_law_house" (defArgs s_l_house) (defBody s_l_house) (defScope s_l_house) .none kV_l_house dc_l_house pm_l_house an_l_house cd_l_house ct_l_house), sl_l_house⟩) (c_l_house : PySem.W.codeIn K cd_l_house "_law_house" = true) (k_l_house : PySem.W.keepIn K (.ref f_l_house) = true)
    {f_fit_all : Addr} {od_fit_all an_fit_all : Option Addr} {sl_fit_all : Array (Option Value)} {oc_fit_all kV_fit_all dc_fit_all pm_fit_all cd_fit_all ct_fit_all : Value}
    (a_fit_all : PySem.W.nsIn K mainGlobals "fit_all" = some (some (.ref f_fit_all))) (l_fit_all : K.lookup f_fit_all = some ⟨oc_fit_all, od_fit_all, .func (PySem.W.fnOf "fit_all" "fit_all" (defArgs s_fit_all) (defBody s_fit_all) (defScope s_fit_all) .none kV_fit_all dc_fit_all pm_fit_all an_fit_all cd_fit_all ct_fit_all), sl_fit_all⟩) (c_fit_all : PySem.W.codeIn K cd_fit_all "fit_all" = true) (k_fit_all : PySem.W.keepIn K (.ref f_fit_all) = true)
    {f_sure_of : Addr} {od_sure_of an_sure_of : Option Addr} {sl_sure_of : Array (Option Value)} {oc_sure_of kV_sure_of dc_sure_of pm_sure_of cd_sure_of ct_sure_of : Value}
    (a_sure_of : PySem.W.nsIn K mainGlobals "sure_of" = some (some (.ref f_sure_of))) (l_sure_of : K.lookup f_sure_of = some ⟨oc_sure_of, od_sure_of, .func (PySem.W.fnOf "sure_of" "sure_of" (defArgs s_sure_of) (defBody s_sure_of) (defScope s_sure_of) .none kV_sure_of dc_sure_of pm_sure_of an_sure_of cd_sure_of ct_sure_of), sl_sure_of⟩) (c_sure_of : PySem.W.codeIn K cd_sure_of "sure_of" = true) (k_sure_of : PySem.W.keepIn K (.ref f_sure_of) = true)
    {f_l_order : Addr} {od_l_order an_l_order : Option Addr} {sl_l_order : Array (Option Value)} {oc_l_order kV_l_order dc_l_order pm_l_order cd_l_order ct_l_order : Value}
    (a_l_order : PySem.W.nsIn K mainGlobals "_law_order" = some (some (.ref f_l_order))) (l_l_order : K.lookup f_l_order = some ⟨oc_l_order, od_l_order, .func (PySem.W.fnOf "_law_order" "_law_order" (defArgs s_l_order) (defBody s_l_order) (defScope s_l_order) .none kV_l_order dc_l_order pm_l_order an_l_order cd_l_order ct_l_order), sl_l_order⟩) (c_l_order : PySem.W.codeIn K cd_l_order "_law_order" = true) (k_l_order : PySem.W.keepIn K (.ref f_l_order) = true)
    {f_l_worn_on : Addr} {od_l_worn_on an_l_worn_on : Option Addr} {sl_l_worn_on : Array (Option Value)} {oc_l_worn_on kV_l_worn_on dc_l_worn_on pm_l_worn_on cd_l_worn_on ct_l_worn_on : Value}
    (a_l_worn_on : PySem.W.nsIn K mainGlobals "_law_worn_on" = some (some (.ref f_l_worn_on))) (l_l_worn_on : K.lookup f_l_worn_on = some ⟨oc_l_worn_on, od_l_worn_on, .func (PySem.W.fnOf "_law_worn_on" "_law_worn_on" (defArgs s_l_worn_on) (defBody s_l_worn_on) (defScope s_l_worn_on) .none kV_l_worn_on dc_l_worn_on pm_l_worn_on an_l_worn_on cd_l_worn_on ct_l_worn_on), sl_l_worn_on⟩) (c_l_worn_on : PySem.W.codeIn K cd_l_worn_on "_law_worn_on" = true) (k_l_worn_on : PySem.W.keepIn K (.ref f_l_worn_on) = true)
    {f_l_called : Addr} {od_l_called an_l_called : Option Addr} {sl_l_called : Array (Option Value)} {oc_l_called kV_l_called dc_l_called pm_l_called cd_l_called ct_l_called : Value}
    (a_l_called : PySem.W.nsIn K mainGlobals "_law_called" = some (some (.ref f_l_called))) (l_l_called : K.lookup f_l_called = some ⟨oc_l_called, od_l_called, .func (PySem.W.fnOf "_law_called" "_law_called" (defArgs s_l_called) (defBody s_l_called) (defScope s_l_called) .none kV_l_called dc_l_called pm_l_called an_l_called cd_l_called ct_l_called), sl_l_called⟩) (c_l_called : PySem.W.codeIn K cd_l_called "_law_called" = true) (k_l_called : PySem.W.keepIn K (.ref f_l_called) = true)
    {f_l_steps_right : Addr} {od_l_steps_right an_l_steps_right : Option Addr} {sl_l_steps_right : Array (Option Value)} {oc_l_steps_right kV_l_steps_right dc_l_steps_right pm_l_steps_right cd_l_steps_right ct_l_steps_right : Value}
    (a_l_steps_right : PySem.W.nsIn K mainGlobals "_law_steps_right" = some (some (.ref f_l_steps_right))) (l_l_steps_right : K.lookup f_l_steps_right = some ⟨oc_l_steps_right, od_l_steps_right, .func (PySem.W.fnOf "_law_steps_right" "_law_steps_right" (defArgs s_l_steps_right) (defBody s_l_steps_right) (defScope s_l_steps_right) .none kV_l_steps_right dc_l_steps_right pm_l_steps_right an_l_steps_right cd_l_steps_right ct_l_steps_right), sl_l_steps_right⟩) (c_l_steps_right : PySem.W.codeIn K cd_l_steps_right "_law_steps_right" = true) (k_l_steps_right : PySem.W.keepIn K (.ref f_l_steps_right) = true)
    {f_l_more_right : Addr} {od_l_more_right an_l_more_right : Option Addr} {sl_l_more_right : Array (Option Value)} {oc_l_more_right kV_l_more_right dc_l_more_right pm_l_more_right cd_l_more_right ct_l_more_right : Value}
    (a_l_more_right : PySem.W.nsIn K mainGlobals "_law_more_right" = some (some (.ref f_l_more_right))) (l_l_more_right : K.lookup f_l_more_right = some ⟨oc_l_more_right, od_l_more_right, .func (PySem.W.fnOf "_law_more_right" "_law_more_right" (defArgs s_l_more_right) (defBody s_l_more_right) (defScope s_l_more_right) .none kV_l_more_right dc_l_more_right pm_l_more_right an_l_more_right cd_l_more_right ct_l_more_right), sl_l_more_right⟩) (c_l_more_right : PySem.W.codeIn K cd_l_more_right "_law_more_right" = true) (k_l_more_right : PySem.W.keepIn K (.ref f_l_more_right) = true)
    {f_l_others_right : Addr} {od_l_others_right an_l_others_right : Option Addr} {sl_l_others_right : Array (Option Value)} {oc_l_others_right kV_l_others_right dc_l_others_right pm_l_others_right cd_l_others_right ct_l_others_right : Value}
    (a_l_others_right : PySem.W.nsIn K mainGlobals "_law_others_right" = some (some (.ref f_l_others_right))) (l_l_others_right : K.lookup f_l_others_right = some ⟨oc_l_others_right, od_l_others_right, .func (PySem.W.fnOf "_law_others_right" "_law_others_right" (defArgs s_l_others_right) (defBody s_l_others_right) (defScope s_l_others_right) .none kV_l_others_right dc_l_others_right pm_l_others_right an_l_others_right cd_l_others_right ct_l_others_right), sl_l_others_right⟩) (c_l_others_right : PySem.W.codeIn K cd_l_others_right "_law_others_right" = true) (k_l_others_right : PySem.W.keepIn K (.ref f_l_others_right) = true)
    {f_law : Addr} {od_law an_law : Option Addr} {sl_law : Array (Option Value)} {oc_law kV_law dc_law pm_law cd_law ct_law : Value}
    (a_law : PySem.W.nsIn K mainGlobals "law" = some (some (.ref f_law))) (l_law : K.lookup f_law = some ⟨oc_law, od_law, .func (PySem.W.fnOf "law" "law" (defArgs s_law) (defBody s_law) (defScope s_law) .none kV_law dc_law pm_law an_law cd_law ct_law), sl_law⟩) (c_law : PySem.W.codeIn K cd_law "law" = true) (k_law : PySem.W.keepIn K (.ref f_law) = true)
    (z_all : PySem.W.nsIn K mainGlobals "all" = some none)
    (z_dict : PySem.W.nsIn K mainGlobals "dict" = some none)
    (z_enumerate : PySem.W.nsIn K mainGlobals "enumerate" = some none)
    (z_isinstance : PySem.W.nsIn K mainGlobals "isinstance" = some none)
    (z_len : PySem.W.nsIn K mainGlobals "len" = some none)
    (z_list : PySem.W.nsIn K mainGlobals "list" = some none)
    (z_range : PySem.W.nsIn K mainGlobals "range" = some none)
    (z_set : PySem.W.nsIn K mainGlobals "set" = some none)
    (z_sorted : PySem.W.nsIn K mainGlobals "sorted" = some none)
    (z_str : PySem.W.nsIn K mainGlobals "str" = some none)
    (z_tuple : PySem.W.nsIn K mainGlobals "tuple" = some none)
    (z_zip : PySem.W.nsIn K mainGlobals "zip" = some none)
    {t_BARE : Tok} (a_BARE : PySem.W.nsIn K mainGlobals "BARE" = some (some (.str "." t_BARE)))
    {t_DEEDS : Tok} (a_DEEDS : PySem.W.nsIn K mainGlobals "DEEDS" = some (some (.int 4 t_DEEDS)))
    {t_WORN : Tok} (a_WORN : PySem.W.nsIn K mainGlobals "WORN" = some (some (.str "?" t_WORN))) :
    ∃ fd : FuncData, (∀ (s : Shared) (v : Value), BindsTo s fd ⟨[v], []⟩ [("_law_script", v)]) ∧ ∀ base : Heap, K.In base → base.Ns mainGlobals mg → FnOk l.prog w K mg base CX0 7 fa fd ["_law_script"] (spD K sp_law) := by
  have e := hfa.symm.trans (PySem.W.mg_of X G a_law)
  cases e
  have F_l_draw := fun_mk (st := s_l_draw) l_l_draw c_l_draw k_l_draw
  have b_l_draw := F_l_draw.binds (ps := ["_law_deck_here", "_law_most"]) fun _ _ _ _ _ _ us hl => match us, hl with | [_, _], _ => rfl
  have F_l_deck := fun_mk (st := s_l_deck) l_l_deck c_l_deck k_l_deck
  have b_l_deck := F_l_deck.binds (ps := ["_law_script"]) fun _ _ _ _ _ _ us hl => match us, hl with | [_], _ => rfl
  have F_hands_for := fun_mk (st := s_hands_for) l_hands_for c_hands_for k_hands_for
  have b_hands_for := F_hands_for.binds (ps := ["house", "deed"]) fun _ _ _ _ _ _ us hl => match us, hl with | [_, _], _ => rfl
  have F_further := fun_mk (st := s_further) l_further c_further k_further
  have b_further := F_further.binds (ps := ["house", "deed", "mark"]) fun _ _ _ _ _ _ us hl => match us, hl with | [_, _, _], _ => rfl
  have F_is_like := fun_mk (st := s_is_like) l_is_like c_is_like k_is_like
  have b_is_like := F_is_like.binds (ps := ["worn", "mark"]) fun _ _ _ _ _ _ us hl => match us, hl with | [_, _], _ => rfl
  have F_fits := fun_mk (st := s_fits) l_fits c_fits k_fits
  have b_fits := F_fits.binds (ps := ["house", "worn"]) fun _ _ _ _ _ _ us hl => match us, hl with | [_, _], _ => rfl
  have F_l_marks := fun_mk (st := s_l_marks) l_l_marks c_l_marks k_l_marks
  have b_l_marks := F_l_marks.binds (ps := ["_law_house_here"]) fun _ _ _ _ _ _ us hl => match us, hl with | [_], _ => rfl
  have F_is_mark := fun_mk (st := s_is_mark) l_is_mark c_is_mark k_is_mark
  have b_is_mark := F_is_mark.binds (ps := ["house", "thing"]) fun _ _ _ _ _ _ us hl => match us, hl with | [_, _], _ => rfl
  have F_l_house := fun_mk (st := s_l_house) l_l_house c_l_house k_l_house
  have b_l_house := F_l_house.binds (ps := ["_law_deck_here"]) fun _ _ _ _ _ _ us hl => match us, hl with | [_], _ => rfl
  have F_fit_all := fun_mk (st := s_fit_all) l_fit_all c_fit_all k_fit_all
  have b_fit_all := F_fit_all.binds (ps := ["house", "several"]) fun _ _ _ _ _ _ us hl => match us, hl with | [_, _], _ => rfl
  have F_sure_of := fun_mk (st := s_sure_of) l_sure_of c_sure_of k_sure_of
  have b_sure_of := F_sure_of.binds (ps := ["house", "several"]) fun _ _ _ _ _ _ us hl => match us, hl with | [_, _], _ => rfl
  have F_l_order := fun_mk (st := s_l_order) l_l_order c_l_order k_l_order
  have b_l_order := F_l_order.binds (ps := ["_law_deck_here", "_law_many"]) fun _ _ _ _ _ _ us hl => match us, hl with | [_, _], _ => rfl
  have F_l_worn_on := fun_mk (st := s_l_worn_on) l_l_worn_on c_l_worn_on k_l_worn_on
  have b_l_worn_on := F_l_worn_on.binds (ps := ["_law_deck_here", "_law_mark"]) fun _ _ _ _ _ _ us hl => match us, hl with | [_, _], _ => rfl
  have F_l_called := fun_mk (st := s_l_called) l_l_called c_l_called k_l_called
  have b_l_called := F_l_called.binds (ps := ["_law_house_here", "_law_by", "_law_text"]) fun _ _ _ _ _ _ us hl => match us, hl with | [_, _, _], _ => rfl
  have F_l_steps_right := fun_mk (st := s_l_steps_right) l_l_steps_right c_l_steps_right k_l_steps_right
  have b_l_steps_right := F_l_steps_right.binds (ps := ["_law_house_here", "_law_marks_here", "_law_worn_on_here"]) fun _ _ _ _ _ _ us hl => match us, hl with | [_, _, _], _ => rfl
  have F_l_more_right := fun_mk (st := s_l_more_right) l_l_more_right c_l_more_right k_l_more_right
  have b_l_more_right := F_l_more_right.binds (ps := ["_law_house_here", "_law_worn_on_here"]) fun _ _ _ _ _ _ us hl => match us, hl with | [_, _], _ => rfl
  have F_l_others_right := fun_mk (st := s_l_others_right) l_l_others_right c_l_others_right k_l_others_right
  have b_l_others_right := F_l_others_right.binds (ps := ["_law_deck_here", "_law_house_here", "_law_worn"]) fun _ _ _ _ _ _ us hl => match us, hl with | [_, _, _], _ => rfl
  have F_law := fun_mk (st := s_law) l_law c_law k_law
  have b_law := F_law.binds (ps := ["_law_script"]) fun _ _ _ _ _ _ us hl => match us, hl with | [_], _ => rfl
  let T : TX w K mg := ⟨_, _, F_l_draw, PySem.W.mg_of X G a_l_draw, F_l_draw.kp, b_l_draw, _, _, F_l_deck, PySem.W.mg_of X G a_l_deck, F_l_deck.kp, b_l_deck, _, _, F_hands_for, PySem.W.mg_of X G a_hands_for, F_hands_for.kp, b_hands_for, _, _, F_further, PySem.W.mg_of X G a_further, F_further.kp, b_further, _, _, F_is_like, PySem.W.mg_of X G a_is_like, F_is_like.kp, b_is_like, _, _, F_fits, PySem.W.mg_of X G a_fits, F_fits.kp, b_fits, _, _, F_l_marks, PySem.W.mg_of X G a_l_marks, F_l_marks.kp, b_l_marks, _, _, F_is_mark, PySem.W.mg_of X G a_is_mark, F_is_mark.kp, b_is_mark, _, _, F_l_house, PySem.W.mg_of X G a_l_house, F_l_house.kp, b_l_house, _, _, F_fit_all, PySem.W.mg_of X G a_fit_all, F_fit_all.kp, b_fit_all, _, _, F_sure_of, PySem.W.mg_of X G a_sure_of, F_sure_of.kp, b_sure_of, _, _, F_l_order, PySem.W.mg_of X G a_l_order, F_l_order.kp, b_l_order, _, _, F_l_worn_on, PySem.W.mg_of X G a_l_worn_on, F_l_worn_on.kp, b_l_worn_on, _, _, F_l_called, PySem.W.mg_of X G a_l_called, F_l_called.kp, b_l_called, _, _, F_l_steps_right, PySem.W.mg_of X G a_l_steps_right, F_l_steps_right.kp, b_l_steps_right, _, _, F_l_more_right, PySem.W.mg_of X G a_l_more_right, F_l_more_right.kp, b_l_more_right, _, _, F_l_others_right, PySem.W.mg_of X G a_l_others_right, F_l_others_right.kp, b_l_others_right, _, _, F_law, PySem.W.mg_of X G a_law, F_law.kp, b_law, PySem.W.mg_none_of X G z_all, PySem.W.mg_none_of X G z_dict, PySem.W.mg_none_of X G z_enumerate, PySem.W.mg_none_of X G z_isinstance, PySem.W.mg_none_of X G z_len, PySem.W.mg_none_of X G z_list, PySem.W.mg_none_of X G z_range, PySem.W.mg_none_of X G z_set, PySem.W.mg_none_of X G z_sorted, PySem.W.mg_none_of X G z_str, PySem.W.mg_none_of X G z_tuple, PySem.W.mg_none_of X G z_zip, _, PySem.W.mg_of X G a_BARE, _, PySem.W.mg_of X G a_DEEDS, _, PySem.W.mg_of X G a_WORN⟩
  refine ⟨T.fd_law, fun s v => .of_eq rfl, fun base _ _ => ?_⟩
  have G_l_draw := ok_l_draw (P := l.prog) (w := w) (base := base) T
  have G_l_deck := ok_l_deck (P := l.prog) (w := w) (base := base) T
  have G_hands_for := ok_hands_for (P := l.prog) (w := w) (base := base) T
  have G_further := ok_further (P := l.prog) (w := w) (base := base) T G_hands_for
  have G_is_like := ok_is_like (P := l.prog) (w := w) (base := base) T
  have G_fits := ok_fits (P := l.prog) (w := w) (base := base) T G_further G_is_like
  have G_l_marks := ok_l_marks (P := l.prog) (w := w) (base := base) T
  have G_is_mark := ok_is_mark (P := l.prog) (w := w) (base := base) T G_hands_for
  have G_l_house := ok_l_house (P := l.prog) (w := w) (base := base) T G_l_draw
  have G_fit_all := ok_fit_all (P := l.prog) (w := w) (base := base) T G_fits G_is_like
  have G_sure_of := ok_sure_of (P := l.prog) (w := w) (base := base) T G_fit_all
  have G_l_order := ok_l_order (P := l.prog) (w := w) (base := base) T G_l_draw
  have G_l_worn_on := ok_l_worn_on (P := l.prog) (w := w) (base := base) T G_l_order
  have G_l_called := ok_l_called (P := l.prog) (w := w) (base := base) T
  have G_l_steps_right := ok_l_steps_right (P := l.prog) (w := w) (base := base) T G_fits
  have G_l_more_right := ok_l_more_right (P := l.prog) (w := w) (base := base) T G_fit_all G_sure_of
  have G_l_others_right := ok_l_others_right (P := l.prog) (w := w) (base := base) T G_fits G_l_draw G_l_order G_l_called
  have G_law := ok_law (P := l.prog) (w := w) (base := base) T G_l_deck G_l_house G_l_marks G_l_worn_on G_l_steps_right G_l_more_right G_l_others_right G_is_mark G_l_draw
  exact G_law
theorem walk {l : PySem.W.OpenLaw} {q : Program} {loose : List Str} {XP : (Str → Option Value) → Heap → Prop} {YP : World → Heap → Prop} {d : DefRec} {K : Params → PySem.W.Frag} (hn : l.most = some 63) (hdf : d.params.defaults = [])
    (hY : ∀ (w : World) (h : Heap), YP w h → (K w.params).In h)
    (F : ∀ (w : World) (mg : Str → Option Value) (fa : Addr) (h : Heap), (K w.params).In h → h.Ns mainGlobals mg → mg d.name = some (.ref fa) →
      ∃ fd : FuncData, (∀ (s : Shared) (u : Value), BindsTo s fd ⟨[u], []⟩ [("_law_script", u)]) ∧ ∀ base : Heap, (K w.params).In base → base.Ns mainGlobals mg → FnOk l.prog w (K w.params) mg base CX0 7 fa fd ["_law_script"] (spD (K w.params) sp_law)) :
    PySem.W.WalkO q loose XP YP l.row.toRowW d [] (fun f vs => PySem.call f vs) :=
  L2.walk_ofB (n := 63) (k := 7) (x := "_law_script") (CX := fun _ => CX0) (sp := fun w => spD (K w.params) sp_law) hn (by decide) hdf ⟨rfl, by decide, by decide⟩ hY F (fun _ _ a ns hl hb _ hS => law_sp (law_in hl hb) hS) fun _ _ _ _ _ z => z
end Pf
open PySem PySem.W PyProof.Rows in
set_option maxRecDepth 100000 in
set_option maxHeartbeats 0 in
theorem PySem.Challenge.cw_littlemasters_k13_worn_marks_otherwise_holds : PySem.Challenge.rw_littlemasters_k13_worn_marks_otherwise.Holds := by
  w_on; o_law; k_head; (case hw => w_witness2)
  k_fill
  refine Pf.walk (l := PySem.Challenge.rw_littlemasters_k13_worn_marks_otherwise) rfl rfl (fun w h Y => PySem.W.kIn_of Y) ?F
  case F =>
    intro w mg fa h KX G hmg
    refine' Pf.all_mk KX G hmg ?a_l_draw ?l_l_draw ?c_l_draw ?k_l_draw ?a_l_deck ?l_l_deck ?c_l_deck ?k_l_deck ?a_hands_for ?l_hands_for ?c_hands_for ?k_hands_for ?a_further ?l_further ?c_further ?k_further ?a_is_like ?l_is_like ?c_is_like ?k_is_like ?a_fits ?l_fits ?c_fits ?k_fits ?a_l_marks ?l_l_marks ?c_l_marks ?k_l_marks ?a_is_mark ?l_is_mark ?c_is_mark ?k_is_mark ?a_l_house ?l_l_house ?c_l_house ?k_l_house ?a_fit_all ?l_fit_all ?c_fit_all ?k_fit_all ?a_sure_of ?l_sure_of ?c_sure_of ?k_sure_of ?a_l_order ?l_l_order ?c_l_order ?k_l_order ?a_l_worn_on ?l_l_worn_on ?c_l_worn_on ?k_l_worn_on ?a_l_called ?l_l_called ?c_l_called ?k_l_called ?a_l_steps_right ?l_l_steps_right ?c_l_steps_right ?k_l_steps_right ?a_l_more_right ?l_l_more_right ?c_l_more_right ?k_l_more_right ?a_l_others_right ?l_l_others_right ?c_l_others_right ?k_l_others_right ?a_law ?l_law ?c_law ?k_law ?z_all ?z_dict ?z_enumerate ?z_isinstance ?z_len ?z_list ?z_range ?z_set ?z_sorted ?z_str ?z_tuple ?z_zip ?a_BARE ?a_DEEDS ?a_WORN
    (case a_l_draw => k_is)
    (case l_l_draw => k_is)
    (case c_l_draw => k_is)
    (case k_l_draw => k_is)
    (case a_l_deck => k_is)
    (case l_l_deck => k_is)
    (case c_l_deck => k_is)
    (case k_l_deck => k_is)
    (case a_hands_for => k_is)
    (case l_hands_for => k_is)
    (case c_hands_for => k_is)
    (case k_hands_for => k_is)
    (case a_further => k_is)
    (case l_further => k_is)
    (case c_further => k_is)
    (case k_further => k_is)
    (case a_is_like => k_is)
    (case l_is_like => k_is)
    (case c_is_like => k_is)
    (case k_is_like => k_is)
    (case a_fits => k_is)
    (case l_fits => k_is)
    (case c_fits => k_is)
    (case k_fits => k_is)
    (case a_l_marks => k_is)
    (case l_l_marks => k_is)
    (case c_l_marks => k_is)
    (case k_l_marks => k_is)
    (case a_is_mark => k_is)
    (case l_is_mark => k_is)
    (case c_is_mark => k_is)
    (case k_is_mark => k_is)
    (case a_l_house => k_is)
    (case l_l_house => k_is)
    (case c_l_house => k_is)
    (case k_l_house => k_is)
    (case a_fit_all => k_is)
    (case l_fit_all => k_is)
    (case c_fit_all => k_is)
    (case k_fit_all => k_is)
    (case a_sure_of => k_is)
    (case l_sure_of => k_is)
    (case c_sure_of => k_is)
    (case k_sure_of => k_is)
    (case a_l_order => k_is)
    (case l_l_order => k_is)
    (case c_l_order => k_is)
    (case k_l_order => k_is)
    (case a_l_worn_on => k_is)
    (case l_l_worn_on => k_is)
    (case c_l_worn_on => k_is)
    (case k_l_worn_on => k_is)
    (case a_l_called => k_is)
    (case l_l_called => k_is)
    (case c_l_called => k_is)
    (case k_l_called => k_is)
    (case a_l_steps_right => k_is)
    (case l_l_steps_right => k_is)
    (case c_l_steps_right => k_is)
    (case k_l_steps_right => k_is)
    (case a_l_more_right => k_is)
    (case l_l_more_right => k_is)
    (case c_l_more_right => k_is)
    (case k_l_more_right => k_is)
    (case a_l_others_right => k_is)
    (case l_l_others_right => k_is)
    (case c_l_others_right => k_is)
    (case k_l_others_right => k_is)
    (case a_law => k_is)
    (case l_law => k_is)
    (case c_law => k_is)
    (case k_law => k_is)
    (case z_all => k_is)
    (case z_dict => k_is)
    (case z_enumerate => k_is)
    (case z_isinstance => k_is)
    (case z_len => k_is)
    (case z_list => k_is)
    (case z_range => k_is)
    (case z_set => k_is)
    (case z_sorted => k_is)
    (case z_str => k_is)
    (case z_tuple => k_is)
    (case z_zip => k_is)
    (case a_BARE => k_is)
    (case a_DEEDS => k_is)
    (case a_WORN => k_is)
