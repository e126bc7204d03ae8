import PyProof.Rows.All
import Wide.All
import OpenK.AllK
import Wide.FinOn
import HandS.ForMost
import HandS.Evl
import HandS.Wide
import HandS.TupAny
import HandS.EndBits
import HandS.Style
import HandS.TryOnly
import HandS.WordsExc
import HandS.WrittenGet
import HandS.IsInst
import HandS.TupMul
import PySem.Challenge.RW_littlemasters_k37_payments_of_any_hand
set_option Elab.async false
set_option linter.all false
set_option pp.maxSteps 600
set_option pp.deepTerms false
set_option maxRecDepth 100000
set_option maxHeartbeats 8000000
namespace DL
open PySem PySem.Spec PyProof.Rows L2

inductive D where
  | non | bl (b : Bool) | int (i : Int) | str (x : Str) | ty (n : String) | ref (a : Addr)
  | scr (ns : List Int)
  | tup (ds : List D) | lst (ds : List D) | dct (kvs : List (Key × D)) | ins (C : Addr) (fs : List (Str × D))

/-- a tuple of the heap outside the region, or of the written part -/
def TupAt (K : PySem.W.Frag) (H : Hp) (R : Addr → Prop) (a : Addr) (xs : List V) : Prop := (Rd H a (.tup xs) ∧ ¬ R a) ∨ SqT K (fun _ => none) a xs
def LstAt (K : PySem.W.Frag) (H : Hp) (R : Addr → Prop) (a : Addr) (xs : List V) : Prop := (Rd H a (.lst xs) ∧ ¬ R a) ∨ SqL K (fun _ => none) a xs

mutual
def Rep (K : PySem.W.Frag) (H : Hp) (R : Addr → Prop) : D → V → Prop
  | .non, v => v = .non
  | .bl b, v => v = .bl b
  | .int i, v => v = .int i
  | .str x, v => v = .str x
  | .ty n, v => v = .ty n
  | .ref a, v => v = .ref a
  | .scr ns, v => ∃ a, v = .ref a ∧ LstAt K H R a (ns.map V.int)
  | .tup ds, v => ∃ a xs, v = .ref a ∧ TupAt K H R a xs ∧ RepL K H R ds xs
  | .lst ds, v => ∃ a xs, v = .ref a ∧ (H a = some (.lst xs) ∧ ¬ R a) ∧ RepL K H R ds xs
  | .dct kvs, v => ∃ a ws, v = .ref a ∧ (H a = some (.dK ws) ∧ ¬ R a) ∧ RepK K H R kvs ws
  | .ins C fs, v => ∃ a dx ws, v = .ref a ∧ (H a = some (.ins C dx ws) ∧ ¬ R a) ∧ RepF K H R fs ws
def RepL (K : PySem.W.Frag) (H : Hp) (R : Addr → Prop) : List D → List V → Prop
  | [], xs => xs = []
  | d :: ds, xs => ∃ y ys, xs = y :: ys ∧ Rep K H R d y ∧ RepL K H R ds ys
def RepK (K : PySem.W.Frag) (H : Hp) (R : Addr → Prop) : List (Key × D) → List (Key × V) → Prop
  | [], xs => xs = []
  | (k, d) :: ds, xs => ∃ y ys, xs = (k, y) :: ys ∧ Rep K H R d y ∧ RepK K H R ds ys
def RepF (K : PySem.W.Frag) (H : Hp) (R : Addr → Prop) : List (Str × D) → List (Str × V) → Prop
  | [], xs => xs = []
  | (k, d) :: ds, xs => ∃ y ys, xs = (k, y) :: ys ∧ Rep K H R d y ∧ RepF K H R ds ys
end

/-- what lies outside the region stays; the region grows by what was not there -/
structure Grow (H H' : Hp) (R R' : Addr → Prop) : Prop where
  keep : ∀ a o, H a = some o → ¬ R a → H' a = some o
  reg : ∀ a o, H a = some o → R' a → R a
theorem Grow.refl (H : Hp) (R : Addr → Prop) : Grow H H R R := ⟨fun _ _ h _ => h, fun _ _ _ h => h⟩
theorem Grow.trans {H H1 H2 : Hp} {R R1 R2 : Addr → Prop} (a : Grow H H1 R R1) (b : Grow H1 H2 R1 R2) : Grow H H2 R R2 := by
  have k : ∀ c o, H c = some o → ¬ R c → H1 c = some o ∧ ¬ R1 c := fun c o h n => ⟨a.keep c o h n, fun r => n (a.reg c o h r)⟩
  refine ⟨fun c o h n => b.keep c o (k c o h n).1 (k c o h n).2, fun c o h r => ?_⟩
  by_cases n : R c
  · exact n
  · obtain ⟨h1, n1⟩ := k c o h n
    exact absurd (b.reg c o h1 r) n1
theorem TupAt.grow {K : PySem.W.Frag} {H H' : Hp} {R R' : Addr → Prop} {a : Addr} {xs : List V} (g : Grow H H' R R') (h : TupAt K H R a xs) : TupAt K H' R' a xs := by
  rcases h with ⟨h | ⟨o, h⟩, n⟩ | h
  · exact .inl ⟨.inl (g.keep _ _ h n), fun r => n (g.reg _ _ h r)⟩
  · exact .inl ⟨.inr ⟨o, g.keep _ _ h n⟩, fun r => n (g.reg _ _ h r)⟩
  · exact .inr h
theorem LstAt.grow {K : PySem.W.Frag} {H H' : Hp} {R R' : Addr → Prop} {a : Addr} {xs : List V} (g : Grow H H' R R') (h : LstAt K H R a xs) : LstAt K H' R' a xs := by
  rcases h with ⟨h | ⟨o, h⟩, n⟩ | h
  · exact .inl ⟨.inl (g.keep _ _ h n), fun r => n (g.reg _ _ h r)⟩
  · exact .inl ⟨.inr ⟨o, g.keep _ _ h n⟩, fun r => n (g.reg _ _ h r)⟩
  · exact .inr h
theorem none_rd {a : Addr} {u : HO} (h : Rd (fun _ => none) a u) : False := by
  rcases h with h | ⟨o, h⟩ <;> cases h
theorem TupAt.sq {K : PySem.W.Frag} {H : Hp} {R : Addr → Prop} {a : Addr} {xs : List V} (h : TupAt K H R a xs) : SqT K H a xs := by
  rcases h with ⟨h, _⟩ | h | h
  · exact .inl h
  · exact (none_rd h).elim
  · exact .inr h
theorem LstAt.sq {K : PySem.W.Frag} {H : Hp} {R : Addr → Prop} {a : Addr} {xs : List V} (h : LstAt K H R a xs) : SqL K H a xs := by
  rcases h with ⟨h, _⟩ | h | h
  · exact .inl h
  · exact (none_rd h).elim
  · exact .inr h

mutual
theorem Rep.grow {K : PySem.W.Frag} {H H' : Hp} {R R' : Addr → Prop} (g : Grow H H' R R') : ∀ {d : D} {v : V}, Rep K H R d v → Rep K H' R' d v
  | .non, _, h => h
  | .bl _, _, h => h
  | .int _, _, h => h
  | .str _, _, h => h
  | .ty _, _, h => h
  | .ref _, _, h => h
  | .scr _, _, ⟨a, e, h⟩ => ⟨a, e, h.grow g⟩
  | .tup _, _, ⟨a, xs, e, h, r⟩ => ⟨a, xs, e, h.grow g, RepL.grow g r⟩
  | .lst _, _, ⟨a, xs, e, ⟨h, n⟩, r⟩ => ⟨a, xs, e, ⟨g.keep _ _ h n, fun z => n (g.reg _ _ h z)⟩, RepL.grow g r⟩
  | .dct _, _, ⟨a, xs, e, ⟨h, n⟩, r⟩ => ⟨a, xs, e, ⟨g.keep _ _ h n, fun z => n (g.reg _ _ h z)⟩, RepK.grow g r⟩
  | .ins _ _, _, ⟨a, dx, xs, e, ⟨h, n⟩, r⟩ => ⟨a, dx, xs, e, ⟨g.keep _ _ h n, fun z => n (g.reg _ _ h z)⟩, RepF.grow g r⟩
theorem RepL.grow {K : PySem.W.Frag} {H H' : Hp} {R R' : Addr → Prop} (g : Grow H H' R R') : ∀ {ds : List D} {vs : List V}, RepL K H R ds vs → RepL K H' R' ds vs
  | [], _, h => h
  | _ :: _, _, ⟨y, ys, e, h, r⟩ => ⟨y, ys, e, Rep.grow g h, RepL.grow g r⟩
theorem RepK.grow {K : PySem.W.Frag} {H H' : Hp} {R R' : Addr → Prop} (g : Grow H H' R R') : ∀ {ds : List (Key × D)} {vs : List (Key × V)}, RepK K H R ds vs → RepK K H' R' ds vs
  | [], _, h => h
  | (_, _) :: _, _, ⟨y, ys, e, h, r⟩ => ⟨y, ys, e, Rep.grow g h, RepK.grow g r⟩
theorem RepF.grow {K : PySem.W.Frag} {H H' : Hp} {R R' : Addr → Prop} (g : Grow H H' R R') : ∀ {ds : List (Str × D)} {vs : List (Str × V)}, RepF K H R ds vs → RepF K H' R' ds vs
  | [], _, h => h
  | (_, _) :: _, _, ⟨y, ys, e, h, r⟩ => ⟨y, ys, e, Rep.grow g h, RepF.grow g r⟩
end

theorem RepL.length {K : PySem.W.Frag} {H : Hp} {R : Addr → Prop} : ∀ {ds : List D} {vs : List V}, RepL K H R ds vs → vs.length = ds.length
  | [], _, h => by
    cases h
    rfl
  | _ :: ds, _, ⟨y, ys, e, _, r⟩ => by
    subst e
    show ys.length + 1 = ds.length + 1
    rw [RepL.length r]
theorem RepL.get {K : PySem.W.Frag} {H : Hp} {R : Addr → Prop} : ∀ {ds : List D} {vs : List V} {i : Nat} {d : D}, RepL K H R ds vs → ds[i]? = some d → ∃ v, vs[i]? = some v ∧ Rep K H R d v
  | [], _, _, _, _, h => by simp at h
  | _ :: _, _, 0, _, ⟨y, ys, e, h, r⟩, q => by
    subst e
    simp at q
    subst q
    exact ⟨y, rfl, h⟩
  | _ :: _, _, i + 1, _, ⟨y, ys, e, h, r⟩, q => by
    subst e
    exact RepL.get (i := i) r (by simpa using q)
theorem RepL.getV {K : PySem.W.Frag} {H : Hp} {R : Addr → Prop} {ds : List D} {vs : List V} {i : Nat} {v : V} (r : RepL K H R ds vs) (h : vs[i]? = some v) : ∃ d, ds[i]? = some d ∧ Rep K H R d v := by
  have hi : i < ds.length := by
    rw [← r.length]
    exact (List.getElem?_eq_some_iff.mp h).1
  obtain ⟨w, hw, q⟩ := r.get (List.getElem?_eq_getElem hi)
  rw [h] at hw
  cases hw
  exact ⟨_, List.getElem?_eq_getElem hi, q⟩
theorem RepL.app {K : PySem.W.Frag} {H : Hp} {R : Addr → Prop} : ∀ {ds es : List D} {vs ws : List V}, RepL K H R ds vs → RepL K H R es ws → RepL K H R (ds ++ es) (vs ++ ws)
  | [], _, _, _, h, q => by
    cases h
    exact q
  | _ :: _, _, _, _, ⟨y, ys, e, h, r⟩, q => by
    subst e
    exact ⟨y, _, rfl, h, RepL.app r q⟩
theorem RepL.one {K : PySem.W.Frag} {H : Hp} {R : Addr → Prop} {d : D} {v : V} (h : Rep K H R d v) : RepL K H R [d] [v] := ⟨v, [], rfl, h, rfl⟩
theorem RepL.take {K : PySem.W.Frag} {H : Hp} {R : Addr → Prop} : ∀ {ds : List D} {vs : List V} (n : Nat), RepL K H R ds vs → RepL K H R (ds.take n) (vs.take n)
  | _, _, 0, _ => rfl
  | [], _, _ + 1, h => by
    cases h
    rfl
  | _ :: _, _, n + 1, ⟨y, ys, e, h, r⟩ => by
    subst e
    exact ⟨y, _, rfl, h, RepL.take n r⟩
theorem RepL.drop {K : PySem.W.Frag} {H : Hp} {R : Addr → Prop} : ∀ {ds : List D} {vs : List V} (n : Nat), RepL K H R ds vs → RepL K H R (ds.drop n) (vs.drop n)
  | _, _, 0, h => h
  | [], _, _ + 1, h => by
    cases h
    rfl
  | _ :: _, _, n + 1, ⟨y, ys, e, h, r⟩ => by
    subst e
    exact RepL.drop n r
theorem RepL.ints {K : PySem.W.Frag} {H : Hp} {R : Addr → Prop} : ∀ {ns : List Int}, RepL K H R (ns.map D.int) (ns.map V.int)
  | [] => rfl
  | n :: ns => ⟨.int n, ns.map V.int, rfl, rfl, RepL.ints⟩
theorem RepL.intsV {K : PySem.W.Frag} {H : Hp} {R : Addr → Prop} : ∀ {ns : List Int} {vs : List V}, RepL K H R (ns.map D.int) vs → vs = ns.map V.int
  | [], _, h => h
  | n :: ns, _, ⟨y, ys, e, h, r⟩ => by
    subst e
    cases h
    rw [RepL.intsV r]
    rfl
theorem RepL.strsV {K : PySem.W.Frag} {H : Hp} {R : Addr → Prop} : ∀ {ns : List Str} {vs : List V}, RepL K H R (ns.map D.str) vs → vs = ns.map V.str
  | [], _, h => h
  | n :: ns, _, ⟨y, ys, e, h, r⟩ => by
    subst e
    cases h
    rw [RepL.strsV r]
    rfl
theorem RepL.strs {K : PySem.W.Frag} {H : Hp} {R : Addr → Prop} : ∀ {ns : List Str}, RepL K H R (ns.map D.str) (ns.map V.str)
  | [] => rfl
  | n :: ns => ⟨.str n, ns.map V.str, rfl, rfl, RepL.strs⟩

/-! ### what a slot may hold: data, a handle of the caller's store, of the own store -/
inductive S where
  | d (x : D) | g (k : Nat) | l (k : Nat)
/-- what may change: a list of data, a list with handles in it, a dict, an instance -/
inductive M where
  | pl (ds : List D) | hl (xs : List S) | dc (kvs : List (Key × D)) | ob (C : Addr) (fs : List (Str × D))
def M.dat : M → Option D
  | .pl ds => some (.lst ds)
  | .hl _ => none
  | .dc kvs => some (.dct kvs)
  | .ob C fs => some (.ins C fs)
structure W where
  R : Addr → Prop
  gs : List Addr
  H0 : Hp
def Rg (w : W) (ls : List Addr) : Addr → Prop := fun a => w.R a ∨ a ∈ ls

section
variable {K : PySem.W.Frag}
/-- a slot's value: region, handles -/
def RS (K : PySem.W.Frag) (H : Hp) (R : Addr → Prop) (gs ls : List Addr) : S → V → Prop
  | .d x, v => Rep K H R x v
  | .g k, v => ∃ a, gs[k]? = some a ∧ v = .ref a
  | .l k, v => ∃ a, ls[k]? = some a ∧ v = .ref a
def MOk (K : PySem.W.Frag) (H : Hp) (R : Addr → Prop) (gs ls : List Addr) (a : Addr) : M → Prop
  | .pl ds => ∃ vs, H a = some (.lst vs) ∧ RepL K H R ds vs
  | .hl xs => ∃ vs, H a = some (.lst vs) ∧ Paired (RS K H R gs ls) xs vs
  | .dc kvs => ∃ vs, H a = some (.dK vs) ∧ RepK K H R kvs vs
  | .ob C fs => ∃ dx vs, H a = some (.ins C dx vs) ∧ RepF K H R fs vs

abbrev Sl := List (Option S)
def SlOk (K : PySem.W.Frag) (H : Hp) (R : Addr → Prop) (gs ls : List Addr) (σ : L2.St) (Δ : Sl) : Prop :=
  σ.length = Δ.length ∧ ∀ (i : Nat) (s : S), Δ[i]? = some (some s) → ∃ v, σ[i]? = some (some v) ∧ RS K H R gs ls s v
structure Ctx (K : PySem.W.Frag) (w : W) (ls : List Addr) (σ : L2.St) (H : Hp) (Δ : Sl) (G L : List M) : Prop where
  reg : ∀ a ∈ w.gs, w.R a
  rin : ∀ a, w.R a → ∃ o, H a = some o
  nd : (w.gs ++ ls).Nodup
  fr : ∀ a ∈ ls, w.H0 a = none
  h0 : ∀ a o, w.H0 a = some o → a ∉ w.gs → H a = some o
  sl : SlOk K H (Rg w ls) w.gs ls σ Δ
  gl : Paired (MOk K H (Rg w ls) w.gs []) w.gs G
  lo : Paired (MOk K H (Rg w ls) w.gs ls) ls L
/-- what is not in the store stays -/
def Ext (w : W) (ls : List Addr) (H H' : Hp) : Prop := ∀ a o, H a = some o → a ∉ w.gs → a ∉ ls → H' a = some o
theorem Ext.refl {w : W} {ls : List Addr} {H : Hp} : Ext w ls H H := fun _ _ h _ _ => h
theorem Ext.trans {w : W} {ls : List Addr} {H H1 H2 : Hp} (a : Ext w ls H H1) (b : Ext w ls H1 H2) : Ext w ls H H2 := fun c o h n m => b c o (a c o h n m) n m
theorem Ext.grow {w : W} {ls : List Addr} {H H' : Hp} (e : Ext w ls H H') (hr : ∀ a ∈ w.gs, w.R a) : Grow H H' (Rg w ls) (Rg w ls) :=
  ⟨fun a o h n => e a o h (fun z => n (.inl (hr a z))) fun z => n (.inr z), fun _ _ _ h => h⟩
/-- the handles may get more -/
def Pre (ls ls' : List Addr) : Prop := ∀ (k : Nat) a, ls[k]? = some a → ls'[k]? = some a
theorem Pre.refl (ls : List Addr) : Pre ls ls := fun _ _ h => h
theorem Pre.nil (ls : List Addr) : Pre [] ls := fun _ _ h => by simp at h
theorem Pre.app (ls qs : List Addr) : Pre ls (ls ++ qs) := fun k a h => by
  rw [List.getElem?_append_left (List.getElem?_eq_some_iff.mp h).1]
  exact h
theorem RS.grow {H H' : Hp} {R R' : Addr → Prop} {gs gs' ls ls' : List Addr} (g : Grow H H' R R') (pg : Pre gs gs') (pl : Pre ls ls') : ∀ {s : S} {v : V}, RS K H R gs ls s v → RS K H' R' gs' ls' s v
  | .d _, _, h => Rep.grow g h
  | .g _, _, ⟨a, h, e⟩ => ⟨a, pg _ _ h, e⟩
  | .l _, _, ⟨a, h, e⟩ => ⟨a, pl _ _ h, e⟩
theorem paired_map {α β : Type} {F F' : α → β → Prop} : ∀ {as : List α} {bs : List β}, Paired F as bs → (∀ a b, a ∈ as → F a b → F' a b) → Paired F' as bs
  | _, _, .nil, _ => .nil
  | _, _, .cons h t, f => .cons (f _ _ List.mem_cons_self h) (paired_map t fun a b m q => f a b (List.mem_cons_of_mem _ m) q)
theorem MOk.grow {H H' : Hp} {R R' : Addr → Prop} {gs gs' ls ls' : List Addr} (g : Grow H H' R R') (pg : Pre gs gs') (pl : Pre ls ls') {a : Addr} (k : ∀ o, H a = some o → H' a = some o) : ∀ {m : M}, MOk K H R gs ls a m → MOk K H' R' gs' ls' a m
  | .pl _, ⟨vs, h, r⟩ => ⟨vs, k _ h, RepL.grow g r⟩
  | .hl _, ⟨vs, h, r⟩ => ⟨vs, k _ h, paired_map r fun _ _ _ q => RS.grow g pg pl q⟩
  | .dc _, ⟨vs, h, r⟩ => ⟨vs, k _ h, RepK.grow g r⟩
  | .ob _ _, ⟨dx, vs, h, r⟩ => ⟨dx, vs, k _ h, RepF.grow g r⟩
theorem SlOk.grow {H H' : Hp} {R R' : Addr → Prop} {gs gs' ls ls' : List Addr} (g : Grow H H' R R') (pg : Pre gs gs') (pl : Pre ls ls') {σ : L2.St} {Δ : Sl} (h : SlOk K H R gs ls σ Δ) : SlOk K H' R' gs' ls' σ Δ :=
  ⟨h.1, fun i s e => let ⟨v, a, b⟩ := h.2 i s e; ⟨v, a, RS.grow g pg pl b⟩⟩
theorem MOk.some {H : Hp} {R : Addr → Prop} {gs ls : List Addr} {a : Addr} : ∀ {m : M}, MOk K H R gs ls a m → ∃ o, H a = some o
  | .pl _, ⟨_, h, _⟩ => ⟨_, h⟩
  | .hl _, ⟨_, h, _⟩ => ⟨_, h⟩
  | .dc _, ⟨_, h, _⟩ => ⟨_, h⟩
  | .ob _ _, ⟨_, _, h, _⟩ => ⟨_, h⟩
theorem paired_l {α β : Type} {F : α → β → Prop} : ∀ {as : List α} {bs : List β} {a : α}, Paired F as bs → a ∈ as → ∃ b, F a b
  | _, _, _, .cons h t, m => by
    rcases List.mem_cons.mp m with rfl | m
    · exact ⟨_, h⟩
    · exact paired_l t m
theorem paired_get {α β : Type} {F : α → β → Prop} : ∀ {as : List α} {bs : List β} {i : Nat} {b : β}, Paired F as bs → bs[i]? = some b → ∃ a, as[i]? = some a ∧ F a b
  | _, _, 0, _, .cons h t, e => by
    simp at e
    subst e
    exact ⟨_, rfl, h⟩
  | _, _, i + 1, _, .cons h t, e => by
    obtain ⟨a, q, r⟩ := paired_get (i := i) t (by simpa using e)
    exact ⟨a, by simpa using q, r⟩
theorem paired_app {α β : Type} {F : α → β → Prop} : ∀ {as cs : List α} {bs ds : List β}, Paired F as bs → Paired F cs ds → Paired F (as ++ cs) (bs ++ ds)
  | _, _, _, _, .nil, q => q
  | _, _, _, _, .cons h t, q => .cons h (paired_app t q)
theorem paired_len {α β : Type} {F : α → β → Prop} : ∀ {as : List α} {bs : List β}, Paired F as bs → as.length = bs.length
  | _, _, .nil => rfl
  | _, _, .cons _ t => congrArg (· + 1) (paired_len t)
/-- the pair at i is changed, the others are kept -/
theorem paired_set {α β : Type} {F F' : α → β → Prop} : ∀ {as : List α} {bs : List β} {i : Nat} {a : α} {b : β}, Paired F as bs → as.Nodup → as[i]? = some a → F' a b → (∀ c e, c ∈ as → c ≠ a → F c e → F' c e) → Paired F' as (bs.set i b)
  | _, _, _, _, _, .nil, _, h, _, _ => by simp at h
  | _, _, 0, _, _, .cons (a := x) h t, nd, e, q, k => by
    simp at e
    subst e
    have n := (List.nodup_cons.mp nd).1
    exact .cons q (paired_map t fun c e m f => k c e (List.mem_cons_of_mem _ m) (fun z => n (z ▸ m)) f)
  | _, _, i + 1, _, _, .cons (a := x) h t, nd, e, q, k => by
    have n := (List.nodup_cons.mp nd).1
    have e' := (by simpa using e : _[i]? = some _)
    have m := List.mem_of_getElem? e'
    exact .cons (k _ _ List.mem_cons_self (fun z => n (z ▸ m)) h) (paired_set t (List.nodup_cons.mp nd).2 e' q fun c e m f => k c e (List.mem_cons_of_mem _ m) f)

section
variable {w : W} {ls : List Addr} {σ : L2.St} {H : Hp} {Δ : Sl} {G L : List M}
theorem Ctx.lin (c : Ctx K w ls σ H Δ G L) {a : Addr} (h : a ∈ ls) : ∃ o, H a = some o := by
  obtain ⟨m, q⟩ := paired_l c.lo h
  exact q.some
theorem Ctx.gin (c : Ctx K w ls σ H Δ G L) {a : Addr} (h : a ∈ w.gs) : ∃ o, H a = some o := c.rin a (c.reg a h)
theorem Ctx.free (c : Ctx K w ls σ H Δ G L) {p : Addr} (h : H p = none) : ¬ Rg w ls p := by
  rintro (r | r)
  · obtain ⟨o, e⟩ := c.rin p r
    rw [h] at e
    cases e
  · obtain ⟨o, e⟩ := c.lin r
    rw [h] at e
    cases e
theorem Ctx.free0 (c : Ctx K w ls σ H Δ G L) {p : Addr} (h : H p = none) : w.H0 p = none := by
  cases e : w.H0 p with
  | none => rfl
  | some o =>
    have n : p ∉ w.gs := fun z => c.free h (.inl (c.reg p z))
    rw [c.h0 p o e n] at h
    cases h
theorem grow_new {p : Addr} {o : HO} {R : Addr → Prop} (h : H p = none) : Grow H (upd H p o) R R :=
  ⟨fun a u e _ => by
    rw [upd_ne (ne_of_none e h)]
    exact e, fun _ _ _ r => r⟩
theorem keep_new {p : Addr} {o : HO} (h : H p = none) : ∀ a u, H a = some u → upd H p o a = some u := fun a u e => by
  rw [upd_ne (ne_of_none e h)]
  exact e
/-- a new object that is no more than data -/
theorem Ctx.new (c : Ctx K w ls σ H Δ G L) {p : Addr} {o : HO} (h : H p = none) : Ctx K w ls σ (upd H p o) Δ G L := by
  have g : Grow H (upd H p o) (Rg w ls) (Rg w ls) := grow_new h
  have k := keep_new (o := o) h
  exact ⟨c.reg, fun a r => let ⟨u, e⟩ := c.rin a r; ⟨u, k a u e⟩, c.nd, c.fr, fun a u e n => k a u (c.h0 a u e n), c.sl.grow g (Pre.refl _) (Pre.refl _),
    paired_map c.gl fun a m _ q => q.grow g (Pre.refl _) (Pre.refl _) (k a), paired_map c.lo fun a m _ q => q.grow g (Pre.refl _) (Pre.refl _) (k a)⟩
theorem Ext.new {p : Addr} {o : HO} (h : H p = none) : Ext w ls H (upd H p o) := fun a u e _ _ => by
  rw [upd_ne (ne_of_none e h)]
  exact e
/-- the region grows by a new object -/
theorem grow_reg {p : Addr} (h : H p = none) : Grow H H (Rg w ls) (Rg w (ls ++ [p])) :=
  ⟨fun _ _ e _ => e, fun a o e r => by
    rcases r with r | r
    · exact .inl r
    · rcases List.mem_append.mp r with r | r
      · exact .inr r
      · rw [List.mem_singleton] at r
        subst r
        rw [h] at e
        cases e⟩
theorem grow_sub {ls' : List Addr} (h : ∀ a ∈ ls', a ∈ ls) : Grow H H (Rg w ls) (Rg w ls') :=
  ⟨fun _ _ e _ => e, fun a o e r => by
    rcases r with r | r
    · exact .inl r
    · exact .inr (h a r)⟩

/-! ### an object just made: its own, or data -/
structure NewAt (K : PySem.W.Frag) (w : W) (ls : List Addr) (σ : L2.St) (H : Hp) (Δ : Sl) (G L : List M) (p : Addr) (m : M) : Prop where
  own : Ctx K w (ls ++ [p]) σ H Δ G (L ++ [m])
  c : Ctx K w ls σ H Δ G L
  dat : ∀ x, m.dat = some x → Rep K H (Rg w ls) x (.ref p)
theorem newAt_of (c : Ctx K w ls σ H Δ G L) {p : Addr} {o : HO} {m : M} (h : H p = none) (hm : MOk K (upd H p o) (Rg w (ls ++ [p])) w.gs ls p m) (hd : ∀ x, m.dat = some x → Rep K (upd H p o) (Rg w ls) x (.ref p)) :
    NewAt K w ls σ (upd H p o) Δ G L p m := by
  have g : Grow H (upd H p o) (Rg w ls) (Rg w (ls ++ [p])) := (grow_reg h).trans (grow_new h)
  have k := keep_new (o := o) h
  have nR := c.free h
  refine ⟨⟨c.reg, fun a r => let ⟨u, e⟩ := c.rin a r; ⟨u, k a u e⟩, ?_, ?_, fun a u e n => k a u (c.h0 a u e n), c.sl.grow g (Pre.refl _) (Pre.app _ _),
    paired_map c.gl fun a m _ q => q.grow g (Pre.refl _) (Pre.nil _) (k a), paired_app (paired_map c.lo fun a m _ q => q.grow g (Pre.refl _) (Pre.app _ _) (k a)) (.cons ?_ .nil)⟩, c.new h, hd⟩
  · rw [← List.append_assoc]
    refine List.nodup_append.mpr ⟨c.nd, by simp, fun a ha b hb => ?_⟩
    rw [List.mem_singleton] at hb
    subst hb
    rintro rfl
    rcases List.mem_append.mp ha with z | z
    · exact nR (.inl (c.reg _ z))
    · exact nR (.inr z)
  · intro a ha
    rcases List.mem_append.mp ha with z | z
    · exact c.fr a z
    · rw [List.mem_singleton] at z
      subst z
      exact c.free0 h
  · exact hm.grow (Grow.refl _ _) (Pre.refl _) (Pre.app _ _) fun _ z => z
theorem newAt_pl (c : Ctx K w ls σ H Δ G L) {p : Addr} {ds : List D} {vs : List V} (h : H p = none) (r : RepL K H (Rg w ls) ds vs) : NewAt K w ls σ (upd H p (.lst vs)) Δ G L p (.pl ds) :=
  newAt_of c h ⟨vs, upd_same, r.grow ((grow_reg h).trans (grow_new h))⟩ fun x e => by
    cases e
    exact ⟨p, vs, rfl, ⟨upd_same, c.free h⟩, r.grow (grow_new h)⟩
theorem newAt_hl (c : Ctx K w ls σ H Δ G L) {p : Addr} {xs : List S} {vs : List V} (h : H p = none) (r : Paired (RS K H (Rg w ls) w.gs ls) xs vs) : NewAt K w ls σ (upd H p (.lst vs)) Δ G L p (.hl xs) :=
  newAt_of c h ⟨vs, upd_same, paired_map r fun _ _ _ q => q.grow ((grow_reg h).trans (grow_new h)) (Pre.refl _) (Pre.refl _)⟩ fun x e => by cases e
theorem newAt_dc (c : Ctx K w ls σ H Δ G L) {p : Addr} {ds : List (Key × D)} {vs : List (Key × V)} (h : H p = none) (r : RepK K H (Rg w ls) ds vs) : NewAt K w ls σ (upd H p (.dK vs)) Δ G L p (.dc ds) :=
  newAt_of c h ⟨vs, upd_same, r.grow ((grow_reg h).trans (grow_new h))⟩ fun x e => by
    cases e
    exact ⟨p, vs, rfl, ⟨upd_same, c.free h⟩, r.grow (grow_new h)⟩
theorem rep_tup (c : Ctx K w ls σ H Δ G L) {p : Addr} {ds : List D} {vs : List V} (h : H p = none) (r : RepL K H (Rg w ls) ds vs) : Rep K (upd H p (.tup vs)) (Rg w ls) (.tup ds) (.ref p) :=
  ⟨p, vs, rfl, .inl ⟨.inl upd_same, c.free h⟩, r.grow (grow_new h)⟩
end
end
end DL

namespace DL
open PySem PySem.Spec PyProof.Rows L2
section
variable {K : PySem.W.Frag}
section
variable {w : W} {ls : List Addr} {σ : L2.St} {H : Hp} {Δ : Sl} {G L : List M}
theorem grow_upd {R : Addr → Prop} {a : Addr} {o : HO} (h : R a) : Grow H (upd H a o) R R :=
  ⟨fun b u e n => by
    rw [upd_ne (show b ≠ a from fun z => n (by rw [z]; exact h))]
    exact e, fun _ _ _ r => r⟩
theorem upd_other {a : Addr} {o : HO} {b : Addr} (n : b ≠ a) : ∀ u, H b = some u → upd H a o b = some u := fun u e => by
  rw [upd_ne n]
  exact e
theorem getElem_mem' {α : Type} {l : List α} {i : Nat} {a : α} (h : l[i]? = some a) : a ∈ l := List.mem_of_getElem? h
/-- the own object k is changed -/
theorem Ctx.setL (c : Ctx K w ls σ H Δ G L) {k : Nat} {a : Addr} {o : HO} {m : M} (h : ls[k]? = some a) (hm : MOk K (upd H a o) (Rg w ls) w.gs ls a m) : Ctx K w ls σ (upd H a o) Δ G (L.set k m) := by
  have ha : a ∈ ls := getElem_mem' h
  have g : Grow H (upd H a o) (Rg w ls) (Rg w ls) := grow_upd (.inr ha)
  have ng : ∀ b ∈ w.gs, b ≠ a := fun b hb z => (List.nodup_append.mp c.nd).2.2 b hb a ha z
  refine ⟨c.reg, fun b r => ?_, c.nd, c.fr, fun b u e n => ?_, c.sl.grow g (Pre.refl _) (Pre.refl _), paired_map c.gl fun b m hb q => q.grow g (Pre.refl _) (Pre.refl _) (upd_other (ng b hb)), ?_⟩
  · by_cases z : b = a
    · subst z
      exact ⟨_, upd_same⟩
    · obtain ⟨u, e⟩ := c.rin b r
      exact ⟨u, by rw [upd_ne z]; exact e⟩
  · have z : b ≠ a := fun z => by
      rw [z, c.fr a ha] at e
      cases e
    rw [upd_ne z]
    exact c.h0 b u e n
  · exact paired_set c.lo (List.nodup_append.mp c.nd).2.1 h hm fun b e hb n q => q.grow g (Pre.refl _) (Pre.refl _) (upd_other n)
/-- an object of the caller's store is changed -/
theorem Ctx.setG (c : Ctx K w ls σ H Δ G L) {k : Nat} {a : Addr} {o : HO} {m : M} (h : w.gs[k]? = some a) (hm : MOk K (upd H a o) (Rg w ls) w.gs [] a m) : Ctx K w ls σ (upd H a o) Δ (G.set k m) L := by
  have ha : a ∈ w.gs := getElem_mem' h
  have g : Grow H (upd H a o) (Rg w ls) (Rg w ls) := grow_upd (.inl (c.reg a ha))
  have ng : ∀ b ∈ ls, b ≠ a := fun b hb z => (List.nodup_append.mp c.nd).2.2 a ha b hb z.symm
  refine ⟨c.reg, fun b r => ?_, c.nd, c.fr, fun b u e n => ?_, c.sl.grow g (Pre.refl _) (Pre.refl _), ?_, paired_map c.lo fun b m hb q => q.grow g (Pre.refl _) (Pre.refl _) (upd_other (ng b hb))⟩
  · by_cases z : b = a
    · subst z
      exact ⟨_, upd_same⟩
    · obtain ⟨u, e⟩ := c.rin b r
      exact ⟨u, by rw [upd_ne z]; exact e⟩
  · rw [upd_ne (show b ≠ a from fun z => n (by rw [z]; exact ha))]
    exact c.h0 b u e n
  · exact paired_set c.gl (List.nodup_append.mp c.nd).1 h hm fun b e hb n q => q.grow g (Pre.refl _) (Pre.refl _) (upd_other n)
theorem Ext.setL {a : Addr} {o : HO} (h : a ∈ ls) : Ext w ls H (upd H a o) := fun b u e _ n => by
  rw [upd_ne (show b ≠ a from fun z => n (by rw [z]; exact h))]
  exact e
theorem Ext.setG {a : Addr} {o : HO} (h : a ∈ w.gs) : Ext w ls H (upd H a o) := fun b u e n _ => by
  rw [upd_ne (show b ≠ a from fun z => n (by rw [z]; exact h))]
  exact e
end

/-! ### evaluation at the level of data -/
abbrev Po := S → List M → List M → Prop
abbrev PoB := Bool → List M → List M → Prop
abbrev PoN := M → List M → List M → Prop
abbrev PoA := List S → List M → List M → Prop
def Ret (K : PySem.W.Frag) (w : W) (ls : List Addr) (σ : L2.St) (Δ : Sl) (H : Hp) (Qd : Po) (Q : VK) : Prop :=
  ∀ v s H2 G2 L2, Ctx K w ls σ H2 Δ G2 L2 → Ext w ls H H2 → RS K H2 (Rg w ls) w.gs ls s v → Qd s G2 L2 → Q v H2
def RetB (K : PySem.W.Frag) (w : W) (ls : List Addr) (σ : L2.St) (Δ : Sl) (H : Hp) (Qd : PoB) (Q : Bool → Hp → Prop) : Prop :=
  ∀ b H2 G2 L2, Ctx K w ls σ H2 Δ G2 L2 → Ext w ls H H2 → Qd b G2 L2 → Q b H2
def RetN (K : PySem.W.Frag) (w : W) (ls : List Addr) (σ : L2.St) (Δ : Sl) (H : Hp) (Qd : PoN) (Q : VK) : Prop :=
  ∀ p m H2 G2 L2, H p = none → NewAt K w ls σ H2 Δ G2 L2 p m → Ext w ls H H2 → Qd m G2 L2 → Q (.ref p) H2
def RetA (K : PySem.W.Frag) (w : W) (ls : List Addr) (σ : L2.St) (Δ : Sl) (H : Hp) (Qd : PoA) (Q : List V → Hp → Prop) : Prop :=
  ∀ vs ss H2 G2 L2, Ctx K w ls σ H2 Δ G2 L2 → Ext w ls H H2 → Paired (RS K H2 (Rg w ls) w.gs ls) ss vs → Qd ss G2 L2 → Q vs H2
def EvC (K : PySem.W.Frag) (te : TE) (Δ : Sl) (G L : List M) (Qd : Po) : Prop := ∀ w ls σ H, Ctx K w ls σ H Δ G L → ∀ Q : VK, Ret K w ls σ Δ H Qd Q → te σ H Q
def EvB (K : PySem.W.Frag) (te : TT) (Δ : Sl) (G L : List M) (Qd : PoB) : Prop := ∀ w ls σ H, Ctx K w ls σ H Δ G L → ∀ Q : Bool → Hp → Prop, RetB K w ls σ Δ H Qd Q → te σ H Q
def EvN (K : PySem.W.Frag) (te : TE) (Δ : Sl) (G L : List M) (Qd : PoN) : Prop := ∀ w ls σ H, Ctx K w ls σ H Δ G L → ∀ Q : VK, RetN K w ls σ Δ H Qd Q → te σ H Q
def EvA (K : PySem.W.Frag) (te : TA) (Δ : Sl) (G L : List M) (Qd : PoA) : Prop := ∀ w ls σ H, Ctx K w ls σ H Δ G L → ∀ Q : List V → Hp → Prop, RetA K w ls σ Δ H Qd Q → te σ H Q

section
variable {w : W} {ls : List Addr} {σ : L2.St} {H H1 : Hp} {Δ : Sl} {G L G1 L1 : List M} {Qd : Po} {Q : VK}
theorem Ret.go (r : Ret K w ls σ Δ H Qd Q) {v : V} {s : S} (c : Ctx K w ls σ H1 Δ G1 L1) (e : Ext w ls H H1) (q : RS K H1 (Rg w ls) w.gs ls s v) (k : Qd s G1 L1) : Q v H1 := r v s H1 G1 L1 c e q k
theorem Ret.next {Qd' : Po} (r : Ret K w ls σ Δ H Qd Q) (e : Ext w ls H H1) (k : ∀ s G L, Qd' s G L → Qd s G L) : Ret K w ls σ Δ H1 Qd' Q := fun v s H2 G2 L2 c e2 q h => r v s H2 G2 L2 c (e.trans e2) q (k _ _ _ h)
theorem Ret.ext (r : Ret K w ls σ Δ H Qd Q) (e : Ext w ls H H1) : Ret K w ls σ Δ H1 Qd Q := fun v s H2 G2 L2 c e2 q h => r v s H2 G2 L2 c (e.trans e2) q h
theorem none_back (c : Ctx K w ls σ H1 Δ G1 L1) (e : Ext w ls H H1) {p : Addr} (h : H1 p = none) : H p = none := by
  cases q : H p with
  | none => rfl
  | some o =>
    have n := c.free h
    rw [e p o q (fun z => n (.inl (c.reg p z))) (fun z => n (.inr z))] at h
    cases h
theorem RetN.ext {Qd : PoN} (r : RetN K w ls σ Δ H Qd Q) (c1 : Ctx K w ls σ H1 Δ G1 L1) (e : Ext w ls H H1) : RetN K w ls σ Δ H1 Qd Q := fun v s H2 G2 L2 hp c e2 h => r v s H2 G2 L2 (none_back c1 e hp) c (e.trans e2) h
/-- a value carried over -/
theorem RS.on {s : S} {v : V} (c : Ctx K w ls σ H Δ G L) (e : Ext w ls H H1) (r : RS K H (Rg w ls) w.gs ls s v) : RS K H1 (Rg w ls) w.gs ls s v := r.grow (e.grow c.reg) (Pre.refl _) (Pre.refl _)
theorem RSs.on {s : List S} {v : List V} (c : Ctx K w ls σ H Δ G L) (e : Ext w ls H H1) (r : Paired (RS K H (Rg w ls) w.gs ls) s v) : Paired (RS K H1 (Rg w ls) w.gs ls) s v := paired_map r fun _ _ _ q => RS.on c e q
end

section
variable {Δ : Sl} {G L : List M} {Qd Qd' : Po} {te ta tb tc : TE} {tt tu : TT}
theorem EvC.imp (h : EvC K te Δ G L Qd) (k : ∀ s G L, Qd s G L → Qd' s G L) : EvC K te Δ G L Qd' := fun w ls σ H c Q r => h w ls σ H c Q (r.next Ext.refl k)
theorem evc_var {i : Nat} {s : S} (h : Δ[i]? = some (some s)) (k : Qd s G L) : EvC K (tVar i) Δ G L Qd := fun w ls σ H c Q r => by
  obtain ⟨v, e, q⟩ := c.sl.2 i s h
  exact ⟨v, e, r.go c Ext.refl q k⟩
theorem evc_int {i : Int} (k : Qd (.d (.int i)) G L) : EvC K (tC (.int i)) Δ G L Qd := fun w ls σ H c Q r => r.go c Ext.refl (s := .d (.int i)) rfl k
theorem evc_str {i : Str} (k : Qd (.d (.str i)) G L) : EvC K (tC (.str i)) Δ G L Qd := fun w ls σ H c Q r => r.go c Ext.refl (s := .d (.str i)) rfl k
theorem evc_bl {i : Bool} (k : Qd (.d (.bl i)) G L) : EvC K (tC (.bl i)) Δ G L Qd := fun w ls σ H c Q r => r.go c Ext.refl (s := .d (.bl i)) rfl k
theorem evc_non (k : Qd (.d .non) G L) : EvC K (tC .non) Δ G L Qd := fun w ls σ H c Q r => r.go c Ext.refl (s := .d .non) rfl k
theorem evc_ty {n : String} (k : Qd (.d (.ty n)) G L) : EvC K (tC (.ty n)) Δ G L Qd := fun w ls σ H c Q r => r.go c Ext.refl (s := .d (.ty n)) rfl k
theorem evc_ref {a : Addr} (k : Qd (.d (.ref a)) G L) : EvC K (tC (.ref a)) Δ G L Qd := fun w ls σ H c Q r => r.go c Ext.refl (s := .d (.ref a)) rfl k
/-- a new object, as data -/
theorem evn_c (h : EvN K te Δ G L fun m G1 L1 => ∃ x, m.dat = some x ∧ Qd (.d x) G1 L1) : EvC K te Δ G L Qd := fun w ls σ H c Q r => h w ls σ H c Q fun p m H2 G2 L2 _ n e ⟨x, hx, k⟩ => r.go n.c e (s := .d x) (n.dat x hx) k

/-! operations on values -/
def OpC (K : PySem.W.Frag) (r : R2) (x y : S) (Δ : Sl) (G L : List M) (Qd : Po) : Prop :=
  ∀ w ls σ H vx vy, Ctx K w ls σ H Δ G L → RS K H (Rg w ls) w.gs ls x vx → RS K H (Rg w ls) w.gs ls y vy → ∀ Q, Ret K w ls σ Δ H Qd Q → r vx vy H Q
def OpN (K : PySem.W.Frag) (r : R2) (x y : S) (Δ : Sl) (G L : List M) (Qd : PoN) : Prop :=
  ∀ w ls σ H vx vy, Ctx K w ls σ H Δ G L → RS K H (Rg w ls) w.gs ls x vx → RS K H (Rg w ls) w.gs ls y vy → ∀ Q, RetN K w ls σ Δ H Qd Q → r vx vy H Q
theorem opn_c {r : R2} {x y : S} (h : OpN K r x y Δ G L fun m G1 L1 => ∃ x, m.dat = some x ∧ Qd (.d x) G1 L1) : OpC K r x y Δ G L Qd :=
  fun w ls σ H vx vy c rx ry Q q => h w ls σ H vx vy c rx ry Q fun p m H2 G2 L2 _ n e ⟨x, hx, k⟩ => q.go n.c e (s := .d x) (n.dat x hx) k
theorem evc_op {r : R2} (h : EvC K ta Δ G L fun x G1 L1 => EvC K tb Δ G1 L1 fun y G2 L2 => OpC K r x y Δ G2 L2 Qd) : EvC K (tOp r ta tb) Δ G L Qd :=
  fun w ls σ H c Q ret => h w ls σ H c _ fun v s H2 G2 L2 c2 e2 r2 h2 => h2 w ls σ H2 c2 _ fun v3 s3 H3 G3 L3 c3 e3 r3 h3 => h3 w ls σ H3 v v3 c3 (r2.on c2 e3) r3 Q (ret.ext (e2.trans e3))
theorem evn_op {r : R2} {Qn : PoN} (h : EvC K ta Δ G L fun x G1 L1 => EvC K tb Δ G1 L1 fun y G2 L2 => OpN K r x y Δ G2 L2 Qn) : EvN K (tOp r ta tb) Δ G L Qn :=
  fun w ls σ H c Q ret => h w ls σ H c _ fun v s H2 G2 L2 c2 e2 r2 h2 => h2 w ls σ H2 c2 _ fun v3 s3 H3 G3 L3 c3 e3 r3 h3 => h3 w ls σ H3 v v3 c3 (r2.on c2 e3) r3 Q (ret.ext c3 (e2.trans e3))
theorem opc_orl {r r' : R2} {x y : S} (h : OpC K r x y Δ G L Qd) : OpC K (fun x y H Q => r x y H Q ∨ r' x y H Q) x y Δ G L Qd := fun w ls σ H vx vy c rx ry Q q => .inl (h w ls σ H vx vy c rx ry Q q)
theorem opc_orr {r r' : R2} {x y : S} (h : OpC K r' x y Δ G L Qd) : OpC K (fun x y H Q => r x y H Q ∨ r' x y H Q) x y Δ G L Qd := fun w ls σ H vx vy c rx ry Q q => .inr (h w ls σ H vx vy c rx ry Q q)
theorem opn_orl {Qd : PoN} {r r' : R2} {x y : S} (h : OpN K r x y Δ G L Qd) : OpN K (fun x y H Q => r x y H Q ∨ r' x y H Q) x y Δ G L Qd := fun w ls σ H vx vy c rx ry Q q => .inl (h w ls σ H vx vy c rx ry Q q)
theorem opn_orr {Qd : PoN} {r r' : R2} {x y : S} (h : OpN K r' x y Δ G L Qd) : OpN K (fun x y H Q => r x y H Q ∨ r' x y H Q) x y Δ G L Qd := fun w ls σ H vx vy c rx ry Q q => .inr (h w ls σ H vx vy c rx ry Q q)
/-- ints -/
theorem opc_I0i {g : Int → Int → Int} {i j : Int} (k : Qd (.d (.int (g i j))) G L) : OpC K (rI0 fun i j => .int (g i j)) (.d (.int i)) (.d (.int j)) Δ G L Qd := fun w ls σ H vx vy c rx ry Q q =>
  ⟨i, j, rx, ry, q.go c Ext.refl (s := .d (.int (g i j))) rfl k⟩
theorem opc_I0b {g : Int → Int → Bool} {i j : Int} (k : Qd (.d (.bl (g i j))) G L) : OpC K (rI0 fun i j => .bl (g i j)) (.d (.int i)) (.d (.int j)) Δ G L Qd := fun w ls σ H vx vy c rx ry Q q =>
  ⟨i, j, rx, ry, q.go c Ext.refl (s := .d (.bl (g i j))) rfl k⟩
theorem opc_Ii {C : Int → Int → Prop} {g : Int → Int → Int} {i j : Int} (hc : C i j) (k : Qd (.d (.int (g i j))) G L) : OpC K (rI C fun i j => .int (g i j)) (.d (.int i)) (.d (.int j)) Δ G L Qd := fun w ls σ H vx vy c rx ry Q q =>
  ⟨i, j, rx, ry, hc, q.go c Ext.refl (s := .d (.int (g i j))) rfl k⟩

/-! universal operators: which one is asked is told by the values -/
def rAddSt : R2 := fun x y H Q => ∃ i j, x = .str i ∧ y = .str j ∧ i.length + j.length ≤ sizeLine ∧ Q (.str (i ++ j)) H
def uAdd (K : PySem.W.Frag) : R2 := fun x y H Q => rI0 (fun i j => .int (i + j)) x y H Q ∨ rAddSt x y H Q ∨ rCat x y H Q ∨ rCatA K x y H Q
theorem uo_add {X : Cx} : OpR X (binaryOp .Add) (uAdd X.K) := op_add.or (OpR.or (r := rAddSt) op_add_str (op_cat.or op_catA))
theorem u_add_i {i j : Int} (k : Qd (.d (.int (i + j))) G L) : OpC K (uAdd K) (.d (.int i)) (.d (.int j)) Δ G L Qd := opc_orl (opc_I0i (g := fun i j => i + j) k)
theorem u_add_s {i j : Str} (hl : i.length + j.length ≤ sizeLine) (k : Qd (.d (.str (i ++ j))) G L) : OpC K (uAdd K) (.d (.str i)) (.d (.str j)) Δ G L Qd := fun w ls σ H vx vy c rx ry Q q =>
  .inr (.inl ⟨i, j, rx, ry, hl, q.go c Ext.refl (s := .d (.str (i ++ j))) rfl k⟩)
/-- the data of a list: as data, or in a store -/
def lsG (G L : List M) : S → Option (List D)
  | .d (.lst ds) => some ds
  | .l k => match L[k]? with
    | some (.pl ds) => some ds
    | _ => none
  | .g k => match G[k]? with
    | some (.pl ds) => some ds
    | _ => none
  | _ => none
theorem lsG_get {w : W} {ls : List Addr} {σ : L2.St} {H : Hp} {v : V} {s : S} {ds : List D} (c : Ctx K w ls σ H Δ G L) (r : RS K H (Rg w ls) w.gs ls s v) (h : lsG G L s = some ds) : ∃ a vs, v = .ref a ∧ H a = some (.lst vs) ∧ RepL K H (Rg w ls) ds vs := by
  unfold lsG at h
  split at h
  · cases h
    obtain ⟨a, xs, rfl, ⟨h1, _⟩, q⟩ := r
    exact ⟨a, xs, rfl, h1, q⟩
  · rename_i k
    split at h
    · rename_i ds' hk
      cases h
      obtain ⟨a, ha, rfl⟩ := r
      obtain ⟨b, hb, vs, h1, q⟩ := paired_get c.lo hk
      rw [ha] at hb
      cases hb
      exact ⟨a, vs, rfl, h1, q⟩
    · cases h
  · rename_i k
    split at h
    · rename_i ds' hk
      cases h
      obtain ⟨a, ha, rfl⟩ := r
      obtain ⟨b, hb, vs, h1, q⟩ := paired_get c.gl hk
      rw [ha] at hb
      cases hb
      exact ⟨a, vs, rfl, h1, q⟩
    · cases h
  · cases h
theorem u_add_l {Qn : PoN} {x y : S} {xs ys : List D} (hx : lsG G L x = some xs) (hy : lsG G L y = some ys) (hl : xs.length + ys.length ≤ sizeLine) (k : Qn (.pl (xs ++ ys)) G L) : OpN K (uAdd K) x y Δ G L Qn := fun w ls σ H vx vy c rx ry Q q => by
  obtain ⟨a, vs, rfl, h1, q1⟩ := lsG_get c rx hx
  obtain ⟨b, us, rfl, h2, q2⟩ := lsG_get c ry hy
  refine .inr (.inr (.inl ⟨a, b, vs, us, rfl, rfl, h1, h2, by rw [q1.length, q2.length]; exact hl, fun p hp => ?_⟩))
  exact q p _ _ _ _ hp (newAt_pl c hp (q1.app q2)) (Ext.new hp) k
theorem u_add_t {xs ys : List D} (hl : xs.length + ys.length ≤ sizeLine) (k : Qd (.d (.tup (xs ++ ys))) G L) : OpC K (uAdd K) (.d (.tup xs)) (.d (.tup ys)) Δ G L Qd := fun w ls σ H vx vy c rx ry Q q => by
  obtain ⟨a, vs, rfl, h1, q1⟩ := rx
  obtain ⟨b, us, rfl, h2, q2⟩ := ry
  refine .inr (.inr (.inr ⟨a, b, vs, us, rfl, rfl, h1.sq, h2.sq, by rw [q1.length, q2.length]; exact hl, fun e => ?_, fun _ e => ?_, fun _ _ p hp => ?_⟩))
  · subst e
    have z : xs = [] := List.eq_nil_of_length_eq_zero (by rw [← q1.length]; rfl)
    subst z
    exact q.go c Ext.refl (s := .d (.tup ys)) ⟨b, us, rfl, h2, q2⟩ k
  · subst e
    have z : ys = [] := List.eq_nil_of_length_eq_zero (by rw [← q2.length]; rfl)
    subst z
    rw [List.append_nil] at k
    exact q.go c Ext.refl (s := .d (.tup xs)) ⟨a, vs, rfl, h1, q1⟩ k
  · exact q.go (c.new hp) (Ext.new hp) (s := .d (.tup (xs ++ ys))) (rep_tup c hp (q1.app q2)) k
def uMul (K : PySem.W.Frag) : R2 := fun x y H Q => rI CMul (fun i j => .int (i * j)) x y H Q ∨ rRep x y H Q
theorem uo_mul {X : Cx} : OpR X (binaryOp .Mult) (uMul X.K) := op_mul.or op_rep
theorem u_mul_i {i j : Int} (hc : CMul i j) (k : Qd (.d (.int (i * j))) G L) : OpC K (uMul K) (.d (.int i)) (.d (.int j)) Δ G L Qd := opc_orl (opc_Ii (g := fun i j => i * j) hc k)
theorem repl_flat {H : Hp} {R : Addr → Prop} {ds : List D} {vs : List V} (r : RepL K H R ds vs) : ∀ n, RepL K H R (List.replicate n ds).flatten (List.replicate n vs).flatten
  | 0 => rfl
  | n + 1 => by
    rw [List.replicate_succ, List.replicate_succ, List.flatten_cons, List.flatten_cons]
    exact r.app (repl_flat r n)
theorem u_mul_l {Qn : PoN} {x : S} {j : Int} {xs : List D} (hx : lsG G L x = some xs) (h1 : -(2 ^ 63) ≤ j) (h2 : j < 2 ^ 63) (hl : xs.length * j.toNat ≤ sizeLine) (k : Qn (.pl (List.replicate j.toNat xs).flatten) G L) : OpN K (uMul K) x (.d (.int j)) Δ G L Qn := fun w ls σ H vx vy c rx ry Q q => by
  obtain ⟨a, vs, rfl, h3, q1⟩ := lsG_get c rx hx
  refine .inr ⟨a, j, vs, rfl, ry, h3, h1, h2, by rw [q1.length]; exact hl, fun p hp => ?_⟩
  exact q p _ _ _ _ hp (newAt_pl c hp (repl_flat q1 _)) (Ext.new hp) k

/-! tests -/
theorem evb_test (h : EvC K te Δ G L fun s G1 L1 => ∃ b, s = .d (.bl b) ∧ Qb b G1 L1) : EvB K (tTest te) Δ G L Qb := fun w ls σ H c Q r => h w ls σ H c _ fun v s H2 G2 L2 c2 e2 r2 ⟨b, e, k⟩ => by
  subst e
  exact ⟨b, r2, r b H2 G2 L2 c2 e2 k⟩
theorem evb_B (h : EvC K te Δ G L fun s G1 L1 => ∃ b, s = .d (.bl b) ∧ Qb b G1 L1) : EvB K (tB te) Δ G L Qb := fun w ls σ H c Q r => h w ls σ H c _ fun v s H2 G2 L2 c2 e2 r2 ⟨b, e, k⟩ => by
  subst e
  exact ⟨b, r2, r b H2 G2 L2 c2 e2 k⟩
theorem evb_and {Qb : PoB} (h : EvB K tt Δ G L fun b G1 L1 => if b = true then EvB K tu Δ G1 L1 Qb else Qb false G1 L1) : EvB K (tAnd tt tu) Δ G L Qb := fun w ls σ H c Q r => h w ls σ H c _ fun b H2 G2 L2 c2 e2 k => by
  cases b with
  | true =>
    rw [if_pos rfl] at k ⊢
    exact k w ls σ H2 c2 _ fun b H3 G3 L3 c3 e3 k3 => r b H3 G3 L3 c3 (e2.trans e3) k3
  | false =>
    rw [if_neg Bool.false_ne_true] at k ⊢
    exact r _ H2 G2 L2 c2 e2 k
theorem evb_or {Qb : PoB} (h : EvB K tt Δ G L fun b G1 L1 => if b = true then Qb true G1 L1 else EvB K tu Δ G1 L1 Qb) : EvB K (tOr tt tu) Δ G L Qb := fun w ls σ H c Q r => h w ls σ H c _ fun b H2 G2 L2 c2 e2 k => by
  cases b with
  | true =>
    rw [if_pos rfl] at k ⊢
    exact r _ H2 G2 L2 c2 e2 k
  | false =>
    rw [if_neg Bool.false_ne_true] at k ⊢
    exact k w ls σ H2 c2 _ fun b H3 G3 L3 c3 e3 k3 => r b H3 G3 L3 c3 (e2.trans e3) k3
theorem evb_not {Qb : PoB} (h : EvB K tt Δ G L fun b G1 L1 => Qb (!b) G1 L1) : EvB K (tNot tt) Δ G L Qb := fun w ls σ H c Q r => h w ls σ H c _ fun b H2 G2 L2 c2 e2 k => r _ H2 G2 L2 c2 e2 k
theorem evb_yes {Qb : PoB} (k : Qb true G L) : EvB K tYes Δ G L Qb := fun w ls σ H c Q r => r _ H G L c Ext.refl k
theorem evc_if (h : EvB K tt Δ G L fun b G1 L1 => if b = true then EvC K ta Δ G1 L1 Qd else EvC K tb Δ G1 L1 Qd) : EvC K (tIf tt ta tb) Δ G L Qd := fun w ls σ H c Q r => h w ls σ H c _ fun b H2 G2 L2 c2 e2 k => by
  cases b with
  | true =>
    rw [if_pos rfl] at k ⊢
    exact k w ls σ H2 c2 _ (r.ext e2)
  | false =>
    rw [if_neg Bool.false_ne_true] at k ⊢
    exact k w ls σ H2 c2 _ (r.ext e2)
theorem evc_andV (h : EvC K ta Δ G L fun s G1 L1 => ∃ b, s = .d (.bl b) ∧ if b = true then EvC K tb Δ G1 L1 Qd else Qd (.d (.bl false)) G1 L1) : EvC K (tAndV ta tb) Δ G L Qd := fun w ls σ H c Q r => h w ls σ H c _ fun v s H2 G2 L2 c2 e2 r2 ⟨b, e, k⟩ => by
  subst e
  refine ⟨b, r2, ?_⟩
  cases b with
  | true =>
    rw [if_pos rfl] at k ⊢
    exact k w ls σ H2 c2 _ (r.ext e2)
  | false =>
    rw [if_neg Bool.false_ne_true] at k ⊢
    exact r.go c2 e2 (s := .d (.bl false)) rfl k
theorem evc_orV (h : EvC K ta Δ G L fun s G1 L1 => ∃ b, s = .d (.bl b) ∧ if b = true then Qd (.d (.bl true)) G1 L1 else EvC K tb Δ G1 L1 Qd) : EvC K (tOrV ta tb) Δ G L Qd := fun w ls σ H c Q r => h w ls σ H c _ fun v s H2 G2 L2 c2 e2 r2 ⟨b, e, k⟩ => by
  subst e
  refine ⟨b, r2, ?_⟩
  cases b with
  | true =>
    rw [if_pos rfl] at k ⊢
    exact r.go c2 e2 (s := .d (.bl true)) rfl k
  | false =>
    rw [if_neg Bool.false_ne_true] at k ⊢
    exact k w ls σ H2 c2 _ (r.ext e2)
theorem evc_notV (h : EvC K ta Δ G L fun s G1 L1 => ∃ b, s = .d (.bl b) ∧ Qd (.d (.bl (!b))) G1 L1) : EvC K (tNotV ta) Δ G L Qd := fun w ls σ H c Q r => h w ls σ H c _ fun v s H2 G2 L2 c2 e2 r2 ⟨b, e, k⟩ => by
  subst e
  exact ⟨b, r2, r.go c2 e2 (s := .d (.bl (!b))) rfl k⟩
theorem evc_chain {r r' : R2} (h : EvC K ta Δ G L fun x G1 L1 => EvC K tb Δ G1 L1 fun y G2 L2 => OpC K r x y Δ G2 L2 fun z G3 L3 => ∃ b, z = .d (.bl b) ∧
    if b = true then EvC K tc Δ G3 L3 fun u G4 L4 => OpC K r' y u Δ G4 L4 Qd else Qd (.d (.bl false)) G3 L3) : EvC K (tChain r r' ta tb tc) Δ G L Qd :=
  fun w ls σ H c Q ret => h w ls σ H c _ fun v s H2 G2 L2 c2 e2 r2 h2 => h2 w ls σ H2 c2 _ fun v3 s3 H3 G3 L3 c3 e3 r3 h3 => h3 w ls σ H3 v v3 c3 (r2.on c2 e3) r3 _ fun v4 s4 H4 G4 L4 c4 e4 r4 ⟨b, e, k⟩ => by
    subst e
    refine ⟨b, r4, ?_⟩
    cases b with
    | true =>
      rw [if_pos rfl] at k ⊢
      exact k w ls σ H4 c4 _ fun v5 s5 H5 G5 L5 c5 e5 r5 h5 => h5 w ls σ H5 v3 v5 c5 ((r3.on c3 e4).on c4 e5) r5 Q (ret.ext (e2.trans (e3.trans (e4.trans e5))))
    | false =>
      rw [if_neg Bool.false_ne_true] at k ⊢
      exact ret.go c4 (e2.trans (e3.trans e4)) (s := .d (.bl false)) rfl k

/-! arguments, displays -/
theorem eva_nil {Qa : PoA} (k : Qa [] G L) : EvA K tNil Δ G L Qa := fun w ls σ H c Q r => r [] [] H G L c Ext.refl .nil k
theorem eva_cons {Qa : PoA} {ts : TA} (h : EvC K te Δ G L fun x G1 L1 => EvA K ts Δ G1 L1 fun xs G2 L2 => Qa (x :: xs) G2 L2) : EvA K (tCons te ts) Δ G L Qa :=
  fun w ls σ H c Q r => h w ls σ H c _ fun v s H2 G2 L2 c2 e2 r2 h2 => h2 w ls σ H2 c2 _ fun vs ss H3 G3 L3 c3 e3 r3 h3 => r (v :: vs) (s :: ss) H3 G3 L3 c3 (e2.trans e3) (.cons (r2.on c2 e3) r3) h3
/-- all are data -/
def dats : List S → Option (List D)
  | [] => some []
  | .d x :: r => match dats r with
    | some xs => some (x :: xs)
    | none => none
  | _ :: _ => none
theorem dats_rep {H : Hp} {R : Addr → Prop} {gs ls : List Addr} : ∀ {ss : List S} {ds : List D} {vs : List V}, dats ss = some ds → Paired (RS K H R gs ls) ss vs → RepL K H R ds vs
  | [], _, _, e, .nil => by
    cases e
    rfl
  | .d x :: r, ds, _, e, .cons h t => by
    unfold dats at e
    split at e
    · rename_i xs hx
      cases e
      exact ⟨_, _, rfl, h, dats_rep hx t⟩
    · cases e
theorem paired_len' {α β : Type} {F : α → β → Prop} {as : List α} {bs : List β} (h : Paired F as bs) : bs.length = as.length := (paired_len h).symm
theorem evc_tup {ts : TA} (h : EvA K ts Δ G L fun ss G1 L1 => ∃ ds, dats ss = some ds ∧ ds.length ≤ sizeLine ∧ Qd (.d (.tup ds)) G1 L1) : EvC K (tTup ts) Δ G L Qd := fun w ls σ H c Q r => h w ls σ H c _ fun vs ss H2 G2 L2 c2 e2 r2 ⟨ds, hd, hl, k⟩ =>
  have q := dats_rep hd r2
  ⟨by rw [q.length]; exact hl, fun p hp => r.go (c2.new hp) (e2.trans (Ext.new hp)) (s := .d (.tup ds)) (rep_tup c2 hp q) k⟩
theorem evn_lst {ts : TA} {Qn : PoN} (h : EvA K ts Δ G L fun ss G1 L1 => ∃ ds, dats ss = some ds ∧ ds.length ≤ sizeLine ∧ Qn (.pl ds) G1 L1) : EvN K (tLst ts) Δ G L Qn := fun w ls σ H c Q r => h w ls σ H c _ fun vs ss H2 G2 L2 c2 e2 r2 ⟨ds, hd, hl, k⟩ =>
  have q := dats_rep hd r2
  ⟨by rw [q.length]; exact hl, fun p hp => r p _ _ _ _ (none_back c2 e2 hp) (newAt_pl c2 hp q) (e2.trans (Ext.new hp)) k⟩
theorem evn_lstH {ts : TA} {Qn : PoN} (h : EvA K ts Δ G L fun ss G1 L1 => ss.length ≤ sizeLine ∧ Qn (.hl ss) G1 L1) : EvN K (tLst ts) Δ G L Qn := fun w ls σ H c Q r => h w ls σ H c _ fun vs ss H2 G2 L2 c2 e2 r2 ⟨hl, k⟩ =>
  ⟨by rw [paired_len' r2]; exact hl, fun p hp => r p _ _ _ _ (none_back c2 e2 hp) (newAt_hl c2 hp r2) (e2.trans (Ext.new hp)) k⟩

/-! subscripts -/
theorem u_ix_l {x : S} {xs : List D} {i : Int} {d : D} (hx : lsG G L x = some xs) (hi : atI xs i = some d) (k : Qd (.d d) G L) : OpC K (rIx K) x (.d (.int i)) Δ G L Qd := fun w ls σ H vx vy c rx ry Q q => by
  obtain ⟨a, vs, rfl, h1, q1⟩ := lsG_get c rx hx
  unfold atI at hi
  cases e : ixN xs.length i with
  | none =>
    rw [e] at hi
    cases hi
  | some j =>
    rw [e] at hi
    obtain ⟨v, hv, r⟩ := q1.get (show xs[j]? = some d from hi)
    refine .inl ⟨a, vs, i, v, rfl, ry, .inl (.inl h1), ?_, q.go c Ext.refl (s := .d d) r k⟩
    unfold atI
    rw [q1.length, e]
    exact hv
theorem u_ix_t {xs : List D} {i : Int} {d : D} (hi : atI xs i = some d) (k : Qd (.d d) G L) : OpC K (rIx K) (.d (.tup xs)) (.d (.int i)) Δ G L Qd := fun w ls σ H vx vy c rx ry Q q => by
  obtain ⟨a, vs, rfl, h1, q1⟩ := rx
  unfold atI at hi
  cases e : ixN xs.length i with
  | none =>
    rw [e] at hi
    cases hi
  | some j =>
    rw [e] at hi
    obtain ⟨v, hv, r⟩ := q1.get (show xs[j]? = some d from hi)
    refine .inr (.inl ⟨a, vs, i, v, rfl, ry, h1.sq, ?_, q.go c Ext.refl (s := .d d) r k⟩)
    unfold atI
    rw [q1.length, e]
    exact hv
theorem u_ix_s {z : Str} {i : Int} {ch : Nat} (hl : z.length ≤ sizeLine) (hi : atI z.cps.toList i = some ch) (k : Qd (.d (.str ⟨#[ch]⟩)) G L) : OpC K (rIx K) (.d (.str z)) (.d (.int i)) Δ G L Qd := fun w ls σ H vx vy c rx ry Q q =>
  .inr (.inr ⟨z, i, ch, rx, ry, hl, hi, q.go c Ext.refl (s := .d (.str ⟨#[ch]⟩)) rfl k⟩)
theorem u_ix_scr {ns : List Int} {i z : Int} (hi : atI ns i = some z) (k : Qd (.d (.int z)) G L) : OpC K (rIx K) (.d (.scr ns)) (.d (.int i)) Δ G L Qd := fun w ls σ H vx vy c rx ry Q q => by
  obtain ⟨a, rfl, h1⟩ := rx
  refine .inl ⟨a, _, i, .int z, rfl, ry, h1.sq, ?_, q.go c Ext.refl (s := .d (.int z)) rfl k⟩
  unfold atI at hi ⊢
  rw [List.length_map]
  cases e : ixN ns.length i with
  | none =>
    rw [e] at hi
    cases hi
  | some j =>
    rw [e] at hi
    show (ns.map V.int)[j]? = _
    rw [List.getElem?_map, show ns[j]? = some z from hi]
    rfl
end
end
end DL

namespace DL
open PySem PySem.Spec PyProof.Rows L2
section
variable {K : PySem.W.Frag}
structure EndsD where
  nx : Sl → List M → List M → Prop
  rt : S → List M → List M → Prop
  bk : Sl → List M → List M → Prop := fun _ _ _ => False
  ct : Sl → List M → List M → Prop := fun _ _ _ => False
structure SEnds (K : PySem.W.Frag) (w : W) (ls : List Addr) (H : Hp) (E : EndsD) (D : Ends) : Prop where
  nx : ∀ ls' σ H' Δ G L, Ctx K w ls' σ H' Δ G L → Grow H H' (Rg w ls) (Rg w ls') → E.nx Δ G L → D.nx σ H'
  rt : ∀ ls' σ H' Δ G L v s, Ctx K w ls' σ H' Δ G L → RS K H' (Rg w ls') w.gs ls' s v → E.rt s G L → D.rt v H'
  bk : ∀ ls' σ H' Δ G L, Ctx K w ls' σ H' Δ G L → Grow H H' (Rg w ls) (Rg w ls') → E.bk Δ G L → D.bk σ H'
  ct : ∀ ls' σ H' Δ G L, Ctx K w ls' σ H' Δ G L → Grow H H' (Rg w ls) (Rg w ls') → E.ct Δ G L → D.ct σ H'
def StC (K : PySem.W.Frag) (ts : TS) (Δ : Sl) (G L : List M) (E : EndsD) : Prop := ∀ w ls σ H, Ctx K w ls σ H Δ G L → ∀ D : Ends, SEnds K w ls H E D → ts D σ H
theorem SEnds.on {w : W} {ls ls1 : List Addr} {H H1 : Hp} {E : EndsD} {D : Ends} (s : SEnds K w ls H E D) (g : Grow H H1 (Rg w ls) (Rg w ls1)) : SEnds K w ls1 H1 E D :=
  ⟨fun ls' σ H' Δ G L c g' h => s.nx ls' σ H' Δ G L c (g.trans g') h, s.rt, fun ls' σ H' Δ G L c g' h => s.bk ls' σ H' Δ G L c (g.trans g') h, fun ls' σ H' Δ G L c g' h => s.ct ls' σ H' Δ G L c (g.trans g') h⟩
section
variable {Δ : Sl} {G L : List M} {E : EndsD} {te : TE} {tt : TT} {t u : TS}
/-- a slot is stored -/
theorem SlOk.set {H : Hp} {R : Addr → Prop} {gs ls : List Addr} {σ : L2.St} (h : SlOk K H R gs ls σ Δ) {i : Nat} {v : V} {s : S} (r : RS K H R gs ls s v) : SlOk K H R gs ls (σ.set i (some v)) (Δ.set i (some s)) := by
  refine ⟨by rw [List.length_set, List.length_set, h.1], fun j z e => ?_⟩
  rw [List.getElem?_set] at e ⊢
  split at e
  · rename_i hij
    subst hij
    rw [if_pos rfl]
    split at e
    · rename_i hl
      cases e
      exact ⟨v, by rw [if_pos (by rw [h.1]; exact hl)], r⟩
    · cases e
  · rename_i hij
    rw [if_neg hij]
    exact h.2 j z e
theorem Ctx.slot {w : W} {ls : List Addr} {σ : L2.St} {H : Hp} (c : Ctx K w ls σ H Δ G L) {i : Nat} {v : V} {s : S} (r : RS K H (Rg w ls) w.gs ls s v) : Ctx K w ls (σ.set i (some v)) H (Δ.set i (some s)) G L :=
  ⟨c.reg, c.rin, c.nd, c.fr, c.h0, c.sl.set r, c.gl, c.lo⟩
theorem st_seq (h : StC K t Δ G L { E with nx := fun Δ1 G1 L1 => StC K u Δ1 G1 L1 E }) : StC K (tSeq t u) Δ G L E := fun w ls σ H c D s =>
  h w ls σ H c _ ⟨fun ls' σ' H' Δ' G' L' c' g' k => k w ls' σ' H' c' D (s.on g'), s.rt, s.bk, s.ct⟩
theorem st_next (k : E.nx Δ G L) : StC K tNext Δ G L E := fun w ls σ H c D s => s.nx ls σ H Δ G L c (Grow.refl _ _) k
theorem st_break (k : E.bk Δ G L) : StC K tBreak Δ G L E := fun w ls σ H c D s => s.bk ls σ H Δ G L c (Grow.refl _ _) k
theorem st_cont (k : E.ct Δ G L) : StC K tCont Δ G L E := fun w ls σ H c D s => s.ct ls σ H Δ G L c (Grow.refl _ _) k
theorem st_asg {i : Nat} (h : EvC K te Δ G L fun s G1 L1 => E.nx (Δ.set i (some s)) G1 L1) : StC K (tAsg te (gName i)) Δ G L E := fun w ls σ H c D s =>
  h w ls σ H c _ fun v x H2 G2 L2 c2 e2 r2 k => s.nx ls _ H2 _ G2 L2 (c2.slot r2) (e2.grow c.reg) k
/-- a new object becomes the def's own -/
theorem st_own {i : Nat} (h : EvN K te Δ G L fun m G1 L1 => E.nx (Δ.set i (some (.l L1.length))) G1 (L1 ++ [m])) : StC K (tAsg te (gName i)) Δ G L E := fun w ls σ H c D s =>
  h w ls σ H c _ fun p m H2 G2 L2 hp n e2 k => by
    have hl : ls.length = L2.length := paired_len n.c.lo
    refine s.nx (ls ++ [p]) _ H2 _ G2 (L2 ++ [m]) (n.own.slot (s := .l L2.length) ⟨p, ?_, rfl⟩) ⟨(e2.grow c.reg).keep, fun a o q r => ?_⟩ k
    · rw [← hl, List.getElem?_append_right (Nat.le_refl _), Nat.sub_self]
      rfl
    · rcases r with r | r
      · exact .inl r
      · rcases List.mem_append.mp r with r | r
        · exact .inr r
        · rw [List.mem_singleton] at r
          subst r
          rw [hp] at q
          cases q
theorem st_if (h : EvB K tt Δ G L fun b G1 L1 => if b = true then StC K t Δ G1 L1 E else StC K u Δ G1 L1 E) : StC K (tIfS tt t u) Δ G L E := fun w ls σ H c D s => h w ls σ H c _ fun b H2 G2 L2 c2 e2 k => by
  cases b with
  | true =>
    rw [if_pos rfl] at k ⊢
    exact k w ls σ H2 c2 D (s.on (e2.grow c.reg))
  | false =>
    rw [if_neg Bool.false_ne_true] at k ⊢
    exact k w ls σ H2 c2 D (s.on (e2.grow c.reg))
theorem st_ret (h : EvC K te Δ G L fun s G1 L1 => E.rt s G1 L1) : StC K (tRet te) Δ G L E := fun w ls σ H c D s => h w ls σ H c _ fun v x H2 G2 L2 c2 e2 r2 k => s.rt ls σ H2 Δ G2 L2 v x c2 r2 k
theorem st_retN (k : E.rt (.d .non) G L) : StC K tRetN Δ G L E := fun w ls σ H c D s => s.rt ls σ H Δ G L .non (.d .non) c rfl k
theorem st_retO (h : EvN K te Δ G L fun m G1 L1 => E.rt (.l L1.length) G1 (L1 ++ [m])) : StC K (tRet te) Δ G L E := fun w ls σ H c D s => h w ls σ H c _ fun p m H2 G2 L2 hp n e2 k => by
  have hl : ls.length = L2.length := paired_len n.c.lo
  refine s.rt (ls ++ [p]) σ H2 Δ G2 (L2 ++ [m]) (.ref p) (.l L2.length) n.own ⟨p, ?_, rfl⟩ k
  rw [← hl, List.getElem?_append_right (Nat.le_refl _), Nat.sub_self]
  rfl
theorem st_drop (h : EvC K te Δ G L fun _ G1 L1 => E.nx Δ G1 L1) : StC K (tDrop te) Δ G L E := fun w ls σ H c D s => h w ls σ H c _ fun v x H2 G2 L2 c2 e2 r2 k => s.nx ls σ H2 Δ G2 L2 c2 (e2.grow c.reg) k

/-! targets: ok says which slots may be stored -/
abbrev PoT := Sl → List M → List M → Prop
def TgC (K : PySem.W.Frag) (g : TG) (ok : Nat → Prop) (s : S) (Δ : Sl) (G L : List M) (Qt : PoT) : Prop :=
  ∀ w ls σ H v, Ctx K w ls σ H Δ G L → RS K H (Rg w ls) w.gs ls s v → ∀ Q : L2.St → Hp → Prop,
    (∀ σ' H' Δ' G' L', Ctx K w ls σ' H' Δ' G' L' → Ext w ls H H' → σ'.length = σ.length → (∀ k, ¬ ok k → σ'[k]? = σ[k]?) → Qt Δ' G' L' → Q σ' H') → g v σ H Q
def TgCs (K : PySem.W.Frag) (g : TGs) (ok : Nat → Prop) (ss : List S) (Δ : Sl) (G L : List M) (Qt : PoT) : Prop :=
  ∀ w ls σ H vs, Ctx K w ls σ H Δ G L → Paired (RS K H (Rg w ls) w.gs ls) ss vs → ∀ Q : L2.St → Hp → Prop,
    (∀ σ' H' Δ' G' L', Ctx K w ls σ' H' Δ' G' L' → Ext w ls H H' → σ'.length = σ.length → (∀ k, ¬ ok k → σ'[k]? = σ[k]?) → Qt Δ' G' L' → Q σ' H') → g vs σ H Q
theorem tg_name {i : Nat} {s : S} {Qt : PoT} {ok : Nat → Prop} (hi : ok i) (k : Qt (Δ.set i (some s)) G L) : TgC K (gName i) ok s Δ G L Qt := fun w ls σ H v c r Q q =>
  q _ H _ G L (c.slot r) Ext.refl (List.length_set ..) (fun k hk => by
    rw [List.getElem?_set_ne (fun z => hk (by rw [← z]; exact hi))]) k
theorem tgs_nil {Qt : PoT} {ok : Nat → Prop} (k : Qt Δ G L) : TgCs K gNil ok [] Δ G L Qt := fun w ls σ H vs c r Q q => by
  cases r
  exact ⟨rfl, q σ H Δ G L c Ext.refl rfl (fun _ _ => rfl) k⟩
theorem tgs_cons {g : TG} {gs : TGs} {ok : Nat → Prop} {s : S} {ss : List S} {Qt : PoT} (h : TgC K g ok s Δ G L fun Δ1 G1 L1 => TgCs K gs ok ss Δ1 G1 L1 Qt) : TgCs K (gCons g gs) ok (s :: ss) Δ G L Qt := fun w ls σ H vs c r Q q => by
  cases r with
  | cons r1 rr =>
    refine ⟨_, _, rfl, h w ls σ H _ c r1 _ fun σ1 H1 Δ1 G1 L1 c1 e1 l1 o1 k1 => ?_⟩
    refine k1 w ls σ1 H1 _ c1 (RSs.on c e1 rr) _ fun σ2 H2 Δ2 G2 L2 c2 e2 l2 o2 k2 => ?_
    exact q σ2 H2 Δ2 G2 L2 c2 (e1.trans e2) (l2.trans l1) (fun k hk => (o2 k hk).trans (o1 k hk)) k2
theorem repL_rs {H : Hp} {R : Addr → Prop} {gs ls : List Addr} : ∀ {ds : List D} {vs : List V}, RepL K H R ds vs → Paired (RS K H R gs ls) (ds.map S.d) vs
  | [], _, h => by
    cases h
    exact .nil
  | d :: ds, _, ⟨y, ys, e, h, r⟩ => by
    subst e
    exact .cons h (repL_rs r)
theorem tg_tup {gs : TGs} {ok : Nat → Prop} {ds : List D} {n : Nat} {Qt : PoT} (hn : ds.length = n) (h : TgCs K gs ok (ds.map S.d) Δ G L Qt) : TgC K (gTup K n gs) ok (.d (.tup ds)) Δ G L Qt := fun w ls σ H v c r Q q => by
  obtain ⟨a, xs, rfl, h1, r1⟩ := r
  exact ⟨a, xs, rfl, h1.sq, by rw [r1.length]; exact hn, h w ls σ H xs c (repL_rs r1) Q q⟩
theorem st_asgT {g : TG} (h : EvC K te Δ G L fun s G1 L1 => TgC K g (fun _ => True) s Δ G1 L1 E.nx) : StC K (tAsg te g) Δ G L E := fun w ls σ H c D s =>
  h w ls σ H c _ fun v x H2 G2 L2 c2 e2 r2 k => k w ls σ H2 v c2 r2 _ fun σ' H' Δ' G' L' c' e' _ _ k' => s.nx ls σ' H' Δ' G' L' c' ((e2.trans e').grow c.reg) k'

/-! what is walked -/
structure ItOk (K : PySem.W.Frag) (w : W) (ls : List Addr) (J : It) (H1 : Hp) (items : List D) : Prop where
  go : ∀ H2 w2 ls2 σ2 Δ2 G2 L2 i d, Grow H1 H2 (Rg w ls) (Rg w2 ls2) → Ctx K w2 ls2 σ2 H2 Δ2 G2 L2 → items[i]? = some d → J.go i H2 ∧ ∀ x H', J.yld i H2 x H' → Ctx K w2 ls2 σ2 H' Δ2 G2 L2 ∧ Ext w2 ls2 H2 H' ∧ Rep K H' (Rg w2 ls2) d x
  stop : ∀ H2 w2 ls2, Grow H1 H2 (Rg w ls) (Rg w2 ls2) → J.stop items.length H2
def EvI (K : PySem.W.Frag) (wi : TI) (Δ : Sl) (G L : List M) (Qi : List D → List M → List M → Prop) : Prop :=
  ∀ w ls σ H, Ctx K w ls σ H Δ G L → ∀ R : It → Hp → Prop, (∀ J H1 items G1 L1, Ctx K w ls σ H1 Δ G1 L1 → Ext w ls H H1 → ItOk K w ls J H1 items → Qi items G1 L1 → R J H1) → wi σ H R
/-- over data -/
theorem evi_list {tl : TE} {Qi : List D → List M → List M → Prop} (h : EvC K tl Δ G L fun s G1 L1 => ∃ ds, s = .d (.lst ds) ∧ Qi ds G1 L1) : EvI K (iList K tl) Δ G L Qi := fun w ls σ H c R q =>
  h w ls σ H c _ fun v s H2 G2 L2 c2 e2 r2 ⟨ds, e, k⟩ => by
    subst e
    obtain ⟨a, vs, rfl, ⟨h1, n1⟩, r1⟩ := r2
    refine ⟨a, rfl, ⟨vs, .inl (.inl h1)⟩, q _ H2 ds G2 L2 c2 e2 ⟨fun H3 w2 ls2 σ2 Δ2 G3 L3 i d g c3 hi => ?_, fun H3 w2 ls2 g => ?_⟩ k⟩
    · obtain ⟨x, hx, rx⟩ := (r1.grow g).get hi
      have h3 := g.keep a _ h1 n1
      refine ⟨⟨vs, x, .inl (.inl h3), hx⟩, fun y H' ⟨hH, hy⟩ => ?_⟩
      subst hH
      have e := hy vs (.inl (.inl h3))
      rw [hx] at e
      cases e
      exact ⟨c3, Ext.refl, rx⟩
    · exact ⟨vs, .inl (.inl (g.keep a _ h1 n1)), Nat.le_of_eq r1.length⟩
theorem evi_tup {tl : TE} {Qi : List D → List M → List M → Prop} (h : EvC K tl Δ G L fun s G1 L1 => ∃ ds, s = .d (.tup ds) ∧ Qi ds G1 L1) : EvI K (iTup K tl) Δ G L Qi := fun w ls σ H c R q =>
  h w ls σ H c _ fun v s H2 G2 L2 c2 e2 r2 ⟨ds, e, k⟩ => by
    subst e
    obtain ⟨a, vs, rfl, h1, r1⟩ := r2
    refine ⟨a, rfl, ⟨vs, h1.sq⟩, q _ H2 ds G2 L2 c2 e2 ⟨fun H3 w2 ls2 σ2 Δ2 G3 L3 i d g c3 hi => ?_, fun H3 w2 ls2 g => ?_⟩ k⟩
    · obtain ⟨x, hx, rx⟩ := (r1.grow g).get hi
      have h3 := (h1.grow g).sq
      refine ⟨⟨vs, x, h3, hx⟩, fun y H' ⟨hH, hy⟩ => ?_⟩
      subst hH
      have e := hy vs h3
      rw [hx] at e
      cases e
      exact ⟨c3, Ext.refl, rx⟩
    · exact ⟨vs, (h1.grow g).sq, Nat.le_of_eq r1.length⟩
def rngD (lo : Int) (n : Nat) : List D := (List.range n).map fun i => .int (lo + (i : Nat))
theorem rngD_get {lo : Int} {n i : Nat} {d : D} (h : (rngD lo n)[i]? = some d) : i < n ∧ d = .int (lo + (i : Nat)) := by
  unfold rngD at h
  rw [List.getElem?_map] at h
  by_cases hi : i < n
  · rw [List.getElem?_range hi] at h
    exact ⟨hi, (Option.some.inj h).symm⟩
  · rw [List.getElem?_eq_none (by rw [List.length_range]; omega)] at h
    cases h
theorem rngD_len {lo : Int} {n : Nat} : (rngD lo n).length = n := by
  unfold rngD
  rw [List.length_map, List.length_range]
theorem itok_range {w : W} {ls : List Addr} {H : Hp} {lo : Int} {n : Nat} : ItOk K w ls (Itr lo n) H (rngD lo n) :=
  ⟨fun H3 w2 ls2 σ2 Δ2 G3 L3 i d g c3 hi => by
    obtain ⟨h1, rfl⟩ := rngD_get hi
    exact ⟨h1, fun x H' ⟨hH, hx⟩ => by
      subst hH
      exact ⟨c3, Ext.refl, hx⟩⟩, fun _ _ _ _ => Nat.le_of_eq rngD_len.symm⟩
theorem evi_rng1 {ta : TA} {Qi : List D → List M → List M → Prop} (h : EvA K ta Δ G L fun ss G1 L1 => ∃ j : Int, ss = [.d (.int j)] ∧ -(2 ^ 62) ≤ j ∧ j < 2 ^ 62 ∧ Qi (rngD 0 j.toNat) G1 L1) : EvI K (iRng1 ta) Δ G L Qi := fun w ls σ H c R q =>
  h w ls σ H c _ fun vs ss H2 G2 L2 c2 e2 r2 ⟨j, e, h1, h2, k⟩ => by
    subst e
    cases r2 with
    | cons r t =>
      cases t
      exact ⟨j, by rw [show _ = V.int j from r], h1, h2, q _ H2 _ G2 L2 c2 e2 itok_range k⟩
theorem evi_rng2 {ta : TA} {Qi : List D → List M → List M → Prop} (h : EvA K ta Δ G L fun ss G1 L1 => ∃ i j : Int, ss = [.d (.int i), .d (.int j)] ∧ (-(2 ^ 62) ≤ i ∧ i < 2 ^ 62 ∧ -(2 ^ 62) ≤ j ∧ j < 2 ^ 62) ∧ Qi (rngD i (j - i).toNat) G1 L1) : EvI K (iRng2 ta) Δ G L Qi := fun w ls σ H c R q =>
  h w ls σ H c _ fun vs ss H2 G2 L2 c2 e2 r2 ⟨i, j, e, h1, k⟩ => by
    subst e
    cases r2 with
    | cons r t =>
      cases t with
      | cons r' t' =>
        cases t'
        exact ⟨i, j, by rw [show _ = V.int i from r, show _ = V.int j from r'], h1, q _ H2 _ G2 L2 c2 e2 itok_range k⟩
theorem st_for {wi : TI} {g : TG} {tb : TS} (h : EvI K wi Δ G L fun items G1 L1 => ∃ P : Nat → Sl → List M → List M → Prop, P 0 Δ G1 L1 ∧
    (∀ i d Δ' G' L', items[i]? = some d → P i Δ' G' L' → TgC K g (fun _ => True) (.d d) Δ' G' L' fun Δ2 G2 L2 => StC K tb Δ2 G2 L2 { E with nx := P (i + 1), ct := P (i + 1), bk := E.nx }) ∧
    ∀ Δ' G' L', P items.length Δ' G' L' → E.nx Δ' G' L') : StC K (tFor wi g tb) Δ G L E := fun w ls σ H c D s =>
  h w ls σ H c _ fun J H1 items G1 L1 c1 e1 it ⟨P, p0, ps, pe⟩ => by
    have g1 : Grow H H1 (Rg w ls) (Rg w ls) := e1.grow c.reg
    refine ⟨fun i m σ' H' => m = items.length - i ∧ i ≤ items.length ∧ ∃ ls' Δ' G' L', Ctx K w ls' σ' H' Δ' G' L' ∧ Grow H1 H' (Rg w ls) (Rg w ls') ∧ P i Δ' G' L',
      ⟨_, rfl, Nat.zero_le _, ls, Δ, G1, L1, c1, Grow.refl _ _, p0⟩, ?_⟩
    rintro i m σ' H' ⟨rfl, hi, ls', Δ', G', L', c', g', p⟩
    by_cases hlt : i < items.length
    · obtain ⟨go, yl⟩ := it.go H' w ls' σ' Δ' G' L' i _ g' c' (List.getElem?_eq_getElem hlt)
      refine .inr ⟨go, fun σ2 H2 => ∃ ls2 Δ2 G2 L2, Ctx K w ls2 σ2 H2 Δ2 G2 L2 ∧ Grow H1 H2 (Rg w ls) (Rg w ls2) ∧ P (i + 1) Δ2 G2 L2, fun σ2 H2 ⟨ls2, Δ2, G2, L2, c2, g2, p2⟩ => ⟨_, by omega, rfl, hlt, ls2, Δ2, G2, L2, c2, g2, p2⟩, fun x H3 hy => ?_⟩
      obtain ⟨c3, e3, r3⟩ := yl x H3 hy
      refine ps i _ Δ' G' L' (List.getElem?_eq_getElem hlt) p w ls' σ' H3 x c3 r3 _ fun σ4 H4 Δ4 G4 L4 c4 e4 _ _ k4 => ?_
      have g4 : Grow H1 H4 (Rg w ls) (Rg w ls') := g'.trans ((e3.trans e4).grow c'.reg)
      exact k4 w ls' σ4 H4 c4 _ ⟨fun ls5 σ5 H5 Δ5 G5 L5 c5 g5 p5 => ⟨ls5, Δ5, G5, L5, c5, g4.trans g5, p5⟩, s.rt, fun ls5 σ5 H5 Δ5 G5 L5 c5 g5 p5 => s.nx ls5 σ5 H5 Δ5 G5 L5 c5 (g1.trans (g4.trans g5)) p5,
        fun ls5 σ5 H5 Δ5 G5 L5 c5 g5 p5 => ⟨ls5, Δ5, G5, L5, c5, g4.trans g5, p5⟩⟩
    · have e : i = items.length := by omega
      subst e
      exact .inl ⟨it.stop H' w ls' g', s.nx ls' σ' H' Δ' G' L' c' (g1.trans g') (pe Δ' G' L' p)⟩
theorem st_while {tb : TS} (P : Nat → Sl → List M → List M → Prop) (m0 : Nat) (p0 : P m0 Δ G L)
    (ps : ∀ m Δ' G' L', P m Δ' G' L' → EvB K tt Δ' G' L' fun b G1 L1 => if b = true then StC K tb Δ' G1 L1 { E with nx := fun Δ2 G2 L2 => ∃ m', m' < m ∧ P m' Δ2 G2 L2, ct := fun Δ2 G2 L2 => ∃ m', m' < m ∧ P m' Δ2 G2 L2, bk := E.nx } else E.nx Δ' G1 L1) : StC K (tWhile tt tb) Δ G L E := fun w ls σ H c D s => by
  refine ⟨fun m σ' H' => ∃ ls' Δ' G' L', Ctx K w ls' σ' H' Δ' G' L' ∧ Grow H H' (Rg w ls) (Rg w ls') ∧ P m Δ' G' L', ⟨m0, ls, Δ, G, L, c, Grow.refl _ _, p0⟩, ?_⟩
  rintro m σ' H' ⟨ls', Δ', G', L', c', g', p⟩
  refine ps m Δ' G' L' p w ls' σ' H' c' _ fun b H2 G2 L2 c2 e2 k => ?_
  have g2 : Grow H H2 (Rg w ls) (Rg w ls') := g'.trans (e2.grow c'.reg)
  cases b with
  | true =>
    rw [if_pos rfl] at k ⊢
    refine ⟨fun σ3 H3 => ∃ m', m' < m ∧ ∃ ls3 Δ3 G3 L3, Ctx K w ls3 σ3 H3 Δ3 G3 L3 ∧ Grow H H3 (Rg w ls) (Rg w ls3) ∧ P m' Δ3 G3 L3, fun σ3 H3 ⟨m', hm, ls3, Δ3, G3, L3, c3, g3, p3⟩ => ⟨m', hm, ls3, Δ3, G3, L3, c3, g3, p3⟩, ?_⟩
    exact k w ls' σ' H2 c2 _ ⟨fun ls5 σ5 H5 Δ5 G5 L5 c5 g5 ⟨m', hm, p5⟩ => ⟨m', hm, ls5, Δ5, G5, L5, c5, g2.trans g5, p5⟩, s.rt, fun ls5 σ5 H5 Δ5 G5 L5 c5 g5 p5 => s.nx ls5 σ5 H5 Δ5 G5 L5 c5 (g2.trans g5) p5,
      fun ls5 σ5 H5 Δ5 G5 L5 c5 g5 ⟨m', hm, p5⟩ => ⟨m', hm, ls5, Δ5, G5, L5, c5, g2.trans g5, p5⟩⟩
  | false =>
    rw [if_neg Bool.false_ne_true] at k ⊢
    exact s.nx ls' σ' H2 Δ' G2 L2 c2 g2 k

/-! comprehensions -/
def W.add (w : W) (p : Addr) : W := ⟨fun a => w.R a ∨ a = p, w.gs, w.H0⟩
theorem rg_add {w : W} {p : Addr} {ls : List Addr} {a : Addr} : Rg (w.add p) ls a ↔ Rg w (ls ++ [p]) a := by
  unfold Rg W.add
  rw [List.mem_append, List.mem_singleton]
  constructor
  · rintro ((h | h) | h)
    · exact .inl h
    · exact .inr (.inr h)
    · exact .inr (.inl h)
  · rintro (h | h | h)
    · exact .inl (.inl h)
    · exact .inr h
    · exact .inl (.inr h)
theorem grow_iff {H : Hp} {R R' : Addr → Prop} (h : ∀ a, R' a → R a) : Grow H H R R' := ⟨fun _ _ e _ => e, fun a _ _ r => h a r⟩
/-- hidden: the object at p is the caller's own -/
theorem Ctx.hide {w : W} {ls : List Addr} {σ : L2.St} {H : Hp} (c : Ctx K w ls σ H Δ G L) {p : Addr} {o : HO} (h : H p = none) : Ctx K (w.add p) ls σ (upd H p o) Δ G L := by
  have g : Grow H (upd H p o) (Rg w ls) (Rg (w.add p) ls) := ((grow_reg h).trans (grow_iff fun a r => rg_add.mp r)).trans (grow_new h)
  have k := keep_new (o := o) h
  refine ⟨fun a r => .inl (c.reg a r), fun a r => ?_, c.nd, c.fr, fun a u e n => k a u (c.h0 a u e n), c.sl.grow g (Pre.refl _) (Pre.refl _),
    paired_map c.gl fun a m _ q => q.grow g (Pre.refl _) (Pre.refl _) (k a), paired_map c.lo fun a m _ q => q.grow g (Pre.refl _) (Pre.refl _) (k a)⟩
  rcases r with r | r
  · obtain ⟨u, e⟩ := c.rin a r
    exact ⟨u, k a u e⟩
  · subst r
    exact ⟨o, upd_same⟩
theorem Ctx.setH {w : W} {ls : List Addr} {σ : L2.St} {H : Hp} {p : Addr} {o u : HO} (c : Ctx K (w.add p) ls σ H Δ G L) (h : H p = some u) (n0 : w.H0 p = none) (np : p ∉ w.gs) (nl : p ∉ ls) : Ctx K (w.add p) ls σ (upd H p o) Δ G L := by
  have g : Grow H (upd H p o) (Rg (w.add p) ls) (Rg (w.add p) ls) := grow_upd (.inl (.inr rfl))
  refine ⟨c.reg, fun a r => ?_, c.nd, c.fr, fun a u e n => ?_, c.sl.grow g (Pre.refl _) (Pre.refl _),
    paired_map c.gl fun a m ha q => q.grow g (Pre.refl _) (Pre.refl _) (upd_other fun z => np (z ▸ ha)), paired_map c.lo fun a m ha q => q.grow g (Pre.refl _) (Pre.refl _) (upd_other fun z => nl (z ▸ ha))⟩
  · by_cases z : a = p
    · subst z
      exact ⟨_, upd_same⟩
    · obtain ⟨u, e⟩ := c.rin a r
      exact ⟨u, by rw [upd_ne z]; exact e⟩
  · have z : a ≠ p := fun z => by
      rw [z] at e
      rw [show w.H0 p = some u from e] at n0
      cases n0
    rw [upd_ne z]
    exact c.h0 a u e n
theorem Ctx.show {w : W} {ls : List Addr} {σ : L2.St} {H : Hp} {p : Addr} {vs : List V} {ds : List D} (c : Ctx K (w.add p) ls σ H Δ G L) (hr : ∀ a ∈ w.gs, w.R a) (h : H p = some (.lst vs)) (r : RepL K H (Rg (w.add p) ls) ds vs) (n0 : w.H0 p = none) (np : p ∉ w.gs) (nl : p ∉ ls) (nR : ¬ w.R p) : NewAt K w ls σ H Δ G L p (.pl ds) := by
  have g1 : Grow H H (Rg (w.add p) ls) (Rg w (ls ++ [p])) := grow_iff fun a r => rg_add.mpr r
  have g2 : Grow H H (Rg (w.add p) ls) (Rg w ls) := grow_iff fun a r => by
    rcases r with r | r
    · exact .inl (.inl r)
    · exact .inr r
  refine ⟨⟨hr, fun a r => c.rin a (.inl r), ?_, ?_, c.h0, c.sl.grow g1 (Pre.refl _) (Pre.app _ _), paired_map c.gl fun a m _ q => q.grow g1 (Pre.refl _) (Pre.nil _) (fun _ z => z),
    paired_app (paired_map c.lo fun a m _ q => q.grow g1 (Pre.refl _) (Pre.app _ _) (fun _ z => z)) (.cons ⟨vs, h, r.grow g1⟩ .nil)⟩,
    ⟨hr, fun a r => c.rin a (.inl r), c.nd, c.fr, c.h0, c.sl.grow g2 (Pre.refl _) (Pre.refl _), paired_map c.gl fun a m _ q => q.grow g2 (Pre.refl _) (Pre.refl _) (fun _ z => z),
    paired_map c.lo fun a m _ q => q.grow g2 (Pre.refl _) (Pre.refl _) (fun _ z => z)⟩, fun x e => ?_⟩
  · show (w.gs ++ (ls ++ [p])).Nodup
    rw [← List.append_assoc]
    refine List.nodup_append.mpr ⟨c.nd, by simp, fun a ha b hb => ?_⟩
    rw [List.mem_singleton] at hb
    subst hb
    rintro rfl
    rcases List.mem_append.mp ha with z | z
    · exact np z
    · exact nl z
  · intro a ha
    rcases List.mem_append.mp ha with z | z
    · exact c.fr a z
    · rw [List.mem_singleton] at z
      subst z
      exact n0
  · cases e
    refine ⟨p, vs, rfl, ⟨h, ?_⟩, r.grow g2⟩
    rintro (z | z)
    · exact nR z
    · exact nl z
def wipeD (Δ : Sl) : List Nat → Sl
  | [] => Δ
  | v :: vs => (wipeD Δ vs).set v none
theorem wipe_get {σ : L2.St} {k : Nat} : ∀ {vs : List Nat}, (wipe σ vs)[k]? = if k ∈ vs ∧ k < σ.length then some none else σ[k]?
  | [] => by simp [wipe]
  | v :: vs => by
    show ((wipe σ vs).set v none)[k]? = _
    rw [List.getElem?_set, wipe_length]
    by_cases hv : v = k
    · subst hv
      by_cases hl : v < σ.length
      · simp [hl]
      · simp [hl]
    · rw [if_neg hv, wipe_get (vs := vs)]
      have : (k ∈ v :: vs) ↔ k ∈ vs := by
        rw [List.mem_cons]
        exact ⟨fun h => h.resolve_left (fun z => hv z.symm), .inr⟩
      simp only [this]
theorem wipe_eq {σ σ' : L2.St} {vs : List Nat} (hl : σ'.length = σ.length) (h : ∀ k, ¬ k ∈ vs → σ'[k]? = (wipe σ vs)[k]?) : wipe σ' vs = wipe σ vs := by
  refine List.ext_getElem? fun k => ?_
  rw [wipe_get (σ := σ'), wipe_get (σ := σ)]
  by_cases hk : k ∈ vs
  · rw [hl]
    by_cases hlt : k < σ.length
    · simp [hk, hlt]
    · simp [hk, hlt]
      omega
  · rw [if_neg (fun z => hk z.1), if_neg (fun z => hk z.1), h k hk, wipe_get, if_neg (fun z => hk z.1)]
theorem SlOk.wipe {H : Hp} {R : Addr → Prop} {gs ls : List Addr} {σ : L2.St} (h : SlOk K H R gs ls σ Δ) : ∀ vs, SlOk K H R gs ls (wipe σ vs) (wipeD Δ vs)
  | [] => h
  | v :: vs => by
    have ih := SlOk.wipe h vs
    refine ⟨by show ((L2.wipe σ vs).set v none).length = ((wipeD Δ vs).set v none).length; rw [List.length_set, List.length_set, ih.1], fun j s e => ?_⟩
    have e : ((wipeD Δ vs).set v none)[j]? = some (some s) := e
    show ∃ x, ((L2.wipe σ vs).set v none)[j]? = some (some x) ∧ _
    rw [List.getElem?_set] at e ⊢
    split at e
    · split at e <;> cases e
    · rename_i hne
      rw [if_neg hne]
      exact ih.2 j s e
theorem Ctx.wipe {w : W} {ls : List Addr} {σ : L2.St} {H : Hp} (c : Ctx K w ls σ H Δ G L) (vs : List Nat) : Ctx K w ls (wipe σ vs) H (wipeD Δ vs) G L := ⟨c.reg, c.rin, c.nd, c.fr, c.h0, c.sl.wipe vs, c.gl, c.lo⟩
theorem evn_lc {wi : TI} {g : TG} {vs : List Nat} {Qn : PoN} (h : EvI K wi Δ G L fun items G1 L1 => ∃ P : Nat → List D → List M → List M → Prop, P 0 [] G1 L1 ∧ items.length < sizeLine ∧
    (∀ i d acc G' L', items[i]? = some d → acc.length ≤ i → P i acc G' L' → TgC K g (· ∈ vs) (.d d) (wipeD Δ vs) G' L' fun Δ2 G2 L2 =>
      EvB K tt Δ2 G2 L2 fun b G3 L3 => if b = true then EvC K te Δ2 G3 L3 fun s G4 L4 => ∃ x, s = .d x ∧ P (i + 1) (acc ++ [x]) G4 L4 else P (i + 1) acc G3 L3) ∧
    ∀ acc G' L', P items.length acc G' L' → Qn (.pl acc) G' L') : EvN K (tLc wi g tt te vs) Δ G L Qn := fun w ls σ H c Q r =>
  h w ls σ H c _ fun J H1 items G1 L1 c1 e1 it ⟨P, p0, hz, ps, pe⟩ => fun D hD => by
    have nR := c1.free hD
    have n0 := c1.free0 hD
    have ng : D ∉ w.gs := fun z => nR (.inl (c1.reg D z))
    have nl : D ∉ ls := fun z => nR (.inr z)
    have cH := c1.hide (o := .lst []) hD
    have gH : Grow H1 (upd H1 D (.lst [])) (Rg w ls) (Rg (w.add D) ls) := ((grow_reg hD).trans (grow_iff fun a r => rg_add.mp r)).trans (grow_new hD)
    refine ⟨fun i m H' => m = items.length - i ∧ i ≤ items.length ∧ ∃ acc vs' G' L', Ctx K (w.add D) ls σ H' Δ G' L' ∧ Grow H1 H' (Rg w ls) (Rg (w.add D) ls) ∧ Ext w ls H1 H' ∧ H' D = some (.lst vs') ∧ RepL K H' (Rg (w.add D) ls) acc vs' ∧ acc.length ≤ i ∧ P i acc G' L',
      ⟨_, rfl, Nat.zero_le _, [], [], G1, L1, cH, gH, Ext.new hD, upd_same, rfl, Nat.le_refl _, p0⟩, ?_⟩
    rintro i m H' ⟨rfl, hi, acc, vs', G', L', c', g', e', hD', r', hl, p⟩
    by_cases hlt : i < items.length
    · obtain ⟨go, yl⟩ := it.go H' (w.add D) ls (wipe σ vs) (wipeD Δ vs) G' L' i _ g' (c'.wipe vs) (List.getElem?_eq_getElem hlt)
      refine .inr ⟨go, fun H2 => ∃ acc2 vs2 G2 L2, Ctx K (w.add D) ls σ H2 Δ G2 L2 ∧ Grow H1 H2 (Rg w ls) (Rg (w.add D) ls) ∧ Ext w ls H1 H2 ∧ H2 D = some (.lst vs2) ∧ RepL K H2 (Rg (w.add D) ls) acc2 vs2 ∧ acc2.length ≤ i + 1 ∧ P (i + 1) acc2 G2 L2,
        fun H2 ⟨acc2, vs2, G2, L2, q⟩ => ⟨_, by omega, rfl, hlt, acc2, vs2, G2, L2, q⟩, fun x H3 hy => ?_⟩
      obtain ⟨c3, e3, r3⟩ := yl x H3 hy
      refine ps i _ acc G' L' (List.getElem?_eq_getElem hlt) hl p (w.add D) ls _ H3 x c3 r3 _ fun σ4 H4 Δ4 G4 L4 c4 e4 l4 o4 k4 => ?_
      have hw : wipe σ4 vs = wipe σ vs := wipe_eq (l4.trans (wipe_length _ _)) o4
      -- back to σ, Δ: the slots of Δ stay what they are
      have back : ∀ H5 G5 L5, Ctx K (w.add D) ls σ4 H5 Δ4 G5 L5 → Ext (w.add D) ls H' H5 → Ctx K (w.add D) ls σ H5 Δ G5 L5 := fun H5 G5 L5 c5 e5 =>
        ⟨c5.reg, c5.rin, c5.nd, c5.fr, c5.h0, c'.sl.grow (e5.grow c'.reg) (Pre.refl _) (Pre.refl _), c5.gl, c5.lo⟩
      have exw : ∀ H5, Ext (w.add D) ls H' H5 → Ext w ls H1 H5 := fun H5 e5 a o h1 h2 h3 => e5 a o (e' a o h1 h2 h3) h2 h3
      refine ⟨hw, k4 (w.add D) ls σ4 H4 c4 _ fun b H5 G5 L5 c5 e5 k5 => ?_⟩
      have e45 : Ext (w.add D) ls H' H5 := (e3.trans e4).trans e5
      cases b with
      | true =>
        rw [if_pos rfl] at k5 ⊢
        refine k5 (w.add D) ls σ4 H5 c5 _ fun v s H6 G6 L6 c6 e6 r6 ⟨y, e, k6⟩ => ?_
        subst e
        have e46 := e45.trans e6
        have h6 : H6 D = some (.lst vs') := e46 D _ hD' ng nl
        have r6' := r'.grow (e46.grow c'.reg)
        have gu : Grow H6 (upd H6 D (.lst (vs' ++ [v]))) (Rg (w.add D) ls) (Rg (w.add D) ls) := grow_upd (.inl (.inr rfl))
        refine ⟨vs', h6, by rw [r'.length]; omega, acc ++ [y], vs' ++ [v], G6, L6, Ctx.setH (back H6 G6 L6 c6 e46) h6 n0 ng nl, g'.trans ((e46.grow c'.reg).trans gu), ?_, upd_same, (r6'.app (RepL.one r6)).grow gu, by rw [List.length_append]; show acc.length + 1 ≤ i + 1; omega, k6⟩
        intro a o h1 h2 h3
        rw [upd_ne (ne_of_none h1 hD)]
        exact exw H6 e46 a o h1 h2 h3
      | false =>
        rw [if_neg Bool.false_ne_true] at k5 ⊢
        exact ⟨acc, vs', G5, L5, back H5 G5 L5 c5 e45, g'.trans (e45.grow c'.reg), exw H5 e45, e45 D _ hD' ng nl, r'.grow (e45.grow c'.reg), by omega, k5⟩
    · have e : i = items.length := by omega
      subst e
      exact .inl ⟨it.stop H' (w.add D) ls g', r D _ H' G' L' (none_back c1 e1 hD) (c'.show c.reg hD' r' n0 ng nl (fun z => nR (.inl z))) (e1.trans e') (pe acc G' L' p)⟩
end
end
end DL

namespace DL
open PySem PySem.Spec PyProof.Rows L2
section
variable {K : PySem.W.Frag}
/-- what a call hands back: a value, or new objects, the k-th of which is the value -/
inductive Res where
  | v (s : S) | new (ms : List M) (k : Nat)
abbrev DSpec := List S → List M → (Res → List M → Prop) → Prop
def spD (K : PySem.W.Frag) (F : DSpec) : Sp := fun vs H Q _ => ∃ (w : W) (ss : List S) (G : List M) (Qd : Res → List M → Prop), w.H0 = H ∧ Ctx K w [] [] H [] G [] ∧ Paired (RS K H (Rg w []) w.gs []) ss vs ∧ F ss G Qd ∧
  (∀ v s H' G', Ctx K w [] [] H' [] G' [] → RS K H' (Rg w []) w.gs [] s v → Qd (.v s) G' → Q v H') ∧
  (∀ ps k p ms H' G', Ctx K w ps [] H' [] G' ms → ps[k]? = some p → Qd (.new ms k) G' → Q (.ref p) H')
def startD (N : List Str) (ss : List S) : Sl := ss.map some ++ List.replicate (N.length - ss.length) none
def endsD (Qd : Res → List M → Prop) : EndsD where
  nx := fun _ G _ => Qd (.v (.d .non)) G
  rt := fun s G L => match s with
    | .l k => Qd (.new L k) G
    | .d x => Qd (.v (.d x)) G
    | .g k => Qd (.v (.g k)) G
section
variable {w : W} {ls : List Addr} {σ : L2.St} {H : Hp} {Δ : Sl} {G L : List M}
theorem Ctx.forgetS (c : Ctx K w ls σ H Δ G L) : Ctx K w ls [] H [] G L := ⟨c.reg, c.rin, c.nd, c.fr, c.h0, ⟨rfl, fun i s e => by simp at e⟩, c.gl, c.lo⟩
theorem grow_drop {H : Hp} {w : W} {ls : List Addr} : Grow H H (Rg w ls) (Rg w []) := ⟨fun _ _ e _ => e, fun a o e r => by
  rcases r with r | r
  · exact .inl r
  · cases r⟩
theorem Ctx.forget (c : Ctx K w ls σ H Δ G L) : Ctx K w [] [] H [] G [] :=
  ⟨c.reg, c.rin, by rw [List.append_nil]; exact (List.nodup_append.mp c.nd).1, fun _ h => (by cases h), c.h0, ⟨rfl, fun i s e => by simp at e⟩,
    paired_map c.gl fun a m _ q => q.grow grow_drop (Pre.refl _) (Pre.refl _) fun _ z => z, .nil⟩
theorem paired_get_l {α β : Type} {F : α → β → Prop} : ∀ {as : List α} {bs : List β} {i : Nat} {a : α}, Paired F as bs → as[i]? = some a → ∃ b, bs[i]? = some b ∧ F a b
  | _, _, 0, _, .cons h t, e => by
    simp at e
    subst e
    exact ⟨_, rfl, h⟩
  | _, _, i + 1, _, .cons h t, e => by
    obtain ⟨a, q, r⟩ := paired_get_l (i := i) t (by simpa using e)
    exact ⟨a, by simpa using q, r⟩
theorem slok_start {R : Addr → Prop} {gs ls : List Addr} {N : List Str} {ss : List S} {vs : List V} (r : Paired (RS K H R gs ls) ss vs) : SlOk K H R gs ls (L2.start N vs) (startD N ss) := by
  have hl := paired_len r
  refine ⟨by unfold L2.start startD; rw [List.length_append, List.length_append, List.length_map, List.length_map, List.length_replicate, List.length_replicate, hl], fun i s e => ?_⟩
  unfold startD at e
  unfold L2.start
  by_cases hi : i < ss.length
  · rw [List.getElem?_append_left (by rw [List.length_map]; exact hi), List.getElem?_map] at e
    rw [List.getElem?_append_left (by rw [List.length_map, ← hl]; exact hi), List.getElem?_map]
    cases q : ss[i]? with
    | none =>
      rw [q] at e
      cases e
    | some z =>
      rw [q] at e
      have e : some (some z) = some (some s) := e
      cases e
      obtain ⟨v, hv, rr⟩ := paired_get_l r q
      exact ⟨v, by rw [hv]; rfl, rr⟩
  · rw [List.getElem?_append_right (by rw [List.length_map]; omega), List.getElem?_replicate] at e
    split at e <;> cases e
end
section
variable {P : Program} {w : World} {mg : Str → Option Value} {base : Heap}
/-- THE RULE for a def, at the level of data -/
theorem okD {x qual : Str} {st : Stmt} {f : Addr} {fd : FuncData} {N ps : List Str} {k : Nat} {sp : DSpec} (F : Fun K x qual st f fd) (S : FnScope N ps (defScope st)) (len : ∀ ss G Qd, sp ss G Qd → ss.length = ps.length)
    (hbody : ∀ (cdv : Value) (A : Around) (outer : List Env) (s : Shared) (H : Hp) (E : XK) (ss : List DL.S) (G : List M) (Qd : Res → List M → Prop), Room k (A.deeper (envOfC qual (defScope st) s.heap.objs.size f cdv)) → sp ss G Qd →
      ∃ t, PSs (cxOf CX0 P w K mg base N qual (defScope st) f cdv A outer s H E).nox (defBody st) t ∧ StC K t (startD N ss) G [] (endsD Qd)) : FnOk P w K mg base CX0 (k + 1) f fd ps (spD K sp) := by
  refine F.ok S (fun vs H Q E h => ?_) (fun cdv A outer s H vs Q E hr h => ?_)
  · obtain ⟨w, ss, G, Qd, _, _, r, q, _⟩ := h
    rw [← paired_len r]
    exact len ss G Qd q
  · obtain ⟨w, ss, G, Qd, h0, c, r, q, k1, k2⟩ := h
    obtain ⟨t, ht, hs⟩ := hbody cdv A outer s H E ss G Qd hr q
    refine ⟨t, ht, hs w [] (L2.start N vs) H ⟨c.reg, c.rin, c.nd, c.fr, c.h0, slok_start r, c.gl, c.lo⟩ _ ⟨?_, ?_, ?_, ?_⟩⟩
    · intro ls' σ' H' Δ' G' L' c' g' n'
      exact k1 .non (.d .non) H' G' c'.forget rfl n'
    · intro ls' σ' H' Δ' G' L' v z c' rz n'
      cases z with
      | d x => exact k1 v (.d x) H' G' c'.forget (Rep.grow grow_drop rz) n'
      | g j => exact k1 v (.g j) H' G' c'.forget rz n'
      | l j =>
        obtain ⟨a, ha, rfl⟩ := rz
        exact k2 ls' j a L' H' G' c'.forgetS ha n'
    · intro ls' σ' H' Δ' G' L' c' g' n'
      exact n'.elim
    · intro ls' σ' H' Δ' G' L' c' g' n'
      exact n'.elim
end

/-! ### calls -/
def noL : List S → Bool
  | [] => true
  | .l _ :: _ => false
  | _ :: r => noL r
theorem noL_rs {H : Hp} {R : Addr → Prop} {gs ls ls' : List Addr} : ∀ {ss : List S} {vs : List V}, noL ss = true → Paired (RS K H R gs ls) ss vs → Paired (RS K H R gs ls') ss vs
  | [], _, _, .nil => .nil
  | .d x :: r, _, h, .cons q t => .cons q (noL_rs (ss := r) h t)
  | .g x :: r, _, h, .cons q t => .cons q (noL_rs (ss := r) h t)
section
variable {Δ : Sl} {G L : List M} {Qd : Po} {ta : TA} {sp : DSpec} {E0' : XK}
def callee (w : W) (ls : List Addr) (H : Hp) : W := ⟨Rg w ls, w.gs, H⟩
theorem rg_callee {w : W} {ls ps : List Addr} {H : Hp} {a : Addr} : Rg (callee w ls H) ps a ↔ (Rg w ls a ∨ a ∈ ps) := Iff.rfl
theorem Ctx.callee {w : W} {ls : List Addr} {σ : L2.St} {H : Hp} (c : Ctx K w ls σ H Δ G L) : Ctx K (DL.callee w ls H) [] [] H [] G [] := by
  have g : Grow H H (Rg w ls) (Rg (DL.callee w ls H) []) := grow_iff fun a r => r.elim id (fun z => by cases z)
  refine ⟨fun a h => .inl (c.reg a h), fun a r => ?_, by rw [List.append_nil]; exact (List.nodup_append.mp c.nd).1, fun _ h => (by cases h), fun a o h _ => h, ⟨rfl, fun i s e => by simp at e⟩,
    paired_map c.gl fun a m _ q => q.grow g (Pre.refl _) (Pre.refl _) fun _ z => z, .nil⟩
  rcases r with r | r
  · exact c.rin a r
  · exact c.lin r
/-- back from a callee: its new objects ps beside what was -/
theorem Ctx.back {w : W} {ls : List Addr} {σ : L2.St} {H H' : Hp} {G' ms : List M} {ps : List Addr} (c : Ctx K w ls σ H Δ G L) (c' : Ctx K (DL.callee w ls H) ps [] H' [] G' ms) : Ctx K w ls σ H' Δ G' L ∧ Ext w ls H H' := by
  have e : ∀ a o, H a = some o → a ∉ w.gs → H' a = some o := c'.h0
  have e2 : Ext w ls H H' := fun a o h n _ => e a o h n
  have g := e2.grow c.reg
  have nl : ∀ a ∈ ls, a ∉ w.gs := fun a h z => (List.nodup_append.mp c.nd).2.2 a z a h rfl
  have g3 : Grow H' H' (Rg (DL.callee w ls H) ps) (Rg w ls) := grow_iff fun a r => .inl r
  refine ⟨⟨c.reg, fun a r => c'.rin a (.inl r), c.nd, c.fr, fun a o h n => e a o (c.h0 a o h n) n, c.sl.grow g (Pre.refl _) (Pre.refl _),
    paired_map c'.gl fun a m _ q => q.grow g3 (Pre.refl _) (Pre.refl _) (fun _ z => z), paired_map c.lo fun a m ha q => q.grow g (Pre.refl _) (Pre.refl _) (fun o h => e a o h (nl a ha))⟩, e2⟩
theorem new_free {w : W} {ls : List Addr} {σ : L2.St} {H H' : Hp} {G' ms : List M} {ps : List Addr} (c : Ctx K w ls σ H Δ G L) (c' : Ctx K (DL.callee w ls H) ps [] H' [] G' ms) {p : Addr} (hp : p ∈ ps) : H p = none ∧ ¬ Rg w ls p := ⟨c'.fr p hp, c.free (c'.fr p hp)⟩
theorem dat_rep {w : W} {ls : List Addr} {σ : L2.St} {H H' : Hp} {G' ms : List M} {ps : List Addr} (c : Ctx K w ls σ H Δ G L) (c' : Ctx K (DL.callee w ls H) ps [] H' [] G' ms) {k : Nat} {p : Addr} {m : M} {x : D} (hp : ps[k]? = some p) (hm : ms[k]? = some m) (hx : m.dat = some x) : Rep K H' (Rg w ls) x (.ref p) := by
  obtain ⟨_, nR⟩ := new_free c c' (List.mem_of_getElem? hp)
  obtain ⟨a, ha, q⟩ := paired_get c'.lo hm
  rw [hp] at ha
  cases ha
  have g3 : Grow H' H' (Rg (DL.callee w ls H) ps) (Rg w ls) := grow_iff fun a r => .inl r
  cases m with
  | pl ds =>
    cases hx
    obtain ⟨vs, h1, r⟩ := q
    exact ⟨p, vs, rfl, ⟨h1, nR⟩, r.grow g3⟩
  | hl xs => cases hx
  | dc ds =>
    cases hx
    obtain ⟨vs, h1, r⟩ := q
    exact ⟨p, vs, rfl, ⟨h1, nR⟩, r.grow g3⟩
  | ob C ds =>
    cases hx
    obtain ⟨dx, vs, h1, r⟩ := q
    exact ⟨p, dx, vs, rfl, ⟨h1, nR⟩, r.grow g3⟩
/-- what a call's result gives, as a value -/
def asV (Qd : Po) (L : List M) : Res → List M → Prop
  | .v s, G => Qd s G L
  | .new ms k, G => ∃ m x, ms[k]? = some m ∧ m.dat = some x ∧ Qd (.d x) G L
theorem sp_call {w : W} {ls : List Addr} {σ : L2.St} {H : Hp} {ss : List S} {vs : List V} {Q : VK} {E : XK} (c : Ctx K w ls σ H Δ G L) (r : Paired (RS K H (Rg w ls) w.gs ls) ss vs) (hn : noL ss = true) (h : sp ss G (asV Qd L)) (q : Ret K w ls σ Δ H Qd Q) : spD K sp vs H Q E := by
  have g : Grow H H (Rg w ls) (Rg (DL.callee w ls H) []) := grow_iff fun a r => r.elim id (fun z => by cases z)
  have g' : ∀ H', Grow H' H' (Rg (DL.callee w ls H) []) (Rg w ls) := fun H' => grow_iff fun a r => .inl r
  refine ⟨DL.callee w ls H, ss, G, asV Qd L, rfl, c.callee, paired_map (noL_rs hn r) fun a b _ z => z.grow g (Pre.refl _) (Pre.refl _), h, fun v s H' G' c' rs k => ?_, fun ps j p ms H' G' c' hp k => ?_⟩
  · obtain ⟨cb, eb⟩ := c.back c'
    exact q v s H' G' L cb eb (RS.grow (g' H') (Pre.refl _) (Pre.nil _) rs) k
  · obtain ⟨m, x, hm, hx, k⟩ := k
    obtain ⟨cb, eb⟩ := c.back c'
    exact q _ (.d x) H' G' L cb eb (dat_rep c c' hp hm hx) k
theorem evc_call (h : EvA K ta Δ G L fun ss G1 L1 => noL ss = true ∧ sp ss G1 (asV Qd L1)) : EvC K (tCall (spD K sp) [] E0' ta) Δ G L Qd := fun w ls σ H c Q r => h w ls σ H c _ fun vs ss H2 G2 L2 c2 e2 r2 ⟨hn, k⟩ => by
  show spD K sp (vs ++ []) H2 Q E0'
  rw [List.append_nil]
  exact sp_call c2 r2 hn k (r.ext e2)
/-- objects made by a callee become the caller's own -/
def S.shift (n : Nat) : S → S
  | .l k => .l (n + k)
  | s => s
def M.shift (n : Nat) : M → M
  | .hl xs => .hl (xs.map (S.shift n))
  | m => m
theorem MOk.shift {H : Hp} {R R' : Addr → Prop} {gs ls ps : List Addr} (g : Grow H H R R') {a : Addr} : ∀ {m : M}, MOk K H R gs ps a m → MOk K H R' gs (ls ++ ps) a (m.shift ls.length)
  | .pl _, ⟨vs, h, r⟩ => ⟨vs, h, RepL.grow g r⟩
  | .hl xs, ⟨vs, h, r⟩ => ⟨vs, h, by
    clear h
    induction r with
    | nil => exact .nil
    | cons q t ih =>
      refine .cons ?_ ih
      rename_i s v ss vs
      cases s with
      | d x => exact Rep.grow g q
      | g k => exact q
      | l k =>
        obtain ⟨b, hb, e⟩ := q
        refine ⟨b, ?_, e⟩
        rw [List.getElem?_append_right (Nat.le_add_right _ _), Nat.add_sub_cancel_left]
        exact hb⟩
  | .dc _, ⟨vs, h, r⟩ => ⟨vs, h, RepK.grow g r⟩
  | .ob _ _, ⟨dx, vs, h, r⟩ => ⟨dx, vs, h, RepF.grow g r⟩
theorem paired_map2 {α β γ : Type} {F : α → β → Prop} {F' : α → γ → Prop} {f : β → γ} : ∀ {as : List α} {bs : List β}, Paired F as bs → (∀ a b, F a b → F' a (f b)) → Paired F' as (bs.map f)
  | _, _, .nil, _ => .nil
  | _, _, .cons h t, k => .cons (k _ _ h) (paired_map2 t k)
theorem Ctx.adopt {w : W} {ls : List Addr} {σ : L2.St} {H H' : Hp} {G' ms : List M} {ps : List Addr} (c : Ctx K w ls σ H Δ G L) (c' : Ctx K (DL.callee w ls H) ps [] H' [] G' ms) : Ctx K w (ls ++ ps) σ H' Δ G' (L ++ ms.map (M.shift L.length)) ∧ Grow H H' (Rg w ls) (Rg w (ls ++ ps)) := by
  have e : ∀ a o, H a = some o → a ∉ w.gs → H' a = some o := c'.h0
  have hl : ls.length = L.length := paired_len c.lo
  have nl : ∀ a ∈ ls, a ∉ w.gs := fun a h z => (List.nodup_append.mp c.nd).2.2 a z a h rfl
  have nps : ∀ a ∈ ps, H a = none := fun a h => c'.fr a h
  have g : Grow H H' (Rg w ls) (Rg w (ls ++ ps)) := ⟨fun a o h n => e a o h (fun z => n (.inl (c.reg a z))), fun a o h r => by
    rcases r with r | r
    · exact .inl r
    · rcases List.mem_append.mp r with r | r
      · exact .inr r
      · rw [nps a r] at h
        cases h⟩
  have g3 : Grow H' H' (Rg (DL.callee w ls H) ps) (Rg w (ls ++ ps)) := grow_iff fun a r => by
    rcases r with r | r
    · exact .inl (.inl r)
    · rcases List.mem_append.mp r with r | r
      · exact .inl (.inr r)
      · exact .inr r
  refine ⟨⟨c.reg, fun a r => c'.rin a (.inl r), ?_, ?_, fun a o h n => e a o (c.h0 a o h n) n, c.sl.grow g (Pre.refl _) (Pre.app _ _),
    paired_map c'.gl fun a m _ q => q.grow g3 (Pre.refl _) (Pre.refl _) (fun _ z => z), paired_app (paired_map c.lo fun a m ha q => q.grow g (Pre.refl _) (Pre.app _ _) (fun o h => e a o h (nl a ha))) ?_⟩, g⟩
  · rw [← List.append_assoc]
    refine List.nodup_append.mpr ⟨c.nd, (List.nodup_append.mp c'.nd).2.1, fun a ha b hb z => ?_⟩
    subst z
    have n := nps a hb
    rcases List.mem_append.mp ha with z | z
    · obtain ⟨o, q⟩ := c.gin z
      rw [n] at q
      cases q
    · obtain ⟨o, q⟩ := c.lin z
      rw [n] at q
      cases q
  · intro a ha
    rcases List.mem_append.mp ha with z | z
    · exact c.fr a z
    · exact c.free0 (nps a z)
  · rw [← hl]
    exact paired_map2 c'.lo fun a m q => q.shift g3
theorem st_ownB {i : Nat} {E : EndsD} (h : EvA K ta Δ G L fun ss G1 L1 => noL ss = true ∧ sp ss G1 fun r G2 => ∃ ms k, r = .new ms k ∧ E.nx (Δ.set i (some (.l (L1.length + k)))) G2 (L1 ++ ms.map (M.shift L1.length))) : StC K (tAsg (tCall (spD K sp) [] E0' ta) (gName i)) Δ G L E := fun w ls σ H c D s => h w ls σ H c _ fun vs ss H2 G2 L2 c2 e2 r2 ⟨hn, k⟩ => by
  show spD K sp (vs ++ []) H2 _ E0'
  rw [List.append_nil]
  have g : Grow H2 H2 (Rg w ls) (Rg (DL.callee w ls H2) []) := grow_iff fun a r => r.elim id (fun z => by cases z)
  refine ⟨DL.callee w ls H2, ss, G2, _, rfl, c2.callee, paired_map (noL_rs hn r2) fun a b _ z => z.grow g (Pre.refl _) (Pre.refl _), k, fun v z H' G' c' rs ⟨ms, j, e, _⟩ => (by cases e), fun ps j p ms H' G' c' hp ⟨ms', j', e, k⟩ => ?_⟩
  cases e
  obtain ⟨ca, ga⟩ := c2.adopt c'
  have hl : ls.length = L2.length := paired_len c2.lo
  refine s.nx (ls ++ ps) _ H' _ G' _ (ca.slot (s := .l (L2.length + j)) ⟨p, ?_, rfl⟩) ((e2.grow c.reg).trans ga) k
  rw [← hl, List.getElem?_append_right (Nat.le_add_right _ _), Nat.add_sub_cancel_left]
  exact hp
/-- own objects handed to a callee (where the def has no caller's store) -/
def S.pro : S → S
  | .l k => .g k
  | s => s
def S.dem : S → S
  | .g k => .l k
  | s => s
def M.pro : M → M
  | .hl xs => .hl (xs.map S.pro)
  | m => m
def M.dem : M → M
  | .hl xs => .hl (xs.map S.dem)
  | m => m
theorem RS.pro {H : Hp} {R : Addr → Prop} {ls : List Addr} : ∀ {s : S} {v : V}, RS K H R [] ls s v → RS K H R ls [] s.pro v
  | .d _, _, h => h
  | .g _, _, ⟨a, h, _⟩ => by simp at h
  | .l _, _, h => h
theorem RS.dem {H : Hp} {R : Addr → Prop} {ls : List Addr} : ∀ {s : S} {v : V}, RS K H R ls [] s v → RS K H R [] ls s.dem v
  | .d _, _, h => h
  | .l _, _, ⟨a, h, _⟩ => by simp at h
  | .g _, _, h => h
theorem MOk.pro {H : Hp} {R : Addr → Prop} {ls : List Addr} {a : Addr} : ∀ {m : M}, MOk K H R [] ls a m → MOk K H R ls [] a m.pro
  | .pl _, h => h
  | .hl _, ⟨vs, h, r⟩ => ⟨vs, h, by
    clear h
    induction r with
    | nil => exact .nil
    | cons q t ih => exact .cons q.pro ih⟩
  | .dc _, h => h
  | .ob _ _, h => h
theorem MOk.dem {H : Hp} {R : Addr → Prop} {ls : List Addr} {a : Addr} : ∀ {m : M}, MOk K H R ls [] a m → MOk K H R [] ls a m.dem
  | .pl _, h => h
  | .hl _, ⟨vs, h, r⟩ => ⟨vs, h, by
    clear h
    induction r with
    | nil => exact .nil
    | cons q t ih => exact .cons q.dem ih⟩
  | .dc _, h => h
  | .ob _ _, h => h
def calleeL (w : W) (ls : List Addr) (H : Hp) : W := ⟨Rg w ls, ls, H⟩
theorem Ctx.calleeL {w : W} {ls : List Addr} {σ : L2.St} {H : Hp} (hg : w.gs = []) (c : Ctx K w ls σ H Δ G L) : Ctx K (DL.calleeL w ls H) [] [] H [] (L.map M.pro) [] := by
  have g : Grow H H (Rg w ls) (Rg (DL.calleeL w ls H) []) := grow_iff fun a r => r.elim id (fun z => by cases z)
  refine ⟨fun a h => .inr h, fun a r => ?_, by rw [List.append_nil]; exact (List.nodup_append.mp c.nd).2.1, fun _ h => (by cases h), fun a o h _ => h, ⟨rfl, fun i s e => by simp at e⟩, ?_, .nil⟩
  · rcases r with r | r
    · exact c.rin a r
    · exact c.lin r
  · refine paired_map2 c.lo fun a m q => ?_
    rw [hg] at q
    exact (MOk.pro q).grow g (Pre.refl _) (Pre.refl _) fun _ z => z
theorem Ctx.backL {w : W} {ls : List Addr} {σ : L2.St} {H H' : Hp} {G' ms : List M} {ps : List Addr} (hg : w.gs = []) (c : Ctx K w ls σ H Δ [] L) (c' : Ctx K (DL.calleeL w ls H) ps [] H' [] G' ms) : Ctx K w ls σ H' Δ [] (G'.map M.dem) ∧ Ext w ls H H' := by
  have e : ∀ a o, H a = some o → a ∉ ls → H' a = some o := c'.h0
  have e2 : Ext w ls H H' := fun a o h _ n => e a o h n
  have g := e2.grow c.reg
  have g3 : Grow H' H' (Rg (DL.calleeL w ls H) ps) (Rg w ls) := grow_iff fun a r => .inl r
  refine ⟨⟨c.reg, fun a r => c'.rin a (.inl r), c.nd, c.fr, fun a o h n => e a o (c.h0 a o h n) (fun z => by rw [c.fr a z] at h; cases h), c.sl.grow g (Pre.refl _) (Pre.refl _), by rw [hg]; exact .nil, ?_⟩, e2⟩
  refine paired_map2 c'.gl fun a m q => ?_
  rw [hg]
  exact (MOk.dem q).grow g3 (Pre.refl _) (Pre.refl _) fun _ z => z
def asVL (Qd : Po) : Res → List M → Prop
  | .v s, G => Qd s.dem [] (G.map M.dem)
  | .new ms k, G => ∃ m x, ms[k]? = some m ∧ m.dat = some x ∧ Qd (.d x) [] (G.map M.dem)
theorem evc_callL (h : EvA K ta Δ [] L fun ss G1 L1 => sp (ss.map S.pro) (L1.map M.pro) (asVL Qd)) : EvC K (tCall (spD K sp) [] E0' ta) Δ [] L Qd := fun w ls σ H c Q r => h w ls σ H c _ fun vs ss H2 G2 L2 c2 e2 r2 k => by
  show spD K sp (vs ++ []) H2 Q E0'
  rw [List.append_nil]
  have hg : w.gs = [] := List.eq_nil_of_length_eq_zero (paired_len c.gl)
  have hG2 : G2 = [] := List.eq_nil_of_length_eq_zero (by rw [← paired_len c2.gl, hg]; rfl)
  subst hG2
  have g : Grow H2 H2 (Rg w ls) (Rg (DL.calleeL w ls H2) []) := grow_iff fun a r => r.elim id (fun z => by cases z)
  have g' : ∀ H' ps, Grow H' H' (Rg (DL.calleeL w ls H2) ps) (Rg w ls) := fun H' ps => grow_iff fun a r => .inl r
  have r2' : Paired (RS K H2 (Rg (DL.calleeL w ls H2) []) (DL.calleeL w ls H2).gs []) (ss.map S.pro) vs := by
    rw [hg] at r2
    clear k
    induction r2 with
    | nil => exact .nil
    | cons q t ih => exact .cons (q.pro.grow g (Pre.refl _) (Pre.refl _)) ih
  refine ⟨DL.calleeL w ls H2, ss.map S.pro, L2.map M.pro, asVL Qd, rfl, c2.calleeL hg, r2', k, fun v s H' G' c' rs k => ?_, fun ps j p ms H' G' c' hp k => ?_⟩
  · obtain ⟨cb, eb⟩ := Ctx.backL hg c2 c'
    refine r v s.dem H' [] _ cb (e2.trans eb) ?_ k
    rw [hg]
    exact (RS.dem rs).grow (g' H' []) (Pre.refl _) (Pre.refl _)
  · obtain ⟨m, x, hm, hx, k⟩ := k
    obtain ⟨cb, eb⟩ := Ctx.backL hg c2 c'
    refine r _ (.d x) H' [] _ cb (e2.trans eb) ?_ k
    have hp0 : H2 p = none := c'.fr p (List.mem_of_getElem? hp)
    have nR := c2.free hp0
    obtain ⟨a, ha, q⟩ := paired_get c'.lo hm
    rw [hp] at ha
    cases ha
    cases m with
    | pl ds =>
      cases hx
      obtain ⟨vs, h1, r⟩ := q
      exact ⟨p, vs, rfl, ⟨h1, nR⟩, r.grow (g' _ _)⟩
    | hl xs => cases hx
    | dc ds =>
      cases hx
      obtain ⟨vs, h1, r⟩ := q
      exact ⟨p, vs, rfl, ⟨h1, nR⟩, r.grow (g' _ _)⟩
    | ob C ds =>
      cases hx
      obtain ⟨dx, vs, h1, r⟩ := q
      exact ⟨p, dx, vs, rfl, ⟨h1, nR⟩, r.grow (g' _ _)⟩
end
end
end DL

namespace DL
open PySem PySem.Spec PyProof.Rows L2
section
variable {K : PySem.W.Frag}
/-! ### sequences -/
/-- .. of a list, a tuple, the script -/
def seqG (G L : List M) : S → Option (List D)
  | .d (.tup ds) => some ds
  | .d (.scr ns) => some (ns.map .int)
  | s => lsG G L s
section
variable {w : W} {ls : List Addr} {σ : L2.St} {H : Hp} {Δ : Sl} {G L : List M}
theorem seqG_get {v : V} {s : S} {ds : List D} (c : Ctx K w ls σ H Δ G L) (r : RS K H (Rg w ls) w.gs ls s v) (h : seqG G L s = some ds) : ∃ a vs, v = .ref a ∧ (SqL K H a vs ∨ SqT K H a vs) ∧ RepL K H (Rg w ls) ds vs := by
  unfold seqG at h
  split at h
  · cases h
    obtain ⟨a, xs, rfl, h1, q⟩ := r
    exact ⟨a, xs, rfl, .inr h1.sq, q⟩
  · cases h
    obtain ⟨a, rfl, h1⟩ := r
    exact ⟨a, _, rfl, .inl h1.sq, RepL.ints⟩
  · obtain ⟨a, vs, e, h1, q⟩ := lsG_get c r h
    exact ⟨a, vs, e, .inl (.inl (.inl h1)), q⟩
end
section
variable {Δ : Sl} {G L : List M} {Qd : Po} {Qn : PoN} {te ta tb tc : TE}
/-! ### calls of built-ins -/
def ApC (K : PySem.W.Frag) (r : List V → Hp → VK → Prop) (ss : List S) (Δ : Sl) (G L : List M) (Qd : Po) : Prop :=
  ∀ w ls σ H vs, Ctx K w ls σ H Δ G L → Paired (RS K H (Rg w ls) w.gs ls) ss vs → ∀ Q, Ret K w ls σ Δ H Qd Q → r vs H Q
def ApN (K : PySem.W.Frag) (r : List V → Hp → VK → Prop) (ss : List S) (Δ : Sl) (G L : List M) (Qd : PoN) : Prop :=
  ∀ w ls σ H vs, Ctx K w ls σ H Δ G L → Paired (RS K H (Rg w ls) w.gs ls) ss vs → ∀ Q, RetN K w ls σ Δ H Qd Q → r vs H Q
theorem apn_c {r : List V → Hp → VK → Prop} {ss : List S} (h : ApN K r ss Δ G L fun m G1 L1 => ∃ x, m.dat = some x ∧ Qd (.d x) G1 L1) : ApC K r ss Δ G L Qd :=
  fun w ls σ H vs c rs Q q => h w ls σ H vs c rs Q fun p m H2 G2 L2 _ n e ⟨x, hx, k⟩ => q.go n.c e (s := .d x) (n.dat x hx) k
theorem evc_cb {r : List V → Hp → VK → Prop} {ta : TA} (h : EvA K ta Δ G L fun ss G1 L1 => ApC K r ss Δ G1 L1 Qd) : EvC K (tCB r ta) Δ G L Qd := fun w ls σ H c Q ret => h w ls σ H c _ fun vs ss H2 G2 L2 c2 e2 r2 k => k w ls σ H2 vs c2 r2 Q (ret.ext e2)
theorem evn_cb {r : List V → Hp → VK → Prop} {ta : TA} (h : EvA K ta Δ G L fun ss G1 L1 => ApN K r ss Δ G1 L1 Qn) : EvN K (tCB r ta) Δ G L Qn := fun w ls σ H c Q ret => h w ls σ H c _ fun vs ss H2 G2 L2 c2 e2 r2 k => k w ls σ H2 vs c2 r2 Q (ret.ext c2 e2)
theorem pair1 {F : S → V → Prop} {s : S} {vs : List V} (h : Paired F [s] vs) : ∃ v, vs = [v] ∧ F s v := by
  cases h with
  | cons q t =>
    cases t
    exact ⟨_, rfl, q⟩
theorem pair2 {F : S → V → Prop} {s t : S} {vs : List V} (h : Paired F [s, t] vs) : ∃ v u, vs = [v, u] ∧ F s v ∧ F t u := by
  cases h with
  | cons q t =>
    obtain ⟨u, rfl, r⟩ := pair1 t
    exact ⟨_, _, rfl, q, r⟩
def uLen (K : PySem.W.Frag) : List V → Hp → VK → Prop := fun xs H Q => ∃ x n, xs = [x] ∧ LenV K x H n ∧ Q (.int n) H
theorem uc_len {X : Cx} : CallR X (.builtin "len") (uLen X.K) := call_len
theorem ap_len {s : S} {ds : List D} (h : seqG G L s = some ds) (k : Qd (.d (.int (ds.length : Nat))) G L) : ApC K (uLen K) [s] Δ G L Qd := fun w ls σ H vs c rs Q q => by
  obtain ⟨v, rfl, r⟩ := pair1 rs
  obtain ⟨a, xs, rfl, h1, q1⟩ := seqG_get c r h
  refine ⟨_, ds.length, rfl, ?_, q.go c Ext.refl (s := .d (.int (ds.length : Nat))) rfl k⟩
  rcases h1 with h1 | h1
  · exact .inl ⟨xs, h1, q1.length.symm⟩
  · exact .inr ⟨xs, h1, q1.length.symm⟩
theorem ap_lenS {z : Str} (hz : z.length ≤ sizeLine) (k : Qd (.d (.int (z.length : Nat))) G L) : ApC K (uLen K) [.d (.str z)] Δ G L Qd := fun w ls σ H vs c rs Q q => by
  obtain ⟨v, rfl, r⟩ := pair1 rs
  cases r
  exact ⟨_, z.length, rfl, ⟨hz, rfl⟩, q.go c Ext.refl (s := .d (.int (z.length : Nat))) rfl k⟩
/-- list(..) of a sequence, of a text -/
def rListQ (K : PySem.W.Frag) : List V → Hp → VK → Prop := fun xs H Q => ∃ p ys, xs = [.ref p] ∧ (SqL K H p ys ∨ SqT K H p ys) ∧ ∀ l, H l = none → Q (.ref l) (upd H l (.lst ys))
def signsV (z : Str) : List V := z.cps.toList.map fun c => V.str ⟨#[c]⟩
def signsD (z : Str) : List D := z.cps.toList.map fun c => D.str ⟨#[c]⟩
def rListS : List V → Hp → VK → Prop := fun xs H Q => ∃ z, xs = [.str z] ∧ z.length ≤ sizeLine ∧ ∀ l, H l = none → Q (.ref l) (upd H l (.lst (signsV z)))
theorem signs_vals {z : Str} {acc : Array Value} (h : ItemsOf (SignAt z) acc z.cps.size) : Vals (signsV z) acc.toList := by
  have key : ∀ (n : Nat) (cs : List Nat) (as : List Value), cs.length = as.length → (∀ (j : Nat) v, as[j]? = some v → ∃ c u, cs[j]? = some c ∧ v = .str ⟨#[c]⟩ u) → Vals (cs.map fun c => V.str ⟨#[c]⟩) as := by
    intro n cs
    induction cs with
    | nil =>
      intro as hl _
      cases as with
      | nil => exact .nil
      | cons _ _ => simp at hl
    | cons c cs ih =>
      intro as hl hp
      cases as with
      | nil => simp at hl
      | cons a as =>
        refine .cons ?_ (ih as (by simpa using hl) fun j v hv => ?_)
        · obtain ⟨c', u, h1, h2⟩ := hp 0 a rfl
          simp at h1
          subst h1
          exact ⟨u, h2⟩
        · have := hp (j + 1) v (by simpa using hv)
          simpa using this
  refine key 0 _ _ ?_ fun j v hv => ?_
  · rw [Array.length_toList, Array.length_toList, h.1]
  · obtain ⟨c, u, h1, h2⟩ := h.2 j v (by simpa using hv)
    exact ⟨c, u, by simpa using h1, h2⟩
theorem call_list_s {X : Cx} (hc : X.calm = true) : CallR X (.type "list") rListS := by
  intro pins s σ H xs us Q I r h
  obtain ⟨z, rfl, hz, q⟩ := h
  obtain ⟨u, rfl, t, rfl⟩ := vals1 r
  refine call_list_str (I.ok.hd hc) z t (fun h' tk acc' c' hk hS' hacc => ?_) hz
  have hv := signs_vals hacc
  refine ⟨.ref s.heap.objs.size, _, I.laid (t' := tk) hk (Nat.le_refl _) (show ObjOk X.prog X.w _ h' _ (.lst (signsV z)) from ⟨?_, acc'.toList, c', hv, by simpa using hS'⟩), rfl, q _ (I.hok.fresh (Nat.le_refl _))⟩
  unfold signsV
  rw [List.length_map]
  exact hz
def uList (K : PySem.W.Frag) : List V → Hp → VK → Prop := fun xs H Q => rListQ K xs H Q ∨ rListS xs H Q
theorem uc_list {X : Cx} (hc : X.calm = true) : CallR X (.type "list") (uList X.K) := CallR.or (r := rListQ X.K) call_list_of (call_list_s hc)
theorem ap_list {s : S} {ds : List D} (h : seqG G L s = some ds) (k : Qn (.pl ds) G L) : ApN K (uList K) [s] Δ G L Qn := fun w ls σ H vs c rs Q q => by
  obtain ⟨v, rfl, r⟩ := pair1 rs
  obtain ⟨a, xs, rfl, h1, q1⟩ := seqG_get c r h
  exact .inl ⟨a, xs, rfl, h1, fun l hl => q l _ _ _ _ hl (newAt_pl c hl q1) (Ext.new hl) k⟩
theorem repL_signs {H : Hp} {R : Addr → Prop} {z : Str} : RepL K H R (signsD z) (signsV z) := by
  unfold signsD signsV
  induction z.cps.toList with
  | nil => rfl
  | cons a r ih => exact ⟨_, _, rfl, rfl, ih⟩
theorem ap_listS {z : Str} (hz : z.length ≤ sizeLine) (k : Qn (.pl (signsD z)) G L) : ApN K (uList K) [.d (.str z)] Δ G L Qn := fun w ls σ H vs c rs Q q => by
  obtain ⟨v, rfl, r⟩ := pair1 rs
  cases r
  exact .inr ⟨z, rfl, hz, fun l hl => q l _ _ _ _ hl (newAt_pl c hl repL_signs) (Ext.new hl) k⟩
def uTuple (K : PySem.W.Frag) : List V → Hp → VK → Prop := fun xs H Q => ∃ p ys, xs = [.ref p] ∧ ((SqL K H p ys ∧ ∀ l, H l = none → Q (.ref l) (upd H l (.tup ys))) ∨ (SqT K H p ys ∧ Q (.ref p) H))
theorem uc_tuple {X : Cx} : CallR X (.type "tuple") (uTuple X.K) := call_tuple_of
theorem ap_tuple {s : S} {ds : List D} (h : lsG G L s = some ds) (k : Qd (.d (.tup ds)) G L) : ApC K (uTuple K) [s] Δ G L Qd := fun w ls σ H vs c rs Q q => by
  obtain ⟨v, rfl, r⟩ := pair1 rs
  obtain ⟨a, xs, rfl, h1, q1⟩ := lsG_get c r h
  exact ⟨a, xs, rfl, .inl ⟨.inl (.inl h1), fun l hl => q.go (c.new hl) (Ext.new hl) (s := .d (.tup ds)) (rep_tup c hl q1) k⟩⟩
theorem ap_sum {s : S} {ns : List Int} (h : seqG G L s = some (ns.map D.int)) (hs : ∀ ds, s ≠ .d (.tup ds)) (k : Qd (.d (.int ns.sum)) G L) : ApC K (rSum K) [s] Δ G L Qd := fun w ls σ H vs c rs Q q => by
  obtain ⟨v, rfl, r⟩ := pair1 rs
  have key : ∃ a, v = .ref a ∧ SqL K H a (ns.map V.int) := by
    unfold seqG at h
    split at h
    · exact absurd rfl (hs _)
    · rename_i ms
      have e : ms = ns := by
        have e := Option.some.inj h
        have inj : ∀ {xs ys : List Int}, xs.map D.int = ys.map D.int → xs = ys := by
          intro xs
          induction xs with
          | nil =>
            intro ys e
            cases ys with
            | nil => rfl
            | cons _ _ => cases e
          | cons x xs ih =>
            intro ys e
            cases ys with
            | nil => cases e
            | cons y ys =>
              injection e with e1 e2
              injection e1 with e1
              rw [e1, ih e2]
        exact inj e
      subst e
      obtain ⟨a, rfl, h1⟩ := r
      exact ⟨a, rfl, h1.sq⟩
    · obtain ⟨a, xs, rfl, h1, q1⟩ := lsG_get c r h
      have e := RepL.intsV q1
      subst e
      exact ⟨a, rfl, .inl (.inl h1)⟩
  obtain ⟨a, rfl, h1⟩ := key
  exact ⟨a, ns, rfl, h1, q.go c Ext.refl (s := .d (.int ns.sum)) rfl k⟩
def rInt1 : List V → Hp → VK → Prop := fun xs H Q => (∃ i, xs = [.int i] ∧ Q (.int i) H) ∨ ∃ k, xs = [.bl k] ∧ Q (.int (if k then 1 else 0)) H
theorem uc_int {X : Cx} : CallR X (.type "int") rInt1 := call_int1
theorem ap_int {i : Int} (k : Qd (.d (.int i)) G L) : ApC K rInt1 [.d (.int i)] Δ G L Qd := fun w ls σ H vs c rs Q q => by
  obtain ⟨v, rfl, r⟩ := pair1 rs
  cases r
  exact .inl ⟨i, rfl, q.go c Ext.refl (s := .d (.int i)) rfl k⟩
theorem ap_intB {b : Bool} (k : Qd (.d (.int (if b then 1 else 0))) G L) : ApC K rInt1 [.d (.bl b)] Δ G L Qd := fun w ls σ H vs c rs Q q => by
  obtain ⟨v, rfl, r⟩ := pair1 rs
  cases r
  exact .inr ⟨b, rfl, q.go c Ext.refl (s := .d (.int (if b then 1 else 0))) rfl k⟩

/-! ### slices -/
def SlC (K : PySem.W.Frag) (r : V → Option Int → Option Int → Hp → VK → Prop) (x : S) (lo hi : Option Int) (Δ : Sl) (G L : List M) (Qd : Po) : Prop :=
  ∀ w ls σ H vx, Ctx K w ls σ H Δ G L → RS K H (Rg w ls) w.gs ls x vx → ∀ Q, Ret K w ls σ Δ H Qd Q → r vx lo hi H Q
def SlN (K : PySem.W.Frag) (r : V → Option Int → Option Int → Hp → VK → Prop) (x : S) (lo hi : Option Int) (Δ : Sl) (G L : List M) (Qd : PoN) : Prop :=
  ∀ w ls σ H vx, Ctx K w ls σ H Δ G L → RS K H (Rg w ls) w.gs ls x vx → ∀ Q, RetN K w ls σ Δ H Qd Q → r vx lo hi H Q
def EvO (K : PySem.W.Frag) (to : TO) (Δ : Sl) (G L : List M) (Qo : Option Int → List M → List M → Prop) : Prop :=
  ∀ w ls σ H, Ctx K w ls σ H Δ G L → ∀ Q : Option Int → Hp → Prop, (∀ o H2 G2 L2, Ctx K w ls σ H2 Δ G2 L2 → Ext w ls H H2 → Qo o G2 L2 → Q o H2) → to σ H Q
theorem evo_none {Qo : Option Int → List M → List M → Prop} (k : Qo none G L) : EvO K tNoPart Δ G L Qo := fun w ls σ H c Q r => r none H G L c Ext.refl k
theorem evo_some {Qo : Option Int → List M → List M → Prop} (h : EvC K te Δ G L fun s G1 L1 => ∃ i, s = .d (.int i) ∧ Qo (some i) G1 L1) : EvO K (tPart te) Δ G L Qo := fun w ls σ H c Q r => h w ls σ H c _ fun v s H2 G2 L2 c2 e2 r2 ⟨i, e, k⟩ => by
  subst e
  exact ⟨i, r2, r (some i) H2 G2 L2 c2 e2 k⟩
theorem evc_sl {r : V → Option Int → Option Int → Hp → VK → Prop} {tl th : TO} (h : EvC K te Δ G L fun x G1 L1 => EvO K tl Δ G1 L1 fun lo G2 L2 => EvO K th Δ G2 L2 fun hi G3 L3 => SlC K r x lo hi Δ G3 L3 Qd) : EvC K (tSl r te tl th) Δ G L Qd :=
  fun w ls σ H c Q ret => h w ls σ H c _ fun v s H2 G2 L2 c2 e2 r2 h2 => h2 w ls σ H2 c2 _ fun lo H3 G3 L3 c3 e3 h3 => h3 w ls σ H3 c3 _ fun hi H4 G4 L4 c4 e4 h4 => h4 w ls σ H4 v c4 ((r2.on c2 e3).on c3 e4) Q (ret.ext (e2.trans (e3.trans e4)))
theorem evn_sl {r : V → Option Int → Option Int → Hp → VK → Prop} {tl th : TO} (h : EvC K te Δ G L fun x G1 L1 => EvO K tl Δ G1 L1 fun lo G2 L2 => EvO K th Δ G2 L2 fun hi G3 L3 => SlN K r x lo hi Δ G3 L3 Qn) : EvN K (tSl r te tl th) Δ G L Qn :=
  fun w ls σ H c Q ret => h w ls σ H c _ fun v s H2 G2 L2 c2 e2 r2 h2 => h2 w ls σ H2 c2 _ fun lo H3 G3 L3 c3 e3 h3 => h3 w ls σ H3 c3 _ fun hi H4 G4 L4 c4 e4 h4 => h4 w ls σ H4 v c4 ((r2.on c2 e3).on c3 e4) Q (ret.ext c4 (e2.trans (e3.trans e4)))
theorem sln_c {r : V → Option Int → Option Int → Hp → VK → Prop} {x : S} {lo hi : Option Int} (h : SlN K r x lo hi Δ G L fun m G1 L1 => ∃ x, m.dat = some x ∧ Qd (.d x) G1 L1) : SlC K r x lo hi Δ G L Qd :=
  fun w ls σ H vx c rx Q q => h w ls σ H vx c rx Q fun p m H2 G2 L2 _ n e ⟨x, hx, k⟩ => q.go n.c e (s := .d x) (n.dat x hx) k
def uSl (K : PySem.W.Frag) : V → Option Int → Option Int → Hp → VK → Prop := fun x lo hi H Q => rSlL K x lo hi H Q ∨ rSlS x lo hi H Q ∨ rSlA K x lo hi H Q
theorem us_sl {X : Cx} : SlR X (uSl X.K) := sl_list.or (sl_str.or sl_tupA)
def cutD (xs : List D) (lo hi : Option Int) : List D := (xs.drop (HT.sIx xs.length 0 lo)).take (HT.sIx xs.length xs.length hi - HT.sIx xs.length 0 lo)
theorem RepL.cut {H : Hp} {R : Addr → Prop} {ds : List D} {vs : List V} (r : RepL K H R ds vs) (lo hi : Option Int) : RepL K H R (cutD ds lo hi) (cutV vs lo hi) := by
  unfold cutD cutV
  rw [r.length]
  exact (r.drop _).take _
theorem sl_l {x : S} {ds : List D} {lo hi : Option Int} (h : lsG G L x = some ds) (k : Qn (.pl (cutD ds lo hi)) G L) : SlN K (uSl K) x lo hi Δ G L Qn := fun w ls σ H v c r Q q => by
  obtain ⟨a, xs, rfl, h1, q1⟩ := lsG_get c r h
  exact .inl ⟨a, xs, rfl, .inl (.inl h1), fun p hp => q p _ _ _ _ hp (newAt_pl c hp (q1.cut lo hi)) (Ext.new hp) k⟩
theorem sl_scr {ns : List Int} {lo hi : Option Int} (k : Qn (.pl (cutD (ns.map .int) lo hi)) G L) : SlN K (uSl K) (.d (.scr ns)) lo hi Δ G L Qn := fun w ls σ H v c r Q q => by
  obtain ⟨a, rfl, h1⟩ := r
  exact .inl ⟨a, _, rfl, h1.sq, fun p hp => q p _ _ _ _ hp (newAt_pl c hp (RepL.ints.cut lo hi)) (Ext.new hp) k⟩
theorem sl_s {z : Str} {lo hi : Option Int} (hz : z.length ≤ sizeLine) (k : Qd (.d (.str (cutS z lo hi))) G L) : SlC K (uSl K) (.d (.str z)) lo hi Δ G L Qd := fun w ls σ H v c r Q q =>
  .inr (.inl ⟨z, r, hz, q.go c Ext.refl (s := .d (.str (cutS z lo hi))) rfl k⟩)
theorem cutV_whole {xs : List V} {lo hi : Option Int} (h : HT.sIx xs.length 0 lo = 0 ∧ HT.sIx xs.length xs.length hi = xs.length) : cutV xs lo hi = xs := by
  unfold cutV
  rw [h.1, h.2, List.drop_zero, Nat.sub_zero, List.take_length]
theorem sl_t {ds : List D} {lo hi : Option Int} (k : Qd (.d (.tup (cutD ds lo hi))) G L) : SlC K (uSl K) (.d (.tup ds)) lo hi Δ G L Qd := fun w ls σ H v c r Q q => by
  obtain ⟨a, xs, rfl, h1, q1⟩ := r
  refine .inr (.inr ⟨a, xs, rfl, h1.sq, fun e => ?_, fun _ p hp => ?_⟩)
  · have q2 := q1.cut lo hi
    rw [cutV_whole e] at q2
    exact q.go c Ext.refl (s := .d (.tup (cutD ds lo hi))) ⟨a, xs, rfl, h1, q2⟩ k
  · exact q.go (c.new hp) (Ext.new hp) (s := .d (.tup (cutD ds lo hi))) (rep_tup c hp (q1.cut lo hi)) k
theorem repL_rev {H : Hp} {R : Addr → Prop} : ∀ {ds : List D} {vs : List V}, RepL K H R ds vs → RepL K H R ds.reverse vs.reverse
  | [], _, h => by
    cases h
    rfl
  | d :: ds, _, ⟨y, ys, e, h, r⟩ => by
    subst e
    rw [List.reverse_cons, List.reverse_cons]
    exact (repL_rev r).app (RepL.one h)
theorem evn_revL (h : EvC K te Δ G L fun x G1 L1 => ∃ ds, lsG G1 L1 x = some ds ∧ Qn (.pl ds.reverse) G1 L1) : EvN K (tRevL K te) Δ G L Qn := fun w ls σ H c Q ret => h w ls σ H c _ fun v s H2 G2 L2 c2 e2 r2 ⟨ds, hd, k⟩ => by
  obtain ⟨a, xs, rfl, h1, q1⟩ := lsG_get c2 r2 hd
  exact ⟨a, xs, rfl, .inl (.inl h1), fun p hp => ret p _ _ _ _ (none_back c2 e2 hp) (newAt_pl c2 hp (repL_rev q1)) (e2.trans (Ext.new hp)) k⟩

/-! ### subscripts of lists with handles, stores -/
def hlG (G L : List M) : S → Option (List S)
  | .l k => match L[k]? with
    | some (.hl ds) => some ds
    | some (.pl ds) => some (ds.map .d)
    | _ => none
  | .g k => match G[k]? with
    | some (.hl ds) => some ds
    | some (.pl ds) => some (ds.map .d)
    | _ => none
  | _ => none
theorem hlG_get {w : W} {ls : List Addr} {σ : L2.St} {H : Hp} {v : V} {s : S} {ds : List S} (c : Ctx K w ls σ H Δ G L) (r : RS K H (Rg w ls) w.gs ls s v) (h : hlG G L s = some ds) : ∃ a vs, v = .ref a ∧ H a = some (.lst vs) ∧ Paired (RS K H (Rg w ls) w.gs ls) ds vs := by
  unfold hlG at h
  split at h
  · rename_i k
    split at h
    · rename_i ds' hk
      cases h
      obtain ⟨a, ha, rfl⟩ := r
      obtain ⟨b, hb, vs, h1, q⟩ := paired_get c.lo hk
      rw [ha] at hb
      cases hb
      exact ⟨a, vs, rfl, h1, q⟩
    · rename_i ds' hk
      cases h
      obtain ⟨a, ha, rfl⟩ := r
      obtain ⟨b, hb, vs, h1, q⟩ := paired_get c.lo hk
      rw [ha] at hb
      cases hb
      exact ⟨a, vs, rfl, h1, repL_rs q⟩
    · cases h
  · rename_i k
    split at h
    · rename_i ds' hk
      cases h
      obtain ⟨a, ha, rfl⟩ := r
      obtain ⟨b, hb, vs, h1, q⟩ := paired_get c.gl hk
      rw [ha] at hb
      cases hb
      exact ⟨a, vs, rfl, h1, paired_map q fun _ _ _ z => z.grow (Grow.refl _ _) (Pre.refl _) (Pre.nil _)⟩
    · rename_i ds' hk
      cases h
      obtain ⟨a, ha, rfl⟩ := r
      obtain ⟨b, hb, vs, h1, q⟩ := paired_get c.gl hk
      rw [ha] at hb
      cases hb
      exact ⟨a, vs, rfl, h1, repL_rs q⟩
    · cases h
  · cases h
theorem atI_some {α : Type} {xs : List α} {i : Int} {x : α} (h : atI xs i = some x) : ∃ j, ixN xs.length i = some j ∧ xs[j]? = some x := by
  unfold atI at h
  cases e : ixN xs.length i with
  | none =>
    rw [e] at h
    cases h
  | some j =>
    rw [e] at h
    exact ⟨j, rfl, h⟩
theorem u_ix_h {x : S} {xs : List S} {i : Int} {s : S} (hx : hlG G L x = some xs) (hi : atI xs i = some s) (k : Qd s G L) : OpC K (rIx K) x (.d (.int i)) Δ G L Qd := fun w ls σ H vx vy c rx ry Q q => by
  obtain ⟨a, vs, rfl, h1, q1⟩ := hlG_get c rx hx
  obtain ⟨j, e, hj⟩ := atI_some hi
  obtain ⟨v, hv, r⟩ := paired_get_l q1 hj
  refine .inl ⟨a, vs, i, v, rfl, ry, .inl (.inl h1), ?_, q.go c Ext.refl r k⟩
  unfold atI
  rw [← paired_len q1, e]
  exact hv
theorem u_ix_g {x : S} {xs : List D} {i : Int} {d : D} (hx : seqG G L x = some xs) (hi : atI xs i = some d) (k : Qd (.d d) G L) : OpC K (rIx K) x (.d (.int i)) Δ G L Qd := fun w ls σ H vx vy c rx ry Q q => by
  obtain ⟨a, vs, rfl, h1, q1⟩ := seqG_get c rx hx
  obtain ⟨j, e, hj⟩ := atI_some hi
  obtain ⟨v, hv, r⟩ := q1.get hj
  have ha : atI vs i = some v := by
    unfold atI
    rw [q1.length, e]
    exact hv
  rcases h1 with h1 | h1
  · exact .inl ⟨a, vs, i, v, rfl, ry, h1, ha, q.go c Ext.refl (s := .d d) r k⟩
  · exact .inr (.inl ⟨a, vs, i, v, rfl, ry, h1, ha, q.go c Ext.refl (s := .d d) r k⟩)
/-- o[i] = v -/
def StoC (K : PySem.W.Frag) (r : TSet) (o i v : S) (Δ : Sl) (G L : List M) (Qt : List M → List M → Prop) : Prop :=
  ∀ w ls σ H vo vi vv, Ctx K w ls σ H Δ G L → RS K H (Rg w ls) w.gs ls o vo → RS K H (Rg w ls) w.gs ls i vi → RS K H (Rg w ls) w.gs ls v vv → ∀ Q : Hp → Prop,
    (∀ H2 G2 L2, Ctx K w ls σ H2 Δ G2 L2 → Ext w ls H H2 → Qt G2 L2 → Q H2) → r vo vi vv H Q
theorem tg_sub {to ti : TE} {t : TSet} {s : S} {Qt : PoT} {ok : Nat → Prop} (h : EvC K to Δ G L fun o G1 L1 => EvC K ti Δ G1 L1 fun i G2 L2 => StoC K t o i s Δ G2 L2 fun G3 L3 => Qt Δ G3 L3) : TgC K (gSub to ti t) ok s Δ G L Qt :=
  fun w ls σ H v c r Q q => h w ls σ H c _ fun vo o H2 G2 L2 c2 e2 r2 h2 => h2 w ls σ H2 c2 _ fun vi i H3 G3 L3 c3 e3 r3 h3 =>
    h3 w ls σ H3 vo vi v c3 (r2.on c2 e3) r3 ((r.on c e2).on c2 e3) _ fun H4 G4 L4 c4 e4 k => q σ H4 Δ G4 L4 c4 (e2.trans (e3.trans e4)) rfl (fun _ _ => rfl) k
theorem paired_setV {F : S → V → Prop} {ss : List S} {vs : List V} {j : Nat} {s : S} {v : V} (h : Paired F ss vs) (q : F s v) : Paired F (ss.set j s) (vs.set j v) := by
  induction h generalizing j with
  | nil => exact .nil
  | cons a t ih =>
    cases j with
    | zero => exact .cons q t
    | succ j => exact .cons a ih
theorem repL_set {H : Hp} {R : Addr → Prop} : ∀ {ds : List D} {vs : List V} {j : Nat} {d : D} {v : V}, RepL K H R ds vs → Rep K H R d v → RepL K H R (ds.set j d) (vs.set j v)
  | [], _, _, _, _, h, _ => by
    cases h
    rfl
  | _ :: _, _, 0, _, _, ⟨y, ys, e, h, r⟩, q => by
    subst e
    exact ⟨_, _, rfl, q, r⟩
  | _ :: _, _, j + 1, _, _, ⟨y, ys, e, h, r⟩, q => by
    subst e
    exact ⟨_, _, rfl, h, repL_set r q⟩
theorem sto_gh {k : Nat} {xs : List S} {i : Int} {j : Nat} {s : S} {Qt : List M → List M → Prop} (hx : G[k]? = some (.hl xs)) (hj : ixN xs.length i = some j) (hs : noL [s] = true) (q : Qt (G.set k (.hl (xs.set j s))) L) : StoC K rSetL (.g k) (.d (.int i)) s Δ G L Qt := fun w ls σ H vo vi vv c ro ri rv Q ret => by
  obtain ⟨a, ha, rfl⟩ := ro
  obtain ⟨b, hb, vs, h1, r⟩ := paired_get c.gl hx
  rw [ha] at hb
  cases hb
  cases ri
  have g : Grow H (upd H a (.lst (vs.set j vv))) (Rg w ls) (Rg w ls) := grow_upd (.inl (c.reg a (List.mem_of_getElem? ha)))
  obtain ⟨_, rv'⟩ := pair1 (noL_rs (ls' := []) hs (.cons rv .nil))
  refine ⟨a, vs, i, j, rfl, rfl, h1, by rw [← paired_len r]; exact hj, ret _ _ _ (c.setG (m := .hl _) ha ⟨_, upd_same, paired_map (paired_setV r ?_) fun _ _ _ z => z.grow g (Pre.refl _) (Pre.refl _)⟩) (Ext.setG (List.mem_of_getElem? ha)) q⟩
  obtain ⟨e, h⟩ := rv'
  cases e
  exact h
theorem sto_lp {k : Nat} {xs : List D} {i : Int} {j : Nat} {x : D} {Qt : List M → List M → Prop} (hx : L[k]? = some (.pl xs)) (hj : ixN xs.length i = some j) (q : Qt G (L.set k (.pl (xs.set j x)))) : StoC K rSetL (.l k) (.d (.int i)) (.d x) Δ G L Qt := fun w ls σ H vo vi vv c ro ri rv Q ret => by
  obtain ⟨a, ha, rfl⟩ := ro
  obtain ⟨b, hb, vs, h1, r⟩ := paired_get c.lo hx
  rw [ha] at hb
  cases hb
  cases ri
  have g : Grow H (upd H a (.lst (vs.set j vv))) (Rg w ls) (Rg w ls) := grow_upd (.inr (List.mem_of_getElem? ha))
  exact ⟨a, vs, i, j, rfl, rfl, h1, by rw [r.length]; exact hj, ret _ _ _ (c.setL (m := .pl _) ha ⟨_, upd_same, (repL_set r rv).grow g⟩) (Ext.setL (List.mem_of_getElem? ha)) q⟩

/-! ### methods -/
def MtC (K : PySem.W.Frag) (r : V → List V → Hp → VK → Prop) (x : S) (ss : List S) (Δ : Sl) (G L : List M) (Qd : Po) : Prop :=
  ∀ w ls σ H vx vs, Ctx K w ls σ H Δ G L → RS K H (Rg w ls) w.gs ls x vx → Paired (RS K H (Rg w ls) w.gs ls) ss vs → ∀ Q, Ret K w ls σ Δ H Qd Q → r vx vs H Q
def MtN (K : PySem.W.Frag) (r : V → List V → Hp → VK → Prop) (x : S) (ss : List S) (Δ : Sl) (G L : List M) (Qd : PoN) : Prop :=
  ∀ w ls σ H vx vs, Ctx K w ls σ H Δ G L → RS K H (Rg w ls) w.gs ls x vx → Paired (RS K H (Rg w ls) w.gs ls) ss vs → ∀ Q, RetN K w ls σ Δ H Qd Q → r vx vs H Q
theorem mtn_c {r : V → List V → Hp → VK → Prop} {x : S} {ss : List S} (h : MtN K r x ss Δ G L fun m G1 L1 => ∃ x, m.dat = some x ∧ Qd (.d x) G1 L1) : MtC K r x ss Δ G L Qd :=
  fun w ls σ H vx vs c rx rs Q q => h w ls σ H vx vs c rx rs Q fun p m H2 G2 L2 _ n e ⟨x, hx, k⟩ => q.go n.c e (s := .d x) (n.dat x hx) k
/-- the receiver is of the built-in type -/
def tyS (G L : List M) (T : String) (s : S) : Prop := (T = "list" ∧ ((∃ ds, lsG G L s = some ds) ∨ ∃ ds, hlG G L s = some ds)) ∨ (T = "str" ∧ ∃ z, s = .d (.str z))
theorem tyS_ok {w : W} {ls : List Addr} {σ : L2.St} {H : Hp} {T : String} {s : S} {v : V} (c : Ctx K w ls σ H Δ G L) (r : RS K H (Rg w ls) w.gs ls s v) (h : tyS G L T s) : tyV K T v H := by
  rcases h with ⟨rfl, ⟨ds, h⟩ | ⟨ds, h⟩⟩ | ⟨rfl, z, rfl⟩
  · obtain ⟨a, vs, rfl, h1, _⟩ := lsG_get c r h
    exact .inl ⟨rfl, vs, .inl (.inl h1)⟩
  · obtain ⟨a, vs, rfl, h1, _⟩ := hlG_get c r h
    exact .inl ⟨rfl, vs, .inl (.inl h1)⟩
  · cases r
    rfl
theorem evc_bm {T : String} {r : V → List V → Hp → VK → Prop} {to : TE} {t : TA} (h : EvC K to Δ G L fun x G1 L1 => tyS G1 L1 T x ∧ EvA K t Δ G1 L1 fun ss G2 L2 => MtC K r x ss Δ G2 L2 Qd) : EvC K (tBM K T r to t) Δ G L Qd :=
  fun w ls σ H c Q ret => h w ls σ H c _ fun v s H2 G2 L2 c2 e2 r2 ⟨ht, h2⟩ => ⟨tyS_ok c2 r2 ht, h2 w ls σ H2 c2 _ fun vs ss H3 G3 L3 c3 e3 r3 h3 => h3 w ls σ H3 v vs c3 (r2.on c2 e3) r3 Q (ret.ext (e2.trans e3))⟩
theorem evc_bm0 {T : String} {r : V → List V → Hp → VK → Prop} {to : TE} (h : EvC K to Δ G L fun x G1 L1 => tyS G1 L1 T x ∧ MtC K r x [] Δ G1 L1 Qd) : EvC K (tBM0 K T r to) Δ G L Qd :=
  fun w ls σ H c Q ret => h w ls σ H c _ fun v s H2 G2 L2 c2 e2 r2 ⟨ht, h2⟩ => ⟨tyS_ok c2 r2 ht, h2 w ls σ H2 v [] c2 r2 .nil Q (ret.ext e2)⟩
theorem evc_m0 {r : V → List V → Hp → VK → Prop} {to : TE} (h : EvC K to Δ G L fun x G1 L1 => (∃ z, x = .d (.str z)) ∧ MtC K r x [] Δ G1 L1 Qd) : EvC K (tM0 r to) Δ G L Qd :=
  fun w ls σ H c Q ret => h w ls σ H c _ fun v s H2 G2 L2 c2 e2 r2 ⟨⟨z, e⟩, h2⟩ => ⟨by subst e; exact ⟨z, r2⟩, h2 w ls σ H2 v [] c2 r2 .nil Q (ret.ext e2)⟩
theorem evc_m1 {r : V → List V → Hp → VK → Prop} {to ta : TE} (h : EvC K to Δ G L fun x G1 L1 => (∃ z, x = .d (.str z)) ∧ EvC K ta Δ G1 L1 fun y G2 L2 => MtC K r x [y] Δ G2 L2 Qd) : EvC K (tM1 r to ta) Δ G L Qd :=
  fun w ls σ H c Q ret => h w ls σ H c _ fun v s H2 G2 L2 c2 e2 r2 ⟨⟨z, e⟩, h2⟩ => ⟨by subst e; exact ⟨z, r2⟩, h2 w ls σ H2 c2 _ fun vs ss H3 G3 L3 c3 e3 r3 h3 => h3 w ls σ H3 v [vs] c3 (r2.on c2 e3) (.cons r3 .nil) Q (ret.ext (e2.trans e3))⟩
/-- the own list k, the store's list k: appended, popped -/
theorem mt_app_l {k : Nat} {ds : List D} {x : D} (h : L[k]? = some (.pl ds)) (hl : ds.length < sizeLine) (q : Qd (.d .non) G (L.set k (.pl (ds ++ [x])))) : MtC K rAppend (.l k) [.d x] Δ G L Qd := fun w ls σ H vo vs c ro rs Q ret => by
  obtain ⟨v, rfl, r⟩ := pair1 rs
  obtain ⟨a, ha, rfl⟩ := ro
  obtain ⟨b, hb, us, h1, r1⟩ := paired_get c.lo h
  rw [ha] at hb
  cases hb
  have g : Grow H (upd H a (.lst (us ++ [v]))) (Rg w ls) (Rg w ls) := grow_upd (.inr (List.mem_of_getElem? ha))
  exact ⟨a, us, v, rfl, rfl, h1, by rw [r1.length]; exact hl, ret.go (c.setL (m := .pl _) ha ⟨_, upd_same, (r1.app (RepL.one r)).grow g⟩) (Ext.setL (List.mem_of_getElem? ha)) (s := .d .non) rfl q⟩
theorem mt_app_g {k : Nat} {ds : List D} {x : D} (h : G[k]? = some (.pl ds)) (hl : ds.length < sizeLine) (q : Qd (.d .non) (G.set k (.pl (ds ++ [x]))) L) : MtC K rAppend (.g k) [.d x] Δ G L Qd := fun w ls σ H vo vs c ro rs Q ret => by
  obtain ⟨v, rfl, r⟩ := pair1 rs
  obtain ⟨a, ha, rfl⟩ := ro
  obtain ⟨b, hb, us, h1, r1⟩ := paired_get c.gl h
  rw [ha] at hb
  cases hb
  have g : Grow H (upd H a (.lst (us ++ [v]))) (Rg w ls) (Rg w ls) := grow_upd (.inl (c.reg a (List.mem_of_getElem? ha)))
  exact ⟨a, us, v, rfl, rfl, h1, by rw [r1.length]; exact hl, ret.go (c.setG (m := .pl _) ha ⟨_, upd_same, (r1.app (RepL.one r)).grow g⟩) (Ext.setG (List.mem_of_getElem? ha)) (s := .d .non) rfl q⟩
theorem repL_dropLast {H : Hp} {R : Addr → Prop} {ds : List D} {vs : List V} (r : RepL K H R ds vs) : RepL K H R ds.dropLast vs.dropLast := by
  rw [List.dropLast_eq_take, List.dropLast_eq_take, r.length]
  exact r.take _
theorem mt_pop_g {k : Nat} {ds : List D} {x : D} (h : G[k]? = some (.pl ds)) (hx : ds[ds.length - 1]? = some x) (q : Qd (.d x) (G.set k (.pl ds.dropLast)) L) : MtC K rPop (.g k) [] Δ G L Qd := fun w ls σ H vo vs c ro rs Q ret => by
  cases rs
  obtain ⟨a, ha, rfl⟩ := ro
  obtain ⟨b, hb, us, h1, r1⟩ := paired_get c.gl h
  rw [ha] at hb
  cases hb
  obtain ⟨y, hy, ry⟩ := r1.get hx
  have g : Grow H (upd H a (.lst us.dropLast)) (Rg w ls) (Rg w ls) := grow_upd (.inl (c.reg a (List.mem_of_getElem? ha)))
  exact ⟨a, us, y, rfl, rfl, h1, by rw [r1.length]; exact hy, ret.go (c.setG (m := .pl _) ha ⟨_, upd_same, (repL_dropLast r1).grow g⟩) (Ext.setG (List.mem_of_getElem? ha)) (s := .d x) (ry.grow g) q⟩
theorem repL_erase {H : Hp} {R : Addr → Prop} {ds : List D} {vs : List V} (r : RepL K H R ds vs) (j : Nat) : RepL K H R (ds.eraseIdx j) (vs.eraseIdx j) := by
  rw [List.eraseIdx_eq_take_drop_succ, List.eraseIdx_eq_take_drop_succ]
  exact (r.take _).app (r.drop _)
theorem mt_popAt_l {k j : Nat} {i : Int} {ds : List D} {x : D} (h : L[k]? = some (.pl ds)) (h0 : 0 ≤ i) (hi : i < 2 ^ 62) (hj : i.toNat = j) (hx : ds[j]? = some x) (q : Qd (.d x) G (L.set k (.pl (ds.eraseIdx j)))) : MtC K rPopAt (.l k) [.d (.int i)] Δ G L Qd := fun w ls σ H vo vs c ro rs Q ret => by
  obtain ⟨v, rfl, r⟩ := pair1 rs
  cases r
  obtain ⟨a, ha, rfl⟩ := ro
  obtain ⟨b, hb, us, h1, r1⟩ := paired_get c.lo h
  rw [ha] at hb
  cases hb
  obtain ⟨y, hy, ry⟩ := r1.get hx
  have g : Grow H (upd H a (.lst (us.eraseIdx j))) (Rg w ls) (Rg w ls) := grow_upd (.inr (List.mem_of_getElem? ha))
  have hjl : j < us.length := (List.getElem?_eq_some_iff.mp hy).1
  refine ⟨a, us, i, j, y, rfl, rfl, h1, by omega, by omega, ?_, hy, ret.go (c.setL (m := .pl _) ha ⟨_, upd_same, (repL_erase r1 j).grow g⟩) (Ext.setL (List.mem_of_getElem? ha)) (s := .d x) (ry.grow g) q⟩
  rw [seqIndex_of h0 (by omega), hj]
theorem mt_upper_d {z : Str} (hz : z.length ≤ 5592405) (k : Qd (.d (.str (Txt.upper z))) G L) : MtC K (fun x xs H Q => ∃ a, x = .str a ∧ xs = [] ∧ a.length ≤ 5592405 ∧ Q (.str (Txt.upper a)) H) (.d (.str z)) [] Δ G L Qd := fun w ls σ H vo vs c ro rs Q ret => by
  cases rs
  exact ⟨z, ro, rfl, hz, ret.go c Ext.refl (s := .d (.str (Txt.upper z))) rfl k⟩
end
end
end DL

namespace DL
open PySem PySem.Spec PyProof.Rows L2
section
variable {K : PySem.W.Frag}
/-! ### equality of data -/
mutual
def D.py : D → Option PyData
  | .non => some .none
  | .bl b => some (.bool b)
  | .int i => some (.int i)
  | .str x => some (.str x)
  | .tup ds => match pyL ds with
    | some xs => some (.tuple xs)
    | none => none
  | .lst ds => match pyL ds with
    | some xs => some (.list xs)
    | none => none
  | _ => none
def pyL : List D → Option (List PyData)
  | [] => some []
  | d :: ds => match d.py, pyL ds with
    | some x, some xs => some (x :: xs)
    | _, _ => none
end
mutual
theorem rep_dp {H : Hp} {R : Addr → Prop} : ∀ {d : D} {v : V} {p : PyData}, d.py = some p → Rep K H R d v → Dp K H v p
  | .non, _, _, e, h => by
    cases e
    cases h
    exact .non
  | .bl _, _, _, e, h => by
    cases e
    cases h
    exact .bl _
  | .int _, _, _, e, h => by
    cases e
    cases h
    exact .int _
  | .str _, _, _, e, h => by
    cases e
    cases h
    exact .str _
  | .tup ds, _, _, e, ⟨a, xs, e1, h, r⟩ => by
    unfold D.py at e
    split at e
    · rename_i ps hp
      cases e
      subst e1
      exact .tup h.sq (repL_dp hp r)
    · cases e
  | .lst ds, _, _, e, ⟨a, xs, e1, ⟨h, _⟩, r⟩ => by
    unfold D.py at e
    split at e
    · rename_i ps hp
      cases e
      subst e1
      exact .lst (.inl (.inl h)) (repL_dp hp r)
    · cases e
  | .ty _, _, _, e, _ => by cases e
  | .ref _, _, _, e, _ => by cases e
  | .scr _, _, _, e, _ => by cases e
  | .dct _, _, _, e, _ => by cases e
  | .ins _ _, _, _, e, _ => by cases e
theorem repL_dp {H : Hp} {R : Addr → Prop} : ∀ {ds : List D} {vs : List V} {ps : List PyData}, pyL ds = some ps → RepL K H R ds vs → DpAll K H vs ps
  | [], _, _, e, h => by
    cases e
    cases h
    exact .nil
  | d :: ds, _, _, e, ⟨y, ys, e1, h, r⟩ => by
    unfold pyL at e
    split at e
    · rename_i p ps hp hps
      cases e
      subst e1
      exact .cons (rep_dp hp h) (repL_dp hps r)
    · cases e
end
/-- a slot's value as data -/
def valG (G L : List M) : S → Option D
  | .d x => some x
  | .l k => match L[k]? with
    | some (.pl ds) => some (.lst ds)
    | _ => none
  | .g k => match G[k]? with
    | some (.pl ds) => some (.lst ds)
    | _ => none
theorem valG_dp {w : W} {ls : List Addr} {σ : L2.St} {H : Hp} {Δ : Sl} {G L : List M} {v : V} {s : S} {x : D} {p : PyData} (c : Ctx K w ls σ H Δ G L) (r : RS K H (Rg w ls) w.gs ls s v) (h : valG G L s = some x) (hp : x.py = some p) : Dp K H v p := by
  unfold valG at h
  split at h
  · cases h
    exact rep_dp hp r
  · rename_i k
    split at h
    · rename_i ds hk
      cases h
      have q : lsG G L (.l k) = some ds := by
        simp only [lsG, hk]
      obtain ⟨a, vs, rfl, h1, r1⟩ := lsG_get c r q
      unfold D.py at hp
      split at hp
      · rename_i ps hps
        cases hp
        exact .lst (.inl (.inl h1)) (repL_dp hps r1)
      · cases hp
    · cases h
  · rename_i k
    split at h
    · rename_i ds hk
      cases h
      have q : lsG G L (.g k) = some ds := by
        simp only [lsG, hk]
      obtain ⟨a, vs, rfl, h1, r1⟩ := lsG_get c r q
      unfold D.py at hp
      split at hp
      · rename_i ps hps
        cases hp
        exact .lst (.inl (.inl h1)) (repL_dp hps r1)
      · cases hp
    · cases h
def uEq (K : PySem.W.Frag) : R2 := fun x y H Q => rEq x y H Q ∨ rEqD K x y H Q
def uNe (K : PySem.W.Frag) : R2 := fun x y H Q => rNe x y H Q ∨ rNeD K x y H Q
theorem uo_eq {X : Cx} (hu : X.A.units + 64 < cLine) : OpR X (compareOp .Eq) (uEq X.K) := op_eq.or (op_eqD hu)
theorem uo_ne {X : Cx} (hu : X.A.units + 64 < cLine) : OpR X (compareOp .NotEq) (uNe X.K) := op_ne.or (op_neD hu)
section
variable {Δ : Sl} {G L : List M} {Qd : Po}
theorem u_eq_i {i j : Int} (k : Qd (.d (.bl (decide (i = j)))) G L) : OpC K (uEq K) (.d (.int i)) (.d (.int j)) Δ G L Qd := fun w ls σ H vx vy c rx ry Q q => by
  cases rx
  cases ry
  refine .inl ⟨rfl, ?_⟩
  have e : decide (V.int i = V.int j) = decide (i = j) := by simp
  rw [e]
  exact q.go c Ext.refl (s := .d (.bl (decide (i = j)))) rfl k
theorem u_ne_i {i j : Int} (k : Qd (.d (.bl (!decide (i = j)))) G L) : OpC K (uNe K) (.d (.int i)) (.d (.int j)) Δ G L Qd := fun w ls σ H vx vy c rx ry Q q => by
  cases rx
  cases ry
  refine .inl ⟨rfl, ?_⟩
  have e : decide (V.int i = V.int j) = decide (i = j) := by simp
  rw [e]
  exact q.go c Ext.refl (s := .d (.bl (!decide (i = j)))) rfl k
theorem u_eq_s {i j : Str} (k : Qd (.d (.bl (decide (i = j)))) G L) : OpC K (uEq K) (.d (.str i)) (.d (.str j)) Δ G L Qd := fun w ls σ H vx vy c rx ry Q q => by
  cases rx
  cases ry
  refine .inl ⟨rfl, ?_⟩
  have e : decide (V.str i = V.str j) = decide (i = j) := by simp
  rw [e]
  exact q.go c Ext.refl (s := .d (.bl (decide (i = j)))) rfl k
theorem u_ne_s {i j : Str} (k : Qd (.d (.bl (!decide (i = j)))) G L) : OpC K (uNe K) (.d (.str i)) (.d (.str j)) Δ G L Qd := fun w ls σ H vx vy c rx ry Q q => by
  cases rx
  cases ry
  refine .inl ⟨rfl, ?_⟩
  have e : decide (V.str i = V.str j) = decide (i = j) := by simp
  rw [e]
  exact q.go c Ext.refl (s := .d (.bl (!decide (i = j)))) rfl k
theorem u_eq_d {x y : S} {a b : D} {p q : PyData} (hx : valG G L x = some a) (hy : valG G L y = some b) (hp : a.py = some p) (hq : b.py = some q) (sp : SeqAt.shaped p = true) (sq : SeqAt.shaped q = true) (k : Qd (.d (.bl (PyData.eqv p q))) G L) : OpC K (uEq K) x y Δ G L Qd := fun w ls σ H vx vy c rx ry Q ret =>
  .inr ⟨p, q, valG_dp c rx hx hp, valG_dp c ry hy hq, sp, sq, ret.go c Ext.refl (s := .d (.bl (PyData.eqv p q))) rfl k⟩
theorem u_ne_d {x y : S} {a b : D} {p q : PyData} (hx : valG G L x = some a) (hy : valG G L y = some b) (hp : a.py = some p) (hq : b.py = some q) (sp : SeqAt.shaped p = true) (sq : SeqAt.shaped q = true) (k : Qd (.d (.bl (!PyData.eqv p q))) G L) : OpC K (uNe K) x y Δ G L Qd := fun w ls σ H vx vy c rx ry Q ret =>
  .inr ⟨p, q, valG_dp c rx hx hp, valG_dp c ry hy hq, sp, sq, ret.go c Ext.refl (s := .d (.bl (!PyData.eqv p q))) rfl k⟩
theorem py_ints : ∀ ns : List Int, pyL (ns.map D.int) = some (ns.map PyData.int)
  | [] => rfl
  | n :: ns => by
    show (match (D.int n).py, pyL (ns.map D.int) with
      | some x, some xs => some (x :: xs)
      | _, _ => none) = _
    rw [py_ints ns]
    rfl
theorem py_strs : ∀ ns : List Str, pyL (ns.map D.str) = some (ns.map PyData.str)
  | [] => rfl
  | n :: ns => by
    show (match (D.str n).py, pyL (ns.map D.str) with
      | some x, some xs => some (x :: xs)
      | _, _ => none) = _
    rw [py_strs ns]
    rfl
theorem canLay_ints : ∀ ns : List Int, PyData.canLayAll0 (ns.map PyData.int) = true
  | [] => rfl
  | n :: ns => by
    show (PyData.canLay0 (.int n) && PyData.canLayAll0 (ns.map PyData.int)) = true
    rw [canLay_ints ns]
    rfl
theorem depth_ints : ∀ ns : List Int, PyData.depthAll (ns.map PyData.int) ≤ 1
  | [] => by simp [PyData.depthAll]
  | n :: ns => by
    have := depth_ints ns
    simp only [List.map_cons, PyData.depthAll, PyData.depth]
    omega
theorem shaped_ints (ns : List Int) : SeqAt.shaped (.list (ns.map PyData.int)) = true := by
  have h := depth_ints ns
  unfold SeqAt.shaped
  rw [Bool.and_eq_true]
  refine ⟨canLay_ints ns, decide_eq_true ?_⟩
  simp only [PyData.depth]
  omega
theorem shaped_nil : SeqAt.shaped (.list []) = true := by decide
theorem lsG_val {s : S} {ds : List D} (h : lsG G L s = some ds) : valG G L s = some (.lst ds) := by
  unfold lsG at h
  split at h
  · cases h
    rfl
  · split at h
    · rename_i hk
      cases h
      simp only [valG, hk]
    · cases h
  · split at h
    · rename_i hk
      cases h
      simp only [valG, hk]
    · cases h
  · cases h
/-- == [] , != [] of a list of ints -/
theorem u_ne_nil {x y : S} {ns : List Int} (hx : lsG G L x = some (ns.map D.int)) (hy : lsG G L y = some []) (k : Qd (.d (.bl (!ns.isEmpty))) G L) : OpC K (uNe K) x y Δ G L Qd := by
  have e : PyData.eqv (.list (ns.map PyData.int)) (.list []) = ns.isEmpty := by
    cases ns <;> rfl
  refine u_ne_d (lsG_val hx) (lsG_val hy) (by unfold D.py; rw [py_ints]) (by rfl) (shaped_ints ns) shaped_nil ?_
  rw [e]
  exact k
theorem u_eq_nil {x y : S} {ns : List Int} (hx : lsG G L x = some (ns.map D.int)) (hy : lsG G L y = some []) (k : Qd (.d (.bl ns.isEmpty)) G L) : OpC K (uEq K) x y Δ G L Qd := by
  have e : PyData.eqv (.list (ns.map PyData.int)) (.list []) = ns.isEmpty := by
    cases ns <;> rfl
  refine u_eq_d (lsG_val hx) (lsG_val hy) (by unfold D.py; rw [py_ints]) (by rfl) (shaped_ints ns) shaped_nil ?_
  rw [e]
  exact k
/-! membership: ints in ints, texts in texts -/
def uIn (K : PySem.W.Frag) (neg : Bool) : R2 := fun x y H Q => rIn K neg x y H Q ∨ ∃ (c : Nat) (z : Str), x = .str ⟨#[c]⟩ ∧ y = .str z ∧ Q (.bl (if neg then !decide (c ∈ z.cps.toList) else decide (c ∈ z.cps.toList))) H
theorem uo_in {X : Cx} : OpR X (compareOp .In) (uIn X.K false) := op_in_seq.or op_in_sign
theorem uo_nin {X : Cx} : OpR X (compareOp .NotIn) (uIn X.K true) := op_notIn_seq.or op_notIn_sign
theorem flat_ints (ns : List Int) : (ns.map V.int).all flatV = true := by
  rw [List.all_map, List.all_eq_true]
  intro x _
  rfl
theorem flat_strs (ns : List Str) : (ns.map V.str).all flatV = true := by
  rw [List.all_map, List.all_eq_true]
  intro x _
  rfl
theorem inV_ints {i : Int} {ns : List Int} : inV (.int i) (ns.map V.int) = decide (i ∈ ns) := by
  unfold inV
  induction ns with
  | nil => rfl
  | cons a r ih =>
    rw [List.map_cons, List.any_cons, ih]
    have : eqV (.int a) (.int i) = decide (i = a) := by
      show (a == i) = decide (i = a)
      by_cases h : a = i
      · subst h
        rw [decide_eq_true rfl]
        exact beq_self_eq_true a
      · rw [decide_eq_false (fun z => h z.symm)]
        exact beq_eq_false_iff_ne.mpr h
    rw [this, Bool.eq_iff_iff]
    simp only [Bool.or_eq_true, decide_eq_true_eq, List.mem_cons]
theorem inV_strs {i : Str} {ns : List Str} : inV (.str i) (ns.map V.str) = decide (i ∈ ns) := by
  unfold inV
  induction ns with
  | nil => rfl
  | cons a r ih =>
    rw [List.map_cons, List.any_cons, ih]
    have : eqV (.str a) (.str i) = decide (i = a) := by
      show (a == i) = decide (i = a)
      by_cases h : a = i
      · subst h
        rw [decide_eq_true rfl]
        exact beq_self_eq_true a
      · rw [decide_eq_false (fun z => h z.symm)]
        exact beq_eq_false_iff_ne.mpr h
    rw [this, Bool.eq_iff_iff]
    simp only [Bool.or_eq_true, decide_eq_true_eq, List.mem_cons]
theorem u_in_i {neg : Bool} {i : Int} {y : S} {ns : List Int} (hy : seqG G L y = some (ns.map D.int)) (k : Qd (.d (.bl (if neg then !decide (i ∈ ns) else decide (i ∈ ns)))) G L) : OpC K (uIn K neg) (.d (.int i)) y Δ G L Qd := fun w ls σ H vx vy c rx ry Q q => by
  cases rx
  obtain ⟨a, vs, rfl, h1, q1⟩ := seqG_get c ry hy
  have e := RepL.intsV q1
  subst e
  refine .inl ⟨a, _, rfl, h1, rfl, flat_ints ns, ?_⟩
  rw [inV_ints]
  exact q.go c Ext.refl (s := .d (.bl (if neg then !decide (i ∈ ns) else decide (i ∈ ns)))) rfl k
theorem u_in_s {neg : Bool} {i : Str} {y : S} {ns : List Str} (hy : seqG G L y = some (ns.map D.str)) (k : Qd (.d (.bl (if neg then !decide (i ∈ ns) else decide (i ∈ ns)))) G L) : OpC K (uIn K neg) (.d (.str i)) y Δ G L Qd := fun w ls σ H vx vy c rx ry Q q => by
  cases rx
  obtain ⟨a, vs, rfl, h1, q1⟩ := seqG_get c ry hy
  have e := RepL.strsV q1
  subst e
  refine .inl ⟨a, _, rfl, h1, rfl, flat_strs ns, ?_⟩
  rw [inV_strs]
  exact q.go c Ext.refl (s := .d (.bl (if neg then !decide (i ∈ ns) else decide (i ∈ ns)))) rfl k
theorem u_in_c {neg : Bool} {ch : Nat} {z : Str} (k : Qd (.d (.bl (if neg then !decide (ch ∈ z.cps.toList) else decide (ch ∈ z.cps.toList)))) G L) : OpC K (uIn K neg) (.d (.str ⟨#[ch]⟩)) (.d (.str z)) Δ G L Qd := fun w ls σ H vx vy c rx ry Q q =>
  .inr ⟨ch, z, rx, ry, q.go c Ext.refl (s := .d (.bl (if neg then !decide (ch ∈ z.cps.toList) else decide (ch ∈ z.cps.toList)))) rfl k⟩
end
end
end DL

namespace DL
open PySem PySem.Spec PyProof.Rows L2
/-! ### walks over a list, a tuple or a text -/
def iSeq (K : PySem.W.Frag) (tl : TE) : TI := fun σ H R => tl σ H fun x H1 => (∃ a, x = .ref a ∧ (∃ xs, SqL K H1 a xs) ∧ R (Itl K a) H1) ∨ (∃ a, x = .ref a ∧ (∃ xs, SqT K H1 a xs) ∧ R (Itt K a) H1) ∨ (∃ z, x = .str z ∧ R (Its z) H1)
theorem pi_seq {X : Cx} {tg l : Expr} {tl : TE} (hl : PE X l tl) : PI X tg l (iSeq X.K tl) := by
  refine ⟨fun pins s σ H R I h => ?_⟩
  refine thn (hl.run pins s σ H _ I h) fun v s1 ⟨x, H1, I1, r1, q1⟩ => ?_
  rcases q1 with ⟨a, e, ⟨xs, hq⟩, q⟩ | ⟨a, e, ⟨xs, hq⟩, q⟩ | ⟨z, e, q⟩
  · subst e
    cases r1
    obtain ⟨its, rv, p, hz⟩ := I1.list hq
    refine wpAny_pyIter_list p.isList ?_
    refine ⟨s1.heap.objs.size, [s1.heap.objs.size], _, _, H1, rfl, I1.kept (t' := s1.toks) fun b o e => Heap.get?_push_of_some _ e, turn_list a _, ⟨_, Heap.get?_push_size _ rfl, rfl, rfl⟩, fun b hb => ?_, q⟩
    have e : b = s1.heap.objs.size := by simpa using hb
    subst e
    exact I1.fpOk (Nat.le_refl _) (I1.hok.fresh (Nat.le_refl _))
  · subst e
    cases r1
    obtain ⟨its, rv, p, hz⟩ := I1.tuple hq
    refine wpAny_pyIter_tuple (show s1.heap.IsTuple a its.toArray from p) ?_
    refine ⟨s1.heap.objs.size, [s1.heap.objs.size], _, _, H1, rfl, I1.kept (t' := s1.toks) fun b o e => Heap.get?_push_of_some _ e, turn_tuple a _, ⟨_, Heap.get?_push_size _ rfl, rfl, rfl⟩, fun b hb => ?_, q⟩
    have e : b = s1.heap.objs.size := by simpa using hb
    subst e
    exact I1.fpOk (Nat.le_refl _) (I1.hok.fresh (Nat.le_refl _))
  · subst e
    obtain ⟨t, rfl⟩ := r1
    cases ha : z.cps.all (· < 128)
    · exact wpAny_pyIter_wide ha (pi_one (tk := s1.toks) I1 _ (turn_str _ z t "str_iterator" (.inr rfl)) ⟨_, Heap.get?_push_size _ rfl, rfl, rfl⟩ q)
    · exact wpAny_pyIter_ascii ha (pi_one (tk := s1.toks) I1 _ (turn_str _ z t "str_ascii_iterator" (.inl rfl)) ⟨_, Heap.get?_push_size _ rfl, rfl, rfl⟩ q)
section
variable {K : PySem.W.Frag} {Δ : Sl} {G L : List M} {Qd : Po} {te : TE}
/-- what is walked, as data -/
def itD : D → Option (List D)
  | .lst ds => some ds
  | .tup ds => some ds
  | .scr ns => some (ns.map .int)
  | .str z => some (signsD z)
  | _ => none
theorem evi_seq {tl : TE} {Qi : List D → List M → List M → Prop} (h : EvC K tl Δ G L fun s G1 L1 => ∃ d ds, s = .d d ∧ itD d = some ds ∧ Qi ds G1 L1) : EvI K (iSeq K tl) Δ G L Qi := fun w ls σ H c R q =>
  h w ls σ H c _ fun v s H2 G2 L2 c2 e2 r2 ⟨d, ds, e, hd, k⟩ => by
    subst e
    unfold itD at hd
    split at hd
    · cases hd
      obtain ⟨a, vs, rfl, ⟨h1, n1⟩, r1⟩ := r2
      refine .inl ⟨a, rfl, ⟨vs, .inl (.inl h1)⟩, q _ H2 _ G2 L2 c2 e2 ⟨fun H3 w2 ls2 σ2 Δ2 G3 L3 i d g c3 hi => ?_, fun H3 w2 ls2 g => ?_⟩ k⟩
      · obtain ⟨x, hx, rx⟩ := (r1.grow g).get hi
        have h3 := g.keep a _ h1 n1
        refine ⟨⟨vs, x, .inl (.inl h3), hx⟩, fun y H' ⟨hH, hy⟩ => ?_⟩
        subst hH
        have e := hy vs (.inl (.inl h3))
        rw [hx] at e
        cases e
        exact ⟨c3, Ext.refl, rx⟩
      · exact ⟨vs, .inl (.inl (g.keep a _ h1 n1)), Nat.le_of_eq r1.length⟩
    · cases hd
      obtain ⟨a, vs, rfl, h1, r1⟩ := r2
      refine .inr (.inl ⟨a, rfl, ⟨vs, h1.sq⟩, q _ H2 _ G2 L2 c2 e2 ⟨fun H3 w2 ls2 σ2 Δ2 G3 L3 i d g c3 hi => ?_, fun H3 w2 ls2 g => ?_⟩ k⟩)
      · obtain ⟨x, hx, rx⟩ := (r1.grow g).get hi
        have h3 := (h1.grow g).sq
        refine ⟨⟨vs, x, h3, hx⟩, fun y H' ⟨hH, hy⟩ => ?_⟩
        subst hH
        have e := hy vs h3
        rw [hx] at e
        cases e
        exact ⟨c3, Ext.refl, rx⟩
      · exact ⟨vs, (h1.grow g).sq, Nat.le_of_eq r1.length⟩
    · rename_i ns _hh
      cases hd
      obtain ⟨a, rfl, h1⟩ := r2
      refine .inl ⟨a, rfl, ⟨_, h1.sq⟩, q _ H2 _ G2 L2 c2 e2 ⟨fun H3 w2 ls2 σ2 Δ2 G3 L3 i d g c3 hi => ?_, fun H3 w2 ls2 g => ?_⟩ k⟩
      · have h3 := (h1.grow g).sq
        obtain ⟨x, hx, rx⟩ := (RepL.ints (K := K) (H := H3) (R := Rg w2 ls2)).get hi
        refine ⟨⟨_, x, h3, hx⟩, fun y H' ⟨hH, hy⟩ => ?_⟩
        subst hH
        have e := hy _ h3
        rw [hx] at e
        cases e
        exact ⟨c3, Ext.refl, rx⟩
      · exact ⟨_, (h1.grow g).sq, by rw [List.length_map, List.length_map]; exact Nat.le_refl _⟩
    · rename_i z _hh
      cases hd
      cases r2
      have hsz : (signsD z).length = z.cps.size := by
        unfold signsD
        rw [List.length_map, Array.length_toList]
      refine .inr (.inr ⟨z, rfl, q _ H2 _ G2 L2 c2 e2 ⟨fun H3 w2 ls2 σ2 Δ2 G3 L3 i d g c3 hi => ?_, fun H3 w2 ls2 g => by show z.cps.size ≤ _; rw [hsz]; exact Nat.le_refl _⟩ k⟩)
      have hlt := (List.getElem?_eq_some_iff.mp hi).1
      rw [hsz] at hlt
      refine ⟨hlt, fun y H' ⟨hH, c, hc, hy⟩ => ?_⟩
      subst hH
      subst hy
      refine ⟨c3, Ext.refl, ?_⟩
      unfold signsD at hi
      rw [List.getElem?_map, Array.getElem?_toList, hc] at hi
      cases hi
      rfl
    · cases hd
/-! texts times ints -/
theorem fold_size {α : Type} (b : Array α) : ∀ (n : Nat) (a : Array α), ((List.replicate n b).foldl (· ++ ·) a).size = a.size + b.size * n
  | 0, a => by simp
  | n + 1, a => by
    rw [List.replicate_succ, List.foldl_cons, fold_size b n, Array.size_append, Nat.mul_succ]
    omega
def strRep (z : Str) (n : Nat) : Str := ⟨(List.replicate n z.cps).foldl (· ++ ·) #[]⟩
def rRepS : R2 := fun x y H Q => ∃ (z : Str) (n : Int), x = .str z ∧ y = .int n ∧ 1 < n ∧ n < 2 ^ 24 ∧ 0 < z.length ∧ z.length < 2 ^ 24 ∧ z.length * n.toNat ≤ 2 ^ 24 ∧ Q (.str (strRep z n.toNat)) H
theorem op_repS {X : Cx} : OpR X (binaryOp .Mult) rRepS := by
  intro pins s σ H x y v u Q I rx ry h
  obtain ⟨z, n, rfl, rfl, h1, h2, h3, h4, h5, q⟩ := h
  obtain ⟨t, rfl⟩ := rx
  obtain ⟨t', rfl⟩ := ry
  have e1 : (n == 1 || z.length == 0) = false := by
    rw [Bool.or_eq_false_iff]
    exact ⟨beq_eq_false_iff_ne.mpr (by omega), beq_eq_false_iff_ne.mpr (by omega)⟩
  refine P.mul_str ?_ (fun _ _ => ?_) (fun _ _ => ?_) ?_
  · rw [decide_eq_false (by omega), decide_eq_false (by omega)]
    rfl
  · intro hh
    have : (2 ^ 63 - 1 : Int) / n ≥ 2 ^ 24 := by
      refine Int.le_ediv_of_mul_le (by omega) ?_
      have : n < 2 ^ 24 := h2
      omega
    omega
  · show decide (z.length * n.toNat > sizeLine) = false
    have : sizeLine = 2 ^ 24 := rfl
    exact decide_eq_false (by omega)
  · rw [if_neg (by omega), if_neg (by rw [e1]; exact Bool.false_ne_true)]
    refine ⟨?_, ⟨.str _, H, I.tok _, ⟨_, rfl⟩, q⟩⟩
    show ((List.replicate n.toNat z.cps).foldl (· ++ ·) #[]).size ≤ sizeLine
    rw [fold_size]
    have : sizeLine = 2 ^ 24 := rfl
    have h5 : z.cps.size * n.toNat ≤ 2 ^ 24 := h5
    rw [this]
    simpa using h5
end
section
variable {K : PySem.W.Frag} {Δ : Sl} {G L : List M} {E : EndsD}
/-- return [a new object, ..] -/
theorem st_ret2 {t0 : TE} {ts : TA} (h : EvN K t0 Δ G L fun m0 G1 L1 => EvA K ts Δ G1 (L1 ++ [m0]) fun ss G2 L2 => ss.length + 1 ≤ sizeLine ∧ E.rt (.l L2.length) G2 (L2 ++ [.hl (.l L1.length :: ss)])) : StC K (tRet (tLst (tCons t0 ts))) Δ G L E := fun w ls σ H c D s =>
  h w ls σ H c _ fun p m H2 G2 L2 hp n e2 k => k w (ls ++ [p]) σ H2 n.own _ fun vs ss H3 G3 L3 c3 e3 r3 ⟨hl, k3⟩ => by
    have hlen : ls.length = L2.length := paired_len n.c.lo
    have hp1 : (ls ++ [p])[L2.length]? = some p := by
      rw [← hlen, List.getElem?_append_right (Nat.le_refl _), Nat.sub_self]
      rfl
    refine ⟨by rw [List.length_cons, paired_len' r3]; exact hl, fun q hq => ?_⟩
    have n2 := newAt_hl (xs := .l L2.length :: ss) c3 hq (.cons ⟨p, hp1, rfl⟩ r3)
    refine s.rt (ls ++ [p] ++ [q]) σ _ Δ G3 _ (.ref q) (.l L3.length) n2.own ⟨q, ?_, rfl⟩ k3
    rw [← paired_len c3.lo, List.getElem?_append_right (Nat.le_refl _), Nat.sub_self]
    rfl
end
/-- the law's own promise, from the script -/
theorem law_sp {K : PySem.W.Frag} {sp : DSpec} {H : Hp} {a : Addr} {ns : List Int} {E : XK} (h : sp [.d (.scr ns)] [] (fun r _ => r = .v (.d (.bl true)))) (hS : SqL K H a (ns.map V.int)) : spD K sp [.ref a] H (fun v _ => v = .bl true) E := by
  refine ⟨⟨fun _ => False, [], H⟩, [.d (.scr ns)], [], _, rfl, ⟨fun _ h => (by cases h), fun _ h => h.elim, List.nodup_nil, fun _ h => (by cases h), fun a o h _ => h, ⟨rfl, fun i s e => by simp at e⟩, .nil, .nil⟩, .cons ⟨a, rfl, ?_⟩ .nil, h, ?_, ?_⟩
  · rcases hS with h | h
    · exact .inl ⟨h, fun r => r.elim (fun z => z) (fun z => by cases z)⟩
    · exact .inr (.inr h)
  · intro v s H' G' c r e
    cases e
    exact r
  · intro ps k p ms H' G' c hp e
    cases e
end DL
namespace DL
open PySem PySem.Spec PyProof.Rows L2
theorem iteTT {A B : Prop} (h : A) : if true = true then A else B := by
  rw [if_pos rfl]
  exact h
theorem iteFF {A B : Prop} (h : B) : if false = true then A else B := by
  rw [if_neg Bool.false_ne_true]
  exact h
theorem iteD {p : Prop} [Decidable p] {A B : Prop} (h1 : p → A) (h2 : ¬ p → B) : if decide p = true then A else B := by
  by_cases h : p
  · rw [decide_eq_true h]
    exact iteTT (h1 h)
  · rw [decide_eq_false h]
    exact iteFF (h2 h)
theorem iteND {p : Prop} [Decidable p] {A B : Prop} (h1 : ¬ p → A) (h2 : p → B) : if (!decide p) = true then A else B := by
  by_cases h : p
  · rw [decide_eq_true h]
    exact iteFF (h2 h)
  · rw [decide_eq_false h]
    exact iteTT (h1 h)
theorem iteB {b : Bool} {A B : Prop} (h1 : b = true → A) (h2 : b = false → B) : if b = true then A else B := by
  cases b with
  | true => exact iteTT (h1 rfl)
  | false => exact iteFF (h2 rfl)
end DL
namespace DL
open PySem PySem.Spec PyProof.Rows L2
section
variable {G L : List M} {k : Nat} {xs : List S} {ds : List D}
theorem hlG_g (h : G[k]? = some (.hl xs)) : hlG G L (.g k) = some xs := by
  simp only [hlG, h]
theorem hlG_gp (h : G[k]? = some (.pl ds)) : hlG G L (.g k) = some (ds.map .d) := by
  simp only [hlG, h]
theorem lsG_g (h : G[k]? = some (.pl ds)) : lsG G L (.g k) = some ds := by
  simp only [lsG, h]
theorem lsG_l (h : L[k]? = some (.pl ds)) : lsG G L (.l k) = some ds := by
  simp only [lsG, h]
theorem seqG_g (h : G[k]? = some (.pl ds)) : seqG G L (.g k) = some ds := lsG_g (L := L) h
theorem seqG_l (h : L[k]? = some (.pl ds)) : seqG G L (.l k) = some ds := lsG_l (G := G) h
theorem tyS_g (h : G[k]? = some (.pl ds)) : tyS G L "list" (.g k) := .inl ⟨rfl, .inl ⟨_, lsG_g h⟩⟩
theorem tyS_l (h : L[k]? = some (.pl ds)) : tyS G L "list" (.l k) := .inl ⟨rfl, .inl ⟨_, lsG_l h⟩⟩
theorem set_at {α : Type} {l : List α} {k : Nat} {x y : α} (h : l[k]? = some y) : (l.set k x)[k]? = some x := by
  rw [List.getElem?_set_self (List.getElem?_eq_some_iff.mp h).1]
theorem set_off {α : Type} {l : List α} {k j : Nat} {x : α} (h : j ≠ k) : (l.set k x)[j]? = l[j]? := List.getElem?_set_ne (Ne.symm h)
theorem set_same {α : Type} {l : List α} {k : Nat} {x : α} (h : l[k]? = some x) : l.set k x = l := by
  refine List.ext_getElem? fun i => ?_
  by_cases e : i = k
  · subst e
    rw [set_at h, h]
  · rw [set_off e]
theorem set_comm {α : Type} {l : List α} {k j : Nat} {x y : α} (h : k ≠ j) : (l.set k x).set j y = (l.set j y).set k x := List.set_comm x y h
theorem set_set {α : Type} {l : List α} {k : Nat} {x y : α} : (l.set k x).set k y = l.set k y := List.set_set ..
end
end DL
namespace DL
open PySem PySem.Spec PyProof.Rows L2
section
variable {K : PySem.W.Frag} {Δ : Sl} {G L : List M} {Qd : Po} {Qn : PoN}
theorem evc_varX {i : Nat} (h : ∃ s, Δ[i]? = some (some s) ∧ Qd s G L) : EvC K (tVar i) Δ G L Qd := let ⟨_, e, k⟩ := h; evc_var e k
theorem u_ix_hX {x : S} {i : Int} (h : ∃ xs, hlG G L x = some xs ∧ ∃ s, atI xs i = some s ∧ Qd s G L) : OpC K (rIx K) x (.d (.int i)) Δ G L Qd := let ⟨_, e, _, e2, k⟩ := h; u_ix_h e e2 k
theorem u_ix_gX {x : S} {i : Int} (h : ∃ xs, seqG G L x = some xs ∧ ∃ d, atI xs i = some d ∧ Qd (.d d) G L) : OpC K (rIx K) x (.d (.int i)) Δ G L Qd := let ⟨_, e, _, e2, k⟩ := h; u_ix_g e e2 k
theorem ap_lenX {s : S} (h : ∃ ds, seqG G L s = some ds ∧ Qd (.d (.int (ds.length : Nat))) G L) : ApC K (uLen K) [s] Δ G L Qd := let ⟨_, e, k⟩ := h; ap_len e k
theorem ap_listX {s : S} (h : ∃ ds, seqG G L s = some ds ∧ Qn (.pl ds) G L) : ApN K (uList K) [s] Δ G L Qn := let ⟨_, e, k⟩ := h; ap_list e k
theorem ap_tupleX {s : S} (h : ∃ ds, lsG G L s = some ds ∧ Qd (.d (.tup ds)) G L) : ApC K (uTuple K) [s] Δ G L Qd := let ⟨_, e, k⟩ := h; ap_tuple e k
theorem u_ne_nilX {x y : S} (h : lsG G L y = some [] ∧ ∃ ns : List Int, lsG G L x = some (ns.map D.int) ∧ Qd (.d (.bl (!ns.isEmpty))) G L) : OpC K (uNe K) x y Δ G L Qd := let ⟨hy, _, hx, k⟩ := h; u_ne_nil hx hy k
theorem u_eq_nilX {x y : S} (h : lsG G L y = some [] ∧ ∃ ns : List Int, lsG G L x = some (ns.map D.int) ∧ Qd (.d (.bl ns.isEmpty)) G L) : OpC K (uEq K) x y Δ G L Qd := let ⟨hy, _, hx, k⟩ := h; u_eq_nil hx hy k
end
end DL
namespace DL
open PySem PySem.Spec PyProof.Rows L2
theorem le_line {n : Nat} (h : n ≤ 100000) : n ≤ sizeLine := Nat.le_trans h (by decide)
theorem lt_line {n : Nat} (h : n ≤ 100000) : n < sizeLine := Nat.lt_of_le_of_lt h (by decide)
section
variable {K : PySem.W.Frag} {Δ : Sl} {G L : List M} {E : EndsD} {t u : TS}
/-- a word between two statements -/
theorem st_mid (P : Sl → List M → List M → Prop) (h : StC K t Δ G L { E with nx := P }) (k : ∀ Δ' G' L', P Δ' G' L' → StC K u Δ' G' L' E) : StC K (tSeq t u) Δ G L E := fun w ls σ H c D s =>
  h w ls σ H c _ ⟨fun ls' σ' H' Δ' G' L' c' g' p => k Δ' G' L' p w ls' σ' H' c' D (s.on g'), s.rt, s.bk, s.ct⟩
end
end DL
namespace DL
open PySem PySem.Spec PyProof.Rows L2
section
variable {K : PySem.W.Frag} {Δ : Sl} {G L : List M} {Qd : Po}
theorem opc_powL (i j : Int) (n : Nat) {z : Int} (hj : j = (n : Int)) (hn : n ≤ 1000000) (hi : i.natAbs < 2 ^ 64) (e : i ^ n = z) (k : Qd (.d (.int z)) G L) : OpC K (rI CPow fun i j => .int (i ^ j.toNat)) (.d (.int i)) (.d (.int j)) Δ G L Qd := by
  subst hj
  subst e
  exact opc_Ii (g := fun i j => i ^ j.toNat) ⟨by omega, by omega, hi⟩ k
theorem pow10_6 (k : Qd (.d (.int 1000000)) G L) : OpC K (rI CPow fun i j => .int (i ^ j.toNat)) (.d (.int 10)) (.d (.int 6)) Δ G L Qd := opc_powL 10 6 6 rfl (by decide) (by decide) (by decide +kernel) k
theorem pow10_9 (k : Qd (.d (.int 1000000000)) G L) : OpC K (rI CPow fun i j => .int (i ^ j.toNat)) (.d (.int 10)) (.d (.int 9)) Δ G L Qd := opc_powL 10 9 9 rfl (by decide) (by decide) (by decide +kernel) k
theorem pow10_12 (k : Qd (.d (.int 1000000000000)) G L) : OpC K (rI CPow fun i j => .int (i ^ j.toNat)) (.d (.int 10)) (.d (.int 12)) Δ G L Qd := opc_powL 10 12 12 rfl (by decide) (by decide) (by decide +kernel) k
theorem pow10_15 (k : Qd (.d (.int 1000000000000000)) G L) : OpC K (rI CPow fun i j => .int (i ^ j.toNat)) (.d (.int 10)) (.d (.int 15)) Δ G L Qd := opc_powL 10 15 15 rfl (by decide) (by decide) (by decide +kernel) k
theorem pow10_18 (k : Qd (.d (.int 1000000000000000000)) G L) : OpC K (rI CPow fun i j => .int (i ^ j.toNat)) (.d (.int 10)) (.d (.int 18)) Δ G L Qd := opc_powL 10 18 18 rfl (by decide) (by decide) (by decide +kernel) k
theorem pow10_39 (k : Qd (.d (.int 1000000000000000000000000000000000000000)) G L) : OpC K (rI CPow fun i j => .int (i ^ j.toNat)) (.d (.int 10)) (.d (.int 39)) Δ G L Qd := opc_powL 10 39 39 rfl (by decide) (by decide) (by decide +kernel) k
end
end DL
namespace DL
open PySem PySem.Spec PyProof.Rows L2
theorem mulL {i j : Int} (h1 : -(2 ^ 64) < i) (h2 : i < 2 ^ 64) : CMul i j := Or.inl ⟨h1, h2⟩
theorem mulR {i j : Int} (h1 : -(2 ^ 64) < j) (h2 : j < 2 ^ 64) : CMul i j := Or.inr ⟨h1, h2⟩
theorem divW {i j : Int} (h1 : 0 < j) (h2 : j < 2 ^ 64) : CDivW i j := wide_div (b := 64) h1 (by omega) (by decide) (by decide)
end DL
namespace DL
open PySem PySem.Spec PyProof.Rows L2
theorem cutD_map {α : Type} (f : α → D) (xs : List α) (lo hi : Option Int) : ∃ ys : List α, cutD (xs.map f) lo hi = ys.map f ∧ ys.length ≤ xs.length ∧ ∀ y ∈ ys, y ∈ xs := by
  unfold cutD
  rw [List.length_map]
  refine ⟨(xs.drop (HT.sIx xs.length 0 lo)).take (HT.sIx xs.length xs.length hi - HT.sIx xs.length 0 lo), by rw [List.map_take, List.map_drop], ?_, fun y hy => List.mem_of_mem_drop (List.mem_of_mem_take hy)⟩
  rw [List.length_take, List.length_drop]
  omega
theorem get_map {α : Type} {f : α → D} {xs : List α} {i : Nat} {d : D} (h : (xs.map f)[i]? = some d) : ∃ x, x ∈ xs ∧ d = f x := by
  rw [List.getElem?_map] at h
  cases e : xs[i]? with
  | none =>
    rw [e] at h
    cases h
  | some x =>
    rw [e] at h
    exact ⟨x, List.mem_of_getElem? e, (Option.some.inj h).symm⟩
end DL
namespace DL
open PySem PySem.Spec PyProof.Rows L2
section
variable {K : PySem.W.Frag} {Δ : Sl} {G L : List M} {Qn : PoN} {wi : TI} {g : TG} {tt : TT} {te : TE} {vs : List Nat}
/-- a comprehension that changes nothing: what it keeps, what it makes of it -/
theorem evn_lcF (keep : D → Bool) (val : D → D) (h : EvI K wi Δ G L fun items G1 L1 => items.length < sizeLine ∧
    (∀ d ∈ items, TgC K g (· ∈ vs) (.d d) (wipeD Δ vs) G1 L1 fun Δ2 G2 L2 => EvB K tt Δ2 G2 L2 fun b G3 L3 => b = keep d ∧ (b = true → EvC K te Δ2 G3 L3 fun s G4 L4 => s = .d (val d) ∧ G4 = G1 ∧ L4 = L1) ∧ (b = false → G3 = G1 ∧ L3 = L1)) ∧
    Qn (.pl ((items.filter keep).map val)) G1 L1) : EvN K (tLc wi g tt te vs) Δ G L Qn := by
  refine evn_lc fun w ls σ H c R q => h w ls σ H c R fun J H1 items G1 L1 c1 e1 it ⟨hz, hs, hq⟩ => q J H1 items G1 L1 c1 e1 it ?_
  refine ⟨fun i acc G' L' => G' = G1 ∧ L' = L1 ∧ acc = ((items.take i).filter keep).map val, ⟨rfl, rfl, by rw [List.take_zero]; rfl⟩, hz, ?_, ?_⟩
  · rintro i d acc G' L' hd _ ⟨rfl, rfl, rfl⟩
    have hi := (List.getElem?_eq_some_iff.mp hd).1
    have e : items.take (i + 1) = items.take i ++ [d] := by
      rw [List.take_succ, hd]
      rfl
    intro w ls σ H v c r Q k
    refine hs d (List.mem_of_getElem? hd) w ls σ H v c r Q fun σ' H' Δ' G2 L2 c' e' l' o' hb => k σ' H' Δ' G2 L2 c' e' l' o' ?_
    intro w ls σ H c Q k
    refine hb w ls σ H c Q fun b H' G3 L3 c' e' ⟨h1, h2, h3⟩ => k b H' G3 L3 c' e' ?_
    cases b with
    | true =>
      refine iteTT ((h2 rfl).imp fun s G4 L4 ⟨h4, h5, h6⟩ => ⟨val d, h4, h5, h6, ?_⟩)
      rw [e, List.filter_append, List.map_append, List.filter_cons, if_pos h1.symm]
      rfl
    | false =>
      obtain ⟨h4, h5⟩ := h3 rfl
      refine iteFF ⟨h4, h5, ?_⟩
      rw [e, List.filter_append, List.map_append, List.filter_cons, if_neg (by rw [← h1]; decide)]
      exact (List.append_nil _).symm
  · rintro acc G' L' ⟨rfl, rfl, rfl⟩
    rw [List.take_length]
    exact hq
end
theorem filter_yes {α : Type} (xs : List α) : xs.filter (fun _ => true) = xs := List.filter_eq_self.mpr fun _ _ => rfl
end DL
namespace DL
open PySem PySem.Spec PyProof.Rows L2
theorem atI_of {α : Type} {xs : List α} {i : Int} {j : Nat} {x : α} (h : xs[j]? = some x) (e : i = (j : Int)) : atI xs i = some x := by
  subst e
  have hj := (List.getElem?_eq_some_iff.mp h).1
  unfold atI ixN
  rw [if_pos (by omega), if_pos (by omega)]
  exact h
theorem atI_to {α : Type} {xs : List α} {i : Int} (h0 : 0 ≤ i) (h1 : i < (xs.length : Nat)) : ∃ x, x ∈ xs ∧ atI xs i = some x := by
  have hj : i.toNat < xs.length := by omega
  exact ⟨xs[i.toNat], List.getElem_mem hj, atI_of (j := i.toNat) (List.getElem?_eq_getElem hj) (by omega)⟩
end DL

namespace DL
open PySem PySem.Spec PyProof.Rows L2
/-! ### dicts of the top, with texts as keys -/
def DLit (K : PySem.W.Frag) (w : World) (a : Addr) (ks : List (Str × V)) : Prop := ∃ es n, K.lookup a = some ⟨.type "dict", none, .dict es n, #[]⟩ ∧ (a == sysModules) = false ∧
  Paired (fun (e : DictEntry) (p : Str × V) => (∃ t, e.key = .str p.1 t) ∧ e.hash = PyData.keyHash w.params p.1 ∧ RelV p.2 e.val) es.toList ks
theorem dlit_keys {w : World} : ∀ {es : List DictEntry} {ks : List (Str × V)}, Paired (fun (e : DictEntry) (p : Str × V) => (∃ t, e.key = .str p.1 t) ∧ e.hash = PyData.keyHash w.params p.1 ∧ RelV p.2 e.val) es ks → PySem.W.KeysLit w.params es
  | _, _, .nil => trivial
  | _, _, .cons ⟨⟨t, h1⟩, h2, _⟩ r => ⟨⟨_, t, h1, h2⟩, dlit_keys r⟩
theorem dlit_find {w : World} {z : Str} : ∀ {es : List DictEntry} {ks : List (Str × V)}, Paired (fun (e : DictEntry) (p : Str × V) => (∃ t, e.key = .str p.1 t) ∧ e.hash = PyData.keyHash w.params p.1 ∧ RelV p.2 e.val) es ks →
    es.any (·.refKey) = false ∧ (match ks.find? (fun p => p.1 == z) with
      | some p => ∃ e, es.find? (·.key.isStr z) = some e ∧ RelV p.2 e.val
      | none => es.find? (·.key.isStr z) = none)
  | _, _, .nil => ⟨rfl, rfl⟩
  | _, _, .cons (a := e) (b := p) ⟨⟨t, h1⟩, h2, h3⟩ r => by
    obtain ⟨i1, i2⟩ := dlit_find (z := z) r
    have hk : e.key.isStr z = (p.1 == z) := by
      rw [h1]
      rfl
    refine ⟨?_, ?_⟩
    · rw [List.any_cons, i1]
      have : e.refKey = false := by
        unfold DictEntry.refKey
        rw [h1]
      rw [this]
      rfl
    · rw [List.find?_cons, List.find?_cons, hk]
      cases (p.1 == z) with
      | true => exact ⟨e, rfl, h3⟩
      | false => exact i2
def dGet (ks : List (Str × V)) (z : Str) : Option V := (ks.find? (fun p => p.1 == z)).map (·.2)
theorem DLit.get {K : PySem.W.Frag} {w : World} {a : Addr} {ks : List (Str × V)} (h : DLit K w a ks) {z : Str} {v : V} (e : dGet ks z = some v) : KDct K w a z v := by
  obtain ⟨es, n, h1, h2, h3⟩ := h
  obtain ⟨h4, h5⟩ := dlit_find (z := z) h3
  unfold dGet at e
  cases hf : ks.find? (fun p => p.1 == z) with
  | none =>
    rw [hf] at e
    cases e
  | some p =>
    rw [hf] at e h5
    cases e
    obtain ⟨en, h6, h7⟩ := h5
    refine ⟨es, n, en.val, h1, dlit_keys h3, ?_, h7⟩
    unfold PySem.W.nsIn
    rw [h1]
    show (match es.toList.find? (·.key.isStr z) with
      | some e => some (some e.val)
      | none => if es.toList.any (·.refKey) then none else some none) = _
    rw [h6]
theorem DLit.miss {K : PySem.W.Frag} {w : World} {a : Addr} {ks : List (Str × V)} (h : DLit K w a ks) {z : Str} (e : dGet ks z = none) : KMiss K w a z := by
  obtain ⟨es, n, h1, h2, h3⟩ := h
  obtain ⟨h4, h5⟩ := dlit_find (z := z) h3
  unfold dGet at e
  cases hf : ks.find? (fun p => p.1 == z) with
  | some p =>
    rw [hf] at e
    cases e
  | none =>
    rw [hf] at h5
    have h5 : es.toList.find? (·.key.isStr z) = none := h5
    refine ⟨es, n, h1, dlit_keys h3, h2, ?_⟩
    unfold PySem.W.nsIn
    rw [h1]
    show (match es.toList.find? (·.key.isStr z) with
      | some e => some (some e.val)
      | none => if es.toList.any (·.refKey) then none else some none) = _
    rw [h5]
    show (if es.toList.any (·.refKey) = true then none else some none) = _
    rw [h4]
    rfl
/-- a value of the top as data: an int, a text, an address -/
def litD : V → Option D
  | .non => some .non
  | .bl b => some (.bl b)
  | .int i => some (.int i)
  | .str x => some (.str x)
  | .ref a => some (.ref a)
  | .ty n => some (.ty n)
  | _ => none
theorem litD_rep {K : PySem.W.Frag} {H : Hp} {R : Addr → Prop} : ∀ {v : V} {d : D}, litD v = some d → Rep K H R d v
  | .non, _, e => by cases e; rfl
  | .bl _, _, e => by cases e; rfl
  | .int _, _, e => by cases e; rfl
  | .str _, _, e => by cases e; rfl
  | .ref _, _, e => by cases e; rfl
  | .ty _, _, e => by cases e; rfl
  | .byt _, _, e => by cases e
  | .flt _, _, e => by cases e
section
variable {K : PySem.W.Frag} {Δ : Sl} {G L : List M} {E : EndsD} {ta tb : TE}
/-- try: return C[x] except KeyError: suite -/
theorem st_tryKey {w : World} {c : Value} {ts : Addr → Value → Option Addr → TS} {Wo : WX} (h : EvC K ta Δ G L fun x G1 L1 => EvC K tb Δ G1 L1 fun y G2 L2 => ∃ p z ks, x = .d (.ref p) ∧ y = .d (.str z) ∧ DLit K w p ks ∧ PySem.W.exmOne K (.type "KeyError") c = some true ∧
    (match dGet ks z with
      | some v => ∃ d, litD v = some d ∧ E.rt (.d d) G2 L2
      | none => ∀ a d, StC K (ts a (.type "KeyError") d) Δ G2 L2 E)) : StC K (fun D σ H => tRet (tIxDX K w (wOnly K c ts Wo D) ta tb) D σ H) Δ G L E := fun wd ls σ H cx D s => h wd ls σ H cx _ fun v x H2 G2 L2 c2 e2 r2 k => k wd ls σ H2 c2 _ fun v3 y H3 G3 L3 c3 e3 r3 ⟨p, z, ks, ex, ey, hd, hx, kk⟩ => by
  subst ex
  subst ey
  cases r3
  have r2 : v = .ref p := r2
  refine ⟨p, z, r2, rfl, ?_⟩
  cases hg : dGet ks z with
  | some v =>
    rw [hg] at kk
    obtain ⟨d, hl, k⟩ := kk
    exact .inl ⟨v, hd.get hg, s.rt ls σ H3 Δ G3 L3 v (.d d) c3 (litD_rep hl) k⟩
  | none =>
    rw [hg] at kk
    exact .inr ⟨hd.miss hg, fun d => ⟨true, hx, fun _ a ha => kk a d wd ls σ H3 c3 D (s.on ((e2.trans e3).grow cx.reg)), fun q => by cases q⟩⟩
end
end DL
namespace DL
open PySem PySem.Spec PyProof.Rows L2
section
variable {K : PySem.W.Frag} {Δ : Sl} {G L : List M} {Qd : Po}
/-! forgetting what a text is, keeping its length -/
theorem u_add_sF {i j : Str} (hl : i.length + j.length ≤ 100000) (k : ∀ z : Str, z.length = i.length + j.length → Qd (.d (.str z)) G L) : OpC K (uAdd K) (.d (.str i)) (.d (.str j)) Δ G L Qd :=
  u_add_s (le_line hl) (k _ (PySem.Str.length_append i j))
theorem sl_sF {z : Str} {lo hi : Option Int} (hl : z.length ≤ 100000) (k : ∀ y : Str, y.length ≤ z.length → Qd (.d (.str y)) G L) : SlC K (uSl K) (.d (.str z)) lo hi Δ G L Qd :=
  sl_s (le_line hl) (k _ (cutS_length z lo hi))
theorem mt_upperF {z : Str} (hl : z.length ≤ 100000) (k : ∀ y : Str, y.length ≤ 3 * z.length → Qd (.d (.str y)) G L) : MtC K (fun x xs H Q => ∃ a, x = .str a ∧ xs = [] ∧ a.length ≤ 5592405 ∧ Q (.str (Txt.upper a)) H) (.d (.str z)) [] Δ G L Qd :=
  mt_upper_d (by omega) (k _ (PyProof.Rows.len_upper z))
theorem ap_lenSF {z : Str} (hl : z.length ≤ 100000) (k : Qd (.d (.int (z.length : Nat))) G L) : ApC K (uLen K) [.d (.str z)] Δ G L Qd := ap_lenS (le_line hl) k
/-- an item somewhere -/
theorem u_ix_all {x : S} {i : Int} (h : ∃ ds, seqG G L x = some ds ∧ 0 ≤ i ∧ i < (ds.length : Nat) ∧ ∀ d ∈ ds, Qd (.d d) G L) : OpC K (rIx K) x (.d (.int i)) Δ G L Qd := by
  obtain ⟨ds, hx, h0, h1, k⟩ := h
  obtain ⟨d, hd, e⟩ := atI_to h0 h1
  exact u_ix_g hx e (k d hd)
theorem st_is {E E' : EndsD} {t : TS} (h : StC K t Δ G L E) (e : E = E') : StC K t Δ G L E' := e ▸ h
end
end DL
namespace DL
open PySem PySem.Spec PyProof.Rows L2
section
variable {K : PySem.W.Frag} {Δ : Sl} {G L : List M} {Qd : Po} {Qn : PoN}
theorem u_add_lX {x y : S} (h : ∃ xs, lsG G L x = some xs ∧ ∃ ys, lsG G L y = some ys ∧ xs.length + ys.length ≤ sizeLine ∧ Qn (.pl (xs ++ ys)) G L) : OpN K (uAdd K) x y Δ G L Qn :=
  let ⟨_, hx, _, hy, hl, k⟩ := h; u_add_l hx hy hl k
theorem u_mul_lX {x : S} {j : Int} (h : ∃ xs, lsG G L x = some xs ∧ (0 ≤ j ∧ j < 2 ^ 62 ∧ xs.length * j.toNat ≤ sizeLine) ∧ Qn (.pl (List.replicate j.toNat xs).flatten) G L) : OpN K (uMul K) x (.d (.int j)) Δ G L Qn :=
  let ⟨_, hx, ⟨h0, h1, hl⟩, k⟩ := h; u_mul_l hx (by omega) (by omega) hl k
end
end DL
namespace DL
open PySem PySem.Spec PyProof.Rows L2
section
variable {K : PySem.W.Frag} {Δ : Sl} {G L : List M} {Qd : Po} {Qn : PoN}
theorem u_add_sR (m : Nat) {i j : Str} (hm : j.length = m) (hl : i.length + m ≤ 100000) (k : ∀ z : Str, z.length = i.length + m → Qd (.d (.str z)) G L) : OpC K (uAdd K) (.d (.str i)) (.d (.str j)) Δ G L Qd :=
  u_add_sF (by omega) fun z h => k z (by omega)
theorem u_add_sLm (m : Nat) {i j : Str} (hm : i.length = m) (hl : m + j.length ≤ 100000) (k : ∀ z : Str, z.length = m + j.length → Qd (.d (.str z)) G L) : OpC K (uAdd K) (.d (.str i)) (.d (.str j)) Δ G L Qd :=
  u_add_sF (by omega) fun z h => k z (by omega)
end
end DL
namespace DL
open PySem PySem.Spec PyProof.Rows L2
section
variable {K : PySem.W.Frag} {Δ : Sl} {G L : List M} {Qd : Po} {Qn : PoN}
theorem mt_popAtX {k : Nat} {i : Int} (h : ∃ ds, L[k]? = some (.pl ds) ∧ 0 ≤ i ∧ i < (ds.length : Nat) ∧ i < 2 ^ 62 ∧ ∀ j x, j < ds.length → ds[j]? = some x → Qd (.d x) G (L.set k (.pl (ds.eraseIdx j)))) : MtC K rPopAt (.l k) [.d (.int i)] Δ G L Qd := by
  obtain ⟨ds, hk, h0, h1, h2, q⟩ := h
  have hj : i.toNat < ds.length := by omega
  exact mt_popAt_l hk h0 h2 rfl (List.getElem?_eq_getElem hj) (q _ _ hj (List.getElem?_eq_getElem hj))
theorem mt_app_lX {k : Nat} {x : D} (h : ∃ ds, L[k]? = some (.pl ds) ∧ ds.length < sizeLine ∧ Qd (.d .non) G (L.set k (.pl (ds ++ [x])))) : MtC K rAppend (.l k) [.d x] Δ G L Qd := let ⟨_, h, hl, q⟩ := h; mt_app_l h hl q
theorem mt_app_gX {k : Nat} {x : D} (h : ∃ ds, G[k]? = some (.pl ds) ∧ ds.length < sizeLine ∧ Qd (.d .non) (G.set k (.pl (ds ++ [x]))) L) : MtC K rAppend (.g k) [.d x] Δ G L Qd := let ⟨_, h, hl, q⟩ := h; mt_app_g h hl q
end
end DL
namespace DL
theorem erase_map {α β : Type} (f : α → β) (xs : List α) (j : Nat) : (xs.map f).eraseIdx j = (xs.eraseIdx j).map f := by
  rw [List.eraseIdx_eq_take_drop_succ, List.eraseIdx_eq_take_drop_succ, List.map_append, List.map_take, List.map_drop]
theorem erase_len {α : Type} {xs : List α} {j : Nat} (h : j < xs.length) : (xs.eraseIdx j).length + 1 = xs.length := by
  rw [List.length_eraseIdx, if_pos h]
  omega
theorem erase_mem {α : Type} {xs : List α} {j : Nat} {x : α} (h : x ∈ xs.eraseIdx j) : x ∈ xs := List.mem_of_mem_eraseIdx h
end DL
namespace DL
open PySem PySem.Spec PyProof.Rows L2
section
variable {K : PySem.W.Frag} {Δ : Sl} {G L : List M} {Qd : Po} {Qn : PoN}
theorem u_in_iX {i : Int} {y : S} (h : ∃ ns : List Int, seqG G L y = some (ns.map D.int) ∧ Qd (.d (.bl (decide (i ∈ ns)))) G L) : OpC K (uIn K false) (.d (.int i)) y Δ G L Qd := let ⟨_, hy, k⟩ := h; u_in_i hy k
theorem u_in_sX {i : Str} {y : S} (h : ∃ ns : List Str, seqG G L y = some (ns.map D.str) ∧ Qd (.d (.bl (decide (i ∈ ns)))) G L) : OpC K (uIn K false) (.d (.str i)) y Δ G L Qd := let ⟨_, hy, k⟩ := h; u_in_s hy k
theorem u_nin_iX {i : Int} {y : S} (h : ∃ ns : List Int, seqG G L y = some (ns.map D.int) ∧ Qd (.d (.bl (!decide (i ∈ ns)))) G L) : OpC K (uIn K true) (.d (.int i)) y Δ G L Qd := let ⟨_, hy, k⟩ := h; u_in_i hy k
theorem u_nin_sX {i : Str} {y : S} (h : ∃ ns : List Str, seqG G L y = some (ns.map D.str) ∧ Qd (.d (.bl (!decide (i ∈ ns)))) G L) : OpC K (uIn K true) (.d (.str i)) y Δ G L Qd := let ⟨_, hy, k⟩ := h; u_in_s hy k
/-- a list that can be compared -/
def Eqb (ds : List D) : Prop := ∃ ps, pyL ds = some ps ∧ SeqAt.shaped (.list ps) = true
theorem eqv_nil {ds : List D} {ps : List PyData} (h : pyL ds = some ps) : PyData.eqv (.list ps) (.list []) = ds.isEmpty := by
  cases ds with
  | nil =>
    cases h
    rfl
  | cons d ds =>
    unfold pyL at h
    split at h
    · cases h
      rfl
    · cases h
theorem u_ne_nilG {x y : S} (h : lsG G L y = some [] ∧ ∃ ds, lsG G L x = some ds ∧ Eqb ds ∧ Qd (.d (.bl (!ds.isEmpty))) G L) : OpC K (uNe K) x y Δ G L Qd := by
  obtain ⟨hy, ds, hx, ⟨ps, hp, hs⟩, k⟩ := h
  refine u_ne_d (lsG_val hx) (lsG_val hy) (by unfold D.py; rw [hp]) (by rfl) hs shaped_nil ?_
  rw [eqv_nil hp]
  exact k
theorem u_eq_nilG {x y : S} (h : lsG G L y = some [] ∧ ∃ ds, lsG G L x = some ds ∧ Eqb ds ∧ Qd (.d (.bl ds.isEmpty)) G L) : OpC K (uEq K) x y Δ G L Qd := by
  obtain ⟨hy, ds, hx, ⟨ps, hp, hs⟩, k⟩ := h
  refine u_eq_d (lsG_val hx) (lsG_val hy) (by unfold D.py; rw [hp]) (by rfl) hs shaped_nil ?_
  rw [eqv_nil hp]
  exact k
theorem eqb_strs {ns : List Str} (h : ∀ s ∈ ns, PyData.strOk s = true) : Eqb (ns.map D.str) := by
  refine ⟨ns.map PyData.str, py_strs ns, ?_⟩
  have hl : PyData.canLayAll0 (ns.map PyData.str) = true := by
    induction ns with
    | nil => rfl
    | cons a r ih =>
      show (PyData.canLay0 (.str a) && PyData.canLayAll0 (r.map PyData.str)) = true
      rw [ih fun s hs => h s (List.mem_cons_of_mem _ hs), Bool.and_true]
      exact h a List.mem_cons_self
  have hd : PyData.depthAll (ns.map PyData.str) ≤ 1 := by
    clear h hl
    induction ns with
    | nil => simp [PyData.depthAll]
    | cons a r ih =>
      simp only [List.map_cons, PyData.depthAll, PyData.depth]
      omega
  unfold SeqAt.shaped
  rw [Bool.and_eq_true]
  refine ⟨hl, decide_eq_true ?_⟩
  simp only [PyData.depth]
  omega
end
end DL

namespace DL
open PySem PySem.Spec PyProof.Rows L2
/-! text * int; repr; str -/
def rTxMul : R2 := fun x y H Q => ∃ (z : Str) (k : Int), x = .str z ∧ y = .int k ∧ 0 ≤ k ∧ k ≤ 100000 ∧ z.length ≤ 100000 ∧ z.length * k.toNat ≤ 1000000 ∧ ∀ o : Str, o.length = z.length * k.toNat → Q (.str o) H
theorem txmul_len (z : Str) (k : Nat) : (Str.mk ((List.replicate k z.cps).foldl (· ++ ·) #[])).length = z.length * k := by
  show ((List.replicate k z.cps).foldl (· ++ ·) #[]).size = z.cps.size * k
  rw [size_reps, Nat.mul_comm]
  simp
theorem op_txmul {X : Cx} : OpR X (binaryOp .Mult) rTxMul := by
  intro pins s σ H x y v u Q I rx ry h
  obtain ⟨z, k, rfl, rfl, k0, k1, z1, zl, q⟩ := h
  obtain ⟨t, rfl⟩ := rx
  obtain ⟨t', rfl⟩ := ry
  refine SB.mul ⟨?_, fun h1 _ => ?_, fun _ _ => ?_⟩ fun t' k' => ⟨.str _, H, I.tok _, ⟨_, rfl⟩, q _ ?_⟩
  · have a : ¬ k < -(2 ^ 63) := by omega
    have b : ¬ k ≥ 2 ^ 63 := by omega
    rw [decide_eq_false a, decide_eq_false b]
    rfl
  · have e : (100000 : Int) ≤ (2 ^ 63 - 1) / k := (Int.le_ediv_iff_mul_le (by omega)).mpr (by
      have : 100000 * k ≤ 100000 * 100000 := Int.mul_le_mul_of_nonneg_left k1 (by decide)
      omega)
    omega
  · show decide (z.length * k.toNat > sizeLine) = false
    rw [sizeLine_eq]
    exact decide_eq_false (by omega)
  · unfold Txt.mul
    by_cases h1 : k < 1
    · have e : k = 0 := by omega
      subst e
      rfl
    · rw [if_neg h1]
      by_cases h2 : (k == 1 || z.length == 0) = true
      · rw [if_pos h2]
        simp only [Bool.or_eq_true, beq_iff_eq] at h2
        rcases h2 with h2 | h2
        · subst h2
          exact (Nat.mul_one _).symm
        · rw [h2, Nat.zero_mul]
      · rw [if_neg h2]
        exact txmul_len z k.toNat
section
variable {K : PySem.W.Frag} {Δ : Sl} {G L : List M} {Qd : Po} {Qn : PoN}
theorem u_txmul {z : Str} {k : Int} (h1 : 0 ≤ k ∧ k ≤ 100000 ∧ z.length ≤ 100000 ∧ z.length * k.toNat ≤ 1000000) (q : ∀ o : Str, o.length = z.length * k.toNat → Qd (.d (.str o)) G L) : OpC K rTxMul (.d (.str z)) (.d (.int k)) Δ G L Qd := fun w ls σ H vx vy c rx ry Q qq => by
  cases rx
  cases ry
  exact ⟨z, k, rfl, rfl, h1.1, h1.2.1, h1.2.2.1, h1.2.2.2, fun o ho => qq.go c Ext.refl (s := .d (.str o)) rfl (q o ho)⟩
/-- what repr of a small value is -/
inductive RepOf : V → Str → Prop
  | int (i : Int) (h : i.natAbs.log2 < 1920) : RepOf (.int i) (Str.ofString (toString i))
  | bl (b : Bool) : RepOf (.bl b) (if b then "True" else "False")
  | non : RepOf .non "None"
  | str (z : Str) (h : (reprText z).length ≤ sizeLine) : RepOf (.str z) (reprText z)
def uRepr : List V → Hp → VK → Prop := fun xs H Q => ∃ x t, xs = [x] ∧ RepOf x t ∧ Q (.str t) H
theorem uc_repr {X : Cx} : CallR X (.builtin "repr") uRepr := by
  intro pins s σ H xs us Q I r h
  obtain ⟨x, z, rfl, hx, q⟩ := h
  obtain ⟨u, rfl, rx⟩ := vals1 r
  cases hx with
  | int i hz =>
    obtain ⟨t, rfl⟩ := rx
    exact PySem.P.repr_of_int hz ⟨.str _, H, I.tok _, ⟨_, rfl⟩, q⟩
  | bl b =>
    cases rx
    exact PySem.P.repr_of_bool ⟨.str _, H, I.tok _, ⟨_, rfl⟩, q⟩
  | non =>
    cases rx
    exact PySem.P.repr_of_none ⟨.str _, H, I.tok _, ⟨_, rfl⟩, q⟩
  | str z hz =>
    obtain ⟨t, rfl⟩ := rx
    exact PySem.P.repr_of_str ⟨.str _, H, I.tok _, ⟨_, rfl⟩, q⟩ hz
/-- the same at the level of data -/
def reprD : D → Option Str
  | .non => some "None"
  | .bl b => some (if b then "True" else "False")
  | .int i => if i.natAbs.log2 < 1920 then some (Str.ofString (toString i)) else none
  | .str z => if (reprText z).length ≤ sizeLine then some (reprText z) else none
  | _ => none
theorem ap_repr {d : D} {t : Str} (h : reprD d = some t) (k : Qd (.d (.str t)) G L) : ApC K uRepr [.d d] Δ G L Qd := fun w ls σ H vs c rs Q q => by
  obtain ⟨v, rfl, r⟩ := pair1 rs
  have r : Rep K H (Rg w ls) d v := r
  refine ⟨v, t, rfl, ?_, q.go c Ext.refl (s := .d (.str t)) rfl k⟩
  cases d with
  | non =>
    cases r
    cases h
    exact .non
  | bl b =>
    cases r
    cases h
    exact .bl b
  | int i =>
    cases r
    have h : (if i.natAbs.log2 < 1920 then some (Str.ofString (toString i)) else none) = some t := h
    by_cases hz : i.natAbs.log2 < 1920
    · rw [if_pos hz] at h
      cases h
      exact .int i hz
    · rw [if_neg hz] at h
      cases h
  | str z =>
    cases r
    have h : (if (reprText z).length ≤ sizeLine then some (reprText z) else none) = some t := h
    by_cases hz : (reprText z).length ≤ sizeLine
    · rw [if_pos hz] at h
      cases h
      exact .str z hz
    · rw [if_neg hz] at h
      cases h
  | _ => cases h
end
end DL

namespace DL
open PySem PySem.Spec PyProof.Rows L2
/-! isinstance of data -/
def tyD : D → Option String
  | .non => some "NoneType"
  | .bl _ => some "bool"
  | .int _ => some "int"
  | .str _ => some "str"
  | .tup _ => some "tuple"
  | .lst _ => some "list"
  | .dct _ => some "dict"
  | _ => none
theorem tyx_sqT {K : PySem.W.Frag} {H : Hp} {a : Addr} {xs : List V} (h : SqT K H a xs) : TyX K H (.ref a) (.type "tuple") := by
  rcases h with (h | ⟨o, h⟩) | ⟨o, its, n, hk, hc, _⟩
  · exact .base (.tup h)
  · exact .fTuple h
  · exact .kTuple hk hc
theorem rep_ty {K : PySem.W.Frag} {H : Hp} {R : Addr → Prop} : ∀ {d : D} {v : V} {T : String}, tyD d = some T → Rep K H R d v → TyX K H v (.type T)
  | .non, _, _, e, r => by
    cases e
    cases r
    exact .base .non
  | .bl b, _, _, e, r => by
    cases e
    cases r
    exact .base (.bl b)
  | .int i, _, _, e, r => by
    cases e
    cases r
    exact .base (.int i)
  | .str x, _, _, e, r => by
    cases e
    cases r
    exact .base (.str x)
  | .tup ds, _, _, e, r => by
    cases e
    obtain ⟨a, xs, rfl, h, _⟩ := r
    exact tyx_sqT h.sq
  | .lst ds, _, _, e, r => by
    cases e
    obtain ⟨a, xs, rfl, ⟨h, _⟩, _⟩ := r
    exact .base (.lst h)
  | .dct ds, _, _, e, r => by
    cases e
    obtain ⟨a, xs, rfl, ⟨h, _⟩, _⟩ := r
    exact .base (.dK h)
  | .ty _, _, _, e, _ => by cases e
  | .ref _, _, _, e, _ => by cases e
  | .scr _, _, _, e, _ => by cases e
  | .ins _ _, _, _, e, _ => by cases e
section
variable {K : PySem.W.Frag} {Δ : Sl} {G L : List M} {Qd : Po} {Qn : PoN} {te : TE} {E : EndsD}
theorem ap_isi {d : D} {T U : String} {b : Bool} (h : tyD d = some T) (hb : kitB T U = some b) (k : Qd (.d (.bl b)) G L) : ApC K (rIsi K) [.d d, .d (.ty U)] Δ G L Qd := fun w ls σ H vs c rs Q q => by
  obtain ⟨v, u, rfl, r1, r2⟩ := pair2 rs
  have r2 : u = .ty U := r2
  subst r2
  exact ⟨v, _, _, _, b, rfl, .ty U, rep_ty h r1, kit_ty hb, q.go c Ext.refl (s := .d (.bl b)) rfl k⟩
/-! any of ints, all of truths -/
def rAnyU (K : PySem.W.Frag) : List V → Hp → VK → Prop := fun vs H Q => ∃ (a : Addr) (ns : List Int), vs = [V.ref a] ∧ SqL K H a (ns.map V.int) ∧ Q (.bl (ns.any fun i => i != 0)) H
theorem truth_ints {prog : Program} {w : World} {A : Around} {ns : List Int} {its : List Value} (e : IntsAre its ns) : TruthOf prog w A (fun i v => its.toArray[i]? = some v) (fun i => (ns.map fun z => z != 0).getD i false) := fun i v s Q E hv hq => by
  have hv' : its[i]? = some v := by simpa using hv
  have key : ∀ {its : List Value} {ns : List Int} (i : Nat), IntsAre its ns → its[i]? = some v → ∃ z t, v = .int z t ∧ ns[i]? = some z := by
    intro its ns i e
    induction e generalizing i with
    | nil => intro h; cases h
    | cons h t r ih =>
      intro hv
      cases i with
      | zero =>
        cases hv
        exact ⟨_, _, rfl, rfl⟩
      | succ j => exact ih j hv
  obtain ⟨z, t, rfl, hz⟩ := key i e hv'
  have hg : (ns.map fun z => z != 0).getD i false = (z != 0) := by rw [List.getD_eq_getElem?_getD, List.getElem?_map, hz] <;> rfl
  have hq' : Q ((ns.map fun z => z != 0).getD i false) s := hq
  rw [hg] at hq'
  exact PySem.P.truthy_int hq'
theorem cr_anyU {X : Cx} (hc : X.calm = true) : CallR X (.builtin "any") (rAnyU X.K) := by
  intro pins s σ H vs us Q I r h
  obtain ⟨a, ns, rfl, hs, q⟩ := h
  obtain ⟨its, rv, hl, _⟩ := I.list hs
  rw [Vals.ref1 r]
  have hb : IntsAre its ns := intsAre_of rv
  have hlen := rv.length
  refine call_any_walk (iter_any hl.isList fun s3 e3 st hne => ?_)
  subst e3
  refine ⟨_, _, _, _, _, _, _, rfl, Walks.list (A := X.A.in1) (I.ok.hd hc) _ a hne its.toArray, st, truth_ints hb, fun h' tk hk => ?_⟩
  refine ⟨.bl _, H, I.kept fun b o eo => hk b o (fun hm => ?_) (Heap.get?_push_of_some _ eo), ?_, q⟩
  · rcases List.mem_cons.mp hm with e1 | hm
    · exact absurd (e1 ▸ Heap.lt_size eo) (Nat.lt_irrefl _)
    · cases hm
  · show Value.bool _ = Value.bool _
    have e := any_range (ns.map fun z => z != 0)
    rw [List.length_map, List.any_map] at e
    rw [List.length_map] at hlen
    rw [List.size_toArray, ← hlen, e]
    rfl
def uAny (K : PySem.W.Frag) : List V → Hp → VK → Prop := fun vs H Q => rAny K vs H Q ∨ rAnyU K vs H Q
theorem uc_any {X : Cx} (hc : X.calm = true) : CallR X (.builtin "any") (uAny X.K) := CallR.or (r := rAny X.K) (cr_any hc) (cr_anyU hc)
theorem ap_anyI {s : S} {ns : List Int} (h : lsG G L s = some (ns.map D.int)) (k : Qd (.d (.bl (ns.any fun i => i != 0))) G L) : ApC K (uAny K) [s] Δ G L Qd := fun w ls σ H vs c rs Q q => by
  obtain ⟨v, rfl, r⟩ := pair1 rs
  obtain ⟨a, xs, rfl, h1, r1⟩ := lsG_get c r h
  have e := RepL.intsV r1
  subst e
  exact .inr ⟨a, ns, rfl, .inl (.inl h1), q.go c Ext.refl (s := .d (.bl (ns.any fun i => i != 0))) rfl k⟩
theorem repL_bls {H : Hp} {R : Addr → Prop} : ∀ {bs : List Bool} {vs : List V}, RepL K H R (bs.map D.bl) vs → vs = bs.map V.bl
  | [], _, h => h
  | b :: bs, _, ⟨y, ys, e, h, r⟩ => by
    cases h
    rw [e, repL_bls r]
    rfl
theorem ap_allB {s : S} {bs : List Bool} (h : lsG G L s = some (bs.map D.bl)) (k : Qd (.d (.bl (bs.all id))) G L) : ApC K (rAll K) [s] Δ G L Qd := fun w ls σ H vs c rs Q q => by
  obtain ⟨v, rfl, r⟩ := pair1 rs
  obtain ⟨a, xs, rfl, h1, r1⟩ := lsG_get c r h
  have e := repL_bls r1
  subst e
  exact ⟨a, bs, rfl, .inl (.inl h1), q.go c Ext.refl (s := .d (.bl (bs.all id))) rfl k⟩
/-! max and min of two ints; truths compared by `is` -/
def rMax2 : List V → Hp → VK → Prop := fun xs H Q => ∃ i j, xs = [.int i, .int j] ∧ Q (.int (if j > i then j else i)) H
def rMin2 : List V → Hp → VK → Prop := fun xs H Q => ∃ i j, xs = [.int i, .int j] ∧ Q (.int (if j < i then j else i)) H
theorem uc_max2 {X : Cx} (hc : X.calm = true) : CallR X (.builtin "max") rMax2 := call_max2 hc
theorem uc_min2 {X : Cx} (hc : X.calm = true) : CallR X (.builtin "min") rMin2 := call_min2 hc
theorem ap_max2 {i j : Int} (k : Qd (.d (.int (if j > i then j else i))) G L) : ApC K rMax2 [.d (.int i), .d (.int j)] Δ G L Qd := fun w ls σ H vs c rs Q q => by
  obtain ⟨v, u, rfl, r1, r2⟩ := pair2 rs
  cases r1
  cases r2
  exact ⟨i, j, rfl, q.go c Ext.refl (s := .d (.int (if j > i then j else i))) rfl k⟩
theorem ap_min2 {i j : Int} (k : Qd (.d (.int (if j < i then j else i))) G L) : ApC K rMin2 [.d (.int i), .d (.int j)] Δ G L Qd := fun w ls σ H vs c rs Q q => by
  obtain ⟨v, u, rfl, r1, r2⟩ := pair2 rs
  cases r1
  cases r2
  exact ⟨i, j, rfl, q.go c Ext.refl (s := .d (.int (if j < i then j else i))) rfl k⟩
theorem u_isB {a b : Bool} (k : Qd (.d (.bl (decide (a = b)))) G L) : OpC K rIsB (.d (.bl a)) (.d (.bl b)) Δ G L Qd := fun w ls σ H vx vy c rx ry Q q => by
  cases rx
  cases ry
  exact ⟨a, b, rfl, rfl, q.go c Ext.refl (s := .d (.bl (decide (a = b)))) rfl k⟩
theorem u_notB {a b : Bool} (k : Qd (.d (.bl (!decide (a = b)))) G L) : OpC K rNotB (.d (.bl a)) (.d (.bl b)) Δ G L Qd := fun w ls σ H vx vy c rx ry Q q => by
  cases rx
  cases ry
  exact ⟨a, b, rfl, rfl, q.go c Ext.refl (s := .d (.bl (!decide (a = b)))) rfl k⟩
/-! truths compared by == -/
theorem u_eq_b {i j : Bool} (k : Qd (.d (.bl (decide (i = j)))) G L) : OpC K (uEq K) (.d (.bl i)) (.d (.bl j)) Δ G L Qd := fun w ls σ H vx vy c rx ry Q q => by
  cases rx
  cases ry
  refine .inl ⟨rfl, ?_⟩
  have e : decide (V.bl i = V.bl j) = decide (i = j) := by simp
  rw [e]
  exact q.go c Ext.refl (s := .d (.bl (decide (i = j)))) rfl k
theorem u_ne_b {i j : Bool} (k : Qd (.d (.bl (!decide (i = j)))) G L) : OpC K (uNe K) (.d (.bl i)) (.d (.bl j)) Δ G L Qd := fun w ls σ H vx vy c rx ry Q q => by
  cases rx
  cases ry
  refine .inl ⟨rfl, ?_⟩
  have e : decide (V.bl i = V.bl j) = decide (i = j) := by simp
  rw [e]
  exact q.go c Ext.refl (s := .d (.bl (!decide (i = j)))) rfl k
/-! lists of ints compared -/
theorem eqva_ints : ∀ xs ys : List Int, PyData.eqvAll (xs.map PyData.int) (ys.map PyData.int) = decide (xs = ys)
  | [], [] => by simp [PyData.eqvAll]
  | [], _ :: _ => by simp [PyData.eqvAll]
  | _ :: _, [] => by simp [PyData.eqvAll]
  | x :: xs, y :: ys => by
    rw [List.map_cons, List.map_cons, PyData.eqvAll, eqva_ints xs ys]
    have : PyData.eqv (.int x) (.int y) = decide (x = y) := by
      simp [PyData.eqv]
      try rfl
    rw [this]
    simp
theorem eqv_ints (xs ys : List Int) : PyData.eqv (.list (xs.map PyData.int)) (.list (ys.map PyData.int)) = decide (xs = ys) := by
  rw [PyData.eqv]
  exact eqva_ints xs ys
theorem py_lst_ints (xs : List Int) : (D.lst (xs.map D.int)).py = some (.list (xs.map PyData.int)) := by
  unfold D.py
  rw [py_ints]
theorem u_eq_is {x y : S} {xs ys : List Int} (hx : lsG G L x = some (xs.map D.int)) (hy : lsG G L y = some (ys.map D.int)) (k : Qd (.d (.bl (decide (xs = ys)))) G L) : OpC K (uEq K) x y Δ G L Qd := by
  refine u_eq_d (lsG_val hx) (lsG_val hy) (py_lst_ints xs) (py_lst_ints ys) (shaped_ints xs) (shaped_ints ys) ?_
  rw [eqv_ints]
  exact k
end
end DL

namespace DL
open PySem PySem.Spec PyProof.Rows L2
/-! [::-1] of lists and of tuples -/
section
variable {prog : Program} {w : World} {A : Around} {E : Value → Shared → Prop} {s : Shared}
theorem adjust_rev (n : Nat) : Builtin.Slice.sliceAdjust none none (-1) (n : Int) = ((n : Int) - 1, -1) := rfl
theorem places_rev (n : Nat) : Builtin.Slice.slicePlaces ((n : Int) - 1) (-1) (-1) = n := by
  unfold Builtin.Slice.slicePlaces
  have h1 : ¬ ((-1 : Int) > 0) := by decide
  simp only [h1, if_false, show (- -1 : Int) = 1 by decide, Int.ediv_one]
  split <;> omega
theorem applied_rev {sl : Addr} {vs : Value} {n : Nat} {Q : Int × Int × Nat → Shared → Prop} (hs : s.heap.IsSliceOf sl .none .none vs) (ps : IsPart vs (some (-1)))
    (h : Q ((n : Int) - 1, -1, n) s) : wpAny (model prog w) A (Builtin.Slice.sliceApplied (.ref sl) (pure (n : Int))) Q E s := by
  obtain ⟨os, ho, hc, hd⟩ := id hs
  unfold Builtin.Slice.sliceApplied Builtin.Slice.sliceFields
  refine wpAny_bind (wpAny_bind (wpAny_field ho hd (x := .none) rfl (wpAny_bind (wpAny_field ho hd (x := .none) rfl (wpAny_bind (wpAny_field ho hd (x := vs) rfl (wpAny_pure ?_)))))))
  refine wpAny_bind (HT.slicePart_ ps ?_)
  show wpAny _ _ (if ((-1 : Int) == 0) = true then _ else _) _ _ s
  rw [if_neg (by decide)]
  refine wpAny_bind (slicePart_none (wpAny_bind (slicePart_none (wpAny_bind (wpAny_pure ?_)))))
  show wpAny _ _ (match Builtin.Slice.sliceAdjust none none (-1) (n : Int) with | (lo, _) => pure (lo, (-1 : Int), Builtin.Slice.slicePlaces lo (-1) (-1))) _ _ s
  rw [adjust_rev]
  show wpAny _ _ (pure ((n : Int) - 1, (-1 : Int), Builtin.Slice.slicePlaces ((n : Int) - 1) (-1) (-1))) _ _ s
  rw [places_rev]
  exact wpAny_pure h
theorem fm_congr {α β : Type} {f g : α → Option β} : ∀ {l : List α}, (∀ x ∈ l, f x = g x) → l.filterMap f = l.filterMap g
  | [], _ => rfl
  | a :: l, h => by
    rw [List.filterMap_cons, List.filterMap_cons, h a List.mem_cons_self, fm_congr fun x hx => h x (List.mem_cons_of_mem _ hx)]
theorem pick_rev (xs : Array Value) : ((List.range xs.size).filterMap fun (m : Nat) => xs[(((xs.size : Int) - 1) + (m : Int) * (-1)).toNat]?).toArray = xs.toList.reverse.toArray := by
  have e : (List.range xs.size).filterMap (fun (m : Nat) => xs[(((xs.size : Int) - 1) + (m : Int) * (-1)).toNat]?) = ((List.range xs.size).map (fun k => xs.size - 1 - k)).filterMap (xs[·]?) := by
    rw [List.filterMap_map]
    refine fm_congr fun m hm => ?_
    have := List.mem_range.mp hm
    show _ = xs[xs.size - 1 - m]?
    have e2 : (((xs.size : Int) - 1) + (m : Int) * (-1)).toNat = xs.size - 1 - m := by omega
    rw [e2]
  rw [e, PySem.W.krv_range, List.filterMap_reverse, PySem.W.krv_all]
theorem getItem_tuple_rev {t sl : Addr} {items : Array Value} {vs : Value} {Q : Value → Shared → Prop} (ht : IsTup s.heap t items) (hs : s.heap.IsSliceOf sl .none .none vs) (ps : IsPart vs (some (-1)))
    (h : Q (.ref s.heap.objs.size) { s with heap := s.heap.push { cls := .type "tuple", data := .seq items.toList.reverse.toArray } })
    (hsz : items.size ≤ sizeLine) : wpAny (model prog w) A (getItem (.ref t) (.ref sl)) Q E s := by
  have htake : sizeOk (.seq items.toList.reverse.toArray) := by
    show items.toList.reverse.toArray.size ≤ sizeLine
    simpa using hsz
  obtain ⟨os, hos, hcs, hds⟩ := id hs
  have hTs : s.TypeIs (.ref sl) "slice" := ⟨os, hos, hcs⟩
  unfold getItem
  try with_reducible refine wpAny_holding ?_
  first | refine wpAny_bind (wpAny_pure ?_) | skip
  refine wpAny_bind (wpAny_sequenceKey ht.typeIs (by decide) ?_)
  refine wpAny_bind (wpAny_callSpecial?_slot (name := Str.ofString "__getitem__") ht.typeIs PyProof.Rows.slot_tuple_getitem (wpAny_call_entry PyProof.Rows.slot_tuple_getitem ht.typeIs entry_tuple_getitem ?_ (args_tuple_getitem _ _)))
  show wpAny _ _ (Builtin.Tuple.tupleItemsOf (.ref t) >>= _) _ _ s
  refine wpAny_bind (tupleItemsOf_ ht (wpAny_bind (wpAny_typeOf hTs ?_)))
  rw [if_pos (by decide)]
  refine wpAny_bind (applied_rev hs ps ?_)
  have hno : ¬ ((((items.size : Int) - 1) == 0 && (-1 : Int) == 1 && items.size == items.size) = true) := by
    intro q
    rw [Bool.and_eq_true, Bool.and_eq_true] at q
    exact absurd q.1.2 (by decide)
  show wpAny _ _ (if (((items.size : Int) - 1) == 0 && (-1 : Int) == 1 && items.size == items.size) = true then _ else _) _ _ s
  rw [if_neg hno, pick_rev]
  first
    | exact wpAny_bind (m := Builtin.Tuple.tupleExact _) (wpAny_newObj_type (wpAny_pure ⟨_, rfl, wpAny_pure h⟩) htake)
    | exact wpAny_bind (m := Builtin.Tuple.tupleExact _) (wpAny_newObj_type (wpAny_bind (wpAny_pure (wpAny_pure ⟨_, rfl, wpAny_pure h⟩))) htake)
    | exact wpAny_bind (wpAny_bind (m := Builtin.Tuple.tupleExact _) (wpAny_newObj_type (wpAny_pure (wpAny_pure ⟨_, rfl, wpAny_pure h⟩)) htake))
    | exact wpAny_bind (wpAny_bind (m := Builtin.Tuple.tupleExact _) (wpAny_newObj_type (wpAny_pure ⟨_, rfl, wpAny_pure h⟩) htake))
end
def tRevU (K : PySem.W.Frag) (te : TE) : TE := fun σ H Q => te σ H fun x H1 => ∃ a xs, x = .ref a ∧ ((SqL K H1 a xs ∧ ∀ p, H1 p = none → Q (.ref p) (upd H1 p (.lst xs.reverse))) ∨ (SqT K H1 a xs ∧ ∀ p, H1 p = none → Q (.ref p) (upd H1 p (.tup xs.reverse))))
theorem pe_revU {X : Cx} {e : Expr} {te : TE} {k : Nat} {p1 p2 p3 pos : Pos} (he : PE X e te) : PE X (.Subscript e (.Slice none none (some (.UnaryOp .USub (.Constant (.int 1) k p1) p2)) p3) pos) (tRevU X.K te) := by
  refine ⟨fun pins s σ H Q I h => Subscript_ (thn (he.run pins s σ H _ I h) fun v s1 ⟨x, H1, I1, r1, a, xs, ex, q⟩ => ?_)⟩
  subst ex
  cases r1
  have hst : PO X (some (.UnaryOp .USub (.Constant (.int 1) k p1) p2)) (tPart (tUn (rU fun i => .int (-i)) (tC (.int 1)))) := po_some (pe_un un_neg pe_int)
  refine wpAny_Slice (thn (po_none.run pins s1 σ H1 (fun o H2 => o = none ∧ H2 = H1) I1 ⟨rfl, rfl⟩) fun vl s2 ⟨l, H2, I2, pl, el, e2⟩ => ?_)
  subst el e2
  refine thn (po_none.run pins s2 σ H2 (fun o H3 => o = none ∧ H3 = H2) I2 ⟨rfl, rfl⟩) fun vu s3 ⟨u, H3, I3, pu, eu, e3⟩ => ?_
  subst eu e3
  refine thn (hst.run pins s3 σ H3 (fun o H4 => o = some (-1) ∧ H4 = H3) I3 ⟨1, rfl, -1, rfl, rfl, rfl⟩) fun vs s4 ⟨o, H4, I4, ps, eo, e4⟩ => ?_
  subst eo e4
  have I5 : Inv X pins σ H4 { s4 with heap := s4.heap.push { cls := .type "slice", data := .fields #[vl, vu, vs] } } := I4.kept (t' := s4.toks) fun b ob q => Heap.get?_push_of_some _ q
  show wpAny (model X.prog X.w) X.A (subscriptTail e (.Slice none none (some (.UnaryOp .USub (.Constant (.int 1) k p1) p2)) p3) (.ref a) (.ref s4.heap.objs.size)) (EP X pins σ Q) X.xe { s4 with heap := s4.heap.push { cls := .type "slice", data := .fields #[vl, vu, vs] } }
  rcases q with ⟨hx, q⟩ | ⟨hx, q⟩
  · obtain ⟨its, r, ht, hz⟩ := I5.list hx
    have hlen := r.length
    refine tail_any (ops := [.ref a, .ref s4.heap.objs.size]) ht.isList.typeIs (PySem.slot_list_getitem.lookup) ?_ (by with_unfolding_all rfl)
    refine wpAny_getItem_list_slice ht.isList (Heap.IsSliceOf.new _ vl vu vs) pl pu ps (by decide) ?_ (by rw [List.size_toArray]; omega)
    rw [PySem.W.krv_pick]
    refine ⟨.ref _, _, I5.laid (t' := s4.toks) (o := .lst xs.reverse) (fun b ob q => Heap.get?_push_of_some _ q) (Nat.le_refl _) ?_, rfl, q _ (I5.hok.fresh (Nat.le_refl _))⟩
    exact ⟨by rw [List.length_reverse]; exact hz, _, 0, r.reverse, Heap.get?_push_size _ rfl⟩
  · obtain ⟨its, r, ht, hz⟩ := I5.tuple hx
    have hlen := r.length
    cases pl
    cases pu
    refine tail_any (ops := [.ref a, .ref s4.heap.objs.size]) ht.typeIs (PyProof.Rows.slot_tuple_getitem.lookup) ?_ (by with_unfolding_all rfl)
    refine getItem_tuple_rev ht (Heap.IsSliceOf.new _ .none .none vs) ps ?_ (by rw [List.size_toArray]; omega)
    refine ⟨.ref _, _, I5.laid (t' := s4.toks) (o := .tup xs.reverse) (fun b ob q => Heap.get?_push_of_some _ q) (Nat.le_refl _) ?_, rfl, q _ (I5.hok.fresh (Nat.le_refl _))⟩
    exact ⟨by rw [List.length_reverse]; exact hz, its.reverse, r.reverse, IsTup.new _ _⟩
section
variable {K : PySem.W.Frag} {Δ : Sl} {G L : List M} {Qd : Po} {Qn : PoN} {te : TE} {E : EndsD}
theorem evn_revU (h : EvC K te Δ G L fun x G1 L1 => ∃ ds, lsG G1 L1 x = some ds ∧ Qn (.pl ds.reverse) G1 L1) : EvN K (tRevU K te) Δ G L Qn := fun w ls σ H c Q ret => h w ls σ H c _ fun v s H2 G2 L2 c2 e2 r2 ⟨ds, hd, k⟩ => by
  obtain ⟨a, xs, rfl, h1, q1⟩ := lsG_get c2 r2 hd
  exact ⟨a, xs, rfl, .inl ⟨.inl (.inl h1), fun p hp => ret p _ _ _ _ (none_back c2 e2 hp) (newAt_pl c2 hp (repL_rev q1)) (e2.trans (Ext.new hp)) k⟩⟩
theorem evc_revT (h : EvC K te Δ G L fun x G1 L1 => ∃ ds, x = .d (.tup ds) ∧ Qd (.d (.tup ds.reverse)) G1 L1) : EvC K (tRevU K te) Δ G L Qd := fun w ls σ H c Q q => h w ls σ H c _ fun v s H2 G2 L2 c2 e2 r2 ⟨ds, hd, k⟩ => by
  subst hd
  obtain ⟨a, xs, rfl, h1, q1⟩ := r2
  exact ⟨a, xs, rfl, .inr ⟨h1.sq, fun p hp => q.go (c2.new hp) (e2.trans (Ext.new hp)) (s := .d (.tup ds.reverse)) (rep_tup c2 hp (repL_rev q1)) k⟩⟩
/-! tuple * int -/
def uMulT (K : PySem.W.Frag) : R2 := fun x y H Q => uMul K x y H Q ∨ rRepT K x y H Q
theorem uo_mulT {X : Cx} : OpR X (binaryOp .Mult) (uMulT X.K) := uo_mul.or op_repT
theorem u_mul_t {xs : List D} {j : Int} (h : (2 ≤ j ∧ j ≤ 1000) ∧ xs ≠ [] ∧ xs.length ≤ 1000) (k : Qd (.d (.tup (List.replicate j.toNat xs).flatten)) G L) : OpC K (uMulT K) (.d (.tup xs)) (.d (.int j)) Δ G L Qd := fun w ls σ H vx vy c rx ry Q q => by
  obtain ⟨a, vs, rfl, h1, q1⟩ := rx
  have hl := q1.length
  refine .inr ⟨a, j, vs, rfl, ry, h1.sq, fun e => h.2.1 (List.eq_nil_of_length_eq_zero (by rw [← hl, e]; rfl)), h.1.1, h.1.2, by rw [hl]; exact h.2.2, fun p hp => ?_⟩
  exact q.go (c.new hp) (Ext.new hp) (s := .d (.tup (List.replicate j.toNat xs).flatten)) (rep_tup c hp (repl_flat q1 _)) k
theorem u_mul_tX {xs : List D} {j : Int} (h : ((2 ≤ j ∧ j ≤ 1000) ∧ xs ≠ [] ∧ xs.length ≤ 1000) ∧ Qd (.d (.tup (List.replicate j.toNat xs).flatten)) G L) : OpC K (uMulT K) (.d (.tup xs)) (.d (.int j)) Δ G L Qd := u_mul_t h.1 h.2
theorem u_mulT_i {i j : Int} (hc : CMul i j) (k : Qd (.d (.int (i * j))) G L) : OpC K (uMulT K) (.d (.int i)) (.d (.int j)) Δ G L Qd := opc_orl (u_mul_i hc k)
theorem u_mulT_lX {x : S} {j : Int} (h : ∃ xs, lsG G L x = some xs ∧ (0 ≤ j ∧ j < 2 ^ 62 ∧ xs.length * j.toNat ≤ sizeLine) ∧ Qn (.pl (List.replicate j.toNat xs).flatten) G L) : OpN K (uMulT K) x (.d (.int j)) Δ G L Qn := opn_orl (u_mul_lX h)
/-! o[i] op= e -/
theorem get_lst {X : Cx} : PGet X (rIxL X.K) := by
  intro pins s σ H x y v u Q I rx ry h
  obtain ⟨p, xs, i, z, rfl, rfl, hq, he, q⟩ := h
  cases rx
  obtain ⟨t, rfl⟩ := ry
  obtain ⟨its, r, pl, hz⟩ := I.list hq
  obtain ⟨j, h1, h2, h3, h4, h5⟩ := atI_get he
  obtain ⟨w, ew, rw'⟩ := r.get h2
  have hl := r.length
  have hn := line63
  have fin : EP X pins σ Q w s := ⟨z, H, I, rw', q⟩
  by_cases h0 : 0 ≤ i
  · have hj : i.toNat = j := by
      rw [seqIndex_of h0 h5] at h1
      exact Option.some.inj h1
    exact wpAny_getItem_list pl.isList h0 (by omega) (by rw [hj]; simpa using ew) fin
  · have hj : (i + (its.toArray.size : Int)).toNat = j := by
      rw [seqIndex_neg (by omega) h4] at h1
      rw [List.size_toArray, ← hl]
      exact Option.some.inj h1
    exact wpAny_getItem_list_neg pl.isList (by omega) (by rw [List.size_toArray] <;> omega) (by omega) (by rw [hj]; simpa using ew) fin
theorem st_augS {to ti : TE} {tget : V → V → Hp → VK → Prop} {tip : TIp} {tset : TSet} (h : EvC K to Δ G L fun o G1 L1 => EvC K ti Δ G1 L1 fun i G2 L2 => OpC K tget o i Δ G2 L2 fun x G3 L3 => EvC K te Δ G3 L3 fun y G4 L4 =>
    OpC K tip x y Δ G4 L4 fun z G5 L5 => StoC K tset o i z Δ G5 L5 fun G6 L6 => E.nx Δ G6 L6) : StC K (tAugS to ti te tget tip tset) Δ G L E := fun w ls σ H c D s =>
  h w ls σ H c _ fun vo o H1 G1 L1 c1 e1 r1 h1 => h1 w ls σ H1 c1 _ fun vi i H2 G2 L2 c2 e2 r2 h2 =>
    h2 w ls σ H2 vo vi c2 (r1.on c1 e2) r2 _ fun vx x H3 G3 L3 c3 e3 r3 h3 => h3 w ls σ H3 c3 _ fun vy y H4 G4 L4 c4 e4 r4 h4 =>
      h4 w ls σ H4 vx vy c4 (r3.on c3 e4) r4 _ fun vz z H5 G5 L5 c5 e5 r5 h5 =>
        h5 w ls σ H5 vo vi vz c5 ((((r1.on c1 e2).on c2 e3).on c3 e4).on c4 e5) (((r2.on c2 e3).on c3 e4).on c4 e5) r5 _ fun H6 G6 L6 c6 e6 k =>
          s.nx ls σ H6 Δ G6 L6 c6 ((e1.trans (e2.trans (e3.trans (e4.trans (e5.trans e6))))).grow c.reg) k
theorem opc_ip {f : Int → Int → Int} {i j : Int} (k : Qd (.d (.int (f i j))) G L) : OpC K (ipI f) (.d (.int i)) (.d (.int j)) Δ G L Qd := fun w ls σ H vx vy c rx ry Q q => by
  cases rx
  cases ry
  exact ⟨i, j, rfl, rfl, q.go c Ext.refl (s := .d (.int (f i j))) rfl k⟩
theorem u_get_l {k : Nat} {i : Int} {d : D} {xs : List D} (hx : L[k]? = some (.pl xs)) (hi : atI xs i = some d) (q : Qd (.d d) G L) : OpC K (rIxL K) (.l k) (.d (.int i)) Δ G L Qd := fun w ls σ H vx vy c rx ry Q ret => by
  obtain ⟨a, vs, rfl, h1, q1⟩ := lsG_get c rx (lsG_l hx)
  obtain ⟨j, e, hj⟩ := atI_some hi
  obtain ⟨v, hv, r⟩ := q1.get hj
  have ha : atI vs i = some v := by
    unfold atI
    rw [q1.length, e]
    exact hv
  exact ⟨a, vs, i, v, rfl, ry, .inl (.inl h1), ha, ret.go c Ext.refl (s := .d d) r q⟩
theorem u_get_int {k : Nat} {i : Int} {xs : List Int} (hx : L[k]? = some (.pl (xs.map D.int))) (h0 : 0 ≤ i) (h1 : i < (xs.length : Nat)) (q : Qd (.d (.int (xs.getD i.toNat 0))) G L) : OpC K (rIxL K) (.l k) (.d (.int i)) Δ G L Qd := by
  obtain ⟨n, rfl⟩ := Int.eq_ofNat_of_zero_le h0
  have hn : n < xs.length := by omega
  refine u_get_l hx (atI_of (j := n) ?_ rfl) q
  rw [List.getElem?_map, List.getElem?_eq_getElem hn]
  show some (D.int xs[n]) = some (D.int (xs.getD n 0))
  rw [List.getD_eq_getElem?_getD, List.getElem?_eq_getElem hn]
  rfl
theorem sto_int {k : Nat} {i z : Int} {xs : List Int} {Qt : List M → List M → Prop} (hx : L[k]? = some (.pl (xs.map D.int))) (h0 : 0 ≤ i) (h1 : i < (xs.length : Nat)) (q : Qt G (L.set k (.pl ((xs.set i.toNat z).map D.int)))) : StoC K rSetL (.l k) (.d (.int i)) (.d (.int z)) Δ G L Qt := by
  obtain ⟨n, rfl⟩ := Int.eq_ofNat_of_zero_le h0
  have hn : n < xs.length := by omega
  have e : ixN (xs.map D.int).length (n : Int) = some n := by
    rw [List.length_map]
    unfold ixN
    rw [if_pos h0, if_pos (by omega)]
    rfl
  refine sto_lp hx e ?_
  have e2 : (xs.map D.int).set n (.int z) = (xs.set n z).map D.int := by rw [List.map_set]
  rw [e2]
  exact q
theorem isi_ii {i : Int} (k : Qd (.d (.bl true)) G L) : ApC K (rIsi K) [.d (.int i), .d (.ty "int")] Δ G L Qd := ap_isi rfl (by decide +kernel) k
theorem isi_ib {i : Int} (k : Qd (.d (.bl false)) G L) : ApC K (rIsi K) [.d (.int i), .d (.ty "bool")] Δ G L Qd := ap_isi rfl (by decide +kernel) k
theorem isi_bb {i : Bool} (k : Qd (.d (.bl true)) G L) : ApC K (rIsi K) [.d (.bl i), .d (.ty "bool")] Δ G L Qd := ap_isi rfl (by decide +kernel) k
theorem isi_bi {i : Bool} (k : Qd (.d (.bl true)) G L) : ApC K (rIsi K) [.d (.bl i), .d (.ty "int")] Δ G L Qd := ap_isi rfl (by decide +kernel) k
theorem isi_tt {ds : List D} (k : Qd (.d (.bl true)) G L) : ApC K (rIsi K) [.d (.tup ds), .d (.ty "tuple")] Δ G L Qd := ap_isi rfl (by decide +kernel) k
theorem isi_ss {z : Str} (k : Qd (.d (.bl true)) G L) : ApC K (rIsi K) [.d (.str z), .d (.ty "str")] Δ G L Qd := ap_isi rfl (by decide +kernel) k
theorem iteNT {A B : Prop} (h : B) : if (!true) = true then A else B := by
  rw [if_neg (by decide)]
  exact h
theorem iteNF {A B : Prop} (h : A) : if (!false) = true then A else B := by
  rw [if_pos (by decide)]
  exact h
theorem iteNB {b : Bool} {A B : Prop} (h1 : b = false → A) (h2 : b = true → B) : if (!b) = true then A else B := by
  cases b with
  | true => exact iteNT (h2 rfl)
  | false => exact iteNF (h1 rfl)
end
end DL

namespace DL
open PySem PySem.Spec PyProof.Rows L2
/-! data that can be compared, with its depth -/
def Eqb1 (k : Nat) (d : D) : Prop := ∃ p, d.py = some p ∧ p.canLay0 = true ∧ p.depth ≤ k
theorem eqb1_int (k : Nat) (i : Int) : Eqb1 k (.int i) := ⟨.int i, rfl, rfl, Nat.zero_le _⟩
theorem eqb1_bl (k : Nat) (i : Bool) : Eqb1 k (.bl i) := ⟨.bool i, rfl, rfl, Nat.zero_le _⟩
theorem eqb1_non (k : Nat) : Eqb1 k .non := ⟨.none, rfl, rfl, Nat.zero_le _⟩
theorem eqb1_str (k : Nat) {z : Str} (h : PyData.strOk z = true) : Eqb1 k (.str z) := ⟨.str z, rfl, h, Nat.zero_le _⟩
theorem eqb1_all {k : Nat} : ∀ {ds : List D}, (∀ d ∈ ds, Eqb1 k d) → ∃ ps, pyL ds = some ps ∧ PyData.canLayAll0 ps = true ∧ PyData.depthAll ps ≤ k
  | [], _ => ⟨[], rfl, rfl, Nat.zero_le _⟩
  | d :: ds, h => by
    obtain ⟨p, h1, h2, h3⟩ := h d List.mem_cons_self
    obtain ⟨ps, h4, h5, h6⟩ := eqb1_all fun x hx => h x (List.mem_cons_of_mem _ hx)
    refine ⟨p :: ps, ?_, ?_, ?_⟩
    · unfold pyL
      rw [h1, h4]
    · show (p.canLay0 && PyData.canLayAll0 ps) = true
      rw [h2, h5]
      rfl
    · simp only [PyData.depthAll]
      omega
theorem eqb1_tup {k : Nat} {ds : List D} (h : ∀ d ∈ ds, Eqb1 k d) : Eqb1 (k + 1) (.tup ds) := by
  obtain ⟨ps, h1, h2, h3⟩ := eqb1_all h
  refine ⟨.tuple ps, ?_, h2, ?_⟩
  · unfold D.py
    rw [h1]
  · simp only [PyData.depth]
    omega
theorem eqb1_lst {k : Nat} {ds : List D} (h : ∀ d ∈ ds, Eqb1 k d) : Eqb1 (k + 1) (.lst ds) := by
  obtain ⟨ps, h1, h2, h3⟩ := eqb1_all h
  refine ⟨.list ps, ?_, h2, ?_⟩
  · unfold D.py
    rw [h1]
  · simp only [PyData.depth]
    omega
theorem eqb_of {k : Nat} {ds : List D} (h : ∀ d ∈ ds, Eqb1 k d) (hk : k ≤ 63) : Eqb ds := by
  obtain ⟨ps, h1, h2, h3⟩ := eqb1_all h
  refine ⟨ps, h1, ?_⟩
  unfold SeqAt.shaped
  rw [Bool.and_eq_true]
  refine ⟨h2, decide_eq_true ?_⟩
  simp only [PyData.depth]
  omega
theorem eqvt_nil {ds : List D} {ps : List PyData} (h : pyL ds = some ps) : PyData.eqv (.tuple ps) (.tuple []) = ds.isEmpty := by
  cases ds with
  | nil =>
    cases h
    rfl
  | cons d ds =>
    unfold pyL at h
    split at h
    · cases h
      rfl
    · cases h
section
variable {K : PySem.W.Frag} {Δ : Sl} {G L : List M} {Qd : Po}
theorem u_ne_t0 {ds : List D} (h : ∃ k, k ≤ 63 ∧ ∀ d ∈ ds, Eqb1 k d) (q : Qd (.d (.bl (!ds.isEmpty))) G L) : OpC K (uNe K) (.d (.tup ds)) (.d (.tup [])) Δ G L Qd := by
  obtain ⟨k, hk, h⟩ := h
  obtain ⟨ps, h1, h2, h3⟩ := eqb1_all h
  have sh : SeqAt.shaped (.tuple ps) = true := by
    unfold SeqAt.shaped
    rw [Bool.and_eq_true]
    refine ⟨h2, decide_eq_true ?_⟩
    simp only [PyData.depth]
    omega
  refine u_ne_d (a := .tup ds) (b := .tup []) rfl rfl (p := .tuple ps) (q := .tuple []) (by unfold D.py; rw [h1]) (by rfl) sh (by decide) ?_
  rw [eqvt_nil h1]
  exact q
theorem u_eq_t0 {ds : List D} (h : ∃ k, k ≤ 63 ∧ ∀ d ∈ ds, Eqb1 k d) (q : Qd (.d (.bl ds.isEmpty)) G L) : OpC K (uEq K) (.d (.tup ds)) (.d (.tup [])) Δ G L Qd := by
  obtain ⟨k, hk, h⟩ := h
  obtain ⟨ps, h1, h2, h3⟩ := eqb1_all h
  have sh : SeqAt.shaped (.tuple ps) = true := by
    unfold SeqAt.shaped
    rw [Bool.and_eq_true]
    refine ⟨h2, decide_eq_true ?_⟩
    simp only [PyData.depth]
    omega
  refine u_eq_d (a := .tup ds) (b := .tup []) rfl rfl (p := .tuple ps) (q := .tuple []) (by unfold D.py; rw [h1]) (by rfl) sh (by decide) ?_
  rw [eqvt_nil h1]
  exact q
theorem u_ix_int {x : S} {i : Int} {xs : List Int} (hx : seqG G L x = some (xs.map D.int)) (h0 : 0 ≤ i) (h1 : i < (xs.length : Nat)) (q : Qd (.d (.int (xs.getD i.toNat 0))) G L) : OpC K (rIx K) x (.d (.int i)) Δ G L Qd := by
  obtain ⟨n, rfl⟩ := Int.eq_ofNat_of_zero_le h0
  have hn : n < xs.length := by omega
  refine u_ix_g hx (atI_of (j := n) ?_ rfl) q
  rw [List.getElem?_map, List.getElem?_eq_getElem hn]
  show some (D.int xs[n]) = some (D.int (xs.getD n 0))
  rw [List.getD_eq_getElem?_getD, List.getElem?_eq_getElem hn]
  rfl
theorem rep_int (n : Nat) (z : Int) : (List.replicate n [D.int z]).flatten = (List.replicate n z).map D.int := by
  induction n with
  | zero => rfl
  | succ n ih =>
    rw [List.replicate_succ, List.flatten_cons, ih, List.replicate_succ]
    rfl
theorem asv_v {s : S} (k : Qd s G L) : asV Qd L (.v s) G := k
theorem evc_neg {te : TE} (h : EvC K te Δ G L fun s G1 L1 => ∃ i, s = .d (.int i) ∧ Qd (.d (.int (-i))) G1 L1) : EvC K (tUn (rU fun i => V.int (-i)) te) Δ G L Qd := fun w ls σ H c Q ret => h w ls σ H c _ fun v s H2 G2 L2 c2 e2 r2 ⟨i, hs, k⟩ => by
  subst hs
  exact ⟨i, r2, ret.go c2 e2 (s := .d (.int (-i))) rfl k⟩
theorem last_at {α : Type} (f : α → D) {xs : List α} (h : (xs.map f).isEmpty = false) : ∃ l, l ∈ xs ∧ atI (xs.map f) (-1) = some (f l) := by
  have hp : 0 < xs.length := by
    cases xs with
    | nil => cases h
    | cons _ _ => exact Nat.succ_pos _
  refine ⟨xs[xs.length - 1], List.getElem_mem _, ?_⟩
  unfold atI ixN
  rw [List.length_map, if_neg (by decide), if_pos (by omega)]
  have e : (-1 + ((xs.length : Nat) : Int)).toNat = xs.length - 1 := by omega
  show (xs.map f)[(-1 + ((xs.length : Nat) : Int)).toNat]? = _
  rw [e, List.getElem?_map, List.getElem?_eq_getElem (by omega)]
  rfl
end
end DL

open PySem L2 DL
local macro_rules | `(tactic| walk_at "side") => `(tactic| first | assumption | omega | rfl | (refine ⟨?_, ?_⟩ <;> omega) | decide)
local macro_rules | `(tactic| walk_at "d1") => `(tactic| with_reducible first
  | walk_at "own"
  | refine evc_int ?_
  | refine evc_str ?_
  | refine evc_bl ?_
  | refine evc_non ?_
  | refine evc_ref ?_
  | refine evc_ty ?_
  | refine evc_op ?_
  | refine eva_nil ?_
  | refine eva_cons ?_
  | refine evb_test ?_
  | refine evb_B ?_
  | refine evb_and ?_
  | refine evb_or ?_
  | refine evb_not ?_
  | refine evb_yes ?_
  | refine evc_if ?_
  | refine evc_andV ?_
  | refine evc_orV ?_
  | refine evc_notV ?_
  | refine evc_chain ?_
  | refine evc_cb ?_
  | refine evc_sl ?_
  | refine evo_none ?_
  | refine evo_some ?_
  | refine evc_bm ?_
  | refine evc_bm0 ?_
  | refine evc_m0 ?_
  | refine evc_m1 ?_
  | refine evc_call ?_
  | refine st_seq ?_
  | refine st_next ?_
  | refine st_break ?_
  | refine st_cont ?_
  | refine st_asg ?_
  | refine st_asgT ?_
  | refine st_if ?_
  | refine st_ret ?_
  | refine st_retN ?_
  | refine st_drop ?_
  | (refine tg_name ?hi ?_; (case hi => first | exact trivial | decide | (show _ ∈ _; decide)))
  | refine tgs_nil ?_
  | refine tgs_cons ?_
  | refine tg_sub ?_
  | refine evc_tup ?_
  | refine evi_seq ?_
  | refine evi_rng1 ?_
  | refine evi_rng2 ?_
  | (refine evn_c ?_; refine evn_lst ?_)
  | (refine evn_c ?_; refine evn_revU ?_)
  | refine evn_lst ?_
  | refine evn_revU ?_
  | refine evn_cb ?_
  | refine evn_sl ?_
  | refine evn_op ?_
  | refine u_add_i ?_
  | refine opc_I0i ?_
  | refine pow10_6 ?_
  | refine pow10_9 ?_
  | refine pow10_12 ?_
  | refine pow10_15 ?_
  | refine pow10_18 ?_
  | refine pow10_39 ?_
  | refine opc_I0b ?_
  | refine u_eq_i ?_
  | refine u_ne_i ?_
  | refine u_eq_s ?_
  | refine u_ne_s ?_
  | refine ap_int ?_
  | refine ap_intB ?_
  | refine ap_max2 ?_
  | refine ap_min2 ?_
  | refine u_isB ?_
  | refine u_notB ?_
  | refine u_eq_b ?_
  | refine u_ne_b ?_
  | refine isi_ii ?_
  | refine isi_ib ?_
  | refine isi_bb ?_
  | refine isi_bi ?_
  | refine isi_tt ?_
  | refine isi_ss ?_
  | refine st_augS ?_
  | refine opc_ip ?_
  | refine asv_v ?_
  | refine evc_neg ?_
  | refine ⟨_, rfl, ?_⟩
  | refine iteTT ?_
  | refine iteFF ?_
  | refine iteNT ?_
  | refine iteNF ?_)
local macro_rules | `(tactic| walk_at "seq") => `(tactic| first | (refine ⟨_, rfl, ?_⟩) | (refine ⟨_, lsG_g (by assumption), ?_⟩) | (refine ⟨_, lsG_l (by assumption), ?_⟩) | (refine ⟨_, seqG_g (by assumption), ?_⟩) | (refine ⟨_, seqG_l (by assumption), ?_⟩) | (refine ⟨_, hlG_g (by assumption), ?_⟩))
local macro_rules | `(tactic| walk_at "d2") => `(tactic| first
  | (with_reducible refine evc_varX ?_; refine ⟨_, rfl, ?_⟩)
  | (refine tg_tup ?hn ?_; (case hn => exact rfl); dsimp only [List.map])
  | (with_reducible refine u_mulT_i ?hc ?_; (case hc => first | exact mulL (by omega) (by omega) | exact mulR (by omega) (by omega)))
  | (with_reducible refine u_mul_i ?hc ?_; (case hc => first | exact mulL (by omega) (by omega) | exact mulR (by omega) (by omega)))
  | (with_reducible refine opc_Ii ?hc ?_; (case hc => first | omega | exact divW (by omega) (by omega)))
  | (with_reducible refine u_ix_hX ?_; walk_at "seq"; refine ⟨_, rfl, ?_⟩)
  | (with_reducible refine u_ix_gX ?_; walk_at "seq"; refine ⟨_, rfl, ?_⟩)
  | (with_reducible refine apn_c (ap_listX ?_); walk_at "seq")
  | (with_reducible refine ap_listX ?_; walk_at "seq")
  | (with_reducible refine ap_tupleX ?_; walk_at "seq")
  | (with_reducible refine ap_lenX ?_; walk_at "seq")
  | (with_reducible refine ap_lenS ?hx ?_; (case hx => walk_at "side"))
  | (with_reducible refine u_ne_nilX ?_; refine ⟨rfl, ?_⟩; walk_at "seq")
  | (with_reducible refine u_eq_nilX ?_; refine ⟨rfl, ?_⟩; walk_at "seq")
  | (with_reducible refine u_in_iX ?_; refine ⟨_, rfl, ?_⟩)
  | (with_reducible refine u_in_sX ?_; refine ⟨_, rfl, ?_⟩)
  | (with_reducible refine u_nin_iX ?_; refine ⟨_, rfl, ?_⟩)
  | (with_reducible refine u_nin_sX ?_; refine ⟨_, rfl, ?_⟩)
  | (with_reducible refine opc_orl (opc_I0i ?_))
  | (with_reducible refine opn_c (u_add_lX ?_); walk_at "seq"; walk_at "seq")
  | (with_reducible refine u_add_lX ?_; walk_at "seq"; walk_at "seq")
  | (with_reducible refine opn_c (u_mulT_lX ?_); walk_at "seq"; refine ⟨⟨by omega, by omega, le_line (Nat.le_of_ble_eq_true rfl)⟩, ?_⟩)
  | (with_reducible refine opn_c (u_mul_lX ?_); walk_at "seq"; refine ⟨⟨by omega, by omega, le_line (Nat.le_of_ble_eq_true rfl)⟩, ?_⟩)
  | (refine ⟨le_line (Nat.le_of_ble_eq_true rfl), ?_⟩)
  | (refine ⟨tyS_l rfl, ?_⟩)
  | (refine ⟨tyS_g (by assumption), ?_⟩)
  | (refine ⟨_, rfl, ?_⟩)
  | (refine ⟨_, _, rfl, rfl, ?_⟩)
  | (refine ⟨_, _, rfl, ?_⟩)
  | (refine ⟨(rfl : noL _ = true), ?_⟩))
local macro_rules | `(tactic| walk_at "d3") => `(tactic| first
  | (with_reducible refine evc_varX ?_; refine ⟨_, rfl, ?_⟩)
  | (refine tg_tup ?hn ?_; (case hn => exact rfl); dsimp only [List.map])
  | (with_reducible refine u_mulT_i ?hc ?_; (case hc => first | exact mulL (by omega) (by omega) | exact mulR (by omega) (by omega)))
  | (with_reducible refine u_mul_i ?hc ?_; (case hc => first | exact mulL (by omega) (by omega) | exact mulR (by omega) (by omega)))
  | (with_reducible refine opc_Ii ?hc ?_; (case hc => first | omega | exact divW (by omega) (by omega)))
  | (with_reducible refine apn_c (ap_listX ?_); walk_at "seq")
  | (with_reducible refine ap_listX ?_; walk_at "seq")
  | (with_reducible refine ap_tupleX ?_; walk_at "seq")
  | (with_reducible refine ap_lenX ?_; walk_at "seq")
  | (with_reducible refine ap_lenS ?hx ?_; (case hx => walk_at "side"))
  | (with_reducible refine u_ne_nilX ?_; refine ⟨rfl, ?_⟩; walk_at "seq")
  | (with_reducible refine u_eq_nilX ?_; refine ⟨rfl, ?_⟩; walk_at "seq")
  | (with_reducible refine u_in_iX ?_; refine ⟨_, rfl, ?_⟩)
  | (with_reducible refine u_in_sX ?_; refine ⟨_, rfl, ?_⟩)
  | (with_reducible refine u_nin_iX ?_; refine ⟨_, rfl, ?_⟩)
  | (with_reducible refine u_nin_sX ?_; refine ⟨_, rfl, ?_⟩)
  | (with_reducible refine opc_orl (opc_I0i ?_))
  | (with_reducible refine opn_c (u_add_lX ?_); walk_at "seq"; walk_at "seq")
  | (with_reducible refine u_add_lX ?_; walk_at "seq"; walk_at "seq")
  | (with_reducible refine opn_c (u_mulT_lX ?_); walk_at "seq"; refine ⟨⟨by omega, by omega, le_line (Nat.le_of_ble_eq_true rfl)⟩, ?_⟩)
  | (with_reducible refine opn_c (u_mul_lX ?_); walk_at "seq"; refine ⟨⟨by omega, by omega, le_line (Nat.le_of_ble_eq_true rfl)⟩, ?_⟩)
  | (refine ⟨le_line (Nat.le_of_ble_eq_true rfl), ?_⟩)
  | (refine ⟨tyS_l rfl, ?_⟩)
  | (refine ⟨tyS_g (by assumption), ?_⟩)
  | (refine ⟨_, rfl, ?_⟩)
  | (refine ⟨_, _, rfl, rfl, ?_⟩)
  | (refine ⟨_, _, rfl, ?_⟩)
  | (refine ⟨(rfl : noL _ = true), ?_⟩))
local macro_rules | `(tactic| walk_at "go1") => `(tactic| repeat (first | walk_at "d1" | walk_at "d3"))
local macro_rules | `(tactic| walk_at "go") => `(tactic| repeat (first | walk_at "d1" | walk_at "d2"))
local macro_rules | `(tactic| walk_at "f1") => `(tactic| first
  | (with_reducible refine u_add_sF ?hl ?_; (case hl => omega); intro _ _)
  | (with_reducible refine u_add_sR 0 ?hm ?hl ?_; (case hm => decide); (case hl => omega); intro _ _)
  | (with_reducible refine u_add_sR 1 ?hm ?hl ?_; (case hm => decide); (case hl => omega); intro _ _)
  | (with_reducible refine u_add_sR 2 ?hm ?hl ?_; (case hm => decide); (case hl => omega); intro _ _)
  | (with_reducible refine u_add_sR 3 ?hm ?hl ?_; (case hm => decide); (case hl => omega); intro _ _)
  | (with_reducible refine u_add_sR 4 ?hm ?hl ?_; (case hm => decide); (case hl => omega); intro _ _)
  | (with_reducible refine u_add_sR 5 ?hm ?hl ?_; (case hm => decide); (case hl => omega); intro _ _)
  | (with_reducible refine u_add_sR 6 ?hm ?hl ?_; (case hm => decide); (case hl => omega); intro _ _)
  | (with_reducible refine u_add_sR 7 ?hm ?hl ?_; (case hm => decide); (case hl => omega); intro _ _)
  | (with_reducible refine u_add_sR 8 ?hm ?hl ?_; (case hm => decide); (case hl => omega); intro _ _)
  | (with_reducible refine u_add_sLm 0 ?hm ?hl ?_; (case hm => decide); (case hl => omega); intro _ _)
  | (with_reducible refine u_add_sLm 1 ?hm ?hl ?_; (case hm => decide); (case hl => omega); intro _ _)
  | (with_reducible refine u_add_sLm 2 ?hm ?hl ?_; (case hm => decide); (case hl => omega); intro _ _)
  | (with_reducible refine u_add_sLm 3 ?hm ?hl ?_; (case hm => decide); (case hl => omega); intro _ _)
  | (with_reducible refine u_add_sLm 4 ?hm ?hl ?_; (case hm => decide); (case hl => omega); intro _ _)
  | (with_reducible refine u_add_sLm 5 ?hm ?hl ?_; (case hm => decide); (case hl => omega); intro _ _)
  | (with_reducible refine u_add_sLm 6 ?hm ?hl ?_; (case hm => decide); (case hl => omega); intro _ _)
  | (with_reducible refine u_add_sLm 7 ?hm ?hl ?_; (case hm => decide); (case hl => omega); intro _ _)
  | (with_reducible refine u_add_sLm 8 ?hm ?hl ?_; (case hm => decide); (case hl => omega); intro _ _)
  | (with_reducible refine sl_sF ?hl ?_; (case hl => omega); intro _ _)
  | (with_reducible refine mt_upperF ?hl ?_; (case hl => omega); intro _ _)
  | (with_reducible refine ap_lenSF ?hl ?_; (case hl => omega))
  | (refine ⟨⟨_, rfl⟩, ?_⟩))
local macro_rules | `(tactic| walk_at "f1") => `(tactic| first
  | (with_reducible refine u_txmul ?hm ?_; (case hm => first | (refine ⟨?_, ?_, ?_, ?_⟩ <;> decide) | (refine ⟨?_, ?_, ?_, ?_⟩ <;> omega)); intro _ _))
local macro_rules | `(tactic| walk_at "gof") => `(tactic| repeat (first | walk_at "f1" | walk_at "d1" | walk_at "d2"))

namespace Pf
open PySem L2 DL
def top (i : Nat) : Stmt := PySem.Challenge.pw_littlemasters_k37_payments_of_any_hand.main.body.getD i (.Pass ⟨0, 0, 0, 0⟩)
abbrev s_l_draw : Stmt := top 8
theorem sc_l_draw : FnScope ["_law_deck_here", "_law_most", "_law_cell", "_law_number"] ["_law_deck_here", "_law_most"] (defScope s_l_draw) := ⟨rfl, rfl, rfl, by decide +kernel, rfl, by decide +kernel, by decide +kernel⟩
abbrev s_is_whole : Stmt := top 1
theorem sc_is_whole : FnScope ["thing"] ["thing"] (defScope s_is_whole) := ⟨rfl, rfl, rfl, by decide +kernel, rfl, by decide +kernel, by decide +kernel⟩
abbrev s_l_whole : Stmt := top 10
theorem sc_l_whole : FnScope ["_law_thing"] ["_law_thing"] (defScope s_l_whole) := ⟨rfl, rfl, rfl, by decide +kernel, rfl, by decide +kernel, by decide +kernel⟩
abbrev s_is_number_of : Stmt := top 2
theorem sc_is_number_of : FnScope ["many", "thing"] ["many", "thing"] (defScope s_is_number_of) := ⟨rfl, rfl, rfl, by decide +kernel, rfl, by decide +kernel, by decide +kernel⟩
abbrev s_is_payment : Stmt := top 3
theorem sc_is_payment : FnScope ["many", "thing", "payer", "taker", "pence"] ["many", "thing"] (defScope s_is_payment) := ⟨rfl, rfl, rfl, by decide +kernel, rfl, by decide +kernel, by decide +kernel⟩
abbrev s_left_behind : Stmt := top 4
theorem sc_left_behind : FnScope ["balances", "payments", "left", "payer", "taker", "pence"] ["balances", "payments"] (defScope s_left_behind) := ⟨rfl, rfl, rfl, by decide +kernel, rfl, by decide +kernel, by decide +kernel⟩
abbrev s_settles_holds : Stmt := top 5
theorem sc_settles_holds : FnScope ["balances", "thing", "one"] ["balances", "thing"] (defScope s_settles_holds) := ⟨rfl, rfl, rfl, by decide +kernel, rfl, by decide +kernel, by decide +kernel⟩
abbrev s_l_deck : Stmt := top 7
theorem sc_l_deck : FnScope ["_law_script", "_law_cells", "_law_seed", "_law_cell"] ["_law_script"] (defScope s_l_deck) := ⟨rfl, rfl, rfl, by decide +kernel, rfl, by decide +kernel, by decide +kernel⟩
abbrev s_l_shuffled : Stmt := top 9
theorem sc_l_shuffled : FnScope ["_law_deck_here", "_law_some", "_law_left", "_law_found"] ["_law_deck_here", "_law_some"] (defScope s_l_shuffled) := ⟨rfl, rfl, rfl, by decide +kernel, rfl, by decide +kernel, by decide +kernel⟩
abbrev s_l_settles : Stmt := top 11
theorem sc_l_settles : FnScope ["_law_balances_here", "_law_thing", "_law_due", "_law_one", "_law_part", "_law_payer", "_law_taker", "_law_pence"] ["_law_balances_here", "_law_thing"] (defScope s_l_settles) := ⟨rfl, rfl, rfl, by decide +kernel, rfl, by decide +kernel, by decide +kernel⟩
abbrev s_l_payments : Stmt := top 12
theorem sc_l_payments : FnScope ["_law_deck_here", "_law_many", "_law_count", "_law_unit", "_law_found", "_law_k", "_law_way", "_law_payer", "_law_taker", "_law_one"] ["_law_deck_here", "_law_many"] (defScope s_l_payments) := ⟨rfl, rfl, rfl, by decide +kernel, rfl, by decide +kernel, by decide +kernel⟩
abbrev s_l_balances : Stmt := top 13
theorem sc_l_balances : FnScope ["_law_many", "_law_payments_here", "_law_found", "_law_payer", "_law_taker", "_law_pence"] ["_law_many", "_law_payments_here"] (defScope s_l_balances) := ⟨rfl, rfl, rfl, by decide +kernel, rfl, by decide +kernel, by decide +kernel⟩
abbrev s_l_otherwise : Stmt := top 14
theorem sc_l_otherwise : FnScope ["_law_deck_here", "_law_payments_here", "_law_many", "_law_at", "_law_payer", "_law_taker", "_law_pence", "_law_other", "_law_some"] ["_law_deck_here", "_law_payments_here", "_law_many"] (defScope s_l_otherwise) := ⟨rfl, rfl, rfl, by decide +kernel, rfl, by decide +kernel, by decide +kernel⟩
abbrev s_l_right : Stmt := top 15
theorem sc_l_right : FnScope ["_law_balances_here", "_law_thing", "_law_due", "_law_turn", "_law_found"] ["_law_balances_here", "_law_thing"] (defScope s_l_right) := ⟨rfl, rfl, rfl, by decide +kernel, rfl, by decide +kernel, by decide +kernel⟩
abbrev s_law : Stmt := top 16
theorem sc_law : FnScope ["_law_script", "_law_deck_here", "_law_turn", "_law_many", "_law_payments_here", "_law_balances_here", "_law_some", "_law_again", "_law_other"] ["_law_script"] (defScope s_law) := ⟨rfl, rfl, rfl, by decide +kernel, rfl, by decide +kernel, by decide +kernel⟩
structure TX (w : World) (K : PySem.W.Frag) (mg : Str → Option Value) where
  a_l_draw : Addr
  fd_l_draw : FuncData
  F_l_draw : Fun K "_law_draw" "_law_draw" s_l_draw a_l_draw fd_l_draw
  m_l_draw : mg "_law_draw" = some (.ref a_l_draw)
  k_l_draw : PySem.W.keepIn K (.ref a_l_draw) = true
  b_l_draw : Binds K fd_l_draw ["_law_deck_here", "_law_most"] []
  a_is_whole : Addr
  fd_is_whole : FuncData
  F_is_whole : Fun K "is_whole" "is_whole" s_is_whole a_is_whole fd_is_whole
  m_is_whole : mg "is_whole" = some (.ref a_is_whole)
  k_is_whole : PySem.W.keepIn K (.ref a_is_whole) = true
  b_is_whole : Binds K fd_is_whole ["thing"] []
  a_l_whole : Addr
  fd_l_whole : FuncData
  F_l_whole : Fun K "_law_whole" "_law_whole" s_l_whole a_l_whole fd_l_whole
  m_l_whole : mg "_law_whole" = some (.ref a_l_whole)
  k_l_whole : PySem.W.keepIn K (.ref a_l_whole) = true
  b_l_whole : Binds K fd_l_whole ["_law_thing"] []
  a_is_number_of : Addr
  fd_is_number_of : FuncData
  F_is_number_of : Fun K "is_number_of" "is_number_of" s_is_number_of a_is_number_of fd_is_number_of
  m_is_number_of : mg "is_number_of" = some (.ref a_is_number_of)
  k_is_number_of : PySem.W.keepIn K (.ref a_is_number_of) = true
  b_is_number_of : Binds K fd_is_number_of ["many", "thing"] []
  a_is_payment : Addr
  fd_is_payment : FuncData
  F_is_payment : Fun K "is_payment" "is_payment" s_is_payment a_is_payment fd_is_payment
  m_is_payment : mg "is_payment" = some (.ref a_is_payment)
  k_is_payment : PySem.W.keepIn K (.ref a_is_payment) = true
  b_is_payment : Binds K fd_is_payment ["many", "thing"] []
  a_left_behind : Addr
  fd_left_behind : FuncData
  F_left_behind : Fun K "left_behind" "left_behind" s_left_behind a_left_behind fd_left_behind
  m_left_behind : mg "left_behind" = some (.ref a_left_behind)
  k_left_behind : PySem.W.keepIn K (.ref a_left_behind) = true
  b_left_behind : Binds K fd_left_behind ["balances", "payments"] []
  a_settles_holds : Addr
  fd_settles_holds : FuncData
  F_settles_holds : Fun K "settles_holds" "settles_holds" s_settles_holds a_settles_holds fd_settles_holds
  m_settles_holds : mg "settles_holds" = some (.ref a_settles_holds)
  k_settles_holds : PySem.W.keepIn K (.ref a_settles_holds) = true
  b_settles_holds : Binds K fd_settles_holds ["balances", "thing"] []
  a_l_deck : Addr
  fd_l_deck : FuncData
  F_l_deck : Fun K "_law_deck" "_law_deck" s_l_deck a_l_deck fd_l_deck
  m_l_deck : mg "_law_deck" = some (.ref a_l_deck)
  k_l_deck : PySem.W.keepIn K (.ref a_l_deck) = true
  b_l_deck : Binds K fd_l_deck ["_law_script"] []
  a_l_shuffled : Addr
  fd_l_shuffled : FuncData
  F_l_shuffled : Fun K "_law_shuffled" "_law_shuffled" s_l_shuffled a_l_shuffled fd_l_shuffled
  m_l_shuffled : mg "_law_shuffled" = some (.ref a_l_shuffled)
  k_l_shuffled : PySem.W.keepIn K (.ref a_l_shuffled) = true
  b_l_shuffled : Binds K fd_l_shuffled ["_law_deck_here", "_law_some"] []
  a_l_settles : Addr
  fd_l_settles : FuncData
  F_l_settles : Fun K "_law_settles" "_law_settles" s_l_settles a_l_settles fd_l_settles
  m_l_settles : mg "_law_settles" = some (.ref a_l_settles)
  k_l_settles : PySem.W.keepIn K (.ref a_l_settles) = true
  b_l_settles : Binds K fd_l_settles ["_law_balances_here", "_law_thing"] []
  a_l_payments : Addr
  fd_l_payments : FuncData
  F_l_payments : Fun K "_law_payments" "_law_payments" s_l_payments a_l_payments fd_l_payments
  m_l_payments : mg "_law_payments" = some (.ref a_l_payments)
  k_l_payments : PySem.W.keepIn K (.ref a_l_payments) = true
  b_l_payments : Binds K fd_l_payments ["_law_deck_here", "_law_many"] []
  a_l_balances : Addr
  fd_l_balances : FuncData
  F_l_balances : Fun K "_law_balances" "_law_balances" s_l_balances a_l_balances fd_l_balances
  m_l_balances : mg "_law_balances" = some (.ref a_l_balances)
  k_l_balances : PySem.W.keepIn K (.ref a_l_balances) = true
  b_l_balances : Binds K fd_l_balances ["_law_many", "_law_payments_here"] []
  a_l_otherwise : Addr
  fd_l_otherwise : FuncData
  F_l_otherwise : Fun K "_law_otherwise" "_law_otherwise" s_l_otherwise a_l_otherwise fd_l_otherwise
  m_l_otherwise : mg "_law_otherwise" = some (.ref a_l_otherwise)
  k_l_otherwise : PySem.W.keepIn K (.ref a_l_otherwise) = true
  b_l_otherwise : Binds K fd_l_otherwise ["_law_deck_here", "_law_payments_here", "_law_many"] []
  a_l_right : Addr
  fd_l_right : FuncData
  F_l_right : Fun K "_law_right" "_law_right" s_l_right a_l_right fd_l_right
  m_l_right : mg "_law_right" = some (.ref a_l_right)
  k_l_right : PySem.W.keepIn K (.ref a_l_right) = true
  b_l_right : Binds K fd_l_right ["_law_balances_here", "_law_thing"] []
  a_law : Addr
  fd_law : FuncData
  F_law : Fun K "law" "law" s_law a_law fd_law
  m_law : mg "law" = some (.ref a_law)
  k_law : PySem.W.keepIn K (.ref a_law) = true
  b_law : Binds K fd_law ["_law_script"] []
  z_all : mg "all" = none
  z_any : mg "any" = none
  z_bool : mg "bool" = none
  z_int : mg "int" = none
  z_isinstance : mg "isinstance" = none
  z_len : mg "len" = none
  z_list : mg "list" = none
  z_max : mg "max" = none
  z_min : mg "min" = none
  z_range : mg "range" = none
  z_tuple : mg "tuple" = none
end Pf
namespace Pf
open PySem L2 DL
/-! the deck: a list [cells, seed, count], the cells a list of ints -/
structure Dk (G : List M) (k c : Nat) (n : Int) (cells : List Int) (seed cnt : Int) : Prop where
  hk : G[k]? = some (.hl [.g c, .d (.int seed), .d (.int cnt)])
  hc : G[c]? = some (.pl (cells.map D.int))
  ne : k ≠ c
  s0 : 0 ≤ seed
  s1 : seed < 2 ^ 62
  n0 : 0 ≤ cnt
  n1 : cnt ≤ n
  cl : cells.length ≤ 1000
def dkSet (G : List M) (k c : Nat) (cells : List Int) (seed cnt : Int) : List M := (G.set c (.pl (cells.map D.int))).set k (.hl [.g c, .d (.int seed), .d (.int cnt)])
/-- what a draw leaves: the deck itself otherwise, all else as it was -/
def DkTo (G : List M) (k c : Nat) (n : Int) (G' : List M) : Prop := ∃ cells seed cnt, G' = dkSet G k c cells seed cnt ∧ Dk G' k c n cells seed cnt
theorem dkTo_mk {G : List M} {k c : Nat} {n : Int} {cells : List Int} {seed cnt : Int} {x y : M} (hk : G[k]? = some x) (hc : G[c]? = some y) (ne : k ≠ c) (s0 : 0 ≤ seed) (s1 : seed < 2 ^ 62) (n0 : 0 ≤ cnt) (n1 : cnt ≤ n) (cl : cells.length ≤ 1000) :
    DkTo G k c n ((G.set k (.hl [.g c, .d (.int seed), .d (.int cnt)])).set c (.pl (cells.map D.int))) := by
  refine ⟨cells, seed, cnt, set_comm ne, ?_⟩
  rw [set_comm ne]
  exact ⟨set_at ((set_off ne).trans hk), by rw [set_off (Ne.symm ne)]; exact set_at hc, ne, s0, s1, n0, n1, cl⟩
def sp_l_draw : DSpec := fun ss G Q => ∃ (k c : Nat) (m n : Int) (cells : List Int) (seed cnt : Int), ss = [.g k, .d (.int m)] ∧ Dk G k c n cells seed cnt ∧ n ≤ 2 ^ 32 ∧ 0 < m ∧ m < 2 ^ 40 ∧
  ∀ r G', DkTo G k c (n + 1) G' → 0 ≤ r → r < m → Q (.v (.d (.int r))) G'
theorem DkTo.dk {G G' : List M} {k c : Nat} {n : Int} (h : DkTo G k c n G') : ∃ cells seed cnt, Dk G' k c n cells seed cnt := let ⟨a, b, d, _, e⟩ := h; ⟨a, b, d, e⟩
theorem DkTo.trans {G G1 G2 : List M} {k c : Nat} {n m : Int} (h : DkTo G k c n G1) (h2 : DkTo G1 k c m G2) : DkTo G k c m G2 := by
  obtain ⟨a, b, d, rfl, q⟩ := h
  obtain ⟨a', b', d', rfl, q'⟩ := h2
  refine ⟨a', b', d', ?_, q'⟩
  unfold dkSet
  rw [set_comm (Ne.symm q'.ne), set_set, set_comm q'.ne, set_set]
theorem DkTo.refl {G : List M} {k c : Nat} {n : Int} {cells : List Int} {seed cnt : Int} (h : Dk G k c n cells seed cnt) : DkTo G k c n G := by
  refine ⟨cells, seed, cnt, ?_, h⟩
  unfold dkSet
  rw [set_same h.hc, set_same h.hk]
theorem DkTo.mono {G G' : List M} {k c : Nat} {n m : Int} (h : DkTo G k c n G') (e : n ≤ m) : DkTo G k c m G' := by
  obtain ⟨a, b, d, rfl, q⟩ := h
  exact ⟨a, b, d, rfl, ⟨q.hk, q.hc, q.ne, q.s0, q.s1, q.n0, Int.le_trans q.n1 e, q.cl⟩⟩
theorem draw_use {G : List M} {k c : Nat} {m n : Int} {cells : List Int} {seed cnt : Int} {Q : Res → List M → Prop} (h : Dk G k c n cells seed cnt) (h1 : n ≤ 2 ^ 32) (h2 : 0 < m) (h3 : m < 2 ^ 40)
    (k' : ∀ r G' cells' seed' cnt', DkTo G k c (n + 1) G' → Dk G' k c (n + 1) cells' seed' cnt' → 0 ≤ r → r < m → Q (.v (.d (.int r))) G') : sp_l_draw [.g k, .d (.int m)] G Q :=
  ⟨k, c, m, n, cells, seed, cnt, rfl, h, h1, h2, h3, fun r G' t a b => let ⟨x, y, z, q⟩ := t.dk; k' r G' x y z t q a b⟩
def sp_l_deck : DSpec := fun ss G Q => ∃ ns : List Int, ss = [.d (.scr ns)] ∧ ns.length ≤ 63 ∧ ∀ (cells : List Int) (seed : Int), cells.length ≤ 63 → 0 ≤ seed → seed < 2 ^ 62 → Q (.new [.pl (cells.map D.int), .hl [.l 0, .d (.int seed), .d (.int 0)]] 1) G
/-! payments: payer, taker, pence -/
abbrev Pay := Int × Int × Int
abbrev payD (p : Pay) : D := .tup [.int p.1, .int p.2.1, .int p.2.2]
abbrev paysD (ps : List Pay) : D := .tup (ps.map payD)
def numB (m z : Int) : Bool := decide (0 ≤ z) && decide (z < m)
def okP (m : Int) (p : Pay) : Bool := numB m p.1 && numB m p.2.1 && !decide (p.1 = p.2.1) && decide (1 ≤ p.2.2)
def stepL (l : List Int) (p : Pay) : List Int :=
  let l1 := l.set p.1.toNat (l.getD p.1.toNat 0 + p.2.2)
  l1.set p.2.1.toNat (l1.getD p.2.1.toNat 0 - p.2.2)
def stepD (l : List Int) (p : Pay) : List Int :=
  let l1 := l.set p.2.1.toNat (l.getD p.2.1.toNat 0 + p.2.2)
  l1.set p.1.toNat (l1.getD p.1.toNat 0 - p.2.2)
def leftL (bs : List Int) (ps : List Pay) : List Int := ps.foldl stepL bs
def dueL (l : List Int) (ps : List Pay) : List Int := ps.foldl stepD l
def con (p : Pay) (i : Nat) : Int := (if p.2.1.toNat = i then p.2.2 else 0) - (if p.1.toNat = i then p.2.2 else 0)
def net : List Pay → Nat → Int
  | [], _ => 0
  | p :: ps, i => con p i + net ps i
theorem okP_num {m : Int} {p : Pay} (h : okP m p = true) : (0 ≤ p.1 ∧ p.1 < m) ∧ (0 ≤ p.2.1 ∧ p.2.1 < m) ∧ p.1 ≠ p.2.1 ∧ 1 ≤ p.2.2 := by
  unfold okP numB at h
  simp only [Bool.and_eq_true, decide_eq_true_eq, Bool.not_eq_true', decide_eq_false_iff_not] at h
  exact ⟨h.1.1.1, h.1.1.2, h.1.2, h.2⟩
theorem okP_mk {m : Int} {p : Pay} (h1 : 0 ≤ p.1 ∧ p.1 < m) (h2 : 0 ≤ p.2.1 ∧ p.2.1 < m) (h3 : p.1 ≠ p.2.1) (h4 : 1 ≤ p.2.2) : okP m p = true := by
  unfold okP numB
  simp only [Bool.and_eq_true, decide_eq_true_eq, Bool.not_eq_true', decide_eq_false_iff_not]
  exact ⟨⟨⟨h1, h2⟩, h3⟩, h4⟩
theorem okP_no {m : Int} {p : Pay} (h : ¬ ((0 ≤ p.1 ∧ p.1 < m) ∧ (0 ≤ p.2.1 ∧ p.2.1 < m) ∧ p.1 ≠ p.2.1 ∧ 1 ≤ p.2.2)) : okP m p = false := by
  cases e : okP m p with
  | false => rfl
  | true => exact absurd (okP_num e) h
theorem stepL_len (l : List Int) (p : Pay) : (stepL l p).length = l.length := by simp [stepL]
theorem stepD_len (l : List Int) (p : Pay) : (stepD l p).length = l.length := by simp [stepD]
theorem leftL_len : ∀ (ps : List Pay) (l : List Int), (leftL l ps).length = l.length
  | [], _ => rfl
  | p :: ps, l => (leftL_len ps (stepL l p)).trans (stepL_len l p)
theorem dueL_len : ∀ (ps : List Pay) (l : List Int), (dueL l ps).length = l.length
  | [], _ => rfl
  | p :: ps, l => (dueL_len ps (stepD l p)).trans (stepD_len l p)
theorem getD_set (l : List Int) (i j : Nat) (z : Int) (h : i < l.length) : (l.set i z).getD j 0 = if i = j then z else l.getD j 0 := by
  rw [List.getD_eq_getElem?_getD, List.getD_eq_getElem?_getD, List.getElem?_set]
  by_cases e : i = j
  · subst e
    rw [if_pos rfl, if_pos rfl, if_pos h]
    rfl
  · rw [if_neg e, if_neg e]
theorem stepL_get {l : List Int} {p : Pay} (h : okP l.length p = true) (i : Nat) : (stepL l p).getD i 0 = l.getD i 0 - con p i := by
  obtain ⟨⟨a0, a1⟩, ⟨b0, b1⟩, ne, _⟩ := okP_num h
  have ha : p.1.toNat < l.length := by omega
  have hb : p.2.1.toNat < (l.set p.1.toNat (l.getD p.1.toNat 0 + p.2.2)).length := by rw [List.length_set]; omega
  have hne : p.1.toNat ≠ p.2.1.toNat := by omega
  unfold stepL con
  show ((l.set p.1.toNat (l.getD p.1.toNat 0 + p.2.2)).set p.2.1.toNat ((l.set p.1.toNat (l.getD p.1.toNat 0 + p.2.2)).getD p.2.1.toNat 0 - p.2.2)).getD i 0 = _
  rw [getD_set _ _ _ _ hb, getD_set _ _ _ _ ha, getD_set _ _ _ _ ha, if_neg hne]
  by_cases e1 : p.2.1.toNat = i
  · have e2 : ¬ p.1.toNat = i := fun e => hne (e.trans e1.symm)
    rw [if_pos e1, if_pos e1, if_neg e2, e1]
    omega
  · rw [if_neg e1, if_neg e1]
    by_cases e2 : p.1.toNat = i
    · rw [if_pos e2, if_pos e2, e2]
      omega
    · rw [if_neg e2, if_neg e2]
      omega
theorem stepD_get {l : List Int} {p : Pay} (h : okP l.length p = true) (i : Nat) : (stepD l p).getD i 0 = l.getD i 0 + con p i := by
  obtain ⟨⟨a0, a1⟩, ⟨b0, b1⟩, ne, _⟩ := okP_num h
  have ha : p.2.1.toNat < l.length := by omega
  have hb : p.1.toNat < (l.set p.2.1.toNat (l.getD p.2.1.toNat 0 + p.2.2)).length := by rw [List.length_set]; omega
  have hne : p.2.1.toNat ≠ p.1.toNat := by omega
  unfold stepD con
  show ((l.set p.2.1.toNat (l.getD p.2.1.toNat 0 + p.2.2)).set p.1.toNat ((l.set p.2.1.toNat (l.getD p.2.1.toNat 0 + p.2.2)).getD p.1.toNat 0 - p.2.2)).getD i 0 = _
  rw [getD_set _ _ _ _ hb, getD_set _ _ _ _ ha, getD_set _ _ _ _ ha, if_neg hne]
  by_cases e1 : p.1.toNat = i
  · have e2 : ¬ p.2.1.toNat = i := fun e => hne (e.trans e1.symm)
    rw [if_pos e1, if_pos e1, if_neg e2, e1]
    omega
  · rw [if_neg e1, if_neg e1]
    by_cases e2 : p.2.1.toNat = i
    · rw [if_pos e2, if_pos e2, e2]
      omega
    · rw [if_neg e2, if_neg e2]
      omega
theorem leftL_get : ∀ (ps : List Pay) (l : List Int), (∀ p ∈ ps, okP l.length p = true) → ∀ i, (leftL l ps).getD i 0 = l.getD i 0 - net ps i
  | [], l, _, i => by
    show l.getD i 0 = l.getD i 0 - 0
    omega
  | p :: ps, l, h, i => by
    have h1 := stepL_get (h p List.mem_cons_self) i
    have h2 := leftL_get ps (stepL l p) (fun q hq => by rw [stepL_len]; exact h q (List.mem_cons_of_mem _ hq)) i
    show (leftL (stepL l p) ps).getD i 0 = l.getD i 0 - (con p i + net ps i)
    omega
theorem dueL_get : ∀ (ps : List Pay) (l : List Int), (∀ p ∈ ps, okP l.length p = true) → ∀ i, (dueL l ps).getD i 0 = l.getD i 0 + net ps i
  | [], l, _, i => by
    show l.getD i 0 = l.getD i 0 + 0
    omega
  | p :: ps, l, h, i => by
    have h1 := stepD_get (h p List.mem_cons_self) i
    have h2 := dueL_get ps (stepD l p) (fun q hq => by rw [stepD_len]; exact h q (List.mem_cons_of_mem _ hq)) i
    show (dueL (stepD l p) ps).getD i 0 = l.getD i 0 + (con p i + net ps i)
    omega
theorem ext_getD {a b : List Int} (hl : a.length = b.length) (h : ∀ i, a.getD i 0 = b.getD i 0) : a = b := by
  refine List.ext_getElem hl fun i h1 h2 => ?_
  have := h i
  rw [List.getD_eq_getElem?_getD, List.getD_eq_getElem?_getD, List.getElem?_eq_getElem h1, List.getElem?_eq_getElem h2] at this
  exact this
theorem any_getD {a : List Int} : (a.any fun i => i != 0) = false ↔ ∀ i, a.getD i 0 = 0 := by
  rw [List.any_eq_false]
  constructor
  · intro h i
    rw [List.getD_eq_getElem?_getD]
    by_cases hi : i < a.length
    · rw [List.getElem?_eq_getElem hi]
      have := h _ (List.getElem_mem hi)
      simpa using this
    · rw [List.getElem?_eq_none (by omega)]
      rfl
  · intro h x hx
    obtain ⟨i, hi, rfl⟩ := List.getElem_of_mem hx
    have := h i
    rw [List.getD_eq_getElem?_getD, List.getElem?_eq_getElem hi] at this
    have this : a[i] = 0 := this
    simp [this]
def setH (bs : List Int) (ps : List Pay) : Bool := ps.all (okP bs.length) && !((leftL bs ps).any fun i => i != 0)
def setS (bs : List Int) (ps : List Pay) : Bool := ps.all (okP bs.length) && decide (dueL (List.replicate bs.length 0) ps = bs)
theorem setS_no {bs : List Int} {ps : List Pay} {p : Pay} (hp : p ∈ ps) (h : okP bs.length p = false) : setS bs ps = false := by
  unfold setS
  cases e : ps.all (okP bs.length) with
  | false => rfl
  | true =>
    rw [List.all_eq_true.mp e p hp] at h
    cases h
theorem getD_rep (n i : Nat) : (List.replicate n (0 : Int)).getD i 0 = 0 := by
  rw [List.getD_eq_getElem?_getD, List.getElem?_replicate]
  split <;> rfl
theorem set_same_b (bs : List Int) (ps : List Pay) : setH bs ps = setS bs ps := by
  unfold setH setS
  cases h : ps.all (okP bs.length) with
  | false => rfl
  | true =>
    rw [Bool.true_and, Bool.true_and]
    have h : ∀ p ∈ ps, okP bs.length p = true := List.all_eq_true.mp h
    have h' : ∀ p ∈ ps, okP (List.replicate bs.length (0 : Int)).length p = true := by rw [List.length_replicate]; exact h
    by_cases e : dueL (List.replicate bs.length 0) ps = bs
    · rw [decide_eq_true e]
      have : ((leftL bs ps).any fun i => i != 0) = false := any_getD.mpr fun i => by
        have h1 := leftL_get ps bs h i
        have h2 := dueL_get ps _ h' i
        rw [e, getD_rep] at h2
        omega
      rw [this]
      rfl
    · rw [decide_eq_false e]
      cases z : (leftL bs ps).any fun i => i != 0 with
      | true => rfl
      | false =>
        refine absurd (ext_getD (by rw [dueL_len, List.length_replicate]) fun i => ?_) e
        have h1 := leftL_get ps bs h i
        have h2 := dueL_get ps _ h' i
        rw [any_getD.mp z i] at h1
        rw [getD_rep] at h2
        omega
theorem net_perm {ps qs : List Pay} (h : ps.Perm qs) (i : Nat) : net ps i = net qs i := by
  induction h with
  | nil => rfl
  | cons p _ ih => exact congrArg (con p i + ·) ih
  | swap p q l =>
    show con q i + (con p i + net l i) = con p i + (con q i + net l i)
    omega
  | trans _ _ a b => exact a.trans b
/-- the balances that payments leave are settled by them in any order -/
theorem set_perm {n : Nat} {ps qs : List Pay} (h : qs.Perm ps) (ok : ∀ p ∈ ps, okP n p = true) : setH (dueL (List.replicate n 0) ps) qs = true := by
  rw [set_same_b]
  unfold setS
  have hl : (dueL (List.replicate n 0) ps).length = n := by rw [dueL_len, List.length_replicate]
  have okq : ∀ p ∈ qs, okP n p = true := fun p hp => ok p (h.mem_iff.mp hp)
  rw [hl, List.all_eq_true.mpr okq, Bool.true_and]
  refine decide_eq_true (ext_getD (by rw [dueL_len, dueL_len]) fun i => ?_)
  rw [dueL_get qs _ (by rw [List.length_replicate]; exact okq), dueL_get ps _ (by rw [List.length_replicate]; exact ok), net_perm h]
theorem mod_ne {m p r : Int} (h0 : 0 ≤ p) (h1 : p < m) (h2 : 0 ≤ r) (h3 : r < m - 1) : 0 ≤ (p + 1 + r) % m ∧ (p + 1 + r) % m < m ∧ p ≠ (p + 1 + r) % m := by
  by_cases h : p + 1 + r < m
  · rw [Int.emod_eq_of_lt (by omega) h]
    omega
  · have e : (p + 1 + r) % m = p + 1 + r - m := by
      have : (p + 1 + r - m + m) % m = (p + 1 + r - m) % m := Int.add_emod_right ..
      rw [Int.sub_add_cancel] at this
      rw [this, Int.emod_eq_of_lt (by omega) (by omega)]
    rw [e]
    omega
abbrev intsD (bs : List Int) : D := .tup (bs.map D.int)
def valP (m : Int) : D → D
  | .tup [.int a, .int b, .int c] => .bl (okP m (a, b, c))
  | d => d
theorem pay_eqb (p : Pay) : Eqb1 1 (payD p) := eqb1_tup fun d hd => by
  simp only [List.mem_cons, List.not_mem_nil, or_false] at hd
  rcases hd with rfl | rfl | rfl
  · exact eqb1_int 0 _
  · exact eqb1_int 0 _
  · exact eqb1_int 0 _
theorem pays_eqb (ps : List Pay) : ∀ d ∈ ps.map payD, Eqb1 1 d := fun d hd => by
  obtain ⟨p, _, rfl⟩ := List.mem_map.mp hd
  exact pay_eqb p
theorem cons_erase {α : Type} : ∀ {l : List α} {j : Nat} {x : α}, l[j]? = some x → (x :: l.eraseIdx j).Perm l
  | [], _, _, h => by cases h
  | a :: l, 0, x, h => by
    cases h
    exact List.Perm.refl _
  | a :: l, j + 1, x, h => (List.Perm.swap a x _).trans ((cons_erase (l := l) (j := j) h).cons a)
theorem perm_shift {fs ls ps : List Pay} {j : Nat} {x : Pay} (h : (fs ++ ls).Perm ps) (hx : ls[j]? = some x) : ((fs ++ [x]) ++ ls.eraseIdx j).Perm ps := by
  refine List.Perm.trans ?_ h
  rw [List.append_assoc]
  refine List.Perm.append_left fs ?_
  exact cons_erase hx
section
variable {K : PySem.W.Frag} {Δ : Sl} {G L : List M} {Qd : Po} {ps : List Pay}
theorem sl_pays {lo hi : Option Int} (k : ∀ ys : List Pay, ys.length ≤ ps.length → Qd (.d (paysD ys)) G L) : SlC K (uSl K) (.d (paysD ps)) lo hi Δ G L Qd := by
  refine sl_t ?_
  obtain ⟨ys, e, hl, _⟩ := cutD_map payD ps lo hi
  rw [e]
  exact k ys hl
theorem sl_one {a : Int} (h0 : 0 ≤ a) (h1 : a < ps.length) (k : ∀ y : Pay, Qd (.d (paysD [y])) G L) : SlC K (uSl K) (.d (paysD ps)) (some a) (some (a + 1)) Δ G L Qd := by
  refine sl_t ?_
  have hn : a.toNat < ps.length := by omega
  have e : cutD (ps.map payD) (some a) (some (a + 1)) = [payD ps[a.toNat]] := by
    unfold cutD HT.sIx
    simp only [List.length_map]
    rw [if_neg (by omega), if_neg (by omega), Nat.min_eq_left (by omega), Nat.min_eq_left (by omega)]
    have e1 : (a + 1).toNat - a.toNat = 1 := by omega
    rw [e1, List.drop_eq_getElem_cons (by rw [List.length_map]; exact hn), List.take_succ_cons, List.take_zero, List.getElem_map]
  rw [e]
  exact k _
theorem add_pays {qs : List Pay} (hl : ps.length + qs.length ≤ 100000) (k : Qd (.d (paysD (ps ++ qs))) G L) : OpC K (uAdd K) (.d (paysD ps)) (.d (paysD qs)) Δ G L Qd := by
  refine u_add_t (by rw [List.length_map, List.length_map]; exact le_line hl) ?_
  have e : D.tup ((ps ++ qs).map payD) = .tup (ps.map payD ++ qs.map payD) := by rw [List.map_append]
  rw [← e]
  exact k
theorem mul_pays {y : Pay} (k : Qd (.d (paysD [y, y])) G L) : OpC K (uMulT K) (.d (paysD [y])) (.d (.int 2)) Δ G L Qd :=
  u_mul_t ⟨by decide, (by intro h; cases h), (by show 1 ≤ 1000; decide)⟩ k
end
theorem pays0 : ∃ qs, D.tup [] = paysD qs ∧ qs.length ≤ 2 := ⟨[], rfl, by decide⟩
theorem pays1 (a b c : Int) : ∃ qs, D.tup [.tup [.int a, .int b, .int c]] = paysD qs ∧ qs.length ≤ 2 := ⟨[(a, b, c)], rfl, by show 1 ≤ 2; decide⟩
theorem pays2 (y z : Pay) : ∃ qs, paysD [y, z] = paysD qs ∧ qs.length ≤ 2 := ⟨[y, z], rfl, by show 2 ≤ 2; decide⟩
theorem pays3 (a b c d e f : Int) : ∃ qs, D.tup [.tup [.int a, .int b, .int c], .tup [.int d, .int e, .int f]] = paysD qs ∧ qs.length ≤ 2 := ⟨[(a, b, c), (d, e, f)], rfl, by show 2 ≤ 2; decide⟩
def sp_is_whole : DSpec := fun ss G Q => ∃ z, ss = [.d (.int z)] ∧ Q (.v (.d (.bl true))) G
def sp_l_whole : DSpec := fun ss G Q => ∃ z, ss = [.d (.int z)] ∧ Q (.v (.d (.bl true))) G
def sp_is_number_of : DSpec := fun ss G Q => ∃ m z, ss = [.d (.int m), .d (.int z)] ∧ Q (.v (.d (.bl (numB m z)))) G
def sp_is_payment : DSpec := fun ss G Q => ∃ m p, ss = [.d (.int m), .d (payD p)] ∧ Q (.v (.d (.bl (okP m p)))) G
def sp_left_behind : DSpec := fun ss G Q => ∃ bs ps, ss = [.d (intsD bs), .d (paysD ps)] ∧ bs.length ≤ 100 ∧ ps.length ≤ 100 ∧ (∀ p ∈ ps, okP bs.length p = true) ∧ Q (.new [.pl ((leftL bs ps).map D.int)] 0) G
def sp_settles_holds : DSpec := fun ss G Q => ∃ bs ps, ss = [.d (intsD bs), .d (paysD ps)] ∧ bs.length ≤ 100 ∧ ps.length ≤ 100 ∧ Q (.v (.d (.bl (setH bs ps)))) G
def sp_l_settles : DSpec := fun ss G Q => ∃ bs ps, ss = [.d (intsD bs), .d (paysD ps)] ∧ bs.length ≤ 100 ∧ ps.length ≤ 100 ∧ Q (.v (.d (.bl (setS bs ps)))) G
def PaysOk (m : Int) (ps : List Pay) : Prop := ps.length ≤ 40 ∧ ∀ p ∈ ps, okP m p = true
def sp_l_payments : DSpec := fun ss G Q => ∃ (k c : Nat) (n : Int) (cells : List Int) (seed cnt m : Int), ss = [.g k, .d (.int m)] ∧ Dk G k c n cells seed cnt ∧ n + 300 ≤ 2 ^ 32 ∧ (2 ≤ m ∧ m ≤ 100) ∧
  ∀ ps G', PaysOk m ps → DkTo G k c (n + 300) G' → Q (.v (.d (paysD ps))) G'
def sp_l_balances : DSpec := fun ss G Q => ∃ m ps, ss = [.d (.int m), .d (paysD ps)] ∧ (2 ≤ m ∧ m ≤ 100) ∧ PaysOk m ps ∧ Q (.v (.d (intsD (dueL (List.replicate m.toNat 0) ps)))) G
def sp_l_otherwise : DSpec := fun ss G Q => ∃ (k c : Nat) (n : Int) (cells : List Int) (seed cnt m : Int) (ps : List Pay), ss = [.g k, .d (paysD ps), .d (.int m)] ∧ Dk G k c n cells seed cnt ∧ n + 3 ≤ 2 ^ 32 ∧ (2 ≤ m ∧ m ≤ 100) ∧ PaysOk m ps ∧ ps ≠ [] ∧
  ∀ (qs : List Pay) G', qs.length ≤ 100 → DkTo G k c (n + 3) G' → Q (.v (.d (paysD qs))) G'
def sp_l_shuffled : DSpec := fun ss G Q => ∃ (k c : Nat) (n : Int) (cells : List Int) (seed cnt : Int) (ps : List Pay), ss = [.g k, .d (paysD ps)] ∧ Dk G k c n cells seed cnt ∧ n + 50 ≤ 2 ^ 32 ∧ ps.length ≤ 40 ∧
  ∀ (qs : List Pay) G', qs.Perm ps → DkTo G k c (n + 50) G' → Q (.new [.pl [], .pl (qs.map payD)] 1) G'
def sp_law : DSpec := fun ss G Q => ∃ ns : List Int, ss = [.d (.scr ns)] ∧ G = [] ∧ ns.length ≤ 63 ∧ Q (.v (.d (.bl true))) []
theorem law_in {ns : List Int} (h : ns.length ≤ 63) (hb : ∀ z ∈ ns, Builtin.Int.intBits z ≤ 1048576) : sp_law [.d (.scr ns)] [] fun r _ => r = .v (.d (.bl true)) := ⟨ns, rfl, rfl, h, rfl⟩
def sp_l_right : DSpec := fun ss G Q => ∃ bs ps, ss = [.d (intsD bs), .d (paysD ps)] ∧ bs.length ≤ 100 ∧ ps.length ≤ 100 ∧ Q (.v (.d (.bl true))) G
/-- the deck as the law's own: its values -/
structure DkV (n : Int) (cells : List Int) (seed cnt : Int) : Prop where
  s0 : 0 ≤ seed
  s1 : seed < 2 ^ 62
  n0 : 0 ≤ cnt
  n1 : cnt ≤ n
  cl : cells.length ≤ 1000
def deckL (cells : List Int) (seed cnt : Int) (ps : List (List D)) : List M := M.pl (cells.map D.int) :: .hl [.l 0, .d (.int seed), .d (.int cnt)] :: ps.map M.pl
def deckG (cells : List Int) (seed cnt : Int) (ps : List (List D)) : List M := M.pl (cells.map D.int) :: .hl [.g 0, .d (.int seed), .d (.int cnt)] :: ps.map M.pl
theorem deckL_pro (cells : List Int) (seed cnt : Int) (ps : List (List D)) : (deckL cells seed cnt ps).map M.pro = deckG cells seed cnt ps := by
  show _ :: _ :: (ps.map M.pl).map M.pro = _ :: _ :: ps.map M.pl
  rw [List.map_map]
  rfl
theorem deckG_dem (cells : List Int) (seed cnt : Int) (ps : List (List D)) : (deckG cells seed cnt ps).map M.dem = deckL cells seed cnt ps := by
  show _ :: _ :: (ps.map M.pl).map M.dem = _ :: _ :: ps.map M.pl
  rw [List.map_map]
  rfl
theorem DkV.dk {n : Int} {cells : List Int} {seed cnt : Int} (h : DkV n cells seed cnt) (ps : List (List D)) : Dk ((deckL cells seed cnt ps).map M.pro) 1 0 n cells seed cnt := by
  rw [deckL_pro]
  exact ⟨rfl, rfl, by decide, h.s0, h.s1, h.n0, h.n1, h.cl⟩
theorem DkV.mono {n m : Int} {cells : List Int} {seed cnt : Int} (h : DkV n cells seed cnt) (e : n ≤ m) : DkV m cells seed cnt := ⟨h.s0, h.s1, h.n0, Int.le_trans h.n1 e, h.cl⟩
theorem DkTo.v {n : Int} {cells : List Int} {seed cnt : Int} {ps : List (List D)} {G' : List M} (h : DkTo ((deckL cells seed cnt ps).map M.pro) 1 0 n G') : ∃ cells' seed' cnt', G'.map M.dem = deckL cells' seed' cnt' ps ∧ DkV n cells' seed' cnt' := by
  rw [deckL_pro] at h
  obtain ⟨a, b, d, rfl, q⟩ := h
  exact ⟨a, b, d, deckG_dem a b d ps, q.s0, q.s1, q.n0, q.n1, q.cl⟩
/-- the calls of the law's own body -/
theorem draw_useL {n m : Int} {cells : List Int} {seed cnt : Int} {ps : List (List D)} {Qd : Po} (h : DkV n cells seed cnt) (h1 : n ≤ 2 ^ 32) (h2 : 0 < m) (h3 : m < 2 ^ 40)
    (k : ∀ r cells' seed' cnt', DkV (n + 1) cells' seed' cnt' → 0 ≤ r → r < m → Qd (.d (.int r)) [] (deckL cells' seed' cnt' ps)) : sp_l_draw ([S.l 1, .d (.int m)].map S.pro) ((deckL cells seed cnt ps).map M.pro) (asVL Qd) :=
  draw_use (h.dk ps) h1 h2 h3 fun r G' _ _ _ t _ a b => by
    obtain ⟨x, y, z, e, q⟩ := t.v
    have := k r x y z q a b
    rw [← e] at this
    exact this
section
variable {cells : List Int} {seed cnt n m : Int} {os : List (List D)} {ps qs : List Pay} {bs : List Int} {Qd : Po}
theorem back_L (h : Qd s [] (deckL cells seed cnt os)) : Qd s [] (((deckL cells seed cnt os).map M.pro).map M.dem) := by
  rw [deckL_pro, deckG_dem]
  exact h
theorem payments_useL (h : DkV n cells seed cnt) (h1 : n + 300 ≤ 2 ^ 32) (h2 : 2 ≤ m ∧ m ≤ 100)
    (k : ∀ ps cells' seed' cnt', PaysOk m ps → DkV (n + 300) cells' seed' cnt' → Qd (.d (paysD ps)) [] (deckL cells' seed' cnt' os)) : sp_l_payments ([S.l 1, .d (.int m)].map S.pro) ((deckL cells seed cnt os).map M.pro) (asVL Qd) :=
  ⟨1, 0, n, cells, seed, cnt, m, rfl, h.dk os, h1, h2, fun ps G' a t => by
    obtain ⟨x, y, z, e, q⟩ := t.v
    have := k ps x y z a q
    rw [← e] at this
    exact this⟩
theorem otherwise_useL (h : DkV n cells seed cnt) (h1 : n + 3 ≤ 2 ^ 32) (h2 : 2 ≤ m ∧ m ≤ 100) (hp : PaysOk m ps) (hne : ps ≠ [])
    (k : ∀ (qs : List Pay) cells' seed' cnt', qs.length ≤ 100 → DkV (n + 3) cells' seed' cnt' → Qd (.d (paysD qs)) [] (deckL cells' seed' cnt' os)) : sp_l_otherwise ([S.l 1, .d (paysD ps), .d (.int m)].map S.pro) ((deckL cells seed cnt os).map M.pro) (asVL Qd) :=
  ⟨1, 0, n, cells, seed, cnt, m, ps, rfl, h.dk os, h1, h2, hp, hne, fun qs G' a t => by
    obtain ⟨x, y, z, e, q⟩ := t.v
    have := k qs x y z a q
    rw [← e] at this
    exact this⟩
theorem shuffled_useL (h : DkV n cells seed cnt) (h1 : n + 50 ≤ 2 ^ 32) (hp : ps.length ≤ 40)
    (k : ∀ (qs : List Pay) cells' seed' cnt', qs.Perm ps → DkV (n + 50) cells' seed' cnt' → Qd (.d (.lst (qs.map payD))) [] (deckL cells' seed' cnt' os)) : sp_l_shuffled ([S.l 1, .d (paysD ps)].map S.pro) ((deckL cells seed cnt os).map M.pro) (asVL Qd) :=
  ⟨1, 0, n, cells, seed, cnt, ps, rfl, h.dk os, h1, hp, fun qs G' a t => by
    obtain ⟨x, y, z, e, q⟩ := t.v
    have := k qs x y z a q
    rw [← e] at this
    exact ⟨_, _, rfl, rfl, this⟩⟩
theorem balances_useL (h2 : 2 ≤ m ∧ m ≤ 100) (hp : PaysOk m ps) (k : Qd (.d (intsD (dueL (List.replicate m.toNat 0) ps))) [] (deckL cells seed cnt os)) : sp_l_balances ([S.d (.int m), .d (paysD ps)].map S.pro) ((deckL cells seed cnt os).map M.pro) (asVL Qd) :=
  ⟨m, ps, rfl, h2, hp, back_L k⟩
theorem settles_useL (hb : bs.length ≤ 100) (hp : ps.length ≤ 100) (h : setH bs ps = true) (k : Qd (.d (.bl true)) [] (deckL cells seed cnt os)) : sp_settles_holds ([S.d (intsD bs), .d (paysD ps)].map S.pro) ((deckL cells seed cnt os).map M.pro) (asVL Qd) :=
  ⟨bs, ps, rfl, hb, hp, by
    rw [h]
    exact back_L (Qd := Qd) k⟩
theorem right_useL (hb : bs.length ≤ 100) (hp : ps.length ≤ 100) (k : Qd (.d (.bl true)) [] (deckL cells seed cnt os)) : sp_l_right ([S.d (intsD bs), .d (paysD ps)].map S.pro) ((deckL cells seed cnt os).map M.pro) (asVL Qd) :=
  ⟨bs, ps, rfl, hb, hp, back_L (Qd := Qd) k⟩
theorem right_useR (hb : bs.length ≤ 100) (hp : ps.length ≤ 100) (k : Qd (.d (.bl true)) [] (deckL cells seed cnt os)) : sp_l_right ([S.d (.tup (bs.map D.int).reverse), .d (paysD ps)].map S.pro) ((deckL cells seed cnt os).map M.pro) (asVL Qd) := by
  rw [← List.map_reverse]
  exact right_useL (bs := bs.reverse) (by rw [List.length_reverse]; exact hb) hp k
theorem right_use0 (hb : bs.length ≤ 100) (k : Qd (.d (.bl true)) [] (deckL cells seed cnt os)) : sp_l_right ([S.d (intsD bs), .d (.tup [])].map S.pro) ((deckL cells seed cnt os).map M.pro) (asVL Qd) :=
  right_useL (ps := []) hb (by decide) k
theorem settles_use0 (k : Qd (.d (.bl true)) [] (deckL cells seed cnt os)) : sp_settles_holds ([S.d (.tup []), .d (.tup [])].map S.pro) ((deckL cells seed cnt os).map M.pro) (asVL Qd) :=
  settles_useL (bs := []) (ps := []) (by decide) (by decide) (by decide) k
theorem settles_use00 (k : Qd (.d (.bl true)) [] (deckL cells seed cnt os)) : sp_settles_holds ([S.d (.tup [.int 0, .int 0]), .d (.tup [])].map S.pro) ((deckL cells seed cnt os).map M.pro) (asVL Qd) :=
  settles_useL (bs := [0, 0]) (ps := []) (by decide) (by decide) (by decide) k
theorem bs_len (m : Int) (ps : List Pay) (h : 2 ≤ m ∧ m ≤ 100) : (dueL (List.replicate m.toNat 0) ps).length ≤ 100 := by
  rw [dueL_len, List.length_replicate]
  omega
theorem items3 {d : D} {i : Nat} (hq : qs.Perm ps) (h : [paysD ps, D.tup (ps.map payD).reverse, D.tup (qs.map payD)][i]? = some d) : ∃ rs, d = paysD rs ∧ List.Perm rs ps := by
  have hm := List.mem_of_getElem? h
  simp only [List.mem_cons, List.not_mem_nil, or_false] at hm
  rcases hm with rfl | rfl | rfl
  · exact ⟨ps, rfl, List.Perm.refl _⟩
  · exact ⟨ps.reverse, by rw [← List.map_reverse], List.reverse_perm ps⟩
  · exact ⟨qs, rfl, hq⟩
theorem mul_zero {K : PySem.W.Frag} {Δ : Sl} {G L : List M} (h : 2 ≤ m ∧ m ≤ 100) (k : Qd (.d (intsD (List.replicate m.toNat 0))) G L) : OpC K (uMulT K) (.d (.tup [.int 0])) (.d (.int m)) Δ G L Qd := by
  refine u_mul_t ⟨⟨h.1, by omega⟩, (by intro h; cases h), (by show 1 ≤ 1000; decide)⟩ ?_
  rw [rep_int]
  exact k
end
end Pf
local macro_rules | `(tactic| walk_at "draw") => `(tactic| (refine Pf.draw_use (by assumption) (by omega) (by first | omega | (simp only [List.length_map]; omega)) (by first | omega | (simp only [List.length_map]; omega)) ?_; intro _ _ _ _ _ _ _ _ _; dsimp only [asV]))
local macro_rules | `(tactic| walk_at "god") => `(tactic| repeat (first | walk_at "f1" | walk_at "d1" | walk_at "d2" | walk_at "draw"))

namespace Pf
open PySem L2 DL
section
variable {P : Program} {w : World} {K : PySem.W.Frag} {mg : Str → Option Value} {base : Heap}
theorem ok_l_draw (T : TX w K mg) : FnOk P w K mg base CX0 1 T.a_l_draw T.fd_l_draw ["_law_deck_here", "_law_most"] (spD K sp_l_draw) := by
  refine okD (k := 0) T.F_l_draw sc_l_draw (fun ss G Qd h => ?_) (fun cdv A outer s H E ss G Qd hr h => ?_)
  · obtain ⟨k, c, m, n, cells, seed, cnt, rfl, hD, hn, hm0, hm1, q⟩ := h
    rfl
  · obtain ⟨k, c, m, n, cells, seed, cnt, rfl, hD, hn, hm0, hm1, q⟩ := h
    refine ⟨_, (pss_cons (ps_asg (pe_op (show OpR _ (binaryOp .Add) (uAdd K) from uo_add) (pe_ix (show IxR _ (rIx K) from ix_seq) (pv 0) pe_int (fun _ _ => rfl)) pe_int) (pg_sub (pv 0) pe_int set_list))
      (pss_cons (ps_set (i := 2) sc_l_draw.nd rfl (Or.inl rfl) (pe_ix (show IxR _ (rIx K) from ix_seq) (pv 0) pe_int (fun _ _ => rfl)))
      (pss_cons (ps_if (pt_cmpR (show OpR _ (compareOp .NotEq) (uNe K) from (uo_ne hr.units)) (pe_ix (show IxR _ (rIx K) from ix_seq) (pv 0) pe_int (fun _ _ => rfl)) (pe_lst pa_nil) (nomark _)) (pss_cons (ps_set (i := 2) sc_l_draw.nd rfl (Or.inl rfl) (pe_bm0 PySem.F.plainAttrs_list PySem.F.slot_list_pop PySem.F.type_list_pop mt_pop (pe_ix (show IxR _ (rIx K) from ix_seq) (pv 0) pe_int (fun _ _ => rfl))))
      (pss_one (ps_if (pt_cmpR op_ge (pv 2) (pe_op op_pow pe_int pe_int) (nomark _)) (pss_cons (ps_expr (pe_bm PySem.F.plainAttrs_list PySem.F.slot_list_append PySem.F.type_list_append mt_append (pe_ix (show IxR _ (rIx K) from ix_seq) (pv 0) pe_int (fun _ _ => rfl)) (pa_cons (pe_op op_fdivW (pv 2) (pv 1)) pa_nil)))
      (pss_one (ps_ret (pe_op op_mod (pv 2) (pv 1))))) pss_nil))) pss_nil)
      (pss_cons (ps_set (i := 3) sc_l_draw.nd rfl (Or.inl rfl) (pe_op (show OpR _ (binaryOp .Add) (uAdd K) from uo_add) (pe_op (show OpR _ (binaryOp .Add) (uAdd K) from uo_add) (pe_op op_mod (pv 2) pe_int) (pe_op (show OpR _ (binaryOp .Mult) (uMulT K) from uo_mulT) (pe_op (show OpR _ (binaryOp .Mult) (uMulT K) from uo_mulT) pe_int (pe_ix (show IxR _ (rIx K) from ix_seq) (pv 0) pe_int (fun _ _ => rfl))) (pe_ix (show IxR _ (rIx K) from ix_seq) (pv 0) pe_int (fun _ _ => rfl)))) pe_int))
      (pss_cons (ps_set (i := 3) sc_l_draw.nd rfl (Or.inl rfl) (pe_op op_mod (pe_op (show OpR _ (binaryOp .Mult) (uMulT K) from uo_mulT) (pv 3) pe_int) pe_int))
      (pss_cons (ps_set (i := 3) sc_l_draw.nd rfl (Or.inl rfl) (pe_op op_mod (pe_op (show OpR _ (binaryOp .Add) (uAdd K) from uo_add) (pe_op (show OpR _ (binaryOp .Add) (uAdd K) from uo_add) (pe_op (show OpR _ (binaryOp .Mult) (uMulT K) from uo_mulT) (pv 3) (pv 3)) (pe_op (show OpR _ (binaryOp .Mult) (uMulT K) from uo_mulT) pe_int (pv 3))) (pe_ix (show IxR _ (rIx K) from ix_seq) (pv 0) pe_int (fun _ _ => rfl))) pe_int))
      (pss_one (ps_ret (pe_op op_mod (pe_op op_fdivW (pv 3) pe_int) (pv 1)))))))))), ?_⟩
    simp only [cxOf, Cx.nox, Cx.wish, Cx.blk, startD, List.map, List.length_cons, List.length_nil, Nat.reduceAdd, Nat.reduceSub, List.replicate, List.cons_append, List.nil_append]
    obtain ⟨hk, hc, ne, s0, s1, n0, n1, cl⟩ := hD
    have fin : ∀ (z : Int) (cs : List Int), cs.length ≤ 1000 → (endsD Qd).rt (.d (.int (z % m))) ((G.set k (.hl [.g c, .d (.int seed), .d (.int (cnt + 1))])).set c (.pl (cs.map D.int))) [] :=
      fun z cs hl => q _ _ (dkTo_mk hk hc ne s0 s1 (by omega) (by omega) hl) (Int.emod_nonneg _ (by omega)) (Int.emod_lt_of_pos _ hm0)
    walk_at "go"
    refine sto_gh hk (i := 2) rfl ?hs ?_
    (case hs => exact rfl)
    have hk1 := set_at (x := M.hl [S.g c, .d (.int seed), .d (.int (cnt + 1))]) hk
    have hc1 : (G.set k (M.hl [S.g c, .d (.int seed), .d (.int (cnt + 1))]))[c]? = _ := (set_off (Ne.symm ne)).trans hc
    show StC K _ _ (G.set k (M.hl [S.g c, .d (.int seed), .d (.int (cnt + 1))])) _ _
    generalize hG1 : G.set k (M.hl [S.g c, .d (.int seed), .d (.int (cnt + 1))]) = G1 at *
    walk_at "go"
    refine iteB (fun hne => ?_) (fun hem => ?_)
    · have hpos : 0 < cells.length := by
        cases cells with
        | nil => cases hne
        | cons _ _ => exact Nat.succ_pos _
      have hlast : (cells.map D.int)[(cells.map D.int).length - 1]? = some (D.int (cells.getLast (List.ne_nil_of_length_pos hpos))) := by
        rw [List.length_map, List.getElem?_map, List.getLast_eq_getElem, List.getElem?_eq_getElem]
        rfl
      generalize cells.getLast _ = z at hlast
      walk_at "go"
      try refine ⟨tyS_g hc1, ?_⟩
      refine mt_pop_g hc1 hlast ?_
      generalize hG2 : G1.set c (M.pl (cells.map D.int).dropLast) = G2
      have hk2 : G2[k]? = some (M.hl [S.g c, .d (.int seed), .d (.int (cnt + 1))]) := by rw [← hG2, set_off ne, hk1]
      have hc2 : G2[c]? = some (M.pl (cells.dropLast.map D.int)) := by rw [← hG2, set_at hc1, List.map_dropLast]
      walk_at "go"
      refine iteD (fun hge => ?_) (fun hlt => ?_)
      · walk_at "go"
        walk_at "go"
        refine mt_app_g hc2 (by rw [List.length_map, List.length_dropLast]; exact lt_line (by omega)) ?_
        walk_at "go"
        have f := fin z (cells.dropLast ++ [z / m]) (by rw [List.length_append, List.length_dropLast]; show _ + 1 ≤ _; omega)
        rw [← hG2, set_set]
        rw [List.map_append] at f
        exact f
      · walk_at "go"
        have f := fun y => fin y cells.dropLast (by rw [List.length_dropLast]; omega)
        rw [List.map_dropLast, hG2] at f
        exact f _
    · walk_at "go"
      have f := fun y => fin y cells cl
      rw [set_same hc1] at f
      exact f _
end
end Pf
namespace Pf
open PySem L2 DL
section
variable {P : Program} {w : World} {K : PySem.W.Frag} {mg : Str → Option Value} {base : Heap}
theorem ok_is_whole (T : TX w K mg) : FnOk P w K mg base CX0 1 T.a_is_whole T.fd_is_whole ["thing"] (spD K sp_is_whole) := by
  refine okD (k := 0) T.F_is_whole sc_is_whole (fun ss G Qd h => ?_) (fun cdv A outer s H E ss G Qd hr h => ?_)
  · obtain ⟨z, rfl, q⟩ := h
    rfl
  · obtain ⟨z, rfl, q⟩ := h
    refine ⟨_, (pss_one (ps_ret (pe_and (pe_callB (show CallR _ (.builtin "isinstance") (rIsi K) from call_isi) (by rfl) T.z_isinstance (by decide +kernel) (pa_cons (pv 0) (pa_cons (pe_bltn (v := .ty "int") (u := .type "int") (by rfl) T.z_int (by decide +kernel) rfl) pa_nil))) (pe_one (pe_not (pe_callB (show CallR _ (.builtin "isinstance") (rIsi K) from call_isi) (by rfl) T.z_isinstance (by decide +kernel) (pa_cons (pv 0) (pa_cons (pe_bltn (v := .ty "bool") (u := .type "bool") (by rfl) T.z_bool (by decide +kernel) rfl) pa_nil)))))))), ?_⟩
    simp only [cxOf, Cx.nox, Cx.wish, Cx.blk, startD, List.map, List.length_cons, List.length_nil, Nat.reduceAdd, Nat.reduceSub, List.replicate, List.cons_append, List.nil_append]
    walk_at "go"
    exact q
end
end Pf
namespace Pf
open PySem L2 DL
section
variable {P : Program} {w : World} {K : PySem.W.Frag} {mg : Str → Option Value} {base : Heap}
theorem ok_l_whole (T : TX w K mg) : FnOk P w K mg base CX0 1 T.a_l_whole T.fd_l_whole ["_law_thing"] (spD K sp_l_whole) := by
  refine okD (k := 0) T.F_l_whole sc_l_whole (fun ss G Qd h => ?_) (fun cdv A outer s H E ss G Qd hr h => ?_)
  · obtain ⟨z, rfl, q⟩ := h
    rfl
  · obtain ⟨z, rfl, q⟩ := h
    refine ⟨_, (pss_one (ps_ret (pe_and (pe_callB (show CallR _ (.builtin "isinstance") (rIsi K) from call_isi) (by rfl) T.z_isinstance (by decide +kernel) (pa_cons (pv 0) (pa_cons (pe_bltn (v := .ty "int") (u := .type "int") (by rfl) T.z_int (by decide +kernel) rfl) pa_nil))) (pe_one (pe_not (pe_callB (show CallR _ (.builtin "isinstance") (rIsi K) from call_isi) (by rfl) T.z_isinstance (by decide +kernel) (pa_cons (pv 0) (pa_cons (pe_bltn (v := .ty "bool") (u := .type "bool") (by rfl) T.z_bool (by decide +kernel) rfl) pa_nil)))))))), ?_⟩
    simp only [cxOf, Cx.nox, Cx.wish, Cx.blk, startD, List.map, List.length_cons, List.length_nil, Nat.reduceAdd, Nat.reduceSub, List.replicate, List.cons_append, List.nil_append]
    walk_at "go"
    exact q
end
end Pf
namespace Pf
open PySem L2 DL
section
variable {P : Program} {w : World} {K : PySem.W.Frag} {mg : Str → Option Value} {base : Heap}
theorem ok_is_number_of (T : TX w K mg) (G_is_whole : FnOk P w K mg base CX0 1 T.a_is_whole T.fd_is_whole ["thing"] (spD K sp_is_whole)) : FnOk P w K mg base CX0 2 T.a_is_number_of T.fd_is_number_of ["many", "thing"] (spD K sp_is_number_of) := by
  refine okD (k := 1) T.F_is_number_of sc_is_number_of (fun ss G Qd h => ?_) (fun cdv A outer s H E ss G Qd hr h => ?_)
  · obtain ⟨m, z, rfl, q⟩ := h
    rfl
  · obtain ⟨m, z, rfl, q⟩ := h
    refine ⟨_, (pss_one (ps_ret (pe_and (pe_call G_is_whole (hr.mono (by decide)) rfl T.m_is_whole T.k_is_whole T.b_is_whole .nil pass0 (pa_cons (pv 1) pa_nil)) (pe_one (pe_chain op_le op_lt pe_int (pv 1) (pv 0)))))), ?_⟩
    simp only [cxOf, Cx.nox, Cx.wish, Cx.blk, startD, List.map, List.length_cons, List.length_nil, Nat.reduceAdd, Nat.reduceSub, List.replicate, List.cons_append, List.nil_append]
    walk_at "go"
    refine iteD (fun h => ?_) (fun h => ?_)
    · walk_at "go"
      have e : numB m z = decide (z < m) := by
        unfold numB
        rw [decide_eq_true h]
        rfl
      rw [e] at q
      exact q
    · have e : numB m z = false := by
        unfold numB
        rw [decide_eq_false h]
        rfl
      rw [e] at q
      exact q
end
end Pf
namespace Pf
open PySem L2 DL
section
variable {P : Program} {w : World} {K : PySem.W.Frag} {mg : Str → Option Value} {base : Heap}
theorem ok_is_payment (T : TX w K mg) (G_is_whole : FnOk P w K mg base CX0 1 T.a_is_whole T.fd_is_whole ["thing"] (spD K sp_is_whole)) (G_is_number_of : FnOk P w K mg base CX0 2 T.a_is_number_of T.fd_is_number_of ["many", "thing"] (spD K sp_is_number_of)) : FnOk P w K mg base CX0 3 T.a_is_payment T.fd_is_payment ["many", "thing"] (spD K sp_is_payment) := by
  refine okD (k := 2) T.F_is_payment sc_is_payment (fun ss G Qd h => ?_) (fun cdv A outer s H E ss G Qd hr h => ?_)
  · obtain ⟨m, p, rfl, q⟩ := h
    rfl
  · obtain ⟨m, p, rfl, q⟩ := h
    refine ⟨_, (pss_cons (ps_if (PW.pt (pw_or (pt_not (pt_val (pe_callB (show CallR _ (.builtin "isinstance") (rIsi K) from call_isi) (by rfl) T.z_isinstance (by decide +kernel) (pa_cons (pv 1) (pa_cons (pe_bltn (v := .ty "tuple") (u := .type "tuple") (by rfl) T.z_tuple (by decide +kernel) rfl) pa_nil))))) (pw_or1 (pt_cmpR (show OpR _ (compareOp .NotEq) (uNe K) from (uo_ne hr.units)) (pe_callB (show CallR _ (.builtin "len") (uLen K) from uc_len) (by rfl) T.z_len (by decide +kernel) (pa_cons (pv 1) pa_nil)) pe_int (nomark _))))) (pss_one (ps_ret pe_bl)) pss_nil)
      (pss_cons (ps_asg (pv 1) (pg_tup rfl (pgs_cons (pg_name (i := 2) sc_is_payment.nd rfl (Or.inl rfl)) (pgs_cons (pg_name (i := 3) sc_is_payment.nd rfl (Or.inl rfl)) (pgs_cons (pg_name (i := 4) sc_is_payment.nd rfl (Or.inl rfl)) pgs_nil)))))
      (pss_cons (ps_if (PW.pt (pw_or (pt_not (pt_val (pe_call G_is_number_of (hr.mono (by decide)) rfl T.m_is_number_of T.k_is_number_of T.b_is_number_of .nil pass0 (pa_cons (pv 0) (pa_cons (pv 2) pa_nil))))) (pw_or (pt_not (pt_val (pe_call G_is_number_of (hr.mono (by decide)) rfl T.m_is_number_of T.k_is_number_of T.b_is_number_of .nil pass0 (pa_cons (pv 0) (pa_cons (pv 3) pa_nil))))) (pw_or1 (pt_cmpR (show OpR _ (compareOp .Eq) (uEq K) from (uo_eq hr.units)) (pv 2) (pv 3) (nomark _)))))) (pss_one (ps_ret pe_bl)) pss_nil)
      (pss_one (ps_ret (pe_and (pe_call G_is_whole (hr.mono (by decide)) rfl T.m_is_whole T.k_is_whole T.b_is_whole .nil pass0 (pa_cons (pv 4) pa_nil)) (pe_one (pe_cmpR op_ge (pv 4) pe_int (nomark _))))))))), ?_⟩
    simp only [cxOf, Cx.nox, Cx.wish, Cx.blk, startD, List.map, List.length_cons, List.length_nil, Nat.reduceAdd, Nat.reduceSub, List.replicate, List.cons_append, List.nil_append]
    have key : okP m p = (numB m p.1 && numB m p.2.1 && !decide (p.1 = p.2.1) && decide (1 ≤ p.2.2)) := rfl
    rw [key] at q
    walk_at "go"
    refine iteND (fun h => absurd rfl h) (fun _ => ?_)
    walk_at "go"
    refine iteNB (fun h1 => ?_) (fun h1 => ?_)
    · walk_at "go"
      rw [h1] at q
      exact q
    rw [h1] at q
    walk_at "go"
    refine iteNB (fun h2 => ?_) (fun h2 => ?_)
    · walk_at "go"
      rw [h2] at q
      exact q
    rw [h2] at q
    walk_at "go"
    refine iteD (fun h3 => ?_) (fun h3 => ?_)
    · walk_at "go"
      rw [decide_eq_true h3] at q
      exact q
    rw [decide_eq_false h3] at q
    walk_at "go"
    exact q
end
end Pf
namespace Pf
open PySem L2 DL
section
variable {P : Program} {w : World} {K : PySem.W.Frag} {mg : Str → Option Value} {base : Heap}
local macro_rules | `(tactic| walk_at "own") => `(tactic| first | (with_reducible refine st_own (i := 2) ?_))
theorem ok_left_behind (T : TX w K mg) : FnOk P w K mg base CX0 1 T.a_left_behind T.fd_left_behind ["balances", "payments"] (spD K sp_left_behind) := by
  refine okD (k := 0) T.F_left_behind sc_left_behind (fun ss G Qd h => ?_) (fun cdv A outer s H E ss G Qd hr h => ?_)
  · obtain ⟨bs, ps, rfl, hb, hp, ok, q⟩ := h
    rfl
  · obtain ⟨bs, ps, rfl, hb, hp, ok, q⟩ := h
    refine ⟨_, (pss_cons (ps_set (i := 2) sc_left_behind.nd rfl (Or.inl rfl) (pe_callTy (show CallR _ (.type "list") (uList K) from (uc_list rfl)) (by rfl) T.z_list (by decide +kernel) (pa_cons (pv 0) pa_nil)))
      (pss_cons (ps_for PassesOwn.never rfl (pi_seq (pv 1)) (pg_tup rfl (pgs_cons (pg_name (i := 3) sc_left_behind.nd rfl (Or.inl rfl)) (pgs_cons (pg_name (i := 4) sc_left_behind.nd rfl (Or.inl rfl)) (pgs_cons (pg_name (i := 5) sc_left_behind.nd rfl (Or.inl rfl)) pgs_nil)))) (pss_cons (ps_augS (pv 2) (pv 3) get_lst (pv 5) ip_add set_list)
      (pss_one (ps_augS (pv 2) (pv 4) get_lst (pv 5) ip_sub set_list))))
      (pss_one (ps_ret (pv 2))))), ?_⟩
    simp only [cxOf, Cx.nox, Cx.wish, Cx.blk, startD, List.map, List.length_cons, List.length_nil, Nat.reduceAdd, Nat.reduceSub, List.replicate, List.cons_append, List.nil_append]
    walk_at "go"
    refine st_for ?_
    refine evi_seq (evc_varX ⟨_, rfl, _, _, rfl, rfl, ?_⟩)
    refine ⟨fun i Δ' G' L' => ∃ (l : List Int) (x3 x4 x5 : Option S), Δ' = [some (.d (intsD bs)), some (.d (paysD ps)), some (.l 0), x3, x4, x5] ∧ G' = G ∧ L' = [.pl (l.map D.int)] ∧ l = leftL bs (ps.take i), ?_, ?_, ?_⟩
    · exact ⟨bs, none, none, none, rfl, rfl, rfl, rfl⟩
    · rintro i d Δ' G' L' hd ⟨l, x3, x4, x5, rfl, rfl, rfl, rfl⟩
      rw [List.getElem?_map] at hd
      obtain ⟨p, hpi, rfl⟩ := Option.map_eq_some_iff.mp hd
      obtain ⟨⟨a0, a1⟩, ⟨b0, b1⟩, _, _⟩ := okP_num (ok p (List.mem_of_getElem? hpi))
      have hl := leftL_len (ps.take i) bs
      have nxt : leftL bs (ps.take (i + 1)) = stepL (leftL bs (ps.take i)) p := by
        unfold leftL
        rw [List.take_add_one, hpi, List.foldl_append]
        rfl
      obtain ⟨l, hl0⟩ : ∃ l, leftL bs (ps.take i) = l := ⟨_, rfl⟩
      rw [hl0] at nxt hl ⊢
      walk_at "go"
      refine u_get_int rfl a0 (by omega) ?_
      walk_at "go"
      refine sto_int rfl a0 (by omega) ?_
      walk_at "go"
      refine u_get_int rfl b0 (by rw [List.length_set]; omega) ?_
      walk_at "go"
      refine sto_int rfl b0 (by rw [List.length_set]; omega) ?_
      exact ⟨_, _, _, _, rfl, rfl, rfl, nxt.symm⟩
    · rintro Δ' G' L' ⟨l, x3, x4, x5, rfl, rfl, rfl, rfl⟩
      rw [List.length_map, List.take_length]
      walk_at "go"
      exact q
end
end Pf
namespace Pf
open PySem L2 DL
section
variable {P : Program} {w : World} {K : PySem.W.Frag} {mg : Str → Option Value} {base : Heap}
theorem ok_settles_holds (T : TX w K mg) (G_left_behind : FnOk P w K mg base CX0 1 T.a_left_behind T.fd_left_behind ["balances", "payments"] (spD K sp_left_behind)) (G_is_payment : FnOk P w K mg base CX0 3 T.a_is_payment T.fd_is_payment ["many", "thing"] (spD K sp_is_payment)) : FnOk P w K mg base CX0 4 T.a_settles_holds T.fd_settles_holds ["balances", "thing"] (spD K sp_settles_holds) := by
  refine okD (k := 3) T.F_settles_holds sc_settles_holds (fun ss G Qd h => ?_) (fun cdv A outer s H E ss G Qd hr h => ?_)
  · obtain ⟨bs, ps, rfl, hb, hp, q⟩ := h
    rfl
  · obtain ⟨bs, ps, rfl, hb, hp, q⟩ := h
    refine ⟨_, (pss_cons (ps_if (PW.pt (pw_or (pt_not (pt_val (pe_callB (show CallR _ (.builtin "isinstance") (rIsi K) from call_isi) (by rfl) T.z_isinstance (by decide +kernel) (pa_cons (pv 1) (pa_cons (pe_bltn (v := .ty "tuple") (u := .type "tuple") (by rfl) T.z_tuple (by decide +kernel) rfl) pa_nil))))) (pw_or1 (pt_not (pt_val (pe_callB (show CallR _ (.builtin "all") (rAll K) from (cr_all rfl)) (by rfl) T.z_all (by decide +kernel) (pa_cons (pe_lc (own := [("one", 2)]) (g := (gName 2)) (tt := tYes) (by rfl) sc_settles_holds.nd (pi_seq (pv 1)) (blkOk_by (N := ["balances", "thing", "one"]) (sc := defScope s_settles_holds) (by decide +kernel)) (fun _ _ _ _ _ => (pg_name (i := 2) sc_settles_holds.nd rfl (Or.inl rfl))) (fun _ _ _ _ _ => pts_nil) (fun _ _ _ _ _ => (pe_call G_is_payment (hr.mono (by decide)) rfl T.m_is_payment T.k_is_payment T.b_is_payment .nil pass0 (pa_cons (pe_callB (show CallR _ (.builtin "len") (uLen K) from uc_len) (by rfl) T.z_len (by decide +kernel) (pa_cons (pv 0) pa_nil)) (pa_cons (pv 2) pa_nil))))) pa_nil))))))) (pss_one (ps_ret pe_bl)) pss_nil)
      (pss_one (ps_ret (pe_not (pe_callB (show CallR _ (.builtin "any") (uAny K) from (uc_any rfl)) (by rfl) T.z_any (by decide +kernel) (pa_cons (pe_call G_left_behind (hr.mono (by decide)) rfl T.m_left_behind T.k_left_behind T.b_left_behind .nil pass0 (pa_cons (pv 0) (pa_cons (pv 1) pa_nil))) pa_nil)))))), ?_⟩
    simp only [cxOf, Cx.nox, Cx.wish, Cx.blk, startD, List.map, List.length_cons, List.length_nil, Nat.reduceAdd, Nat.reduceSub, List.replicate, List.cons_append, List.nil_append]
    walk_at "go"
    refine evn_c (evn_lcF (fun _ => true) (valP bs.length) ?_)
    refine evi_seq (evc_varX ⟨_, rfl, _, _, rfl, rfl, ?_⟩)
    refine ⟨by rw [List.length_map]; exact lt_line (by omega), ?_, ?_⟩
    · intro d hd
      obtain ⟨p, hp, rfl⟩ := List.mem_map.mp hd
      walk_at "go"
      refine ⟨rfl, fun _ => ?_, fun e => (by cases e)⟩
      walk_at "go"
      show S.d (.bl (okP (((bs.map D.int).length : Nat) : Int) p)) = _ ∧ _
      rw [List.length_map]
      exact ⟨rfl, rfl, rfl⟩
    · rw [filter_yes, List.map_map]
      have e : (ps.map (valP bs.length ∘ payD)) = (ps.map (okP bs.length)).map D.bl := by
        rw [List.map_map]
        rfl
      rw [e]
      have key : setH bs ps = ((ps.map (okP bs.length)).all id && !((leftL bs ps).any fun i => i != 0)) := by
        unfold setH
        rw [List.all_map]
        rfl
      rw [key] at q
      walk_at "go"
      refine ap_allB rfl ?_
      refine ⟨_, rfl, ?_⟩
      refine iteNB (fun h => ?_) (fun h => ?_)
      · walk_at "go"
        rw [h] at q
        exact q
      · rw [h] at q
        rw [List.all_map] at h
        walk_at "go"
        refine ⟨hb, hp, List.all_eq_true.mp h, _, _, rfl, rfl, ?_⟩
        walk_at "go"
        refine ap_anyI rfl ?_
        walk_at "go"
        exact q
end
end Pf
namespace Pf
open PySem L2 DL
section
variable {P : Program} {w : World} {K : PySem.W.Frag} {mg : Str → Option Value} {base : Heap}
theorem ok_l_deck (T : TX w K mg) : FnOk P w K mg base CX0 1 T.a_l_deck T.fd_l_deck ["_law_script"] (spD K sp_l_deck) := by
  refine okD (k := 0) T.F_l_deck sc_l_deck (fun ss G Qd h => ?_) (fun cdv A outer s H E ss G Qd hr h => ?_)
  · obtain ⟨ns, rfl, hns, q⟩ := h
    rfl
  · obtain ⟨ns, rfl, hns, q⟩ := h
    refine ⟨_, (pss_cons (ps_set (i := 1) sc_l_deck.nd rfl (Or.inl rfl) (pe_callTy (show CallR _ (.type "list") (uList K) from (uc_list rfl)) (by rfl) T.z_list (by decide +kernel) (pa_cons (pe_slice (show SlR _ (uSl K) from us_sl) (pv 0) po_none (po_some pe_int)) pa_nil)))
      (pss_cons (ps_set (i := 2) sc_l_deck.nd rfl (Or.inl rfl) pe_int)
      (pss_cons (ps_for PassesOwn.never rfl (pi_seq (pv 1)) (pg_name (i := 3) sc_l_deck.nd rfl (Or.inl rfl)) (pss_one (ps_set (i := 2) sc_l_deck.nd rfl (Or.inl rfl) (pe_op op_mod (pe_op (show OpR _ (binaryOp .Add) (uAdd K) from uo_add) (pe_op (show OpR _ (binaryOp .Add) (uAdd K) from uo_add) (pe_op (show OpR _ (binaryOp .Mult) (uMulT K) from uo_mulT) (pv 2) pe_int) (pv 3)) pe_int) pe_int))))
      (pss_one (ps_ret (pe_lst (pa_cons (pe_revU (pv 1)) (pa_cons (pv 2) (pa_cons pe_int pa_nil))))))))), ?_⟩
    simp only [cxOf, Cx.nox, Cx.wish, Cx.blk, startD, List.map, List.length_cons, List.length_nil, Nat.reduceAdd, Nat.reduceSub, List.replicate, List.cons_append, List.nil_append]
    walk_at "go"
    refine sln_c (sl_scr ?_)
    walk_at "go"
    obtain ⟨cells, hc, hl, _⟩ := cutD_map D.int ns none (some 63)
    rw [hc]
    generalize hD : ([some (S.d (D.scr ns)), none, none, none].set 1 (some (S.d (D.lst (cells.map D.int))))) = Δ
    have hD' : Δ = [some (S.d (D.scr ns)), some (S.d (D.lst (cells.map D.int))), none, none] := hD.symm
    subst hD'
    clear hD
    walk_at "go"
    refine st_for ?_
    refine evi_seq (evc_varX ⟨_, rfl, _, _, rfl, rfl, ?_⟩)
    refine ⟨fun i Δ' G' L' => ∃ (seed : Int) (x3 : Option S), Δ' = [some (S.d (D.scr ns)), some (S.d (D.lst (cells.map D.int))), some (.d (.int seed)), x3] ∧ G' = G ∧ L' = [] ∧ 0 ≤ seed ∧ seed < 2 ^ 62, ?_, ?_, ?_⟩
    · exact ⟨11, none, rfl, rfl, rfl, by decide, by decide⟩
    · rintro i d Δ' G' L' hd ⟨seed, x3, rfl, rfl, rfl, s0, s1⟩
      obtain ⟨z, hz, rfl⟩ := get_map hd
      walk_at "go"
      exact ⟨rfl, Int.emod_nonneg _ (by decide), Int.lt_trans (Int.emod_lt_of_pos _ (by decide)) (by decide)⟩
    · rintro Δ' G' L' ⟨seed, x3, rfl, rfl, rfl, s0, s1⟩
      refine st_ret2 ?_
      refine evn_revU ?_
      walk_at "go"
      have f := q cells.reverse seed (by rw [List.length_reverse]; omega) s0 s1
      rw [List.map_reverse] at f
      exact f
end
end Pf
namespace Pf
open PySem L2 DL
section
variable {P : Program} {w : World} {K : PySem.W.Frag} {mg : Str → Option Value} {base : Heap}
local macro_rules | `(tactic| walk_at "own") => `(tactic| first | (with_reducible refine st_own (i := 2) ?_) | (with_reducible refine st_own (i := 3) ?_))
theorem ok_l_shuffled (T : TX w K mg) (G_l_draw : FnOk P w K mg base CX0 1 T.a_l_draw T.fd_l_draw ["_law_deck_here", "_law_most"] (spD K sp_l_draw)) : FnOk P w K mg base CX0 2 T.a_l_shuffled T.fd_l_shuffled ["_law_deck_here", "_law_some"] (spD K sp_l_shuffled) := by
  refine okD (k := 1) T.F_l_shuffled sc_l_shuffled (fun ss G Qd h => ?_) (fun cdv A outer s H E ss G Qd hr h => ?_)
  · obtain ⟨k, c, n, cells, seed, cnt, ps, rfl, hD, hn, hp, q⟩ := h
    rfl
  · obtain ⟨k, c, n, cells, seed, cnt, ps, rfl, hD, hn, hp, q⟩ := h
    refine ⟨_, (pss_cons (ps_set (i := 2) sc_l_shuffled.nd rfl (Or.inl rfl) (pe_callTy (show CallR _ (.type "list") (uList K) from (uc_list rfl)) (by rfl) T.z_list (by decide +kernel) (pa_cons (pv 1) pa_nil)))
      (pss_cons (ps_set (i := 3) sc_l_shuffled.nd rfl (Or.inl rfl) (pe_lst pa_nil))
      (pss_cons (ps_while PassesOwn.never (pt_cmpR (show OpR _ (compareOp .NotEq) (uNe K) from (uo_ne hr.units)) (pv 2) (pe_lst pa_nil) (nomark _)) (pss_one (ps_expr (pe_bm PySem.F.plainAttrs_list PySem.F.slot_list_append PySem.F.type_list_append mt_append (pv 3) (pa_cons (pe_bm PySem.F.plainAttrs_list PySem.F.slot_list_pop PySem.F.type_list_pop mt_popAt (pv 2) (pa_cons (pe_call G_l_draw (hr.mono (by decide)) rfl T.m_l_draw T.k_l_draw T.b_l_draw .nil pass0 (pa_cons (pv 0) (pa_cons (pe_callB (show CallR _ (.builtin "len") (uLen K) from uc_len) (by rfl) T.z_len (by decide +kernel) (pa_cons (pv 2) pa_nil)) pa_nil))) pa_nil)) pa_nil)))))
      (pss_one (ps_ret (pv 3)))))), ?_⟩
    simp only [cxOf, Cx.nox, Cx.wish, Cx.blk, startD, List.map, List.length_cons, List.length_nil, Nat.reduceAdd, Nat.reduceSub, List.replicate, List.cons_append, List.nil_append]
    walk_at "god"
    refine st_while (fun m Δ' G' L' => ∃ ls fs : List Pay, Δ' = [some (.g k), some (.d (paysD ps)), some (.l 0), some (.l 1)] ∧ L' = [.pl (ls.map payD), .pl (fs.map payD)] ∧ (fs ++ ls).Perm ps ∧ ls.length = m ∧ m ≤ 40 ∧ DkTo G k c (n + (40 - (m : Int))) G') ps.length ⟨ps, [], rfl, rfl, List.Perm.refl _, rfl, hp, (DkTo.refl hD).mono (by omega)⟩ ?_
    rintro m Δ' G' L' ⟨ls, fs, rfl, rfl, hpm, hm, hm40, t⟩
    obtain ⟨_, _, _, Dt⟩ := t.dk
    walk_at "go"
    refine u_ne_nilG ⟨rfl, _, rfl, eqb_of (pays_eqb ls) (by decide), ?_⟩
    refine ⟨_, rfl, ?_⟩
    refine iteB (fun hne => ?_) (fun hem => ?_)
    · have hpos : 0 < ls.length := by
        cases ls with
        | nil => cases hne
        | cons _ _ => exact Nat.succ_pos _
      have hlm : (ls.map payD).length = ls.length := List.length_map ..
      walk_at "god"
      rename_i r G2 _ _ _ t2 _ r0 r1
      refine mt_popAtX ⟨_, rfl, r0, r1, by omega, fun j x hj hx => ?_⟩
      rw [List.getElem?_map] at hx
      obtain ⟨p, hpj, rfl⟩ := Option.map_eq_some_iff.mp hx
      rw [List.length_map] at hj
      have hfl : fs.length + ls.length = ps.length := by
        have := hpm.length_eq
        rw [List.length_append] at this
        exact this
      have hel := erase_len hj
      walk_at "go"
      refine mt_app_lX ⟨_, rfl, by rw [List.length_map]; exact lt_line (by omega), ?_⟩
      rw [erase_map]
      refine ⟨m - 1, by omega, ls.eraseIdx j, fs ++ [p], rfl, ?_, perm_shift hpm hpj, by omega, by omega, (t.trans t2).mono (by omega)⟩
      show [M.pl _, M.pl (fs.map payD ++ [payD p])] = [M.pl _, M.pl ((fs ++ [p]).map payD)]
      rw [List.map_append]
      rfl
    · have hnil : ls = [] := by
        cases ls with
        | nil => rfl
        | cons _ _ => cases hem
      subst hnil
      walk_at "go"
      rw [List.append_nil] at hpm
      exact q fs _ hpm (t.mono (by omega))
end
end Pf
namespace Pf
open PySem L2 DL
section
variable {P : Program} {w : World} {K : PySem.W.Frag} {mg : Str → Option Value} {base : Heap}
local macro_rules | `(tactic| walk_at "own") => `(tactic| first | (with_reducible refine st_own (i := 2) ?_))
theorem ok_l_settles (T : TX w K mg) (G_l_whole : FnOk P w K mg base CX0 1 T.a_l_whole T.fd_l_whole ["_law_thing"] (spD K sp_l_whole)) : FnOk P w K mg base CX0 2 T.a_l_settles T.fd_l_settles ["_law_balances_here", "_law_thing"] (spD K sp_l_settles) := by
  refine okD (k := 1) T.F_l_settles sc_l_settles (fun ss G Qd h => ?_) (fun cdv A outer s H E ss G Qd hr h => ?_)
  · obtain ⟨bs, ps, rfl, hb, hp, q⟩ := h
    rfl
  · obtain ⟨bs, ps, rfl, hb, hp, q⟩ := h
    refine ⟨_, (pss_cons (ps_if (pt_not (pt_val (pe_callB (show CallR _ (.builtin "isinstance") (rIsi K) from call_isi) (by rfl) T.z_isinstance (by decide +kernel) (pa_cons (pv 1) (pa_cons (pe_bltn (v := .ty "tuple") (u := .type "tuple") (by rfl) T.z_tuple (by decide +kernel) rfl) pa_nil))))) (pss_one (ps_ret pe_bl)) pss_nil)
      (pss_cons (ps_set (i := 2) sc_l_settles.nd rfl (Or.inl rfl) (pe_op (show OpR _ (binaryOp .Mult) (uMulT K) from uo_mulT) (pe_lst (pa_cons pe_int pa_nil)) (pe_callB (show CallR _ (.builtin "len") (uLen K) from uc_len) (by rfl) T.z_len (by decide +kernel) (pa_cons (pv 0) pa_nil))))
      (pss_cons (ps_for PassesOwn.never rfl (pi_seq (pv 1)) (pg_name (i := 3) sc_l_settles.nd rfl (Or.inl rfl)) (pss_cons (ps_if (PW.pt (pw_or (pt_not (pt_val (pe_callB (show CallR _ (.builtin "isinstance") (rIsi K) from call_isi) (by rfl) T.z_isinstance (by decide +kernel) (pa_cons (pv 3) (pa_cons (pe_bltn (v := .ty "tuple") (u := .type "tuple") (by rfl) T.z_tuple (by decide +kernel) rfl) pa_nil))))) (pw_or (pt_cmpR (show OpR _ (compareOp .NotEq) (uNe K) from (uo_ne hr.units)) (pe_callB (show CallR _ (.builtin "len") (uLen K) from uc_len) (by rfl) T.z_len (by decide +kernel) (pa_cons (pv 3) pa_nil)) pe_int (nomark _)) (pw_or1 (pt_cmpR (show OpR _ (compareOp .NotEq) (uNe K) from (uo_ne hr.units)) (pe_lc (own := [("_law_part", 4)]) (g := (gName 4)) (by rfl) sc_l_settles.nd (pi_seq (pv 3)) (blkOk_by (N := ["_law_balances_here", "_law_thing", "_law_due", "_law_one", "_law_part", "_law_payer", "_law_taker", "_law_pence"]) (sc := defScope s_l_settles) (by decide +kernel)) (fun _ _ _ _ _ => (pg_name (i := 4) sc_l_settles.nd rfl (Or.inl rfl))) (fun _ _ _ _ _ => (pts_one (pt_not (pt_val (pe_call G_l_whole (hr.mono (by decide)) rfl T.m_l_whole T.k_l_whole T.b_l_whole .nil pass0 (pa_cons (pv 4) pa_nil)))))) (fun _ _ _ _ _ => (pv 4))) (pe_lst pa_nil) (nomark _)))))) (pss_one (ps_ret pe_bl)) pss_nil)
      (pss_cons (ps_asg (pv 3) (pg_tup rfl (pgs_cons (pg_name (i := 5) sc_l_settles.nd rfl (Or.inl rfl)) (pgs_cons (pg_name (i := 6) sc_l_settles.nd rfl (Or.inl rfl)) (pgs_cons (pg_name (i := 7) sc_l_settles.nd rfl (Or.inl rfl)) pgs_nil)))))
      (pss_cons (ps_if (PW.pt (pw_or (pt_not (pt_chain op_le op_lt pe_int (pv 5) (pe_callB (show CallR _ (.builtin "len") (uLen K) from uc_len) (by rfl) T.z_len (by decide +kernel) (pa_cons (pv 0) pa_nil)))) (pw_or (pt_not (pt_chain op_le op_lt pe_int (pv 6) (pe_callB (show CallR _ (.builtin "len") (uLen K) from uc_len) (by rfl) T.z_len (by decide +kernel) (pa_cons (pv 0) pa_nil)))) (pw_or (pt_cmpR (show OpR _ (compareOp .Eq) (uEq K) from (uo_eq hr.units)) (pv 5) (pv 6) (nomark _)) (pw_or1 (pt_cmpR op_lt (pv 7) pe_int (nomark _))))))) (pss_one (ps_ret pe_bl)) pss_nil)
      (pss_cons (ps_asg (pe_op (show OpR _ (binaryOp .Add) (uAdd K) from uo_add) (pe_ix (show IxR _ (rIx K) from ix_seq) (pv 2) (pv 6) (fun _ _ => rfl)) (pv 7)) (pg_sub (pv 2) (pv 6) set_list))
      (pss_one (ps_asg (pe_op op_sub (pe_ix (show IxR _ (rIx K) from ix_seq) (pv 2) (pv 5) (fun _ _ => rfl)) (pv 7)) (pg_sub (pv 2) (pv 5) set_list))))))))
      (pss_one (ps_ret (pe_cmpR (show OpR _ (compareOp .Eq) (uEq K) from (uo_eq hr.units)) (pv 2) (pe_callTy (show CallR _ (.type "list") (uList K) from (uc_list rfl)) (by rfl) T.z_list (by decide +kernel) (pa_cons (pv 0) pa_nil)) (nomark _))))))), ?_⟩
    simp only [cxOf, Cx.nox, Cx.wish, Cx.blk, startD, List.map, List.length_cons, List.length_nil, Nat.reduceAdd, Nat.reduceSub, List.replicate, List.cons_append, List.nil_append]
    walk_at "go"
    refine u_mulT_lX ⟨_, rfl, ⟨by omega, by rw [List.length_map]; omega, le_line (by rw [List.length_map]; show 1 * _ ≤ _; omega)⟩, ?_⟩
    rw [rep_int, List.length_map, Int.toNat_natCast]
    walk_at "go"
    refine st_for ?_
    refine evi_seq (evc_varX ⟨_, rfl, _, _, rfl, rfl, ?_⟩)
    refine ⟨fun i Δ' G' L' => ∃ (x3 x5 x6 x7 : Option S), Δ' = [some (.d (intsD bs)), some (.d (paysD ps)), some (.l 0), x3, none, x5, x6, x7] ∧ G' = G ∧ L' = [.pl ((dueL (List.replicate bs.length 0) (ps.take i)).map D.int)] ∧ (∀ p ∈ ps.take i, okP bs.length p = true), ?_, ?_, ?_⟩
    · exact ⟨none, none, none, none, rfl, rfl, rfl, fun p h => by cases h⟩
    · rintro i d Δ' G' L' hd ⟨x3, x5, x6, x7, rfl, rfl, rfl, ok⟩
      rw [List.getElem?_map] at hd
      obtain ⟨p, hpi, rfl⟩ := Option.map_eq_some_iff.mp hd
      have hmem := List.mem_of_getElem? hpi
      have fls : okP bs.length p = false → ∀ L, (endsD Qd).rt (.d (.bl false)) G' L := fun h L => by
        rw [setS_no hmem h] at q
        exact q
      have hl := dueL_len (ps.take i) (List.replicate bs.length 0)
      rw [List.length_replicate] at hl
      have nxt : dueL (List.replicate bs.length 0) (ps.take (i + 1)) = stepD (dueL (List.replicate bs.length 0) (ps.take i)) p := by
        unfold dueL
        rw [List.take_add_one, hpi, List.foldl_append]
        rfl
      have okn : okP bs.length p = true → ∀ p ∈ ps.take (i + 1), okP bs.length p = true := fun h r hr => by
        rw [List.take_add_one, hpi, List.mem_append] at hr
        rcases hr with hr | hr
        · exact ok r hr
        · rw [show (some p).toList = [p] from rfl, List.mem_singleton] at hr
          rw [hr]
          exact h
      obtain ⟨l, hl0⟩ : ∃ l, dueL (List.replicate bs.length 0) (ps.take i) = l := ⟨_, rfl⟩
      rw [hl0] at nxt hl ⊢
      walk_at "go"
      refine iteND (fun h => absurd rfl h) (fun _ => ?_)
      walk_at "go"
      refine evn_c (evn_lcF (fun _ => false) id ?_)
      refine evi_seq (evc_varX ⟨_, rfl, _, _, rfl, rfl, ?_⟩)
      refine ⟨lt_line (Nat.le_of_ble_eq_true rfl), ?_, ?_⟩
      · intro d hd
        obtain ⟨z, rfl⟩ : ∃ z, d = .int z := by
          simp only [List.mem_cons, List.not_mem_nil, or_false] at hd
          rcases hd with rfl | rfl | rfl
          · exact ⟨_, rfl⟩
          · exact ⟨_, rfl⟩
          · exact ⟨_, rfl⟩
        walk_at "go"
        refine ⟨rfl, (fun e => by cases e), fun _ => ⟨rfl, rfl⟩⟩
      refine ⟨_, rfl, ?_⟩
      walk_at "go1"
      refine u_ne_nilG ⟨rfl, _, rfl, (show Eqb [] from ⟨[], rfl, shaped_nil⟩), ?_⟩
      refine ⟨_, rfl, ?_⟩
      refine iteNT ?_
      repeat' (first | walk_at "d1" | walk_at "d3" | refine iteD (fun _ => ?_) (fun _ => ?_) | refine iteND (fun _ => ?_) (fun _ => ?_))
      all_goals (try simp only [List.length_map] at *)
      all_goals first | exact fls (okP_no (by omega)) _ | skip
      have okp : okP bs.length p = true := okP_mk ⟨by assumption, by assumption⟩ ⟨by assumption, by assumption⟩ (by assumption) (by omega)
      refine u_ix_int rfl (by assumption) (by omega) ?_
      walk_at "go1"
      refine sto_int rfl (by assumption) (by omega) ?_
      walk_at "go1"
      refine u_ix_int rfl (by assumption) (by rw [List.length_set]; omega) ?_
      walk_at "go1"
      refine sto_int rfl (by assumption) (by rw [List.length_set]; omega) ?_
      exact ⟨_, _, _, _, rfl, rfl, by rw [nxt]; rfl, okn okp⟩
    · rintro Δ' G' L' ⟨x3, x5, x6, x7, rfl, rfl, rfl, ok⟩
      rw [List.length_map, List.take_length] at *
      walk_at "go"
      refine u_eq_is rfl rfl ?_
      walk_at "go"
      have e : setS bs ps = decide (dueL (List.replicate bs.length 0) ps = bs) := by
        unfold setS
        rw [List.all_eq_true.mpr ok]
        rfl
      rw [e] at q
      exact q
end
end Pf
namespace Pf
open PySem L2 DL
section
variable {P : Program} {w : World} {K : PySem.W.Frag} {mg : Str → Option Value} {base : Heap}
local macro_rules | `(tactic| walk_at "own") => `(tactic| first | (with_reducible refine st_own (i := 4) ?_))
theorem ok_l_payments (T : TX w K mg) (G_l_draw : FnOk P w K mg base CX0 1 T.a_l_draw T.fd_l_draw ["_law_deck_here", "_law_most"] (spD K sp_l_draw)) : FnOk P w K mg base CX0 2 T.a_l_payments T.fd_l_payments ["_law_deck_here", "_law_many"] (spD K sp_l_payments) := by
  refine okD (k := 1) T.F_l_payments sc_l_payments (fun ss G Qd h => ?_) (fun cdv A outer s H E ss G Qd hr h => ?_)
  · obtain ⟨k, c, n, cells, seed, cnt, m, rfl, hD, hn, hm, q⟩ := h
    rfl
  · obtain ⟨k, c, n, cells, seed, cnt, m, rfl, hD, hn, hm, q⟩ := h
    refine ⟨_, (pss_cons (ps_set (i := 2) sc_l_payments.nd rfl (Or.inl rfl) (pe_ix (show IxR _ (rIx K) from ix_seq) (pe_lst (pa_cons (pe_call G_l_draw (hr.mono (by decide)) rfl T.m_l_draw T.k_l_draw T.b_l_draw .nil pass0 (pa_cons (pv 0) (pa_cons pe_int pa_nil))) (pa_cons (pe_call G_l_draw (hr.mono (by decide)) rfl T.m_l_draw T.k_l_draw T.b_l_draw .nil pass0 (pa_cons (pv 0) (pa_cons pe_int pa_nil))) pa_nil))) (pe_callTy uc_int (by rfl) T.z_int (by decide +kernel) (pa_cons (pe_cmpR (show OpR _ (compareOp .Eq) (uEq K) from (uo_eq hr.units)) (pe_call G_l_draw (hr.mono (by decide)) rfl T.m_l_draw T.k_l_draw T.b_l_draw .nil pass0 (pa_cons (pv 0) (pa_cons pe_int pa_nil))) pe_int (nomark _)) pa_nil)) (fun _ _ => rfl)))
      (pss_cons (ps_set (i := 3) sc_l_payments.nd rfl (Or.inl rfl) (pe_ix (show IxR _ (rIx K) from ix_seq) (pe_lst (pa_cons pe_int (pa_cons pe_int (pa_cons (pe_op op_pow pe_int pe_int) pa_nil)))) (pe_call G_l_draw (hr.mono (by decide)) rfl T.m_l_draw T.k_l_draw T.b_l_draw .nil pass0 (pa_cons (pv 0) (pa_cons pe_int pa_nil))) (fun _ _ => rfl)))
      (pss_cons (ps_set (i := 4) sc_l_payments.nd rfl (Or.inl rfl) (pe_lst pa_nil))
      (pss_cons (ps_for PassesOwn.never rfl (pi_range1 rfl T.z_range (pa_cons (pv 2) pa_nil)) (pg_name (i := 5) sc_l_payments.nd rfl (Or.inl rfl)) (pss_cons (ps_set (i := 6) sc_l_payments.nd rfl (Or.inl rfl) (pe_call G_l_draw (hr.mono (by decide)) rfl T.m_l_draw T.k_l_draw T.b_l_draw .nil pass0 (pa_cons (pv 0) (pa_cons pe_int pa_nil))))
      (pss_cons (ps_set (i := 7) sc_l_payments.nd rfl (Or.inl rfl) (pe_call G_l_draw (hr.mono (by decide)) rfl T.m_l_draw T.k_l_draw T.b_l_draw .nil pass0 (pa_cons (pv 0) (pa_cons (pv 1) pa_nil))))
      (pss_cons (ps_set (i := 8) sc_l_payments.nd rfl (Or.inl rfl) (pe_op op_mod (pe_op (show OpR _ (binaryOp .Add) (uAdd K) from uo_add) (pe_op (show OpR _ (binaryOp .Add) (uAdd K) from uo_add) (pv 7) pe_int) (pe_call G_l_draw (hr.mono (by decide)) rfl T.m_l_draw T.k_l_draw T.b_l_draw .nil pass0 (pa_cons (pv 0) (pa_cons (pe_op op_sub (pv 1) pe_int) pa_nil)))) (pv 1)))
      (pss_cons (ps_set (i := 9) sc_l_payments.nd rfl (Or.inl rfl) (pe_tup (pa_cons (pv 7) (pa_cons (pv 8) (pa_cons (pe_op (show OpR _ (binaryOp .Mult) (uMulT K) from uo_mulT) (pv 3) (pe_op (show OpR _ (binaryOp .Add) (uAdd K) from uo_add) pe_int (pe_call G_l_draw (hr.mono (by decide)) rfl T.m_l_draw T.k_l_draw T.b_l_draw .nil pass0 (pa_cons (pv 0) (pa_cons pe_int pa_nil))))) pa_nil)))))
      (pss_cons (ps_if (PW.pt (pw_and (pt_cmpR (show OpR _ (compareOp .NotEq) (uNe K) from (uo_ne hr.units)) (pv 4) (pe_lst pa_nil) (nomark _)) (pw_and1 (pt_cmpR (show OpR _ (compareOp .Eq) (uEq K) from (uo_eq hr.units)) (pv 6) pe_int (nomark _))))) (pss_one (ps_set (i := 9) sc_l_payments.nd rfl (Or.inl rfl) (pe_ix (show IxR _ (rIx K) from ix_seq) (pv 4) (pe_un un_neg pe_int) (fun _ _ => rfl)))) pss_nil)
      (pss_cons (ps_if (PW.pt (pw_and (pt_cmpR (show OpR _ (compareOp .NotEq) (uNe K) from (uo_ne hr.units)) (pv 4) (pe_lst pa_nil) (nomark _)) (pw_and1 (pt_cmpR (show OpR _ (compareOp .Eq) (uEq K) from (uo_eq hr.units)) (pv 6) pe_int (nomark _))))) (pss_one (ps_set (i := 9) sc_l_payments.nd rfl (Or.inl rfl) (pe_tup (pa_cons (pe_ix (show IxR _ (rIx K) from ix_seq) (pe_ix (show IxR _ (rIx K) from ix_seq) (pv 4) (pe_un un_neg pe_int) (fun _ _ => rfl)) pe_int (fun _ _ => rfl)) (pa_cons (pe_ix (show IxR _ (rIx K) from ix_seq) (pe_ix (show IxR _ (rIx K) from ix_seq) (pv 4) (pe_un un_neg pe_int) (fun _ _ => rfl)) pe_int (fun _ _ => rfl)) (pa_cons (pe_ix (show IxR _ (rIx K) from ix_seq) (pe_ix (show IxR _ (rIx K) from ix_seq) (pv 4) (pe_un un_neg pe_int) (fun _ _ => rfl)) pe_int (fun _ _ => rfl)) pa_nil)))))) pss_nil)
      (pss_cons (ps_if (PW.pt (pw_and (pt_cmpR (show OpR _ (compareOp .NotEq) (uNe K) from (uo_ne hr.units)) (pv 4) (pe_lst pa_nil) (nomark _)) (pw_and1 (pt_cmpR (show OpR _ (compareOp .Eq) (uEq K) from (uo_eq hr.units)) (pv 6) pe_int (nomark _))))) (pss_cons (ps_set (i := 7) sc_l_payments.nd rfl (Or.inl rfl) (pe_ix (show IxR _ (rIx K) from ix_seq) (pe_ix (show IxR _ (rIx K) from ix_seq) (pv 4) (pe_un un_neg pe_int) (fun _ _ => rfl)) pe_int (fun _ _ => rfl)))
      (pss_one (ps_set (i := 9) sc_l_payments.nd rfl (Or.inl rfl) (pe_tup (pa_cons (pv 7) (pa_cons (pe_op op_mod (pe_op (show OpR _ (binaryOp .Add) (uAdd K) from uo_add) (pe_op (show OpR _ (binaryOp .Add) (uAdd K) from uo_add) (pv 7) pe_int) (pe_call G_l_draw (hr.mono (by decide)) rfl T.m_l_draw T.k_l_draw T.b_l_draw .nil pass0 (pa_cons (pv 0) (pa_cons (pe_op op_sub (pv 1) pe_int) pa_nil)))) (pv 1)) (pa_cons (pe_ix (show IxR _ (rIx K) from ix_seq) (pe_ix (show IxR _ (rIx K) from ix_seq) (pv 4) (pe_un un_neg pe_int) (fun _ _ => rfl)) pe_int (fun _ _ => rfl)) pa_nil))))))) pss_nil)
      (pss_one (ps_expr (pe_bm PySem.F.plainAttrs_list PySem.F.slot_list_append PySem.F.type_list_append mt_append (pv 4) (pa_cons (pv 9) pa_nil))))))))))))
      (pss_one (ps_ret (pe_callTy (show CallR _ (.type "tuple") (uTuple K) from uc_tuple) (by rfl) T.z_tuple (by decide +kernel) (pa_cons (pv 4) pa_nil)))))))), ?_⟩
    simp only [cxOf, Cx.nox, Cx.wish, Cx.blk, startD, List.map, List.length_cons, List.length_nil, Nat.reduceAdd, Nat.reduceSub, List.replicate, List.cons_append, List.nil_append]
    walk_at "god"
    refine u_ix_all ⟨_, rfl, by split <;> omega, by simp only [List.length_cons, List.length_nil]; split <;> omega, fun d hd => ?_⟩
    obtain ⟨cn, rfl, c0, c1⟩ : ∃ z, d = .int z ∧ 0 ≤ z ∧ z ≤ 40 := by
      simp only [List.mem_cons, List.not_mem_nil, or_false] at hd
      rcases hd with rfl | rfl
      · exact ⟨_, rfl, by omega, by omega⟩
      · exact ⟨_, rfl, by omega, by omega⟩
    clear hd
    walk_at "god"
    refine u_ix_all ⟨_, rfl, by omega, by simp only [List.length_cons, List.length_nil]; omega, fun d hd => ?_⟩
    obtain ⟨un, rfl, u0, u1⟩ : ∃ z, d = .int z ∧ 1 ≤ z ∧ z ≤ 1000000000 := by
      simp only [List.mem_cons, List.not_mem_nil, or_false] at hd
      rcases hd with rfl | rfl | rfl
      · exact ⟨_, rfl, by omega, by omega⟩
      · exact ⟨_, rfl, by omega, by omega⟩
      · exact ⟨_, rfl, by omega, by omega⟩
    clear hd
    rename_i Gd _ _ _ td _ _ _
    have t0 : DkTo G k c (n + 4) Gd := ((DkTo.trans (by assumption) (DkTo.trans (by assumption) (DkTo.trans (by assumption) td)))).mono (by omega)
    walk_at "god"
    refine st_for ?_
    walk_at "god"
    refine ⟨by omega, by omega, ?_⟩
    refine ⟨fun i Δ' G' L' => ∃ (ps : List Pay) (x5 x6 x7 x8 x9 : Option S), Δ' = [some (.g k), some (.d (.int m)), some (.d (.int cn)), some (.d (.int un)), some (.l 0), x5, x6, x7, x8, x9] ∧ L' = [.pl (ps.map payD)] ∧ ps.length = i ∧ (∀ p ∈ ps, okP m p = true) ∧ DkTo G k c (n + 4 + 6 * (i : Int)) G', ?_, ?_, ?_⟩
    · exact ⟨[], none, none, none, none, none, rfl, rfl, rfl, (fun p h => by cases h), t0.mono (by omega)⟩
    · rintro i d Δ' G' L' hd ⟨ps, x5, x6, x7, x8, x9, rfl, rfl, hl, ok, t⟩
      obtain ⟨hi, rfl⟩ := rngD_get hd
      obtain ⟨_, _, _, Dt⟩ := t.dk
      have hi40 : i < 40 := by omega
      have fin : ∀ (a b z : Int) (G2 : List M) (x5 x6 x7 x8 x9 : Option S), okP m (a, b, z) = true → DkTo G' k c (n + 4 + 6 * (i : Int) + 6) G2 →
          ∃ (ps' : List Pay) (y5 y6 y7 y8 y9 : Option S), [some (S.g k), some (.d (.int m)), some (.d (.int cn)), some (.d (.int un)), some (.l 0), x5, x6, x7, x8, x9] = [some (.g k), some (.d (.int m)), some (.d (.int cn)), some (.d (.int un)), some (.l 0), y5, y6, y7, y8, y9] ∧
            [M.pl (ps.map payD ++ [.tup [.int a, .int b, .int z]])] = [.pl (ps'.map payD)] ∧ ps'.length = i + 1 ∧ (∀ p ∈ ps', okP m p = true) ∧ DkTo G k c (n + 4 + 6 * ((i + 1 : Nat) : Int)) G2 := by
        intro a b z G2 y5 y6 y7 y8 y9 hok ht
        refine ⟨ps ++ [(a, b, z)], _, _, _, _, _, rfl, ?_, by rw [List.length_append, hl]; rfl, fun p hp => ?_, (t.trans ht).mono (by omega)⟩
        · rw [List.map_append]
          rfl
        · rcases List.mem_append.mp hp with h | h
          · exact ok p h
          · rw [List.mem_singleton] at h
            rw [h]
            exact hok
      walk_at "god"
      rename_i wy G3 _ _ _ t3 _ wy0 wy1 pa G4 _ _ _ t4 _ pa0 pa1 rt G5 _ _ _ t5 _ rt0 rt1 pn G6 _ _ _ t6 _ pn0 pn1
      have t46 : DkTo G' k c (n + 4 + 6 * (i : Int) + 4) G6 := (t3.trans (t4.trans (t5.trans t6))).mono (by omega)
      obtain ⟨q0, q1, q2⟩ := mod_ne pa0 pa1 rt0 rt1
      have hpos : 1 ≤ un * (1 + pn) := by
        have := Int.mul_le_mul u0 (show (1 : Int) ≤ 1 + pn by omega) (by decide) (by omega)
        omega
      have okd : okP m (pa, (pa + 1 + rt) % m, un * (1 + pn)) = true := okP_mk ⟨pa0, pa1⟩ ⟨q0, q1⟩ q2 hpos
      refine u_ne_nilG ⟨rfl, _, rfl, eqb_of (pays_eqb ps) (by decide), ?_⟩
      refine ⟨_, rfl, ?_⟩
      refine iteB (fun hne => ?_) (fun hem => ?_)
      · obtain ⟨l, hlm, hlast⟩ := last_at payD (xs := ps) (by
          cases e : (ps.map payD).isEmpty with
          | false => rfl
          | true =>
            rw [e] at hne
            cases hne)
        have okl := ok l hlm
        obtain ⟨⟨la, la'⟩, ⟨lb, lb'⟩, lne, lz⟩ := okP_num okl
        have okw : okP m (l.2.1, l.1, l.2.2) = true := okP_mk ⟨lb, lb'⟩ ⟨la, la'⟩ (fun e => lne e.symm) lz
        repeat' (first
          | refine u_ix_g rfl hlast ?_
          | (refine u_ne_nilG ⟨rfl, _, rfl, eqb_of (pays_eqb ps) (by decide), ?_⟩; refine ⟨_, rfl, ?_⟩; rw [if_pos hne])
          | (refine mt_app_lX ⟨_, rfl, by rw [List.length_map]; exact lt_line (by omega), ?_⟩)
          | refine iteD (fun _ => ?_) (fun _ => ?_)
          | omega
          | walk_at "d1" | walk_at "d2" | walk_at "draw")
        · exact fin l.1 l.2.1 l.2.2 _ _ _ _ _ _ okl (t46.mono (by omega))
        · exact fin l.2.1 l.1 l.2.2 _ _ _ _ _ _ okw (t46.mono (by omega))
        · rename_i r7 G7 _ _ _ t7 _ r70 r71
          obtain ⟨q0', q1', q2'⟩ := mod_ne lb lb' r70 r71
          exact fin l.2.1 _ l.2.2 _ _ _ _ _ _ (okP_mk ⟨lb, lb'⟩ ⟨q0', q1'⟩ q2' lz) ((t46.trans t7).mono (by omega))
        · exact fin pa _ _ _ _ _ _ _ _ okd (t46.mono (by omega))
      · repeat' (first
          | (refine u_ne_nilG ⟨rfl, _, rfl, eqb_of (pays_eqb ps) (by decide), ?_⟩; refine ⟨_, rfl, ?_⟩; rw [if_neg (by rw [hem]; decide)])
          | (refine mt_app_lX ⟨_, rfl, by rw [List.length_map]; exact lt_line (by omega), ?_⟩)
          | walk_at "d1" | walk_at "d3" | walk_at "draw")
        · exact fin pa _ _ _ _ _ _ _ _ okd (t46.mono (by omega))
    · rintro Δ' G' L' ⟨ps, x5, x6, x7, x8, x9, rfl, rfl, hl, ok, t⟩
      rw [rngD_len] at hl t
      walk_at "god"
      exact q ps _ ⟨by omega, ok⟩ (t.mono (by omega))
end
end Pf
namespace Pf
open PySem L2 DL
section
variable {P : Program} {w : World} {K : PySem.W.Frag} {mg : Str → Option Value} {base : Heap}
local macro_rules | `(tactic| walk_at "own") => `(tactic| first | (with_reducible refine st_own (i := 2) ?_))
theorem ok_l_balances (T : TX w K mg) : FnOk P w K mg base CX0 1 T.a_l_balances T.fd_l_balances ["_law_many", "_law_payments_here"] (spD K sp_l_balances) := by
  refine okD (k := 0) T.F_l_balances sc_l_balances (fun ss G Qd h => ?_) (fun cdv A outer s H E ss G Qd hr h => ?_)
  · obtain ⟨m, ps, rfl, hm, ⟨hp, ok⟩, q⟩ := h
    rfl
  · obtain ⟨m, ps, rfl, hm, ⟨hp, ok⟩, q⟩ := h
    refine ⟨_, (pss_cons (ps_set (i := 2) sc_l_balances.nd rfl (Or.inl rfl) (pe_op (show OpR _ (binaryOp .Mult) (uMulT K) from uo_mulT) (pe_lst (pa_cons pe_int pa_nil)) (pv 0)))
      (pss_cons (ps_for PassesOwn.never rfl (pi_seq (pv 1)) (pg_tup rfl (pgs_cons (pg_name (i := 3) sc_l_balances.nd rfl (Or.inl rfl)) (pgs_cons (pg_name (i := 4) sc_l_balances.nd rfl (Or.inl rfl)) (pgs_cons (pg_name (i := 5) sc_l_balances.nd rfl (Or.inl rfl)) pgs_nil)))) (pss_cons (ps_asg (pe_op (show OpR _ (binaryOp .Add) (uAdd K) from uo_add) (pe_ix (show IxR _ (rIx K) from ix_seq) (pv 2) (pv 4) (fun _ _ => rfl)) (pv 5)) (pg_sub (pv 2) (pv 4) set_list))
      (pss_one (ps_asg (pe_op op_sub (pe_ix (show IxR _ (rIx K) from ix_seq) (pv 2) (pv 3) (fun _ _ => rfl)) (pv 5)) (pg_sub (pv 2) (pv 3) set_list)))))
      (pss_one (ps_ret (pe_callTy (show CallR _ (.type "tuple") (uTuple K) from uc_tuple) (by rfl) T.z_tuple (by decide +kernel) (pa_cons (pv 2) pa_nil)))))), ?_⟩
    simp only [cxOf, Cx.nox, Cx.wish, Cx.blk, startD, List.map, List.length_cons, List.length_nil, Nat.reduceAdd, Nat.reduceSub, List.replicate, List.cons_append, List.nil_append]
    walk_at "go"
    refine u_mulT_lX ⟨_, rfl, ⟨by omega, by omega, le_line (by show 1 * _ ≤ _; omega)⟩, ?_⟩
    rw [rep_int]
    walk_at "go"
    refine st_for ?_
    refine evi_seq (evc_varX ⟨_, rfl, _, _, rfl, rfl, ?_⟩)
    refine ⟨fun i Δ' G' L' => ∃ (x3 x4 x5 : Option S), Δ' = [some (.d (.int m)), some (.d (paysD ps)), some (.l 0), x3, x4, x5] ∧ G' = G ∧ L' = [.pl ((dueL (List.replicate m.toNat 0) (ps.take i)).map D.int)], ?_, ?_, ?_⟩
    · exact ⟨none, none, none, rfl, rfl, rfl⟩
    · rintro i d Δ' G' L' hd ⟨x3, x4, x5, rfl, rfl, rfl⟩
      rw [List.getElem?_map] at hd
      obtain ⟨p, hpi, rfl⟩ := Option.map_eq_some_iff.mp hd
      obtain ⟨⟨a0, a1⟩, ⟨b0, b1⟩, _, _⟩ := okP_num (ok p (List.mem_of_getElem? hpi))
      have hl := dueL_len (ps.take i) (List.replicate m.toNat 0)
      rw [List.length_replicate] at hl
      have nxt : dueL (List.replicate m.toNat 0) (ps.take (i + 1)) = stepD (dueL (List.replicate m.toNat 0) (ps.take i)) p := by
        unfold dueL
        rw [List.take_add_one, hpi, List.foldl_append]
        rfl
      obtain ⟨l, hl0⟩ : ∃ l, dueL (List.replicate m.toNat 0) (ps.take i) = l := ⟨_, rfl⟩
      rw [hl0] at nxt hl ⊢
      walk_at "go1"
      refine u_ix_int rfl b0 (by omega) ?_
      walk_at "go1"
      refine sto_int rfl b0 (by omega) ?_
      walk_at "go1"
      refine u_ix_int rfl a0 (by rw [List.length_set]; omega) ?_
      walk_at "go1"
      refine sto_int rfl a0 (by rw [List.length_set]; omega) ?_
      refine ⟨_, _, _, rfl, rfl, ?_⟩
      rw [nxt]
      rfl
    · rintro Δ' G' L' ⟨x3, x4, x5, rfl, rfl, rfl⟩
      rw [List.length_map, List.take_length]
      walk_at "go"
      exact q
end
end Pf
namespace Pf
open PySem L2 DL
section
variable {P : Program} {w : World} {K : PySem.W.Frag} {mg : Str → Option Value} {base : Heap}
local macro_rules | `(tactic| walk_at "own") => `(tactic| first | (with_reducible refine st_own (i := 8) ?_))
local macro_rules | `(tactic| walk_at "d1") => `(tactic| (refine sl_pays ?_; intro _ _))
local macro_rules | `(tactic| walk_at "d1") => `(tactic| (refine sl_one (by assumption) (by omega) ?_; intro _))
local macro_rules | `(tactic| walk_at "d1") => `(tactic| (refine add_pays (by first | omega | (simp only [List.length_append]; omega)) ?_))
local macro_rules | `(tactic| walk_at "d1") => `(tactic| (refine mul_pays ?_))
theorem ok_l_otherwise (T : TX w K mg) (G_l_draw : FnOk P w K mg base CX0 1 T.a_l_draw T.fd_l_draw ["_law_deck_here", "_law_most"] (spD K sp_l_draw)) : FnOk P w K mg base CX0 2 T.a_l_otherwise T.fd_l_otherwise ["_law_deck_here", "_law_payments_here", "_law_many"] (spD K sp_l_otherwise) := by
  refine okD (k := 1) T.F_l_otherwise sc_l_otherwise (fun ss G Qd h => ?_) (fun cdv A outer s H E ss G Qd hr h => ?_)
  · obtain ⟨k, c, n, cells, seed, cnt, m, ps, rfl, hD, hn, hm, ⟨hp, ok⟩, hne, q⟩ := h
    rfl
  · obtain ⟨k, c, n, cells, seed, cnt, m, ps, rfl, hD, hn, hm, ⟨hp, ok⟩, hne, q⟩ := h
    refine ⟨_, (pss_cons (ps_set (i := 3) sc_l_otherwise.nd rfl (Or.inl rfl) (pe_call G_l_draw (hr.mono (by decide)) rfl T.m_l_draw T.k_l_draw T.b_l_draw .nil pass0 (pa_cons (pv 0) (pa_cons (pe_callB (show CallR _ (.builtin "len") (uLen K) from uc_len) (by rfl) T.z_len (by decide +kernel) (pa_cons (pv 1) pa_nil)) pa_nil))))
      (pss_cons (ps_asg (pe_ix (show IxR _ (rIx K) from ix_seq) (pv 1) (pv 3) (fun _ _ => rfl)) (pg_tup rfl (pgs_cons (pg_name (i := 4) sc_l_otherwise.nd rfl (Or.inl rfl)) (pgs_cons (pg_name (i := 5) sc_l_otherwise.nd rfl (Or.inl rfl)) (pgs_cons (pg_name (i := 6) sc_l_otherwise.nd rfl (Or.inl rfl)) pgs_nil)))))
      (pss_cons (ps_set (i := 7) sc_l_otherwise.nd rfl (Or.inl rfl) (pe_op op_mod (pe_op (show OpR _ (binaryOp .Add) (uAdd K) from uo_add) (pe_op (show OpR _ (binaryOp .Add) (uAdd K) from uo_add) (pv 4) pe_int) (pe_call G_l_draw (hr.mono (by decide)) rfl T.m_l_draw T.k_l_draw T.b_l_draw .nil pass0 (pa_cons (pv 0) (pa_cons (pe_op op_sub (pv 2) pe_int) pa_nil)))) (pv 2)))
      (pss_cons (ps_set (i := 8) sc_l_otherwise.nd rfl (Or.inl rfl) (pe_lst (pa_cons (pe_tup pa_nil) (pa_cons (pe_op (show OpR _ (binaryOp .Mult) (uMulT K) from uo_mulT) (pe_slice (show SlR _ (uSl K) from us_sl) (pv 1) (po_some (pv 3)) (po_some (pe_op (show OpR _ (binaryOp .Add) (uAdd K) from uo_add) (pv 3) pe_int))) pe_int) (pa_cons (pe_tup (pa_cons (pe_tup (pa_cons (pv 5) (pa_cons (pv 4) (pa_cons (pv 6) pa_nil)))) pa_nil)) (pa_cons (pe_tup (pa_cons (pe_tup (pa_cons (pv 4) (pa_cons (pv 5) (pa_cons (pe_op (show OpR _ (binaryOp .Add) (uAdd K) from uo_add) (pv 6) pe_int) pa_nil)))) pa_nil)) pa_nil))))))
      (pss_cons (ps_set (i := 8) sc_l_otherwise.nd rfl (Or.inl rfl) (pe_op (show OpR _ (binaryOp .Add) (uAdd K) from uo_add) (pv 8) (pe_lst (pa_cons (pe_tup (pa_cons (pe_tup (pa_cons (pv 7) (pa_cons (pv 5) (pa_cons (pv 6) pa_nil)))) pa_nil)) (pa_cons (pe_tup (pa_cons (pe_tup (pa_cons (pv 4) (pa_cons (pv 7) (pa_cons (pv 6) pa_nil)))) pa_nil)) (pa_cons (pe_tup (pa_cons (pe_tup (pa_cons (pv 4) (pa_cons (pv 4) (pa_cons (pv 6) pa_nil)))) pa_nil)) pa_nil))))))
      (pss_cons (ps_set (i := 8) sc_l_otherwise.nd rfl (Or.inl rfl) (pe_op (show OpR _ (binaryOp .Add) (uAdd K) from uo_add) (pv 8) (pe_lst (pa_cons (pe_tup (pa_cons (pe_tup (pa_cons (pv 4) (pa_cons (pv 2) (pa_cons (pv 6) pa_nil)))) pa_nil)) (pa_cons (pe_tup (pa_cons (pe_tup (pa_cons (pv 4) (pa_cons (pv 5) (pa_cons pe_int pa_nil)))) pa_nil)) (pa_cons (pe_tup (pa_cons (pe_tup (pa_cons (pv 4) (pa_cons (pv 5) (pa_cons (pe_op op_sub (pv 6) pe_int) pa_nil)))) (pa_cons (pe_tup (pa_cons (pv 4) (pa_cons (pv 5) (pa_cons pe_int pa_nil)))) pa_nil))) pa_nil))))))
      (pss_cons (ps_expr (pe_bm PySem.F.plainAttrs_list PySem.F.slot_list_append PySem.F.type_list_append mt_append (pv 8) (pa_cons (pe_tup (pa_cons (pe_tup (pa_cons (pe_un un_neg pe_int) (pa_cons (pv 5) (pa_cons (pv 6) pa_nil)))) pa_nil)) pa_nil)))
      (pss_one (ps_ret (pe_op (show OpR _ (binaryOp .Add) (uAdd K) from uo_add) (pe_op (show OpR _ (binaryOp .Add) (uAdd K) from uo_add) (pe_slice (show SlR _ (uSl K) from us_sl) (pv 1) po_none (po_some (pv 3))) (pe_ix (show IxR _ (rIx K) from ix_seq) (pv 8) (pe_call G_l_draw (hr.mono (by decide)) rfl T.m_l_draw T.k_l_draw T.b_l_draw .nil pass0 (pa_cons (pv 0) (pa_cons pe_int pa_nil))) (fun _ _ => rfl))) (pe_slice (show SlR _ (uSl K) from us_sl) (pv 1) (po_some (pe_op (show OpR _ (binaryOp .Add) (uAdd K) from uo_add) (pv 3) pe_int)) po_none))))))))))), ?_⟩
    simp only [cxOf, Cx.nox, Cx.wish, Cx.blk, startD, List.map, List.length_cons, List.length_nil, Nat.reduceAdd, Nat.reduceSub, List.replicate, List.cons_append, List.nil_append]
    have hpos : 0 < ps.length := List.length_pos_iff.mpr hne
    have hlm : (ps.map payD).length = ps.length := List.length_map ..
    walk_at "god"
    refine u_ix_all ⟨_, rfl, by assumption, by assumption, fun d hd => ?_⟩
    obtain ⟨p, hpm, rfl⟩ := List.mem_map.mp hd
    clear hd
    walk_at "god"
    refine mt_app_lX ⟨_, rfl, lt_line (Nat.le_of_ble_eq_true rfl), ?_⟩
    walk_at "god"
    refine u_ix_all ⟨_, rfl, by assumption, by show _ < (11 : Int); assumption, fun d hd => ?_⟩
    obtain ⟨qs, rfl, hq⟩ : ∃ qs, d = paysD qs ∧ qs.length ≤ 2 := by
      simp only [List.cons_append, List.nil_append, List.mem_cons, List.not_mem_nil, or_false] at hd
      rcases hd with rfl | rfl | rfl | rfl | rfl | rfl | rfl | rfl | rfl | rfl | rfl
      all_goals first | exact pays0 | exact pays1 _ _ _ | exact pays2 _ _ | exact pays3 _ _ _ _ _ _
    clear hd
    walk_at "god"
    exact q _ _ (by simp only [List.length_append]; omega) ((DkTo.trans (by assumption) (DkTo.trans (by assumption) (by assumption))).mono (by omega))
end
end Pf
namespace Pf
open PySem L2 DL
section
variable {P : Program} {w : World} {K : PySem.W.Frag} {mg : Str → Option Value} {base : Heap}
theorem ok_l_right (T : TX w K mg) (G_l_settles : FnOk P w K mg base CX0 2 T.a_l_settles T.fd_l_settles ["_law_balances_here", "_law_thing"] (spD K sp_l_settles)) (G_settles_holds : FnOk P w K mg base CX0 4 T.a_settles_holds T.fd_settles_holds ["balances", "thing"] (spD K sp_settles_holds)) : FnOk P w K mg base CX0 5 T.a_l_right T.fd_l_right ["_law_balances_here", "_law_thing"] (spD K sp_l_right) := by
  refine okD (k := 4) T.F_l_right sc_l_right (fun ss G Qd h => ?_) (fun cdv A outer s H E ss G Qd hr h => ?_)
  · obtain ⟨bs, ps, rfl, hb, hp, q⟩ := h
    rfl
  · obtain ⟨bs, ps, rfl, hb, hp, q⟩ := h
    refine ⟨_, (pss_cons (ps_set (i := 2) sc_l_right.nd rfl (Or.inl rfl) (pe_call G_l_settles (hr.mono (by decide)) rfl T.m_l_settles T.k_l_settles T.b_l_settles .nil pass0 (pa_cons (pv 0) (pa_cons (pv 1) pa_nil))))
      (pss_cons (ps_for PassesOwn.never rfl (pi_range1 rfl T.z_range (pa_cons pe_int pa_nil)) (pg_name (i := 3) sc_l_right.nd rfl (Or.inl rfl)) (pss_cons (ps_set (i := 4) sc_l_right.nd rfl (Or.inl rfl) (pe_call G_settles_holds (hr.mono (by decide)) rfl T.m_settles_holds T.k_settles_holds T.b_settles_holds .nil pass0 (pa_cons (pv 0) (pa_cons (pv 1) pa_nil))))
      (pss_one (ps_if (PW.pt (pw_or (pt_not (pt_val (pe_callB (show CallR _ (.builtin "isinstance") (rIsi K) from call_isi) (by rfl) T.z_isinstance (by decide +kernel) (pa_cons (pv 4) (pa_cons (pe_bltn (v := .ty "bool") (u := .type "bool") (by rfl) T.z_bool (by decide +kernel) rfl) pa_nil))))) (pw_or1 (pt_cmpR (show OpR _ (compareOp .NotEq) (uNe K) from (uo_ne hr.units)) (pv 4) (pv 2) (nomark _))))) (pss_one (ps_ret pe_bl)) pss_nil))))
      (pss_one (ps_ret pe_bl)))), ?_⟩
    simp only [cxOf, Cx.nox, Cx.wish, Cx.blk, startD, List.map, List.length_cons, List.length_nil, Nat.reduceAdd, Nat.reduceSub, List.replicate, List.cons_append, List.nil_append]
    walk_at "go"
    refine ⟨hb, hp, ?_⟩
    walk_at "go"
    refine st_for ?_
    walk_at "go"
    refine ⟨by omega, by omega, ?_⟩
    refine ⟨fun i Δ' G' L' => ∃ x3 x4 : Option S, Δ' = [some (.d (intsD bs)), some (.d (paysD ps)), some (.d (.bl (setS bs ps))), x3, x4] ∧ G' = G ∧ L' = [], ⟨none, none, rfl, rfl, rfl⟩, ?_, ?_⟩
    · rintro i d Δ' G' L' hd ⟨x3, x4, rfl, rfl, rfl⟩
      obtain ⟨hi, rfl⟩ := rngD_get hd
      walk_at "go"
      refine ⟨hb, hp, ?_⟩
      rw [set_same_b]
      walk_at "go"
      refine iteND (fun h => absurd rfl h) (fun _ => ?_)
      walk_at "go"
      rfl
    · rintro Δ' G' L' ⟨x3, x4, rfl, rfl, rfl⟩
      walk_at "go"
      exact q
end
end Pf
namespace Pf
open PySem L2 DL
section
variable {P : Program} {w : World} {K : PySem.W.Frag} {mg : Str → Option Value} {base : Heap}
local macro_rules | `(tactic| walk_at "d1") => `(tactic| with_reducible refine evc_callL ?_)
local macro_rules | `(tactic| walk_at "d1") => `(tactic| with_reducible refine evc_revT ?_)
local macro_rules | `(tactic| walk_at "d1") => `(tactic| (refine right_useL (by first | assumption | (rw [List.length_replicate]; omega)) (by first | assumption | omega) ?_))
local macro_rules | `(tactic| walk_at "d1") => `(tactic| (refine right_useR (by assumption) (by assumption) ?_))
local macro_rules | `(tactic| walk_at "d1") => `(tactic| (refine settles_useL (by assumption) (by assumption) (by assumption) ?_))
local macro_rules | `(tactic| walk_at "d1") => `(tactic| refine mul_zero (by assumption) ?_)
local macro_rules | `(tactic| walk_at "d1") => `(tactic| refine settles_use0 ?_)
local macro_rules | `(tactic| walk_at "d1") => `(tactic| refine settles_use00 ?_)
local macro_rules | `(tactic| walk_at "draw") => `(tactic| (refine draw_useL (by assumption) (by omega) (by omega) (by omega) ?_; intro _ _ _ _ _ _ _))
local macro_rules | `(tactic| walk_at "draw") => `(tactic| (refine payments_useL (by assumption) (by omega) (by assumption) ?_; intro _ _ _ _ _ _))
local macro_rules | `(tactic| walk_at "draw") => `(tactic| (refine shuffled_useL (by assumption) (by omega) (by assumption) ?_; intro _ _ _ _ _ _))
local macro_rules | `(tactic| walk_at "draw") => `(tactic| (refine otherwise_useL (by assumption) (by omega) (by assumption) (by assumption) (by assumption) ?_; intro _ _ _ _ _ _))
local macro_rules | `(tactic| walk_at "d1") => `(tactic| (refine balances_useL (by assumption) (by assumption) ?_))
theorem ok_law (T : TX w K mg) (G_l_deck : FnOk P w K mg base CX0 1 T.a_l_deck T.fd_l_deck ["_law_script"] (spD K sp_l_deck)) (G_l_payments : FnOk P w K mg base CX0 2 T.a_l_payments T.fd_l_payments ["_law_deck_here", "_law_many"] (spD K sp_l_payments)) (G_l_balances : FnOk P w K mg base CX0 1 T.a_l_balances T.fd_l_balances ["_law_many", "_law_payments_here"] (spD K sp_l_balances)) (G_l_otherwise : FnOk P w K mg base CX0 2 T.a_l_otherwise T.fd_l_otherwise ["_law_deck_here", "_law_payments_here", "_law_many"] (spD K sp_l_otherwise)) (G_settles_holds : FnOk P w K mg base CX0 4 T.a_settles_holds T.fd_settles_holds ["balances", "thing"] (spD K sp_settles_holds)) (G_l_shuffled : FnOk P w K mg base CX0 2 T.a_l_shuffled T.fd_l_shuffled ["_law_deck_here", "_law_some"] (spD K sp_l_shuffled)) (G_l_right : FnOk P w K mg base CX0 5 T.a_l_right T.fd_l_right ["_law_balances_here", "_law_thing"] (spD K sp_l_right)) (G_l_draw : FnOk P w K mg base CX0 1 T.a_l_draw T.fd_l_draw ["_law_deck_here", "_law_most"] (spD K sp_l_draw)) : FnOk P w K mg base CX0 6 T.a_law T.fd_law ["_law_script"] (spD K sp_law) := by
  refine okD (k := 5) T.F_law sc_law (fun ss G Qd h => ?_) (fun cdv A outer s H E ss G Qd hr h => ?_)
  · obtain ⟨ns, rfl, rfl, hns, q⟩ := h
    rfl
  · obtain ⟨ns, rfl, rfl, hns, q⟩ := h
    refine ⟨_, (pss_cons (ps_set (i := 1) sc_law.nd rfl (Or.inl rfl) (pe_call G_l_deck (hr.mono (by decide)) rfl T.m_l_deck T.k_l_deck T.b_l_deck .nil pass0 (pa_cons (pv 0) pa_nil)))
      (pss_cons (ps_for PassesOwn.never rfl (pi_range1 rfl T.z_range (pa_cons (pe_callB (uc_max2 rfl) (by rfl) T.z_max (by decide +kernel) (pa_cons pe_int (pa_cons (pe_callB (uc_min2 rfl) (by rfl) T.z_min (by decide +kernel) (pa_cons pe_int (pa_cons (pe_callB (show CallR _ (.builtin "len") (uLen K) from uc_len) (by rfl) T.z_len (by decide +kernel) (pa_cons (pv 0) pa_nil)) pa_nil))) pa_nil))) pa_nil)) (pg_name (i := 2) sc_law.nd rfl (Or.inl rfl)) (pss_cons (ps_set (i := 3) sc_law.nd rfl (Or.inl rfl) (pe_ix (show IxR _ (rIx K) from ix_seq) (pe_lst (pa_cons (pe_op (show OpR _ (binaryOp .Add) (uAdd K) from uo_add) pe_int (pe_call G_l_draw (hr.mono (by decide)) rfl T.m_l_draw T.k_l_draw T.b_l_draw .nil pass0 (pa_cons (pv 1) (pa_cons pe_int pa_nil)))) (pa_cons pe_int pa_nil))) (pe_callTy uc_int (by rfl) T.z_int (by decide +kernel) (pa_cons (pe_cmpR (show OpR _ (compareOp .Eq) (uEq K) from (uo_eq hr.units)) (pe_call G_l_draw (hr.mono (by decide)) rfl T.m_l_draw T.k_l_draw T.b_l_draw .nil pass0 (pa_cons (pv 1) (pa_cons pe_int pa_nil))) pe_int (nomark _)) pa_nil)) (fun _ _ => rfl)))
      (pss_cons (ps_set (i := 4) sc_law.nd rfl (Or.inl rfl) (pe_call G_l_payments (hr.mono (by decide)) rfl T.m_l_payments T.k_l_payments T.b_l_payments .nil pass0 (pa_cons (pv 1) (pa_cons (pv 3) pa_nil))))
      (pss_cons (ps_set (i := 5) sc_law.nd rfl (Or.inl rfl) (pe_call G_l_balances (hr.mono (by decide)) rfl T.m_l_balances T.k_l_balances T.b_l_balances .nil pass0 (pa_cons (pv 3) (pa_cons (pv 4) pa_nil))))
      (pss_cons (ps_for PassesOwn.never rfl (pi_seq (pe_lst (pa_cons (pv 4) (pa_cons (pe_revU (pv 4)) (pa_cons (pe_callTy (show CallR _ (.type "tuple") (uTuple K) from uc_tuple) (by rfl) T.z_tuple (by decide +kernel) (pa_cons (pe_call G_l_shuffled (hr.mono (by decide)) rfl T.m_l_shuffled T.k_l_shuffled T.b_l_shuffled .nil pass0 (pa_cons (pv 1) (pa_cons (pv 4) pa_nil))) pa_nil)) pa_nil))))) (pg_name (i := 6) sc_law.nd rfl (Or.inl rfl)) (pss_one (ps_if (PW.pt (pw_or (pt_cmpR op_notBl (pe_call G_settles_holds (hr.mono (by decide)) rfl T.m_settles_holds T.k_settles_holds T.b_settles_holds .nil pass0 (pa_cons (pv 5) (pa_cons (pv 6) pa_nil))) pe_bl (nomark _)) (pw_or1 (pt_not (pt_val (pe_call G_l_right (hr.mono (by decide)) rfl T.m_l_right T.k_l_right T.b_l_right .nil pass0 (pa_cons (pv 5) (pa_cons (pv 6) pa_nil)))))))) (pss_one (ps_ret pe_bl)) pss_nil)))
      (pss_cons (ps_if (PW.pt (pw_or (pt_not (pt_val (pe_call G_l_right (hr.mono (by decide)) rfl T.m_l_right T.k_l_right T.b_l_right .nil pass0 (pa_cons (pv 5) (pa_cons (pe_tup pa_nil) pa_nil))))) (pw_or1 (pt_not (pt_val (pe_call G_l_right (hr.mono (by decide)) rfl T.m_l_right T.k_l_right T.b_l_right .nil pass0 (pa_cons (pe_op (show OpR _ (binaryOp .Mult) (uMulT K) from uo_mulT) (pe_tup (pa_cons pe_int pa_nil)) (pv 3)) (pa_cons (pv 4) pa_nil)))))))) (pss_one (ps_ret pe_bl)) pss_nil)
      (pss_one (ps_for PassesOwn.never rfl (pi_range1 rfl T.z_range (pa_cons (pe_op (show OpR _ (binaryOp .Mult) (uMulT K) from uo_mulT) pe_int (pe_callTy uc_int (by rfl) T.z_int (by decide +kernel) (pa_cons (pe_cmpR (show OpR _ (compareOp .NotEq) (uNe K) from (uo_ne hr.units)) (pv 4) (pe_tup pa_nil) (nomark _)) pa_nil))) pa_nil)) (pg_name (i := 7) sc_law.nd rfl (Or.inl rfl)) (pss_cons (ps_set (i := 8) sc_law.nd rfl (Or.inl rfl) (pe_call G_l_otherwise (hr.mono (by decide)) rfl T.m_l_otherwise T.k_l_otherwise T.b_l_otherwise .nil pass0 (pa_cons (pv 1) (pa_cons (pv 4) (pa_cons (pv 3) pa_nil)))))
      (pss_one (ps_if (PW.pt (pw_or (pt_not (pt_val (pe_call G_l_right (hr.mono (by decide)) rfl T.m_l_right T.k_l_right T.b_l_right .nil pass0 (pa_cons (pv 5) (pa_cons (pv 8) pa_nil))))) (pw_or1 (pt_not (pt_val (pe_call G_l_right (hr.mono (by decide)) rfl T.m_l_right T.k_l_right T.b_l_right .nil pass0 (pa_cons (pe_revU (pv 5)) (pa_cons (pv 8) pa_nil)))))))) (pss_one (ps_ret pe_bl)) pss_nil)))))))))))
      (pss_one (ps_ret (pe_and (pe_cmpR op_isBl (pe_call G_settles_holds (hr.mono (by decide)) rfl T.m_settles_holds T.k_settles_holds T.b_settles_holds .nil pass0 (pa_cons (pe_tup pa_nil) (pa_cons (pe_tup pa_nil) pa_nil))) pe_bl (nomark _)) (pe_one (pe_cmpR op_isBl (pe_call G_settles_holds (hr.mono (by decide)) rfl T.m_settles_holds T.k_settles_holds T.b_settles_holds .nil pass0 (pa_cons (pe_tup (pa_cons pe_int (pa_cons pe_int pa_nil))) (pa_cons (pe_tup pa_nil) pa_nil))) pe_bl (nomark _)))))))), ?_⟩
    simp only [cxOf, Cx.nox, Cx.wish, Cx.blk, startD, List.map, List.length_cons, List.length_nil, Nat.reduceAdd, Nat.reduceSub, List.replicate, List.cons_append, List.nil_append]
    refine st_seq ?_
    refine st_ownB ?_
    walk_at "go"
    refine ⟨hns, fun cells seed hcl hs0 hs1 => ⟨_, _, rfl, ?_⟩⟩
    show StC K _ [some (.d (.scr ns)), some (.l 1), none, none, none, none, none, none, none] [] (deckL cells seed 0 []) _
    have V0 : DkV 0 cells seed 0 := ⟨hs0, hs1, by decide, by decide, by omega⟩
    walk_at "god"
    refine st_for ?_
    walk_at "god"
    obtain ⟨tn, htn, tn1, tn3⟩ : ∃ tn : Int, (if (if (((ns.map D.int).length : Nat) : Int) < 3 then (((ns.map D.int).length : Nat) : Int) else 3) > 1 then (if (((ns.map D.int).length : Nat) : Int) < 3 then (((ns.map D.int).length : Nat) : Int) else 3) else 1) = tn ∧ 1 ≤ tn ∧ tn ≤ 3 :=
      ⟨_, rfl, by (repeat' split) <;> omega, by (repeat' split) <;> omega⟩
    rw [htn]
    refine ⟨by omega, by omega, ?_⟩
    refine ⟨fun i Δ' G' L' => ∃ (cells : List Int) (seed cnt : Int) (x2 x3 x4 x5 x6 x7 x8 : Option S), Δ' = [some (.d (.scr ns)), some (.l 1), x2, x3, x4, x5, x6, x7, x8] ∧ G' = [] ∧ L' = deckL cells seed cnt [] ∧ DkV (500 * (i : Int)) cells seed cnt, ?_, ?_, ?_⟩
    · exact ⟨cells, seed, 0, none, none, none, none, none, none, none, rfl, rfl, rfl, V0.mono (by omega)⟩
    · rintro i d Δ' G' L' hd ⟨cells, seed, cnt, x2, x3, x4, x5, x6, x7, x8, rfl, rfl, rfl, V⟩
      obtain ⟨hi, rfl⟩ := rngD_get hd
      have hi3 : i < 3 := by omega
      walk_at "god"
      refine u_ix_all ⟨_, rfl, by split <;> omega, by simp only [List.length_cons, List.length_nil]; split <;> omega, fun d hd => ?_⟩
      obtain ⟨m, rfl, m0, m1⟩ : ∃ z, d = .int z ∧ 2 ≤ z ∧ z ≤ 40 := by
        simp only [List.mem_cons, List.not_mem_nil, or_false] at hd
        rcases hd with rfl | rfl
        · exact ⟨_, rfl, by omega, by omega⟩
        · exact ⟨_, rfl, by omega, by omega⟩
      clear hd
      have hm : 2 ≤ m ∧ m ≤ 100 := ⟨m0, by omega⟩
      walk_at "god"
      refine st_for ?_
      rename_i ps cells seed cnt hps Vp
      have hp40 : ps.length ≤ 40 := hps.1
      walk_at "god"
      rename_i qs cells seed cnt hqs Vq
      have hbl := bs_len m ps hm
      have hset : ∀ rs : List Pay, rs.Perm ps → setH (dueL (List.replicate m.toNat 0) ps) rs = true := fun rs h => set_perm (n := m.toNat) h (by
        have e : ((m.toNat : Nat) : Int) = m := by omega
        rw [e]
        exact hps.2)
      obtain ⟨bs, hbs⟩ : ∃ bs, dueL (List.replicate m.toNat 0) ps = bs := ⟨_, rfl⟩
      rw [hbs] at hset hbl ⊢
      refine ⟨fun i2 Δ' G' L' => ∃ x6 : Option S, Δ' = [some (.d (.scr ns)), some (.l 1), some (.d (.int (0 + (i : Int)))), some (.d (.int m)), some (.d (paysD ps)), some (.d (intsD bs)), x6, x7, x8] ∧ G' = [] ∧ L' = deckL cells seed cnt [], ⟨x6, rfl, rfl, rfl⟩, ?_, ?_⟩
      · rintro i2 d Δ' G' L' hd2 ⟨x6, rfl, rfl, rfl⟩
        obtain ⟨rs, rfl, hrs⟩ := items3 hqs hd2
        have hrl : rs.length ≤ 100 := by
          have := hrs.length_eq
          omega
        have hst := hset rs hrs
        walk_at "god"
        refine iteND (fun h => absurd rfl h) (fun _ => ?_)
        walk_at "god"
        first | exact ⟨_, rfl, rfl, rfl⟩ | exact ⟨rfl, rfl⟩ | exact rfl
      · rintro Δ' G' L' ⟨x6, rfl, rfl, rfl⟩
        walk_at "god"
        refine right_use0 hbl ?_
        walk_at "god"
        refine st_for ?_
        walk_at "god"
        refine u_ne_t0 ⟨1, by decide, pays_eqb ps⟩ ?_
        walk_at "god"
        refine ⟨by split <;> omega, by split <;> omega, ?_⟩
        refine ⟨fun i3 Δ' G' L' => ∃ (cells : List Int) (seed cnt : Int) (x7 x8 : Option S), Δ' = [some (.d (.scr ns)), some (.l 1), some (.d (.int (0 + (i : Int)))), some (.d (.int m)), some (.d (paysD ps)), some (.d (intsD bs)), x6, x7, x8] ∧ G' = [] ∧ L' = deckL cells seed cnt [] ∧ DkV (500 * (i : Int) + 360 + 3 * (i3 : Int)) cells seed cnt, ?_, ?_, ?_⟩
        · exact ⟨_, _, _, _, _, rfl, rfl, rfl, Vq.mono (by omega)⟩
        · rintro i3 d Δ' G' L' hd3 ⟨cells, seed, cnt, x7, x8, rfl, rfl, rfl, V3⟩
          obtain ⟨hi3, rfl⟩ := rngD_get hd3
          have hne : ps ≠ [] := fun e => by
            subst e
            exact absurd hi3 (Nat.not_lt_zero _)
          have hi8 : i3 < 8 := by
            have : (8 : Int) * (if (!(ps.map payD).isEmpty) = true then 1 else 0) ≤ 8 := by split <;> omega
            omega
          walk_at "god"
          rename_i os cells seed cnt hos V4
          first | exact ⟨_, _, _, _, _, rfl, rfl, rfl, V4.mono (by omega)⟩ | trace_state
        · rintro Δ' G' L' ⟨cells, seed, cnt, x7, x8, rfl, rfl, rfl, V3⟩
          rw [rngD_len] at V3
          have h8 : (8 * (if (!(ps.map payD).isEmpty) = true then (1 : Int) else 0)).toNat ≤ 8 := by split <;> omega
          exact ⟨cells, seed, cnt, _, _, _, _, _, x7, x8, rfl, rfl, rfl, V3.mono (by omega)⟩
    · rintro Δ' G' L' ⟨cells, seed, cnt, x2, x3, x4, x5, x6, x7, x8, rfl, rfl, rfl, V⟩
      walk_at "god"
      refine iteD (fun _ => ?_) (fun h => absurd rfl h)
      walk_at "god"
      exact q
end
end Pf
namespace Pf
open PySem L2 DL
theorem all_mk {l : PySem.W.OpenLaw} {w : World} {K : PySem.W.Frag} {h : Heap} {mg : Str → Option Value} {fa : Addr} (X : K.In h) (G : h.Ns mainGlobals mg) (hfa : mg "law" = some (.ref fa))
    {f_l_draw : Addr} {od_l_draw an_l_draw : Option Addr} {sl_l_draw : Array (Option Value)} {oc_l_draw kV_l_draw dc_l_draw pm_l_draw cd_l_draw ct_l_draw : Value}
    (a_l_draw : PySem.W.nsIn K mainGlobals "_law_draw" = some (some (.ref f_l_draw))) (l_l_draw : K.lookup f_l_draw = some ⟨oc_l_draw, od_l_draw, .func (PySem.W.fnOf "_law_draw" "_law_draw" (defArgs s_l_draw) (defBody s_l_draw) (defScope s_l_draw) .none kV_l_draw dc_l_draw pm_l_draw an_l_draw cd_l_draw ct_l_draw), sl_l_draw⟩) (c_l_draw : PySem.W.codeIn K cd_l_draw "_law_draw" = true) (k_l_draw : PySem.W.keepIn K (.ref f_l_draw) = true)
    {f_is_whole : Addr} {od_is_whole an_is_whole : Option Addr} {sl_is_whole : Array (Option Value)} {oc_is_whole kV_is_whole dc_is_whole pm_is_whole cd_is_whole ct_is_whole : Value}
    (a_is_whole : PySem.W.nsIn K mainGlobals "is_whole" = some (some (.ref f_is_whole))) (l_is_whole : K.lookup f_is_whole = some ⟨oc_is_whole, od_is_whole, .func (PySem.W.fnOf "is_whole" "is_whole" (defArgs s_is_whole) (defBody s_is_whole) (defScope s_is_whole) .none kV_is_whole dc_is_whole pm_is_whole an_is_whole cd_is_whole ct_is_whole), sl_is_whole⟩) (c_is_whole : PySem.W.codeIn K cd_is_whole "is_whole" = true) (k_is_whole : PySem.W.keepIn K (.ref f_is_whole) = true)
    {f_l_whole : Addr} {od_l_whole an_l_whole : Option Addr} {sl_l_whole : Array (Option Value)} {oc_l_whole kV_l_whole dc_l_whole pm_l_whole cd_l_whole ct_l_whole : Value}
    (a_l_whole : PySem.W.nsIn K mainGlobals "_law_whole" = some (some (.ref f_l_whole))) (l_l_whole : K.lookup f_l_whole = some ⟨oc_l_whole, od_l_whole, .func (PySem.W.fnOf "_law_whole" "_law_whole" (defArgs s_l_whole) (defBody s_l_whole) (defScope s_l_whole) .none kV_l_whole dc_l_whole pm_l_whole an_l_whole cd_l_whole ct_l_whole), sl_l_whole⟩) (c_l_whole : PySem.W.codeIn K cd_l_whole "_law_whole" = true) (k_l_whole : PySem.W.keepIn K (.ref f_l_whole) = true)
    {f_is_number_of : Addr} {od_is_number_of an_is_number_of : Option Addr} {sl_is_number_of : Array (Option Value)} {oc_is_number_of kV_is_number_of dc_is_number_of pm_is_number_of cd_is_number_of ct_is_number_of : Value}
    (a_is_number_of : PySem.W.nsIn K mainGlobals "is_number_of" = some (some (.ref f_is_number_of))) (l_is_number_of : K.lookup f_is_number_of = some ⟨oc_is_number_of, od_is_number_of, .func (PySem.W.fnOf "is_number_of" "is_number_of" (defArgs s_is_number_of) (defBody s_is_number_of) (defScope s_is_number_of) .none kV_is_number_of dc_is_number_of pm_is_number_of an_is_number_of cd_is_number_of ct_is_number_of), sl_is_number_of⟩) (c_is_number_of : PySem.W.codeIn K cd_is_number_of "is_number_of" = true) (k_is_number_of : PySem.W.keepIn K (.ref f_is_number_of) = true)
    {f_is_payment : Addr} {od_is_payment an_is_payment : Option Addr} {sl_is_payment : Array (Option Value)} {oc_is_payment kV_is_payment dc_is_payment pm_is_payment cd_is_payment ct_is_payment : Value}
    (a_is_payment : PySem.W.nsIn K mainGlobals "is_payment" = some (some (.ref f_is_payment))) (l_is_payment : K.lookup f_is_payment = some ⟨oc_is_payment, od_is_payment, .func (PySem.W.fnOf "is_payment" "is_payment" (defArgs s_is_payment) (defBody s_is_payment) (defScope s_is_payment) .none kV_is_payment dc_is_payment pm_is_payment an_is_payment cd_is_payment ct_is_payment), sl_is_payment⟩) (c_is_payment : PySem.W.codeIn K cd_is_payment "is_payment" = true) (k_is_payment : PySem.W.keepIn K (.ref f_is_payment) = true)
    {f_left_behind : Addr} {od_left_behind an_left_behind : Option Addr} {sl_left_behind : Array (Option Value)} {oc_left_behind kV_left_behind dc_left_behind pm_left_behind cd_left_behind ct_left_behind : Value}
    (a_left_behind : PySem.W.nsIn K mainGlobals "left_behind" = some (some (.ref f_left_behind))) (l_left_behind : K.lookup f_left_behind = some ⟨oc_left_behind, od_left_behind, .func (PySem.W.fnOf "left_behind" "left_behind" (defArgs s_left_behind) (defBody s_left_behind) (defScope s_left_behind) .none kV_left_behind dc_left_behind pm_left_behind an_left_behind cd_left_behind ct_left_behind), sl_left_behind⟩) (c_left_behind : PySem.W.codeIn K cd_left_behind "left_behind" = true) (k_left_behind : PySem.W.keepIn K (.ref f_left_behind) = true)
    {f_settles_holds : Addr} {od_settles_holds an_settles_holds : Option Addr} {sl_settles_holds : Array (Option Value)} {oc_settles_holds kV_settles_holds dc_settles_holds pm_settles_holds cd_settles_holds ct_settles_holds : Value}
    (a_settles_holds : PySem.W.nsIn K mainGlobals "settles_holds" = some (some (.ref f_settles_holds))) (l_settles_holds : K.lookup f_settles_holds = some ⟨oc_settles_holds, od_settles_holds, .func (PySem.W.fnOf "settles_holds" "settles_holds" (defArgs s_settles_holds) (defBody s_settles_holds) (defScope s_settles_holds) .none kV_settles_holds dc_settles_holds pm_settles_holds an_settles_holds cd_settles_holds ct_settles_holds), sl_settles_holds⟩) (c_settles_holds : PySem.W.codeIn K cd_settles_holds "settles_holds" = true) (k_settles_holds : PySem.W.keepIn K (.ref f_settles_holds) = true)
    {f_l_deck : Addr} {od_l_deck an_l_deck : Option Addr} {sl_l_deck : Array (Option Value)} {oc_l_deck kV_l_deck dc_l_deck pm_l_deck cd_l_deck ct_l_deck : Value}
    (a_l_deck : PySem.W.nsIn K mainGlobals "_law_deck" = some (some (.ref f_l_deck))) (l_l_deck : K.lookup f_l_deck = some ⟨oc_l_deck, od_l_deck, .func (PySem.W.fnOf "_law_deck" "_law_deck" (defArgs s_l_deck) (defBody s_l_deck) (defScope s_l_deck) .none kV_l_deck dc_l_deck pm_l_deck an_l_deck cd_l_deck ct_l_deck), sl_l_deck⟩) (c_l_deck : PySem.W.codeIn K cd_l_deck "_law_deck" = true) (k_l_deck : PySem.W.keepIn K (.ref f_l_deck) = true)
    {f_l_shuffled : Addr} {od_l_shuffled an_l_shuffled : Option Addr} {sl_l_shuffled : Array (Option Value)} {oc_l_shuffled kV_l_shuffled dc_l_shuffled pm_l_shuffled cd_l_shuffled ct_l_shuffled : Value}
    (a_l_shuffled : PySem.W.nsIn K mainGlobals "_law_shuffled" = some (some (.ref f_l_shuffled))) (l_l_shuffled : K.lookup f_l_shuffled = some ⟨oc_l_shuffled, od_l_shuffled, .func (PySem.W.fnOf "_law_shuffled" "_law_shuffled" (defArgs s_l_shuffled) (defBody s_l_shuffled) (defScope s_l_shuffled) .none kV_l_shuffled dc_l_shuffled pm_l_shuffled an_l_shuffled cd_l_shuffled ct_l_shuffled), sl_l_shuffled⟩) (c_l_shuffled : PySem.W.codeIn K cd_l_shuffled "_law_shuffled" = true) (k_l_shuffled : PySem.W.keepIn K (.ref f_l_shuffled) = true)
    {f_l_settles : Addr} {od_l_settles an_l_settles : Option Addr} {sl_l_settles : Array (Option Value)} {oc_l_settles kV_l_settles dc_l_settles pm_l_settles cd_l_settles ct_l_settles : Value}
    (a_l_settles : PySem.W.nsIn K mainGlobals "_law_settles" = some (some (.ref f_l_settles))) (l_l_settles : K.lookup f_l_settles = some ⟨oc_l_settles, od_l_settles, .func (PySem.W.fnOf "_law_settles" "_law_settles" (defArgs s_l_settles) (defBody s_l_settles) (defScope s_l_settles) .none kV_l_settles dc_l_settles pm_l_settles an_l_settles cd_l_settles ct_l_settles), sl_l_settles⟩) (c_l_settles : PySem.W.codeIn K cd_l_settles "_law_settles" = true) (k_l_settles : PySem.W.keepIn K (.ref f_l_settles) = true)
    {f_l_payments : Addr} {od_l_payments an_l_payments : Option Addr} {sl_l_payments : Array (Option Value)} {oc_l_payments kV_l_payments dc_l_payments pm_l_payments cd_l_payments ct_l_payments : Value}
    (a_l_payments : PySem.W.nsIn K mainGlobals "_law_payments" = some (some (.ref f_l_payments))) (l_l_payments : K.lookup f_l_payments = some ⟨oc_l_payments, od_l_payments, .func (PySem.W.fnOf "_law_payments" "_law_payments" (defArgs s_l_payments) (defBody s_l_payments) (defScope s_l_payments) .none kV_l_payments dc_l_payments pm_l_payments an_l_payments cd_l_payments ct_l_payments), sl_l_payments⟩) (c_l_payments : PySem.W.codeIn K cd_l_payments "_law_payments" = true) (k_l_payments : PySem.W.keepIn K (.ref f_l_payments) = true)
    {f_l_balances : Addr} {od_l_balances an_l_balances : Option Addr} {sl_l_balances : Array (Option Value)} {oc_l_balances kV_l_balances dc_l_balances pm_l_balances cd_l_balances ct_l_balances : Value}
    (a_l_balances : PySem.W.nsIn K mainGlobals "_law_balances" = some (some (.ref f_l_balances))) (l_l_balances : K.lookup f_l_balances = some ⟨oc_l_balances, od_l_balances, .func (PySem.W.fnOf "_law_balances" "_law_balances" (defArgs s_l_balances) (defBody s_l_balances) (defScope s_l_balances) .none kV_l_balances dc_l_balances pm_l_balances an_l_balances cd_l_balances ct_l_balances), sl_l_balances⟩) (c_l_balances : PySem.W.codeIn K cd_l_balances "_law_balances" = true) (k_l_balances : PySem.W.keepIn K (.ref f_l_balances) = true)
    {f_l_otherwise : Addr} {od_l_otherwise an_l_otherwise : Option Addr} {sl_l_otherwise : Array (Option Value)} {oc_l_otherwise kV_l_otherwise dc_l_otherwise pm_l_otherwise cd_l_otherwise ct_l_otherwise : Value}
    (a_l_otherwise : PySem.W.nsIn K mainGlobals "_law_otherwise" = some (some (.ref f_l_otherwise))) (l_l_otherwise : K.lookup f_l_otherwise = some ⟨oc_l_otherwise, od_l_otherwise, .func (PySem.W.fnOf "_law_otherwise" "_law_otherwise" (defArgs s_l_otherwise) (defBody s_l_otherwise) (defScope s_l_otherwise) .none kV_l_otherwise dc_l_otherwise pm_l_otherwise an_l_otherwise cd_l_otherwise ct_l_otherwise), sl_l_otherwise⟩) (c_l_otherwise : PySem.W.codeIn K cd_l_otherwise "_law_otherwise" = true) (k_l_otherwise : PySem.W.keepIn K (.ref f_l_otherwise) = true)
    {f_l_right : Addr} {od_l_right an_l_right : Option Addr} {sl_l_right : Array (Option Value)} {oc_l_right kV_l_right dc_l_right pm_l_right cd_l_right ct_l_right : Value}
    (a_l_right : PySem.W.nsIn K mainGlobals "_law_right" = some (some (.ref f_l_right))) (l_l_right : K.lookup f_l_right = some ⟨oc_l_right, od_l_right, .func (PySem.W.fnOf "_law_right" "_law_right" (defArgs s_l_right) (defBody s_l_right) (defScope s_l_right) .none kV_l_right dc_l_right pm_l_right an_l_right cd_l_right ct_l_right), sl_l_right⟩) (c_l_right : PySem.W.codeIn K cd_l_right "_law_right" = true) (k_l_right : PySem.W.keepIn K (.ref f_l_right) = true)
    {f_law : Addr} {od_law an_law : Option Addr} {sl_law : Array (Option Value)} {oc_law kV_law dc_law pm_law cd_law ct_law : Value}
    (a_law : PySem.W.nsIn K mainGlobals "law" = some (some (.ref f_law))) (l_law : K.lookup f_law = some ⟨oc_law, od_law, .func (PySem.W.fnOf "law" "law" (defArgs s_law) (defBody s_law) (defScope s_law) .none kV_law dc_law pm_law an_law cd_law ct_law), sl_law⟩) (c_law : PySem.W.codeIn K cd_law "law" = true) (k_law : PySem.W.keepIn K (.ref f_law) = true)
    (z_all : PySem.W.nsIn K mainGlobals "all" = some none)
    (z_any : PySem.W.nsIn K mainGlobals "any" = some none)
    (z_bool : PySem.W.nsIn K mainGlobals "bool" = some none)
    (z_int : PySem.W.nsIn K mainGlobals "int" = some none)
    (z_isinstance : PySem.W.nsIn K mainGlobals "isinstance" = some none)
    (z_len : PySem.W.nsIn K mainGlobals "len" = some none)
    (z_list : PySem.W.nsIn K mainGlobals "list" = some none)
    (z_max : PySem.W.nsIn K mainGlobals "max" = some none)
    (z_min : PySem.W.nsIn K mainGlobals "min" = some none)
    (z_range : PySem.W.nsIn K mainGlobals "range" = some none)
    (z_tuple : PySem.W.nsIn K mainGlobals "tuple" = some none) :
    ∃ fd : FuncData, (∀ (s : Shared) (v : Value), BindsTo s fd ⟨[v], []⟩ [("_law_script", v)]) ∧ ∀ base : Heap, K.In base → base.Ns mainGlobals mg → FnOk l.prog w K mg base CX0 6 fa fd ["_law_script"] (spD K sp_law) := by
  have e := hfa.symm.trans (PySem.W.mg_of X G a_law)
  cases e
  have F_l_draw := fun_mk (st := s_l_draw) l_l_draw c_l_draw k_l_draw
  have b_l_draw := F_l_draw.binds (ps := ["_law_deck_here", "_law_most"]) fun _ _ _ _ _ _ us hl => match us, hl with | [_, _], _ => rfl
  have F_is_whole := fun_mk (st := s_is_whole) l_is_whole c_is_whole k_is_whole
  have b_is_whole := F_is_whole.binds (ps := ["thing"]) fun _ _ _ _ _ _ us hl => match us, hl with | [_], _ => rfl
  have F_l_whole := fun_mk (st := s_l_whole) l_l_whole c_l_whole k_l_whole
  have b_l_whole := F_l_whole.binds (ps := ["_law_thing"]) fun _ _ _ _ _ _ us hl => match us, hl with | [_], _ => rfl
  have F_is_number_of := fun_mk (st := s_is_number_of) l_is_number_of c_is_number_of k_is_number_of
  have b_is_number_of := F_is_number_of.binds (ps := ["many", "thing"]) fun _ _ _ _ _ _ us hl => match us, hl with | [_, _], _ => rfl
  have F_is_payment := fun_mk (st := s_is_payment) l_is_payment c_is_payment k_is_payment
  have b_is_payment := F_is_payment.binds (ps := ["many", "thing"]) fun _ _ _ _ _ _ us hl => match us, hl with | [_, _], _ => rfl
  have F_left_behind := fun_mk (st := s_left_behind) l_left_behind c_left_behind k_left_behind
  have b_left_behind := F_left_behind.binds (ps := ["balances", "payments"]) fun _ _ _ _ _ _ us hl => match us, hl with | [_, _], _ => rfl
  have F_settles_holds := fun_mk (st := s_settles_holds) l_settles_holds c_settles_holds k_settles_holds
  have b_settles_holds := F_settles_holds.binds (ps := ["balances", "thing"]) fun _ _ _ _ _ _ us hl => match us, hl with | [_, _], _ => rfl
  have F_l_deck := fun_mk (st := s_l_deck) l_l_deck c_l_deck k_l_deck
  have b_l_deck := F_l_deck.binds (ps := ["_law_script"]) fun _ _ _ _ _ _ us hl => match us, hl with | [_], _ => rfl
  have F_l_shuffled := fun_mk (st := s_l_shuffled) l_l_shuffled c_l_shuffled k_l_shuffled
  have b_l_shuffled := F_l_shuffled.binds (ps := ["_law_deck_here", "_law_some"]) fun _ _ _ _ _ _ us hl => match us, hl with | [_, _], _ => rfl
  have F_l_settles := fun_mk (st := s_l_settles) l_l_settles c_l_settles k_l_settles
  have b_l_settles := F_l_settles.binds (ps := ["_law_balances_here", "_law_thing"]) fun _ _ _ _ _ _ us hl => match us, hl with | [_, _], _ => rfl
  have F_l_payments := fun_mk (st := s_l_payments) l_l_payments c_l_payments k_l_payments
  have b_l_payments := F_l_payments.binds (ps := ["_law_deck_here", "_law_many"]) fun _ _ _ _ _ _ us hl => match us, hl with | [_, _], _ => rfl
  have F_l_balances := fun_mk (st := s_l_balances) l_l_balances c_l_balances k_l_balances
  have b_l_balances := F_l_balances.binds (ps := ["_law_many", "_law_payments_here"]) fun _ _ _ _ _ _ us hl => match us, hl with | [_, _], _ => rfl
  have F_l_otherwise := fun_mk (st := s_l_otherwise) l_l_otherwise c_l_otherwise k_l_otherwise
  have b_l_otherwise := F_l_otherwise.binds (ps := ["_law_deck_here", "_law_payments_here", "_law_many"]) fun _ _ _ _ _ _ us hl => match us, hl with | [_, _, _], _ => rfl
  have F_l_right := fun_mk (st := s_l_right) l_l_right c_l_right k_l_right
  have b_l_right := F_l_right.binds (ps := ["_law_balances_here", "_law_thing"]) fun _ _ _ _ _ _ us hl => match us, hl with | [_, _], _ => rfl
  have F_law := fun_mk (st := s_law) l_law c_law k_law
  have b_law := F_law.binds (ps := ["_law_script"]) fun _ _ _ _ _ _ us hl => match us, hl with | [_], _ => rfl
  let T : TX w K mg := ⟨_, _, F_l_draw, PySem.W.mg_of X G a_l_draw, F_l_draw.kp, b_l_draw, _, _, F_is_whole, PySem.W.mg_of X G a_is_whole, F_is_whole.kp, b_is_whole, _, _, F_l_whole, PySem.W.mg_of X G a_l_whole, F_l_whole.kp, b_l_whole, _, _, F_is_number_of, PySem.W.mg_of X G a_is_number_of, F_is_number_of.kp, b_is_number_of, _, _, F_is_payment, PySem.W.mg_of X G a_is_payment, F_is_payment.kp, b_is_payment, _, _, F_left_behind, PySem.W.mg_of X G a_left_behind, F_left_behind.kp, b_left_behind, _, _, F_settles_holds, PySem.W.mg_of X G a_settles_holds, F_settles_holds.kp, b_settles_holds, _, _, F_l_deck, PySem.W.mg_of X G a_l_deck, F_l_deck.kp, b_l_deck, _, _, F_l_shuffled, PySem.W.mg_of X G a_l_shuffled, F_l_shuffled.kp, b_l_shuffled, _, _, F_l_settles, PySem.W.mg_of X G a_l_settles, F_l_settles.kp, b_l_settles, _, _, F_l_payments, PySem.W.mg_of X G a_l_payments, F_l_payments.kp, b_l_payments, _, _, F_l_balances, PySem.W.mg_of X G a_l_balances, F_l_balances.kp, b_l_balances, _, _, F_l_otherwise, PySem.W.mg_of X G a_l_otherwise, F_l_otherwise.kp, b_l_otherwise, _, _, F_l_right, PySem.W.mg_of X G a_l_right, F_l_right.kp, b_l_right, _, _, F_law, PySem.W.mg_of X G a_law, F_law.kp, b_law, PySem.W.mg_none_of X G z_all, PySem.W.mg_none_of X G z_any, PySem.W.mg_none_of X G z_bool, PySem.W.mg_none_of X G z_int, PySem.W.mg_none_of X G z_isinstance, PySem.W.mg_none_of X G z_len, PySem.W.mg_none_of X G z_list, PySem.W.mg_none_of X G z_max, PySem.W.mg_none_of X G z_min, PySem.W.mg_none_of X G z_range, PySem.W.mg_none_of X G z_tuple⟩
  refine ⟨T.fd_law, fun s v => .of_eq rfl, fun base _ _ => ?_⟩
  have G_l_draw := ok_l_draw (P := l.prog) (w := w) (base := base) T
  have G_is_whole := ok_is_whole (P := l.prog) (w := w) (base := base) T
  have G_l_whole := ok_l_whole (P := l.prog) (w := w) (base := base) T
  have G_is_number_of := ok_is_number_of (P := l.prog) (w := w) (base := base) T G_is_whole
  have G_is_payment := ok_is_payment (P := l.prog) (w := w) (base := base) T G_is_whole G_is_number_of
  have G_left_behind := ok_left_behind (P := l.prog) (w := w) (base := base) T
  have G_settles_holds := ok_settles_holds (P := l.prog) (w := w) (base := base) T G_left_behind G_is_payment
  have G_l_deck := ok_l_deck (P := l.prog) (w := w) (base := base) T
  have G_l_shuffled := ok_l_shuffled (P := l.prog) (w := w) (base := base) T G_l_draw
  have G_l_settles := ok_l_settles (P := l.prog) (w := w) (base := base) T G_l_whole
  have G_l_payments := ok_l_payments (P := l.prog) (w := w) (base := base) T G_l_draw
  have G_l_balances := ok_l_balances (P := l.prog) (w := w) (base := base) T
  have G_l_otherwise := ok_l_otherwise (P := l.prog) (w := w) (base := base) T G_l_draw
  have G_l_right := ok_l_right (P := l.prog) (w := w) (base := base) T G_l_settles G_settles_holds
  have G_law := ok_law (P := l.prog) (w := w) (base := base) T G_l_deck G_l_payments G_l_balances G_l_otherwise G_settles_holds G_l_shuffled G_l_right G_l_draw
  exact G_law
theorem walk {l : PySem.W.OpenLaw} {q : Program} {loose : List Str} {XP : (Str → Option Value) → Heap → Prop} {YP : World → Heap → Prop} {d : DefRec} {K : Params → PySem.W.Frag} (hn : l.most = some 63) (hdf : d.params.defaults = [])
    (hY : ∀ (w : World) (h : Heap), YP w h → (K w.params).In h)
    (F : ∀ (w : World) (mg : Str → Option Value) (fa : Addr) (h : Heap), (K w.params).In h → h.Ns mainGlobals mg → mg d.name = some (.ref fa) →
      ∃ fd : FuncData, (∀ (s : Shared) (u : Value), BindsTo s fd ⟨[u], []⟩ [("_law_script", u)]) ∧ ∀ base : Heap, (K w.params).In base → base.Ns mainGlobals mg → FnOk l.prog w (K w.params) mg base CX0 6 fa fd ["_law_script"] (spD (K w.params) sp_law)) :
    PySem.W.WalkO q loose XP YP l.row.toRowW d [] (fun f vs => PySem.call f vs) :=
  L2.walk_ofB (n := 63) (k := 6) (x := "_law_script") (CX := fun _ => CX0) (sp := fun w => spD (K w.params) sp_law) hn (by decide) hdf ⟨rfl, by decide, by decide⟩ hY F (fun _ _ a ns hl hb _ hS => law_sp (law_in hl hb) hS) fun _ _ _ _ _ z => z
end Pf
open PySem PySem.W PyProof.Rows in
set_option maxRecDepth 100000 in
set_option maxHeartbeats 0 in
theorem PySem.Challenge.cw_littlemasters_k37_payments_of_any_hand_holds : PySem.Challenge.rw_littlemasters_k37_payments_of_any_hand.Holds := by
  w_on; o_law; k_head; (case hw => w_witness2)
  k_fill
  refine Pf.walk (l := PySem.Challenge.rw_littlemasters_k37_payments_of_any_hand) rfl rfl (fun w h Y => PySem.W.kIn_of Y) ?F
  case F =>
    intro w mg fa h KX G hmg
    refine' Pf.all_mk KX G hmg ?a_l_draw ?l_l_draw ?c_l_draw ?k_l_draw ?a_is_whole ?l_is_whole ?c_is_whole ?k_is_whole ?a_l_whole ?l_l_whole ?c_l_whole ?k_l_whole ?a_is_number_of ?l_is_number_of ?c_is_number_of ?k_is_number_of ?a_is_payment ?l_is_payment ?c_is_payment ?k_is_payment ?a_left_behind ?l_left_behind ?c_left_behind ?k_left_behind ?a_settles_holds ?l_settles_holds ?c_settles_holds ?k_settles_holds ?a_l_deck ?l_l_deck ?c_l_deck ?k_l_deck ?a_l_shuffled ?l_l_shuffled ?c_l_shuffled ?k_l_shuffled ?a_l_settles ?l_l_settles ?c_l_settles ?k_l_settles ?a_l_payments ?l_l_payments ?c_l_payments ?k_l_payments ?a_l_balances ?l_l_balances ?c_l_balances ?k_l_balances ?a_l_otherwise ?l_l_otherwise ?c_l_otherwise ?k_l_otherwise ?a_l_right ?l_l_right ?c_l_right ?k_l_right ?a_law ?l_law ?c_law ?k_law ?z_all ?z_any ?z_bool ?z_int ?z_isinstance ?z_len ?z_list ?z_max ?z_min ?z_range ?z_tuple
    (case a_l_draw => k_is)
    (case l_l_draw => k_is)
    (case c_l_draw => k_is)
    (case k_l_draw => k_is)
    (case a_is_whole => k_is)
    (case l_is_whole => k_is)
    (case c_is_whole => k_is)
    (case k_is_whole => k_is)
    (case a_l_whole => k_is)
    (case l_l_whole => k_is)
    (case c_l_whole => k_is)
    (case k_l_whole => k_is)
    (case a_is_number_of => k_is)
    (case l_is_number_of => k_is)
    (case c_is_number_of => k_is)
    (case k_is_number_of => k_is)
    (case a_is_payment => k_is)
    (case l_is_payment => k_is)
    (case c_is_payment => k_is)
    (case k_is_payment => k_is)
    (case a_left_behind => k_is)
    (case l_left_behind => k_is)
    (case c_left_behind => k_is)
    (case k_left_behind => k_is)
    (case a_settles_holds => k_is)
    (case l_settles_holds => k_is)
    (case c_settles_holds => k_is)
    (case k_settles_holds => k_is)
    (case a_l_deck => k_is)
    (case l_l_deck => k_is)
    (case c_l_deck => k_is)
    (case k_l_deck => k_is)
    (case a_l_shuffled => k_is)
    (case l_l_shuffled => k_is)
    (case c_l_shuffled => k_is)
    (case k_l_shuffled => k_is)
    (case a_l_settles => k_is)
    (case l_l_settles => k_is)
    (case c_l_settles => k_is)
    (case k_l_settles => k_is)
    (case a_l_payments => k_is)
    (case l_l_payments => k_is)
    (case c_l_payments => k_is)
    (case k_l_payments => k_is)
    (case a_l_balances => k_is)
    (case l_l_balances => k_is)
    (case c_l_balances => k_is)
    (case k_l_balances => k_is)
    (case a_l_otherwise => k_is)
    (case l_l_otherwise => k_is)
    (case c_l_otherwise => k_is)
    (case k_l_otherwise => k_is)
    (case a_l_right => k_is)
    (case l_l_right => k_is)
    (case c_l_right => k_is)
    (case k_l_right => k_is)
    (case a_law => k_is)
    (case l_law => k_is)
    (case c_law => k_is)
    (case k_law => k_is)
    (case z_all => k_is)
    (case z_any => k_is)
    (case z_bool => k_is)
    (case z_int => k_is)
    (case z_isinstance => k_is)
    (case z_len => k_is)
    (case z_list => k_is)
    (case z_max => k_is)
    (case z_min => k_is)
    (case z_range => k_is)
    (case z_tuple => k_is)
