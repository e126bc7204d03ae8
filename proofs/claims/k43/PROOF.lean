import PyProof.Rows.All
import Wide.All
import OpenK.AllK
import Wide.FinOn
import HandS.ForMost
import HandS.Evl
import HandS.Wide
import HandS.TupAny
import HandS.EndBits
import HandS.Style
import HandS.TryOnly
import HandS.WordsExc
import HandS.WrittenGet
import PySem.Challenge.RW_littlemasters_k43_the_first_judge
set_option Elab.async false
set_option linter.all false
set_option maxRecDepth 100000
set_option maxHeartbeats 8000000
namespace DL
open PySem PySem.Spec PyProof.Rows L2

inductive D where
  | non | bl (b : Bool) | int (i : Int) | str (x : Str) | ty (n : String) | ref (a : Addr)
  | scr (ns : List Int)
  | tup (ds : List D) | lst (ds : List D) | dct (kvs : List (Key × D)) | ins (C : Addr) (fs : List (Str × D))

/-- a tuple of the heap outside the region, or of the written part -/
def TupAt (K : PySem.W.Frag) (H : Hp) (R : Addr → Prop) (a : Addr) (xs : List V) : Prop := (Rd H a (.tup xs) ∧ ¬ R a) ∨ SqT K (fun _ => none) a xs
def LstAt (K : PySem.W.Frag) (H : Hp) (R : Addr → Prop) (a : Addr) (xs : List V) : Prop := (Rd H a (.lst xs) ∧ ¬ R a) ∨ SqL K (fun _ => none) a xs

mutual
def Rep (K : PySem.W.Frag) (H : Hp) (R : Addr → Prop) : D → V → Prop
  | .non, v => v = .non
  | .bl b, v => v = .bl b
  | .int i, v => v = .int i
  | .str x, v => v = .str x
  | .ty n, v => v = .ty n
  | .ref a, v => v = .ref a
  | .scr ns, v => ∃ a, v = .ref a ∧ LstAt K H R a (ns.map V.int)
  | .tup ds, v => ∃ a xs, v = .ref a ∧ TupAt K H R a xs ∧ RepL K H R ds xs
  | .lst ds, v => ∃ a xs, v = .ref a ∧ (H a = some (.lst xs) ∧ ¬ R a) ∧ RepL K H R ds xs
  | .dct kvs, v => ∃ a ws, v = .ref a ∧ (H a = some (.dK ws) ∧ ¬ R a) ∧ RepK K H R kvs ws
  | .ins C fs, v => ∃ a dx ws, v = .ref a ∧ (H a = some (.ins C dx ws) ∧ ¬ R a) ∧ RepF K H R fs ws
def RepL (K : PySem.W.Frag) (H : Hp) (R : Addr → Prop) : List D → List V → Prop
  | [], xs => xs = []
  | d :: ds, xs => ∃ y ys, xs = y :: ys ∧ Rep K H R d y ∧ RepL K H R ds ys
def RepK (K : PySem.W.Frag) (H : Hp) (R : Addr → Prop) : List (Key × D) → List (Key × V) → Prop
  | [], xs => xs = []
  | (k, d) :: ds, xs => ∃ y ys, xs = (k, y) :: ys ∧ Rep K H R d y ∧ RepK K H R ds ys
def RepF (K : PySem.W.Frag) (H : Hp) (R : Addr → Prop) : List (Str × D) → List (Str × V) → Prop
  | [], xs => xs = []
  | (k, d) :: ds, xs => ∃ y ys, xs = (k, y) :: ys ∧ Rep K H R d y ∧ RepF K H R ds ys
end

/-- what lies outside the region stays; the region grows by what was not there -/
structure Grow (H H' : Hp) (R R' : Addr → Prop) : Prop where
  keep : ∀ a o, H a = some o → ¬ R a → H' a = some o
  reg : ∀ a o, H a = some o → R' a → R a
theorem Grow.refl (H : Hp) (R : Addr → Prop) : Grow H H R R := ⟨fun _ _ h _ => h, fun _ _ _ h => h⟩
theorem Grow.trans {H H1 H2 : Hp} {R R1 R2 : Addr → Prop} (a : Grow H H1 R R1) (b : Grow H1 H2 R1 R2) : Grow H H2 R R2 := by
  have k : ∀ c o, H c = some o → ¬ R c → H1 c = some o ∧ ¬ R1 c := fun c o h n => ⟨a.keep c o h n, fun r => n (a.reg c o h r)⟩
  refine ⟨fun c o h n => b.keep c o (k c o h n).1 (k c o h n).2, fun c o h r => ?_⟩
  by_cases n : R c
  · exact n
  · obtain ⟨h1, n1⟩ := k c o h n
    exact absurd (b.reg c o h1 r) n1
theorem TupAt.grow {K : PySem.W.Frag} {H H' : Hp} {R R' : Addr → Prop} {a : Addr} {xs : List V} (g : Grow H H' R R') (h : TupAt K H R a xs) : TupAt K H' R' a xs := by
  rcases h with ⟨h | ⟨o, h⟩, n⟩ | h
  · exact .inl ⟨.inl (g.keep _ _ h n), fun r => n (g.reg _ _ h r)⟩
  · exact .inl ⟨.inr ⟨o, g.keep _ _ h n⟩, fun r => n (g.reg _ _ h r)⟩
  · exact .inr h
theorem LstAt.grow {K : PySem.W.Frag} {H H' : Hp} {R R' : Addr → Prop} {a : Addr} {xs : List V} (g : Grow H H' R R') (h : LstAt K H R a xs) : LstAt K H' R' a xs := by
  rcases h with ⟨h | ⟨o, h⟩, n⟩ | h
  · exact .inl ⟨.inl (g.keep _ _ h n), fun r => n (g.reg _ _ h r)⟩
  · exact .inl ⟨.inr ⟨o, g.keep _ _ h n⟩, fun r => n (g.reg _ _ h r)⟩
  · exact .inr h
theorem none_rd {a : Addr} {u : HO} (h : Rd (fun _ => none) a u) : False := by
  rcases h with h | ⟨o, h⟩ <;> cases h
theorem TupAt.sq {K : PySem.W.Frag} {H : Hp} {R : Addr → Prop} {a : Addr} {xs : List V} (h : TupAt K H R a xs) : SqT K H a xs := by
  rcases h with ⟨h, _⟩ | h | h
  · exact .inl h
  · exact (none_rd h).elim
  · exact .inr h
theorem LstAt.sq {K : PySem.W.Frag} {H : Hp} {R : Addr → Prop} {a : Addr} {xs : List V} (h : LstAt K H R a xs) : SqL K H a xs := by
  rcases h with ⟨h, _⟩ | h | h
  · exact .inl h
  · exact (none_rd h).elim
  · exact .inr h

mutual
theorem Rep.grow {K : PySem.W.Frag} {H H' : Hp} {R R' : Addr → Prop} (g : Grow H H' R R') : ∀ {d : D} {v : V}, Rep K H R d v → Rep K H' R' d v
  | .non, _, h => h
  | .bl _, _, h => h
  | .int _, _, h => h
  | .str _, _, h => h
  | .ty _, _, h => h
  | .ref _, _, h => h
  | .scr _, _, ⟨a, e, h⟩ => ⟨a, e, h.grow g⟩
  | .tup _, _, ⟨a, xs, e, h, r⟩ => ⟨a, xs, e, h.grow g, RepL.grow g r⟩
  | .lst _, _, ⟨a, xs, e, ⟨h, n⟩, r⟩ => ⟨a, xs, e, ⟨g.keep _ _ h n, fun z => n (g.reg _ _ h z)⟩, RepL.grow g r⟩
  | .dct _, _, ⟨a, xs, e, ⟨h, n⟩, r⟩ => ⟨a, xs, e, ⟨g.keep _ _ h n, fun z => n (g.reg _ _ h z)⟩, RepK.grow g r⟩
  | .ins _ _, _, ⟨a, dx, xs, e, ⟨h, n⟩, r⟩ => ⟨a, dx, xs, e, ⟨g.keep _ _ h n, fun z => n (g.reg _ _ h z)⟩, RepF.grow g r⟩
theorem RepL.grow {K : PySem.W.Frag} {H H' : Hp} {R R' : Addr → Prop} (g : Grow H H' R R') : ∀ {ds : List D} {vs : List V}, RepL K H R ds vs → RepL K H' R' ds vs
  | [], _, h => h
  | _ :: _, _, ⟨y, ys, e, h, r⟩ => ⟨y, ys, e, Rep.grow g h, RepL.grow g r⟩
theorem RepK.grow {K : PySem.W.Frag} {H H' : Hp} {R R' : Addr → Prop} (g : Grow H H' R R') : ∀ {ds : List (Key × D)} {vs : List (Key × V)}, RepK K H R ds vs → RepK K H' R' ds vs
  | [], _, h => h
  | (_, _) :: _, _, ⟨y, ys, e, h, r⟩ => ⟨y, ys, e, Rep.grow g h, RepK.grow g r⟩
theorem RepF.grow {K : PySem.W.Frag} {H H' : Hp} {R R' : Addr → Prop} (g : Grow H H' R R') : ∀ {ds : List (Str × D)} {vs : List (Str × V)}, RepF K H R ds vs → RepF K H' R' ds vs
  | [], _, h => h
  | (_, _) :: _, _, ⟨y, ys, e, h, r⟩ => ⟨y, ys, e, Rep.grow g h, RepF.grow g r⟩
end

theorem RepL.length {K : PySem.W.Frag} {H : Hp} {R : Addr → Prop} : ∀ {ds : List D} {vs : List V}, RepL K H R ds vs → vs.length = ds.length
  | [], _, h => by
    cases h
    rfl
  | _ :: ds, _, ⟨y, ys, e, _, r⟩ => by
    subst e
    show ys.length + 1 = ds.length + 1
    rw [RepL.length r]
theorem RepL.get {K : PySem.W.Frag} {H : Hp} {R : Addr → Prop} : ∀ {ds : List D} {vs : List V} {i : Nat} {d : D}, RepL K H R ds vs → ds[i]? = some d → ∃ v, vs[i]? = some v ∧ Rep K H R d v
  | [], _, _, _, _, h => by simp at h
  | _ :: _, _, 0, _, ⟨y, ys, e, h, r⟩, q => by
    subst e
    simp at q
    subst q
    exact ⟨y, rfl, h⟩
  | _ :: _, _, i + 1, _, ⟨y, ys, e, h, r⟩, q => by
    subst e
    exact RepL.get (i := i) r (by simpa using q)
theorem RepL.getV {K : PySem.W.Frag} {H : Hp} {R : Addr → Prop} {ds : List D} {vs : List V} {i : Nat} {v : V} (r : RepL K H R ds vs) (h : vs[i]? = some v) : ∃ d, ds[i]? = some d ∧ Rep K H R d v := by
  have hi : i < ds.length := by
    rw [← r.length]
    exact (List.getElem?_eq_some_iff.mp h).1
  obtain ⟨w, hw, q⟩ := r.get (List.getElem?_eq_getElem hi)
  rw [h] at hw
  cases hw
  exact ⟨_, List.getElem?_eq_getElem hi, q⟩
theorem RepL.app {K : PySem.W.Frag} {H : Hp} {R : Addr → Prop} : ∀ {ds es : List D} {vs ws : List V}, RepL K H R ds vs → RepL K H R es ws → RepL K H R (ds ++ es) (vs ++ ws)
  | [], _, _, _, h, q => by
    cases h
    exact q
  | _ :: _, _, _, _, ⟨y, ys, e, h, r⟩, q => by
    subst e
    exact ⟨y, _, rfl, h, RepL.app r q⟩
theorem RepL.one {K : PySem.W.Frag} {H : Hp} {R : Addr → Prop} {d : D} {v : V} (h : Rep K H R d v) : RepL K H R [d] [v] := ⟨v, [], rfl, h, rfl⟩
theorem RepL.take {K : PySem.W.Frag} {H : Hp} {R : Addr → Prop} : ∀ {ds : List D} {vs : List V} (n : Nat), RepL K H R ds vs → RepL K H R (ds.take n) (vs.take n)
  | _, _, 0, _ => rfl
  | [], _, _ + 1, h => by
    cases h
    rfl
  | _ :: _, _, n + 1, ⟨y, ys, e, h, r⟩ => by
    subst e
    exact ⟨y, _, rfl, h, RepL.take n r⟩
theorem RepL.drop {K : PySem.W.Frag} {H : Hp} {R : Addr → Prop} : ∀ {ds : List D} {vs : List V} (n : Nat), RepL K H R ds vs → RepL K H R (ds.drop n) (vs.drop n)
  | _, _, 0, h => h
  | [], _, _ + 1, h => by
    cases h
    rfl
  | _ :: _, _, n + 1, ⟨y, ys, e, h, r⟩ => by
    subst e
    exact RepL.drop n r
theorem RepL.ints {K : PySem.W.Frag} {H : Hp} {R : Addr → Prop} : ∀ {ns : List Int}, RepL K H R (ns.map D.int) (ns.map V.int)
  | [] => rfl
  | n :: ns => ⟨.int n, ns.map V.int, rfl, rfl, RepL.ints⟩
theorem RepL.intsV {K : PySem.W.Frag} {H : Hp} {R : Addr → Prop} : ∀ {ns : List Int} {vs : List V}, RepL K H R (ns.map D.int) vs → vs = ns.map V.int
  | [], _, h => h
  | n :: ns, _, ⟨y, ys, e, h, r⟩ => by
    subst e
    cases h
    rw [RepL.intsV r]
    rfl
theorem RepL.strsV {K : PySem.W.Frag} {H : Hp} {R : Addr → Prop} : ∀ {ns : List Str} {vs : List V}, RepL K H R (ns.map D.str) vs → vs = ns.map V.str
  | [], _, h => h
  | n :: ns, _, ⟨y, ys, e, h, r⟩ => by
    subst e
    cases h
    rw [RepL.strsV r]
    rfl
theorem RepL.strs {K : PySem.W.Frag} {H : Hp} {R : Addr → Prop} : ∀ {ns : List Str}, RepL K H R (ns.map D.str) (ns.map V.str)
  | [] => rfl
  | n :: ns => ⟨.str n, ns.map V.str, rfl, rfl, RepL.strs⟩

/-! ### what a slot may hold: data, a handle of the caller's store, of the own store -/
inductive S where
  | d (x : D) | g (k : Nat) | l (k : Nat)
/-- what may change: a list of data, a list with handles in it, a dict, an instance -/
inductive M where
  | pl (ds : List D) | hl (xs : List S) | dc (kvs : List (Key × D)) | ob (C : Addr) (fs : List (Str × D))
def M.dat : M → Option D
  | .pl ds => some (.lst ds)
  | .hl _ => none
  | .dc kvs => some (.dct kvs)
  | .ob C fs => some (.ins C fs)
structure W where
  R : Addr → Prop
  gs : List Addr
  H0 : Hp
def Rg (w : W) (ls : List Addr) : Addr → Prop := fun a => w.R a ∨ a ∈ ls

section
variable {K : PySem.W.Frag}
/-- a slot's value: region, handles -/
def RS (K : PySem.W.Frag) (H : Hp) (R : Addr → Prop) (gs ls : List Addr) : S → V → Prop
  | .d x, v => Rep K H R x v
  | .g k, v => ∃ a, gs[k]? = some a ∧ v = .ref a
  | .l k, v => ∃ a, ls[k]? = some a ∧ v = .ref a
def MOk (K : PySem.W.Frag) (H : Hp) (R : Addr → Prop) (gs ls : List Addr) (a : Addr) : M → Prop
  | .pl ds => ∃ vs, H a = some (.lst vs) ∧ RepL K H R ds vs
  | .hl xs => ∃ vs, H a = some (.lst vs) ∧ Paired (RS K H R gs ls) xs vs
  | .dc kvs => ∃ vs, H a = some (.dK vs) ∧ RepK K H R kvs vs
  | .ob C fs => ∃ dx vs, H a = some (.ins C dx vs) ∧ RepF K H R fs vs

abbrev Sl := List (Option S)
def SlOk (K : PySem.W.Frag) (H : Hp) (R : Addr → Prop) (gs ls : List Addr) (σ : L2.St) (Δ : Sl) : Prop :=
  σ.length = Δ.length ∧ ∀ (i : Nat) (s : S), Δ[i]? = some (some s) → ∃ v, σ[i]? = some (some v) ∧ RS K H R gs ls s v
structure Ctx (K : PySem.W.Frag) (w : W) (ls : List Addr) (σ : L2.St) (H : Hp) (Δ : Sl) (G L : List M) : Prop where
  reg : ∀ a ∈ w.gs, w.R a
  rin : ∀ a, w.R a → ∃ o, H a = some o
  nd : (w.gs ++ ls).Nodup
  fr : ∀ a ∈ ls, w.H0 a = none
  h0 : ∀ a o, w.H0 a = some o → a ∉ w.gs → H a = some o
  sl : SlOk K H (Rg w ls) w.gs ls σ Δ
  gl : Paired (MOk K H (Rg w ls) w.gs []) w.gs G
  lo : Paired (MOk K H (Rg w ls) w.gs ls) ls L
/-- what is not in the store stays -/
def Ext (w : W) (ls : List Addr) (H H' : Hp) : Prop := ∀ a o, H a = some o → a ∉ w.gs → a ∉ ls → H' a = some o
theorem Ext.refl {w : W} {ls : List Addr} {H : Hp} : Ext w ls H H := fun _ _ h _ _ => h
theorem Ext.trans {w : W} {ls : List Addr} {H H1 H2 : Hp} (a : Ext w ls H H1) (b : Ext w ls H1 H2) : Ext w ls H H2 := fun c o h n m => b c o (a c o h n m) n m
theorem Ext.grow {w : W} {ls : List Addr} {H H' : Hp} (e : Ext w ls H H') (hr : ∀ a ∈ w.gs, w.R a) : Grow H H' (Rg w ls) (Rg w ls) :=
  ⟨fun a o h n => e a o h (fun z => n (.inl (hr a z))) fun z => n (.inr z), fun _ _ _ h => h⟩
/-- the handles may get more -/
def Pre (ls ls' : List Addr) : Prop := ∀ (k : Nat) a, ls[k]? = some a → ls'[k]? = some a
theorem Pre.refl (ls : List Addr) : Pre ls ls := fun _ _ h => h
theorem Pre.nil (ls : List Addr) : Pre [] ls := fun _ _ h => by simp at h
theorem Pre.app (ls qs : List Addr) : Pre ls (ls ++ qs) := fun k a h => by
  rw [List.getElem?_append_left (List.getElem?_eq_some_iff.mp h).1]
  exact h
theorem RS.grow {H H' : Hp} {R R' : Addr → Prop} {gs gs' ls ls' : List Addr} (g : Grow H H' R R') (pg : Pre gs gs') (pl : Pre ls ls') : ∀ {s : S} {v : V}, RS K H R gs ls s v → RS K H' R' gs' ls' s v
  | .d _, _, h => Rep.grow g h
  | .g _, _, ⟨a, h, e⟩ => ⟨a, pg _ _ h, e⟩
  | .l _, _, ⟨a, h, e⟩ => ⟨a, pl _ _ h, e⟩
theorem paired_map {α β : Type} {F F' : α → β → Prop} : ∀ {as : List α} {bs : List β}, Paired F as bs → (∀ a b, a ∈ as → F a b → F' a b) → Paired F' as bs
  | _, _, .nil, _ => .nil
  | _, _, .cons h t, f => .cons (f _ _ List.mem_cons_self h) (paired_map t fun a b m q => f a b (List.mem_cons_of_mem _ m) q)
theorem MOk.grow {H H' : Hp} {R R' : Addr → Prop} {gs gs' ls ls' : List Addr} (g : Grow H H' R R') (pg : Pre gs gs') (pl : Pre ls ls') {a : Addr} (k : ∀ o, H a = some o → H' a = some o) : ∀ {m : M}, MOk K H R gs ls a m → MOk K H' R' gs' ls' a m
  | .pl _, ⟨vs, h, r⟩ => ⟨vs, k _ h, RepL.grow g r⟩
  | .hl _, ⟨vs, h, r⟩ => ⟨vs, k _ h, paired_map r fun _ _ _ q => RS.grow g pg pl q⟩
  | .dc _, ⟨vs, h, r⟩ => ⟨vs, k _ h, RepK.grow g r⟩
  | .ob _ _, ⟨dx, vs, h, r⟩ => ⟨dx, vs, k _ h, RepF.grow g r⟩
theorem SlOk.grow {H H' : Hp} {R R' : Addr → Prop} {gs gs' ls ls' : List Addr} (g : Grow H H' R R') (pg : Pre gs gs') (pl : Pre ls ls') {σ : L2.St} {Δ : Sl} (h : SlOk K H R gs ls σ Δ) : SlOk K H' R' gs' ls' σ Δ :=
  ⟨h.1, fun i s e => let ⟨v, a, b⟩ := h.2 i s e; ⟨v, a, RS.grow g pg pl b⟩⟩
theorem MOk.some {H : Hp} {R : Addr → Prop} {gs ls : List Addr} {a : Addr} : ∀ {m : M}, MOk K H R gs ls a m → ∃ o, H a = some o
  | .pl _, ⟨_, h, _⟩ => ⟨_, h⟩
  | .hl _, ⟨_, h, _⟩ => ⟨_, h⟩
  | .dc _, ⟨_, h, _⟩ => ⟨_, h⟩
  | .ob _ _, ⟨_, _, h, _⟩ => ⟨_, h⟩
theorem paired_l {α β : Type} {F : α → β → Prop} : ∀ {as : List α} {bs : List β} {a : α}, Paired F as bs → a ∈ as → ∃ b, F a b
  | _, _, _, .cons h t, m => by
    rcases List.mem_cons.mp m with rfl | m
    · exact ⟨_, h⟩
    · exact paired_l t m
theorem paired_get {α β : Type} {F : α → β → Prop} : ∀ {as : List α} {bs : List β} {i : Nat} {b : β}, Paired F as bs → bs[i]? = some b → ∃ a, as[i]? = some a ∧ F a b
  | _, _, 0, _, .cons h t, e => by
    simp at e
    subst e
    exact ⟨_, rfl, h⟩
  | _, _, i + 1, _, .cons h t, e => by
    obtain ⟨a, q, r⟩ := paired_get (i := i) t (by simpa using e)
    exact ⟨a, by simpa using q, r⟩
theorem paired_app {α β : Type} {F : α → β → Prop} : ∀ {as cs : List α} {bs ds : List β}, Paired F as bs → Paired F cs ds → Paired F (as ++ cs) (bs ++ ds)
  | _, _, _, _, .nil, q => q
  | _, _, _, _, .cons h t, q => .cons h (paired_app t q)
theorem paired_len {α β : Type} {F : α → β → Prop} : ∀ {as : List α} {bs : List β}, Paired F as bs → as.length = bs.length
  | _, _, .nil => rfl
  | _, _, .cons _ t => congrArg (· + 1) (paired_len t)
/-- the pair at i is changed, the others are kept -/
theorem paired_set {α β : Type} {F F' : α → β → Prop} : ∀ {as : List α} {bs : List β} {i : Nat} {a : α} {b : β}, Paired F as bs → as.Nodup → as[i]? = some a → F' a b → (∀ c e, c ∈ as → c ≠ a → F c e → F' c e) → Paired F' as (bs.set i b)
  | _, _, _, _, _, .nil, _, h, _, _ => by simp at h
  | _, _, 0, _, _, .cons (a := x) h t, nd, e, q, k => by
    simp at e
    subst e
    have n := (List.nodup_cons.mp nd).1
    exact .cons q (paired_map t fun c e m f => k c e (List.mem_cons_of_mem _ m) (fun z => n (z ▸ m)) f)
  | _, _, i + 1, _, _, .cons (a := x) h t, nd, e, q, k => by
    have n := (List.nodup_cons.mp nd).1
    have e' := (by simpa using e : _[i]? = some _)
    have m := List.mem_of_getElem? e'
    exact .cons (k _ _ List.mem_cons_self (fun z => n (z ▸ m)) h) (paired_set t (List.nodup_cons.mp nd).2 e' q fun c e m f => k c e (List.mem_cons_of_mem _ m) f)

section
variable {w : W} {ls : List Addr} {σ : L2.St} {H : Hp} {Δ : Sl} {G L : List M}
theorem Ctx.lin (c : Ctx K w ls σ H Δ G L) {a : Addr} (h : a ∈ ls) : ∃ o, H a = some o := by
  obtain ⟨m, q⟩ := paired_l c.lo h
  exact q.some
theorem Ctx.gin (c : Ctx K w ls σ H Δ G L) {a : Addr} (h : a ∈ w.gs) : ∃ o, H a = some o := c.rin a (c.reg a h)
theorem Ctx.free (c : Ctx K w ls σ H Δ G L) {p : Addr} (h : H p = none) : ¬ Rg w ls p := by
  rintro (r | r)
  · obtain ⟨o, e⟩ := c.rin p r
    rw [h] at e
    cases e
  · obtain ⟨o, e⟩ := c.lin r
    rw [h] at e
    cases e
theorem Ctx.free0 (c : Ctx K w ls σ H Δ G L) {p : Addr} (h : H p = none) : w.H0 p = none := by
  cases e : w.H0 p with
  | none => rfl
  | some o =>
    have n : p ∉ w.gs := fun z => c.free h (.inl (c.reg p z))
    rw [c.h0 p o e n] at h
    cases h
theorem grow_new {p : Addr} {o : HO} {R : Addr → Prop} (h : H p = none) : Grow H (upd H p o) R R :=
  ⟨fun a u e _ => by
    rw [upd_ne (ne_of_none e h)]
    exact e, fun _ _ _ r => r⟩
theorem keep_new {p : Addr} {o : HO} (h : H p = none) : ∀ a u, H a = some u → upd H p o a = some u := fun a u e => by
  rw [upd_ne (ne_of_none e h)]
  exact e
/-- a new object that is no more than data -/
theorem Ctx.new (c : Ctx K w ls σ H Δ G L) {p : Addr} {o : HO} (h : H p = none) : Ctx K w ls σ (upd H p o) Δ G L := by
  have g : Grow H (upd H p o) (Rg w ls) (Rg w ls) := grow_new h
  have k := keep_new (o := o) h
  exact ⟨c.reg, fun a r => let ⟨u, e⟩ := c.rin a r; ⟨u, k a u e⟩, c.nd, c.fr, fun a u e n => k a u (c.h0 a u e n), c.sl.grow g (Pre.refl _) (Pre.refl _),
    paired_map c.gl fun a m _ q => q.grow g (Pre.refl _) (Pre.refl _) (k a), paired_map c.lo fun a m _ q => q.grow g (Pre.refl _) (Pre.refl _) (k a)⟩
theorem Ext.new {p : Addr} {o : HO} (h : H p = none) : Ext w ls H (upd H p o) := fun a u e _ _ => by
  rw [upd_ne (ne_of_none e h)]
  exact e
/-- the region grows by a new object -/
theorem grow_reg {p : Addr} (h : H p = none) : Grow H H (Rg w ls) (Rg w (ls ++ [p])) :=
  ⟨fun _ _ e _ => e, fun a o e r => by
    rcases r with r | r
    · exact .inl r
    · rcases List.mem_append.mp r with r | r
      · exact .inr r
      · rw [List.mem_singleton] at r
        subst r
        rw [h] at e
        cases e⟩
theorem grow_sub {ls' : List Addr} (h : ∀ a ∈ ls', a ∈ ls) : Grow H H (Rg w ls) (Rg w ls') :=
  ⟨fun _ _ e _ => e, fun a o e r => by
    rcases r with r | r
    · exact .inl r
    · exact .inr (h a r)⟩

/-! ### an object just made: its own, or data -/
structure NewAt (K : PySem.W.Frag) (w : W) (ls : List Addr) (σ : L2.St) (H : Hp) (Δ : Sl) (G L : List M) (p : Addr) (m : M) : Prop where
  own : Ctx K w (ls ++ [p]) σ H Δ G (L ++ [m])
  c : Ctx K w ls σ H Δ G L
  dat : ∀ x, m.dat = some x → Rep K H (Rg w ls) x (.ref p)
theorem newAt_of (c : Ctx K w ls σ H Δ G L) {p : Addr} {o : HO} {m : M} (h : H p = none) (hm : MOk K (upd H p o) (Rg w (ls ++ [p])) w.gs ls p m) (hd : ∀ x, m.dat = some x → Rep K (upd H p o) (Rg w ls) x (.ref p)) :
    NewAt K w ls σ (upd H p o) Δ G L p m := by
  have g : Grow H (upd H p o) (Rg w ls) (Rg w (ls ++ [p])) := (grow_reg h).trans (grow_new h)
  have k := keep_new (o := o) h
  have nR := c.free h
  refine ⟨⟨c.reg, fun a r => let ⟨u, e⟩ := c.rin a r; ⟨u, k a u e⟩, ?_, ?_, fun a u e n => k a u (c.h0 a u e n), c.sl.grow g (Pre.refl _) (Pre.app _ _),
    paired_map c.gl fun a m _ q => q.grow g (Pre.refl _) (Pre.nil _) (k a), paired_app (paired_map c.lo fun a m _ q => q.grow g (Pre.refl _) (Pre.app _ _) (k a)) (.cons ?_ .nil)⟩, c.new h, hd⟩
  · rw [← List.append_assoc]
    refine List.nodup_append.mpr ⟨c.nd, by simp, fun a ha b hb => ?_⟩
    rw [List.mem_singleton] at hb
    subst hb
    rintro rfl
    rcases List.mem_append.mp ha with z | z
    · exact nR (.inl (c.reg _ z))
    · exact nR (.inr z)
  · intro a ha
    rcases List.mem_append.mp ha with z | z
    · exact c.fr a z
    · rw [List.mem_singleton] at z
      subst z
      exact c.free0 h
  · exact hm.grow (Grow.refl _ _) (Pre.refl _) (Pre.app _ _) fun _ z => z
theorem newAt_pl (c : Ctx K w ls σ H Δ G L) {p : Addr} {ds : List D} {vs : List V} (h : H p = none) (r : RepL K H (Rg w ls) ds vs) : NewAt K w ls σ (upd H p (.lst vs)) Δ G L p (.pl ds) :=
  newAt_of c h ⟨vs, upd_same, r.grow ((grow_reg h).trans (grow_new h))⟩ fun x e => by
    cases e
    exact ⟨p, vs, rfl, ⟨upd_same, c.free h⟩, r.grow (grow_new h)⟩
theorem newAt_hl (c : Ctx K w ls σ H Δ G L) {p : Addr} {xs : List S} {vs : List V} (h : H p = none) (r : Paired (RS K H (Rg w ls) w.gs ls) xs vs) : NewAt K w ls σ (upd H p (.lst vs)) Δ G L p (.hl xs) :=
  newAt_of c h ⟨vs, upd_same, paired_map r fun _ _ _ q => q.grow ((grow_reg h).trans (grow_new h)) (Pre.refl _) (Pre.refl _)⟩ fun x e => by cases e
theorem newAt_dc (c : Ctx K w ls σ H Δ G L) {p : Addr} {ds : List (Key × D)} {vs : List (Key × V)} (h : H p = none) (r : RepK K H (Rg w ls) ds vs) : NewAt K w ls σ (upd H p (.dK vs)) Δ G L p (.dc ds) :=
  newAt_of c h ⟨vs, upd_same, r.grow ((grow_reg h).trans (grow_new h))⟩ fun x e => by
    cases e
    exact ⟨p, vs, rfl, ⟨upd_same, c.free h⟩, r.grow (grow_new h)⟩
theorem rep_tup (c : Ctx K w ls σ H Δ G L) {p : Addr} {ds : List D} {vs : List V} (h : H p = none) (r : RepL K H (Rg w ls) ds vs) : Rep K (upd H p (.tup vs)) (Rg w ls) (.tup ds) (.ref p) :=
  ⟨p, vs, rfl, .inl ⟨.inl upd_same, c.free h⟩, r.grow (grow_new h)⟩
end
end
end DL

namespace DL
open PySem PySem.Spec PyProof.Rows L2
section
variable {K : PySem.W.Frag}
section
variable {w : W} {ls : List Addr} {σ : L2.St} {H : Hp} {Δ : Sl} {G L : List M}
theorem grow_upd {R : Addr → Prop} {a : Addr} {o : HO} (h : R a) : Grow H (upd H a o) R R :=
  ⟨fun b u e n => by
    rw [upd_ne (show b ≠ a from fun z => n (by rw [z]; exact h))]
    exact e, fun _ _ _ r => r⟩
theorem upd_other {a : Addr} {o : HO} {b : Addr} (n : b ≠ a) : ∀ u, H b = some u → upd H a o b = some u := fun u e => by
  rw [upd_ne n]
  exact e
theorem getElem_mem' {α : Type} {l : List α} {i : Nat} {a : α} (h : l[i]? = some a) : a ∈ l := List.mem_of_getElem? h
/-- the own object k is changed -/
theorem Ctx.setL (c : Ctx K w ls σ H Δ G L) {k : Nat} {a : Addr} {o : HO} {m : M} (h : ls[k]? = some a) (hm : MOk K (upd H a o) (Rg w ls) w.gs ls a m) : Ctx K w ls σ (upd H a o) Δ G (L.set k m) := by
  have ha : a ∈ ls := getElem_mem' h
  have g : Grow H (upd H a o) (Rg w ls) (Rg w ls) := grow_upd (.inr ha)
  have ng : ∀ b ∈ w.gs, b ≠ a := fun b hb z => (List.nodup_append.mp c.nd).2.2 b hb a ha z
  refine ⟨c.reg, fun b r => ?_, c.nd, c.fr, fun b u e n => ?_, c.sl.grow g (Pre.refl _) (Pre.refl _), paired_map c.gl fun b m hb q => q.grow g (Pre.refl _) (Pre.refl _) (upd_other (ng b hb)), ?_⟩
  · by_cases z : b = a
    · subst z
      exact ⟨_, upd_same⟩
    · obtain ⟨u, e⟩ := c.rin b r
      exact ⟨u, by rw [upd_ne z]; exact e⟩
  · have z : b ≠ a := fun z => by
      rw [z, c.fr a ha] at e
      cases e
    rw [upd_ne z]
    exact c.h0 b u e n
  · exact paired_set c.lo (List.nodup_append.mp c.nd).2.1 h hm fun b e hb n q => q.grow g (Pre.refl _) (Pre.refl _) (upd_other n)
/-- an object of the caller's store is changed -/
theorem Ctx.setG (c : Ctx K w ls σ H Δ G L) {k : Nat} {a : Addr} {o : HO} {m : M} (h : w.gs[k]? = some a) (hm : MOk K (upd H a o) (Rg w ls) w.gs [] a m) : Ctx K w ls σ (upd H a o) Δ (G.set k m) L := by
  have ha : a ∈ w.gs := getElem_mem' h
  have g : Grow H (upd H a o) (Rg w ls) (Rg w ls) := grow_upd (.inl (c.reg a ha))
  have ng : ∀ b ∈ ls, b ≠ a := fun b hb z => (List.nodup_append.mp c.nd).2.2 a ha b hb z.symm
  refine ⟨c.reg, fun b r => ?_, c.nd, c.fr, fun b u e n => ?_, c.sl.grow g (Pre.refl _) (Pre.refl _), ?_, paired_map c.lo fun b m hb q => q.grow g (Pre.refl _) (Pre.refl _) (upd_other (ng b hb))⟩
  · by_cases z : b = a
    · subst z
      exact ⟨_, upd_same⟩
    · obtain ⟨u, e⟩ := c.rin b r
      exact ⟨u, by rw [upd_ne z]; exact e⟩
  · rw [upd_ne (show b ≠ a from fun z => n (by rw [z]; exact ha))]
    exact c.h0 b u e n
  · exact paired_set c.gl (List.nodup_append.mp c.nd).1 h hm fun b e hb n q => q.grow g (Pre.refl _) (Pre.refl _) (upd_other n)
theorem Ext.setL {a : Addr} {o : HO} (h : a ∈ ls) : Ext w ls H (upd H a o) := fun b u e _ n => by
  rw [upd_ne (show b ≠ a from fun z => n (by rw [z]; exact h))]
  exact e
theorem Ext.setG {a : Addr} {o : HO} (h : a ∈ w.gs) : Ext w ls H (upd H a o) := fun b u e n _ => by
  rw [upd_ne (show b ≠ a from fun z => n (by rw [z]; exact h))]
  exact e
end

/-! ### evaluation at the level of data -/
abbrev Po := S → List M → List M → Prop
abbrev PoB := Bool → List M → List M → Prop
abbrev PoN := M → List M → List M → Prop
abbrev PoA := List S → List M → List M → Prop
def Ret (K : PySem.W.Frag) (w : W) (ls : List Addr) (σ : L2.St) (Δ : Sl) (H : Hp) (Qd : Po) (Q : VK) : Prop :=
  ∀ v s H2 G2 L2, Ctx K w ls σ H2 Δ G2 L2 → Ext w ls H H2 → RS K H2 (Rg w ls) w.gs ls s v → Qd s G2 L2 → Q v H2
def RetB (K : PySem.W.Frag) (w : W) (ls : List Addr) (σ : L2.St) (Δ : Sl) (H : Hp) (Qd : PoB) (Q : Bool → Hp → Prop) : Prop :=
  ∀ b H2 G2 L2, Ctx K w ls σ H2 Δ G2 L2 → Ext w ls H H2 → Qd b G2 L2 → Q b H2
def RetN (K : PySem.W.Frag) (w : W) (ls : List Addr) (σ : L2.St) (Δ : Sl) (H : Hp) (Qd : PoN) (Q : VK) : Prop :=
  ∀ p m H2 G2 L2, H p = none → NewAt K w ls σ H2 Δ G2 L2 p m → Ext w ls H H2 → Qd m G2 L2 → Q (.ref p) H2
def RetA (K : PySem.W.Frag) (w : W) (ls : List Addr) (σ : L2.St) (Δ : Sl) (H : Hp) (Qd : PoA) (Q : List V → Hp → Prop) : Prop :=
  ∀ vs ss H2 G2 L2, Ctx K w ls σ H2 Δ G2 L2 → Ext w ls H H2 → Paired (RS K H2 (Rg w ls) w.gs ls) ss vs → Qd ss G2 L2 → Q vs H2
def EvC (K : PySem.W.Frag) (te : TE) (Δ : Sl) (G L : List M) (Qd : Po) : Prop := ∀ w ls σ H, Ctx K w ls σ H Δ G L → ∀ Q : VK, Ret K w ls σ Δ H Qd Q → te σ H Q
def EvB (K : PySem.W.Frag) (te : TT) (Δ : Sl) (G L : List M) (Qd : PoB) : Prop := ∀ w ls σ H, Ctx K w ls σ H Δ G L → ∀ Q : Bool → Hp → Prop, RetB K w ls σ Δ H Qd Q → te σ H Q
def EvN (K : PySem.W.Frag) (te : TE) (Δ : Sl) (G L : List M) (Qd : PoN) : Prop := ∀ w ls σ H, Ctx K w ls σ H Δ G L → ∀ Q : VK, RetN K w ls σ Δ H Qd Q → te σ H Q
def EvA (K : PySem.W.Frag) (te : TA) (Δ : Sl) (G L : List M) (Qd : PoA) : Prop := ∀ w ls σ H, Ctx K w ls σ H Δ G L → ∀ Q : List V → Hp → Prop, RetA K w ls σ Δ H Qd Q → te σ H Q

section
variable {w : W} {ls : List Addr} {σ : L2.St} {H H1 : Hp} {Δ : Sl} {G L G1 L1 : List M} {Qd : Po} {Q : VK}
theorem Ret.go (r : Ret K w ls σ Δ H Qd Q) {v : V} {s : S} (c : Ctx K w ls σ H1 Δ G1 L1) (e : Ext w ls H H1) (q : RS K H1 (Rg w ls) w.gs ls s v) (k : Qd s G1 L1) : Q v H1 := r v s H1 G1 L1 c e q k
theorem Ret.next {Qd' : Po} (r : Ret K w ls σ Δ H Qd Q) (e : Ext w ls H H1) (k : ∀ s G L, Qd' s G L → Qd s G L) : Ret K w ls σ Δ H1 Qd' Q := fun v s H2 G2 L2 c e2 q h => r v s H2 G2 L2 c (e.trans e2) q (k _ _ _ h)
theorem Ret.ext (r : Ret K w ls σ Δ H Qd Q) (e : Ext w ls H H1) : Ret K w ls σ Δ H1 Qd Q := fun v s H2 G2 L2 c e2 q h => r v s H2 G2 L2 c (e.trans e2) q h
theorem none_back (c : Ctx K w ls σ H1 Δ G1 L1) (e : Ext w ls H H1) {p : Addr} (h : H1 p = none) : H p = none := by
  cases q : H p with
  | none => rfl
  | some o =>
    have n := c.free h
    rw [e p o q (fun z => n (.inl (c.reg p z))) (fun z => n (.inr z))] at h
    cases h
theorem RetN.ext {Qd : PoN} (r : RetN K w ls σ Δ H Qd Q) (c1 : Ctx K w ls σ H1 Δ G1 L1) (e : Ext w ls H H1) : RetN K w ls σ Δ H1 Qd Q := fun v s H2 G2 L2 hp c e2 h => r v s H2 G2 L2 (none_back c1 e hp) c (e.trans e2) h
/-- a value carried over -/
theorem RS.on {s : S} {v : V} (c : Ctx K w ls σ H Δ G L) (e : Ext w ls H H1) (r : RS K H (Rg w ls) w.gs ls s v) : RS K H1 (Rg w ls) w.gs ls s v := r.grow (e.grow c.reg) (Pre.refl _) (Pre.refl _)
theorem RSs.on {s : List S} {v : List V} (c : Ctx K w ls σ H Δ G L) (e : Ext w ls H H1) (r : Paired (RS K H (Rg w ls) w.gs ls) s v) : Paired (RS K H1 (Rg w ls) w.gs ls) s v := paired_map r fun _ _ _ q => RS.on c e q
end

section
variable {Δ : Sl} {G L : List M} {Qd Qd' : Po} {te ta tb tc : TE} {tt tu : TT}
theorem EvC.imp (h : EvC K te Δ G L Qd) (k : ∀ s G L, Qd s G L → Qd' s G L) : EvC K te Δ G L Qd' := fun w ls σ H c Q r => h w ls σ H c Q (r.next Ext.refl k)
theorem evc_var {i : Nat} {s : S} (h : Δ[i]? = some (some s)) (k : Qd s G L) : EvC K (tVar i) Δ G L Qd := fun w ls σ H c Q r => by
  obtain ⟨v, e, q⟩ := c.sl.2 i s h
  exact ⟨v, e, r.go c Ext.refl q k⟩
theorem evc_int {i : Int} (k : Qd (.d (.int i)) G L) : EvC K (tC (.int i)) Δ G L Qd := fun w ls σ H c Q r => r.go c Ext.refl (s := .d (.int i)) rfl k
theorem evc_str {i : Str} (k : Qd (.d (.str i)) G L) : EvC K (tC (.str i)) Δ G L Qd := fun w ls σ H c Q r => r.go c Ext.refl (s := .d (.str i)) rfl k
theorem evc_bl {i : Bool} (k : Qd (.d (.bl i)) G L) : EvC K (tC (.bl i)) Δ G L Qd := fun w ls σ H c Q r => r.go c Ext.refl (s := .d (.bl i)) rfl k
theorem evc_non (k : Qd (.d .non) G L) : EvC K (tC .non) Δ G L Qd := fun w ls σ H c Q r => r.go c Ext.refl (s := .d .non) rfl k
theorem evc_ty {n : String} (k : Qd (.d (.ty n)) G L) : EvC K (tC (.ty n)) Δ G L Qd := fun w ls σ H c Q r => r.go c Ext.refl (s := .d (.ty n)) rfl k
theorem evc_ref {a : Addr} (k : Qd (.d (.ref a)) G L) : EvC K (tC (.ref a)) Δ G L Qd := fun w ls σ H c Q r => r.go c Ext.refl (s := .d (.ref a)) rfl k
/-- a new object, as data -/
theorem evn_c (h : EvN K te Δ G L fun m G1 L1 => ∃ x, m.dat = some x ∧ Qd (.d x) G1 L1) : EvC K te Δ G L Qd := fun w ls σ H c Q r => h w ls σ H c Q fun p m H2 G2 L2 _ n e ⟨x, hx, k⟩ => r.go n.c e (s := .d x) (n.dat x hx) k

/-! operations on values -/
def OpC (K : PySem.W.Frag) (r : R2) (x y : S) (Δ : Sl) (G L : List M) (Qd : Po) : Prop :=
  ∀ w ls σ H vx vy, Ctx K w ls σ H Δ G L → RS K H (Rg w ls) w.gs ls x vx → RS K H (Rg w ls) w.gs ls y vy → ∀ Q, Ret K w ls σ Δ H Qd Q → r vx vy H Q
def OpN (K : PySem.W.Frag) (r : R2) (x y : S) (Δ : Sl) (G L : List M) (Qd : PoN) : Prop :=
  ∀ w ls σ H vx vy, Ctx K w ls σ H Δ G L → RS K H (Rg w ls) w.gs ls x vx → RS K H (Rg w ls) w.gs ls y vy → ∀ Q, RetN K w ls σ Δ H Qd Q → r vx vy H Q
theorem opn_c {r : R2} {x y : S} (h : OpN K r x y Δ G L fun m G1 L1 => ∃ x, m.dat = some x ∧ Qd (.d x) G1 L1) : OpC K r x y Δ G L Qd :=
  fun w ls σ H vx vy c rx ry Q q => h w ls σ H vx vy c rx ry Q fun p m H2 G2 L2 _ n e ⟨x, hx, k⟩ => q.go n.c e (s := .d x) (n.dat x hx) k
theorem evc_op {r : R2} (h : EvC K ta Δ G L fun x G1 L1 => EvC K tb Δ G1 L1 fun y G2 L2 => OpC K r x y Δ G2 L2 Qd) : EvC K (tOp r ta tb) Δ G L Qd :=
  fun w ls σ H c Q ret => h w ls σ H c _ fun v s H2 G2 L2 c2 e2 r2 h2 => h2 w ls σ H2 c2 _ fun v3 s3 H3 G3 L3 c3 e3 r3 h3 => h3 w ls σ H3 v v3 c3 (r2.on c2 e3) r3 Q (ret.ext (e2.trans e3))
theorem evn_op {r : R2} {Qn : PoN} (h : EvC K ta Δ G L fun x G1 L1 => EvC K tb Δ G1 L1 fun y G2 L2 => OpN K r x y Δ G2 L2 Qn) : EvN K (tOp r ta tb) Δ G L Qn :=
  fun w ls σ H c Q ret => h w ls σ H c _ fun v s H2 G2 L2 c2 e2 r2 h2 => h2 w ls σ H2 c2 _ fun v3 s3 H3 G3 L3 c3 e3 r3 h3 => h3 w ls σ H3 v v3 c3 (r2.on c2 e3) r3 Q (ret.ext c3 (e2.trans e3))
theorem opc_orl {r r' : R2} {x y : S} (h : OpC K r x y Δ G L Qd) : OpC K (fun x y H Q => r x y H Q ∨ r' x y H Q) x y Δ G L Qd := fun w ls σ H vx vy c rx ry Q q => .inl (h w ls σ H vx vy c rx ry Q q)
theorem opc_orr {r r' : R2} {x y : S} (h : OpC K r' x y Δ G L Qd) : OpC K (fun x y H Q => r x y H Q ∨ r' x y H Q) x y Δ G L Qd := fun w ls σ H vx vy c rx ry Q q => .inr (h w ls σ H vx vy c rx ry Q q)
theorem opn_orl {Qd : PoN} {r r' : R2} {x y : S} (h : OpN K r x y Δ G L Qd) : OpN K (fun x y H Q => r x y H Q ∨ r' x y H Q) x y Δ G L Qd := fun w ls σ H vx vy c rx ry Q q => .inl (h w ls σ H vx vy c rx ry Q q)
theorem opn_orr {Qd : PoN} {r r' : R2} {x y : S} (h : OpN K r' x y Δ G L Qd) : OpN K (fun x y H Q => r x y H Q ∨ r' x y H Q) x y Δ G L Qd := fun w ls σ H vx vy c rx ry Q q => .inr (h w ls σ H vx vy c rx ry Q q)
/-- ints -/
theorem opc_I0i {g : Int → Int → Int} {i j : Int} (k : Qd (.d (.int (g i j))) G L) : OpC K (rI0 fun i j => .int (g i j)) (.d (.int i)) (.d (.int j)) Δ G L Qd := fun w ls σ H vx vy c rx ry Q q =>
  ⟨i, j, rx, ry, q.go c Ext.refl (s := .d (.int (g i j))) rfl k⟩
theorem opc_I0b {g : Int → Int → Bool} {i j : Int} (k : Qd (.d (.bl (g i j))) G L) : OpC K (rI0 fun i j => .bl (g i j)) (.d (.int i)) (.d (.int j)) Δ G L Qd := fun w ls σ H vx vy c rx ry Q q =>
  ⟨i, j, rx, ry, q.go c Ext.refl (s := .d (.bl (g i j))) rfl k⟩
theorem opc_Ii {C : Int → Int → Prop} {g : Int → Int → Int} {i j : Int} (hc : C i j) (k : Qd (.d (.int (g i j))) G L) : OpC K (rI C fun i j => .int (g i j)) (.d (.int i)) (.d (.int j)) Δ G L Qd := fun w ls σ H vx vy c rx ry Q q =>
  ⟨i, j, rx, ry, hc, q.go c Ext.refl (s := .d (.int (g i j))) rfl k⟩

/-! universal operators: which one is asked is told by the values -/
def rAddSt : R2 := fun x y H Q => ∃ i j, x = .str i ∧ y = .str j ∧ i.length + j.length ≤ sizeLine ∧ Q (.str (i ++ j)) H
def uAdd (K : PySem.W.Frag) : R2 := fun x y H Q => rI0 (fun i j => .int (i + j)) x y H Q ∨ rAddSt x y H Q ∨ rCat x y H Q ∨ rCatA K x y H Q
theorem uo_add {X : Cx} : OpR X (binaryOp .Add) (uAdd X.K) := op_add.or (OpR.or (r := rAddSt) op_add_str (op_cat.or op_catA))
theorem u_add_i {i j : Int} (k : Qd (.d (.int (i + j))) G L) : OpC K (uAdd K) (.d (.int i)) (.d (.int j)) Δ G L Qd := opc_orl (opc_I0i (g := fun i j => i + j) k)
theorem u_add_s {i j : Str} (hl : i.length + j.length ≤ sizeLine) (k : Qd (.d (.str (i ++ j))) G L) : OpC K (uAdd K) (.d (.str i)) (.d (.str j)) Δ G L Qd := fun w ls σ H vx vy c rx ry Q q =>
  .inr (.inl ⟨i, j, rx, ry, hl, q.go c Ext.refl (s := .d (.str (i ++ j))) rfl k⟩)
/-- the data of a list: as data, or in a store -/
def lsG (G L : List M) : S → Option (List D)
  | .d (.lst ds) => some ds
  | .l k => match L[k]? with
    | some (.pl ds) => some ds
    | _ => none
  | .g k => match G[k]? with
    | some (.pl ds) => some ds
    | _ => none
  | _ => none
theorem lsG_get {w : W} {ls : List Addr} {σ : L2.St} {H : Hp} {v : V} {s : S} {ds : List D} (c : Ctx K w ls σ H Δ G L) (r : RS K H (Rg w ls) w.gs ls s v) (h : lsG G L s = some ds) : ∃ a vs, v = .ref a ∧ H a = some (.lst vs) ∧ RepL K H (Rg w ls) ds vs := by
  unfold lsG at h
  split at h
  · cases h
    obtain ⟨a, xs, rfl, ⟨h1, _⟩, q⟩ := r
    exact ⟨a, xs, rfl, h1, q⟩
  · rename_i k
    split at h
    · rename_i ds' hk
      cases h
      obtain ⟨a, ha, rfl⟩ := r
      obtain ⟨b, hb, vs, h1, q⟩ := paired_get c.lo hk
      rw [ha] at hb
      cases hb
      exact ⟨a, vs, rfl, h1, q⟩
    · cases h
  · rename_i k
    split at h
    · rename_i ds' hk
      cases h
      obtain ⟨a, ha, rfl⟩ := r
      obtain ⟨b, hb, vs, h1, q⟩ := paired_get c.gl hk
      rw [ha] at hb
      cases hb
      exact ⟨a, vs, rfl, h1, q⟩
    · cases h
  · cases h
theorem u_add_l {Qn : PoN} {x y : S} {xs ys : List D} (hx : lsG G L x = some xs) (hy : lsG G L y = some ys) (hl : xs.length + ys.length ≤ sizeLine) (k : Qn (.pl (xs ++ ys)) G L) : OpN K (uAdd K) x y Δ G L Qn := fun w ls σ H vx vy c rx ry Q q => by
  obtain ⟨a, vs, rfl, h1, q1⟩ := lsG_get c rx hx
  obtain ⟨b, us, rfl, h2, q2⟩ := lsG_get c ry hy
  refine .inr (.inr (.inl ⟨a, b, vs, us, rfl, rfl, h1, h2, by rw [q1.length, q2.length]; exact hl, fun p hp => ?_⟩))
  exact q p _ _ _ _ hp (newAt_pl c hp (q1.app q2)) (Ext.new hp) k
theorem u_add_t {xs ys : List D} (hl : xs.length + ys.length ≤ sizeLine) (k : Qd (.d (.tup (xs ++ ys))) G L) : OpC K (uAdd K) (.d (.tup xs)) (.d (.tup ys)) Δ G L Qd := fun w ls σ H vx vy c rx ry Q q => by
  obtain ⟨a, vs, rfl, h1, q1⟩ := rx
  obtain ⟨b, us, rfl, h2, q2⟩ := ry
  refine .inr (.inr (.inr ⟨a, b, vs, us, rfl, rfl, h1.sq, h2.sq, by rw [q1.length, q2.length]; exact hl, fun e => ?_, fun _ e => ?_, fun _ _ p hp => ?_⟩))
  · subst e
    have z : xs = [] := List.eq_nil_of_length_eq_zero (by rw [← q1.length]; rfl)
    subst z
    exact q.go c Ext.refl (s := .d (.tup ys)) ⟨b, us, rfl, h2, q2⟩ k
  · subst e
    have z : ys = [] := List.eq_nil_of_length_eq_zero (by rw [← q2.length]; rfl)
    subst z
    rw [List.append_nil] at k
    exact q.go c Ext.refl (s := .d (.tup xs)) ⟨a, vs, rfl, h1, q1⟩ k
  · exact q.go (c.new hp) (Ext.new hp) (s := .d (.tup (xs ++ ys))) (rep_tup c hp (q1.app q2)) k
def uMul (K : PySem.W.Frag) : R2 := fun x y H Q => rI CMul (fun i j => .int (i * j)) x y H Q ∨ rRep x y H Q
theorem uo_mul {X : Cx} : OpR X (binaryOp .Mult) (uMul X.K) := op_mul.or op_rep
theorem u_mul_i {i j : Int} (hc : CMul i j) (k : Qd (.d (.int (i * j))) G L) : OpC K (uMul K) (.d (.int i)) (.d (.int j)) Δ G L Qd := opc_orl (opc_Ii (g := fun i j => i * j) hc k)
theorem repl_flat {H : Hp} {R : Addr → Prop} {ds : List D} {vs : List V} (r : RepL K H R ds vs) : ∀ n, RepL K H R (List.replicate n ds).flatten (List.replicate n vs).flatten
  | 0 => rfl
  | n + 1 => by
    rw [List.replicate_succ, List.replicate_succ, List.flatten_cons, List.flatten_cons]
    exact r.app (repl_flat r n)
theorem u_mul_l {Qn : PoN} {x : S} {j : Int} {xs : List D} (hx : lsG G L x = some xs) (h1 : -(2 ^ 63) ≤ j) (h2 : j < 2 ^ 63) (hl : xs.length * j.toNat ≤ sizeLine) (k : Qn (.pl (List.replicate j.toNat xs).flatten) G L) : OpN K (uMul K) x (.d (.int j)) Δ G L Qn := fun w ls σ H vx vy c rx ry Q q => by
  obtain ⟨a, vs, rfl, h3, q1⟩ := lsG_get c rx hx
  refine .inr ⟨a, j, vs, rfl, ry, h3, h1, h2, by rw [q1.length]; exact hl, fun p hp => ?_⟩
  exact q p _ _ _ _ hp (newAt_pl c hp (repl_flat q1 _)) (Ext.new hp) k

/-! tests -/
theorem evb_test (h : EvC K te Δ G L fun s G1 L1 => ∃ b, s = .d (.bl b) ∧ Qb b G1 L1) : EvB K (tTest te) Δ G L Qb := fun w ls σ H c Q r => h w ls σ H c _ fun v s H2 G2 L2 c2 e2 r2 ⟨b, e, k⟩ => by
  subst e
  exact ⟨b, r2, r b H2 G2 L2 c2 e2 k⟩
theorem evb_B (h : EvC K te Δ G L fun s G1 L1 => ∃ b, s = .d (.bl b) ∧ Qb b G1 L1) : EvB K (tB te) Δ G L Qb := fun w ls σ H c Q r => h w ls σ H c _ fun v s H2 G2 L2 c2 e2 r2 ⟨b, e, k⟩ => by
  subst e
  exact ⟨b, r2, r b H2 G2 L2 c2 e2 k⟩
theorem evb_and {Qb : PoB} (h : EvB K tt Δ G L fun b G1 L1 => if b = true then EvB K tu Δ G1 L1 Qb else Qb false G1 L1) : EvB K (tAnd tt tu) Δ G L Qb := fun w ls σ H c Q r => h w ls σ H c _ fun b H2 G2 L2 c2 e2 k => by
  cases b with
  | true =>
    rw [if_pos rfl] at k ⊢
    exact k w ls σ H2 c2 _ fun b H3 G3 L3 c3 e3 k3 => r b H3 G3 L3 c3 (e2.trans e3) k3
  | false =>
    rw [if_neg Bool.false_ne_true] at k ⊢
    exact r _ H2 G2 L2 c2 e2 k
theorem evb_or {Qb : PoB} (h : EvB K tt Δ G L fun b G1 L1 => if b = true then Qb true G1 L1 else EvB K tu Δ G1 L1 Qb) : EvB K (tOr tt tu) Δ G L Qb := fun w ls σ H c Q r => h w ls σ H c _ fun b H2 G2 L2 c2 e2 k => by
  cases b with
  | true =>
    rw [if_pos rfl] at k ⊢
    exact r _ H2 G2 L2 c2 e2 k
  | false =>
    rw [if_neg Bool.false_ne_true] at k ⊢
    exact k w ls σ H2 c2 _ fun b H3 G3 L3 c3 e3 k3 => r b H3 G3 L3 c3 (e2.trans e3) k3
theorem evb_not {Qb : PoB} (h : EvB K tt Δ G L fun b G1 L1 => Qb (!b) G1 L1) : EvB K (tNot tt) Δ G L Qb := fun w ls σ H c Q r => h w ls σ H c _ fun b H2 G2 L2 c2 e2 k => r _ H2 G2 L2 c2 e2 k
theorem evb_yes {Qb : PoB} (k : Qb true G L) : EvB K tYes Δ G L Qb := fun w ls σ H c Q r => r _ H G L c Ext.refl k
theorem evc_if (h : EvB K tt Δ G L fun b G1 L1 => if b = true then EvC K ta Δ G1 L1 Qd else EvC K tb Δ G1 L1 Qd) : EvC K (tIf tt ta tb) Δ G L Qd := fun w ls σ H c Q r => h w ls σ H c _ fun b H2 G2 L2 c2 e2 k => by
  cases b with
  | true =>
    rw [if_pos rfl] at k ⊢
    exact k w ls σ H2 c2 _ (r.ext e2)
  | false =>
    rw [if_neg Bool.false_ne_true] at k ⊢
    exact k w ls σ H2 c2 _ (r.ext e2)
theorem evc_andV (h : EvC K ta Δ G L fun s G1 L1 => ∃ b, s = .d (.bl b) ∧ if b = true then EvC K tb Δ G1 L1 Qd else Qd (.d (.bl false)) G1 L1) : EvC K (tAndV ta tb) Δ G L Qd := fun w ls σ H c Q r => h w ls σ H c _ fun v s H2 G2 L2 c2 e2 r2 ⟨b, e, k⟩ => by
  subst e
  refine ⟨b, r2, ?_⟩
  cases b with
  | true =>
    rw [if_pos rfl] at k ⊢
    exact k w ls σ H2 c2 _ (r.ext e2)
  | false =>
    rw [if_neg Bool.false_ne_true] at k ⊢
    exact r.go c2 e2 (s := .d (.bl false)) rfl k
theorem evc_orV (h : EvC K ta Δ G L fun s G1 L1 => ∃ b, s = .d (.bl b) ∧ if b = true then Qd (.d (.bl true)) G1 L1 else EvC K tb Δ G1 L1 Qd) : EvC K (tOrV ta tb) Δ G L Qd := fun w ls σ H c Q r => h w ls σ H c _ fun v s H2 G2 L2 c2 e2 r2 ⟨b, e, k⟩ => by
  subst e
  refine ⟨b, r2, ?_⟩
  cases b with
  | true =>
    rw [if_pos rfl] at k ⊢
    exact r.go c2 e2 (s := .d (.bl true)) rfl k
  | false =>
    rw [if_neg Bool.false_ne_true] at k ⊢
    exact k w ls σ H2 c2 _ (r.ext e2)
theorem evc_notV (h : EvC K ta Δ G L fun s G1 L1 => ∃ b, s = .d (.bl b) ∧ Qd (.d (.bl (!b))) G1 L1) : EvC K (tNotV ta) Δ G L Qd := fun w ls σ H c Q r => h w ls σ H c _ fun v s H2 G2 L2 c2 e2 r2 ⟨b, e, k⟩ => by
  subst e
  exact ⟨b, r2, r.go c2 e2 (s := .d (.bl (!b))) rfl k⟩
theorem evc_chain {r r' : R2} (h : EvC K ta Δ G L fun x G1 L1 => EvC K tb Δ G1 L1 fun y G2 L2 => OpC K r x y Δ G2 L2 fun z G3 L3 => ∃ b, z = .d (.bl b) ∧
    if b = true then EvC K tc Δ G3 L3 fun u G4 L4 => OpC K r' y u Δ G4 L4 Qd else Qd (.d (.bl false)) G3 L3) : EvC K (tChain r r' ta tb tc) Δ G L Qd :=
  fun w ls σ H c Q ret => h w ls σ H c _ fun v s H2 G2 L2 c2 e2 r2 h2 => h2 w ls σ H2 c2 _ fun v3 s3 H3 G3 L3 c3 e3 r3 h3 => h3 w ls σ H3 v v3 c3 (r2.on c2 e3) r3 _ fun v4 s4 H4 G4 L4 c4 e4 r4 ⟨b, e, k⟩ => by
    subst e
    refine ⟨b, r4, ?_⟩
    cases b with
    | true =>
      rw [if_pos rfl] at k ⊢
      exact k w ls σ H4 c4 _ fun v5 s5 H5 G5 L5 c5 e5 r5 h5 => h5 w ls σ H5 v3 v5 c5 ((r3.on c3 e4).on c4 e5) r5 Q (ret.ext (e2.trans (e3.trans (e4.trans e5))))
    | false =>
      rw [if_neg Bool.false_ne_true] at k ⊢
      exact ret.go c4 (e2.trans (e3.trans e4)) (s := .d (.bl false)) rfl k

/-! arguments, displays -/
theorem eva_nil {Qa : PoA} (k : Qa [] G L) : EvA K tNil Δ G L Qa := fun w ls σ H c Q r => r [] [] H G L c Ext.refl .nil k
theorem eva_cons {Qa : PoA} {ts : TA} (h : EvC K te Δ G L fun x G1 L1 => EvA K ts Δ G1 L1 fun xs G2 L2 => Qa (x :: xs) G2 L2) : EvA K (tCons te ts) Δ G L Qa :=
  fun w ls σ H c Q r => h w ls σ H c _ fun v s H2 G2 L2 c2 e2 r2 h2 => h2 w ls σ H2 c2 _ fun vs ss H3 G3 L3 c3 e3 r3 h3 => r (v :: vs) (s :: ss) H3 G3 L3 c3 (e2.trans e3) (.cons (r2.on c2 e3) r3) h3
/-- all are data -/
def dats : List S → Option (List D)
  | [] => some []
  | .d x :: r => match dats r with
    | some xs => some (x :: xs)
    | none => none
  | _ :: _ => none
theorem dats_rep {H : Hp} {R : Addr → Prop} {gs ls : List Addr} : ∀ {ss : List S} {ds : List D} {vs : List V}, dats ss = some ds → Paired (RS K H R gs ls) ss vs → RepL K H R ds vs
  | [], _, _, e, .nil => by
    cases e
    rfl
  | .d x :: r, ds, _, e, .cons h t => by
    unfold dats at e
    split at e
    · rename_i xs hx
      cases e
      exact ⟨_, _, rfl, h, dats_rep hx t⟩
    · cases e
theorem paired_len' {α β : Type} {F : α → β → Prop} {as : List α} {bs : List β} (h : Paired F as bs) : bs.length = as.length := (paired_len h).symm
theorem evc_tup {ts : TA} (h : EvA K ts Δ G L fun ss G1 L1 => ∃ ds, dats ss = some ds ∧ ds.length ≤ sizeLine ∧ Qd (.d (.tup ds)) G1 L1) : EvC K (tTup ts) Δ G L Qd := fun w ls σ H c Q r => h w ls σ H c _ fun vs ss H2 G2 L2 c2 e2 r2 ⟨ds, hd, hl, k⟩ =>
  have q := dats_rep hd r2
  ⟨by rw [q.length]; exact hl, fun p hp => r.go (c2.new hp) (e2.trans (Ext.new hp)) (s := .d (.tup ds)) (rep_tup c2 hp q) k⟩
theorem evn_lst {ts : TA} {Qn : PoN} (h : EvA K ts Δ G L fun ss G1 L1 => ∃ ds, dats ss = some ds ∧ ds.length ≤ sizeLine ∧ Qn (.pl ds) G1 L1) : EvN K (tLst ts) Δ G L Qn := fun w ls σ H c Q r => h w ls σ H c _ fun vs ss H2 G2 L2 c2 e2 r2 ⟨ds, hd, hl, k⟩ =>
  have q := dats_rep hd r2
  ⟨by rw [q.length]; exact hl, fun p hp => r p _ _ _ _ (none_back c2 e2 hp) (newAt_pl c2 hp q) (e2.trans (Ext.new hp)) k⟩
theorem evn_lstH {ts : TA} {Qn : PoN} (h : EvA K ts Δ G L fun ss G1 L1 => ss.length ≤ sizeLine ∧ Qn (.hl ss) G1 L1) : EvN K (tLst ts) Δ G L Qn := fun w ls σ H c Q r => h w ls σ H c _ fun vs ss H2 G2 L2 c2 e2 r2 ⟨hl, k⟩ =>
  ⟨by rw [paired_len' r2]; exact hl, fun p hp => r p _ _ _ _ (none_back c2 e2 hp) (newAt_hl c2 hp r2) (e2.trans (Ext.new hp)) k⟩

/-! subscripts -/
theorem u_ix_l {x : S} {xs : List D} {i : Int} {d : D} (hx : lsG G L x = some xs) (hi : atI xs i = some d) (k : Qd (.d d) G L) : OpC K (rIx K) x (.d (.int i)) Δ G L Qd := fun w ls σ H vx vy c rx ry Q q => by
  obtain ⟨a, vs, rfl, h1, q1⟩ := lsG_get c rx hx
  unfold atI at hi
  cases e : ixN xs.length i with
  | none =>
    rw [e] at hi
    cases hi
  | some j =>
    rw [e] at hi
    obtain ⟨v, hv, r⟩ := q1.get (show xs[j]? = some d from hi)
    refine .inl ⟨a, vs, i, v, rfl, ry, .inl (.inl h1), ?_, q.go c Ext.refl (s := .d d) r k⟩
    unfold atI
    rw [q1.length, e]
    exact hv
theorem u_ix_t {xs : List D} {i : Int} {d : D} (hi : atI xs i = some d) (k : Qd (.d d) G L) : OpC K (rIx K) (.d (.tup xs)) (.d (.int i)) Δ G L Qd := fun w ls σ H vx vy c rx ry Q q => by
  obtain ⟨a, vs, rfl, h1, q1⟩ := rx
  unfold atI at hi
  cases e : ixN xs.length i with
  | none =>
    rw [e] at hi
    cases hi
  | some j =>
    rw [e] at hi
    obtain ⟨v, hv, r⟩ := q1.get (show xs[j]? = some d from hi)
    refine .inr (.inl ⟨a, vs, i, v, rfl, ry, h1.sq, ?_, q.go c Ext.refl (s := .d d) r k⟩)
    unfold atI
    rw [q1.length, e]
    exact hv
theorem u_ix_s {z : Str} {i : Int} {ch : Nat} (hl : z.length ≤ sizeLine) (hi : atI z.cps.toList i = some ch) (k : Qd (.d (.str ⟨#[ch]⟩)) G L) : OpC K (rIx K) (.d (.str z)) (.d (.int i)) Δ G L Qd := fun w ls σ H vx vy c rx ry Q q =>
  .inr (.inr ⟨z, i, ch, rx, ry, hl, hi, q.go c Ext.refl (s := .d (.str ⟨#[ch]⟩)) rfl k⟩)
theorem u_ix_scr {ns : List Int} {i z : Int} (hi : atI ns i = some z) (k : Qd (.d (.int z)) G L) : OpC K (rIx K) (.d (.scr ns)) (.d (.int i)) Δ G L Qd := fun w ls σ H vx vy c rx ry Q q => by
  obtain ⟨a, rfl, h1⟩ := rx
  refine .inl ⟨a, _, i, .int z, rfl, ry, h1.sq, ?_, q.go c Ext.refl (s := .d (.int z)) rfl k⟩
  unfold atI at hi ⊢
  rw [List.length_map]
  cases e : ixN ns.length i with
  | none =>
    rw [e] at hi
    cases hi
  | some j =>
    rw [e] at hi
    show (ns.map V.int)[j]? = _
    rw [List.getElem?_map, show ns[j]? = some z from hi]
    rfl
end
end
end DL

namespace DL
open PySem PySem.Spec PyProof.Rows L2
section
variable {K : PySem.W.Frag}
structure EndsD where
  nx : Sl → List M → List M → Prop
  rt : S → List M → List M → Prop
  bk : Sl → List M → List M → Prop := fun _ _ _ => False
  ct : Sl → List M → List M → Prop := fun _ _ _ => False
structure SEnds (K : PySem.W.Frag) (w : W) (ls : List Addr) (H : Hp) (E : EndsD) (D : Ends) : Prop where
  nx : ∀ ls' σ H' Δ G L, Ctx K w ls' σ H' Δ G L → Grow H H' (Rg w ls) (Rg w ls') → E.nx Δ G L → D.nx σ H'
  rt : ∀ ls' σ H' Δ G L v s, Ctx K w ls' σ H' Δ G L → RS K H' (Rg w ls') w.gs ls' s v → E.rt s G L → D.rt v H'
  bk : ∀ ls' σ H' Δ G L, Ctx K w ls' σ H' Δ G L → Grow H H' (Rg w ls) (Rg w ls') → E.bk Δ G L → D.bk σ H'
  ct : ∀ ls' σ H' Δ G L, Ctx K w ls' σ H' Δ G L → Grow H H' (Rg w ls) (Rg w ls') → E.ct Δ G L → D.ct σ H'
def StC (K : PySem.W.Frag) (ts : TS) (Δ : Sl) (G L : List M) (E : EndsD) : Prop := ∀ w ls σ H, Ctx K w ls σ H Δ G L → ∀ D : Ends, SEnds K w ls H E D → ts D σ H
theorem SEnds.on {w : W} {ls ls1 : List Addr} {H H1 : Hp} {E : EndsD} {D : Ends} (s : SEnds K w ls H E D) (g : Grow H H1 (Rg w ls) (Rg w ls1)) : SEnds K w ls1 H1 E D :=
  ⟨fun ls' σ H' Δ G L c g' h => s.nx ls' σ H' Δ G L c (g.trans g') h, s.rt, fun ls' σ H' Δ G L c g' h => s.bk ls' σ H' Δ G L c (g.trans g') h, fun ls' σ H' Δ G L c g' h => s.ct ls' σ H' Δ G L c (g.trans g') h⟩
section
variable {Δ : Sl} {G L : List M} {E : EndsD} {te : TE} {tt : TT} {t u : TS}
/-- a slot is stored -/
theorem SlOk.set {H : Hp} {R : Addr → Prop} {gs ls : List Addr} {σ : L2.St} (h : SlOk K H R gs ls σ Δ) {i : Nat} {v : V} {s : S} (r : RS K H R gs ls s v) : SlOk K H R gs ls (σ.set i (some v)) (Δ.set i (some s)) := by
  refine ⟨by rw [List.length_set, List.length_set, h.1], fun j z e => ?_⟩
  rw [List.getElem?_set] at e ⊢
  split at e
  · rename_i hij
    subst hij
    rw [if_pos rfl]
    split at e
    · rename_i hl
      cases e
      exact ⟨v, by rw [if_pos (by rw [h.1]; exact hl)], r⟩
    · cases e
  · rename_i hij
    rw [if_neg hij]
    exact h.2 j z e
theorem Ctx.slot {w : W} {ls : List Addr} {σ : L2.St} {H : Hp} (c : Ctx K w ls σ H Δ G L) {i : Nat} {v : V} {s : S} (r : RS K H (Rg w ls) w.gs ls s v) : Ctx K w ls (σ.set i (some v)) H (Δ.set i (some s)) G L :=
  ⟨c.reg, c.rin, c.nd, c.fr, c.h0, c.sl.set r, c.gl, c.lo⟩
theorem st_seq (h : StC K t Δ G L { E with nx := fun Δ1 G1 L1 => StC K u Δ1 G1 L1 E }) : StC K (tSeq t u) Δ G L E := fun w ls σ H c D s =>
  h w ls σ H c _ ⟨fun ls' σ' H' Δ' G' L' c' g' k => k w ls' σ' H' c' D (s.on g'), s.rt, s.bk, s.ct⟩
theorem st_next (k : E.nx Δ G L) : StC K tNext Δ G L E := fun w ls σ H c D s => s.nx ls σ H Δ G L c (Grow.refl _ _) k
theorem st_break (k : E.bk Δ G L) : StC K tBreak Δ G L E := fun w ls σ H c D s => s.bk ls σ H Δ G L c (Grow.refl _ _) k
theorem st_cont (k : E.ct Δ G L) : StC K tCont Δ G L E := fun w ls σ H c D s => s.ct ls σ H Δ G L c (Grow.refl _ _) k
theorem st_asg {i : Nat} (h : EvC K te Δ G L fun s G1 L1 => E.nx (Δ.set i (some s)) G1 L1) : StC K (tAsg te (gName i)) Δ G L E := fun w ls σ H c D s =>
  h w ls σ H c _ fun v x H2 G2 L2 c2 e2 r2 k => s.nx ls _ H2 _ G2 L2 (c2.slot r2) (e2.grow c.reg) k
/-- a new object becomes the def's own -/
theorem st_own {i : Nat} (h : EvN K te Δ G L fun m G1 L1 => E.nx (Δ.set i (some (.l L1.length))) G1 (L1 ++ [m])) : StC K (tAsg te (gName i)) Δ G L E := fun w ls σ H c D s =>
  h w ls σ H c _ fun p m H2 G2 L2 hp n e2 k => by
    have hl : ls.length = L2.length := paired_len n.c.lo
    refine s.nx (ls ++ [p]) _ H2 _ G2 (L2 ++ [m]) (n.own.slot (s := .l L2.length) ⟨p, ?_, rfl⟩) ⟨(e2.grow c.reg).keep, fun a o q r => ?_⟩ k
    · rw [← hl, List.getElem?_append_right (Nat.le_refl _), Nat.sub_self]
      rfl
    · rcases r with r | r
      · exact .inl r
      · rcases List.mem_append.mp r with r | r
        · exact .inr r
        · rw [List.mem_singleton] at r
          subst r
          rw [hp] at q
          cases q
theorem st_if (h : EvB K tt Δ G L fun b G1 L1 => if b = true then StC K t Δ G1 L1 E else StC K u Δ G1 L1 E) : StC K (tIfS tt t u) Δ G L E := fun w ls σ H c D s => h w ls σ H c _ fun b H2 G2 L2 c2 e2 k => by
  cases b with
  | true =>
    rw [if_pos rfl] at k ⊢
    exact k w ls σ H2 c2 D (s.on (e2.grow c.reg))
  | false =>
    rw [if_neg Bool.false_ne_true] at k ⊢
    exact k w ls σ H2 c2 D (s.on (e2.grow c.reg))
theorem st_ret (h : EvC K te Δ G L fun s G1 L1 => E.rt s G1 L1) : StC K (tRet te) Δ G L E := fun w ls σ H c D s => h w ls σ H c _ fun v x H2 G2 L2 c2 e2 r2 k => s.rt ls σ H2 Δ G2 L2 v x c2 r2 k
theorem st_retN (k : E.rt (.d .non) G L) : StC K tRetN Δ G L E := fun w ls σ H c D s => s.rt ls σ H Δ G L .non (.d .non) c rfl k
theorem st_retO (h : EvN K te Δ G L fun m G1 L1 => E.rt (.l L1.length) G1 (L1 ++ [m])) : StC K (tRet te) Δ G L E := fun w ls σ H c D s => h w ls σ H c _ fun p m H2 G2 L2 hp n e2 k => by
  have hl : ls.length = L2.length := paired_len n.c.lo
  refine s.rt (ls ++ [p]) σ H2 Δ G2 (L2 ++ [m]) (.ref p) (.l L2.length) n.own ⟨p, ?_, rfl⟩ k
  rw [← hl, List.getElem?_append_right (Nat.le_refl _), Nat.sub_self]
  rfl
theorem st_drop (h : EvC K te Δ G L fun _ G1 L1 => E.nx Δ G1 L1) : StC K (tDrop te) Δ G L E := fun w ls σ H c D s => h w ls σ H c _ fun v x H2 G2 L2 c2 e2 r2 k => s.nx ls σ H2 Δ G2 L2 c2 (e2.grow c.reg) k

/-! targets: ok says which slots may be stored -/
abbrev PoT := Sl → List M → List M → Prop
def TgC (K : PySem.W.Frag) (g : TG) (ok : Nat → Prop) (s : S) (Δ : Sl) (G L : List M) (Qt : PoT) : Prop :=
  ∀ w ls σ H v, Ctx K w ls σ H Δ G L → RS K H (Rg w ls) w.gs ls s v → ∀ Q : L2.St → Hp → Prop,
    (∀ σ' H' Δ' G' L', Ctx K w ls σ' H' Δ' G' L' → Ext w ls H H' → σ'.length = σ.length → (∀ k, ¬ ok k → σ'[k]? = σ[k]?) → Qt Δ' G' L' → Q σ' H') → g v σ H Q
def TgCs (K : PySem.W.Frag) (g : TGs) (ok : Nat → Prop) (ss : List S) (Δ : Sl) (G L : List M) (Qt : PoT) : Prop :=
  ∀ w ls σ H vs, Ctx K w ls σ H Δ G L → Paired (RS K H (Rg w ls) w.gs ls) ss vs → ∀ Q : L2.St → Hp → Prop,
    (∀ σ' H' Δ' G' L', Ctx K w ls σ' H' Δ' G' L' → Ext w ls H H' → σ'.length = σ.length → (∀ k, ¬ ok k → σ'[k]? = σ[k]?) → Qt Δ' G' L' → Q σ' H') → g vs σ H Q
theorem tg_name {i : Nat} {s : S} {Qt : PoT} {ok : Nat → Prop} (hi : ok i) (k : Qt (Δ.set i (some s)) G L) : TgC K (gName i) ok s Δ G L Qt := fun w ls σ H v c r Q q =>
  q _ H _ G L (c.slot r) Ext.refl (List.length_set ..) (fun k hk => by
    rw [List.getElem?_set_ne (fun z => hk (by rw [← z]; exact hi))]) k
theorem tgs_nil {Qt : PoT} {ok : Nat → Prop} (k : Qt Δ G L) : TgCs K gNil ok [] Δ G L Qt := fun w ls σ H vs c r Q q => by
  cases r
  exact ⟨rfl, q σ H Δ G L c Ext.refl rfl (fun _ _ => rfl) k⟩
theorem tgs_cons {g : TG} {gs : TGs} {ok : Nat → Prop} {s : S} {ss : List S} {Qt : PoT} (h : TgC K g ok s Δ G L fun Δ1 G1 L1 => TgCs K gs ok ss Δ1 G1 L1 Qt) : TgCs K (gCons g gs) ok (s :: ss) Δ G L Qt := fun w ls σ H vs c r Q q => by
  cases r with
  | cons r1 rr =>
    refine ⟨_, _, rfl, h w ls σ H _ c r1 _ fun σ1 H1 Δ1 G1 L1 c1 e1 l1 o1 k1 => ?_⟩
    refine k1 w ls σ1 H1 _ c1 (RSs.on c e1 rr) _ fun σ2 H2 Δ2 G2 L2 c2 e2 l2 o2 k2 => ?_
    exact q σ2 H2 Δ2 G2 L2 c2 (e1.trans e2) (l2.trans l1) (fun k hk => (o2 k hk).trans (o1 k hk)) k2
theorem repL_rs {H : Hp} {R : Addr → Prop} {gs ls : List Addr} : ∀ {ds : List D} {vs : List V}, RepL K H R ds vs → Paired (RS K H R gs ls) (ds.map S.d) vs
  | [], _, h => by
    cases h
    exact .nil
  | d :: ds, _, ⟨y, ys, e, h, r⟩ => by
    subst e
    exact .cons h (repL_rs r)
theorem tg_tup {gs : TGs} {ok : Nat → Prop} {ds : List D} {n : Nat} {Qt : PoT} (hn : ds.length = n) (h : TgCs K gs ok (ds.map S.d) Δ G L Qt) : TgC K (gTup K n gs) ok (.d (.tup ds)) Δ G L Qt := fun w ls σ H v c r Q q => by
  obtain ⟨a, xs, rfl, h1, r1⟩ := r
  exact ⟨a, xs, rfl, h1.sq, by rw [r1.length]; exact hn, h w ls σ H xs c (repL_rs r1) Q q⟩
theorem st_asgT {g : TG} (h : EvC K te Δ G L fun s G1 L1 => TgC K g (fun _ => True) s Δ G1 L1 E.nx) : StC K (tAsg te g) Δ G L E := fun w ls σ H c D s =>
  h w ls σ H c _ fun v x H2 G2 L2 c2 e2 r2 k => k w ls σ H2 v c2 r2 _ fun σ' H' Δ' G' L' c' e' _ _ k' => s.nx ls σ' H' Δ' G' L' c' ((e2.trans e').grow c.reg) k'

/-! what is walked -/
structure ItOk (K : PySem.W.Frag) (w : W) (ls : List Addr) (J : It) (H1 : Hp) (items : List D) : Prop where
  go : ∀ H2 w2 ls2 σ2 Δ2 G2 L2 i d, Grow H1 H2 (Rg w ls) (Rg w2 ls2) → Ctx K w2 ls2 σ2 H2 Δ2 G2 L2 → items[i]? = some d → J.go i H2 ∧ ∀ x H', J.yld i H2 x H' → Ctx K w2 ls2 σ2 H' Δ2 G2 L2 ∧ Ext w2 ls2 H2 H' ∧ Rep K H' (Rg w2 ls2) d x
  stop : ∀ H2 w2 ls2, Grow H1 H2 (Rg w ls) (Rg w2 ls2) → J.stop items.length H2
def EvI (K : PySem.W.Frag) (wi : TI) (Δ : Sl) (G L : List M) (Qi : List D → List M → List M → Prop) : Prop :=
  ∀ w ls σ H, Ctx K w ls σ H Δ G L → ∀ R : It → Hp → Prop, (∀ J H1 items G1 L1, Ctx K w ls σ H1 Δ G1 L1 → Ext w ls H H1 → ItOk K w ls J H1 items → Qi items G1 L1 → R J H1) → wi σ H R
/-- over data -/
theorem evi_list {tl : TE} {Qi : List D → List M → List M → Prop} (h : EvC K tl Δ G L fun s G1 L1 => ∃ ds, s = .d (.lst ds) ∧ Qi ds G1 L1) : EvI K (iList K tl) Δ G L Qi := fun w ls σ H c R q =>
  h w ls σ H c _ fun v s H2 G2 L2 c2 e2 r2 ⟨ds, e, k⟩ => by
    subst e
    obtain ⟨a, vs, rfl, ⟨h1, n1⟩, r1⟩ := r2
    refine ⟨a, rfl, ⟨vs, .inl (.inl h1)⟩, q _ H2 ds G2 L2 c2 e2 ⟨fun H3 w2 ls2 σ2 Δ2 G3 L3 i d g c3 hi => ?_, fun H3 w2 ls2 g => ?_⟩ k⟩
    · obtain ⟨x, hx, rx⟩ := (r1.grow g).get hi
      have h3 := g.keep a _ h1 n1
      refine ⟨⟨vs, x, .inl (.inl h3), hx⟩, fun y H' ⟨hH, hy⟩ => ?_⟩
      subst hH
      have e := hy vs (.inl (.inl h3))
      rw [hx] at e
      cases e
      exact ⟨c3, Ext.refl, rx⟩
    · exact ⟨vs, .inl (.inl (g.keep a _ h1 n1)), Nat.le_of_eq r1.length⟩
theorem evi_tup {tl : TE} {Qi : List D → List M → List M → Prop} (h : EvC K tl Δ G L fun s G1 L1 => ∃ ds, s = .d (.tup ds) ∧ Qi ds G1 L1) : EvI K (iTup K tl) Δ G L Qi := fun w ls σ H c R q =>
  h w ls σ H c _ fun v s H2 G2 L2 c2 e2 r2 ⟨ds, e, k⟩ => by
    subst e
    obtain ⟨a, vs, rfl, h1, r1⟩ := r2
    refine ⟨a, rfl, ⟨vs, h1.sq⟩, q _ H2 ds G2 L2 c2 e2 ⟨fun H3 w2 ls2 σ2 Δ2 G3 L3 i d g c3 hi => ?_, fun H3 w2 ls2 g => ?_⟩ k⟩
    · obtain ⟨x, hx, rx⟩ := (r1.grow g).get hi
      have h3 := (h1.grow g).sq
      refine ⟨⟨vs, x, h3, hx⟩, fun y H' ⟨hH, hy⟩ => ?_⟩
      subst hH
      have e := hy vs h3
      rw [hx] at e
      cases e
      exact ⟨c3, Ext.refl, rx⟩
    · exact ⟨vs, (h1.grow g).sq, Nat.le_of_eq r1.length⟩
def rngD (lo : Int) (n : Nat) : List D := (List.range n).map fun i => .int (lo + (i : Nat))
theorem rngD_get {lo : Int} {n i : Nat} {d : D} (h : (rngD lo n)[i]? = some d) : i < n ∧ d = .int (lo + (i : Nat)) := by
  unfold rngD at h
  rw [List.getElem?_map] at h
  by_cases hi : i < n
  · rw [List.getElem?_range hi] at h
    exact ⟨hi, (Option.some.inj h).symm⟩
  · rw [List.getElem?_eq_none (by rw [List.length_range]; omega)] at h
    cases h
theorem rngD_len {lo : Int} {n : Nat} : (rngD lo n).length = n := by
  unfold rngD
  rw [List.length_map, List.length_range]
theorem itok_range {w : W} {ls : List Addr} {H : Hp} {lo : Int} {n : Nat} : ItOk K w ls (Itr lo n) H (rngD lo n) :=
  ⟨fun H3 w2 ls2 σ2 Δ2 G3 L3 i d g c3 hi => by
    obtain ⟨h1, rfl⟩ := rngD_get hi
    exact ⟨h1, fun x H' ⟨hH, hx⟩ => by
      subst hH
      exact ⟨c3, Ext.refl, hx⟩⟩, fun _ _ _ _ => Nat.le_of_eq rngD_len.symm⟩
theorem evi_rng1 {ta : TA} {Qi : List D → List M → List M → Prop} (h : EvA K ta Δ G L fun ss G1 L1 => ∃ j : Int, ss = [.d (.int j)] ∧ -(2 ^ 62) ≤ j ∧ j < 2 ^ 62 ∧ Qi (rngD 0 j.toNat) G1 L1) : EvI K (iRng1 ta) Δ G L Qi := fun w ls σ H c R q =>
  h w ls σ H c _ fun vs ss H2 G2 L2 c2 e2 r2 ⟨j, e, h1, h2, k⟩ => by
    subst e
    cases r2 with
    | cons r t =>
      cases t
      exact ⟨j, by rw [show _ = V.int j from r], h1, h2, q _ H2 _ G2 L2 c2 e2 itok_range k⟩
theorem evi_rng2 {ta : TA} {Qi : List D → List M → List M → Prop} (h : EvA K ta Δ G L fun ss G1 L1 => ∃ i j : Int, ss = [.d (.int i), .d (.int j)] ∧ (-(2 ^ 62) ≤ i ∧ i < 2 ^ 62 ∧ -(2 ^ 62) ≤ j ∧ j < 2 ^ 62) ∧ Qi (rngD i (j - i).toNat) G1 L1) : EvI K (iRng2 ta) Δ G L Qi := fun w ls σ H c R q =>
  h w ls σ H c _ fun vs ss H2 G2 L2 c2 e2 r2 ⟨i, j, e, h1, k⟩ => by
    subst e
    cases r2 with
    | cons r t =>
      cases t with
      | cons r' t' =>
        cases t'
        exact ⟨i, j, by rw [show _ = V.int i from r, show _ = V.int j from r'], h1, q _ H2 _ G2 L2 c2 e2 itok_range k⟩
theorem st_for {wi : TI} {g : TG} {tb : TS} (h : EvI K wi Δ G L fun items G1 L1 => ∃ P : Nat → Sl → List M → List M → Prop, P 0 Δ G1 L1 ∧
    (∀ i d Δ' G' L', items[i]? = some d → P i Δ' G' L' → TgC K g (fun _ => True) (.d d) Δ' G' L' fun Δ2 G2 L2 => StC K tb Δ2 G2 L2 { E with nx := P (i + 1), ct := P (i + 1), bk := E.nx }) ∧
    ∀ Δ' G' L', P items.length Δ' G' L' → E.nx Δ' G' L') : StC K (tFor wi g tb) Δ G L E := fun w ls σ H c D s =>
  h w ls σ H c _ fun J H1 items G1 L1 c1 e1 it ⟨P, p0, ps, pe⟩ => by
    have g1 : Grow H H1 (Rg w ls) (Rg w ls) := e1.grow c.reg
    refine ⟨fun i m σ' H' => m = items.length - i ∧ i ≤ items.length ∧ ∃ ls' Δ' G' L', Ctx K w ls' σ' H' Δ' G' L' ∧ Grow H1 H' (Rg w ls) (Rg w ls') ∧ P i Δ' G' L',
      ⟨_, rfl, Nat.zero_le _, ls, Δ, G1, L1, c1, Grow.refl _ _, p0⟩, ?_⟩
    rintro i m σ' H' ⟨rfl, hi, ls', Δ', G', L', c', g', p⟩
    by_cases hlt : i < items.length
    · obtain ⟨go, yl⟩ := it.go H' w ls' σ' Δ' G' L' i _ g' c' (List.getElem?_eq_getElem hlt)
      refine .inr ⟨go, fun σ2 H2 => ∃ ls2 Δ2 G2 L2, Ctx K w ls2 σ2 H2 Δ2 G2 L2 ∧ Grow H1 H2 (Rg w ls) (Rg w ls2) ∧ P (i + 1) Δ2 G2 L2, fun σ2 H2 ⟨ls2, Δ2, G2, L2, c2, g2, p2⟩ => ⟨_, by omega, rfl, hlt, ls2, Δ2, G2, L2, c2, g2, p2⟩, fun x H3 hy => ?_⟩
      obtain ⟨c3, e3, r3⟩ := yl x H3 hy
      refine ps i _ Δ' G' L' (List.getElem?_eq_getElem hlt) p w ls' σ' H3 x c3 r3 _ fun σ4 H4 Δ4 G4 L4 c4 e4 _ _ k4 => ?_
      have g4 : Grow H1 H4 (Rg w ls) (Rg w ls') := g'.trans ((e3.trans e4).grow c'.reg)
      exact k4 w ls' σ4 H4 c4 _ ⟨fun ls5 σ5 H5 Δ5 G5 L5 c5 g5 p5 => ⟨ls5, Δ5, G5, L5, c5, g4.trans g5, p5⟩, s.rt, fun ls5 σ5 H5 Δ5 G5 L5 c5 g5 p5 => s.nx ls5 σ5 H5 Δ5 G5 L5 c5 (g1.trans (g4.trans g5)) p5,
        fun ls5 σ5 H5 Δ5 G5 L5 c5 g5 p5 => ⟨ls5, Δ5, G5, L5, c5, g4.trans g5, p5⟩⟩
    · have e : i = items.length := by omega
      subst e
      exact .inl ⟨it.stop H' w ls' g', s.nx ls' σ' H' Δ' G' L' c' (g1.trans g') (pe Δ' G' L' p)⟩
theorem st_while {tb : TS} (P : Nat → Sl → List M → List M → Prop) (m0 : Nat) (p0 : P m0 Δ G L)
    (ps : ∀ m Δ' G' L', P m Δ' G' L' → EvB K tt Δ' G' L' fun b G1 L1 => if b = true then StC K tb Δ' G1 L1 { E with nx := fun Δ2 G2 L2 => ∃ m', m' < m ∧ P m' Δ2 G2 L2, ct := fun Δ2 G2 L2 => ∃ m', m' < m ∧ P m' Δ2 G2 L2, bk := E.nx } else E.nx Δ' G1 L1) : StC K (tWhile tt tb) Δ G L E := fun w ls σ H c D s => by
  refine ⟨fun m σ' H' => ∃ ls' Δ' G' L', Ctx K w ls' σ' H' Δ' G' L' ∧ Grow H H' (Rg w ls) (Rg w ls') ∧ P m Δ' G' L', ⟨m0, ls, Δ, G, L, c, Grow.refl _ _, p0⟩, ?_⟩
  rintro m σ' H' ⟨ls', Δ', G', L', c', g', p⟩
  refine ps m Δ' G' L' p w ls' σ' H' c' _ fun b H2 G2 L2 c2 e2 k => ?_
  have g2 : Grow H H2 (Rg w ls) (Rg w ls') := g'.trans (e2.grow c'.reg)
  cases b with
  | true =>
    rw [if_pos rfl] at k ⊢
    refine ⟨fun σ3 H3 => ∃ m', m' < m ∧ ∃ ls3 Δ3 G3 L3, Ctx K w ls3 σ3 H3 Δ3 G3 L3 ∧ Grow H H3 (Rg w ls) (Rg w ls3) ∧ P m' Δ3 G3 L3, fun σ3 H3 ⟨m', hm, ls3, Δ3, G3, L3, c3, g3, p3⟩ => ⟨m', hm, ls3, Δ3, G3, L3, c3, g3, p3⟩, ?_⟩
    exact k w ls' σ' H2 c2 _ ⟨fun ls5 σ5 H5 Δ5 G5 L5 c5 g5 ⟨m', hm, p5⟩ => ⟨m', hm, ls5, Δ5, G5, L5, c5, g2.trans g5, p5⟩, s.rt, fun ls5 σ5 H5 Δ5 G5 L5 c5 g5 p5 => s.nx ls5 σ5 H5 Δ5 G5 L5 c5 (g2.trans g5) p5,
      fun ls5 σ5 H5 Δ5 G5 L5 c5 g5 ⟨m', hm, p5⟩ => ⟨m', hm, ls5, Δ5, G5, L5, c5, g2.trans g5, p5⟩⟩
  | false =>
    rw [if_neg Bool.false_ne_true] at k ⊢
    exact s.nx ls' σ' H2 Δ' G2 L2 c2 g2 k

/-! comprehensions -/
def W.add (w : W) (p : Addr) : W := ⟨fun a => w.R a ∨ a = p, w.gs, w.H0⟩
theorem rg_add {w : W} {p : Addr} {ls : List Addr} {a : Addr} : Rg (w.add p) ls a ↔ Rg w (ls ++ [p]) a := by
  unfold Rg W.add
  rw [List.mem_append, List.mem_singleton]
  constructor
  · rintro ((h | h) | h)
    · exact .inl h
    · exact .inr (.inr h)
    · exact .inr (.inl h)
  · rintro (h | h | h)
    · exact .inl (.inl h)
    · exact .inr h
    · exact .inl (.inr h)
theorem grow_iff {H : Hp} {R R' : Addr → Prop} (h : ∀ a, R' a → R a) : Grow H H R R' := ⟨fun _ _ e _ => e, fun a _ _ r => h a r⟩
/-- hidden: the object at p is the caller's own -/
theorem Ctx.hide {w : W} {ls : List Addr} {σ : L2.St} {H : Hp} (c : Ctx K w ls σ H Δ G L) {p : Addr} {o : HO} (h : H p = none) : Ctx K (w.add p) ls σ (upd H p o) Δ G L := by
  have g : Grow H (upd H p o) (Rg w ls) (Rg (w.add p) ls) := ((grow_reg h).trans (grow_iff fun a r => rg_add.mp r)).trans (grow_new h)
  have k := keep_new (o := o) h
  refine ⟨fun a r => .inl (c.reg a r), fun a r => ?_, c.nd, c.fr, fun a u e n => k a u (c.h0 a u e n), c.sl.grow g (Pre.refl _) (Pre.refl _),
    paired_map c.gl fun a m _ q => q.grow g (Pre.refl _) (Pre.refl _) (k a), paired_map c.lo fun a m _ q => q.grow g (Pre.refl _) (Pre.refl _) (k a)⟩
  rcases r with r | r
  · obtain ⟨u, e⟩ := c.rin a r
    exact ⟨u, k a u e⟩
  · subst r
    exact ⟨o, upd_same⟩
theorem Ctx.setH {w : W} {ls : List Addr} {σ : L2.St} {H : Hp} {p : Addr} {o u : HO} (c : Ctx K (w.add p) ls σ H Δ G L) (h : H p = some u) (n0 : w.H0 p = none) (np : p ∉ w.gs) (nl : p ∉ ls) : Ctx K (w.add p) ls σ (upd H p o) Δ G L := by
  have g : Grow H (upd H p o) (Rg (w.add p) ls) (Rg (w.add p) ls) := grow_upd (.inl (.inr rfl))
  refine ⟨c.reg, fun a r => ?_, c.nd, c.fr, fun a u e n => ?_, c.sl.grow g (Pre.refl _) (Pre.refl _),
    paired_map c.gl fun a m ha q => q.grow g (Pre.refl _) (Pre.refl _) (upd_other fun z => np (z ▸ ha)), paired_map c.lo fun a m ha q => q.grow g (Pre.refl _) (Pre.refl _) (upd_other fun z => nl (z ▸ ha))⟩
  · by_cases z : a = p
    · subst z
      exact ⟨_, upd_same⟩
    · obtain ⟨u, e⟩ := c.rin a r
      exact ⟨u, by rw [upd_ne z]; exact e⟩
  · have z : a ≠ p := fun z => by
      rw [z] at e
      rw [show w.H0 p = some u from e] at n0
      cases n0
    rw [upd_ne z]
    exact c.h0 a u e n
theorem Ctx.show {w : W} {ls : List Addr} {σ : L2.St} {H : Hp} {p : Addr} {vs : List V} {ds : List D} (c : Ctx K (w.add p) ls σ H Δ G L) (hr : ∀ a ∈ w.gs, w.R a) (h : H p = some (.lst vs)) (r : RepL K H (Rg (w.add p) ls) ds vs) (n0 : w.H0 p = none) (np : p ∉ w.gs) (nl : p ∉ ls) (nR : ¬ w.R p) : NewAt K w ls σ H Δ G L p (.pl ds) := by
  have g1 : Grow H H (Rg (w.add p) ls) (Rg w (ls ++ [p])) := grow_iff fun a r => rg_add.mpr r
  have g2 : Grow H H (Rg (w.add p) ls) (Rg w ls) := grow_iff fun a r => by
    rcases r with r | r
    · exact .inl (.inl r)
    · exact .inr r
  refine ⟨⟨hr, fun a r => c.rin a (.inl r), ?_, ?_, c.h0, c.sl.grow g1 (Pre.refl _) (Pre.app _ _), paired_map c.gl fun a m _ q => q.grow g1 (Pre.refl _) (Pre.nil _) (fun _ z => z),
    paired_app (paired_map c.lo fun a m _ q => q.grow g1 (Pre.refl _) (Pre.app _ _) (fun _ z => z)) (.cons ⟨vs, h, r.grow g1⟩ .nil)⟩,
    ⟨hr, fun a r => c.rin a (.inl r), c.nd, c.fr, c.h0, c.sl.grow g2 (Pre.refl _) (Pre.refl _), paired_map c.gl fun a m _ q => q.grow g2 (Pre.refl _) (Pre.refl _) (fun _ z => z),
    paired_map c.lo fun a m _ q => q.grow g2 (Pre.refl _) (Pre.refl _) (fun _ z => z)⟩, fun x e => ?_⟩
  · show (w.gs ++ (ls ++ [p])).Nodup
    rw [← List.append_assoc]
    refine List.nodup_append.mpr ⟨c.nd, by simp, fun a ha b hb => ?_⟩
    rw [List.mem_singleton] at hb
    subst hb
    rintro rfl
    rcases List.mem_append.mp ha with z | z
    · exact np z
    · exact nl z
  · intro a ha
    rcases List.mem_append.mp ha with z | z
    · exact c.fr a z
    · rw [List.mem_singleton] at z
      subst z
      exact n0
  · cases e
    refine ⟨p, vs, rfl, ⟨h, ?_⟩, r.grow g2⟩
    rintro (z | z)
    · exact nR z
    · exact nl z
def wipeD (Δ : Sl) : List Nat → Sl
  | [] => Δ
  | v :: vs => (wipeD Δ vs).set v none
theorem wipe_get {σ : L2.St} {k : Nat} : ∀ {vs : List Nat}, (wipe σ vs)[k]? = if k ∈ vs ∧ k < σ.length then some none else σ[k]?
  | [] => by simp [wipe]
  | v :: vs => by
    show ((wipe σ vs).set v none)[k]? = _
    rw [List.getElem?_set, wipe_length]
    by_cases hv : v = k
    · subst hv
      by_cases hl : v < σ.length
      · simp [hl]
      · simp [hl]
    · rw [if_neg hv, wipe_get (vs := vs)]
      have : (k ∈ v :: vs) ↔ k ∈ vs := by
        rw [List.mem_cons]
        exact ⟨fun h => h.resolve_left (fun z => hv z.symm), .inr⟩
      simp only [this]
theorem wipe_eq {σ σ' : L2.St} {vs : List Nat} (hl : σ'.length = σ.length) (h : ∀ k, ¬ k ∈ vs → σ'[k]? = (wipe σ vs)[k]?) : wipe σ' vs = wipe σ vs := by
  refine List.ext_getElem? fun k => ?_
  rw [wipe_get (σ := σ'), wipe_get (σ := σ)]
  by_cases hk : k ∈ vs
  · rw [hl]
    by_cases hlt : k < σ.length
    · simp [hk, hlt]
    · simp [hk, hlt]
      omega
  · rw [if_neg (fun z => hk z.1), if_neg (fun z => hk z.1), h k hk, wipe_get, if_neg (fun z => hk z.1)]
theorem SlOk.wipe {H : Hp} {R : Addr → Prop} {gs ls : List Addr} {σ : L2.St} (h : SlOk K H R gs ls σ Δ) : ∀ vs, SlOk K H R gs ls (wipe σ vs) (wipeD Δ vs)
  | [] => h
  | v :: vs => by
    have ih := SlOk.wipe h vs
    refine ⟨by show ((L2.wipe σ vs).set v none).length = ((wipeD Δ vs).set v none).length; rw [List.length_set, List.length_set, ih.1], fun j s e => ?_⟩
    have e : ((wipeD Δ vs).set v none)[j]? = some (some s) := e
    show ∃ x, ((L2.wipe σ vs).set v none)[j]? = some (some x) ∧ _
    rw [List.getElem?_set] at e ⊢
    split at e
    · split at e <;> cases e
    · rename_i hne
      rw [if_neg hne]
      exact ih.2 j s e
theorem Ctx.wipe {w : W} {ls : List Addr} {σ : L2.St} {H : Hp} (c : Ctx K w ls σ H Δ G L) (vs : List Nat) : Ctx K w ls (wipe σ vs) H (wipeD Δ vs) G L := ⟨c.reg, c.rin, c.nd, c.fr, c.h0, c.sl.wipe vs, c.gl, c.lo⟩
theorem evn_lc {wi : TI} {g : TG} {vs : List Nat} {Qn : PoN} (h : EvI K wi Δ G L fun items G1 L1 => ∃ P : Nat → List D → List M → List M → Prop, P 0 [] G1 L1 ∧ items.length < sizeLine ∧
    (∀ i d acc G' L', items[i]? = some d → acc.length ≤ i → P i acc G' L' → TgC K g (· ∈ vs) (.d d) (wipeD Δ vs) G' L' fun Δ2 G2 L2 =>
      EvB K tt Δ2 G2 L2 fun b G3 L3 => if b = true then EvC K te Δ2 G3 L3 fun s G4 L4 => ∃ x, s = .d x ∧ P (i + 1) (acc ++ [x]) G4 L4 else P (i + 1) acc G3 L3) ∧
    ∀ acc G' L', P items.length acc G' L' → Qn (.pl acc) G' L') : EvN K (tLc wi g tt te vs) Δ G L Qn := fun w ls σ H c Q r =>
  h w ls σ H c _ fun J H1 items G1 L1 c1 e1 it ⟨P, p0, hz, ps, pe⟩ => fun D hD => by
    have nR := c1.free hD
    have n0 := c1.free0 hD
    have ng : D ∉ w.gs := fun z => nR (.inl (c1.reg D z))
    have nl : D ∉ ls := fun z => nR (.inr z)
    have cH := c1.hide (o := .lst []) hD
    have gH : Grow H1 (upd H1 D (.lst [])) (Rg w ls) (Rg (w.add D) ls) := ((grow_reg hD).trans (grow_iff fun a r => rg_add.mp r)).trans (grow_new hD)
    refine ⟨fun i m H' => m = items.length - i ∧ i ≤ items.length ∧ ∃ acc vs' G' L', Ctx K (w.add D) ls σ H' Δ G' L' ∧ Grow H1 H' (Rg w ls) (Rg (w.add D) ls) ∧ Ext w ls H1 H' ∧ H' D = some (.lst vs') ∧ RepL K H' (Rg (w.add D) ls) acc vs' ∧ acc.length ≤ i ∧ P i acc G' L',
      ⟨_, rfl, Nat.zero_le _, [], [], G1, L1, cH, gH, Ext.new hD, upd_same, rfl, Nat.le_refl _, p0⟩, ?_⟩
    rintro i m H' ⟨rfl, hi, acc, vs', G', L', c', g', e', hD', r', hl, p⟩
    by_cases hlt : i < items.length
    · obtain ⟨go, yl⟩ := it.go H' (w.add D) ls (wipe σ vs) (wipeD Δ vs) G' L' i _ g' (c'.wipe vs) (List.getElem?_eq_getElem hlt)
      refine .inr ⟨go, fun H2 => ∃ acc2 vs2 G2 L2, Ctx K (w.add D) ls σ H2 Δ G2 L2 ∧ Grow H1 H2 (Rg w ls) (Rg (w.add D) ls) ∧ Ext w ls H1 H2 ∧ H2 D = some (.lst vs2) ∧ RepL K H2 (Rg (w.add D) ls) acc2 vs2 ∧ acc2.length ≤ i + 1 ∧ P (i + 1) acc2 G2 L2,
        fun H2 ⟨acc2, vs2, G2, L2, q⟩ => ⟨_, by omega, rfl, hlt, acc2, vs2, G2, L2, q⟩, fun x H3 hy => ?_⟩
      obtain ⟨c3, e3, r3⟩ := yl x H3 hy
      refine ps i _ acc G' L' (List.getElem?_eq_getElem hlt) hl p (w.add D) ls _ H3 x c3 r3 _ fun σ4 H4 Δ4 G4 L4 c4 e4 l4 o4 k4 => ?_
      have hw : wipe σ4 vs = wipe σ vs := wipe_eq (l4.trans (wipe_length _ _)) o4
      -- back to σ, Δ: the slots of Δ stay what they are
      have back : ∀ H5 G5 L5, Ctx K (w.add D) ls σ4 H5 Δ4 G5 L5 → Ext (w.add D) ls H' H5 → Ctx K (w.add D) ls σ H5 Δ G5 L5 := fun H5 G5 L5 c5 e5 =>
        ⟨c5.reg, c5.rin, c5.nd, c5.fr, c5.h0, c'.sl.grow (e5.grow c'.reg) (Pre.refl _) (Pre.refl _), c5.gl, c5.lo⟩
      have exw : ∀ H5, Ext (w.add D) ls H' H5 → Ext w ls H1 H5 := fun H5 e5 a o h1 h2 h3 => e5 a o (e' a o h1 h2 h3) h2 h3
      refine ⟨hw, k4 (w.add D) ls σ4 H4 c4 _ fun b H5 G5 L5 c5 e5 k5 => ?_⟩
      have e45 : Ext (w.add D) ls H' H5 := (e3.trans e4).trans e5
      cases b with
      | true =>
        rw [if_pos rfl] at k5 ⊢
        refine k5 (w.add D) ls σ4 H5 c5 _ fun v s H6 G6 L6 c6 e6 r6 ⟨y, e, k6⟩ => ?_
        subst e
        have e46 := e45.trans e6
        have h6 : H6 D = some (.lst vs') := e46 D _ hD' ng nl
        have r6' := r'.grow (e46.grow c'.reg)
        have gu : Grow H6 (upd H6 D (.lst (vs' ++ [v]))) (Rg (w.add D) ls) (Rg (w.add D) ls) := grow_upd (.inl (.inr rfl))
        refine ⟨vs', h6, by rw [r'.length]; omega, acc ++ [y], vs' ++ [v], G6, L6, Ctx.setH (back H6 G6 L6 c6 e46) h6 n0 ng nl, g'.trans ((e46.grow c'.reg).trans gu), ?_, upd_same, (r6'.app (RepL.one r6)).grow gu, by rw [List.length_append]; show acc.length + 1 ≤ i + 1; omega, k6⟩
        intro a o h1 h2 h3
        rw [upd_ne (ne_of_none h1 hD)]
        exact exw H6 e46 a o h1 h2 h3
      | false =>
        rw [if_neg Bool.false_ne_true] at k5 ⊢
        exact ⟨acc, vs', G5, L5, back H5 G5 L5 c5 e45, g'.trans (e45.grow c'.reg), exw H5 e45, e45 D _ hD' ng nl, r'.grow (e45.grow c'.reg), by omega, k5⟩
    · have e : i = items.length := by omega
      subst e
      exact .inl ⟨it.stop H' (w.add D) ls g', r D _ H' G' L' (none_back c1 e1 hD) (c'.show c.reg hD' r' n0 ng nl (fun z => nR (.inl z))) (e1.trans e') (pe acc G' L' p)⟩
end
end
end DL

namespace DL
open PySem PySem.Spec PyProof.Rows L2
section
variable {K : PySem.W.Frag}
/-- what a call hands back: a value, or new objects, the k-th of which is the value -/
inductive Res where
  | v (s : S) | new (ms : List M) (k : Nat)
abbrev DSpec := List S → List M → (Res → List M → Prop) → Prop
def spD (K : PySem.W.Frag) (F : DSpec) : Sp := fun vs H Q _ => ∃ (w : W) (ss : List S) (G : List M) (Qd : Res → List M → Prop), w.H0 = H ∧ Ctx K w [] [] H [] G [] ∧ Paired (RS K H (Rg w []) w.gs []) ss vs ∧ F ss G Qd ∧
  (∀ v s H' G', Ctx K w [] [] H' [] G' [] → RS K H' (Rg w []) w.gs [] s v → Qd (.v s) G' → Q v H') ∧
  (∀ ps k p ms H' G', Ctx K w ps [] H' [] G' ms → ps[k]? = some p → Qd (.new ms k) G' → Q (.ref p) H')
def startD (N : List Str) (ss : List S) : Sl := ss.map some ++ List.replicate (N.length - ss.length) none
def endsD (Qd : Res → List M → Prop) : EndsD where
  nx := fun _ G _ => Qd (.v (.d .non)) G
  rt := fun s G L => match s with
    | .l k => Qd (.new L k) G
    | .d x => Qd (.v (.d x)) G
    | .g k => Qd (.v (.g k)) G
section
variable {w : W} {ls : List Addr} {σ : L2.St} {H : Hp} {Δ : Sl} {G L : List M}
theorem Ctx.forgetS (c : Ctx K w ls σ H Δ G L) : Ctx K w ls [] H [] G L := ⟨c.reg, c.rin, c.nd, c.fr, c.h0, ⟨rfl, fun i s e => by simp at e⟩, c.gl, c.lo⟩
theorem grow_drop {H : Hp} {w : W} {ls : List Addr} : Grow H H (Rg w ls) (Rg w []) := ⟨fun _ _ e _ => e, fun a o e r => by
  rcases r with r | r
  · exact .inl r
  · cases r⟩
theorem Ctx.forget (c : Ctx K w ls σ H Δ G L) : Ctx K w [] [] H [] G [] :=
  ⟨c.reg, c.rin, by rw [List.append_nil]; exact (List.nodup_append.mp c.nd).1, fun _ h => (by cases h), c.h0, ⟨rfl, fun i s e => by simp at e⟩,
    paired_map c.gl fun a m _ q => q.grow grow_drop (Pre.refl _) (Pre.refl _) fun _ z => z, .nil⟩
theorem paired_get_l {α β : Type} {F : α → β → Prop} : ∀ {as : List α} {bs : List β} {i : Nat} {a : α}, Paired F as bs → as[i]? = some a → ∃ b, bs[i]? = some b ∧ F a b
  | _, _, 0, _, .cons h t, e => by
    simp at e
    subst e
    exact ⟨_, rfl, h⟩
  | _, _, i + 1, _, .cons h t, e => by
    obtain ⟨a, q, r⟩ := paired_get_l (i := i) t (by simpa using e)
    exact ⟨a, by simpa using q, r⟩
theorem slok_start {R : Addr → Prop} {gs ls : List Addr} {N : List Str} {ss : List S} {vs : List V} (r : Paired (RS K H R gs ls) ss vs) : SlOk K H R gs ls (L2.start N vs) (startD N ss) := by
  have hl := paired_len r
  refine ⟨by unfold L2.start startD; rw [List.length_append, List.length_append, List.length_map, List.length_map, List.length_replicate, List.length_replicate, hl], fun i s e => ?_⟩
  unfold startD at e
  unfold L2.start
  by_cases hi : i < ss.length
  · rw [List.getElem?_append_left (by rw [List.length_map]; exact hi), List.getElem?_map] at e
    rw [List.getElem?_append_left (by rw [List.length_map, ← hl]; exact hi), List.getElem?_map]
    cases q : ss[i]? with
    | none =>
      rw [q] at e
      cases e
    | some z =>
      rw [q] at e
      have e : some (some z) = some (some s) := e
      cases e
      obtain ⟨v, hv, rr⟩ := paired_get_l r q
      exact ⟨v, by rw [hv]; rfl, rr⟩
  · rw [List.getElem?_append_right (by rw [List.length_map]; omega), List.getElem?_replicate] at e
    split at e <;> cases e
end
section
variable {P : Program} {w : World} {mg : Str → Option Value} {base : Heap}
/-- THE RULE for a def, at the level of data -/
theorem okD {x qual : Str} {st : Stmt} {f : Addr} {fd : FuncData} {N ps : List Str} {k : Nat} {sp : DSpec} (F : Fun K x qual st f fd) (S : FnScope N ps (defScope st)) (len : ∀ ss G Qd, sp ss G Qd → ss.length = ps.length)
    (hbody : ∀ (cdv : Value) (A : Around) (outer : List Env) (s : Shared) (H : Hp) (E : XK) (ss : List DL.S) (G : List M) (Qd : Res → List M → Prop), Room k (A.deeper (envOfC qual (defScope st) s.heap.objs.size f cdv)) → sp ss G Qd →
      ∃ t, PSs (cxOf CX0 P w K mg base N qual (defScope st) f cdv A outer s H E).nox (defBody st) t ∧ StC K t (startD N ss) G [] (endsD Qd)) : FnOk P w K mg base CX0 (k + 1) f fd ps (spD K sp) := by
  refine F.ok S (fun vs H Q E h => ?_) (fun cdv A outer s H vs Q E hr h => ?_)
  · obtain ⟨w, ss, G, Qd, _, _, r, q, _⟩ := h
    rw [← paired_len r]
    exact len ss G Qd q
  · obtain ⟨w, ss, G, Qd, h0, c, r, q, k1, k2⟩ := h
    obtain ⟨t, ht, hs⟩ := hbody cdv A outer s H E ss G Qd hr q
    refine ⟨t, ht, hs w [] (L2.start N vs) H ⟨c.reg, c.rin, c.nd, c.fr, c.h0, slok_start r, c.gl, c.lo⟩ _ ⟨?_, ?_, ?_, ?_⟩⟩
    · intro ls' σ' H' Δ' G' L' c' g' n'
      exact k1 .non (.d .non) H' G' c'.forget rfl n'
    · intro ls' σ' H' Δ' G' L' v z c' rz n'
      cases z with
      | d x => exact k1 v (.d x) H' G' c'.forget (Rep.grow grow_drop rz) n'
      | g j => exact k1 v (.g j) H' G' c'.forget rz n'
      | l j =>
        obtain ⟨a, ha, rfl⟩ := rz
        exact k2 ls' j a L' H' G' c'.forgetS ha n'
    · intro ls' σ' H' Δ' G' L' c' g' n'
      exact n'.elim
    · intro ls' σ' H' Δ' G' L' c' g' n'
      exact n'.elim
end

/-! ### calls -/
def noL : List S → Bool
  | [] => true
  | .l _ :: _ => false
  | _ :: r => noL r
theorem noL_rs {H : Hp} {R : Addr → Prop} {gs ls ls' : List Addr} : ∀ {ss : List S} {vs : List V}, noL ss = true → Paired (RS K H R gs ls) ss vs → Paired (RS K H R gs ls') ss vs
  | [], _, _, .nil => .nil
  | .d x :: r, _, h, .cons q t => .cons q (noL_rs (ss := r) h t)
  | .g x :: r, _, h, .cons q t => .cons q (noL_rs (ss := r) h t)
section
variable {Δ : Sl} {G L : List M} {Qd : Po} {ta : TA} {sp : DSpec} {E0' : XK}
def callee (w : W) (ls : List Addr) (H : Hp) : W := ⟨Rg w ls, w.gs, H⟩
theorem rg_callee {w : W} {ls ps : List Addr} {H : Hp} {a : Addr} : Rg (callee w ls H) ps a ↔ (Rg w ls a ∨ a ∈ ps) := Iff.rfl
theorem Ctx.callee {w : W} {ls : List Addr} {σ : L2.St} {H : Hp} (c : Ctx K w ls σ H Δ G L) : Ctx K (DL.callee w ls H) [] [] H [] G [] := by
  have g : Grow H H (Rg w ls) (Rg (DL.callee w ls H) []) := grow_iff fun a r => r.elim id (fun z => by cases z)
  refine ⟨fun a h => .inl (c.reg a h), fun a r => ?_, by rw [List.append_nil]; exact (List.nodup_append.mp c.nd).1, fun _ h => (by cases h), fun a o h _ => h, ⟨rfl, fun i s e => by simp at e⟩,
    paired_map c.gl fun a m _ q => q.grow g (Pre.refl _) (Pre.refl _) fun _ z => z, .nil⟩
  rcases r with r | r
  · exact c.rin a r
  · exact c.lin r
/-- back from a callee: its new objects ps beside what was -/
theorem Ctx.back {w : W} {ls : List Addr} {σ : L2.St} {H H' : Hp} {G' ms : List M} {ps : List Addr} (c : Ctx K w ls σ H Δ G L) (c' : Ctx K (DL.callee w ls H) ps [] H' [] G' ms) : Ctx K w ls σ H' Δ G' L ∧ Ext w ls H H' := by
  have e : ∀ a o, H a = some o → a ∉ w.gs → H' a = some o := c'.h0
  have e2 : Ext w ls H H' := fun a o h n _ => e a o h n
  have g := e2.grow c.reg
  have nl : ∀ a ∈ ls, a ∉ w.gs := fun a h z => (List.nodup_append.mp c.nd).2.2 a z a h rfl
  have g3 : Grow H' H' (Rg (DL.callee w ls H) ps) (Rg w ls) := grow_iff fun a r => .inl r
  refine ⟨⟨c.reg, fun a r => c'.rin a (.inl r), c.nd, c.fr, fun a o h n => e a o (c.h0 a o h n) n, c.sl.grow g (Pre.refl _) (Pre.refl _),
    paired_map c'.gl fun a m _ q => q.grow g3 (Pre.refl _) (Pre.refl _) (fun _ z => z), paired_map c.lo fun a m ha q => q.grow g (Pre.refl _) (Pre.refl _) (fun o h => e a o h (nl a ha))⟩, e2⟩
theorem new_free {w : W} {ls : List Addr} {σ : L2.St} {H H' : Hp} {G' ms : List M} {ps : List Addr} (c : Ctx K w ls σ H Δ G L) (c' : Ctx K (DL.callee w ls H) ps [] H' [] G' ms) {p : Addr} (hp : p ∈ ps) : H p = none ∧ ¬ Rg w ls p := ⟨c'.fr p hp, c.free (c'.fr p hp)⟩
theorem dat_rep {w : W} {ls : List Addr} {σ : L2.St} {H H' : Hp} {G' ms : List M} {ps : List Addr} (c : Ctx K w ls σ H Δ G L) (c' : Ctx K (DL.callee w ls H) ps [] H' [] G' ms) {k : Nat} {p : Addr} {m : M} {x : D} (hp : ps[k]? = some p) (hm : ms[k]? = some m) (hx : m.dat = some x) : Rep K H' (Rg w ls) x (.ref p) := by
  obtain ⟨_, nR⟩ := new_free c c' (List.mem_of_getElem? hp)
  obtain ⟨a, ha, q⟩ := paired_get c'.lo hm
  rw [hp] at ha
  cases ha
  have g3 : Grow H' H' (Rg (DL.callee w ls H) ps) (Rg w ls) := grow_iff fun a r => .inl r
  cases m with
  | pl ds =>
    cases hx
    obtain ⟨vs, h1, r⟩ := q
    exact ⟨p, vs, rfl, ⟨h1, nR⟩, r.grow g3⟩
  | hl xs => cases hx
  | dc ds =>
    cases hx
    obtain ⟨vs, h1, r⟩ := q
    exact ⟨p, vs, rfl, ⟨h1, nR⟩, r.grow g3⟩
  | ob C ds =>
    cases hx
    obtain ⟨dx, vs, h1, r⟩ := q
    exact ⟨p, dx, vs, rfl, ⟨h1, nR⟩, r.grow g3⟩
/-- what a call's result gives, as a value -/
def asV (Qd : Po) (L : List M) : Res → List M → Prop
  | .v s, G => Qd s G L
  | .new ms k, G => ∃ m x, ms[k]? = some m ∧ m.dat = some x ∧ Qd (.d x) G L
theorem sp_call {w : W} {ls : List Addr} {σ : L2.St} {H : Hp} {ss : List S} {vs : List V} {Q : VK} {E : XK} (c : Ctx K w ls σ H Δ G L) (r : Paired (RS K H (Rg w ls) w.gs ls) ss vs) (hn : noL ss = true) (h : sp ss G (asV Qd L)) (q : Ret K w ls σ Δ H Qd Q) : spD K sp vs H Q E := by
  have g : Grow H H (Rg w ls) (Rg (DL.callee w ls H) []) := grow_iff fun a r => r.elim id (fun z => by cases z)
  have g' : ∀ H', Grow H' H' (Rg (DL.callee w ls H) []) (Rg w ls) := fun H' => grow_iff fun a r => .inl r
  refine ⟨DL.callee w ls H, ss, G, asV Qd L, rfl, c.callee, paired_map (noL_rs hn r) fun a b _ z => z.grow g (Pre.refl _) (Pre.refl _), h, fun v s H' G' c' rs k => ?_, fun ps j p ms H' G' c' hp k => ?_⟩
  · obtain ⟨cb, eb⟩ := c.back c'
    exact q v s H' G' L cb eb (RS.grow (g' H') (Pre.refl _) (Pre.nil _) rs) k
  · obtain ⟨m, x, hm, hx, k⟩ := k
    obtain ⟨cb, eb⟩ := c.back c'
    exact q _ (.d x) H' G' L cb eb (dat_rep c c' hp hm hx) k
theorem evc_call (h : EvA K ta Δ G L fun ss G1 L1 => noL ss = true ∧ sp ss G1 (asV Qd L1)) : EvC K (tCall (spD K sp) [] E0' ta) Δ G L Qd := fun w ls σ H c Q r => h w ls σ H c _ fun vs ss H2 G2 L2 c2 e2 r2 ⟨hn, k⟩ => by
  show spD K sp (vs ++ []) H2 Q E0'
  rw [List.append_nil]
  exact sp_call c2 r2 hn k (r.ext e2)
/-- objects made by a callee become the caller's own -/
def S.shift (n : Nat) : S → S
  | .l k => .l (n + k)
  | s => s
def M.shift (n : Nat) : M → M
  | .hl xs => .hl (xs.map (S.shift n))
  | m => m
theorem MOk.shift {H : Hp} {R R' : Addr → Prop} {gs ls ps : List Addr} (g : Grow H H R R') {a : Addr} : ∀ {m : M}, MOk K H R gs ps a m → MOk K H R' gs (ls ++ ps) a (m.shift ls.length)
  | .pl _, ⟨vs, h, r⟩ => ⟨vs, h, RepL.grow g r⟩
  | .hl xs, ⟨vs, h, r⟩ => ⟨vs, h, by
    clear h
    induction r with
    | nil => exact .nil
    | cons q t ih =>
      refine .cons ?_ ih
      rename_i s v ss vs
      cases s with
      | d x => exact Rep.grow g q
      | g k => exact q
      | l k =>
        obtain ⟨b, hb, e⟩ := q
        refine ⟨b, ?_, e⟩
        rw [List.getElem?_append_right (Nat.le_add_right _ _), Nat.add_sub_cancel_left]
        exact hb⟩
  | .dc _, ⟨vs, h, r⟩ => ⟨vs, h, RepK.grow g r⟩
  | .ob _ _, ⟨dx, vs, h, r⟩ => ⟨dx, vs, h, RepF.grow g r⟩
theorem paired_map2 {α β γ : Type} {F : α → β → Prop} {F' : α → γ → Prop} {f : β → γ} : ∀ {as : List α} {bs : List β}, Paired F as bs → (∀ a b, F a b → F' a (f b)) → Paired F' as (bs.map f)
  | _, _, .nil, _ => .nil
  | _, _, .cons h t, k => .cons (k _ _ h) (paired_map2 t k)
theorem Ctx.adopt {w : W} {ls : List Addr} {σ : L2.St} {H H' : Hp} {G' ms : List M} {ps : List Addr} (c : Ctx K w ls σ H Δ G L) (c' : Ctx K (DL.callee w ls H) ps [] H' [] G' ms) : Ctx K w (ls ++ ps) σ H' Δ G' (L ++ ms.map (M.shift L.length)) ∧ Grow H H' (Rg w ls) (Rg w (ls ++ ps)) := by
  have e : ∀ a o, H a = some o → a ∉ w.gs → H' a = some o := c'.h0
  have hl : ls.length = L.length := paired_len c.lo
  have nl : ∀ a ∈ ls, a ∉ w.gs := fun a h z => (List.nodup_append.mp c.nd).2.2 a z a h rfl
  have nps : ∀ a ∈ ps, H a = none := fun a h => c'.fr a h
  have g : Grow H H' (Rg w ls) (Rg w (ls ++ ps)) := ⟨fun a o h n => e a o h (fun z => n (.inl (c.reg a z))), fun a o h r => by
    rcases r with r | r
    · exact .inl r
    · rcases List.mem_append.mp r with r | r
      · exact .inr r
      · rw [nps a r] at h
        cases h⟩
  have g3 : Grow H' H' (Rg (DL.callee w ls H) ps) (Rg w (ls ++ ps)) := grow_iff fun a r => by
    rcases r with r | r
    · exact .inl (.inl r)
    · rcases List.mem_append.mp r with r | r
      · exact .inl (.inr r)
      · exact .inr r
  refine ⟨⟨c.reg, fun a r => c'.rin a (.inl r), ?_, ?_, fun a o h n => e a o (c.h0 a o h n) n, c.sl.grow g (Pre.refl _) (Pre.app _ _),
    paired_map c'.gl fun a m _ q => q.grow g3 (Pre.refl _) (Pre.refl _) (fun _ z => z), paired_app (paired_map c.lo fun a m ha q => q.grow g (Pre.refl _) (Pre.app _ _) (fun o h => e a o h (nl a ha))) ?_⟩, g⟩
  · rw [← List.append_assoc]
    refine List.nodup_append.mpr ⟨c.nd, (List.nodup_append.mp c'.nd).2.1, fun a ha b hb z => ?_⟩
    subst z
    have n := nps a hb
    rcases List.mem_append.mp ha with z | z
    · obtain ⟨o, q⟩ := c.gin z
      rw [n] at q
      cases q
    · obtain ⟨o, q⟩ := c.lin z
      rw [n] at q
      cases q
  · intro a ha
    rcases List.mem_append.mp ha with z | z
    · exact c.fr a z
    · exact c.free0 (nps a z)
  · rw [← hl]
    exact paired_map2 c'.lo fun a m q => q.shift g3
theorem st_ownB {i : Nat} {E : EndsD} (h : EvA K ta Δ G L fun ss G1 L1 => noL ss = true ∧ sp ss G1 fun r G2 => ∃ ms k, r = .new ms k ∧ E.nx (Δ.set i (some (.l (L1.length + k)))) G2 (L1 ++ ms.map (M.shift L1.length))) : StC K (tAsg (tCall (spD K sp) [] E0' ta) (gName i)) Δ G L E := fun w ls σ H c D s => h w ls σ H c _ fun vs ss H2 G2 L2 c2 e2 r2 ⟨hn, k⟩ => by
  show spD K sp (vs ++ []) H2 _ E0'
  rw [List.append_nil]
  have g : Grow H2 H2 (Rg w ls) (Rg (DL.callee w ls H2) []) := grow_iff fun a r => r.elim id (fun z => by cases z)
  refine ⟨DL.callee w ls H2, ss, G2, _, rfl, c2.callee, paired_map (noL_rs hn r2) fun a b _ z => z.grow g (Pre.refl _) (Pre.refl _), k, fun v z H' G' c' rs ⟨ms, j, e, _⟩ => (by cases e), fun ps j p ms H' G' c' hp ⟨ms', j', e, k⟩ => ?_⟩
  cases e
  obtain ⟨ca, ga⟩ := c2.adopt c'
  have hl : ls.length = L2.length := paired_len c2.lo
  refine s.nx (ls ++ ps) _ H' _ G' _ (ca.slot (s := .l (L2.length + j)) ⟨p, ?_, rfl⟩) ((e2.grow c.reg).trans ga) k
  rw [← hl, List.getElem?_append_right (Nat.le_add_right _ _), Nat.add_sub_cancel_left]
  exact hp
/-- own objects handed to a callee (where the def has no caller's store) -/
def S.pro : S → S
  | .l k => .g k
  | s => s
def S.dem : S → S
  | .g k => .l k
  | s => s
def M.pro : M → M
  | .hl xs => .hl (xs.map S.pro)
  | m => m
def M.dem : M → M
  | .hl xs => .hl (xs.map S.dem)
  | m => m
theorem RS.pro {H : Hp} {R : Addr → Prop} {ls : List Addr} : ∀ {s : S} {v : V}, RS K H R [] ls s v → RS K H R ls [] s.pro v
  | .d _, _, h => h
  | .g _, _, ⟨a, h, _⟩ => by simp at h
  | .l _, _, h => h
theorem RS.dem {H : Hp} {R : Addr → Prop} {ls : List Addr} : ∀ {s : S} {v : V}, RS K H R ls [] s v → RS K H R [] ls s.dem v
  | .d _, _, h => h
  | .l _, _, ⟨a, h, _⟩ => by simp at h
  | .g _, _, h => h
theorem MOk.pro {H : Hp} {R : Addr → Prop} {ls : List Addr} {a : Addr} : ∀ {m : M}, MOk K H R [] ls a m → MOk K H R ls [] a m.pro
  | .pl _, h => h
  | .hl _, ⟨vs, h, r⟩ => ⟨vs, h, by
    clear h
    induction r with
    | nil => exact .nil
    | cons q t ih => exact .cons q.pro ih⟩
  | .dc _, h => h
  | .ob _ _, h => h
theorem MOk.dem {H : Hp} {R : Addr → Prop} {ls : List Addr} {a : Addr} : ∀ {m : M}, MOk K H R ls [] a m → MOk K H R [] ls a m.dem
  | .pl _, h => h
  | .hl _, ⟨vs, h, r⟩ => ⟨vs, h, by
    clear h
    induction r with
    | nil => exact .nil
    | cons q t ih => exact .cons q.dem ih⟩
  | .dc _, h => h
  | .ob _ _, h => h
def calleeL (w : W) (ls : List Addr) (H : Hp) : W := ⟨Rg w ls, ls, H⟩
theorem Ctx.calleeL {w : W} {ls : List Addr} {σ : L2.St} {H : Hp} (hg : w.gs = []) (c : Ctx K w ls σ H Δ G L) : Ctx K (DL.calleeL w ls H) [] [] H [] (L.map M.pro) [] := by
  have g : Grow H H (Rg w ls) (Rg (DL.calleeL w ls H) []) := grow_iff fun a r => r.elim id (fun z => by cases z)
  refine ⟨fun a h => .inr h, fun a r => ?_, by rw [List.append_nil]; exact (List.nodup_append.mp c.nd).2.1, fun _ h => (by cases h), fun a o h _ => h, ⟨rfl, fun i s e => by simp at e⟩, ?_, .nil⟩
  · rcases r with r | r
    · exact c.rin a r
    · exact c.lin r
  · refine paired_map2 c.lo fun a m q => ?_
    rw [hg] at q
    exact (MOk.pro q).grow g (Pre.refl _) (Pre.refl _) fun _ z => z
theorem Ctx.backL {w : W} {ls : List Addr} {σ : L2.St} {H H' : Hp} {G' ms : List M} {ps : List Addr} (hg : w.gs = []) (c : Ctx K w ls σ H Δ [] L) (c' : Ctx K (DL.calleeL w ls H) ps [] H' [] G' ms) : Ctx K w ls σ H' Δ [] (G'.map M.dem) ∧ Ext w ls H H' := by
  have e : ∀ a o, H a = some o → a ∉ ls → H' a = some o := c'.h0
  have e2 : Ext w ls H H' := fun a o h _ n => e a o h n
  have g := e2.grow c.reg
  have g3 : Grow H' H' (Rg (DL.calleeL w ls H) ps) (Rg w ls) := grow_iff fun a r => .inl r
  refine ⟨⟨c.reg, fun a r => c'.rin a (.inl r), c.nd, c.fr, fun a o h n => e a o (c.h0 a o h n) (fun z => by rw [c.fr a z] at h; cases h), c.sl.grow g (Pre.refl _) (Pre.refl _), by rw [hg]; exact .nil, ?_⟩, e2⟩
  refine paired_map2 c'.gl fun a m q => ?_
  rw [hg]
  exact (MOk.dem q).grow g3 (Pre.refl _) (Pre.refl _) fun _ z => z
def asVL (Qd : Po) : Res → List M → Prop
  | .v s, G => Qd s.dem [] (G.map M.dem)
  | .new ms k, G => ∃ m x, ms[k]? = some m ∧ m.dat = some x ∧ Qd (.d x) [] (G.map M.dem)
theorem evc_callL (h : EvA K ta Δ [] L fun ss G1 L1 => sp (ss.map S.pro) (L1.map M.pro) (asVL Qd)) : EvC K (tCall (spD K sp) [] E0' ta) Δ [] L Qd := fun w ls σ H c Q r => h w ls σ H c _ fun vs ss H2 G2 L2 c2 e2 r2 k => by
  show spD K sp (vs ++ []) H2 Q E0'
  rw [List.append_nil]
  have hg : w.gs = [] := List.eq_nil_of_length_eq_zero (paired_len c.gl)
  have hG2 : G2 = [] := List.eq_nil_of_length_eq_zero (by rw [← paired_len c2.gl, hg]; rfl)
  subst hG2
  have g : Grow H2 H2 (Rg w ls) (Rg (DL.calleeL w ls H2) []) := grow_iff fun a r => r.elim id (fun z => by cases z)
  have g' : ∀ H' ps, Grow H' H' (Rg (DL.calleeL w ls H2) ps) (Rg w ls) := fun H' ps => grow_iff fun a r => .inl r
  have r2' : Paired (RS K H2 (Rg (DL.calleeL w ls H2) []) (DL.calleeL w ls H2).gs []) (ss.map S.pro) vs := by
    rw [hg] at r2
    clear k
    induction r2 with
    | nil => exact .nil
    | cons q t ih => exact .cons (q.pro.grow g (Pre.refl _) (Pre.refl _)) ih
  refine ⟨DL.calleeL w ls H2, ss.map S.pro, L2.map M.pro, asVL Qd, rfl, c2.calleeL hg, r2', k, fun v s H' G' c' rs k => ?_, fun ps j p ms H' G' c' hp k => ?_⟩
  · obtain ⟨cb, eb⟩ := Ctx.backL hg c2 c'
    refine r v s.dem H' [] _ cb (e2.trans eb) ?_ k
    rw [hg]
    exact (RS.dem rs).grow (g' H' []) (Pre.refl _) (Pre.refl _)
  · obtain ⟨m, x, hm, hx, k⟩ := k
    obtain ⟨cb, eb⟩ := Ctx.backL hg c2 c'
    refine r _ (.d x) H' [] _ cb (e2.trans eb) ?_ k
    have hp0 : H2 p = none := c'.fr p (List.mem_of_getElem? hp)
    have nR := c2.free hp0
    obtain ⟨a, ha, q⟩ := paired_get c'.lo hm
    rw [hp] at ha
    cases ha
    cases m with
    | pl ds =>
      cases hx
      obtain ⟨vs, h1, r⟩ := q
      exact ⟨p, vs, rfl, ⟨h1, nR⟩, r.grow (g' _ _)⟩
    | hl xs => cases hx
    | dc ds =>
      cases hx
      obtain ⟨vs, h1, r⟩ := q
      exact ⟨p, vs, rfl, ⟨h1, nR⟩, r.grow (g' _ _)⟩
    | ob C ds =>
      cases hx
      obtain ⟨dx, vs, h1, r⟩ := q
      exact ⟨p, dx, vs, rfl, ⟨h1, nR⟩, r.grow (g' _ _)⟩
end
end
end DL

namespace DL
open PySem PySem.Spec PyProof.Rows L2
section
variable {K : PySem.W.Frag}
/-! ### sequences -/
/-- .. of a list, a tuple, the script -/
def seqG (G L : List M) : S → Option (List D)
  | .d (.tup ds) => some ds
  | .d (.scr ns) => some (ns.map .int)
  | s => lsG G L s
section
variable {w : W} {ls : List Addr} {σ : L2.St} {H : Hp} {Δ : Sl} {G L : List M}
theorem seqG_get {v : V} {s : S} {ds : List D} (c : Ctx K w ls σ H Δ G L) (r : RS K H (Rg w ls) w.gs ls s v) (h : seqG G L s = some ds) : ∃ a vs, v = .ref a ∧ (SqL K H a vs ∨ SqT K H a vs) ∧ RepL K H (Rg w ls) ds vs := by
  unfold seqG at h
  split at h
  · cases h
    obtain ⟨a, xs, rfl, h1, q⟩ := r
    exact ⟨a, xs, rfl, .inr h1.sq, q⟩
  · cases h
    obtain ⟨a, rfl, h1⟩ := r
    exact ⟨a, _, rfl, .inl h1.sq, RepL.ints⟩
  · obtain ⟨a, vs, e, h1, q⟩ := lsG_get c r h
    exact ⟨a, vs, e, .inl (.inl (.inl h1)), q⟩
end
section
variable {Δ : Sl} {G L : List M} {Qd : Po} {Qn : PoN} {te ta tb tc : TE}
/-! ### calls of built-ins -/
def ApC (K : PySem.W.Frag) (r : List V → Hp → VK → Prop) (ss : List S) (Δ : Sl) (G L : List M) (Qd : Po) : Prop :=
  ∀ w ls σ H vs, Ctx K w ls σ H Δ G L → Paired (RS K H (Rg w ls) w.gs ls) ss vs → ∀ Q, Ret K w ls σ Δ H Qd Q → r vs H Q
def ApN (K : PySem.W.Frag) (r : List V → Hp → VK → Prop) (ss : List S) (Δ : Sl) (G L : List M) (Qd : PoN) : Prop :=
  ∀ w ls σ H vs, Ctx K w ls σ H Δ G L → Paired (RS K H (Rg w ls) w.gs ls) ss vs → ∀ Q, RetN K w ls σ Δ H Qd Q → r vs H Q
theorem apn_c {r : List V → Hp → VK → Prop} {ss : List S} (h : ApN K r ss Δ G L fun m G1 L1 => ∃ x, m.dat = some x ∧ Qd (.d x) G1 L1) : ApC K r ss Δ G L Qd :=
  fun w ls σ H vs c rs Q q => h w ls σ H vs c rs Q fun p m H2 G2 L2 _ n e ⟨x, hx, k⟩ => q.go n.c e (s := .d x) (n.dat x hx) k
theorem evc_cb {r : List V → Hp → VK → Prop} {ta : TA} (h : EvA K ta Δ G L fun ss G1 L1 => ApC K r ss Δ G1 L1 Qd) : EvC K (tCB r ta) Δ G L Qd := fun w ls σ H c Q ret => h w ls σ H c _ fun vs ss H2 G2 L2 c2 e2 r2 k => k w ls σ H2 vs c2 r2 Q (ret.ext e2)
theorem evn_cb {r : List V → Hp → VK → Prop} {ta : TA} (h : EvA K ta Δ G L fun ss G1 L1 => ApN K r ss Δ G1 L1 Qn) : EvN K (tCB r ta) Δ G L Qn := fun w ls σ H c Q ret => h w ls σ H c _ fun vs ss H2 G2 L2 c2 e2 r2 k => k w ls σ H2 vs c2 r2 Q (ret.ext c2 e2)
theorem pair1 {F : S → V → Prop} {s : S} {vs : List V} (h : Paired F [s] vs) : ∃ v, vs = [v] ∧ F s v := by
  cases h with
  | cons q t =>
    cases t
    exact ⟨_, rfl, q⟩
theorem pair2 {F : S → V → Prop} {s t : S} {vs : List V} (h : Paired F [s, t] vs) : ∃ v u, vs = [v, u] ∧ F s v ∧ F t u := by
  cases h with
  | cons q t =>
    obtain ⟨u, rfl, r⟩ := pair1 t
    exact ⟨_, _, rfl, q, r⟩
def uLen (K : PySem.W.Frag) : List V → Hp → VK → Prop := fun xs H Q => ∃ x n, xs = [x] ∧ LenV K x H n ∧ Q (.int n) H
theorem uc_len {X : Cx} : CallR X (.builtin "len") (uLen X.K) := call_len
theorem ap_len {s : S} {ds : List D} (h : seqG G L s = some ds) (k : Qd (.d (.int (ds.length : Nat))) G L) : ApC K (uLen K) [s] Δ G L Qd := fun w ls σ H vs c rs Q q => by
  obtain ⟨v, rfl, r⟩ := pair1 rs
  obtain ⟨a, xs, rfl, h1, q1⟩ := seqG_get c r h
  refine ⟨_, ds.length, rfl, ?_, q.go c Ext.refl (s := .d (.int (ds.length : Nat))) rfl k⟩
  rcases h1 with h1 | h1
  · exact .inl ⟨xs, h1, q1.length.symm⟩
  · exact .inr ⟨xs, h1, q1.length.symm⟩
theorem ap_lenS {z : Str} (hz : z.length ≤ sizeLine) (k : Qd (.d (.int (z.length : Nat))) G L) : ApC K (uLen K) [.d (.str z)] Δ G L Qd := fun w ls σ H vs c rs Q q => by
  obtain ⟨v, rfl, r⟩ := pair1 rs
  cases r
  exact ⟨_, z.length, rfl, ⟨hz, rfl⟩, q.go c Ext.refl (s := .d (.int (z.length : Nat))) rfl k⟩
/-- list(..) of a sequence, of a text -/
def rListQ (K : PySem.W.Frag) : List V → Hp → VK → Prop := fun xs H Q => ∃ p ys, xs = [.ref p] ∧ (SqL K H p ys ∨ SqT K H p ys) ∧ ∀ l, H l = none → Q (.ref l) (upd H l (.lst ys))
def signsV (z : Str) : List V := z.cps.toList.map fun c => V.str ⟨#[c]⟩
def signsD (z : Str) : List D := z.cps.toList.map fun c => D.str ⟨#[c]⟩
def rListS : List V → Hp → VK → Prop := fun xs H Q => ∃ z, xs = [.str z] ∧ z.length ≤ sizeLine ∧ ∀ l, H l = none → Q (.ref l) (upd H l (.lst (signsV z)))
theorem signs_vals {z : Str} {acc : Array Value} (h : ItemsOf (SignAt z) acc z.cps.size) : Vals (signsV z) acc.toList := by
  have key : ∀ (n : Nat) (cs : List Nat) (as : List Value), cs.length = as.length → (∀ (j : Nat) v, as[j]? = some v → ∃ c u, cs[j]? = some c ∧ v = .str ⟨#[c]⟩ u) → Vals (cs.map fun c => V.str ⟨#[c]⟩) as := by
    intro n cs
    induction cs with
    | nil =>
      intro as hl _
      cases as with
      | nil => exact .nil
      | cons _ _ => simp at hl
    | cons c cs ih =>
      intro as hl hp
      cases as with
      | nil => simp at hl
      | cons a as =>
        refine .cons ?_ (ih as (by simpa using hl) fun j v hv => ?_)
        · obtain ⟨c', u, h1, h2⟩ := hp 0 a rfl
          simp at h1
          subst h1
          exact ⟨u, h2⟩
        · have := hp (j + 1) v (by simpa using hv)
          simpa using this
  refine key 0 _ _ ?_ fun j v hv => ?_
  · rw [Array.length_toList, Array.length_toList, h.1]
  · obtain ⟨c, u, h1, h2⟩ := h.2 j v (by simpa using hv)
    exact ⟨c, u, by simpa using h1, h2⟩
theorem call_list_s {X : Cx} (hc : X.calm = true) : CallR X (.type "list") rListS := by
  intro pins s σ H xs us Q I r h
  obtain ⟨z, rfl, hz, q⟩ := h
  obtain ⟨u, rfl, t, rfl⟩ := vals1 r
  refine call_list_str (I.ok.hd hc) z t (fun h' tk acc' c' hk hS' hacc => ?_) hz
  have hv := signs_vals hacc
  refine ⟨.ref s.heap.objs.size, _, I.laid (t' := tk) hk (Nat.le_refl _) (show ObjOk X.prog X.w _ h' _ (.lst (signsV z)) from ⟨?_, acc'.toList, c', hv, by simpa using hS'⟩), rfl, q _ (I.hok.fresh (Nat.le_refl _))⟩
  unfold signsV
  rw [List.length_map]
  exact hz
def uList (K : PySem.W.Frag) : List V → Hp → VK → Prop := fun xs H Q => rListQ K xs H Q ∨ rListS xs H Q
theorem uc_list {X : Cx} (hc : X.calm = true) : CallR X (.type "list") (uList X.K) := CallR.or (r := rListQ X.K) call_list_of (call_list_s hc)
theorem ap_list {s : S} {ds : List D} (h : seqG G L s = some ds) (k : Qn (.pl ds) G L) : ApN K (uList K) [s] Δ G L Qn := fun w ls σ H vs c rs Q q => by
  obtain ⟨v, rfl, r⟩ := pair1 rs
  obtain ⟨a, xs, rfl, h1, q1⟩ := seqG_get c r h
  exact .inl ⟨a, xs, rfl, h1, fun l hl => q l _ _ _ _ hl (newAt_pl c hl q1) (Ext.new hl) k⟩
theorem repL_signs {H : Hp} {R : Addr → Prop} {z : Str} : RepL K H R (signsD z) (signsV z) := by
  unfold signsD signsV
  induction z.cps.toList with
  | nil => rfl
  | cons a r ih => exact ⟨_, _, rfl, rfl, ih⟩
theorem ap_listS {z : Str} (hz : z.length ≤ sizeLine) (k : Qn (.pl (signsD z)) G L) : ApN K (uList K) [.d (.str z)] Δ G L Qn := fun w ls σ H vs c rs Q q => by
  obtain ⟨v, rfl, r⟩ := pair1 rs
  cases r
  exact .inr ⟨z, rfl, hz, fun l hl => q l _ _ _ _ hl (newAt_pl c hl repL_signs) (Ext.new hl) k⟩
def uTuple (K : PySem.W.Frag) : List V → Hp → VK → Prop := fun xs H Q => ∃ p ys, xs = [.ref p] ∧ ((SqL K H p ys ∧ ∀ l, H l = none → Q (.ref l) (upd H l (.tup ys))) ∨ (SqT K H p ys ∧ Q (.ref p) H))
theorem uc_tuple {X : Cx} : CallR X (.type "tuple") (uTuple X.K) := call_tuple_of
theorem ap_tuple {s : S} {ds : List D} (h : lsG G L s = some ds) (k : Qd (.d (.tup ds)) G L) : ApC K (uTuple K) [s] Δ G L Qd := fun w ls σ H vs c rs Q q => by
  obtain ⟨v, rfl, r⟩ := pair1 rs
  obtain ⟨a, xs, rfl, h1, q1⟩ := lsG_get c r h
  exact ⟨a, xs, rfl, .inl ⟨.inl (.inl h1), fun l hl => q.go (c.new hl) (Ext.new hl) (s := .d (.tup ds)) (rep_tup c hl q1) k⟩⟩
theorem ap_sum {s : S} {ns : List Int} (h : seqG G L s = some (ns.map D.int)) (hs : ∀ ds, s ≠ .d (.tup ds)) (k : Qd (.d (.int ns.sum)) G L) : ApC K (rSum K) [s] Δ G L Qd := fun w ls σ H vs c rs Q q => by
  obtain ⟨v, rfl, r⟩ := pair1 rs
  have key : ∃ a, v = .ref a ∧ SqL K H a (ns.map V.int) := by
    unfold seqG at h
    split at h
    · exact absurd rfl (hs _)
    · rename_i ms
      have e : ms = ns := by
        have e := Option.some.inj h
        have inj : ∀ {xs ys : List Int}, xs.map D.int = ys.map D.int → xs = ys := by
          intro xs
          induction xs with
          | nil =>
            intro ys e
            cases ys with
            | nil => rfl
            | cons _ _ => cases e
          | cons x xs ih =>
            intro ys e
            cases ys with
            | nil => cases e
            | cons y ys =>
              injection e with e1 e2
              injection e1 with e1
              rw [e1, ih e2]
        exact inj e
      subst e
      obtain ⟨a, rfl, h1⟩ := r
      exact ⟨a, rfl, h1.sq⟩
    · obtain ⟨a, xs, rfl, h1, q1⟩ := lsG_get c r h
      have e := RepL.intsV q1
      subst e
      exact ⟨a, rfl, .inl (.inl h1)⟩
  obtain ⟨a, rfl, h1⟩ := key
  exact ⟨a, ns, rfl, h1, q.go c Ext.refl (s := .d (.int ns.sum)) rfl k⟩
def rInt1 : List V → Hp → VK → Prop := fun xs H Q => (∃ i, xs = [.int i] ∧ Q (.int i) H) ∨ ∃ k, xs = [.bl k] ∧ Q (.int (if k then 1 else 0)) H
theorem uc_int {X : Cx} : CallR X (.type "int") rInt1 := call_int1
theorem ap_int {i : Int} (k : Qd (.d (.int i)) G L) : ApC K rInt1 [.d (.int i)] Δ G L Qd := fun w ls σ H vs c rs Q q => by
  obtain ⟨v, rfl, r⟩ := pair1 rs
  cases r
  exact .inl ⟨i, rfl, q.go c Ext.refl (s := .d (.int i)) rfl k⟩
theorem ap_intB {b : Bool} (k : Qd (.d (.int (if b then 1 else 0))) G L) : ApC K rInt1 [.d (.bl b)] Δ G L Qd := fun w ls σ H vs c rs Q q => by
  obtain ⟨v, rfl, r⟩ := pair1 rs
  cases r
  exact .inr ⟨b, rfl, q.go c Ext.refl (s := .d (.int (if b then 1 else 0))) rfl k⟩

/-! ### slices -/
def SlC (K : PySem.W.Frag) (r : V → Option Int → Option Int → Hp → VK → Prop) (x : S) (lo hi : Option Int) (Δ : Sl) (G L : List M) (Qd : Po) : Prop :=
  ∀ w ls σ H vx, Ctx K w ls σ H Δ G L → RS K H (Rg w ls) w.gs ls x vx → ∀ Q, Ret K w ls σ Δ H Qd Q → r vx lo hi H Q
def SlN (K : PySem.W.Frag) (r : V → Option Int → Option Int → Hp → VK → Prop) (x : S) (lo hi : Option Int) (Δ : Sl) (G L : List M) (Qd : PoN) : Prop :=
  ∀ w ls σ H vx, Ctx K w ls σ H Δ G L → RS K H (Rg w ls) w.gs ls x vx → ∀ Q, RetN K w ls σ Δ H Qd Q → r vx lo hi H Q
def EvO (K : PySem.W.Frag) (to : TO) (Δ : Sl) (G L : List M) (Qo : Option Int → List M → List M → Prop) : Prop :=
  ∀ w ls σ H, Ctx K w ls σ H Δ G L → ∀ Q : Option Int → Hp → Prop, (∀ o H2 G2 L2, Ctx K w ls σ H2 Δ G2 L2 → Ext w ls H H2 → Qo o G2 L2 → Q o H2) → to σ H Q
theorem evo_none {Qo : Option Int → List M → List M → Prop} (k : Qo none G L) : EvO K tNoPart Δ G L Qo := fun w ls σ H c Q r => r none H G L c Ext.refl k
theorem evo_some {Qo : Option Int → List M → List M → Prop} (h : EvC K te Δ G L fun s G1 L1 => ∃ i, s = .d (.int i) ∧ Qo (some i) G1 L1) : EvO K (tPart te) Δ G L Qo := fun w ls σ H c Q r => h w ls σ H c _ fun v s H2 G2 L2 c2 e2 r2 ⟨i, e, k⟩ => by
  subst e
  exact ⟨i, r2, r (some i) H2 G2 L2 c2 e2 k⟩
theorem evc_sl {r : V → Option Int → Option Int → Hp → VK → Prop} {tl th : TO} (h : EvC K te Δ G L fun x G1 L1 => EvO K tl Δ G1 L1 fun lo G2 L2 => EvO K th Δ G2 L2 fun hi G3 L3 => SlC K r x lo hi Δ G3 L3 Qd) : EvC K (tSl r te tl th) Δ G L Qd :=
  fun w ls σ H c Q ret => h w ls σ H c _ fun v s H2 G2 L2 c2 e2 r2 h2 => h2 w ls σ H2 c2 _ fun lo H3 G3 L3 c3 e3 h3 => h3 w ls σ H3 c3 _ fun hi H4 G4 L4 c4 e4 h4 => h4 w ls σ H4 v c4 ((r2.on c2 e3).on c3 e4) Q (ret.ext (e2.trans (e3.trans e4)))
theorem evn_sl {r : V → Option Int → Option Int → Hp → VK → Prop} {tl th : TO} (h : EvC K te Δ G L fun x G1 L1 => EvO K tl Δ G1 L1 fun lo G2 L2 => EvO K th Δ G2 L2 fun hi G3 L3 => SlN K r x lo hi Δ G3 L3 Qn) : EvN K (tSl r te tl th) Δ G L Qn :=
  fun w ls σ H c Q ret => h w ls σ H c _ fun v s H2 G2 L2 c2 e2 r2 h2 => h2 w ls σ H2 c2 _ fun lo H3 G3 L3 c3 e3 h3 => h3 w ls σ H3 c3 _ fun hi H4 G4 L4 c4 e4 h4 => h4 w ls σ H4 v c4 ((r2.on c2 e3).on c3 e4) Q (ret.ext c4 (e2.trans (e3.trans e4)))
theorem sln_c {r : V → Option Int → Option Int → Hp → VK → Prop} {x : S} {lo hi : Option Int} (h : SlN K r x lo hi Δ G L fun m G1 L1 => ∃ x, m.dat = some x ∧ Qd (.d x) G1 L1) : SlC K r x lo hi Δ G L Qd :=
  fun w ls σ H vx c rx Q q => h w ls σ H vx c rx Q fun p m H2 G2 L2 _ n e ⟨x, hx, k⟩ => q.go n.c e (s := .d x) (n.dat x hx) k
def uSl (K : PySem.W.Frag) : V → Option Int → Option Int → Hp → VK → Prop := fun x lo hi H Q => rSlL K x lo hi H Q ∨ rSlS x lo hi H Q ∨ rSlA K x lo hi H Q
theorem us_sl {X : Cx} : SlR X (uSl X.K) := sl_list.or (sl_str.or sl_tupA)
def cutD (xs : List D) (lo hi : Option Int) : List D := (xs.drop (HT.sIx xs.length 0 lo)).take (HT.sIx xs.length xs.length hi - HT.sIx xs.length 0 lo)
theorem RepL.cut {H : Hp} {R : Addr → Prop} {ds : List D} {vs : List V} (r : RepL K H R ds vs) (lo hi : Option Int) : RepL K H R (cutD ds lo hi) (cutV vs lo hi) := by
  unfold cutD cutV
  rw [r.length]
  exact (r.drop _).take _
theorem sl_l {x : S} {ds : List D} {lo hi : Option Int} (h : lsG G L x = some ds) (k : Qn (.pl (cutD ds lo hi)) G L) : SlN K (uSl K) x lo hi Δ G L Qn := fun w ls σ H v c r Q q => by
  obtain ⟨a, xs, rfl, h1, q1⟩ := lsG_get c r h
  exact .inl ⟨a, xs, rfl, .inl (.inl h1), fun p hp => q p _ _ _ _ hp (newAt_pl c hp (q1.cut lo hi)) (Ext.new hp) k⟩
theorem sl_scr {ns : List Int} {lo hi : Option Int} (k : Qn (.pl (cutD (ns.map .int) lo hi)) G L) : SlN K (uSl K) (.d (.scr ns)) lo hi Δ G L Qn := fun w ls σ H v c r Q q => by
  obtain ⟨a, rfl, h1⟩ := r
  exact .inl ⟨a, _, rfl, h1.sq, fun p hp => q p _ _ _ _ hp (newAt_pl c hp (RepL.ints.cut lo hi)) (Ext.new hp) k⟩
theorem sl_s {z : Str} {lo hi : Option Int} (hz : z.length ≤ sizeLine) (k : Qd (.d (.str (cutS z lo hi))) G L) : SlC K (uSl K) (.d (.str z)) lo hi Δ G L Qd := fun w ls σ H v c r Q q =>
  .inr (.inl ⟨z, r, hz, q.go c Ext.refl (s := .d (.str (cutS z lo hi))) rfl k⟩)
theorem cutV_whole {xs : List V} {lo hi : Option Int} (h : HT.sIx xs.length 0 lo = 0 ∧ HT.sIx xs.length xs.length hi = xs.length) : cutV xs lo hi = xs := by
  unfold cutV
  rw [h.1, h.2, List.drop_zero, Nat.sub_zero, List.take_length]
theorem sl_t {ds : List D} {lo hi : Option Int} (k : Qd (.d (.tup (cutD ds lo hi))) G L) : SlC K (uSl K) (.d (.tup ds)) lo hi Δ G L Qd := fun w ls σ H v c r Q q => by
  obtain ⟨a, xs, rfl, h1, q1⟩ := r
  refine .inr (.inr ⟨a, xs, rfl, h1.sq, fun e => ?_, fun _ p hp => ?_⟩)
  · have q2 := q1.cut lo hi
    rw [cutV_whole e] at q2
    exact q.go c Ext.refl (s := .d (.tup (cutD ds lo hi))) ⟨a, xs, rfl, h1, q2⟩ k
  · exact q.go (c.new hp) (Ext.new hp) (s := .d (.tup (cutD ds lo hi))) (rep_tup c hp (q1.cut lo hi)) k
theorem repL_rev {H : Hp} {R : Addr → Prop} : ∀ {ds : List D} {vs : List V}, RepL K H R ds vs → RepL K H R ds.reverse vs.reverse
  | [], _, h => by
    cases h
    rfl
  | d :: ds, _, ⟨y, ys, e, h, r⟩ => by
    subst e
    rw [List.reverse_cons, List.reverse_cons]
    exact (repL_rev r).app (RepL.one h)
theorem evn_revL (h : EvC K te Δ G L fun x G1 L1 => ∃ ds, lsG G1 L1 x = some ds ∧ Qn (.pl ds.reverse) G1 L1) : EvN K (tRevL K te) Δ G L Qn := fun w ls σ H c Q ret => h w ls σ H c _ fun v s H2 G2 L2 c2 e2 r2 ⟨ds, hd, k⟩ => by
  obtain ⟨a, xs, rfl, h1, q1⟩ := lsG_get c2 r2 hd
  exact ⟨a, xs, rfl, .inl (.inl h1), fun p hp => ret p _ _ _ _ (none_back c2 e2 hp) (newAt_pl c2 hp (repL_rev q1)) (e2.trans (Ext.new hp)) k⟩

/-! ### subscripts of lists with handles, stores -/
def hlG (G L : List M) : S → Option (List S)
  | .l k => match L[k]? with
    | some (.hl ds) => some ds
    | some (.pl ds) => some (ds.map .d)
    | _ => none
  | .g k => match G[k]? with
    | some (.hl ds) => some ds
    | some (.pl ds) => some (ds.map .d)
    | _ => none
  | _ => none
theorem hlG_get {w : W} {ls : List Addr} {σ : L2.St} {H : Hp} {v : V} {s : S} {ds : List S} (c : Ctx K w ls σ H Δ G L) (r : RS K H (Rg w ls) w.gs ls s v) (h : hlG G L s = some ds) : ∃ a vs, v = .ref a ∧ H a = some (.lst vs) ∧ Paired (RS K H (Rg w ls) w.gs ls) ds vs := by
  unfold hlG at h
  split at h
  · rename_i k
    split at h
    · rename_i ds' hk
      cases h
      obtain ⟨a, ha, rfl⟩ := r
      obtain ⟨b, hb, vs, h1, q⟩ := paired_get c.lo hk
      rw [ha] at hb
      cases hb
      exact ⟨a, vs, rfl, h1, q⟩
    · rename_i ds' hk
      cases h
      obtain ⟨a, ha, rfl⟩ := r
      obtain ⟨b, hb, vs, h1, q⟩ := paired_get c.lo hk
      rw [ha] at hb
      cases hb
      exact ⟨a, vs, rfl, h1, repL_rs q⟩
    · cases h
  · rename_i k
    split at h
    · rename_i ds' hk
      cases h
      obtain ⟨a, ha, rfl⟩ := r
      obtain ⟨b, hb, vs, h1, q⟩ := paired_get c.gl hk
      rw [ha] at hb
      cases hb
      exact ⟨a, vs, rfl, h1, paired_map q fun _ _ _ z => z.grow (Grow.refl _ _) (Pre.refl _) (Pre.nil _)⟩
    · rename_i ds' hk
      cases h
      obtain ⟨a, ha, rfl⟩ := r
      obtain ⟨b, hb, vs, h1, q⟩ := paired_get c.gl hk
      rw [ha] at hb
      cases hb
      exact ⟨a, vs, rfl, h1, repL_rs q⟩
    · cases h
  · cases h
theorem atI_some {α : Type} {xs : List α} {i : Int} {x : α} (h : atI xs i = some x) : ∃ j, ixN xs.length i = some j ∧ xs[j]? = some x := by
  unfold atI at h
  cases e : ixN xs.length i with
  | none =>
    rw [e] at h
    cases h
  | some j =>
    rw [e] at h
    exact ⟨j, rfl, h⟩
theorem u_ix_h {x : S} {xs : List S} {i : Int} {s : S} (hx : hlG G L x = some xs) (hi : atI xs i = some s) (k : Qd s G L) : OpC K (rIx K) x (.d (.int i)) Δ G L Qd := fun w ls σ H vx vy c rx ry Q q => by
  obtain ⟨a, vs, rfl, h1, q1⟩ := hlG_get c rx hx
  obtain ⟨j, e, hj⟩ := atI_some hi
  obtain ⟨v, hv, r⟩ := paired_get_l q1 hj
  refine .inl ⟨a, vs, i, v, rfl, ry, .inl (.inl h1), ?_, q.go c Ext.refl r k⟩
  unfold atI
  rw [← paired_len q1, e]
  exact hv
theorem u_ix_g {x : S} {xs : List D} {i : Int} {d : D} (hx : seqG G L x = some xs) (hi : atI xs i = some d) (k : Qd (.d d) G L) : OpC K (rIx K) x (.d (.int i)) Δ G L Qd := fun w ls σ H vx vy c rx ry Q q => by
  obtain ⟨a, vs, rfl, h1, q1⟩ := seqG_get c rx hx
  obtain ⟨j, e, hj⟩ := atI_some hi
  obtain ⟨v, hv, r⟩ := q1.get hj
  have ha : atI vs i = some v := by
    unfold atI
    rw [q1.length, e]
    exact hv
  rcases h1 with h1 | h1
  · exact .inl ⟨a, vs, i, v, rfl, ry, h1, ha, q.go c Ext.refl (s := .d d) r k⟩
  · exact .inr (.inl ⟨a, vs, i, v, rfl, ry, h1, ha, q.go c Ext.refl (s := .d d) r k⟩)
/-- o[i] = v -/
def StoC (K : PySem.W.Frag) (r : TSet) (o i v : S) (Δ : Sl) (G L : List M) (Qt : List M → List M → Prop) : Prop :=
  ∀ w ls σ H vo vi vv, Ctx K w ls σ H Δ G L → RS K H (Rg w ls) w.gs ls o vo → RS K H (Rg w ls) w.gs ls i vi → RS K H (Rg w ls) w.gs ls v vv → ∀ Q : Hp → Prop,
    (∀ H2 G2 L2, Ctx K w ls σ H2 Δ G2 L2 → Ext w ls H H2 → Qt G2 L2 → Q H2) → r vo vi vv H Q
theorem tg_sub {to ti : TE} {t : TSet} {s : S} {Qt : PoT} {ok : Nat → Prop} (h : EvC K to Δ G L fun o G1 L1 => EvC K ti Δ G1 L1 fun i G2 L2 => StoC K t o i s Δ G2 L2 fun G3 L3 => Qt Δ G3 L3) : TgC K (gSub to ti t) ok s Δ G L Qt :=
  fun w ls σ H v c r Q q => h w ls σ H c _ fun vo o H2 G2 L2 c2 e2 r2 h2 => h2 w ls σ H2 c2 _ fun vi i H3 G3 L3 c3 e3 r3 h3 =>
    h3 w ls σ H3 vo vi v c3 (r2.on c2 e3) r3 ((r.on c e2).on c2 e3) _ fun H4 G4 L4 c4 e4 k => q σ H4 Δ G4 L4 c4 (e2.trans (e3.trans e4)) rfl (fun _ _ => rfl) k
theorem paired_setV {F : S → V → Prop} {ss : List S} {vs : List V} {j : Nat} {s : S} {v : V} (h : Paired F ss vs) (q : F s v) : Paired F (ss.set j s) (vs.set j v) := by
  induction h generalizing j with
  | nil => exact .nil
  | cons a t ih =>
    cases j with
    | zero => exact .cons q t
    | succ j => exact .cons a ih
theorem repL_set {H : Hp} {R : Addr → Prop} : ∀ {ds : List D} {vs : List V} {j : Nat} {d : D} {v : V}, RepL K H R ds vs → Rep K H R d v → RepL K H R (ds.set j d) (vs.set j v)
  | [], _, _, _, _, h, _ => by
    cases h
    rfl
  | _ :: _, _, 0, _, _, ⟨y, ys, e, h, r⟩, q => by
    subst e
    exact ⟨_, _, rfl, q, r⟩
  | _ :: _, _, j + 1, _, _, ⟨y, ys, e, h, r⟩, q => by
    subst e
    exact ⟨_, _, rfl, h, repL_set r q⟩
theorem sto_gh {k : Nat} {xs : List S} {i : Int} {j : Nat} {s : S} {Qt : List M → List M → Prop} (hx : G[k]? = some (.hl xs)) (hj : ixN xs.length i = some j) (hs : noL [s] = true) (q : Qt (G.set k (.hl (xs.set j s))) L) : StoC K rSetL (.g k) (.d (.int i)) s Δ G L Qt := fun w ls σ H vo vi vv c ro ri rv Q ret => by
  obtain ⟨a, ha, rfl⟩ := ro
  obtain ⟨b, hb, vs, h1, r⟩ := paired_get c.gl hx
  rw [ha] at hb
  cases hb
  cases ri
  have g : Grow H (upd H a (.lst (vs.set j vv))) (Rg w ls) (Rg w ls) := grow_upd (.inl (c.reg a (List.mem_of_getElem? ha)))
  obtain ⟨_, rv'⟩ := pair1 (noL_rs (ls' := []) hs (.cons rv .nil))
  refine ⟨a, vs, i, j, rfl, rfl, h1, by rw [← paired_len r]; exact hj, ret _ _ _ (c.setG (m := .hl _) ha ⟨_, upd_same, paired_map (paired_setV r ?_) fun _ _ _ z => z.grow g (Pre.refl _) (Pre.refl _)⟩) (Ext.setG (List.mem_of_getElem? ha)) q⟩
  obtain ⟨e, h⟩ := rv'
  cases e
  exact h
theorem sto_lp {k : Nat} {xs : List D} {i : Int} {j : Nat} {x : D} {Qt : List M → List M → Prop} (hx : L[k]? = some (.pl xs)) (hj : ixN xs.length i = some j) (q : Qt G (L.set k (.pl (xs.set j x)))) : StoC K rSetL (.l k) (.d (.int i)) (.d x) Δ G L Qt := fun w ls σ H vo vi vv c ro ri rv Q ret => by
  obtain ⟨a, ha, rfl⟩ := ro
  obtain ⟨b, hb, vs, h1, r⟩ := paired_get c.lo hx
  rw [ha] at hb
  cases hb
  cases ri
  have g : Grow H (upd H a (.lst (vs.set j vv))) (Rg w ls) (Rg w ls) := grow_upd (.inr (List.mem_of_getElem? ha))
  exact ⟨a, vs, i, j, rfl, rfl, h1, by rw [r.length]; exact hj, ret _ _ _ (c.setL (m := .pl _) ha ⟨_, upd_same, (repL_set r rv).grow g⟩) (Ext.setL (List.mem_of_getElem? ha)) q⟩

/-! ### methods -/
def MtC (K : PySem.W.Frag) (r : V → List V → Hp → VK → Prop) (x : S) (ss : List S) (Δ : Sl) (G L : List M) (Qd : Po) : Prop :=
  ∀ w ls σ H vx vs, Ctx K w ls σ H Δ G L → RS K H (Rg w ls) w.gs ls x vx → Paired (RS K H (Rg w ls) w.gs ls) ss vs → ∀ Q, Ret K w ls σ Δ H Qd Q → r vx vs H Q
def MtN (K : PySem.W.Frag) (r : V → List V → Hp → VK → Prop) (x : S) (ss : List S) (Δ : Sl) (G L : List M) (Qd : PoN) : Prop :=
  ∀ w ls σ H vx vs, Ctx K w ls σ H Δ G L → RS K H (Rg w ls) w.gs ls x vx → Paired (RS K H (Rg w ls) w.gs ls) ss vs → ∀ Q, RetN K w ls σ Δ H Qd Q → r vx vs H Q
theorem mtn_c {r : V → List V → Hp → VK → Prop} {x : S} {ss : List S} (h : MtN K r x ss Δ G L fun m G1 L1 => ∃ x, m.dat = some x ∧ Qd (.d x) G1 L1) : MtC K r x ss Δ G L Qd :=
  fun w ls σ H vx vs c rx rs Q q => h w ls σ H vx vs c rx rs Q fun p m H2 G2 L2 _ n e ⟨x, hx, k⟩ => q.go n.c e (s := .d x) (n.dat x hx) k
/-- the receiver is of the built-in type -/
def tyS (G L : List M) (T : String) (s : S) : Prop := (T = "list" ∧ ((∃ ds, lsG G L s = some ds) ∨ ∃ ds, hlG G L s = some ds)) ∨ (T = "str" ∧ ∃ z, s = .d (.str z))
theorem tyS_ok {w : W} {ls : List Addr} {σ : L2.St} {H : Hp} {T : String} {s : S} {v : V} (c : Ctx K w ls σ H Δ G L) (r : RS K H (Rg w ls) w.gs ls s v) (h : tyS G L T s) : tyV K T v H := by
  rcases h with ⟨rfl, ⟨ds, h⟩ | ⟨ds, h⟩⟩ | ⟨rfl, z, rfl⟩
  · obtain ⟨a, vs, rfl, h1, _⟩ := lsG_get c r h
    exact .inl ⟨rfl, vs, .inl (.inl h1)⟩
  · obtain ⟨a, vs, rfl, h1, _⟩ := hlG_get c r h
    exact .inl ⟨rfl, vs, .inl (.inl h1)⟩
  · cases r
    rfl
theorem evc_bm {T : String} {r : V → List V → Hp → VK → Prop} {to : TE} {t : TA} (h : EvC K to Δ G L fun x G1 L1 => tyS G1 L1 T x ∧ EvA K t Δ G1 L1 fun ss G2 L2 => MtC K r x ss Δ G2 L2 Qd) : EvC K (tBM K T r to t) Δ G L Qd :=
  fun w ls σ H c Q ret => h w ls σ H c _ fun v s H2 G2 L2 c2 e2 r2 ⟨ht, h2⟩ => ⟨tyS_ok c2 r2 ht, h2 w ls σ H2 c2 _ fun vs ss H3 G3 L3 c3 e3 r3 h3 => h3 w ls σ H3 v vs c3 (r2.on c2 e3) r3 Q (ret.ext (e2.trans e3))⟩
theorem evc_bm0 {T : String} {r : V → List V → Hp → VK → Prop} {to : TE} (h : EvC K to Δ G L fun x G1 L1 => tyS G1 L1 T x ∧ MtC K r x [] Δ G1 L1 Qd) : EvC K (tBM0 K T r to) Δ G L Qd :=
  fun w ls σ H c Q ret => h w ls σ H c _ fun v s H2 G2 L2 c2 e2 r2 ⟨ht, h2⟩ => ⟨tyS_ok c2 r2 ht, h2 w ls σ H2 v [] c2 r2 .nil Q (ret.ext e2)⟩
theorem evc_m0 {r : V → List V → Hp → VK → Prop} {to : TE} (h : EvC K to Δ G L fun x G1 L1 => (∃ z, x = .d (.str z)) ∧ MtC K r x [] Δ G1 L1 Qd) : EvC K (tM0 r to) Δ G L Qd :=
  fun w ls σ H c Q ret => h w ls σ H c _ fun v s H2 G2 L2 c2 e2 r2 ⟨⟨z, e⟩, h2⟩ => ⟨by subst e; exact ⟨z, r2⟩, h2 w ls σ H2 v [] c2 r2 .nil Q (ret.ext e2)⟩
theorem evc_m1 {r : V → List V → Hp → VK → Prop} {to ta : TE} (h : EvC K to Δ G L fun x G1 L1 => (∃ z, x = .d (.str z)) ∧ EvC K ta Δ G1 L1 fun y G2 L2 => MtC K r x [y] Δ G2 L2 Qd) : EvC K (tM1 r to ta) Δ G L Qd :=
  fun w ls σ H c Q ret => h w ls σ H c _ fun v s H2 G2 L2 c2 e2 r2 ⟨⟨z, e⟩, h2⟩ => ⟨by subst e; exact ⟨z, r2⟩, h2 w ls σ H2 c2 _ fun vs ss H3 G3 L3 c3 e3 r3 h3 => h3 w ls σ H3 v [vs] c3 (r2.on c2 e3) (.cons r3 .nil) Q (ret.ext (e2.trans e3))⟩
/-- the own list k, the store's list k: appended, popped -/
theorem mt_app_l {k : Nat} {ds : List D} {x : D} (h : L[k]? = some (.pl ds)) (hl : ds.length < sizeLine) (q : Qd (.d .non) G (L.set k (.pl (ds ++ [x])))) : MtC K rAppend (.l k) [.d x] Δ G L Qd := fun w ls σ H vo vs c ro rs Q ret => by
  obtain ⟨v, rfl, r⟩ := pair1 rs
  obtain ⟨a, ha, rfl⟩ := ro
  obtain ⟨b, hb, us, h1, r1⟩ := paired_get c.lo h
  rw [ha] at hb
  cases hb
  have g : Grow H (upd H a (.lst (us ++ [v]))) (Rg w ls) (Rg w ls) := grow_upd (.inr (List.mem_of_getElem? ha))
  exact ⟨a, us, v, rfl, rfl, h1, by rw [r1.length]; exact hl, ret.go (c.setL (m := .pl _) ha ⟨_, upd_same, (r1.app (RepL.one r)).grow g⟩) (Ext.setL (List.mem_of_getElem? ha)) (s := .d .non) rfl q⟩
theorem mt_app_g {k : Nat} {ds : List D} {x : D} (h : G[k]? = some (.pl ds)) (hl : ds.length < sizeLine) (q : Qd (.d .non) (G.set k (.pl (ds ++ [x]))) L) : MtC K rAppend (.g k) [.d x] Δ G L Qd := fun w ls σ H vo vs c ro rs Q ret => by
  obtain ⟨v, rfl, r⟩ := pair1 rs
  obtain ⟨a, ha, rfl⟩ := ro
  obtain ⟨b, hb, us, h1, r1⟩ := paired_get c.gl h
  rw [ha] at hb
  cases hb
  have g : Grow H (upd H a (.lst (us ++ [v]))) (Rg w ls) (Rg w ls) := grow_upd (.inl (c.reg a (List.mem_of_getElem? ha)))
  exact ⟨a, us, v, rfl, rfl, h1, by rw [r1.length]; exact hl, ret.go (c.setG (m := .pl _) ha ⟨_, upd_same, (r1.app (RepL.one r)).grow g⟩) (Ext.setG (List.mem_of_getElem? ha)) (s := .d .non) rfl q⟩
theorem repL_dropLast {H : Hp} {R : Addr → Prop} {ds : List D} {vs : List V} (r : RepL K H R ds vs) : RepL K H R ds.dropLast vs.dropLast := by
  rw [List.dropLast_eq_take, List.dropLast_eq_take, r.length]
  exact r.take _
theorem mt_pop_g {k : Nat} {ds : List D} {x : D} (h : G[k]? = some (.pl ds)) (hx : ds[ds.length - 1]? = some x) (q : Qd (.d x) (G.set k (.pl ds.dropLast)) L) : MtC K rPop (.g k) [] Δ G L Qd := fun w ls σ H vo vs c ro rs Q ret => by
  cases rs
  obtain ⟨a, ha, rfl⟩ := ro
  obtain ⟨b, hb, us, h1, r1⟩ := paired_get c.gl h
  rw [ha] at hb
  cases hb
  obtain ⟨y, hy, ry⟩ := r1.get hx
  have g : Grow H (upd H a (.lst us.dropLast)) (Rg w ls) (Rg w ls) := grow_upd (.inl (c.reg a (List.mem_of_getElem? ha)))
  exact ⟨a, us, y, rfl, rfl, h1, by rw [r1.length]; exact hy, ret.go (c.setG (m := .pl _) ha ⟨_, upd_same, (repL_dropLast r1).grow g⟩) (Ext.setG (List.mem_of_getElem? ha)) (s := .d x) (ry.grow g) q⟩
theorem repL_erase {H : Hp} {R : Addr → Prop} {ds : List D} {vs : List V} (r : RepL K H R ds vs) (j : Nat) : RepL K H R (ds.eraseIdx j) (vs.eraseIdx j) := by
  rw [List.eraseIdx_eq_take_drop_succ, List.eraseIdx_eq_take_drop_succ]
  exact (r.take _).app (r.drop _)
theorem mt_popAt_l {k j : Nat} {i : Int} {ds : List D} {x : D} (h : L[k]? = some (.pl ds)) (h0 : 0 ≤ i) (hi : i < 2 ^ 62) (hj : i.toNat = j) (hx : ds[j]? = some x) (q : Qd (.d x) G (L.set k (.pl (ds.eraseIdx j)))) : MtC K rPopAt (.l k) [.d (.int i)] Δ G L Qd := fun w ls σ H vo vs c ro rs Q ret => by
  obtain ⟨v, rfl, r⟩ := pair1 rs
  cases r
  obtain ⟨a, ha, rfl⟩ := ro
  obtain ⟨b, hb, us, h1, r1⟩ := paired_get c.lo h
  rw [ha] at hb
  cases hb
  obtain ⟨y, hy, ry⟩ := r1.get hx
  have g : Grow H (upd H a (.lst (us.eraseIdx j))) (Rg w ls) (Rg w ls) := grow_upd (.inr (List.mem_of_getElem? ha))
  have hjl : j < us.length := (List.getElem?_eq_some_iff.mp hy).1
  refine ⟨a, us, i, j, y, rfl, rfl, h1, by omega, by omega, ?_, hy, ret.go (c.setL (m := .pl _) ha ⟨_, upd_same, (repL_erase r1 j).grow g⟩) (Ext.setL (List.mem_of_getElem? ha)) (s := .d x) (ry.grow g) q⟩
  rw [seqIndex_of h0 (by omega), hj]
theorem mt_upper_d {z : Str} (hz : z.length ≤ 5592405) (k : Qd (.d (.str (Txt.upper z))) G L) : MtC K (fun x xs H Q => ∃ a, x = .str a ∧ xs = [] ∧ a.length ≤ 5592405 ∧ Q (.str (Txt.upper a)) H) (.d (.str z)) [] Δ G L Qd := fun w ls σ H vo vs c ro rs Q ret => by
  cases rs
  exact ⟨z, ro, rfl, hz, ret.go c Ext.refl (s := .d (.str (Txt.upper z))) rfl k⟩
end
end
end DL

namespace DL
open PySem PySem.Spec PyProof.Rows L2
section
variable {K : PySem.W.Frag}
/-! ### equality of data -/
mutual
def D.py : D → Option PyData
  | .non => some .none
  | .bl b => some (.bool b)
  | .int i => some (.int i)
  | .str x => some (.str x)
  | .tup ds => match pyL ds with
    | some xs => some (.tuple xs)
    | none => none
  | .lst ds => match pyL ds with
    | some xs => some (.list xs)
    | none => none
  | _ => none
def pyL : List D → Option (List PyData)
  | [] => some []
  | d :: ds => match d.py, pyL ds with
    | some x, some xs => some (x :: xs)
    | _, _ => none
end
mutual
theorem rep_dp {H : Hp} {R : Addr → Prop} : ∀ {d : D} {v : V} {p : PyData}, d.py = some p → Rep K H R d v → Dp K H v p
  | .non, _, _, e, h => by
    cases e
    cases h
    exact .non
  | .bl _, _, _, e, h => by
    cases e
    cases h
    exact .bl _
  | .int _, _, _, e, h => by
    cases e
    cases h
    exact .int _
  | .str _, _, _, e, h => by
    cases e
    cases h
    exact .str _
  | .tup ds, _, _, e, ⟨a, xs, e1, h, r⟩ => by
    unfold D.py at e
    split at e
    · rename_i ps hp
      cases e
      subst e1
      exact .tup h.sq (repL_dp hp r)
    · cases e
  | .lst ds, _, _, e, ⟨a, xs, e1, ⟨h, _⟩, r⟩ => by
    unfold D.py at e
    split at e
    · rename_i ps hp
      cases e
      subst e1
      exact .lst (.inl (.inl h)) (repL_dp hp r)
    · cases e
  | .ty _, _, _, e, _ => by cases e
  | .ref _, _, _, e, _ => by cases e
  | .scr _, _, _, e, _ => by cases e
  | .dct _, _, _, e, _ => by cases e
  | .ins _ _, _, _, e, _ => by cases e
theorem repL_dp {H : Hp} {R : Addr → Prop} : ∀ {ds : List D} {vs : List V} {ps : List PyData}, pyL ds = some ps → RepL K H R ds vs → DpAll K H vs ps
  | [], _, _, e, h => by
    cases e
    cases h
    exact .nil
  | d :: ds, _, _, e, ⟨y, ys, e1, h, r⟩ => by
    unfold pyL at e
    split at e
    · rename_i p ps hp hps
      cases e
      subst e1
      exact .cons (rep_dp hp h) (repL_dp hps r)
    · cases e
end
/-- a slot's value as data -/
def valG (G L : List M) : S → Option D
  | .d x => some x
  | .l k => match L[k]? with
    | some (.pl ds) => some (.lst ds)
    | _ => none
  | .g k => match G[k]? with
    | some (.pl ds) => some (.lst ds)
    | _ => none
theorem valG_dp {w : W} {ls : List Addr} {σ : L2.St} {H : Hp} {Δ : Sl} {G L : List M} {v : V} {s : S} {x : D} {p : PyData} (c : Ctx K w ls σ H Δ G L) (r : RS K H (Rg w ls) w.gs ls s v) (h : valG G L s = some x) (hp : x.py = some p) : Dp K H v p := by
  unfold valG at h
  split at h
  · cases h
    exact rep_dp hp r
  · rename_i k
    split at h
    · rename_i ds hk
      cases h
      have q : lsG G L (.l k) = some ds := by
        simp only [lsG, hk]
      obtain ⟨a, vs, rfl, h1, r1⟩ := lsG_get c r q
      unfold D.py at hp
      split at hp
      · rename_i ps hps
        cases hp
        exact .lst (.inl (.inl h1)) (repL_dp hps r1)
      · cases hp
    · cases h
  · rename_i k
    split at h
    · rename_i ds hk
      cases h
      have q : lsG G L (.g k) = some ds := by
        simp only [lsG, hk]
      obtain ⟨a, vs, rfl, h1, r1⟩ := lsG_get c r q
      unfold D.py at hp
      split at hp
      · rename_i ps hps
        cases hp
        exact .lst (.inl (.inl h1)) (repL_dp hps r1)
      · cases hp
    · cases h
def uEq (K : PySem.W.Frag) : R2 := fun x y H Q => rEq x y H Q ∨ rEqD K x y H Q
def uNe (K : PySem.W.Frag) : R2 := fun x y H Q => rNe x y H Q ∨ rNeD K x y H Q
theorem uo_eq {X : Cx} (hu : X.A.units + 64 < cLine) : OpR X (compareOp .Eq) (uEq X.K) := op_eq.or (op_eqD hu)
theorem uo_ne {X : Cx} (hu : X.A.units + 64 < cLine) : OpR X (compareOp .NotEq) (uNe X.K) := op_ne.or (op_neD hu)
section
variable {Δ : Sl} {G L : List M} {Qd : Po}
theorem u_eq_i {i j : Int} (k : Qd (.d (.bl (decide (i = j)))) G L) : OpC K (uEq K) (.d (.int i)) (.d (.int j)) Δ G L Qd := fun w ls σ H vx vy c rx ry Q q => by
  cases rx
  cases ry
  refine .inl ⟨rfl, ?_⟩
  have e : decide (V.int i = V.int j) = decide (i = j) := by simp
  rw [e]
  exact q.go c Ext.refl (s := .d (.bl (decide (i = j)))) rfl k
theorem u_ne_i {i j : Int} (k : Qd (.d (.bl (!decide (i = j)))) G L) : OpC K (uNe K) (.d (.int i)) (.d (.int j)) Δ G L Qd := fun w ls σ H vx vy c rx ry Q q => by
  cases rx
  cases ry
  refine .inl ⟨rfl, ?_⟩
  have e : decide (V.int i = V.int j) = decide (i = j) := by simp
  rw [e]
  exact q.go c Ext.refl (s := .d (.bl (!decide (i = j)))) rfl k
theorem u_eq_s {i j : Str} (k : Qd (.d (.bl (decide (i = j)))) G L) : OpC K (uEq K) (.d (.str i)) (.d (.str j)) Δ G L Qd := fun w ls σ H vx vy c rx ry Q q => by
  cases rx
  cases ry
  refine .inl ⟨rfl, ?_⟩
  have e : decide (V.str i = V.str j) = decide (i = j) := by simp
  rw [e]
  exact q.go c Ext.refl (s := .d (.bl (decide (i = j)))) rfl k
theorem u_ne_s {i j : Str} (k : Qd (.d (.bl (!decide (i = j)))) G L) : OpC K (uNe K) (.d (.str i)) (.d (.str j)) Δ G L Qd := fun w ls σ H vx vy c rx ry Q q => by
  cases rx
  cases ry
  refine .inl ⟨rfl, ?_⟩
  have e : decide (V.str i = V.str j) = decide (i = j) := by simp
  rw [e]
  exact q.go c Ext.refl (s := .d (.bl (!decide (i = j)))) rfl k
theorem u_eq_d {x y : S} {a b : D} {p q : PyData} (hx : valG G L x = some a) (hy : valG G L y = some b) (hp : a.py = some p) (hq : b.py = some q) (sp : SeqAt.shaped p = true) (sq : SeqAt.shaped q = true) (k : Qd (.d (.bl (PyData.eqv p q))) G L) : OpC K (uEq K) x y Δ G L Qd := fun w ls σ H vx vy c rx ry Q ret =>
  .inr ⟨p, q, valG_dp c rx hx hp, valG_dp c ry hy hq, sp, sq, ret.go c Ext.refl (s := .d (.bl (PyData.eqv p q))) rfl k⟩
theorem u_ne_d {x y : S} {a b : D} {p q : PyData} (hx : valG G L x = some a) (hy : valG G L y = some b) (hp : a.py = some p) (hq : b.py = some q) (sp : SeqAt.shaped p = true) (sq : SeqAt.shaped q = true) (k : Qd (.d (.bl (!PyData.eqv p q))) G L) : OpC K (uNe K) x y Δ G L Qd := fun w ls σ H vx vy c rx ry Q ret =>
  .inr ⟨p, q, valG_dp c rx hx hp, valG_dp c ry hy hq, sp, sq, ret.go c Ext.refl (s := .d (.bl (!PyData.eqv p q))) rfl k⟩
theorem py_ints : ∀ ns : List Int, pyL (ns.map D.int) = some (ns.map PyData.int)
  | [] => rfl
  | n :: ns => by
    show (match (D.int n).py, pyL (ns.map D.int) with
      | some x, some xs => some (x :: xs)
      | _, _ => none) = _
    rw [py_ints ns]
    rfl
theorem py_strs : ∀ ns : List Str, pyL (ns.map D.str) = some (ns.map PyData.str)
  | [] => rfl
  | n :: ns => by
    show (match (D.str n).py, pyL (ns.map D.str) with
      | some x, some xs => some (x :: xs)
      | _, _ => none) = _
    rw [py_strs ns]
    rfl
theorem canLay_ints : ∀ ns : List Int, PyData.canLayAll0 (ns.map PyData.int) = true
  | [] => rfl
  | n :: ns => by
    show (PyData.canLay0 (.int n) && PyData.canLayAll0 (ns.map PyData.int)) = true
    rw [canLay_ints ns]
    rfl
theorem depth_ints : ∀ ns : List Int, PyData.depthAll (ns.map PyData.int) ≤ 1
  | [] => by simp [PyData.depthAll]
  | n :: ns => by
    have := depth_ints ns
    simp only [List.map_cons, PyData.depthAll, PyData.depth]
    omega
theorem shaped_ints (ns : List Int) : SeqAt.shaped (.list (ns.map PyData.int)) = true := by
  have h := depth_ints ns
  unfold SeqAt.shaped
  rw [Bool.and_eq_true]
  refine ⟨canLay_ints ns, decide_eq_true ?_⟩
  simp only [PyData.depth]
  omega
theorem shaped_nil : SeqAt.shaped (.list []) = true := by decide
theorem lsG_val {s : S} {ds : List D} (h : lsG G L s = some ds) : valG G L s = some (.lst ds) := by
  unfold lsG at h
  split at h
  · cases h
    rfl
  · split at h
    · rename_i hk
      cases h
      simp only [valG, hk]
    · cases h
  · split at h
    · rename_i hk
      cases h
      simp only [valG, hk]
    · cases h
  · cases h
/-- == [] , != [] of a list of ints -/
theorem u_ne_nil {x y : S} {ns : List Int} (hx : lsG G L x = some (ns.map D.int)) (hy : lsG G L y = some []) (k : Qd (.d (.bl (!ns.isEmpty))) G L) : OpC K (uNe K) x y Δ G L Qd := by
  have e : PyData.eqv (.list (ns.map PyData.int)) (.list []) = ns.isEmpty := by
    cases ns <;> rfl
  refine u_ne_d (lsG_val hx) (lsG_val hy) (by unfold D.py; rw [py_ints]) (by rfl) (shaped_ints ns) shaped_nil ?_
  rw [e]
  exact k
theorem u_eq_nil {x y : S} {ns : List Int} (hx : lsG G L x = some (ns.map D.int)) (hy : lsG G L y = some []) (k : Qd (.d (.bl ns.isEmpty)) G L) : OpC K (uEq K) x y Δ G L Qd := by
  have e : PyData.eqv (.list (ns.map PyData.int)) (.list []) = ns.isEmpty := by
    cases ns <;> rfl
  refine u_eq_d (lsG_val hx) (lsG_val hy) (by unfold D.py; rw [py_ints]) (by rfl) (shaped_ints ns) shaped_nil ?_
  rw [e]
  exact k
/-! membership: ints in ints, texts in texts -/
def uIn (K : PySem.W.Frag) (neg : Bool) : R2 := fun x y H Q => rIn K neg x y H Q ∨ ∃ (c : Nat) (z : Str), x = .str ⟨#[c]⟩ ∧ y = .str z ∧ Q (.bl (if neg then !decide (c ∈ z.cps.toList) else decide (c ∈ z.cps.toList))) H
theorem uo_in {X : Cx} : OpR X (compareOp .In) (uIn X.K false) := op_in_seq.or op_in_sign
theorem uo_nin {X : Cx} : OpR X (compareOp .NotIn) (uIn X.K true) := op_notIn_seq.or op_notIn_sign
theorem flat_ints (ns : List Int) : (ns.map V.int).all flatV = true := by
  rw [List.all_map, List.all_eq_true]
  intro x _
  rfl
theorem flat_strs (ns : List Str) : (ns.map V.str).all flatV = true := by
  rw [List.all_map, List.all_eq_true]
  intro x _
  rfl
theorem inV_ints {i : Int} {ns : List Int} : inV (.int i) (ns.map V.int) = decide (i ∈ ns) := by
  unfold inV
  induction ns with
  | nil => rfl
  | cons a r ih =>
    rw [List.map_cons, List.any_cons, ih]
    have : eqV (.int a) (.int i) = decide (i = a) := by
      show (a == i) = decide (i = a)
      by_cases h : a = i
      · subst h
        rw [decide_eq_true rfl]
        exact beq_self_eq_true a
      · rw [decide_eq_false (fun z => h z.symm)]
        exact beq_eq_false_iff_ne.mpr h
    rw [this, Bool.eq_iff_iff]
    simp only [Bool.or_eq_true, decide_eq_true_eq, List.mem_cons]
theorem inV_strs {i : Str} {ns : List Str} : inV (.str i) (ns.map V.str) = decide (i ∈ ns) := by
  unfold inV
  induction ns with
  | nil => rfl
  | cons a r ih =>
    rw [List.map_cons, List.any_cons, ih]
    have : eqV (.str a) (.str i) = decide (i = a) := by
      show (a == i) = decide (i = a)
      by_cases h : a = i
      · subst h
        rw [decide_eq_true rfl]
        exact beq_self_eq_true a
      · rw [decide_eq_false (fun z => h z.symm)]
        exact beq_eq_false_iff_ne.mpr h
    rw [this, Bool.eq_iff_iff]
    simp only [Bool.or_eq_true, decide_eq_true_eq, List.mem_cons]
theorem u_in_i {neg : Bool} {i : Int} {y : S} {ns : List Int} (hy : seqG G L y = some (ns.map D.int)) (k : Qd (.d (.bl (if neg then !decide (i ∈ ns) else decide (i ∈ ns)))) G L) : OpC K (uIn K neg) (.d (.int i)) y Δ G L Qd := fun w ls σ H vx vy c rx ry Q q => by
  cases rx
  obtain ⟨a, vs, rfl, h1, q1⟩ := seqG_get c ry hy
  have e := RepL.intsV q1
  subst e
  refine .inl ⟨a, _, rfl, h1, rfl, flat_ints ns, ?_⟩
  rw [inV_ints]
  exact q.go c Ext.refl (s := .d (.bl (if neg then !decide (i ∈ ns) else decide (i ∈ ns)))) rfl k
theorem u_in_s {neg : Bool} {i : Str} {y : S} {ns : List Str} (hy : seqG G L y = some (ns.map D.str)) (k : Qd (.d (.bl (if neg then !decide (i ∈ ns) else decide (i ∈ ns)))) G L) : OpC K (uIn K neg) (.d (.str i)) y Δ G L Qd := fun w ls σ H vx vy c rx ry Q q => by
  cases rx
  obtain ⟨a, vs, rfl, h1, q1⟩ := seqG_get c ry hy
  have e := RepL.strsV q1
  subst e
  refine .inl ⟨a, _, rfl, h1, rfl, flat_strs ns, ?_⟩
  rw [inV_strs]
  exact q.go c Ext.refl (s := .d (.bl (if neg then !decide (i ∈ ns) else decide (i ∈ ns)))) rfl k
theorem u_in_c {neg : Bool} {ch : Nat} {z : Str} (k : Qd (.d (.bl (if neg then !decide (ch ∈ z.cps.toList) else decide (ch ∈ z.cps.toList)))) G L) : OpC K (uIn K neg) (.d (.str ⟨#[ch]⟩)) (.d (.str z)) Δ G L Qd := fun w ls σ H vx vy c rx ry Q q =>
  .inr ⟨ch, z, rx, ry, q.go c Ext.refl (s := .d (.bl (if neg then !decide (ch ∈ z.cps.toList) else decide (ch ∈ z.cps.toList)))) rfl k⟩
end
end
end DL

namespace DL
open PySem PySem.Spec PyProof.Rows L2
/-! ### walks over a list, a tuple or a text -/
def iSeq (K : PySem.W.Frag) (tl : TE) : TI := fun σ H R => tl σ H fun x H1 => (∃ a, x = .ref a ∧ (∃ xs, SqL K H1 a xs) ∧ R (Itl K a) H1) ∨ (∃ a, x = .ref a ∧ (∃ xs, SqT K H1 a xs) ∧ R (Itt K a) H1) ∨ (∃ z, x = .str z ∧ R (Its z) H1)
theorem pi_seq {X : Cx} {tg l : Expr} {tl : TE} (hl : PE X l tl) : PI X tg l (iSeq X.K tl) := by
  refine ⟨fun pins s σ H R I h => ?_⟩
  refine thn (hl.run pins s σ H _ I h) fun v s1 ⟨x, H1, I1, r1, q1⟩ => ?_
  rcases q1 with ⟨a, e, ⟨xs, hq⟩, q⟩ | ⟨a, e, ⟨xs, hq⟩, q⟩ | ⟨z, e, q⟩
  · subst e
    cases r1
    obtain ⟨its, rv, p, hz⟩ := I1.list hq
    refine wpAny_pyIter_list p.isList ?_
    refine ⟨s1.heap.objs.size, [s1.heap.objs.size], _, _, H1, rfl, I1.kept (t' := s1.toks) fun b o e => Heap.get?_push_of_some _ e, turn_list a _, ⟨_, Heap.get?_push_size _ rfl, rfl, rfl⟩, fun b hb => ?_, q⟩
    have e : b = s1.heap.objs.size := by simpa using hb
    subst e
    exact I1.fpOk (Nat.le_refl _) (I1.hok.fresh (Nat.le_refl _))
  · subst e
    cases r1
    obtain ⟨its, rv, p, hz⟩ := I1.tuple hq
    refine wpAny_pyIter_tuple (show s1.heap.IsTuple a its.toArray from p) ?_
    refine ⟨s1.heap.objs.size, [s1.heap.objs.size], _, _, H1, rfl, I1.kept (t' := s1.toks) fun b o e => Heap.get?_push_of_some _ e, turn_tuple a _, ⟨_, Heap.get?_push_size _ rfl, rfl, rfl⟩, fun b hb => ?_, q⟩
    have e : b = s1.heap.objs.size := by simpa using hb
    subst e
    exact I1.fpOk (Nat.le_refl _) (I1.hok.fresh (Nat.le_refl _))
  · subst e
    obtain ⟨t, rfl⟩ := r1
    cases ha : z.cps.all (· < 128)
    · exact wpAny_pyIter_wide ha (pi_one (tk := s1.toks) I1 _ (turn_str _ z t "str_iterator" (.inr rfl)) ⟨_, Heap.get?_push_size _ rfl, rfl, rfl⟩ q)
    · exact wpAny_pyIter_ascii ha (pi_one (tk := s1.toks) I1 _ (turn_str _ z t "str_ascii_iterator" (.inl rfl)) ⟨_, Heap.get?_push_size _ rfl, rfl, rfl⟩ q)
section
variable {K : PySem.W.Frag} {Δ : Sl} {G L : List M} {Qd : Po} {te : TE}
/-- what is walked, as data -/
def itD : D → Option (List D)
  | .lst ds => some ds
  | .tup ds => some ds
  | .scr ns => some (ns.map .int)
  | .str z => some (signsD z)
  | _ => none
theorem evi_seq {tl : TE} {Qi : List D → List M → List M → Prop} (h : EvC K tl Δ G L fun s G1 L1 => ∃ d ds, s = .d d ∧ itD d = some ds ∧ Qi ds G1 L1) : EvI K (iSeq K tl) Δ G L Qi := fun w ls σ H c R q =>
  h w ls σ H c _ fun v s H2 G2 L2 c2 e2 r2 ⟨d, ds, e, hd, k⟩ => by
    subst e
    unfold itD at hd
    split at hd
    · cases hd
      obtain ⟨a, vs, rfl, ⟨h1, n1⟩, r1⟩ := r2
      refine .inl ⟨a, rfl, ⟨vs, .inl (.inl h1)⟩, q _ H2 _ G2 L2 c2 e2 ⟨fun H3 w2 ls2 σ2 Δ2 G3 L3 i d g c3 hi => ?_, fun H3 w2 ls2 g => ?_⟩ k⟩
      · obtain ⟨x, hx, rx⟩ := (r1.grow g).get hi
        have h3 := g.keep a _ h1 n1
        refine ⟨⟨vs, x, .inl (.inl h3), hx⟩, fun y H' ⟨hH, hy⟩ => ?_⟩
        subst hH
        have e := hy vs (.inl (.inl h3))
        rw [hx] at e
        cases e
        exact ⟨c3, Ext.refl, rx⟩
      · exact ⟨vs, .inl (.inl (g.keep a _ h1 n1)), Nat.le_of_eq r1.length⟩
    · cases hd
      obtain ⟨a, vs, rfl, h1, r1⟩ := r2
      refine .inr (.inl ⟨a, rfl, ⟨vs, h1.sq⟩, q _ H2 _ G2 L2 c2 e2 ⟨fun H3 w2 ls2 σ2 Δ2 G3 L3 i d g c3 hi => ?_, fun H3 w2 ls2 g => ?_⟩ k⟩)
      · obtain ⟨x, hx, rx⟩ := (r1.grow g).get hi
        have h3 := (h1.grow g).sq
        refine ⟨⟨vs, x, h3, hx⟩, fun y H' ⟨hH, hy⟩ => ?_⟩
        subst hH
        have e := hy vs h3
        rw [hx] at e
        cases e
        exact ⟨c3, Ext.refl, rx⟩
      · exact ⟨vs, (h1.grow g).sq, Nat.le_of_eq r1.length⟩
    · rename_i ns _hh
      cases hd
      obtain ⟨a, rfl, h1⟩ := r2
      refine .inl ⟨a, rfl, ⟨_, h1.sq⟩, q _ H2 _ G2 L2 c2 e2 ⟨fun H3 w2 ls2 σ2 Δ2 G3 L3 i d g c3 hi => ?_, fun H3 w2 ls2 g => ?_⟩ k⟩
      · have h3 := (h1.grow g).sq
        obtain ⟨x, hx, rx⟩ := (RepL.ints (K := K) (H := H3) (R := Rg w2 ls2)).get hi
        refine ⟨⟨_, x, h3, hx⟩, fun y H' ⟨hH, hy⟩ => ?_⟩
        subst hH
        have e := hy _ h3
        rw [hx] at e
        cases e
        exact ⟨c3, Ext.refl, rx⟩
      · exact ⟨_, (h1.grow g).sq, by rw [List.length_map, List.length_map]; exact Nat.le_refl _⟩
    · rename_i z _hh
      cases hd
      cases r2
      have hsz : (signsD z).length = z.cps.size := by
        unfold signsD
        rw [List.length_map, Array.length_toList]
      refine .inr (.inr ⟨z, rfl, q _ H2 _ G2 L2 c2 e2 ⟨fun H3 w2 ls2 σ2 Δ2 G3 L3 i d g c3 hi => ?_, fun H3 w2 ls2 g => by show z.cps.size ≤ _; rw [hsz]; exact Nat.le_refl _⟩ k⟩)
      have hlt := (List.getElem?_eq_some_iff.mp hi).1
      rw [hsz] at hlt
      refine ⟨hlt, fun y H' ⟨hH, c, hc, hy⟩ => ?_⟩
      subst hH
      subst hy
      refine ⟨c3, Ext.refl, ?_⟩
      unfold signsD at hi
      rw [List.getElem?_map, Array.getElem?_toList, hc] at hi
      cases hi
      rfl
    · cases hd
/-! texts times ints -/
theorem fold_size {α : Type} (b : Array α) : ∀ (n : Nat) (a : Array α), ((List.replicate n b).foldl (· ++ ·) a).size = a.size + b.size * n
  | 0, a => by simp
  | n + 1, a => by
    rw [List.replicate_succ, List.foldl_cons, fold_size b n, Array.size_append, Nat.mul_succ]
    omega
def strRep (z : Str) (n : Nat) : Str := ⟨(List.replicate n z.cps).foldl (· ++ ·) #[]⟩
def rRepS : R2 := fun x y H Q => ∃ (z : Str) (n : Int), x = .str z ∧ y = .int n ∧ 1 < n ∧ n < 2 ^ 24 ∧ 0 < z.length ∧ z.length < 2 ^ 24 ∧ z.length * n.toNat ≤ 2 ^ 24 ∧ Q (.str (strRep z n.toNat)) H
theorem op_repS {X : Cx} : OpR X (binaryOp .Mult) rRepS := by
  intro pins s σ H x y v u Q I rx ry h
  obtain ⟨z, n, rfl, rfl, h1, h2, h3, h4, h5, q⟩ := h
  obtain ⟨t, rfl⟩ := rx
  obtain ⟨t', rfl⟩ := ry
  have e1 : (n == 1 || z.length == 0) = false := by
    rw [Bool.or_eq_false_iff]
    exact ⟨beq_eq_false_iff_ne.mpr (by omega), beq_eq_false_iff_ne.mpr (by omega)⟩
  refine P.mul_str ?_ (fun _ _ => ?_) (fun _ _ => ?_) ?_
  · rw [decide_eq_false (by omega), decide_eq_false (by omega)]
    rfl
  · intro hh
    have : (2 ^ 63 - 1 : Int) / n ≥ 2 ^ 24 := by
      refine Int.le_ediv_of_mul_le (by omega) ?_
      have : n < 2 ^ 24 := h2
      omega
    omega
  · show decide (z.length * n.toNat > sizeLine) = false
    have : sizeLine = 2 ^ 24 := rfl
    exact decide_eq_false (by omega)
  · rw [if_neg (by omega), if_neg (by rw [e1]; exact Bool.false_ne_true)]
    refine ⟨?_, ⟨.str _, H, I.tok _, ⟨_, rfl⟩, q⟩⟩
    show ((List.replicate n.toNat z.cps).foldl (· ++ ·) #[]).size ≤ sizeLine
    rw [fold_size]
    have : sizeLine = 2 ^ 24 := rfl
    have h5 : z.cps.size * n.toNat ≤ 2 ^ 24 := h5
    rw [this]
    simpa using h5
end
section
variable {K : PySem.W.Frag} {Δ : Sl} {G L : List M} {E : EndsD}
/-- return [a new object, ..] -/
theorem st_ret2 {t0 : TE} {ts : TA} (h : EvN K t0 Δ G L fun m0 G1 L1 => EvA K ts Δ G1 (L1 ++ [m0]) fun ss G2 L2 => ss.length + 1 ≤ sizeLine ∧ E.rt (.l L2.length) G2 (L2 ++ [.hl (.l L1.length :: ss)])) : StC K (tRet (tLst (tCons t0 ts))) Δ G L E := fun w ls σ H c D s =>
  h w ls σ H c _ fun p m H2 G2 L2 hp n e2 k => k w (ls ++ [p]) σ H2 n.own _ fun vs ss H3 G3 L3 c3 e3 r3 ⟨hl, k3⟩ => by
    have hlen : ls.length = L2.length := paired_len n.c.lo
    have hp1 : (ls ++ [p])[L2.length]? = some p := by
      rw [← hlen, List.getElem?_append_right (Nat.le_refl _), Nat.sub_self]
      rfl
    refine ⟨by rw [List.length_cons, paired_len' r3]; exact hl, fun q hq => ?_⟩
    have n2 := newAt_hl (xs := .l L2.length :: ss) c3 hq (.cons ⟨p, hp1, rfl⟩ r3)
    refine s.rt (ls ++ [p] ++ [q]) σ _ Δ G3 _ (.ref q) (.l L3.length) n2.own ⟨q, ?_, rfl⟩ k3
    rw [← paired_len c3.lo, List.getElem?_append_right (Nat.le_refl _), Nat.sub_self]
    rfl
end
/-- the law's own promise, from the script -/
theorem law_sp {K : PySem.W.Frag} {sp : DSpec} {H : Hp} {a : Addr} {ns : List Int} {E : XK} (h : sp [.d (.scr ns)] [] (fun r _ => r = .v (.d (.bl true)))) (hS : SqL K H a (ns.map V.int)) : spD K sp [.ref a] H (fun v _ => v = .bl true) E := by
  refine ⟨⟨fun _ => False, [], H⟩, [.d (.scr ns)], [], _, rfl, ⟨fun _ h => (by cases h), fun _ h => h.elim, List.nodup_nil, fun _ h => (by cases h), fun a o h _ => h, ⟨rfl, fun i s e => by simp at e⟩, .nil, .nil⟩, .cons ⟨a, rfl, ?_⟩ .nil, h, ?_, ?_⟩
  · rcases hS with h | h
    · exact .inl ⟨h, fun r => r.elim (fun z => z) (fun z => by cases z)⟩
    · exact .inr (.inr h)
  · intro v s H' G' c r e
    cases e
    exact r
  · intro ps k p ms H' G' c hp e
    cases e
end DL
namespace DL
open PySem PySem.Spec PyProof.Rows L2
theorem iteTT {A B : Prop} (h : A) : if true = true then A else B := by
  rw [if_pos rfl]
  exact h
theorem iteFF {A B : Prop} (h : B) : if false = true then A else B := by
  rw [if_neg Bool.false_ne_true]
  exact h
theorem iteD {p : Prop} [Decidable p] {A B : Prop} (h1 : p → A) (h2 : ¬ p → B) : if decide p = true then A else B := by
  by_cases h : p
  · rw [decide_eq_true h]
    exact iteTT (h1 h)
  · rw [decide_eq_false h]
    exact iteFF (h2 h)
theorem iteND {p : Prop} [Decidable p] {A B : Prop} (h1 : ¬ p → A) (h2 : p → B) : if (!decide p) = true then A else B := by
  by_cases h : p
  · rw [decide_eq_true h]
    exact iteFF (h2 h)
  · rw [decide_eq_false h]
    exact iteTT (h1 h)
theorem iteB {b : Bool} {A B : Prop} (h1 : b = true → A) (h2 : b = false → B) : if b = true then A else B := by
  cases b with
  | true => exact iteTT (h1 rfl)
  | false => exact iteFF (h2 rfl)
end DL
namespace DL
open PySem PySem.Spec PyProof.Rows L2
section
variable {G L : List M} {k : Nat} {xs : List S} {ds : List D}
theorem hlG_g (h : G[k]? = some (.hl xs)) : hlG G L (.g k) = some xs := by
  simp only [hlG, h]
theorem hlG_gp (h : G[k]? = some (.pl ds)) : hlG G L (.g k) = some (ds.map .d) := by
  simp only [hlG, h]
theorem lsG_g (h : G[k]? = some (.pl ds)) : lsG G L (.g k) = some ds := by
  simp only [lsG, h]
theorem lsG_l (h : L[k]? = some (.pl ds)) : lsG G L (.l k) = some ds := by
  simp only [lsG, h]
theorem seqG_g (h : G[k]? = some (.pl ds)) : seqG G L (.g k) = some ds := lsG_g (L := L) h
theorem seqG_l (h : L[k]? = some (.pl ds)) : seqG G L (.l k) = some ds := lsG_l (G := G) h
theorem tyS_g (h : G[k]? = some (.pl ds)) : tyS G L "list" (.g k) := .inl ⟨rfl, .inl ⟨_, lsG_g h⟩⟩
theorem tyS_l (h : L[k]? = some (.pl ds)) : tyS G L "list" (.l k) := .inl ⟨rfl, .inl ⟨_, lsG_l h⟩⟩
theorem set_at {α : Type} {l : List α} {k : Nat} {x y : α} (h : l[k]? = some y) : (l.set k x)[k]? = some x := by
  rw [List.getElem?_set_self (List.getElem?_eq_some_iff.mp h).1]
theorem set_off {α : Type} {l : List α} {k j : Nat} {x : α} (h : j ≠ k) : (l.set k x)[j]? = l[j]? := List.getElem?_set_ne (Ne.symm h)
theorem set_same {α : Type} {l : List α} {k : Nat} {x : α} (h : l[k]? = some x) : l.set k x = l := by
  refine List.ext_getElem? fun i => ?_
  by_cases e : i = k
  · subst e
    rw [set_at h, h]
  · rw [set_off e]
theorem set_comm {α : Type} {l : List α} {k j : Nat} {x y : α} (h : k ≠ j) : (l.set k x).set j y = (l.set j y).set k x := List.set_comm x y h
theorem set_set {α : Type} {l : List α} {k : Nat} {x y : α} : (l.set k x).set k y = l.set k y := List.set_set ..
end
end DL
namespace DL
open PySem PySem.Spec PyProof.Rows L2
section
variable {K : PySem.W.Frag} {Δ : Sl} {G L : List M} {Qd : Po} {Qn : PoN}
theorem evc_varX {i : Nat} (h : ∃ s, Δ[i]? = some (some s) ∧ Qd s G L) : EvC K (tVar i) Δ G L Qd := let ⟨_, e, k⟩ := h; evc_var e k
theorem u_ix_hX {x : S} {i : Int} (h : ∃ xs, hlG G L x = some xs ∧ ∃ s, atI xs i = some s ∧ Qd s G L) : OpC K (rIx K) x (.d (.int i)) Δ G L Qd := let ⟨_, e, _, e2, k⟩ := h; u_ix_h e e2 k
theorem u_ix_gX {x : S} {i : Int} (h : ∃ xs, seqG G L x = some xs ∧ ∃ d, atI xs i = some d ∧ Qd (.d d) G L) : OpC K (rIx K) x (.d (.int i)) Δ G L Qd := let ⟨_, e, _, e2, k⟩ := h; u_ix_g e e2 k
theorem ap_lenX {s : S} (h : ∃ ds, seqG G L s = some ds ∧ Qd (.d (.int (ds.length : Nat))) G L) : ApC K (uLen K) [s] Δ G L Qd := let ⟨_, e, k⟩ := h; ap_len e k
theorem ap_listX {s : S} (h : ∃ ds, seqG G L s = some ds ∧ Qn (.pl ds) G L) : ApN K (uList K) [s] Δ G L Qn := let ⟨_, e, k⟩ := h; ap_list e k
theorem ap_tupleX {s : S} (h : ∃ ds, lsG G L s = some ds ∧ Qd (.d (.tup ds)) G L) : ApC K (uTuple K) [s] Δ G L Qd := let ⟨_, e, k⟩ := h; ap_tuple e k
theorem u_ne_nilX {x y : S} (h : lsG G L y = some [] ∧ ∃ ns : List Int, lsG G L x = some (ns.map D.int) ∧ Qd (.d (.bl (!ns.isEmpty))) G L) : OpC K (uNe K) x y Δ G L Qd := let ⟨hy, _, hx, k⟩ := h; u_ne_nil hx hy k
theorem u_eq_nilX {x y : S} (h : lsG G L y = some [] ∧ ∃ ns : List Int, lsG G L x = some (ns.map D.int) ∧ Qd (.d (.bl ns.isEmpty)) G L) : OpC K (uEq K) x y Δ G L Qd := let ⟨hy, _, hx, k⟩ := h; u_eq_nil hx hy k
end
end DL
namespace DL
open PySem PySem.Spec PyProof.Rows L2
theorem le_line {n : Nat} (h : n ≤ 100000) : n ≤ sizeLine := Nat.le_trans h (by decide)
theorem lt_line {n : Nat} (h : n ≤ 100000) : n < sizeLine := Nat.lt_of_le_of_lt h (by decide)
section
variable {K : PySem.W.Frag} {Δ : Sl} {G L : List M} {E : EndsD} {t u : TS}
/-- a word between two statements -/
theorem st_mid (P : Sl → List M → List M → Prop) (h : StC K t Δ G L { E with nx := P }) (k : ∀ Δ' G' L', P Δ' G' L' → StC K u Δ' G' L' E) : StC K (tSeq t u) Δ G L E := fun w ls σ H c D s =>
  h w ls σ H c _ ⟨fun ls' σ' H' Δ' G' L' c' g' p => k Δ' G' L' p w ls' σ' H' c' D (s.on g'), s.rt, s.bk, s.ct⟩
end
end DL
namespace DL
open PySem PySem.Spec PyProof.Rows L2
section
variable {K : PySem.W.Frag} {Δ : Sl} {G L : List M} {Qd : Po}
theorem opc_powL (i j : Int) (n : Nat) {z : Int} (hj : j = (n : Int)) (hn : n ≤ 1000000) (hi : i.natAbs < 2 ^ 64) (e : i ^ n = z) (k : Qd (.d (.int z)) G L) : OpC K (rI CPow fun i j => .int (i ^ j.toNat)) (.d (.int i)) (.d (.int j)) Δ G L Qd := by
  subst hj
  subst e
  exact opc_Ii (g := fun i j => i ^ j.toNat) ⟨by omega, by omega, hi⟩ k
theorem pow10_6 (k : Qd (.d (.int 1000000)) G L) : OpC K (rI CPow fun i j => .int (i ^ j.toNat)) (.d (.int 10)) (.d (.int 6)) Δ G L Qd := opc_powL 10 6 6 rfl (by decide) (by decide) (by decide +kernel) k
theorem pow10_9 (k : Qd (.d (.int 1000000000)) G L) : OpC K (rI CPow fun i j => .int (i ^ j.toNat)) (.d (.int 10)) (.d (.int 9)) Δ G L Qd := opc_powL 10 9 9 rfl (by decide) (by decide) (by decide +kernel) k
theorem pow10_12 (k : Qd (.d (.int 1000000000000)) G L) : OpC K (rI CPow fun i j => .int (i ^ j.toNat)) (.d (.int 10)) (.d (.int 12)) Δ G L Qd := opc_powL 10 12 12 rfl (by decide) (by decide) (by decide +kernel) k
theorem pow10_15 (k : Qd (.d (.int 1000000000000000)) G L) : OpC K (rI CPow fun i j => .int (i ^ j.toNat)) (.d (.int 10)) (.d (.int 15)) Δ G L Qd := opc_powL 10 15 15 rfl (by decide) (by decide) (by decide +kernel) k
theorem pow10_18 (k : Qd (.d (.int 1000000000000000000)) G L) : OpC K (rI CPow fun i j => .int (i ^ j.toNat)) (.d (.int 10)) (.d (.int 18)) Δ G L Qd := opc_powL 10 18 18 rfl (by decide) (by decide) (by decide +kernel) k
theorem pow10_39 (k : Qd (.d (.int 1000000000000000000000000000000000000000)) G L) : OpC K (rI CPow fun i j => .int (i ^ j.toNat)) (.d (.int 10)) (.d (.int 39)) Δ G L Qd := opc_powL 10 39 39 rfl (by decide) (by decide) (by decide +kernel) k
end
end DL
namespace DL
open PySem PySem.Spec PyProof.Rows L2
theorem mulL {i j : Int} (h1 : -(2 ^ 64) < i) (h2 : i < 2 ^ 64) : CMul i j := Or.inl ⟨h1, h2⟩
theorem mulR {i j : Int} (h1 : -(2 ^ 64) < j) (h2 : j < 2 ^ 64) : CMul i j := Or.inr ⟨h1, h2⟩
theorem divW {i j : Int} (h1 : 0 < j) (h2 : j < 2 ^ 64) : CDivW i j := wide_div (b := 64) h1 (by omega) (by decide) (by decide)
end DL
namespace DL
open PySem PySem.Spec PyProof.Rows L2
theorem cutD_map {α : Type} (f : α → D) (xs : List α) (lo hi : Option Int) : ∃ ys : List α, cutD (xs.map f) lo hi = ys.map f ∧ ys.length ≤ xs.length ∧ ∀ y ∈ ys, y ∈ xs := by
  unfold cutD
  rw [List.length_map]
  refine ⟨(xs.drop (HT.sIx xs.length 0 lo)).take (HT.sIx xs.length xs.length hi - HT.sIx xs.length 0 lo), by rw [List.map_take, List.map_drop], ?_, fun y hy => List.mem_of_mem_drop (List.mem_of_mem_take hy)⟩
  rw [List.length_take, List.length_drop]
  omega
theorem get_map {α : Type} {f : α → D} {xs : List α} {i : Nat} {d : D} (h : (xs.map f)[i]? = some d) : ∃ x, x ∈ xs ∧ d = f x := by
  rw [List.getElem?_map] at h
  cases e : xs[i]? with
  | none =>
    rw [e] at h
    cases h
  | some x =>
    rw [e] at h
    exact ⟨x, List.mem_of_getElem? e, (Option.some.inj h).symm⟩
end DL
namespace DL
open PySem PySem.Spec PyProof.Rows L2
section
variable {K : PySem.W.Frag} {Δ : Sl} {G L : List M} {Qn : PoN} {wi : TI} {g : TG} {tt : TT} {te : TE} {vs : List Nat}
/-- a comprehension that changes nothing: what it keeps, what it makes of it -/
theorem evn_lcF (keep : D → Bool) (val : D → D) (h : EvI K wi Δ G L fun items G1 L1 => items.length < sizeLine ∧
    (∀ d ∈ items, TgC K g (· ∈ vs) (.d d) (wipeD Δ vs) G1 L1 fun Δ2 G2 L2 => EvB K tt Δ2 G2 L2 fun b G3 L3 => b = keep d ∧ (b = true → EvC K te Δ2 G3 L3 fun s G4 L4 => s = .d (val d) ∧ G4 = G1 ∧ L4 = L1) ∧ (b = false → G3 = G1 ∧ L3 = L1)) ∧
    Qn (.pl ((items.filter keep).map val)) G1 L1) : EvN K (tLc wi g tt te vs) Δ G L Qn := by
  refine evn_lc fun w ls σ H c R q => h w ls σ H c R fun J H1 items G1 L1 c1 e1 it ⟨hz, hs, hq⟩ => q J H1 items G1 L1 c1 e1 it ?_
  refine ⟨fun i acc G' L' => G' = G1 ∧ L' = L1 ∧ acc = ((items.take i).filter keep).map val, ⟨rfl, rfl, by rw [List.take_zero]; rfl⟩, hz, ?_, ?_⟩
  · rintro i d acc G' L' hd _ ⟨rfl, rfl, rfl⟩
    have hi := (List.getElem?_eq_some_iff.mp hd).1
    have e : items.take (i + 1) = items.take i ++ [d] := by
      rw [List.take_succ, hd]
      rfl
    intro w ls σ H v c r Q k
    refine hs d (List.mem_of_getElem? hd) w ls σ H v c r Q fun σ' H' Δ' G2 L2 c' e' l' o' hb => k σ' H' Δ' G2 L2 c' e' l' o' ?_
    intro w ls σ H c Q k
    refine hb w ls σ H c Q fun b H' G3 L3 c' e' ⟨h1, h2, h3⟩ => k b H' G3 L3 c' e' ?_
    cases b with
    | true =>
      refine iteTT ((h2 rfl).imp fun s G4 L4 ⟨h4, h5, h6⟩ => ⟨val d, h4, h5, h6, ?_⟩)
      rw [e, List.filter_append, List.map_append, List.filter_cons, if_pos h1.symm]
      rfl
    | false =>
      obtain ⟨h4, h5⟩ := h3 rfl
      refine iteFF ⟨h4, h5, ?_⟩
      rw [e, List.filter_append, List.map_append, List.filter_cons, if_neg (by rw [← h1]; decide)]
      exact (List.append_nil _).symm
  · rintro acc G' L' ⟨rfl, rfl, rfl⟩
    rw [List.take_length]
    exact hq
end
theorem filter_yes {α : Type} (xs : List α) : xs.filter (fun _ => true) = xs := List.filter_eq_self.mpr fun _ _ => rfl
end DL
namespace DL
open PySem PySem.Spec PyProof.Rows L2
theorem atI_of {α : Type} {xs : List α} {i : Int} {j : Nat} {x : α} (h : xs[j]? = some x) (e : i = (j : Int)) : atI xs i = some x := by
  subst e
  have hj := (List.getElem?_eq_some_iff.mp h).1
  unfold atI ixN
  rw [if_pos (by omega), if_pos (by omega)]
  exact h
theorem atI_to {α : Type} {xs : List α} {i : Int} (h0 : 0 ≤ i) (h1 : i < (xs.length : Nat)) : ∃ x, x ∈ xs ∧ atI xs i = some x := by
  have hj : i.toNat < xs.length := by omega
  exact ⟨xs[i.toNat], List.getElem_mem hj, atI_of (j := i.toNat) (List.getElem?_eq_getElem hj) (by omega)⟩
end DL

namespace DL
open PySem PySem.Spec PyProof.Rows L2
/-! ### dicts of the top, with texts as keys -/
def DLit (K : PySem.W.Frag) (w : World) (a : Addr) (ks : List (Str × V)) : Prop := ∃ es n, K.lookup a = some ⟨.type "dict", none, .dict es n, #[]⟩ ∧ (a == sysModules) = false ∧
  Paired (fun (e : DictEntry) (p : Str × V) => (∃ t, e.key = .str p.1 t) ∧ e.hash = PyData.keyHash w.params p.1 ∧ RelV p.2 e.val) es.toList ks
theorem dlit_keys {w : World} : ∀ {es : List DictEntry} {ks : List (Str × V)}, Paired (fun (e : DictEntry) (p : Str × V) => (∃ t, e.key = .str p.1 t) ∧ e.hash = PyData.keyHash w.params p.1 ∧ RelV p.2 e.val) es ks → PySem.W.KeysLit w.params es
  | _, _, .nil => trivial
  | _, _, .cons ⟨⟨t, h1⟩, h2, _⟩ r => ⟨⟨_, t, h1, h2⟩, dlit_keys r⟩
theorem dlit_find {w : World} {z : Str} : ∀ {es : List DictEntry} {ks : List (Str × V)}, Paired (fun (e : DictEntry) (p : Str × V) => (∃ t, e.key = .str p.1 t) ∧ e.hash = PyData.keyHash w.params p.1 ∧ RelV p.2 e.val) es ks →
    es.any (·.refKey) = false ∧ (match ks.find? (fun p => p.1 == z) with
      | some p => ∃ e, es.find? (·.key.isStr z) = some e ∧ RelV p.2 e.val
      | none => es.find? (·.key.isStr z) = none)
  | _, _, .nil => ⟨rfl, rfl⟩
  | _, _, .cons (a := e) (b := p) ⟨⟨t, h1⟩, h2, h3⟩ r => by
    obtain ⟨i1, i2⟩ := dlit_find (z := z) r
    have hk : e.key.isStr z = (p.1 == z) := by
      rw [h1]
      rfl
    refine ⟨?_, ?_⟩
    · rw [List.any_cons, i1]
      have : e.refKey = false := by
        unfold DictEntry.refKey
        rw [h1]
      rw [this]
      rfl
    · rw [List.find?_cons, List.find?_cons, hk]
      cases (p.1 == z) with
      | true => exact ⟨e, rfl, h3⟩
      | false => exact i2
def dGet (ks : List (Str × V)) (z : Str) : Option V := (ks.find? (fun p => p.1 == z)).map (·.2)
theorem DLit.get {K : PySem.W.Frag} {w : World} {a : Addr} {ks : List (Str × V)} (h : DLit K w a ks) {z : Str} {v : V} (e : dGet ks z = some v) : KDct K w a z v := by
  obtain ⟨es, n, h1, h2, h3⟩ := h
  obtain ⟨h4, h5⟩ := dlit_find (z := z) h3
  unfold dGet at e
  cases hf : ks.find? (fun p => p.1 == z) with
  | none =>
    rw [hf] at e
    cases e
  | some p =>
    rw [hf] at e h5
    cases e
    obtain ⟨en, h6, h7⟩ := h5
    refine ⟨es, n, en.val, h1, dlit_keys h3, ?_, h7⟩
    unfold PySem.W.nsIn
    rw [h1]
    show (match es.toList.find? (·.key.isStr z) with
      | some e => some (some e.val)
      | none => if es.toList.any (·.refKey) then none else some none) = _
    rw [h6]
theorem DLit.miss {K : PySem.W.Frag} {w : World} {a : Addr} {ks : List (Str × V)} (h : DLit K w a ks) {z : Str} (e : dGet ks z = none) : KMiss K w a z := by
  obtain ⟨es, n, h1, h2, h3⟩ := h
  obtain ⟨h4, h5⟩ := dlit_find (z := z) h3
  unfold dGet at e
  cases hf : ks.find? (fun p => p.1 == z) with
  | some p =>
    rw [hf] at e
    cases e
  | none =>
    rw [hf] at h5
    have h5 : es.toList.find? (·.key.isStr z) = none := h5
    refine ⟨es, n, h1, dlit_keys h3, h2, ?_⟩
    unfold PySem.W.nsIn
    rw [h1]
    show (match es.toList.find? (·.key.isStr z) with
      | some e => some (some e.val)
      | none => if es.toList.any (·.refKey) then none else some none) = _
    rw [h5]
    show (if es.toList.any (·.refKey) = true then none else some none) = _
    rw [h4]
    rfl
/-- a value of the top as data: an int, a text, an address -/
def litD : V → Option D
  | .non => some .non
  | .bl b => some (.bl b)
  | .int i => some (.int i)
  | .str x => some (.str x)
  | .ref a => some (.ref a)
  | .ty n => some (.ty n)
  | _ => none
theorem litD_rep {K : PySem.W.Frag} {H : Hp} {R : Addr → Prop} : ∀ {v : V} {d : D}, litD v = some d → Rep K H R d v
  | .non, _, e => by cases e; rfl
  | .bl _, _, e => by cases e; rfl
  | .int _, _, e => by cases e; rfl
  | .str _, _, e => by cases e; rfl
  | .ref _, _, e => by cases e; rfl
  | .ty _, _, e => by cases e; rfl
  | .byt _, _, e => by cases e
  | .flt _, _, e => by cases e
section
variable {K : PySem.W.Frag} {Δ : Sl} {G L : List M} {E : EndsD} {ta tb : TE}
/-- try: return C[x] except KeyError: suite -/
theorem st_tryKey {w : World} {c : Value} {ts : Addr → Value → Option Addr → TS} {Wo : WX} (h : EvC K ta Δ G L fun x G1 L1 => EvC K tb Δ G1 L1 fun y G2 L2 => ∃ p z ks, x = .d (.ref p) ∧ y = .d (.str z) ∧ DLit K w p ks ∧ PySem.W.exmOne K (.type "KeyError") c = some true ∧
    (match dGet ks z with
      | some v => ∃ d, litD v = some d ∧ E.rt (.d d) G2 L2
      | none => ∀ a d, StC K (ts a (.type "KeyError") d) Δ G2 L2 E)) : StC K (fun D σ H => tRet (tIxDX K w (wOnly K c ts Wo D) ta tb) D σ H) Δ G L E := fun wd ls σ H cx D s => h wd ls σ H cx _ fun v x H2 G2 L2 c2 e2 r2 k => k wd ls σ H2 c2 _ fun v3 y H3 G3 L3 c3 e3 r3 ⟨p, z, ks, ex, ey, hd, hx, kk⟩ => by
  subst ex
  subst ey
  cases r3
  have r2 : v = .ref p := r2
  refine ⟨p, z, r2, rfl, ?_⟩
  cases hg : dGet ks z with
  | some v =>
    rw [hg] at kk
    obtain ⟨d, hl, k⟩ := kk
    exact .inl ⟨v, hd.get hg, s.rt ls σ H3 Δ G3 L3 v (.d d) c3 (litD_rep hl) k⟩
  | none =>
    rw [hg] at kk
    exact .inr ⟨hd.miss hg, fun d => ⟨true, hx, fun _ a ha => kk a d wd ls σ H3 c3 D (s.on ((e2.trans e3).grow cx.reg)), fun q => by cases q⟩⟩
end
end DL
namespace DL
open PySem PySem.Spec PyProof.Rows L2
section
variable {K : PySem.W.Frag} {Δ : Sl} {G L : List M} {Qd : Po}
/-! forgetting what a text is, keeping its length -/
theorem u_add_sF {i j : Str} (hl : i.length + j.length ≤ 100000) (k : ∀ z : Str, z.length = i.length + j.length → Qd (.d (.str z)) G L) : OpC K (uAdd K) (.d (.str i)) (.d (.str j)) Δ G L Qd :=
  u_add_s (le_line hl) (k _ (PySem.Str.length_append i j))
theorem sl_sF {z : Str} {lo hi : Option Int} (hl : z.length ≤ 100000) (k : ∀ y : Str, y.length ≤ z.length → Qd (.d (.str y)) G L) : SlC K (uSl K) (.d (.str z)) lo hi Δ G L Qd :=
  sl_s (le_line hl) (k _ (cutS_length z lo hi))
theorem mt_upperF {z : Str} (hl : z.length ≤ 100000) (k : ∀ y : Str, y.length ≤ 3 * z.length → Qd (.d (.str y)) G L) : MtC K (fun x xs H Q => ∃ a, x = .str a ∧ xs = [] ∧ a.length ≤ 5592405 ∧ Q (.str (Txt.upper a)) H) (.d (.str z)) [] Δ G L Qd :=
  mt_upper_d (by omega) (k _ (PyProof.Rows.len_upper z))
theorem ap_lenSF {z : Str} (hl : z.length ≤ 100000) (k : Qd (.d (.int (z.length : Nat))) G L) : ApC K (uLen K) [.d (.str z)] Δ G L Qd := ap_lenS (le_line hl) k
/-- an item somewhere -/
theorem u_ix_all {x : S} {i : Int} (h : ∃ ds, seqG G L x = some ds ∧ 0 ≤ i ∧ i < (ds.length : Nat) ∧ ∀ d ∈ ds, Qd (.d d) G L) : OpC K (rIx K) x (.d (.int i)) Δ G L Qd := by
  obtain ⟨ds, hx, h0, h1, k⟩ := h
  obtain ⟨d, hd, e⟩ := atI_to h0 h1
  exact u_ix_g hx e (k d hd)
theorem st_is {E E' : EndsD} {t : TS} (h : StC K t Δ G L E) (e : E = E') : StC K t Δ G L E' := e ▸ h
end
end DL
namespace DL
open PySem PySem.Spec PyProof.Rows L2
section
variable {K : PySem.W.Frag} {Δ : Sl} {G L : List M} {Qd : Po} {Qn : PoN}
theorem u_add_lX {x y : S} (h : ∃ xs, lsG G L x = some xs ∧ ∃ ys, lsG G L y = some ys ∧ xs.length + ys.length ≤ sizeLine ∧ Qn (.pl (xs ++ ys)) G L) : OpN K (uAdd K) x y Δ G L Qn :=
  let ⟨_, hx, _, hy, hl, k⟩ := h; u_add_l hx hy hl k
theorem u_mul_lX {x : S} {j : Int} (h : ∃ xs, lsG G L x = some xs ∧ (0 ≤ j ∧ j < 2 ^ 62 ∧ xs.length * j.toNat ≤ sizeLine) ∧ Qn (.pl (List.replicate j.toNat xs).flatten) G L) : OpN K (uMul K) x (.d (.int j)) Δ G L Qn :=
  let ⟨_, hx, ⟨h0, h1, hl⟩, k⟩ := h; u_mul_l hx (by omega) (by omega) hl k
end
end DL
namespace DL
open PySem PySem.Spec PyProof.Rows L2
section
variable {K : PySem.W.Frag} {Δ : Sl} {G L : List M} {Qd : Po} {Qn : PoN}
theorem u_add_sR (m : Nat) {i j : Str} (hm : j.length = m) (hl : i.length + m ≤ 100000) (k : ∀ z : Str, z.length = i.length + m → Qd (.d (.str z)) G L) : OpC K (uAdd K) (.d (.str i)) (.d (.str j)) Δ G L Qd :=
  u_add_sF (by omega) fun z h => k z (by omega)
theorem u_add_sLm (m : Nat) {i j : Str} (hm : i.length = m) (hl : m + j.length ≤ 100000) (k : ∀ z : Str, z.length = m + j.length → Qd (.d (.str z)) G L) : OpC K (uAdd K) (.d (.str i)) (.d (.str j)) Δ G L Qd :=
  u_add_sF (by omega) fun z h => k z (by omega)
end
end DL
namespace DL
open PySem PySem.Spec PyProof.Rows L2
section
variable {K : PySem.W.Frag} {Δ : Sl} {G L : List M} {Qd : Po} {Qn : PoN}
theorem mt_popAtX {k : Nat} {i : Int} (h : ∃ ds, L[k]? = some (.pl ds) ∧ 0 ≤ i ∧ i < (ds.length : Nat) ∧ i < 2 ^ 62 ∧ ∀ j x, j < ds.length → ds[j]? = some x → Qd (.d x) G (L.set k (.pl (ds.eraseIdx j)))) : MtC K rPopAt (.l k) [.d (.int i)] Δ G L Qd := by
  obtain ⟨ds, hk, h0, h1, h2, q⟩ := h
  have hj : i.toNat < ds.length := by omega
  exact mt_popAt_l hk h0 h2 rfl (List.getElem?_eq_getElem hj) (q _ _ hj (List.getElem?_eq_getElem hj))
theorem mt_app_lX {k : Nat} {x : D} (h : ∃ ds, L[k]? = some (.pl ds) ∧ ds.length < sizeLine ∧ Qd (.d .non) G (L.set k (.pl (ds ++ [x])))) : MtC K rAppend (.l k) [.d x] Δ G L Qd := let ⟨_, h, hl, q⟩ := h; mt_app_l h hl q
theorem mt_app_gX {k : Nat} {x : D} (h : ∃ ds, G[k]? = some (.pl ds) ∧ ds.length < sizeLine ∧ Qd (.d .non) (G.set k (.pl (ds ++ [x]))) L) : MtC K rAppend (.g k) [.d x] Δ G L Qd := let ⟨_, h, hl, q⟩ := h; mt_app_g h hl q
end
end DL
namespace DL
theorem erase_map {α β : Type} (f : α → β) (xs : List α) (j : Nat) : (xs.map f).eraseIdx j = (xs.eraseIdx j).map f := by
  rw [List.eraseIdx_eq_take_drop_succ, List.eraseIdx_eq_take_drop_succ, List.map_append, List.map_take, List.map_drop]
theorem erase_len {α : Type} {xs : List α} {j : Nat} (h : j < xs.length) : (xs.eraseIdx j).length + 1 = xs.length := by
  rw [List.length_eraseIdx, if_pos h]
  omega
theorem erase_mem {α : Type} {xs : List α} {j : Nat} {x : α} (h : x ∈ xs.eraseIdx j) : x ∈ xs := List.mem_of_mem_eraseIdx h
end DL
namespace DL
open PySem PySem.Spec PyProof.Rows L2
section
variable {K : PySem.W.Frag} {Δ : Sl} {G L : List M} {Qd : Po} {Qn : PoN}
theorem u_in_iX {i : Int} {y : S} (h : ∃ ns : List Int, seqG G L y = some (ns.map D.int) ∧ Qd (.d (.bl (decide (i ∈ ns)))) G L) : OpC K (uIn K false) (.d (.int i)) y Δ G L Qd := let ⟨_, hy, k⟩ := h; u_in_i hy k
theorem u_in_sX {i : Str} {y : S} (h : ∃ ns : List Str, seqG G L y = some (ns.map D.str) ∧ Qd (.d (.bl (decide (i ∈ ns)))) G L) : OpC K (uIn K false) (.d (.str i)) y Δ G L Qd := let ⟨_, hy, k⟩ := h; u_in_s hy k
theorem u_nin_iX {i : Int} {y : S} (h : ∃ ns : List Int, seqG G L y = some (ns.map D.int) ∧ Qd (.d (.bl (!decide (i ∈ ns)))) G L) : OpC K (uIn K true) (.d (.int i)) y Δ G L Qd := let ⟨_, hy, k⟩ := h; u_in_i hy k
theorem u_nin_sX {i : Str} {y : S} (h : ∃ ns : List Str, seqG G L y = some (ns.map D.str) ∧ Qd (.d (.bl (!decide (i ∈ ns)))) G L) : OpC K (uIn K true) (.d (.str i)) y Δ G L Qd := let ⟨_, hy, k⟩ := h; u_in_s hy k
/-- a list that can be compared -/
def Eqb (ds : List D) : Prop := ∃ ps, pyL ds = some ps ∧ SeqAt.shaped (.list ps) = true
theorem eqv_nil {ds : List D} {ps : List PyData} (h : pyL ds = some ps) : PyData.eqv (.list ps) (.list []) = ds.isEmpty := by
  cases ds with
  | nil =>
    cases h
    rfl
  | cons d ds =>
    unfold pyL at h
    split at h
    · cases h
      rfl
    · cases h
theorem u_ne_nilG {x y : S} (h : lsG G L y = some [] ∧ ∃ ds, lsG G L x = some ds ∧ Eqb ds ∧ Qd (.d (.bl (!ds.isEmpty))) G L) : OpC K (uNe K) x y Δ G L Qd := by
  obtain ⟨hy, ds, hx, ⟨ps, hp, hs⟩, k⟩ := h
  refine u_ne_d (lsG_val hx) (lsG_val hy) (by unfold D.py; rw [hp]) (by rfl) hs shaped_nil ?_
  rw [eqv_nil hp]
  exact k
theorem u_eq_nilG {x y : S} (h : lsG G L y = some [] ∧ ∃ ds, lsG G L x = some ds ∧ Eqb ds ∧ Qd (.d (.bl ds.isEmpty)) G L) : OpC K (uEq K) x y Δ G L Qd := by
  obtain ⟨hy, ds, hx, ⟨ps, hp, hs⟩, k⟩ := h
  refine u_eq_d (lsG_val hx) (lsG_val hy) (by unfold D.py; rw [hp]) (by rfl) hs shaped_nil ?_
  rw [eqv_nil hp]
  exact k
theorem eqb_strs {ns : List Str} (h : ∀ s ∈ ns, PyData.strOk s = true) : Eqb (ns.map D.str) := by
  refine ⟨ns.map PyData.str, py_strs ns, ?_⟩
  have hl : PyData.canLayAll0 (ns.map PyData.str) = true := by
    induction ns with
    | nil => rfl
    | cons a r ih =>
      show (PyData.canLay0 (.str a) && PyData.canLayAll0 (r.map PyData.str)) = true
      rw [ih fun s hs => h s (List.mem_cons_of_mem _ hs), Bool.and_true]
      exact h a List.mem_cons_self
  have hd : PyData.depthAll (ns.map PyData.str) ≤ 1 := by
    clear h hl
    induction ns with
    | nil => simp [PyData.depthAll]
    | cons a r ih =>
      simp only [List.map_cons, PyData.depthAll, PyData.depth]
      omega
  unfold SeqAt.shaped
  rw [Bool.and_eq_true]
  refine ⟨hl, decide_eq_true ?_⟩
  simp only [PyData.depth]
  omega
end
end DL

namespace DL
open PySem PySem.Spec PyProof.Rows L2
/-! text * int; repr; str -/
def rTxMul : R2 := fun x y H Q => ∃ (z : Str) (k : Int), x = .str z ∧ y = .int k ∧ 0 ≤ k ∧ k ≤ 100000 ∧ z.length ≤ 100000 ∧ z.length * k.toNat ≤ 1000000 ∧ ∀ o : Str, o.length = z.length * k.toNat → Q (.str o) H
theorem txmul_len (z : Str) (k : Nat) : (Str.mk ((List.replicate k z.cps).foldl (· ++ ·) #[])).length = z.length * k := by
  show ((List.replicate k z.cps).foldl (· ++ ·) #[]).size = z.cps.size * k
  rw [size_reps, Nat.mul_comm]
  simp
theorem op_txmul {X : Cx} : OpR X (binaryOp .Mult) rTxMul := by
  intro pins s σ H x y v u Q I rx ry h
  obtain ⟨z, k, rfl, rfl, k0, k1, z1, zl, q⟩ := h
  obtain ⟨t, rfl⟩ := rx
  obtain ⟨t', rfl⟩ := ry
  refine SB.mul ⟨?_, fun h1 _ => ?_, fun _ _ => ?_⟩ fun t' k' => ⟨.str _, H, I.tok _, ⟨_, rfl⟩, q _ ?_⟩
  · have a : ¬ k < -(2 ^ 63) := by omega
    have b : ¬ k ≥ 2 ^ 63 := by omega
    rw [decide_eq_false a, decide_eq_false b]
    rfl
  · have e : (100000 : Int) ≤ (2 ^ 63 - 1) / k := (Int.le_ediv_iff_mul_le (by omega)).mpr (by
      have : 100000 * k ≤ 100000 * 100000 := Int.mul_le_mul_of_nonneg_left k1 (by decide)
      omega)
    omega
  · show decide (z.length * k.toNat > sizeLine) = false
    rw [sizeLine_eq]
    exact decide_eq_false (by omega)
  · unfold Txt.mul
    by_cases h1 : k < 1
    · have e : k = 0 := by omega
      subst e
      rfl
    · rw [if_neg h1]
      by_cases h2 : (k == 1 || z.length == 0) = true
      · rw [if_pos h2]
        simp only [Bool.or_eq_true, beq_iff_eq] at h2
        rcases h2 with h2 | h2
        · subst h2
          exact (Nat.mul_one _).symm
        · rw [h2, Nat.zero_mul]
      · rw [if_neg h2]
        exact txmul_len z k.toNat
section
variable {K : PySem.W.Frag} {Δ : Sl} {G L : List M} {Qd : Po} {Qn : PoN}
theorem u_txmul {z : Str} {k : Int} (h1 : 0 ≤ k ∧ k ≤ 100000 ∧ z.length ≤ 100000 ∧ z.length * k.toNat ≤ 1000000) (q : ∀ o : Str, o.length = z.length * k.toNat → Qd (.d (.str o)) G L) : OpC K rTxMul (.d (.str z)) (.d (.int k)) Δ G L Qd := fun w ls σ H vx vy c rx ry Q qq => by
  cases rx
  cases ry
  exact ⟨z, k, rfl, rfl, h1.1, h1.2.1, h1.2.2.1, h1.2.2.2, fun o ho => qq.go c Ext.refl (s := .d (.str o)) rfl (q o ho)⟩
/-- what repr of a small value is -/
inductive RepOf : V → Str → Prop
  | int (i : Int) (h : i.natAbs.log2 < 1920) : RepOf (.int i) (Str.ofString (toString i))
  | bl (b : Bool) : RepOf (.bl b) (if b then "True" else "False")
  | non : RepOf .non "None"
  | str (z : Str) (h : (reprText z).length ≤ sizeLine) : RepOf (.str z) (reprText z)
def uRepr : List V → Hp → VK → Prop := fun xs H Q => ∃ x t, xs = [x] ∧ RepOf x t ∧ Q (.str t) H
theorem uc_repr {X : Cx} : CallR X (.builtin "repr") uRepr := by
  intro pins s σ H xs us Q I r h
  obtain ⟨x, z, rfl, hx, q⟩ := h
  obtain ⟨u, rfl, rx⟩ := vals1 r
  cases hx with
  | int i hz =>
    obtain ⟨t, rfl⟩ := rx
    exact PySem.P.repr_of_int hz ⟨.str _, H, I.tok _, ⟨_, rfl⟩, q⟩
  | bl b =>
    cases rx
    exact PySem.P.repr_of_bool ⟨.str _, H, I.tok _, ⟨_, rfl⟩, q⟩
  | non =>
    cases rx
    exact PySem.P.repr_of_none ⟨.str _, H, I.tok _, ⟨_, rfl⟩, q⟩
  | str z hz =>
    obtain ⟨t, rfl⟩ := rx
    exact PySem.P.repr_of_str ⟨.str _, H, I.tok _, ⟨_, rfl⟩, q⟩ hz
/-- the same at the level of data -/
def reprD : D → Option Str
  | .non => some "None"
  | .bl b => some (if b then "True" else "False")
  | .int i => if i.natAbs.log2 < 1920 then some (Str.ofString (toString i)) else none
  | .str z => if (reprText z).length ≤ sizeLine then some (reprText z) else none
  | _ => none
theorem ap_repr {d : D} {t : Str} (h : reprD d = some t) (k : Qd (.d (.str t)) G L) : ApC K uRepr [.d d] Δ G L Qd := fun w ls σ H vs c rs Q q => by
  obtain ⟨v, rfl, r⟩ := pair1 rs
  have r : Rep K H (Rg w ls) d v := r
  refine ⟨v, t, rfl, ?_, q.go c Ext.refl (s := .d (.str t)) rfl k⟩
  cases d with
  | non =>
    cases r
    cases h
    exact .non
  | bl b =>
    cases r
    cases h
    exact .bl b
  | int i =>
    cases r
    have h : (if i.natAbs.log2 < 1920 then some (Str.ofString (toString i)) else none) = some t := h
    by_cases hz : i.natAbs.log2 < 1920
    · rw [if_pos hz] at h
      cases h
      exact .int i hz
    · rw [if_neg hz] at h
      cases h
  | str z =>
    cases r
    have h : (if (reprText z).length ≤ sizeLine then some (reprText z) else none) = some t := h
    by_cases hz : (reprText z).length ≤ sizeLine
    · rw [if_pos hz] at h
      cases h
      exact .str z hz
    · rw [if_neg hz] at h
      cases h
  | _ => cases h
end
end DL

open PySem L2 DL
local macro_rules | `(tactic| walk_at "side") => `(tactic| first | assumption | omega | rfl | (refine ⟨?_, ?_⟩ <;> omega) | decide)
local macro_rules | `(tactic| walk_at "d1") => `(tactic| with_reducible first
  | walk_at "own"
  | refine evc_int ?_
  | refine evc_str ?_
  | refine evc_bl ?_
  | refine evc_non ?_
  | refine evc_ref ?_
  | refine evc_ty ?_
  | refine evc_op ?_
  | refine eva_nil ?_
  | refine eva_cons ?_
  | refine evb_test ?_
  | refine evb_B ?_
  | refine evb_and ?_
  | refine evb_or ?_
  | refine evb_not ?_
  | refine evb_yes ?_
  | refine evc_if ?_
  | refine evc_andV ?_
  | refine evc_orV ?_
  | refine evc_notV ?_
  | refine evc_chain ?_
  | refine evc_cb ?_
  | refine evc_sl ?_
  | refine evo_none ?_
  | refine evo_some ?_
  | refine evc_bm ?_
  | refine evc_bm0 ?_
  | refine evc_m0 ?_
  | refine evc_m1 ?_
  | refine evc_call ?_
  | refine st_seq ?_
  | refine st_next ?_
  | refine st_break ?_
  | refine st_cont ?_
  | refine st_asg ?_
  | refine st_asgT ?_
  | refine st_if ?_
  | refine st_ret ?_
  | refine st_retN ?_
  | refine st_drop ?_
  | (refine tg_name ?hi ?_; (case hi => first | exact trivial | decide | (show _ ∈ _; decide)))
  | refine tgs_nil ?_
  | refine tgs_cons ?_
  | refine tg_sub ?_
  | refine evc_tup ?_
  | refine evi_seq ?_
  | refine evi_rng1 ?_
  | refine evi_rng2 ?_
  | (refine evn_c ?_; refine evn_lst ?_)
  | (refine evn_c ?_; refine evn_revL ?_)
  | refine evn_lst ?_
  | refine evn_revL ?_
  | refine evn_cb ?_
  | refine evn_sl ?_
  | refine evn_op ?_
  | refine u_add_i ?_
  | refine opc_I0i ?_
  | refine pow10_6 ?_
  | refine pow10_9 ?_
  | refine pow10_12 ?_
  | refine pow10_15 ?_
  | refine pow10_18 ?_
  | refine pow10_39 ?_
  | refine opc_I0b ?_
  | refine u_eq_i ?_
  | refine u_ne_i ?_
  | refine u_eq_s ?_
  | refine u_ne_s ?_
  | refine ap_int ?_
  | refine ap_intB ?_
  | refine ⟨_, rfl, ?_⟩
  | refine iteTT ?_
  | refine iteFF ?_)
local macro_rules | `(tactic| walk_at "seq") => `(tactic| first | (refine ⟨_, rfl, ?_⟩) | (refine ⟨_, lsG_g (by assumption), ?_⟩) | (refine ⟨_, lsG_l (by assumption), ?_⟩) | (refine ⟨_, seqG_g (by assumption), ?_⟩) | (refine ⟨_, seqG_l (by assumption), ?_⟩) | (refine ⟨_, hlG_g (by assumption), ?_⟩))
local macro_rules | `(tactic| walk_at "d2") => `(tactic| first
  | (with_reducible refine evc_varX ?_; refine ⟨_, rfl, ?_⟩)
  | (refine tg_tup ?hn ?_; (case hn => exact rfl); dsimp only [List.map])
  | (with_reducible refine u_mul_i ?hc ?_; (case hc => first | exact mulL (by omega) (by omega) | exact mulR (by omega) (by omega)))
  | (with_reducible refine opc_Ii ?hc ?_; (case hc => first | omega | exact divW (by omega) (by omega)))
  | (with_reducible refine u_ix_hX ?_; walk_at "seq"; refine ⟨_, rfl, ?_⟩)
  | (with_reducible refine u_ix_gX ?_; walk_at "seq"; refine ⟨_, rfl, ?_⟩)
  | (with_reducible refine apn_c (ap_listX ?_); walk_at "seq")
  | (with_reducible refine ap_listX ?_; walk_at "seq")
  | (with_reducible refine ap_tupleX ?_; walk_at "seq")
  | (with_reducible refine ap_lenX ?_; walk_at "seq")
  | (with_reducible refine ap_lenS ?hx ?_; (case hx => walk_at "side"))
  | (with_reducible refine u_ne_nilX ?_; refine ⟨rfl, ?_⟩; walk_at "seq")
  | (with_reducible refine u_eq_nilX ?_; refine ⟨rfl, ?_⟩; walk_at "seq")
  | (with_reducible refine u_in_iX ?_; refine ⟨_, rfl, ?_⟩)
  | (with_reducible refine u_in_sX ?_; refine ⟨_, rfl, ?_⟩)
  | (with_reducible refine u_nin_iX ?_; refine ⟨_, rfl, ?_⟩)
  | (with_reducible refine u_nin_sX ?_; refine ⟨_, rfl, ?_⟩)
  | (with_reducible refine opc_orl (opc_I0i ?_))
  | (with_reducible refine opn_c (u_add_lX ?_); walk_at "seq"; walk_at "seq")
  | (with_reducible refine u_add_lX ?_; walk_at "seq"; walk_at "seq")
  | (with_reducible refine opn_c (u_mul_lX ?_); walk_at "seq"; refine ⟨⟨by omega, by omega, le_line (Nat.le_of_ble_eq_true rfl)⟩, ?_⟩)
  | (refine ⟨le_line (Nat.le_of_ble_eq_true rfl), ?_⟩)
  | (refine ⟨tyS_l rfl, ?_⟩)
  | (refine ⟨tyS_g (by assumption), ?_⟩)
  | (refine ⟨_, rfl, ?_⟩)
  | (refine ⟨_, _, rfl, rfl, ?_⟩)
  | (refine ⟨(rfl : noL _ = true), ?_⟩))
local macro_rules | `(tactic| walk_at "go") => `(tactic| repeat (first | walk_at "d1" | walk_at "d2"))
local macro_rules | `(tactic| walk_at "f1") => `(tactic| first
  | (with_reducible refine u_add_sF ?hl ?_; (case hl => omega); intro _ _)
  | (with_reducible refine u_add_sR 0 ?hm ?hl ?_; (case hm => decide); (case hl => omega); intro _ _)
  | (with_reducible refine u_add_sR 1 ?hm ?hl ?_; (case hm => decide); (case hl => omega); intro _ _)
  | (with_reducible refine u_add_sR 2 ?hm ?hl ?_; (case hm => decide); (case hl => omega); intro _ _)
  | (with_reducible refine u_add_sR 3 ?hm ?hl ?_; (case hm => decide); (case hl => omega); intro _ _)
  | (with_reducible refine u_add_sR 4 ?hm ?hl ?_; (case hm => decide); (case hl => omega); intro _ _)
  | (with_reducible refine u_add_sR 5 ?hm ?hl ?_; (case hm => decide); (case hl => omega); intro _ _)
  | (with_reducible refine u_add_sR 6 ?hm ?hl ?_; (case hm => decide); (case hl => omega); intro _ _)
  | (with_reducible refine u_add_sR 7 ?hm ?hl ?_; (case hm => decide); (case hl => omega); intro _ _)
  | (with_reducible refine u_add_sR 8 ?hm ?hl ?_; (case hm => decide); (case hl => omega); intro _ _)
  | (with_reducible refine u_add_sLm 0 ?hm ?hl ?_; (case hm => decide); (case hl => omega); intro _ _)
  | (with_reducible refine u_add_sLm 1 ?hm ?hl ?_; (case hm => decide); (case hl => omega); intro _ _)
  | (with_reducible refine u_add_sLm 2 ?hm ?hl ?_; (case hm => decide); (case hl => omega); intro _ _)
  | (with_reducible refine u_add_sLm 3 ?hm ?hl ?_; (case hm => decide); (case hl => omega); intro _ _)
  | (with_reducible refine u_add_sLm 4 ?hm ?hl ?_; (case hm => decide); (case hl => omega); intro _ _)
  | (with_reducible refine u_add_sLm 5 ?hm ?hl ?_; (case hm => decide); (case hl => omega); intro _ _)
  | (with_reducible refine u_add_sLm 6 ?hm ?hl ?_; (case hm => decide); (case hl => omega); intro _ _)
  | (with_reducible refine u_add_sLm 7 ?hm ?hl ?_; (case hm => decide); (case hl => omega); intro _ _)
  | (with_reducible refine u_add_sLm 8 ?hm ?hl ?_; (case hm => decide); (case hl => omega); intro _ _)
  | (with_reducible refine sl_sF ?hl ?_; (case hl => omega); intro _ _)
  | (with_reducible refine mt_upperF ?hl ?_; (case hl => omega); intro _ _)
  | (with_reducible refine ap_lenSF ?hl ?_; (case hl => omega))
  | (refine ⟨⟨_, rfl⟩, ?_⟩))
local macro_rules | `(tactic| walk_at "f1") => `(tactic| first
  | (with_reducible refine u_txmul ?hm ?_; (case hm => first | (refine ⟨?_, ?_, ?_, ?_⟩ <;> decide) | (refine ⟨?_, ?_, ?_, ?_⟩ <;> omega)); intro _ _))
local macro_rules | `(tactic| walk_at "gof") => `(tactic| repeat (first | walk_at "f1" | walk_at "d1" | walk_at "d2"))

namespace Pf
open PySem L2 DL
def top (i : Nat) : Stmt := PySem.Challenge.pw_littlemasters_k43_the_first_judge.main.body.getD i (.Pass ⟨0, 0, 0, 0⟩)
abbrev s_l_draw : Stmt := top 5
theorem sc_l_draw : FnScope ["_law_deck_here", "_law_most", "_law_cell", "_law_number"] ["_law_deck_here", "_law_most"] (defScope s_l_draw) := ⟨rfl, rfl, rfl, by decide +kernel, rfl, by decide +kernel, by decide +kernel⟩
abbrev s_l_deck : Stmt := top 4
theorem sc_l_deck : FnScope ["_law_script", "_law_cells", "_law_seed", "_law_cell"] ["_law_script"] (defScope s_l_deck) := ⟨rfl, rfl, rfl, by decide +kernel, rfl, by decide +kernel, by decide +kernel⟩
abbrev s_l_first : Stmt := top 9
theorem sc_l_first : FnScope ["_law_fault_here", "_law_words", "_law_k"] ["_law_fault_here"] (defScope s_l_first) := ⟨rfl, rfl, rfl, by decide +kernel, rfl, by decide +kernel, by decide +kernel⟩
abbrev s_first_judge : Stmt := top 2
theorem sc_first_judge : FnScope ["mark", "fault"] ["mark", "fault"] (defScope s_first_judge) := ⟨rfl, rfl, rfl, by decide +kernel, rfl, by decide +kernel, by decide +kernel⟩
abbrev s_l_fault : Stmt := top 8
theorem sc_l_fault : FnScope ["_law_deck_here", "_law_word", "_law_way", "_law_at", "_law_near"] ["_law_deck_here"] (defScope s_l_fault) := ⟨rfl, rfl, rfl, by decide +kernel, rfl, by decide +kernel, by decide +kernel⟩
abbrev s_l_house : Stmt := top 6
theorem sc_l_house : FnScope ["_law_deck_here", "_law_whole", "_law_many", "_law_left", "_law_found", "_law_k", "_law_letter", "_law_crafts", "_law_deed"] ["_law_deck_here"] (defScope s_l_house) := ⟨rfl, rfl, rfl, by decide +kernel, rfl, by decide +kernel, by decide +kernel⟩
abbrev s_l_mark : Stmt := top 7
theorem sc_l_mark : FnScope ["_law_deck_here", "_law_house_here", "_law_stand", "_law_mark_here", "_law_deed", "_law_some", "_law_letter", "_law_crafts"] ["_law_deck_here", "_law_house_here", "_law_stand"] (defScope s_l_mark) := ⟨rfl, rfl, rfl, by decide +kernel, rfl, by decide +kernel, by decide +kernel⟩
abbrev s_law : Stmt := top 10
theorem sc_law : FnScope ["_law_script", "_law_deck_here", "_law_house_here", "_law_asked", "_law_word", "_law_k", "_law_mark_here", "_law_fault_here"] ["_law_script"] (defScope s_law) := ⟨rfl, rfl, rfl, by decide +kernel, rfl, by decide +kernel, by decide +kernel⟩
structure TX (w : World) (K : PySem.W.Frag) (mg : Str → Option Value) where
  a_l_draw : Addr
  fd_l_draw : FuncData
  F_l_draw : Fun K "_law_draw" "_law_draw" s_l_draw a_l_draw fd_l_draw
  m_l_draw : mg "_law_draw" = some (.ref a_l_draw)
  k_l_draw : PySem.W.keepIn K (.ref a_l_draw) = true
  b_l_draw : Binds K fd_l_draw ["_law_deck_here", "_law_most"] []
  a_l_deck : Addr
  fd_l_deck : FuncData
  F_l_deck : Fun K "_law_deck" "_law_deck" s_l_deck a_l_deck fd_l_deck
  m_l_deck : mg "_law_deck" = some (.ref a_l_deck)
  k_l_deck : PySem.W.keepIn K (.ref a_l_deck) = true
  b_l_deck : Binds K fd_l_deck ["_law_script"] []
  a_l_first : Addr
  fd_l_first : FuncData
  F_l_first : Fun K "_law_first" "_law_first" s_l_first a_l_first fd_l_first
  m_l_first : mg "_law_first" = some (.ref a_l_first)
  k_l_first : PySem.W.keepIn K (.ref a_l_first) = true
  b_l_first : Binds K fd_l_first ["_law_fault_here"] []
  a_first_judge : Addr
  fd_first_judge : FuncData
  F_first_judge : Fun K "first_judge" "first_judge" s_first_judge a_first_judge fd_first_judge
  m_first_judge : mg "first_judge" = some (.ref a_first_judge)
  k_first_judge : PySem.W.keepIn K (.ref a_first_judge) = true
  b_first_judge : Binds K fd_first_judge ["mark", "fault"] []
  a_l_fault : Addr
  fd_l_fault : FuncData
  F_l_fault : Fun K "_law_fault" "_law_fault" s_l_fault a_l_fault fd_l_fault
  m_l_fault : mg "_law_fault" = some (.ref a_l_fault)
  k_l_fault : PySem.W.keepIn K (.ref a_l_fault) = true
  b_l_fault : Binds K fd_l_fault ["_law_deck_here"] []
  a_l_house : Addr
  fd_l_house : FuncData
  F_l_house : Fun K "_law_house" "_law_house" s_l_house a_l_house fd_l_house
  m_l_house : mg "_law_house" = some (.ref a_l_house)
  k_l_house : PySem.W.keepIn K (.ref a_l_house) = true
  b_l_house : Binds K fd_l_house ["_law_deck_here"] []
  a_l_mark : Addr
  fd_l_mark : FuncData
  F_l_mark : Fun K "_law_mark" "_law_mark" s_l_mark a_l_mark fd_l_mark
  m_l_mark : mg "_law_mark" = some (.ref a_l_mark)
  k_l_mark : PySem.W.keepIn K (.ref a_l_mark) = true
  b_l_mark : Binds K fd_l_mark ["_law_deck_here", "_law_house_here", "_law_stand"] []
  a_law : Addr
  fd_law : FuncData
  F_law : Fun K "law" "law" s_law a_law fd_law
  m_law : mg "law" = some (.ref a_law)
  k_law : PySem.W.keepIn K (.ref a_law) = true
  b_law : Binds K fd_law ["_law_script"] []
  z_KeyError : mg "KeyError" = none
  z_len : mg "len" = none
  z_list : mg "list" = none
  z_range : mg "range" = none
  z_repr : mg "repr" = none
  z_sum : mg "sum" = none
  z_tuple : mg "tuple" = none
  a_FAULTS : Addr
  m_FAULTS : mg "FAULTS" = some (.ref a_FAULTS)
  d_FAULTS : DLit K w a_FAULTS [("bent", .int 0), ("cracked", .int 1), ("burnt", .int 2), ("loose", .int 3)]
  x_KeyError : PySem.W.exmOne K (.type "KeyError") (.type "KeyError") = some true
end Pf
namespace Pf
open PySem L2 DL
/-! the deck: a list [cells, seed, count], the cells a list of ints -/
structure Dk (G : List M) (k c : Nat) (n : Int) (cells : List Int) (seed cnt : Int) : Prop where
  hk : G[k]? = some (.hl [.g c, .d (.int seed), .d (.int cnt)])
  hc : G[c]? = some (.pl (cells.map D.int))
  ne : k ≠ c
  s0 : 0 ≤ seed
  s1 : seed < 2 ^ 40
  n0 : 0 ≤ cnt
  n1 : cnt ≤ n
  cl : cells.length ≤ 1000
def dkSet (G : List M) (k c : Nat) (cells : List Int) (seed cnt : Int) : List M := (G.set c (.pl (cells.map D.int))).set k (.hl [.g c, .d (.int seed), .d (.int cnt)])
/-- what a draw leaves: the deck itself otherwise, all else as it was -/
def DkTo (G : List M) (k c : Nat) (n : Int) (G' : List M) : Prop := ∃ cells seed cnt, G' = dkSet G k c cells seed cnt ∧ Dk G' k c n cells seed cnt
theorem dkTo_mk {G : List M} {k c : Nat} {n : Int} {cells : List Int} {seed cnt : Int} {x y : M} (hk : G[k]? = some x) (hc : G[c]? = some y) (ne : k ≠ c) (s0 : 0 ≤ seed) (s1 : seed < 2 ^ 40) (n0 : 0 ≤ cnt) (n1 : cnt ≤ n) (cl : cells.length ≤ 1000) :
    DkTo G k c n ((G.set k (.hl [.g c, .d (.int seed), .d (.int cnt)])).set c (.pl (cells.map D.int))) := by
  refine ⟨cells, seed, cnt, set_comm ne, ?_⟩
  rw [set_comm ne]
  exact ⟨set_at ((set_off ne).trans hk), by rw [set_off (Ne.symm ne)]; exact set_at hc, ne, s0, s1, n0, n1, cl⟩
def sp_l_draw : DSpec := fun ss G Q => ∃ (k c : Nat) (m n : Int) (cells : List Int) (seed cnt : Int), ss = [.g k, .d (.int m)] ∧ Dk G k c n cells seed cnt ∧ n ≤ 2 ^ 32 ∧ 0 < m ∧ m < 2 ^ 40 ∧
  ∀ r G', DkTo G k c (n + 1) G' → 0 ≤ r → r < m → Q (.v (.d (.int r))) G'
theorem DkTo.dk {G G' : List M} {k c : Nat} {n : Int} (h : DkTo G k c n G') : ∃ cells seed cnt, Dk G' k c n cells seed cnt := let ⟨a, b, d, _, e⟩ := h; ⟨a, b, d, e⟩
theorem DkTo.trans {G G1 G2 : List M} {k c : Nat} {n m : Int} (h : DkTo G k c n G1) (h2 : DkTo G1 k c m G2) : DkTo G k c m G2 := by
  obtain ⟨a, b, d, rfl, q⟩ := h
  obtain ⟨a', b', d', rfl, q'⟩ := h2
  refine ⟨a', b', d', ?_, q'⟩
  unfold dkSet
  rw [set_comm (Ne.symm q'.ne), set_set, set_comm q'.ne, set_set]
theorem DkTo.refl {G : List M} {k c : Nat} {n : Int} {cells : List Int} {seed cnt : Int} (h : Dk G k c n cells seed cnt) : DkTo G k c n G := by
  refine ⟨cells, seed, cnt, ?_, h⟩
  unfold dkSet
  rw [set_same h.hc, set_same h.hk]
theorem DkTo.mono {G G' : List M} {k c : Nat} {n m : Int} (h : DkTo G k c n G') (e : n ≤ m) : DkTo G k c m G' := by
  obtain ⟨a, b, d, rfl, q⟩ := h
  exact ⟨a, b, d, rfl, ⟨q.hk, q.hc, q.ne, q.s0, q.s1, q.n0, Int.le_trans q.n1 e, q.cl⟩⟩
theorem draw_use {G : List M} {k c : Nat} {m n : Int} {cells : List Int} {seed cnt : Int} {Q : Res → List M → Prop} (h : Dk G k c n cells seed cnt) (h1 : n ≤ 2 ^ 32) (h2 : 0 < m) (h3 : m < 2 ^ 40)
    (k' : ∀ r G' cells' seed' cnt', DkTo G k c (n + 1) G' → Dk G' k c (n + 1) cells' seed' cnt' → 0 ≤ r → r < m → Q (.v (.d (.int r))) G') : sp_l_draw [.g k, .d (.int m)] G Q :=
  ⟨k, c, m, n, cells, seed, cnt, rfl, h, h1, h2, h3, fun r G' t a b => let ⟨x, y, z, q⟩ := t.dk; k' r G' x y z t q a b⟩
def sp_l_deck : DSpec := fun ss G Q => ∃ ns : List Int, ss = [.d (.scr ns)] ∧ ns.length ≤ 63 ∧ ∀ (cells : List Int) (seed : Int), cells.length ≤ 63 → 0 ≤ seed → seed < 2 ^ 40 → Q (.new [.pl (cells.map D.int), .hl [.l 0, .d (.int seed), .d (.int 0)]] 1) G
def fidx (z : Str) : Option Int := if ("bent" : Str) = z then some 0 else if ("cracked" : Str) = z then some 1 else if ("burnt" : Str) = z then some 2 else if ("loose" : Str) = z then some 3 else none
def fkeep (z : Str) : D → Bool
  | .int i => if i = 0 then decide (("bent" : Str) = z) else if i = 1 then decide (("cracked" : Str) = z) else if i = 2 then decide (("burnt" : Str) = z) else decide (("loose" : Str) = z)
  | _ => false
def optD : Option Int → D
  | none => .non
  | some i => .int i
theorem first_at (z : Str) : atI ((([.int 0, .int 1, .int 2, .int 3] : List D).filter (fkeep z)).map id ++ [.non]) 0 = some (optD (fidx z)) := by
  have k0 : fkeep z (.int 0) = decide (("bent" : Str) = z) := rfl
  have k1 : fkeep z (.int 1) = decide (("cracked" : Str) = z) := rfl
  have k2 : fkeep z (.int 2) = decide (("burnt" : Str) = z) := rfl
  have k3 : fkeep z (.int 3) = decide (("loose" : Str) = z) := rfl
  rw [List.map_id]
  unfold fidx
  by_cases h0 : ("bent" : Str) = z
  · rw [if_pos h0, List.filter_cons, k0, if_pos (decide_eq_true h0)]
    exact atI_of (j := 0) rfl rfl
  · rw [if_neg h0, List.filter_cons, k0, if_neg (by rw [decide_eq_false h0]; decide)]
    by_cases h1 : ("cracked" : Str) = z
    · rw [if_pos h1, List.filter_cons, k1, if_pos (decide_eq_true h1)]
      exact atI_of (j := 0) rfl rfl
    · rw [if_neg h1, List.filter_cons, k1, if_neg (by rw [decide_eq_false h1]; decide)]
      by_cases h2 : ("burnt" : Str) = z
      · rw [if_pos h2, List.filter_cons, k2, if_pos (decide_eq_true h2)]
        exact atI_of (j := 0) rfl rfl
      · rw [if_neg h2, List.filter_cons, k2, if_neg (by rw [decide_eq_false h2]; decide)]
        by_cases h3 : ("loose" : Str) = z
        · rw [if_pos h3, List.filter_cons, k3, if_pos (decide_eq_true h3)]
          exact atI_of (j := 0) rfl rfl
        · rw [if_neg h3, List.filter_cons, k3, if_neg (by rw [decide_eq_false h3]; decide)]
          rfl
theorem fget (z : Str) : dGet [("bent", V.int 0), ("cracked", V.int 1), ("burnt", V.int 2), ("loose", V.int 3)] z = (fidx z).map V.int := by
  have no : ∀ x : Str, ¬ x = z → (x == z) = false := fun x h => beq_eq_false_iff_ne.mpr h
  unfold dGet fidx
  by_cases h0 : ("bent" : Str) = z
  · rw [if_pos h0, List.find?_cons_of_pos (by rw [h0]; exact beq_self_eq_true z)]
    rfl
  · rw [if_neg h0, List.find?_cons_of_neg (by rw [no _ h0]; decide)]
    by_cases h1 : ("cracked" : Str) = z
    · rw [if_pos h1, List.find?_cons_of_pos (by rw [h1]; exact beq_self_eq_true z)]
      rfl
    · rw [if_neg h1, List.find?_cons_of_neg (by rw [no _ h1]; decide)]
      by_cases h2 : ("burnt" : Str) = z
      · rw [if_pos h2, List.find?_cons_of_pos (by rw [h2]; exact beq_self_eq_true z)]
        rfl
      · rw [if_neg h2, List.find?_cons_of_neg (by rw [no _ h2]; decide)]
        by_cases h3 : ("loose" : Str) = z
        · rw [if_pos h3, List.find?_cons_of_pos (by rw [h3]; exact beq_self_eq_true z)]
          rfl
        · rw [if_neg h3, List.find?_cons_of_neg (by rw [no _ h3]; decide)]
          rfl
def sp_l_first : DSpec := fun ss G Q => ∃ z : Str, ss = [.d (.str z)] ∧ z.length ≤ 100000 ∧ Q (.v (.d (optD (fidx z)))) G
def sp_first_judge : DSpec := fun ss G Q => ∃ m z : Str, ss = [.d (.str m), .d (.str z)] ∧ z.length ≤ 100000 ∧ Q (.v (.d (optD (fidx z)))) G
/-- a hand, as it is drawn -/
def handD (ch : Nat) (cs : List Int) : D := .tup [.str ⟨#[ch]⟩, .tup (cs.map D.int)]
def HouseOk (hs : List (Nat × List Int)) : Prop := hs.length ≤ 6 ∧ ∀ h ∈ hs, 97 ≤ h.1 ∧ h.1 ≤ 122 ∧ h.2.length ≤ 4
def houseD (hs : List (Nat × List Int)) : D := .tup (hs.map fun h => handD h.1 h.2)
def chD (c : Nat) : D := .str ⟨#[c]⟩
theorem eqb_chs {cs : List Nat} (h : ∀ c ∈ cs, 97 ≤ c ∧ c ≤ 122) : Eqb (cs.map chD) := by
  have e : cs.map chD = (cs.map fun c => (⟨#[c]⟩ : Str)).map D.str := by
    rw [List.map_map]
    rfl
  rw [e]
  refine eqb_strs fun s hs => ?_
  obtain ⟨c, hc, rfl⟩ := List.mem_map.mp hs
  have := h c hc
  show (#[c] : Array Nat).all (· < 0x110000) = true
  simp
  omega
def sp_l_mark : DSpec := fun ss G Q => ∃ (k c : Nat) (n : Int) (cells : List Int) (seed cnt : Int) (hs : List (Nat × List Int)) (m : Int), ss = [.g k, .d (houseD hs), .d (.int m)] ∧ Dk G k c n cells seed cnt ∧ n + 5 ≤ 2 ^ 32 ∧ HouseOk hs ∧ (0 ≤ m ∧ m ≤ 4) ∧
  ∀ (z : Str) G', DkTo G k c (n + 5) G' → z.length ≤ 100 → Q (.v (.d (.str z))) G'
def sp_l_house : DSpec := fun ss G Q => ∃ (k c : Nat) (n : Int) (cells : List Int) (seed cnt : Int), ss = [.g k] ∧ Dk G k c n cells seed cnt ∧ n + 100 ≤ 2 ^ 32 ∧
  ∀ (hs : List (Nat × List Int)) G', HouseOk hs → DkTo G k c (n + 100) G' → Q (.v (.d (houseD hs))) G'
def sp_l_fault : DSpec := fun ss G Q => ∃ (k c : Nat) (n : Int) (cells : List Int) (seed cnt : Int), ss = [.g k] ∧ Dk G k c n cells seed cnt ∧ n + 3 ≤ 2 ^ 32 ∧
  ∀ (z : Str) G', DkTo G k c (n + 3) G' → z.length ≤ 100 → Q (.v (.d (.str z))) G'
def sp_law : DSpec := fun ss G Q => ∃ ns : List Int, ss = [.d (.scr ns)] ∧ G = [] ∧ ns.length ≤ 63 ∧ Q (.v (.d (.bl true))) []
theorem law_in {ns : List Int} (h : ns.length ≤ 63) (hb : ∀ z ∈ ns, Builtin.Int.intBits z ≤ 1048576) : sp_law [.d (.scr ns)] [] fun r _ => r = .v (.d (.bl true)) := ⟨ns, rfl, rfl, h, rfl⟩
theorem rep_first (z : Str) : ∃ t, reprD (optD (fidx z)) = some t := by
  unfold fidx
  split
  · exact ⟨_, rfl⟩
  split
  · exact ⟨_, rfl⟩
  split
  · exact ⟨_, rfl⟩
  split
  · exact ⟨_, rfl⟩
  exact ⟨_, rfl⟩
def askD (p : Str × Str) : D := .tup [.str p.1, .str p.2]
/-- the deck as the law's own: its values -/
structure DkV (n : Int) (cells : List Int) (seed cnt : Int) : Prop where
  s0 : 0 ≤ seed
  s1 : seed < 2 ^ 40
  n0 : 0 ≤ cnt
  n1 : cnt ≤ n
  cl : cells.length ≤ 1000
def deckL (cells : List Int) (seed cnt : Int) (ps : List (List D)) : List M := M.pl (cells.map D.int) :: .hl [.l 0, .d (.int seed), .d (.int cnt)] :: ps.map M.pl
def deckG (cells : List Int) (seed cnt : Int) (ps : List (List D)) : List M := M.pl (cells.map D.int) :: .hl [.g 0, .d (.int seed), .d (.int cnt)] :: ps.map M.pl
theorem deckL_pro (cells : List Int) (seed cnt : Int) (ps : List (List D)) : (deckL cells seed cnt ps).map M.pro = deckG cells seed cnt ps := by
  show _ :: _ :: (ps.map M.pl).map M.pro = _ :: _ :: ps.map M.pl
  rw [List.map_map]
  rfl
theorem deckG_dem (cells : List Int) (seed cnt : Int) (ps : List (List D)) : (deckG cells seed cnt ps).map M.dem = deckL cells seed cnt ps := by
  show _ :: _ :: (ps.map M.pl).map M.dem = _ :: _ :: ps.map M.pl
  rw [List.map_map]
  rfl
theorem DkV.dk {n : Int} {cells : List Int} {seed cnt : Int} (h : DkV n cells seed cnt) (ps : List (List D)) : Dk ((deckL cells seed cnt ps).map M.pro) 1 0 n cells seed cnt := by
  rw [deckL_pro]
  exact ⟨rfl, rfl, by decide, h.s0, h.s1, h.n0, h.n1, h.cl⟩
theorem DkV.mono {n m : Int} {cells : List Int} {seed cnt : Int} (h : DkV n cells seed cnt) (e : n ≤ m) : DkV m cells seed cnt := ⟨h.s0, h.s1, h.n0, Int.le_trans h.n1 e, h.cl⟩
theorem DkTo.v {n : Int} {cells : List Int} {seed cnt : Int} {ps : List (List D)} {G' : List M} (h : DkTo ((deckL cells seed cnt ps).map M.pro) 1 0 n G') : ∃ cells' seed' cnt', G'.map M.dem = deckL cells' seed' cnt' ps ∧ DkV n cells' seed' cnt' := by
  rw [deckL_pro] at h
  obtain ⟨a, b, d, rfl, q⟩ := h
  exact ⟨a, b, d, deckG_dem a b d ps, q.s0, q.s1, q.n0, q.n1, q.cl⟩
/-- the calls of the law's own body -/
theorem draw_useL {n m : Int} {cells : List Int} {seed cnt : Int} {ps : List (List D)} {Qd : Po} (h : DkV n cells seed cnt) (h1 : n ≤ 2 ^ 32) (h2 : 0 < m) (h3 : m < 2 ^ 40)
    (k : ∀ r cells' seed' cnt', DkV (n + 1) cells' seed' cnt' → 0 ≤ r → r < m → Qd (.d (.int r)) [] (deckL cells' seed' cnt' ps)) : sp_l_draw ([S.l 1, .d (.int m)].map S.pro) ((deckL cells seed cnt ps).map M.pro) (asVL Qd) :=
  draw_use (h.dk ps) h1 h2 h3 fun r G' _ _ _ t _ a b => by
    obtain ⟨x, y, z, e, q⟩ := t.v
    have := k r x y z q a b
    rw [← e] at this
    exact this
theorem house_useL {n : Int} {cells : List Int} {seed cnt : Int} {ps : List (List D)} {Qd : Po} (h : DkV n cells seed cnt) (h1 : n + 100 ≤ 2 ^ 32)
    (k : ∀ hs cells' seed' cnt', HouseOk hs → DkV (n + 100) cells' seed' cnt' → Qd (.d (houseD hs)) [] (deckL cells' seed' cnt' ps)) : sp_l_house ([S.l 1].map S.pro) ((deckL cells seed cnt ps).map M.pro) (asVL Qd) :=
  ⟨1, 0, n, cells, seed, cnt, rfl, h.dk ps, h1, fun hs G' a t => by
    obtain ⟨x, y, z, e, q⟩ := t.v
    have := k hs x y z a q
    rw [← e] at this
    exact this⟩
theorem mark_useL {n m : Int} {hs : List (Nat × List Int)} {cells : List Int} {seed cnt : Int} {ps : List (List D)} {Qd : Po} (h : DkV n cells seed cnt) (hh : HouseOk hs) (h1 : n + 5 ≤ 2 ^ 32) (h2 : 0 ≤ m ∧ m ≤ 4)
    (k : ∀ (z : Str) cells' seed' cnt', z.length ≤ 100 → DkV (n + 5) cells' seed' cnt' → Qd (.d (.str z)) [] (deckL cells' seed' cnt' ps)) : sp_l_mark ([S.l 1, .d (houseD hs), .d (.int m)].map S.pro) ((deckL cells seed cnt ps).map M.pro) (asVL Qd) :=
  ⟨1, 0, n, cells, seed, cnt, hs, m, rfl, h.dk ps, h1, hh, h2, fun z G' t a => by
    obtain ⟨x, y, w, e, q⟩ := t.v
    have := k z x y w a q
    rw [← e] at this
    exact this⟩
theorem fault_useL {n : Int} {cells : List Int} {seed cnt : Int} {ps : List (List D)} {Qd : Po} (h : DkV n cells seed cnt) (h1 : n + 3 ≤ 2 ^ 32)
    (k : ∀ (z : Str) cells' seed' cnt', z.length ≤ 100 → DkV (n + 3) cells' seed' cnt' → Qd (.d (.str z)) [] (deckL cells' seed' cnt' ps)) : sp_l_fault ([S.l 1].map S.pro) ((deckL cells seed cnt ps).map M.pro) (asVL Qd) :=
  ⟨1, 0, n, cells, seed, cnt, rfl, h.dk ps, h1, fun z G' t a => by
    obtain ⟨x, y, w, e, q⟩ := t.v
    have := k z x y w a q
    rw [← e] at this
    exact this⟩
theorem fj_useL {m z : Str} {cells : List Int} {seed cnt : Int} {ps : List (List D)} {Qd : Po} (hz : z.length ≤ 100000) (k : Qd (.d (optD (fidx z))) [] (deckL cells seed cnt ps)) : sp_first_judge ([S.d (.str m), .d (.str z)].map S.pro) ((deckL cells seed cnt ps).map M.pro) (asVL Qd) :=
  ⟨m, z, rfl, hz, by
    show Qd (S.d (optD (fidx z))) [] (((deckL cells seed cnt ps).map M.pro).map M.dem)
    rw [deckL_pro, deckG_dem]
    exact k⟩
theorem lf_useL {z : Str} {cells : List Int} {seed cnt : Int} {ps : List (List D)} {Qd : Po} (hz : z.length ≤ 100000) (k : Qd (.d (optD (fidx z))) [] (deckL cells seed cnt ps)) : sp_l_first ([S.d (.str z)].map S.pro) ((deckL cells seed cnt ps).map M.pro) (asVL Qd) :=
  ⟨z, rfl, hz, by
    show Qd (S.d (optD (fidx z))) [] (((deckL cells seed cnt ps).map M.pro).map M.dem)
    rw [deckL_pro, deckG_dem]
    exact k⟩
def asked0 : List (Str × Str) := [("....", "bent"), ("....", "cracked"), ("....", "burnt"), ("....", "loose"), ("....", ""), ("....", " "), ("....", "none"), ("....", "bent\n"), ("....", "0"), ("....", "\n")]
def asked1 (a b : Str) : List (Str × Str) := asked0 ++ ([("....", a), ("....", "loose "), ("....", "bent cracked"), ("....", b)] : List (Str × Str))
theorem asked1_ok {a b : Str} (ha : a.length ≤ 100000) (hb : b.length ≤ 100000) : ∀ p ∈ asked1 a b, p.2.length ≤ 100000 := by
  unfold asked1 asked0
  simp only [List.cons_append, List.nil_append, List.forall_mem_cons]
  exact ⟨by decide, by decide, by decide, by decide, by decide, by decide, by decide, by decide, by decide, by decide, ha, by decide, by decide, hb, fun _ h => by cases h⟩
end Pf
local macro_rules | `(tactic| walk_at "draw") => `(tactic| (refine Pf.draw_use (by assumption) (by omega) (by first | omega | (simp only [List.length_map]; omega)) (by first | omega | (simp only [List.length_map]; omega)) ?_; intro _ _ _ _ _ _ _ _ _; dsimp only [asV]))
local macro_rules | `(tactic| walk_at "god") => `(tactic| repeat (first | walk_at "f1" | walk_at "d1" | walk_at "d2" | walk_at "draw"))

namespace Pf
open PySem L2 DL
section
variable {P : Program} {w : World} {K : PySem.W.Frag} {mg : Str → Option Value} {base : Heap}
theorem ok_l_draw (T : TX w K mg) : FnOk P w K mg base CX0 1 T.a_l_draw T.fd_l_draw ["_law_deck_here", "_law_most"] (spD K sp_l_draw) := by
  refine okD (k := 0) T.F_l_draw sc_l_draw (fun ss G Qd h => ?_) (fun cdv A outer s H E ss G Qd hr h => ?_)
  · obtain ⟨k, c, m, n, cells, seed, cnt, rfl, hD, hn, hm0, hm1, q⟩ := h
    rfl
  · obtain ⟨k, c, m, n, cells, seed, cnt, rfl, hD, hn, hm0, hm1, q⟩ := h
    refine ⟨_, (pss_cons (ps_asg (pe_op (show OpR _ (binaryOp .Add) (uAdd K) from uo_add) (pe_ix (show IxR _ (rIx K) from ix_seq) (pv 0) pe_int (fun _ _ => rfl)) pe_int) (pg_sub (pv 0) pe_int set_list))
      (pss_cons (ps_set (i := 2) sc_l_draw.nd rfl (Or.inl rfl) (pe_ix (show IxR _ (rIx K) from ix_seq) (pv 0) pe_int (fun _ _ => rfl)))
      (pss_cons (ps_if (pt_cmpR (show OpR _ (compareOp .NotEq) (uNe K) from (uo_ne hr.units)) (pe_ix (show IxR _ (rIx K) from ix_seq) (pv 0) pe_int (fun _ _ => rfl)) (pe_lst pa_nil) (nomark _)) (pss_cons (ps_set (i := 2) sc_l_draw.nd rfl (Or.inl rfl) (pe_bm0 PySem.F.plainAttrs_list PySem.F.slot_list_pop PySem.F.type_list_pop mt_pop (pe_ix (show IxR _ (rIx K) from ix_seq) (pv 0) pe_int (fun _ _ => rfl))))
      (pss_one (ps_if (pt_cmpR op_ge (pv 2) (pe_op op_pow pe_int pe_int) (nomark _)) (pss_cons (ps_expr (pe_bm PySem.F.plainAttrs_list PySem.F.slot_list_append PySem.F.type_list_append mt_append (pe_ix (show IxR _ (rIx K) from ix_seq) (pv 0) pe_int (fun _ _ => rfl)) (pa_cons (pe_op op_fdivW (pv 2) (pv 1)) pa_nil)))
      (pss_one (ps_ret (pe_op op_mod (pv 2) (pv 1))))) pss_nil))) pss_nil)
      (pss_cons (ps_set (i := 3) sc_l_draw.nd rfl (Or.inl rfl) (pe_op op_mod (pe_op (show OpR _ (binaryOp .Mult) (uMul K) from uo_mul) (pe_op (show OpR _ (binaryOp .Add) (uAdd K) from uo_add) (pe_op (show OpR _ (binaryOp .Add) (uAdd K) from uo_add) (pe_op op_mod (pv 2) pe_int) (pe_op (show OpR _ (binaryOp .Mult) (uMul K) from uo_mul) (pe_op (show OpR _ (binaryOp .Mult) (uMul K) from uo_mul) pe_int (pe_ix (show IxR _ (rIx K) from ix_seq) (pv 0) pe_int (fun _ _ => rfl))) (pe_ix (show IxR _ (rIx K) from ix_seq) (pv 0) pe_int (fun _ _ => rfl)))) pe_int) pe_int) pe_int))
      (pss_cons (ps_set (i := 3) sc_l_draw.nd rfl (Or.inl rfl) (pe_op op_mod (pe_op (show OpR _ (binaryOp .Add) (uAdd K) from uo_add) (pe_op (show OpR _ (binaryOp .Add) (uAdd K) from uo_add) (pe_op (show OpR _ (binaryOp .Mult) (uMul K) from uo_mul) (pv 3) (pv 3)) (pe_op (show OpR _ (binaryOp .Mult) (uMul K) from uo_mul) pe_int (pv 3))) (pe_ix (show IxR _ (rIx K) from ix_seq) (pv 0) pe_int (fun _ _ => rfl))) pe_int))
      (pss_one (ps_ret (pe_op op_mod (pe_op op_fdivW (pe_op op_mod (pe_op (show OpR _ (binaryOp .Mult) (uMul K) from uo_mul) (pv 3) pe_int) pe_int) pe_int) (pv 1))))))))), ?_⟩
    simp only [cxOf, Cx.nox, Cx.wish, Cx.blk, startD, List.map, List.length_cons, List.length_nil, Nat.reduceAdd, Nat.reduceSub, List.replicate, List.cons_append, List.nil_append]
    obtain ⟨hk, hc, ne, s0, s1, n0, n1, cl⟩ := hD
    have fin : ∀ (z : Int) (cs : List Int), cs.length ≤ 1000 → (endsD Qd).rt (.d (.int (z % m))) ((G.set k (.hl [.g c, .d (.int seed), .d (.int (cnt + 1))])).set c (.pl (cs.map D.int))) [] :=
      fun z cs hl => q _ _ (dkTo_mk hk hc ne s0 s1 (by omega) (by omega) hl) (Int.emod_nonneg _ (by omega)) (Int.emod_lt_of_pos _ hm0)
    walk_at "go"
    refine sto_gh hk (i := 2) rfl ?hs ?_
    (case hs => exact rfl)
    have hk1 := set_at (x := M.hl [S.g c, .d (.int seed), .d (.int (cnt + 1))]) hk
    have hc1 : (G.set k (M.hl [S.g c, .d (.int seed), .d (.int (cnt + 1))]))[c]? = _ := (set_off (Ne.symm ne)).trans hc
    show StC K _ _ (G.set k (M.hl [S.g c, .d (.int seed), .d (.int (cnt + 1))])) _ _
    generalize hG1 : G.set k (M.hl [S.g c, .d (.int seed), .d (.int (cnt + 1))]) = G1 at *
    walk_at "go"
    refine iteB (fun hne => ?_) (fun hem => ?_)
    · have hpos : 0 < cells.length := by
        cases cells with
        | nil => cases hne
        | cons _ _ => exact Nat.succ_pos _
      have hlast : (cells.map D.int)[(cells.map D.int).length - 1]? = some (D.int (cells.getLast (List.ne_nil_of_length_pos hpos))) := by
        rw [List.length_map, List.getElem?_map, List.getLast_eq_getElem, List.getElem?_eq_getElem]
        rfl
      generalize cells.getLast _ = z at hlast
      walk_at "go"
      try refine ⟨tyS_g hc1, ?_⟩
      refine mt_pop_g hc1 hlast ?_
      generalize hG2 : G1.set c (M.pl (cells.map D.int).dropLast) = G2
      have hk2 : G2[k]? = some (M.hl [S.g c, .d (.int seed), .d (.int (cnt + 1))]) := by rw [← hG2, set_off ne, hk1]
      have hc2 : G2[c]? = some (M.pl (cells.dropLast.map D.int)) := by rw [← hG2, set_at hc1, List.map_dropLast]
      walk_at "go"
      refine iteD (fun hge => ?_) (fun hlt => ?_)
      · walk_at "go"
        walk_at "go"
        refine mt_app_g hc2 (by rw [List.length_map, List.length_dropLast]; exact lt_line (by omega)) ?_
        walk_at "go"
        have f := fin z (cells.dropLast ++ [z / m]) (by rw [List.length_append, List.length_dropLast]; show _ + 1 ≤ _; omega)
        rw [← hG2, set_set]
        rw [List.map_append] at f
        exact f
      · walk_at "go"
        have f := fun y => fin y cells.dropLast (by rw [List.length_dropLast]; omega)
        rw [List.map_dropLast, hG2] at f
        exact f _
    · walk_at "go"
      have f := fun y => fin y cells cl
      rw [set_same hc1] at f
      exact f _
end
end Pf
namespace Pf
open PySem L2 DL
section
variable {P : Program} {w : World} {K : PySem.W.Frag} {mg : Str → Option Value} {base : Heap}
theorem ok_l_deck (T : TX w K mg) : FnOk P w K mg base CX0 1 T.a_l_deck T.fd_l_deck ["_law_script"] (spD K sp_l_deck) := by
  refine okD (k := 0) T.F_l_deck sc_l_deck (fun ss G Qd h => ?_) (fun cdv A outer s H E ss G Qd hr h => ?_)
  · obtain ⟨ns, rfl, hn, q⟩ := h
    rfl
  · obtain ⟨ns, rfl, hn, q⟩ := h
    refine ⟨_, (pss_cons (ps_set (i := 1) sc_l_deck.nd rfl (Or.inl rfl) (pe_callTy (show CallR _ (.type "list") (uList K) from (uc_list rfl)) (by rfl) T.z_list (by decide +kernel) (pa_cons (pe_slice (show SlR _ (uSl K) from us_sl) (pv 0) po_none (po_some pe_int)) pa_nil)))
      (pss_cons (ps_set (i := 2) sc_l_deck.nd rfl (Or.inl rfl) (pe_callB (show CallR _ (.builtin "sum") (rSum K) from (cr_sum rfl)) (by rfl) T.z_sum (by decide +kernel) (pa_cons (pe_lc (own := [("_law_cell", 3)]) (g := (gName 3)) (tt := tYes) (by rfl) sc_l_deck.nd (pi_seq (pv 1)) (blkOk_by (N := ["_law_script", "_law_cells", "_law_seed", "_law_cell"]) (sc := defScope s_l_deck) (by decide +kernel)) (fun _ _ _ _ _ => (pg_name (i := 3) sc_l_deck.nd rfl (Or.inl rfl))) (fun _ _ _ _ _ => pts_nil) (fun _ _ _ _ _ => (pe_op op_mod (pv 3) pe_int))) pa_nil)))
      (pss_one (ps_ret (pe_lst (pa_cons (pe_revL (pv 1)) (pa_cons (pe_op (show OpR _ (binaryOp .Add) (uAdd K) from uo_add) (pe_op op_mod (pv 2) pe_int) (pe_op (show OpR _ (binaryOp .Mult) (uMul K) from uo_mul) pe_int (pe_callB (show CallR _ (.builtin "len") (uLen K) from uc_len) (by rfl) T.z_len (by decide +kernel) (pa_cons (pv 1) pa_nil)))) (pa_cons pe_int pa_nil)))))))), ?_⟩
    simp only [cxOf, Cx.nox, Cx.wish, Cx.blk, startD, List.map, List.length_cons, List.length_nil, Nat.reduceAdd, Nat.reduceSub, List.replicate, List.cons_append, List.nil_append]
    walk_at "go"
    refine sln_c (sl_scr ?_)
    walk_at "go"
    obtain ⟨cells, hc, hl, _⟩ := cutD_map D.int ns none (some 63)
    rw [hc]
    generalize hD : ([some (S.d (D.scr ns)), none, none, none].set 1 (some (S.d (D.lst (cells.map D.int))))) = Δ
    have hD' : Δ = [some (S.d (D.scr ns)), some (S.d (D.lst (cells.map D.int))), none, none] := hD.symm
    subst hD'
    clear hD
    walk_at "go"
    refine evn_c (evn_lcF (fun _ => true) (fun d => match d with | .int i => .int (i % 2147483629) | d => d) ?_)
    walk_at "go"
    refine ⟨by rw [List.length_map]; exact lt_line (by omega), ?_, ?_⟩
    · intro d hd
      obtain ⟨z, hz, rfl⟩ := List.mem_map.mp hd
      walk_at "go"
      refine ⟨rfl, fun _ => ?_, fun e => (by cases e)⟩
      walk_at "go"
      exact ⟨rfl, rfl, rfl⟩
    · rw [filter_yes, List.map_map]
      have e : (cells.map ((fun d => match d with | .int i => D.int (i % 2147483629) | d => d) ∘ D.int)) = (cells.map (· % 2147483629)).map D.int := by
        rw [List.map_map]
        rfl
      rw [e]
      walk_at "go"
      refine ap_sum rfl (fun ds h => by cases h) ?_
      generalize (cells.map (· % 2147483629)).sum = sm
      refine st_ret2 ?_
      refine evn_revL ?_
      walk_at "go"
      have f := q cells.reverse (sm % 2147483629 + 48271 * (((cells.map D.int).length : Nat) : Int)) (by rw [List.length_reverse]; omega)
        (by have := Int.emod_nonneg sm (show (2147483629 : Int) ≠ 0 by decide); omega)
        (by have := Int.emod_lt_of_pos sm (show (0 : Int) < 2147483629 by decide); rw [List.length_map]; omega)
      rw [List.map_reverse] at f
      exact f
end
end Pf
namespace Pf
open PySem L2 DL
section
variable {P : Program} {w : World} {K : PySem.W.Frag} {mg : Str → Option Value} {base : Heap}
theorem ok_l_first (T : TX w K mg) : FnOk P w K mg base CX0 1 T.a_l_first T.fd_l_first ["_law_fault_here"] (spD K sp_l_first) := by
  refine okD (k := 0) T.F_l_first sc_l_first (fun ss G Qd h => ?_) (fun cdv A outer s H E ss G Qd hr h => ?_)
  · obtain ⟨z, rfl, hz, q⟩ := h
    rfl
  · obtain ⟨z, rfl, hz, q⟩ := h
    refine ⟨_, (pss_cons (ps_set (i := 1) sc_l_first.nd rfl (Or.inr rfl) (pe_lst (pa_cons pe_str (pa_cons pe_str (pa_cons pe_str (pa_cons pe_str pa_nil))))))
      (pss_one (ps_ret (pe_ix (show IxR _ (rIx K) from ix_seq) (pe_op (show OpR _ (binaryOp .Add) (uAdd K) from uo_add) (pe_lc (own := [("_law_k", 2)]) (g := (gName 2)) (by rfl) sc_l_first.nd (pi_range1 rfl T.z_range (pa_cons pe_int pa_nil)) (blkOk_by (N := ["_law_fault_here", "_law_words", "_law_k"]) (sc := defScope s_l_first) (by decide +kernel)) (fun _ _ _ _ _ => (pg_name (i := 2) sc_l_first.nd rfl (Or.inl rfl))) (fun _ _ _ _ _ => (pts_one (pt_cmpR (show OpR _ (compareOp .Eq) (uEq K) from (uo_eq hr.units)) (pe_ix (show IxR _ (rIx K) from ix_seq) (pv 1) (pv 2) (fun _ _ => rfl)) (pv 0) (nomark _)))) (fun _ _ _ _ _ => (pv 2))) (pe_lst (pa_cons pe_non pa_nil))) pe_int (fun _ _ => rfl))))), ?_⟩
    simp only [cxOf, Cx.nox, Cx.wish, Cx.blk, startD, List.map, List.length_cons, List.length_nil, Nat.reduceAdd, Nat.reduceSub, List.replicate, List.cons_append, List.nil_append]
    walk_at "go"
    refine evn_c (evn_lcF (fkeep z) id ?_)
    walk_at "go"
    refine ⟨by decide, by decide, ?_⟩
    have e : rngD 0 (4 : Int).toNat = [.int 0, .int 1, .int 2, .int 3] := rfl
    rw [e]
    refine ⟨lt_line (by decide), ?_, ?_⟩
    · intro d hd
      have key : ∀ (a b c e : D) (P : D → Prop), P a → P b → P c → P e → ∀ d ∈ [a, b, c, e], P d := by
        intro a b c e P ha hb hc he d hd
        rcases List.mem_cons.mp hd with rfl | hd
        · exact ha
        rcases List.mem_cons.mp hd with rfl | hd
        · exact hb
        rcases List.mem_cons.mp hd with rfl | hd
        · exact hc
        rcases List.mem_cons.mp hd with rfl | hd
        · exact he
        cases hd
      revert d hd
      refine key _ _ _ _ _ ?_ ?_ ?_ ?_
      all_goals
        walk_at "go"
        refine ⟨rfl, fun _ => ?_, fun e => ⟨rfl, rfl⟩⟩
        walk_at "go"
        exact ⟨rfl, rfl, rfl⟩
    · walk_at "go"
      refine ⟨?hl, ?_⟩
      (case hl =>
        have h := List.length_filter_le (fkeep z) [.int 0, .int 1, .int 2, .int 3]
        rw [List.length_map]
        exact le_line (by simp only [List.length_cons, List.length_nil] at h ⊢; omega))
      walk_at "go"
      refine u_ix_g rfl (first_at z) ?_
      exact q
end
end Pf
namespace Pf
open PySem L2 DL
section
variable {P : Program} {w : World} {K : PySem.W.Frag} {mg : Str → Option Value} {base : Heap}
theorem ok_first_judge (T : TX w K mg) : FnOk P w K mg base CX0 1 T.a_first_judge T.fd_first_judge ["mark", "fault"] (spD K sp_first_judge) := by
  refine okD (k := 0) T.F_first_judge sc_first_judge (fun ss G Qd h => ?_) (fun cdv A outer s H E ss G Qd hr h => ?_)
  · obtain ⟨m, z, rfl, hz, q⟩ := h
    rfl
  · obtain ⟨m, z, rfl, hz, q⟩ := h
    refine ⟨_, (pss_one (ps_try_only rfl rfl ⟨rfl, by decide, .inr ⟨T.z_KeyError, (by decide +kernel : bootBuiltins "KeyError" = some (Value.type "KeyError")), by decide⟩⟩ takes0 (fun W pn xe tk _ => (pss_one (ps_ret (show PE _ _ (tIxDX K w W _ _) from pe_ixDX rfl tk (pe_glob (v := .ref T.a_FAULTS) (by rfl) T.m_FAULTS rfl) (pv 1) (fun _ _ => rfl))))) (fun a oe cls d pn _ _ => (pss_one (ps_ret pe_non))))), ?_⟩
    simp only [cxOf, Cx.nox, Cx.wish, Cx.blk, startD, List.map, List.length_cons, List.length_nil, Nat.reduceAdd, Nat.reduceSub, List.replicate, List.cons_append, List.nil_append]
    refine st_tryKey (w := w) ?_
    walk_at "go"
    refine ⟨_, _, _, rfl, rfl, T.d_FAULTS, T.x_KeyError, ?_⟩
    rw [fget]
    cases h : fidx z with
    | some i =>
      rw [h] at q
      exact ⟨.int i, rfl, q⟩
    | none =>
      rw [h] at q
      intro a d
      walk_at "go"
      exact q
end
end Pf
namespace Pf
open PySem L2 DL
section
variable {P : Program} {w : World} {K : PySem.W.Frag} {mg : Str → Option Value} {base : Heap}
theorem ok_l_fault (T : TX w K mg) (G_l_draw : FnOk P w K mg base CX0 1 T.a_l_draw T.fd_l_draw ["_law_deck_here", "_law_most"] (spD K sp_l_draw)) : FnOk P w K mg base CX0 2 T.a_l_fault T.fd_l_fault ["_law_deck_here"] (spD K sp_l_fault) := by
  refine okD (k := 1) T.F_l_fault sc_l_fault (fun ss G Qd h => ?_) (fun cdv A outer s H E ss G Qd hr h => ?_)
  · obtain ⟨k, c, n, cells, seed, cnt, rfl, hD, hn, q⟩ := h
    rfl
  · obtain ⟨k, c, n, cells, seed, cnt, rfl, hD, hn, q⟩ := h
    refine ⟨_, (pss_cons (ps_set (i := 1) sc_l_fault.nd rfl (Or.inl rfl) (pe_ix (show IxR _ (rIx K) from ix_seq) (pe_lst (pa_cons pe_str (pa_cons pe_str (pa_cons pe_str (pa_cons pe_str pa_nil))))) (pe_call G_l_draw (hr.mono (by decide)) rfl T.m_l_draw T.k_l_draw T.b_l_draw .nil pass0 (pa_cons (pv 0) (pa_cons pe_int pa_nil))) (fun _ _ => rfl)))
      (pss_cons (ps_set (i := 2) sc_l_fault.nd rfl (Or.inl rfl) (pe_call G_l_draw (hr.mono (by decide)) rfl T.m_l_draw T.k_l_draw T.b_l_draw .nil pass0 (pa_cons (pv 0) (pa_cons pe_int pa_nil))))
      (pss_cons (ps_set (i := 3) sc_l_fault.nd rfl (Or.inl rfl) (pe_call G_l_draw (hr.mono (by decide)) rfl T.m_l_draw T.k_l_draw T.b_l_draw .nil pass0 (pa_cons (pv 0) (pa_cons (pe_callB (show CallR _ (.builtin "len") (uLen K) from uc_len) (by rfl) T.z_len (by decide +kernel) (pa_cons (pv 1) pa_nil)) pa_nil))))
      (pss_cons (ps_set (i := 4) sc_l_fault.nd rfl (Or.inl rfl) (pe_lst (pa_cons (pe_upper (pv 1)) (pa_cons (pe_op (show OpR _ (binaryOp .Add) (uAdd K) from uo_add) (pe_slice (show SlR _ (uSl K) from us_sl) (pv 1) po_none (po_some (pv 3))) (pe_slice (show SlR _ (uSl K) from us_sl) (pv 1) (po_some (pe_op (show OpR _ (binaryOp .Add) (uAdd K) from uo_add) (pv 3) pe_int)) po_none)) (pa_cons (pe_op (show OpR _ (binaryOp .Add) (uAdd K) from uo_add) (pe_op (show OpR _ (binaryOp .Add) (uAdd K) from uo_add) (pe_slice (show SlR _ (uSl K) from us_sl) (pv 1) po_none (po_some (pv 3))) pe_str) (pe_slice (show SlR _ (uSl K) from us_sl) (pv 1) (po_some (pv 3)) po_none)) (pa_cons (pe_op (show OpR _ (binaryOp .Add) (uAdd K) from uo_add) (pe_slice (show SlR _ (uSl K) from us_sl) (pv 1) (po_some (pv 3)) po_none) (pe_slice (show SlR _ (uSl K) from us_sl) (pv 1) po_none (po_some (pv 3)))) pa_nil))))))
      (pss_one (ps_ret (pe_ix (show IxR _ (rIx K) from ix_seq) (pe_op (show OpR _ (binaryOp .Add) (uAdd K) from uo_add) (pe_op (show OpR _ (binaryOp .Mult) (uMul K) from uo_mul) (pe_lst (pa_cons (pv 1) pa_nil)) pe_int) (pv 4)) (pv 2) (fun _ _ => rfl)))))))), ?_⟩
    simp only [cxOf, Cx.nox, Cx.wish, Cx.blk, startD, List.map, List.length_cons, List.length_nil, Nat.reduceAdd, Nat.reduceSub, List.replicate, List.cons_append, List.nil_append]
    walk_at "god"
    rename_i r1 G1 _ _ _ t1 D1 a1 b1
    refine u_ix_all ⟨_, rfl, by omega, by simp only [List.length_cons, List.length_nil]; omega, fun d hd => ?_⟩
    obtain ⟨w, rfl, w1, w2⟩ : ∃ w : Str, d = .str w ∧ 1 ≤ w.length ∧ w.length ≤ 10 := by
      revert d
      simp only [List.forall_mem_cons]
      exact ⟨⟨_, rfl, by decide, by decide⟩, ⟨_, rfl, by decide, by decide⟩, ⟨_, rfl, by decide, by decide⟩, ⟨_, rfl, by decide, by decide⟩, fun _ h => by cases h⟩
    walk_at "god"
    refine u_ix_all ⟨_, rfl, by assumption, by show _ < (8 : Int); assumption, ?_⟩
    have fin : ∀ z : Str, z.length ≤ 100 → (endsD Qd).rt (.d (.str z)) _ [] := fun z hz => q z _ (((DkTo.trans (by assumption) (DkTo.trans (by assumption) (by assumption)))).mono (by omega)) hz
    show ∀ d ∈ [_, _, _, _, _, _, _, _], _
    simp only [List.forall_mem_cons]
    exact ⟨fin _ (by omega), fin _ (by omega), fin _ (by omega), fin _ (by omega), fin _ (by omega), fin _ (by omega), fin _ (by omega), fin _ (by omega), fun _ h => by cases h⟩
end
end Pf
namespace Pf
open PySem L2 DL
section
variable {P : Program} {w : World} {K : PySem.W.Frag} {mg : Str → Option Value} {base : Heap}
local macro_rules | `(tactic| walk_at "own") => `(tactic| first | (with_reducible refine st_own (i := 3) ?_) | (with_reducible refine st_own (i := 4) ?_))
theorem ok_l_house (T : TX w K mg) (G_l_draw : FnOk P w K mg base CX0 1 T.a_l_draw T.fd_l_draw ["_law_deck_here", "_law_most"] (spD K sp_l_draw)) : FnOk P w K mg base CX0 2 T.a_l_house T.fd_l_house ["_law_deck_here"] (spD K sp_l_house) := by
  refine okD (k := 1) T.F_l_house sc_l_house (fun ss G Qd h => ?_) (fun cdv A outer s H E ss G Qd hr h => ?_)
  · obtain ⟨k, c, n, cells, seed, cnt, rfl, hD, hn, q⟩ := h
    rfl
  · obtain ⟨k, c, n, cells, seed, cnt, rfl, hD, hn, q⟩ := h
    refine ⟨_, (pss_cons (ps_set (i := 1) sc_l_house.nd rfl (Or.inr rfl) (pe_call G_l_draw (hr.mono (by decide)) rfl T.m_l_draw T.k_l_draw T.b_l_draw .nil pass0 (pa_cons (pv 0) (pa_cons pe_int pa_nil))))
      (pss_cons (ps_set (i := 2) sc_l_house.nd rfl (Or.inr rfl) (pe_op (show OpR _ (binaryOp .Add) (uAdd K) from uo_add) pe_int (pe_call G_l_draw (hr.mono (by decide)) rfl T.m_l_draw T.k_l_draw T.b_l_draw .nil pass0 (pa_cons (pv 0) (pa_cons pe_int pa_nil)))))
      (pss_cons (ps_set (i := 3) sc_l_house.nd rfl (Or.inl rfl) (pe_callTy (show CallR _ (.type "list") (uList K) from (uc_list rfl)) (by rfl) T.z_list (by decide +kernel) (pa_cons pe_str pa_nil)))
      (pss_cons (ps_set (i := 4) sc_l_house.nd rfl (Or.inl rfl) (pe_lst pa_nil))
      (pss_cons (ps_for PassesOwn.never rfl (pi_range1 rfl T.z_range (pa_cons (pv 2) pa_nil)) (pg_name (i := 5) sc_l_house.nd rfl (Or.inr rfl)) (pss_cons (ps_set (i := 6) sc_l_house.nd rfl (Or.inl rfl) (pe_bm PySem.F.plainAttrs_list PySem.F.slot_list_pop PySem.F.type_list_pop mt_popAt (pv 3) (pa_cons (pe_call G_l_draw (hr.mono (by decide)) rfl T.m_l_draw T.k_l_draw T.b_l_draw .nil pass0 (pa_cons (pv 0) (pa_cons (pe_callB (show CallR _ (.builtin "len") (uLen K) from uc_len) (by rfl) T.z_len (by decide +kernel) (pa_cons (pv 3) pa_nil)) pa_nil))) pa_nil)))
      (pss_cons (ps_setLc (i := 7) (own := [("_law_deed", 8)]) (g := (gName 8)) (by rfl) sc_l_house.nd rfl rfl (sw_true rfl rfl rfl (by decide +kernel)) (pi_range1 rfl T.z_range (pa_cons pe_int pa_nil)) (blkOk_by (N := ["_law_deck_here", "_law_whole", "_law_many", "_law_left", "_law_found", "_law_k", "_law_letter", "_law_crafts", "_law_deed"]) (sc := defScope s_l_house) (by decide +kernel)) (fun _ _ _ _ _ => (pg_name (i := 8) sc_l_house.nd rfl (Or.inl rfl))) (fun _ _ _ _ _ => (pts_one (PW.pt (pw_or (pt_cmpR (show OpR _ (compareOp .Eq) (uEq K) from (uo_eq hr.units)) (pe_call G_l_draw (hr.mono (by decide)) rfl T.m_l_draw T.k_l_draw T.b_l_draw .nil pass0 (pa_cons (pv 0) (pa_cons pe_int pa_nil))) pe_int (nomark _)) (pw_or1 (PW.pt (pw_and (pt_cmpR (show OpR _ (compareOp .Eq) (uEq K) from (uo_eq hr.units)) (pv 1) pe_int (nomark _)) (pw_and1 (pt_cmpR (show OpR _ (compareOp .Eq) (uEq K) from (uo_eq hr.units)) (pe_op op_mod (pv 8) (pv 2)) (pv 5) (nomark _)))))))))) (fun _ _ _ _ _ => (pv 8)))
      (pss_cons (ps_if (pt_cmpR (show OpR _ (compareOp .Eq) (uEq K) from (uo_eq hr.units)) (pv 7) (pe_lst pa_nil) (nomark _)) (pss_one (ps_set (i := 7) sc_l_house.nd rfl (Or.inl rfl) (pe_lst (pa_cons (pe_call G_l_draw (hr.mono (by decide)) rfl T.m_l_draw T.k_l_draw T.b_l_draw .nil pass0 (pa_cons (pv 0) (pa_cons pe_int pa_nil))) pa_nil)))) pss_nil)
      (pss_one (ps_expr (pe_bm PySem.F.plainAttrs_list PySem.F.slot_list_append PySem.F.type_list_append mt_append (pv 4) (pa_cons (pe_tup (pa_cons (pv 6) (pa_cons (pe_callTy (show CallR _ (.type "tuple") (uTuple K) from uc_tuple) (by rfl) T.z_tuple (by decide +kernel) (pa_cons (pv 7) pa_nil)) pa_nil))) pa_nil))))))))
      (pss_one (ps_ret (pe_callTy (show CallR _ (.type "tuple") (uTuple K) from uc_tuple) (by rfl) T.z_tuple (by decide +kernel) (pa_cons (pv 4) pa_nil))))))))), ?_⟩
    simp only [cxOf, Cx.nox, Cx.wish, Cx.blk, startD, List.map, List.length_cons, List.length_nil, Nat.reduceAdd, Nat.reduceSub, List.replicate, List.cons_append, List.nil_append]
    walk_at "god"
    rename_i w G1 _ _ _ t1 D1 w0 w1 m G2 _ _ _ t2 D2 m0 m1
    refine ap_listS (le_line (by decide)) ?_
    obtain ⟨cs0, hcs0, hcl0, hcr0⟩ : ∃ cs : List Nat, signsD "abcdefghijklmnopqrstuvwxyz" = cs.map chD ∧ cs.length = 26 ∧ ∀ c ∈ cs, 97 ≤ c ∧ c ≤ 122 := ⟨_, rfl, by decide, by decide⟩
    rw [hcs0]
    clear hcs0
    walk_at "god"
    refine st_for ?_
    walk_at "god"
    refine ⟨by omega, by omega, ?_⟩
    refine ⟨fun i Δ' G' L' => ∃ (cs : List Nat) (hs : List (Nat × List Int)) (x5 x6 x7 : Option S), Δ' = [some (.g k), some (.d (.int w)), some (.d (.int (1 + m))), some (.l 0), some (.l 1), x5, x6, x7, none] ∧
      L' = [.pl (cs.map chD), .pl (hs.map fun h => handD h.1 h.2)] ∧ cs.length + i = 26 ∧ (∀ c ∈ cs, 97 ≤ c ∧ c ≤ 122) ∧ hs.length = i ∧ (∀ h ∈ hs, 97 ≤ h.1 ∧ h.1 ≤ 122 ∧ h.2.length ≤ 4) ∧ DkTo G k c (n + 2 + 10 * (i : Int)) G', ?_, ?_, ?_⟩
    · exact ⟨cs0, [], none, none, none, rfl, rfl, by omega, hcr0, rfl, (fun h z => by cases z), (t1.trans t2).mono (by omega)⟩
    · rintro i d Δ' G' L' hd ⟨cs, hs, x5, x6, x7, rfl, rfl, hcl, hcr, hhl, hhr, t⟩
      obtain ⟨hi, rfl⟩ := rngD_get hd
      obtain ⟨_, _, _, Dt⟩ := t.dk
      have hi6 : i < 6 := by omega
      walk_at "god"
      refine mt_popAtX ⟨_, rfl, by omega, by assumption, by simp only [List.length_map] at *; omega, fun j x hj hx => ?_⟩
      rename_i r3 G3 _ _ _ t3 D3 _ _
      obtain ⟨ch, hch, rfl⟩ := get_map hx
      have hjc : j < cs.length := by rw [List.length_map] at hj; exact hj
      walk_at "god"
      rw [erase_map]
      have hcl2 := erase_len hjc
      have hcr2 : ∀ c ∈ cs.eraseIdx j, 97 ≤ c ∧ c ≤ 122 := fun c h => hcr c (erase_mem h)
      have hch2 := hcr ch hch
      generalize cs.eraseIdx j = cs2 at *
      show EvC K _ _ G3 [.pl (cs2.map chD), .pl (hs.map fun h => handD h.1 h.2)] _
      have t3' := t.trans t3
      refine evn_c (evn_lc ?_)
      walk_at "god"
      refine ⟨by decide, by decide, ?_⟩
      refine ⟨fun i2 acc G' L' => ∃ ms : List Int, acc = ms.map D.int ∧ L' = [.pl (cs2.map chD), .pl (hs.map fun h => handD h.1 h.2)] ∧ ms.length ≤ i2 ∧ DkTo G k c (n + 2 + 10 * (i : Int) + 1 + (i2 : Int)) G', ⟨[], rfl, rfl, Nat.zero_le _, t3'.mono (by omega)⟩, by decide, ?_, ?_⟩
      · rintro i2 d acc G' L' hd2 - ⟨ms, rfl, rfl, hms, t4⟩
        obtain ⟨hi2, rfl⟩ := rngD_get hd2
        obtain ⟨_, _, _, D4⟩ := t4.dk
        have hi4 : i2 < 4 := by
          have e : (4 : Int).toNat = 4 := rfl
          omega
        have yes : ∀ G5, DkTo G' k c (n + 2 + 10 * (i : Int) + 1 + (i2 : Int) + 1) G5 → ∃ ms' : List Int, ms.map D.int ++ [D.int (0 + (i2 : Int))] = ms'.map D.int ∧ [M.pl (cs2.map chD), .pl (hs.map fun h => handD h.1 h.2)] = [.pl (cs2.map chD), .pl (hs.map fun h => handD h.1 h.2)] ∧ ms'.length ≤ i2 + 1 ∧ DkTo G k c (n + 2 + 10 * (i : Int) + 1 + ((i2 + 1 : Nat) : Int)) G5 := fun G5 t5 =>
          ⟨ms ++ [0 + (i2 : Int)], by rw [List.map_append]; rfl, rfl, by rw [List.length_append]; show ms.length + 1 ≤ i2 + 1; omega, (t4.trans t5).mono (by omega)⟩
        have no : ∀ G5, DkTo G' k c (n + 2 + 10 * (i : Int) + 1 + (i2 : Int) + 1) G5 → ∃ ms' : List Int, ms.map D.int = ms'.map D.int ∧ [M.pl (cs2.map chD), .pl (hs.map fun h => handD h.1 h.2)] = [.pl (cs2.map chD), .pl (hs.map fun h => handD h.1 h.2)] ∧ ms'.length ≤ i2 + 1 ∧ DkTo G k c (n + 2 + 10 * (i : Int) + 1 + ((i2 + 1 : Nat) : Int)) G5 := fun G5 t5 =>
          ⟨ms, rfl, rfl, by omega, (t4.trans t5).mono (by omega)⟩
        repeat' (first | walk_at "f1" | walk_at "d1" | walk_at "d2" | walk_at "draw" | refine iteD (fun _ => ?_) (fun _ => ?_))
        all_goals first | exact yes _ (by assumption) | exact no _ (by assumption) | exact ⟨rfl, by omega, (t4.trans (by assumption)).mono (by omega)⟩
      · rintro acc G' L' ⟨ms, rfl, rfl, hms, t4⟩
        obtain ⟨_, _, _, D4⟩ := t4.dk
        have hn4 : (rngD 0 (4 : Int).toNat).length = 4 := rfl
        rw [hn4] at hms t4 D4
        walk_at "god"
        refine iteB (fun hem => ?_) (fun hne => ?_)
        · walk_at "god"
          refine mt_app_lX ⟨_, rfl, by rw [List.length_map]; exact lt_line (by omega), ?_⟩
          rename_i r5 G5 _ _ _ t5 D5 _ _
          refine ⟨cs2, hs ++ [(ch, [r5])], _, _, _, rfl, ?_, by omega, hcr2, by rw [List.length_append]; show hs.length + 1 = i + 1; omega, ?_, (t4.trans t5).mono (by omega)⟩
          · show [M.pl (cs2.map chD), M.pl ((hs.map fun h => handD h.1 h.2) ++ [_])] = [M.pl (cs2.map chD), M.pl ((hs ++ [(ch, [r5])]).map fun h => handD h.1 h.2)]
            rw [List.map_append]
            rfl
          · intro h hh
            rcases List.mem_append.mp hh with z | z
            · exact hhr h z
            · rw [List.mem_singleton] at z
              subst z
              exact ⟨hch2.1, hch2.2, by show 1 ≤ 4; decide⟩
        · walk_at "god"
          refine mt_app_lX ⟨_, rfl, by rw [List.length_map]; exact lt_line (by omega), ?_⟩
          refine ⟨cs2, hs ++ [(ch, ms)], _, _, _, rfl, ?_, by omega, hcr2, by rw [List.length_append]; show hs.length + 1 = i + 1; omega, ?_, t4.mono (by omega)⟩
          · show [M.pl (cs2.map chD), M.pl ((hs.map fun h => handD h.1 h.2) ++ [_])] = [M.pl (cs2.map chD), M.pl ((hs ++ [(ch, ms)]).map fun h => handD h.1 h.2)]
            rw [List.map_append]
            rfl
          · intro h hh
            rcases List.mem_append.mp hh with z | z
            · exact hhr h z
            · rw [List.mem_singleton] at z
              subst z
              exact ⟨hch2.1, hch2.2, hms⟩
    · rintro Δ' G' L' ⟨cs, hs, x5, x6, x7, rfl, rfl, hcl, hcr, hhl, hhr, t⟩
      rw [rngD_len] at hhl t
      walk_at "god"
      exact q hs _ ⟨by omega, hhr⟩ (t.mono (by omega))
end
end Pf
namespace Pf
open PySem L2 DL
section
variable {P : Program} {w : World} {K : PySem.W.Frag} {mg : Str → Option Value} {base : Heap}
theorem ok_l_mark (T : TX w K mg) (G_l_draw : FnOk P w K mg base CX0 1 T.a_l_draw T.fd_l_draw ["_law_deck_here", "_law_most"] (spD K sp_l_draw)) : FnOk P w K mg base CX0 2 T.a_l_mark T.fd_l_mark ["_law_deck_here", "_law_house_here", "_law_stand"] (spD K sp_l_mark) := by
  refine okD (k := 1) T.F_l_mark sc_l_mark (fun ss G Qd h => ?_) (fun cdv A outer s H E ss G Qd hr h => ?_)
  · obtain ⟨k, c, n, cells, seed, cnt, hs, m, rfl, hD, hn, hh, hm, q⟩ := h
    rfl
  · obtain ⟨k, c, n, cells, seed, cnt, hs, m, rfl, hD, hn, hh, hm, q⟩ := h
    refine ⟨_, (pss_cons (ps_set (i := 3) sc_l_mark.nd rfl (Or.inl rfl) pe_str)
      (pss_cons (ps_for PassesOwn.never rfl (pi_range1 rfl T.z_range (pa_cons (pv 2) pa_nil)) (pg_name (i := 4) sc_l_mark.nd rfl (Or.inr rfl)) (pss_cons (ps_setLc (i := 5) (own := [("_law_letter", 6), ("_law_crafts", 7)]) (g := (gTup K 2 (gCons (gName 6) (gCons (gName 7) gNil)))) (by rfl) sc_l_mark.nd rfl rfl (sw_true rfl rfl rfl (by decide +kernel)) (pi_seq (pv 1)) (blkOk_by (N := ["_law_deck_here", "_law_house_here", "_law_stand", "_law_mark_here", "_law_deed", "_law_some", "_law_letter", "_law_crafts"]) (sc := defScope s_l_mark) (by decide +kernel)) (fun _ _ _ _ _ => (pg_tup rfl (pgs_cons (pg_name (i := 6) sc_l_mark.nd rfl (Or.inl rfl)) (pgs_cons (pg_name (i := 7) sc_l_mark.nd rfl (Or.inl rfl)) pgs_nil)))) (fun _ _ _ _ _ => (pts_one (pt_cmpR (show OpR _ (compareOp .In) (uIn K false) from uo_in) (pv 4) (pv 7) (by rfl)))) (fun _ _ _ _ _ => (pv 6)))
      (pss_one (ps_if (PW.pt (pw_and (pt_cmpR (show OpR _ (compareOp .Eq) (uEq K) from (uo_eq hr.units)) (pe_callB (show CallR _ (.builtin "len") (uLen K) from uc_len) (by rfl) T.z_len (by decide +kernel) (pa_cons (pv 3) pa_nil)) (pv 4) (nomark _)) (pw_and1 (pt_cmpR (show OpR _ (compareOp .NotEq) (uNe K) from (uo_ne hr.units)) (pv 5) (pe_lst pa_nil) (nomark _))))) (pss_one (ps_set (i := 3) sc_l_mark.nd rfl (Or.inl rfl) (pe_op (show OpR _ (binaryOp .Add) (uAdd K) from uo_add) (pv 3) (pe_ix (show IxR _ (rIx K) from ix_seq) (pv 5) (pe_call G_l_draw (hr.mono (by decide)) rfl T.m_l_draw T.k_l_draw T.b_l_draw .nil pass0 (pa_cons (pv 0) (pa_cons (pe_callB (show CallR _ (.builtin "len") (uLen K) from uc_len) (by rfl) T.z_len (by decide +kernel) (pa_cons (pv 5) pa_nil)) pa_nil))) (fun _ _ => rfl))))) pss_nil))))
      (pss_one (ps_ret (pe_slice (show SlR _ (uSl K) from us_sl) (pe_op (show OpR _ (binaryOp .Add) (uAdd K) from uo_add) (pv 3) pe_str) po_none (po_some pe_int)))))), ?_⟩
    simp only [cxOf, Cx.nox, Cx.wish, Cx.blk, startD, List.map, List.length_cons, List.length_nil, Nat.reduceAdd, Nat.reduceSub, List.replicate, List.cons_append, List.nil_append]
    walk_at "god"
    refine st_for ?_
    walk_at "god"
    refine ⟨by omega, by omega, ?_⟩
    refine ⟨fun i Δ' G' L' => ∃ (z : Str) (x4 x5 : Option S), Δ' = [some (.g k), some (.d (houseD hs)), some (.d (.int m)), some (.d (.str z)), x4, x5, none, none] ∧ L' = [] ∧ z.length ≤ i ∧ DkTo G k c (n + (i : Int)) G', ?_, ?_, ?_⟩
    · exact ⟨_, none, none, rfl, rfl, by decide, (DkTo.refl hD).mono (by omega)⟩
    · rintro i d Δ' G' L' hd ⟨z, x4, x5, rfl, rfl, hz, t⟩
      obtain ⟨hi, rfl⟩ := rngD_get hd
      obtain ⟨_, _, _, Dt⟩ := t.dk
      have hi6 : i < 4 := by omega
      walk_at "god"
      refine evn_c (evn_lc ?_)
      refine evi_seq (evc_varX ⟨_, rfl, _, _, rfl, rfl, ?_⟩)
      refine ⟨fun i2 acc G2 L2 => ∃ cs : List Nat, acc = cs.map chD ∧ (∀ c ∈ cs, 97 ≤ c ∧ c ≤ 122) ∧ cs.length ≤ i2 ∧ G2 = G' ∧ L2 = [], ⟨[], rfl, (fun _ h => by cases h), Nat.zero_le _, rfl, rfl⟩, ?_, ?_, ?_⟩
      · rw [List.length_map]
        exact lt_line (by have := hh.1; omega)
      · rintro i2 d acc G2 L2 hd2 hal ⟨cs, rfl, hcr, hcl, rfl, rfl⟩
        obtain ⟨h, hmem, rfl⟩ := get_map hd2
        have hhr := hh.2 h hmem
        show TgC K _ _ (.d (.tup [.str ⟨#[h.1]⟩, .tup (h.2.map D.int)])) _ _ _ _
        have yes : ∃ cs' : List Nat, cs.map chD ++ [D.str ⟨#[h.1]⟩] = cs'.map chD ∧ (∀ c ∈ cs', 97 ≤ c ∧ c ≤ 122) ∧ cs'.length ≤ i2 + 1 ∧ G2 = G2 ∧ ([] : List M) = [] := by
          refine ⟨cs ++ [h.1], by rw [List.map_append]; rfl, fun c hc => ?_, by rw [List.length_append]; show cs.length + 1 ≤ i2 + 1; omega, rfl, rfl⟩
          rcases List.mem_append.mp hc with z | z
          · exact hcr c z
          · rw [List.mem_singleton] at z
            subst z
            exact ⟨hhr.1, hhr.2.1⟩
        walk_at "god"
        refine iteD (fun _ => ?_) (fun _ => ?_)
        · walk_at "god"
          exact yes
        · exact ⟨cs, rfl, hcr, by omega, rfl, rfl⟩
      · rintro acc G2 L2 ⟨cs, rfl, hcr, hcl, rfl, rfl⟩
        have hcl6 : cs.length ≤ 6 := by
          rw [List.length_map] at hcl
          exact Nat.le_trans hcl hh.1
        walk_at "god"
        refine iteD (fun he => ?_) (fun he => ?_)
        · walk_at "god"
          refine u_ne_nilG ⟨rfl, _, rfl, eqb_chs hcr, ?_⟩
          refine ⟨_, rfl, ?_⟩
          refine iteB (fun hne => ?_) (fun hem => ?_)
          · have hpos : 0 < cs.length := by
              cases cs with
              | nil => cases hne
              | cons _ _ => exact Nat.succ_pos _
            have hlen : (cs.map chD).length = cs.length := List.length_map ..
            walk_at "god"
            refine u_ix_all ⟨_, rfl, by assumption, by assumption, fun d hd => ?_⟩
            obtain ⟨ch, _, rfl⟩ := List.mem_map.mp hd
            refine u_add_sR 1 rfl (by omega) fun y hy => ?_
            exact ⟨y, _, _, rfl, rfl, by omega, (t.trans (by assumption)).mono (by omega)⟩
          · walk_at "god"
            exact ⟨z, _, _, rfl, rfl, by omega, t.mono (by omega)⟩
        · walk_at "god"
          exact ⟨z, _, _, rfl, rfl, by omega, t.mono (by omega)⟩
    · rintro Δ' G' L' ⟨z, x4, x5, rfl, rfl, hz, t⟩
      rw [rngD_len] at hz t
      walk_at "god"
      exact q _ _ (t.mono (by omega)) (by omega)
end
end Pf
namespace Pf
open PySem L2 DL
section
variable {P : Program} {w : World} {K : PySem.W.Frag} {mg : Str → Option Value} {base : Heap}
local macro_rules | `(tactic| walk_at "own") => `(tactic| first | (with_reducible refine st_own (i := 3) ?_))
local macro_rules | `(tactic| walk_at "d1") => `(tactic| with_reducible refine evc_callL ?_)
local macro_rules | `(tactic| walk_at "draw") => `(tactic| (refine draw_useL (by assumption) (by omega) (by omega) (by omega) ?_; intro _ _ _ _ _ _ _))
local macro_rules | `(tactic| walk_at "d1") => `(tactic| refine fj_useL (by assumption) ?_)
local macro_rules | `(tactic| walk_at "d1") => `(tactic| refine lf_useL (by assumption) ?_)
local macro_rules | `(tactic| walk_at "d1") => `(tactic| with_reducible refine ap_repr (by assumption) ?_)
local macro_rules | `(tactic| walk_at "draw") => `(tactic| (refine house_useL (by assumption) (by omega) ?_; intro _ _ _ _ _ _))
local macro_rules | `(tactic| walk_at "draw") => `(tactic| (refine mark_useL (by assumption) (by assumption) (by omega) (by omega) ?_; intro _ _ _ _ _ _))
local macro_rules | `(tactic| walk_at "draw") => `(tactic| (refine fault_useL (by assumption) (by omega) ?_; intro _ _ _ _ _ _))
theorem ok_law (T : TX w K mg) (G_l_deck : FnOk P w K mg base CX0 1 T.a_l_deck T.fd_l_deck ["_law_script"] (spD K sp_l_deck)) (G_l_house : FnOk P w K mg base CX0 2 T.a_l_house T.fd_l_house ["_law_deck_here"] (spD K sp_l_house)) (G_l_mark : FnOk P w K mg base CX0 2 T.a_l_mark T.fd_l_mark ["_law_deck_here", "_law_house_here", "_law_stand"] (spD K sp_l_mark)) (G_l_fault : FnOk P w K mg base CX0 2 T.a_l_fault T.fd_l_fault ["_law_deck_here"] (spD K sp_l_fault)) (G_first_judge : FnOk P w K mg base CX0 1 T.a_first_judge T.fd_first_judge ["mark", "fault"] (spD K sp_first_judge)) (G_l_first : FnOk P w K mg base CX0 1 T.a_l_first T.fd_l_first ["_law_fault_here"] (spD K sp_l_first)) (G_l_draw : FnOk P w K mg base CX0 1 T.a_l_draw T.fd_l_draw ["_law_deck_here", "_law_most"] (spD K sp_l_draw)) : FnOk P w K mg base CX0 3 T.a_law T.fd_law ["_law_script"] (spD K sp_law) := by
  refine okD (k := 2) T.F_law sc_law (fun ss G Qd h => ?_) (fun cdv A outer s H E ss G Qd hr h => ?_)
  · obtain ⟨ns, rfl, rfl, hns, q⟩ := h
    rfl
  · obtain ⟨ns, rfl, rfl, hns, q⟩ := h
    refine ⟨_, (pss_cons (ps_set (i := 1) sc_law.nd rfl (Or.inl rfl) (pe_call G_l_deck (hr.mono (by decide)) rfl T.m_l_deck T.k_l_deck T.b_l_deck .nil pass0 (pa_cons (pv 0) pa_nil)))
      (pss_cons (ps_set (i := 2) sc_law.nd rfl (Or.inl rfl) (pe_call G_l_house (hr.mono (by decide)) rfl T.m_l_house T.k_l_house T.b_l_house .nil pass0 (pa_cons (pv 1) pa_nil)))
      (pss_cons (ps_setLc (i := 3) (own := [("_law_word", 4)]) (g := (gName 4)) (tt := tYes) (by rfl) sc_law.nd rfl rfl (sw_true rfl rfl rfl (by decide +kernel)) (pi_seq (pe_lst (pa_cons pe_str (pa_cons pe_str (pa_cons pe_str (pa_cons pe_str (pa_cons pe_str (pa_cons pe_str (pa_cons pe_str (pa_cons pe_str (pa_cons pe_str (pa_cons pe_str pa_nil)))))))))))) (blkOk_by (N := ["_law_script", "_law_deck_here", "_law_house_here", "_law_asked", "_law_word", "_law_k", "_law_mark_here", "_law_fault_here"]) (sc := defScope s_law) (by decide +kernel)) (fun _ _ _ _ _ => (pg_name (i := 4) sc_law.nd rfl (Or.inl rfl))) (fun _ _ _ _ _ => pts_nil) (fun _ _ _ _ _ => (pe_tup (pa_cons pe_str (pa_cons (pv 4) pa_nil)))))
      (pss_cons (ps_set (i := 3) sc_law.nd rfl (Or.inl rfl) (pe_op (show OpR _ (binaryOp .Add) (uAdd K) from uo_add) (pv 3) (pe_lst (pa_cons (pe_tup (pa_cons pe_str (pa_cons (pe_op (show OpR _ (binaryOp .Mult) rTxMul from op_txmul) pe_str pe_int) pa_nil))) (pa_cons (pe_tup (pa_cons pe_str (pa_cons pe_str pa_nil))) (pa_cons (pe_tup (pa_cons pe_str (pa_cons pe_str pa_nil))) (pa_cons (pe_tup (pa_cons pe_str (pa_cons (pe_op (show OpR _ (binaryOp .Mult) rTxMul from op_txmul) pe_str pe_int) pa_nil))) pa_nil)))))))
      (pss_cons (ps_for PassesOwn.never rfl (pi_range1 rfl T.z_range (pa_cons pe_int pa_nil)) (pg_name (i := 5) sc_law.nd rfl (Or.inl rfl)) (pss_one (ps_expr (pe_bm PySem.F.plainAttrs_list PySem.F.slot_list_append PySem.F.type_list_append mt_append (pv 3) (pa_cons (pe_tup (pa_cons (pe_call G_l_mark (hr.mono (by decide)) rfl T.m_l_mark T.k_l_mark T.b_l_mark .nil pass0 (pa_cons (pv 1) (pa_cons (pv 2) (pa_cons (pe_call G_l_draw (hr.mono (by decide)) rfl T.m_l_draw T.k_l_draw T.b_l_draw .nil pass0 (pa_cons (pv 1) (pa_cons pe_int pa_nil))) pa_nil)))) (pa_cons (pe_call G_l_fault (hr.mono (by decide)) rfl T.m_l_fault T.k_l_fault T.b_l_fault .nil pass0 (pa_cons (pv 1) pa_nil)) pa_nil))) pa_nil)))))
      (pss_cons (ps_for PassesOwn.never rfl (pi_seq (pe_op (show OpR _ (binaryOp .Add) (uAdd K) from uo_add) (pv 3) (pe_revL (pv 3)))) (pg_tup rfl (pgs_cons (pg_name (i := 6) sc_law.nd rfl (Or.inl rfl)) (pgs_cons (pg_name (i := 7) sc_law.nd rfl (Or.inl rfl)) pgs_nil))) (pss_one (ps_if (pt_cmpR (show OpR _ (compareOp .NotEq) (uNe K) from (uo_ne hr.units)) (pe_callB (show CallR _ (.builtin "repr") uRepr from uc_repr) (by rfl) T.z_repr (by decide +kernel) (pa_cons (pe_call G_first_judge (hr.mono (by decide)) rfl T.m_first_judge T.k_first_judge T.b_first_judge .nil pass0 (pa_cons (pv 6) (pa_cons (pv 7) pa_nil))) pa_nil)) (pe_callB (show CallR _ (.builtin "repr") uRepr from uc_repr) (by rfl) T.z_repr (by decide +kernel) (pa_cons (pe_call G_l_first (hr.mono (by decide)) rfl T.m_l_first T.k_l_first T.b_l_first .nil pass0 (pa_cons (pv 7) pa_nil)) pa_nil)) (nomark _)) (pss_one (ps_ret pe_bl)) pss_nil)))
      (pss_one (ps_ret pe_bl)))))))), ?_⟩
    simp only [cxOf, Cx.nox, Cx.wish, Cx.blk, startD, List.map, List.length_cons, List.length_nil, Nat.reduceAdd, Nat.reduceSub, List.replicate, List.cons_append, List.nil_append]
    refine st_seq ?_
    refine st_ownB ?_
    walk_at "go"
    refine ⟨hns, fun cells seed hcl hs0 hs1 => ⟨_, _, rfl, ?_⟩⟩
    show StC K _ [some (.d (.scr ns)), some (.l 1), none, none, none, none, none, none] [] (deckL cells seed 0 []) _
    have V0 : DkV 0 cells seed 0 := ⟨hs0, hs1, by decide, by decide, by omega⟩
    walk_at "god"
    refine evn_lcF (fun _ => true) (fun d => .tup [.str "....", d]) ?_
    walk_at "god"
    refine ⟨?_, ?_⟩
    · intro d hd
      walk_at "god"
      refine ⟨rfl, fun _ => ?_, fun e => (by cases e)⟩
      walk_at "god"
      exact ⟨rfl, rfl, rfl⟩
    rename_i hs cells seed cnt hh V
    show StC K _ [some (.d (.scr ns)), some (.l 1), some (.d (houseD hs)), some (.l 2), none, none, none, none] [] (deckL cells seed cnt [asked0.map askD]) _
    walk_at "god"
    rename_i o1 e1 o2 e2
    show StC K _ [some (.d (.scr ns)), some (.l 1), some (.d (houseD hs)), some (.l 3), none, none, none, none] [] (deckL cells seed cnt [asked0.map askD, (asked1 o1 o2).map askD]) _
    have ha1 := asked1_ok (a := o1) (b := o2) (by rw [e1]; decide) (by rw [e2]; decide)
    have hl1 : (asked1 o1 o2).length = 14 := rfl
    generalize asked1 o1 o2 = as1 at ha1 hl1
    walk_at "god"
    refine st_for ?_
    walk_at "god"
    refine ⟨by omega, by omega, ?_⟩
    refine ⟨fun i Δ' G' L' => ∃ (x5 : Option S) (cells : List Int) (seed cnt : Int) (as : List (Str × Str)), Δ' = [some (.d (.scr ns)), some (.l 1), some (.d (houseD hs)), some (.l 3), none, x5, none, none] ∧ G' = [] ∧
      L' = deckL cells seed cnt [asked0.map askD, as.map askD] ∧ as.length = 14 + i ∧ (∀ p ∈ as, p.2.length ≤ 100000) ∧ DkV (100 + 10 * (i : Int)) cells seed cnt, ?_, ?_, ?_⟩
    · exact ⟨none, cells, seed, cnt, as1, rfl, rfl, rfl, hl1, ha1, V.mono (by omega)⟩
    · rintro i d Δ' G' L' hd ⟨x5, cells, seed, cnt, as, rfl, rfl, rfl, hl, ha, V⟩
      obtain ⟨hi, rfl⟩ := rngD_get hd
      have hi40 : i < 40 := hi
      walk_at "god"
      rename_i r c3 s3 n3 V3 r0 r1 z4 c4 s4 n4 hz4 V4 z5 c5 s5 n5 hz5 V5
      refine mt_app_lX ⟨_, rfl, by rw [List.length_map]; exact lt_line (by omega), ?_⟩
      refine ⟨_, c5, s5, n5, as ++ [(z4, z5)], rfl, rfl, ?_, by rw [List.length_append, hl]; rfl, ?_, V5.mono (by omega)⟩
      · show [_, _, M.pl _, M.pl (as.map askD ++ [_])] = [_, _, M.pl _, M.pl ((as ++ [(z4, z5)]).map askD)]
        rw [List.map_append]
        rfl
      · intro p hp
        rcases List.mem_append.mp hp with z | z
        · exact ha p z
        · rw [List.mem_singleton] at z
          subst z
          exact Nat.le_trans hz5 (by decide)
    rintro Δ' G' L' ⟨x5, cells, seed, cnt, as, rfl, rfl, rfl, hl, ha, V⟩
    walk_at "god"
    refine st_for ?_
    walk_at "god"
    have hl54 : as.length = 54 := hl
    refine ⟨by rw [List.length_reverse, List.length_map, hl54]; exact le_line (by decide), _, rfl, _, _, rfl, rfl, ?_⟩
    refine ⟨fun i Δ' G' L' => ∃ x6 x7 : Option S, Δ' = [some (.d (.scr ns)), some (.l 1), some (.d (houseD hs)), some (.l 3), none, x5, x6, x7] ∧ G' = [] ∧ L' = deckL cells seed cnt [asked0.map askD, as.map askD], ⟨none, none, rfl, rfl, rfl⟩, ?_, ?_⟩
    · rintro i d Δ' G' L' hd ⟨x6, x7, rfl, rfl, rfl⟩
      have hd2 := List.mem_of_getElem? hd
      obtain ⟨p, hp, rfl⟩ : ∃ p ∈ as, askD p = d := by
        rcases List.mem_append.mp hd2 with z | z
        · exact List.mem_map.mp z
        · exact List.mem_map.mp (List.mem_reverse.mp z)
      have hz := ha p hp
      obtain ⟨t, ht⟩ := rep_first p.2
      show TgC K _ _ (.d (.tup [.str p.1, .str p.2])) _ _ _ _
      walk_at "god"
      refine iteND (fun hne => absurd rfl hne) (fun _ => ?_)
      walk_at "god"
      exact rfl
    · rintro Δ' G' L' ⟨x6, x7, rfl, rfl, rfl⟩
      walk_at "god"
      exact q
end
end Pf
namespace Pf
open PySem L2 DL
theorem all_mk {l : PySem.W.OpenLaw} {w : World} {K : PySem.W.Frag} {h : Heap} {mg : Str → Option Value} {fa : Addr} (X : K.In h) (G : h.Ns mainGlobals mg) (hfa : mg "law" = some (.ref fa))
    {f_l_draw : Addr} {od_l_draw an_l_draw : Option Addr} {sl_l_draw : Array (Option Value)} {oc_l_draw kV_l_draw dc_l_draw pm_l_draw cd_l_draw ct_l_draw : Value}
    (a_l_draw : PySem.W.nsIn K mainGlobals "_law_draw" = some (some (.ref f_l_draw))) (l_l_draw : K.lookup f_l_draw = some ⟨oc_l_draw, od_l_draw, .func (PySem.W.fnOf "_law_draw" "_law_draw" (defArgs s_l_draw) (defBody s_l_draw) (defScope s_l_draw) .none kV_l_draw dc_l_draw pm_l_draw an_l_draw cd_l_draw ct_l_draw), sl_l_draw⟩) (c_l_draw : PySem.W.codeIn K cd_l_draw "_law_draw" = true) (k_l_draw : PySem.W.keepIn K (.ref f_l_draw) = true)
    {f_l_deck : Addr} {od_l_deck an_l_deck : Option Addr} {sl_l_deck : Array (Option Value)} {oc_l_deck kV_l_deck dc_l_deck pm_l_deck cd_l_deck ct_l_deck : Value}
    (a_l_deck : PySem.W.nsIn K mainGlobals "_law_deck" = some (some (.ref f_l_deck))) (l_l_deck : K.lookup f_l_deck = some ⟨oc_l_deck, od_l_deck, .func (PySem.W.fnOf "_law_deck" "_law_deck" (defArgs s_l_deck) (defBody s_l_deck) (defScope s_l_deck) .none kV_l_deck dc_l_deck pm_l_deck an_l_deck cd_l_deck ct_l_deck), sl_l_deck⟩) (c_l_deck : PySem.W.codeIn K cd_l_deck "_law_deck" = true) (k_l_deck : PySem.W.keepIn K (.ref f_l_deck) = true)
    {f_l_first : Addr} {od_l_first an_l_first : Option Addr} {sl_l_first : Array (Option Value)} {oc_l_first kV_l_first dc_l_first pm_l_first cd_l_first ct_l_first : Value}
    (a_l_first : PySem.W.nsIn K mainGlobals "_law_first" = some (some (.ref f_l_first))) (l_l_first : K.lookup f_l_first = some ⟨oc_l_first, od_l_first, .func (PySem.W.fnOf "_law_first" "_law_first" (defArgs s_l_first) (defBody s_l_first) (defScope s_l_first) .none kV_l_first dc_l_first pm_l_first an_l_first cd_l_first ct_l_first), sl_l_first⟩) (c_l_first : PySem.W.codeIn K cd_l_first "_law_first" = true) (k_l_first : PySem.W.keepIn K (.ref f_l_first) = true)
    {f_first_judge : Addr} {od_first_judge an_first_judge : Option Addr} {sl_first_judge : Array (Option Value)} {oc_first_judge kV_first_judge dc_first_judge pm_first_judge cd_first_judge ct_first_judge : Value}
    (a_first_judge : PySem.W.nsIn K mainGlobals "first_judge" = some (some (.ref f_first_judge))) (l_first_judge : K.lookup f_first_judge = some ⟨oc_first_judge, od_first_judge, .func (PySem.W.fnOf "first_judge" "first_judge" (defArgs s_first_judge) (defBody s_first_judge) (defScope s_first_judge) .none kV_first_judge dc_first_judge pm_first_judge an_first_judge cd_first_judge ct_first_judge), sl_first_judge⟩) (c_first_judge : PySem.W.codeIn K cd_first_judge "first_judge" = true) (k_first_judge : PySem.W.keepIn K (.ref f_first_judge) = true)
    {f_l_fault : Addr} {od_l_fault an_l_fault : Option Addr} {sl_l_fault : Array (Option Value)} {oc_l_fault kV_l_fault dc_l_fault pm_l_fault cd_l_fault ct_l_fault : Value}
    (a_l_fault : PySem.W.nsIn K mainGlobals "_law_fault" = some (some (.ref f_l_fault))) (l_l_fault : K.lookup f_l_fault = some ⟨oc_l_fault, od_l_fault, .func (PySem.W.fnOf "_law_fault" "_law_fault" (defArgs s_l_fault) (defBody s_l_fault) (defScope s_l_fault) .none kV_l_fault dc_l_fault pm_l_fault an_l_fault cd_l_fault ct_l_fault), sl_l_fault⟩) (c_l_fault : PySem.W.codeIn K cd_l_fault "_law_fault" = true) (k_l_fault : PySem.W.keepIn K (.ref f_l_fault) = true)
    {f_l_house : Addr} {od_l_house an_l_house : Option Addr} {sl_l_house : Array (Option Value)} {oc_l_house kV_l_house dc_l_house pm_l_house cd_l_house ct_l_house : Value}
    (a_l_house : PySem.W.nsIn K mainGlobals "_law_house" = some (some (.ref f_l_house))) (l_l_house : K.lookup f_l_house = some ⟨oc_l_house, od_l_house, .func (PySem.W.fnOf "_law_house" "_law_house" (defArgs s_l_house) (defBody s_l_house) (defScope s_l_house) .none kV_l_house dc_l_house pm_l_house an_l_house cd_l_house ct_l_house), sl_l_house⟩) (c_l_house : PySem.W.codeIn K cd_l_house "_law_house" = true) (k_l_house : PySem.W.keepIn K (.ref f_l_house) = true)
    {f_l_mark : Addr} {od_l_mark an_l_mark : Option Addr} {sl_l_mark : Array (Option Value)} {oc_l_mark kV_l_mark dc_l_mark pm_l_mark cd_l_mark ct_l_mark : Value}
    (a_l_mark : PySem.W.nsIn K mainGlobals "_law_mark" = some (some (.ref f_l_mark))) (l_l_mark : K.lookup f_l_mark = some ⟨oc_l_mark, od_l_mark, .func (PySem.W.fnOf "_law_mark" "_law_mark" (defArgs s_l_mark) (defBody s_l_mark) (defScope s_l_mark) .none kV_l_mark dc_l_mark pm_l_mark an_l_mark cd_l_mark ct_l_mark), sl_l_mark⟩) (c_l_mark : PySem.W.codeIn K cd_l_mark "_law_mark" = true) (k_l_mark : PySem.W.keepIn K (.ref f_l_mark) = true)
    {f_law : Addr} {od_law an_law : Option Addr} {sl_law : Array (Option Value)} {oc_law kV_law dc_law pm_law cd_law ct_law : Value}
    (a_law : PySem.W.nsIn K mainGlobals "law" = some (some (.ref f_law))) (l_law : K.lookup f_law = some ⟨oc_law, od_law, .func (PySem.W.fnOf "law" "law" (defArgs s_law) (defBody s_law) (defScope s_law) .none kV_law dc_law pm_law an_law cd_law ct_law), sl_law⟩) (c_law : PySem.W.codeIn K cd_law "law" = true) (k_law : PySem.W.keepIn K (.ref f_law) = true)
    (z_KeyError : PySem.W.nsIn K mainGlobals "KeyError" = some none)
    (z_len : PySem.W.nsIn K mainGlobals "len" = some none)
    (z_list : PySem.W.nsIn K mainGlobals "list" = some none)
    (z_range : PySem.W.nsIn K mainGlobals "range" = some none)
    (z_repr : PySem.W.nsIn K mainGlobals "repr" = some none)
    (z_sum : PySem.W.nsIn K mainGlobals "sum" = some none)
    (z_tuple : PySem.W.nsIn K mainGlobals "tuple" = some none)
    {f_FAULTS : Addr} (a_FAULTS : PySem.W.nsIn K mainGlobals "FAULTS" = some (some (.ref f_FAULTS)))
    {es_FAULTS : Array DictEntry} {n_FAULTS : Nat} (l_FAULTS : K.lookup f_FAULTS = some ⟨.type "dict", none, .dict es_FAULTS n_FAULTS, #[]⟩) (s_FAULTS : (f_FAULTS == sysModules) = false) (p_FAULTS : Paired (fun (e : DictEntry) (p : Str × V) => (∃ t, e.key = .str p.1 t) ∧ e.hash = PyData.keyHash w.params p.1 ∧ RelV p.2 e.val) es_FAULTS.toList [("bent", .int 0), ("cracked", .int 1), ("burnt", .int 2), ("loose", .int 3)]) :
    ∃ fd : FuncData, (∀ (s : Shared) (v : Value), BindsTo s fd ⟨[v], []⟩ [("_law_script", v)]) ∧ ∀ base : Heap, K.In base → base.Ns mainGlobals mg → FnOk l.prog w K mg base CX0 3 fa fd ["_law_script"] (spD K sp_law) := by
  have e := hfa.symm.trans (PySem.W.mg_of X G a_law)
  cases e
  have F_l_draw := fun_mk (st := s_l_draw) l_l_draw c_l_draw k_l_draw
  have b_l_draw := F_l_draw.binds (ps := ["_law_deck_here", "_law_most"]) fun _ _ _ _ _ _ us hl => match us, hl with | [_, _], _ => rfl
  have F_l_deck := fun_mk (st := s_l_deck) l_l_deck c_l_deck k_l_deck
  have b_l_deck := F_l_deck.binds (ps := ["_law_script"]) fun _ _ _ _ _ _ us hl => match us, hl with | [_], _ => rfl
  have F_l_first := fun_mk (st := s_l_first) l_l_first c_l_first k_l_first
  have b_l_first := F_l_first.binds (ps := ["_law_fault_here"]) fun _ _ _ _ _ _ us hl => match us, hl with | [_], _ => rfl
  have F_first_judge := fun_mk (st := s_first_judge) l_first_judge c_first_judge k_first_judge
  have b_first_judge := F_first_judge.binds (ps := ["mark", "fault"]) fun _ _ _ _ _ _ us hl => match us, hl with | [_, _], _ => rfl
  have F_l_fault := fun_mk (st := s_l_fault) l_l_fault c_l_fault k_l_fault
  have b_l_fault := F_l_fault.binds (ps := ["_law_deck_here"]) fun _ _ _ _ _ _ us hl => match us, hl with | [_], _ => rfl
  have F_l_house := fun_mk (st := s_l_house) l_l_house c_l_house k_l_house
  have b_l_house := F_l_house.binds (ps := ["_law_deck_here"]) fun _ _ _ _ _ _ us hl => match us, hl with | [_], _ => rfl
  have F_l_mark := fun_mk (st := s_l_mark) l_l_mark c_l_mark k_l_mark
  have b_l_mark := F_l_mark.binds (ps := ["_law_deck_here", "_law_house_here", "_law_stand"]) fun _ _ _ _ _ _ us hl => match us, hl with | [_, _, _], _ => rfl
  have F_law := fun_mk (st := s_law) l_law c_law k_law
  have b_law := F_law.binds (ps := ["_law_script"]) fun _ _ _ _ _ _ us hl => match us, hl with | [_], _ => rfl
  let T : TX w K mg := ⟨_, _, F_l_draw, PySem.W.mg_of X G a_l_draw, F_l_draw.kp, b_l_draw, _, _, F_l_deck, PySem.W.mg_of X G a_l_deck, F_l_deck.kp, b_l_deck, _, _, F_l_first, PySem.W.mg_of X G a_l_first, F_l_first.kp, b_l_first, _, _, F_first_judge, PySem.W.mg_of X G a_first_judge, F_first_judge.kp, b_first_judge, _, _, F_l_fault, PySem.W.mg_of X G a_l_fault, F_l_fault.kp, b_l_fault, _, _, F_l_house, PySem.W.mg_of X G a_l_house, F_l_house.kp, b_l_house, _, _, F_l_mark, PySem.W.mg_of X G a_l_mark, F_l_mark.kp, b_l_mark, _, _, F_law, PySem.W.mg_of X G a_law, F_law.kp, b_law, PySem.W.mg_none_of X G z_KeyError, PySem.W.mg_none_of X G z_len, PySem.W.mg_none_of X G z_list, PySem.W.mg_none_of X G z_range, PySem.W.mg_none_of X G z_repr, PySem.W.mg_none_of X G z_sum, PySem.W.mg_none_of X G z_tuple, _, PySem.W.mg_of X G a_FAULTS, ⟨_, _, l_FAULTS, s_FAULTS, p_FAULTS⟩, (by kernel_rfl)⟩
  refine ⟨T.fd_law, fun s v => .of_eq rfl, fun base _ _ => ?_⟩
  have G_l_draw := ok_l_draw (P := l.prog) (w := w) (base := base) T
  have G_l_deck := ok_l_deck (P := l.prog) (w := w) (base := base) T
  have G_l_first := ok_l_first (P := l.prog) (w := w) (base := base) T
  have G_first_judge := ok_first_judge (P := l.prog) (w := w) (base := base) T
  have G_l_fault := ok_l_fault (P := l.prog) (w := w) (base := base) T G_l_draw
  have G_l_house := ok_l_house (P := l.prog) (w := w) (base := base) T G_l_draw
  have G_l_mark := ok_l_mark (P := l.prog) (w := w) (base := base) T G_l_draw
  have G_law := ok_law (P := l.prog) (w := w) (base := base) T G_l_deck G_l_house G_l_mark G_l_fault G_first_judge G_l_first G_l_draw
  exact G_law
theorem walk {l : PySem.W.OpenLaw} {q : Program} {loose : List Str} {XP : (Str → Option Value) → Heap → Prop} {YP : World → Heap → Prop} {d : DefRec} {K : Params → PySem.W.Frag} (hn : l.most = some 63) (hdf : d.params.defaults = [])
    (hY : ∀ (w : World) (h : Heap), YP w h → (K w.params).In h)
    (F : ∀ (w : World) (mg : Str → Option Value) (fa : Addr) (h : Heap), (K w.params).In h → h.Ns mainGlobals mg → mg d.name = some (.ref fa) →
      ∃ fd : FuncData, (∀ (s : Shared) (u : Value), BindsTo s fd ⟨[u], []⟩ [("_law_script", u)]) ∧ ∀ base : Heap, (K w.params).In base → base.Ns mainGlobals mg → FnOk l.prog w (K w.params) mg base CX0 3 fa fd ["_law_script"] (spD (K w.params) sp_law)) :
    PySem.W.WalkO q loose XP YP l.row.toRowW d [] (fun f vs => PySem.call f vs) :=
  L2.walk_ofB (n := 63) (k := 3) (x := "_law_script") (CX := fun _ => CX0) (sp := fun w => spD (K w.params) sp_law) hn (by decide) hdf ⟨rfl, by decide, by decide⟩ hY F (fun _ _ a ns hl hb _ hS => law_sp (law_in hl hb) hS) fun _ _ _ _ _ z => z
end Pf
open PySem PySem.W PyProof.Rows in
set_option maxRecDepth 100000 in
set_option maxHeartbeats 0 in
theorem PySem.Challenge.cw_littlemasters_k43_the_first_judge_holds : PySem.Challenge.rw_littlemasters_k43_the_first_judge.Holds := by
  w_on; o_law; k_head; (case hw => w_witness2)
  k_fill
  refine Pf.walk (l := PySem.Challenge.rw_littlemasters_k43_the_first_judge) rfl rfl (fun w h Y => PySem.W.kIn_of Y) ?F
  case F =>
    intro w mg fa h KX G hmg
    refine' Pf.all_mk KX G hmg ?a_l_draw ?l_l_draw ?c_l_draw ?k_l_draw ?a_l_deck ?l_l_deck ?c_l_deck ?k_l_deck ?a_l_first ?l_l_first ?c_l_first ?k_l_first ?a_first_judge ?l_first_judge ?c_first_judge ?k_first_judge ?a_l_fault ?l_l_fault ?c_l_fault ?k_l_fault ?a_l_house ?l_l_house ?c_l_house ?k_l_house ?a_l_mark ?l_l_mark ?c_l_mark ?k_l_mark ?a_law ?l_law ?c_law ?k_law ?z_KeyError ?z_len ?z_list ?z_range ?z_repr ?z_sum ?z_tuple ?a_FAULTS ?l_FAULTS ?s_FAULTS ?p_FAULTS
    (case a_l_draw => k_is)
    (case l_l_draw => k_is)
    (case c_l_draw => k_is)
    (case k_l_draw => k_is)
    (case a_l_deck => k_is)
    (case l_l_deck => k_is)
    (case c_l_deck => k_is)
    (case k_l_deck => k_is)
    (case a_l_first => k_is)
    (case l_l_first => k_is)
    (case c_l_first => k_is)
    (case k_l_first => k_is)
    (case a_first_judge => k_is)
    (case l_first_judge => k_is)
    (case c_first_judge => k_is)
    (case k_first_judge => k_is)
    (case a_l_fault => k_is)
    (case l_l_fault => k_is)
    (case c_l_fault => k_is)
    (case k_l_fault => k_is)
    (case a_l_house => k_is)
    (case l_l_house => k_is)
    (case c_l_house => k_is)
    (case k_l_house => k_is)
    (case a_l_mark => k_is)
    (case l_l_mark => k_is)
    (case c_l_mark => k_is)
    (case k_l_mark => k_is)
    (case a_law => k_is)
    (case l_law => k_is)
    (case c_law => k_is)
    (case k_law => k_is)
    (case z_KeyError => k_is)
    (case z_len => k_is)
    (case z_list => k_is)
    (case z_range => k_is)
    (case z_repr => k_is)
    (case z_sum => k_is)
    (case z_tuple => k_is)
    (case a_FAULTS => k_is)
    (case l_FAULTS => k_is)
    (case s_FAULTS => decide)
    (case p_FAULTS => exact (.cons ⟨⟨_, rfl⟩, rfl, ⟨_, rfl⟩⟩ (.cons ⟨⟨_, rfl⟩, rfl, ⟨_, rfl⟩⟩ (.cons ⟨⟨_, rfl⟩, rfl, ⟨_, rfl⟩⟩ (.cons ⟨⟨_, rfl⟩, rfl, ⟨_, rfl⟩⟩ .nil)))))
