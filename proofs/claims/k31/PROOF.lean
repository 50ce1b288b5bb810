import PyProof.Rows.All
import HandS.ForMost
import HandS.Exc
import HandS.TryMany
import HandS.TryOnly
import HandS.Lambda
import HandS.ExcField
import HandS.ExcIs
import HandS.EndTab
import HandS.TupAny
import HandS.IsInst
import HandS.Style
import HandS.Wide
import KE.KIsAll
import HandS.SetKeys
import HandS.SetFor
import HandS.TupMul
import KE.GoesMore
import HandS.More
import PyProof.ReprBulk
import HandS.SortInts
import HandS.Text
import PyProof.Rows.SortStr
import PyProof.Rows.SortKeyStr
import KE.KRevSl
import HandS.Strs
import HandS.Iter
import KE.KNest
import PyProof.Rows.ReprOcc
import KE.GoesZip
import HandS.Zip
import HandS.WideBits
import PySem.Challenge.RW_eyesforever_k31_rows_read_and_set
set_option Elab.async false
set_option linter.all false
set_option maxHeartbeats 4000000
/-! D-layer, part 1: values by value (D), the small memory (Mem), what represents what, the lifted readings. -/
namespace DL
open PySem PySem.Spec PyProof.Rows L2

inductive D where
  | non | bl (b : Bool) | int (i : Int) | str (x : Str) | ty (n : String)
  | tup (xs : List D) | lst (xs : List D) | dct (ks : List Key) (vs : List D) | ref (a : Addr)
  | box (a c : Addr) (u : HO) (vs : List V) (ds : List D)
/-- what may still change: a list, a dict, a deck (its dict, whose first item is the list at b), what belongs to another one -/
inductive MO where
  | lst (xs : List D) | dct (ks : List Key) (vs : List D) | deck (ks : List Key) (b : Addr) | hid (a : Addr) | tab (q : Str)
abbrev Mem := Addr → Option MO
def mset (M : Mem) (a : Addr) (o : MO) : Mem := fun b => if b = a then some o else M b
def mdel (M : Mem) (a : Addr) : Mem := fun b => if b = a then none else M b
theorem mset_same {M : Mem} {a : Addr} {o : MO} : mset M a o a = some o := if_pos rfl
theorem mset_ne {M : Mem} {a b : Addr} {o : MO} (h : b ≠ a) : mset M a o b = M b := if_neg h
theorem mdel_same {M : Mem} {a : Addr} : mdel M a a = none := if_pos rfl
theorem mdel_ne {M : Mem} {a b : Addr} (h : b ≠ a) : mdel M a b = M b := if_neg h
theorem mset_mset {M : Mem} {a : Addr} {o u : MO} : mset (mset M a o) a u = mset M a u := by
  funext b; unfold mset; split <;> rfl
theorem mset_self {M : Mem} {a : Addr} {o : MO} (h : M a = some o) : mset M a o = M := by
  funext b; unfold mset; split
  · rename_i e; rw [e, h]
  · rfl

/-- the written part, and the lists that are being made out of sight -/
structure KZ where
  k : PySem.W.Frag
  z : Addr → Prop
/-- a tuple, a list, a dict that nothing writes any more -/
def KT (K : PySem.W.Frag) (a : Addr) (xs : List V) : Prop :=
  ∃ (o : Obj) (its : Array Value) (n : Nat), K.lookup a = some o ∧ o.cls = .type "tuple" ∧ o.data = .seq its n ∧ its.size ≤ sizeLine ∧ Vals xs its.toList
def KL (K : PySem.W.Frag) (a : Addr) (xs : List V) : Prop :=
  ∃ (o : Obj) (its : Array Value) (n : Nat), K.lookup a = some o ∧ o.cls = .type "list" ∧ o.dict = none ∧ o.data = .seq its n ∧ its.size ≤ sizeLine ∧ Vals xs its.toList
def RdT (K : KZ) (M : Mem) (H : Hp) (a : Addr) (xs : List V) : Prop := (Rd H a (.tup xs) ∧ M a = none) ∨ KT K.k a xs
def RdL (K : KZ) (M : Mem) (H : Hp) (a : Addr) (xs : List V) : Prop := (Rd H a (.lst xs) ∧ M a = none ∧ ¬ K.z a) ∨ KL K.k a xs
def RdD (K : KZ) (M : Mem) (H : Hp) (a : Addr) (kvs : List (Key × V)) : Prop := Rd H a (.dK kvs) ∧ M a = none ∧ ¬ K.z a
theorem RdT.sq {K : KZ} {M : Mem} {H : Hp} {a : Addr} {xs : List V} (h : RdT K M H a xs) : SqT K.k H a xs := h.elim (fun q => .inl q.1) .inr
theorem RdL.sq {K : KZ} {M : Mem} {H : Hp} {a : Addr} {xs : List V} (h : RdL K M H a xs) : SqL K.k H a xs := h.elim (fun q => .inl q.1) .inr

/-- what a box may stand for: an exception's dict, a code object -/
def Bx (u : HO) : Prop := (∃ fs, u = .xd fs) ∨ ∃ P, u = .ext P
mutual
inductive Rep (K : KZ) (M : Mem) (H : Hp) : V → D → Prop
  | non : Rep K M H .non .non
  | bl (b : Bool) : Rep K M H (.bl b) (.bl b)
  | int (i : Int) : Rep K M H (.int i) (.int i)
  | str (x : Str) : Rep K M H (.str x) (.str x)
  | ty (n : String) : Rep K M H (.ty n) (.ty n)
  | ref (a : Addr) : Rep K M H (.ref a) (.ref a)
  | tup {a : Addr} {vs : List V} {ds : List D} : RdT K M H a vs → Reps K M H vs ds → Rep K M H (.ref a) (.tup ds)
  | lst {a : Addr} {vs : List V} {ds : List D} : RdL K M H a vs → Reps K M H vs ds → Rep K M H (.ref a) (.lst ds)
  | dct {a : Addr} {kvs : List (Key × V)} {ks : List Key} {vs : List V} {ds : List D} : RdD K M H a kvs → kvs.map (·.1) = ks → kvs.map (·.2) = vs → Reps K M H vs ds → Rep K M H (.ref a) (.dct ks ds)
  | box {a c : Addr} {u : HO} {vs : List V} {ds : List D} : Bx u → H c = some u → M c = none → ¬ K.z c → Reps K M H vs ds → Rep K M H (.ref a) (.box a c u vs ds)
inductive Reps (K : KZ) (M : Mem) (H : Hp) : List V → List D → Prop
  | nil : Reps K M H [] []
  | cons {v : V} {vs : List V} {d : D} {ds : List D} : Rep K M H v d → Reps K M H vs ds → Reps K M H (v :: vs) (d :: ds)
end

/-- the table of code objects at a: all of the name q -/
def TabD (K : KZ) (M : Mem) (H : Hp) (a : Addr) (q : Str) : Prop :=
  ∃ ps : Array Value, H a = some (.tbl ps) ∧ TriplesOk ps.toList ∧ ∀ (pos : Pos) (cv : Value), codeAmong pos ps.toList = some cv → ∃ c, cv = .ref c ∧ H c = some (LamX.CodeO c q) ∧ M c = none ∧ ¬ K.z c
theorem bx_code {c : Addr} {q : Str} : Bx (LamX.CodeO c q) := .inr ⟨_, rfl⟩
theorem TabD.map {K K' : KZ} {M M' : Mem} {H H' : Hp} {a : Addr} {q : Str} (t : TabD K M H a q) (ha : H' a = H a) (hc : ∀ c u, Bx u → H c = some u → M c = none → ¬ K.z c → H' c = some u ∧ M' c = none ∧ ¬ K'.z c) : TabD K' M' H' a q := by
  obtain ⟨ps, h1, h2, h3⟩ := t
  refine ⟨ps, ha.trans h1, h2, fun pos cv e => ?_⟩
  obtain ⟨c, e1, e2, e3, e4⟩ := h3 pos cv e
  exact ⟨c, e1, hc c _ bx_code e2 e3 e4⟩
/-- what stands at an address of the small memory -/
def ObjRep (K : KZ) (M : Mem) (H : Hp) (a : Addr) : MO → Prop
  | .lst ds => ∃ vs, H a = some (.lst vs) ∧ Reps K M H vs ds
  | .dct ks ds => ∃ kvs, H a = some (.dK kvs) ∧ kvs.map (·.1) = ks ∧ Reps K M H (kvs.map (·.2)) ds
  | .deck ks b => ∃ (k1 k2 k3 : Key) (m n : Int) (ns : { l : List Int // l.length ≤ 1000 }), ks = [k1, k2, k3] ∧ H a = some (.dK [(k1, .ref b), (k2, .int m), (k3, .int n)]) ∧ H b = some (.lst (ns.1.map .int)) ∧ M b = some (.hid a)
  | .hid _ => ∃ o, H a = some o
  | .tab q => TabD K M H a q
structure MAbs (K : KZ) (M : Mem) (H : Hp) : Prop where
  at_ : ∀ a o, M a = some o → ObjRep K M H a o
  out : ∀ a o, M a = some o → ¬ K.z a
  zat : ∀ a, K.z a → ∃ o, H a = some o
/-- what isn't in the small memory stays as it is -/
def Frame (M : Mem) (H : Hp) (M' : Mem) (H' : Hp) : Prop := ∀ c, H c ≠ none → M c = none → H' c = H c ∧ M' c = none
theorem Frame.refl {M : Mem} {H : Hp} : Frame M H M H := fun _ _ h => ⟨rfl, h⟩
theorem Frame.trans {M M1 M2 : Mem} {H H1 H2 : Hp} (f : Frame M H M1 H1) (g : Frame M1 H1 M2 H2) : Frame M H M2 H2 := fun c h n => by
  obtain ⟨e1, n1⟩ := f c h n
  obtain ⟨e2, n2⟩ := g c (by rw [e1]; exact h) n1
  exact ⟨e2.trans e1, n2⟩

section
variable {K : KZ} {M M' : Mem} {H H' : Hp}
theorem Frame.rd (f : Frame M H M' H') {a : Addr} {u : HO} (r : Rd H a u) (n : M a = none) : Rd H' a u ∧ M' a = none := by
  have hne : H a ≠ none := by
    rcases r with e | ⟨o, e⟩ <;> (rw [e]; exact nofun)
  obtain ⟨e, n'⟩ := f a hne n
  refine ⟨?_, n'⟩
  unfold Rd
  rw [e]
  exact r
theorem RdT.fr (f : Frame M H M' H') {a : Addr} {xs : List V} : RdT K M H a xs → RdT K M' H' a xs
  | .inl ⟨r, n⟩ => .inl (f.rd r n)
  | .inr k => .inr k
theorem RdL.fr (f : Frame M H M' H') {a : Addr} {xs : List V} : RdL K M H a xs → RdL K M' H' a xs
  | .inl ⟨r, n, z⟩ => let ⟨a, b⟩ := f.rd r n; .inl ⟨a, b, z⟩
  | .inr k => .inr k
theorem RdD.fr (f : Frame M H M' H') {a : Addr} {xs : List (Key × V)} : RdD K M H a xs → RdD K M' H' a xs
  | ⟨r, n, z⟩ => let ⟨a, b⟩ := f.rd r n; ⟨a, b, z⟩
mutual
theorem Rep.fr (f : Frame M H M' H') : ∀ {v : V} {d : D}, Rep K M H v d → Rep K M' H' v d
  | _, _, .non => .non
  | _, _, .bl b => .bl b
  | _, _, .int i => .int i
  | _, _, .str x => .str x
  | _, _, .ty n => .ty n
  | _, _, .ref a => .ref a
  | _, _, .tup h r => .tup (h.fr f) (Reps.fr f r)
  | _, _, .lst h r => .lst (h.fr f) (Reps.fr f r)
  | _, _, .dct h e1 e2 r => .dct (h.fr f) e1 e2 (Reps.fr f r)
  | _, _, .box bx h n z r => .box bx ((f _ (by rw [h]; exact nofun) n).1.trans h) (f _ (by rw [h]; exact nofun) n).2 z (Reps.fr f r)
theorem Reps.fr (f : Frame M H M' H') : ∀ {vs : List V} {ds : List D}, Reps K M H vs ds → Reps K M' H' vs ds
  | _, _, .nil => .nil
  | _, _, .cons r rs => .cons (Rep.fr f r) (Reps.fr f rs)
end
theorem Reps.length : ∀ {vs : List V} {ds : List D}, Reps K M H vs ds → vs.length = ds.length
  | _, _, .nil => rfl
  | _, _, .cons _ t => congrArg (· + 1) t.length
theorem Reps.append : ∀ {vs ws : List V} {ds es : List D}, Reps K M H vs ds → Reps K M H ws es → Reps K M H (vs ++ ws) (ds ++ es)
  | _, _, _, _, .nil, s => s
  | _, _, _, _, .cons r t, s => .cons r (t.append s)
theorem Reps.take : ∀ {vs : List V} {ds : List D} (n : Nat), Reps K M H vs ds → Reps K M H (vs.take n) (ds.take n)
  | _, _, 0, _ => .nil
  | _, _, _ + 1, .nil => .nil
  | _, _, n + 1, .cons r t => .cons r (t.take n)
theorem Reps.drop : ∀ {vs : List V} {ds : List D} (n : Nat), Reps K M H vs ds → Reps K M H (vs.drop n) (ds.drop n)
  | _, _, 0, r => r
  | _, _, _ + 1, .nil => .nil
  | _, _, n + 1, .cons r t => t.drop n
theorem Reps.reverse : ∀ {vs : List V} {ds : List D}, Reps K M H vs ds → Reps K M H vs.reverse ds.reverse
  | _, _, .nil => .nil
  | _, _, .cons r t => by
    rw [List.reverse_cons, List.reverse_cons]
    exact t.reverse.append (.cons r .nil)
theorem Reps.get : ∀ {vs : List V} {ds : List D} {i : Nat} {d : D}, Reps K M H vs ds → ds[i]? = some d → ∃ v, vs[i]? = some v ∧ Rep K M H v d
  | _, _, _, _, .nil, e => by simp at e
  | _, _, 0, _, .cons r _, e => by simp at e; subst e; exact ⟨_, rfl, r⟩
  | _, _, i + 1, d, .cons _ t, e => by
    obtain ⟨v, h1, h2⟩ := Reps.get (i := i) (d := d) t (by simpa using e)
    exact ⟨v, by simpa using h1, h2⟩
theorem Reps.getV : ∀ {vs : List V} {ds : List D} {i : Nat} {v : V}, Reps K M H vs ds → vs[i]? = some v → ∃ d, ds[i]? = some d ∧ Rep K M H v d
  | _, _, _, _, .nil, e => by simp at e
  | _, _, 0, _, .cons r _, e => by simp at e; subst e; exact ⟨_, rfl, r⟩
  | _, _, i + 1, v, .cons _ t, e => by
    obtain ⟨d, h1, h2⟩ := Reps.getV (i := i) (v := v) t (by simpa using e)
    exact ⟨d, by simpa using h1, h2⟩
theorem Reps.set : ∀ {vs : List V} {ds : List D} {v : V} {d : D} (i : Nat), Reps K M H vs ds → Rep K M H v d → Reps K M H (vs.set i v) (ds.set i d)
  | _, _, _, _, _, .nil, _ => .nil
  | _, _, _, _, 0, .cons _ t, r => .cons r t
  | _, _, _, _, i + 1, .cons q t, r => .cons q (t.set i r)
theorem Reps.dropLast : ∀ {vs : List V} {ds : List D}, Reps K M H vs ds → Reps K M H vs.dropLast ds.dropLast := fun {vs ds} r => by
  rw [List.dropLast_eq_take, List.dropLast_eq_take, r.length]
  exact r.take _
theorem Reps.ints : ∀ (ns : List Int), Reps K M H (ns.map .int) (ns.map .int)
  | [] => .nil
  | n :: ns => .cons (.int n) (Reps.ints ns)
theorem Reps.of_ints : ∀ {vs : List V} (ns : List Int), Reps K M H vs (ns.map .int) → vs = ns.map .int
  | _, [], h => by cases h; rfl
  | _, n :: ns, h => by
    cases h with
    | cons r t =>
      cases r
      rw [Reps.of_ints ns t]
      rfl

theorem MAbs.there (A : MAbs K M H) {a : Addr} {o : MO} (e : M a = some o) : ∃ u, H a = some u := by
  have h := A.at_ a o e
  cases o with
  | lst ds => obtain ⟨_, e, _⟩ := h; exact ⟨_, e⟩
  | dct ks ds => obtain ⟨_, e, _⟩ := h; exact ⟨_, e⟩
  | deck ks b => obtain ⟨_, _, _, _, _, _, _, e, _⟩ := h; exact ⟨_, e⟩
  | hid c => exact h
  | tab q => obtain ⟨_, e, _⟩ := h; exact ⟨_, e⟩
theorem MAbs.free (A : MAbs K M H) {a : Addr} (e : H a = none) : M a = none := by
  cases q : M a with
  | none => rfl
  | some o =>
    obtain ⟨u, z⟩ := A.there q
    rw [e] at z; cases z
theorem MAbs.zown (A : MAbs K M H) {a : Addr} (z : K.z a) : M a = none := by
  cases q : M a with
  | none => rfl
  | some o => exact absurd z (A.out a o q)
theorem MAbs.znew (A : MAbs K M H) {a : Addr} (e : H a = none) : ¬ K.z a := fun z => by
  obtain ⟨o, q⟩ := A.zat a z
  rw [e] at q; cases q
/-- one step of the memory -/
theorem MAbs.step (A : MAbs K M H) (f : Frame M H M' H')
    (h : ∀ a o, M' a = some o → (M a = some o ∧ H' a = H a ∧ ∀ ks b, o = .deck ks b → M' b = M b ∧ H' b = H b) ∨ ObjRep K M' H' a o) : MAbs K M' H' := by
  have zz : ∀ a, K.z a → ∃ o, H a = some o ∧ H' a = some o ∧ M' a = none := fun a z => by
    obtain ⟨o, e⟩ := A.zat a z
    obtain ⟨e1, e2⟩ := f a (by rw [e]; exact nofun) (A.zown z)
    exact ⟨o, e, e1.trans e, e2⟩
  refine ⟨fun a o e => ?_, fun a o e z => ?_, fun a z => ?_⟩
  · rcases h a o e with ⟨e1, e2, e3⟩ | q
    · have x := A.at_ a o e1
      cases o with
      | lst ds =>
        obtain ⟨vs, q, r⟩ := x
        exact ⟨vs, by rw [e2]; exact q, r.fr f⟩
      | dct ks ds =>
        obtain ⟨vs, q, k, r⟩ := x
        exact ⟨vs, by rw [e2]; exact q, k, r.fr f⟩
      | deck ks b =>
        obtain ⟨k1, k2, k3, m, n, ns, e0, q, qb, mb⟩ := x
        obtain ⟨z1, z2⟩ := e3 ks b rfl
        exact ⟨k1, k2, k3, m, n, ns, e0, by rw [e2]; exact q, by rw [z2]; exact qb, by rw [z1]; exact mb⟩
      | hid c =>
        obtain ⟨u, q⟩ := x
        exact ⟨u, by rw [e2]; exact q⟩
      | tab q => exact TabD.map x e2 fun c u _ h n nz => ⟨(f c (by rw [h]; exact nofun) n).1.trans h, (f c (by rw [h]; exact nofun) n).2, nz⟩
    · exact q
  · obtain ⟨_, _, _, n⟩ := zz a z
    rw [e] at n; cases n
  · obtain ⟨o, _, q, _⟩ := zz a z
    exact ⟨o, q⟩
/-- the memory stays, a new object stands in the heap -/
theorem Frame.new {p : Addr} {u : HO} (hp : H p = none) : Frame M H M (upd H p u) := fun c h n => by
  have : c ≠ p := fun e => h (by rw [e]; exact hp)
  exact ⟨upd_ne this, n⟩
theorem MAbs.new (A : MAbs K M H) {p : Addr} {u : HO} (hp : H p = none) : MAbs K M (upd H p u) := by
  refine A.step (Frame.new hp) fun a o e => .inl ⟨e, ?_, fun ks b eo => ⟨rfl, ?_⟩⟩
  · obtain ⟨w, q⟩ := A.there e
    exact upd_ne (ne_of_none q hp)
  · subst eo
    obtain ⟨_, _, _, _, _, _, _, _, qb, _⟩ := A.at_ a _ e
    exact upd_ne (ne_of_none qb hp)
/-- a new object of the memory -/
theorem Frame.newM {p : Addr} {u : HO} {o : MO} (A : MAbs K M H) (hp : H p = none) : Frame M H (mset M p o) (upd H p u) := fun c h n => by
  have : c ≠ p := fun e => h (by rw [e]; exact hp)
  exact ⟨upd_ne this, by rw [mset_ne this]; exact n⟩
theorem MAbs.newM (A : MAbs K M H) {p : Addr} {u : HO} {o : MO} (hp : H p = none) (q : ObjRep K (mset M p o) (upd H p u) p o) : MAbs K (mset M p o) (upd H p u) := by
  refine A.step (Frame.newM A hp) fun a o' e => ?_
  by_cases z : a = p
  · subst z
    rw [mset_same] at e
    cases e
    exact .inr q
  · rw [mset_ne z] at e
    refine .inl ⟨e, upd_ne z, fun ks b eo => ?_⟩
    subst eo
    obtain ⟨_, _, _, _, _, _, _, _, qb, _⟩ := A.at_ a _ e
    have hb : b ≠ p := ne_of_none qb hp
    exact ⟨mset_ne hb, upd_ne hb⟩
/-- what may be written by itself -/
def MO.own : MO → Prop
  | .lst _ => True
  | .dct _ _ => True
  | _ => False
theorem Frame.wr {a : Addr} {u : HO} {o o' : MO} (e : M a = some o) : Frame M H (mset M a o') (upd H a u) := fun c h n => by
  have : c ≠ a := fun z => by rw [z, e] at n; cases n
  exact ⟨upd_ne this, by rw [mset_ne this]; exact n⟩
theorem MAbs.wr (A : MAbs K M H) {a : Addr} {u : HO} {o o' : MO} (e : M a = some o) (w : o.own) (q : ObjRep K (mset M a o') (upd H a u) a o') : MAbs K (mset M a o') (upd H a u) := by
  refine A.step (Frame.wr e) fun c x ec => ?_
  by_cases z : c = a
  · subst z
    rw [mset_same] at ec
    cases ec
    exact .inr q
  · rw [mset_ne z] at ec
    refine .inl ⟨ec, upd_ne z, fun ks b eo => ?_⟩
    subst eo
    obtain ⟨_, _, _, _, _, _, _, _, _, mb⟩ := A.at_ c _ ec
    have hb : b ≠ a := fun y => by
      rw [y, e] at mb
      cases mb
      exact w.elim
    exact ⟨mset_ne hb, upd_ne hb⟩
end

/-! ### views: the same state seen otherwise -/
/-- the memory M with the value d may be seen as M' with d' -/
def View (K : PySem.W.Frag) (M : Mem) (d : D) (M' : Mem) (d' : D) : Prop :=
  ∀ z H v, MAbs ⟨K, z⟩ M H → Rep ⟨K, z⟩ M H v d → MAbs ⟨K, z⟩ M' H ∧ Rep ⟨K, z⟩ M' H v d' ∧ ∀ c, M c = none → M' c = none
def MView (K : PySem.W.Frag) (M M' : Mem) : Prop := ∀ z H, MAbs ⟨K, z⟩ M H → MAbs ⟨K, z⟩ M' H ∧ Frame M H M' H
theorem MView.refl {K : PySem.W.Frag} {M : Mem} : MView K M M := fun _ _ A => ⟨A, Frame.refl⟩
theorem MView.trans {K : PySem.W.Frag} {M M1 M2 : Mem} (a : MView K M M1) (b : MView K M1 M2) : MView K M M2 := fun z H A => by
  obtain ⟨A1, f1⟩ := a z H A
  obtain ⟨A2, f2⟩ := b z H A1
  exact ⟨A2, f1.trans f2⟩
/-- less is known -/
def Sub (M' M : Mem) : Prop := ∀ a o, M' a = some o → M a = some o
/-- what may be forgotten: no deck's own list -/
def SubOk (M' M : Mem) : Prop := Sub M' M ∧ ∀ a ks b, M' a = some (.deck ks b) → M' b = M b
theorem MView.sub {K : PySem.W.Frag} {M M' : Mem} (s : SubOk M' M) : MView K M M' := fun z H A => by
  have f : Frame M H M' H := fun c h n => ⟨rfl, by
    cases q : M' c with
    | none => rfl
    | some o => rw [s.1 c o q] at n; cases n⟩
  exact ⟨A.step f fun a o e => .inl ⟨s.1 a o e, rfl, fun ks b eo => ⟨s.2 a ks b (by rw [e, eo]), rfl⟩⟩, f⟩
/-- a list, a dict is frozen -/
theorem Rep.del {K : KZ} {M : Mem} {H : Hp} {a : Addr} {v : V} {d : D} (r : Rep K M H v d) : Rep K (mdel M a) H v d :=
  r.fr fun c _ n => ⟨rfl, by unfold mdel; split <;> simp_all⟩
theorem Reps.del {K : KZ} {M : Mem} {H : Hp} {a : Addr} {vs : List V} {ds : List D} (r : Reps K M H vs ds) : Reps K (mdel M a) H vs ds :=
  r.fr fun c _ n => ⟨rfl, by unfold mdel; split <;> simp_all⟩
theorem subOk_del {M : Mem} {a : Addr} (h : ∀ c, M a ≠ some (.hid c)) : Sub (mdel M a) M ∧ ∀ K H, MAbs K M H → ∀ c ks b, mdel M a c = some (.deck ks b) → mdel M a b = M b := by
  refine ⟨fun c o e => ?_, fun K H A c ks b e => ?_⟩
  · by_cases z : c = a
    · subst z; rw [mdel_same] at e; cases e
    · rw [mdel_ne z] at e; exact e
  · by_cases z : c = a
    · subst z; rw [mdel_same] at e; cases e
    · rw [mdel_ne z] at e
      obtain ⟨_, _, _, _, _, _, _, _, _, mb⟩ := A.at_ c _ e
      by_cases y : b = a
      · subst y; exact absurd mb (h c)
      · exact mdel_ne y
theorem MAbs.del {K : KZ} {M : Mem} {H : Hp} {a : Addr} (A : MAbs K M H) (h : ∀ c, M a ≠ some (.hid c)) : MAbs K (mdel M a) H ∧ Frame M H (mdel M a) H :=
  let ⟨s, q⟩ := subOk_del h
  MView.sub ⟨s, q K H A⟩ K.z H A
theorem View.lst {K : PySem.W.Frag} {M : Mem} {a : Addr} {ds : List D} (e : M a = some (.lst ds)) : View K M (.ref a) (mdel M a) (.lst ds) := fun z H v A r => by
  have h : ∀ c, M a ≠ some (.hid c) := fun c y => by rw [e] at y; cases y
  obtain ⟨vs, q, rs⟩ := A.at_ a _ e
  refine ⟨(A.del h).1, ?_, fun c n => ((mdel_ne (show c ≠ a from fun z => by rw [z, e] at n; cases n)).trans n)⟩
  cases r with
  | ref => exact .lst (.inl ⟨.inl q, mdel_same, A.out a _ e⟩) rs.del
theorem View.dct {K : PySem.W.Frag} {M : Mem} {a : Addr} {ks : List Key} {ds : List D} (e : M a = some (.dct ks ds)) : View K M (.ref a) (mdel M a) (.dct ks ds) := fun z H v A r => by
  have h : ∀ c, M a ≠ some (.hid c) := fun c y => by rw [e] at y; cases y
  obtain ⟨kvs, q, ek, rs⟩ := A.at_ a _ e
  refine ⟨(A.del h).1, ?_, fun c n => ((mdel_ne (show c ≠ a from fun z => by rw [z, e] at n; cases n)).trans n)⟩
  cases r with
  | ref => exact .dct ⟨.inl q, mdel_same, A.out a _ e⟩ ek rfl rs.del
theorem View.refl {K : PySem.W.Frag} {M : Mem} {d : D} : View K M d M d := fun _ _ _ A r => ⟨A, r, fun _ n => n⟩
theorem View.fr {M M' : Mem} {H : Hp} (f : ∀ c, M c = none → M' c = none) : Frame M H M' H := fun c _ n => ⟨rfl, f c n⟩
theorem View.mem {K : PySem.W.Frag} {M M' : Mem} {d : D} (h : MView K M M') (n : ∀ c, M c = none → M' c = none) : View K M d M' d := fun z H v A r => ⟨(h z H A).1, r.fr (h z H A).2, n⟩
theorem View.trans {K : PySem.W.Frag} {M M1 M2 : Mem} {d d1 d2 : D} (a : View K M d M1 d1) (b : View K M1 d1 M2 d2) : View K M d M2 d2 := fun z H v A r => by
  obtain ⟨A1, r1, n1⟩ := a z H v A r
  obtain ⟨A2, r2, n2⟩ := b z H v A1 r1
  exact ⟨A2, r2, fun c n => n2 c (n1 c n)⟩

/-! ### the names' values -/
abbrev DEnv := List (Option D)
def slot : DEnv → Nat → Option D
  | [], _ => none
  | x :: _, 0 => x
  | _ :: r, n + 1 => slot r n
def put : DEnv → Nat → D → DEnv
  | [], _, _ => []
  | _ :: r, 0, d => some d :: r
  | x :: r, n + 1, d => x :: put r n d
def dwipe : DEnv → List Nat → DEnv
  | ρ, [] => ρ
  | ρ, i :: is => (dwipe ρ is).set i none
inductive SAbs (K : KZ) (M : Mem) (H : Hp) : DEnv → L2.St → Prop
  | nil : SAbs K M H [] []
  | off {x : Option V} {ρ : DEnv} {σ : L2.St} : SAbs K M H ρ σ → SAbs K M H (none :: ρ) (x :: σ)
  | on {v : V} {d : D} {ρ : DEnv} {σ : L2.St} : Rep K M H v d → SAbs K M H ρ σ → SAbs K M H (some d :: ρ) (some v :: σ)
section
variable {K : KZ} {M M' : Mem} {H H' : Hp}
theorem SAbs.fr (f : Frame M H M' H') : ∀ {ρ : DEnv} {σ : L2.St}, SAbs K M H ρ σ → SAbs K M' H' ρ σ
  | _, _, .nil => .nil
  | _, _, .off t => .off (t.fr f)
  | _, _, .on r t => .on (r.fr f) (t.fr f)
theorem SAbs.get : ∀ {ρ : DEnv} {σ : L2.St} {i : Nat} {d : D}, SAbs K M H ρ σ → slot ρ i = some d → ∃ v, σ[i]? = some (some v) ∧ Rep K M H v d
  | _, _, _, _, .nil, e => by cases e
  | _, _, 0, _, .off _, e => by cases e
  | _, _, 0, _, .on r _, e => by cases e; exact ⟨_, rfl, r⟩
  | _, _, i + 1, d, .off t, e => SAbs.get (i := i) t e
  | _, _, i + 1, d, .on _ t, e => SAbs.get (i := i) t e
theorem SAbs.put : ∀ {ρ : DEnv} {σ : L2.St} {v : V} {d : D} (i : Nat), SAbs K M H ρ σ → Rep K M H v d → SAbs K M H (put ρ i d) (σ.set i (some v))
  | _, _, _, _, _, .nil, _ => .nil
  | _, _, _, _, 0, .off t, r => .on r t
  | _, _, _, _, 0, .on _ t, r => .on r t
  | _, _, _, _, i + 1, .off t, r => .off (t.put i r)
  | _, _, _, _, i + 1, .on q t, r => .on q (t.put i r)
theorem SAbs.un : ∀ {ρ : DEnv} {σ : L2.St} {x : Option V} (i : Nat), SAbs K M H ρ σ → SAbs K M H (ρ.set i none) (σ.set i x)
  | _, _, _, _, .nil => .nil
  | _, _, _, 0, .off t => .off t
  | _, _, _, 0, .on _ t => .off t
  | _, _, _, i + 1, .off t => .off (t.un i)
  | _, _, _, i + 1, .on q t => .on q (t.un i)
theorem SAbs.wipe {ρ : DEnv} {σ : L2.St} (h : SAbs K M H ρ σ) : ∀ (is : List Nat), SAbs K M H (dwipe ρ is) (L2.wipe σ is)
  | [] => h
  | i :: is => by
    unfold L2.wipe dwipe
    exact (h.wipe is).un i
theorem SAbs.start {vs : List V} {ds : List D} (r : Reps K M H vs ds) (n : Nat) : SAbs K M H (ds.map some ++ List.replicate n none) (vs.map some ++ List.replicate n none) := by
  induction vs generalizing ds with
  | nil =>
    cases r
    show SAbs K M H (List.replicate n none) (List.replicate n none)
    induction n with
    | zero => exact .nil
    | succ n ih => exact .off ih
  | cons v vs ih =>
    cases r with
    | cons r t => exact .on r (ih t)
end

/-! ### the lifted readings -/
abbrev RK := D → Mem → Prop
abbrev DE := DEnv → Mem → RK → Prop
abbrev DT := DEnv → Mem → (Bool → Mem → Prop) → Prop
abbrev DA := DEnv → Mem → (List D → Mem → Prop) → Prop
def Fin (K : KZ) (M : Mem) (H : Hp) (R : RK) (Q : VK) : Prop := ∀ d M' v H', R d M' → Rep K M' H' v d → MAbs K M' H' → Frame M H M' H' → Q v H'
def FinT (K : KZ) (M : Mem) (H : Hp) (R : Bool → Mem → Prop) (Q : Bool → Hp → Prop) : Prop := ∀ b M' H', R b M' → MAbs K M' H' → Frame M H M' H' → Q b H'
def FinA (K : KZ) (M : Mem) (H : Hp) (R : List D → Mem → Prop) (Q : List V → Hp → Prop) : Prop := ∀ ds M' vs H', R ds M' → Reps K M' H' vs ds → MAbs K M' H' → Frame M H M' H' → Q vs H'
def LS (K : KZ) (M : Mem) (H : Hp) (P : DEnv → Mem → Prop) (N : L2.St → Hp → Prop) : Prop := ∀ ρ M' σ' H', P ρ M' → SAbs K M' H' ρ σ' → MAbs K M' H' → Frame M H M' H' → N σ' H'
def liftE (K : PySem.W.Frag) (t : DE) : TE := fun σ H Q => ∃ z ρ M R, SAbs ⟨K, z⟩ M H ρ σ ∧ MAbs ⟨K, z⟩ M H ∧ t ρ M R ∧ Fin ⟨K, z⟩ M H R Q
def liftT (K : PySem.W.Frag) (t : DT) : TT := fun σ H Q => ∃ z ρ M R, SAbs ⟨K, z⟩ M H ρ σ ∧ MAbs ⟨K, z⟩ M H ∧ t ρ M R ∧ FinT ⟨K, z⟩ M H R Q
def liftA (K : PySem.W.Frag) (t : DA) : TA := fun σ H Q => ∃ z ρ M R, SAbs ⟨K, z⟩ M H ρ σ ∧ MAbs ⟨K, z⟩ M H ∧ t ρ M R ∧ FinA ⟨K, z⟩ M H R Q
/-- what is wanted of an exception: its class's name, its one attribute's name, the value there -/
abbrev XD := Str → Str → D → Mem → Prop
abbrev noX : XD := fun _ _ _ _ => False
/-- an exception of the class at a module's name, its dict -/
abbrev WN := Str → Addr → L2.St → Hp → Prop
structure EndsD where
  nx : DEnv → Mem → Prop
  rt : RK
  bk : DEnv → Mem → Prop := fun _ _ => False
  ct : DEnv → Mem → Prop := fun _ _ => False
  xr : Str → Str → D → DEnv → Mem → Prop := fun _ _ _ _ _ => False
abbrev DS := EndsD → DEnv → Mem → Prop
def LX (K : KZ) (M : Mem) (H : Hp) (P : Str → Str → D → DEnv → Mem → Prop) (y : WN) : Prop :=
  ∀ x f d ρ M' v dd σ H', P x f d ρ M' → H' dd = some (.xd [(f, v)]) → M' dd = none → ¬ K.z dd → Rep K M' H' v d → SAbs K M' H' ρ σ → MAbs K M' H' → Frame M H M' H' → y x dd σ H'
def FinX (K : KZ) (M : Mem) (H : Hp) (XR : XD) (y : Str → Addr → Hp → Prop) : Prop :=
  ∀ x f d M' v dd H', XR x f d M' → H' dd = some (.xd [(f, v)]) → M' dd = none → ¬ K.z dd → Rep K M' H' v d → MAbs K M' H' → Frame M H M' H' → y x dd H'
theorem FinX.no {K : KZ} {M : Mem} {H : Hp} {y : Str → Addr → Hp → Prop} : FinX K M H noX y := fun _ _ _ _ _ _ _ h => h.elim
structure LSs (K : KZ) (M : Mem) (H : Hp) (D0 : EndsD) (D : Ends) (y : WN) : Prop where
  nx : LS K M H D0.nx D.nx
  rt : Fin K M H D0.rt D.rt
  bk : LS K M H D0.bk D.bk
  ct : LS K M H D0.ct D.ct
  xr : LX K M H D0.xr y
def liftS (K : PySem.W.Frag) (y : WN) (t : DS) : TS := fun D σ H => ∃ z ρ M D0, SAbs ⟨K, z⟩ M H ρ σ ∧ MAbs ⟨K, z⟩ M H ∧ t D0 ρ M ∧ LSs ⟨K, z⟩ M H D0 D y
/-- expressions that may raise -/
abbrev DX := DEnv → Mem → RK → XD → Prop
def liftX (K : PySem.W.Frag) (y : WN) (t : DX) : TE := fun σ H Q => ∃ z ρ M R XR, SAbs ⟨K, z⟩ M H ρ σ ∧ MAbs ⟨K, z⟩ M H ∧ t ρ M R XR ∧ Fin ⟨K, z⟩ M H R Q ∧ FinX ⟨K, z⟩ M H XR fun x dd H => y x dd σ H
/-- the greatest wish that is taken of exceptions here -/
def Wm (X : Cx) : WX := fun cls d σ H => ∀ u s', L2.XE X (fun c' d' σ' H' => c' = cls ∧ d' = d ∧ σ' = σ ∧ H' = H) u s' → X.xe u s'
theorem takes_wm {X : Cx} : L2.Takes X (Wm X) := fun u s' ⟨a, B, sI, pins, σ, H, cls, d, e, I, nb, up, sky, na, os, ag, w⟩ => w u s' ⟨a, B, sI, pins, σ, H, cls, d, e, I, nb, up, sky, na, os, ag, rfl, rfl, rfl, rfl⟩
theorem wm_of {X : Cx} {W : WX} (t : L2.Takes X W) {cls : Value} {d : Option Addr} {σ : L2.St} {H : Hp} (w : W cls d σ H) : Wm X cls d σ H := fun u s' x => (t.imp (W' := fun c' d' σ' H' => c' = cls ∧ d' = d ∧ σ' = σ ∧ H' = H) fun _ _ _ _ h => by
  obtain ⟨h1, h2, h3, h4⟩ := h
  subst h1 h2 h3 h4
  exact w) u s' x
/-- by the class's name -/
def Wn (X : Cx) : WN := fun x dd σ H => ∀ C, X.mg x = some (.ref C) → Wm X (.ref C) (some dd) σ H
section
variable {K : KZ} {M M' : Mem} {H H' : Hp}
theorem Fin.fr {R : RK} {Q : VK} (h : Fin K M H R Q) (f : Frame M H M' H') : Fin K M' H' R Q := fun d M2 v H2 r a b c => h d M2 v H2 r a b (f.trans c)
theorem FinT.fr {R : Bool → Mem → Prop} {Q : Bool → Hp → Prop} (h : FinT K M H R Q) (f : Frame M H M' H') : FinT K M' H' R Q := fun d M2 H2 r b c => h d M2 H2 r b (f.trans c)
theorem FinA.fr {R : List D → Mem → Prop} {Q : List V → Hp → Prop} (h : FinA K M H R Q) (f : Frame M H M' H') : FinA K M' H' R Q := fun d M2 v H2 r a b c => h d M2 v H2 r a b (f.trans c)
theorem LS.fr {P : DEnv → Mem → Prop} {N : L2.St → Hp → Prop} (h : LS K M H P N) (f : Frame M H M' H') : LS K M' H' P N := fun ρ M2 σ H2 p a b c => h ρ M2 σ H2 p a b (f.trans c)
theorem LX.fr {P : Str → Str → D → DEnv → Mem → Prop} {y : WN} (h : LX K M H P y) (f : Frame M H M' H') : LX K M' H' P y := fun x fl d ρ M2 v dd σ H2 p e n nz r s a c => h x fl d ρ M2 v dd σ H2 p e n nz r s a (f.trans c)
theorem FinX.fr {XR : XD} {y : Str → Addr → Hp → Prop} (h : FinX K M H XR y) (f : Frame M H M' H') : FinX K M' H' XR y := fun x fl d M2 v dd H2 p e n nz r a c => h x fl d M2 v dd H2 p e n nz r a (f.trans c)
theorem LSs.fr {D0 : EndsD} {D : Ends} {y : WN} (h : LSs K M H D0 D y) (f : Frame M H M' H') : LSs K M' H' D0 D y := ⟨h.nx.fr f, h.rt.fr f, h.bk.fr f, h.ct.fr f, h.xr.fr f⟩
/-- the state stays -/
theorem Fin.at_ {R : RK} {Q : VK} {d : D} {v : V} (h : Fin K M H R Q) (A : MAbs K M H) (q : R d M) (r : Rep K M H v d) : Q v H := h d M v H q r A Frame.refl
end
end DL

set_option Elab.async false
set_option linter.all false
set_option maxHeartbeats 4000000
/-! D-layer, part 2: operations by values. -/
namespace DL
open PySem PySem.Spec PyProof.Rows L2

abbrev D2 := D → D → Mem → RK → Prop
abbrev D1 := D → Mem → RK → Prop
abbrev DN := List D → Mem → RK → Prop
abbrev DM := D → List D → Mem → RK → Prop
def lift2 (K : PySem.W.Frag) (rd : D2) : R2 := fun v u H Q => ∃ z M x y R, MAbs ⟨K, z⟩ M H ∧ Rep ⟨K, z⟩ M H v x ∧ Rep ⟨K, z⟩ M H u y ∧ rd x y M R ∧ Fin ⟨K, z⟩ M H R Q
def lift1 (K : PySem.W.Frag) (rd : D1) : V → Hp → VK → Prop := fun v H Q => ∃ z M x R, MAbs ⟨K, z⟩ M H ∧ Rep ⟨K, z⟩ M H v x ∧ rd x M R ∧ Fin ⟨K, z⟩ M H R Q
def liftN (K : PySem.W.Frag) (rd : DN) : List V → Hp → VK → Prop := fun vs H Q => ∃ z M xs R, MAbs ⟨K, z⟩ M H ∧ Reps ⟨K, z⟩ M H vs xs ∧ rd xs M R ∧ Fin ⟨K, z⟩ M H R Q
def liftM (K : PySem.W.Frag) (rd : DM) : V → List V → Hp → VK → Prop := fun v vs H Q => ∃ z M x xs R, MAbs ⟨K, z⟩ M H ∧ Rep ⟨K, z⟩ M H v x ∧ Reps ⟨K, z⟩ M H vs xs ∧ rd x xs M R ∧ Fin ⟨K, z⟩ M H R Q

theorem _root_.L2.OpR.weak {X : Cx} {f : Value → Value → Sem Value} {r r' : R2} (h : OpR X f r) (w : ∀ x y H Q, r' x y H Q → r x y H Q) : OpR X f r' :=
  fun pins s σ H x y v u Q I rx ry q => h pins s σ H x y v u Q I rx ry (w _ _ _ _ q)
/-- by cases, each with its own rule -/
theorem _root_.L2.OpR.cases {X : Cx} {f : Value → Value → Sem Value} {r' : R2} (w : ∀ x y H Q, r' x y H Q → ∃ r : R2, OpR X f r ∧ r x y H Q) : OpR X f r' :=
  fun pins s σ H x y v u Q I rx ry q => let ⟨_, h, z⟩ := w _ _ _ _ q; h pins s σ H x y v u Q I rx ry z
theorem _root_.L2.UnR.weak {X : Cx} {f : Value → Sem Value} {r r' : V → Hp → VK → Prop} (h : UnR X f r) (w : ∀ x H Q, r' x H Q → r x H Q) : UnR X f r' :=
  fun pins s σ H x v Q I rx q => h pins s σ H x v Q I rx (w _ _ _ q)
theorem _root_.L2.CallR.weak {X : Cx} {f : Value} {r r' : List V → Hp → VK → Prop} (h : CallR X f r) (w : ∀ xs H Q, r' xs H Q → r xs H Q) : CallR X f r' :=
  fun pins s σ H xs us Q I rx q => h pins s σ H xs us Q I rx (w _ _ _ q)
theorem _root_.L2.CallR.cases {X : Cx} {f : Value} {r' : List V → Hp → VK → Prop} (w : ∀ xs H Q, r' xs H Q → ∃ r, CallR X f r ∧ r xs H Q) : CallR X f r' :=
  fun pins s σ H xs us Q I rx q => let ⟨_, h, z⟩ := w _ _ _ q; h pins s σ H xs us Q I rx z
theorem _root_.L2.MtR.weak {X : Cx} {id : String} {r r' : V → List V → Hp → VK → Prop} (h : MtR X id r) (w : ∀ x xs H Q, r' x xs H Q → r x xs H Q) : MtR X id r' :=
  fun pins s σ H x xs v us Q I r1 r2 q => h pins s σ H x xs v us Q I r1 r2 (w _ _ _ _ q)

section
variable {K : KZ} {M : Mem} {H : Hp} {R : RK} {Q : VK} {v u : V}
theorem rep_int {i : Int} (h : Rep K M H v (.int i)) : v = .int i := by cases h; rfl
theorem rep_str {x : Str} (h : Rep K M H v (.str x)) : v = .str x := by cases h; rfl
theorem rep_bl {b : Bool} (h : Rep K M H v (.bl b)) : v = .bl b := by cases h; rfl
theorem rep_non (h : Rep K M H v .non) : v = .non := by cases h; rfl
theorem rep_ty {n : String} (h : Rep K M H v (.ty n)) : v = .ty n := by cases h; rfl
theorem rep_ref {a : Addr} (h : Rep K M H v (.ref a)) : v = .ref a := by cases h; rfl
theorem rep_tup {ds : List D} (h : Rep K M H v (.tup ds)) : ∃ a vs, v = .ref a ∧ RdT K M H a vs ∧ Reps K M H vs ds := by
  cases h with
  | tup h r => exact ⟨_, _, rfl, h, r⟩
theorem rep_lst {ds : List D} (h : Rep K M H v (.lst ds)) : ∃ a vs, v = .ref a ∧ RdL K M H a vs ∧ Reps K M H vs ds := by
  cases h with
  | lst h r => exact ⟨_, _, rfl, h, r⟩
theorem rep_dct {ks : List Key} {ds : List D} (h : Rep K M H v (.dct ks ds)) : ∃ a kvs, v = .ref a ∧ RdD K M H a kvs ∧ kvs.map (·.1) = ks ∧ Reps K M H (kvs.map (·.2)) ds := by
  cases h with
  | dct h e1 e2 r => subst e2; exact ⟨_, _, rfl, h, e1, r⟩
/-- the end with a new tuple -/
theorem Fin.tup (F : Fin K M H R Q) (A : MAbs K M H) {p : Addr} {vs : List V} {ds : List D} (hp : H p = none) (r : Reps K M H vs ds) (q : R (.tup ds) M) : Q (.ref p) (upd H p (.tup vs)) :=
  F _ M _ _ q (.tup (.inl ⟨.inl upd_same, A.free hp⟩) (r.fr (Frame.new hp))) (A.new hp) (Frame.new hp)
theorem Fin.lst (F : Fin K M H R Q) (A : MAbs K M H) {p : Addr} {vs : List V} {ds : List D} (hp : H p = none) (r : Reps K M H vs ds) (q : R (.lst ds) M) : Q (.ref p) (upd H p (.lst vs)) :=
  F _ M _ _ q (.lst (.inl ⟨.inl upd_same, A.free hp, A.znew hp⟩) (r.fr (Frame.new hp))) (A.new hp) (Frame.new hp)
theorem Fin.lstM (F : Fin K M H R Q) (A : MAbs K M H) {p : Addr} {vs : List V} {ds : List D} (hp : H p = none) (r : Reps K M H vs ds) (q : R (.ref p) (mset M p (.lst ds))) : Q (.ref p) (upd H p (.lst vs)) :=
  F _ _ _ _ q (.ref p) (A.newM hp ⟨vs, upd_same, r.fr (Frame.newM A hp)⟩) (Frame.newM A hp)
/-- a list of either kind: its items, by the state -/
def ListAt (M : Mem) (d : D) (ds : List D) : Prop := d = .lst ds ∨ ∃ a, d = .ref a ∧ M a = some (.lst ds)
theorem rep_list (A : MAbs K M H) {d : D} {ds : List D} (h : Rep K M H v d) (l : ListAt M d ds) : ∃ a vs, v = .ref a ∧ SqL K.k H a vs ∧ Reps K M H vs ds := by
  rcases l with rfl | ⟨a, rfl, e⟩
  · obtain ⟨a, vs, rfl, hr, r⟩ := rep_lst h
    exact ⟨a, vs, rfl, hr.sq, r⟩
  · obtain rfl := rep_ref h
    obtain ⟨vs, q, r⟩ := A.at_ a _ e
    exact ⟨a, vs, rfl, .inl (.inl q), r⟩
end

section
variable {X : Cx}
/-! ### arithmetic -/
def rI2 (C : Int → Int → Prop) (g : Int → Int → D) : D2 := fun x y M R => ∃ i j, x = .int i ∧ y = .int j ∧ C i j ∧ R (g i j) M
def rI20 (g : Int → Int → D) : D2 := fun x y M R => ∃ i j, x = .int i ∧ y = .int j ∧ R (g i j) M
theorem od_I {f : Value → Value → Sem Value} {C : Int → Int → Prop} {g : Int → Int → Int} (h : OpR X f (rI C fun i j => .int (g i j))) : OpR X f (lift2 X.K (rI2 C fun i j => .int (g i j))) :=
  h.weak fun x y H Q ⟨z, M, _, _, R, A, rx, ry, ⟨i, j, e1, e2, c, q⟩, F⟩ => by
    subst e1; subst e2
    exact ⟨i, j, rep_int rx, rep_int ry, c, F.at_ A q (.int _)⟩
theorem od_I0 {f : Value → Value → Sem Value} {g : Int → Int → Int} (h : OpR X f (rI0 fun i j => .int (g i j))) : OpR X f (lift2 X.K (rI20 fun i j => .int (g i j))) :=
  h.weak fun x y H Q ⟨z, M, _, _, R, A, rx, ry, ⟨i, j, e1, e2, q⟩, F⟩ => by
    subst e1; subst e2
    exact ⟨i, j, rep_int rx, rep_int ry, F.at_ A q (.int _)⟩
theorem od_B0 {f : Value → Value → Sem Value} {g : Int → Int → Bool} (h : OpR X f (rI0 fun i j => .bl (g i j))) : OpR X f (lift2 X.K (rI20 fun i j => .bl (g i j))) :=
  h.weak fun x y H Q ⟨z, M, _, _, R, A, rx, ry, ⟨i, j, e1, e2, q⟩, F⟩ => by
    subst e1; subst e2
    exact ⟨i, j, rep_int rx, rep_int ry, F.at_ A q (.bl _)⟩
def dSub : D2 := rI20 fun i j => .int (i - j)
def dMul : D2 := rI2 CMul fun i j => .int (i * j)
def dMod : D2 := rI2 (fun _ j => 0 < j) fun i j => .int (i % j)
def dDiv : D2 := rI2 CDiv fun i j => .int (i / j)
def dPow : D2 := rI2 CPow fun i j => .int (i ^ j.toNat)
def dLt : D2 := rI20 fun i j => .bl (decide (i < j))
def dLe : D2 := rI20 fun i j => .bl (decide (i ≤ j))
def dGt : D2 := rI20 fun i j => .bl (decide (j < i))
def dGe : D2 := rI20 fun i j => .bl (decide (j ≤ i))
theorem od_sub : OpR X (binaryOp .Sub) (lift2 X.K dSub) := od_I0 op_sub
theorem od_mul : OpR X (binaryOp .Mult) (lift2 X.K dMul) := od_I op_mul
theorem od_mod : OpR X (binaryOp .Mod) (lift2 X.K dMod) := od_I op_mod
theorem od_div : OpR X (binaryOp .FloorDiv) (lift2 X.K dDiv) := od_I op_fdiv
theorem od_pow : OpR X (binaryOp .Pow) (lift2 X.K dPow) := od_I op_pow
theorem od_lt : OpR X (compareOp .Lt) (lift2 X.K dLt) := od_B0 op_lt
theorem od_le : OpR X (compareOp .LtE) (lift2 X.K dLe) := od_B0 op_le
theorem od_gt : OpR X (compareOp .Gt) (lift2 X.K dGt) := od_B0 op_gt
theorem od_ge : OpR X (compareOp .GtE) (lift2 X.K dGe) := od_B0 op_ge
/-- list + list, lists of either kind -/
def rCatL (K : PySem.W.Frag) : R2 := fun x y H Q => ∃ l b xs zs, x = .ref l ∧ y = .ref b ∧ SqL K H l xs ∧ SqL K H b zs ∧ xs.length + zs.length ≤ sizeLine ∧ ∀ p, H p = none → Q (.ref p) (upd H p (.lst (xs ++ zs)))
theorem op_catL : OpR X (binaryOp .Add) (rCatL X.K) := by
  intro pins s σ H x y v u Q I rx ry h
  obtain ⟨l, b, xs, zs, rfl, rfl, hH, hB, hz, q⟩ := h
  cases rx
  cases ry
  obtain ⟨its, r, ⟨⟨cls, dd, data, sl⟩, n, e, hc, hd, hq⟩, z⟩ := I.list hH
  obtain ⟨its2, r2, ⟨⟨cls2, dd2, data2, sl2⟩, n2, e2, hc2, hd2, hq2⟩, z2⟩ := I.list hB
  simp only at hc hd hq hc2 hd2 hq2
  subst hc hd hq hc2 hd2 hq2
  have l1 := r.length
  have l2 := r2.length
  have ea : its.toArray ++ its2.toArray = (its ++ its2).toArray := by simp
  refine concat_meets ⟨_, e, rfl⟩ ⟨_, e2, rfl⟩ noFill_list_add seq_list_add F.slot_list_add F.entry_list_add (F.args_list_add_2 _ _)
    (list_addW l b its.toArray its2.toArray n n2 _ _ sl sl2 (by rw [List.size_toArray, List.size_toArray]; omega)) ⟨e, e2, ?_⟩
  rw [ea]
  exact ⟨.ref _, _, I.lnew (t' := s.toks) (r.append r2) (by rw [List.length_append]; omega), rfl, q _ I.fresh⟩
/-- + -/
def dAdd : D2 := fun x y M R => match x, y with
  | .int i, .int j => R (.int (i + j)) M
  | .str i, .str j => i.length + j.length ≤ sizeLine ∧ R (.str (i ++ j)) M
  | .tup xs, .tup ys => xs.length + ys.length ≤ sizeLine ∧ R (.tup (xs ++ ys)) M
  | .lst xs, .lst ys => xs.length + ys.length ≤ sizeLine ∧ R (.lst (xs ++ ys)) M
  | _, _ => False
theorem od_add : OpR X (binaryOp .Add) (lift2 X.K dAdd) := OpR.cases fun v u H Q ⟨z, M, x, y, R, A, rx, ry, h, F⟩ => by
  unfold dAdd at h
  split at h
  · exact ⟨_, op_add, _, _, rep_int rx, rep_int ry, F.at_ A h (.int _)⟩
  · exact ⟨_, op_add_str, _, _, rep_str rx, rep_str ry, h.1, F.at_ A h.2 (.str _)⟩
  · obtain ⟨a, vs, rfl, h1, r1⟩ := rep_tup rx
    obtain ⟨b, us, rfl, h2, r2⟩ := rep_tup ry
    refine ⟨_, op_catA, a, b, vs, us, rfl, rfl, h1.sq, h2.sq, by rw [r1.length, r2.length]; exact h.1, fun e => ?_, fun e1 e2 => ?_, fun _ _ p hp => F.tup A hp (r1.append r2) h.2⟩
    · subst e
      cases r1
      exact F.at_ A h.2 (.tup h2 r2)
    · subst e2
      cases r2
      rw [List.append_nil] at h
      exact F.at_ A h.2 (.tup h1 r1)
  · obtain ⟨a, vs, rfl, h1, r1⟩ := rep_lst rx
    obtain ⟨b, us, rfl, h2, r2⟩ := rep_lst ry
    exact ⟨_, op_catL, a, b, vs, us, rfl, rfl, h1.sq, h2.sq, by rw [r1.length, r2.length]; exact h.1, fun p hp => F.lst A hp (r1.append r2) h.2⟩
  · exact h.elim
def dNeg : D1 := fun x M R => ∃ i, x = .int i ∧ R (.int (-i)) M
theorem ud_neg : UnR X (unaryOp .USub) (lift1 X.K dNeg) := un_neg.weak fun v H Q ⟨z, M, x, R, A, rx, ⟨i, e, q⟩, F⟩ => by
  subst e
  exact ⟨i, rep_int rx, F.at_ A q (.int _)⟩

/-! ### isinstance with built-in classes -/
def tyD (M : Mem) : D → Option String
  | .non => some "NoneType"
  | .bl _ => some "bool"
  | .int _ => some "int"
  | .str _ => some "str"
  | .ty _ => none
  | .tup _ => some "tuple"
  | .lst _ => some "list"
  | .dct _ _ => some "dict"
  | .box _ _ _ _ _ => none
  | .ref a => match M a with
    | some (.lst _) => some "list"
    | some (.dct _ _) => some "dict"
    | some (.deck _ _) => some "dict"
    | _ => none
def isTy (t c : String) : Bool := t == c || (t == "bool" && c == "int")
theorem tyD_is {K : KZ} {M : Mem} {H : Hp} {v : V} {d : D} {t : String} (A : MAbs K M H) (r : Rep K M H v d) (e : tyD M d = some t) : TyX K.k H v (.type t) := by
  cases d with
  | non => cases r; cases e; exact .base .non
  | bl b => cases r; cases e; exact .base (.bl _)
  | int i => cases r; cases e; exact .base (.int _)
  | str x => cases r; cases e; exact .base (.str _)
  | ty n => cases e
  | box _ _ _ _ _ => cases e
  | tup ds =>
    cases e
    obtain ⟨a, vs, rfl, h, _⟩ := rep_tup r
    rcases h with ⟨q | ⟨o, q⟩, _⟩ | ⟨o, its, n, k, c, _⟩
    · exact .base (.tup q)
    · exact .fTuple q
    · exact .kTuple k c
  | lst ds =>
    cases e
    obtain ⟨a, vs, rfl, h, _⟩ := rep_lst r
    rcases h with ⟨q | ⟨o, q⟩, _⟩ | ⟨o, its, n, k, c, _⟩
    · exact .base (.lst q)
    · exact .base (.frz q)
    · exact .kList k c
  | dct ks ds =>
    cases e
    obtain ⟨a, kvs, rfl, ⟨q | ⟨o, q⟩, _⟩, _⟩ := rep_dct r
    · exact .base (.dK q)
    · exact .fDict q
  | ref a =>
    obtain rfl := rep_ref r
    have e' : (match M a with
      | some (.lst _) => some "list"
      | some (.dct _ _) => some "dict"
      | some (.deck _ _) => some "dict"
      | _ => none) = some t := e
    split at e' <;> cases e'
    · rename_i z
      obtain ⟨vs, q, _⟩ := A.at_ a _ z
      exact .base (.lst q)
    · rename_i z
      obtain ⟨vs, q, _⟩ := A.at_ a _ z
      exact .base (.dK q)
    · rename_i z
      obtain ⟨k1, k2, k3, m, n, ns, _, q, _⟩ := A.at_ a _ z
      exact .base (.dK q)
end
end DL

set_option Elab.async false
set_option linter.all false
set_option maxHeartbeats 4000000
/-! D-layer, part 3: expressions and tests. -/
namespace DL
open PySem PySem.Spec PyProof.Rows L2

theorem _root_.L2.PE.weak {X : Cx} {e : Expr} {t t' : TE} (h : PE X e t) (w : ∀ σ H Q, t' σ H Q → t σ H Q) : PE X e t' := ⟨fun pins s σ H Q I q => h.run pins s σ H Q I (w _ _ _ q)⟩
theorem _root_.L2.PT.weak {X : Cx} {e : Expr} {t t' : TT} (h : PT X e t) (w : ∀ σ H Q, t' σ H Q → t σ H Q) : PT X e t' := ⟨fun pins s σ H Q I q => h.run pins s σ H Q I (w _ _ _ q)⟩
theorem _root_.L2.PW.weak {X : Cx} {e : Expr} {t t' : TT} (h : PW X e t) (w : ∀ σ H Q, t' σ H Q → t σ H Q) : PW X e t' := ⟨fun z pins s σ H Q I q => h.run z pins s σ H Q I (w _ _ _ q)⟩
theorem _root_.L2.PA.weak {X : Cx} {es : List Expr} {t t' : TA} (h : PA X es t) (w : ∀ σ H Q, t' σ H Q → t σ H Q) : PA X es t' := ⟨fun z pins s σ H Q I q => h.run z pins s σ H Q I (w _ _ _ q)⟩
theorem _root_.L2.PK.weak {X : Cx} {es : List Keyword} {t t' : TA} (h : PK X es t) (w : ∀ σ H Q, t' σ H Q → t σ H Q) : PK X es t' := ⟨fun z pins s σ H Q I q => h.run z pins s σ H Q I (w _ _ _ q)⟩
theorem _root_.L2.PS.weak {X : Cx} {st : Stmt} {t t' : TS} (h : PS X st t) (w : ∀ D σ H, t' D σ H → t D σ H) : PS X st t' := ⟨fun pins s σ H D I q => h.run pins s σ H D I (w _ _ _ q)⟩
theorem _root_.L2.PSs.weak {X : Cx} {st : List Stmt} {t t' : TS} (h : PSs X st t) (w : ∀ D σ H, t' D σ H → t D σ H) : PSs X st t' := ⟨fun pins s σ H D I q => h.run pins s σ H D I (w _ _ _ q)⟩

abbrev PED (X : Cx) (e : Expr) (t : DE) : Prop := PE X e (liftE X.K t)
abbrev PTD (X : Cx) (e : Expr) (t : DT) : Prop := PT X e (liftT X.K t)
abbrev PWD (X : Cx) (e : Expr) (t : DT) : Prop := PW X e (liftT X.K t)
abbrev PAD (X : Cx) (es : List Expr) (t : DA) : Prop := PA X es (liftA X.K t)
abbrev PKD (X : Cx) (es : List Keyword) (t : DA) : Prop := PK X es (liftA X.K t)
abbrev PSD (X : Cx) (st : Stmt) (t : DS) : Prop := PS X st (liftS X.K (Wn X) t)
abbrev PBD (X : Cx) (st : List Stmt) (t : DS) : Prop := PSs X st (liftS X.K (Wn X) t)
abbrev PEDX (X : Cx) (e : Expr) (t : DX) : Prop := PE X e (liftX X.K (Wn X) t)

section
variable {X : Cx} {a b c e : Expr} {ta tb tc te : DE} {pos : Pos}
/-! ### names, constants -/
def dVar (i : Nat) : DE := fun ρ M R => ∃ d, slot ρ i = some d ∧ R d M
def dC (d : D) : DE := fun _ M R => R d M
theorem de_var (i : Nat) {x : Str} (hN : X.N[i]? = some x := by rfl) (hv : Vis X.env.scope x := by first | exact Or.inl rfl | exact Or.inr (Or.inl rfl) | exact Or.inr (Or.inr rfl)) (hd : (x == ("__debug__" : Str)) = false := by decide)
    (hcd : (x == ("__classdict__" : Str)) = false := by decide) : PED X (.Name x pos) (dVar i) :=
  (pe_var hN hv hd hcd).weak fun σ H Q ⟨z, ρ, M, R, S, A, ⟨d, e, q⟩, F⟩ => let ⟨v, hs, r⟩ := S.get e; ⟨v, hs, F.at_ A q r⟩
theorem de_int {i j} : PED X (.Constant (.int i) j pos) (dC (.int i)) := pe_int.weak fun σ H Q ⟨z, ρ, M, R, S, A, q, F⟩ => F.at_ A q (.int i)
theorem de_bl {b j} : PED X (.Constant (.bool b) j pos) (dC (.bl b)) := pe_bl.weak fun σ H Q ⟨z, ρ, M, R, S, A, q, F⟩ => F.at_ A q (.bl b)
theorem de_non {j} : PED X (.Constant .none j pos) (dC .non) := pe_non.weak fun σ H Q ⟨z, ρ, M, R, S, A, q, F⟩ => F.at_ A q .non
theorem de_str {x j} : PED X (.Constant (.str x) j pos) (dC (.str x)) := pe_str.weak fun σ H Q ⟨z, ρ, M, R, S, A, q, F⟩ => F.at_ A q (.str x)
/-- what a module's name holds -/
structure Holds (K : PySem.W.Frag) (mg : Str → Option Value) (x : Str) (d : D) : Prop where
  ex : ∃ (v : V) (u : Value), mg x = some u ∧ RelV v u ∧ ∀ z M H, Rep ⟨K, z⟩ M H v d
theorem de_glob {x : Str} {d : D} (h : Holds X.K X.mg x d) (hg : Gl X x := by rfl) (hd : (x == ("__debug__" : Str)) = false := by decide) : PED X (.Name x pos) (dC d) := by
  obtain ⟨v, u, hm, r, hr⟩ := h.ex
  exact (pe_glob hg hm r hd).weak fun σ H Q ⟨z, ρ, M, R, S, A, q, F⟩ => F.at_ A q (hr z M H)
/-- a built-in class as a value -/
theorem de_ty {x : Str} {n : String} (hm : X.mg x = none) (hv : bootBuiltins x = some (.type n) := by decide +kernel) (hg : Gl X x := by rfl) (hn : x ≠ "__name__" := by decide) (hd : (x == ("__debug__" : Str)) = false := by decide) : PED X (.Name x pos) (dC (.ty n)) :=
  (pe_bltn (v := .ty n) hg hm hv rfl hn hd).weak fun σ H Q ⟨z, ρ, M, R, S, A, q, F⟩ => F.at_ A q (.ty n)

/-! ### operators -/
def dOp (r : D2) (ta tb : DE) : DE := fun ρ M R => ta ρ M fun x M1 => tb ρ M1 fun y M2 => r x y M2 R
def dUn (r : D1) (ta : DE) : DE := fun ρ M R => ta ρ M fun x M1 => r x M1 R
theorem lift_two {r : D2} {σ : L2.St} {H : Hp} {Q : VK} (h : liftE X.K (dOp r ta tb) σ H Q) : tOp (lift2 X.K r) (liftE X.K ta) (liftE X.K tb) σ H Q := by
  obtain ⟨z, ρ, M, R, S, A, q, F⟩ := h
  refine ⟨z, ρ, M, _, S, A, q, fun x M1 v H1 q1 r1 A1 f1 => ⟨z, ρ, M1, _, S.fr f1, A1, q1, fun y M2 u H2 q2 r2 A2 f2 => ?_⟩⟩
  exact ⟨z, M2, x, y, R, A2, r1.fr f2, r2, q2, F.fr (f1.trans f2)⟩
theorem de_op {op : Operator} {r : D2} (ho : OpR X (binaryOp op) (lift2 X.K r)) (ha : PED X a ta) (hb : PED X b tb) : PED X (.BinOp a op b pos) (dOp r ta tb) := (pe_op ho ha hb).weak fun _ _ _ => lift_two
theorem de_cmp {op : CmpOp} {r : D2} (ho : OpR X (compareOp op) (lift2 X.K r)) (ha : PED X a ta) (hb : PED X b tb) (hm : behindInMarks op b = false) : PED X (.Compare a [op] [b] pos) (dOp r ta tb) := (pe_cmpR ho ha hb hm).weak fun _ _ _ => lift_two
theorem de_un {op : UnaryOp} {r : D1} (ho : UnR X (unaryOp op) (lift1 X.K r)) (ha : PED X a ta) : PED X (.UnaryOp op a pos) (dUn r ta) :=
  (pe_un ho ha).weak fun σ H Q ⟨z, ρ, M, R, S, A, q, F⟩ => ⟨z, ρ, M, _, S, A, q, fun x M1 v H1 q1 r1 A1 f1 => ⟨z, M1, x, R, A1, r1, q1, F.fr f1⟩⟩
/-- a value as a test -/
def dTest (t : DE) : DT := fun ρ M R => t ρ M fun x M1 => ∃ k, x = .bl k ∧ R k M1
theorem lift_test {t : DE} {σ : L2.St} {H : Hp} {Q : Bool → Hp → Prop} (h : liftT X.K (dTest t) σ H Q) : tTest (liftE X.K t) σ H Q := by
  obtain ⟨z, ρ, M, R, S, A, q, F⟩ := h
  refine ⟨z, ρ, M, _, S, A, q, fun x M1 v H1 ⟨k, e, q1⟩ r1 A1 f1 => ?_⟩
  subst e
  exact ⟨k, rep_bl r1, F k M1 H1 q1 A1 f1⟩
theorem dt_val (h : PED X e te) (he : ∀ whole, isTrue e X.env whole = (do let v ← whole; standAt e.pos; holding [v] (truthy v)) := by intro _; rfl) : PTD X e (dTest te) := (pt_val h he).weak fun _ _ _ => lift_test
theorem lift_test2 {r : D2} {σ : L2.St} {H : Hp} {Q : Bool → Hp → Prop} (h : liftT X.K (dTest (dOp r ta tb)) σ H Q) : tTest (tOp (lift2 X.K r) (liftE X.K ta) (liftE X.K tb)) σ H Q := lift_two (lift_test h)
theorem dt_cmp {op : CmpOp} {r : D2} (ho : OpR X (compareOp op) (lift2 X.K r)) (ha : PED X a ta) (hb : PED X b tb) (hm : behindInMarks op b = false) : PTD X (.Compare a [op] [b] pos) (dTest (dOp r ta tb)) := (pt_cmpR ho ha hb hm).weak fun _ _ _ => lift_test2
/-- a < b < c -/
def dChain (r r' : D2) (ta tb tc : DE) : DE := fun ρ M R => ta ρ M fun x M1 => tb ρ M1 fun y M2 => r x y M2 fun z M3 => ∃ k, z = .bl k ∧ (if k = true then tc ρ M3 fun w M4 => r' y w M4 R else R (.bl false) M3)
theorem lift_chain {r r' : D2} {σ : L2.St} {H : Hp} {Q : VK} (h : liftE X.K (dChain r r' ta tb tc) σ H Q) : tChain (lift2 X.K r) (lift2 X.K r') (liftE X.K ta) (liftE X.K tb) (liftE X.K tc) σ H Q := by
  obtain ⟨z, ρ, M, R, S, A, q, F⟩ := h
  refine ⟨z, ρ, M, _, S, A, q, fun x M1 v H1 q1 r1 A1 f1 => ⟨z, ρ, M1, _, S.fr f1, A1, q1, fun y M2 u H2 q2 r2 A2 f2 => ?_⟩⟩
  refine ⟨z, M2, x, y, _, A2, r1.fr f2, r2, q2, fun z M3 w H3 q3 r3 A3 f3 => ?_⟩
  obtain ⟨k, ez, q3⟩ := q3
  subst ez
  refine ⟨k, rep_bl r3, ?_⟩
  cases k with
  | true =>
    rw [if_pos rfl] at q3 ⊢
    exact ⟨z, ρ, M3, _, S.fr ((f1.trans f2).trans f3), A3, q3, fun w' M4 v4 H4 q4 r4 A4 f4 => ⟨z, M4, y, w', R, A4, r2.fr (f3.trans f4), r4, q4, F.fr (((f1.trans f2).trans f3).trans f4)⟩⟩
  | false =>
    rw [if_neg Bool.false_ne_true] at q3 ⊢
    exact F _ M3 _ H3 q3 (.bl false) A3 ((f1.trans f2).trans f3)
theorem de_chain {op op' : CmpOp} {r r' : D2} (ho : OpR X (compareOp op) (lift2 X.K r)) (ho' : OpR X (compareOp op') (lift2 X.K r')) (ha : PED X a ta) (hb : PED X b tb) (hc : PED X c tc)
    (hm : lastMarks [op, op'] [b, c] = false := by with_unfolding_all rfl) : PED X (.Compare a [op, op'] [b, c] pos) (dChain r r' ta tb tc) := (pe_chain ho ho' ha hb hc hm).weak fun _ _ _ => lift_chain
theorem dt_chain {op op' : CmpOp} {r r' : D2} (ho : OpR X (compareOp op) (lift2 X.K r)) (ho' : OpR X (compareOp op') (lift2 X.K r')) (ha : PED X a ta) (hb : PED X b tb) (hc : PED X c tc)
    (hm : lastMarks [op, op'] [b, c] = false := by with_unfolding_all rfl) : PTD X (.Compare a [op, op'] [b, c] pos) (dTest (dChain r r' ta tb tc)) :=
  (pt_chain ho ho' ha hb hc hm).weak fun _ _ _ h => lift_chain (lift_test h)

/-! ### and, or, not -/
variable {tA tB : DT} {rest : List Expr}
def dAnd (t u : DT) : DT := fun ρ M R => t ρ M fun k M1 => if k = true then u ρ M1 R else R false M1
def dOr (t u : DT) : DT := fun ρ M R => t ρ M fun k M1 => if k = true then R true M1 else u ρ M1 R
def dNot (t : DT) : DT := fun ρ M R => t ρ M fun k M1 => R (!k) M1
theorem dw_and1 (ha : PTD X a tA) : PWD X (.BoolOp .And [a] pos) tA := pw_and1 ha
theorem dw_or1 (ha : PTD X a tA) : PWD X (.BoolOp .Or [a] pos) tA := pw_or1 ha
theorem dw_and (ha : PTD X a tA) (hb : PWD X (.BoolOp .And (b :: rest) pos) tB) : PWD X (.BoolOp .And (a :: b :: rest) pos) (dAnd tA tB) :=
  (pw_and ha hb).weak fun σ H Q ⟨z, ρ, M, R, S, A, q, F⟩ => ⟨z, ρ, M, _, S, A, q, fun k M1 H1 q1 A1 f1 => by
    cases k with
    | true => rw [if_pos rfl] at q1 ⊢; exact ⟨z, ρ, M1, R, S.fr f1, A1, q1, F.fr f1⟩
    | false => rw [if_neg Bool.false_ne_true] at q1 ⊢; exact F _ _ _ q1 A1 f1⟩
theorem dw_or (ha : PTD X a tA) (hb : PWD X (.BoolOp .Or (b :: rest) pos) tB) : PWD X (.BoolOp .Or (a :: b :: rest) pos) (dOr tA tB) :=
  (pw_or ha hb).weak fun σ H Q ⟨z, ρ, M, R, S, A, q, F⟩ => ⟨z, ρ, M, _, S, A, q, fun k M1 H1 q1 A1 f1 => by
    cases k with
    | true => rw [if_pos rfl] at q1 ⊢; exact F _ _ _ q1 A1 f1
    | false => rw [if_neg Bool.false_ne_true] at q1 ⊢; exact ⟨z, ρ, M1, R, S.fr f1, A1, q1, F.fr f1⟩⟩
theorem dt_of (h : PWD X e tA) : PTD X e tA := h.pt
theorem dt_not (ha : PTD X a tA) : PTD X (.UnaryOp .Not a pos) (dNot tA) :=
  (pt_not ha).weak fun σ H Q ⟨z, ρ, M, R, S, A, q, F⟩ => ⟨z, ρ, M, _, S, A, q, fun k M1 H1 q1 A1 f1 => F _ _ _ q1 A1 f1⟩
def dAndV (ta tb : DE) : DE := fun ρ M R => ta ρ M fun x M1 => ∃ k, x = .bl k ∧ if k = true then tb ρ M1 R else R (.bl false) M1
def dOrV (ta tb : DE) : DE := fun ρ M R => ta ρ M fun x M1 => ∃ k, x = .bl k ∧ if k = true then R (.bl true) M1 else tb ρ M1 R
def dNotV (ta : DE) : DE := fun ρ M R => ta ρ M fun x M1 => ∃ k, x = .bl k ∧ R (.bl (!k)) M1
theorem de_one {op} (h : PED X a ta) : PED X (.BoolOp op [a] pos) ta := pe_one h
theorem de_and (ha : PED X a ta) (hb : PED X (.BoolOp .And (b :: rest) pos) tb) : PED X (.BoolOp .And (a :: b :: rest) pos) (dAndV ta tb) :=
  (pe_and ha hb).weak fun σ H Q ⟨z, ρ, M, R, S, A, q, F⟩ => ⟨z, ρ, M, _, S, A, q, fun x M1 v H1 ⟨k, e, q1⟩ r1 A1 f1 => by
    subst e
    refine ⟨k, rep_bl r1, ?_⟩
    cases k with
    | true => rw [if_pos rfl] at q1 ⊢; exact ⟨z, ρ, M1, R, S.fr f1, A1, q1, F.fr f1⟩
    | false => rw [if_neg Bool.false_ne_true] at q1 ⊢; exact F _ _ _ _ q1 (.bl false) A1 f1⟩
theorem de_or (ha : PED X a ta) (hb : PED X (.BoolOp .Or (b :: rest) pos) tb) : PED X (.BoolOp .Or (a :: b :: rest) pos) (dOrV ta tb) :=
  (pe_or ha hb).weak fun σ H Q ⟨z, ρ, M, R, S, A, q, F⟩ => ⟨z, ρ, M, _, S, A, q, fun x M1 v H1 ⟨k, e, q1⟩ r1 A1 f1 => by
    subst e
    refine ⟨k, rep_bl r1, ?_⟩
    cases k with
    | true => rw [if_pos rfl] at q1 ⊢; exact F _ _ _ _ q1 (.bl true) A1 f1
    | false => rw [if_neg Bool.false_ne_true] at q1 ⊢; exact ⟨z, ρ, M1, R, S.fr f1, A1, q1, F.fr f1⟩⟩
theorem de_not (ha : PED X a ta) : PED X (.UnaryOp .Not a pos) (dNotV ta) :=
  (pe_not ha).weak fun σ H Q ⟨z, ρ, M, R, S, A, q, F⟩ => ⟨z, ρ, M, _, S, A, q, fun x M1 v H1 ⟨k, e, q1⟩ r1 A1 f1 => by
    subst e
    exact ⟨k, rep_bl r1, F _ _ _ _ q1 (.bl _) A1 f1⟩⟩
def dIf (t : DT) (ta tb : DE) : DE := fun ρ M R => t ρ M fun k M1 => if k = true then ta ρ M1 R else tb ρ M1 R
theorem de_if (hc : PTD X c tA) (ha : PED X a ta) (hb : PED X b tb) : PED X (.IfExp c a b pos) (dIf tA ta tb) :=
  (pe_ifExp hc ha hb).weak fun σ H Q ⟨z, ρ, M, R, S, A, q, F⟩ => ⟨z, ρ, M, _, S, A, q, fun k M1 H1 q1 A1 f1 => by
    cases k with
    | true => rw [if_pos rfl] at q1 ⊢; exact ⟨z, ρ, M1, R, S.fr f1, A1, q1, F.fr f1⟩
    | false => rw [if_neg Bool.false_ne_true] at q1 ⊢; exact ⟨z, ρ, M1, R, S.fr f1, A1, q1, F.fr f1⟩⟩

/-! ### displays, argument lists -/
variable {es : List Expr} {t : DA}
def dNil : DA := fun _ M R => R [] M
def dCons (ta : DE) (tr : DA) : DA := fun ρ M R => ta ρ M fun x M1 => tr ρ M1 fun xs M2 => R (x :: xs) M2
theorem da_nil : PAD X [] dNil := pa_nil.weak fun σ H Q ⟨z, ρ, M, R, S, A, q, F⟩ => F [] M [] H q .nil A Frame.refl
theorem lift_cons {tr : DA} {σ : L2.St} {H : Hp} {Q : List V → Hp → Prop} (h : liftA X.K (dCons ta tr) σ H Q) : tCons (liftE X.K ta) (liftA X.K tr) σ H Q := by
  obtain ⟨z, ρ, M, R, S, A, q, F⟩ := h
  exact ⟨z, ρ, M, _, S, A, q, fun x M1 v H1 q1 r1 A1 f1 => ⟨z, ρ, M1, _, S.fr f1, A1, q1, fun xs M2 vs H2 q2 r2 A2 f2 => F _ _ _ _ q2 (.cons (r1.fr f2) r2) A2 (f1.trans f2)⟩⟩
theorem da_cons (ha : PED X a ta) (hr : PAD X es t) (hs : starEach (a :: es) X.env = (false, eval a X.env) :: starEach es X.env := by rfl) : PAD X (a :: es) (dCons ta t) := (pa_cons ha hr hs).weak fun _ _ _ => lift_cons
theorem dk_nil : PKD X [] dNil := pk_nil.weak fun σ H Q ⟨z, ρ, M, R, S, A, q, F⟩ => F [] M [] H q .nil A Frame.refl
theorem dk_cons {nm : Option Str} {kpos : Pos} {kws : List Keyword} (ha : PED X a ta) (hr : PKD X kws t) : PKD X (⟨nm, a, kpos⟩ :: kws) (dCons ta t) := (pk_cons ha hr).weak fun _ _ _ => lift_cons
def dTup (t : DA) : DE := fun ρ M R => t ρ M fun ds M1 => ds.length ≤ sizeLine ∧ R (.tup ds) M1
def dLst (t : DA) : DE := fun ρ M R => t ρ M fun ds M1 => ds.length ≤ sizeLine ∧ R (.lst ds) M1
def dLstM (t : DA) : DE := fun ρ M R => t ρ M fun ds M1 => ds.length ≤ sizeLine ∧ ∀ p, M1 p = none → R (.ref p) (mset M1 p (.lst ds))
theorem de_tup {x1} (h : PAD X es t) : PED X (.Tuple es x1 pos) (dTup t) :=
  (pe_tup h).weak fun σ H Q ⟨z, ρ, M, R, S, A, q, F⟩ => ⟨z, ρ, M, _, S, A, q, fun ds M1 vs H1 q1 r1 A1 f1 => ⟨by rw [r1.length]; exact q1.1, fun p hp => (F.fr f1).tup A1 hp r1 q1.2⟩⟩
theorem de_lst (h : PAD X es t) : PED X (.List es pos) (dLst t) :=
  (pe_lst h).weak fun σ H Q ⟨z, ρ, M, R, S, A, q, F⟩ => ⟨z, ρ, M, _, S, A, q, fun ds M1 vs H1 q1 r1 A1 f1 => ⟨by rw [r1.length]; exact q1.1, fun p hp => (F.fr f1).lst A1 hp r1 q1.2⟩⟩
theorem de_lstM (h : PAD X es t) : PED X (.List es pos) (dLstM t) :=
  (pe_lst h).weak fun σ H Q ⟨z, ρ, M, R, S, A, q, F⟩ => ⟨z, ρ, M, _, S, A, q, fun ds M1 vs H1 q1 r1 A1 f1 => ⟨by rw [r1.length]; exact q1.1, fun p hp => (F.fr f1).lstM A1 hp r1 (q1.2 p (A1.free hp))⟩⟩
/-- another view of the value -/
def dView (K : PySem.W.Frag) (t : DE) : DE := fun ρ M R => t ρ M fun d M1 => ∃ d' M2, View K M1 d M2 d' ∧ R d' M2
theorem de_view (h : PED X e te) : PED X e (dView X.K te) := h.weak fun σ H Q ⟨z, ρ, M, R, S, A, q, F⟩ => ⟨z, ρ, M, _, S, A, q, fun d M1 v H1 ⟨d', M2, w, q1⟩ r1 A1 f1 => by
  obtain ⟨A2, r2, n⟩ := w z H1 v A1 r1
  exact F d' M2 v H1 q1 r2 A2 (f1.trans (View.fr n))⟩
/-- a list is frozen -/
def dFrz (t : DE) : DE := fun ρ M R => t ρ M fun d M1 => ∃ a ds, d = .ref a ∧ M1 a = some (.lst ds) ∧ R (.lst ds) (mdel M1 a)
theorem de_frz (h : PED X e te) : PED X e (dFrz te) := h.weak fun σ H Q ⟨z, ρ, M, R, S, A, q, F⟩ => ⟨z, ρ, M, _, S, A, q, fun d M1 v H1 ⟨a, ds, ed, em, q1⟩ r1 A1 f1 => by
  subst ed
  obtain ⟨A2, r2, n⟩ := View.lst (K := X.K) em z H1 v A1 r1
  exact F _ _ v H1 q1 r2 A2 (f1.trans (View.fr n))⟩

/-! ### calls of built-ins by name, of methods -/
def dCB (r : DN) (t : DA) : DE := fun ρ M R => t ρ M fun ds M1 => r ds M1 R
theorem lift_cb {r : DN} {σ : L2.St} {H : Hp} {Q : VK} (h : liftE X.K (dCB r t) σ H Q) : tCB (liftN X.K r) (liftA X.K t) σ H Q := by
  obtain ⟨z, ρ, M, R, S, A, q, F⟩ := h
  exact ⟨z, ρ, M, _, S, A, q, fun ds M1 vs H1 q1 r1 A1 f1 => ⟨z, M1, ds, R, A1, r1, q1, F.fr f1⟩⟩
theorem de_callB {x : Str} {p : Pos} {id : String} {r : DN} (hc : CallR X (.builtin id) (liftN X.K r)) (hm : X.mg x = none) (ha : PAD X (e :: es) t) (hv : bootBuiltins x = some (.builtin id) := by decide +kernel) (hg : Gl X x := by rfl) (hn : x ≠ "__name__" := by decide) (hdb : (x == ("__debug__" : Str)) = false := by decide)
    (he : starEach (e :: es) X.env = (false, eval e X.env) :: starEach es X.env := by rfl) (hpl : (backTo pos (starEach es X.env)).any (·.1) = false := by rfl) : PED X (.Call (.Name x p) (e :: es) [] pos) (dCB r t) :=
  (pe_callB hc hg hm hv ha hn hdb he hpl).weak fun _ _ _ => lift_cb
theorem de_callTy {x : Str} {p : Pos} {T : String} {r : DN} (hc : CallR X (.type T) (liftN X.K r)) (hm : X.mg x = none) (ha : PAD X (e :: es) t) (hv : bootBuiltins x = some (.type T) := by decide +kernel) (hg : Gl X x := by rfl) (hn : x ≠ "__name__" := by decide) (hdb : (x == ("__debug__" : Str)) = false := by decide)
    (he : starEach (e :: es) X.env = (false, eval e X.env) :: starEach es X.env := by rfl) (hpl : (backTo pos (starEach es X.env)).any (·.1) = false := by rfl) : PED X (.Call (.Name x p) (e :: es) [] pos) (dCB r t) :=
  (pe_callTy hc hg hm hv ha hn hdb he hpl).weak fun _ _ _ => lift_cb
end
end DL

set_option Elab.async false
set_option linter.all false
set_option maxHeartbeats 4000000
set_option maxRecDepth 100000
/-! D-layer, part 26: own error classes over Exception, whose __init__ keeps one value. -/
namespace PySem
namespace EyX
open PySem.W PySem.Calls PyProof.Rows PySem.HandSPX
abbrev exTl : List Value := [.type "Exception", .type "BaseException", .type "object"]
/-- own classes, then Exception's mro -/
def refsX : List Value → Bool
  | .ref _ :: r => refsX r
  | l => l == exTl
theorem refsX_cases : ∀ l : List Value, refsX l = true → (∃ c r, l = .ref c :: r ∧ refsX r = true) ∨ l = exTl
  | [], e => .inr (beq_iff_eq.mp e)
  | .ref c :: r, e => .inl ⟨c, r, rfl, e⟩
  | .none :: _, e => .inr (beq_iff_eq.mp e)
  | .ellipsis :: _, e => .inr (beq_iff_eq.mp e)
  | .notImplemented :: _, e => .inr (beq_iff_eq.mp e)
  | .bool _ :: _, e => .inr (beq_iff_eq.mp e)
  | .int _ _ :: _, e => .inr (beq_iff_eq.mp e)
  | .float _ _ :: _, e => .inr (beq_iff_eq.mp e)
  | .str _ _ :: _, e => .inr (beq_iff_eq.mp e)
  | .bytes _ _ :: _, e => .inr (beq_iff_eq.mp e)
  | .type _ :: _, e => .inr (beq_iff_eq.mp e)
  | .builtin _ :: _, e => .inr (beq_iff_eq.mp e)
theorem refsX_pass (self : Value) : ∀ l : List Value, refsX l = true → refuseLoop self "__setattr__" l = pure () := by
  intro l
  induction l with
  | nil => intro e; exact absurd e (by decide)
  | cons a r ih =>
    intro e
    rcases refsX_cases (a :: r) e with ⟨c, r', q, h⟩ | q
    · obtain ⟨rfl, rfl⟩ := List.cons.inj q
      rw [refuseLoop_ref]; exact ih h
    · rw [q]; exact F.store_Exception.passes self
theorem refsX_contains (X : String) : ∀ l : List Value, refsX l = true → l.contains (.type X) = exTl.contains (.type X) := by
  intro l
  induction l with
  | nil => intro e; exact absurd e (by decide)
  | cons a r ih =>
    intro e
    rcases refsX_cases (a :: r) e with ⟨c, r', q, h⟩ | q
    · obtain ⟨rfl, rfl⟩ := List.cons.inj q
      rw [List.contains_cons, ih h]; rfl
    · rw [q]
theorem refsX_ne {l : List Value} (e : refsX l = true) : l.isEmpty = false := by
  cases l with
  | nil => exact absurd e (by decide)
  | cons _ _ => rfl
section
variable {prog : Program} {w : World} {A : Around} {E : Value → Shared → Prop} {R : Result → Shared → Prop} {hp : Heap} {g : Array GenState} {d : Drawn} {t : Nat} {os : OsState}
open Builtin Builtin.ObjectAttr
/-- self.name = v, the first one -/
theorem osa_first {K : W.Frag} {name : Str} {tk : Tok} {v : Value} {x C : Addr} {fv : Array Value} {cd : ClassData}
    (X : K.In hp) (hx : hp.get? x = some { cls := .ref C, data := .fields fv }) (hcd : W.clsIn K C = some cd) (hm : refsX cd.mro = true) (hh : cd.hasDict = true) (ha : W.findIn K (.ref C) name = some none)
    (hq : ∀ h' tk' dx, (∀ b o, b ≠ x → hp.get? b = some o → h'.get? b = some o) → hp.objs.size ≤ dx → dx ≠ x → h'.get? x = some { cls := .ref C, dict := some dx, data := .fields fv } →
      h'.Ns1 dx (fun y => if y = name then some v else none) → R (.ok (.ret .none)) ⟨h', g, d, tk', os⟩) :
    codeAny (model prog w) A (.call (.builtin "object.__setattr__") ⟨[.ref x, .str name tk, v], []⟩) R ⟨hp, g, d, t, os⟩ := by
  have I : W.InstAt hp x { cls := .ref C, data := .fields fv } C none := ⟨hx, rfl, rfl, trivial⟩
  have SF := F.store_object
  have ne := refsX_ne hm
  have hob : cd.mro.contains (.type "object") = true := (refsX_contains "object" _ hm).trans (by decide +kernel)
  have hxs : x ≠ hp.objs.size := Nat.ne_of_lt (Heap.lt_size hx)
  have sub : W.Looks (model prog w) hp (isInstance (.ref x) (.type "object")) true := I.type.andThen (W.looks_mroIn X (by unfold W.mroIn; rw [hcd, Option.bind_some, if_neg (by rw [ne]; decide), hob]))
  refine codeAny_call_builtin SF.slot.plain SF.entry (@W.check_slot (model prog w) _ _ ⟨hp, g, d, t, os⟩ "object.__setattr__" "object" "__setattr__" (.ref x) [.str name tk, v] [] _ SF.kind SF.split sub (SF.args (.ref x) (.str name tk) v) ?_)
  have hmr : W.Looks (model prog w) hp (mroOf (.ref C)) cd.mro := (W.looks_clsIn X hcd).andThen .now
  have L3 : W.Looks (model prog w) hp (storeTaker? none) none := .now
  have hcls : W.Looks (model prog w) hp (classData C) cd := W.looks_clsIn X hcd
  rw [W.osa_eq, refuse_eq]
  refine wpAny_bind (wpAny_bind (I.type.at (wpAny_bind (hmr.at ?_))))
  rw [refsX_pass _ _ hm]
  refine wpAny_pure (wpAny_bind (I.type.at (wpAny_bind ((W.looks_findIn X ha).at (wpAny_bind (L3.at ?_))))))
  show wpAny _ _ (storeInOwnDict (.ref x) (.ref C) (.str name tk) name v false) _ _ _
  obtain ⟨nm, bs, mro, ns, qn, hd, sn, sb, ab, col, del⟩ := cd
  dsimp only at hh
  subst hh
  unfold storeInOwnDict ownDictForStores
  repeat (first | with_reducible refine store_in_new ?_ ?_ | with_reducible refine wpAny_loadPart_at hx ?_ | with_reducible refine hcls.at ?_ | wp_step)
  · exact ⟨_, #[], _, (Heap.get?_update_ne _ _ _ _ hxs.symm).trans (Heap.get?_push_at rfl rfl), rfl, fun e he => absurd he (by simp), fun _ => rfl⟩
  · intro h' tk' hn' hs
    have hx₁ : (hp.push { cls := .type "dict", data := .dict #[] }).get? x = some { cls := .ref C, data := .fields fv } := Heap.get?_push_of_some _ hx
    refine hq h' tk' hp.objs.size (fun b o hb ho => ?_) (Nat.le_refl _) hxs.symm ?_ hn'
    · exact (hs.2 b (Nat.ne_of_lt (Heap.lt_size ho))).trans ((Heap.get?_update_ne _ _ _ _ hb).trans (Heap.get?_push_of_some _ ho))
    · exact (hs.2 x hxs).trans (Heap.get?_update_self _ hx₁ rfl)
end
/-! ### the text of __init__ -/
def iA (fl : Str) (p1 p2 : Pos) : Arguments := { posonlyargs := [], args := [{ arg := "self", annotation := none, pos := p1 }, { arg := fl, annotation := none, pos := p2 }], vararg := none, kwonlyargs := [], kw_defaults := [], kwarg := none, defaults := [] }
def iB (fl : Str) (q1 q2 q3 q4 : Pos) : List Stmt := [.Assign [.Attribute (.Name "self" q1) fl q2] (.Name fl q3) q4]
def iS (fl : Str) : Scope := { kind := .function, names := [(PySem.Str.ofString "self", .local), (fl, .local)], isGenerator := false, isCoroutine := false, more := [] }
/-- what the written part says of an error class at C, of the module's name x, whose __init__ at fI says self.fl = fl -/
structure ErrTxt (K : Frag) (mg : Str → Option Value) (x q fl : Str) (C fI : Addr) : Prop where
  gC : mg x = some (.ref C)
  cls : ∃ nm q N bs bm sn sub ab col dd k0 k1 k2 k3 k5, K.lookup C = some (excClassObj nm q C N bs bm true sn sub ab col dd k0 k1 k2 k3 k5 "Exception.__new__") ∧ refsX bm = true
  sa : findIn K (.ref C) "__setattr__" = some (some (.builtin "object.__setattr__"))
  ga : findIn K (.ref C) "__getattribute__" = some (some (.builtin "BaseException.__getattribute__"))
  gg : findIn K (.ref C) "__getattr__" = some none
  noN : findIn K (.ref C) fl = some none
  iC : findIn K (.ref C) "__init__" = some (some (.ref fI))
  tC : typeIn K (.ref fI) = some (.type "function")
  kC : keepIn K (.ref C) = true
  exC : subIn K (.ref C) (.type "BaseException") = some true
  tyC : typeIn K (.ref C) = some (.type "type")
  hdC : hasDictIn K C = true
  acl : findIn K (.ref C) "__class__" = some (some (.builtin "object.__class__"))
  mob : mroIn K C (.type "object") = some true
  fn : ∃ (oc : Value) (od : Option Addr) (kV doc pm : Value) (an : Option Addr) (cdv ct : Value) (osl : Array (Option Value)) (p1 p2 q1 q2 q3 q4 : Pos),
    K.lookup fI = some ⟨oc, od, .func (fnOf "__init__" q (iA fl p1 p2) (iB fl q1 q2 q3 q4) (iS fl) .none kV doc pm an cdv ct), osl⟩ ∧ codeIn K cdv q = true
/-- a field's name -/
structure FlOk (fl : Str) : Prop where
  nd : (fl == ("__debug__" : Str)) = false
  ns : (fl == ("self" : Str)) = false
theorem one_size (v : Value) : [v].length ≤ sizeLine := by
  rw [sizeLine_eq]
  exact (by decide : 1 ≤ 16777216)
theorem ldC {M : Model} {s : Shared} {name : Str} {scope : Scope} {L a : Addr} {cd : Value} {m : Str → Option Value} {x : Str} {pos : Pos} {v : Value} {Q : Value → Shared → Prop} {A : Around} {E : Value → Shared → Prop} (hn : s.heap.Ns L m) (hv : m x = some v) (h : Q v s)
    (hk : scope.kind = .function) (hl : (envOfC name scope L a cd).kindOf x = some .local) (hd : (x == ("__debug__" : Str)) = false) :
    wpAny M A (eval (.Name x pos) (envOfC name scope L a cd)) Q E s := wpAny_Name (wpAny_loadName_local hk hl hn hv h) hd
/-- what __init__ leaves of a fresh exception at x -/
structure InitEnd (fl : Str) (h h' : Heap) (x C dx t1 : Addr) (v : Value) : Prop where
  keep : ∀ b o, b ≠ x → h.get? b = some o → h'.get? b = some o
  obj : h'.get? x = some { cls := .ref C, dict := some dx, data := .fields #[.ref t1, .none, .none, .none, .bool false, .none] }
  dbig : h.objs.size ≤ dx
  dne : dx ≠ x
  ns : h'.Ns1 dx (fun y => if y = fl then some v else none)
structure Made (fl : Str) (h h' : Heap) (e C d : Addr) (v : Value) : Prop where
  keep : ∀ b o, h.get? b = some o → h'.get? b = some o
  new : h.objs.size ≤ e
  obj : ∃ oe vs, h'.get? e = some oe ∧ oe.cls = .ref C ∧ oe.dict = some d ∧ oe.data = .fields vs ∧ vs[1]? = some .none
  dbig : h.objs.size ≤ d
  dne : d ≠ e
  ns : h'.Ns1 d (fun y => if y = fl then some v else none)
section
variable {prog : Program} {w : World} {A : Around} {E : Value → Shared → Prop} {R : Result → Shared → Prop} {s : Shared} {K : Frag} {mg : Str → Option Value} {C fI : Addr} {nx q fl : Str}
theorem err_init (ok : fl = "thing" ∨ fl = "at") (T : ErrTxt K mg nx q fl C fI) {x t0 : Addr} {v : Value} (X : K.In s.heap) (hlim : s.heap.NoLimit) (hx : s.heap.get? x = some (excO C t0)) (hnx : K.lookup x = none) (hroom : A.depth < recursionLimit)
    (hq : ∀ h' tk dx, InitEnd fl s.heap h' x C dx t0 v → R (.ok (.ret .none)) { s with heap := h', toks := tk }) :
    codeAny (model prog w) A (.call (.ref fI) ⟨[.ref x, v], []⟩) R s := by
  obtain ⟨oc, od, kV, doc, pm, an, cdv, ct, osl, p1, p2, q1, q2, q3, q4, ho, hcd⟩ := T.fn
  obtain ⟨nm, qn, N, bs, bm, sn, sub, ab, col, dd, k0, k1, k2, k3, k5, hC, hbm⟩ := T.cls
  have hcl : clsIn K C = some { name := nm, bases := bs, mro := .ref C :: bm, ns := N, qualname := qn, hasDict := true, slotNames := sn, subclasses := sub, abstract := ab, collection := col, hasDel := false } := by unfold clsIn; rw [hC] <;> rfl
  have noN := T.noN
  rcases ok with rfl | rfl
  all_goals
    refine Att.call_fn (binds := [("self", .ref x), (_, v)]) X hlim ho hcd hroom (BindsTo.of_eq (by first | rfl | with_unfolding_all rfl)) (by first | rfl | decide | with_unfolding_all rfl) (fun s₁ IC => ?_) rfl rfl rfl
    obtain ⟨h₁, tk₁, rfl⟩ := IC.toInCall.same
    have k : ∀ b o, s.heap.get? b = some o → h₁.get? b = some o := IC.toInCall.keep
    have hn := IC.toInCall.ns
    have X₁ : K.In h₁ := X.keeps k
    have hx₁ := k _ _ hx
    show wpAny _ _ (execs _ _) _ _ _
    refine wpAny_execs_cons (plainObj_wpAny_Assign_Attribute ?_)
    refine ldC (v := v) hn (by first | rfl | with_unfolding_all rfl | kernel_rfl) (ldC (v := .ref x) hn (by first | rfl | with_unfolding_all rfl | kernel_rfl) ?_ rfl rfl (by decide)) rfl rfl (by decide)
    refine set_plain X₁ (ox := excO C t0) (od := none) ⟨hx₁, rfl, rfl, trivial⟩ T.sa ?_
    refine osa_first X₁ hx₁ hcl (show refsX (.ref C :: bm) = true from hbm) rfl noN (fun h₃ tk₃ dx k₃ dn dne hx₃ hn₃ => ?_)
    show wpAny _ _ (execs _ _) _ _ _
    have z : s.heap.objs.size < h₁.objs.size := hn.lt
    exact wpAny_execs_nil (hq h₃ tk₃ dx ⟨fun b o hb e => k₃ b o hb (k b o e), hx₃, Nat.le_of_lt (Nat.lt_of_lt_of_le z dn), dne, hn₃⟩)
theorem err_made (ok : fl = "thing" ∨ fl = "at") (T : ErrTxt K mg nx q fl C fI) {v : Value} (X : K.In s.heap) (hlim : s.heap.NoLimit) (hroom : A.depth + 1 < recursionLimit)
    (hq : ∀ h' tk e d, Made fl s.heap h' e C d v → R (.ok (.ret (.ref e))) { s with heap := h', toks := tk }) :
    codeAny (model prog w) A (.call (.ref C) ⟨[v], []⟩) R s := by
  obtain ⟨nm, qn, N, bs, bm, sn, sub, ab, col, dd, k0, k1, k2, k3, k5, hC, hbm⟩ := T.cls
  obtain ⟨hp, g, dr, tk, os⟩ := s
  have k : ∀ b o, hp.get? b = some o → ((hp.push (kdv_tup [v])).push (excO C hp.objs.size)).get? b = some o := fun b o e => Heap.get?_push_of_some _ (Heap.get?_push_of_some _ e)
  have hget : ((hp.push (kdv_tup [v])).push (excO C hp.objs.size)).get? (hp.objs.size + 1) = some (excO C hp.objs.size) := by heap_get
  have hnx : K.lookup (hp.objs.size + 1) = none := by
    cases e : K.lookup (hp.objs.size + 1) with
    | none => rfl
    | some o =>
      have z : hp.get? (hp.objs.size + 1) = some o := X _ _ e
      exact absurd (Nat.lt_of_succ_lt (Heap.lt_size z)) (Nat.lt_irrefl _)
  refine call_own F.excBase_Exception (fun X => refsX_contains X bm hbm) (X _ _ hC) (looks_findIn X T.iC) (fun self => bind_fn X self T.tC) (one_size v) ?_
  refine err_init (s := ⟨(hp.push (kdv_tup [v])).push (excO C hp.objs.size), g, dr, tk, os⟩) ok T (X.keeps k) (hlim.keeps k) hget hnx ?_ fun h' tk' dx ⟨k', hx, dn, dne, hns⟩ => ?_
  · show A.depth + 1 < recursionLimit
    exact hroom
  · have old : ∀ b o, hp.get? b = some o → h'.get? b = some o := fun b o e => k' b o (Nat.ne_of_lt (Nat.lt_succ_of_lt (Heap.lt_size e))) (k b o e)
    have z : hp.objs.size + 1 + 1 ≤ dx := by
      first
        | (simpa only [Heap.size_push] using dn)
        | exact dn
        | (have q := dn; rw [Heap.size_push, Heap.size_push] at q; exact q)
    exact ⟨rfl, hq h' tk' (hp.objs.size + 1) dx ⟨old, Nat.le_succ _, ⟨_, _, hx, rfl, rfl, rfl, rfl⟩, Nat.le_trans (Nat.le_trans (Nat.le_succ _) (Nat.le_succ _)) z, dne, hns⟩⟩
end
/-! ### isinstance of an error that has its dict -/
section
variable {prog : Program} {w : World} {A : Around} {E : Value → Shared → Prop} {s : Shared} {K : Frag} {x D : Addr} {ox : Obj} {od : Option Obj}
theorem findObj_dataD {C : Addr} {name : Str} {a g : Value} (hc : (clsIn K C).isSome = true) (ha : findIn K (.ref C) name = some (some a)) (hg : specialIn K a "__get__" = some (some g)) (ht : takesIn K a = some true) : findObj K C od name = some (.bind g a) := by
  obtain ⟨cd, hc⟩ := Option.isSome_iff_exists.mp hc
  unfold findObj
  rw [hc, Option.bind_some, ha, Option.bind_some]
  simp [hg, ht]
theorem kin_classD {Q : Option Value → Shared → Prop} (hga : findIn K (.ref D) "__getattribute__" = some (some (.builtin "BaseException.__getattribute__"))) (hgt : findIn K (.ref D) "__getattr__" = some none) (hsub : subIn K (.ref D) (.type "BaseException") = some true)
    (hdct : hasDictIn K D = true) (ha : findIn K (.ref D) "__class__" = some (some (.builtin "object.__class__")))
    (hn : specialIn K (.builtin "object.__class__") "__get__" = some (some (.builtin "getset_descriptor.__get__"))) (htk : takesIn K (.builtin "object.__class__") = some true) (hm : mroIn K D (.type "object") = some true)
    (X : K.In s.heap) (I : InstAt s.heap x ox D od) (h : Q (some (.ref D)) { s with toks := s.toks + 1 }) : wpAny (model prog w) A (getAttr? (.ref x) "__class__") Q E s := by
  have hf : findObj K D od "__class__" = some (.bind (.builtin "getset_descriptor.__get__") (.builtin "object.__class__")) := findObj_dataD (by obtain ⟨cd, hc, _⟩ := any_some hdct; rw [hc]; rfl) ha hn htk
  obtain ⟨hp, g, d, t, os⟩ := s
  have L0 := I.type (M := model prog w)
  have L1 := looks_findIn (M := model prog w) X hga
  have L2 := looks_findIn (M := model prog w) X hgt
  have L3 := looks_find (M := model prog w) X I hf
  have sub : Looks (model prog w) hp (isInstance (.ref x) (.type "BaseException")) true := L0.andThen (looks_subIn X hsub)
  have hx0 : (false && onTheHeap (Value.builtin "BaseException.__getattribute__")) = false := rfl
  have hx2 : (Value.builtin "BaseException.__getattribute__" == Value.builtin "object.__getattribute__") = false := by decide +kernel
  have hx1 : (onTheHeap (Value.ref D) && Value.builtin "BaseException.__getattribute__" == Value.builtin "object.__getattribute__") = false := by rw [hx2]; rfl
  unfold getAttr? getAttrBy? getAttrBy
  refine wpAny_bind (wpAny_mkText (wpAny_bind (wpAny_attempt (wpAny_holding (wpAny_bind (L0.at (wpAny_bind (L1.at ?_))))))))
  show wpAny _ _ (if (onTheHeap (Value.ref D) && Value.builtin "BaseException.__getattribute__" == Value.builtin "object.__getattribute__") = true then _ else _) _ _ _
  rw [hx1, if_neg Bool.false_ne_true]
  unfold getAttrByItsOwn hookBefore
  refine wpAny_bind ?_
  rw [if_pos (show onTheHeap (Value.ref D) = true from rfl)]
  refine L2.at ?_
  refine wpAny_bind (wpAny_attempt (wpAny_holding ?_))
  unfold callGetattribute
  rw [hx0, if_neg Bool.false_ne_true]
  unfold boundAndCalled
  rw [PySem.F.excAttr_ValueError.ga.bind (.ref x)]
  refine wpAny_bind (wpAny_pure ?_)
  show wpAny _ _ (call (.builtin "BaseException.__getattribute__") [.ref x, .str "__class__" t]) _ _ _
  refine wpAny_call (codeAny_call_builtin PySem.F.excAttr_ValueError.ga.plain PySem.F.entry_bexc_ga ?_)
  refine @check_slot (model prog w) _ _ ⟨hp, g, d, t + 1, os⟩ "BaseException.__getattribute__" "BaseException" "__getattribute__" (.ref x) [.str "__class__" t] [] _ (by decide +kernel) (by decide +kernel) sub (PySem.F.args_bexc_ga (.ref x) (.str "__class__" t)) ?_
  unfold Builtin.«object.__getattribute__»
  refine wpAny_bind (wpAny_of_eq (a := ((Value.ref x : Value), [Value.str "__class__" t])) (by first | rfl | (simp only [slotArgs]; rfl)) ?_)
  refine wpAny_bind (wpAny_pure (wpAny_bind (L0.at (wpAny_bind (L3.at ?_)))))
  show wpAny _ _ (holding [Value.builtin "object.__class__"] (call (.builtin "getset_descriptor.__get__") [.builtin "object.__class__", .ref x, .ref D]) >>= ret) _ _ _
  refine wpAny_bind (wpAny_holding (wpAny_call (class_get (s := ⟨hp, g, d, t + 1, os⟩) (ox := ox) (od := od) X I hm ?_)))
  refine wpAny_pure ?_
  show wpAny _ _ (handedOut (.ref D)) _ _ _
  rw [handedOut_of (v := .ref D) rfl]
  first
    | exact wpAny_pure (wpAny_pure h)
    | exact wpAny_pure h
    | exact wpAny_pure (wpAny_bind (wpAny_pure (wpAny_pure h)))
theorem kitx_excD (hga : findIn K (.ref D) "__getattribute__" = some (some (.builtin "BaseException.__getattribute__"))) (hgt : findIn K (.ref D) "__getattr__" = some none) (hsub : subIn K (.ref D) (.type "BaseException") = some true) (hdct : hasDictIn K D = true) (ha : findIn K (.ref D) "__class__" = some (some (.builtin "object.__class__")))
    (hn : specialIn K (.builtin "object.__class__") "__get__" = some (some (.builtin "getset_descriptor.__get__"))) (htk : takesIn K (.builtin "object.__class__") = some true) (hm : mroIn K D (.type "object") = some true) :
    KitX K (.ref x) (.ref D) (fun h => ∃ od, InstAt h x ox D od) where
  ty := fun _ _ _ ⟨_, I⟩ => I.type
  it := fun _ _ X _ => by
    obtain ⟨cdD, hcD, _⟩ := any_some hdct
    unfold clsIn at hcD
    split at hcD
    · rename_i c' d' cd' sl' ho
      intro A' Q' E' s' k q
      unfold isType loadHead
      exact wpAny_bind (wpAny_loadPart (k _ _ (X _ _ ho)) (wpAny_pure q))
    · cases hcD
  ne := fun h tp dd its n sl X htp => by
    obtain ⟨cdD, hcD, _⟩ := any_some hdct
    refine Bool.eq_false_iff.mpr fun q => ?_
    have e : D = tp := Value.ref.inj (beq_iff_eq.mp q)
    subst e
    unfold clsIn at hcD
    split at hcD
    · rename_i c' d' cd' sl' ho
      have z := (X _ _ ho).symm.trans htp
      cases z
    · cases hcD
  ca := fun X I k => by
    obtain ⟨od, I⟩ := I
    exact kin_classD hga hgt hsub hdct ha hn htk hm X I k
end
end EyX
end PySem

set_option Elab.async false
set_option linter.all false
set_option maxHeartbeats 4000000
/-! D-layer, part 4: defs and their calls. -/
namespace DL
open PySem PySem.Spec PyProof.Rows L2

abbrev SpD := List D → Mem → RK → XD → Prop
def liftSp (K : PySem.W.Frag) (mg : Str → Option Value) (sp : SpD) : Sp := fun vs H Q E => ∃ z M ds R XR, MAbs ⟨K, z⟩ M H ∧ Reps ⟨K, z⟩ M H vs ds ∧ sp ds M R XR ∧ Fin ⟨K, z⟩ M H R Q ∧ FinX ⟨K, z⟩ M H XR fun x dd H' => ∀ C, mg x = some (.ref C) → E (.ref C) (some dd) H'

/-- as FnOk, where no repr is under way -/
structure FnG (P : Program) (w : World) (K : PySem.W.Frag) (mg : Str → Option Value) (base : Heap) (CX : CXT) (k : Nat) (f : Addr) (fd : FuncData) (ps : List Str) (sp : Sp) : Prop where
  len : ∀ vs H Q E, sp vs H Q E → vs.length = ps.length
  run : ∀ (A : Around) (outer : List Env) (s : Shared) (H : Hp) (args : Args) (us : List Value) (vs : List V) (Q : VK) (E : XK), Room k A → A.guards = some [] → Env0 P w K mg base A outer s H →
    BindsTo s fd args (ps.zip us) → Vals vs us → sp vs H Q E → codeAny (model P w) A (.call (.ref f) args) (CR CX outer P w H s Q E) s
section
variable {P : Program} {w : World} {K : PySem.W.Frag} {mg : Str → Option Value} {base : Heap}
theorem FnG.imp {CX : CXT} {k : Nat} {f : Addr} {fd : FuncData} {ps : List Str} {sp sp' : Sp} (F : FnG P w K mg base CX k f fd ps sp) (h : ∀ vs H Q E, sp' vs H Q E → sp vs H Q E) : FnG P w K mg base CX k f fd ps sp' :=
  ⟨fun vs H Q E q => F.len vs H Q E (h _ _ _ _ q), fun A outer s H args us vs Q E hr hG he hb hv hs => F.run A outer s H args us vs Q E hr hG he hb hv (h _ _ _ _ hs)⟩
theorem FnG.mono {CX : CXT} {j k : Nat} {f : Addr} {fd : FuncData} {ps : List Str} {sp : Sp} (F : FnG P w K mg base CX j f fd ps sp) (h : j ≤ k) : FnG P w K mg base CX k f fd ps sp :=
  ⟨F.len, fun A outer s H args us vs Q E hr => F.run A outer s H args us vs Q E (hr.mono h)⟩
/-- a def that lets nothing out, whatever one asks of exceptions -/
theorem FnG.any {CX : CXT} {k : Nat} {f : Addr} {fd : FuncData} {ps : List Str} {sp : Sp} (F : FnG P w K mg base CX0 k f fd ps sp) : FnG P w K mg base CX k f fd ps sp :=
  ⟨F.len, fun A outer s H args us vs Q E hr hG he hb hv hs => codeAny_mono (F.run A outer s H args us vs Q E hr hG he hb hv hs) fun r s' hq => by
    cases r with
    | error e => exact hq.elim
    | ok fl => cases fl <;> exact hq⟩
/-- the rule for a def by its body -/
theorem fnG_of {CX : CXT} {k : Nat} {f : Addr} {x : Str} {st : Stmt} {fd : FuncData} {N ps : List Str} {sp : Sp} (F : Fun K x x st f fd) (S : FnScope N ps (defScope st)) (len : ∀ vs H Q E, sp vs H Q E → vs.length = ps.length)
    (hbody : ∀ (cdv : Value) (A : Around) (outer : List Env) (s : Shared) (H : Hp) (vs : List V) (Q : VK) (E : XK), Room k (A.deeper (envOfC x (defScope st) s.heap.objs.size f cdv)) → A.guards = some [] → sp vs H Q E →
      ∃ t, PSs (cxOf CX P w K mg base N x (defScope st) f cdv A outer s H E) (defBody st) t ∧ t { nx := fun _ H' => Q .non H', rt := Q } (start N vs) H) : FnG P w K mg base CX (k + 1) f fd ps sp := by
  obtain ⟨oc, od, kV, doc, pm, an, cdv, ct, osl, rfl, lk, hcd⟩ := F.ex
  refine ⟨len, fun A outer s H args us vs Q E hr hG e0 hb r hsp => ?_⟩
  have hl := len _ _ _ _ hsp
  have KX : K.In s.heap := e0.mod.kin.keeps fun b o e => (e0.bs b o e).1
  have lim : s.heap.NoLimit := e0.mod.nolimit.keeps fun b o e => (e0.bs b o e).1
  refine codeAny_call_function hr.depth (KX _ _ lk) rfl S.co S.gen rfl (PySem.W.codeRec_of KX hcd) (hb _ _ _ _ ?_)
  refine wpAny_newFunctionEnv_cells S.kind (fun ⟨n, v⟩ hy => ?_) fun env he s1 x => ?_
  · rcases S.par n (List.of_mem_zip hy).1 with q | q
    · exact .inl q
    · exact .inr ⟨q, PySem.W.cellsFrom_some _ _ _ (.inl q)⟩
  subst he
  refine ⟨lim.keeps x.toInCall.keep, codeAny_func ?_⟩
  obtain ⟨t, ht, hq⟩ := hbody cdv A outer s H vs Q E (hr.deeper _) hG hsp
  refine wpAny_mono (ht.run [] s1 (start N vs) H _ (inv_start S hr.hd e0 hl r x) hq) (fun fl s' hs => ?_) fun e s' hs => hs
  cases fl with
  | ret u =>
    obtain ⟨v, σ', H', J, rv, q⟩ := hs
    exact ⟨v, H', J.os, J.bare, J.base, J.hok, rv, q⟩
  | next =>
    obtain ⟨σ', H', J, q⟩ := hs
    exact ⟨V.non, H', J.os, J.bare, J.base, J.hok, rfl, q⟩
  | brk => exact hs.elim fun _ h => h.elim fun _ h => h.2.elim
  | cont => exact hs.elim fun _ h => h.elim fun _ h => h.2.elim
end

/-- some of a list's items by their places -/
def pick {α : Type} : List Nat → List α → List α
  | [], _ => []
  | i :: is, xs => match xs[i]? with
    | some x => x :: pick is xs
    | none => pick is xs
def AtBoth {α β : Type} (F : α → β → Prop) (xs : List α) (ys : List β) : Prop := ∀ i : Nat, match xs[i]?, ys[i]? with | some x, some y => F x y | none, none => True | _, _ => False
theorem pick_paired {α β : Type} {F : α → β → Prop} {xs : List α} {ys : List β} (h : AtBoth F xs ys) : ∀ is : List Nat, Paired F (pick is xs) (pick is ys)
  | [] => .nil
  | i :: is => by
    have hi := h i
    unfold pick
    revert hi
    cases xs[i]? <;> cases ys[i]? <;> intro hi
    · exact pick_paired h is
    · exact hi.elim
    · exact hi.elim
    · exact .cons hi (pick_paired h is)
theorem vals_at : ∀ {vs : List V} {us : List Value}, Vals vs us → AtBoth RelV vs us
  | _, _, .nil, i => by simp
  | _, _, .cons r t, 0 => by simpa using r
  | _, _, .cons r t, i + 1 => by simpa using vals_at t i
theorem reps_at {K : KZ} {M : Mem} {H : Hp} : ∀ {vs : List V} {ds : List D}, Reps K M H vs ds → AtBoth (Rep K M H) vs ds
  | _, _, .nil, i => by simp
  | _, _, .cons r t, 0 => by simpa using r
  | _, _, .cons r t, i + 1 => by simpa using reps_at t i
theorem reps_of_paired {K : KZ} {M : Mem} {H : Hp} : ∀ {vs : List V} {ds : List D}, Paired (Rep K M H) vs ds → Reps K M H vs ds
  | _, _, .nil => .nil
  | _, _, .cons r t => .cons r (reps_of_paired t)

/-- the def that stands at the module's name x keeps the promise sp, by at most k calls deep -/
structure Has (P : Program) (w : World) (K : PySem.W.Frag) (mg : Str → Option Value) (base : Heap) (CX : CXT) (x : Str) (st : Stmt) (ps : List Str) (k : Nat) (sp : SpD) : Prop where
  ex : ∃ (f : Addr) (fd : FuncData), mg x = some (.ref f) ∧ Fun K x x st f fd ∧ FnG P w K mg base CX k f fd ps (liftSp K mg sp)
section
variable {P : Program} {w : World} {K : PySem.W.Frag} {mg : Str → Option Value} {base : Heap} {CX : CXT} {x : Str} {st : Stmt} {ps : List Str} {j k : Nat} {sp sp' : SpD}
theorem Has.mono (h : Has P w K mg base CX x st ps j sp) (l : j ≤ k) : Has P w K mg base CX x st ps k sp := let ⟨f, fd, a, b, c⟩ := h.ex; ⟨f, fd, a, b, c.mono l⟩
theorem Has.any (h : Has P w K mg base CX0 x st ps k sp) : Has P w K mg base CX x st ps k sp := let ⟨f, fd, a, b, c⟩ := h.ex; ⟨f, fd, a, b, c.any⟩
theorem Has.imp (h : Has P w K mg base CX x st ps k sp) (l : ∀ ds M R XR, sp' ds M R XR → sp ds M R XR) : Has P w K mg base CX x st ps k sp' :=
  let ⟨f, fd, a, b, c⟩ := h.ex
  ⟨f, fd, a, b, c.imp fun vs H Q E ⟨z, M, ds, R, XR, q1, q2, q3, q4⟩ => ⟨z, M, ds, R, XR, q1, q2, l _ _ _ _ q3, q4⟩⟩
end

section
variable {X : Cx} {CX : CXT} {k n : Nat} {f : Addr} {fd : FuncData} {ps ks : List Str} {sp : SpD} {E : XK} {x : Str} {st : Stmt} {p pos : Pos} {e : Expr} {es : List Expr} {kws : List Keyword} {t tk : DA}
theorem run_fnG {pins : List (Addr × Obj)} {σ : L2.St} {H : Hp} {s : Shared} {Q : VK} {args : Args} {us : List Value} {vs : List V} {sp : Sp} (F : FnG X.prog X.w X.K X.mg X.base CX0 k f fd ps sp) (hr : Room k X.A) (hG : X.A.guards = some []) (hb : BindsTo s fd args (ps.zip us))
    (I : Inv X pins σ H s) (r : Vals vs us) (h : sp vs H Q (fun _ _ _ => False)) : codeAny (model X.prog X.w) X.A (.call (.ref f) args) (fun r s' => match r with | .ok (.ret u) => EP X pins σ Q u s' | _ => False) s := by
  refine codeAny_mono (F.run X.A X.stack s H args us vs Q _ hr hG I.env0 hb r h) fun r s' hq => ?_
  cases r with
  | error e => exact hq.elim
  | ok fl =>
    cases fl with
    | ret u => exact I.after hq
    | next => exact hq.elim
    | brk => exact hq.elim
    | cont => exact hq.elim
/-- f(..): what is asked -/
def dCall (sp : SpD) (t : DA) : DE := fun ρ M R => t ρ M fun ds M1 => sp ds M1 R noX
theorem lift_call {σ : L2.St} {H : Hp} {Q : VK} (h : liftE X.K (dCall sp t) σ H Q) : liftA X.K t σ H fun vs H1 => liftSp X.K X.mg sp vs H1 Q (fun _ _ _ => False) := by
  obtain ⟨z, ρ, M, R, S, A, q, F⟩ := h
  exact ⟨z, ρ, M, _, S, A, q, fun ds M1 vs H1 q1 r1 A1 f1 => ⟨z, M1, ds, R, noX, A1, r1, q1, F.fr f1, .no⟩⟩
/-- how positional arguments bind -/
def PosB (x : Str) (st : Stmt) (ps : List Str) : Prop := ∀ (kV doc pm : Value) (an : Option Addr) (cdv ct : Value) (us : List Value), us.length = ps.length → bindArgs (PySem.W.fnOf x x (defArgs st) (defBody st) (defScope st) .none kV doc pm an cdv ct) ⟨us, []⟩ = pure (ps.zip us)
theorem de_call (F : Has X.prog X.w X.K X.mg X.base CX0 x st ps k sp) (hr : Room k X.A) (hG : X.A.guards = some []) (hb : PosB x st ps) (ha : PAD X (e :: es) t) (hg : Gl X x := by rfl)
    (hdb : (x == ("__debug__" : Str)) = false := by decide) (he : starEach (e :: es) X.env = (false, eval e X.env) :: starEach es X.env := by rfl) (hpl : (backTo pos (starEach es X.env)).any (·.1) = false := by rfl) :
    PED X (.Call (.Name x p) (e :: es) [] pos) (dCall sp t) := by
  obtain ⟨f, fd, hm, Fn, G⟩ := F.ex
  refine ⟨fun pins s σ H Q I h => ?_⟩
  refine wpAny_Call_Name_kw (ld_glob I hg hm ?_ hdb)
  refine PySem.W.callWith_K (h₀ := X.base) I.ok.mod.kin Fn.kp (thn (ha.run pos pins s σ H _ I (lift_call h)) fun us s1 ⟨vs, H1, I1, r, q⟩ => ⟨I1.kIn, ?_⟩) he hpl
  have hl : us.length = ps.length := by rw [← r.length]; exact G.len _ _ _ _ q
  refine wpAny_call (codeAny_mono (run_fnG (args := ⟨us, []⟩) G hr hG ?_ I1 r q) fun r s' hq => ?_)
  · obtain ⟨oc, od, kV, doc, pm, an, cdv, ct, osl, rfl, _⟩ := Fn.ex
    exact .of_eq (hb _ _ _ _ _ _ _ hl)
  · cases r with
    | error e => exact hq.elim
    | ok fl => cases fl <;> exact hq
/-- f() -/
theorem de_call0 (F : Has X.prog X.w X.K X.mg X.base CX0 x st [] k sp) (hr : Room k X.A) (hG : X.A.guards = some []) (hb : PosB x st []) (hg : Gl X x := by rfl) (hdb : (x == ("__debug__" : Str)) = false := by decide) :
    PED X (.Call (.Name x p) [] [] pos) (dCall sp dNil) := by
  obtain ⟨f, fd, hm, Fn, G⟩ := F.ex
  refine ⟨fun pins s σ H Q I h => ?_⟩
  refine wpAny_Call_Name_kw (ld_glob I hg hm ?_ hdb)
  obtain ⟨z, ρ, M, R, S, A, q, F⟩ := h
  refine PySem.W.callWith_K0 I.kIn Fn.kp (wpAny_call (codeAny_mono (run_fnG (args := ⟨[], []⟩) (us := []) G hr hG ?_ I .nil (Q := Q) ⟨z, M, [], R, noX, A, .nil, q, F, .no⟩) fun r s' hq => ?_))
  · obtain ⟨oc, od, kV, doc, pm, an, cdv, ct, osl, rfl, _⟩ := Fn.ex
    exact .of_eq (hb _ _ _ _ _ _ _ rfl)
  · cases r with
    | error e => exact hq.elim
    | ok fl => cases fl <;> exact hq
/-- how n positional arguments and keywords bind: the parameters are the places is of both -/
def KwB (x : Str) (st : Stmt) (ps : List Str) (n : Nat) (ks : List Str) (is : List Nat) : Prop := ∀ (kV doc pm : Value) (an : Option Addr) (cdv ct : Value) (us ws : List Value), us.length = n → ws.length = ks.length →
  bindArgs (PySem.W.fnOf x x (defArgs st) (defBody st) (defScope st) .none kV doc pm an cdv ct) ⟨us, ks.zip ws⟩ = pure (ps.zip (pick is (us ++ ws)))
def dCallK (sp : SpD) (n m : Nat) (is : List Nat) (t tk : DA) : DE := fun ρ M R => t ρ M fun ds M1 => tk ρ M1 fun es M2 => ds.length = n ∧ es.length = m ∧ sp (pick is (ds ++ es)) M2 R noX
/-- f(k = v, ..) -/
theorem de_callK0 {is : List Nat} (F : Has X.prog X.w X.K X.mg X.base CX0 x st ps k sp) (hr : Room k X.A) (hG : X.A.guards = some []) (hb : KwB x st ps 0 ks is) (hkw : PKD X kws tk) (hg : Gl X x := by rfl)
    (hall : (backToKw pos (keywordEach kws X.env)).all (·.1.isSome) = true := by rfl) (hks : (backToKw pos (keywordEach kws X.env)).filterMap (·.1) = ks := by rfl) (hdb : (x == ("__debug__" : Str)) = false := by decide)
    (hpl : ((backTo pos (starEach [] X.env)).any (·.1) || (backToKw pos (keywordEach kws X.env)).any (·.1.isNone)) = false := by rfl) : PED X (.Call (.Name x p) [] kws pos) (dCallK sp 0 ks.length is dNil tk) := by
  obtain ⟨f, fd, hm, Fn, G⟩ := F.ex
  refine ⟨fun pins s σ H Q I h => ?_⟩
  obtain ⟨z, ρ, M, R, S, A, q, F⟩ := h
  refine wpAny_Call_Name_kw (ld_glob I hg hm ?_ hdb)
  refine PySem.W.callWith_KW0 (h₀ := X.base) I.ok.mod.kin Fn.kp hall (thn (hkw.run pos pins s σ H (fun zs H1 => zs.length = ks.length ∧ liftSp X.K X.mg sp (pick is zs) H1 Q (fun _ _ _ => False)) I
    ⟨z, ρ, M, _, S, A, q, fun es M1 zs H1 q1 r1 A1 f1 => ⟨r1.length.trans q1.2.1, z, M1, _, R, noX, A1, reps_of_paired (pick_paired (reps_at r1) is), q1.2.2, F.fr f1, .no⟩⟩) fun ws s1 ⟨zs, H1, I1, rz, hl, q1⟩ => ⟨I1.kIn, ?_⟩) hpl
  rw [hks]
  refine wpAny_call (codeAny_mono (run_fnG (args := ⟨[] ++ [], ks.zip ws⟩) (us := pick is ws) G hr hG ?_ I1 (pick_paired (vals_at rz) is) q1) fun r s' hq => ?_)
  · obtain ⟨oc, od, kV, doc, pm, an, cdv, ct, osl, rfl, _⟩ := Fn.ex
    exact .of_eq (hb _ _ _ _ _ _ [] ws rfl (rz.length.symm.trans hl))
  · cases r with
    | error e => exact hq.elim
    | ok fl => cases fl <;> exact hq
end

/-! ### a def's body -/
section
variable {P : Program} {w : World} {K : PySem.W.Frag} {mg : Str → Option Value} {base : Heap}
/-- what is wanted at a body's end: the value seen otherwise, if one likes -/
def endsOf (K : PySem.W.Frag) (R : RK) : EndsD where
  nx := fun _ M => R .non M ∨ ∃ d' M', View K M .non M' d' ∧ R d' M'
  rt := fun d M => R d M ∨ ∃ d' M', View K M d M' d' ∧ R d' M'
theorem Fin.ends {z : Addr → Prop} {M : Mem} {H : Hp} {R : RK} {Q : VK} (F : Fin ⟨K, z⟩ M H R Q) : Fin ⟨K, z⟩ M H (endsOf K R).rt Q := fun d M1 v H1 q r1 A1 f1 => by
  rcases q with q | ⟨d', M2, w, q⟩
  · exact F d M1 v H1 q r1 A1 f1
  · obtain ⟨A2, r2, n⟩ := w z H1 v A1 r1
    exact F d' M2 v H1 q r2 A2 (f1.trans (View.fr n))
def startD (n : Nat) (ds : List D) : DEnv := ds.map some ++ List.replicate n none
/-- a def that raises nothing: its body's reading t, at the promise -/
theorem has_of {x : Str} {st : Stmt} {f : Addr} {fd : FuncData} {N ps : List Str} {k : Nat} {sp : SpD} {t : DS} (hm : mg x = some (.ref f)) (F : Fun K x x st f fd) (S : FnScope N ps (defScope st))
    (len : ∀ ds M R XR, sp ds M R XR → ds.length = ps.length)
    (hb : ∀ (cdv : Value) (A : Around) (outer : List Env) (s : Shared) (H : Hp) (E : XK), Room k (A.deeper (envOfC x (defScope st) s.heap.objs.size f cdv)) → A.guards = some [] →
      PBD (cxOf CX0 P w K mg base N x (defScope st) f cdv A outer s H E).nox (defBody st) t)
    (rd : ∀ ds M R XR, sp ds M R XR → t (endsOf K R) (startD (N.length - ps.length) ds) M) : Has P w K mg base CX0 x st ps (k + 1) sp := by
  have hlen : ∀ vs H Q E, liftSp K mg sp vs H Q E → vs.length = ps.length := fun vs H Q E ⟨z, M, ds, R, XR, A, r, q, _⟩ => r.length.trans (len _ _ _ _ q)
  refine ⟨f, fd, hm, F, fnG_of F S hlen fun cdv A outer s H vs Q E hr hG h => ?_⟩
  obtain ⟨z, M, ds, R, XR, A', r, q, FF, _⟩ := h
  refine ⟨_, (hb cdv A outer s H E hr hG).nox, z, startD (N.length - ps.length) ds, M, endsOf K R, ?_, A', rd _ _ _ _ q, ⟨?_, FF.ends, fun _ _ _ _ z => z.elim, fun _ _ _ _ z => z.elim, fun _ _ _ _ _ _ _ _ _ z => z.elim⟩⟩
  · have e : vs.length = ps.length := r.length.trans (len _ _ _ _ q)
    unfold L2.start startD
    rw [e]
    exact SAbs.start r _
  · intro ρ M1 σ1 H1 q1 S1 A1 f1
    exact FF.ends .non M1 .non H1 q1 .non A1 f1
end
end DL

set_option Elab.async false
set_option linter.all false
set_option maxHeartbeats 4000000
/-! D-layer, part 5: statements, loops, list comprehensions. -/
namespace DL
open PySem PySem.Spec PyProof.Rows L2

section
variable {X : Cx} {a b c e : Expr} {ta tb te : DE} {tt : DT} {pos : Pos} {st : Stmt} {rest body orelse : List Stmt} {t u : DS}
/-! ### small statements -/
def dNext : DS := fun D ρ M => D.nx ρ M
def dSeq (t u : DS) : DS := fun D ρ M => t { D with nx := fun ρ M => u D ρ M } ρ M
def dDrop (te : DE) : DS := fun D ρ M => te ρ M fun _ M1 => D.nx ρ M1
def dRet (te : DE) : DS := fun D ρ M => te ρ M D.rt
def dRetN : DS := fun D _ M => D.rt .non M
def dIfS (c : DT) (t u : DS) : DS := fun D ρ M => c ρ M fun k M1 => if k = true then t D ρ M1 else u D ρ M1
def dBreak : DS := fun D ρ M => D.bk ρ M
def dCont : DS := fun D ρ M => D.ct ρ M
def dNever : DS := fun _ _ _ => False
def dSet (i : Nat) (te : DE) : DS := fun D ρ M => te ρ M fun d M1 => D.nx (put ρ i d) M1
theorem lift_next {D : Ends} {σ : L2.St} {H : Hp} (h : liftS X.K (Wn X) dNext D σ H) : tNext D σ H := by
  obtain ⟨z, ρ, M, D0, S, A, q, L⟩ := h
  exact L.nx ρ M σ H q S A Frame.refl
theorem db_nil : PBD X [] dNext := pss_nil.weak fun _ _ _ => lift_next
theorem ds_pass : PSD X (.Pass pos) dNext := ps_pass.weak fun _ _ _ => lift_next
theorem db_cons (h1 : PSD X st t) (h2 : PBD X rest u) : PBD X (st :: rest) (dSeq t u) :=
  (pss_cons h1 h2).weak fun D σ H ⟨z, ρ, M, D0, S, A, q, L⟩ => ⟨z, ρ, M, _, S, A, q, ⟨fun ρ1 M1 σ1 H1 q1 S1 A1 f1 => ⟨z, ρ1, M1, D0, S1, A1, q1, L.fr f1⟩, L.rt, L.bk, L.ct, L.xr⟩⟩
theorem db_one (h1 : PSD X st t) : PBD X [st] t := pss_one h1
theorem ds_expr (he : PED X e te) (hs : swapsWith e none pos.line X.env = pure false := by rfl) : PSD X (.Expr e pos) (dDrop te) :=
  (ps_expr he hs).weak fun D σ H ⟨z, ρ, M, D0, S, A, q, L⟩ => ⟨z, ρ, M, _, S, A, q, fun d M1 v H1 q1 r1 A1 f1 => L.nx ρ M1 σ H1 q1 (S.fr f1) A1 f1⟩
theorem ds_ret (he : PED X e te) : PSD X (.Return (some e) pos) (dRet te) :=
  (ps_ret he).weak fun D σ H ⟨z, ρ, M, D0, S, A, q, L⟩ => ⟨z, ρ, M, _, S, A, q, L.rt⟩
theorem ds_retN : PSD X (.Return none pos) dRetN := ps_retN.weak fun D σ H ⟨z, ρ, M, D0, S, A, q, L⟩ => L.rt .non M .non H q .non A Frame.refl
theorem ds_if (hc : PTD X c tt) (ha : PBD X body t) (hb : PBD X orelse u) : PSD X (.If c body orelse pos) (dIfS tt t u) :=
  (ps_if hc ha hb).weak fun D σ H ⟨z, ρ, M, D0, S, A, q, L⟩ => ⟨z, ρ, M, _, S, A, q, fun k M1 H1 q1 A1 f1 => by
    cases k with
    | true => rw [if_pos rfl] at q1 ⊢; exact ⟨z, ρ, M1, D0, S.fr f1, A1, q1, L.fr f1⟩
    | false => rw [if_neg Bool.false_ne_true] at q1 ⊢; exact ⟨z, ρ, M1, D0, S.fr f1, A1, q1, L.fr f1⟩⟩
theorem ds_break : PSD X (.Break pos) dBreak := ps_break.weak fun D σ H ⟨z, ρ, M, D0, S, A, q, L⟩ => L.bk ρ M σ H q S A Frame.refl
theorem ds_cont : PSD X (.Continue pos) dCont := ps_continue.weak fun D σ H ⟨z, ρ, M, D0, S, A, q, L⟩ => L.ct ρ M σ H q S A Frame.refl
theorem ds_never : PSD X st dNever := ps_never.weak fun D σ H ⟨z, ρ, M, D0, S, A, q, L⟩ => q.elim
theorem ds_set (i : Nat) {x : Str} {pos' : Pos} (hN : X.N.Nodup) (he : PED X e te) (hi : X.N[i]? = some x := by rfl) (hx : Loc X.env.scope x := by first | exact Or.inl rfl | exact Or.inr rfl) (hs : swapsWith e (some (.Name x pos')) pos.line X.env = pure false := by rfl)
    (hf : X.fn x = true ∨ X.env.scope.names.lookup x = some .local := by first | exact .inl rfl | exact .inr rfl) : PSD X (.Assign [.Name x pos'] e pos) (dSet i te) :=
  (ps_set hN hi hx he hs hf).weak fun D σ H ⟨z, ρ, M, D0, S, A, q, L⟩ => ⟨z, ρ, M, _, S, A, q, fun d M1 v H1 q1 r1 A1 f1 => L.nx _ M1 _ H1 q1 ((S.fr f1).put i r1) A1 f1⟩

/-! ### targets -/
abbrev DG := D → DEnv → (DEnv → Prop) → Prop
abbrev DGs := List D → DEnv → (DEnv → Prop) → Prop
def liftG (K : PySem.W.Frag) (vs : List Nat) (g : DG) : TG := fun v σ H Q => ∃ z ρ M d P, SAbs ⟨K, z⟩ M H ρ σ ∧ MAbs ⟨K, z⟩ M H ∧ Rep ⟨K, z⟩ M H v d ∧ g d ρ P ∧ ∀ ρ' σ', P ρ' → SAbs ⟨K, z⟩ M H ρ' σ' → wipe σ' vs = wipe σ vs → Q σ' H
def liftGs (K : PySem.W.Frag) (vs : List Nat) (g : DGs) : TGs := fun us σ H Q => ∃ z ρ M ds P, SAbs ⟨K, z⟩ M H ρ σ ∧ MAbs ⟨K, z⟩ M H ∧ Reps ⟨K, z⟩ M H us ds ∧ g ds ρ P ∧ ∀ ρ' σ', P ρ' → SAbs ⟨K, z⟩ M H ρ' σ' → wipe σ' vs = wipe σ vs → Q σ' H
theorem _root_.L2.PG.weak {tg : Expr} {g g' : TG} (h : PG X tg g) (w : ∀ v σ H Q, g' v σ H Q → g v σ H Q) : PG X tg g' := ⟨fun pins s σ H v u Q I r q => h.run pins s σ H v u Q I r (w _ _ _ _ q)⟩
theorem _root_.L2.PGs.weak {tg : List Expr} {g g' : TGs} (h : PGs X tg g) (w : ∀ v σ H Q, g' v σ H Q → g v σ H Q) : PGs X tg g' := ⟨fun pins s σ H v u Q I r q => h.run pins s σ H v u Q I r (w _ _ _ _ q)⟩
abbrev PGD (X : Cx) (vs : List Nat) (tg : Expr) (g : DG) : Prop := PG X tg (liftG X.K vs g)
abbrev PGsD (X : Cx) (vs : List Nat) (tg : List Expr) (g : DGs) : Prop := PGs X tg (liftGs X.K vs g)
theorem wipe_set {σ : L2.St} {x : Option V} : ∀ {vs : List Nat} {i : Nat}, i ∈ vs → wipe (σ.set i x) vs = wipe σ vs
  | [], _, h => by cases h
  | v :: vs, i, h => by
    unfold L2.wipe
    by_cases e : i = v
    · subst e
      have : ∀ (vs : List Nat) (σ : L2.St), (wipe (σ.set i x) vs).set i none = (wipe σ vs).set i none := fun vs => by
        induction vs with
        | nil => intro σ; exact List.set_set ..
        | cons w ws ih =>
          intro σ
          unfold L2.wipe
          by_cases e : i = w
          · subst e; rw [List.set_set, List.set_set, ih]
          · rw [List.set_comm _ _ (Ne.symm e), ih, List.set_comm _ _ e]
      exact this vs σ
    · rcases List.mem_cons.mp h with h | h
      · exact absurd h e
      · rw [wipe_set h]
theorem wipe_wipe {σ : L2.St} : ∀ {vs ws : List Nat}, (∀ i ∈ ws, i ∈ vs) → wipe (wipe σ ws) vs = wipe σ vs
  | _, [], _ => rfl
  | vs, w :: ws, h => by
    rw [show wipe σ (w :: ws) = (wipe σ ws).set w none from rfl, wipe_set (h w List.mem_cons_self)]
    exact wipe_wipe fun i hi => h i (List.mem_cons_of_mem _ hi)
def gNm (i : Nat) : DG := fun d ρ P => P (put ρ i d)
def gsNil : DGs := fun ds ρ P => ds = [] ∧ P ρ
def gsCons (g : DG) (gs : DGs) : DGs := fun ds ρ P => ∃ d r, ds = d :: r ∧ g d ρ fun ρ1 => gs r ρ1 P
def gTp (n : Nat) (gs : DGs) : DG := fun d ρ P => ∃ ds, d = .tup ds ∧ ds.length = n ∧ gs ds ρ P
theorem dg_name {vs : List Nat} (i : Nat) {x : Str} (hN : X.N.Nodup) (hi : X.N[i]? = some x := by rfl) (hx : Loc X.env.scope x := by first | exact Or.inl rfl | exact Or.inr rfl) (hv : i ∈ vs := by decide)
    (hf : X.fn x = true ∨ X.env.scope.names.lookup x = some .local := by first | exact .inl rfl | exact .inr rfl) : PGD X vs (.Name x pos) (gNm i) :=
  (pg_name hN hi hx hf).weak fun v σ H Q ⟨z, ρ, M, d, P, S, A, r, q, F⟩ => F _ _ q (S.put i r) (wipe_set hv)
theorem dgs_nil {vs : List Nat} : PGsD X vs [] gsNil := pgs_nil.weak fun us σ H Q ⟨z, ρ, M, ds, P, S, A, r, ⟨e, q⟩, F⟩ => by
  subst e
  cases r
  exact ⟨rfl, F ρ σ q S rfl⟩
theorem dgs_cons {vs : List Nat} {es : List Expr} {g : DG} {gs : DGs} (h1 : PGD X vs e g) (h2 : PGsD X vs es gs) (hs : (assignEach (e :: es) X.env).map (·.2) = assign e X.env :: (assignEach es X.env).map (·.2) := by rfl) : PGsD X vs (e :: es) (gsCons g gs) :=
  (pgs_cons h1 h2 hs).weak fun us σ H Q ⟨z, ρ, M, ds, P, S, A, r, ⟨d, dr, e, q⟩, F⟩ => by
    subst e
    cases r with
    | cons r1 r2 => exact ⟨_, _, rfl, z, ρ, M, d, _, S, A, r1, q, fun ρ1 σ1 q1 S1 w1 => ⟨z, ρ1, M, dr, P, S1, A, r2, q1, fun ρ2 σ2 q2 S2 w2 => F ρ2 σ2 q2 S2 (w2.trans w1)⟩⟩
theorem dg_tup {vs : List Nat} {es : List Expr} {k n : Nat} {gs : DGs} (hc : X.calm = true) (h : PGsD X vs es gs) (hn : (assignEach es X.env).length = n := by rfl) (hst : (assignEach es X.env).findIdx? (·.1) = none := by rfl) : PGD X vs (.Tuple es k pos) (gTp n gs) :=
  (pg_tup hc h hn hst).weak fun v σ H Q ⟨z, ρ, M, d, P, S, A, r, ⟨ds, e, hl, q⟩, F⟩ => by
    subst e
    obtain ⟨a, us, rfl, h, r⟩ := rep_tup r
    exact ⟨a, us, rfl, h.sq, r.length.trans hl, z, ρ, M, ds, P, S, A, r, q, F⟩
/-- target = value -/
def dAsg (te : DE) (g : DG) : DS := fun D ρ M => te ρ M fun d M1 => g d ρ fun ρ1 => D.nx ρ1 M1
theorem ds_asg {vs : List Nat} {tg : Expr} {g : DG} (he : PED X e te) (hg : PGD X vs tg g) (hs : swapsWithSole [tg] e pos.line X.env = pure false := by rfl) (hw : swappedStores [tg] e X.env = pure none := by rfl)
    (h1 : (assignEach [tg] X.env).map (·.2) = [assign tg X.env] := by rfl) : PSD X (.Assign [tg] e pos) (dAsg te g) :=
  (ps_asg he hg hs hw h1).weak fun D σ H ⟨z, ρ, M, D0, S, A, q, L⟩ => ⟨z, ρ, M, _, S, A, q, fun d M1 v H1 q1 r1 A1 f1 =>
    ⟨z, ρ, M1, d, _, S.fr f1, A1, r1, q1, fun ρ1 σ1 q2 S1 _ => L.nx ρ1 M1 σ1 H1 q2 S1 A1 f1⟩⟩
/-- a, b = x, y with two local names -/
def dPar (i j : Nat) (t : DA) : DS := fun D ρ M => t ρ M fun ds M1 => ∃ x y, ds = [x, y] ∧ D.nx (put (put ρ i x) j y) M1
theorem ds_par {ta : DA} (i j : Nat) {x y : Str} {px py pt : Pos} {kt k2 : Nat} {pt2 : Pos} (hc : X.calm = true) (hN : X.N.Nodup) (ha : PAD X [a, b] ta) (hi : X.N[i]? = some x := by rfl) (hj : X.N[j]? = some y := by rfl) (hij : i ≠ j := by decide)
    (hx : X.env.scope.names.lookup x = some .local := by rfl) (hy : X.env.scope.names.lookup y = some .local := by rfl)
    (hw : swappedStores [.Tuple [.Name x px, .Name y py] kt pt] (.Tuple [a, b] k2 pt2) X.env = pure (some [x, y]) := by rfl)
    (hs : swapsWithSole [.Tuple [.Name x px, .Name y py] kt pt] (.Tuple [a, b] k2 pt2) pos.line X.env = pure false := by rfl) :
    PSD X (.Assign [.Tuple [.Name x px, .Name y py] kt pt] (.Tuple [a, b] k2 pt2) pos) (dPar i j ta) :=
  (ps_par hc hN hi hj hij hx hy ha hw hs).weak fun D σ H ⟨z, ρ, M, D0, S, A, q, L⟩ => ⟨z, ρ, M, _, S, A, q, fun ds M1 vs H1 ⟨x, y, e, q1⟩ r1 A1 f1 => by
    subst e
    cases r1 with
    | cons r1 r2 =>
      cases r2 with
      | cons r2 r3 =>
        cases r3
        exact ⟨_, _, rfl, L.nx _ M1 _ H1 q1 (((S.fr f1).put i r1).put j r2) A1 f1⟩⟩
/-- a name's value, seen otherwise, ahead of a statement; the memory, too -/
def dMView (K : PySem.W.Frag) (t : DS) : DS := fun D ρ M => ∃ M1, MView K M M1 ∧ t D ρ M1
theorem ds_mview (h : PSD X st t) : PSD X st (dMView X.K t) := h.weak fun D σ H ⟨z, ρ, M, D0, S, A, ⟨M1, w, q⟩, L⟩ => by
  obtain ⟨A1, f1⟩ := w z H A
  exact ⟨z, ρ, M1, D0, S.fr f1, A1, q, L.fr f1⟩
theorem db_mview (h : PBD X rest t) : PBD X rest (dMView X.K t) := h.weak fun D σ H ⟨z, ρ, M, D0, S, A, ⟨M1, w, q⟩, L⟩ => by
  obtain ⟨A1, f1⟩ := w z H A
  exact ⟨z, ρ, M1, D0, S.fr f1, A1, q, L.fr f1⟩

/-! ### what a loop walks -/
abbrev DI := DEnv → Mem → (List D → (Mem → Prop) → Mem → Prop) → Prop
/-- the iterator J yields these items, as long as the memory does as G says -/
def ItD (K : KZ) (J : It) (items : List D) (G : Mem → Prop) (M : Mem) (H : Hp) : Prop := ∀ M2 H2, Frame M H M2 H2 → MAbs K M2 H2 → G M2 → ∀ i : Nat,
  (items.length ≤ i → J.stop i H2) ∧ ∀ d, items[i]? = some d → J.go i H2 ∧ ∀ x H3, J.yld i H2 x H3 → Rep K M2 H3 x d ∧ MAbs K M2 H3 ∧ Frame M2 H2 M2 H3
def liftI (K : PySem.W.Frag) (t : DI) : TI := fun σ H R => ∃ z ρ M R0, SAbs ⟨K, z⟩ M H ρ σ ∧ MAbs ⟨K, z⟩ M H ∧ t ρ M R0 ∧ ∀ items G M1 H1 J, R0 items G M1 → MAbs ⟨K, z⟩ M1 H1 → Frame M H M1 H1 → (∀ z', (∀ a, z' a → z a ∨ H1 a = none) → ItD ⟨K, z'⟩ J items G M1 H1) → R J H1
abbrev PID (X : Cx) (tg iter : Expr) (t : DI) : Prop := PI X tg iter (liftI X.K t)
theorem _root_.L2.PI.weak {tg e : Expr} {t t' : TI} (h : PI X tg e t) (w : ∀ σ H R, t' σ H R → t σ H R) : PI X tg e t' := ⟨fun pins s σ H R I q => h.run pins s σ H R I (w _ _ _ q)⟩
/-- for -/
def dFor (ti : DI) (g : DG) (tb : DS) : DS := fun D ρ M => ti ρ M fun items G M1 => ∃ W : Nat → DEnv → Mem → Prop, W 0 ρ M1 ∧
  (∀ i d ρ2 M2, items[i]? = some d → W i ρ2 M2 → G M2 ∧ g d ρ2 fun ρ3 => tb { D with nx := W (i + 1), ct := W (i + 1), bk := D.nx } ρ3 M2) ∧ ∀ ρ2 M2, W items.length ρ2 M2 → G M2 ∧ D.nx ρ2 M2
theorem ds_for {vs : List Nat} {tg iter : Expr} {ti : DI} {g : DG} {tb : DS} (hp : PassesOwn (model X.prog X.w) X.A X.env X.xe) (hc : X.calm = true) (hi : PID X tg iter ti) (hg : PGD X vs tg g) (hb : PBD X body tb)
    (hs : ∀ x, foldedSetIterable iter X.env x = pure x := by intro _; rfl) : PSD X (.For tg iter body [] pos) (dFor ti g tb) :=
  (ps_for hp hc hi hg hb hs).weak fun D σ H ⟨z, ρ, M, D0, S, A, q, L⟩ => ⟨z, ρ, M, _, S, A, q, fun items G M1 H1 J ⟨W, w0, ws, wd⟩ A1 f1 it => by
    have it := it z fun a h => .inl h
    refine ⟨fun i m σ2 H2 => i ≤ items.length ∧ m = items.length - i ∧ ∃ ρ2 M2, SAbs ⟨X.K, z⟩ M2 H2 ρ2 σ2 ∧ MAbs ⟨X.K, z⟩ M2 H2 ∧ Frame M1 H1 M2 H2 ∧ W i ρ2 M2,
      ⟨items.length, Nat.zero_le _, rfl, ρ, M1, S.fr f1, A1, Frame.refl, w0⟩, fun i m σ2 H2 ⟨hi, hm, ρ2, M2, S2, A2, f2, w2⟩ => ?_⟩
    by_cases hlt : i < items.length
    · have hd : items[i]? = some items[i] := List.getElem?_eq_getElem hlt
      obtain ⟨g2, q2⟩ := ws i _ ρ2 M2 hd w2
      obtain ⟨go, y⟩ := (it M2 H2 f2 A2 g2 i).2 _ hd
      refine .inr ⟨go, fun σ3 H3 => ∃ ρ3 M3, SAbs ⟨X.K, z⟩ M3 H3 ρ3 σ3 ∧ MAbs ⟨X.K, z⟩ M3 H3 ∧ Frame M1 H1 M3 H3 ∧ W (i + 1) ρ3 M3, fun σ3 H3 w3 => ⟨items.length - (i + 1), by omega, hlt, rfl, w3⟩, fun x H3 y3 => ?_⟩
      obtain ⟨rx, A3, f3⟩ := y x H3 y3
      refine ⟨z, ρ2, M2, _, _, S2.fr f3, A3, rx, q2, fun ρ4 σ4 q4 S4 _ => ⟨z, ρ4, M2, _, S4, A3, q4, ?_⟩⟩
      have f4 := (f1.trans f2).trans f3
      have again : LS ⟨X.K, z⟩ M2 H3 (W (i + 1)) fun σ3 H3 => ∃ ρ3 M3, SAbs ⟨X.K, z⟩ M3 H3 ρ3 σ3 ∧ MAbs ⟨X.K, z⟩ M3 H3 ∧ Frame M1 H1 M3 H3 ∧ W (i + 1) ρ3 M3 :=
        fun ρ5 M5 σ5 H5 w5 S5 A5 f5 => ⟨ρ5, M5, S5, A5, (f2.trans f3).trans f5, w5⟩
      exact ⟨again, L.rt.fr f4, L.nx.fr f4, again, L.xr.fr f4⟩
    · have e : i = items.length := by omega
      subst e
      obtain ⟨g2, q2⟩ := wd ρ2 M2 w2
      exact .inl ⟨(it M2 H2 f2 A2 g2 _).1 (Nat.le_refl _), L.nx ρ2 M2 σ2 H2 q2 S2 A2 (f1.trans f2)⟩⟩
/-- while -/
def dWhile (c : DT) (tb : DS) : DS := fun D ρ M => ∃ W : Nat → DEnv → Mem → Prop, (∃ m, W m ρ M) ∧ ∀ m ρ M, W m ρ M → c ρ M fun k M1 => if k = true then
  tb { D with nx := fun ρ2 M2 => ∃ m2, m2 < m ∧ W m2 ρ2 M2, ct := fun ρ2 M2 => ∃ m2, m2 < m ∧ W m2 ρ2 M2, bk := D.nx } ρ M1 else D.nx ρ M1
theorem ds_while {tb : DS} (hp : PassesOwn (model X.prog X.w) X.A X.env X.xe) (hc : PTD X c tt) (hb : PBD X body tb) : PSD X (.While c body [] pos) (dWhile tt tb) :=
  (ps_while hp hc hb).weak fun D σ H ⟨z, ρ, M, D0, S, A, ⟨W, ⟨m0, w0⟩, ws⟩, L⟩ => by
    refine ⟨fun m σ2 H2 => ∃ ρ2 M2, SAbs ⟨X.K, z⟩ M2 H2 ρ2 σ2 ∧ MAbs ⟨X.K, z⟩ M2 H2 ∧ Frame M H M2 H2 ∧ W m ρ2 M2, ⟨m0, ρ, M, S, A, Frame.refl, w0⟩, fun m σ2 H2 ⟨ρ2, M2, S2, A2, f2, w2⟩ => ?_⟩
    refine ⟨z, ρ2, M2, _, S2, A2, ws m ρ2 M2 w2, fun k M3 H3 q3 A3 f3 => ?_⟩
    have f4 := f2.trans f3
    cases k with
    | true =>
      rw [if_pos rfl] at q3
      have again : LS ⟨X.K, z⟩ M3 H3 (fun ρ2 M2 => ∃ m2, m2 < m ∧ W m2 ρ2 M2) fun σ3 H3 => ∃ m2, m2 < m ∧ ∃ ρ3 M3, SAbs ⟨X.K, z⟩ M3 H3 ρ3 σ3 ∧ MAbs ⟨X.K, z⟩ M3 H3 ∧ Frame M H M3 H3 ∧ W m2 ρ3 M3 :=
        fun ρ5 M5 σ5 H5 ⟨m2, l, w5⟩ S5 A5 f5 => ⟨m2, l, ρ5, M5, S5, A5, f4.trans f5, w5⟩
      exact iteT ⟨_, fun σ3 H3 w3 => w3, z, ρ2, M3, _, S2.fr f3, A3, q3, ⟨again, L.rt.fr f4, L.nx.fr f4, again, L.xr.fr f4⟩⟩
    | false =>
      rw [if_neg Bool.false_ne_true] at q3
      exact iteF <| L.nx ρ2 M3 σ2 H3 q3 (S2.fr f3) A3 f4

/-! ### list comprehensions -/
abbrev PTsD (X : Cx) (ifs : List Expr) (t : DT) : Prop := PTs X ifs (liftT X.K t)
theorem _root_.L2.PTs.weak {ifs : List Expr} {t t' : TT} (h : PTs X ifs t) (w : ∀ σ H Q, t' σ H Q → t σ H Q) : PTs X ifs t' := ⟨fun pins s σ H Q I q => h.run pins s σ H Q I (w _ _ _ q)⟩
def dYes : DT := fun _ M R => R true M
theorem dts_nil : PTsD X [] dYes := pts_nil.weak fun σ H Q ⟨z, ρ, M, R, S, A, q, F⟩ => F _ _ _ q A Frame.refl
theorem dts_one (h : PTD X c tt) : PTsD X [c] tt := pts_one h
end
/-! what is out of sight: a list that is being made -/
section
variable {K : PySem.W.Frag} {z z' : Addr → Prop} {M : Mem} {H : Hp} {p : Addr} {u : HO}
theorem not_tup {vs0 : List V} (e : H p = some (.lst vs0)) : ∀ xs, ¬ Rd H p (.tup xs) := fun xs h => by
  rcases h with h | ⟨o, h⟩ <;> (rw [e] at h; cases h)
theorem not_tupD {vs0 : List (Key × V)} (e : H p = some (.dK vs0)) : ∀ xs, ¬ Rd H p (.tup xs) := fun xs h => by
  rcases h with h | ⟨o, h⟩ <;> (rw [e] at h; cases h)
theorem rd_some {a : Addr} {u : HO} (r : Rd H a u) : H a ≠ none := by
  rcases r with e | ⟨o, e⟩ <;> (rw [e]; exact nofun)
mutual
theorem Rep.zz (h : ∀ a, H a ≠ none → z' a → z a) : ∀ {v : V} {d : D}, Rep ⟨K, z⟩ M H v d → Rep ⟨K, z'⟩ M H v d
  | _, _, .non => .non
  | _, _, .bl b => .bl b
  | _, _, .int i => .int i
  | _, _, .str x => .str x
  | _, _, .ty n => .ty n
  | _, _, .ref a => .ref a
  | _, _, .tup q r => .tup q (Reps.zz h r)
  | _, _, .lst q r => .lst (q.elim (fun ⟨a, b, c⟩ => .inl ⟨a, b, fun y => c (h _ (rd_some a) y)⟩) .inr) (Reps.zz h r)
  | _, _, .dct ⟨a, b, c⟩ e1 e2 r => .dct ⟨a, b, fun y => c (h _ (rd_some a) y)⟩ e1 e2 (Reps.zz h r)
  | _, _, .box bx e n c r => .box bx e n (fun y => c (h _ (by rw [e]; exact nofun) y)) (Reps.zz h r)
theorem Reps.zz (h : ∀ a, H a ≠ none → z' a → z a) : ∀ {vs : List V} {ds : List D}, Reps ⟨K, z⟩ M H vs ds → Reps ⟨K, z'⟩ M H vs ds
  | _, _, .nil => .nil
  | _, _, .cons r rs => .cons (Rep.zz h r) (Reps.zz h rs)
end
theorem SAbs.zz (h : ∀ a, H a ≠ none → z' a → z a) : ∀ {ρ : DEnv} {σ : L2.St}, SAbs ⟨K, z⟩ M H ρ σ → SAbs ⟨K, z'⟩ M H ρ σ
  | _, _, .nil => .nil
  | _, _, .off t => .off (t.zz h)
  | _, _, .on r t => .on (r.zz h) (t.zz h)
theorem ObjRep.map {K K' : KZ} {M : Mem} {H H' : Hp} {a : Addr} {o : MO} (x : ObjRep K M H a o) (ha : H' a = H a) (hb : ∀ ks b, o = .deck ks b → H' b = H b) (hc : ∀ c u, Bx u → H c = some u → M c = none → ¬ K.z c → H' c = some u ∧ M c = none ∧ ¬ K'.z c) (hr : ∀ vs ds, Reps K M H vs ds → Reps K' M H' vs ds) : ObjRep K' M H' a o := by
  cases o with
  | lst ds =>
    obtain ⟨vs, q, r⟩ := x
    exact ⟨vs, ha.trans q, hr _ _ r⟩
  | dct ks ds =>
    obtain ⟨vs, q, k, r⟩ := x
    exact ⟨vs, ha.trans q, k, hr _ _ r⟩
  | deck ks b =>
    obtain ⟨k1, k2, k3, m, n, ns, e0, q, qb, mb⟩ := x
    exact ⟨k1, k2, k3, m, n, ns, e0, ha.trans q, (hb ks b rfl).trans qb, mb⟩
  | hid c =>
    obtain ⟨w, q⟩ := x
    exact ⟨w, ha.trans q⟩
  | tab q => exact TabD.map x ha hc
theorem MAbs.deckAt {K : KZ} (A : MAbs K M H) {a b : Addr} {ks : List Key} (e : M a = some (.deck ks b)) : M b = some (.hid a) := by
  obtain ⟨_, _, _, _, _, _, _, _, _, mb⟩ := A.at_ a _ e
  exact mb
def zput (z : Addr → Prop) (p : Addr) : Addr → Prop := fun a => z a ∨ a = p
theorem MAbs.hide (A : MAbs ⟨K, z⟩ M H) (hp : H p = none) : MAbs ⟨K, zput z p⟩ M (upd H p u) := by
  have hz : ∀ a, H a ≠ none → zput z p a → z a := fun a h y => y.elim id fun e => absurd (e ▸ hp) h
  refine ⟨fun a o e => ?_, fun a o e y => ?_, fun a y => ?_⟩
  · obtain ⟨w, q⟩ := A.there e
    refine (A.at_ a o e).map (upd_ne (ne_of_none q hp)) (fun ks b eo => ?_) (fun c u _ h n nz => ⟨(upd_ne (ne_of_none h hp)).trans h, n, fun y => nz (hz c (by rw [h]; exact nofun) y)⟩) fun vs ds r => (r.zz hz).fr (Frame.new hp)
    subst eo
    obtain ⟨w, q⟩ := A.there (A.deckAt e)
    exact upd_ne (ne_of_none q hp)
  · obtain ⟨w, q⟩ := A.there e
    exact A.out a o e (hz a (by rw [q]; exact nofun) y)
  · by_cases e : a = p
    · exact ⟨u, by rw [e]; exact upd_same⟩
    · obtain ⟨o, q⟩ := A.zat a (y.elim id fun k => absurd k e)
      exact ⟨o, by rw [upd_ne e]; exact q⟩
theorem MAbs.show_ (A : MAbs ⟨K, z'⟩ M H) (h : ∀ a, z a → z' a) : MAbs ⟨K, z⟩ M H := by
  have hz : ∀ a, H a ≠ none → z a → z' a := fun a _ y => h a y
  exact ⟨fun a o e => (A.at_ a o e).map rfl (fun _ _ _ => rfl) (fun c u _ q n nz => ⟨q, n, fun y => nz (h c y)⟩) fun vs ds r => r.zz hz, fun a o e y => A.out a o e (h a y), fun a y => A.zat a (h a y)⟩
mutual
theorem Rep.side (hp : ∀ xs, ¬ Rd H p (.tup xs)) (zp : z p) : ∀ {v : V} {d : D}, Rep ⟨K, z⟩ M H v d → Rep ⟨K, z⟩ M (upd H p u) v d
  | _, _, .non => .non
  | _, _, .bl b => .bl b
  | _, _, .int i => .int i
  | _, _, .str x => .str x
  | _, _, .ty n => .ty n
  | _, _, .ref a => .ref a
  | _, _, .tup q r => .tup (q.elim (fun ⟨a, b⟩ => .inl ⟨by
      unfold Rd
      rw [upd_ne fun e => hp _ (e ▸ a)]
      exact a, b⟩) .inr) (Reps.side hp zp r)
  | _, _, .lst q r => .lst (q.elim (fun ⟨a, b, c⟩ => .inl ⟨by
      have n : ∀ x, x = p → ¬ ¬ z x := fun x e k => k (e ▸ zp)
      unfold Rd
      rw [upd_ne fun e => n _ e c]
      exact a, b, c⟩) .inr) (Reps.side hp zp r)
  | _, _, .dct ⟨a, b, c⟩ e1 e2 r => .dct ⟨by
      have n : ∀ x, x = p → ¬ ¬ z x := fun x e k => k (e ▸ zp)
      unfold Rd
      rw [upd_ne fun e => n _ e c]
      exact a, b, c⟩ e1 e2 (Reps.side hp zp r)
  | _, _, .box bx e n c r => .box bx (by
      have n : ∀ x, x = p → ¬ ¬ z x := fun x e k => k (e ▸ zp)
      rw [upd_ne fun e => n _ e c]
      exact e) n c (Reps.side hp zp r)
theorem Reps.side (hp : ∀ xs, ¬ Rd H p (.tup xs)) (zp : z p) : ∀ {vs : List V} {ds : List D}, Reps ⟨K, z⟩ M H vs ds → Reps ⟨K, z⟩ M (upd H p u) vs ds
  | _, _, .nil => .nil
  | _, _, .cons r rs => .cons (Rep.side hp zp r) (Reps.side hp zp rs)
end
theorem MAbs.side (A : MAbs ⟨K, z⟩ M H) (hp : ∀ xs, ¬ Rd H p (.tup xs)) (zp : z p) : MAbs ⟨K, z⟩ M (upd H p u) := by
  have hne : ∀ a o, M a = some o → a ≠ p := fun a o e k => A.out a o e (k ▸ zp)
  refine ⟨fun a o e => (A.at_ a o e).map (upd_ne (hne a o e)) (fun ks b eo => ?_) (fun c u _ q n nz => ⟨(upd_ne fun y => nz (show z c from by rw [y]; exact zp)).trans q, n, nz⟩) fun vs ds r => r.side hp zp, fun a o e y => A.out a o e y, fun a y => ?_⟩
  · subst eo
    exact upd_ne (hne b _ (A.deckAt e))
  · by_cases e : a = p
    · exact ⟨u, by rw [e]; exact upd_same⟩
    · obtain ⟨o, q⟩ := A.zat a y
      exact ⟨o, by rw [upd_ne e]; exact q⟩
end
section
variable {K : PySem.W.Frag} {z : Addr → Prop} {M : Mem} {H : Hp} {p : Addr} {o : MO}
mutual
theorem Rep.bare (hp : ∀ xs, ¬ Rd H p (.tup xs)) : ∀ {v : V} {d : D}, Rep ⟨K, zput z p⟩ M H v d → Rep ⟨K, z⟩ (mset M p o) H v d
  | _, _, .non => .non
  | _, _, .bl b => .bl b
  | _, _, .int i => .int i
  | _, _, .str x => .str x
  | _, _, .ty n => .ty n
  | _, _, .ref a => .ref a
  | _, _, .tup q r => .tup (q.elim (fun ⟨a, b⟩ => .inl ⟨a, by rw [mset_ne fun e => hp _ (e ▸ a)]; exact b⟩) .inr) (Reps.bare hp r)
  | _, _, .lst q r => .lst (q.elim (fun ⟨a, b, c⟩ => .inl ⟨a, by rw [mset_ne fun e => c (.inr e)]; exact b, fun y => c (.inl y)⟩) .inr) (Reps.bare hp r)
  | _, _, .dct ⟨a, b, c⟩ e1 e2 r => .dct ⟨a, by rw [mset_ne fun e => c (.inr e)]; exact b, fun y => c (.inl y)⟩ e1 e2 (Reps.bare hp r)
  | _, _, .box bx e n c r => .box bx e (by rw [mset_ne fun e => c (.inr e)]; exact n) (fun y => c (.inl y)) (Reps.bare hp r)
theorem Reps.bare (hp : ∀ xs, ¬ Rd H p (.tup xs)) : ∀ {vs : List V} {ds : List D}, Reps ⟨K, zput z p⟩ M H vs ds → Reps ⟨K, z⟩ (mset M p o) H vs ds
  | _, _, .nil => .nil
  | _, _, .cons r rs => .cons (Rep.bare hp r) (Reps.bare hp rs)
end
theorem MAbs.bare {u : HO} (A : MAbs ⟨K, zput z p⟩ M H) (e : H p = some u) (hp : ∀ xs, ¬ Rd H p (.tup xs)) (nz : ¬ z p) (q : ObjRep ⟨K, z⟩ (mset M p o) H p o) : MAbs ⟨K, z⟩ (mset M p o) H := by
  have np : M p = none := A.zown (.inr rfl)
  refine ⟨fun a x ea => ?_, fun a x ea y => ?_, fun a y => A.zat a (.inl y)⟩
  · by_cases w : a = p
    · subst w
      rw [mset_same] at ea
      cases ea
      exact q
    · rw [mset_ne w] at ea
      have h := A.at_ a x ea
      cases x with
      | lst ds =>
        obtain ⟨vs, q, r⟩ := h
        exact ⟨vs, q, r.bare hp⟩
      | dct ks ds =>
        obtain ⟨vs, q, k, r⟩ := h
        exact ⟨vs, q, k, r.bare hp⟩
      | deck ks b =>
        obtain ⟨k1, k2, k3, m, n, ns, e0, q, qb, mb⟩ := h
        refine ⟨k1, k2, k3, m, n, ns, e0, q, qb, ?_⟩
        rw [mset_ne fun e => ?_]
        · exact mb
        · rw [e, np] at mb; cases mb
      | hid c => exact h
      | tab q => exact TabD.map h rfl fun c u _ q n nz => ⟨q, by rw [mset_ne fun e => nz (.inr e)]; exact n, fun y => nz (.inl y)⟩
  · by_cases w : a = p
    · exact nz (w ▸ y)
    · rw [mset_ne w] at ea
      exact A.out a x ea (.inl y)
theorem Frame.bare {M0 : Mem} {H0 : Hp} (f : Frame M0 H0 M H) (hp : H0 p = none) : Frame M0 H0 (mset M p o) H := fun c h n => by
  obtain ⟨e1, e2⟩ := f c h n
  exact ⟨e1, by rw [mset_ne fun e => h (by rw [e]; exact hp)]; exact e2⟩
end
section
variable {X : Cx} {pos : Pos}
/-- [te for g in ti if tt]: vs the block's own names -/
def dLcW (vs : List Nat) (ti : DI) (g : DG) (tt : DT) (te : DE) (end_ : List D → Mem → RK → Prop) : DE := fun ρ M R => ti ρ M fun items G M1 => items.length ≤ sizeLine ∧ ∃ W : Nat → List D → Mem → Prop, W 0 [] M1 ∧
  (∀ i d acc M2, items[i]? = some d → acc.length ≤ i → W i acc M2 → G M2 ∧ g d (dwipe ρ vs) fun ρ3 => tt ρ3 M2 fun k M3 => if k = true then te ρ3 M3 fun y M4 => W (i + 1) (acc ++ [y]) M4 else W (i + 1) acc M3) ∧
  ∀ acc M2, acc.length ≤ items.length → W items.length acc M2 → G M2 ∧ end_ acc M2 R
/-- a frozen list; one that may change -/
def dLc (vs : List Nat) (ti : DI) (g : DG) (tt : DT) (te : DE) : DE := dLcW vs ti g tt te fun acc M R => R (.lst acc) M
def dLcM (vs : List Nat) (ti : DI) (g : DG) (tt : DT) (te : DE) : DE := dLcW vs ti g tt te fun acc M R => ∀ p, M p = none → R (.ref p) (mset M p (.lst acc))
theorem lc_end (z : Addr → Prop) (acc : List D) (M : Mem) (R : RK) (H : Hp) (Q : VK) (p : Addr) (us : List V) (M0 : Mem) (H0 : Hp) (q : R (.lst acc) M) (A : MAbs ⟨X.K, zput z p⟩ M H) (e : H p = some (.lst us)) (r : Reps ⟨X.K, zput z p⟩ M H us acc) (nz : ¬ z p) (hp : H0 p = none) (f : Frame M0 H0 M H) (F : Fin ⟨X.K, z⟩ M0 H0 R Q) : Q (.ref p) H := by
  have hs : ∀ a, z a → zput z p a := fun a h => .inl h
  exact F _ _ _ _ q (.lst (.inl ⟨.inl e, A.zown (.inr rfl), nz⟩) (r.zz fun a _ h => hs a h)) (A.show_ hs) f
theorem lc_endM (z : Addr → Prop) (acc : List D) (M : Mem) (R : RK) (H : Hp) (Q : VK) (p : Addr) (us : List V) (M0 : Mem) (H0 : Hp) (q : ∀ p, M p = none → R (.ref p) (mset M p (.lst acc))) (A : MAbs ⟨X.K, zput z p⟩ M H) (e : H p = some (.lst us)) (r : Reps ⟨X.K, zput z p⟩ M H us acc) (nz : ¬ z p) (hp : H0 p = none) (f : Frame M0 H0 M H) (F : Fin ⟨X.K, z⟩ M0 H0 R Q) : Q (.ref p) H :=
  F _ _ _ _ (q p (A.zown (.inr rfl))) (.ref p) (A.bare e (not_tup e) nz ⟨us, e, r.bare (not_tup e)⟩) (f.bare hp)
theorem lift_lc {vs : List Nat} {ti : DI} {g : DG} {tt : DT} {te : DE} {end_ : List D → Mem → RK → Prop} {σ : L2.St} {H : Hp} {Q : VK}
    (he : ∀ (z : Addr → Prop) acc M R H Q p us M0 H0, end_ acc M R → MAbs ⟨X.K, zput z p⟩ M H → H p = some (.lst us) → Reps ⟨X.K, zput z p⟩ M H us acc → ¬ z p → H0 p = none → Frame M0 H0 M H → Fin ⟨X.K, z⟩ M0 H0 R Q → Q (.ref p) H)
    (h : liftE X.K (dLcW vs ti g tt te end_) σ H Q) : tLc (liftI X.K ti) (liftG X.K vs g) (liftT X.K tt) (liftE X.K te) vs σ H Q := by
  obtain ⟨z, ρ, M, R, S, A, q, F⟩ := h
  refine ⟨z, ρ, M, _, S, A, q, fun items G M1 H1 J ⟨hz, W, w0, ws, wd⟩ A1 f1 it p hp => ?_⟩
  have it := it (zput z p) fun a h => h.elim .inl fun e => .inr (e ▸ hp)
  have hzz : ∀ a, H1 a ≠ none → zput z p a → z a := fun a h y => y.elim id fun e => absurd (e ▸ hp) h
  have zp : zput z p p := .inr rfl
  have S1 : SAbs ⟨X.K, zput z p⟩ M1 H1 (dwipe ρ vs) (wipe σ vs) := ((S.fr f1).zz hzz).wipe vs
  have fn : ∀ {u : HO}, Frame M1 H1 M1 (upd H1 p u) := Frame.new hp
  refine ⟨fun i m H2 => i ≤ items.length ∧ m = items.length - i ∧ ∃ acc M2 us, acc.length ≤ i ∧ H2 p = some (.lst us) ∧ Reps ⟨X.K, zput z p⟩ M2 H2 us acc ∧ MAbs ⟨X.K, zput z p⟩ M2 H2 ∧ Frame M1 H1 M2 H2 ∧ W i acc M2,
    ⟨items.length, Nat.zero_le _, rfl, [], M1, [], Nat.le_refl _, upd_same, .nil, A1.hide hp, fn, w0⟩, fun i m H2 ⟨hi, hm, acc, M2, us, ha, eD, rD, A2, f2, w2⟩ => ?_⟩
  by_cases hlt : i < items.length
  · have hd : items[i]? = some items[i] := List.getElem?_eq_getElem hlt
    obtain ⟨g2, q2⟩ := ws i _ acc M2 hd ha w2
    obtain ⟨go, y⟩ := (it M2 H2 f2 A2 g2 i).2 _ hd
    refine .inr ⟨go, fun H3 => ∃ acc M3 us, acc.length ≤ i + 1 ∧ H3 p = some (.lst us) ∧ Reps ⟨X.K, zput z p⟩ M3 H3 us acc ∧ MAbs ⟨X.K, zput z p⟩ M3 H3 ∧ Frame M1 H1 M3 H3 ∧ W (i + 1) acc M3,
      fun H3 w3 => ⟨items.length - (i + 1), by omega, hlt, rfl, w3⟩, fun x H3 y3 => ?_⟩
    obtain ⟨rx, A3, f3⟩ := y x H3 y3
    have f13 := f2.trans f3
    -- the new list stands as long as others work
    have keep : ∀ {M5 H5}, Frame M2 H2 M5 H5 → H5 p = some (.lst us) ∧ M5 p = none := fun {M5 H5} f => by
      obtain ⟨e1, e2⟩ := f p (by rw [eD]; exact nofun) (A2.zown zp)
      exact ⟨e1.trans eD, e2⟩
    refine ⟨zput z p, dwipe ρ vs, M2, _, _, S1.fr f13, A3, rx, q2, fun ρ4 σ4 q4 S4 hw => ⟨by rw [hw]; exact wipe_wipe (fun _ h => h), zput z p, ρ4, M2, _, S4, A3, q4, fun k M5 H5 q5 A5 f5 => ?_⟩⟩
    cases k with
    | true =>
      rw [if_pos rfl] at q5
      refine iteT ⟨zput z p, ρ4, M5, _, S4.fr f5, A5, q5, fun y M6 v H6 q6 r6 A6 f6 => ?_⟩
      have f26 := (f3.trans f5).trans f6
      obtain ⟨e6, n6⟩ := keep f26
      have hl : us.length = acc.length := rD.length
      refine ⟨us, e6, by omega, acc ++ [y], M6, us ++ [v], by rw [List.length_append]; simp; omega, upd_same, ((rD.fr f26).append (.cons r6 .nil)).side (not_tup e6) zp, A6.side (not_tup e6) zp, fun c hc nc => ?_, q6⟩
      obtain ⟨z1, z2⟩ := (f2.trans f26) c hc nc
      have ne : c ≠ p := fun e => hc (by rw [e]; exact hp)
      exact ⟨(upd_ne ne).trans z1, z2⟩
    | false =>
      rw [if_neg Bool.false_ne_true] at q5
      have f25 := f3.trans f5
      obtain ⟨e5, n5⟩ := keep f25
      exact iteF ⟨acc, M5, us, by omega, e5, rD.fr f25, A5, f2.trans f25, q5⟩
  · have e : i = items.length := by omega
    subst e
    obtain ⟨g2, q2⟩ := wd acc M2 ha w2
    refine .inl ⟨(it M2 H2 f2 A2 g2 _).1 (Nat.le_refl _), ?_⟩
    exact he z acc M2 R H2 Q p us M1 H1 q2 A2 eD rD (A1.znew hp) hp f2 (F.fr f1)
section
variable {elt tg iter : Expr} {ifs : List Expr} {scope : Scope} {own : List (Str × Nat)} {ti : DI} {g : DG} {tt : DT} {te : DE}
theorem de_lc (hc : X.calm = true) (hN : X.N.Nodup) (hi : PID X tg iter ti) (ok : blkC X.N X.env.scope scope own = true)
    (hg : ∀ (s : Shared) (H : Hp) (C : Addr) (cl : List (Str × Addr)) (fp : List Addr), PGD (X.blk s H scope (compEnvC scope cl C X.env) fp) (own.map (·.2)) tg g) (ht : ∀ (s : Shared) (H : Hp) (C : Addr) (cl : List (Str × Addr)) (fp : List Addr), PTsD (X.blk s H scope (compEnvC scope cl C X.env) fp) ifs tt)
    (he : ∀ (s : Shared) (H : Hp) (C : Addr) (cl : List (Str × Addr)) (fp : List Addr), PED (X.blk s H scope (compEnvC scope cl C X.env) fp) elt te) (hs : ∀ x, foldedSetIterable iter X.env x = pure x := by intro _; rfl) :
    PED X (.ListComp elt [⟨tg, iter, ifs, 0⟩] scope pos) (dLc (own.map (·.2)) ti g tt te) :=
  (pe_lc hc hN hi (blkOk_by ok) hg ht he hs).weak fun σ H Q h => lift_lc lc_end h
theorem de_lcM (hc : X.calm = true) (hN : X.N.Nodup) (hi : PID X tg iter ti) (ok : blkC X.N X.env.scope scope own = true)
    (hg : ∀ (s : Shared) (H : Hp) (C : Addr) (cl : List (Str × Addr)) (fp : List Addr), PGD (X.blk s H scope (compEnvC scope cl C X.env) fp) (own.map (·.2)) tg g) (ht : ∀ (s : Shared) (H : Hp) (C : Addr) (cl : List (Str × Addr)) (fp : List Addr), PTsD (X.blk s H scope (compEnvC scope cl C X.env) fp) ifs tt)
    (he : ∀ (s : Shared) (H : Hp) (C : Addr) (cl : List (Str × Addr)) (fp : List Addr), PED (X.blk s H scope (compEnvC scope cl C X.env) fp) elt te) (hs : ∀ x, foldedSetIterable iter X.env x = pure x := by intro _; rfl) :
    PED X (.ListComp elt [⟨tg, iter, ifs, 0⟩] scope pos) (dLcM (own.map (·.2)) ti g tt te) :=
  (pe_lc hc hN hi (blkOk_by ok) hg ht he hs).weak fun σ H Q h => lift_lc lc_endM h
/-- y = [..] -/
theorem ds_setLc (i : Nat) {y : Str} {py spos : Pos} (hc : X.calm = true) (hN : X.N.Nodup) (hi : PID X tg iter ti) (ok : blkC X.N X.env.scope scope own = true)
    (hg : ∀ (s : Shared) (H : Hp) (C : Addr) (cl : List (Str × Addr)) (fp : List Addr), PGD (X.blk s H scope (compEnvC scope cl C X.env) fp) (own.map (·.2)) tg g) (ht : ∀ (s : Shared) (H : Hp) (C : Addr) (cl : List (Str × Addr)) (fp : List Addr), PTsD (X.blk s H scope (compEnvC scope cl C X.env) fp) ifs tt)
    (he : ∀ (s : Shared) (H : Hp) (C : Addr) (cl : List (Str × Addr)) (fp : List Addr), PED (X.blk s H scope (compEnvC scope cl C X.env) fp) elt te)
    (hsw : swapsWith (.ListComp elt [⟨tg, iter, ifs, 0⟩] scope pos) (some (.Name y py)) spos.line X.env = pure true) (hy : X.N[i]? = some y := by rfl) (hyl : X.env.scope.names.lookup y = some .local := by rfl) (hs : ∀ x, foldedSetIterable iter X.env x = pure x := by intro _; rfl) :
    PSD X (.Assign [.Name y py] (.ListComp elt [⟨tg, iter, ifs, 0⟩] scope pos) spos) (dSet i (dLc (own.map (·.2)) ti g tt te)) :=
  (ps_setLc hc hN hy hyl hsw hi (blkOk_by ok) hg ht he hs).weak fun D σ H ⟨z, ρ, M, D0, S, A, q, L⟩ => lift_lc (tt := tt) (g := g) (te := te) (Q := fun x H1 => gName i x σ H1 D.nx) lc_end
    ⟨z, ρ, M, fun d M1 => D0.nx (put ρ i d) M1, S, A, q, fun d M1 v H1 q1 r1 A1 f1 => L.nx _ M1 _ H1 q1 ((S.fr f1).put i r1) A1 f1⟩
end
end
end DL

set_option Elab.async false
set_option linter.all false
set_option maxHeartbeats 4000000
/-! D-layer, part 6: what loops and comprehensions walk. -/
namespace DL
open PySem PySem.Spec PyProof.Rows L2

def charsD (x : Str) : List D := x.cps.toList.map fun c => .str ⟨#[c]⟩
/-- a value that is walked: its items, and what must stay so while they are -/
def Iter (M : Mem) (d : D) (items : List D) (G : Mem → Prop) : Prop := match d with
  | .tup ds => items = ds ∧ G = fun _ => True
  | .lst ds => items = ds ∧ G = fun _ => True
  | .str x => items = charsD x ∧ G = fun _ => True
  | .ref a => M a = some (.lst items) ∧ G = fun M => M a = some (.lst items)
  | _ => False
section
variable {K : KZ} {M : Mem} {H : Hp} {a : Addr} {vs : List V} {ds : List D}
theorem itd_list (h : RdL K M H a vs) (r : Reps K M H vs ds) : ItD K (Itl K.k a) ds (fun _ => True) M H := fun M2 H2 f A _ i => by
  have q := (h.fr f).sq
  have r2 := r.fr f
  refine ⟨fun hi => ⟨vs, q, by rw [r.length]; exact hi⟩, fun d hd => ?_⟩
  obtain ⟨v, hv, rv⟩ := r2.get hd
  exact ⟨⟨vs, v, q, hv⟩, fun x H3 ⟨e, y⟩ => by
    subst e
    have := y vs q
    rw [hv] at this
    cases this
    exact ⟨rv, A, Frame.refl⟩⟩
theorem itd_tup (h : RdT K M H a vs) (r : Reps K M H vs ds) : ItD K (Itt K.k a) ds (fun _ => True) M H := fun M2 H2 f A _ i => by
  have q := (h.fr f).sq
  have r2 := r.fr f
  refine ⟨fun hi => ⟨vs, q, by rw [r.length]; exact hi⟩, fun d hd => ?_⟩
  obtain ⟨v, hv, rv⟩ := r2.get hd
  exact ⟨⟨vs, v, q, hv⟩, fun x H3 ⟨e, y⟩ => by
    subst e
    have := y vs q
    rw [hv] at this
    cases this
    exact ⟨rv, A, Frame.refl⟩⟩
theorem itd_ref : ItD K (Itl K.k a) ds (fun M => M a = some (.lst ds)) M H := fun M2 H2 f A g i => by
  obtain ⟨us, e, r2⟩ := A.at_ a _ g
  have q : SqL K.k H2 a us := .inl (.inl e)
  refine ⟨fun hi => ⟨us, q, by rw [r2.length]; exact hi⟩, fun d hd => ?_⟩
  obtain ⟨v, hv, rv⟩ := r2.get hd
  exact ⟨⟨us, v, q, hv⟩, fun x H3 ⟨e, y⟩ => by
    subst e
    have := y us q
    rw [hv] at this
    cases this
    exact ⟨rv, A, Frame.refl⟩⟩
theorem itd_str {x : Str} : ItD K (Its x) (charsD x) (fun _ => True) M H := fun M2 H2 f A _ i => by
  unfold charsD
  refine ⟨fun hi => by rw [List.length_map, Array.length_toList] at hi; exact hi, fun d hd => ?_⟩
  rw [List.getElem?_map] at hd
  cases e : x.cps.toList[i]? with
  | none => rw [e] at hd; cases hd
  | some c =>
    rw [e] at hd
    cases hd
    have e' : x.cps[i]? = some c := by rw [← e, Array.getElem?_toList]
    refine ⟨by obtain ⟨h, _⟩ := Array.getElem?_eq_some_iff.mp e'; exact h, fun v H3 ⟨eh, c', ec, ev⟩ => ?_⟩
    subst eh ev
    rw [e'] at ec
    cases ec
    exact ⟨.str _, A, Frame.refl⟩
theorem itd_rng {lo : Int} {n : Nat} : ItD K (Itr lo n) ((List.range n).map fun i => .int (lo + (i : Nat))) (fun _ => True) M H := fun M2 H2 f A _ i => by
  refine ⟨fun hi => by rw [List.length_map, List.length_range] at hi; exact hi, fun d hd => ?_⟩
  rw [List.getElem?_map] at hd
  cases e : (List.range n)[i]? with
  | none => rw [e] at hd; cases hd
  | some j =>
    rw [e] at hd
    cases hd
    have hj := List.getElem?_eq_some_iff.mp e
    obtain ⟨hl, hj⟩ := hj
    rw [List.length_range] at hl
    rw [List.getElem_range] at hj
    subst hj
    exact ⟨hl, fun v H3 ⟨eh, ev⟩ => by subst eh ev; exact ⟨.int _, A, Frame.refl⟩⟩
end
theorem RdL.zz {K : PySem.W.Frag} {z z' : Addr → Prop} {M : Mem} {H : Hp} {a : Addr} {vs : List V} (h : ∀ a, H a ≠ none → z' a → z a) : RdL ⟨K, z⟩ M H a vs → RdL ⟨K, z'⟩ M H a vs
  | .inl ⟨p, q, r⟩ => .inl ⟨p, q, fun y => r (h _ (rd_some p) y)⟩
  | .inr k => .inr k
section
variable {X : Cx} {tg e : Expr} {te : DE} {ta : DA} {pos : Pos}
/-- a list, a tuple, a text, whichever it is, at an address or as it is -/
def iVal (K : PySem.W.Frag) (te : TE) : TI := fun σ H R => te σ H fun v H1 => (∃ x, v = .str x ∧ R (Its x) H1) ∨ ∃ a, v = .ref a ∧ ((∃ xs, SqL K H1 a xs ∧ R (Itl K a) H1) ∨ ∃ xs, SqT K H1 a xs ∧ R (Itt K a) H1)
theorem pi_val {te : TE} (he : PE X e te) : PI X tg e (iVal X.K te) := by
  refine ⟨fun pins s σ H R I h => ?_⟩
  refine thn (he.run pins s σ H _ I h) fun v s1 ⟨y, H1, I1, r1, q⟩ => ?_
  have nw : H1 s1.heap.objs.size = none := I1.hok.fresh (Nat.le_refl _)
  have one : ∀ {o : Obj} {tk : Nat} {tn : Nat → Heap → Prop} {J : It}, Turn X.prog X.w X.K tg J [s1.heap.objs.size] s1.heap.objs.size tn → tn 0 (s1.heap.push o) → R J H1 → PIE X pins σ tg R (.ref s1.heap.objs.size) { s1 with heap := s1.heap.push o, toks := tk } :=
    fun {o tk tn J} T st qr => ⟨_, _, tn, J, H1, rfl, I1.kept (t' := tk) fun b u ee => Heap.get?_push_of_some _ ee, T, st, fun b hb => by
      obtain rfl : b = s1.heap.objs.size := by simpa using hb
      exact I1.fpOk (Nat.le_refl _) nw, qr⟩
  rcases q with ⟨x, rfl, q⟩ | ⟨a, rfl, ⟨xs, hq, q⟩ | ⟨xs, hq, q⟩⟩
  · obtain ⟨t, rfl⟩ := r1
    cases ha : x.cps.all (· < 128)
    · exact wpAny_pyIter_wide ha (one (tk := s1.toks) (turn_str _ x t "str_iterator" (.inr rfl)) ⟨_, Heap.get?_push_size _ rfl, rfl, rfl⟩ q)
    · exact wpAny_pyIter_ascii ha (one (tk := s1.toks) (turn_str _ x t "str_ascii_iterator" (.inl rfl)) ⟨_, Heap.get?_push_size _ rfl, rfl, rfl⟩ q)
  · cases r1
    obtain ⟨its, _, p, _⟩ := I1.list hq
    exact wpAny_pyIter_list p.isList (one (tk := s1.toks) (turn_list a _) ⟨_, Heap.get?_push_size _ rfl, rfl, rfl⟩ q)
  · cases r1
    obtain ⟨its, _, p, _⟩ := I1.tuple hq
    exact wpAny_pyIter_tuple (show s1.heap.IsTuple a its.toArray from p) (one (tk := s1.toks) (turn_tuple a _) ⟨_, Heap.get?_push_size _ rfl, rfl, rfl⟩ q)
def dVal (te : DE) : DI := fun ρ M R => te ρ M fun d M1 => ∃ items G, Iter M1 d items G ∧ R items G M1
theorem di_val (he : PED X e te) : PID X tg e (dVal te) :=
  (pi_val he).weak fun σ H R ⟨z, ρ, M, R0, S, A, q, F⟩ => ⟨z, ρ, M, _, S, A, q, fun d M1 v H1 ⟨items, G, hi, q1⟩ r1 A1 f1 => by
    have zz : ∀ z' : Addr → Prop, (∀ a, z' a → z a ∨ H1 a = none) → ∀ a, H1 a ≠ none → z' a → z a := fun z' hz a h y => (hz a y).elim id fun e => absurd e h
    cases d with
    | tup ds =>
      obtain ⟨rfl, rfl⟩ := hi
      obtain ⟨a, vs, rfl, h, r⟩ := rep_tup r1
      exact .inr ⟨a, rfl, .inr ⟨vs, h.sq, F _ _ _ _ _ q1 A1 f1 fun z' hz => itd_tup (K := ⟨X.K, z'⟩) (h.elim .inl .inr) (r.zz (zz z' hz))⟩⟩
    | lst ds =>
      obtain ⟨rfl, rfl⟩ := hi
      obtain ⟨a, vs, rfl, h, r⟩ := rep_lst r1
      exact .inr ⟨a, rfl, .inl ⟨vs, h.sq, F _ _ _ _ _ q1 A1 f1 fun z' hz => itd_list (K := ⟨X.K, z'⟩) (h.zz (zz z' hz)) (r.zz (zz z' hz))⟩⟩
    | str x =>
      obtain ⟨rfl, rfl⟩ := hi
      obtain rfl := rep_str r1
      exact .inl ⟨x, rfl, F _ _ _ _ _ q1 A1 f1 fun z' hz => itd_str⟩
    | ref a =>
      obtain ⟨ha, rfl⟩ := hi
      obtain rfl := rep_ref r1
      obtain ⟨vs, ea, r⟩ := A1.at_ a _ ha
      exact .inr ⟨a, rfl, .inl ⟨vs, .inl (.inl ea), F _ _ _ _ _ q1 A1 f1 fun z' hz => itd_ref (K := ⟨X.K, z'⟩)⟩⟩
    | _ => exact hi.elim⟩
/-- range(n) -/
def dRng1 (ta : DA) : DI := fun ρ M R => ta ρ M fun ds M1 => ∃ n : Int, ds = [.int n] ∧ -(2 ^ 62) ≤ n ∧ n < 2 ^ 62 ∧ R ((List.range n.toNat).map fun i => .int (i : Nat)) (fun _ => True) M1
theorem di_rng1 {p : Pos} (hm : X.mg "range" = none) (ha : PAD X [e] ta) (hg : Gl X "range" := by rfl) (hs : starEach [e] X.env = [(false, eval e X.env)] := by rfl) : PID X tg (.Call (.Name "range" p) [e] [] pos) (dRng1 ta) :=
  (pi_range1 hg hm ha hs).weak fun σ H R ⟨z, ρ, M, R0, S, A, q, F⟩ => ⟨z, ρ, M, _, S, A, q, fun ds M1 vs H1 ⟨n, e, h1, h2, q1⟩ r1 A1 f1 => by
    subst e
    cases r1 with
    | cons r rs =>
      cases rs
      obtain rfl := rep_int r
      refine ⟨n, rfl, h1, h2, F _ _ _ _ _ q1 A1 f1 fun z' hz => ?_⟩
      have := itd_rng (K := ⟨X.K, z'⟩) (M := M1) (H := H1) (lo := 0) (n := n.toNat)
      simpa using this⟩
/-- range(m, n) -/
def dRng2 (ta : DA) : DI := fun ρ M R => ta ρ M fun ds M1 => ∃ m n : Int, ds = [.int m, .int n] ∧ (-(2 ^ 62) ≤ m ∧ m < 2 ^ 62 ∧ -(2 ^ 62) ≤ n ∧ n < 2 ^ 62) ∧ R ((List.range (n - m).toNat).map fun i => .int (m + (i : Nat))) (fun _ => True) M1
theorem di_rng2 {e2 : Expr} {p : Pos} (hm : X.mg "range" = none) (ha : PAD X [e, e2] ta) (hg : Gl X "range" := by rfl) (hs : starEach [e, e2] X.env = [(false, eval e X.env), (false, eval e2 X.env)] := by rfl) (hs2 : starEach [e2] X.env = [(false, eval e2 X.env)] := by rfl) : PID X tg (.Call (.Name "range" p) [e, e2] [] pos) (dRng2 ta) :=
  (pi_range2 hg hm ha hs hs2).weak fun σ H R ⟨z, ρ, M, R0, S, A, q, F⟩ => ⟨z, ρ, M, _, S, A, q, fun ds M1 vs H1 ⟨m, n, e, h1, q1⟩ r1 A1 f1 => by
    subst e
    cases r1 with
    | cons r rs =>
      cases rs with
      | cons r' rs =>
        cases rs
        obtain rfl := rep_int r
        obtain rfl := rep_int r'
        exact ⟨m, n, rfl, h1, F _ _ _ _ _ q1 A1 f1 fun z' hz => itd_rng⟩⟩
end
end DL

set_option Elab.async false
set_option linter.all false
set_option maxHeartbeats 4000000
/-! D-layer, part 7: items, slices, methods of lists and texts, built-ins. -/
namespace DL
open PySem PySem.Spec PyProof.Rows L2

section
variable {K : KZ} {M : Mem} {H : Hp}
theorem Reps.atI {vs : List V} {ds : List D} {i : Int} {d : D} (r : Reps K M H vs ds) (e : atI ds i = some d) : ∃ v, L2.atI vs i = some v ∧ Rep K M H v d := by
  unfold L2.atI at *
  rw [r.length]
  cases q : ixN ds.length i with
  | none => rw [q] at e; cases e
  | some j =>
    rw [q] at e
    exact r.get e
def cutD {α : Type} (xs : List α) (lo hi : Option Int) : List α := (xs.drop (HT.sIx xs.length 0 lo)).take (HT.sIx xs.length xs.length hi - HT.sIx xs.length 0 lo)
theorem Reps.cut {vs : List V} {ds : List D} (r : Reps K M H vs ds) (lo hi : Option Int) : Reps K M H (cutV vs lo hi) (cutD ds lo hi) := by
  unfold cutV cutD
  rw [r.length]
  exact (r.drop _).take _
theorem cutD_all {α : Type} {xs : List α} {lo hi : Option Int} (h : HT.sIx xs.length 0 lo = 0 ∧ HT.sIx xs.length xs.length hi = xs.length) : cutD xs lo hi = xs := by
  unfold cutD
  rw [h.1, h.2]
  simp
end

section
variable {X : Cx} {a b e : Expr} {es : List Expr} {ta tb te : DE} {t : DA} {pos : Pos}
/-! ### items -/
def dIx : D2 := fun x y M R => ∃ i, y = .int i ∧ match x with
  | .tup ds => ∃ d, atI ds i = some d ∧ R d M
  | .lst ds => ∃ d, atI ds i = some d ∧ R d M
  | .str s => s.length ≤ sizeLine ∧ ∃ c, atI s.cps.toList i = some c ∧ R (.str ⟨#[c]⟩) M
  | .ref a => ∃ ds d, M a = some (.lst ds) ∧ atI ds i = some d ∧ R d M
  | _ => False
theorem ixr_seq : IxR X (lift2 X.K dIx) := by
  intro val sli pins s σ H x y v u Q I rx ry hh hsub
  obtain ⟨z, M, dx, dy, R, A, r1, r2, ⟨i, e, h⟩, F⟩ := hh
  subst e
  obtain rfl := rep_int r2
  refine ix_seq val sli pins s σ H x _ v u Q I rx ry ?_ hsub
  split at h
  · obtain ⟨d, hd, q⟩ := h
    obtain ⟨a, vs, rfl, hr, rs⟩ := rep_tup r1
    obtain ⟨w, hw, rw⟩ := rs.atI hd
    exact .inr (.inl ⟨a, vs, i, w, rfl, rfl, hr.sq, hw, F.at_ A q rw⟩)
  · obtain ⟨d, hd, q⟩ := h
    obtain ⟨a, vs, rfl, hr, rs⟩ := rep_lst r1
    obtain ⟨w, hw, rw⟩ := rs.atI hd
    exact .inl ⟨a, vs, i, w, rfl, rfl, hr.sq, hw, F.at_ A q rw⟩
  · obtain ⟨hl, c, hc, q⟩ := h
    obtain rfl := rep_str r1
    exact .inr (.inr ⟨_, i, c, rfl, rfl, hl, hc, F.at_ A q (.str _)⟩)
  · obtain ⟨ds, d, hm, hd, q⟩ := h
    obtain rfl := rep_ref r1
    obtain ⟨vs, ea, rs⟩ := A.at_ _ _ hm
    obtain ⟨w, hw, rw⟩ := rs.atI hd
    exact .inl ⟨_, vs, i, w, rfl, rfl, .inl (.inl ea), hw, F.at_ A q rw⟩
  · exact h.elim
theorem de_ix (ha : PED X a ta) (hb : PED X b tb) (hs : PlainIx b := by exact fun _ _ => rfl) : PED X (.Subscript a b pos) (dOp dIx ta tb) := (pe_ix ixr_seq ha hb hs).weak fun _ _ _ => lift_two

/-! ### slices -/
abbrev DO := DEnv → Mem → (Option Int → Mem → Prop) → Prop
def liftO (K : PySem.W.Frag) (t : DO) : TO := fun σ H Q => ∃ z ρ M R, SAbs ⟨K, z⟩ M H ρ σ ∧ MAbs ⟨K, z⟩ M H ∧ t ρ M R ∧ ∀ o M' H', R o M' → MAbs ⟨K, z⟩ M' H' → Frame M H M' H' → Q o H'
theorem _root_.L2.PO.weak {e : Option Expr} {t t' : TO} (h : PO X e t) (w : ∀ σ H Q, t' σ H Q → t σ H Q) : PO X e t' := ⟨fun pins s σ H Q I q => h.run pins s σ H Q I (w _ _ _ q)⟩
abbrev POD (X : Cx) (e : Option Expr) (t : DO) : Prop := PO X e (liftO X.K t)
def dNoPart : DO := fun _ M R => R none M
def dPart (te : DE) : DO := fun ρ M R => te ρ M fun d M1 => ∃ i, d = .int i ∧ R (some i) M1
theorem do_none : POD X none dNoPart := po_none.weak fun σ H Q ⟨z, ρ, M, R, S, A, q, F⟩ => F none M H q A Frame.refl
theorem do_some (he : PED X e te) : POD X (some e) (dPart te) := (po_some he).weak fun σ H Q ⟨z, ρ, M, R, S, A, q, F⟩ => ⟨z, ρ, M, _, S, A, q, fun d M1 v H1 ⟨i, ed, q1⟩ r1 A1 f1 => by
  subst ed
  exact ⟨i, rep_int r1, F _ M1 H1 q1 A1 f1⟩⟩
def rSlD (x : D) (lo hi : Option Int) (M : Mem) (R : RK) : Prop := match x with
  | .tup ds => R (.tup (cutD ds lo hi)) M
  | .lst ds => R (.lst (cutD ds lo hi)) M
  | .str s => s.length ≤ sizeLine ∧ R (.str (cutS s lo hi)) M
  | .ref a => ∃ ds, M a = some (.lst ds) ∧ R (.lst (cutD ds lo hi)) M
  | _ => False
def liftSl (K : PySem.W.Frag) : V → Option Int → Option Int → Hp → VK → Prop := fun v lo hi H Q => ∃ z M x R, MAbs ⟨K, z⟩ M H ∧ Rep ⟨K, z⟩ M H v x ∧ rSlD x lo hi M R ∧ Fin ⟨K, z⟩ M H R Q
theorem slr_seq : SlR X (liftSl X.K) := by
  intro pins s σ H x v vl vu lo hi sl Q I rx hs pl pu ⟨z, M, dx, R, A, r1, h, F⟩
  unfold rSlD at h
  split at h
  · obtain ⟨a, vs, rfl, hr, rs⟩ := rep_tup r1
    refine sl_tupA pins s σ H _ v vl vu lo hi sl Q I rx hs pl pu ⟨a, vs, rfl, hr.sq, fun e => ?_, fun _ p hp => F.tup A hp (rs.cut lo hi) h⟩
    rw [rs.length] at e
    rw [cutD_all e] at h
    exact F.at_ A h (.tup hr rs)
  · obtain ⟨a, vs, rfl, hr, rs⟩ := rep_lst r1
    exact sl_list pins s σ H _ v vl vu lo hi sl Q I rx hs pl pu ⟨a, vs, rfl, hr.sq, fun p hp => F.lst A hp (rs.cut lo hi) h⟩
  · obtain rfl := rep_str r1
    exact sl_str pins s σ H _ v vl vu lo hi sl Q I rx hs pl pu ⟨_, rfl, h.1, F.at_ A h.2 (.str _)⟩
  · obtain ⟨ds, hm, q⟩ := h
    obtain rfl := rep_ref r1
    obtain ⟨vs, ea, rs⟩ := A.at_ _ _ hm
    exact sl_list pins s σ H _ v vl vu lo hi sl Q I rx hs pl pu ⟨_, vs, rfl, .inl (.inl ea), fun p hp => F.lst A hp (rs.cut lo hi) q⟩
  · exact h.elim
def dSl (te : DE) (tl th : DO) : DE := fun ρ M R => te ρ M fun x M1 => tl ρ M1 fun l M2 => th ρ M2 fun u M3 => rSlD x l u M3 R
theorem de_sl {lo hi : Option Expr} {tl th : DO} {p2 : Pos} (he : PED X e te) (hl : POD X lo tl) (hh : POD X hi th) : PED X (.Subscript e (.Slice lo hi none p2) pos) (dSl te tl th) :=
  (pe_slice slr_seq he hl hh).weak fun σ H Q ⟨z, ρ, M, R, S, A, q, F⟩ => ⟨z, ρ, M, _, S, A, q, fun x M1 v H1 q1 r1 A1 f1 => ⟨z, ρ, M1, _, S.fr f1, A1, q1, fun l M2 H2 q2 A2 f2 =>
    ⟨z, ρ, M2, _, S.fr (f1.trans f2), A2, q2, fun u M3 H3 q3 A3 f3 => ⟨z, M3, x, R, A3, r1.fr (f2.trans f3), q3, F.fr ((f1.trans f2).trans f3)⟩⟩⟩⟩

/-! ### x[::-1] -/
theorem fmap_congr {α β : Type} {f g : α → Option β} : ∀ {l : List α}, (∀ x ∈ l, f x = g x) → l.filterMap f = l.filterMap g
  | [], _ => rfl
  | x :: l, h => by
    rw [List.filterMap_cons, List.filterMap_cons, h x List.mem_cons_self, fmap_congr fun y hy => h y (List.mem_cons_of_mem _ hy)]
theorem tup_back {prog : Program} {w : World} {A : Around} {E : Value → Shared → Prop} {s : Shared} {t sl : Addr} {items : Array Value} {vs : Value} {Q : Value → Shared → Prop} (ht : IsTup s.heap t items) (hs : s.heap.IsSliceOf sl .none .none vs) (ps : IsPart vs (some (-1)))
    (h : Q (.ref s.heap.objs.size) { s with heap := s.heap.push { cls := .type "tuple", data := .seq items.toList.reverse.toArray } }) (hsz : items.size ≤ sizeLine) : wpAny (model prog w) A (getItem (.ref t) (.ref sl)) Q E s := by
  obtain ⟨os, hos, hcs, hds⟩ := id hs
  have hTs : s.TypeIs (.ref sl) "slice" := ⟨os, hos, hcs⟩
  have hadj : Builtin.Slice.sliceAdjust none none (-1) (items.size : Int) = ((items.size : Int) - 1, -1) := rfl
  have hpl : Builtin.Slice.slicePlaces ((items.size : Int) - 1) (-1) (-1) = items.size := by
    unfold Builtin.Slice.slicePlaces
    have h1 : ¬ ((-1 : Int) > 0) := by decide
    by_cases h2 : (items.size : Int) - 1 > -1
    · simp only [h1, h2, if_true, if_false]
      rw [show (-(-1 : Int)) = 1 by decide, Int.ediv_one]
      omega
    · simp only [h1, h2, if_false]
      omega
  have hpick : ((List.range items.size).filterMap fun (k : Nat) => items[((items.size : Int) - 1 + (k : Int) * (-1)).toNat]?).toArray = items.toList.reverse.toArray := by
    have e := PySem.W.krv_pick items
    unfold slicePick at e
    rw [PySem.W.krv_bounds] at e
    rw [← e]
    show _ = ((sliceRange ((items.size : Int) - 1) (-1) (-1)).filterMap (items[·]?)).toArray
    rw [PySem.W.krv_sliceRange, List.filterMap_map]
    congr 1
    refine fmap_congr fun k hk => ?_
    have hk := List.mem_range.mp hk
    show items[_]? = items[items.size - 1 - k]?
    congr 1
    omega
  unfold getItem
  try with_reducible refine wpAny_holding ?_
  first | refine wpAny_bind (wpAny_pure ?_) | skip
  refine wpAny_bind (wpAny_sequenceKey ht.typeIs (by decide) ?_)
  refine wpAny_bind (wpAny_callSpecial?_slot (name := Str.ofString "__getitem__") ht.typeIs PyProof.Rows.slot_tuple_getitem (wpAny_call_entry PyProof.Rows.slot_tuple_getitem ht.typeIs entry_tuple_getitem ?_ (args_tuple_getitem _ _)))
  show wpAny _ _ (Builtin.Tuple.tupleItemsOf (.ref t) >>= _) _ _ s
  refine wpAny_bind (tupleItemsOf_ ht ?_)
  refine wpAny_bind (wpAny_typeOf hTs ?_)
  rw [if_pos (by decide)]
  refine wpAny_bind ?_
  · unfold Builtin.Slice.sliceApplied Builtin.Slice.sliceFields
    refine wpAny_bind (wpAny_bind (wpAny_field hos hds (x := .none) rfl (wpAny_bind (wpAny_field hos hds (x := .none) rfl (wpAny_bind (wpAny_field hos hds (x := vs) rfl (wpAny_pure ?_)))))))
    refine wpAny_bind (HT.slicePart_ ps ?_)
    show wpAny _ _ (if ((-1 : Int) == 0) = true then _ else _) _ _ s
    rw [if_neg (by decide)]
    refine wpAny_bind (HT.slicePart_ .none (wpAny_bind (HT.slicePart_ .none (wpAny_bind (wpAny_pure ?_)))))
    show wpAny _ _ (match Builtin.Slice.sliceAdjust none none (-1) (items.size : Int) with | (lo, hi) => pure (lo, (-1 : Int), Builtin.Slice.slicePlaces lo hi (-1))) _ _ s
    rw [hadj]
    show wpAny _ _ (pure ((items.size : Int) - 1, (-1 : Int), Builtin.Slice.slicePlaces ((items.size : Int) - 1) (-1) (-1))) _ _ s
    rw [hpl]
    refine wpAny_pure ?_
    have hno : ¬ (((items.size : Int) - 1 == 0 && (-1 : Int) == 1 && items.size == items.size) = true) := by simp
    show wpAny _ _ (if ((items.size : Int) - 1 == 0 && (-1 : Int) == 1 && items.size == items.size) = true then _ else _) _ _ s
    rw [if_neg hno, hpick]
    have htake : sizeOk (.seq items.toList.reverse.toArray) := by
      show items.toList.reverse.toArray.size ≤ sizeLine
      simpa using hsz
    first
      | exact wpAny_bind (m := Builtin.Tuple.tupleExact _) (wpAny_newObj_type (wpAny_pure ⟨_, rfl, wpAny_pure h⟩) htake)
      | exact wpAny_bind (wpAny_bind (m := Builtin.Tuple.tupleExact _) (wpAny_newObj_type (wpAny_pure ⟨_, rfl, wpAny_pure h⟩) htake))
/-- x[::-1], a tuple or a list -/
def dRev (te : DE) : DE := fun ρ M R => te ρ M fun x M1 => match x with
  | .tup ds => R (.tup ds.reverse) M1
  | .lst ds => R (.lst ds.reverse) M1
  | .ref a => ∃ ds, M1 a = some (.lst ds) ∧ R (.lst ds.reverse) M1
  | _ => False
/-- the same, the new list one that may change -/
def dRevM (te : DE) : DE := fun ρ M R => te ρ M fun x M1 => ∃ ds, ListAt M1 x ds ∧ ∀ p, M1 p = none → R (.ref p) (mset M1 p (.lst ds.reverse))
def tRevA (K : PySem.W.Frag) (te : TE) : TE := fun σ H Q => te σ H fun x H1 => ∃ a xs, x = .ref a ∧ ((SqL K H1 a xs ∧ ∀ p, H1 p = none → Q (.ref p) (upd H1 p (.lst xs.reverse))) ∨ (SqT K H1 a xs ∧ ∀ p, H1 p = none → Q (.ref p) (upd H1 p (.tup xs.reverse))))
theorem pe_revA {te : TE} {k : Nat} {p1 p2 p3 : Pos} (he : PE X e te) : PE X (.Subscript e (.Slice none none (some (.UnaryOp .USub (.Constant (.int 1) k p1) p2)) p3) pos) (tRevA X.K te) := by
  refine ⟨fun pins s σ H Q I h => ?_⟩
  refine Subscript_ (thn (he.run pins s σ H _ I h) fun v s1 ⟨x, H1, I1, r1, a, xs, ex, hx⟩ => ?_)
  subst ex
  cases r1
  have hst : PO X (some (.UnaryOp .USub (.Constant (.int 1) k p1) p2)) (tPart (tUn (rU fun i => .int (-i)) (tC (.int 1)))) := po_some (pe_un un_neg pe_int)
  refine wpAny_Slice (thn (po_none.run pins s1 σ H1 (fun o H2 => o = none ∧ H2 = H1) I1 ⟨rfl, rfl⟩) fun vl s2 ⟨l, H2, I2, pl, el, e2⟩ => ?_)
  subst el e2
  refine thn (po_none.run pins s2 σ H2 (fun o H3 => o = none ∧ H3 = H2) I2 ⟨rfl, rfl⟩) fun vu s3 ⟨u, H3, I3, pu, eu, e3⟩ => ?_
  subst eu e3
  refine thn (hst.run pins s3 σ H3 (fun o H4 => o = some (-1) ∧ H4 = H3) I3 ⟨1, rfl, -1, rfl, rfl, rfl⟩) fun vs s4 ⟨o, H4, I4, ps, eo, e4⟩ => ?_
  subst eo e4
  have I5 : Inv X pins σ H4 { s4 with heap := s4.heap.push { cls := .type "slice", data := .fields #[vl, vu, vs] } } := I4.kept (t' := s4.toks) fun b ob q => Heap.get?_push_of_some _ q
  have nw := I5.hok.fresh (Nat.le_refl _)
  rcases hx with ⟨hx, q⟩ | ⟨hx, q⟩
  · obtain ⟨its, r, ht, hz⟩ := I5.list hx
    refine tail_any (ops := [.ref a, .ref s4.heap.objs.size]) ht.isList.typeIs (PySem.slot_list_getitem.lookup) ?_ (by with_unfolding_all rfl)
    refine wpAny_getItem_list_slice ht.isList (Heap.IsSliceOf.new _ vl vu vs) pl pu ps (by decide) ?_ (by rw [List.size_toArray, ← r.length]; exact hz)
    rw [PySem.W.krv_pick]
    exact ⟨.ref _, _, I5.laid (t' := s4.toks) (o := .lst xs.reverse) (fun b ob q => Heap.get?_push_of_some _ q) (Nat.le_refl _) ⟨by rw [List.length_reverse]; exact hz, _, 0, r.reverse, Heap.get?_push_size _ rfl⟩, rfl, q _ nw⟩
  · obtain ⟨its, r, ht, hz⟩ := I5.tuple hx
    obtain rfl : vl = .none := by cases pl; rfl
    obtain rfl : vu = .none := by cases pu; rfl
    refine tail_any (ops := [.ref a, .ref s4.heap.objs.size]) ht.typeIs PyProof.Rows.slot_tuple_getitem.lookup ?_ (by with_unfolding_all rfl)
    refine tup_back ht (Heap.IsSliceOf.new _ .none .none vs) ps ?_ (by rw [List.size_toArray, ← r.length]; exact hz)
    exact ⟨.ref _, _, I5.laid (t' := s4.toks) (o := .tup xs.reverse) (fun b ob q => Heap.get?_push_of_some _ q) (Nat.le_refl _) ⟨by rw [List.length_reverse]; exact hz, _, r.reverse, IsTup.new _ _⟩, rfl, q _ nw⟩
theorem de_rev {k : Nat} {p1 p2 p3 : Pos} (he : PED X e te) : PED X (.Subscript e (.Slice none none (some (.UnaryOp .USub (.Constant (.int 1) k p1) p2)) p3) pos) (dRev te) :=
  (pe_revA he).weak fun σ H Q ⟨z, ρ, M, R, S, A, q, F⟩ => ⟨z, ρ, M, _, S, A, q, fun x M1 v H1 q1 r1 A1 f1 => by
    cases x with
    | tup ds =>
      obtain ⟨a, vs, rfl, hr, rs⟩ := rep_tup r1
      exact ⟨a, vs, rfl, .inr ⟨hr.sq, fun p hp => (F.fr f1).tup A1 hp rs.reverse q1⟩⟩
    | lst ds =>
      obtain ⟨a, vs, rfl, hr, rs⟩ := rep_lst r1
      exact ⟨a, vs, rfl, .inl ⟨hr.sq, fun p hp => (F.fr f1).lst A1 hp rs.reverse q1⟩⟩
    | ref a =>
      obtain ⟨ds, hm, q1⟩ := q1
      obtain rfl := rep_ref r1
      obtain ⟨vs, ea, rs⟩ := A1.at_ _ _ hm
      exact ⟨a, vs, rfl, .inl ⟨.inl (.inl ea), fun p hp => (F.fr f1).lst A1 hp rs.reverse q1⟩⟩
    | _ => exact q1.elim⟩
theorem de_revM {k : Nat} {p1 p2 p3 : Pos} (he : PED X e te) : PED X (.Subscript e (.Slice none none (some (.UnaryOp .USub (.Constant (.int 1) k p1) p2)) p3) pos) (dRevM te) :=
  (pe_revA he).weak fun σ H Q ⟨z, ρ, M, R, S, A, q, F⟩ => ⟨z, ρ, M, _, S, A, q, fun x M1 v H1 ⟨ds, l, q1⟩ r1 A1 f1 => by
    obtain ⟨a, vs, rfl, hr, rs⟩ := rep_list A1 r1 l
    exact ⟨a, vs, rfl, .inl ⟨hr, fun p hp => (F.fr f1).lstM A1 hp rs.reverse (q1 p (A1.free hp))⟩⟩⟩

/-! ### methods -/
def tyM (T : String) (d : D) (M : Mem) : Prop := (T = "str" ∧ ∃ x, d = .str x) ∨ (T = "list" ∧ ∃ ds, ListAt M d ds) ∨ (T = "dict" ∧ ∃ a ks ds, d = .ref a ∧ M a = some (.dct ks ds))
theorem tyM_is {K : KZ} {M : Mem} {H : Hp} {v : V} {d : D} {T : String} (A : MAbs K M H) (r : Rep K M H v d) (h : tyM T d M) : tyV K.k T v H := by
  rcases h with ⟨rfl, x, rfl⟩ | ⟨rfl, ds, l⟩ | ⟨rfl, a, ks, ds, rfl, m⟩
  · obtain rfl := rep_str r
    exact rfl
  · obtain ⟨a, vs, rfl, hr, rs⟩ := rep_list A r l
    exact .inl ⟨rfl, vs, hr⟩
  · obtain rfl := rep_ref r
    obtain ⟨kvs, ea, _⟩ := A.at_ _ _ m
    exact .inr (.inr (.inl ⟨rfl, .inl ⟨kvs, ea⟩⟩))
def dMeth0 (T : String) (r : DM) (to : DE) : DE := fun ρ M R => to ρ M fun d M1 => tyM T d M1 ∧ r d [] M1 R
def dMeth (T : String) (r : DM) (to : DE) (t : DA) : DE := fun ρ M R => to ρ M fun d M1 => tyM T d M1 ∧ t ρ M1 fun ds M2 => r d ds M2 R
variable {o : Expr} {to : DE} {name : Str} {apos cpos : Pos} {T id : String} {r : DM}
theorem de_meth0 (pa : PlainAttrs T) (slot : Slot T name id) (hty : typeOf (.builtin id) = pure (.type "method_descriptor")) (hm : MtR X id (liftM X.K r)) (ho : PED X o to)
    (hbase : attributeBase o name X.env (eval o X.env) = eval o X.env := by rfl) (hline : (apos.endLine == cpos.line) = true := by rfl) : PED X (.Call (.Attribute o name apos) [] [] cpos) (dMeth0 T r to) :=
  (pe_bm0 pa slot hty hm ho hbase hline).weak fun σ H Q ⟨z, ρ, M, R, S, A, q, F⟩ => ⟨z, ρ, M, _, S, A, q, fun d M1 v H1 ⟨ty, q1⟩ r1 A1 f1 => ⟨tyM_is A1 r1 ty, z, M1, d, [], R, A1, r1, .nil, q1, F.fr f1⟩⟩
theorem de_meth (pa : PlainAttrs T) (slot : Slot T name id) (hty : typeOf (.builtin id) = pure (.type "method_descriptor")) (hm : MtR X id (liftM X.K r)) (ho : PED X o to) (ha : PAD X (e :: es) t)
    (hbase : attributeBase o name X.env (eval o X.env) = eval o X.env := by rfl)
    (hfew : ((backTo cpos (starEach (e :: es) X.env)).all (fun x => !x.1) && (backToKw cpos (keywordEach [] X.env)).all (fun x => x.1.isSome)
      && decide ((e :: es).length + ([] : List Keyword).length + (if ([] : List Keyword).isEmpty then 0 else 1) < 30)) = true := by rfl)
    (hline : (apos.endLine == cpos.line) = true := by rfl) (hs : starEach (e :: es) X.env = (false, eval e X.env) :: starEach es X.env := by rfl) (hplain : (backTo cpos (starEach es X.env)).any (·.1) = false := by rfl) :
    PED X (.Call (.Attribute o name apos) (e :: es) [] cpos) (dMeth T r to t) :=
  (pe_bm pa slot hty hm ho ha hbase hfew hline hs hplain).weak fun σ H Q ⟨z, ρ, M, R, S, A, q, F⟩ => ⟨z, ρ, M, _, S, A, q, fun d M1 v H1 ⟨ty, q1⟩ r1 A1 f1 => ⟨tyM_is A1 r1 ty,
    z, ρ, M1, _, S.fr f1, A1, q1, fun ds M2 us H2 q2 r2 A2 f2 => ⟨z, M2, d, ds, R, A2, r1.fr f2, r2, q2, F.fr (f1.trans f2)⟩⟩⟩
theorem _root_.L2.MtM.toR {id : String} {r : V → List V → Hp → VK → Prop} (h : MtM X id r) : MtR X id r := fun pins s σ H x xs v us Q I a b c => h pins s σ H x xs v us Q I a b c
/-- the memory's list at a is another one -/
theorem Fin.wrL {K : KZ} {M : Mem} {H : Hp} {R : RK} {Q : VK} (F : Fin K M H R Q) (A : MAbs K M H) {a : Addr} {ds es : List D} {vs : List V} {d : D} {v : V} (e : M a = some (.lst ds)) (rs : Reps K M H vs es) (r : Rep K M H v d) (q : R d (mset M a (.lst es))) : Q v (upd H a (.lst vs)) :=
  F _ _ _ _ q (r.fr (Frame.wr e)) (A.wr e True.intro ⟨vs, upd_same, rs.fr (Frame.wr e)⟩) (Frame.wr e)
def dAppend : DM := fun d xs M R => ∃ a ds y, d = .ref a ∧ xs = [y] ∧ M a = some (.lst ds) ∧ ds.length < sizeLine ∧ R .non (mset M a (.lst (ds ++ [y])))
def dExtend : DM := fun d xs M R => ∃ a ds y es, d = .ref a ∧ xs = [y] ∧ M a = some (.lst ds) ∧ ListAt M y es ∧ ds.length + es.length ≤ sizeLine ∧ R .non (mset M a (.lst (ds ++ es)))
def dPop : DM := fun d xs M R => ∃ a ds y, d = .ref a ∧ xs = [] ∧ M a = some (.lst ds) ∧ ds[ds.length - 1]? = some y ∧ R y (mset M a (.lst ds.dropLast))
theorem md_append : MtR X "list.append" (liftM X.K dAppend) := mt_append.toR.weak fun x xs H Q ⟨z, M, d, ds, R, A, r1, r2, ⟨a, es, y, e1, e2, hm, hl, q⟩, F⟩ => by
  subst e1 e2
  obtain rfl := rep_ref r1
  obtain ⟨vs, ea, rs⟩ := A.at_ _ _ hm
  cases r2 with
  | cons r2 r3 =>
    cases r3
    exact ⟨a, vs, _, rfl, rfl, ea, by rw [rs.length]; exact hl, F.wrL A hm (rs.append (.cons r2 .nil)) .non q⟩
theorem md_pop : MtR X "list.pop" (liftM X.K dPop) := mt_pop.toR.weak fun x xs H Q ⟨z, M, d, ds, R, A, r1, r2, ⟨a, es, y, e1, e2, hm, hy, q⟩, F⟩ => by
  subst e1 e2
  obtain rfl := rep_ref r1
  obtain ⟨vs, ea, rs⟩ := A.at_ _ _ hm
  cases r2
  obtain ⟨v, hv, rv⟩ := rs.get hy
  exact ⟨a, vs, v, rfl, rfl, ea, by rw [rs.length]; exact hv, F.wrL A hm rs.dropLast rv q⟩
theorem strs_of {K : KZ} {M : Mem} {H : Hp} : ∀ {vs : List V} (ys : List Str), Reps K M H vs (ys.map .str) → vs = ys.map .str
  | _, [], h => by cases h; rfl
  | _, y :: ys, h => by
    cases h with
    | cons r t =>
      obtain rfl := rep_str r
      rw [strs_of ys t]
      rfl
theorem bools_of {K : KZ} {M : Mem} {H : Hp} : ∀ {vs : List V} (ys : List Bool), Reps K M H vs (ys.map .bl) → vs = ys.map .bl
  | _, [], h => by cases h; rfl
  | _, y :: ys, h => by
    cases h with
    | cons r t =>
      obtain rfl := rep_bl r
      rw [bools_of ys t]
      rfl
def dJoin : DM := fun d xs M R => ∃ a y, ∃ ys : List Str, d = .str a ∧ xs = [y] ∧ (ListAt M y (ys.map .str) ∨ y = .tup (ys.map .str)) ∧ (ys.map (·.length)).sum + ys.length * a.length ≤ 16777216 ∧ R (.str (Txt.join a ys)) M
theorem md_join : MtR X "str.join" (liftM X.K dJoin) := mt_join.weak fun x xs H Q ⟨z, M, d, ds, R, A, r1, r2, ⟨a, y, ys, e1, e2, hm, hl, q⟩, F⟩ => by
  subst e1 e2
  obtain rfl := rep_str r1
  cases r2 with
  | cons r2 r3 =>
    cases r3
    rcases hm with hm | hm
    · obtain ⟨p, vs, rfl, hr, rs⟩ := rep_list A r2 hm
      obtain rfl := strs_of ys rs
      exact ⟨a, p, ys, rfl, rfl, .inl hr, hl, F.at_ A q (.str _)⟩
    · subst hm
      obtain ⟨p, vs, rfl, hr, rs⟩ := rep_tup r2
      obtain rfl := strs_of ys rs
      exact ⟨a, p, ys, rfl, rfl, .inr hr.sq, hl, F.at_ A q (.str _)⟩
def dUpper : DM := fun d xs M R => ∃ a, d = .str a ∧ xs = [] ∧ a.length ≤ 5592405 ∧ R (.str (Txt.upper a)) M
theorem md_upper : MtR X "str.upper" (liftM X.K dUpper) := mt_upper.weak fun x xs H Q ⟨z, M, d, ds, R, A, r1, r2, ⟨a, e1, e2, hl, q⟩, F⟩ => by
  subst e1 e2
  obtain rfl := rep_str r1
  cases r2
  exact ⟨a, rfl, rfl, hl, F.at_ A q (.str _)⟩

/-! ### built-ins by name -/
def dInt1 : DN := fun xs M R => (∃ i, xs = [.int i] ∧ R (.int i) M) ∨ ∃ k, xs = [.bl k] ∧ R (.int (if k then 1 else 0)) M
theorem cd_int1 : CallR X (.type "int") (liftN X.K dInt1) := call_int1.weak fun xs H Q ⟨z, M, ds, R, A, r, h, F⟩ => by
  rcases h with ⟨i, e, q⟩ | ⟨k, e, q⟩
  · subst e
    obtain rfl := Reps.of_ints [i] r
    exact .inl ⟨i, rfl, F.at_ A q (.int _)⟩
  · subst e
    obtain rfl := bools_of [k] r
    exact .inr ⟨k, rfl, F.at_ A q (.int _)⟩
def dMax2 : DN := fun xs M R => ∃ i j, xs = [.int i, .int j] ∧ R (.int (if j > i then j else i)) M
def dMin2 : DN := fun xs M R => ∃ i j, xs = [.int i, .int j] ∧ R (.int (if j < i then j else i)) M
theorem cd_max2 (hc : X.calm = true) : CallR X (.builtin "max") (liftN X.K dMax2) := (call_max2 hc).weak fun xs H Q ⟨z, M, ds, R, A, r, ⟨i, j, e, q⟩, F⟩ => by
  subst e
  obtain rfl := Reps.of_ints [i, j] r
  exact ⟨i, j, rfl, F.at_ A q (.int _)⟩
theorem cd_min2 (hc : X.calm = true) : CallR X (.builtin "min") (liftN X.K dMin2) := (call_min2 hc).weak fun xs H Q ⟨z, M, ds, R, A, r, ⟨i, j, e, q⟩, F⟩ => by
  subst e
  obtain rfl := Reps.of_ints [i, j] r
  exact ⟨i, j, rfl, F.at_ A q (.int _)⟩
def dLen : DN := fun xs M R => ∃ x, xs = [x] ∧ match x with
  | .tup ds => R (.int ds.length) M
  | .lst ds => R (.int ds.length) M
  | .str s => s.length ≤ sizeLine ∧ R (.int s.length) M
  | .ref a => ∃ ds, M a = some (.lst ds) ∧ R (.int ds.length) M
  | _ => False
theorem cd_len : CallR X (.builtin "len") (liftN X.K dLen) := CallR.cases fun xs H Q ⟨z, M, ds, R, A, r, ⟨x, e, h⟩, F⟩ => by
  subst e
  cases r with
  | cons r rs =>
    cases rs
    split at h
    · obtain ⟨p, vs, rfl, hr, rs⟩ := rep_tup r
      exact ⟨_, call_len_seq, p, vs, rfl, .inr hr.sq, by rw [rs.length]; exact F.at_ A h (.int _)⟩
    · obtain ⟨p, vs, rfl, hr, rs⟩ := rep_lst r
      exact ⟨_, call_len_seq, p, vs, rfl, .inl hr.sq, by rw [rs.length]; exact F.at_ A h (.int _)⟩
    · obtain rfl := rep_str r
      exact ⟨_, call_len_str, _, rfl, h.1, F.at_ A h.2 (.int _)⟩
    · obtain ⟨ds, hm, q⟩ := h
      obtain rfl := rep_ref r
      obtain ⟨vs, ea, rs⟩ := A.at_ _ _ hm
      exact ⟨_, call_len_seq, _, vs, rfl, .inl (.inl (.inl ea)), by rw [rs.length]; exact F.at_ A q (.int _)⟩
    · exact h.elim
/-- list(x): frozen -/
def dList : DN := fun xs M R => ∃ x ds, xs = [x] ∧ (x = .tup ds ∨ ListAt M x ds) ∧ R (.lst ds) M
theorem cd_list : CallR X (.type "list") (liftN X.K dList) := call_list_of.weak fun xs H Q ⟨z, M, ds, R, A, r, ⟨x, es, e, h, q⟩, F⟩ => by
  subst e
  cases r with
  | cons r rs =>
    cases rs
    rcases h with h | h
    · subst h
      obtain ⟨p, vs, rfl, hr, rs⟩ := rep_tup r
      exact ⟨p, vs, rfl, .inr hr.sq, fun l hl => F.lst A hl rs q⟩
    · obtain ⟨p, vs, rfl, hr, rs⟩ := rep_list A r h
      exact ⟨p, vs, rfl, .inl hr, fun l hl => F.lst A hl rs q⟩
def dTuple : DN := fun xs M R => ∃ x ds, xs = [x] ∧ (x = .tup ds ∨ ListAt M x ds) ∧ R (.tup ds) M
theorem cd_tuple : CallR X (.type "tuple") (liftN X.K dTuple) := call_tuple_of.weak fun xs H Q ⟨z, M, ds, R, A, r, ⟨x, es, e, h, q⟩, F⟩ => by
  subst e
  cases r with
  | cons r rs =>
    cases rs
    rcases h with h | h
    · subst h
      obtain ⟨p, vs, rfl, hr, rs⟩ := rep_tup r
      exact ⟨p, vs, rfl, .inr ⟨hr.sq, F.at_ A q (.tup hr rs)⟩⟩
    · obtain ⟨p, vs, rfl, hr, rs⟩ := rep_list A r h
      exact ⟨p, vs, rfl, .inl ⟨hr, fun l hl => F.tup A hl rs q⟩⟩
def dStrInt : DN := fun xs M R => ∃ i, xs = [.int i] ∧ i.natAbs.log2 < 1920 ∧ R (.str (toString i)) M
theorem cd_strInt : CallR X (.type "str") (liftN X.K dStrInt) := call_str_int.weak fun xs H Q ⟨z, M, ds, R, A, r, ⟨i, e, h, q⟩, F⟩ => by
  subst e
  obtain rfl := Reps.of_ints [i] r
  exact ⟨i, rfl, h, F.at_ A q (.str _)⟩
def dAll : DN := fun xs M R => ∃ x, ∃ bs : List Bool, xs = [x] ∧ ListAt M x (bs.map .bl) ∧ R (.bl (bs.all fun b => b)) M
def dAny : DN := fun xs M R => ∃ x, ∃ bs : List Bool, xs = [x] ∧ ListAt M x (bs.map .bl) ∧ R (.bl (bs.any fun b => b)) M
theorem cd_all (hc : X.calm = true) : CallR X (.builtin "all") (liftN X.K dAll) := (cr_all hc).weak fun xs H Q ⟨z, M, ds, R, A, r, ⟨x, bs, e, h, q⟩, F⟩ => by
  subst e
  cases r with
  | cons r rs =>
    cases rs
    obtain ⟨p, vs, rfl, hr, rs⟩ := rep_list A r h
    obtain rfl := bools_of bs rs
    exact ⟨p, bs, rfl, hr, F.at_ A q (.bl _)⟩
theorem cd_any (hc : X.calm = true) : CallR X (.builtin "any") (liftN X.K dAny) := (cr_any hc).weak fun xs H Q ⟨z, M, ds, R, A, r, ⟨x, bs, e, h, q⟩, F⟩ => by
  subst e
  cases r with
  | cons r rs =>
    cases rs
    obtain ⟨p, vs, rfl, hr, rs⟩ := rep_list A r h
    obtain rfl := bools_of bs rs
    exact ⟨p, bs, rfl, hr, F.at_ A q (.bl _)⟩
def dSum : DN := fun xs M R => ∃ x, ∃ ns : List Int, xs = [x] ∧ ListAt M x (ns.map .int) ∧ R (.int (List.sum ns)) M
theorem cd_sum (hc : X.calm = true) : CallR X (.builtin "sum") (liftN X.K dSum) := (cr_sum hc).weak fun xs H Q ⟨z, M, ds, R, A, r, ⟨x, bs, e, h, q⟩, F⟩ => by
  subst e
  cases r with
  | cons r rs =>
    cases rs
    obtain ⟨p, vs, rfl, hr, rs⟩ := rep_list A r h
    obtain rfl := Reps.of_ints bs rs
    exact ⟨p, bs, rfl, hr, F.at_ A q (.int _)⟩
/-- isinstance of a built-in class -/
def dIsi : DN := fun xs M R => ∃ x t c, xs = [x, .ty c] ∧ tyD M x = some t ∧ R (.bl (isTy t c)) M ∧ c ∈ ["int", "str", "bool", "tuple", "list", "dict"]
theorem tyD_mem {M : Mem} {d : D} {t : String} (h : tyD M d = some t) : t ∈ ["NoneType", "bool", "int", "str", "tuple", "list", "dict"] := by
  cases d with
  | ref a =>
    have e' : (match M a with
      | some (.lst _) => some "list"
      | some (.dct _ _) => some "dict"
      | some (.deck _ _) => some "dict"
      | _ => none) = some t := h
    split at e' <;> cases e' <;> decide
  | _ => cases h <;> decide
theorem kit_all : ∀ t ∈ ["NoneType", "bool", "int", "str", "tuple", "list", "dict"], ∀ c ∈ ["int", "str", "bool", "tuple", "list", "dict"], L2.kitB t c = some (isTy t c) := by decide +kernel
theorem cd_isi : CallR X (.builtin "isinstance") (liftN X.K dIsi) := call_isi.weak fun xs H Q ⟨z, M, ds, R, A, r, ⟨x, t, c, e, h, q, hc⟩, F⟩ => by
  subst e
  cases r with
  | cons r rs =>
    cases rs with
    | cons r2 rs =>
      cases rs
      obtain rfl := rep_ty r2
      exact ⟨_, .ty c, .type t, .type c, isTy t c, rfl, .ty c, tyD_is A r h, kit_ty (kit_all t (tyD_mem h) c hc), F.at_ A q (.bl _)⟩
end
end DL

set_option Elab.async false
set_option linter.all false
set_option maxHeartbeats 4000000
/-! D-layer, part 8: == and !=, in and not in. -/
namespace DL
open PySem PySem.Spec PyProof.Rows L2

/-! ### a dict beside a text -/
section
variable {A : Around} {s : Shared}
theorem dict_eq_not_str (l : Addr) (es : Array DictEntry) (n : Nat) (sl : Array (Option Value)) (b : Str) (u : Tok) :
    Meets (Builtin.«dict.__eq__» ⟨[.ref l, .str b u], []⟩) (fun _ R s => s.heap.get? l = some { cls := .type "dict", dict := none, data := .dict es n, slots := sl } ∧ R (.ok (.ret .notImplemented)) s) :=
  .of_wp fun prog w A R s h => by obtain ⟨hp, g, d, tk, os⟩ := s; obtain ⟨hl, h⟩ := h; have f1 := F.sub_str_dict; wp_walk using wpAny_load hl; exact ⟨_, rfl, h⟩
theorem dict_ne_not_str (l : Addr) (es : Array DictEntry) (n : Nat) (sl : Array (Option Value)) (b : Str) (u : Tok) :
    Meets (Builtin.«dict.__ne__» ⟨[.ref l, .str b u], []⟩) (fun _ R s => s.heap.get? l = some { cls := .type "dict", dict := none, data := .dict es n, slots := sl } ∧ R (.ok (.ret .notImplemented)) s) :=
  .of_wp fun prog w A R s h => by obtain ⟨hp, g, d, tk, os⟩ := s; obtain ⟨hl, h⟩ := h; have f1 := F.sub_str_dict; wp_walk using wpAny_load hl; exact ⟨_, rfl, h⟩
theorem str_eq_not_dict (b : Str) (u : Tok) (l : Addr) (es : Array DictEntry) (n : Nat) (sl : Array (Option Value)) :
    Meets (Builtin.«str.__eq__» ⟨[.str b u, .ref l], []⟩) (fun _ R s => s.heap.get? l = some { cls := .type "dict", dict := none, data := .dict es n, slots := sl } ∧ R (.ok (.ret .notImplemented)) s) :=
  .of_wp fun prog w A R s h => by obtain ⟨hp, g, d, tk, os⟩ := s; obtain ⟨hl, h⟩ := h; wp_walk using wpAny_loadPart' hl, wpAny_load hl; exact ⟨_, rfl, h⟩
theorem str_ne_not_dict (b : Str) (u : Tok) (l : Addr) (es : Array DictEntry) (n : Nat) (sl : Array (Option Value)) :
    Meets (Builtin.«str.__ne__» ⟨[.str b u, .ref l], []⟩) (fun _ R s => s.heap.get? l = some { cls := .type "dict", dict := none, data := .dict es n, slots := sl } ∧ R (.ok (.ret .notImplemented)) s) :=
  .of_wp fun prog w A R s h => by obtain ⟨hp, g, d, tk, os⟩ := s; obtain ⟨hl, h⟩ := h; wp_walk using wpAny_loadPart' hl, wpAny_load hl; exact ⟨_, rfl, h⟩
theorem rcAt_dict_str {l : Addr} {o : Obj} {es : Array DictEntry} {n : Nat} (b : Str) (u : Tok) (ho : s.heap.get? l = some o) (hx : o.ExactDict) (hd : o.data = .dict es n) (hu : A.units < cLine) : SeqAt.RcAt A s (.ref l) (.str b u) false := fun prog w E Q h => by
  obtain ⟨cls, dd, data, sl⟩ := o
  obtain ⟨h1, h2, h3⟩ := hx
  simp only at h1 h2 hd
  subst h1 h2 hd
  exact SeqAt.rc_eq_decline_or (k := false) ⟨_, ho, rfl⟩ (typeIs_str s b u) (by decide) F.sub_str_dict F.slot_dict_eq F.slot_str_eq_refl
    (fun _ hq => call_meets F.slot_dict_eq ⟨_, ho, rfl⟩ F.entry_dict_eq (F.args_dict_eq_2 _ _) (dict_eq_not_str l es n sl b u) ⟨ho, hq⟩)
    (fun _ hq => call_meets F.slot_str_eq_refl (typeIs_str s b u) F.entry_str_eq (F.args_str_eq_2 _ _) (str_eq_not_dict b u l es n sl) ⟨ho, hq⟩)
    (fun _ hq => wpAny_of_eq (rfl : isSame (.ref l) (.str b u) = pure false) hq) (.inr hu) h
theorem rcNeAt_dict_str {l : Addr} {o : Obj} {es : Array DictEntry} {n : Nat} (b : Str) (u : Tok) (ho : s.heap.get? l = some o) (hx : o.ExactDict) (hd : o.data = .dict es n) (hu : A.units < cLine) : SeqAt.RcNeAt A s (.ref l) (.str b u) true := fun prog w E Q h => by
  obtain ⟨cls, dd, data, sl⟩ := o
  obtain ⟨h1, h2, h3⟩ := hx
  simp only at h1 h2 hd
  subst h1 h2 hd
  exact SeqAt.rc_ne_decline_or (k := false) ⟨_, ho, rfl⟩ (typeIs_str s b u) (by decide) F.sub_str_dict F.slot_dict_ne F.slot_str_ne_refl
    (fun _ hq => call_meets F.slot_dict_ne ⟨_, ho, rfl⟩ F.entry_dict_ne (F.args_dict_ne_2 _ _) (dict_ne_not_str l es n sl b u) ⟨ho, hq⟩)
    (fun _ hq => call_meets F.slot_str_ne_refl (typeIs_str s b u) F.entry_str_ne (F.args_str_ne_2 _ _) (str_ne_not_dict b u l es n sl) ⟨ho, hq⟩)
    (fun _ hq => wpAny_of_eq (rfl : isSame (.ref l) (.str b u) = pure false) hq) (.inr hu) h
end

/-! ### as data of the library -/
mutual
def toPy : D → Option PyData
  | .non => some .none
  | .bl b => some (.bool b)
  | .int i => some (.int i)
  | .str x => some (.str x)
  | .tup ds => (toPys ds).map .tuple
  | .lst ds => (toPys ds).map .list
  | _ => none
def toPys : List D → Option (List PyData)
  | [] => some []
  | d :: ds => match toPy d, toPys ds with
    | some p, some ps => some (p :: ps)
    | _, _ => none
end
def pyOf (M : Mem) : D → Option PyData
  | .ref a => match M a with
    | some (.lst ds) => (toPys ds).map .list
    | _ => none
  | d => toPy d
section
variable {K : KZ} {M : Mem} {H : Hp}
mutual
theorem Rep.dp : ∀ {v : V} {d : D} {p : PyData}, Rep K M H v d → toPy d = some p → Dp K.k H v p
  | _, _, _, .non, e => by cases e; exact .non
  | _, _, _, .bl b, e => by cases e; exact .bl b
  | _, _, _, .int i, e => by cases e; exact .int i
  | _, _, _, .str x, e => by cases e; exact .str x
  | _, _, _, .ty n, e => by cases e
  | _, _, _, .ref a, e => by cases e
  | _, _, _, .tup (ds := ds) h r, e => by
    have e' : (toPys ds).map PyData.tuple = some _ := e
    cases q : toPys ds with
    | none => rw [q] at e'; cases e'
    | some ps =>
      rw [q] at e'
      cases e'
      exact .tup h.sq (Reps.dp r q)
  | _, _, _, .lst (ds := ds) h r, e => by
    have e' : (toPys ds).map PyData.list = some _ := e
    cases q : toPys ds with
    | none => rw [q] at e'; cases e'
    | some ps =>
      rw [q] at e'
      cases e'
      exact .lst h.sq (Reps.dp r q)
  | _, _, _, .dct _ _ _ _, e => by cases e
theorem Reps.dp : ∀ {vs : List V} {ds : List D} {ps : List PyData}, Reps K M H vs ds → toPys ds = some ps → DpAll K.k H vs ps
  | _, _, _, .nil, e => by cases e; exact .nil
  | _, _, _, .cons (d := d) (ds := ds) r rs, e => by
    have e' : (match toPy d, toPys ds with
      | some p, some ps => some (p :: ps)
      | _, _ => none) = some _ := e
    cases q1 : toPy d with
    | none => rw [q1] at e'; cases e'
    | some p =>
      cases q2 : toPys ds with
      | none => rw [q1, q2] at e'; cases e'
      | some ps =>
        rw [q1, q2] at e'
        cases e'
        exact .cons (Rep.dp r q1) (Reps.dp rs q2)
end
theorem rep_pyOf (A : MAbs K M H) {v : V} {d : D} {p : PyData} (r : Rep K M H v d) (e : pyOf M d = some p) : Dp K.k H v p := by
  cases d with
  | ref a =>
    obtain rfl := rep_ref r
    cases q : M a with
    | none => simp only [pyOf, q] at e; cases e
    | some o =>
      cases o with
      | lst ds =>
        simp only [pyOf, q] at e
        obtain ⟨vs, ea, rs⟩ := A.at_ _ _ q
        cases q2 : toPys ds with
        | none => rw [q2] at e; cases e
        | some ps =>
          rw [q2] at e
          cases e
          exact .lst (.inl (.inl ea)) (rs.dp q2)
      | _ => simp only [pyOf, q] at e; cases e
  | _ => exact r.dp e
end

/-! ### == and != -/
def isStr : D → Str → Bool
  | .str x, y => x == y
  | _, _ => false
/-- whether two values are equal, where one can tell -/
def EqD (M : Mem) (x y : D) (k : Bool) : Prop := match x, y with
  | x, .str s => tyD M x ≠ none ∧ k = isStr x s
  | .tup ds, .tup [] => k = ds.isEmpty
  | .lst ds, .lst [] => k = ds.isEmpty
  | x, y => ∃ p q, pyOf M x = some p ∧ pyOf M y = some q ∧ SeqAt.shaped p = true ∧ SeqAt.shaped q = true ∧ k = PyData.eqv p q
def dEq : D2 := fun x y M R => ∃ k, EqD M x y k ∧ R (.bl k) M
def dNe : D2 := fun x y M R => ∃ k, EqD M x y k ∧ R (.bl (!k)) M
section
variable {X : Cx}
/-- == and != in one: what the machine finds -/
theorem eqD_run {pins : List (Addr × Obj)} {s : Shared} {σ : L2.St} {H : Hp} {z : Addr → Prop} {M : Mem} {v u : V} {x y : D} {a b : Value} {k : Bool} (hu : X.A.units + 64 < cLine) (I : Inv X pins σ H s) (A : MAbs ⟨X.K, z⟩ M H)
    (rv : RelV v a) (ru : RelV u b) (rx : Rep ⟨X.K, z⟩ M H v x) (ry : Rep ⟨X.K, z⟩ M H u y) (h : EqD M x y k) : SeqAt.RcAt X.A s a b k ∧ SeqAt.RcNeAt X.A s a b (!k) := by
  have hu0 : X.A.units < cLine := by omega
  have gen : ∀ {p q : PyData}, Dp X.K H v p → Dp X.K H u q → SeqAt.shaped p = true → SeqAt.shaped q = true → SeqAt.RcAt X.A s a b (PyData.eqv p q) ∧ SeqAt.RcNeAt X.A s a b (!PyData.eqv p q) := fun {p q} d1 d2 s1 s2 => by
    obtain ⟨as, r1⟩ := Dp.reads I p v a d1 rv
    obtain ⟨bs, r2⟩ := Dp.reads I q u b d2 ru
    exact ⟨SeqAt.rcAt_reads r1 r2 (SeqAt.canLay_of_shaped s1) (SeqAt.canLay_of_shaped s2) (SeqAt.room_of_shaped s1 hu), SeqAt.rcNeAt_reads r1 r2 (SeqAt.canLay_of_shaped s1) (SeqAt.canLay_of_shaped s2) (SeqAt.room_of_shaped s1 hu)⟩
  unfold EqD at h
  split at h
  · -- a text on the right
    rename_i y0
    obtain ⟨ht, rfl⟩ := h
    obtain rfl := rep_str ry
    obtain ⟨tk, rfl⟩ := ru
    have seq : ∀ {l : Addr} {us : List V}, SqL X.K H l us → SeqAt.RcAt X.A s (.ref l) (.str y0 tk) false ∧ SeqAt.RcNeAt X.A s (.ref l) (.str y0 tk) true := fun hq => by
      obtain ⟨its, _, pl, _⟩ := I.list hq
      exact ⟨SeqAt.RcAt.list_str y0 tk pl.isList hu0, SeqAt.RcNeAt.list_str y0 tk pl.isList hu0⟩
    have dk : ∀ {l : Addr} {kvs : List (Key × V)}, Rd H l (.dK kvs) → SeqAt.RcAt X.A s (.ref l) (.str y0 tk) false ∧ SeqAt.RcNeAt X.A s (.ref l) (.str y0 tk) true := fun hq => by
      obtain ⟨_, _, vs, _, o, es, ep, e, ex, ed, _⟩ := hq.ok I.hok
      exact ⟨rcAt_dict_str y0 tk e ex ed hu0, rcNeAt_dict_str y0 tk e ex ed hu0⟩
    cases x with
    | non => cases rx; cases rv; exact ⟨SeqAt.RcAt.none_str _ _, SeqAt.RcNeAt.none_str _ _⟩
    | bl c => cases rx; cases rv; exact ⟨SeqAt.RcAt.bool_str _ _ _, SeqAt.RcNeAt.bool_str _ _ _⟩
    | int i => cases rx; obtain ⟨t2, rfl⟩ := rv; exact ⟨SeqAt.RcAt.int_str _ _ _ _, SeqAt.RcNeAt.int_str _ _ _ _⟩
    | str x0 => cases rx; obtain ⟨t2, rfl⟩ := rv; exact ⟨SeqAt.RcAt.str_str _ _ _ _, SeqAt.RcNeAt.str_str _ _ _ _⟩
    | ty n => exact absurd rfl ht
    | box _ _ _ _ _ => exact absurd rfl ht
    | tup ds =>
      obtain ⟨l, us, rfl, hr, _⟩ := rep_tup rx
      cases rv
      obtain ⟨its, _, p, _⟩ := I.tuple hr.sq
      exact ⟨SeqAt.RcAt.tuple_str y0 tk p hu0, SeqAt.RcNeAt.tuple_str y0 tk p hu0⟩
    | lst ds =>
      obtain ⟨l, us, rfl, hr, _⟩ := rep_lst rx
      cases rv
      exact seq hr.sq
    | dct ks ds =>
      obtain ⟨l, kvs, rfl, hr, _⟩ := rep_dct rx
      cases rv
      exact dk hr.1
    | ref l =>
      obtain rfl := rep_ref rx
      cases rv
      cases q : M l with
      | none => simp only [tyD, q] at ht; exact absurd rfl ht
      | some o =>
        cases o with
        | lst ds =>
          obtain ⟨vs, ea, _⟩ := A.at_ _ _ q
          exact seq (.inl (.inl ea))
        | dct ks ds =>
          obtain ⟨vs, ea, _⟩ := A.at_ _ _ q
          exact dk (.inl ea)
        | deck ks b =>
          obtain ⟨_, _, _, _, _, _, _, ea, _⟩ := A.at_ _ _ q
          exact dk (.inl ea)
        | hid c => simp only [tyD, q] at ht; exact absurd rfl ht
        | tab c => simp only [tyD, q] at ht; exact absurd rfl ht
  · -- the empty tuple
    rename_i ds
    subst h
    obtain ⟨l, us, rfl, hr, rs⟩ := rep_tup rx
    obtain ⟨l2, us2, rfl, hr2, rs2⟩ := rep_tup ry
    cases rv
    cases ru
    cases rs2
    obtain ⟨its, r1, p1, _⟩ := I.tuple hr.sq
    obtain ⟨its2, r2, p2, _⟩ := I.tuple hr2.sq
    cases r2
    have e : its.length = ds.length := by rw [← r1.length]; exact rs.length
    have hk : ((List.range (min its.toArray.size ([] : List Value).toArray.size)).all (fun _ => true) && its.toArray.size == ([] : List Value).toArray.size) = ds.isEmpty := by
      rw [List.size_toArray, e]
      cases ds <;> simp
    have q1 := SeqAt.RcAt.tuples (e := fun _ => true) p1 p2 hu0 fun j _ h2 => absurd h2 (Nat.not_lt_zero _)
    have q2 := SeqAt.RcNeAt.tuples (e := fun _ => true) p1 p2 hu0 fun j _ h2 => absurd h2 (Nat.not_lt_zero _)
    rw [hk] at q1 q2
    exact ⟨q1, q2⟩
  · -- the empty list
    rename_i ds
    subst h
    obtain ⟨l, us, rfl, hr, rs⟩ := rep_lst rx
    obtain ⟨l2, us2, rfl, hr2, rs2⟩ := rep_lst ry
    cases rv
    cases ru
    cases rs2
    obtain ⟨its, r1, p1, _⟩ := I.list hr.sq
    obtain ⟨its2, r2, p2, _⟩ := I.list hr2.sq
    cases r2
    have e : its.length = ds.length := by rw [← r1.length]; exact rs.length
    cases ds with
    | nil =>
      cases rs
      cases r1
      exact ⟨by simpa using SeqAt.RcAt.lists (e := fun _ => true) p1.isList p2.isList rfl hu0 fun j _ h2 => absurd h2 (Nat.not_lt_zero _), by simpa using SeqAt.RcNeAt.lists (e := fun _ => true) p1.isList p2.isList rfl hu0 fun j _ h2 => absurd h2 (Nat.not_lt_zero _)⟩
    | cons d ds =>
      have hne : (its.toArray.size != ([] : List Value).toArray.size) = true := by
        rw [List.size_toArray, e]
        simp
      exact ⟨SeqAt.RcAt.lists_lengths p1.isList p2.isList hne hu0, SeqAt.RcNeAt.lists_lengths p1.isList p2.isList hne hu0⟩
  · obtain ⟨p, q, e1, e2, s1, s2, rfl⟩ := h
    exact gen (rep_pyOf A rx e1) (rep_pyOf A ry e2) s1 s2
theorem od_eq (hu : X.A.units + 64 < cLine) : OpR X (compareOp .Eq) (lift2 X.K dEq) := by
  intro pins s σ H x y v u Q I rx ry ⟨z, M, dx, dy, R, A, r1, r2, ⟨k, h, q⟩, F⟩
  exact (eqD_run hu I A rx ry r1 r2 h).1 _ _ _ _ ⟨.bl k, H, I, rfl, F.at_ A q (.bl k)⟩
theorem od_ne (hu : X.A.units + 64 < cLine) : OpR X (compareOp .NotEq) (lift2 X.K dNe) := by
  intro pins s σ H x y v u Q I rx ry ⟨z, M, dx, dy, R, A, r1, r2, ⟨k, h, q⟩, F⟩
  exact (eqD_run hu I A rx ry r1 r2 h).2 _ _ _ _ ⟨.bl (!k), H, I, rfl, F.at_ A q (.bl _)⟩

/-! ### in, not in -/
def flatD : D → Bool
  | .non => true
  | .bl _ => true
  | .int _ => true
  | .str _ => true
  | _ => false
def eqF : D → D → Bool
  | .non, .non => true
  | .bl a, .bl b => a == b
  | .int a, .int b => a == b
  | .str a, .str b => a == b
  | .bl a, .int b => (if a then 1 else 0) == b
  | .int a, .bl b => a == (if b then 1 else 0)
  | _, _ => false
def inF (x : D) (ds : List D) : Bool := ds.any fun y => eqF y x
theorem Rep.flat {K : KZ} {M : Mem} {H : Hp} {v : V} {d : D} (r : Rep K M H v d) (f : flatD d = true) : flatV v = true := by
  cases d <;> first | (cases f; done) | (cases r; rfl)
theorem Rep.eqF {K : KZ} {M : Mem} {H : Hp} {v u : V} {d e : D} (r : Rep K M H v d) (q : Rep K M H u e) (f : flatD d = true) (g : flatD e = true) : eqV v u = DL.eqF d e := by
  cases d <;> first | (cases f; done) | (cases r; cases e <;> first | (cases g; done) | (cases q; rfl))
theorem Reps.inF {K : KZ} {M : Mem} {H : Hp} {v : V} {x : D} (r : Rep K M H v x) (f : flatD x = true) : ∀ {vs : List V} {ds : List D}, Reps K M H vs ds → ds.all flatD = true → vs.all flatV = true ∧ inV v vs = DL.inF x ds
  | _, _, .nil, _ => ⟨rfl, rfl⟩
  | _, _, .cons q t, g => by
    rw [List.all_cons, Bool.and_eq_true] at g
    obtain ⟨h1, h2⟩ := t.inF r f g.2
    refine ⟨by rw [List.all_cons, q.flat g.1, h1]; rfl, ?_⟩
    unfold inV DL.inF at *
    rw [List.any_cons, List.any_cons, h2, q.eqF r g.1 f]
/-- one sign in a text -/
def signIn (c : Nat) (z : Str) : Bool := decide (c ∈ z.cps.toList)
def InD (M : Mem) (x y : D) (k : Bool) : Prop := match x, y with
  | .str s, .str t => ∃ c, s = ⟨#[c]⟩ ∧ k = signIn c t
  | x, y => flatD x = true ∧ ∃ ds, (y = .tup ds ∨ ListAt M y ds) ∧ ds.all flatD = true ∧ k = inF x ds
def dIn : D2 := fun x y M R => ∃ k, InD M x y k ∧ R (.bl k) M
def dNotIn : D2 := fun x y M R => ∃ k, InD M x y k ∧ R (.bl (!k)) M
theorem od_in : OpR X (compareOp .In) (lift2 X.K dIn) := OpR.cases fun v u H Q ⟨z, M, x, y, R, A, rx, ry, ⟨k, h, q⟩, F⟩ => by
  unfold InD at h
  split at h
  · obtain ⟨c, rfl, rfl⟩ := h
    exact ⟨_, op_in_sign, c, _, rep_str rx, rep_str ry, F.at_ A q (.bl _)⟩
  · obtain ⟨f, ds, hd, g, rfl⟩ := h
    rcases hd with rfl | hd
    · obtain ⟨a, vs, rfl, hr, rs⟩ := rep_tup ry
      obtain ⟨h1, h2⟩ := rs.inF rx f g
      exact ⟨_, op_in_seq, a, vs, rfl, .inr hr.sq, rx.flat f, h1, by rw [h2]; exact F.at_ A q (.bl _)⟩
    · obtain ⟨a, vs, rfl, hr, rs⟩ := rep_list A ry hd
      obtain ⟨h1, h2⟩ := rs.inF rx f g
      exact ⟨_, op_in_seq, a, vs, rfl, .inl hr, rx.flat f, h1, by rw [h2]; exact F.at_ A q (.bl _)⟩
theorem od_notIn : OpR X (compareOp .NotIn) (lift2 X.K dNotIn) := OpR.cases fun v u H Q ⟨z, M, x, y, R, A, rx, ry, ⟨k, h, q⟩, F⟩ => by
  unfold InD at h
  split at h
  · obtain ⟨c, rfl, rfl⟩ := h
    exact ⟨_, op_notIn_sign, c, _, rep_str rx, rep_str ry, F.at_ A q (.bl _)⟩
  · obtain ⟨f, ds, hd, g, rfl⟩ := h
    rcases hd with rfl | hd
    · obtain ⟨a, vs, rfl, hr, rs⟩ := rep_tup ry
      obtain ⟨h1, h2⟩ := rs.inF rx f g
      exact ⟨_, op_notIn_seq, a, vs, rfl, .inr hr.sq, rx.flat f, h1, by rw [h2]; exact F.at_ A q (.bl _)⟩
    · obtain ⟨a, vs, rfl, hr, rs⟩ := rep_list A ry hd
      obtain ⟨h1, h2⟩ := rs.inF rx f g
      exact ⟨_, op_notIn_seq, a, vs, rfl, .inl hr, rx.flat f, h1, by rw [h2]; exact F.at_ A q (.bl _)⟩
end
end DL

set_option Elab.async false
set_option linter.all false
set_option maxHeartbeats 4000000
/-! D-layer, part 9: repr of data, dicts among them. -/
namespace DL
open PySem PySem.Spec PyProof.Rows L2

/-! as the library says what is read, of dicts but the interpreter s own one; no addresses are told -/
mutual
inductive RdX (h : Heap) : Value → PyData → Prop
  | none : RdX h .none .none
  | bool (b) : RdX h (.bool b) (.bool b)
  | int (i t) : RdX h (.int i t) (.int i)
  | str (x t) : RdX h (.str x t) (.str x)
  | list {a o vs n xs} : h.get? a = some o → o.cls = .type "list" → o.data = .seq vs n → RdXs h vs.toList xs → RdX h (.ref a) (.list xs)
  | tuple {a o vs n xs} : h.get? a = some o → o.cls = .type "tuple" → o.data = .seq vs n → RdXs h vs.toList xs → RdX h (.ref a) (.tuple xs)
  | dict {a o es n kvs} : h.get? a = some o → o.cls = .type "dict" → o.data = .dict es n → (a == sysModules) = false → RdXs h (es.toList.map (·.key)) (kvs.map (·.1)) → RdXs h (es.toList.map (·.val)) (kvs.map (·.2)) → RdX h (.ref a) (.dict kvs)
inductive RdXs (h : Heap) : List Value → List PyData → Prop
  | nil : RdXs h [] []
  | cons {v vs d ds} : RdX h v d → RdXs h vs ds → RdXs h (v :: vs) (d :: ds)
end
mutual
theorem RdX.reads {h : Heap} : ∀ {v : Value} {d : PyData}, RdX h v d → ∃ as, Reads h v d as
  | _, _, .none => ⟨_, .none⟩
  | _, _, .bool b => ⟨_, .bool b⟩
  | _, _, .int i t => ⟨_, .int i t⟩
  | _, _, .str x t => ⟨_, .str x t⟩
  | _, _, .list h1 h2 h3 h4 => let ⟨_, q⟩ := RdXs.reads h4; ⟨_, .list h1 h2 h3 q⟩
  | _, _, .tuple h1 h2 h3 h4 => let ⟨_, q⟩ := RdXs.reads h4; ⟨_, .tuple h1 h2 h3 q⟩
  | _, _, .dict h1 h2 h3 _ h4 h5 => let ⟨_, q⟩ := RdXs.reads h4; let ⟨_, r⟩ := RdXs.reads h5; ⟨_, .dict h1 h2 h3 q r⟩
theorem RdXs.reads {h : Heap} : ∀ {vs : List Value} {ds : List PyData}, RdXs h vs ds → ∃ as, ReadsAll h vs ds as
  | _, _, .nil => ⟨_, .nil⟩
  | _, _, .cons r rs => let ⟨_, q⟩ := RdX.reads r; let ⟨_, p⟩ := RdXs.reads rs; ⟨_, .cons q p⟩
end
section
variable {prog : Program} {w : World} {h₀ : Heap}
mutual
theorem RdX.repr : ∀ {v : Value} {d : PyData}, RdX h₀ v d → d.showable = true → d.shown.length ≤ sizeLine → ∃ bs, ReadAtMost h₀ d.depth bs ∧ ReprK prog w bs h₀ d.depth v d.shown
  | _, _, .none, _, _ => ⟨[], nofun, by simp only [PyData.shown]; exact .of_is ReprIs.none _ _ _⟩
  | _, _, .bool b, _, _ => ⟨[], nofun, by simp only [PyData.shown]; exact .of_is (ReprIs.bool b) _ _ _⟩
  | _, _, .int i t, hs, _ => ⟨[], nofun, by simp only [PyData.shown]; exact .of_is (ReprIs.int t (by simpa [PyData.showable] using hs)) _ _ _⟩
  | _, _, .str x t, _, hz => ⟨[], nofun, by simp only [PyData.shown] at hz ⊢; exact .of_is (ReprIs.str x t hz) _ _ _⟩
  | _, _, .list (a := a) (vs := vs) (xs := xs) h1 h2 h3 h4, hs, hz => by
    simp only [PyData.shown] at hz
    obtain ⟨bs, hb, hk⟩ := RdXs.repr h4 (by simpa [PyData.showable] using hs) fun t ht => Nat.le_trans (listText_mem_le ht) hz
    obtain ⟨_, r⟩ := RdX.reads (.list h1 h2 h3 h4)
    have dl : PyData.depthAll xs < (PyData.list xs).depth := by simp only [PyData.depth]; omega
    refine ⟨a :: bs, ReadAtMost.cons r (by simp only [PyData.depth]; omega) hb, ?_⟩
    have hna := not_mem_of_deeper r dl hb
    simp only [PyData.depth, PyData.shown]
    obtain ⟨l⟩ := vs
    cases l with
    | nil =>
      have e : RdXs h₀ [] xs := h4
      cases e
      simp only [PyData.shownAll, listText_nil]
      exact ReprK.listEmpty h1 h2 h3
    | cons x l => exact ReprK.list h1 h2 h3 hna (by simpa using hk.length_eq) fun i y e => hk.item i y (by simpa using e)
  | _, _, .tuple (a := a) (xs := xs) h1 h2 h3 h4, hs, hz => by
    simp only [PyData.shown] at hz
    obtain ⟨bs, hb, hk⟩ := RdXs.repr h4 (by simpa [PyData.showable] using hs) fun t ht => Nat.le_trans (tupleText_mem_le ht) hz
    obtain ⟨_, r⟩ := RdX.reads (.tuple h1 h2 h3 h4)
    have dl : PyData.depthAll xs < (PyData.tuple xs).depth := by simp only [PyData.depth]; omega
    refine ⟨a :: bs, ReadAtMost.cons r (by simp only [PyData.depth]; omega) hb, ?_⟩
    have hna := not_mem_of_deeper r dl hb
    simp only [PyData.depth, PyData.shown]
    exact ReprK.tuple h1 h2 h3 hna hk
  | _, _, .dict (a := a) (es := es) (kvs := kvs) h1 h2 h3 hy h4 h5, hs, hz => by
    simp only [PyData.shown] at hz
    obtain ⟨hs1, hs2⟩ := PyData.showableKv_split kvs (by simpa [PyData.showable] using hs)
    obtain ⟨b1, hb1, k1⟩ := RdXs.repr h4 hs1 fun t ht => let ⟨p, hp, hl⟩ := PyData.shownKv_key_le kvs t ht; Nat.le_trans hl (Nat.le_trans (dictText_mem_le hp) hz)
    obtain ⟨b2, hb2, k2⟩ := RdXs.repr h5 hs2 fun t ht => let ⟨p, hp, hl⟩ := PyData.shownKv_val_le kvs t ht; Nat.le_trans hl (Nat.le_trans (dictText_mem_le hp) hz)
    have hb := (hb1.mono (PyData.depthAll_keys_le kvs)).append (hb2.mono (PyData.depthAll_vals_le kvs))
    obtain ⟨_, r⟩ := RdX.reads (.dict h1 h2 h3 hy h4 h5)
    have dl : PyData.depthKv kvs < (PyData.dict kvs).depth := by simp only [PyData.depth]; omega
    refine ⟨a :: (b1 ++ b2), ReadAtMost.cons r (by simp only [PyData.depth]; omega) hb, ?_⟩
    have hna := not_mem_of_deeper r dl hb
    simp only [PyData.depth, PyData.shown, PyData.shownKv_eq]
    exact ReprK.dict h1 h2 h3 hy hna (ReprEntriesK.of_two es.toList _ _ (k1.more_le (fun b h => List.mem_append_left _ h) (PyData.depthAll_keys_le kvs))
      (k2.more_le (fun b h => List.mem_append_right _ h) (PyData.depthAll_vals_le kvs)))
theorem RdXs.repr : ∀ {vs : List Value} {ds : List PyData}, RdXs h₀ vs ds → PyData.showableAll ds = true → (∀ t ∈ PyData.shownAll ds, t.length ≤ sizeLine) →
    ∃ bs, ReadAtMost h₀ (PyData.depthAll ds) bs ∧ ReprAllK prog w bs h₀ (PyData.depthAll ds) vs (PyData.shownAll ds)
  | _, _, .nil, _, _ => ⟨[], nofun, by simp only [PyData.shownAll]; exact .nil⟩
  | _, _, .cons (d := d) (ds := ds) r rs, hs, hz => by
    have hs' : d.showable = true ∧ PyData.showableAll ds = true := by simpa [PyData.showableAll] using hs
    obtain ⟨b1, hb1, k1⟩ := RdX.repr r hs'.1 (hz _ (by simp only [PyData.shownAll]; exact List.mem_cons_self))
    obtain ⟨b2, hb2, k2⟩ := RdXs.repr rs hs'.2 fun t ht => hz t (by simp only [PyData.shownAll]; exact List.mem_cons_of_mem _ ht)
    have l1 : d.depth ≤ PyData.depthAll (d :: ds) := by simp only [PyData.depthAll]; exact Nat.le_max_left _ _
    have l2 : PyData.depthAll ds ≤ PyData.depthAll (d :: ds) := by simp only [PyData.depthAll]; exact Nat.le_max_right _ _
    refine ⟨b1 ++ b2, (hb1.mono l1).append (hb2.mono l2), ?_⟩
    simp only [PyData.shownAll]
    exact .cons ((k1.more fun b h => List.mem_append_left _ h).level_le l1) (k2.more_le (fun b h => List.mem_append_right _ h) l2)
end
variable {A : Around} {E : Value → Shared → Prop} {s : Shared} {Q : Value → Shared → Prop}
/-- repr(v) -/
theorem repr_run {v : Value} {d : PyData} (r : RdX s.heap v d) (hs : d.showable = true) (hz : d.shown.length ≤ sizeLine) (hg : A.guards = some []) (hu : A.units + (d.depth + 1) < cLine)
    (hQ : ∀ h' u tk, (∀ b o, s.heap.get? b = some o → h'.get? b = some o) → Q (.str d.shown u) { s with heap := h', toks := tk }) : wpAny (model prog w) A (call (.builtin "repr") [v]) Q E s := by
  have kk : ∀ b o, s.heap.get? b = some o → s.heap.get? b = some o := fun _ _ e => e
  cases r with
  | none => simp only [PyData.shown] at hQ; exact PySem.P.repr_of_none (hQ s.heap _ _ kk)
  | bool b => simp only [PyData.shown] at hQ; exact PySem.P.repr_of_bool (hQ s.heap _ _ kk)
  | int i t => simp only [PyData.shown] at hQ; exact PySem.P.repr_of_int (by simpa [PyData.showable] using hs) (hQ s.heap _ _ kk)
  | str x t => simp only [PyData.shown] at hQ hz; exact PySem.P.repr_of_str (hQ s.heap _ _ kk) hz
  | list h1 h2 h3 h4 =>
    rename_i a o vs n xs
    simp only [PyData.shown] at hz hQ
    simp only [PyData.depth] at hu
    obtain ⟨bs, hb, hk⟩ := RdXs.repr (prog := prog) (w := w) h4 (by simpa [PyData.showable] using hs) fun t ht => Nat.le_trans (listText_mem_le ht) hz
    obtain ⟨_, rr⟩ := RdX.reads (.list h1 h2 h3 h4)
    have hna := not_mem_of_deeper rr (by simp only [PyData.depth]; omega) hb
    refine call_repr_slot (by omega) ⟨o, h1, h2⟩ F.slot_list_repr.toG ?_
    obtain ⟨l⟩ := vs
    cases l with
    | nil =>
      have e : RdXs s.heap [] xs := h4
      cases e
      simp only [PyData.shownAll, listText_nil] at hQ
      exact call_list_repr_empty ⟨o, h1, h2⟩ h1 h3 ⟨_, _, rfl, hQ s.heap _ _ kk⟩
    | cons x l =>
      exact call_list_reprK h1 h2 h3 hna (by simpa using hk.length_eq) (fun i y e => hk.item i y (by simpa using e)) hg (fun b _ => Clear.nil b) (by show A.units + 1 + _ < cLine; omega) kk (fun h' u tk q => ⟨_, _, rfl, hQ h' u tk q⟩) hz
  | tuple h1 h2 h3 h4 =>
    rename_i a o vs n xs
    simp only [PyData.shown] at hz hQ
    simp only [PyData.depth] at hu
    obtain ⟨bs, hb, hk⟩ := RdXs.repr (prog := prog) (w := w) h4 (by simpa [PyData.showable] using hs) fun t ht => Nat.le_trans (tupleText_mem_le ht) hz
    obtain ⟨_, rr⟩ := RdX.reads (.tuple h1 h2 h3 h4)
    have hna := not_mem_of_deeper rr (by simp only [PyData.depth]; omega) hb
    refine call_repr_slot (by omega) ⟨o, h1, h2⟩ F.slot_tuple_repr ?_
    exact call_tuple_reprK h1 h2 h3 hna hk hg (fun b _ => Clear.nil b) (by show A.units + 1 + _ < cLine; omega) kk (fun h' u tk q => ⟨_, _, rfl, hQ h' u tk q⟩) hz
  | dict h1 h2 h3 hy h4 h5 =>
    rename_i a o es n kvs
    simp only [PyData.shown, PyData.shownKv_eq] at hz hQ
    simp only [PyData.depth] at hu
    have hz' : (dictText (PyData.shownKv kvs)).length ≤ sizeLine := by rw [PyData.shownKv_eq]; exact hz
    obtain ⟨hs1, hs2⟩ := PyData.showableKv_split kvs (by simpa [PyData.showable] using hs)
    obtain ⟨b1, hb1, k1⟩ := RdXs.repr (prog := prog) (w := w) h4 hs1 fun t ht => let ⟨p, hp, hl⟩ := PyData.shownKv_key_le kvs t ht; Nat.le_trans hl (Nat.le_trans (dictText_mem_le hp) hz')
    obtain ⟨b2, hb2, k2⟩ := RdXs.repr (prog := prog) (w := w) h5 hs2 fun t ht => let ⟨p, hp, hl⟩ := PyData.shownKv_val_le kvs t ht; Nat.le_trans hl (Nat.le_trans (dictText_mem_le hp) hz')
    have hb := (hb1.mono (PyData.depthAll_keys_le kvs)).append (hb2.mono (PyData.depthAll_vals_le kvs))
    obtain ⟨_, rr⟩ := RdX.reads (.dict h1 h2 h3 hy h4 h5)
    have hna := not_mem_of_deeper rr (by simp only [PyData.depth]; omega) hb
    refine call_repr_slot (by omega) ⟨o, h1, h2⟩ F.slot_dict_repr ?_
    exact call_dict_reprK h1 h2 h3 hy hna (ReprEntriesK.of_two es.toList _ _ (k1.more_le (fun b h => List.mem_append_left _ h) (PyData.depthAll_keys_le kvs))
      (k2.more_le (fun b h => List.mem_append_right _ h) (PyData.depthAll_vals_le kvs))) hg (fun b _ => Clear.nil b) (by show A.units + 1 + _ < cLine; omega) kk (fun h' u tk q => ⟨_, _, rfl, hQ h' u tk q⟩) hz
end

/-! ### repr of a D -/
def keyPy : Key → PyData
  | .inl i => .int i
  | .inr x => .str x
mutual
def toR : D → Option PyData
  | .non => some .none
  | .bl b => some (.bool b)
  | .int i => some (.int i)
  | .str x => some (.str x)
  | .tup ds => (toRs ds).map .tuple
  | .lst ds => (toRs ds).map .list
  | .dct ks ds => (toRs ds).map fun ps => .dict ((ks.map keyPy).zip ps)
  | _ => none
def toRs : List D → Option (List PyData)
  | [] => some []
  | d :: ds => match toR d, toRs ds with
    | some p, some ps => some (p :: ps)
    | _, _ => none
end
theorem pairs_rdx {P : Program} {w : World} {h : Heap} : ∀ {es : List DictEntry} {vs : List (Key × Value)}, Pairs (mixKind P w) es vs → RdXs h (es.map (·.key)) ((vs.map (·.1)).map keyPy) ∧ es.map (·.val) = vs.map (·.2)
  | _, _, .nil => ⟨.nil, rfl⟩
  | _, _, .cons (e := e) (kv := q) hk hv t => by
    obtain ⟨h1, h2⟩ := pairs_rdx (h := h) t
    refine ⟨.cons ?_ h1, by rw [List.map_cons, List.map_cons, hv, h2]⟩
    show RdX h e.key (keyPy q.1)
    rcases keyIs_shape hk with ⟨i, t, e1, e2⟩ | ⟨x, t, e1, e2⟩
    · rw [e1, e2]; exact .int i t
    · rw [e1, e2]; exact .str x t
theorem kv_keys : ∀ {kvs : List (Key × V)} {vs : List (Key × Value)}, KV kvs vs → kvs.map (·.1) = vs.map (·.1) ∧ Vals (kvs.map (·.2)) (vs.map (·.2))
  | _, _, .nil => ⟨rfl, .nil⟩
  | _, _, .cons h t => let ⟨a, b⟩ := kv_keys t; ⟨by rw [List.map_cons, List.map_cons, h.1, a], .cons h.2 b⟩
theorem zip_fst {α β : Type} : ∀ {xs : List α} {ys : List β}, xs.length = ys.length → (xs.zip ys).map (·.1) = xs ∧ (xs.zip ys).map (·.2) = ys
  | [], [], _ => ⟨rfl, rfl⟩
  | x :: xs, y :: ys, h => by
    obtain ⟨a, b⟩ := zip_fst (xs := xs) (ys := ys) (by simpa using h)
    simp [a, b]
  | [], _ :: _, h => by simp at h
  | _ :: _, [], h => by simp at h
theorem rdxs_length {h : Heap} : ∀ {vs : List Value} {ds : List PyData}, RdXs h vs ds → vs.length = ds.length
  | _, _, .nil => rfl
  | _, _, .cons _ t => congrArg (· + 1) (rdxs_length t)
section
variable {X : Cx} {pins : List (Addr × Obj)} {σ : L2.St} {H : Hp} {s : Shared} {K : KZ} {M : Mem}
mutual
theorem Rep.rdx (I : Inv X pins σ H s) (hK : K.k = X.K) : ∀ {v : V} {d : D} {p : PyData} {u : Value}, Rep K M H v d → RelV v u → toR d = some p → RdX s.heap u p
  | _, _, _, _, .non, r, e => by cases e; cases r; exact .none
  | _, _, _, _, .bl b, r, e => by cases e; cases r; exact .bool b
  | _, _, _, _, .int i, r, e => by cases e; obtain ⟨t, rfl⟩ := r; exact .int i t
  | _, _, _, _, .str x, r, e => by cases e; obtain ⟨t, rfl⟩ := r; exact .str x t
  | _, _, _, _, .ty n, _, e => by cases e
  | _, _, _, _, .ref a, _, e => by cases e
  | _, _, _, _, .box _ _ _ _ _, _, e => by cases e
  | _, _, _, _, .tup (ds := ds) h rs, r, e => by
    have e' : (toRs ds).map PyData.tuple = some _ := e
    cases q : toRs ds with
    | none => rw [q] at e'; cases e'
    | some ps =>
      rw [q] at e'
      cases e'
      cases r
      obtain ⟨its, rv, ⟨o, ho, hc, n, hd⟩, _⟩ := I.tuple (hK ▸ h.sq)
      exact .tuple ho hc hd (Reps.rdx I hK rs rv q)
  | _, _, _, _, .lst (ds := ds) h rs, r, e => by
    have e' : (toRs ds).map PyData.list = some _ := e
    cases q : toRs ds with
    | none => rw [q] at e'; cases e'
    | some ps =>
      rw [q] at e'
      cases e'
      cases r
      obtain ⟨its, rv, ⟨o, n, ho, hc, _, hd⟩, _⟩ := I.list (hK ▸ h.sq)
      exact .list ho hc hd (Reps.rdx I hK rs rv q)
  | _, _, _, _, .dct (ks := ks) (ds := ds) h e1 e2 rs, r, e => by
    have e' : (toRs ds).map (fun ps => PyData.dict ((ks.map keyPy).zip ps)) = some _ := e
    cases q : toRs ds with
    | none => rw [q] at e'; cases e'
    | some ps =>
      rw [q] at e'
      cases e'
      cases r
      obtain ⟨_, hsy, vs, rk, o, es, ep, ho, hx, hd, _, hp, _⟩ := h.1.ok I.hok
      obtain ⟨k1, k2⟩ := kv_keys rk
      obtain ⟨p1, p2⟩ := pairs_rdx (h := s.heap) hp
      subst e1 e2
      have q2 := Reps.rdx I hK rs k2 q
      rw [k1]
      have hl := rdxs_length p1
      have hl2 := rdxs_length q2
      have hz : ((vs.map (·.1)).map keyPy).length = ps.length := by
        rw [← hl2, List.length_map, List.length_map, List.length_map]
      obtain ⟨z1, z2⟩ := zip_fst hz
      exact .dict ho hx.1 hd hsy (by rw [z1]; exact p1) (by rw [z2, p2]; exact q2)
theorem Reps.rdx (I : Inv X pins σ H s) (hK : K.k = X.K) : ∀ {vs : List V} {ds : List D} {ps : List PyData} {us : List Value}, Reps K M H vs ds → Vals vs us → toRs ds = some ps → RdXs s.heap us ps
  | _, _, _, _, .nil, r, e => by cases e; cases r; exact .nil
  | _, _, _, _, .cons (d := d) (ds := ds) q qs, r, e => by
    have e' : (match toR d, toRs ds with
      | some p, some ps => some (p :: ps)
      | _, _ => none) = some _ := e
    cases q1 : toR d with
    | none => rw [q1] at e'; cases e'
    | some p =>
      cases q2 : toRs ds with
      | none => rw [q1, q2] at e'; cases e'
      | some ps =>
        rw [q1, q2] at e'
        cases e'
        cases r with
        | cons r1 r2 => exact .cons (Rep.rdx I hK q r1 q1) (Reps.rdx I hK qs r2 q2)
end
end
section
variable {X : Cx}
/-- repr(x) -/
def dRepr : DN := fun xs M R => ∃ x p, xs = [x] ∧ toR x = some p ∧ p.showable = true ∧ p.shown.length ≤ sizeLine ∧ p.depth ≤ 60 ∧ R (.str p.shown) M
theorem cd_repr (hG : X.A.guards = some []) (hu : X.A.units + 64 < cLine) : CallR X (.builtin "repr") (liftN X.K dRepr) := by
  intro pins s σ H xs us Q I rv ⟨z, M, ds, R, A, r, ⟨x, p, e, hp, hs, hz, hd, q⟩, F⟩
  subst e
  cases r with
  | cons r rs =>
    cases rs
    cases rv with
    | cons rv rvs =>
      cases rvs
      exact repr_run (r.rdx I rfl rv hp) hs hz hG (by omega) fun h' u tk hk => ⟨.str p.shown, H, I.kept hk, ⟨u, rfl⟩, F.at_ A q (.str _)⟩
end
end DL

set_option Elab.async false
set_option linter.all false
set_option maxHeartbeats 4000000
/-! D-layer, part 10: dicts, the deck. -/
namespace DL
open PySem PySem.Spec PyProof.Rows L2

def dkey : D → Option Key
  | .int i => some (.inl i)
  | .str s => some (.inr s)
  | _ => none
def dget : List Key → List D → Key → Option D
  | k :: ks, d :: ds, j => if k = j then some d else dget ks ds j
  | _, _, _ => none
def drepl : List Key → List D → Key → D → List D
  | x :: ks, y :: ds, k, d => (if x = k then d else y) :: drepl ks ds k d
  | _, _, _, _ => []
def dputK (ks : List Key) (k : Key) : List Key := if ks.any (fun x => decide (x = k)) = true then ks else ks ++ [k]
def dputD (ks : List Key) (ds : List D) (k : Key) (d : D) : List D := if ks.any (fun x => decide (x = k)) = true then drepl ks ds k d else ds ++ [d]
section
variable {K : KZ} {M : Mem} {H : Hp}
theorem rep_key {v : V} {d : D} {k : Key} (r : Rep K M H v d) (e : dkey d = some k) : v = kV k := by
  cases d with
  | int i => cases e; exact rep_int r
  | str s => cases e; exact rep_str r
  | _ => cases e
theorem valV_get : ∀ {kvs : List (Key × V)} {ds : List D} {k : Key} {d : D}, Reps K M H (kvs.map (·.2)) ds → dget (kvs.map (·.1)) ds k = some d → ∃ v, valV kvs k = some v ∧ Rep K M H v d
  | [], _, _, _, r, e => by cases r; cases e
  | (x, v) :: kvs, ds, k, d, r, e => by
    cases r with
    | cons r rs =>
      by_cases h : x = k
      · refine ⟨v, valV_pos (p := (x, v)) h, ?_⟩
        have e' : (if x = k then some _ else dget (kvs.map (·.1)) _ k) = some d := e
        rw [if_pos h] at e'
        cases e'
        exact r
      · have e' : (if x = k then some _ else dget (kvs.map (·.1)) _ k) = some d := e
        rw [if_neg h] at e'
        obtain ⟨w, hw, rw⟩ := valV_get rs e'
        exact ⟨w, (valV_neg (p := (x, v)) h).trans hw, rw⟩
theorem valV_no : ∀ {kvs : List (Key × V)} {k : Key}, (kvs.map (·.1)).any (fun x => decide (x = k)) = (valV kvs k).isSome
  | kvs, k => by rw [← valV_any, List.any_map]; rfl
theorem putK_rep {kvs : List (Key × V)} {ds : List D} {k : Key} {v : V} {d : D} (r : Reps K M H (kvs.map (·.2)) ds) (rv : Rep K M H v d) :
    (putK kvs k v).map (·.1) = dputK (kvs.map (·.1)) k ∧ Reps K M H ((putK kvs k v).map (·.2)) (dputD (kvs.map (·.1)) ds k d) := by
  unfold putK dputK dputD
  have e : (kvs.map (·.1)).any (fun x => decide (x = k)) = kvs.any fun kv => decide (kv.1 = k) := by rw [List.any_map]; rfl
  rw [e]
  by_cases a : (kvs.any fun kv => decide (kv.1 = k)) = true
  · rw [if_pos a, if_pos a, if_pos a]
    refine ⟨?_, ?_⟩
    · rw [List.map_map]
      refine List.map_congr_left fun p _ => ?_
      show (if p.1 = k then (p.1, v) else p).1 = p.1
      split <;> rfl
    · clear a e
      induction kvs generalizing ds with
      | nil => cases r; exact .nil
      | cons p kvs ih =>
        cases r with
        | cons r rs =>
          rw [List.map_cons, List.map_cons, List.map_cons]
          show Reps K M H _ ((if p.1 = k then d else _) :: drepl (kvs.map (·.1)) _ k d)
          by_cases h : p.1 = k
          · rw [if_pos h, if_pos h]
            exact .cons rv (ih rs)
          · rw [if_neg h, if_neg h]
            exact .cons r (ih rs)
  · rw [if_neg a, if_neg a, if_neg a, List.map_append, List.map_append]
    exact ⟨rfl, r.append (.cons rv .nil)⟩
end
section
variable {X : Cx} {o i value : Expr} {pos pos' : Pos} {ta tb tv : DE}
/-! ### d[k], d[k] = v -/
def dDGet (ta tb : DE) : DE := fun ρ M R => ta ρ M fun x M1 => tb ρ M1 fun y M2 => ∃ k, dkey y = some k ∧ match x with
  | .dct ks ds => ∃ d, dget ks ds k = some d ∧ R d M2
  | .ref a => ∃ ks ds d, M2 a = some (.dct ks ds) ∧ dget ks ds k = some d ∧ R d M2
  | _ => False
theorem de_dget (hu : X.A.units + 1 < cLine) (ho : PED X o ta) (hi : PED X i tb) (hs : NoSl i := by exact fun _ _ => rfl) : PED X (.Subscript o i pos) (dDGet ta tb) :=
  (pe_dget hu ho hi hs).weak fun σ H Q ⟨z, ρ, M, R, S, A, q, F⟩ => ⟨z, ρ, M, _, S, A, q, fun x M1 v H1 q1 r1 A1 f1 => ⟨z, ρ, M1, _, S.fr f1, A1, q1, fun y M2 u H2 ⟨k, ek, q2⟩ r2 A2 f2 => by
    have r1 := r1.fr f2
    have f12 := f1.trans f2
    obtain rfl := rep_key r2 ek
    split at q2
    · obtain ⟨d, hd, q2⟩ := q2
      obtain ⟨a, kvs, rfl, h, e1, rs⟩ := rep_dct r1
      subst e1
      obtain ⟨w, hw, rw⟩ := valV_get rs hd
      exact ⟨a, w, rfl, .inl ⟨kvs, k, h.1, rfl, hw.symm⟩, F _ _ _ _ q2 rw A2 f12⟩
    · obtain ⟨ks, ds, d, hm, hd, q2⟩ := q2
      obtain rfl := rep_ref r1
      obtain ⟨kvs, ea, e1, rs⟩ := A2.at_ _ _ hm
      subst e1
      obtain ⟨w, hw, rw⟩ := valV_get rs hd
      exact ⟨_, w, rfl, .inl ⟨kvs, k, .inl ea, rfl, hw.symm⟩, F _ _ _ _ q2 rw A2 f12⟩
    · exact q2.elim⟩⟩
def dDPut (ta tb tv : DE) : DS := fun D ρ M => tv ρ M fun d M1 => ta ρ M1 fun x M2 => tb ρ M2 fun y M3 => ∃ k a ks ds, dkey y = some k ∧ x = .ref a ∧ M3 a = some (.dct ks ds) ∧ ds.length < sizeLine ∧ D.nx ρ (mset M3 a (.dct (dputK ks k) (dputD ks ds k d)))
theorem ds_dput (hu : X.A.units + 1 < cLine) (ho : PED X o ta) (hi : PED X i tb) (hv : PED X value tv) (hs : swapsWith value (some (.Subscript o i pos')) pos.line X.env = pure false := by rfl) :
    PSD X (.Assign [.Subscript o i pos'] value pos) (dDPut ta tb tv) :=
  (ps_dput hu ho hi hv hs).weak fun D σ H ⟨z, ρ, M, D0, S, A, q, L⟩ => ⟨z, ρ, M, _, S, A, q, fun d M1 v H1 q1 r1 A1 f1 => ⟨z, ρ, M1, _, S.fr f1, A1, q1, fun x M2 u H2 q2 r2 A2 f2 =>
    ⟨z, ρ, M2, _, S.fr (f1.trans f2), A2, q2, fun y M3 w H3 ⟨k, a, ks, ds, ek, ex, em, hl, q3⟩ r3 A3 f3 => by
      subst ex
      obtain rfl := rep_key r3 ek
      obtain rfl := rep_ref r2
      obtain ⟨kvs, ea, e1, rs⟩ := A3.at_ _ _ em
      subst e1
      have rv := r1.fr (f2.trans f3)
      obtain ⟨p1, p2⟩ := putK_rep (k := k) rs rv
      have hlen : kvs.length < sizeLine := by
        have := rs.length
        rw [List.length_map] at this
        omega
      have fw : Frame M3 H3 (mset M3 a (.dct (dputK (kvs.map (·.1)) k) (dputD (kvs.map (·.1)) ds k d))) (upd H3 a (.dK (putK kvs k v))) := Frame.wr em
      have f13 := (f1.trans f2).trans f3
      refine ⟨a, _, rfl, DPut.k ea hlen, L.nx ρ _ σ _ q3 (S.fr (f13.trans fw)) (A3.wr em True.intro ⟨_, upd_same, p1, p2.fr fw⟩) (f13.trans fw)⟩⟩⟩⟩
/-! ### displays -/
def dPairs : List (DE × DE) → DEnv → Mem → (List D → List D → Mem → Prop) → Prop
  | [], _, M, R => R [] [] M
  | (tk, tv) :: r, ρ, M, R => tk ρ M fun k M1 => tv ρ M1 fun v M2 => dPairs r ρ M2 fun ks vs M3 => R (k :: ks) (v :: vs) M3
def dDispW (trs : List (DE × DE)) (end_ : List Key → List D → Mem → RK → Prop) : DE := fun ρ M R => dPairs trs ρ M fun kds ds M1 => ∃ ks : List Key, kds.map dkey = ks.map some ∧ ks.Nodup ∧ ks.length ≤ 15 ∧ end_ ks ds M1 R
def dDisp (trs : List (DE × DE)) : DE := dDispW trs fun ks ds M R => R (.dct ks ds) M
def dDispM (trs : List (DE × DE)) : DE := dDispW trs fun ks ds M R => ∀ p, M p = none → R (.ref p) (mset M p (.dct ks ds))
structure PPsD (X : Cx) (pos : Pos) (keys : List (Option Expr)) (values : List Expr) (trs : List (DE × DE)) : Prop where
  pps : PPs X pos keys values (trs.map fun p => (liftE X.K p.1, liftE X.K p.2))
theorem dps_nil : PPsD X pos [] [] [] := ⟨pps_nil⟩
theorem dps_cons {k v : Expr} {ks : List (Option Expr)} {vs : List Expr} {trs : List (DE × DE)} (hk : PED X k ta) (hv : PED X v tb) (hr : PPsD X pos ks vs trs) : PPsD X pos (some k :: ks) (v :: vs) ((ta, tb) :: trs) := ⟨pps_cons hk hv hr.pps⟩
theorem lift_pairs {z : Addr → Prop} {ρ : DEnv} {σ : L2.St} : ∀ {trs : List (DE × DE)} {M : Mem} {H : Hp} {R : List D → List D → Mem → Prop} {Q : List (V × V) → Hp → Prop}, SAbs ⟨X.K, z⟩ M H ρ σ → MAbs ⟨X.K, z⟩ M H → dPairs trs ρ M R →
    (∀ kds ds M' ps H', R kds ds M' → Reps ⟨X.K, z⟩ M' H' (ps.map (·.1)) kds → Reps ⟨X.K, z⟩ M' H' (ps.map (·.2)) ds → MAbs ⟨X.K, z⟩ M' H' → Frame M H M' H' → Q ps H') → tPairs (trs.map fun p => (liftE X.K p.1, liftE X.K p.2)) σ H Q
  | [], M, H, R, Q, S, A, q, F => F _ _ _ [] _ q .nil .nil A Frame.refl
  | (tk, tv) :: trs, M, H, R, Q, S, A, q, F => ⟨z, ρ, M, _, S, A, q, fun k M1 v H1 q1 r1 A1 f1 => ⟨z, ρ, M1, _, S.fr f1, A1, q1, fun d M2 u H2 q2 r2 A2 f2 =>
    lift_pairs (S.fr (f1.trans f2)) A2 q2 fun kds ds M3 ps H3 q3 rk rd A3 f3 => F _ _ _ ((v, u) :: ps) _ q3 (.cons (r1.fr (f2.trans f3)) rk) (.cons (r2.fr f3) rd) A3 ((f1.trans f2).trans f3)⟩⟩
theorem mergeK_app : ∀ {kvs acc : List (Key × V)}, (acc ++ kvs).map (·.1) |>.Nodup → mergeK acc kvs = acc ++ kvs
  | [], acc, _ => by rw [List.append_nil]; rfl
  | p :: kvs, acc, h => by
    have hn : valV acc p.1 = none := by
      cases e : valV acc p.1 with
      | none => rfl
      | some v =>
        exfalso
        have : (acc.any fun kv => decide (kv.1 = p.1)) = true := by rw [valV_any, e]; rfl
        obtain ⟨q, hq, eq⟩ := List.any_eq_true.mp this
        have eq := of_decide_eq_true eq
        rw [List.map_append, List.nodup_append] at h
        exact h.2.2 q.1 (List.mem_map.mpr ⟨q, hq, rfl⟩) p.1 (by simp) eq
    show mergeK (putK acc p.1 p.2) kvs = _
    rw [putK_new _ hn, mergeK_app (by simpa using h)]
    simp
theorem keyed {K : KZ} {M : Mem} {H : Hp} : ∀ {ps : List (V × V)} {kds : List D} {ks : List Key}, Reps K M H (ps.map (·.1)) kds → kds.map dkey = ks.map some → ∃ kvs : List (Key × V), ps = kvs.map (fun kv => (kV kv.1, kv.2)) ∧ kvs.map (·.1) = ks ∧ kvs.map (·.2) = ps.map (·.2)
  | [], kds, ks, r, e => by
    cases r
    cases ks with
    | nil => exact ⟨[], rfl, rfl, rfl⟩
    | cons _ _ => cases e
  | (x, y) :: ps, kds, ks, r, e => by
    cases r with
    | cons r rs =>
      cases ks with
      | nil => cases e
      | cons k ks =>
        rw [List.map_cons, List.map_cons] at e
        injection e with e1 e2
        obtain ⟨kvs, h1, h2, h3⟩ := keyed rs e2
        have : x = kV k := rep_key r e1
        subst this
        exact ⟨(k, y) :: kvs, by rw [List.map_cons, h1], by rw [List.map_cons, h2], by rw [List.map_cons, h3, List.map_cons]⟩
theorem lift_disp {trs : List (DE × DE)} {end_ : List Key → List D → Mem → RK → Prop} {σ : L2.St} {H : Hp} {Q : VK}
    (he : ∀ (z : Addr → Prop) ks kvs ds M R H Q p M0 H0, end_ ks ds M R → MAbs ⟨X.K, zput z p⟩ M H → H p = some (.dK []) → (kvs : List (Key × V)).map (·.1) = ks → Reps ⟨X.K, zput z p⟩ M H (kvs.map (·.2)) ds → ¬ z p → H0 p = none → Frame M0 H0 M H → Fin ⟨X.K, z⟩ M0 H0 R Q → Q (.ref p) (upd H p (.dK kvs)))
    (h : liftE X.K (dDispW trs end_) σ H Q) : tDisp (trs.map fun p => (liftE X.K p.1, liftE X.K p.2)) σ H Q := by
  obtain ⟨z, ρ, M, R, S, A, q, F⟩ := h
  intro p hp
  have hzz : ∀ a, H a ≠ none → zput z p a → z a := fun a h y => y.elim id fun e => absurd (e ▸ hp) h
  have fn : ∀ {u : HO}, Frame M H M (upd H p u) := Frame.new hp
  refine lift_pairs (z := zput z p) (ρ := ρ) (M := M) ((S.zz hzz).fr fn) (A.hide hp) q fun kds ds M1 ps H1 ⟨ks, ek, hn, hl, q1⟩ rk rd A1 f1 => ?_
  have e1 : H1 p = some (.dK []) := (f1 p (by rw [upd_same]; exact nofun) (A.free hp)).1.trans upd_same
  obtain ⟨kvs, h1, h2, h3⟩ := keyed rk ek
  refine ⟨e1, kvs, h1, ?_, ?_⟩
  · have := congrArg List.length h2
    rw [List.length_map] at this
    omega
  · rw [show mergeK [] kvs = kvs from (mergeK_app (acc := []) (by rw [List.nil_append, h2]; exact hn)).trans (List.nil_append _)]
    exact he z ks kvs ds M1 R H1 Q p M H q1 A1 e1 h2 (by rw [h3]; exact rd) (A.znew hp) hp (fn.trans f1) F
theorem upd_bare {M0 : Mem} {H0 : Hp} {M : Mem} {H : Hp} {p : Addr} {u : HO} (f : Frame M0 H0 M H) (hp : H0 p = none) : Frame M0 H0 M (upd H p u) := fun c h n => by
  obtain ⟨e1, e2⟩ := f c h n
  exact ⟨(upd_ne fun e => h (by rw [e]; exact hp)).trans e1, e2⟩
theorem not_tupU {H : Hp} {p : Addr} {kvs : List (Key × V)} : ∀ xs, ¬ Rd (upd H p (.dK kvs)) p (.tup xs) := not_tupD upd_same
theorem disp_end (z : Addr → Prop) (ks : List Key) (kvs : List (Key × V)) (ds : List D) (M : Mem) (R : RK) (H : Hp) (Q : VK) (p : Addr) (M0 : Mem) (H0 : Hp) (q : R (.dct ks ds) M) (A : MAbs ⟨X.K, zput z p⟩ M H) (e : H p = some (.dK [])) (ek : kvs.map (·.1) = ks) (r : Reps ⟨X.K, zput z p⟩ M H (kvs.map (·.2)) ds) (nz : ¬ z p) (hp : H0 p = none) (f : Frame M0 H0 M H) (F : Fin ⟨X.K, z⟩ M0 H0 R Q) : Q (.ref p) (upd H p (.dK kvs)) := by
  have hs : ∀ a, z a → zput z p a := fun a h => .inl h
  have zp : zput z p p := .inr rfl
  exact F _ _ _ _ q (.dct ⟨.inl upd_same, A.zown zp, nz⟩ ek rfl ((r.side (not_tupD e) zp).zz fun a _ h => hs a h)) ((A.side (not_tupD e) zp).show_ hs) (upd_bare f hp)
theorem disp_endM (z : Addr → Prop) (ks : List Key) (kvs : List (Key × V)) (ds : List D) (M : Mem) (R : RK) (H : Hp) (Q : VK) (p : Addr) (M0 : Mem) (H0 : Hp) (q : ∀ p, M p = none → R (.ref p) (mset M p (.dct ks ds))) (A : MAbs ⟨X.K, zput z p⟩ M H) (e : H p = some (.dK [])) (ek : kvs.map (·.1) = ks) (r : Reps ⟨X.K, zput z p⟩ M H (kvs.map (·.2)) ds) (nz : ¬ z p) (hp : H0 p = none) (f : Frame M0 H0 M H) (F : Fin ⟨X.K, z⟩ M0 H0 R Q) : Q (.ref p) (upd H p (.dK kvs)) := by
  have zp : zput z p p := .inr rfl
  have A1 : MAbs ⟨X.K, zput z p⟩ M (upd H p (.dK kvs)) := A.side (not_tupD e) zp
  have r1 : Reps ⟨X.K, zput z p⟩ M (upd H p (.dK kvs)) (kvs.map (·.2)) ds := r.side (not_tupD e) zp
  exact F _ _ _ _ (q p (A.zown zp)) (.ref p) (A1.bare upd_same not_tupU nz ⟨kvs, upd_same, ek, r1.bare not_tupU⟩) ((upd_bare f hp).bare hp)
section
variable {keys : List (Option Expr)} {values : List Expr} {trs : List (DE × DE)}
theorem de_disp (h : PPsD X pos keys values trs) (hall : keys.all (·.isSome) = true := by rfl) (hl : keys.length = values.length := by rfl) (h0 : keys ≠ [] := by exact nofun) (h15 : keys.length ≤ 15 := by decide) : PED X (.Dict keys values pos) (dDisp trs) :=
  (pe_disp h.pps hall hl h0 h15).weak fun σ H Q h => lift_disp disp_end h
theorem de_dispM (h : PPsD X pos keys values trs) (hall : keys.all (·.isSome) = true := by rfl) (hl : keys.length = values.length := by rfl) (h0 : keys ≠ [] := by exact nofun) (h15 : keys.length ≤ 15 := by decide) : PED X (.Dict keys values pos) (dDispM trs) :=
  (pe_disp h.pps hall hl h0 h15).weak fun σ H Q h => lift_disp disp_endM h
end
def dDict0 : DE := fun _ M R => R (.dct [] []) M
theorem de_dict0 : PED X (.Dict [] [] pos) dDict0 := pe_dnewK.weak fun σ H Q ⟨z, ρ, M, R, S, A, q, F⟩ p hp =>
  F _ _ _ _ q (.dct (kvs := []) ⟨.inl upd_same, A.free hp, A.znew hp⟩ rfl rfl .nil) (A.new hp) (Frame.new hp)
def dDict0M : DE := fun _ M R => ∀ p, M p = none → R (.ref p) (mset M p (.dct [] []))
theorem de_dict0M : PED X (.Dict [] [] pos) dDict0M := pe_dnewK.weak fun σ H Q ⟨z, ρ, M, R, S, A, q, F⟩ p hp =>
  F _ _ _ _ (q p (A.free hp)) (.ref p) (A.newM hp ⟨[], upd_same, rfl, .nil⟩) (Frame.newM A hp)
end

/-! ### a deck, opened and closed -/
theorem MView.deck {K : PySem.W.Frag} {M : Mem} {a b : Addr} {k1 k2 k3 : Key} {m n : Int} {ns : List Int} (ea : M a = some (.dct [k1, k2, k3] [.ref b, .int m, .int n])) (eb : M b = some (.lst (ns.map .int))) (hl : ns.length ≤ 1000) :
    MView K M (mset (mset M a (.deck [k1, k2, k3] b)) b (.hid a)) := fun z H A => by
  have hab : a ≠ b := fun e => by rw [e, eb] at ea; cases ea
  have fr : Frame M H (mset (mset M a (.deck [k1, k2, k3] b)) b (.hid a)) H := fun c h nn => ⟨rfl, by
    rw [mset_ne (show c ≠ b from fun e => by rw [e, eb] at nn; cases nn), mset_ne (show c ≠ a from fun e => by rw [e, ea] at nn; cases nn)]
    exact nn⟩
  refine ⟨A.step fr fun c o e => ?_, fr⟩
  obtain ⟨kvs, qa, ek, ra⟩ := A.at_ a _ ea
  obtain ⟨us, qb, rb⟩ := A.at_ b _ eb
  obtain rfl := Reps.of_ints ns rb
  by_cases h1 : c = b
  · subst h1
    rw [mset_same] at e
    cases e
    exact .inr ⟨_, qb⟩
  · rw [mset_ne h1] at e
    by_cases h2 : c = a
    · subst h2
      rw [mset_same] at e
      cases e
      refine .inr ⟨k1, k2, k3, m, n, ⟨ns, hl⟩, rfl, ?_, qb, mset_same⟩
      cases kvs with
      | nil => cases ek
      | cons p kvs => cases kvs with
        | nil => cases ek
        | cons p2 kvs => cases kvs with
          | nil => cases ek
          | cons p3 kvs => cases kvs with
            | cons _ _ => cases ek
            | nil =>
              obtain ⟨x1, y1⟩ := p
              obtain ⟨x2, y2⟩ := p2
              obtain ⟨x3, y3⟩ := p3
              simp only [List.map_cons, List.map_nil, List.cons.injEq, and_true] at ek
              obtain ⟨rfl, rfl, rfl⟩ := ek
              cases ra with
              | cons r1 ra => cases ra with
                | cons r2 ra => cases ra with
                  | cons r3 ra =>
                    cases r1 with
                    | ref =>
                      obtain rfl := rep_int r2
                      obtain rfl := rep_int r3
                      exact qa
    · rw [mset_ne h2] at e
      refine .inl ⟨e, rfl, fun ks d eo => ?_⟩
      subst eo
      have hd := A.deckAt e
      refine ⟨?_, rfl⟩
      rw [mset_ne (show d ≠ b from fun e => by rw [e, eb] at hd; cases hd), mset_ne (show d ≠ a from fun e => by rw [e, ea] at hd; cases hd)]
/-- the deck's own parts are seen -/
theorem MAbs.open_ {K : KZ} {M : Mem} {H : Hp} {a b : Addr} {ks : List Key} (A : MAbs K M H) (e : M a = some (.deck ks b)) : ∃ m n, ∃ ns : List Int, ns.length ≤ 1000 ∧
    MAbs K (mset (mset M b (.lst (ns.map .int))) a (.dct ks [.ref b, .int m, .int n])) H ∧ Frame M H (mset (mset M b (.lst (ns.map .int))) a (.dct ks [.ref b, .int m, .int n])) H := by
  obtain ⟨k1, k2, k3, m, n, ⟨ns, hl⟩, e0, q, qb, mb⟩ := A.at_ a _ e
  subst e0
  have hab : b ≠ a := fun h => by rw [h, e] at mb; cases mb
  have fr : Frame M H (mset (mset M b (.lst (ns.map .int))) a (.dct [k1, k2, k3] [.ref b, .int m, .int n])) H := fun c h nn => ⟨rfl, by
    rw [mset_ne (show c ≠ a from fun h => by rw [h, e] at nn; cases nn), mset_ne (show c ≠ b from fun h => by rw [h, mb] at nn; cases nn)]
    exact nn⟩
  refine ⟨m, n, ns, hl, A.step fr fun c o ec => ?_, fr⟩
  by_cases h1 : c = a
  · subst h1
    rw [mset_same] at ec
    cases ec
    exact .inr ⟨_, q, rfl, .cons (.ref b) (.cons (.int m) (.cons (.int n) .nil))⟩
  · rw [mset_ne h1] at ec
    by_cases h2 : c = b
    · subst h2
      rw [mset_same] at ec
      cases ec
      exact .inr ⟨_, qb, Reps.ints ns⟩
    · rw [mset_ne h2] at ec
      by_cases h3 : ∃ ks', o = .deck ks' b
      · -- another deck with this list: none, as the list says whose it is
        obtain ⟨ks', rfl⟩ := h3
        have := A.deckAt ec
        rw [mb] at this
        cases this
        exact absurd rfl h1
      · refine .inl ⟨ec, rfl, fun ks' d eo => ?_⟩
        subst eo
        have hd := A.deckAt ec
        refine ⟨?_, rfl⟩
        rw [mset_ne (show d ≠ a from fun h => by rw [h, e] at hd; cases hd), mset_ne (show d ≠ b from fun h => h3 ⟨ks', by rw [h]⟩)]
section
variable {X : Cx} {st : List Stmt} {t : DS}
/-- ahead of a block the deck in the name's slot i is opened -/
def dOpen (i : Nat) (t : DS) : DS := fun D ρ M => ∃ a ks b, slot ρ i = some (.ref a) ∧ M a = some (.deck ks b) ∧ ∀ (m n : Int) (ns : List Int), ns.length ≤ 1000 → t D ρ (mset (mset M b (.lst (ns.map .int))) a (.dct ks [.ref b, .int m, .int n]))
theorem db_open (i : Nat) (h : PBD X st t) : PBD X st (dOpen i t) := h.weak fun D σ H ⟨z, ρ, M, D0, S, A, ⟨a, ks, b, _, e, q⟩, L⟩ => by
  obtain ⟨m, n, ns, hl, A1, f1⟩ := A.open_ e
  exact ⟨z, ρ, _, D0, S.fr f1, A1, q m n ns hl, L.fr f1⟩
end
end DL

set_option Elab.async false
set_option linter.all false
set_option maxHeartbeats 4000000
set_option maxRecDepth 100000
/-! D-layer, part 11: len(set(..)) of keys. -/
namespace DL
open PySem PySem.Spec PyProof.Rows L2

instance memKey (k : Key) : (us : List Key) → Decidable (k ∈ us)
  | [] => .isFalse List.not_mem_nil
  | x :: us => if h : k = x then .isTrue (h ▸ List.mem_cons_self) else match memKey k us with
    | .isTrue t => isTrue (List.mem_cons_of_mem _ t)
    | .isFalse f => .isFalse fun m => (List.mem_cons.mp m).elim h f
theorem setU_congr {prog : Program} {w : World} {h : Heap} {a : Addr} {S S' : Key → Bool} {n n' : Nat} (x : h.SetOf (mixKind prog w) a S n) (e : ∀ k, S k = S' k) (en : n = n') : h.SetOf (mixKind prog w) a S' n' := by
  obtain rfl := funext e
  exact en ▸ x
def stepU (us : List Key) (k : Key) : List Key := if k ∈ us then us else us ++ [k]
def uniqs (ks : List Key) : List Key := ks.foldl stepU []
theorem uniqs_snoc (ks : List Key) (k : Key) : uniqs (ks ++ [k]) = stepU (uniqs ks) k := by
  unfold uniqs
  rw [List.foldl_append]
  rfl
theorem uniqs_le : ∀ (ks us : List Key), (ks.foldl stepU us).length ≤ us.length + ks.length
  | [], us => by simp
  | k :: ks, us => by
    have a := uniqs_le ks (stepU us k)
    have b : (stepU us k).length ≤ us.length + 1 := by
      unfold stepU
      split
      · omega
      · simp
    rw [List.foldl_cons, List.length_cons]
    omega
theorem uniqs_len (ks : List Key) : (uniqs ks).length ≤ ks.length := by
  have := uniqs_le ks []
  simpa [uniqs] using this
section
variable {prog : Program} {w : World} {A : Around} {R : Result → Shared → Prop} {it : Addr} {fp wr : List Addr} {G : Array GenState → Array GenState → Prop} {n : Nat} {Pv : Nat → Value → Prop} {St : Nat → Shared → Prop}
/-- the set at b holds these keys -/
abbrev SetU (prog : Program) (w : World) (h : Heap) (b : Addr) (us : List Key) : Prop := h.SetOf (mixKind prog w) b (fun k => decide (k ∈ us)) us.length
theorem keys_added (W : WalksS prog w A.in1 it fp wr G n Pv St) (b : Addr) (hfp : b ∉ fp) (ks : List Key) (hn : ks.length = n) (hv : ∀ i v, Pv i v → ∃ k, ks[i]? = some k ∧ RelV (kV k) v) (hb : n + 1 < scanBound) :
    ∀ (j i : Nat) (s : Shared), n - i = j → i ≤ n → St i s → SetU prog w s.heap b (uniqs (ks.take i)) → (∀ s2, Moved (b :: wr) G s s2 → SetU prog w s2.heap b (uniqs ks) → R (.ok (.ret .none)) s2) → codeAny (model prog w) A (.builtin "set.update.loop" ⟨[.ref b, .ref it], []⟩) R s := by
  have hbw : b ∉ wr := fun h => hfp (W.sub _ h)
  have more : ∀ c ∈ wr, c ∈ b :: wr := fun _ h => List.mem_cons_of_mem _ h
  have stay : ∀ {s s2 : Shared} {us}, Moved wr G s s2 → SetU prog w s.heap b us → SetU prog w s2.heap b us := fun hm ⟨o, es, ep, t, ho, z⟩ => ⟨o, es, ep, t, hm.heap b _ hbw ho, z⟩
  intro j
  induction j with
  | zero =>
    intro i s hj hi st hS hR
    obtain rfl : i = n := by omega
    refine codeAny_builtin PyProof.Rows.F.entry_set_update_loop ?_
    rw [Around.under_plainId PyProof.Rows.F.plain_set_update_loop _]
    show wpAny _ A.in1 (pyNext (.ref it) >>= _) _ _ s
    refine wpAny_bind (W.done s _ _ st fun s2 hm => ?_)
    show wpAny _ A.in1 (ret Value.none) _ _ s2
    rw [← hn, List.take_length] at hS
    exact wpAny_pure (hR s2 (hm.mono more) (stay hm hS))
  | succ j ih =>
    intro i s hj hi st hS hR
    have hlt : i < n := by omega
    refine codeAny_builtin PyProof.Rows.F.entry_set_update_loop ?_
    rw [Around.under_plainId PyProof.Rows.F.plain_set_update_loop _]
    show wpAny _ A.in1 (pyNext (.ref it) >>= _) _ _ s
    refine wpAny_bind (W.item i s _ _ hlt st fun v s2 hP st2 hm => ?_)
    obtain ⟨k, ek, rk⟩ := hv i v hP
    have hS2 := stay hm hS
    have his : (mixKind prog w).is k v = true := kV_is rk
    show wpAny _ A.in1 (holding [v] (setAdd b v) >>= _) _ _ s2
    refine wpAny_bind (wpAny_holding ?_)
    unfold setAdd
    refine wpAny_holding (wpAny_bind ((mixKind prog w).pyHash (k := k) his ?_))
    have hz := uniqs_len (ks.take i)
    have ht : (ks.take i).length ≤ i := List.length_take_le _ _
    refine wpAny_setAddHashed_of (knd := mixKind prog w) (s := { s2 with toks := s2.toks + 1 }) his (key_scan rk) hS2 (by omega) fun h3 sb hS3 => ?_
    have eu : uniqs (ks.take (i + 1)) = stepU (uniqs (ks.take i)) k := by rw [List.take_add_one, ek, Option.toList_some, uniqs_snoc]
    have hS4 : SetU prog w h3 b (uniqs (ks.take (i + 1))) := setU_congr hS3 (fun x => by
      rw [eu]
      unfold stepU
      by_cases m : k ∈ uniqs (ks.take i)
      · rw [if_pos m]
        by_cases e : x = k
        · subst e; simp [m]
        · simp [e]
      · rw [if_neg m]
        simp) (by
      rw [eu]
      unfold stepU
      by_cases m : k ∈ uniqs (ks.take i)
      · simp [m]
      · simp [m])
    have nb : ∀ c ∈ fp, c ≠ b := fun c hc e => hfp (e ▸ hc)
    refine wpAny_pure ⟨plainId_quiet PyProof.Rows.F.plain_set_update_loop _, ih (i + 1) _ (by omega) hlt (W.frame _ s2 _ _ st2 (Nat.le_succ _) fun c hc o e => (sb.2 c (nb c hc)).trans e) hS4 fun s5 hm5 hS5 => ?_⟩
    exact hR s5 (Moved.trans W.gtrans ((hm.mono more).then_heap (Nat.le_succ _) fun c o hc e => (sb.2 c fun z => hc (z ▸ List.mem_cons_self)).trans e) hm5) hS5
end
section
variable {prog : Program} {w : World} {A : Around} {E : Value → Shared → Prop} {s : Shared}
def seqTy (T : String) : Prop := T = "list" ∨ T = "tuple"
theorem seqTy_set {T : String} (h : seqTy T) : isSubtype (.type T) (.type "set") = pure false := by
  rcases h with rfl | rfl
  · exact PySem.F.sub_list_set
  · exact PySem.F.sub_tuple_set
theorem seqTy_froz {T : String} (h : seqTy T) : isSubtype (.type T) (.type "frozenset") = pure false := by
  rcases h with rfl | rfl
  · exact PySem.F.sub_list_frozenset
  · exact PySem.F.sub_tuple_frozenset
set_option maxHeartbeats 16000000 in
theorem keys_set {T : String} (hty : seqTy T) {l : Addr} {od : Option Addr} {its : Array Value} {nl : Nat} {sl : Array (Option Value)} {ks : List Key} {Q : Value → Shared → Prop} (hh : A.handled = none)
    (ho : s.heap.get? l = some { cls := .type T, dict := od, data := .seq its nl, slots := sl }) (hk : Vals (ks.map kV) its.toList) (hb : ks.length + 1 < scanBound)
    (h : ∀ (h2 : Heap) (tk : Nat), SetU prog w h2 s.heap.objs.size (uniqs ks) → (∀ b o, s.heap.get? b = some o → h2.get? b = some o) → Q (.ref s.heap.objs.size) { s with heap := h2, toks := tk }) :
    wpAny (model prog w) A (call (.type "set") [.ref l]) Q E s := by
  have hsz : ks.length = its.size := by
    have := hk.length
    rw [List.length_map, Array.length_toList] at this
    exact this
  have hv : ∀ (i : Nat) (v : Value), its[i]? = some v → ∃ k, ks[i]? = some k ∧ RelV (kV k) v := fun i v e => by
    have hi : i < ks.length := by rw [hsz]; exact (Array.getElem?_eq_some_iff.mp e).1
    obtain ⟨u, hu, ru⟩ := hk.get (i := i) (x := kV ks[i]) (by simp [hi])
    rw [Array.getElem?_toList, e] at hu
    cases hu
    exact ⟨ks[i], List.getElem?_eq_getElem hi, ru⟩
  obtain ⟨c, tl, hmro⟩ := PySem.F.called_set.mro
  have hmade := PySem.F.called_set.made; have hsub := PySem.F.called_set.sub
  refine wpAny_call (codeAny_of_tree ?_)
  show wpAny _ _ (callAny (.type "set") _) _ _ _
  refine wpAny_pure ⟨Code.quiet_builtin _ (by decide +kernel), codeAny_builtin PySem.F.entry_type_call ?_⟩
  rw [Around.under_plain (weight_type_call_type "set" [.ref l] []) rfl]
  have h1 := PySem.F.called_set.notType; have h2 := PySem.F.called_set.canCreate; have hct := PySem.F.typeCall_set_1 (.ref l)
  repeat (any_goals (first | assumption | wp_step))
  refine codeAny_mono (code_set_new_1 (.ref l) (E := E) (Q₁ := fun u s1 => ∃ led : Bool, u = .ref s.heap.objs.size ∧ s1 = { s with heap := s.heap.push { cls := .type "set", dict := none, data := .set #[] 0 (.fresh 0 0 led) } }) fun led => ⟨led, rfl, rfl⟩) fun r s1 hr => ?_
  rcases r with e | fl
  · exact hr
  rcases fl with _ | _ | _ | u
  all_goals try exact hr.elim
  obtain ⟨led, rfl, rfl⟩ := hr
  generalize hp : s.heap.push { cls := .type "set", dict := none, data := .set #[] 0 (.fresh 0 0 led) } = hp0
  have hS : hp0.get? s.heap.objs.size = some { cls := .type "set", dict := none, data := .set #[] 0 (.fresh 0 0 led) } := by rw [← hp]; exact Heap.get?_push_size _ rfl
  have hold : ∀ b o, s.heap.get? b = some o → hp0.get? b = some o := fun b o e => by rw [← hp]; exact Heap.get?_push_of_some _ e
  have hs0 : hp0.objs.size = s.heap.objs.size + 1 := by rw [← hp]; exact Heap.size_push ..
  have hT : Shared.TypeIs { s with heap := hp0 } (.ref s.heap.objs.size) "set" := ⟨_, hS, rfl⟩
  have hli := PySem.F.called_set.init.lookup; have hbi := PySem.F.called_set.init.bind (.ref s.heap.objs.size)
  repeat (any_goals (first | assumption | wp_step))
  refine codeAny_mono (codeAny_call_builtin (R := wants (fun r s2 => r = .none ∧ ∃ h2 tk, s2 = { s with heap := h2, toks := tk } ∧ SetU prog w h2 s.heap.objs.size (uniqs ks) ∧ (∀ b o, s.heap.get? b = some o → h2.get? b = some o)) E) PySem.F.called_set.init.plain PySem.F.entry_set_init (check_set_init_1 hT ?_)) fun r2 s2 hr2 => ?_
  · have ho1 := hold _ _ ho
    have hsls := seqTy_set hty; have hslf := seqTy_froz hty
    have hne : (Value.type T == Value.type "dict") = false := by rcases hty with rfl | rfl <;> decide
    have hlS : l < s.heap.objs.size := Heap.lt_size ho
    have hh3 : A.in1.in1.in1.handled = none := by simp [hh]
    have hneI : l ≠ hp0.objs.size := Nat.ne_of_lt (by rw [hs0]; exact Nat.lt_succ_of_lt hlS)
    have hSf : s.heap.objs.size ∉ [hp0.objs.size, l] := by
      simp only [List.mem_cons, List.not_mem_nil, or_false, not_or]
      exact ⟨Nat.ne_of_lt (by rw [hs0]; exact Nat.lt_succ_self _), Nat.ne_of_gt hlS⟩
    unfold Builtin.«set.__init__» noKeywords Builtin.Frozenset.updateFrom
    generalize hPI : pyIter = PI
    wp_walk
    subst hPI
    have hset : ∀ {o : Obj}, SetU prog w (hp0.push o) s.heap.objs.size (uniqs (ks.take 0)) := fun {o} =>
      setU_congr (S := fun _ => false) (n := 0) ⟨_, #[], 0, _, Heap.get?_push_of_some _ hS, ⟨rfl, rfl, rfl⟩, rfl, fun e he => by simp at he, fun k => by simp, by decide, by rfl, rfl⟩ (fun _ => by simp [uniqs]) rfl
    have fin : ∀ {o : Obj} {tk : Nat} {s3 : Shared}, Moved (s.heap.objs.size :: [hp0.objs.size]) (fun a b => b = a) { s with heap := hp0.push o, toks := tk } s3 → SetU prog w s3.heap s.heap.objs.size (uniqs ks) → ∃ h2 tk, s3 = { s with heap := h2, toks := tk } ∧ SetU prog w h2 s.heap.objs.size (uniqs ks) ∧ (∀ b o, s.heap.get? b = some o → h2.get? b = some o) := fun {o tk s3} hm hU => by
      obtain ⟨h4, g4, d4, t4, os4⟩ := s3
      obtain rfl : g4 = s.gens := hm.gens
      obtain rfl : d4 = s.drawn := hm.drawn
      obtain rfl : os4 = s.os := hm.os
      refine ⟨h4, t4, rfl, hU, fun b ob e => hm.heap b ob ?_ (Heap.get?_push_of_some _ (hold b ob e))⟩
      have hlt := Heap.lt_size e
      simp only [List.mem_cons, List.not_mem_nil, or_false, not_or]
      exact ⟨Nat.ne_of_lt hlt, Nat.ne_of_lt (by rw [hs0]; exact Nat.lt_succ_of_lt hlt)⟩
    rcases hty with rfl | rfl
    · have hl1 : hp0.IsList l its := ⟨_, ho1, rfl, nl, rfl⟩
      refine wpAny_pyIter_list hl1 (wpAny_bind (wpAny_runValue ?_))
      refine keys_added ((Walks.list hh3 _ l hneI its).toS) s.heap.objs.size hSf ks hsz hv (by omega) (its.size - 0) 0 _ (by omega) (Nat.zero_le _) ⟨⟨_, Heap.get?_push_size _ rfl, rfl, rfl⟩, hl1.push _⟩ hset fun s3 hm hU => ?_
      obtain ⟨h5, t5, rfl, hU5, hk5⟩ := fin hm hU
      show wpAny _ _ _ _ _ _
      refine wpAny_pure ?_
      show wpAny _ _ (ret Value.none) _ _ _
      exact wpAny_pure ⟨rfl, h5, t5, rfl, hU5, hk5⟩
    · have hl1 : hp0.IsTuple l its := ⟨_, ho1, rfl, nl, rfl⟩
      refine wpAny_pyIter_tuple hl1 (wpAny_bind (wpAny_runValue ?_))
      refine keys_added ((Walks.tuple hh3 _ l hneI its).toS) s.heap.objs.size hSf ks hsz hv (by omega) (its.size - 0) 0 _ (by omega) (Nat.zero_le _) ⟨⟨_, Heap.get?_push_size _ rfl, rfl, rfl⟩, hl1.push _⟩ hset fun s3 hm hU => ?_
      obtain ⟨h5, t5, rfl, hU5, hk5⟩ := fin hm hU
      show wpAny _ _ _ _ _ _
      refine wpAny_pure ?_
      show wpAny _ _ (ret Value.none) _ _ _
      exact wpAny_pure ⟨rfl, h5, t5, rfl, hU5, hk5⟩
  · rcases r2 with e | fl
    · exact hr2
    rcases fl with _ | _ | _ | u
    all_goals try exact hr2.elim
    obtain ⟨rfl, h2, tk, rfl, hU, hk2⟩ := hr2
    repeat (any_goals (first | assumption | wp_step))
    exact h _ _ hU hk2
end
section
variable {X : Cx} {a : Expr} {ta : DE} {p p2 q pos : Pos}
/-- len(set(x)), x a list or a tuple of ints and texts -/
def dLenSet (ta : DE) : DE := fun ρ M R => ta ρ M fun x M1 => ∃ ds, ∃ ks : List Key, (x = .tup ds ∨ ListAt M1 x ds) ∧ ds.map dkey = ks.map some ∧ ks.length + 1 < scanBound ∧ R (.int (uniqs ks).length) M1
theorem keys_of {K : KZ} {M : Mem} {H : Hp} : ∀ {vs : List V} {ds : List D} {ks : List Key}, Reps K M H vs ds → ds.map dkey = ks.map some → vs = ks.map kV
  | _, _, [], .nil, _ => rfl
  | _, _, k :: ks, .cons r rs, e => by
    rw [List.map_cons, List.map_cons] at e
    injection e with e1 e2
    rw [rep_key r e1, keys_of rs e2, List.map_cons]
  | _, _, [], .cons _ _, e => by cases e
  | _, _, _ :: _, .nil, e => by cases e
theorem de_lenSet (hc : X.calm = true) (hm : X.mg "len" = none) (hm2 : X.mg "set" = none) (ha : PED X a ta) (hg : Gl X "len" := by rfl) (hg2 : Gl X "set" := by rfl)
    (na : starEach [a] X.env = (false, eval a X.env) :: starEach [] X.env := by rfl) : PED X (.Call (.Name "len" p) [.Call (.Name "set" p2) [a] [] q] [] pos) (dLenSet ta) := by
  refine ⟨fun pins s σ H Q I h => ?_⟩
  refine Call_ (ld_blt I hg hm boot_len (PyProof.Rows.callWith_builtin1 (PyProof.Rows.args_cons (Call_ (ld_blt I hg2 hm2 boot_set ?_)) rfl) rfl rfl))
  obtain ⟨z, ρ, M, R, S, A, q, F⟩ := h
  refine PyProof.Rows.callWith_type1 (PyProof.Rows.args_cons (thn (ha.run pins s σ H (fun v H1 => ∃ l xs, ∃ ks : List Key, v = .ref l ∧ (SqL X.K H1 l xs ∨ SqT X.K H1 l xs) ∧ xs = ks.map kV ∧ ks.length + 1 < scanBound ∧ Q (.int (uniqs ks).length) H1) I
    ⟨z, ρ, M, _, S, A, q, fun x M1 v H1 ⟨ds, ks, hx, ek, hb, q1⟩ r1 A1 f1 => ?_⟩) fun v s1 ⟨x, H1, I1, r1, l, xs, ks, ex, hq, exs, hb, q1⟩ => PyProof.Rows.args_nil ?_) na) na rfl
  · have fin := F _ _ (.int (uniqs ks).length) H1 q1 (.int _) A1 f1
    rcases hx with hx | hx
    · subst hx
      obtain ⟨l, vs, rfl, hr, rs⟩ := rep_tup r1
      exact ⟨l, vs, ks, rfl, .inr hr.sq, keys_of rs ek, hb, fin⟩
    · obtain ⟨l, vs, rfl, hr, rs⟩ := rep_list A1 r1 hx
      exact ⟨l, vs, ks, rfl, .inl hr, keys_of rs ek, hb, fin⟩
  · subst ex exs
    cases r1
    have ob : ∃ T, seqTy T ∧ ∃ od its nl sl, s1.heap.get? l = some { cls := .type T, dict := od, data := .seq its nl, slots := sl } ∧ Vals (ks.map kV) its.toList := by
      rcases hq with hq | hq
      · obtain ⟨its, r, ⟨⟨c, d, dt, sl⟩, n, e, e1, e2, e3⟩, _⟩ := I1.list hq
        simp only at e1 e2 e3
        subst e1 e2 e3
        exact ⟨"list", .inl rfl, _, _, _, _, e, by simpa using r⟩
      · obtain ⟨its, r, ⟨⟨c, d, dt, sl⟩, e, e1, n, e3⟩, _⟩ := I1.tuple hq
        simp only at e1 e3
        subst e1 e3
        exact ⟨"tuple", .inr rfl, _, _, _, _, e, by simpa using r⟩
    obtain ⟨T, hT, od, its, nl, sl, ho, hk⟩ := ob
    refine keys_set hT (I1.ok.hd hc) ho hk hb fun h2 tk hU hk2 => PyProof.Rows.args_nil ?_
    obtain ⟨o, es, ep, t, hoo, hex, hd, _, _, hlt, hf, hn⟩ := hU
    have I2 : Inv X pins σ H1 { s1 with heap := h2, toks := tk } := I1.kept fun b o e => hk2 b o e
    have hle := uniqs_len ks
    have hs : scanBound = 4096 := by unfold scanBound; rfl
    refine call_len_set hoo hex hd hf (by rw [hn]; omega) ⟨.int (uniqs ks).length, H1, I2.tok _, ⟨_, by rw [hn]⟩, q1⟩
end
end DL

set_option Elab.async false
set_option linter.all false
set_option maxHeartbeats 4000000
/-! D-layer, part 12: the head of a law. -/
namespace DL
open PySem PySem.Spec PyProof.Rows L2

theorem mnone {K : KZ} {H : Hp} (hz : ∀ a, ¬ K.z a) : MAbs K (fun _ => none) H := ⟨fun _ _ e => (nomatch e), fun _ _ e => (nomatch e), fun a h => absurd h (hz a)⟩
section
variable {P : Program} {w : World} {K : PySem.W.Frag} {mg mb : Str → Option Value}
/-- what is asked of the law's def, and that it gives True -/
def LawSp (sp : SpD) (n : Nat) : Prop := ∀ ns : List Int, ns.length ≤ n → sp [.lst (ns.map .int)] (fun _ => none) (fun d _ => d = .bl true) noX
theorem head_ {k n : Nat} {fa a : Addr} {nm x : Str} {st : Stmt} {sp : SpD} {s1 : Shared} {us : List Value} {ns : List Int} (kin : K.In s1.heap) (g1 : s1.heap.Ns mainGlobals mg) (g2 : s1.heap.Ns builtinsNs mb) (gb : ∀ y : Str, y ≠ "__name__" → mb y = bootBuiltins y)
    (nl : s1.heap.NoLimit) (ng : s1.gens = #[]) (ea : s1.heap.get? a = some { cls := .type "list", data := .seq us.toArray }) (ui : IntsAre us ns) (un : ns.length ≤ n) (nn : n ≤ sizeLine) (room : Room k callerA) (em : mg nm = some (.ref fa)) (pb : PosB nm st [x])
    (F : ∀ base : Heap, K.In base → base.Ns mainGlobals mg → Has P w K mg base CX0 nm st [x] k sp) (hsp : LawSp sp n) :
    codeAny (model P w) callerA (.call (.ref fa) ⟨[.ref a], []⟩) (fun r s2 => r = .ok (.ret (.bool true)) ∧ OldK s1.heap s2.heap ∧ s2.os = s1.os ∧ AllBare s2.gens) s1 := by
  have uv : Vals (ns.map V.int) us := vals_ints ui
  have ul : us.length = ns.length := by rw [← uv.length, List.length_map]
  have go : ∀ H : Hp, Only H → SqL K H a (ns.map V.int) → HOk P w H s1.heap → (∀ b, H b ≠ none → b = a ∧ K.lookup b = none) → codeAny (model P w) callerA (.call (.ref fa) ⟨[.ref a], []⟩) (fun r s2 => r = .ok (.ret (.bool true)) ∧ OldK s1.heap s2.heap ∧ s2.os = s1.os ∧ AllBare s2.gens) s1 := by
    intro H only sq ok there
    have free : ∀ {b : Addr} {o : Obj}, s1.heap.get? b = some o → (∀ es ep, o.data ≠ .dict es ep) → True := fun _ _ => trivial
    have dic : ∀ {b : Addr} {m : Str → Option Value}, s1.heap.Ns b m → (hidT s1.heap H).Ns b m := fun {b m} ⟨o, es, ep, e, d, z⟩ => ⟨o, es, ep, hidT_get e (Classical.byContradiction fun hb => by
      obtain ⟨eb, _⟩ := there b hb
      rw [eb, ea] at e
      cases e
      exact nomatch d), d, z⟩
    have kb : K.In (hidT s1.heap H) := fun b o e => hidT_get (kin b o e) (Classical.byContradiction fun hb => by
      obtain ⟨_, eb⟩ := there b hb
      rw [eb] at e
      cases e)
    have md : Mod K mg (hidT s1.heap H) := ⟨kb, dic g1, ⟨mb, dic g2, gb⟩, let ⟨mc, p, q⟩ := nl; ⟨mc, dic p, q⟩⟩
    have env : Env0 P w K mg (hidT s1.heap H) callerA [] s1 H := ⟨rfl, md, fun b o e => of_hidT e, Nat.le_of_eq (hidT_size _ _), trivial, fun b hb => (nomatch (show b ∈ ([] : List Addr) from hb)), ok, .of_eq ng⟩
    obtain ⟨f, fd, hm, Fn, G⟩ := (F _ kb (dic g1)).ex
    obtain rfl : f = fa := by
      have z := hm.symm.trans em
      cases z
      rfl
    have mz : MAbs ⟨K, fun _ => False⟩ (fun _ => none) H := mnone fun _ h => h
    have rep : Reps ⟨K, fun _ => False⟩ (fun _ => none) H [.ref a] [.lst (ns.map .int)] := .cons (.lst (sq.elim (fun r => .inl ⟨r, rfl, id⟩) .inr) (Reps.ints ns)) .nil
    have fin : Fin ⟨K, fun _ => False⟩ (fun _ => none) H (fun d _ => d = .bl true) (fun v _ => v = .bl true) := fun d M2 v H2 e r _ _ => by
      subst e
      exact rep_bl r
    have bind : BindsTo s1 fd ⟨[.ref a], []⟩ ([x].zip [.ref a]) := by
      obtain ⟨oc, od, kV, doc, pm, an, cdv, ct, osl, rfl, _⟩ := Fn.ex
      exact .of_eq (pb _ _ _ _ _ _ _ rfl)
    refine codeAny_mono (G.run callerA [] s1 H ⟨[.ref a], []⟩ [.ref a] [.ref a] (fun v _ => v = .bl true) (fun _ _ _ => False) room rfl env bind (.cons rfl .nil) ⟨_, _, _, _, _, mz, rep, hsp ns un, fin, .no⟩) fun r s2 h => ?_
    rcases r with e | fl
    · exact h.elim
    rcases fl with _ | _ | _ | u
    all_goals try exact h.elim
    obtain ⟨v, H2, h1, h2, h3, h4, h5, h6⟩ := h
    have h6' : v = .bl true := h6
    subst h6'
    obtain rfl : u = Value.bool true := h5
    refine ⟨rfl, OldK.of_keep fun b o e => ?_, h1, h2⟩
    rcases only b with z | ⟨ob, xs, z⟩
    · exact h3.keep b o e z (fun q => nomatch (show b ∈ ([] : List Addr) from q)) (fun q => nomatch q)
    · have a1 := (ok b _ z).1
      have a2 := (h4 b _ (h3.frzs b ob _ z)).1
      rw [e] at a1
      cases a1
      exact a2
  cases q : K.lookup a with
  | some o =>
    have e := kin a o q
    rw [ea] at e
    cases e
    exact go (fun _ => none) (fun _ => .inl rfl) (.inr ⟨_, us.toArray, _, q, rfl, rfl, rfl, by rw [List.size_toArray, ul]; omega, by simpa using uv⟩) (fun b u z => (nomatch z)) fun b z => absurd rfl z
  | none =>
    let H : Hp := fun b => if b = a then some (.frz { cls := .type "list", data := .seq us.toArray } (.lst (ns.map V.int))) else none
    have at_a : H a = some (.frz { cls := .type "list", data := .seq us.toArray } (.lst (ns.map V.int))) := if_pos rfl
    have off : ∀ {b}, b ≠ a → H b = none := fun h => if_neg h
    refine go H (fun b => ?_) (.inl (.inr ⟨_, at_a⟩)) (fun b u z => ?_) fun b z => ?_
    · by_cases h : b = a
      · exact .inr ⟨_, _, h ▸ at_a⟩
      · exact .inl (off h)
    · by_cases h : b = a
      · subst h
        rw [at_a] at z
        cases z
        exact ⟨ea, by rw [List.length_map]; omega, us, _, uv, ea⟩
      · rw [off h] at z
        cases z
    · by_cases h : b = a
      · exact ⟨h, h ▸ q⟩
      · exact absurd (off h) z
end
open PySem.W in
/-- the goal that k_head leaves (case hc) -/
theorem walkD {l : OpenLaw} {n k : Nat} {q : Program} {loose : List Str} {XP : (Str → Option Value) → Heap → Prop} {YP : World → Heap → Prop} {d : DefRec} {K : Params → Frag} {sp : SpD} {x : Str} {st : Stmt} (hn : l.most = some n) (nn : n ≤ sizeLine) (hdf : d.params.defaults = []) (hr : Room k callerA)
    (hY : ∀ (w : World) (h : Heap), YP w h → (K w.params).In h) (pb : PosB d.name st [x]) (F : ∀ (w : World) (mg : Str → Option Value) (base : Heap), (K w.params).In base → base.Ns mainGlobals mg → Has l.prog w (K w.params) mg base CX0 d.name st [x] k sp) (hsp : LawSp sp n) :
    WalkO q loose XP YP l.row.toRowW d [] (fun f vs => PySem.call f vs) :=
  Att.attach_call hn hdf fun w s0 s1 mg mb fa o pm cd doc a us ns G Y ho hd hcd hmg hobj hints hlen hg => head_ (hY w _ Y) G.T.g G.T.b G.T.builtins G.T.nolimit hg hobj hints hlen nn hr hmg pb (F w mg) hsp
end DL

set_option Elab.async false
set_option linter.all false
set_option maxHeartbeats 4000000
/-! D-layer, part 13: what the printed walks use. -/
namespace DL
open PySem PySem.Spec PyProof.Rows L2
section
variable {X : Cx} {a b c : Expr} {pos : Pos}
/-- a, b, c = x, y, z with three local names -/
def dPar3 (i j l : Nat) (t : DA) : DS := fun D ρ M => t ρ M fun ds M1 => ∃ x y z, ds = [x, y, z] ∧ D.nx (put (put (put ρ i x) j y) l z) M1
theorem ds_par3 {ta : DA} (i j l : Nat) {x y z : Str} {px py pz pt : Pos} {kt k2 : Nat} {pt2 : Pos} (hc : X.calm = true) (hN : X.N.Nodup) (ha : PAD X [a, b, c] ta) (hi : X.N[i]? = some x := by rfl) (hj : X.N[j]? = some y := by rfl) (hl : X.N[l]? = some z := by rfl) (hij : i ≠ j := by decide) (hil : i ≠ l := by decide) (hjl : j ≠ l := by decide)
    (hx : X.env.scope.names.lookup x = some .local := by rfl) (hy : X.env.scope.names.lookup y = some .local := by rfl) (hz : X.env.scope.names.lookup z = some .local := by rfl)
    (hw : swappedStores [.Tuple [.Name x px, .Name y py, .Name z pz] kt pt] (.Tuple [a, b, c] k2 pt2) X.env = pure (some [x, y, z]) := by rfl)
    (hs : swapsWithSole [.Tuple [.Name x px, .Name y py, .Name z pz] kt pt] (.Tuple [a, b, c] k2 pt2) pos.line X.env = pure false := by rfl) :
    PSD X (.Assign [.Tuple [.Name x px, .Name y py, .Name z pz] kt pt] (.Tuple [a, b, c] k2 pt2) pos) (dPar3 i j l ta) :=
  (ps_par3 hc hN hi hj hl hij hil hjl hx hy hz ha hw hs).weak fun D σ H ⟨z, ρ, M, D0, S, A, q, L⟩ => ⟨z, ρ, M, _, S, A, q, fun ds M1 vs H1 ⟨x, y, z', e, q1⟩ r1 A1 f1 => by
    subst e
    cases r1 with
    | cons r1 r2 => cases r2 with
      | cons r2 r3 => cases r3 with
        | cons r3 r4 =>
          cases r4
          exact ⟨_, _, _, rfl, L.nx _ M1 _ H1 q1 ((((S.fr f1).put i r1).put j r2).put l r3) A1 f1⟩⟩
end
section
variable {K : PySem.W.Frag} {mg : Str → Option Value} {x : Str}
theorem holds_str {s : Str} {t : Tok} (e : mg x = some (.str s t)) : Holds K mg x (.str s) := ⟨.str s, _, e, ⟨t, rfl⟩, fun _ _ _ => .str _⟩
theorem holds_int {i : Int} {t : Tok} (e : mg x = some (.int i t)) : Holds K mg x (.int i) := ⟨.int i, _, e, ⟨t, rfl⟩, fun _ _ _ => .int _⟩
theorem reps_strs {K : KZ} {M : Mem} {H : Hp} : ∀ xs : List Str, Reps K M H (xs.map .str) (xs.map .str)
  | [] => .nil
  | x :: xs => .cons (.str x) (reps_strs xs)
theorem holds_ints {a : Addr} {od : Option Addr} {n : Nat} {so : Array (Option Value)} {us : Array Value} {xs : List Int} (e : mg x = some (.ref a)) (o : K.lookup a = some ⟨.type "tuple", od, .seq us n, so⟩) (hz : us.size ≤ sizeLine) (r : Vals (xs.map V.int) us.toList) : Holds K mg x (.tup (xs.map .int)) :=
  ⟨.ref a, _, e, rfl, fun _ _ _ => .tup (.inr ⟨_, us, n, o, rfl, rfl, hz, r⟩) (Reps.ints xs)⟩
theorem holds_strs {a : Addr} {od : Option Addr} {n : Nat} {so : Array (Option Value)} {us : Array Value} {xs : List Str} (e : mg x = some (.ref a)) (o : K.lookup a = some ⟨.type "tuple", od, .seq us n, so⟩) (hz : us.size ≤ sizeLine) (r : Vals (xs.map V.str) us.toList) : Holds K mg x (.tup (xs.map .str)) :=
  ⟨.ref a, _, e, rfl, fun _ _ _ => .tup (.inr ⟨_, us, n, o, rfl, rfl, hz, r⟩) (reps_strs xs)⟩
end
end DL

set_option Elab.async false
set_option linter.all false
set_option maxHeartbeats 4000000
/-! D-layer, part 14: defs that leave the memory as it is; plain comprehensions; data. -/
namespace DL
open PySem PySem.Spec PyProof.Rows L2

section
variable {P : Program} {w : World} {K : PySem.W.Frag} {mg : Str → Option Value} {base : Heap}
theorem has_plain {x : Str} {st : Stmt} {N ps : List Str} {k : Nat} {sp : SpD} {t : DS} (F : ∃ (f : Addr) (fd : FuncData), mg x = some (.ref f) ∧ Fun K x x st f fd) (S : FnScope N ps (defScope st)) (len : ∀ ds M R XR, sp ds M R XR → ds.length = ps.length)
    (hb : ∀ (f : Addr) (cdv : Value) (A : Around) (outer : List Env) (s : Shared) (H : Hp) (E : XK), Room k (A.deeper (envOfC x (defScope st) s.heap.objs.size f cdv)) → A.guards = some [] → PBD (cxOf CX0 P w K mg base N x (defScope st) f cdv A outer s H E).nox (defBody st) t)
    (rd : ∀ ds M R XR, sp ds M R XR → t { nx := fun _ M => R .non M, rt := R } (startD (N.length - ps.length) ds) M) : Has P w K mg base CX0 x st ps (k + 1) sp := by
  obtain ⟨f, fd, hm, F⟩ := F
  refine ⟨f, fd, hm, F, fnG_of F S (fun vs H Q E ⟨z, M, ds, R, XR, A, r, q, _⟩ => r.length.trans (len _ _ _ _ q)) fun cdv A outer s H vs Q E hr hG h => ?_⟩
  obtain ⟨z, M, ds, R, XR, A', r, q, FF, _⟩ := h
  refine ⟨_, (hb f cdv A outer s H E hr hG).nox, z, startD (N.length - ps.length) ds, M, _, ?_, A', rd _ _ _ _ q, ⟨?_, FF, fun _ _ _ _ z => z.elim, fun _ _ _ _ z => z.elim, fun _ _ _ _ _ _ _ _ _ z => z.elim⟩⟩
  · have e : vs.length = ps.length := r.length.trans (len _ _ _ _ q)
    unfold L2.start startD
    rw [e]
    exact SAbs.start r _
  · intro ρ M1 σ1 H1 q1 S1 A1 f1
    exact FF .non M1 .non H1 q1 .non A1 f1
/-- the same, where the end may be seen otherwise -/
theorem has_view {x : Str} {st : Stmt} {N ps : List Str} {k : Nat} {sp : SpD} {t : DS} (F : ∃ (f : Addr) (fd : FuncData), mg x = some (.ref f) ∧ Fun K x x st f fd) (S : FnScope N ps (defScope st)) (len : ∀ ds M R XR, sp ds M R XR → ds.length = ps.length)
    (hb : ∀ (f : Addr) (cdv : Value) (A : Around) (outer : List Env) (s : Shared) (H : Hp) (E : XK), Room k (A.deeper (envOfC x (defScope st) s.heap.objs.size f cdv)) → A.guards = some [] → PBD (cxOf CX0 P w K mg base N x (defScope st) f cdv A outer s H E).nox (defBody st) t)
    (rd : ∀ ds M R XR, sp ds M R XR → t (endsOf K R) (startD (N.length - ps.length) ds) M) : Has P w K mg base CX0 x st ps (k + 1) sp := by
  obtain ⟨f, fd, hm, F⟩ := F
  exact has_of hm F S len (fun cdv A outer s H E hr hG => hb f cdv A outer s H E hr hG) rd
end
/-! ### data -/
mutual
def dat : D → Bool
  | .non => true
  | .bl _ => true
  | .int _ => true
  | .str s => decide (s.length ≤ 1000)
  | .ty _ => false
  | .ref _ => false
  | .box _ _ _ _ _ => false
  | .tup ds => decide (ds.length ≤ 1000) && dats ds
  | .lst ds => decide (ds.length ≤ 1000) && dats ds
  | .dct ks ds => decide (ks.length = ds.length) && dats ds
def dats : List D → Bool
  | [] => true
  | d :: ds => dat d && dats ds
end
theorem dats_all : ∀ {ds : List D}, dats ds = true ↔ ∀ d ∈ ds, dat d = true
  | [] => by simp [dats]
  | d :: ds => by simp [dats, dats_all (ds := ds)]
def tyN : D → String
  | .non => "NoneType"
  | .bl _ => "bool"
  | .int _ => "int"
  | .str _ => "str"
  | .tup _ => "tuple"
  | .lst _ => "list"
  | .dct _ _ => "dict"
  | _ => ""
theorem tyD_dat {M : Mem} {d : D} (h : dat d = true) : tyD M d = some (tyN d) := by
  cases d <;> first | rfl | (cases h; done)
theorem EqD.int {M : Mem} {i j : Int} : EqD M (.int i) (.int j) (decide (i = j)) := ⟨.int i, .int j, rfl, rfl, rfl, rfl, rfl⟩
theorem EqD.str {M : Mem} {x : D} {s : Str} {t : String} (h : tyD M x = some t) : EqD M x (.str s) (isStr x s) := by
  unfold EqD
  exact ⟨by rw [h]; exact nofun, rfl⟩
theorem EqD.tup0 {M : Mem} {ds : List D} : EqD M (.tup ds) (.tup []) ds.isEmpty := rfl
theorem EqD.lst0 {M : Mem} {ds : List D} : EqD M (.lst ds) (.lst []) ds.isEmpty := rfl
theorem toPys_ints : ∀ ns : List Int, toPys (ns.map .int) = some (ns.map .int)
  | [] => rfl
  | n :: ns => by
    rw [List.map_cons]
    show (match toPy (.int n), toPys (ns.map .int) with
      | some p, some ps => some (p :: ps)
      | _, _ => none) = _
    rw [toPys_ints ns]
    rfl
/-! ### isinstance -/
def isiTy : String → Bool := fun c => decide (c ∈ ["int", "str", "bool", "tuple", "list", "dict"])
theorem go_isi {M : Mem} {R : RK} {d : D} {t c : String} (h : tyD M d = some t) (hc : isiTy c = true) (q : R (.bl (isTy t c)) M) : dIsi [d, .ty c] M R := ⟨d, t, c, rfl, h, q, of_decide_eq_true hc⟩
/-! ### comprehensions and loops that leave the memory as it is -/
section
variable {ρ : DEnv} {M : Mem} {R : RK} {vs : List Nat} {ti : DI} {g : DG} {tt : DT} {te : DE} {items : List D} {G : Mem → Prop}
theorem go_lcW (end_ : List D → Mem → RK → Prop) (p : D → Bool) (f : D → D) (hti : ∀ Q : List D → (Mem → Prop) → Mem → Prop, Q items G M → ti ρ M Q) (hl : items.length ≤ sizeLine) (hG : G M)
    (hs : ∀ d ∈ items, ∀ (Rt : RK) (Rf : Mem → Prop), (p d = true → Rt (f d) M) → (p d = false → Rf M) → g d (dwipe ρ vs) fun ρ3 => tt ρ3 M fun k M3 => if k = true then te ρ3 M3 Rt else Rf M3) (q : end_ ((items.filter p).map f) M R) : dLcW vs ti g tt te end_ ρ M R := by
  refine hti _ ⟨hl, fun i acc M2 => M2 = M ∧ acc = (((items.take i).filter p).map f), ⟨rfl, rfl⟩, fun i d acc M2 hd _ ⟨e1, e2⟩ => ?_, fun acc M2 _ ⟨e1, e2⟩ => ?_⟩
  · subst e1 e2
    have next : items.take (i + 1) = items.take i ++ [d] := by rw [List.take_add_one, hd]; rfl
    refine ⟨hG, hs d (List.mem_of_getElem? hd) _ _ (fun e => ⟨rfl, ?_⟩) fun e => ⟨rfl, ?_⟩⟩
    · rw [next, List.filter_append, List.map_append]
      simp [e]
    · rw [next, List.filter_append, List.map_append]
      simp [e]
  · subst e1 e2
    rw [List.take_length]
    exact ⟨hG, q⟩
theorem go_lc (p : D → Bool) (f : D → D) (hti : ∀ Q : List D → (Mem → Prop) → Mem → Prop, Q items G M → ti ρ M Q) (hl : items.length ≤ sizeLine) (hG : G M)
    (hs : ∀ d ∈ items, ∀ (Rt : RK) (Rf : Mem → Prop), (p d = true → Rt (f d) M) → (p d = false → Rf M) → g d (dwipe ρ vs) fun ρ3 => tt ρ3 M fun k M3 => if k = true then te ρ3 M3 Rt else Rf M3) (q : R (.lst ((items.filter p).map f)) M) : dLc vs ti g tt te ρ M R :=
  go_lcW _ p f hti hl hG hs q
/-- no condition -/
theorem go_map (f : D → D) (hti : ∀ Q : List D → (Mem → Prop) → Mem → Prop, Q items G M → ti ρ M Q) (hl : items.length ≤ sizeLine) (hG : G M)
    (hs : ∀ d ∈ items, ∀ Rt : RK, Rt (f d) M → g d (dwipe ρ vs) fun ρ3 => te ρ3 M Rt) (q : R (.lst (items.map f)) M) : dLc vs ti g dYes te ρ M R :=
  go_lc (fun _ => true) f hti hl hG (fun d hd Rt Rf h1 _ => hs d hd Rt (h1 rfl)) (by rw [List.filter_eq_self.mpr fun _ _ => rfl]; exact q)
/-- each item is one of some -/
theorem go_some (C : D → Prop) (hti : ∀ Q : List D → (Mem → Prop) → Mem → Prop, Q items G M → ti ρ M Q) (hl : items.length ≤ sizeLine) (hG : G M)
    (hs : ∀ d ∈ items, ∀ Rt : RK, (∀ y, C y → Rt y M) → g d (dwipe ρ vs) fun ρ3 => te ρ3 M Rt) (q : ∀ acc : List D, acc.length = items.length → (∀ y ∈ acc, C y) → R (.lst acc) M) : dLc vs ti g dYes te ρ M R := by
  refine hti _ ⟨hl, fun i acc M2 => M2 = M ∧ acc.length = i ∧ ∀ y ∈ acc, C y, ⟨rfl, rfl, by simp⟩, fun i d acc M2 hd _ ⟨e1, e2, e3⟩ => ?_, fun acc M2 _ ⟨e1, e2, e3⟩ => ?_⟩
  · subst e1
    exact ⟨hG, hs d (List.mem_of_getElem? hd) _ fun y hy => ⟨rfl, by simp [e2], fun z hz => (List.mem_append.mp hz).elim (e3 z) fun h => by simp at h; exact h ▸ hy⟩⟩
  · subst e1
    exact ⟨hG, q acc e2 e3⟩
theorem go_for {tb : DS} {D0 : EndsD} (W : Nat → DEnv → Mem → Prop) (hti : ∀ Q : List D → (Mem → Prop) → Mem → Prop, Q items G M → ti ρ M Q) (h0 : W 0 ρ M)
    (hs : ∀ i d ρ2 M2, items[i]? = some d → W i ρ2 M2 → G M2 ∧ g d ρ2 fun ρ3 => tb { D0 with nx := W (i + 1), ct := W (i + 1), bk := D0.nx } ρ3 M2) (hd : ∀ ρ2 M2, W items.length ρ2 M2 → G M2 ∧ D0.nx ρ2 M2) : dFor ti g tb D0 ρ M :=
  hti _ ⟨W, h0, hs, hd⟩
theorem it_val {te : DE} {d : D} {Q : List D → (Mem → Prop) → Mem → Prop} (h : ∀ R : RK, R d M → te ρ M R) (hi : Iter M d items G) (q : Q items G M) : dVal te ρ M Q := h _ ⟨items, G, hi, q⟩
end
/-! ### readings as equivalences -/
section
variable {M : Mem} {R : RK} {d : D} {i j : Int} {ds es : List D} {s t : Str} {c : String} {a : Addr} {b : Bool}
theorem q_isi_iff : dIsi [d, .ty c] M R ↔ ∃ t, tyD M d = some t ∧ isiTy c = true ∧ R (.bl (isTy t c)) M := by
  constructor
  · rintro ⟨x, t, c', e, h1, h2, h3⟩
    simp at e
    obtain ⟨rfl, rfl⟩ := e
    exact ⟨t, h1, decide_eq_true h3, h2⟩
  · rintro ⟨t, h1, h2, h3⟩
    exact ⟨d, t, c, rfl, h1, h3, of_decide_eq_true h2⟩
theorem q_ty_non : tyD M .non = some "NoneType" := rfl
theorem q_ty_bl : tyD M (.bl b) = some "bool" := rfl
theorem q_ty_int : tyD M (.int i) = some "int" := rfl
theorem q_ty_str : tyD M (.str s) = some "str" := rfl
theorem q_ty_tup : tyD M (.tup ds) = some "tuple" := rfl
theorem q_ty_lst : tyD M (.lst ds) = some "list" := rfl
theorem q_ty_dct {ks : List Key} : tyD M (.dct ks ds) = some "dict" := rfl
theorem q_len_tup : dLen [.tup ds] M R ↔ R (.int ds.length) M := ⟨fun ⟨x, e, h⟩ => by simp at e; subst e; exact h, fun h => ⟨_, rfl, h⟩⟩
theorem q_len_lst : dLen [.lst ds] M R ↔ R (.int ds.length) M := ⟨fun ⟨x, e, h⟩ => by simp at e; subst e; exact h, fun h => ⟨_, rfl, h⟩⟩
theorem q_len_str : dLen [.str s] M R ↔ s.length ≤ sizeLine ∧ R (.int s.length) M := ⟨fun ⟨x, e, h⟩ => by simp at e; subst e; exact h, fun h => ⟨_, rfl, h⟩⟩
theorem q_len_ref : dLen [.ref a] M R ↔ ∃ ds, M a = some (.lst ds) ∧ R (.int ds.length) M := ⟨fun ⟨x, e, h⟩ => by simp at e; subst e; exact h, fun h => ⟨_, rfl, h⟩⟩
theorem q_bl_iff {P : Bool → Prop} : (∃ k, D.bl b = .bl k ∧ P k) ↔ P b := ⟨fun ⟨k, e, h⟩ => by cases e; exact h, fun h => ⟨b, rfl, h⟩⟩
theorem q_eqd_int {k : Bool} : EqD M (.int i) (.int j) k ↔ k = decide (i = j) := by
  constructor
  · rintro ⟨p, q, e1, e2, _, _, e⟩
    cases e1
    cases e2
    exact e
  · rintro rfl
    exact EqD.int
theorem q_eqd_str {k : Bool} : EqD M d (.str s) k ↔ tyD M d ≠ none ∧ k = isStr d s := by cases d <;> rfl
theorem q_eqd_tup {k : Bool} : EqD M (.tup ds) (.tup []) k ↔ k = ds.isEmpty := Iff.rfl
theorem q_eqd_lst {k : Bool} : EqD M (.lst ds) (.lst []) k ↔ k = ds.isEmpty := Iff.rfl
theorem q_eq_int : dEq (.int i) (.int j) M R ↔ R (.bl (decide (i = j))) M := ⟨fun ⟨k, h, q⟩ => by rw [q_eqd_int] at h; rw [← h]; exact q, fun q => ⟨_, EqD.int, q⟩⟩
theorem q_ne_int : dNe (.int i) (.int j) M R ↔ R (.bl (!decide (i = j))) M := ⟨fun ⟨k, h, q⟩ => by rw [q_eqd_int] at h; rw [← h]; exact q, fun q => ⟨_, EqD.int, q⟩⟩
theorem q_eq_str : dEq d (.str s) M R ↔ tyD M d ≠ none ∧ R (.bl (isStr d s)) M := ⟨fun ⟨k, h, q⟩ => by rw [q_eqd_str] at h; rw [← h.2]; exact ⟨h.1, q⟩, fun q => ⟨_, q_eqd_str.mpr ⟨q.1, rfl⟩, q.2⟩⟩
theorem q_ne_str : dNe d (.str s) M R ↔ tyD M d ≠ none ∧ R (.bl (!isStr d s)) M := ⟨fun ⟨k, h, q⟩ => by rw [q_eqd_str] at h; rw [← h.2]; exact ⟨h.1, q⟩, fun q => ⟨_, q_eqd_str.mpr ⟨q.1, rfl⟩, q.2⟩⟩
theorem q_eq_tup0 : dEq (.tup ds) (.tup []) M R ↔ R (.bl ds.isEmpty) M := ⟨fun ⟨k, h, q⟩ => by rw [q_eqd_tup] at h; rw [← h]; exact q, fun q => ⟨_, rfl, q⟩⟩
theorem q_ne_tup0 : dNe (.tup ds) (.tup []) M R ↔ R (.bl !ds.isEmpty) M := ⟨fun ⟨k, h, q⟩ => by rw [q_eqd_tup] at h; rw [← h]; exact q, fun q => ⟨_, rfl, q⟩⟩
theorem q_eq_lst0 : dEq (.lst ds) (.lst []) M R ↔ R (.bl ds.isEmpty) M := ⟨fun ⟨k, h, q⟩ => by rw [q_eqd_lst] at h; rw [← h]; exact q, fun q => ⟨_, rfl, q⟩⟩
theorem q_ne_lst0 : dNe (.lst ds) (.lst []) M R ↔ R (.bl !ds.isEmpty) M := ⟨fun ⟨k, h, q⟩ => by rw [q_eqd_lst] at h; rw [← h]; exact q, fun q => ⟨_, rfl, q⟩⟩
theorem q_ix_tup : dIx (.tup ds) (.int i) M R ↔ ∃ d, L2.atI ds i = some d ∧ R d M := ⟨fun ⟨x, e, h⟩ => by cases e; exact h, fun h => ⟨_, rfl, h⟩⟩
theorem q_ix_lst : dIx (.lst ds) (.int i) M R ↔ ∃ d, L2.atI ds i = some d ∧ R d M := ⟨fun ⟨x, e, h⟩ => by cases e; exact h, fun h => ⟨_, rfl, h⟩⟩
theorem q_at0 {x : D} : L2.atI (x :: ds) 0 = some x := L2.atI_nat (j := 0) rfl
theorem q_at1 {x y : D} : L2.atI (x :: y :: ds) 1 = some y := L2.atI_nat (j := 1) rfl
theorem q_at2 {x y z : D} : L2.atI (x :: y :: z :: ds) 2 = some z := L2.atI_nat (j := 2) rfl
theorem q_at3 {x y z u : D} : L2.atI (x :: y :: z :: u :: ds) 3 = some u := L2.atI_nat (j := 3) rfl
theorem q_op_lt : dLt (.int i) (.int j) M R ↔ R (.bl (decide (i < j))) M := ⟨fun ⟨_, _, e1, e2, h⟩ => by cases e1; cases e2; exact h, fun h => ⟨_, _, rfl, rfl, h⟩⟩
theorem q_op_le : dLe (.int i) (.int j) M R ↔ R (.bl (decide (i ≤ j))) M := ⟨fun ⟨_, _, e1, e2, h⟩ => by cases e1; cases e2; exact h, fun h => ⟨_, _, rfl, rfl, h⟩⟩
theorem q_op_gt : dGt (.int i) (.int j) M R ↔ R (.bl (decide (j < i))) M := ⟨fun ⟨_, _, e1, e2, h⟩ => by cases e1; cases e2; exact h, fun h => ⟨_, _, rfl, rfl, h⟩⟩
theorem q_op_ge : dGe (.int i) (.int j) M R ↔ R (.bl (decide (j ≤ i))) M := ⟨fun ⟨_, _, e1, e2, h⟩ => by cases e1; cases e2; exact h, fun h => ⟨_, _, rfl, rfl, h⟩⟩
theorem q_op_sb : dSub (.int i) (.int j) M R ↔ R (.int (i - j)) M := ⟨fun ⟨_, _, e1, e2, h⟩ => by cases e1; cases e2; exact h, fun h => ⟨_, _, rfl, rfl, h⟩⟩
theorem q_op_ml : dMul (.int i) (.int j) M R ↔ L2.CMul i j ∧ R (.int (i * j)) M := ⟨fun ⟨_, _, e1, e2, h⟩ => by cases e1; cases e2; exact h, fun h => ⟨_, _, rfl, rfl, h⟩⟩
theorem q_op_md : dMod (.int i) (.int j) M R ↔ 0 < j ∧ R (.int (i % j)) M := ⟨fun ⟨_, _, e1, e2, h⟩ => by cases e1; cases e2; exact h, fun h => ⟨_, _, rfl, rfl, h⟩⟩
theorem q_op_dv : dDiv (.int i) (.int j) M R ↔ L2.CDiv i j ∧ R (.int (i / j)) M := ⟨fun ⟨_, _, e1, e2, h⟩ => by cases e1; cases e2; exact h, fun h => ⟨_, _, rfl, rfl, h⟩⟩
theorem q_op_pw : dPow (.int i) (.int j) M R ↔ L2.CPow i j ∧ R (.int (i ^ j.toNat)) M := ⟨fun ⟨_, _, e1, e2, h⟩ => by cases e1; cases e2; exact h, fun h => ⟨_, _, rfl, rfl, h⟩⟩
theorem q_op_ad : dAdd (.int i) (.int j) M R ↔ R (.int (i + j)) M := Iff.rfl
theorem q_ad_str : dAdd (.str s) (.str t) M R ↔ s.length + t.length ≤ sizeLine ∧ R (.str (s ++ t)) M := Iff.rfl
theorem q_ad_tup : dAdd (.tup ds) (.tup es) M R ↔ ds.length + es.length ≤ sizeLine ∧ R (.tup (ds ++ es)) M := Iff.rfl
theorem q_ad_lst : dAdd (.lst ds) (.lst es) M R ↔ ds.length + es.length ≤ sizeLine ∧ R (.lst (ds ++ es)) M := Iff.rfl
theorem q_un_ng : dNeg (.int i) M R ↔ R (.int (-i)) M := ⟨fun ⟨_, e, h⟩ => by cases e; exact h, fun h => ⟨_, rfl, h⟩⟩
theorem q_slot0 {x : Option D} {r : DEnv} : slot (x :: r) 0 = x := rfl
theorem q_slotS {x : Option D} {r : DEnv} {n : Nat} : slot (x :: r) (n + 1) = slot r n := rfl
theorem q_put0 {x : Option D} {r : DEnv} : put (x :: r) 0 d = some d :: r := rfl
theorem q_putS {x : Option D} {r : DEnv} {n : Nat} : put (x :: r) (n + 1) d = x :: put r n d := rfl
end
section
variable {ρ : DEnv} {M : Mem} {R : RK} {vs : List Nat} {ti : DI} {g : DG} {tt : DT} {te : DE} {items : List D} {G : Mem → Prop}
/-- all([.. for x in ..]) -/
theorem go_all (p : D → Bool) (hti : ∀ Q : List D → (Mem → Prop) → Mem → Prop, Q items G M → ti ρ M Q) (hl : items.length ≤ sizeLine) (hG : G M)
    (hs : ∀ d ∈ items, ∀ Rt : RK, Rt (.bl (p d)) M → g d (dwipe ρ vs) fun ρ3 => te ρ3 M Rt) (q : R (.bl (items.all p)) M) : dLc vs ti g dYes te ρ M fun x M1 => dAll [x] M1 R := by
  refine go_map (fun d => .bl (p d)) hti hl hG hs ⟨_, items.map p, rfl, .inl (by rw [List.map_map]; rfl), ?_⟩
  rw [List.all_map]
  exact q
theorem go_any (p : D → Bool) (hti : ∀ Q : List D → (Mem → Prop) → Mem → Prop, Q items G M → ti ρ M Q) (hl : items.length ≤ sizeLine) (hG : G M)
    (hs : ∀ d ∈ items, ∀ Rt : RK, Rt (.bl (p d)) M → g d (dwipe ρ vs) fun ρ3 => te ρ3 M Rt) (q : R (.bl (items.any p)) M) : dLc vs ti g dYes te ρ M fun x M1 => dAny [x] M1 R := by
  refine go_map (fun d => .bl (p d)) hti hl hG hs ⟨_, items.map p, rfl, .inl (by rw [List.map_map]; rfl), ?_⟩
  rw [List.any_map]
  exact q
end
theorem le_size {n : Nat} (h : n ≤ 1000) : n ≤ sizeLine := Nat.le_trans h (by decide)
def chr : D → Nat
  | .str s => s.cps.toList.headD 0
  | _ => 0
theorem chars_len (s : Str) : (charsD s).length = s.length := by unfold charsD; rw [List.length_map, Array.length_toList]; rfl
theorem dat_str {s : Str} (h : dat (.str s) = true) : s.length ≤ 1000 := of_decide_eq_true h
theorem dat_tup {ds : List D} (h : dat (.tup ds) = true) : ds.length ≤ 1000 ∧ ∀ d ∈ ds, dat d = true := by
  have h' : (decide (ds.length ≤ 1000) && dats ds) = true := h
  rw [Bool.and_eq_true] at h'
  exact ⟨of_decide_eq_true h'.1, dats_all.mp h'.2⟩
theorem dat_lst {ds : List D} (h : dat (.lst ds) = true) : ds.length ≤ 1000 ∧ ∀ d ∈ ds, dat d = true := by
  have h' : (decide (ds.length ≤ 1000) && dats ds) = true := h
  rw [Bool.and_eq_true] at h'
  exact ⟨of_decide_eq_true h'.1, dats_all.mp h'.2⟩
theorem q_z0 : 0 ≤ sizeLine := by decide
theorem q_z1 : 1 ≤ sizeLine := by decide
theorem q_z2 : 2 ≤ sizeLine := by decide
theorem q_z3 : 3 ≤ sizeLine := by decide
theorem q_z4 : 4 ≤ sizeLine := by decide
theorem q_z5 : 5 ≤ sizeLine := by decide
theorem q_z6 : 6 ≤ sizeLine := by decide
theorem q_z7 : 7 ≤ sizeLine := by decide
theorem q_z8 : 8 ≤ sizeLine := by decide
theorem q_z9 : 9 ≤ sizeLine := by decide
theorem q_z10 : 10 ≤ sizeLine := by decide
theorem q_z11 : 11 ≤ sizeLine := by decide
theorem q_z12 : 12 ≤ sizeLine := by decide
theorem q_z13 : 13 ≤ sizeLine := by decide
theorem q_z14 : 14 ≤ sizeLine := by decide
theorem q_z15 : 15 ≤ sizeLine := by decide
theorem q_z16 : 16 ≤ sizeLine := by decide
end DL

set_option Elab.async false
set_option linter.all false
set_option maxHeartbeats 4000000
/-! D-layer, part 15: bool, extend, pop at a place, a tuple again and again, is None, enumerate. -/
namespace DL
open PySem PySem.Spec PyProof.Rows L2

section
variable {X : Cx}
def dBool : DN := fun xs M R => (∃ i, xs = [.int i] ∧ R (.bl (i != 0)) M) ∨ ∃ k, xs = [.bl k] ∧ R (.bl k) M
theorem cd_bool : CallR X (.type "bool") (liftN X.K dBool) := call_bool1.weak fun xs H Q ⟨z, M, ds, R, A, r, h, F⟩ => by
  rcases h with ⟨i, e, q⟩ | ⟨k, e, q⟩
  · subst e
    obtain rfl := Reps.of_ints [i] r
    exact .inl ⟨i, rfl, F.at_ A q (.bl _)⟩
  · subst e
    obtain rfl := bools_of [k] r
    exact .inr ⟨k, rfl, F.at_ A q (.bl _)⟩
/-- found.extend(more): two lists that may change -/
def dExtendM : DM := fun d xs M R => ∃ a b ds es, d = .ref a ∧ xs = [.ref b] ∧ M a = some (.lst ds) ∧ M b = some (.lst es) ∧ ds.length + es.length ≤ sizeLine ∧ R .non (mset M a (.lst (ds ++ es)))
theorem md_extend : MtR X "list.extend" (liftM X.K dExtendM) := mt_extend.toR.weak fun x xs H Q ⟨z, M, d, ds, R, A, r1, r2, ⟨a, b, es, fs, e1, e2, hm, hb, hl, q⟩, F⟩ => by
  subst e1 e2
  obtain rfl := rep_ref r1
  obtain ⟨vs, ea, rs⟩ := A.at_ _ _ hm
  obtain ⟨us, eb, rb⟩ := A.at_ _ _ hb
  cases r2 with
  | cons r2 r3 =>
    cases r3
    obtain rfl := rep_ref r2
    exact ⟨a, b, vs, us, rfl, rfl, ea, eb, by rw [rs.length, rb.length]; exact hl, F.wrL A hm (rs.append rb) .non q⟩
theorem Reps.erase {K : KZ} {M : Mem} {H : Hp} : ∀ {vs : List V} {ds : List D} (i : Nat), Reps K M H vs ds → Reps K M H (vs.eraseIdx i) (ds.eraseIdx i)
  | _, _, _, .nil => .nil
  | _, _, 0, .cons _ t => t
  | _, _, i + 1, .cons r t => .cons r (t.erase i)
def dPopAt : DM := fun d xs M R => ∃ a ds i k y, d = .ref a ∧ xs = [.int i] ∧ M a = some (.lst ds) ∧ -(2 ^ 63) ≤ i ∧ i < 2 ^ 63 ∧ seqIndex? i ds.length = some k ∧ ds[k]? = some y ∧ R y (mset M a (.lst (ds.eraseIdx k)))
theorem md_popAt : MtR X "list.pop" (liftM X.K dPopAt) := mt_popAt.toR.weak fun x xs H Q ⟨z, M, d, ds, R, A, r1, r2, ⟨a, es, i, k, y, e1, e2, hm, h1, h2, hk, hy, q⟩, F⟩ => by
  subst e1 e2
  obtain rfl := rep_ref r1
  obtain ⟨vs, ea, rs⟩ := A.at_ _ _ hm
  obtain rfl := Reps.of_ints [i] r2
  obtain ⟨v, hv, rv⟩ := rs.get hy
  exact ⟨a, vs, i, k, v, rfl, rfl, ea, h1, h2, by rw [rs.length]; exact hk, hv, F.wrL A hm (rs.erase k) rv q⟩
/-- (x, ..) * k -/
def dRepT : D2 := fun x y M R => ∃ ds k, x = .tup ds ∧ y = .int k ∧ ds ≠ [] ∧ 2 ≤ k ∧ k ≤ 1000 ∧ ds.length ≤ 1000 ∧ R (.tup (List.replicate k.toNat ds).flatten) M
theorem Reps.rep {K : KZ} {M : Mem} {H : Hp} {vs : List V} {ds : List D} (r : Reps K M H vs ds) : ∀ n : Nat, Reps K M H (List.replicate n vs).flatten (List.replicate n ds).flatten
  | 0 => .nil
  | n + 1 => by
    rw [List.replicate_succ, List.replicate_succ, List.flatten_cons, List.flatten_cons]
    exact r.append (r.rep n)
theorem od_repT : OpR X (binaryOp .Mult) (lift2 X.K dRepT) := op_repT.weak fun v u H Q ⟨z, M, x, y, R, A, rx, ry, ⟨ds, k, e1, e2, hne, h1, h2, hl, q⟩, F⟩ => by
  subst e1 e2
  obtain ⟨a, vs, rfl, hr, rs⟩ := rep_tup rx
  refine ⟨a, k, vs, rfl, rep_int ry, hr.sq, fun e => ?_, h1, h2, by rw [rs.length]; exact hl, fun p hp => F.tup A hp (rs.rep _) q⟩
  subst e
  cases rs
  exact hne rfl
def isNon : D → Bool
  | .non => true
  | _ => false
theorem Rep.isNon {K : KZ} {M : Mem} {H : Hp} {v : V} {d : D} (r : Rep K M H v d) : decide (v = .non) = DL.isNon d := by
  cases r <;> rfl
def dIsN : D2 := fun x y M R => y = .non ∧ R (.bl (isNon x)) M
def dNotN : D2 := fun x y M R => y = .non ∧ R (.bl (!isNon x)) M
theorem od_is : OpR X (compareOp .Is) (lift2 X.K dIsN) := op_isN.weak fun v u H Q ⟨z, M, x, y, R, A, rx, ry, ⟨e, q⟩, F⟩ => by
  subst e
  exact ⟨rep_non ry, by rw [rx.isNon]; exact F.at_ A q (.bl _)⟩
theorem od_isNot : OpR X (compareOp .IsNot) (lift2 X.K dNotN) := op_notN.weak fun v u H Q ⟨z, M, x, y, R, A, rx, ry, ⟨e, q⟩, F⟩ => by
  subst e
  exact ⟨rep_non ry, by rw [rx.isNon]; exact F.at_ A q (.bl _)⟩
/-! ### enumerate -/
def enumD (ds : List D) : List D := (List.range ds.length).map fun i => .tup [.int (i : Nat), ds.getD i .non]
theorem enum_at {ds : List D} {i : Nat} {d : D} (h : (enumD ds)[i]? = some d) : ∃ x, ds[i]? = some x ∧ d = .tup [.int (i : Nat), x] := by
  unfold enumD at h
  rw [List.getElem?_map] at h
  cases e : (List.range ds.length)[i]? with
  | none => rw [e] at h; cases h
  | some j =>
    rw [e] at h
    obtain ⟨hl, hj⟩ := List.getElem?_eq_some_iff.mp e
    simp at hl hj
    subst hj
    refine ⟨ds[i], List.getElem?_eq_getElem hl, ?_⟩
    have := Option.some.inj h
    rw [← this]
    dsimp only
    rw [List.getD_eq_getElem?_getD, List.getElem?_eq_getElem hl]
    rfl
theorem enum_len {ds : List D} : (enumD ds).length = ds.length := by unfold enumD; simp
section
variable {K : KZ} {M : Mem} {H : Hp} {a : Addr} {vs : List V} {ds : List D}
theorem pair_new {i : Nat} {x : D} {v : V} {p : Addr} (A : MAbs K M H) (r : Rep K M H v x) (hp : H p = none) : Rep K M (upd H p (.tup [.int (i : Nat), v])) (.ref p) (.tup [.int (i : Nat), x]) ∧ MAbs K M (upd H p (.tup [.int (i : Nat), v])) ∧ Frame M H M (upd H p (.tup [.int (i : Nat), v])) :=
  ⟨.tup (.inl ⟨.inl upd_same, A.free hp⟩) (.cons (.int _) (.cons (r.fr (Frame.new hp)) .nil)), A.new hp, Frame.new hp⟩
theorem itd_enum (h : RdL K M H a vs) (r : Reps K M H vs ds) : ItD K (Ite K.k a) (enumD ds) (fun _ => True) M H := fun M2 H2 f A _ i => by
  have q := (h.fr f).sq
  have r2 := r.fr f
  refine ⟨fun hi => ⟨vs, q, by rw [r.length, ← enum_len]; exact hi⟩, fun d hd => ?_⟩
  obtain ⟨x, hx, rfl⟩ := enum_at hd
  obtain ⟨v, hv, rv⟩ := r2.get hx
  refine ⟨⟨vs, v, q, hv⟩, fun y H3 ⟨T, u, ey, hT, eH, hu⟩ => ?_⟩
  subst ey eH
  have := hu vs q
  rw [hv] at this
  cases this
  exact pair_new A rv hT
theorem itd_enumM : ItD K (Ite K.k a) (enumD ds) (fun M => M a = some (.lst ds)) M H := fun M2 H2 f A g i => by
  obtain ⟨us, e, r2⟩ := A.at_ a _ g
  have q : SqL K.k H2 a us := .inl (.inl e)
  refine ⟨fun hi => ⟨us, q, by rw [r2.length, ← enum_len]; exact hi⟩, fun d hd => ?_⟩
  obtain ⟨x, hx, rfl⟩ := enum_at hd
  obtain ⟨v, hv, rv⟩ := r2.get hx
  refine ⟨⟨us, v, q, hv⟩, fun y H3 ⟨T, u, ey, hT, eH, hu⟩ => ?_⟩
  subst ey eH
  have := hu us q
  rw [hv] at this
  cases this
  exact pair_new A rv hT
end
/-- enumerate(x), x a list -/
def dEnumL (ta : DA) : DI := fun ρ M R => ta ρ M fun xs M1 => ∃ x ds G, xs = [x] ∧ ((x = .lst ds ∧ G = fun _ => True) ∨ ∃ a, x = .ref a ∧ M1 a = some (.lst ds) ∧ G = fun M => M a = some (.lst ds)) ∧ R (enumD ds) G M1
theorem di_enumL {e : Expr} {ta : DA} {elts : List Expr} {kk : Nat} {p pos tpos : Pos} (hm : X.mg "enumerate" = none) (ha : PAD X [e] ta) (hg : Gl X "enumerate" := by rfl) (hs : starEach [e] X.env = [(false, eval e X.env)] := by rfl) :
    PID X (.Tuple elts kk tpos) (.Call (.Name "enumerate" p) [e] [] pos) (dEnumL ta) :=
  (pi_enum hg hm ha hs).weak fun σ H R ⟨z, ρ, M, R0, S, A, q, F⟩ => ⟨z, ρ, M, _, S, A, q, fun xs M1 vs H1 ⟨x, ds, G, ex, hx, q1⟩ r1 A1 f1 => by
    have zz : ∀ z' : Addr → Prop, (∀ a, z' a → z a ∨ H1 a = none) → ∀ a, H1 a ≠ none → z' a → z a := fun z' hz a h y => (hz a y).elim id fun e => absurd e h
    subst ex
    cases r1 with
    | cons r1 r2 =>
      cases r2
      rcases hx with ⟨rfl, rfl⟩ | ⟨a, rfl, hm, rfl⟩
      · obtain ⟨a, vs, rfl, h, r⟩ := rep_lst r1
        exact ⟨a, vs, rfl, h.sq, F _ _ _ _ _ q1 A1 f1 fun z' hz => itd_enum (K := ⟨X.K, z'⟩) (h.zz (zz z' hz)) (r.zz (zz z' hz))⟩
      · obtain rfl := rep_ref r1
        obtain ⟨vs, ea, r⟩ := A1.at_ a _ hm
        exact ⟨a, vs, rfl, .inl (.inl ea), F _ _ _ _ _ q1 A1 f1 fun z' hz => itd_enumM (K := ⟨X.K, z'⟩)⟩⟩
end
end DL

set_option Elab.async false
set_option linter.all false
set_option maxHeartbeats 4000000
set_option maxRecDepth 100000
/-! D-layer, part 16: enumerate of a tuple. -/
namespace DL
open PySem PySem.Spec PyProof.Rows L2

/-- the iterator and the enumerate object that a call makes over the tuple at t -/
abbrev enHeap (h : Heap) (t : Addr) : Heap := (h.push { cls := .type "tuple_iterator", data := .fields #[.ref t, .int 0 0] }).push { cls := .type "enumerate", data := .fields #[.none, .bool false, .ref h.objs.size, rawInt 0, .none, .none] }
theorem new_enumT (t : Addr) (its : Array Value) (n : Nat) (dct : Option Addr) (so : Array (Option Value)) : Meets (Builtin.«enumerate.__new__» ⟨[.type "enumerate", .ref t], []⟩) (fun _ R s => s.heap.get? t = some { cls := .type "tuple", dict := dct, data := .seq its n, slots := so } ∧ R (.ok (.ret (.ref (s.heap.push { cls := .type "tuple_iterator", data := .fields #[.ref t, .int 0 0] }).objs.size))) { s with heap := enHeap s.heap t }) :=
  .of_wp fun prog w A R s h => by
    obtain ⟨hp, g, d, tk, os⟩ := s
    obtain ⟨ht, hq⟩ := h
    have se := sub_enumerate
    have it : Heap.IsTuple (Shared.heap ⟨hp, g, d, tk, os⟩) t its := ⟨_, ht, rfl, n, rfl⟩
    wp_walk using AutoSeq1.wpAny_loadPart' ht
    refine wpAny_stack_any fun st => wpAny_pure ?_
    split
    · rename_i c _ _ _ _ _
      cases (c == Value.type "enumerate") <;> (wp_walk using AutoSeq1.wpAny_loadPart' ht, wpAny_pyIter_tuple it) <;> exact ⟨_, rfl, hq⟩
    · wp_walk using AutoSeq1.wpAny_loadPart' ht, wpAny_pyIter_tuple it
      exact ⟨_, rfl, hq⟩
section
variable {prog : Program} {w : World} {A : Around} {E : Value → Shared → Prop} {s : Shared}
theorem call_enumT {t : Addr} {its : Array Value} {Q : Value → Shared → Prop} (ht : s.heap.IsTuple t its)
    (q : ∀ h2, IsEnum h2 (s.heap.objs.size + 1) s.heap.objs.size 0 .none → h2.IsTupleIter s.heap.objs.size t 0 → (∀ b o, s.heap.get? b = some o → h2.get? b = some o) → Q (.ref (s.heap.objs.size + 1)) { s with heap := h2 }) :
    wpAny (model prog w) A (call (.type "enumerate") [.ref t]) Q E s := by
  obtain ⟨⟨c, dct, dt, so⟩, hl, hc, n, hd⟩ := ht
  simp only at hc hd
  subst hc hd
  refine callType_new F.called_enumerate (by decide) (F.typeCall_enumerate_1 _) (F.newCall_enumerate_1 _) (fun u => F.args_object_init_2 u _) F.entry_enumerate_new (new_enumT t its n dct so) ⟨hl, ?_⟩
  have hz : (s.heap.push { cls := .type "tuple_iterator", data := .fields #[.ref t, .int 0 0] }).objs.size = s.heap.objs.size + 1 := Heap.size_push ..
  show _ ∧ _
  rw [hz]
  have he : IsEnum (enHeap s.heap t) (s.heap.objs.size + 1) s.heap.objs.size 0 .none := by
    have e := Heap.get?_push_size (s.heap.push { cls := .type "tuple_iterator", data := .fields #[.ref t, .int 0 0] }) (o := { cls := .type "enumerate", data := .fields #[.none, .bool false, .ref s.heap.objs.size, rawInt 0, .none, .none] }) rfl
    rw [hz] at e
    exact e
  exact ⟨⟨_, he, rfl⟩, q _ he ⟨_, Heap.get?_push_of_some _ (Heap.get?_push_size _ rfl), rfl, rfl⟩ fun b o x => Heap.get?_push_of_some _ (Heap.get?_push_of_some _ x)⟩
end
/-- the tuple at a, each item in a new pair -/
def ItE (K : PySem.W.Frag) (a : Addr) : It :=
  ⟨fun i H => ∃ (xs : List V) (x : V), SqT K H a xs ∧ xs[i]? = some x, fun i H v H2 => ∃ T x, v = .ref T ∧ H T = none ∧ H2 = upd H T (.tup [.int (i : Nat), x]) ∧ ∀ xs, SqT K H a xs → xs[i]? = some x, fun i H => ∃ xs : List V, SqT K H a xs ∧ xs.length ≤ i⟩
theorem turn_enumT {P : Program} {w : World} {K : PySem.W.Frag} {elts : List Expr} {kk : Nat} {tp : Pos} (a e it : Addr) (hai : a ≠ it) :
    Turn P w K (.Tuple elts kk tp) (ItE K a) [e, it] e (fun i h => (∃ old, IsEnum h e it ((i : Nat) : Int) old) ∧ h.IsTupleIter it a i ∧ e ≠ it) where
  mem := by simp
  obj := fun i h st b hb => by
    obtain ⟨⟨old, he⟩, ⟨o, ho, hc, hd⟩, _⟩ := st
    rcases (show b = e ∨ b = it by simpa using hb) with z | z
    · rw [z]; exact ⟨_, he, fun v q => nomatch q⟩
    · rw [z]; exact ⟨o, ho, fun v q => by rw [hd] at q; cases q⟩
  keep := fun i h h' st k => let ⟨⟨old, he⟩, hi, hne⟩ := st; ⟨⟨old, k e (by simp) _ he⟩, hi.at fun o q => k it (by simp) o q, hne⟩
  item := by
    intro X hP hw hK hc i pins s σ H E I hf st hg
    subst hP hw hK
    obtain ⟨⟨old, he⟩, hit, hne⟩ := st
    obtain ⟨xs, x, hq, hx⟩ := hg
    obtain ⟨its, rv, p, hz⟩ := I.tuple hq
    obtain ⟨u, hu, ru⟩ := rv.get hx
    have hel : e < s.heap.objs.size := Heap.lt_size he
    have hil : it < s.heap.objs.size := by obtain ⟨_, q, _⟩ := hit; exact Heap.lt_size q
    have hei : (i : Nat) < its.toArray.size := by
      have := (List.getElem?_eq_some_iff.mp hu).1
      simpa using this
    by_cases hea : e = a
    · subst hea
      obtain ⟨o, ho, hcl, _⟩ := p
      have z := he.symm.trans ho
      rw [← Option.some.inj z] at hcl
      have hcl' : Value.type "enumerate" = Value.type "tuple" := hcl
      injection hcl' with hcl'
      exact absurd hcl' (by decide)
    refine wpAny_pyNext_enum_itemD (D := Draws.tuple (A := X.A.in1) (I.ok.hd hc) it a hai its.toArray) he ⟨hit, p⟩ hei hne (by simp [hne, hea]) fun y h2 tk hy ho st2 hT hsz hk => ?_
    have : y = u := by
      have e1 : its.toArray[i]? = some u := by simpa using hu
      rw [e1] at hy
      exact (Option.some.inj hy).symm
    subst this
    refine ⟨_, rfl, wpAny_letOwnedTupleGo_enum (s := { s with heap := h2, toks := tk + 1 }) ho fun h3 he3 sb => ?_⟩
    have hT2 : h3.get? s.heap.objs.size = some { cls := .type "tuple", data := .seq #[.int i tk, y] } := (sb.2 _ (Nat.ne_of_gt hel)).trans hT
    have new : ObjOk X.prog X.w (upd H s.heap.objs.size (.tup [.int (i : Nat), x])) h3 s.heap.objs.size (.tup [.int (i : Nat), x]) :=
      ⟨by show 2 ≤ sizeLine; decide, [.int i tk, y], .cons ⟨_, rfl⟩ (.cons ru .nil), ⟨_, hT2, rfl, _, rfl⟩⟩
    have I1 : Inv X pins σ (upd H s.heap.objs.size (.tup [.int (i : Nat), x])) { s with heap := h3, toks := tk + 1 } :=
      I.turnedNew (ch := [e, it]) (fun b ob hb q => (sb.2 b (fun z => hb (by simp [z]))).trans (hk b ob (fun z => hb (by simp [z])) (fun z => hb (by simp [z])) q)) hf (Nat.le_refl _) new
    refine ⟨.ref s.heap.objs.size, _, I1, rfl, ⟨_, x, rfl, I.hok.fresh (Nat.le_refl _), rfl, fun ys hy => by rw [I.tuple_inj hy hq]; exact hx⟩, ⟨⟨y, ?_⟩, st2.1.at fun o q => (sb.2 it (Ne.symm hne)).trans q, hne⟩, fun b hb => ?_⟩
    · have e1 : ((i + 1 : Nat) : Int) = (i : Int) + 1 := by omega
      rw [e1]; exact he3
    · have hb' : b < s.heap.objs.size := by
        rcases (show b = e ∨ b = it by simpa using hb) with z | z
        · rw [z]; exact hel
        · rw [z]; exact hil
      rw [upd_ne (Nat.ne_of_lt hb')]
      exact (hf b hb).1
  done := by
    intro X hP hw hK hc i pins s σ H E I hf st hg
    subst hP hw hK
    obtain ⟨⟨old, he⟩, hit, hne⟩ := st
    obtain ⟨xs, hq, hx⟩ := hg
    obtain ⟨its, rv, p, hz⟩ := I.tuple hq
    obtain ⟨f0, f1, f2, f3, f4, f5⟩ := hf it (by simp)
    have hl := rv.length
    have hnone : its.toArray[i]? = none := by simp; omega
    have D : Draws X.prog X.w X.A.in1 it [it, a] i (fun _ _ => True) (fun j h => j = i ∧ h.IsTupleIter it a i ∧ h.IsTuple a its.toArray) := {
      live := fun _ _ st => let ⟨o, ho, _⟩ := st.2.1; ⟨o, ho⟩
      frame := fun _ _ _ st hk => ⟨st.1, st.2.1.at fun o e => hk it (by simp) o e, st.2.2.at fun o e => hk a (by simp) o e⟩
      item := fun j s Q E hj st _ => absurd st.1 (Nat.ne_of_lt hj)
      done := fun s Q E st hE => wpAny_nextOf_tuple_end (I.ok.hd hc) st.2.1 st.2.2 hnone hE }
    exact wpAny_pyNext_enum_endD D he ⟨rfl, hit, p⟩ fun h2 eb => ⟨rfl, I.turned (t' := s.toks) (fun b o hb q => eb b o hb q) f0 f1 f3 f4 f5⟩
  self := fun A i s Q E st h => let ⟨⟨_, he⟩, _⟩ := st; wpAny_pyIter_enum he h
section
variable {X : Cx} {e : Expr} {elts : List Expr} {kk : Nat} {p pos tpos : Pos}
def iEnT (K : PySem.W.Frag) (ta : TA) : TI := fun σ H R => ta σ H fun vs H1 => ∃ a xs, vs = [.ref a] ∧ SqT K H1 a xs ∧ R (ItE K a) H1
theorem pi_enumT {ta : TA} (hg : Gl X "enumerate") (hm : X.mg "enumerate" = none) (ha : PA X [e] ta) (hs : starEach [e] X.env = [(false, eval e X.env)] := by rfl) : PI X (.Tuple elts kk tpos) (.Call (.Name "enumerate" p) [e] [] pos) (iEnT X.K ta) := by
  refine ⟨fun pins s σ H R I h => ?_⟩
  refine Call_ (ld_blt I hg hm boot_enumerate (PyProof.Rows.callWith_type1 (thn (ha.run pos pins s σ H _ I h) fun us s1 ⟨vs, H1, I1, r1, a, xs, ex, hq, q⟩ => ?_) hs rfl))
  subst ex
  cases r1 with
  | cons r rr =>
    cases rr
    cases r
    obtain ⟨its, rv, pt, hz⟩ := I1.tuple hq
    have hlt : a < s1.heap.objs.size := by obtain ⟨o, ho, _⟩ := pt; exact Heap.lt_size ho
    refine call_enumT pt fun h2 he hit hk => wpAny_pyIter_enum he ?_
    refine ⟨s1.heap.objs.size + 1, [s1.heap.objs.size + 1, s1.heap.objs.size], _, _, H1, rfl, I1.kept (t' := s1.toks) hk, turn_enumT a (s1.heap.objs.size + 1) s1.heap.objs.size (Nat.ne_of_lt hlt), ⟨⟨.none, he⟩, hit, Nat.succ_ne_self _⟩, fun b hb => ?_, q⟩
    have hle : s1.heap.objs.size ≤ b := by
      rcases (show b = s1.heap.objs.size + 1 ∨ b = s1.heap.objs.size by simpa using hb) with z | z
      · rw [z]; exact Nat.le_add_right _ _
      · rw [z]; exact Nat.le_refl _
    exact I1.fpOk hle (I1.hok.fresh hle)
theorem itd_enumT {K : KZ} {M : Mem} {H : Hp} {a : Addr} {vs : List V} {ds : List D} (h : RdT K M H a vs) (r : Reps K M H vs ds) : ItD K (ItE K.k a) (enumD ds) (fun _ => True) M H := fun M2 H2 f A _ i => by
  have q := (h.fr f).sq
  have r2 := r.fr f
  refine ⟨fun hi => ⟨vs, q, by rw [r.length, ← enum_len]; exact hi⟩, fun d hd => ?_⟩
  obtain ⟨x, hx, rfl⟩ := enum_at hd
  obtain ⟨v, hv, rv⟩ := r2.get hx
  refine ⟨⟨vs, v, q, hv⟩, fun y H3 ⟨T, u, ey, hT, eH, hu⟩ => ?_⟩
  subst ey eH
  have z := hu vs q
  rw [hv] at z
  cases z
  exact pair_new A rv hT
/-- enumerate(x), x a tuple -/
def dEnumT (ta : DA) : DI := fun ρ M R => ta ρ M fun xs M1 => ∃ ds, xs = [.tup ds] ∧ R (enumD ds) (fun _ => True) M1
theorem di_enumT {ta : DA} (hm : X.mg "enumerate" = none) (ha : PAD X [e] ta) (hg : Gl X "enumerate" := by rfl) (hs : starEach [e] X.env = [(false, eval e X.env)] := by rfl) : PID X (.Tuple elts kk tpos) (.Call (.Name "enumerate" p) [e] [] pos) (dEnumT ta) :=
  (pi_enumT hg hm ha hs).weak fun σ H R ⟨z, ρ, M, R0, S, A, q, F⟩ => ⟨z, ρ, M, _, S, A, q, fun xs M1 vs H1 ⟨ds, ex, q1⟩ r1 A1 f1 => by
    have zz : ∀ z' : Addr → Prop, (∀ a, z' a → z a ∨ H1 a = none) → ∀ a, H1 a ≠ none → z' a → z a := fun z' hz a h y => (hz a y).elim id fun e => absurd e h
    subst ex
    cases r1 with
    | cons r1 r2 =>
      cases r2
      obtain ⟨a, vs, rfl, h, r⟩ := rep_tup r1
      exact ⟨a, vs, rfl, h.sq, F _ _ _ _ _ q1 A1 f1 fun z' hz => itd_enumT (K := ⟨X.K, z'⟩) (h.elim .inl .inr) (r.zz (zz z' hz))⟩⟩
end
end DL

set_option Elab.async false
set_option linter.all false
set_option maxHeartbeats 4000000
set_option maxRecDepth 100000
/-! D-layer, part 17: a module's own dict with text keys. -/
namespace DL
open PySem PySem.Spec PyProof.Rows L2

def tabAt : List (Str × D) → Str → Option D
  | [], _ => none
  | (k, d) :: r, s => if k == s then some d else tabAt r s
/-- at the module's name x stands a dict with these keys and values -/
structure HoldsD (w : World) (K : PySem.W.Frag) (mg : Str → Option Value) (x : Str) (tab : List (Str × D)) : Prop where
  ex : ∃ (a : Addr) (es : Array DictEntry) (n : Nat), mg x = some (.ref a) ∧ KDict K w a es n ∧ ∀ s, match tabAt tab s with
    | some d => ∃ u v, PySem.W.nsIn K a s = some (some u) ∧ RelV v u ∧ ∀ z M H, Rep ⟨K, z⟩ M H v d
    | none => PySem.W.nsIn K a s = some none
/-- one entry -/
def EntD (w : World) (K : PySem.W.Frag) (e : DictEntry) (p : Str × D) : Prop := ∃ t v, e.key = .str p.1 t ∧ e.hash = PyData.keyHash w.params p.1 ∧ RelV v e.val ∧ ∀ z M H, Rep ⟨K, z⟩ M H v p.2
theorem ent_lit {w : World} {K : PySem.W.Frag} : ∀ {l : List DictEntry} {tab : List (Str × D)}, Paired (EntD w K) l tab → PySem.W.KeysLit w.params l
  | _, _, .nil => trivial
  | _, _, .cons ⟨t, v, a, b, _, _⟩ r => ⟨⟨_, t, a, b⟩, ent_lit r⟩
theorem ent_find {w : World} {K : PySem.W.Frag} {s : Str} : ∀ {l : List DictEntry} {tab : List (Str × D)}, Paired (EntD w K) l tab →
    (l.any (·.refKey)) = false ∧ match tabAt tab s with
    | some d => ∃ e v, l.find? (·.key.isStr s) = some e ∧ RelV v e.val ∧ ∀ z M H, Rep ⟨K, z⟩ M H v d
    | none => l.find? (·.key.isStr s) = none
  | _, _, .nil => ⟨rfl, rfl⟩
  | _, _, @Paired.cons _ _ _ e p l tab ⟨t, v, a, b, r, q⟩ rest => by
    obtain ⟨h1, h2⟩ := ent_find (s := s) rest
    have hk : e.key.isStr s = (p.1 == s) := by rw [a]; rfl
    have hr : e.refKey = false := by
      unfold DictEntry.refKey
      rw [a]
    refine ⟨by rw [List.any_cons, hr, h1]; rfl, ?_⟩
    obtain ⟨k, d⟩ := p
    show match (if k == s then some d else tabAt tab s) with
    | some d => ∃ e', ∃ v, (e :: l).find? (·.key.isStr s) = some e' ∧ RelV v e'.val ∧ ∀ z M H, Rep ⟨K, z⟩ M H v d
    | none => (e :: l).find? (·.key.isStr s) = none
    cases c : (k == s)
    · rw [if_neg Bool.false_ne_true, List.find?_cons, hk, c]
      exact h2
    · rw [if_pos rfl, List.find?_cons, hk, c]
      exact ⟨e, v, rfl, r, q⟩
theorem holds_dict {w : World} {K : PySem.W.Frag} {mg : Str → Option Value} {x : Str} {a : Addr} {es : Array DictEntry} {n : Nat} {tab : List (Str × D)} (e : mg x = some (.ref a)) (o : K.lookup a = some ⟨.type "dict", none, .dict es n, #[]⟩) (low : (a == sysModules) = false) (h : Paired (EntD w K) es.toList tab) : HoldsD w K mg x tab := by
  refine ⟨a, es, n, e, ⟨o, ent_lit h, low⟩, fun s => ?_⟩
  obtain ⟨h1, h2⟩ := ent_find (s := s) h
  have hn : PySem.W.nsIn K a s = (match es.toList.find? (·.key.isStr s) with
      | some e => some (some e.val)
      | none => if es.toList.any (·.refKey) then none else some none) := by
    unfold PySem.W.nsIn
    rw [o]
    rfl
  rw [hn]
  revert h2
  cases tabAt tab s with
  | none =>
    intro h2
    dsimp only at h2 ⊢
    rw [h2]
    dsimp only
    rw [h1]
    rfl
  | some d =>
    intro ⟨e, v, h3, r, q⟩
    dsimp only
    rw [h3]
    exact ⟨_, v, rfl, r, q⟩
section
variable {w : World} {K : PySem.W.Frag} {k : Str} {t : Tok} {h : Int} {a : Addr} {od : Option Addr} {us : Array Value} {n : Nat} {so : Array (Option Value)}
theorem ent_ints {xs : List Int} (o : K.lookup a = some ⟨.type "tuple", od, .seq us n, so⟩) (hz : us.size ≤ sizeLine) (r : Vals (xs.map V.int) us.toList) (e : h = PyData.keyHash w.params k) : EntD w K ⟨h, .str k t, .ref a⟩ (k, .tup (xs.map .int)) :=
  ⟨t, .ref a, rfl, e, rfl, fun _ _ _ => .tup (.inr ⟨_, us, n, o, rfl, rfl, hz, r⟩) (Reps.ints xs)⟩
theorem ent_strs {xs : List Str} (o : K.lookup a = some ⟨.type "tuple", od, .seq us n, so⟩) (hz : us.size ≤ sizeLine) (r : Vals (xs.map V.str) us.toList) (e : h = PyData.keyHash w.params k) : EntD w K ⟨h, .str k t, .ref a⟩ (k, .tup (xs.map .str)) :=
  ⟨t, .ref a, rfl, e, rfl, fun _ _ _ => .tup (.inr ⟨_, us, n, o, rfl, rfl, hz, r⟩) (reps_strs xs)⟩
end
section
variable {X : Cx} {a i : Expr} {ta : DE} {x : Str} {tab : List (Str × D)} {p pos : Pos}
def dKdIn (tab : List (Str × D)) (ta : DE) : DE := fun ρ M R => ta ρ M fun y M1 => ∃ s, y = .str s ∧ R (.bl (tabAt tab s).isSome) M1
def dKdNotIn (tab : List (Str × D)) (ta : DE) : DE := fun ρ M R => ta ρ M fun y M1 => ∃ s, y = .str s ∧ R (.bl (!(tabAt tab s).isSome)) M1
theorem HoldsD.found {w : World} {K : PySem.W.Frag} {d : Addr} {s : Str} (h : match tabAt tab s with
    | some d' => ∃ u v, PySem.W.nsIn K d s = some (some u) ∧ RelV v u ∧ ∀ z M H, Rep ⟨K, z⟩ M H v d'
    | none => PySem.W.nsIn K d s = some none) : ∃ r, PySem.W.nsIn K d s = some r ∧ r.isSome = (tabAt tab s).isSome := by
  cases q : tabAt tab s with
  | none => rw [q] at h; exact ⟨none, h, rfl⟩
  | some d' =>
    rw [q] at h
    obtain ⟨u, v, e, _⟩ := h
    exact ⟨some u, e, rfl⟩
theorem de_kdIn (D : HoldsD X.w X.K X.mg x tab) (ha : PED X a ta) (hg : Gl X x := by rfl) (hdb : (x == ("__debug__" : Str)) = false := by decide) (hm : behindInMarks .In (.Name x p) = false := by rfl) : PED X (.Compare a [.In] [.Name x p] pos) (dKdIn tab ta) := by
  obtain ⟨d, es, n, hmg, kd, hl⟩ := D.ex
  exact (pe_cmpR (op_in_kd kd) ha (pe_glob hg hmg (v := .ref d) rfl hdb) hm).weak fun σ H Q ⟨z, ρ, M, R, S, A, q, F⟩ => ⟨z, ρ, M, _, S, A, q, fun y M1 v H1 ⟨s, e, q1⟩ r1 A1 f1 => by
    subst e
    obtain ⟨r, e1, e2⟩ := HoldsD.found (w := X.w) (hl s)
    exact ⟨s, r, rep_str r1, rfl, e1, by rw [e2]; exact F _ _ _ _ q1 (.bl _) A1 f1⟩⟩
theorem dt_kdIn (D : HoldsD X.w X.K X.mg x tab) (ha : PED X a ta) (hg : Gl X x := by rfl) (hdb : (x == ("__debug__" : Str)) = false := by decide) (hm : behindInMarks .In (.Name x p) = false := by rfl) : PTD X (.Compare a [.In] [.Name x p] pos) (dTest (dKdIn tab ta)) := by
  obtain ⟨d, es, n, hmg, kd, hl⟩ := D.ex
  exact (pt_cmpR (op_in_kd kd) ha (pe_glob hg hmg (v := .ref d) rfl hdb) hm).weak fun σ H Q ⟨z, ρ, M, R, S, A, q, F⟩ => ⟨z, ρ, M, _, S, A, q, fun y M1 v H1 ⟨s, e, q1⟩ r1 A1 f1 => by
    subst e
    obtain ⟨r, e1, e2⟩ := HoldsD.found (w := X.w) (hl s)
    obtain ⟨k, ek, q1⟩ := q1
    cases ek
    exact ⟨s, r, rep_str r1, rfl, e1, _, by rw [e2], F _ _ _ q1 A1 f1⟩⟩
theorem de_kdNotIn (D : HoldsD X.w X.K X.mg x tab) (ha : PED X a ta) (hg : Gl X x := by rfl) (hdb : (x == ("__debug__" : Str)) = false := by decide) (hm : behindInMarks .NotIn (.Name x p) = false := by rfl) : PED X (.Compare a [.NotIn] [.Name x p] pos) (dKdNotIn tab ta) := by
  obtain ⟨d, es, n, hmg, kd, hl⟩ := D.ex
  exact (pe_cmpR (op_notIn_kd kd) ha (pe_glob hg hmg (v := .ref d) rfl hdb) hm).weak fun σ H Q ⟨z, ρ, M, R, S, A, q, F⟩ => ⟨z, ρ, M, _, S, A, q, fun y M1 v H1 ⟨s, e, q1⟩ r1 A1 f1 => by
    subst e
    obtain ⟨r, e1, e2⟩ := HoldsD.found (w := X.w) (hl s)
    exact ⟨s, r, rep_str r1, rfl, e1, by rw [e2]; exact F _ _ _ _ q1 (.bl _) A1 f1⟩⟩
theorem dt_kdNotIn (D : HoldsD X.w X.K X.mg x tab) (ha : PED X a ta) (hg : Gl X x := by rfl) (hdb : (x == ("__debug__" : Str)) = false := by decide) (hm : behindInMarks .NotIn (.Name x p) = false := by rfl) : PTD X (.Compare a [.NotIn] [.Name x p] pos) (dTest (dKdNotIn tab ta)) := by
  obtain ⟨d, es, n, hmg, kd, hl⟩ := D.ex
  exact (pt_cmpR (op_notIn_kd kd) ha (pe_glob hg hmg (v := .ref d) rfl hdb) hm).weak fun σ H Q ⟨z, ρ, M, R, S, A, q, F⟩ => ⟨z, ρ, M, _, S, A, q, fun y M1 v H1 ⟨s, e, q1⟩ r1 A1 f1 => by
    subst e
    obtain ⟨r, e1, e2⟩ := HoldsD.found (w := X.w) (hl s)
    obtain ⟨k, ek, q1⟩ := q1
    cases ek
    exact ⟨s, r, rep_str r1, rfl, e1, _, by rw [e2], F _ _ _ q1 A1 f1⟩⟩
/-- TAB[key] -/
def dKdGet (tab : List (Str × D)) (ta : DE) : DE := fun ρ M R => ta ρ M fun y M1 => ∃ s d, y = .str s ∧ tabAt tab s = some d ∧ R d M1
theorem de_kdGet (D : HoldsD X.w X.K X.mg x tab) (hi : PED X i ta) (hg : Gl X x := by rfl) (hdb : (x == ("__debug__" : Str)) = false := by decide) (hs : NoSl i := by exact fun _ _ => rfl) : PED X (.Subscript (.Name x p) i pos) (dKdGet tab ta) := by
  obtain ⟨d, es, n, hmg, kd, hl⟩ := D.ex
  refine ⟨fun pins s σ H Q I h => ?_⟩
  obtain ⟨z, ρ, M, R, S, A, q, F⟩ := h
  have hn : PE X (.Name x p) _ := pe_glob hg hmg (v := .ref d) rfl hdb
  refine subD_of PySem.F.slot_dict_getitem.lookup hs (thn (hn.run pins s σ H (fun v H1 => v = .ref d ∧ H1 = H) I ⟨rfl, rfl⟩) fun u s1 ⟨y, H1, I1, ry, e1, e2⟩ => ?_)
  subst e1 e2
  obtain rfl : u = Value.ref d := ry
  refine thn (hi.run pins s1 σ _ (fun v H2 => ∃ s u0 v0, v = .str s ∧ PySem.W.nsIn X.K d s = some (some u0) ∧ RelV v0 u0 ∧ Q v0 H2) I1 ⟨z, ρ, M, _, S, A, q, fun y M1 v H1 ⟨k, dd, e, ht, q1⟩ r1 A1 f1 => ?_⟩) fun iv s2 ⟨y, H2, I2, ry, k, u0, v0, ey, en, r0, q2⟩ => ?_
  · subst e
    have hk := hl k
    rw [ht] at hk
    obtain ⟨u0, v0, e0, r0, rep0⟩ := hk
    exact ⟨k, u0, v0, rep_str r1, e0, r0, F _ _ _ _ q1 (rep0 _ _ _) A1 f1⟩
  · exact ⟨kd_type kd I2, op_item_kd kd pins s2 σ H2 (.ref d) y (.ref d) iv Q I2 rfl ry ⟨k, u0, v0, rfl, ey, en, r0, q2⟩⟩
end
end DL

set_option Elab.async false
set_option linter.all false
set_option maxHeartbeats 4000000
set_option maxRecDepth 100000
/-! D-layer, part 18: decks, data, parts of lists. -/
namespace DL
open PySem PySem.Spec PyProof.Rows L2
def dks : List Key := [.inr "cells", .inr "mixed", .inr "draws"]
def Deck (M : Mem) (a : Addr) : Prop := ∃ b, M a = some (.deck dks b) ∧ M b = some (.hid a)
theorem dk1 {x y z : D} : dget dks [x, y, z] (.inr "cells") = some x := by rfl
theorem dk2 {x y z : D} : dget dks [x, y, z] (.inr "mixed") = some y := by rfl
theorem dk3 {x y z : D} : dget dks [x, y, z] (.inr "draws") = some z := by rfl
theorem dkp : dputK dks (.inr "draws") = dks := by rfl
theorem dkq {x y z d : D} : dputD dks [x, y, z] (.inr "draws") d = [x, y, d] := by rfl
/-- the deck's parts, open -/
def DkM (M : Mem) (a b : Addr) (ns : List Int) (m n : Int) : Mem := mset (mset M b (.lst (ns.map .int))) a (.dct dks [.ref b, .int m, .int n])
section
variable {M : Mem} {a b : Addr} {ns ks : List Int} {m n i : Int} {R : RK} {ρ : DEnv} {Kf : PySem.W.Frag}
theorem DkM_a : DkM M a b ns m n a = some (.dct dks [.ref b, .int m, .int n]) := mset_same
theorem DkM_b (h : b ≠ a) : DkM M a b ns m n b = some (.lst (ns.map .int)) := (mset_ne h).trans mset_same
theorem DkM_seta {n' : Int} : mset (DkM M a b ns m n) a (.dct dks [.ref b, .int m, .int n']) = DkM M a b ns m n' := mset_mset
theorem DkM_setb (h : b ≠ a) : mset (DkM M a b ns m n) b (.lst (ks.map .int)) = DkM M a b ks m n := by
  funext c
  unfold DkM mset
  by_cases e : c = b
  · subst e; simp [h]
  · simp [e]
theorem DkM_end (hl : ns.length ≤ 1000) (hd : M a = some (.deck dks b)) (hb : M b = some (.hid a)) (q : R (.int i) M) : (endsOf Kf R).rt (.int i) (DkM M a b ns m n) := by
  have hne : b ≠ a := fun e => by rw [e, hd] at hb; cases hb
  have v : MView Kf (DkM M a b ns m n) (mset (mset (DkM M a b ns m n) a (.deck dks b)) b (.hid a)) := MView.deck DkM_a (DkM_b hne) hl
  have e : mset (mset (DkM M a b ns m n) a (.deck dks b)) b (.hid a) = M := by
    funext c
    unfold DkM mset
    by_cases e1 : c = b
    · subst e1; simp [hb]
    · by_cases e2 : c = a
      · subst e2; simp [hd, e1]
      · simp [e1, e2]
  rw [e] at v
  refine .inr ⟨.int i, M, View.mem v fun c hc => ?_, q⟩
  unfold DkM mset at hc
  by_cases e2 : c = a
  · subst e2; simp at hc
  · by_cases e1 : c = b
    · subst e1; simp [hne] at hc
    · simpa [e1, e2] using hc
/-- d[k] of the deck -/
theorem q_get {k : Str} {d : D} {r : DEnv} (hk : dget dks [.ref b, .int m, .int n] (.inr k) = some d) : dDGet (dVar 0) (dC (.str k)) (some (.ref a) :: r) (DkM M a b ns m n) R ↔ R d (DkM M a b ns m n) := by
  constructor
  · rintro ⟨_, h, k, hk', q⟩
    cases h
    cases hk'
    obtain ⟨ks, ds, d, hm, hk2, q⟩ := q
    rw [DkM_a] at hm
    cases hm
    rw [hk] at hk2
    cases hk2
    exact q
  · exact fun q => ⟨_, rfl, .inr k, rfl, dks, _, d, DkM_a, hk, q⟩
theorem q_get1 {r : DEnv} : dDGet (dVar 0) (dC (.str "cells")) (some (.ref a) :: r) (DkM M a b ns m n) R ↔ R (.ref b) (DkM M a b ns m n) := q_get dk1
theorem q_get2 {r : DEnv} : dDGet (dVar 0) (dC (.str "mixed")) (some (.ref a) :: r) (DkM M a b ns m n) R ↔ R (.int m) (DkM M a b ns m n) := q_get dk2
theorem q_get3 {r : DEnv} : dDGet (dVar 0) (dC (.str "draws")) (some (.ref a) :: r) (DkM M a b ns m n) R ↔ R (.int n) (DkM M a b ns m n) := q_get dk3
theorem q_int1 {M : Mem} : dInt1 [.int i] M R ↔ R (.int i) M := ⟨fun h => h.elim (fun ⟨j, e, q⟩ => by cases e; exact q) fun ⟨j, e, q⟩ => (nomatch e), fun q => .inl ⟨i, rfl, q⟩⟩
theorem q_max2 {M : Mem} {j : Int} : dMax2 [.int i, .int j] M R ↔ R (.int (if j > i then j else i)) M := ⟨fun ⟨_, _, e, q⟩ => by cases e; exact q, fun q => ⟨_, _, rfl, q⟩⟩
theorem q_min2 {M : Mem} {j : Int} : dMin2 [.int i, .int j] M R ↔ R (.int (if j < i then j else i)) M := ⟨fun ⟨_, _, e, q⟩ => by cases e; exact q, fun q => ⟨_, _, rfl, q⟩⟩
theorem toPys_int' : toPys (ns.map .int) = some (ns.map .int) := toPys_ints ns
theorem shaped_ints : SeqAt.shaped (.list (ns.map .int)) = true := by
  simp [SeqAt.shaped, PyData.canLay0, PyData.depth, canLayAll_ints, depthAll_ints]
theorem ne_left (h : b ≠ a) (q : R (.bl !ns.isEmpty) (DkM M a b ns m n)) : dNe (.ref b) (.lst []) (DkM M a b ns m n) R := by
  refine ⟨ns.isEmpty, ⟨.list (ns.map .int), .list [], ?_, rfl, shaped_ints, rfl, ?_⟩, q⟩
  · show (match DkM M a b ns m n b with
      | some (.lst ds) => (toPys ds).map PyData.list
      | _ => none) = _
    rw [DkM_b h]
    show (toPys (ns.map .int)).map PyData.list = _
    rw [toPys_int']
    rfl
  · cases ns <;> rfl
end

theorem int1_go {M : Mem} {R : RK} {i : Int} (q : R (.int i) M) : dInt1 [.int i] M R := .inl ⟨i, rfl, q⟩
theorem cmul_l {i j : Int} (h1 : -(2 ^ 64) < i) (h2 : i < 2 ^ 64) : L2.CMul i j := .inl ⟨h1, h2⟩
theorem cmul_r {i j : Int} (h1 : -(2 ^ 64) < j) (h2 : j < 2 ^ 64) : L2.CMul i j := .inr ⟨h1, h2⟩

/-! ### what a memory may have more of: lists -/
def Ext (M M2 : Mem) : Prop := ∀ c, M2 c = M c ∨ (M c = none ∧ ∃ ds, M2 c = some (.lst ds))
theorem Ext.refl {M : Mem} : Ext M M := fun _ => .inl rfl
theorem Ext.view {K : PySem.W.Frag} {M M2 : Mem} (x : Ext M M2) : MView K M2 M := fun z H A => by
  have fr : Frame M2 H M H := fun c _ n => ⟨rfl, by
    rcases x c with e | ⟨e, _⟩
    · rw [← e]; exact n
    · exact e⟩
  refine ⟨A.step fr fun a o e => .inl ?_, fr⟩
  have ea : M2 a = some o := by
    rcases x a with h | ⟨h, _⟩
    · rw [h]; exact e
    · rw [h] at e; cases e
  refine ⟨ea, rfl, fun ks b eo => ⟨?_, rfl⟩⟩
  subst eo
  have hb := A.deckAt ea
  rcases x b with h | ⟨_, ds, h⟩
  · exact h.symm
  · rw [h] at hb; cases hb
theorem Ext.ends {K : PySem.W.Frag} {M M2 : Mem} {R : RK} {d : D} (x : Ext M M2) (q : R d M) : (endsOf K R).rt d M2 := .inr ⟨d, M, View.mem x.view fun c n => by
  rcases x c with e | ⟨e, _⟩
  · rw [← e]; exact n
  · exact e, q⟩
theorem Ext.new {M M2 : Mem} {p : Addr} {ds : List D} (x : Ext M M2) (h : M2 p = none) : Ext M (mset M2 p (.lst ds)) := fun c => by
  by_cases e : c = p
  · subst e
    refine .inr ⟨?_, ds, mset_same⟩
    rcases x c with h' | ⟨h', _⟩
    · rw [← h']; exact h
    · exact h'
  · rw [mset_ne e]; exact x c
theorem Ext.upd {M M2 : Mem} {p : Addr} {ds : List D} (x : Ext M M2) (h : M p = none) : Ext M (mset M2 p (.lst ds)) := fun c => by
  by_cases e : c = p
  · subst e; exact .inr ⟨h, ds, mset_same⟩
  · rw [mset_ne e]; exact x c
theorem Ext.none {M M2 : Mem} {p : Addr} (x : Ext M M2) (h : M2 p = none) : M p = none := by
  rcases x p with h' | ⟨h', _⟩
  · rw [← h']; exact h
  · exact h'
theorem Ext.deck {M M2 : Mem} {a : Addr} (x : Ext M M2) (d : Deck M a) : Deck M2 a := by
  obtain ⟨b, h1, h2⟩ := d
  have e : ∀ {c o}, M c = some o → M2 c = some o := fun {c o} h => by
    rcases x c with h' | ⟨h', _⟩
    · rw [h']; exact h
    · rw [h] at h'; cases h'
  exact ⟨b, e h1, e h2⟩
theorem Ext.trans {M M1 M2 : Mem} (x : Ext M M1) (y : Ext M1 M2) : Ext M M2 := fun c => by
  rcases y c with e | ⟨e, ds, h⟩
  · rw [e]; exact x c
  · exact .inr ⟨x.none e, ds, h⟩
/-! ### good data -/
def kgd : Key → Bool
  | .inl i => decide (i.natAbs < 10 ^ 50)
  | .inr s => s.cps.toList.all fun c => decide (c < 128)
def kwt : Key → Nat
  | .inl _ => 1
  | .inr s => s.length + 1
def kwts : List Key → Nat
  | [] => 0
  | k :: ks => kwt k + kwts ks
mutual
def gd : D → Bool
  | .non => true
  | .bl _ => true
  | .int i => decide (i.natAbs < 10 ^ 50)
  | .str s => s.cps.toList.all fun c => decide (c < 128)
  | .tup ds => gds ds
  | .lst ds => gds ds
  | .dct ks ds => decide (ks.length = ds.length) && ks.all kgd && gds ds
  | _ => false
def gds : List D → Bool
  | [] => true
  | d :: ds => gd d && gds ds
end
mutual
def wt : D → Nat
  | .str s => s.length
  | .tup ds => wts ds
  | .lst ds => wts ds
  | .dct ks ds => kwts ks + wts ds
  | _ => 0
def wts : List D → Nat
  | [] => 0
  | d :: ds => wt d + 1 + wts ds
end
mutual
def dp : D → Nat
  | .tup ds => dps ds + 1
  | .lst ds => dps ds + 1
  | .dct _ ds => dps ds + 1
  | _ => 0
def dps : List D → Nat
  | [] => 0
  | d :: ds => max (dp d) (dps ds)
end
theorem gds_all : ∀ {ds : List D}, gds ds = true ↔ ∀ d ∈ ds, gd d = true
  | [] => by simp [gds]
  | d :: ds => by simp [gds, gds_all (ds := ds)]
theorem gds_app {xs ys : List D} : gds (xs ++ ys) = true ↔ gds xs = true ∧ gds ys = true := by
  induction xs with
  | nil => simp [gds]
  | cons x xs ih => simp [gds, ih, and_assoc]
theorem wts_app (xs ys : List D) : wts (xs ++ ys) = wts xs + wts ys := by
  induction xs with
  | nil => simp [wts]
  | cons x xs ih => simp [wts, ih] <;> omega
theorem dps_app (xs ys : List D) : dps (xs ++ ys) = max (dps xs) (dps ys) := by
  induction xs with
  | nil => simp [dps]
  | cons x xs ih => simp [dps, ih] <;> omega
theorem wts_len (xs : List D) : xs.length ≤ wts xs := by
  induction xs with
  | nil => simp
  | cons x xs ih => simp [wts]; omega
theorem wts_mem {xs : List D} {d : D} (h : d ∈ xs) : wt d + 1 ≤ wts xs := by
  induction xs with
  | nil => cases h
  | cons x xs ih =>
    simp [wts]
    rcases List.mem_cons.mp h with e | h
    · subst e; omega
    · have := ih h; omega
theorem dps_mem {xs : List D} {d : D} (h : d ∈ xs) : dp d ≤ dps xs := by
  induction xs with
  | nil => cases h
  | cons x xs ih =>
    simp [dps]
    rcases List.mem_cons.mp h with e | h
    · subst e; omega
    · have := ih h; omega
theorem dps_le {xs : List D} {k : Nat} (h : ∀ d ∈ xs, dp d ≤ k) : dps xs ≤ k := by
  induction xs with
  | nil => simp [dps]
  | cons x xs ih =>
    simp [dps]
    have := h x (by simp)
    have := ih fun d hd => h d (by simp [hd])
    omega
theorem wts_le {xs : List D} {k : Nat} (h : ∀ d ∈ xs, wt d + 1 ≤ k) : wts xs ≤ xs.length * k := by
  induction xs with
  | nil => simp [wts]
  | cons x xs ih =>
    simp [wts, Nat.add_mul]
    have a := h x (by simp)
    have b := ih fun d hd => h d (by simp [hd])
    omega
theorem wts_rev (xs : List D) : wts xs.reverse = wts xs := by
  induction xs with
  | nil => rfl
  | cons x xs ih =>
    rw [List.reverse_cons, wts_app, ih]
    simp [wts]
    omega
theorem gds_rev {xs : List D} (h : gds xs = true) : gds xs.reverse = true := gds_all.mpr fun d hd => gds_all.mp h d (List.mem_reverse.mp hd)
theorem dps_sub {xs ys : List D} (h : ∀ d ∈ ys, d ∈ xs) : dps ys ≤ dps xs := dps_le fun d hd => dps_mem (h d hd)
theorem gds_sub {xs ys : List D} (h : ∀ d ∈ ys, d ∈ xs) (g : gds xs = true) : gds ys = true := gds_all.mpr fun d hd => gds_all.mp g d (h d hd)
theorem wts_take (xs : List D) (n : Nat) : wts (xs.take n) ≤ wts xs := by
  have := wts_app (xs.take n) (xs.drop n)
  rw [List.take_append_drop] at this
  omega
theorem wts_drop (xs : List D) (n : Nat) : wts (xs.drop n) ≤ wts xs := by
  have := wts_app (xs.take n) (xs.drop n)
  rw [List.take_append_drop] at this
  omega
mutual
theorem dat_of : ∀ {d : D}, gd d = true → wt d ≤ 1000 → dat d = true
  | .non, _, _ => rfl
  | .bl _, _, _ => rfl
  | .int _, _, _ => rfl
  | .str s, _, h => decide_eq_true h
  | .tup ds, g, h => by
    have h' : wts ds ≤ 1000 := h
    show (decide (ds.length ≤ 1000) && dats ds) = true
    rw [decide_eq_true (Nat.le_trans (wts_len ds) h'), dats_of g h']
    rfl
  | .lst ds, g, h => by
    have h' : wts ds ≤ 1000 := h
    show (decide (ds.length ≤ 1000) && dats ds) = true
    rw [decide_eq_true (Nat.le_trans (wts_len ds) h'), dats_of g h']
    rfl
  | .dct ks ds, g, h => by
    have g' : (decide (ks.length = ds.length) && ks.all kgd && gds ds) = true := g
    have h' : kwts ks + wts ds ≤ 1000 := h
    rw [Bool.and_eq_true, Bool.and_eq_true] at g'
    show (decide (ks.length = ds.length) && dats ds) = true
    rw [g'.1.1, dats_of g'.2 (by omega)]
    rfl
  | .ty _, g, _ => by cases g
  | .ref _, g, _ => by cases g
theorem dats_of : ∀ {ds : List D}, gds ds = true → wts ds ≤ 1000 → dats ds = true
  | [], _, _ => rfl
  | d :: ds, g, h => by
    have g' : (gd d && gds ds) = true := g
    have h' : wt d + 1 + wts ds ≤ 1000 := h
    rw [Bool.and_eq_true] at g'
    show (dat d && dats ds) = true
    rw [dat_of g'.1 (by omega), dats_of g'.2 (by omega)]
    rfl
end
theorem int_short {i : Int} (h : i.natAbs < 10 ^ 50) : (PyData.shown (.int i)).length ≤ 60 ∧ i.natAbs.log2 ≤ 168 := by
  constructor
  · have e := int_text_length_le10 (k := 50) (by decide) h
    show (Str.ofString (toString i)).length ≤ 60
    rw [PySem.ofString_length]
    omega
  · by_cases z : i.natAbs = 0
    · rw [z]; decide
    · exact Nat.le_of_lt_succ ((Nat.log2_lt z).mpr (Nat.lt_of_lt_of_le h (by decide)))
theorem int_wt {i : Int} (h : i.natAbs < 10 ^ 50) : PyData.weight (.int i) ≤ 170 := by
  have := (int_short h).2
  simp only [PyData.weight]
  split <;> omega
theorem zipKv : ∀ {ks : List Key} {ps : List PyData}, ks.length = ps.length → ks.all kgd = true → PyData.weightKv ((ks.map keyPy).zip ps) ≤ 171 * kwts ks + PyData.weightAll ps ∧ PyData.depthKv ((ks.map keyPy).zip ps) ≤ PyData.depthAll ps ∧
    (PyData.leavesShortAll 60 ps = true → PyData.leavesShortKv 60 ((ks.map keyPy).zip ps) = true) ∧ (PyData.showableAll ps = true → PyData.showableKv ((ks.map keyPy).zip ps) = true)
  | [], [], _, _ => ⟨by simp [PyData.weightKv, PyData.weightAll], by simp [PyData.depthKv, PyData.depthAll], by simp [PyData.leavesShortKv], by simp [PyData.showableKv]⟩
  | k :: ks, p :: ps, hl, hg => by
    rw [List.all_cons, Bool.and_eq_true] at hg
    obtain ⟨a, b, c, d⟩ := zipKv (ks := ks) (ps := ps) (by simpa using hl) hg.2
    have key : PyData.weight (keyPy k) + 1 ≤ 171 * kwt k ∧ PyData.depth (keyPy k) = 0 ∧ PyData.leavesShort 60 (keyPy k) = true ∧ PyData.showable (keyPy k) = true := by
      cases k with
      | inl i =>
        have hi : i.natAbs < 10 ^ 50 := of_decide_eq_true hg.1
        have w := int_wt hi
        obtain ⟨x, y⟩ := int_short hi
        exact ⟨by show PyData.weight (.int i) + 1 ≤ 171; omega, by simp [keyPy, PyData.depth], by simp [keyPy, PyData.leavesShort, x], by simp [keyPy, PyData.showable]; omega⟩
      | inr s =>
        have hs : (s.cps.toList.all fun c => decide (c < 128)) = true := hg.1
        refine ⟨?_, by simp [keyPy, PyData.depth], ?_, by simp [keyPy, PyData.showable]⟩
        · have e : PyData.weight (.str s) = s.length := by simp only [PyData.weight]; rfl
          show PyData.weight (.str s) + 1 ≤ 171 * (s.length + 1)
          omega
        · simp only [keyPy, PyData.leavesShort]
          rw [List.all_eq_true] at hs ⊢
          intro c hc
          exact decide_eq_true (Nat.lt_of_lt_of_le (of_decide_eq_true (hs c hc)) (by decide))
    obtain ⟨k1, k2, k3, k4⟩ := key
    refine ⟨?_, ?_, fun h => ?_, fun h => ?_⟩
    · simp only [List.map_cons, List.zip_cons_cons, PyData.weightKv, PyData.weightAll, kwts]
      omega
    · simp only [List.map_cons, List.zip_cons_cons, PyData.depthKv, PyData.depthAll]
      omega
    · simp only [PyData.leavesShortAll, Bool.and_eq_true] at h
      simp only [List.map_cons, List.zip_cons_cons, PyData.leavesShortKv, k3, h.1, c h.2, Bool.and_self]
    · simp only [PyData.showableAll, Bool.and_eq_true] at h
      simp only [List.map_cons, List.zip_cons_cons, PyData.showableKv, k4, h.1, d h.2, Bool.and_self]
theorem toRs_len : ∀ {ds : List D} {ps : List PyData}, toRs ds = some ps → ds.length = ps.length
  | [], ps, h => by cases h; rfl
  | d :: ds, ps, h => by
    have h' : (match toR d, toRs ds with
      | some p, some ps => some (p :: ps)
      | _, _ => none) = some ps := h
    cases e1 : toR d with
    | none => rw [e1] at h'; cases h'
    | some p =>
      cases e2 : toRs ds with
      | none => rw [e1, e2] at h'; cases h'
      | some qs =>
        rw [e1, e2] at h'
        cases h'
        simp [toRs_len e2]
mutual
theorem py_of : ∀ {d : D}, gd d = true → ∃ p, toR d = some p ∧ p.weight ≤ 170 + 171 * wt d ∧ p.depth ≤ dp d ∧ p.leavesShort 60 = true ∧ p.showable = true
  | .non, _ => ⟨_, rfl, by simp [PyData.weight, wt], by simp [PyData.depth, dp], by simp [PyData.leavesShort], by simp [PyData.showable]⟩
  | .bl _, _ => ⟨_, rfl, by simp [PyData.weight, wt], by simp [PyData.depth, dp], by simp [PyData.leavesShort], by simp [PyData.showable]⟩
  | .int i, g => by
    obtain ⟨a, b⟩ := int_short (of_decide_eq_true g)
    exact ⟨_, rfl, Nat.le_trans (int_wt (of_decide_eq_true g)) (Nat.le_add_right _ _), by simp [PyData.depth, dp], by simp [PyData.leavesShort, a], by simp [PyData.showable]; omega⟩
  | .str s, g => by
    have g' : (s.cps.toList.all fun c => decide (c < 128)) = true := g
    refine ⟨_, rfl, by
      have : s.cps.size = s.length := rfl
      simp [PyData.weight, wt]
      omega, by simp [PyData.depth, dp], ?_, by simp [PyData.showable]⟩
    simp only [PyData.leavesShort]
    rw [List.all_eq_true] at g' ⊢
    intro c hc
    have := of_decide_eq_true (g' c hc)
    exact decide_eq_true (Nat.lt_of_lt_of_le this (by decide))
  | .tup ds, g => by
    obtain ⟨ps, e, h1, h2, h3, h4⟩ := pys_of (ds := ds) g
    exact ⟨.tuple ps, by simp [toR, e], by
      simp [PyData.weight, wt]
      omega, by simp [PyData.depth, dp, h2], by simp [PyData.leavesShort, h3], by simp [PyData.showable, h4]⟩
  | .lst ds, g => by
    obtain ⟨ps, e, h1, h2, h3, h4⟩ := pys_of (ds := ds) g
    exact ⟨.list ps, by simp [toR, e], by
      simp [PyData.weight, wt]
      omega, by simp [PyData.depth, dp, h2], by simp [PyData.leavesShort, h3], by simp [PyData.showable, h4]⟩
  | .dct ks ds, g => by
    have g' : (decide (ks.length = ds.length) && ks.all kgd && gds ds) = true := g
    rw [Bool.and_eq_true, Bool.and_eq_true, decide_eq_true_eq] at g'
    obtain ⟨ps, e, h1, h2, h3, h4⟩ := pys_of (ds := ds) g'.2
    obtain ⟨z1, z2, z3, z4⟩ := zipKv (ks := ks) (ps := ps) (g'.1.1.trans (toRs_len e)) g'.1.2
    exact ⟨.dict ((ks.map keyPy).zip ps), by simp [toR, e], by
      simp only [PyData.weight, wt]
      omega, by
      simp only [PyData.depth, dp]
      omega, by simp only [PyData.leavesShort]; exact z3 h3, by simp only [PyData.showable]; exact z4 h4⟩
  | .ty _, g => by cases g
  | .ref _, g => by cases g
theorem pys_of : ∀ {ds : List D}, gds ds = true → ∃ ps, toRs ds = some ps ∧ PyData.weightAll ps ≤ 171 * wts ds ∧ PyData.depthAll ps ≤ dps ds ∧ PyData.leavesShortAll 60 ps = true ∧ PyData.showableAll ps = true
  | [], _ => ⟨[], rfl, by simp [PyData.weightAll, wts], by simp [PyData.depthAll, dps], by simp [PyData.leavesShortAll], by simp [PyData.showableAll]⟩
  | d :: ds, g => by
    have g' : (gd d && gds ds) = true := g
    rw [Bool.and_eq_true] at g'
    obtain ⟨p, e, h1, h2, h3, h4⟩ := py_of (d := d) g'.1
    obtain ⟨ps, e', k1, k2, k3, k4⟩ := pys_of (ds := ds) g'.2
    refine ⟨p :: ps, by simp [toRs, e, e'], by
      simp [PyData.weightAll, wts]
      omega, ?_, by simp [PyData.leavesShortAll, h3, k3], by simp [PyData.showableAll, h4, k4]⟩
    simp [PyData.depthAll, dps]
    omega
end
/-- what may be shown -/
def Good (d : D) : Prop := gd d = true ∧ wt d ≤ 900 ∧ dp d ≤ 20
theorem Good.dat {d : D} (h : Good d) : DL.dat d = true := dat_of h.1 (by have := h.2.1; omega)
theorem repr_go {d : D} (h : Good d) : ∃ p : PyData, ∀ {M : Mem} {R : RK}, R (.str p.shown) M → dRepr [d] M R := by
  obtain ⟨p, e, h1, h2, h3, h4⟩ := py_of h.1
  refine ⟨p, fun {M R} q => ⟨d, p, rfl, e, h4, ?_, ?_, q⟩⟩
  · have := PyData.shown_le 60 (by decide) p h3
    have h5 := h.2.1
    rw [sizeLine_eq]
    omega
  · have := h.2.2
    omega

theorem at_nat {xs : List D} {i : Int} (h0 : 0 ≤ i) (h1 : i < xs.length) : ∃ d, d ∈ xs ∧ L2.atI xs i = some d := by
  obtain ⟨j, rfl⟩ := Int.eq_ofNat_of_zero_le h0
  have hj : j < xs.length := by omega
  exact ⟨xs[j], List.getElem_mem hj, L2.atI_nat (List.getElem?_eq_getElem hj)⟩
theorem rng_mem {n : Nat} {d : D} (h : d ∈ (List.range n).map fun i => D.int (i : Nat)) : ∃ i : Nat, i < n ∧ d = .int i := by
  obtain ⟨i, hi, rfl⟩ := List.mem_map.mp h
  exact ⟨i, List.mem_range.mp hi, rfl⟩
theorem rng_at {m i : Nat} {d : D} (h : ((List.range m).map fun i => D.int (i : Nat))[i]? = some d) : i < m ∧ d = .int (i : Nat) := by
  rw [List.getElem?_map] at h
  cases e : (List.range m)[i]? with
  | none => rw [e] at h; cases h
  | some j =>
    rw [e] at h
    cases h
    obtain ⟨hl, hj⟩ := List.getElem?_eq_some_iff.mp e
    simp at hl hj
    exact ⟨hl, by rw [hj]⟩
theorem it_rng {ρ : DEnv} {M : Mem} {te : DE} {m : Nat} (hm : m ≤ 1000) (h : ∀ R : RK, R (.int m) M → te ρ M R) : ∀ Q : List D → (Mem → Prop) → Mem → Prop, Q ((List.range m).map fun i => D.int (i : Nat)) (fun _ => True) M → dRng1 (dCons te dNil) ρ M Q :=
  fun Q q => h _ ⟨(m : Int), rfl, by omega, by omega, by simpa using q⟩
theorem app_go {ρ : DEnv} {M : Mem} {R : RK} {p : Addr} {xs : List D} {to te : DE} {x : D} (h : ∀ R : RK, R (.ref p) M → to ρ M R) (hm : M p = some (.lst xs)) (hl : xs.length ≤ 1000) (he : ∀ R : RK, R x M → te ρ M R) (q : R .non (mset M p (.lst (xs ++ [x])))) : dMeth "list" dAppend to (dCons te dNil) ρ M R :=
  h _ ⟨.inr (.inl ⟨rfl, xs, .inr ⟨p, rfl, hm⟩⟩), he _ ⟨p, xs, x, rfl, rfl, hm, Nat.lt_of_le_of_lt hl (by decide), q⟩⟩
def ascii (s : Str) : Bool := s.cps.toList.all fun c => decide (c < 128)
theorem join_one : ∀ (ys : List Str), (∀ y ∈ ys, ascii y = true ∧ y.length = 1) → ascii (Str.join ⟨#[]⟩ ys) = true ∧ (Str.join ⟨#[]⟩ ys).length = ys.length
  | [], _ => ⟨rfl, rfl⟩
  | y :: ys, h => by
    obtain ⟨a1, a2⟩ := h y (by simp)
    obtain ⟨b1, b2⟩ := join_one ys fun z hz => h z (by simp [hz])
    rw [PyProof.Rows.join_nil_cons, Str.length_append, a2, b2]
    refine ⟨?_, by simp; omega⟩
    unfold ascii at *
    rw [Str.cps_append, Array.toList_append, List.all_append, a1, b1]
    rfl
theorem join_ascii {ys : List Str} (h : ∀ y ∈ ys, ascii y = true ∧ y.length = 1) : ascii (Txt.join "" ys) = true ∧ (Txt.join "" ys).length = ys.length := by
  rw [TL.join_eq]
  exact join_one ys h
theorem inF_mem {x : Str} {ds : List D} (h : inF (.str x) ds = true) : .str x ∈ ds := by
  unfold inF at h
  obtain ⟨y, hy, e⟩ := List.any_eq_true.mp h
  cases y with
  | str z =>
    have e' : (z == x) = true := e
    rw [eq_of_beq e'] at hy
    exact hy
  | _ => cases e
theorem cut_mem {xs : List D} {lo hi : Option Int} {d : D} (h : d ∈ DL.cutD xs lo hi) : d ∈ xs := List.mem_of_mem_drop (List.mem_of_mem_take h)
theorem cut_wts {xs : List D} {lo hi : Option Int} : wts (DL.cutD xs lo hi) ≤ wts xs := Nat.le_trans (wts_take _ _) (wts_drop _ _)
theorem cut_len {xs : List D} {lo hi : Option Int} : (DL.cutD xs lo hi).length ≤ xs.length := by
  unfold DL.cutD
  rw [List.length_take, List.length_drop]
  omega
theorem cut_gds {xs : List D} {lo hi : Option Int} (h : gds xs = true) : gds (DL.cutD xs lo hi) = true := gds_sub (fun d hd => cut_mem hd) h
theorem cut_dps {xs : List D} {lo hi : Option Int} : dps (DL.cutD xs lo hi) ≤ dps xs := dps_sub fun d hd => cut_mem hd
section
variable {M : Mem} {R : RK} {xs : List D} {i : Int}
theorem q_list_tup : dList [.tup xs] M R ↔ R (.lst xs) M := by
  constructor
  · rintro ⟨x, ds, e, h | h, q⟩
    · cases e; cases h; exact q
    · cases e
      rcases h with h | ⟨a, h, _⟩ <;> cases h
  · exact fun q => ⟨_, xs, rfl, .inl rfl, q⟩
theorem q_tuple_lst : dTuple [.lst xs] M R ↔ R (.tup xs) M := by
  constructor
  · rintro ⟨x, ds, e, h | h, q⟩
    · cases e; cases h
    · cases e
      rcases h with h | ⟨a, h, _⟩ <;> cases h
      exact q
  · exact fun q => ⟨_, xs, rfl, .inr (.inl rfl), q⟩
theorem q_strInt : dStrInt [.int i] M R ↔ i.natAbs.log2 < 1920 ∧ R (.str (toString i)) M := ⟨fun ⟨j, e, h⟩ => by cases e; exact h, fun h => ⟨i, rfl, h⟩⟩
end
theorem str_small : ∀ n : _root_.Fin 1000, ascii (toString ((n.val : Nat) : Int)) = true ∧ ((toString ((n.val : Nat) : Int) : Str)).length ≤ 5 ∧ ascii (toString (-((n.val : Nat) : Int))) = true ∧ ((toString (-((n.val : Nat) : Int)) : Str)).length ≤ 5 := by decide +kernel
theorem str_int {i : Int} (h : i.natAbs < 1000) : ascii (toString i) = true ∧ ((toString i : Str)).length ≤ 5 := by
  have s := str_small ⟨i.natAbs, h⟩
  rcases Int.natAbs_eq i with e | e
  · rw [e]; exact ⟨s.1, s.2.1⟩
  · rw [e]; exact ⟨s.2.2.1, s.2.2.2⟩
theorem upper_ascii : ∀ (l : List Nat), (l.all fun c => decide (c < 128)) = true → ascii (Txt.upper ⟨l.toArray⟩) = true
  | [], _ => by decide
  | c :: l, h => by
    rw [List.all_cons, Bool.and_eq_true, decide_eq_true_eq] at h
    have e : (⟨(c :: l).toArray⟩ : Str) = ⟨#[c]⟩ ++ ⟨l.toArray⟩ := by
      show _ = (⟨#[c] ++ l.toArray⟩ : Str)
      simp
    rw [e, PySem.W.KOpn.upper_app, PySem.W.KOpn.upper_one h.1]
    unfold ascii
    rw [Str.cps_append, Array.toList_append, List.all_append]
    have ih := upper_ascii l h.2
    unfold ascii at ih
    rw [ih]
    have := h.1
    simp
    split <;> omega
theorem cutS_ascii {s : Str} {lo hi : Option Int} (h : ascii s = true) : ascii (cutS s lo hi) = true ∧ (cutS s lo hi).length ≤ s.length := by
  unfold ascii at *
  rw [List.all_eq_true] at h
  constructor
  · rw [List.all_eq_true]
    intro c hc
    unfold cutS at hc
    exact h c (List.mem_of_mem_drop (List.mem_of_mem_take hc))
  · have e : s.cps.toList.length = s.length := rfl
    show ((s.cps.toList.drop _).take _).toArray.size ≤ _
    rw [List.size_toArray, List.length_take, List.length_drop, e]
    omega
def swap (xs : List D) (i : Nat) (y : D) : List D := xs.take i ++ [y] ++ xs.drop (i + 1)
theorem swap_len {xs : List D} {i : Nat} {y : D} (h : i < xs.length) : (swap xs i y).length = xs.length := by
  unfold swap
  simp
  omega
theorem swap_mem {xs : List D} {i : Nat} {y d : D} (h : d ∈ swap xs i y) : d ∈ xs ∨ d = y := by
  unfold swap at h
  simp at h
  rcases h with h | h | h
  · exact .inl (List.mem_of_mem_take h)
  · exact .inr h
  · exact .inl (List.mem_of_mem_drop h)
theorem swap_wts {xs : List D} {i : Nat} {y x : D} (h : xs[i]? = some x) : wts (swap xs i y) + wt x = wts xs + wt y := by
  obtain ⟨hl, hx⟩ := List.getElem?_eq_some_iff.mp h
  have e : xs = xs.take i ++ [x] ++ xs.drop (i + 1) := by
    rw [← hx]
    simp
  have e2 : wts xs = wts (xs.take i) + (wt x + 1) + wts (xs.drop (i + 1)) := by
    conv => lhs; rw [e]
    rw [wts_app, wts_app]
    simp [wts]
  unfold swap
  rw [wts_app, wts_app, e2]
  simp [wts]
  omega
theorem cut_to {xs : List D} {i : Nat} (h : i ≤ xs.length) : DL.cutD xs none (some (i : Int)) = xs.take i := by
  unfold DL.cutD
  rw [HT.sIx_nat, HT.sIx_none]
  simp
theorem cut_from {xs : List D} {i : Nat} (h : i ≤ xs.length) : DL.cutD xs (some (i : Int)) none = xs.drop i := by
  unfold DL.cutD
  rw [HT.sIx_nat, HT.sIx_none]
  rw [Nat.min_eq_left h]
  exact List.take_of_length_le (by simp)
theorem swap_go {M : Mem} {R : RK} {xs : List D} {i : Nat} {y : D} (hi : i < xs.length) (hl : xs.length ≤ 1000) (q : R (.tup (swap xs i y)) M) :
    dAdd (.tup (DL.cutD xs none (some (i : Int)))) (.tup [y]) M fun x M1 => dAdd x (.tup (DL.cutD xs (some ((i : Int) + 1)) none)) M1 R := by
  have e1 := cut_to (xs := xs) (Nat.le_of_lt hi)
  have e2 : DL.cutD xs (some ((i : Int) + 1)) none = xs.drop (i + 1) := cut_from (xs := xs) (i := i + 1) hi
  rw [e1, e2]
  refine ⟨by rw [sizeLine_eq]; simp; omega, by rw [sizeLine_eq]; simp; omega, q⟩
theorem szl {a b : Nat} (h1 : a ≤ 1000) (h2 : b ≤ 1000) : a + b ≤ sizeLine := by rw [sizeLine_eq]; omega
theorem gds_swap {xs : List D} {i : Nat} {y : D} (h : gds xs = true) (g : gd y = true) : gds (swap xs i y) = true := gds_all.mpr fun d hd => (swap_mem hd).elim (gds_all.mp h d) fun e => e ▸ g
theorem dps_swap {xs : List D} {i k : Nat} {y : D} (h : dps xs ≤ k) (g : dp y ≤ k) : dps (swap xs i y) ≤ k := dps_le fun d hd => (swap_mem hd).elim (fun z => Nat.le_trans (dps_mem z) h) fun e => e ▸ g
end DL

set_option Elab.async false
set_option linter.all false
set_option maxHeartbeats 4000000
set_option maxRecDepth 100000
/-! D-layer, part 19: data by length, weight and depth; what may be shown. -/
namespace DL
open PySem PySem.Spec PyProof.Rows L2
def kgx (L : Nat) : Key → Bool
  | .inl i => decide (i.natAbs < 10 ^ 40 + 10 * L)
  | .inr s => decide (s.length ≤ L) && s.cps.toList.all fun c => decide (c < 128)
mutual
def gx (L : Nat) : D → Bool
  | .non => true
  | .bl _ => true
  | .int i => decide (i.natAbs < 10 ^ 40 + 10 * L)
  | .str s => decide (s.length ≤ L) && ascii s
  | .tup ds => decide (ds.length ≤ L) && gxs L ds
  | .lst ds => decide (ds.length ≤ L) && gxs L ds
  | .dct ks ds => decide (ks.length = ds.length) && decide (ds.length ≤ L) && ks.all (kgx L) && gxs L ds
  | _ => false
def gxs (L : Nat) : List D → Bool
  | [] => true
  | d :: ds => gx L d && gxs L ds
end
theorem gxs_all {L : Nat} : ∀ {ds : List D}, gxs L ds = true ↔ ∀ d ∈ ds, gx L d = true
  | [] => by simp [gxs]
  | d :: ds => by simp [gxs, gxs_all (ds := ds)]
theorem gx_tup {L : Nat} {ds : List D} : gx L (.tup ds) = true ↔ ds.length ≤ L ∧ ∀ d ∈ ds, gx L d = true := by
  show (decide (ds.length ≤ L) && gxs L ds) = true ↔ _
  rw [Bool.and_eq_true, decide_eq_true_eq, gxs_all]
theorem gx_lst {L : Nat} {ds : List D} : gx L (.lst ds) = true ↔ ds.length ≤ L ∧ ∀ d ∈ ds, gx L d = true := gx_tup
theorem gx_str {L : Nat} {s : Str} : gx L (.str s) = true ↔ s.length ≤ L ∧ ascii s = true := by
  show (decide (s.length ≤ L) && ascii s) = true ↔ _
  rw [Bool.and_eq_true, decide_eq_true_eq]
theorem gx_int {L : Nat} {i : Int} : gx L (.int i) = true ↔ i.natAbs < 10 ^ 40 + 10 * L := by
  show decide _ = true ↔ _
  rw [decide_eq_true_eq]
theorem gx_dct {L : Nat} {ks : List Key} {ds : List D} (h1 : ks.length = ds.length) (h2 : ds.length ≤ L) (h3 : ks.all (kgx L) = true) (h4 : ∀ d ∈ ds, gx L d = true) : gx L (.dct ks ds) = true := by
  show (decide (ks.length = ds.length) && decide (ds.length ≤ L) && ks.all (kgx L) && gxs L ds) = true
  rw [decide_eq_true h1, decide_eq_true h2, h3, gxs_all.mpr h4]
  rfl
theorem kgx_mono {L L' : Nat} (h : L ≤ L') {k : Key} (g : kgx L k = true) : kgx L' k = true := by
  cases k with
  | inl i =>
    have := of_decide_eq_true g
    exact decide_eq_true (by omega)
  | inr s =>
    have g' : (decide (s.length ≤ L) && s.cps.toList.all fun c => decide (c < 128)) = true := g
    rw [Bool.and_eq_true, decide_eq_true_eq] at g'
    show (decide (s.length ≤ L') && s.cps.toList.all fun c => decide (c < 128)) = true
    rw [Bool.and_eq_true, decide_eq_true_eq]
    exact ⟨Nat.le_trans g'.1 h, g'.2⟩
mutual
theorem gx_mono {L L' : Nat} (h : L ≤ L') : ∀ {d : D}, gx L d = true → gx L' d = true
  | .non, _ => rfl
  | .bl _, _ => rfl
  | .int i, g => gx_int.mpr (by have := gx_int.mp g; omega)
  | .str s, g => gx_str.mpr (by have := gx_str.mp g; exact ⟨by omega, this.2⟩)
  | .tup ds, g => by
    have g' : (decide (ds.length ≤ L) && gxs L ds) = true := g
    rw [Bool.and_eq_true, decide_eq_true_eq] at g'
    show (decide (ds.length ≤ L') && gxs L' ds) = true
    rw [decide_eq_true (Nat.le_trans g'.1 h), gxs_mono h g'.2]
    rfl
  | .lst ds, g => by
    have g' : (decide (ds.length ≤ L) && gxs L ds) = true := g
    rw [Bool.and_eq_true, decide_eq_true_eq] at g'
    show (decide (ds.length ≤ L') && gxs L' ds) = true
    rw [decide_eq_true (Nat.le_trans g'.1 h), gxs_mono h g'.2]
    rfl
  | .dct ks ds, g => by
    have g' : (decide (ks.length = ds.length) && decide (ds.length ≤ L) && ks.all (kgx L) && gxs L ds) = true := g
    rw [Bool.and_eq_true, Bool.and_eq_true, Bool.and_eq_true, decide_eq_true_eq, decide_eq_true_eq, List.all_eq_true] at g'
    show (decide (ks.length = ds.length) && decide (ds.length ≤ L') && ks.all (kgx L') && gxs L' ds) = true
    rw [decide_eq_true g'.1.1.1, decide_eq_true (Nat.le_trans g'.1.1.2 h), gxs_mono h g'.2, List.all_eq_true.mpr fun k hk => kgx_mono h (g'.1.2 k hk)]
    rfl
  | .ty _, g => by cases g
  | .ref _, g => by cases g
theorem gxs_mono {L L' : Nat} (h : L ≤ L') : ∀ {ds : List D}, gxs L ds = true → gxs L' ds = true
  | [], _ => rfl
  | d :: ds, g => by
    have g' : (gx L d && gxs L ds) = true := g
    rw [Bool.and_eq_true] at g'
    show (gx L' d && gxs L' ds) = true
    rw [gx_mono h g'.1, gxs_mono h g'.2]
    rfl
end
theorem kgx_kgd {L : Nat} (h : L ≤ 1000) {k : Key} (g : kgx L k = true) : kgd k = true := by
  cases k with
  | inl i =>
    have := of_decide_eq_true g
    exact decide_eq_true (by omega)
  | inr s =>
    have g' : (decide (s.length ≤ L) && s.cps.toList.all fun c => decide (c < 128)) = true := g
    rw [Bool.and_eq_true] at g'
    exact g'.2
mutual
theorem gx_dat {L : Nat} (h : L ≤ 1000) : ∀ {d : D}, gx L d = true → dat d = true ∧ gd d = true
  | .non, _ => ⟨rfl, rfl⟩
  | .bl _, _ => ⟨rfl, rfl⟩
  | .int i, g => ⟨rfl, decide_eq_true (by have := gx_int.mp g; omega)⟩
  | .str s, g => ⟨decide_eq_true (by have := gx_str.mp g; omega), (gx_str.mp g).2⟩
  | .tup ds, g => by
    have g' : (decide (ds.length ≤ L) && gxs L ds) = true := g
    rw [Bool.and_eq_true, decide_eq_true_eq] at g'
    obtain ⟨a, b⟩ := gxs_dat h g'.2
    refine ⟨?_, b⟩
    show (decide (ds.length ≤ 1000) && dats ds) = true
    rw [decide_eq_true (Nat.le_trans g'.1 h), a]
    rfl
  | .lst ds, g => by
    have g' : (decide (ds.length ≤ L) && gxs L ds) = true := g
    rw [Bool.and_eq_true, decide_eq_true_eq] at g'
    obtain ⟨a, b⟩ := gxs_dat h g'.2
    refine ⟨?_, b⟩
    show (decide (ds.length ≤ 1000) && dats ds) = true
    rw [decide_eq_true (Nat.le_trans g'.1 h), a]
    rfl
  | .dct ks ds, g => by
    have g' : (decide (ks.length = ds.length) && decide (ds.length ≤ L) && ks.all (kgx L) && gxs L ds) = true := g
    rw [Bool.and_eq_true, Bool.and_eq_true, Bool.and_eq_true, decide_eq_true_eq, decide_eq_true_eq, List.all_eq_true] at g'
    obtain ⟨a, b⟩ := gxs_dat h g'.2
    constructor
    · show (decide (ks.length = ds.length) && dats ds) = true
      rw [decide_eq_true g'.1.1.1, a]
      rfl
    · show (decide (ks.length = ds.length) && ks.all kgd && gds ds) = true
      rw [decide_eq_true g'.1.1.1, b, List.all_eq_true.mpr fun k hk => kgx_kgd h (g'.1.2 k hk)]
      rfl
  | .ty _, g => by cases g
  | .ref _, g => by cases g
theorem gxs_dat {L : Nat} (h : L ≤ 1000) : ∀ {ds : List D}, gxs L ds = true → dats ds = true ∧ gds ds = true
  | [], _ => ⟨rfl, rfl⟩
  | d :: ds, g => by
    have g' : (gx L d && gxs L ds) = true := g
    rw [Bool.and_eq_true] at g'
    obtain ⟨a, b⟩ := gx_dat h g'.1
    obtain ⟨a', b'⟩ := gxs_dat h g'.2
    constructor
    · show (dat d && dats ds) = true
      rw [a, a']
      rfl
    · show (gd d && gds ds) = true
      rw [b, b']
      rfl
end
theorem bulkKv_le : ∀ {ks : List Key} {ps : List PyData}, ks.length = ps.length → PyData.bulkKv ((ks.map keyPy).zip ps) ≤ kwts ks + PyData.bulkAll ps
  | [], [], _ => by simp [PyData.bulkKv, PyData.bulkAll]
  | k :: ks, p :: ps, hl => by
    have a := bulkKv_le (ks := ks) (ps := ps) (by simpa using hl)
    have key : PyData.bulk (keyPy k) + 1 ≤ kwt k := by
      cases k with
      | inl i => simp [keyPy, PyData.bulk, kwt]
      | inr s =>
        have e : PyData.bulk (.str s) = s.length := by simp only [PyData.bulk]; rfl
        show PyData.bulk (.str s) + 1 ≤ s.length + 1
        omega
    simp only [List.map_cons, List.zip_cons_cons, PyData.bulkKv, PyData.bulkAll, kwts]
    omega
mutual
theorem bulk_of : ∀ {d : D} {p : PyData}, gd d = true → toR d = some p → p.bulk ≤ wt d
  | .non, p, _, e => by cases e; simp [PyData.bulk]
  | .bl _, p, _, e => by cases e; simp [PyData.bulk]
  | .int i, p, _, e => by cases e; simp [PyData.bulk]
  | .str s, p, _, e => by cases e; simp only [PyData.bulk]; exact Nat.le_refl _
  | .tup ds, p, g, e => by
    have e' : (toRs ds).map PyData.tuple = some p := e
    cases h : toRs ds with
    | none => rw [h] at e'; cases e'
    | some ps =>
      rw [h] at e'
      cases e'
      simp only [PyData.bulk]
      exact bulks_of (ds := ds) g h
  | .lst ds, p, g, e => by
    have e' : (toRs ds).map PyData.list = some p := e
    cases h : toRs ds with
    | none => rw [h] at e'; cases e'
    | some ps =>
      rw [h] at e'
      cases e'
      simp only [PyData.bulk]
      exact bulks_of (ds := ds) g h
  | .dct ks ds, p, g, e => by
    have g' : (decide (ks.length = ds.length) && ks.all kgd && gds ds) = true := g
    rw [Bool.and_eq_true, Bool.and_eq_true, decide_eq_true_eq] at g'
    have e' : (toRs ds).map (fun ps => PyData.dict ((ks.map keyPy).zip ps)) = some p := e
    cases h : toRs ds with
    | none => rw [h] at e'; cases e'
    | some ps =>
      rw [h] at e'
      cases e'
      simp only [PyData.bulk]
      have a := bulks_of (ds := ds) g'.2 h
      have b := bulkKv_le (ks := ks) (ps := ps) (g'.1.1.trans (toRs_len h))
      show _ ≤ kwts ks + wts ds
      omega
  | .ty _, p, g, _ => by cases g
  | .ref _, p, g, _ => by cases g
theorem bulks_of : ∀ {ds : List D} {ps : List PyData}, gds ds = true → toRs ds = some ps → PyData.bulkAll ps ≤ wts ds
  | [], ps, _, e => by cases e; simp [PyData.bulkAll]
  | d :: ds, ps, g, e => by
    have g' : (gd d && gds ds) = true := g
    rw [Bool.and_eq_true] at g'
    have e' : (match toR d, toRs ds with
      | some p, some ps => some (p :: ps)
      | _, _ => none) = some ps := e
    cases e1 : toR d with
    | none => rw [e1] at e'; cases e'
    | some q =>
      cases e2 : toRs ds with
      | none => rw [e1, e2] at e'; cases e'
      | some qs =>
        rw [e1, e2] at e'
        cases e'
        have a := bulk_of g'.1 e1
        have b := bulks_of g'.2 e2
        simp only [PyData.bulkAll, wts]
        omega
end
theorem str_big {i : Int} (h : i.natAbs < 10 ^ 45) : ascii (toString i) = true ∧ ((toString i : Str)).length ≤ 46 := by
  constructor
  · unfold ascii
    rw [List.all_eq_true]
    intro c hc
    refine decide_eq_true ?_
    by_cases z : c < 128
    · exact z
    · exact absurd hc (PyProof.Rows.int_text_free' c (by omega) i)
  · have e := int_text_length_le10 (k := 45) (by decide) h
    show (Str.ofString (toString i)).length ≤ 46
    rw [PySem.ofString_length]
    exact e
theorem log_big {i : Int} (h : i.natAbs < 10 ^ 45) : i.natAbs.log2 < 1920 := by
  by_cases z : i.natAbs = 0
  · rw [z]; decide
  · exact (Nat.log2_lt z).mpr (Nat.lt_of_lt_of_le h (by decide))
/-- what may be shown, great ones too -/
def Big (d : D) : Prop := gx 1000 d = true ∧ wt d ≤ 200000 ∧ dp d ≤ 58
theorem Big.dat {d : D} (h : Big d) : DL.dat d = true := (gx_dat (Nat.le_refl _) h.1).1
theorem repr_big {d : D} (h : Big d) : ∃ p : PyData, ∀ {M : Mem} {R : RK}, R (.str p.shown) M → dRepr [d] M R := by
  have g := (gx_dat (Nat.le_refl _) h.1).2
  obtain ⟨p, e, h1, h2, h3, h4⟩ := py_of g
  refine ⟨p, fun {M R} q => ⟨d, p, rfl, e, h4, ?_, ?_, q⟩⟩
  · have := PyData.shown_le_bulk 60 (by decide) p h3
    have h5 := h.2.1
    have h6 := bulk_of g e
    rw [sizeLine_eq]
    omega
  · have := h.2.2
    omega
theorem gx_app {L L1 L2 : Nat} {xs ys : List D} (h1 : ∀ d ∈ xs, gx L1 d = true) (h2 : ∀ d ∈ ys, gx L2 d = true) (hl : xs.length + ys.length ≤ L) (l1 : L1 ≤ L) (l2 : L2 ≤ L) : gx L (.tup (xs ++ ys)) = true :=
  gx_tup.mpr ⟨by rw [List.length_append]; exact hl, fun d hd => (List.mem_append.mp hd).elim (fun h => gx_mono l1 (h1 d h)) fun h => gx_mono l2 (h2 d h)⟩
theorem gx_swap {L L' : Nat} {xs : List D} {i : Nat} {y : D} (h : gx L (.tup xs) = true) (hi : i < xs.length) (hl : L ≤ L') (g : gx L' y = true) : gx L' (.tup (swap xs i y)) = true := by
  obtain ⟨a, b⟩ := gx_tup.mp h
  refine gx_tup.mpr ⟨by rw [swap_len hi]; omega, fun d hd => (swap_mem hd).elim (fun z => gx_mono hl (b d z)) fun e => e ▸ g⟩
section
variable {ρ : DEnv} {M : Mem} {R : RK} {vs : List Nat} {ti : DI} {g : DG} {tt : DT} {te : DE}
/-- each item is one of some, whatever they are -/
theorem go_someP (Pi : List D → Prop) (C : D → Prop) (hti : ∀ Q : List D → (Mem → Prop) → Mem → Prop, (∀ items, Pi items → Q items (fun _ => True) M) → ti ρ M Q) (hl : ∀ items, Pi items → items.length ≤ sizeLine)
    (hs : ∀ items, Pi items → ∀ d ∈ items, ∀ Rt : RK, (∀ y, C y → Rt y M) → g d (dwipe ρ vs) fun ρ3 => te ρ3 M Rt) (q : ∀ items, Pi items → ∀ acc : List D, acc.length = items.length → (∀ y ∈ acc, C y) → R (.lst acc) M) : dLc vs ti g dYes te ρ M R :=
  hti _ fun items h => (go_some (ti := fun _ M Q => Q items (fun _ => True) M) C (fun Q h => h) (hl items h) trivial (hs items h) (q items h) : dLc vs (fun _ M Q => Q items (fun _ => True) M) g dYes te ρ M R)
end
end DL

set_option Elab.async false
set_option linter.all false
set_option maxHeartbeats 4000000
set_option maxRecDepth 100000
/-! D-layer, part 20: memories with more lists and dicts; lists that are drawn from. -/
namespace DL
open PySem PySem.Spec PyProof.Rows L2
def ExtO (M M2 : Mem) : Prop := ∀ c, M2 c = M c ∨ (M c = none ∧ ∃ o, M2 c = some o ∧ o.own)
theorem ExtO.refl {M : Mem} : ExtO M M := fun _ => .inl rfl
theorem ExtO.keep {M M2 : Mem} {c : Addr} {o : MO} (x : ExtO M M2) (h : M c = some o) : M2 c = some o := by
  rcases x c with h' | ⟨h', _⟩
  · rw [h']; exact h
  · rw [h] at h'; cases h'
theorem ExtO.view {K : PySem.W.Frag} {M M2 : Mem} (x : ExtO M M2) : MView K M2 M := fun z H A => by
  have fr : Frame M2 H M H := fun c _ n => ⟨rfl, by
    rcases x c with e | ⟨e, _⟩
    · rw [← e]; exact n
    · exact e⟩
  refine ⟨A.step fr fun a o e => .inl ?_, fr⟩
  have ea : M2 a = some o := x.keep e
  refine ⟨ea, rfl, fun ks b eo => ⟨?_, rfl⟩⟩
  subst eo
  have hb := A.deckAt ea
  rcases x b with h | ⟨_, o, h, ho⟩
  · exact h.symm
  · rw [h] at hb; cases hb; exact ho.elim
theorem ExtO.ends {K : PySem.W.Frag} {M M2 : Mem} {R : RK} {d : D} (x : ExtO M M2) (q : R d M) : (endsOf K R).rt d M2 := .inr ⟨d, M, View.mem x.view fun c n => by
  rcases x c with e | ⟨e, _⟩
  · rw [← e]; exact n
  · exact e, q⟩
theorem ExtO.nn {M M2 : Mem} {p : Addr} (x : ExtO M M2) (h : M2 p = none) : M p = none := by
  rcases x p with h' | ⟨h', _⟩
  · rw [← h']; exact h
  · exact h'
theorem ExtO.upd {M M2 : Mem} {p : Addr} {o : MO} (x : ExtO M M2) (h : M p = none) (ho : o.own) : ExtO M (mset M2 p o) := fun c => by
  by_cases e : c = p
  · subst e; exact .inr ⟨h, o, mset_same, ho⟩
  · rw [mset_ne e]; exact x c
theorem ExtO.updL {M M2 : Mem} {p : Addr} {ds : List D} (x : ExtO M M2) (h : M p = none) : ExtO M (mset M2 p (.lst ds)) := x.upd h trivial
theorem ExtO.updD {M M2 : Mem} {p : Addr} {ks : List Key} {ds : List D} (x : ExtO M M2) (h : M p = none) : ExtO M (mset M2 p (.dct ks ds)) := x.upd h trivial
theorem ExtO.new {M M2 : Mem} {p : Addr} {ds : List D} (x : ExtO M M2) (h : M2 p = none) : ExtO M (mset M2 p (.lst ds)) := x.updL (x.nn h)
theorem ExtO.deck {M M2 : Mem} {a : Addr} (x : ExtO M M2) (d : Deck M a) : Deck M2 a := by
  obtain ⟨b, h1, h2⟩ := d
  exact ⟨b, x.keep h1, x.keep h2⟩
theorem ExtO.trans {M M1 M2 : Mem} (x : ExtO M M1) (y : ExtO M1 M2) : ExtO M M2 := fun c => by
  rcases y c with e | ⟨e, o, h, ho⟩
  · rw [e]; exact x c
  · exact .inr ⟨x.nn e, o, h, ho⟩
theorem tyM_l {M : Mem} {p : Addr} {xs : List D} (h : M p = some (.lst xs)) : tyM "list" (.ref p) M := .inr (.inl ⟨rfl, xs, .inr ⟨p, rfl, h⟩⟩)
theorem app_at {M : Mem} {R : RK} {p : Addr} {xs : List D} {x : D} (h : M p = some (.lst xs)) (hl : xs.length ≤ 1000) (q : R .non (mset M p (.lst (xs ++ [x])))) : dAppend (.ref p) [x] M R :=
  ⟨p, xs, x, rfl, rfl, h, Nat.lt_of_le_of_lt hl (by decide), q⟩
theorem pop_at {M : Mem} {R : RK} {p : Addr} {xs : List D} {i : Int} (h : M p = some (.lst xs)) (hl : xs.length ≤ 1000) (h0 : 0 ≤ i) (h1 : i < xs.length) (q : ∀ k y, k < xs.length → y ∈ xs → R y (mset M p (.lst (xs.eraseIdx k)))) : dPopAt (.ref p) [.int i] M R := by
  obtain ⟨j, rfl⟩ := Int.eq_ofNat_of_zero_le h0
  have hj : j < xs.length := by omega
  refine ⟨p, xs, (j : Int), j, xs[j], rfl, rfl, h, by omega, by omega, ?_, List.getElem?_eq_getElem hj, q j _ hj (List.getElem_mem hj)⟩
  unfold seqIndex?
  simp only [Int.not_lt.mpr h0, if_false]
  rw [if_pos (by simp; omega)]
  simp
theorem erase_mem {xs : List D} {k : Nat} {d : D} (h : d ∈ xs.eraseIdx k) : d ∈ xs := List.mem_of_mem_eraseIdx h
theorem ext_at {M : Mem} {R : RK} {p p2 : Addr} {xs ys : List D} (h : M p = some (.lst xs)) (h2 : M p2 = some (.lst ys)) (hl : xs.length + ys.length ≤ 100000) (q : R .non (mset M p (.lst (xs ++ ys)))) : dExtendM (.ref p) [.ref p2] M R :=
  ⟨p, p2, xs, ys, rfl, rfl, h, h2, Nat.le_trans hl (by decide), q⟩
end DL

set_option Elab.async false
set_option linter.all false
set_option maxHeartbeats 4000000
set_option maxRecDepth 100000
/-! D-layer, part 21: sorted texts of any number, the greatest of a list, endswith, a list that is extended by a tuple. -/
namespace DL
open PySem PySem.Spec PyProof.Rows L2
/-! ### texts in order -/
def sv : Value → List Nat
  | .str x _ => x.cps.toList
  | _ => []
def stOf : Value → Str
  | .str x _ => x
  | _ => ⟨#[]⟩
def ltSv (v u : Value) : Bool := decide (sv v < sv u)
theorem swo_txt : SrtO.Swo ltSv := by
  refine ⟨fun x y h => ?_, fun x y z h1 h2 => ?_⟩
  · have a := of_decide_eq_true (p := sv x < sv y) h
    exact decide_eq_false (p := sv y < sv x) (List.lt_asymm a)
  · have a := of_decide_eq_false (p := sv y < sv x) h1
    have b := of_decide_eq_false (p := sv z < sv y) h2
    exact decide_eq_false (p := sv z < sv x) (List.not_lt.mpr (List.le_trans (List.not_lt.mp a) (List.not_lt.mp b)))
theorem txt_mem : ∀ {vs : List Value} {xs : List Str}, StrsAre vs xs → ∀ v ∈ vs, ∃ x t, v = Value.str x t
  | _, _, .nil, v, h => absurd h (by simp)
  | _, _, .cons x t r, v, h => by
    rcases List.mem_cons.mp h with e | h
    · exact ⟨x, t, e⟩
    · exact txt_mem r v h
theorem txt_of : ∀ {vs : List Value}, (∀ v ∈ vs, ∃ x t, v = Value.str x t) → StrsAre vs (vs.map stOf)
  | [], _ => .nil
  | v :: vs, h => by
    obtain ⟨x, t, e⟩ := h v List.mem_cons_self
    subst e
    exact .cons x t (txt_of fun u hu => h u (List.mem_cons_of_mem _ hu))
theorem of_txt : ∀ {vs : List Value} {xs : List Str}, StrsAre vs xs → vs.map stOf = xs
  | _, _, .nil => rfl
  | _, _, .cons x t r => congrArg (x :: ·) (of_txt r)
section
variable {prog : Program} {w : World} {A : Around} {E : Value → Shared → Prop} {s : Shared}
theorem txt_cmp {vs : List Value} {xs : List Str} (hI : StrsAre vs xs) : SrtO.Cmp prog w A s oneType' (fun p => p.1 ∈ vs) (SrtO.lt2 ltSv) := by
  intro p q hm hm'
  obtain ⟨a, t, e⟩ := txt_mem hI _ hm
  obtain ⟨b, u, e'⟩ := txt_mem hI _ hm'
  show wpAny (model prog w) A (keyLt' oneType' p.1 q.1) (fun r s' => s' = s ∧ r = ltSv p.1 q.1) (fun _ _ => False) s
  rw [e, e', keyLt'_oneType]
  exact oneLt_str ⟨rfl, rfl⟩
theorem txt_sortable {a : Addr} {vs : List Value} {xs : List Str} (hI : StrsAre vs xs) (h2 : 2 ≤ vs.length) : SrtO.SortableO prog w A s a vs ltSv := by
  intro h' _
  refine ⟨oneType', fun Q E hq => ?_, txt_cmp hI⟩
  match vs, hI, h2 with
  | v1 :: v2 :: rest, hI, _ =>
    rw [keyKind_strs hI]
    exact wpAny_pure hq
  | [], _, h => exact absurd h (by decide)
  | [v], _, h => exact absurd h (by simp)
end
def Asc (ys : List Str) : Prop := ys.Pairwise fun a b => ¬ b.cps.toList < a.cps.toList
theorem txt_out {vs out : List Value} {xs : List Str} (hI : StrsAre vs xs) (hs : SrtO.Srtd ltSv out) (hb : SrtO.Stb ltSv out vs) : StrsAre out (out.map stOf) ∧ (out.map stOf).Perm xs ∧ Asc (out.map stOf) := by
  have hm : ∀ v ∈ out, ∃ x t, v = Value.str x t := fun v hv => txt_mem hI v (hb.perm.mem_iff.mp hv)
  refine ⟨txt_of hm, ?_, ?_⟩
  · have q := hb.perm.map stOf
    rw [of_txt hI] at q
    exact q
  · refine List.pairwise_map.mpr (List.Pairwise.imp_of_mem (fun {x y} hx hy h => ?_) hs)
    obtain ⟨a, t, rfl⟩ := hm x hx
    obtain ⟨b, u, rfl⟩ := hm y hy
    exact of_decide_eq_false (p := b.cps.toList < a.cps.toList) h
section
variable {X : Cx}
def rSortTx (K : PySem.W.Frag) : List V → Hp → VK → Prop := fun vs H Q => ∃ (a : Addr) (xs : List Str), vs = [V.ref a] ∧ SqL K H a (xs.map V.str) ∧
  ∀ (ys : List Str) (p : Addr), ys.Perm xs → Asc ys → H p = none → Q (.ref p) (upd H p (.lst (ys.map V.str)))
theorem cr_sortTx : CallR X (.builtin "sorted") (rSortTx X.K) := by
  intro pins s σ H vs us Q I r h
  obtain ⟨a, xs, rfl, hs, q⟩ := h
  obtain ⟨its, rv, hl, hz⟩ := I.list hs
  rw [Vals.ref1 r]
  have hi := rv.strs
  refine SrtO.sorted_ord swo_txt hl.isList (by rw [← rv.length]; exact hz) (fun h2 _ _ _ _ => txt_sortable hi h2) fun out h1 h2 => ?_
  obtain ⟨k1, k2, k3⟩ := txt_out hi h1 h2
  obtain ⟨ep, he'⟩ := sortedAll_at s.heap its out.toArray
  have hlen : ((out.map stOf).map V.str).length ≤ sizeLine := by
    rw [List.length_map, k2.length_eq]
    rw [List.length_map] at hz
    exact hz
  exact ⟨.ref _, upd H (s.heap.objs.size + 1) (.lst ((out.map stOf).map V.str)), I.laid (t' := s.toks) (fun _ _ => sortedAll_old) (Nat.le_succ _) ⟨hlen, out, ep, vals_of_strs k1, he'⟩, rfl, q _ _ k2 k3 (I.hok.fresh (Nat.le_succ _))⟩
theorem txs_of {K : KZ} {M : Mem} {H : Hp} : ∀ {vs : List V} (xs : List Str), Reps K M H vs (xs.map .str) → vs = xs.map .str
  | _, [], h => by cases h; rfl
  | _, x :: xs, h => by
    cases h with
    | cons r t =>
      cases r
      rw [txs_of xs t]
      rfl
theorem Reps.txs {K : KZ} {M : Mem} {H : Hp} : ∀ (xs : List Str), Reps K M H (xs.map .str) (xs.map .str)
  | [] => .nil
  | x :: xs => .cons (.str x) (Reps.txs xs)
/-- sorted(x), x a list of texts: a frozen one -/
def dSorted : DN := fun xs M R => ∃ x, ∃ zs : List Str, xs = [x] ∧ ListAt M x (zs.map .str) ∧ ∀ ys : List Str, ys.Perm zs → Asc ys → R (.lst (ys.map .str)) M
theorem cd_sorted : CallR X (.builtin "sorted") (liftN X.K dSorted) := cr_sortTx.weak fun xs H Q ⟨z, M, ds, R, A, r, ⟨x, zs, e, h, q⟩, F⟩ => by
  subst e
  cases r with
  | cons r rs =>
    cases rs
    obtain ⟨a, vs, rfl, hq, rv⟩ := rep_list A r h
    obtain rfl := txs_of zs rv
    exact ⟨a, zs, rfl, hq, fun ys p h1 h2 hp => F.lst A hp (Reps.txs ys) (q ys h1 h2)⟩
/-- the greatest of a list of integers -/
def dMaxL : DN := fun xs M R => ∃ x, ∃ ns : List Int, xs = [x] ∧ ListAt M x (ns.map .int) ∧ 0 < ns.length ∧ ∀ m, m ∈ ns → (∀ y ∈ ns, y ≤ m) → R (.int m) M
theorem cd_maxL (hc : X.calm = true) : CallR X (.builtin "max") (liftN X.K dMaxL) := (cr_max hc).weak fun xs H Q ⟨z, M, ds, R, A, r, ⟨x, ns, e, h, h0, q⟩, F⟩ => by
  subst e
  cases r with
  | cons r rs =>
    cases rs
    obtain ⟨a, vs, rfl, hq, rv⟩ := rep_list A r h
    obtain rfl := Reps.of_ints ns rv
    exact ⟨a, ns, rfl, hq, h0, fun m h1 h2 => F.at_ A (q m h1 h2) (.int _)⟩
/-- xs.extend(t), t a tuple -/
theorem ext_tup (l : Addr) (its : Array Value) (n : Nat) (b : Addr) (us : Array Value) (m : Nat) (dd : Option Addr) (sl : Array (Option Value)) (h0 : ¬(!its.isEmpty && Builtin.List.listTooLong (its.size + us.size)) = true) (h1 : its.size ≤ sizeLine) (h2 : its.size + us.size ≤ sizeLine + 1) :
    Meets (Builtin.«list.extend» ⟨[.ref l, .ref b], []⟩) (fun _ R s => s.heap.get? l = some { cls := .type "list", dict := none, data := .seq its n, slots := #[] } ∧ (s.heap.get? b = some { cls := .type "tuple", dict := dd, data := .seq us m, slots := sl }) ∧ R (.ok (.ret .none)) { s with heap := s.heap.update l (Obj.mapSeq (· ++ us)), toks := s.toks }) :=
  .of_wp fun prog w A R s h => by
    obtain ⟨hp, g, d, tk, os⟩ := s
    obtain ⟨hl, hb, h⟩ := h
    have f1 := AutoSeq1.idx_int
    have f2 := AutoSeq1.sub_tuple_tuple
    have f3 := AutoSeq1.sub_list_list
    have f4 := AutoSeq1.sub_tuple_list
    have f5 := AutoSeq1.sub_list_tuple
    have hz : (its ++ us).size ≤ sizeLine + 1 := by rw [Array.size_append]; exact h2
    wp_walk using (wpAny_updateSeq hl rfl (hz := h1) (_hz' := hz)), wpAny_loadPart' hl, wpAny_loadPart' hb
    exact ⟨_, rfl, h⟩
def rExtTup (K : PySem.W.Frag) : V → List V → Hp → VK → Prop := fun x vs H Q => ∃ l b xs zs, x = .ref l ∧ vs = [.ref b] ∧ H l = some (.lst xs) ∧ SqT K H b zs ∧ xs.length + zs.length ≤ sizeLine ∧ Q .non (upd H l (.lst (xs ++ zs)))
theorem mt_extTup : MtM X "list.extend" (rExtTup X.K) := by
  intro pins s σ H x vs v us Q I rx rv h
  obtain ⟨l, b, xs, zs, rfl, rfl, hH, hB, hz, q⟩ := h
  cases rx
  obtain ⟨u, rfl, ru⟩ := rv.one
  cases ru
  obtain ⟨z, its, n, r, hl, e⟩ := I.lstM hH
  obtain ⟨its2, r2, ⟨⟨cls2, dd2, data2, sl2⟩, e2, hc2, n2, hq2⟩, z2⟩ := I.tuple hB
  simp only at hc2 hq2
  subst hc2 hq2
  have l1 := r.length
  have l2 := r2.length
  have hsz : its.toArray.size + its2.toArray.size ≤ sizeLine := by rw [List.size_toArray, List.size_toArray]; omega
  have hlong : ¬ (!its.toArray.isEmpty && Builtin.List.listTooLong (its.toArray.size + its2.toArray.size)) = true := by
    rw [notLongL hsz, Bool.and_false]
    exact Bool.false_ne_true
  refine call_meets PySem.F.slot_list_extend ⟨_, e, rfl⟩ PySem.F.entry_list_extend (PySem.F.args_list_extend_2 _ _)
    (ext_tup l its.toArray n b its2.toArray n2 dd2 sl2 hlong (by rw [List.size_toArray]; omega) (by omega)) ⟨e, e2, ?_⟩
  refine ⟨.non, _, I.lset (its' := its ++ its2) hH e (by simp) (r.append r2) ?_, rfl, q⟩
  rw [List.length_append]
  omega
def dExtendT : DM := fun d xs M R => ∃ a ds es, d = .ref a ∧ xs = [.tup es] ∧ M a = some (.lst ds) ∧ ds.length + es.length ≤ sizeLine ∧ R .non (mset M a (.lst (ds ++ es)))
theorem md_extendT : MtR X "list.extend" (liftM X.K dExtendT) := mt_extTup.toR.weak fun x xs H Q ⟨z, M, d, ds, R, A, r1, r2, ⟨a, es, fs, e1, e2, hm, hl, q⟩, F⟩ => by
  subst e1 e2
  obtain rfl := rep_ref r1
  obtain ⟨vs, ea, rs⟩ := A.at_ _ _ hm
  cases r2 with
  | cons r2 r3 =>
    cases r3
    obtain ⟨b, us, rfl, h, rb⟩ := rep_tup r2
    exact ⟨a, b, vs, us, rfl, rfl, ea, h.sq, by rw [rs.length, rb.length]; exact hl, F.wrL A hm (rs.append rb) .non q⟩
def dEndswith : DM := fun d xs M R => ∃ a b, d = .str a ∧ xs = [.str b] ∧ R (.bl (Txt.endswith a b)) M
theorem md_endswith : MtR X "str.endswith" (liftM X.K dEndswith) := mt_endswith.weak fun x xs H Q ⟨z, M, d, ds, R, A, r1, r2, ⟨a, b, e1, e2, q⟩, F⟩ => by
  subst e1 e2
  obtain rfl := txs_of [b] r2
  exact ⟨a, b, rep_str r1, rfl, F.at_ A q (.bl _)⟩
end
end DL

set_option Elab.async false
set_option linter.all false
set_option maxHeartbeats 4000000
set_option maxRecDepth 100000
/-! D-layer, part 22: a text turned round; is not True. -/
namespace DL
open PySem PySem.Spec PyProof.Rows L2
theorem txt_back (z : Str) : (⟨((Builtin.Str.strSliceIndices none none (-1) z.length).filterMap (z.cps[·]?)).toArray⟩ : Str) = ⟨z.cps.toList.reverse.toArray⟩ := by
  have e : Builtin.Str.strSliceIndices none none (-1) z.length = (List.range z.cps.size).reverse := by
    show sliceRange ((z.cps.size : Int) - 1) (-1) (-1) = _
    rw [PySem.W.krv_sliceRange, PySem.W.krv_range]
  rw [e, List.filterMap_reverse, PySem.W.krv_all]
section
variable {X : Cx} {e : Expr} {pos : Pos}
def revS (z : Str) : Str := ⟨z.cps.toList.reverse.toArray⟩
theorem revS_len {z : Str} : (revS z).length = z.length := by
  show (z.cps.toList.reverse.toArray).size = z.cps.size
  simp
theorem revS_ascii {z : Str} (h : ascii z = true) : ascii (revS z) = true := by
  unfold ascii at *
  rw [List.all_eq_true] at h ⊢
  intro c hc
  exact h c (by simpa [revS] using hc)
def tRevTx (te : TE) : TE := fun σ H Q => te σ H fun x H1 => ∃ z : Str, x = .str z ∧ z.length ≤ sizeLine ∧ Q (.str (revS z)) H1
theorem pe_revTx {te : TE} {k : Nat} {p1 p2 p3 : Pos} (he : PE X e te) : PE X (.Subscript e (.Slice none none (some (.UnaryOp .USub (.Constant (.int 1) k p1) p2)) p3) pos) (tRevTx te) := by
  refine ⟨fun pins s σ H Q I h => ?_⟩
  refine Subscript_ (thn (he.run pins s σ H _ I h) fun v s1 ⟨x, H1, I1, r1, z, ex, hz, q⟩ => ?_)
  subst ex
  obtain ⟨t, rfl⟩ := r1
  have hst : PO X (some (.UnaryOp .USub (.Constant (.int 1) k p1) p2)) (tPart (tUn (rU fun i => .int (-i)) (tC (.int 1)))) := po_some (pe_un un_neg pe_int)
  refine wpAny_Slice (thn (po_none.run pins s1 σ H1 (fun o H2 => o = none ∧ H2 = H1) I1 ⟨rfl, rfl⟩) fun vl s2 ⟨l, H2, I2, pl, el, e2⟩ => ?_)
  subst el e2
  refine thn (po_none.run pins s2 σ H2 (fun o H3 => o = none ∧ H3 = H2) I2 ⟨rfl, rfl⟩) fun vu s3 ⟨u, H3, I3, pu, eu, e3⟩ => ?_
  subst eu e3
  refine thn (hst.run pins s3 σ H3 (fun o H4 => o = some (-1) ∧ H4 = H3) I3 ⟨1, rfl, -1, rfl, rfl, rfl⟩) fun vs s4 ⟨o, H4, I4, ps, eo, e4⟩ => ?_
  subst eo e4
  have I5 : Inv X pins σ H4 { s4 with heap := s4.heap.push { cls := .type "slice", data := .fields #[vl, vu, vs] } } := I4.kept (t' := s4.toks) fun b ob q => Heap.get?_push_of_some _ q
  obtain rfl : vl = .none := by cases pl; rfl
  obtain rfl : vu = .none := by cases pu; rfl
  obtain ⟨tk, rfl⟩ : ∃ tk, vs = .int (-1) tk := by cases ps; exact ⟨_, rfl⟩
  refine tail_any (ops := [.str z t, .ref s4.heap.objs.size]) (typeIs_str _ _ _) (PySem.F.slot_str_getitem.lookup) ?_ (by with_unfolding_all rfl)
  refine wpAny_getItem_str_slice (l := none) (u := none) (st := some (-1, tk)) ⟨_, Heap.get?_push_size _ rfl, rfl, rfl⟩ (by rfl) ?_
  show Made.post (Made.str ⟨((Builtin.Str.strSliceIndices none none (-1) z.length).filterMap (z.cps[·]?)).toArray⟩) (EP X pins σ Q) _
  rw [txt_back]
  refine ⟨?_, .str _, H4, I5.tok _, ⟨_, rfl⟩, q⟩
  show (revS z).length ≤ sizeLine
  rw [revS_len]
  exact hz
def dRevS (te : DE) : DE := fun ρ M R => te ρ M fun x M1 => ∃ z : Str, x = .str z ∧ z.length ≤ sizeLine ∧ R (.str (revS z)) M1
theorem de_revS {te : DE} {k : Nat} {p1 p2 p3 : Pos} (he : PED X e te) : PED X (.Subscript e (.Slice none none (some (.UnaryOp .USub (.Constant (.int 1) k p1) p2)) p3) pos) (dRevS te) :=
  (pe_revTx he).weak fun σ H Q ⟨z, ρ, M, R, S, A, q, F⟩ => ⟨z, ρ, M, _, S, A, q, fun x M1 v H1 ⟨y, e1, e2, q1⟩ r1 A1 f1 => by
    subst e1
    exact ⟨y, rep_str r1, e2, F _ _ _ _ q1 (.str _) A1 f1⟩⟩
/-- x is True, x is not True, x a truth -/
def dIsB : D2 := fun x y M R => ∃ c d, x = .bl c ∧ y = .bl d ∧ R (.bl (c == d)) M
def dNotB : D2 := fun x y M R => ∃ c d, x = .bl c ∧ y = .bl d ∧ R (.bl (c != d)) M
theorem op_isB : OpR X (compareOp .Is) (fun x y H Q => ∃ c d, x = .bl c ∧ y = .bl d ∧ Q (.bl (c == d)) H) := by
  intro pins s σ H x y v u Q I rx ry h
  obtain ⟨c, d, rfl, rfl, q⟩ := h
  cases rx
  cases ry
  exact is_bool (fin_bl I q rfl)
theorem op_notB : OpR X (compareOp .IsNot) (fun x y H Q => ∃ c d, x = .bl c ∧ y = .bl d ∧ Q (.bl (c != d)) H) := by
  intro pins s σ H x y v u Q I rx ry h
  obtain ⟨c, d, rfl, rfl, q⟩ := h
  cases rx
  cases ry
  exact isnot_bool (fin_bl I q rfl)
theorem od_isB : OpR X (compareOp .Is) (lift2 X.K dIsB) := op_isB.weak fun v u H Q ⟨z, M, x, y, R, A, rx, ry, ⟨c, d, e1, e2, q⟩, F⟩ => by
  subst e1 e2
  exact ⟨c, d, rep_bl rx, rep_bl ry, F.at_ A q (.bl _)⟩
theorem od_notB : OpR X (compareOp .IsNot) (lift2 X.K dNotB) := op_notB.weak fun v u H Q ⟨z, M, x, y, R, A, rx, ry, ⟨c, d, e1, e2, q⟩, F⟩ => by
  subst e1 e2
  exact ⟨c, d, rep_bl rx, rep_bl ry, F.at_ A q (.bl _)⟩
end
end DL

set_option Elab.async false
set_option linter.all false
set_option maxHeartbeats 4000000
set_option maxRecDepth 100000
/-! D-layer, part 23: a list of either kind and the empty list. -/
namespace DL
open PySem PySem.Spec PyProof.Rows L2
section
variable {X : Cx}
theorem nil_run {pins : List (Addr × Obj)} {s : Shared} {σ : L2.St} {H : Hp} {z : Addr → Prop} {M : Mem} {v u : V} {x : D} {ds : List D} {a b : Value} (hu : X.A.units + 64 < cLine) (I : Inv X pins σ H s) (A : MAbs ⟨X.K, z⟩ M H)
    (rv : RelV v a) (ru : RelV u b) (rx : Rep ⟨X.K, z⟩ M H v x) (ry : Rep ⟨X.K, z⟩ M H u (.lst [])) (h : ListAt M x ds) : SeqAt.RcAt X.A s a b ds.isEmpty ∧ SeqAt.RcNeAt X.A s a b (!ds.isEmpty) := by
  have hu0 : X.A.units < cLine := by omega
  obtain ⟨l, us, rfl, hr, rs⟩ := rep_list A rx h
  obtain ⟨l2, us2, rfl, hr2, rs2⟩ := rep_lst ry
  cases rv
  cases ru
  cases rs2
  obtain ⟨its, r1, p1, _⟩ := I.list hr
  obtain ⟨its2, r2, p2, _⟩ := I.list hr2.sq
  cases r2
  have e : its.length = ds.length := by rw [← r1.length]; exact rs.length
  cases ds with
  | nil =>
    cases rs
    cases r1
    constructor
    · simpa using SeqAt.RcAt.lists (e := fun _ => true) p1.isList p2.isList rfl hu0 fun j _ h2 => (Nat.not_lt_zero _ h2).elim
    · simpa using SeqAt.RcNeAt.lists (e := fun _ => true) p1.isList p2.isList rfl hu0 fun j _ h2 => (Nat.not_lt_zero _ h2).elim
  | cons d ds =>
    have hne : (its.toArray.size != ([] : List Value).toArray.size) = true := by
      rw [List.size_toArray, e]
      simp
    exact ⟨SeqAt.RcAt.lists_lengths p1.isList p2.isList hne hu0, SeqAt.RcNeAt.lists_lengths p1.isList p2.isList hne hu0⟩
def dEqL : D2 := fun x y M R => ∃ ds, ListAt M x ds ∧ y = .lst [] ∧ R (.bl ds.isEmpty) M
def dNeL : D2 := fun x y M R => ∃ ds, ListAt M x ds ∧ y = .lst [] ∧ R (.bl !ds.isEmpty) M
theorem od_eqL (hu : X.A.units + 64 < cLine) : OpR X (compareOp .Eq) (lift2 X.K dEqL) := by
  intro pins s σ H x y v u Q I rx ry ⟨z, M, dx, dy, R, A, r1, r2, ⟨ds, h, e, q⟩, F⟩
  subst e
  exact (nil_run hu I A rx ry r1 r2 h).1 _ _ _ _ ⟨.bl _, H, I, rfl, F.at_ A q (.bl _)⟩
theorem od_neL (hu : X.A.units + 64 < cLine) : OpR X (compareOp .NotEq) (lift2 X.K dNeL) := by
  intro pins s σ H x y v u Q I rx ry ⟨z, M, dx, dy, R, A, r1, r2, ⟨ds, h, e, q⟩, F⟩
  subst e
  exact (nil_run hu I A rx ry r1 r2 h).2 _ _ _ _ ⟨.bl _, H, I, rfl, F.at_ A q (.bl _)⟩
end
end DL

set_option Elab.async false
set_option linter.all false
set_option maxHeartbeats 4000000
set_option maxRecDepth 100000
/-! D-layer, part 24: a list's item is put, lists are joined into one that may change, a list again and again, the place in a tuple, a list extended by a frozen one, the keys of a dict in order. -/
namespace DL
open PySem PySem.Spec PyProof.Rows L2
section
variable {X : Cx}
/-- xs[i] = v -/
def dLPut (ta tb tv : DE) : DS := fun D0 ρ M => tv ρ M fun d M1 => ta ρ M1 fun x M2 => tb ρ M2 fun y M3 => ∃ (a : Addr) (ds : List D) (k : Int) (j : Nat), x = .ref a ∧ y = .int k ∧ M3 a = some (.lst ds) ∧ L2.ixN ds.length k = some j ∧ D0.nx ρ (mset M3 a (.lst (ds.set j d)))
theorem ds_lput {o i value : Expr} {ta tb tv : DE} {pos pos' : Pos} (ho : PED X o ta) (hi : PED X i tb) (hv : PED X value tv)
    (hs : swapsWithSole [.Subscript o i pos'] value pos.line X.env = pure false := by rfl) (hw : swappedStores [.Subscript o i pos'] value X.env = pure none := by rfl)
    (ha : ∀ v, assign (.Subscript o i pos') X.env v = (do
      let ov ← holding [v] (eval o X.env)
      let iv ← holding [v, ov] (eval i X.env)
      standAt pos'
      holding [v, ov, iv] (setItem ov iv v)
      release [v, ov, iv] []) := by intro _; rfl) : PSD X (.Assign [.Subscript o i pos'] value pos) (dLPut ta tb tv) :=
  (ps_asg hv (pg_sub ho hi set_list ha) hs hw).weak fun D σ H ⟨z, ρ, M, D0, S, A, q, L⟩ => ⟨z, ρ, M, _, S, A, q, fun d M1 v H1 q1 r1 A1 f1 => ⟨z, ρ, M1, _, S.fr f1, A1, q1, fun x M2 u H2 q2 r2 A2 f2 =>
    ⟨z, ρ, M2, _, S.fr (f1.trans f2), A2, q2, fun y M3 w H3 ⟨a, ds, k, j, ex, ey, em, hj, q3⟩ r3 A3 f3 => by
      subst ex ey
      obtain rfl := rep_int r3
      obtain rfl := rep_ref r2
      obtain ⟨vs, ea, rs⟩ := A3.at_ _ _ em
      have rv := r1.fr (f2.trans f3)
      refine ⟨a, vs, k, j, rfl, rfl, ea, by rw [rs.length]; exact hj, ?_⟩
      have fw : Frame M3 H3 (mset M3 a (.lst (ds.set j d))) (upd H3 a (.lst (vs.set j v))) := Frame.wr em
      exact L.nx _ _ _ _ q3 ((((S.fr f1).fr f2).fr f3).fr fw) (A3.wr em trivial ⟨_, upd_same, (rs.set j rv).fr fw⟩) (((f1.trans f2).trans f3).trans fw)⟩⟩⟩
/-- xs + ys, the new list one that may change -/
def dAddM : D2 := fun x y M R => ∃ xs ys, ListAt M x xs ∧ ListAt M y ys ∧ xs.length + ys.length ≤ sizeLine ∧ ∀ p, M p = none → R (.ref p) (mset M p (.lst (xs ++ ys)))
theorem od_addM : OpR X (binaryOp .Add) (lift2 X.K dAddM) := op_catL.weak fun v u H Q ⟨z, M, x, y, R, A, rx, ry, ⟨xs, ys, h1, h2, hl, q⟩, F⟩ => by
  obtain ⟨a, vs, rfl, ha, ra⟩ := rep_list A rx h1
  obtain ⟨b, us, rfl, hb, rb⟩ := rep_list A ry h2
  exact ⟨a, b, vs, us, rfl, rfl, ha, hb, by rw [ra.length, rb.length]; exact hl, fun p hp => F.lstM A hp (ra.append rb) (q p (A.free hp))⟩
/-- [..] * k, the left one fresh: a frozen list -/
def dRepL : D2 := fun x y M R => ∃ (a : Addr) (xs : List D) (k : Int), x = .ref a ∧ y = .int k ∧ M a = some (.lst xs) ∧ -(2 ^ 63) ≤ k ∧ k < 2 ^ 63 ∧ xs.length * k.toNat ≤ sizeLine ∧ R (.lst (List.replicate k.toNat xs).flatten) M
theorem od_repL : OpR X (binaryOp .Mult) (lift2 X.K dRepL) := op_rep.weak fun v u H Q ⟨z, M, x, y, R, A, rx, ry, ⟨a, xs, k, e1, e2, em, h1, h2, hl, q⟩, F⟩ => by
  subst e1 e2
  obtain rfl := rep_ref rx
  obtain ⟨vs, ea, rs⟩ := A.at_ _ _ em
  exact ⟨a, k, vs, rfl, rep_int ry, ea, h1, h2, by rw [rs.length]; exact hl, fun p hp => F.lst A hp (rs.rep _) q⟩
/-- t.index(x), texts -/
def dIndexT : DM := fun d xs M R => ∃ (ys : List Str) (z : Str) (j : Nat), d = .tup (ys.map .str) ∧ xs = [.str z] ∧ ys[j]? = some z ∧ (∀ m, m < j → ys[m]? ≠ some z) ∧ R (.int (j : Nat)) M
theorem md_indexT : MtR X "tuple.index" (liftM X.K dIndexT) := mt_tup_index.weak fun x xs H Q ⟨z, M, d, ds, R, A, r1, r2, ⟨ys, s, j, e1, e2, h1, h2, q⟩, F⟩ => by
  subst e1 e2
  obtain ⟨a, vs, rfl, h, rs⟩ := rep_tup r1
  obtain rfl := txs_of ys rs
  obtain rfl := txs_of [s] r2
  exact ⟨a, ys, s, j, rfl, rfl, h.sq, h1, h2, F.at_ A q (.int _)⟩
def tyTup (d : D) : Prop := ∃ ds, d = .tup ds
/-- sorted(d), d a dict with texts as keys -/
def dSortedK : DN := fun xs M R => ∃ x, ∃ zs : List Str, ∃ ds : List D, xs = [x] ∧ (x = .dct (zs.map .inr) ds ∨ ∃ a, x = .ref a ∧ M a = some (.dct (zs.map .inr) ds)) ∧ zs.length < 64 ∧ ∀ ys : List Str, ys.Perm zs → sortedS ys = true → R (.lst (ys.map .str)) M
theorem cd_sortedK (hc : X.calm = true) : CallR X (.builtin "sorted") (liftN X.K dSortedK) := (call_sortedD hc).weak fun xs H Q ⟨z, M, ds, R, A, r, ⟨x, zs, es, e, h, hl, q⟩, F⟩ => by
  subst e
  cases r with
  | cons r rs =>
    cases rs
    rcases h with rfl | ⟨a, rfl, em⟩
    · obtain ⟨a, kvs, rfl, ⟨h, _⟩, e1, _⟩ := rep_dct r
      exact ⟨a, kvs, zs, rfl, h, e1, hl, fun ys p h1 h2 hp => F.lst A hp (Reps.txs ys) (q ys h1 h2)⟩
    · obtain rfl := rep_ref r
      obtain ⟨kvs, ea, e1, _⟩ := A.at_ _ _ em
      exact ⟨a, kvs, zs, rfl, .inl ea, e1, hl, fun ys p h1 h2 hp => F.lst A hp (Reps.txs ys) (q ys h1 h2)⟩
/-- xs.extend(ys), ys any list -/
theorem ext_lst (l : Addr) (its : Array Value) (n : Nat) (b : Addr) (us : Array Value) (m : Nat) (dd : Option Addr) (sl : Array (Option Value)) (h0 : ¬(!its.isEmpty && Builtin.List.listTooLong (its.size + us.size)) = true) (h1 : its.size ≤ sizeLine) (h2 : its.size + us.size ≤ sizeLine + 1) :
    Meets (Builtin.«list.extend» ⟨[.ref l, .ref b], []⟩) (fun _ R s => s.heap.get? l = some { cls := .type "list", dict := none, data := .seq its n, slots := #[] } ∧ (s.heap.get? b = some { cls := .type "list", dict := dd, data := .seq us m, slots := sl }) ∧ R (.ok (.ret .none)) { s with heap := s.heap.update l (Obj.mapSeq (· ++ us)), toks := s.toks }) :=
  .of_wp fun prog w A R s h => by
    obtain ⟨hp, g, d, tk, os⟩ := s
    obtain ⟨hl, hb, h⟩ := h
    have f1 := AutoSeq1.idx_int
    have f2 := AutoSeq1.sub_tuple_tuple
    have f3 := AutoSeq1.sub_list_list
    have f4 := AutoSeq1.sub_tuple_list
    have f5 := AutoSeq1.sub_list_tuple
    have hz : (its ++ us).size ≤ sizeLine + 1 := by rw [Array.size_append]; exact h2
    wp_walk using (wpAny_updateSeq hl rfl (hz := h1) (_hz' := hz)), wpAny_loadPart' hl, wpAny_loadPart' hb
    exact ⟨_, rfl, h⟩
def rExtLst (K : PySem.W.Frag) : V → List V → Hp → VK → Prop := fun x vs H Q => ∃ l b xs zs, x = .ref l ∧ vs = [.ref b] ∧ H l = some (.lst xs) ∧ SqL K H b zs ∧ xs.length + zs.length ≤ sizeLine ∧ Q .non (upd H l (.lst (xs ++ zs)))
theorem mt_extLst : MtM X "list.extend" (rExtLst X.K) := by
  intro pins s σ H x vs v us Q I rx rv h
  obtain ⟨l, b, xs, zs, rfl, rfl, hH, hB, hz, q⟩ := h
  cases rx
  obtain ⟨u, rfl, ru⟩ := rv.one
  cases ru
  obtain ⟨z, its, n, r, hl, e⟩ := I.lstM hH
  obtain ⟨its2, r2, ⟨⟨cls2, dd2, data2, sl2⟩, n2, e2, hc2, hd2, hq2⟩, z2⟩ := I.list hB
  simp only at hc2 hd2 hq2
  subst hc2 hd2 hq2
  have l1 := r.length
  have l2 := r2.length
  have hsz : its.toArray.size + its2.toArray.size ≤ sizeLine := by rw [List.size_toArray, List.size_toArray]; omega
  have hlong : ¬ (!its.toArray.isEmpty && Builtin.List.listTooLong (its.toArray.size + its2.toArray.size)) = true := by
    rw [notLongL hsz, Bool.and_false]
    exact Bool.false_ne_true
  refine call_meets PySem.F.slot_list_extend ⟨_, e, rfl⟩ PySem.F.entry_list_extend (PySem.F.args_list_extend_2 _ _)
    (ext_lst l its.toArray n b its2.toArray n2 none sl2 hlong (by rw [List.size_toArray]; omega) (by omega)) ⟨e, e2, ?_⟩
  refine ⟨.non, _, I.lset (its' := its ++ its2) hH e (by simp) (r.append r2) ?_, rfl, q⟩
  rw [List.length_append]
  omega
def dExtendL : DM := fun d xs M R => ∃ a ds y es, d = .ref a ∧ xs = [y] ∧ M a = some (.lst ds) ∧ ListAt M y es ∧ ds.length + es.length ≤ sizeLine ∧ R .non (mset M a (.lst (ds ++ es)))
theorem md_extendL : MtR X "list.extend" (liftM X.K dExtendL) := mt_extLst.toR.weak fun x xs H Q ⟨z, M, d, ds, R, A, r1, r2, ⟨a, es, y, fs, e1, e2, hm, hy, hl, q⟩, F⟩ => by
  subst e1 e2
  obtain rfl := rep_ref r1
  obtain ⟨vs, ea, rs⟩ := A.at_ _ _ hm
  cases r2 with
  | cons r2 r3 =>
    cases r3
    obtain ⟨b, us, rfl, h, rb⟩ := rep_list A r2 hy
    exact ⟨a, b, vs, us, rfl, rfl, ea, h, by rw [rs.length, rb.length]; exact hl, F.wrL A hm (rs.append rb) .non q⟩
end
end DL

set_option Elab.async false
set_option linter.all false
set_option maxHeartbeats 4000000
set_option maxRecDepth 100000
/-! D-layer, part 25: for k in d, a dict that is a name's value. -/
namespace DL
open PySem PySem.Spec PyProof.Rows L2
def keyD : Key → D
  | .inl i => .int i
  | .inr s => .str s
section
variable {K : KZ} {M : Mem} {H H' : Hp} {a : Addr} {kvs : List (Key × V)} {o : Obj}
theorem rd_lock {b : Addr} {w : HO} (e : H a = some (.dK kvs)) (hb : Rd H b w) : Rd (upd H a (.frz o (.dK kvs))) b w := by
  by_cases h : b = a
  · subst h
    rcases hb with q | ⟨o', q⟩
    · rw [e] at q
      cases q
      exact .inr ⟨o, upd_same⟩
    · rw [e] at q
      cases q
  · unfold Rd
    rw [upd_ne h]
    exact hb
theorem rd_open {b : Addr} {w : HO} (e : H a = some (.frz o (.dK kvs))) (hb : Rd H b w) : w = .frz o (.dK kvs) ∧ b = a ∨ Rd (upd H a (.dK kvs)) b w := by
  by_cases h : b = a
  · subst h
    rcases hb with q | ⟨o', q⟩
    · rw [e] at q
      cases q
      exact .inl ⟨rfl, rfl⟩
    · rw [e] at q
      cases q
      exact .inr (.inl upd_same)
  · refine .inr ?_
    unfold Rd
    rw [upd_ne h]
    exact hb
theorem RdT.rd (h : ∀ b xs, Rd H b (.tup xs) → Rd H' b (.tup xs)) {b : Addr} {xs : List V} : RdT K M H b xs → RdT K M H' b xs
  | .inl ⟨r, n⟩ => .inl ⟨h _ _ r, n⟩
  | .inr k => .inr k
theorem RdL.rd (h : ∀ b xs, Rd H b (.lst xs) → Rd H' b (.lst xs)) {b : Addr} {xs : List V} : RdL K M H b xs → RdL K M H' b xs
  | .inl ⟨r, n, z⟩ => .inl ⟨h _ _ r, n, z⟩
  | .inr k => .inr k
/-- what may be read is what could be read -/
structure Same (H H' : Hp) : Prop where
  t : ∀ b xs, Rd H b (.tup xs) → Rd H' b (.tup xs)
  l : ∀ b xs, Rd H b (.lst xs) → Rd H' b (.lst xs)
  d : ∀ b xs, Rd H b (.dK xs) → Rd H' b (.dK xs)
  b : ∀ c u, Bx u → H c = some u → H' c = some u
theorem bx_dk {u : HO} {kvs : List (Key × V)} (h : Bx u) : u ≠ .dK kvs := fun z => by
  rcases h with ⟨_, e⟩ | ⟨_, e⟩ <;> (rw [e] at z; cases z)
theorem bx_frz {u v : HO} {o : Obj} (h : Bx u) : u ≠ .frz o v := fun z => by
  rcases h with ⟨_, e⟩ | ⟨_, e⟩ <;> (rw [e] at z; cases z)
theorem same_lock (e : H a = some (.dK kvs)) : Same H (upd H a (.frz o (.dK kvs))) := ⟨fun _ _ => rd_lock e, fun _ _ => rd_lock e, fun _ _ => rd_lock e, fun c u bx q => by
  rw [upd_ne fun z => by rw [z, e] at q; exact bx_dk bx (Option.some.inj q).symm]
  exact q⟩
theorem same_open (e : H a = some (.frz o (.dK kvs))) : Same H (upd H a (.dK kvs)) :=
  ⟨fun _ _ h => (rd_open e h).elim (fun ⟨q, _⟩ => nomatch q) id, fun _ _ h => (rd_open e h).elim (fun ⟨q, _⟩ => nomatch q) id, fun _ _ h => (rd_open e h).elim (fun ⟨q, _⟩ => nomatch q) id, fun c u bx q => by
  rw [upd_ne fun z => by rw [z, e] at q; exact bx_frz bx (Option.some.inj q).symm]
  exact q⟩
mutual
theorem Rep.same (f : Same H H') : ∀ {v : V} {d : D}, Rep K M H v d → Rep K M H' v d
  | _, _, .non => .non
  | _, _, .bl b => .bl b
  | _, _, .int i => .int i
  | _, _, .str x => .str x
  | _, _, .ty n => .ty n
  | _, _, .ref a => .ref a
  | _, _, .tup h r => .tup (h.rd f.t) (Reps.same f r)
  | _, _, .lst h r => .lst (h.rd f.l) (Reps.same f r)
  | _, _, .dct ⟨h, n, z⟩ e1 e2 r => .dct ⟨f.d _ _ h, n, z⟩ e1 e2 (Reps.same f r)
  | _, _, .box bx e n z r => .box bx (f.b _ _ bx e) n z (Reps.same f r)
theorem Reps.same (f : Same H H') : ∀ {vs : List V} {ds : List D}, Reps K M H vs ds → Reps K M H' vs ds
  | _, _, .nil => .nil
  | _, _, .cons r rs => .cons (Rep.same f r) (Reps.same f rs)
end
theorem SAbs.same (f : Same H H') : ∀ {ρ : DEnv} {σ : L2.St}, SAbs K M H ρ σ → SAbs K M H' ρ σ
  | _, _, .nil => .nil
  | _, _, .off t => .off (SAbs.same f t)
  | _, _, .on r t => .on (r.same f) (SAbs.same f t)
theorem MAbs.same {k : PySem.W.Frag} {z : Addr → Prop} (A : MAbs ⟨k, z⟩ M H) (f : Same H H') (n : M a = none) (h : ∀ b, b ≠ a → H' b = H b) (ha : ∃ u, H' a = some u) : MAbs ⟨k, z⟩ M H' := by
  have ne : ∀ {b o}, M b = some o → b ≠ a := fun e q => by rw [q, n] at e; cases e
  refine ⟨fun b o e => (A.at_ b o e).map (h b (ne e)) (fun ks c eo => ?_) (fun c u bx q n nz => ⟨f.b c u bx q, n, nz⟩) fun vs ds r => r.same f, A.out, fun b y => ?_⟩
  · subst eo
    exact h c (ne (A.deckAt e))
  · by_cases q : b = a
    · subst q; exact ha
    · obtain ⟨u, e⟩ := A.zat b y
      exact ⟨u, by rw [h b q]; exact e⟩
end
section
variable {X : Cx}
/-- a loop, its iterator at hand -/
theorem for_core {vs : List Nat} {g : DG} {tb : DS} {z : Addr → Prop} {ρ : DEnv} {σ : L2.St} {M : Mem} {H : Hp} {D0 : EndsD} {E0 : Ends} {J : It} {items : List D} {G : Mem → Prop} {W : Nat → DEnv → Mem → Prop} (S : SAbs ⟨X.K, z⟩ M H ρ σ) (A : MAbs ⟨X.K, z⟩ M H) (L : LSs ⟨X.K, z⟩ M H D0 E0 (Wn X)) (it : ItD ⟨X.K, z⟩ J items G M H)
    (w0 : W 0 ρ M) (ws : ∀ i d ρ2 M2, items[i]? = some d → W i ρ2 M2 → G M2 ∧ g d ρ2 fun ρ3 => tb { D0 with nx := W (i + 1), ct := W (i + 1), bk := D0.nx } ρ3 M2) (wd : ∀ ρ2 M2, W items.length ρ2 M2 → G M2 ∧ D0.nx ρ2 M2) :
    tFor (fun _ H R => R J H) (liftG X.K vs g) (liftS X.K (Wn X) tb) E0 σ H := by
  refine ⟨fun i m σ2 H2 => i ≤ items.length ∧ m = items.length - i ∧ ∃ ρ2 M2, SAbs ⟨X.K, z⟩ M2 H2 ρ2 σ2 ∧ MAbs ⟨X.K, z⟩ M2 H2 ∧ Frame M H M2 H2 ∧ W i ρ2 M2,
    ⟨items.length, Nat.zero_le _, rfl, ρ, M, S, A, Frame.refl, w0⟩, fun i m σ2 H2 ⟨hi, hm, ρ2, M2, S2, A2, f2, w2⟩ => ?_⟩
  by_cases hlt : i < items.length
  · have hd : items[i]? = some items[i] := List.getElem?_eq_getElem hlt
    obtain ⟨g2, q2⟩ := ws i _ ρ2 M2 hd w2
    obtain ⟨go, y⟩ := (it M2 H2 f2 A2 g2 i).2 _ hd
    refine .inr ⟨go, fun σ3 H3 => ∃ ρ3 M3, SAbs ⟨X.K, z⟩ M3 H3 ρ3 σ3 ∧ MAbs ⟨X.K, z⟩ M3 H3 ∧ Frame M H M3 H3 ∧ W (i + 1) ρ3 M3, fun σ3 H3 w3 => ⟨items.length - (i + 1), by omega, hlt, rfl, w3⟩, fun x H3 y3 => ?_⟩
    obtain ⟨rx, A3, f3⟩ := y x H3 y3
    have f4 := f2.trans f3
    refine ⟨z, ρ2, M2, _, _, S2.fr f3, A3, rx, q2, fun ρ4 σ4 q4 S4 _ => ⟨z, ρ4, M2, _, S4, A3, q4, ?_⟩⟩
    have again : LS ⟨X.K, z⟩ M2 H3 (W (i + 1)) fun σ3 H3 => ∃ ρ3 M3, SAbs ⟨X.K, z⟩ M3 H3 ρ3 σ3 ∧ MAbs ⟨X.K, z⟩ M3 H3 ∧ Frame M H M3 H3 ∧ W (i + 1) ρ3 M3 :=
      fun ρ5 M5 σ5 H5 w5 S5 A5 f5 => ⟨ρ5, M5, S5, A5, f4.trans f5, w5⟩
    exact ⟨again, L.rt.fr f4, L.nx.fr f4, again, L.xr.fr f4⟩
  · have e : i = items.length := by omega
    subst e
    obtain ⟨g2, q2⟩ := wd ρ2 M2 w2
    exact .inl ⟨(it M2 H2 f2 A2 g2 _).1 (Nat.le_refl _), L.nx ρ2 M2 σ2 H2 q2 S2 A2 f2⟩
theorem itd_keys {k : PySem.W.Frag} {z : Addr → Prop} {a : Addr} {o : Obj} {kvs : List (Key × V)} {M : Mem} {H : Hp} (e : H a = some (.frz o (.dK kvs))) (n : M a = none) : ItD ⟨k, z⟩ (Itk a o kvs) ((kvs.map (·.1)).map keyD) (fun _ => True) M H := fun M2 H2 f A _ i => by
  have e2 : H2 a = some (.frz o (.dK kvs)) := (f a (by rw [e]; exact nofun) n).1.trans e
  refine ⟨fun hi => ⟨e2, by simpa using hi⟩, fun d hd => ?_⟩
  rw [List.getElem?_map, List.getElem?_map] at hd
  cases hk : kvs[i]? with
  | none => rw [hk] at hd; cases hd
  | some p =>
    rw [hk] at hd
    obtain rfl : d = keyD p.1 := (Option.some.inj hd).symm
    refine ⟨⟨e2, (List.getElem?_eq_some_iff.mp hk).1⟩, fun x H3 ⟨eh, k', v, h1, h2⟩ => ?_⟩
    subst eh h2
    rw [hk] at h1
    cases h1
    refine ⟨?_, A, Frame.refl⟩
    cases k' with
    | inl i => exact .int i
    | inr s => exact .str s
/-- for k in d -/
def dForK (i : Nat) (g : DG) (tb : DS) : DS := fun D0 ρ M => ∃ (ks : List Key) (ds : List D), slot ρ i = some (.dct ks ds) ∧ ∃ W : Nat → DEnv → Mem → Prop, W 0 ρ M ∧
  (∀ i d ρ2 M2, (ks.map keyD)[i]? = some d → W i ρ2 M2 → g d ρ2 fun ρ3 => tb { D0 with nx := W (i + 1), ct := W (i + 1), bk := D0.nx, xr := fun _ _ _ _ _ => False } ρ3 M2) ∧ ∀ ρ2 M2, W ks.length ρ2 M2 → D0.nx ρ2 M2
theorem ps_either {st : Stmt} {t u : TS} (h : PS X st t) (h' : PS X st u) : PS X st (fun E σ H => t E σ H ∨ u E σ H) := ⟨fun pins s σ H E I q => q.elim (h.run pins s σ H E I) (h'.run pins s σ H E I)⟩
theorem ds_forK {vs : List Nat} {tg : Expr} {body : List Stmt} {x : Str} {p pos : Pos} {g : DG} {tb : DS} (i : Nat) (hp : PassesOwn (model X.prog X.w) X.A X.env X.xe) (hc : X.calm = true) (hg : PGD X vs tg g) (hb : PBD X body tb)
    (hN : X.N[i]? = some x := by rfl) (hv : Vis X.env.scope x := by first | exact Or.inl rfl | exact Or.inr (Or.inl rfl) | exact Or.inr (Or.inr rfl)) (hd : (x == ("__debug__" : Str)) = false := by decide)
    (hcd : (x == ("__classdict__" : Str)) = false := by decide) (hs : ∀ y, foldedSetIterable (.Name x p) X.env y = pure y := by intro _; rfl) : PSD X (.For tg (.Name x p) body [] pos) (dForK i g tb) := by
  have core := ps_for (pos := pos) hp hc (pi_keys (tg := tg) (pe_var (pos := p) hN hv hd hcd)) hg hb hs
  refine (ps_either (ps_lock core) core).weak fun E σ H ⟨z, ρ, M, D0, S, A, ⟨ks, ds, hslot, W, w0, ws, wd⟩, L⟩ => ?_
  obtain ⟨v, hσ, r⟩ := S.get hslot
  obtain ⟨a, kvs, rfl, ⟨hr, hM, hz⟩, e1, rs⟩ := rep_dct r
  subst e1
  have hl : ((kvs.map (·.1)).map keyD).length = (kvs.map (·.1)).length := by simp
  rcases hr with e | ⟨o, e⟩
  · refine .inl ⟨a, .dK kvs, e, trivial, fun od => ⟨.ref a, hσ, a, od, rfl, .inl ⟨kvs, upd_same, ?_⟩⟩⟩
    have sm : Same H (upd H a (.frz od (.dK kvs))) := same_lock e
    have A1 : MAbs ⟨X.K, z⟩ M (upd H a (.frz od (.dK kvs))) := A.same sm hM (fun b h => upd_ne h) ⟨_, upd_same⟩
    have back : ∀ {M2 : Mem} {H2 : Hp}, Frame M (upd H a (.frz od (.dK kvs))) M2 H2 → MAbs ⟨X.K, z⟩ M2 H2 → H2 a = some (.frz od (.dK kvs)) ∧ MAbs ⟨X.K, z⟩ M2 (upd H2 a (.dK kvs)) ∧ Frame M H M2 (upd H2 a (.dK kvs)) ∧ Same H2 (upd H2 a (.dK kvs)) := fun {M2 H2} f A2 => by
      obtain ⟨q1, q2⟩ := f a (by rw [upd_same]; exact nofun) hM
      rw [upd_same] at q1
      have so := same_open q1
      refine ⟨q1, A2.same so q2 (fun b h => upd_ne h) ⟨_, upd_same⟩, fun c hc hn => ?_, so⟩
      by_cases h : c = a
      · subst h
        exact ⟨by rw [upd_same]; exact e.symm, q2⟩
      · obtain ⟨y1, y2⟩ := f c (by rw [upd_ne h]; exact hc) hn
        rw [upd_ne h] at y1
        exact ⟨by rw [upd_ne h]; exact y1, y2⟩
    refine for_core (S.same sm) A1 (D0 := { D0 with xr := fun _ _ _ _ _ => False }) ⟨fun ρ2 M2 σ2 H2 p2 S2 A2 f2 => ?_, fun d M2 v H2 p2 r2 A2 f2 => ?_, fun ρ2 M2 σ2 H2 p2 S2 A2 f2 => ?_, fun ρ2 M2 σ2 H2 p2 S2 A2 f2 => ?_, fun _ _ _ _ _ _ _ _ _ h => h.elim⟩ (itd_keys upd_same hM) w0 (fun i d ρ2 M2 h w => ⟨trivial, ws i d ρ2 M2 h w⟩) fun ρ2 M2 w => ⟨trivial, wd ρ2 M2 (hl ▸ w)⟩
    · obtain ⟨b1, b2, b3, b4⟩ := back f2 A2
      exact ⟨b1, L.nx ρ2 M2 σ2 _ p2 (S2.same b4) b2 b3⟩
    · obtain ⟨b1, b2, b3, b4⟩ := back f2 A2
      exact ⟨b1, L.rt d M2 v _ p2 (r2.same b4) b2 b3⟩
    · obtain ⟨b1, b2, b3, b4⟩ := back f2 A2
      exact ⟨b1, L.bk ρ2 M2 σ2 _ p2 (S2.same b4) b2 b3⟩
    · obtain ⟨b1, b2, b3, b4⟩ := back f2 A2
      exact ⟨b1, L.ct ρ2 M2 σ2 _ p2 (S2.same b4) b2 b3⟩
  · refine .inr ⟨.ref a, hσ, a, o, rfl, .inl ⟨kvs, e, ?_⟩⟩
    exact for_core (D0 := { D0 with xr := fun _ _ _ _ _ => False }) S A ⟨L.nx, L.rt, L.bk, L.ct, fun _ _ _ _ _ _ _ _ _ h => h.elim⟩ (itd_keys e hM) w0 (fun i d ρ2 M2 h w => ⟨trivial, ws i d ρ2 M2 h w⟩) fun ρ2 M2 w => ⟨trivial, wd ρ2 M2 (hl ▸ w)⟩
end
end DL

set_option Elab.async false
set_option linter.all false
set_option maxHeartbeats 4000000
set_option maxRecDepth 100000
/-! D-layer, part 27: what may raise: calls, raise, try. -/
namespace DL
open PySem PySem.Spec PyProof.Rows L2

/-! ### expressions that may raise -/
abbrev XA := DEnv → Mem → (List D → Mem → Prop) → XD → Prop
def liftXA (K : PySem.W.Frag) (y : WN) (t : XA) : TA := fun σ H Q => ∃ z ρ M R XR, SAbs ⟨K, z⟩ M H ρ σ ∧ MAbs ⟨K, z⟩ M H ∧ t ρ M R XR ∧ FinA ⟨K, z⟩ M H R Q ∧ FinX ⟨K, z⟩ M H XR fun x dd H => y x dd σ H
abbrev PAXD (X : Cx) (es : List Expr) (t : XA) : Prop := PA X es (liftXA X.K (Wn X) t)
section
variable {X : Cx} {k n : Nat} {f : Addr} {fd : FuncData} {ps ks : List Str} {sp : SpD} {x : Str} {st : Stmt} {p pos : Pos} {e a b c : Expr} {es : List Expr} {kws : List Keyword} {t tk : DA} {te : DE} {tA : DT} {tx ux : DX} {txa : XA}
def xOf (t : DE) : DX := fun ρ M R _ => t ρ M R
theorem dx_of (h : PED X e te) : PEDX X e (xOf te) := h.weak fun σ H Q ⟨z, ρ, M, R, XR, S, A, q, F, _⟩ => ⟨z, ρ, M, R, S, A, q, F⟩
def xIf (t : DT) (ta tb : DX) : DX := fun ρ M R XR => t ρ M fun k M1 => if k = true then ta ρ M1 R XR else tb ρ M1 R XR
theorem dx_if (hc : PTD X c tA) (ha : PEDX X a tx) (hb : PEDX X b ux) : PEDX X (.IfExp c a b pos) (xIf tA tx ux) :=
  (pe_ifExp hc ha hb).weak fun σ H Q ⟨z, ρ, M, R, XR, S, A, q, F, G⟩ => ⟨z, ρ, M, _, S, A, q, fun k M1 H1 q1 A1 f1 => by
    cases k with
    | true => rw [if_pos rfl] at q1 ⊢; exact ⟨z, ρ, M1, R, XR, S.fr f1, A1, q1, F.fr f1, G.fr f1⟩
    | false => rw [if_neg Bool.false_ne_true] at q1 ⊢; exact ⟨z, ρ, M1, R, XR, S.fr f1, A1, q1, F.fr f1, G.fr f1⟩⟩
def xNil : XA := fun _ M R _ => R [] M
def xCons (ta : DX) (tr : XA) : XA := fun ρ M R XR => ta ρ M (fun x M1 => tr ρ M1 (fun xs M2 => R (x :: xs) M2) XR) XR
theorem xa_nil : PAXD X [] xNil := pa_nil.weak fun σ H Q ⟨z, ρ, M, R, XR, S, A, q, F, _⟩ => F [] M [] H q .nil A Frame.refl
theorem xa_cons (ha : PEDX X a tx) (hr : PAXD X es txa) (hs : starEach (a :: es) X.env = (false, eval a X.env) :: starEach es X.env := by rfl) : PAXD X (a :: es) (xCons tx txa) :=
  (pa_cons ha hr hs).weak fun σ H Q ⟨z, ρ, M, R, XR, S, A, q, F, G⟩ =>
    ⟨z, ρ, M, _, _, S, A, q, fun x M1 v H1 q1 r1 A1 f1 => ⟨z, ρ, M1, _, XR, S.fr f1, A1, q1, fun xs M2 vs H2 q2 r2 A2 f2 => F _ _ _ _ q2 (.cons (r1.fr f2) r2) A2 (f1.trans f2), G.fr f1⟩, G⟩
def xTup (t : XA) : DX := fun ρ M R XR => t ρ M (fun ds M1 => ds.length ≤ sizeLine ∧ R (.tup ds) M1) XR
theorem dx_tup {x1} (h : PAXD X es txa) : PEDX X (.Tuple es x1 pos) (xTup txa) :=
  (pe_tup h).weak fun σ H Q ⟨z, ρ, M, R, XR, S, A, q, F, G⟩ => ⟨z, ρ, M, _, XR, S, A, q, fun ds M1 vs H1 q1 r1 A1 f1 => ⟨by rw [r1.length]; exact q1.1, fun p hp => (F.fr f1).tup A1 hp r1 q1.2⟩, G⟩
/-! ### calls of defs that may raise -/
theorem run_fnX {pins : List (Addr × Obj)} {σ : L2.St} {H : Hp} {s : Shared} {Q : VK} {args : Args} {us : List Value} {vs : List V} {sp : Sp} (F : FnG X.prog X.w X.K X.mg X.base (L2.CX X.prog X.w) k f fd ps sp) (hr : Room k X.A) (hG : X.A.guards = some []) (hb : BindsTo s fd args (ps.zip us))
    (I : Inv X pins σ H s) (r : Vals vs us) (h : sp vs H Q (fun cls d H' => Wm X cls d σ H')) : codeAny (model X.prog X.w) X.A (.call (.ref f) args) (fun r s' => match r with | .ok (.ret u) => EP X pins σ Q u s' | .error e => X.xe e s' | _ => False) s := by
  refine codeAny_mono (F.run X.A X.stack s H args us vs Q _ hr hG I.env0 hb r h) fun r s' hq => ?_
  cases r with
  | error e => exact takes_wm _ _ (XE.of_call I (fun _ _ _ h => h) hq)
  | ok fl =>
    cases fl with
    | ret u => exact I.after hq
    | next => exact hq.elim
    | brk => exact hq.elim
    | cont => exact hq.elim
/-- f(..): what is asked -/
def xCall (sp : SpD) (t : DA) : DX := fun ρ M R XR => t ρ M fun ds M1 => sp ds M1 R XR
theorem lift_xcall {σ : L2.St} {H : Hp} {Q : VK} (h : liftX X.K (Wn X) (xCall sp t) σ H Q) : liftA X.K t σ H fun vs H1 => liftSp X.K X.mg sp vs H1 Q (fun cls d H' => Wm X cls d σ H') := by
  obtain ⟨z, ρ, M, R, XR, S, A, q, F, G⟩ := h
  exact ⟨z, ρ, M, _, S, A, q, fun ds M1 vs H1 q1 r1 A1 f1 => ⟨z, M1, ds, R, XR, A1, r1, q1, F.fr f1, G.fr f1⟩⟩
theorem dx_call (F : Has X.prog X.w X.K X.mg X.base (L2.CX X.prog X.w) x st ps k sp) (hr : Room k X.A) (hG : X.A.guards = some []) (hb : PosB x st ps) (ha : PAD X (e :: es) t) (hg : Gl X x := by rfl)
    (hdb : (x == ("__debug__" : Str)) = false := by decide) (he : starEach (e :: es) X.env = (false, eval e X.env) :: starEach es X.env := by rfl) (hpl : (backTo pos (starEach es X.env)).any (·.1) = false := by rfl) :
    PEDX X (.Call (.Name x p) (e :: es) [] pos) (xCall sp t) := by
  obtain ⟨f, fd, hm, Fn, G⟩ := F.ex
  refine ⟨fun pins s σ H Q I h => ?_⟩
  refine wpAny_Call_Name_kw (ld_glob I hg hm ?_ hdb)
  refine PySem.W.callWith_K (h₀ := X.base) I.ok.mod.kin Fn.kp (thn (ha.run pos pins s σ H _ I (lift_xcall h)) fun us s1 ⟨vs, H1, I1, r, q⟩ => ⟨I1.kIn, ?_⟩) he hpl
  have hl : us.length = ps.length := by rw [← r.length]; exact G.len _ _ _ _ q
  refine wpAny_call (codeAny_mono (run_fnX (args := ⟨us, []⟩) G hr hG ?_ I1 r q) fun r s' hq => ?_)
  · obtain ⟨oc, od, kV, doc, pm, an, cdv, ct, osl, rfl, _⟩ := Fn.ex
    exact .of_eq (hb _ _ _ _ _ _ _ hl)
  · cases r with
    | error e => exact hq
    | ok fl => cases fl <;> exact hq
def xCallK (sp : SpD) (n m : Nat) (is : List Nat) (t tk : DA) : DX := fun ρ M R XR => t ρ M fun ds M1 => tk ρ M1 fun es M2 => ds.length = n ∧ es.length = m ∧ sp (pick is (ds ++ es)) M2 R XR
/-- f(k = v, ..) -/
theorem dx_callK0 {is : List Nat} (F : Has X.prog X.w X.K X.mg X.base (L2.CX X.prog X.w) x st ps k sp) (hr : Room k X.A) (hG : X.A.guards = some []) (hb : KwB x st ps 0 ks is) (hkw : PKD X kws tk) (hg : Gl X x := by rfl)
    (hall : (backToKw pos (keywordEach kws X.env)).all (·.1.isSome) = true := by rfl) (hks : (backToKw pos (keywordEach kws X.env)).filterMap (·.1) = ks := by rfl) (hdb : (x == ("__debug__" : Str)) = false := by decide)
    (hpl : ((backTo pos (starEach [] X.env)).any (·.1) || (backToKw pos (keywordEach kws X.env)).any (·.1.isNone)) = false := by rfl) : PEDX X (.Call (.Name x p) [] kws pos) (xCallK sp 0 ks.length is dNil tk) := by
  obtain ⟨f, fd, hm, Fn, G⟩ := F.ex
  refine ⟨fun pins s σ H Q I h => ?_⟩
  obtain ⟨z, ρ, M, R, XR, S, A, q, F, FX⟩ := h
  refine wpAny_Call_Name_kw (ld_glob I hg hm ?_ hdb)
  refine PySem.W.callWith_KW0 (h₀ := X.base) I.ok.mod.kin Fn.kp hall (thn (hkw.run pos pins s σ H (fun zs H1 => zs.length = ks.length ∧ liftSp X.K X.mg sp (pick is zs) H1 Q (fun cls d H' => Wm X cls d σ H')) I
    ⟨z, ρ, M, _, S, A, q, fun es M1 zs H1 q1 r1 A1 f1 => ⟨r1.length.trans q1.2.1, z, M1, _, R, XR, A1, reps_of_paired (pick_paired (reps_at r1) is), q1.2.2, F.fr f1, FX.fr f1⟩⟩) fun ws s1 ⟨zs, H1, I1, rz, hl, q1⟩ => ⟨I1.kIn, ?_⟩) hpl
  rw [hks]
  refine wpAny_call (codeAny_mono (run_fnX (args := ⟨[] ++ [], ks.zip ws⟩) (us := pick is ws) G hr hG ?_ I1 (pick_paired (vals_at rz) is) q1) fun r s' hq => ?_)
  · obtain ⟨oc, od, kV, doc, pm, an, cdv, ct, osl, rfl, _⟩ := Fn.ex
    exact .of_eq (hb _ _ _ _ _ _ [] ws rfl (rz.length.symm.trans hl))
  · cases r with
    | error e => exact hq
    | ok fl => cases fl <;> exact hq
/-! ### statements -/
theorem LX.at_ {K : KZ} {M : Mem} {H : Hp} {P : Str → Str → D → DEnv → Mem → Prop} {y : WN} (L : LX K M H P y) {ρ : DEnv} {σ : L2.St} (S : SAbs K M H ρ σ) : FinX K M H (fun x f d M' => P x f d ρ M') fun x dd H' => y x dd σ H' :=
  fun x f d M' v dd H' p e n nz r A fr => L x f d ρ M' v dd σ H' p e n nz r (S.fr fr) A fr
def dRetX (t : DX) : DS := fun D ρ M => t ρ M D.rt fun x f d M' => D.xr x f d ρ M'
theorem ds_retX (he : PEDX X e tx) : PSD X (.Return (some e) pos) (dRetX tx) :=
  (ps_ret he).weak fun D σ H ⟨z, ρ, M, D0, S, A, q, L⟩ => ⟨z, ρ, M, _, _, S, A, q, L.rt, L.xr.at_ S⟩
def dDropX (t : DX) : DS := fun D ρ M => t ρ M (fun _ M1 => D.nx ρ M1) fun x f d M' => D.xr x f d ρ M'
theorem ds_exprX (he : PEDX X e tx) (hs : swapsWith e none pos.line X.env = pure false := by rfl) : PSD X (.Expr e pos) (dDropX tx) :=
  (ps_expr he hs).weak fun D σ H ⟨z, ρ, M, D0, S, A, q, L⟩ => ⟨z, ρ, M, _, _, S, A, q, fun d M1 v H1 q1 r1 A1 f1 => L.nx ρ M1 σ H1 q1 (S.fr f1) A1 f1, L.xr.at_ S⟩
/-- raise C(e) -/
def dRaise (x f : Str) (te : DE) : DS := fun D ρ M => te ρ M fun d M1 => D.xr x f d ρ M1
end
end DL
namespace L2
open PySem PySem.Spec PyProof.Rows
theorem relO_fl {fl : Str} {v : V} {v' : Value} (r : RelV v v') (f : Str) : RelO (List.lookup f [(fl, v)]) (if f = fl then some v' else none) := by
  by_cases hw : f = fl
  · subst hw
    rw [if_pos rfl]
    have q : List.lookup f [(f, v)] = some v := by simp [List.lookup]
    rw [q]
    exact r
  · rw [if_neg hw]
    have qw : (f == fl) = false := by simpa using hw
    have q2 : List.lookup f [(fl, v)] = none := by simp [List.lookup, qw]
    rw [q2]
    trivial
section
variable {X : Cx} {C fI : Addr} {nx q fl : Str}
/-- C(e) -/
def tMkE (C : Addr) (fl : Str) (te : TE) : St → Hp → XK → Prop := fun σ H Q => tCons te tNil σ H fun vs H1 => ∃ v, vs = [v] ∧ ∀ d, H1 d = none → Q (.ref C) (some d) (upd H1 d (.xd [(fl, v)]))
theorem pmk_err {a : Expr} {ta : TE} {p pos : Pos} {k : Nat} (ok : fl = "thing" ∨ fl = "at") (T : PySem.EyX.ErrTxt X.K X.mg nx q fl C fI) (hr : Room k X.A) (ha : PE X a ta) (hg : Gl X nx := by rfl) (hdb : (nx == ("__debug__" : Str)) = false := by decide)
    (he : starEach (a :: []) X.env = (false, eval a X.env) :: starEach [] X.env := by rfl) (hpl : (backTo pos (starEach [] X.env)).any (·.1) = false := by rfl) :
    PMk X (.Call (.Name nx p) [a] [] pos) (tMkE C fl ta) := by
  intro pins s σ H Q I h
  refine wpAny_Call_Name_kw (ld_glob I hg T.gC ?_ hdb)
  have hpa : PA X [a] (tCons ta tNil) := pa_cons ha pa_nil he
  refine PySem.W.callWith_K (h₀ := X.base) I.ok.mod.kin T.kC (thn (hpa.run pos pins s σ H _ I h) fun us s1 hh => ?_) he hpl
  obtain ⟨vs, H1, I1, r1, v, ev, q1⟩ := hh
  subst ev
  refine ⟨I1.kIn, ?_⟩
  cases r1 with
  | cons rv rn =>
    rename_i v' us'
    cases rn
    show wpAny _ _ (call (.ref C) [v']) _ _ _
    have hlim := I1.nolimit
    obtain ⟨hp, g, dr, tk, os⟩ := s1
    refine wpAny_call (PySem.EyX.err_made ok T I1.kIn hlim (by have := hr.dp; omega) fun h' tk' e d M => ?_)
    show MkP X pins σ Q (.ref e) ⟨h', g, dr, tk', os⟩
    obtain ⟨oe, fv, hoe, hc, hd, hdat, h1⟩ := M.obj
    have hns := M.ns
    obtain ⟨G', g1, g2⟩ := restrict h' fun b => decide (b ≠ e)
    have gk : ∀ b, b ≠ e → G'.get? b = h'.get? b := fun b hb => g1 b (decide_eq_true hb)
    have ge : G'.get? e = none := g2 e (by simp)
    have old : ∀ b o, hp.get? b = some o → G'.get? b = some o := fun b o q => (gk b (Nat.ne_of_lt (Nat.lt_of_lt_of_le (Heap.lt_size q) M.new))).trans (M.keep b o q)
    have ob : ObjOk X.prog X.w (upd H1 d (.xd [(fl, v)])) G' d (.xd [(fl, v)]) :=
      ⟨_, hns.at (fun o q => (gk d M.dne).trans q), fun f => relO_fl rv f⟩
    have J : Inv X pins σ (upd H1 d (.xd [(fl, v)])) ⟨G', g, dr, tk', os⟩ := I1.laid (t' := tk') old M.dbig ob
    refine ⟨e, oe, fv, ⟨G', g, dr, tk', os⟩, _, .ref C, some d, rfl, J, fun b o q => ?_, ge, hoe, ⟨hc, hd⟩, hdat, h1, ?_, rfl, I1.bare, raises_own T.exC T.tyC, q1 d (I1.hok.fresh M.dbig)⟩
    · by_cases hb : b = e
      · have q' : G'.get? b = some o := q
        rw [hb, ge] at q'; cases q'
      · exact (gk b hb).symm.trans q
    · rw [upd_ne (Ne.symm M.dne)]
      exact I1.hok.fresh M.new
end
end L2
namespace DL
open PySem PySem.Spec PyProof.Rows L2
section
variable {X : Cx} {k n : Nat} {x q fl : Str} {p pos pos2 : Pos} {e a b c : Expr} {ta te : DE}
theorem ds_raise (T : ∃ C fI q, PySem.EyX.ErrTxt X.K X.mg x q fl C fI) (ok : fl = "thing" ∨ fl = "at") (hc : X.calm = true) (hr : Room k X.A) (ha : PED X a ta) (hg : Gl X x := by rfl) (hdb : (x == ("__debug__" : Str)) = false := by decide)
    (he : starEach (a :: []) X.env = (false, eval a X.env) :: starEach [] X.env := by rfl) (hpl : (backTo pos (starEach [] X.env)).any (·.1) = false := by rfl) :
    PSD X (.Raise (some (.Call (.Name x p) [a] [] pos)) none pos2) (dRaise x fl ta) := by
  obtain ⟨C, fI, q, T⟩ := T
  refine (ps_raise hc takes_wm (pmk_err ok T hr ha hg hdb he hpl)).weak fun D σ H ⟨z, ρ, M, D0, S, A, q, L⟩ => ?_
  exact ⟨z, ρ, M, _, S, A, q, fun d M1 v H1 q1 r1 A1 f1 => ⟨v, rfl, fun dd hd => L.xr x fl d ρ M1 v dd σ _ q1 upd_same (A1.free hd) (A1.znew hd) (r1.fr (Frame.new hd)) ((S.fr f1).fr (Frame.new hd)) (A1.new hd) (f1.trans (Frame.new hd)) C T.gC⟩⟩
end
/-! ### a def that may raise -/
section
variable {P : Program} {w : World} {K : PySem.W.Frag} {mg : Str → Option Value} {base : Heap}
def endsX (K : PySem.W.Frag) (R : RK) (XR : XD) : EndsD := { endsOf K R with xr := fun x f d _ M => XR x f d M }
theorem has_ofX {x : Str} {st : Stmt} {N ps : List Str} {k : Nat} {sp : SpD} {t : DS} (F : ∃ (f : Addr) (fd : FuncData), mg x = some (.ref f) ∧ Fun K x x st f fd) (S : FnScope N ps (defScope st))
    (len : ∀ ds M R XR, sp ds M R XR → ds.length = ps.length)
    (hb : ∀ (f : Addr) (cdv : Value) (A : Around) (outer : List Env) (s : Shared) (H : Hp) (E : XK), Room k (A.deeper (envOfC x (defScope st) s.heap.objs.size f cdv)) → A.guards = some [] →
      PBD (cxOf (L2.CX P w) P w K mg base N x (defScope st) f cdv A outer s H E) (defBody st) t)
    (rd : ∀ ds M R XR, sp ds M R XR → t (endsX K R XR) (startD (N.length - ps.length) ds) M) : Has P w K mg base (L2.CX P w) x st ps (k + 1) sp := by
  obtain ⟨f, fd, hm, F⟩ := F
  have hlen : ∀ vs H Q E, liftSp K mg sp vs H Q E → vs.length = ps.length := fun vs H Q E ⟨z, M, ds, R, XR, A, r, q, _⟩ => r.length.trans (len _ _ _ _ q)
  refine ⟨f, fd, hm, F, fnG_of F S hlen fun cdv A outer s H vs Q E hr hG h => ?_⟩
  obtain ⟨z, M, ds, R, XR, A', r, q, FF, FX⟩ := h
  refine ⟨_, hb f cdv A outer s H E hr hG, z, startD (N.length - ps.length) ds, M, endsX K R XR, ?_, A', rd _ _ _ _ q, ⟨?_, FF.ends, fun _ _ _ _ z => z.elim, fun _ _ _ _ z => z.elim, ?_⟩⟩
  · have e : vs.length = ps.length := r.length.trans (len _ _ _ _ q)
    unfold L2.start startD
    rw [e]
    exact SAbs.start r _
  · intro ρ M1 σ1 H1 q1 S1 A1 f1
    exact FF.ends .non M1 .non H1 q1 .non A1 f1
  · intro x f d ρ M1 v dd σ1 H1 p e n nz r1 S1 A1 f1 C hC
    exact wm_of (takes_of rfl rfl rfl rfl) (FX x f d M1 v dd H1 p e n nz r1 A1 f1 C hC)
end
end DL

set_option Elab.async false
set_option linter.all false
set_option maxHeartbeats 4000000
set_option maxRecDepth 100000
/-! D-layer, part 28: try .. except C as e: .., several clauses; what a suite may ask of e. -/
namespace L2
open PySem PySem.Spec PyProof.Rows
/-- what the clauses 'except c as n' (slot i) wish of an exception of the body, one after the other -/
def wManyAs (K : PySem.W.Frag) (Wout : WX) (D : Ends) : List (Value × Nat × (Addr → Value → Option Addr → TS)) → WX
  | [] => Wout
  | (c, i, ts) :: r => fun cls d σ H => ∃ b, PySem.W.exmOne K cls c = some b ∧
      (b = true → ∀ a, H a = none → ts a cls d { nx := fun σ' H' => D.nx (σ'.set i none) H', rt := D.rt, bk := fun σ' H' => D.bk (σ'.set i none) H', ct := fun σ' H' => D.ct (σ'.set i none) H' } (σ.set i (some (.ref a))) H) ∧
      (b = false → wManyAs K Wout D r cls d σ H)
inductive HdsAs (X : Cx) : List ExceptHandler → List (Value × Nat × (Addr → Value → Option Addr → TS)) → Prop
  | nil : HdsAs X [] []
  | cons {x n : Str} {i : Nat} {c : Value} {ts : Addr → Value → Option Addr → TS} {b₀ : Stmt} {suite : List Stmt} {np pos' : Pos} {hds : List ExceptHandler} {l : List (Value × Nat × (Addr → Value → Option Addr → TS))} (hi : X.N[i]? = some n) (hln : X.env.kindOf n = some .local) (hc : Names X x c)
      (hsu : ∀ (a : Addr) (oe : Obj) (cls : Value) (d : Option Addr) (pn : List (Addr × Obj)), Zc cls d oe → (∃ vs, oe.data = .fields vs) → PSs (X.suite a ((a, oe) :: pn)) (b₀ :: suite) (ts a cls d)) (r : HdsAs X hds l) :
      HdsAs X (.ExceptHandler (some (.Name x np)) (some n) (b₀ :: suite) pos' :: hds) ((c, i, ts) :: l)
section
variable {X : Cx} {body : List Stmt} {h₀ : ExceptHandler} {hds : List ExceptHandler} {l : List (Value × Nat × (Addr → Value → Option Addr → TS))} {pos : Pos} {tb : WX → TS} {Wout : WX}
theorem ps_try_manyAs (hs : X.stack = X.env :: X.outer) (hf : X.env.frame = some X.env.locals) (hN : X.N.Nodup) (tk : Takes X Wout)
    (hb : ∀ (W : WX) (pn : List (Addr × Obj)) (xe : Value → Shared → Prop), Takes (X.tr pn xe) W → PassesOwn (model X.prog X.w) X.A X.env xe → PSs (X.tr pn xe) body (tb W))
    (hh : HdsAs X (h₀ :: hds) l) : PS X (.Try body (h₀ :: hds) [] [] pos) (fun D σ H => tb (wManyAs X.K Wout D l) D σ H) := by
  refine ⟨fun pins s σ H D I h => ?_⟩
  have ok := I.ok
  have hfr : X.A.frames = some (X.env :: X.outer) := by rw [ok.frames, hs]
  refine wpAny_Try_except ?_
  refine wpAny_mono ((hb (wManyAs X.K Wout D l) (X.pn ++ pins) (fun e s₁ => wpAny (model X.prog X.w) X.A (noteFrame e X.env) (fun _ s₂ => wpAny (model X.prog X.w) X.A (setFlight e none) (fun _ s₃ =>
    wpAny (model X.prog X.w) X.A (handleBy e X.env (h₀ :: hds)) (SP X pins D) X.xe s₃) X.xe s₂) X.xe s₁) (fun u s' xx => ?_) PassesOwn.looking).run [] s σ H D (I.toTry _) h) (fun f s1 hsp => ?_) (fun e s1 he => he)
  · -- the catch
    obtain ⟨a, B, sI, pins', σ', H', cls, d, rfl, J', nb, up, sky, na, os, ag, w⟩ := xx
    have J : Inv X pins σ' H' sI := J'.ofTry ok
    have sky' : Sky B (X.env :: X.outer) a (Zc cls d) X.env.locals s'.heap := by rw [← hs]; exact sky
    show wpAny (model X.prog X.w) X.A (noteFrame (.ref a) X.env) _ _ _
    refine Sky.land Zc.steady hfr hf sky' fun h3 fl3 up3 => ?_
    have J3 : Inv X pins σ' H' { s' with heap := h3 } := J.landed nb fl3.1 (up.trans up3) os ag
    obtain ⟨oe3, vs3, he3, hz3, hd3⟩ := fl3.there
    have notFr : ∀ {h : Heap} {o : Obj} {vs : Array Value}, h.FunFrames B (X.env :: X.outer) → h.get? a = some o → o.data = .fields vs → a ∉ frs (X.env :: X.outer) := fun {h o vs} ff e dd hm => by
      obtain ⟨_, o', e', hnf⟩ := ff.mem hm
      rw [e] at e'; cases e'
      exact hnf _ dd
    have nfr := notFr fl3.2.2.1 he3 hd3
    have nL : a ≠ X.env.locals := fun z => nfr (List.mem_filterMap.mpr ⟨X.env, List.mem_cons_self, by rw [hf, z]⟩)
    have nF : a ∉ X.fs := fun hm => by
      obtain ⟨e, he, q⟩ := List.mem_filterMap.mp hm
      exact nfr (List.mem_filterMap.mpr ⟨e, List.mem_cons_of_mem _ he, q⟩)
    have S3 := J3.suite he3 hd3 na nL nF
    have go : ∀ {hds' : List ExceptHandler} {l' : List (Value × Nat × (Addr → Value → Option Addr → TS))}, HdsAs X hds' l' → wManyAs X.K Wout D l' cls d σ' H' →
        wpAny (model X.prog X.w) X.A (handleBy (.ref a) X.env hds') (SP X pins D) X.xe { s' with heap := h3 } := by
      intro hds' l' hk
      induction hk with
      | nil =>
        intro w
        refine wpAny_handleBy_nil ?_
        obtain ⟨k1, k2, k3, oe, vs, T, oT, ts', he, hz, hd, h1, hr⟩ := id fl3
        unfold PySem.passOn
        refine wpAny_bind (wpAny_field he hd h1 ?_)
        rw [if_neg (show ¬ ((Value.ref T == Value.none) = true) from by simp)]
        have fin : wpAny (model X.prog X.w) X.A (setFlight (.ref a) X.env.frame) (fun _ s4 => wpAny (model X.prog X.w) X.A (throw (.ref a) : Sem Flow) (SP X pins D) X.xe s4) X.xe { s' with heap := h3 } := by
          rw [hf]
          refine HandSPX.setFlight_upZ fl3 fun h4 hh4 up4 => wpAny_throw (tk _ _ ?_)
          exact ⟨a, B, sI, pins, σ', H', cls, d, rfl, J, nb, (up.trans up3).trans up4, .inr (.inr (by rw [hs]; exact hh4)), na, os, ag, w⟩
        first
          | exact wpAny_bind (wpAny_pure (wpAny_bind fin))
          | exact wpAny_bind fin
      | @cons x n i c ts b₀ suite np pos' hds2 l2 hi hln hc hsu r ih =>
        intro w
        obtain ⟨b, hb1, hyes, hno⟩ := w
        have hloc : Loc X.env.scope n := .inl hln
        refine wpAny_handleBy_cons (codeAny_handlers_test ?_) (by intro q; cases q)
        have LT : PySem.W.Looks (model X.prog X.w) h3 (typeOf (.ref a)) cls := fun A Q E s k q => wpAny_typeOf_ref (k _ _ he3) (by rw [hz3.1]; exact q)
        have LM := PySem.W.exm_one (M := model X.prog X.w) (J3.kIn) LT hb1
        have test : ∀ {Q : Value → Shared → Prop} {E : Value → Shared → Prop}, Q c { s' with heap := h3 } → wpAny (model X.prog X.w) (X.A.mark (some (.ref a))) (eval (.Name x np) X.env) Q E { s' with heap := h3 } := fun {Q E} q => by
          obtain ⟨hg, hdbg, hm | ⟨hm, hv, hnn⟩⟩ := hc
          · exact ld_glob (X := X.suite a ((a, oe3) :: (X.pn ++ pins))) S3 hg hm q hdbg
          · exact ld_blt (X := X.suite a ((a, oe3) :: (X.pn ++ pins))) S3 hg hm hv q hnn hdbg
        refine test (LM.here ?_)
        cases b with
        | true =>
          refine codeAny_handlers_suite_as ?_
          refine HandSPX.lands_againZ fl3 fun h4 fl4 up4 => ?_
          have J4 : Inv X pins σ' H' { s' with heap := h4 } := J.landed nb fl4.1 ((up.trans up3).trans up4) os ag
          obtain ⟨oe4, vs4, he4, hz4, hd4⟩ := fl4.there
          have S4 := J4.suite he4 hd4 na nL nF
          refine store_ok (X := X.suite a ((a, oe4) :: (X.pn ++ pins))) (v := .ref a) S4 hN hi hloc rfl (fun s5 S5 => ?_) (.inr hln)
          refine wpAny_mono ((hsu a oe4 cls d (X.pn ++ pins) hz4 ⟨_, hd4⟩).run [] s5 _ H' _ S5 (hyes rfl a na)) (fun f s6 hsp => ?_) (fun _ _ z => False.elim z)
          have end_ : ∀ {σ6 : St} {H6 : Hp} {Q : Shared → Prop}, Inv (X.suite a ((a, oe4) :: (X.pn ++ pins))) [] σ6 H6 s6 → (∀ s7, Inv X pins (σ6.set i none) H6 s7 → Q s7) →
              wpAny (model X.prog X.w) X.A (do bindName X.env n .none; unbindBehindTheSuite X.env n pos') (fun _ s7 => Q s7) X.xe s6 := fun {σ6 H6 Q} S6 hq => gone_ok (S6.unsuite ok) hN hi hln hq
          cases f with
          | next =>
            obtain ⟨σ6, H6, S6, q6⟩ := hsp
            exact end_ S6 fun s7 J7 => ⟨_, _, J7, q6⟩
          | brk =>
            obtain ⟨σ6, H6, S6, q6⟩ := hsp
            exact end_ S6 fun s7 J7 => ⟨_, _, J7, q6⟩
          | cont =>
            obtain ⟨σ6, H6, S6, q6⟩ := hsp
            exact end_ S6 fun s7 J7 => ⟨_, _, J7, q6⟩
          | ret u =>
            obtain ⟨v6, σ6, H6, S6, r6, q6⟩ := hsp
            exact end_ S6 fun s7 J7 => ⟨_, _, _, J7, r6, q6⟩
        | false =>
          show wpAny _ X.A (handleBy (.ref a) X.env hds2) _ _ _
          exact ih (hno rfl)
    exact go hh w
  · cases f with
    | next =>
      obtain ⟨σ', H', J', q⟩ := hsp
      exact wpAny_execs_nil ⟨σ', H', J'.ofTry ok, q⟩
    | brk =>
      obtain ⟨σ', H', J', q⟩ := hsp
      exact ⟨σ', H', J'.ofTry ok, q⟩
    | cont =>
      obtain ⟨σ', H', J', q⟩ := hsp
      exact ⟨σ', H', J'.ofTry ok, q⟩
    | ret u =>
      obtain ⟨v, σ', H', J', r, q⟩ := hsp
      exact ⟨v, σ', H', J'.ofTry ok, r, q⟩
end
end L2
namespace DL
open PySem PySem.Spec PyProof.Rows L2
/-- what is written of a class x beside a class y: whether an instance of x is one of y -/
def ErrRel (K : PySem.W.Frag) (mg : Str → Option Value) (y x : Str) (b : Bool) : Prop :=
  ∃ C D, mg x = some (.ref C) ∧ mg y = some (.ref D) ∧ PySem.W.exmOne K (.ref C) (.ref D) = some b ∧ PySem.W.kitOne K (.ref C) (.ref D) = some b
/-- such a clause: y's table of the classes that may come, the slot, the suite's reading -/
structure Cl where
  tab : List (Str × Bool)
  i : Nat
  u : Str → Addr → Addr → DS
def xrOf (D0 : EndsD) : List Cl → Str → Str → D → DEnv → Mem → Prop
  | [] => D0.xr
  | c :: r => fun x f d ρ M => ∃ b, c.tab.lookup x = some b ∧
      (b = true → ∀ a dd v, M dd = none → c.u x a dd { nx := fun ρ' M' => D0.nx (ρ'.set c.i none) M', rt := D0.rt, bk := fun ρ' M' => D0.bk (ρ'.set c.i none) M', ct := fun ρ' M' => D0.ct (ρ'.set c.i none) M' } (put ρ c.i (.box a dd (.xd [(f, v)]) [v] [d])) M) ∧
      (b = false → xrOf D0 r x f d ρ M)
def dTry (t : DS) (cs : List Cl) : DS := fun D ρ M => t { D with xr := xrOf D cs } ρ M
/-- the suite's reading over the heap -/
def tsOf (X : Cx) (c : Cl) : Addr → Value → Option Addr → TS := fun a cls d D σ H => ∃ x C dd, cls = .ref C ∧ d = some dd ∧ X.mg x = some (.ref C) ∧ x ∈ c.tab.map (·.1) ∧ liftS X.K (fun _ _ _ _ => False) (c.u x a dd) D σ H
inductive ClsOk (X : Cx) : List ExceptHandler → List Cl → List Value → Prop
  | nil : ClsOk X [] [] []
  | cons {y n : Str} {i : Nat} {tab : List (Str × Bool)} {u : Str → Addr → Addr → DS} {b₀ : Stmt} {suite : List Stmt} {np pos' : Pos} {hds : List ExceptHandler} {l : List Cl} {cv : List Value} {D : Addr} (hi : X.N[i]? = some n) (hln : X.env.kindOf n = some .local) (hg : Gl X y) (hdb : (y == ("__debug__" : Str)) = false)
      (hD : X.mg y = some (.ref D)) (hr : ∀ p ∈ tab, ErrRel X.K X.mg y p.1 p.2)
      (hsu : ∀ (x : Str) (C dd a : Addr) (oe : Obj) (pn : List (Addr × Obj)), x ∈ tab.map (·.1) → X.mg x = some (.ref C) → Zc (.ref C) (some dd) oe → (∃ vs, oe.data = .fields vs) → PBD (X.suite a ((a, oe) :: pn)) (b₀ :: suite) (u x a dd)) (r : ClsOk X hds l cv) :
      ClsOk X (.ExceptHandler (some (.Name y np)) (some n) (b₀ :: suite) pos' :: hds) (⟨tab, i, u⟩ :: l) (.ref D :: cv)
theorem mem_of_look {x : Str} {b : Bool} : ∀ {tab : List (Str × Bool)}, tab.lookup x = some b → (x, b) ∈ tab
  | [], h => by cases h
  | (y, c) :: r, h => by
    by_cases e : x = y
    · subst e
      rw [List.lookup_cons_self] at h
      cases h
      exact List.mem_cons_self
    · have : (x == y) = false := by simpa using e
      simp only [List.lookup, this] at h
      exact List.mem_cons_of_mem _ (mem_of_look h)
theorem liftS_imp {K : PySem.W.Frag} {y y' : WN} {t : DS} {D : Ends} {σ : L2.St} {H : Hp} (h : liftS K y t D σ H) (w : ∀ x dd σ H, y x dd σ H → y' x dd σ H) : liftS K y' t D σ H := by
  obtain ⟨z, ρ, M, D0, S, A, q, L⟩ := h
  exact ⟨z, ρ, M, D0, S, A, q, L.nx, L.rt, L.bk, L.ct, fun x f d ρ' M' v dd σ' H' p e n nz r S' A' fr => w _ _ _ _ (L.xr x f d ρ' M' v dd σ' H' p e n nz r S' A' fr)⟩
section
variable {X : Cx} {body : List Stmt} {h₀ : ExceptHandler} {hds : List ExceptHandler} {l : List Cl} {cv : List Value} {pos : Pos} {t : DS}
theorem ClsOk.toHds {hds : List ExceptHandler} {l : List Cl} {cv : List Value} (h : ClsOk X hds l cv) : HdsAs X hds ((cv.zip l).map fun p => (p.1, p.2.i, tsOf X p.2)) := by
  induction h with
  | nil => exact .nil
  | cons hi hln hg hdb hD hr hsu r ih =>
    refine .cons hi hln ⟨hg, hdb, .inl hD⟩ (fun a oe cls d pn hz hf => ⟨fun pins s σ H D I hts => ?_⟩) ih
    obtain ⟨x, C, dd, rfl, rfl, hm, hx, hl⟩ := hts
    exact (hsu x C dd a oe pn hx hm hz hf).run pins s σ H D I (liftS_imp hl fun _ _ _ _ h => h.elim)
/-- what the clauses wish, told by the reading -/
theorem ClsOk.wish {K : PySem.W.Frag} {hds : List ExceptHandler} {l : List Cl} {cv : List Value} (h : ClsOk X hds l cv) {z : Addr → Prop} {D0 : EndsD} {D : Ends} {M0 : Mem} {H0 : Hp} (L : LSs ⟨X.K, z⟩ M0 H0 D0 D (Wn X)) :
    LX ⟨X.K, z⟩ M0 H0 (xrOf D0 l) fun x dd σ H => ∀ C, X.mg x = some (.ref C) → wManyAs X.K (Wm X) D ((cv.zip l).map fun p => (p.1, p.2.i, tsOf X p.2)) (.ref C) (some dd) σ H := by
  induction h with
  | nil => exact fun x f d ρ M v dd σ H p e n nz r S A fr C hC => L.xr x f d ρ M v dd σ H p e n nz r S A fr C hC
  | @cons y n i tab u b₀ suite np pos' hds l cv Dc hi hln hg hdb hD hr hsu r0 ih =>
    intro x f d ρ M v dd σ H p e n nz r S A fr C hC
    obtain ⟨b, hb, hy, hn⟩ := p
    have hmem := mem_of_look hb
    obtain ⟨C', D', h1, h2, h3, h4⟩ := hr _ hmem
    rw [hC] at h1
    rw [hD] at h2
    cases h1
    cases h2
    refine ⟨b, h3, fun hb' a na => ?_, fun hb' => ih x f d ρ M v dd σ H (hn hb') e n nz r S A fr C hC⟩
    refine ⟨x, C, dd, rfl, rfl, hC, List.mem_map.mpr ⟨_, hmem, rfl⟩, z, _, M, _, S.put i (.box (.inl ⟨_, rfl⟩) e n nz (.cons r .nil)), A, hy hb' a dd v n, ⟨?_, L.rt.fr fr, ?_, ?_, fun _ _ _ _ _ _ _ _ _ h => h.elim⟩⟩
    · exact fun ρ' M' σ' H' p' S' A' f' => L.nx _ M' _ H' p' (S'.un i) A' (fr.trans f')
    · exact fun ρ' M' σ' H' p' S' A' f' => L.bk _ M' _ H' p' (S'.un i) A' (fr.trans f')
    · exact fun ρ' M' σ' H' p' S' A' f' => L.ct _ M' _ H' p' (S'.un i) A' (fr.trans f')
theorem ds_try (hs : X.stack = X.env :: X.outer) (hf : X.env.frame = some X.env.locals) (hN : X.N.Nodup)
    (hb : ∀ (pn : List (Addr × Obj)) (xe : Value → Shared → Prop), PassesOwn (model X.prog X.w) X.A X.env xe → PBD (X.tr pn xe) body t)
    (hh : ClsOk X (h₀ :: hds) l cv) : PSD X (.Try body (h₀ :: hds) [] [] pos) (dTry t l) :=
  (ps_try_manyAs (tb := fun W => liftS X.K (fun x dd σ H => ∀ C, X.mg x = some (.ref C) → W (.ref C) (some dd) σ H) t) hs hf hN takes_wm
    (fun W pn xe tk hp => ⟨fun pins s σ H D I h => (hb pn xe hp).run pins s σ H D I (liftS_imp h fun x dd σ H q C hC => wm_of tk (q C hC))⟩) hh.toHds).weak
    fun D σ H ⟨z, ρ, M, D0, S, A, q, L⟩ => ⟨z, ρ, M, _, S, A, q, L.nx, L.rt, L.bk, L.ct, hh.wish (K := X.K) L⟩
end
/-! ### what a suite asks of e -/
section
variable {X : Cx} {x f y : Str} {C dd a : Addr} {oe : Obj} {pn : List (Addr × Obj)} {e : Expr} {te : DE} {pos p p2 : Pos} {xs : List Str} {tab : List (Str × Bool)}
/-- e.f -/
def dXf (a dd : Addr) (f : Str) (te : DE) : DE := fun ρ M R => te ρ M fun y M1 => ∃ v d, y = .box a dd (.xd [(f, v)]) [v] [d] ∧ R d M1
theorem de_xf (T : ∀ x ∈ xs, ∃ C fI q, PySem.EyX.ErrTxt X.K X.mg x q f C fI) (hx : x ∈ xs) (hm : X.mg x = some (.ref C)) (hz : Zc (.ref C) (some dd) oe) (hf : ∃ vs, oe.data = .fields vs) (he : PED (X.suite a ((a, oe) :: pn)) e te)
    (hb : attributeBase e f X.env (eval e X.env) = eval e X.env := by rfl) : PED (X.suite a ((a, oe) :: pn)) (.Attribute e f pos) (dXf a dd f te) := by
  obtain ⟨C', fI, q, T⟩ := T x hx
  have hC := T.gC
  rw [hm] at hC
  cases hC
  refine (pe_xf (X := X) ⟨T.ga, T.gg, T.exC, T.hdC⟩ T.noN hz hf he hb).weak fun σ H Q ⟨z, ρ, M, R, S, A, q, F⟩ => ?_
  refine ⟨z, ρ, M, _, S, A, q, fun y M1 v H1 ⟨v', d, e, q1⟩ r1 A1 f1 => ?_⟩
  subst e
  cases r1 with
  | box bx h n nz rs =>
    cases rs with
    | cons r rs =>
      exact ⟨rfl, rfl, dd, _, _, rfl, h, by simp [List.lookup], F d M1 _ H1 q1 r A1 f1⟩
/-- isinstance(e, y) -/
def dIsE (tab : List (Str × Bool)) (x : Str) (a dd : Addr) (te : DE) : DE := fun ρ M R => te ρ M fun d M1 => ∃ b u vs ds, tab.lookup x = some b ∧ d = .box a dd u vs ds ∧ (∃ fs, u = .xd fs) ∧ R (.bl b) M1
/-- the rule over the heap -/
def rIsX (K : PySem.W.Frag) (C a dd : Addr) : List V → Hp → VK → Prop := fun xs H Q => ∃ (c : V) (cv : Value) (b : Bool) (fs : List (Str × V)), xs = [.ref a, c] ∧ (∀ u, RelV c u → u = cv) ∧ H dd = some (.xd fs) ∧ PySem.W.kitOne K (.ref C) cv = some b ∧ Q (.bl b) H
theorem call_isX {nx q fl : Str} {fI : Addr} (T : PySem.EyX.ErrTxt X.K X.mg nx q fl C fI) (hn : PySem.W.specialIn X.K (.builtin "object.__class__") "__get__" = some (some (.builtin "getset_descriptor.__get__"))) (ht : PySem.W.takesIn X.K (.builtin "object.__class__") = some true) (hz : Zc (.ref C) (some dd) oe) (hf : ∃ vs, oe.data = .fields vs) :
    CallR (X.suite a ((a, oe) :: pn)) (.builtin "isinstance") (rIsX X.K C a dd) := by
  intro pins s σ H xs us Q I r h
  obtain ⟨c, cv, b, fs, rfl, hcv, hd, e, q⟩ := h
  cases r with
  | cons rx rr =>
    cases rr with
    | cons rt rr =>
      cases rr
      cases rx
      have ec := hcv _ rt
      subst ec
      obtain ⟨hget, _⟩ := I.pin (a, oe) (List.mem_append.mpr (.inl List.mem_cons_self))
      obtain ⟨vs, hv⟩ := hf
      have hx : ObjOk X.prog X.w H s.heap dd (.xd fs) := I.hok dd _ hd
      obtain ⟨mA, hns, hr⟩ := hx
      obtain ⟨od, ho, hl⟩ := lookIn_ns hns
      have J : PySem.W.InstAt s.heap a oe C (some od) := ⟨hget, hz.1, by unfold PySem.W.notCls; rw [hv] <;> rfl, by rw [hz.2]; exact ho⟩
      exact PySem.W.kia_one (PySem.EyX.kitx_excD T.ga T.gg T.exC T.hdC T.acl hn ht T.mob) I.kIn ⟨_, J⟩ e (fun z => nomatch z) fun tk => ⟨.bl b, H, I.kept (t' := tk) fun _ _ z => z, rfl, q⟩
theorem de_isE (Ti : ∀ x ∈ xs, ∃ C fI q f, PySem.EyX.ErrTxt X.K X.mg x q f C fI) (hn : PySem.W.specialIn X.K (.builtin "object.__class__") "__get__" = some (some (.builtin "getset_descriptor.__get__"))) (ht : PySem.W.takesIn X.K (.builtin "object.__class__") = some true)
    (hr : ∀ p ∈ tab, ErrRel X.K X.mg y p.1 p.2) (hi : X.mg "isinstance" = none) (hx : x ∈ xs) (hm : X.mg x = some (.ref C)) (hz : Zc (.ref C) (some dd) oe) (hf : ∃ vs, oe.data = .fields vs) {D : Addr} (hD : X.mg y = some (.ref D)) (he : PED (X.suite a ((a, oe) :: pn)) e te)
    (hg : Gl (X.suite a ((a, oe) :: pn)) "isinstance" := by rfl) (hgy : Gl (X.suite a ((a, oe) :: pn)) y := by rfl) (hdy : (y == ("__debug__" : Str)) = false := by decide)
    (hse : starEach (e :: [.Name y p2]) X.env = (false, eval e X.env) :: starEach [.Name y p2] X.env := by rfl) (hse2 : starEach [.Name y p2] X.env = (false, eval (.Name y p2) X.env) :: starEach [] X.env := by rfl)
    (hpl : (backTo pos (starEach [.Name y p2] X.env)).any (·.1) = false := by rfl) :
    PED (X.suite a ((a, oe) :: pn)) (.Call (.Name "isinstance" p) [e, .Name y p2] [] pos) (dIsE tab x a dd te) := by
  obtain ⟨C', fI, q, f, T⟩ := Ti x hx
  have hC := T.gC
  rw [hm] at hC
  cases hC
  have hy : PE (X.suite a ((a, oe) :: pn)) (.Name y p2) (tC (.ref D)) := pe_glob hgy hD rfl hdy
  have hpa : PA (X.suite a ((a, oe) :: pn)) [e, .Name y p2] _ := pa_cons he (pa_cons hy pa_nil hse2) hse
  refine (pe_callB (call_isX T hn ht hz hf) hg hi (by decide +kernel) hpa (by decide) (by decide) hse hpl).weak fun σ H Q ⟨z, ρ, M, R, S, A, q, F⟩ => ?_
  refine ⟨z, ρ, M, _, S, A, q, fun d M1 v H1 ⟨b, u, vs, ds, hl, e, ⟨fs, eu⟩, q1⟩ r1 A1 f1 => ?_⟩
  subst e
  subst eu
  obtain ⟨C2, D2, h1, h2, h3, h4⟩ := hr _ (mem_of_look hl)
  rw [hm] at h1
  rw [hD] at h2
  cases h1
  cases h2
  cases r1 with
  | box bx h n nz rs =>
    exact ⟨.ref D, .ref D, b, fs, rfl, fun u ru => ru, h, h4, F _ M1 _ H1 q1 (.bl b) A1 f1⟩
end
end DL

set_option Elab.async false
set_option linter.all false
set_option maxHeartbeats 4000000
set_option maxRecDepth 100000
/-! D-layer, part 29: a lambda without parameters handed to a def that calls it. -/
namespace LamX
open PySem PySem.Spec PyProof.Rows L2
/-- the table at P tells code objects of the name q, at addresses that are G -/
def TabG (H : Hp) (P : Addr) (q : Str) (G : Addr → Prop) : Prop := ∃ ps : Array Value, H P = some (.tbl ps) ∧ TriplesOk ps.toList ∧ ∀ (pos : Pos) (cv : Value), codeAmong pos ps.toList = some cv → ∃ c, cv = .ref c ∧ H c = some (CodeO c q) ∧ G c
section
variable {X : Cx} {pins : List (Addr × Obj)} {σ : L2.St} {H : Hp} {s : Shared}
theorem lam_make3 {c P : Addr} {params : Arguments} {body : Expr} {scope : Scope} {pos : Pos} {G : Addr → Prop} {E : Value → Shared → Prop} {Q : Value → Shared → Prop} (I : Inv X pins σ H s) (TB : TabB X.base X.mg c P) (hcode : X.env.code = .ref c)
    (hT : TabG H P (X.env.qual ++ "<lambda>") G) (hG : ∀ c, H c = none → G c) (hdef : defaultsOf params X.env = ([], [])) (hfree : ∀ y ∈ scope.names, y.2 = .free → ∃ c, X.env.cells.lookup y.1 = some c)
    (h : ∀ (f c' : Addr) (pm ctv : Value) (H1 : Hp) (s' : Shared), Inv X pins σ H1 s' → (∀ b o, b ≠ P → H b = some o → H1 b = some o) → TabG H1 P (X.env.qual ++ "<lambda>") G →
      s'.heap.get? f = some (PySem.W.kla_obj "<lambda>" (X.env.qual ++ "<lambda>") params body scope (cloFrom X.env.cells scope.names []) pm c' ctv) → H1 f = none → f ∉ frs X.stack → H1 c' = some (CodeO c' (X.env.qual ++ "<lambda>")) → G c' → Q (.ref f) s') :
    wpAny (model X.prog X.w) X.A (eval (.Lambda params body scope pos) X.env) Q E s := by
  obtain ⟨ps, hP, ht, ha⟩ := hT
  refine PySem.W.kla_eval hdef ?_
  have bP : s.heap.BuiltinsAt X.mg P := TB.bm.keeps I.bk
  have hP' : s.heap.get? P = some { cls := .none, data := .fields ps } := I.hok P _ hP
  have nofr : ∀ f, s.heap.objs.size ≤ f → f ∉ frs X.stack := fun f hf z => by
    rcases List.mem_cons.mp (I.stkSub _ z) with e | e
    · have h1 := I.lt
      rw [← e] at h1
      exact Nat.lt_irrefl _ (Nat.lt_of_lt_of_le h1 hf)
    · exact I.nofs hf e
  cases hc : codeAmong pos ps.toList with
  | none =>
    refine PySem.W.kla_makeFunction (mg := X.mg) (c := c) (P := P) (ps := ps) (closure_ok hfree) I.ok.glob (I.mod.glob.keeps I.bk) hcode (TB.code.keeps I.bk) hP' ht hc TB.gP bP fun c' ctv h' tk hx hge hlt hrec htb => ?_
    obtain ⟨c2, oc, vs, t, e2, hoc, hd, hv⟩ := hrec
    cases e2
    have hsz : s.heap.objs.size ≤ h'.objs.size := Nat.le_trans hge (Nat.le_of_lt hlt)
    have nC : H c' = none := I.hok.fresh hge
    have I1 := inv_table (t' := tk) (more := #[rawInt pos.line, rawInt pos.col, .ref c']) (h' := h'.push (PySem.W.kla_obj "<lambda>" (X.env.qual ++ "<lambda>") params body scope (cloFrom X.env.cells scope.names []) ((X.mg "__name__").getD .none) c' ctv)) I hP
      (fun b o hb e => Heap.get?_push_of_some _ (hx b o hb e)) (Heap.get?_push_of_some _ htb) hge ⟨oc, vs, t, Heap.get?_push_of_some _ hoc, hd, hv⟩
    have hE : ∀ b o, b ≠ P → H b = some o → (upd (upd H P (.tbl (ps ++ #[rawInt pos.line, rawInt pos.col, .ref c']))) c' (CodeO c' (X.env.qual ++ "<lambda>"))) b = some o := fun b o n e => by
      rw [upd_ne (ne_of_none e nC), upd_ne n]
      exact e
    have eL : (ps ++ #[rawInt pos.line, rawInt pos.col, .ref c']).toList = ps.toList ++ [rawInt pos.line, rawInt pos.col, .ref c'] := by simp
    refine h h'.objs.size c' ((X.mg "__name__").getD .none) ctv _ _ I1 hE ?_ (Heap.get?_push_size _ rfl) ?_ (nofr _ hsz) upd_same (hG c' nC)
    · refine ⟨_, by rw [upd_ne (ne_of_none hP nC), upd_same], by rw [eL]; exact PySem.TriplesOk_snoc _ _ _ _ ht, fun p' cv hcv => ?_⟩
      rw [eL] at hcv
      rcases among_app _ ht hcv with z | z
      · obtain ⟨c0, e1, e2, e3⟩ := ha p' cv z
        exact ⟨c0, e1, hE _ _ (fun z => by rw [z, hP] at e2; cases Option.some.inj e2) e2, e3⟩
      · exact ⟨c', z, upd_same, hG c' nC⟩
    · have n1 : h'.objs.size ≠ c' := Nat.ne_of_gt hlt
      have n2 : h'.objs.size ≠ P := Nat.ne_of_gt (Nat.lt_of_lt_of_le (Heap.lt_size hP') hsz)
      rw [upd_ne n1, upd_ne n2]
      exact I.hok.fresh hsz
  | some cv =>
    obtain ⟨c', e, hco, gc⟩ := ha pos cv hc
    subst e
    refine PySem.W.kla_makeFunctionHit (mg := X.mg) (c := c) (P := P) (ps := ps) (closure_ok hfree) I.ok.glob (I.mod.glob.keeps I.bk) hcode (TB.code.keeps I.bk) hP' ht hc bP fun ctv h' tk hx hsz => ?_
    have I1 : Inv X pins σ H { s with heap := h'.push (PySem.W.kla_obj "<lambda>" (X.env.qual ++ "<lambda>") params body scope (cloFrom X.env.cells scope.names []) ((X.mg "__name__").getD .none) c' ctv), toks := tk } := I.kept fun b o e => Heap.get?_push_of_some _ (hx b o e)
    exact h h'.objs.size c' ((X.mg "__name__").getD .none) ctv H _ I1 (fun _ _ _ e => e) ⟨ps, hP, ht, ha⟩ (Heap.get?_push_size _ rfl) (I.hok.fresh hsz) (nofr _ hsz) hco gc
end
section
variable {X : Cx} {pins : List (Addr × Obj)} {σ : L2.St} {H : Hp} {s : Shared}
/-- x(), in the def that got the lambda: what it may let out is told by the frame's own state -/
theorem pe_actS {CXg : CXT} {Eg : XK} {Ng : List Str} {qg : Str} {sg : Scope} {g f c' : Addr} {cdg pm ctv : Value} {params : Arguments} {body : Expr} {scope : Scope} {k i : Nat} {a : Str} {pn : List (Addr × Obj)} {xe : Value → Shared → Prop} {tb : XK → TE} {p1 p2 : Pos}
    (I : Inv X pins σ H s) (L : LamS X.env.scope scope) (hf : s.heap.get? f = some (PySem.W.kla_obj "<lambda>" (X.env.qual ++ "<lambda>") params body scope (cloFrom X.env.cells scope.names []) pm c' ctv)) (hfn : H f = none) (hfr : f ∉ frs X.stack)
    (hbind : bindArgs (PySem.W.kla_fn "<lambda>" (X.env.qual ++ "<lambda>") params body scope (cloFrom X.env.cells scope.names []) pm (.ref c') ctv) ⟨[], []⟩ = pure [])
    (hr : Room (k + 1) (X.A.deeper (envOfC qg sg s.heap.objs.size g cdg))) (hGd : X.A.guards = some [])
    (hbody : ∀ (A : Around) (outer : List Env) (s : Shared) (H : Hp) (E : XK), Room k (A.deeper (lamEnv X scope s.heap.objs.size f c')) → A.guards = some [] → PE (lamCx X A outer s H E scope f c') body (tb E))
    (hN : Ng[i]? = some a) (hv : Vis sg a) (hd : (a == ("__debug__" : Str)) = false := by decide) (hcd : (a == ("__classdict__" : Str)) = false := by decide) :
    PE ((cxOf CXg X.prog X.w X.K X.mg X.base Ng qg sg g cdg X.A X.stack s H Eg).tr pn xe) (.Call (.Name a p1) [] [] p2)
      (fun σZ HZ Q => σZ[i]? = some (some (.ref f)) ∧ HZ c' = some (CodeO c' (X.env.qual ++ "<lambda>")) ∧
        ∃ E : XK, (∀ cls d H', E cls d H' → DL.Wm ((cxOf CXg X.prog X.w X.K X.mg X.base Ng qg sg g cdg X.A X.stack s H Eg).tr pn xe) cls d σZ H') ∧ tb E σ HZ Q) := by
  refine ⟨fun pinsZ sZ σZ HZ Q IZ h => ?_⟩
  obtain ⟨hs, hc, E, hW, ht⟩ := h
  refine wpAny_Call_Name_kw (thn ((pe_var (pos := p1) (i := i) hN hv hd hcd).run pinsZ sZ σZ HZ (fun v H1 => v = .ref f ∧ H1 = HZ) IZ ⟨.ref f, hs, rfl, rfl⟩) fun u s1 ⟨v, H1, I1, r1, q1⟩ => ?_)
  obtain ⟨ev, eH⟩ := q1
  subst ev
  rw [eH] at I1
  obtain rfl : u = Value.ref f := r1
  have of1 : s1.heap.get? f = some (PySem.W.kla_obj "<lambda>" (X.env.qual ++ "<lambda>") params body scope (cloFrom X.env.cells scope.names []) pm c' ctv) := I1.base.keep f _ hf hfn hfr (fun z => nomatch (show f ∈ ([] : List Addr) from z))
  refine PySem.W.callWith_F0 ⟨_, _, _, _, of1⟩ ?_
  have un : Un (frs X.stack) [] H HZ s.heap s1.heap := I1.base
  obtain ⟨⟨oc, vs, t, hoc, hdc, hvc⟩, _, _⟩ := I1.hok c' _ hc
  have rc : codeAny (model X.prog X.w) (X.A.deeper (envOfC qg sg s.heap.objs.size g cdg)) (.call (.ref f) ⟨[], []⟩) (CR (L2.CX X.prog X.w) (envOfC qg sg s.heap.objs.size g cdg :: X.stack) X.prog X.w HZ s1 Q E) s1 := by
    refine PySem.W.kla_callFunE hr.depth of1 rfl L.co L.gen rfl ⟨c', oc, vs, t, rfl, hoc, hdc, hvc⟩ ?_
    rw [hbind]
    refine wpAny_pure (wpAny_newFunctionEnv (fun y hy => (L.own y hy).2) (fun y hy => absurd hy (by simp)) (fun h₁ hns hsb => ⟨I1.nolimit.fresh _ hsb, ?_⟩) L.kind)
    show codeAny _ _ (.expr body (lamEnv X scope s1.heap.objs.size f c')) _ _
    have kp : ∀ b o, s1.heap.get? b = some o → h₁.get? b = some o := fun b o e => hsb.extBut b o (Nat.ne_of_lt (Heap.lt_size e)) (Heap.get?_push_of_some _ e)
    have J : Inv (lamCx X (X.A.deeper (envOfC qg sg s.heap.objs.size g cdg)) (envOfC qg sg s.heap.objs.size g cdg :: X.stack) s1 HZ E scope f c') [] σ HZ { s1 with heap := h₁, toks := s1.toks + ([] : List (Str × Value)).length } :=
      lam_start2 I L I1.env0 hr.hd un hns kp
    refine PySem.W.kla_codeExpr (wpAny_mono ((hbody _ _ s1 HZ E (hr.deeper _) hGd).run [] _ _ HZ Q J ht) (fun v s' hq => ?_) fun e s' hq => hq)
    obtain ⟨w', H', J', rv, q⟩ := hq
    exact ⟨w', H', J'.os, J'.bare, J'.base, J'.hok, rv, q⟩
  refine wpAny_call (codeAny_mono rc fun r s' hq => ?_)
  cases r with
  | error e => exact DL.takes_wm _ _ (XE.of_call I1 (fun cls d H' h => hW cls d H' h) hq)
  | ok fl =>
    cases fl with
    | ret u => exact I1.after hq
    | next => exact False.elim hq
    | brk => exact False.elim hq
    | cont => exact False.elim hq
end
end LamX
namespace DL
open PySem PySem.Spec PyProof.Rows L2 LamX
/-! ### what a lambda captured, as a value -/
def packV : DEnv → L2.St → List V
  | none :: ρ, _ :: σ => packV ρ σ
  | some _ :: ρ, some v :: σ => v :: packV ρ σ
  | _, _ => []
def packD : DEnv → List D
  | [] => []
  | none :: ρ => packD ρ
  | some d :: ρ => d :: packD ρ
theorem pack_reps {K : KZ} {M : Mem} {H : Hp} : ∀ {ρ : DEnv} {σ : L2.St}, SAbs K M H ρ σ → Reps K M H (packV ρ σ) (packD ρ)
  | _, _, .nil => .nil
  | _, _, .off t => have h := pack_reps t; h
  | _, _, .on r t => have h := pack_reps t; .cons r h
theorem unpack {K K' : KZ} {M M' : Mem} {H H' : Hp} : ∀ {ρ : DEnv} {σ : L2.St}, SAbs K M H ρ σ → Reps K' M' H' (packV ρ σ) (packD ρ) → SAbs K' M' H' ρ σ
  | _, _, .nil, _ => .nil
  | _, _, .off t, r => .off (unpack t r)
  | _, _, .on _ t, .cons r rs => .on r (unpack t rs)
/-- a(): the value in slot i is the box of the lambda made, tl its body's reading -/
def xAct (i : Nat) (f c : Addr) (q : Str) (vs : List V) (ds : List D) (tl : Mem → RK → XD → Prop) : DX := fun ρ M R XR => slot ρ i = some (.box f c (CodeO c q) vs ds) ∧ tl M R XR
/-- the name of a def's lambdas -/
def lamQ (x : Str) : Str := (x ++ ".<locals>.") ++ "<lambda>"
/-- x(lambda: body): n the number of x's names, tD x's reading, tb the body's -/
def dLam (K : PySem.W.Frag) (P : Addr) (q : Str) (n : Nat) (tD : DX → DS) (tb : DX) : DE := fun ρ M R => M P = some (.tab q) ∧
  ∀ (f c : Addr) (vs : List V) (ds : List D), tD (xAct 0 f c q vs ds (tb ρ)) (endsOf K R) (startD n [.box f c (CodeO c q) vs ds]) M
section
variable {X : Cx} {x a : Str} {st : Stmt} {Ng : List Str} {c P : Addr} {k : Nat} {params : Arguments} {body : Expr} {scope : Scope} {p lpos pos : Pos} {tD : DX → DS} {tb : DX}
theorem de_lamcall (Fx : ∃ (g : Addr) (fd : FuncData), X.mg x = some (.ref g) ∧ Fun X.K x x st g fd) (Sg : FnScope Ng [a] (defScope st)) (pb : PosB x st [a]) (hNg : Ng[0]? = some a) (hva : Vis (defScope st) a)
    (hg0 : ∀ (g : Addr) (cdg : Value) (s : Shared) (H : Hp) (ta : DX), Room (k + 1) (X.A.deeper (envOfC x (defScope st) s.heap.objs.size g cdg)) →
      (∀ (pn : List (Addr × Obj)) (xe : Value → Shared → Prop) (p1 p2 : Pos), PEDX ((cxOf CX0 X.prog X.w X.K X.mg X.base Ng x (defScope st) g cdg X.A X.stack s H C8.E0).tr pn xe) (.Call (.Name a p1) [] [] p2) ta) →
      PBD (cxOf CX0 X.prog X.w X.K X.mg X.base Ng x (defScope st) g cdg X.A X.stack s H C8.E0).nox (defBody st) (tD ta))
    (TB : TabB X.base X.mg c P) (hcode : X.env.code = .ref c) (hr : Room (k + 2) X.A) (hGd : X.A.guards = some []) (L : LamS X.env.scope scope) (hdef : defaultsOf params X.env = ([], []))
    (hbind : ∀ (q : Str) (cl : List (Str × Addr)) (pm cv ctv : Value), bindArgs (PySem.W.kla_fn "<lambda>" q params body scope cl pm cv ctv) ⟨[], []⟩ = pure [])
    (hbody : ∀ (A : Around) (outer : List Env) (s : Shared) (H : Hp) (E : XK) (f c' : Addr), Room k (A.deeper (lamEnv X scope s.heap.objs.size f c')) → A.guards = some [] → PEDX (lamCx X A outer s H E scope f c') body tb)
    (hg : Gl X x := by rfl) (hdb : (x == ("__debug__" : Str)) = false := by decide) (hd : (a == ("__debug__" : Str)) = false := by decide) (hcd : (a == ("__classdict__" : Str)) = false := by decide) :
    PED X (.Call (.Name x p) [.Lambda params body scope lpos] [] pos) (dLam X.K P (X.env.qual ++ "<lambda>") (Ng.length - 1) tD tb) := by
  obtain ⟨g, fd, hm, Fn⟩ := Fx
  refine ⟨fun pins s σ H Q I h => ?_⟩
  obtain ⟨z, ρ, M, R, S, A, ⟨hM, q⟩, F⟩ := h
  obtain ⟨ps, hP, ht, hcs⟩ : TabD ⟨X.K, z⟩ M H P (X.env.qual ++ "<lambda>") := A.at_ P _ hM
  refine wpAny_Call_Name_kw (ld_glob I hg hm ?_ hdb)
  refine PySem.W.callWith_K (h₀ := X.base) I.ok.mod.kin Fn.kp ?_ (by rfl) (by rfl)
  show wpAny _ _ (spliced ((false, eval (.Lambda params body scope lpos) X.env) :: backTo pos (starEach [] X.env))) _ _ s
  refine Calls.spliced_cons (lam_make3 (G := fun c => M c = none ∧ ¬ z c) I TB hcode ⟨ps, hP, ht, hcs⟩ (fun c e => ⟨A.free e, A.znew (K := ⟨X.K, z⟩) e⟩) hdef (L.has I.ok) fun f c' pm' ctv H1 s' I1 eN T1 hf hfn hfr hco gc => ?_)
  refine Calls.spliced_nil ⟨I1.kIn, ?_⟩
  have f1 : Frame M H M H1 := fun b hb n => by
    cases e : H b with
    | none => exact absurd e hb
    | some o => exact ⟨eN b o (fun z => by rw [z, hM] at n; cases n) e, n⟩
  have A1 : MAbs ⟨X.K, z⟩ M H1 := A.step f1 fun b o e => by
    by_cases hb : b = P
    · subst hb
      rw [hM] at e
      cases e
      exact .inr T1
    · have keep : ∀ b o, b ≠ P → M b = some o → H1 b = H b := fun b o n e => by
        obtain ⟨u, hu⟩ := A.there e
        rw [hu]
        exact eN b u n hu
      refine .inl ⟨e, keep b o hb e, fun ks b2 eo => ⟨rfl, ?_⟩⟩
      subst eo
      obtain ⟨_, _, _, _, _, _, _, _, _, mb⟩ := A.at_ b _ e
      exact keep b2 _ (fun y => by rw [y, hM] at mb; cases mb) mb
  have S1 : SAbs ⟨X.K, z⟩ M H1 ρ σ := S.fr f1
  obtain ⟨oc, od, kV, doc, pm, an, cdv, ct, osl, rfl, lk, hcg⟩ := Fn.ex
  have rc : codeAny (model X.prog X.w) X.A (.call (.ref g) ⟨[.ref f], []⟩) (CR CX0 X.stack X.prog X.w H1 s' Q C8.E0) s' := by
    refine run_ofS (N := Ng) (ps := [a]) (us := [.ref f]) (vs := [.ref f]) lk hcg Sg hr I1.env0 (.of_eq (pb _ _ _ _ _ _ [.ref f] rfl)) (.cons rfl .nil) rfl fun hr' => ?_
    refine ⟨_, (hg0 g cdv s' H1 (xAct 0 f c' (X.env.qual ++ "<lambda>") (packV ρ σ) (packD ρ) (tb ρ)) hr' fun pn xe p1 p2 => ?_).nox, z, startD (Ng.length - 1) [.box f c' (CodeO c' (X.env.qual ++ "<lambda>")) (packV ρ σ) (packD ρ)], M, endsOf X.K R, ?_, A1, q f c' _ _, ⟨?_, (F.fr f1).ends, fun _ _ _ _ z => z.elim, fun _ _ _ _ z => z.elim, fun _ _ _ _ _ _ _ _ _ z => z.elim⟩⟩
    · refine (pe_actS (i := 0) (tb := fun E => liftX X.K (fun x dd _ H' => ∀ C, X.mg x = some (.ref C) → E (.ref C) (some dd) H') tb) I1 L hf hfn hfr (hbind _ _ _ _ _) hr' hGd (fun A outer s2 H2 E hr2 hg2 => ?_) hNg hva hd hcd).weak fun σZ HZ Q2 ⟨z2, ρ2, M2, R2, XR2, S2, A2, ⟨hsl, ht2⟩, F2, G2⟩ => ?_
      · exact (hbody A outer s2 H2 E f c' hr2 hg2).weak fun σ3 H3 Q3 ⟨z3, ρ3, M3, R3, XR3, S3, A3, q3, F3, G3⟩ => ⟨z3, ρ3, M3, R3, XR3, S3, A3, q3, F3, fun x fl d M' v dd H' p e n nz r A' fr C hC => wm_of (takes_of rfl rfl rfl rfl) (G3 x fl d M' v dd H' p e n nz r A' fr C hC)⟩
      · obtain ⟨v, hv, rb⟩ := S2.get hsl
        cases rb with
        | box bx h n nz rs =>
          refine ⟨hv, h, fun cls d H' => DL.Wm ((cxOf CX0 X.prog X.w X.K X.mg X.base Ng x (defScope st) g cdv X.A X.stack s' H1 C8.E0).tr pn xe) cls d σZ H', fun _ _ _ h => h, z2, ρ, M2, R2, XR2, unpack S1 rs, A2, ht2, F2, G2⟩
    · have hl : Ng.length - 1 = Ng.length - ([.ref f] : List V).length := rfl
      exact SAbs.start (.cons (.box bx_code hco gc.1 gc.2 (pack_reps S1)) .nil) _
    · intro ρ2 M2 σ2 H2 q2 S2 A2 f2
      exact (F.fr f1).ends .non M2 .non H2 q2 .non A2 f2
  refine wpAny_call (codeAny_mono rc fun r s2 hq => ?_)
  cases r with
  | error e => exact (show False from hq).elim
  | ok fl =>
    cases fl with
    | ret u => exact I1.after hq
    | next => exact False.elim hq
    | brk => exact False.elim hq
    | cont => exact False.elim hq
end
end DL

set_option Elab.async false
set_option linter.all false
set_option maxHeartbeats 4000000
set_option maxRecDepth 100000
/-! D-layer, part 30: the head of a law whose def makes lambdas. -/
namespace DL
open PySem PySem.Spec PyProof.Rows L2 LamX
section
variable {P : Program} {w : World} {K : PySem.W.Frag} {mg mb : Str → Option Value} {base : Heap}
/-- what the table of the top tells of a def's code object -/
theorem code_of {x : Str} {c Pt : Addr} {h : Heap} (X : K.In h) (G : h.Ns mainGlobals mg) (ht : PySem.W.tabIn K x = some (c, Pt)) : ∀ (f : Addr), mg x = some (.ref f) → ∀ (oc : Value) (od : Option Addr) (fd : FuncData) (osl : Array (Option Value)), K.lookup f = some ⟨oc, od, .func fd, osl⟩ → fd.code = .ref c :=
  fun f hm oc od fd osl lk => PySem.W.law_code X G ht hm (X _ _ lk) rfl
/-- the rule for a def by its body, its code object known -/
theorem fnG_ofC {CX : CXT} {k : Nat} {f c : Addr} {x : Str} {st : Stmt} {fd : FuncData} {N ps : List Str} {sp : Sp} (hc : ∀ (oc : Value) (od : Option Addr) (fd : FuncData) (osl : Array (Option Value)), K.lookup f = some ⟨oc, od, .func fd, osl⟩ → fd.code = .ref c)
    (F : Fun K x x st f fd) (S : FnScope N ps (defScope st)) (len : ∀ vs H Q E, sp vs H Q E → vs.length = ps.length)
    (hbody : ∀ (A : Around) (outer : List Env) (s : Shared) (H : Hp) (vs : List V) (Q : VK) (E : XK), Room k (A.deeper (envOfC x (defScope st) s.heap.objs.size f (.ref c))) → A.guards = some [] → sp vs H Q E →
      ∃ t, PSs (cxOf CX P w K mg base N x (defScope st) f (.ref c) A outer s H E) (defBody st) t ∧ t { nx := fun _ H' => Q .non H', rt := Q } (start N vs) H) : FnG P w K mg base CX (k + 1) f fd ps sp := by
  obtain ⟨oc, od, kV, doc, pm, an, cdv, ct, osl, rfl, lk, hcd⟩ := F.ex
  obtain rfl : cdv = .ref c := hc _ _ _ _ lk
  refine ⟨len, fun A outer s H args us vs Q E hr hG e0 hb r hsp => ?_⟩
  have hl := len _ _ _ _ hsp
  have KX : K.In s.heap := e0.mod.kin.keeps fun b o e => (e0.bs b o e).1
  have lim : s.heap.NoLimit := e0.mod.nolimit.keeps fun b o e => (e0.bs b o e).1
  refine codeAny_call_function hr.depth (KX _ _ lk) rfl S.co S.gen rfl (PySem.W.codeRec_of KX hcd) (hb _ _ _ _ ?_)
  refine wpAny_newFunctionEnv_cells S.kind (fun ⟨n, v⟩ hy => ?_) fun env he s1 x => ?_
  · rcases S.par n (List.of_mem_zip hy).1 with q | q
    · exact .inl q
    · exact .inr ⟨q, PySem.W.cellsFrom_some _ _ _ (.inl q)⟩
  subst he
  refine ⟨lim.keeps x.toInCall.keep, codeAny_func ?_⟩
  obtain ⟨t, ht, hq⟩ := hbody A outer s H vs Q E (hr.deeper _) hG hsp
  refine wpAny_mono (ht.run [] s1 (start N vs) H _ (inv_start S hr.hd e0 hl r x) hq) (fun fl s' hs => ?_) fun e s' hs => hs
  cases fl with
  | ret u =>
    obtain ⟨v, σ', H', J, rv, q⟩ := hs
    exact ⟨v, H', J.os, J.bare, J.base, J.hok, rv, q⟩
  | next =>
    obtain ⟨σ', H', J, q⟩ := hs
    exact ⟨V.non, H', J.os, J.bare, J.base, J.hok, rfl, q⟩
  | brk => exact hs.elim fun _ h => h.elim fun _ h => h.2.elim
  | cont => exact hs.elim fun _ h => h.elim fun _ h => h.2.elim
theorem has_viewC {x : Str} {c : Addr} {st : Stmt} {N ps : List Str} {k : Nat} {sp : SpD} {t : DS} (hc : ∀ (f : Addr), mg x = some (.ref f) → ∀ (oc : Value) (od : Option Addr) (fd : FuncData) (osl : Array (Option Value)), K.lookup f = some ⟨oc, od, .func fd, osl⟩ → fd.code = .ref c)
    (F : ∃ (f : Addr) (fd : FuncData), mg x = some (.ref f) ∧ Fun K x x st f fd) (S : FnScope N ps (defScope st)) (len : ∀ ds M R XR, sp ds M R XR → ds.length = ps.length)
    (hb : ∀ (f : Addr) (A : Around) (outer : List Env) (s : Shared) (H : Hp) (E : XK), Room k (A.deeper (envOfC x (defScope st) s.heap.objs.size f (.ref c))) → A.guards = some [] → PBD (cxOf CX0 P w K mg base N x (defScope st) f (.ref c) A outer s H E).nox (defBody st) t)
    (rd : ∀ ds M R XR, sp ds M R XR → t (endsOf K R) (startD (N.length - ps.length) ds) M) : Has P w K mg base CX0 x st ps (k + 1) sp := by
  obtain ⟨f, fd, hm, F⟩ := F
  have hlen : ∀ vs H Q E, liftSp K mg sp vs H Q E → vs.length = ps.length := fun vs H Q E ⟨z, M, ds, R, XR, A, r, q, _⟩ => r.length.trans (len _ _ _ _ q)
  refine ⟨f, fd, hm, F, fnG_ofC (hc f hm) F S hlen fun A outer s H vs Q E hr hG h => ?_⟩
  obtain ⟨z, M, ds, R, XR, A', r, q, FF, _⟩ := h
  refine ⟨_, (hb f A outer s H E hr hG).nox, z, startD (N.length - ps.length) ds, M, endsOf K R, ?_, A', rd _ _ _ _ q, ⟨?_, FF.ends, fun _ _ _ _ z => z.elim, fun _ _ _ _ z => z.elim, fun _ _ _ _ _ _ _ _ _ z => z.elim⟩⟩
  · have e : vs.length = ps.length := r.length.trans (len _ _ _ _ q)
    unfold L2.start startD
    rw [e]
    exact SAbs.start r _
  · intro ρ M1 σ1 H1 q1 S1 A1 f1
    exact FF.ends .non M1 .non H1 q1 .non A1 f1
/-- the memory at the head: the law's table of code objects -/
abbrev memT (Pt : Addr) (q : Str) : Mem := mset (fun _ => none) Pt (.tab q)
def LawSpT (sp : SpD) (n : Nat) (Pt : Addr) (q : Str) : Prop := ∀ ns : List Int, ns.length ≤ n → sp [.lst (ns.map .int)] (memT Pt q) (fun d _ => d = .bl true) noX
theorem headT_ {k n : Nat} {fa a c Pt : Addr} {q nm x : Str} {st : Stmt} {sp : SpD} {s1 : Shared} {us : List Value} {ns : List Int} (kin : K.In s1.heap) (g1 : s1.heap.Ns mainGlobals mg) (g2 : s1.heap.Ns builtinsNs mb) (gb : ∀ y : Str, y ≠ "__name__" → mb y = bootBuiltins y)
    (nl : s1.heap.NoLimit) (ng : s1.gens = #[]) (hT : s1.heap.get? Pt = some { cls := .none, data := .fields #[] }) (nT : K.lookup Pt = none) (C : PySem.W.CodeHd s1.heap c Pt)
    (hbm : ∃ (bm : Addr) (ob : Obj), mg "__builtins__" = some (.ref bm) ∧ bm ≠ builtinsNs ∧ s1.heap.get? bm = some ob ∧ ob.cls = .type "module" ∧ ob.dict = some builtinsNs ∧ ob.data = .plain)
    (ea : s1.heap.get? a = some { cls := .type "list", data := .seq us.toArray }) (ui : IntsAre us ns) (un : ns.length ≤ n) (nn : n ≤ sizeLine) (room : Room k callerA) (em : mg nm = some (.ref fa)) (pb : PosB nm st [x])
    (F : ∀ base : Heap, K.In base → base.Ns mainGlobals mg → TabB base mg c Pt → Has P w K mg base CX0 nm st [x] k sp) (hsp : LawSpT sp n Pt q) :
    codeAny (model P w) callerA (.call (.ref fa) ⟨[.ref a], []⟩) (fun r s2 => r = .ok (.ret (.bool true)) ∧ OldK s1.heap s2.heap ∧ s2.os = s1.os ∧ AllBare s2.gens) s1 := by
  have uv : Vals (ns.map V.int) us := vals_ints ui
  have ul : us.length = ns.length := by rw [← uv.length, List.length_map]
  have aT : a ≠ Pt := fun z => by
    rw [z, hT] at ea
    cases ea
  have go : ∀ H : Hp, H Pt = some (.tbl #[]) → (∀ b, H b = none ∨ b = Pt ∨ ∃ ob xs, H b = some (.frz ob (.lst xs))) → SqL K H a (ns.map V.int) → HOk P w H s1.heap → (∀ b, H b ≠ none → (b = a ∧ K.lookup b = none) ∨ b = Pt) → codeAny (model P w) callerA (.call (.ref fa) ⟨[.ref a], []⟩) (fun r s2 => r = .ok (.ret (.bool true)) ∧ OldK s1.heap s2.heap ∧ s2.os = s1.os ∧ AllBare s2.gens) s1 := by
    intro H hHP only sq ok there
    have noD : ∀ {b : Addr} {o : Obj}, s1.heap.get? b = some o → (∀ vs n, o.data ≠ .seq vs n) → o.data ≠ .fields #[] → H b = none := fun {b o} e h1 h2 => by
      cases q : H b with
      | none => rfl
      | some u =>
        rcases there b (by rw [q]; simp) with ⟨e', _⟩ | e'
        · rw [e', ea] at e
          cases e
          exact (h1 _ _ rfl).elim
        · rw [e', hT] at e
          cases e
          exact (h2 rfl).elim
    have base_of : ∀ {b : Addr} {o : Obj}, s1.heap.get? b = some o → H b = none → (hidT s1.heap H).get? b = some o := fun e n => hidT_get e n
    have dic : ∀ {b : Addr} {m : Str → Option Value}, s1.heap.Ns b m → (hidT s1.heap H).Ns b m := fun {b m} ⟨o, es, ep, e, d, z⟩ => ⟨o, es, ep, base_of e (noD e (fun vs n y => by rw [d] at y; cases y) fun y => by rw [d] at y; cases y), d, z⟩
    have kb : K.In (hidT s1.heap H) := fun b o e => hidT_get (kin b o e) (Classical.byContradiction fun hb => by
      rcases there b hb with ⟨_, eb⟩ | eb
      · rw [eb] at e
        cases e
      · rw [eb, nT] at e
        cases e)
    have md : Mod K mg (hidT s1.heap H) := ⟨kb, dic g1, ⟨mb, dic g2, gb⟩, let ⟨mc, p, q⟩ := nl; ⟨mc, dic p, q⟩⟩
    have env : Env0 P w K mg (hidT s1.heap H) callerA [] s1 H := ⟨rfl, md, fun b o e => of_hidT e, Nat.le_of_eq (hidT_size _ _), trivial, fun b hb => (nomatch (show b ∈ ([] : List Addr) from hb)), ok, .of_eq ng⟩
    have TB : TabB (hidT s1.heap H) mg c Pt := by
      refine ⟨?_, ?_, fun z => ?_⟩
      · obtain ⟨o, us, file, tf, flags, tg, inF, text, tt, e1, r1, r2, r3, r4, r5, r6, r7, r8, hne⟩ := C
        refine ⟨o, us, file, tf, flags, tg, inF, text, tt, base_of e1 (noD e1 (fun vs n z => ?_) fun z => ?_), r1, r2, r3, r4, r5, r6, r7, r8, hne⟩
        · rw [r2] at z
          cases z
        · rw [r2] at z
          cases z
          simp at r3
      · obtain ⟨bm, ob, b1, b2, b3, b4, b5, b6⟩ := hbm
        have nG : bm ≠ mainGlobals := fun q => by
          obtain ⟨o, es, ep, e, hd, _⟩ := g1
          rw [q, e] at b3
          cases b3
          rw [hd] at b6
          cases b6
        have nP : bm ≠ Pt := fun q => by
          rw [q, hT] at b3
          cases b3
          cases b6
        refine ⟨bm, ob, b1, b2, nG, nP, base_of b3 (noD b3 (fun vs n z => ?_) fun z => ?_), b4, b5, b6⟩
        · rw [b6] at z
          cases z
        · rw [b6] at z
          cases z
      · obtain ⟨o, es, ep, e, hd, _⟩ := g1
        rw [z, hT] at e
        cases e
        cases hd
    obtain ⟨f, fd, hm, Fn, G⟩ := (F _ kb (dic g1) TB).ex
    obtain rfl : f = fa := by
      have z := hm.symm.trans em
      cases z
      rfl
    have mz : MAbs ⟨K, fun _ => False⟩ (memT Pt q) H := by
      refine ⟨fun b o e => ?_, fun b o e h => h, fun b h => h.elim⟩
      by_cases hb : b = Pt
      · subst hb
        have e' : mset (fun _ => none) b (.tab q) b = some o := e
        rw [mset_same] at e'
        cases e'
        exact ⟨#[], hHP, True.intro, fun pos cv hc => by
          have z : codeAmong pos [] = some cv := hc
          simp [codeAmong] at z⟩
      · have e' : mset (fun _ => none) Pt (.tab q) b = some o := e
        rw [mset_ne hb] at e'
        cases e'
    have rep : Reps ⟨K, fun _ => False⟩ (memT Pt q) H [.ref a] [.lst (ns.map .int)] := .cons (.lst (sq.elim (fun r => .inl ⟨r, mset_ne aT, id⟩) .inr) (Reps.ints ns)) .nil
    have fin : Fin ⟨K, fun _ => False⟩ (memT Pt q) H (fun d _ => d = .bl true) (fun v _ => v = .bl true) := fun d M2 v H2 e r _ _ => by
      subst e
      exact rep_bl r
    have bind : BindsTo s1 fd ⟨[.ref a], []⟩ ([x].zip [.ref a]) := by
      obtain ⟨oc, od, kV, doc, pm, an, cdv, ct, osl, rfl, _⟩ := Fn.ex
      exact .of_eq (pb _ _ _ _ _ _ _ rfl)
    refine codeAny_mono (G.run callerA [] s1 H ⟨[.ref a], []⟩ [.ref a] [.ref a] (fun v _ => v = .bl true) (fun _ _ _ => False) room rfl env bind (.cons rfl .nil) ⟨_, _, _, _, _, mz, rep, hsp ns un, fin, .no⟩) fun r s2 h => ?_
    rcases r with e | fl
    · exact h.elim
    rcases fl with _ | _ | _ | u
    all_goals try exact h.elim
    obtain ⟨v, H2, h1, h2, h3, h4, h5, h6⟩ := h
    have h6' : v = .bl true := h6
    subst h6'
    obtain rfl : u = Value.bool true := h5
    have key : ∀ b o, b ≠ Pt → s1.heap.get? b = some o → s2.heap.get? b = some o := fun b o nb e => by
      rcases only b with z | z | ⟨ob, xs, z⟩
      · exact h3.keep b o e z (fun q => nomatch (show b ∈ ([] : List Addr) from q)) (fun q => nomatch q)
      · exact absurd z nb
      · have a1 := (ok b _ z).1
        have a2 := (h4 b _ (h3.frzs b ob _ z)).1
        rw [e] at a1
        cases a1
        exact a2
    obtain ⟨more, hm2⟩ := h3.tbls Pt #[] hHP
    have hPs : s2.heap.get? Pt = some { cls := .none, data := .fields (#[] ++ more) } := h4 Pt _ hm2
    refine ⟨rfl, ⟨fun b o e => ?_, fun b o e => ?_⟩, h1, h2⟩
    · by_cases hb : b = Pt
      · subst hb
        rw [hT] at e
        cases e
        exact .inr (.inl ⟨(C.tab hT).isCodeTable, rfl, #[], more, rfl, hPs⟩)
      · exact .inl (key b o hb e)
    · by_cases hb : b = Pt
      · rw [hb]
        exact ⟨_, hPs⟩
      · exact ⟨o, key b o hb e⟩
  cases q : K.lookup a with
  | some o =>
    have e := kin a o q
    rw [ea] at e
    cases e
    refine go (fun b => if b = Pt then some (.tbl #[]) else none) (if_pos rfl) (fun b => ?_) (.inr ⟨_, us.toArray, _, q, rfl, rfl, rfl, by rw [List.size_toArray, ul]; omega, by simpa using uv⟩) (fun b u z => ?_) fun b z => ?_
    · by_cases hb : b = Pt
      · exact .inr (.inl hb)
      · exact .inl (if_neg hb)
    · by_cases hb : b = Pt
      · subst hb
        have z' := (if_pos rfl).symm.trans z
        cases z'
        exact hT
      · have z' := (if_neg hb).symm.trans z
        cases z'
    · by_cases hb : b = Pt
      · exact .inr hb
      · exact absurd (if_neg hb) z
  | none =>
    let H : Hp := fun b => if b = a then some (.frz { cls := .type "list", data := .seq us.toArray } (.lst (ns.map V.int))) else if b = Pt then some (.tbl #[]) else none
    have at_a : H a = some (.frz { cls := .type "list", data := .seq us.toArray } (.lst (ns.map V.int))) := if_pos rfl
    have at_P : H Pt = some (.tbl #[]) := (if_neg (Ne.symm aT)).trans (if_pos rfl)
    have off : ∀ {b}, b ≠ a → b ≠ Pt → H b = none := fun h h2 => (if_neg h).trans (if_neg h2)
    refine go H at_P (fun b => ?_) (.inl (.inr ⟨_, at_a⟩)) (fun b u z => ?_) fun b z => ?_
    · by_cases h : b = a
      · exact .inr (.inr ⟨_, _, h ▸ at_a⟩)
      · by_cases h2 : b = Pt
        · exact .inr (.inl h2)
        · exact .inl (off h h2)
    · by_cases h : b = a
      · subst h
        rw [at_a] at z
        cases z
        exact ⟨ea, by rw [List.length_map]; omega, us, _, uv, ea⟩
      · by_cases h2 : b = Pt
        · subst h2
          rw [at_P] at z
          cases z
          exact hT
        · rw [off h h2] at z
          cases z
    · by_cases h : b = a
      · exact .inl ⟨h, h ▸ q⟩
      · by_cases h2 : b = Pt
        · exact .inr h2
        · exact absurd (off h h2) z
end
open PySem.W in
/-- the goal that k_head leaves (case hc), for a law that makes lambdas -/
theorem walkDT {l : OpenLaw} {n k : Nat} {q : Program} {loose : List Str} {XP : (Str → Option Value) → Heap → Prop} {YP : World → Heap → Prop} {d : DefRec} {K : Params → Frag} {x ql : Str} {st : Stmt} (hn : l.most = some n) (nn : n ≤ sizeLine) (hdf : d.params.defaults = []) (hr : Room k callerA)
    (hrec : ((recsOf q).any fun e => e.name == d.name) = true) (hY : ∀ (w : World) (h : Heap), YP w h → (K w.params).In h) (pb : PosB d.name st [x])
    (F : ∀ (w : World) (mg : Str → Option Value) (h : Heap), (K w.params).In h → h.Ns mainGlobals mg → ∃ (c Pt : Addr) (sp : SpD), tabIn (K w.params) d.name = some (c, Pt) ∧ (K w.params).lookup Pt = none ∧ LawSpT sp n Pt ql ∧ ∀ base : Heap, (K w.params).In base → base.Ns mainGlobals mg → TabB base mg c Pt → Has l.prog w (K w.params) mg base CX0 d.name st [x] k sp) :
    WalkO q loose XP YP l.row.toRowW d [] (fun f vs => PySem.call f vs) :=
  Att.attach_call hn hdf fun w s0 s1 mg mb fa o pm cd doc a us ns G Y ho hd hcd hmg hobj hints hlen hg => by
    have KX := hY w _ Y
    obtain ⟨c, Pt, sp, ht, nT, hsp, hF⟩ := F w mg s1.heap KX G.T.g
    obtain ⟨dL, hm, hn1⟩ := List.any_eq_true.mp hrec
    cases hfd : (recsOf q).find? (fun e => e.name == d.name) with
    | none =>
      have z := List.find?_eq_none.mp hfd dL hm
      exact absurd hn1 z
    | some d' =>
      obtain ⟨C, hT⟩ := tab_of G.T KX hfd ht
      exact headT_ KX G.T.g G.T.b G.T.builtins G.T.nolimit hg hT nT C G.T.bmain hobj hints hlen nn hr hmg pb hF hsp
end DL

set_option Elab.async false
set_option linter.all false
set_option maxHeartbeats 4000000
/-! D-layer, part 31: // by wide ints. -/
namespace DL
open PySem PySem.Spec PyProof.Rows L2
def dDivW : D2 := rI2 CDivW fun i j => .int (i / j)
theorem od_divW {X : Cx} : OpR X (binaryOp .FloorDiv) (lift2 X.K dDivW) := od_I op_fdivW
theorem q_op_dvW {M : Mem} {R : RK} {i j : Int} : dDivW (.int i) (.int j) M R ↔ L2.CDivW i j ∧ R (.int (i / j)) M := ⟨fun ⟨_, _, e1, e2, h⟩ => by cases e1; cases e2; exact h, fun h => ⟨_, _, rfl, rfl, h⟩⟩
theorem wide_log {j : Int} (h0 : 0 ≤ j) (h : j < 18446744073709551616) : j.natAbs.log2 < 9000 := by
  by_cases z : j.natAbs = 0
  · rw [z]; decide
  · exact (Nat.log2_lt z).mpr (Nat.lt_of_lt_of_le (show j.natAbs < 2 ^ 64 by omega) (Nat.pow_le_pow_right (by decide) (by decide)))
end DL

set_option Elab.async false
set_option linter.all false
set_option maxHeartbeats 4000000
set_option maxRecDepth 100000
/-! D-layer, part 32: repr of what holds texts that repr made. -/
namespace DL
open PySem PySem.Spec PyProof.Rows L2
open Builtin Builtin.Str in
section
/-- texts whose signs are no greater than they can be -/
def Sm (s : Str) : Prop := ∀ c ∈ s.cps.toList, c < 16 ^ 8
theorem char_sm (c : Char) : c.toNat < 16 ^ 8 := by
  have h := c.valid
  have e : c.val.toNat = c.toNat := rfl
  have h' : c.val.toNat < 0xd800 ∨ (0xdfff < c.val.toNat ∧ c.val.toNat < 0x110000) := h
  omega
theorem hex_sm (w c : Nat) : ∀ e ∈ (List.replicate (w - ((Nat.toDigits 16 c).map Char.toNat).length) 48 ++ (Nat.toDigits 16 c).map Char.toNat), e < 16 ^ 8 := fun e he => by
  rcases List.mem_append.mp he with h | h
  · rw [(List.mem_replicate.mp h).2]
    decide
  · obtain ⟨ch, _, rfl⟩ := List.mem_map.mp h
    exact char_sm ch
theorem reprChar_sm (q c : Nat) (hc : c < 16 ^ 8) : ∀ e ∈ Builtin.Str.reprChar q c, e < 16 ^ 8 := by
  have h2 := hex_sm 2 c
  have h4 := hex_sm 4 c
  have h8 := hex_sm 8 c
  unfold Builtin.Str.reprChar
  dsimp only
  intro e he
  repeat' split at he
  all_goals simp only [List.mem_append, List.mem_cons, List.not_mem_nil, or_false] at he
  all_goals first
    | (rcases he with rfl | rfl <;> omega)
    | (subst he; omega)
    | (rcases he with (rfl | rfl) | he
       · omega
       · omega
       · first | exact h2 e (List.mem_append.mpr he) | exact h4 e (List.mem_append.mpr he) | exact h8 e (List.mem_append.mpr he))
theorem foldl_sm (q : Nat) : ∀ (l : List Nat) (acc : Array Nat), (∀ c ∈ l, c < 16 ^ 8) → (∀ c ∈ acc.toList, c < 16 ^ 8) → ∀ c ∈ (l.foldl (fun out c => out ++ (Builtin.Str.reprChar q c).toArray) acc).toList, c < 16 ^ 8
  | [], acc, _, h => h
  | c :: r, acc, h, ha => by
    refine foldl_sm q r _ (fun d hd => h d (List.mem_cons_of_mem _ hd)) fun d hd => ?_
    rw [Array.toList_append] at hd
    rcases List.mem_append.mp hd with z | z
    · exact ha d z
    · exact reprChar_sm q c (h c (List.mem_cons_self ..)) d (by simpa using z)
end
theorem reprText_sm {x : Str} (h : Sm x) : Sm (reprText x) := fun c hc => by
  have hq : reprQuote x < 16 ^ 8 := by
    unfold reprQuote
    split <;> decide
  unfold reprText at hc
  have hc' : c ∈ ((x.cps.foldl (fun out c => out ++ (Builtin.Str.reprChar (reprQuote x) c).toArray) #[reprQuote x]).push (reprQuote x)).toList := hc
  rw [Array.toList_push, ← Array.foldl_toList] at hc'
  rcases List.mem_append.mp hc' with z | z
  · exact foldl_sm (reprQuote x) x.cps.toList #[reprQuote x] h (fun d hd => by simp at hd; rw [hd]; exact hq) c z
  · simp at z
    rw [z]
    exact hq
theorem sm_app {a b : Str} (h1 : Sm a) (h2 : Sm b) : Sm (a ++ b) := fun c hc => (mem_cps_append.mp hc).elim (h1 c) (h2 c)
theorem sm_join {sep : Str} {ts : List Str} (h1 : Sm sep) (h2 : ∀ t ∈ ts, Sm t) : Sm (Str.join sep ts) := fun c hc => by
  rcases (mem_join sep c ts).mp hc with ⟨t, ht, h⟩ | ⟨_, h⟩
  · exact h2 t ht c h
  · exact h1 c h
theorem sm_by {s : Str} (h : (s.cps.toList.all fun c => decide (c < 16 ^ 8)) = true) : Sm s := fun c hc => of_decide_eq_true (List.all_eq_true.mp h c hc)
mutual
theorem shown_sm (B : Nat) : ∀ p : PyData, p.leavesShort B = true → Sm p.shown
  | .none, _ => by rw [PyData.shown_none]; exact sm_by (by decide)
  | .bool b, _ => by rw [PyData.shown_bool]; cases b <;> exact sm_by (by decide)
  | .int i, _ => fun c hc => by
    rw [PyData.shown_int] at hc
    by_cases z : c < 128
    · omega
    · exact absurd hc (int_text_free' c (by omega) i)
  | .str x, h => by
    rw [PyData.shown_str]
    exact reprText_sm fun c hc => by
      have h' : (x.cps.toList.all fun c => decide (c < 16 ^ 8)) = true := by simpa only [PyData.leavesShort] using h
      exact of_decide_eq_true (List.all_eq_true.mp h' c hc)
  | .list xs, h => by
    rw [PyData.shown_list]
    exact sm_app (sm_app (sm_by (by decide)) (sm_join (sm_by (by decide)) (shownAll_sm B xs (by simpa only [PyData.leavesShort] using h)))) (sm_by (by decide))
  | .tuple xs, h => by
    rw [PyData.shown_tuple]
    refine sm_app (sm_app (sm_by (by decide)) (sm_join (sm_by (by decide)) (shownAll_sm B xs (by simpa only [PyData.leavesShort] using h)))) ?_
    split <;> exact sm_by (by decide)
  | .dict kvs, h => by
    rw [PyData.shown_dict]
    exact sm_app (sm_app (sm_by (by decide)) (sm_join (sm_by (by decide)) (shownKv_sm B kvs (by simpa only [PyData.leavesShort] using h)))) (sm_by (by decide))
theorem shownAll_sm (B : Nat) : ∀ xs : List PyData, PyData.leavesShortAll B xs = true → ∀ t ∈ PyData.shownAll xs, Sm t
  | [], _ => by simp [PyData.shownAll]
  | x :: xs, h => by
    have h' : x.leavesShort B = true ∧ PyData.leavesShortAll B xs = true := by simpa only [PyData.leavesShortAll, Bool.and_eq_true] using h
    rw [PyData.shownAll_cons]
    intro t ht
    rcases List.mem_cons.mp ht with rfl | ht
    · exact shown_sm B x h'.1
    · exact shownAll_sm B xs h'.2 t ht
theorem shownKv_sm (B : Nat) : ∀ kvs : List (PyData × PyData), PyData.leavesShortKv B kvs = true → ∀ t ∈ PyData.shownKv kvs, Sm t
  | [], _ => by simp [PyData.shownKv]
  | (k, v) :: r, h => by
    have h' : (k.leavesShort B = true ∧ v.leavesShort B = true) ∧ PyData.leavesShortKv B r = true := by simpa only [PyData.leavesShortKv, Bool.and_eq_true] using h
    rw [PyData.shownKv_cons]
    intro t ht
    rcases List.mem_cons.mp ht with rfl | ht
    · exact sm_app (sm_app (shown_sm B k h'.1.1) (sm_by (by decide))) (shown_sm B v h'.1.2)
    · exact shownKv_sm B r h'.2 t ht
end
/-! ### what repr tells of d is the text t, short and small -/
def Rp (d : D) (t : Str) : Prop := t.length ≤ sizeLine ∧ Sm t ∧ ∀ {M : Mem} {R : RK}, R (.str t) M → dRepr [d] M R
/-- what may be shown, by its PyData -/
theorem rp_of {d : D} {p : PyData} (e : toR d = some p) (h1 : p.leavesShort 200 = true) (h2 : p.showable = true) (h3 : p.depth ≤ 60) (h4 : p.bulk ≤ 80000) : Rp d p.shown := by
  have hl := PyData.shown_le_bulk 200 (by decide) p h1
  have h5 : (200 + 2) * p.bulk ≤ (200 + 2) * 80000 := Nat.mul_le_mul_left _ h4
  have h6 : p.shown.length ≤ sizeLine := by rw [sizeLine_eq]; omega
  exact ⟨h6, shown_sm 200 p h1, fun {M R} q => ⟨d, p, rfl, e, h2, h6, h3, q⟩⟩
theorem leaves_mono {B B' : Nat} (hB : B ≤ B') : (∀ p : PyData, p.leavesShort B = true → p.leavesShort B' = true) := by
  have key : ∀ n : Nat, (∀ p : PyData, sizeOf p < n → p.leavesShort B = true → p.leavesShort B' = true) := by
    intro n
    induction n with
    | zero => intro p h; exact absurd h (Nat.not_lt_zero _)
    | succ n ih =>
      have all : ∀ xs : List PyData, sizeOf xs < n → PyData.leavesShortAll B xs = true → PyData.leavesShortAll B' xs = true := by
        intro xs
        induction xs with
        | nil => intros; rfl
        | cons x xs ihx =>
          intro hs h
          have h' : x.leavesShort B = true ∧ PyData.leavesShortAll B xs = true := by simpa only [PyData.leavesShortAll, Bool.and_eq_true] using h
          have s1 : sizeOf (x :: xs) = 1 + sizeOf x + sizeOf xs := rfl
          simp only [PyData.leavesShortAll, Bool.and_eq_true]
          exact ⟨ih x (by omega) h'.1, ihx (by omega) h'.2⟩
      have kvs : ∀ xs : List (PyData × PyData), sizeOf xs < n → PyData.leavesShortKv B xs = true → PyData.leavesShortKv B' xs = true := by
        intro xs
        induction xs with
        | nil => intros; rfl
        | cons x xs ihx =>
          obtain ⟨k, v⟩ := x
          intro hs h
          have h' : (k.leavesShort B = true ∧ v.leavesShort B = true) ∧ PyData.leavesShortKv B xs = true := by simpa only [PyData.leavesShortKv, Bool.and_eq_true] using h
          have s1 : sizeOf ((k, v) :: xs) = 1 + (1 + sizeOf k + sizeOf v) + sizeOf xs := rfl
          simp only [PyData.leavesShortKv, Bool.and_eq_true]
          exact ⟨⟨ih k (by omega) h'.1.1, ih v (by omega) h'.1.2⟩, ihx (by omega) h'.2⟩
      intro p hs h
      cases p with
      | int i =>
        simp only [PyData.leavesShort, decide_eq_true_eq] at h ⊢
        omega
      | list xs =>
        have s1 : sizeOf (PyData.list xs) = 1 + sizeOf xs := by simp
        simp only [PyData.leavesShort] at h ⊢
        exact all xs (by omega) h
      | tuple xs =>
        have s1 : sizeOf (PyData.tuple xs) = 1 + sizeOf xs := by simp
        simp only [PyData.leavesShort] at h ⊢
        exact all xs (by omega) h
      | dict xs =>
        have s1 : sizeOf (PyData.dict xs) = 1 + sizeOf xs := by simp
        simp only [PyData.leavesShort] at h ⊢
        exact kvs xs (by omega) h
      | _ => simpa only [PyData.leavesShort] using h
  exact fun p h => key (sizeOf p + 1) p (Nat.lt_succ_self _) h
/-- data -/
theorem rp_gx {d : D} (h1 : gx 1000 d = true) (h2 : wt d ≤ 80000) (h3 : dp d ≤ 58) : ∃ t, Rp d t ∧ t.length ≤ 202 * wt d + 200 := by
  have g := (gx_dat (Nat.le_refl _) h1).2
  obtain ⟨p, e, a1, a2, a3, a4⟩ := py_of g
  have a3' := leaves_mono (B := 60) (B' := 200) (by decide) p a3
  have hb := bulk_of g e
  refine ⟨_, rp_of e a3' a4 (by omega) (by omega), ?_⟩
  have hl := PyData.shown_le_bulk 200 (by decide) p a3'
  have h5 : (200 + 2) * p.bulk ≤ (200 + 2) * wt d := Nat.mul_le_mul_left _ hb
  omega
/-- a tuple of such -/
theorem rp_tup {ds : List D} {ps : List PyData} (e : toRs ds = some ps) (h1 : PyData.leavesShortAll 200 ps = true) (h2 : PyData.showableAll ps = true) (h3 : PyData.depthAll ps ≤ 50) (h4 : PyData.bulkAll ps ≤ 80000) : ∃ t, Rp (.tup ds) t := by
  refine ⟨_, rp_of (p := .tuple ps) ?_ ?_ ?_ ?_ ?_⟩
  · show (toRs ds).map PyData.tuple = _
    rw [e]
    rfl
  · simpa only [PyData.leavesShort] using h1
  · simpa only [PyData.showable] using h2
  · simp only [PyData.depth]; omega
  · simp only [PyData.bulk]; exact h4
theorem int_leaf {i : Int} (h : i.natAbs < 10 ^ 150) : PyData.leavesShort 200 (.int i) = true ∧ PyData.showable (.int i) = true := by
  constructor
  · have e := int_text_length_le10 (k := 150) (by decide) h
    simp only [PyData.leavesShort, decide_eq_true_eq]
    show (Str.ofString (toString i)).length ≤ 200
    rw [PySem.ofString_length]
    omega
  · simp only [PyData.showable, decide_eq_true_eq]
    by_cases z : i.natAbs = 0
    · rw [z]; decide
    · exact (Nat.log2_lt z).mpr (Nat.lt_of_lt_of_le h (by decide))
theorem str_leaf {t : Str} (h1 : Sm t) : PyData.leavesShort 200 (.str t) = true := by
  simp only [PyData.leavesShort, List.all_eq_true, decide_eq_true_eq]
  exact h1
theorem rp_raised (a b : Bool) {t : Str} (h1 : Sm t) (h2 : t.length ≤ 79000) : ∃ u, Rp (.tup [.str "raised", .tup [.bl a, .bl b], .str t]) u := by
  have e : t.cps.size = t.length := rfl
  refine rp_tup (ps := [.str "raised", .tuple [.bool a, .bool b], .str t]) rfl ?_ ?_ ?_ ?_
  · show (PyData.leavesShort 200 (.str "raised") && (PyData.leavesShort 200 (.tuple [.bool a, .bool b]) && (PyData.leavesShort 200 (.str t) && true))) = true
    rw [str_leaf h1, str_leaf (t := "raised") (sm_by (by decide))]
    rfl
  · simp [PyData.showableAll, PyData.showable]
  · simp [PyData.depthAll, PyData.depth]
  · have e2 : ("raised" : Str).cps.size = 6 := by decide
    simp only [PyData.bulkAll, PyData.bulk, e, e2]
    omega
theorem rp_returned {v : Int} (h : v.natAbs < 10 ^ 150) : ∃ u, Rp (.tup [.str "returned", .int v]) u := by
  obtain ⟨a, b⟩ := int_leaf h
  refine rp_tup (ps := [.str "returned", .int v]) rfl ?_ ?_ ?_ ?_
  · simp only [PyData.leavesShortAll, str_leaf (t := "returned") (sm_by (by decide)), a, Bool.and_self]
  · show (true && (PyData.showable (.int v) && true)) = true
    rw [b]
    rfl
  · simp [PyData.depthAll, PyData.depth]
  · have e2 : ("returned" : Str).cps.size = 8 := by decide
    simp only [PyData.bulkAll, PyData.bulk, e2]
    omega
theorem rp_ints {v w : Int} (h : v.natAbs < 10 ^ 150) (h2 : w.natAbs < 10 ^ 150) : ∃ u, Rp (.tup [.int v, .int w]) u := by
  obtain ⟨a, b⟩ := int_leaf h
  obtain ⟨a2, b2⟩ := int_leaf h2
  refine rp_tup (ps := [.int v, .int w]) rfl ?_ ?_ ?_ ?_
  · simp only [PyData.leavesShortAll, a, a2, Bool.and_self]
  · simp only [PyData.showableAll, b, b2, Bool.and_self]
  · simp [PyData.depthAll, PyData.depth]
  · simp [PyData.bulkAll, PyData.bulk]
/-- two that are told alike -/
theorem ne_same {ρ : DEnv} {M : Mem} {d : D} {t : Str} {e1 e2 : DA} {Rt : Bool → Mem → Prop} (h : Rp d t) (h1 : ∀ R : List D → Mem → Prop, R [d] M → e1 ρ M R) (h2 : ∀ R : List D → Mem → Prop, R [d] M → e2 ρ M R) (q : Rt false M) :
    dTest (dOp dNe (dCB dRepr e1) (dCB dRepr e2)) ρ M Rt := by
  simp only [dTest, dOp, dCB]
  refine h1 _ (h.2.2 (h2 _ (h.2.2 ?_)))
  refine q_ne_str.mpr ⟨by simp [tyD], _, rfl, ?_⟩
  have e : isStr (.str t) t = true := by simp [isStr]
  rw [e]
  exact q
end DL

set_option Elab.async false
set_option linter.all false
set_option maxHeartbeats 4000000
set_option maxRecDepth 100000
/-! D-layer, part 30: zip of any two of: a text, a list, a tuple. -/
namespace DL
open PySem PySem.Spec PyProof.Rows L2

/-- what is drawn from -/
inductive Src
  | txt (x : Str)
  | lst (a : Addr)
  | tup (a : Addr)
namespace Src
def val : Src → V
  | txt x => .str x
  | lst a => .ref a
  | tup a => .ref a
def here (K : PySem.W.Frag) (S : Src) (H : Hp) : Prop := match S with
  | txt _ => True
  | lst a => ∃ xs : List V, SqL K H a xs
  | tup a => ∃ xs : List V, SqT K H a xs
def at_ (K : PySem.W.Frag) (S : Src) (H : Hp) (i : Nat) (v : V) : Prop := match S with
  | txt x => ∃ c, x.cps[i]? = some c ∧ v = .str ⟨#[c]⟩
  | lst a => ∃ xs : List V, SqL K H a xs ∧ xs[i]? = some v
  | tup a => ∃ xs : List V, SqT K H a xs ∧ xs[i]? = some v
def yl (K : PySem.W.Frag) (S : Src) (H : Hp) (i : Nat) (v : V) : Prop := match S with
  | txt x => ∃ c, x.cps[i]? = some c ∧ v = .str ⟨#[c]⟩
  | lst a => ∀ xs : List V, SqL K H a xs → xs[i]? = some v
  | tup a => ∀ xs : List V, SqT K H a xs → xs[i]? = some v
def off (K : PySem.W.Frag) (S : Src) (H : Hp) (i : Nat) : Prop := match S with
  | txt x => x.cps.size ≤ i
  | lst a => ∃ xs : List V, SqL K H a xs ∧ xs.length ≤ i
  | tup a => ∃ xs : List V, SqT K H a xs ∧ xs.length ≤ i
def St (S : Src) (it : Addr) (h : Heap) (i : Nat) : Prop := match S with
  | txt x => ∃ t, h.IsStrIter it (PySem.strIterType x) x t i
  | lst a => h.IsListIter it a i
  | tup a => h.IsTupleIter it a i
def fp (S : Src) (it : Addr) : List Addr := match S with
  | txt _ => [it]
  | lst a => [it, a]
  | tup a => [it, a]
def apart (S : Src) (it : Addr) : Prop := match S with
  | txt _ => True
  | lst a => a ≠ it
  | tup a => a ≠ it
theorem St.get {S : Src} {it : Addr} {h : Heap} {i : Nat} (st : S.St it h i) : ∃ o ds, h.get? it = some o ∧ o.data = .fields ds := by
  cases S with
  | txt x => obtain ⟨t, o, ho, _, hd⟩ := st; exact ⟨o, _, ho, hd⟩
  | lst a => obtain ⟨o, ho, _, hd⟩ := st; exact ⟨o, _, ho, hd⟩
  | tup a => obtain ⟨o, ho, _, hd⟩ := st; exact ⟨o, _, ho, hd⟩
theorem St.move {S : Src} {it : Addr} {h h' : Heap} {i : Nat} (st : S.St it h i) (k : ∀ o, h.get? it = some o → h'.get? it = some o) : S.St it h' i := by
  cases S with
  | txt x => obtain ⟨t, o, ho, r⟩ := st; exact ⟨t, o, k o ho, r⟩
  | lst a => exact Heap.IsListIter.at st k
  | tup a => exact Heap.IsTupleIter.at st k
section
variable {X : Cx} {pins : List (Addr × Obj)} {σ : L2.St} {H : Hp} {s : Shared} {E : XK}
theorem drawsI {S : Src} (I : Inv X pins σ H s) (hh : X.A.in1.handled = none) {it : Addr} {i : Nat} {v : V} (st : S.St it s.heap i) (ap : S.apart it) (g : S.at_ X.K H i v) :
    ∃ n P St', Draws X.prog X.w X.A.in1 it (S.fp it) n P St' ∧ St' i s.heap ∧ i < n ∧ (∀ u, P i u → RelV v u) ∧ (∀ h, St' (i + 1) h → S.St it h (i + 1)) ∧ S.yl X.K H i v := by
  cases S with
  | txt x =>
    obtain ⟨t, st⟩ := st
    obtain ⟨c, hc, rfl⟩ := g
    refine ⟨_, _, _, Draws.text (A := X.A.in1) hh it x t, st, (Array.getElem?_eq_some_iff.mp hc).1, fun u ⟨c', u', e1, e2⟩ => ?_, fun h q => ⟨t, q⟩, ⟨c, hc, rfl⟩⟩
    rw [hc] at e1
    cases e1
    exact ⟨_, e2⟩
  | lst a =>
    obtain ⟨xs, hq, hx⟩ := g
    obtain ⟨its, rv, p, _⟩ := I.list hq
    obtain ⟨u, hu, ru⟩ := rv.get hx
    have hu' : its.toArray[i]? = some u := by simpa using hu
    refine ⟨_, _, _, Draws.list (A := X.A.in1) hh it a ap its.toArray, ⟨st, p.isList⟩, (Array.getElem?_eq_some_iff.mp hu').1, fun y e => ?_, fun h q => q.1, fun ys hy => by rw [I.list_inj hy hq]; exact hx⟩
    rw [hu'] at e
    cases e
    exact ru
  | tup a =>
    obtain ⟨xs, hq, hx⟩ := g
    obtain ⟨its, rv, p, _⟩ := I.tuple hq
    obtain ⟨u, hu, ru⟩ := rv.get hx
    have hu' : its.toArray[i]? = some u := by simpa using hu
    refine ⟨_, _, _, Draws.tuple (A := X.A.in1) hh it a ap its.toArray, ⟨st, p⟩, (Array.getElem?_eq_some_iff.mp hu').1, fun y e => ?_, fun h q => q.1, fun ys hy => by rw [I.tuple_inj hy hq]; exact hx⟩
    rw [hu'] at e
    cases e
    exact ru
theorem drawsE {S : Src} (I : Inv X pins σ H s) (hh : X.A.in1.handled = none) {it : Addr} {i : Nat} (st : S.St it s.heap i) (ap : S.apart it) (g : S.off X.K H i) :
    ∃ P St', Draws X.prog X.w X.A.in1 it (S.fp it) i P St' ∧ St' i s.heap := by
  cases S with
  | txt x =>
    obtain ⟨t, st⟩ := st
    have hx : x.cps[i]? = none := Array.getElem?_eq_none g
    refine ⟨fun _ _ => True, fun j h => j = i ∧ h.IsStrIter it (PySem.strIterType x) x t i, {
      live := fun _ _ st => let ⟨o, ho, _⟩ := st.2; ⟨o, ho⟩
      frame := fun _ _ _ st hk => let ⟨o, ho, r⟩ := st.2; ⟨st.1, o, hk it (by simp [fp]) o ho, r⟩
      item := fun j s Q E hj st _ => absurd st.1 (Nat.ne_of_lt hj)
      done := fun s Q E st hE => ?_ }, rfl, st⟩
    have st2 := st.2
    cases ha : x.cps.all (· < 128)
    · simp only [PySem.strIterType, ha, Bool.false_eq_true, if_false] at st2
      exact PySem.wpAny_nextOf_wide_end hh st2 hx hE
    · simp only [PySem.strIterType, ha, if_true] at st2
      exact PySem.wpAny_nextOf_ascii_end hh st2 hx hE
  | lst a =>
    obtain ⟨xs, hq, hx⟩ := g
    obtain ⟨its, rv, p, _⟩ := I.list hq
    have hl := rv.length
    have hnone : its.toArray[i]? = none := by simp; omega
    exact ⟨fun _ _ => True, fun j h => j = i ∧ h.IsListIter it a i ∧ h.IsList a its.toArray, {
      live := fun _ _ st => let ⟨o, ho, _⟩ := st.2.1; ⟨o, ho⟩
      frame := fun _ _ _ st hk => ⟨st.1, st.2.1.at fun o e => hk it (by simp [fp]) o e, st.2.2.at fun o e => hk a (by simp [fp]) o e⟩
      item := fun j s Q E hj st _ => absurd st.1 (Nat.ne_of_lt hj)
      done := fun s Q E st hE => PySem.wpAny_nextOf_list_end hh st.2.1 st.2.2 hnone hE }, rfl, st, p.isList⟩
  | tup a =>
    obtain ⟨xs, hq, hx⟩ := g
    obtain ⟨its, rv, p, _⟩ := I.tuple hq
    have hl := rv.length
    have hnone : its.toArray[i]? = none := by simp; omega
    exact ⟨fun _ _ => True, fun j h => j = i ∧ h.IsTupleIter it a i ∧ h.IsTuple a its.toArray, {
      live := fun _ _ st => let ⟨o, ho, _⟩ := st.2.1; ⟨o, ho⟩
      frame := fun _ _ _ st hk => ⟨st.1, st.2.1.at fun o e => hk it (by simp [fp]) o e, st.2.2.at fun o e => hk a (by simp [fp]) o e⟩
      item := fun j s Q E hj st _ => absurd st.1 (Nat.ne_of_lt hj)
      done := fun s Q E st hE => PySem.wpAny_nextOf_tuple_end hh st.2.1 st.2.2 hnone hE }, rfl, st, p⟩
end
end Src
/-- the two at each turn, the items in new pairs -/
def ItZ (K : PySem.W.Frag) (S1 S2 : Src) : It :=
  ⟨fun i H => (∃ x, S1.at_ K H i x) ∧ ∃ y, S2.at_ K H i y,
    fun i H v H' => ∃ T x y, v = .ref T ∧ H T = none ∧ H' = upd H T (.tup [x, y]) ∧ S1.yl K H i x ∧ S2.yl K H i y,
    fun i H => (S1.off K H i ∧ (S2.off K H i ∨ ∃ y, S2.at_ K H i y)) ∨ (S2.off K H i ∧ ∃ x, S1.at_ K H i x)⟩
theorem turn_zipS {P : Program} {w : World} {K : PySem.W.Frag} {elts : List Expr} {kk : Nat} {tpos : Pos} {S1 S2 : Src} {z TI TO i1 i2 : Addr} (D : ZipSep2 z TI TO i1 i2 (S1.fp i1) (S2.fp i2)) (d12 : i1 ≠ i2) (p1 : S1.apart i1) (p2 : S2.apart i2) :
    Turn P w K (.Tuple elts kk tpos) (ItZ K S1 S2) [z, TI, TO, i1, i2] z (fun i h => IsZip h z TI TO .none ∧ IsPair h TI (.ref i1) (.ref i2) ∧ (∃ x y, IsPair h TO x y) ∧ S1.St i1 h i ∧ S2.St i2 h i) where
  mem := by simp
  obj := fun i h st c hc => by
    obtain ⟨hz, hTI, ⟨x, y, hTO⟩, h1, h2⟩ := st
    obtain ⟨o1, _, e1, d1⟩ := h1.get
    obtain ⟨o2, _, e2, d2⟩ := h2.get
    have e' : c = z ∨ c = TI ∨ c = TO ∨ c = i1 ∨ c = i2 := by simpa using hc
    rcases e' with q | q | q | q | q
    · rw [q]; exact ⟨_, hz, fun v q => nomatch q⟩
    · rw [q]; exact ⟨_, hTI, fun v q => nomatch q⟩
    · rw [q]; exact ⟨_, hTO, fun v q => nomatch q⟩
    · rw [q]; exact ⟨o1, e1, fun v q => by rw [d1] at q; cases q⟩
    · rw [q]; exact ⟨o2, e2, fun v q => by rw [d2] at q; cases q⟩
  keep := fun i h h' st k => by
    obtain ⟨hz, hTI, ⟨x, y, hTO⟩, h1, h2⟩ := st
    exact ⟨k z (by simp) _ hz, k TI (by simp) _ hTI, ⟨x, y, k TO (by simp) _ hTO⟩, h1.move fun o q => k i1 (by simp) o q, h2.move fun o q => k i2 (by simp) o q⟩
  item := by
    intro X hP hw hK hc i pins s σ H E I hf st hg
    subst hP hw hK
    obtain ⟨hz, hTI, ⟨x0, y0, hTO⟩, h1, h2⟩ := st
    obtain ⟨⟨x, g1⟩, ⟨y, g2⟩⟩ := hg
    have hh := I.ok.hd hc
    obtain ⟨n1, P1, St1, D1, st1, l1, r1, b1, y1⟩ := Src.drawsI I hh h1 p1 g1
    obtain ⟨n2, P2, St2, D2, st2, l2, r2, b2, y2⟩ := Src.drawsI I hh h2 p2 g2
    have hzl : z < s.heap.objs.size := Heap.lt_size hz
    refine wpAny_pyNext_zipD2_item D D1 D2 hz hTI hTO st1 st2 l1 l2 fun u1 u2 h' tk e1 e2 z' TO' q1 q2 hT hsz hk => ?_
    refine ⟨_, rfl, wpAny_letOwnedTupleGo_zip (s := { s with heap := h', toks := tk }) z' fun h'' z'' sb => ?_⟩
    have hT2 : h''.get? s.heap.objs.size = some { cls := .type "tuple", data := .seq #[u1, u2] } := (sb.2 _ (Nat.ne_of_gt hzl)).trans hT
    have new : ObjOk X.prog X.w (upd H s.heap.objs.size (.tup [x, y])) h'' s.heap.objs.size (.tup [x, y]) :=
      ⟨by show 2 ≤ sizeLine; decide, [u1, u2], .cons (r1 _ e1) (.cons (r2 _ e2) .nil), ⟨_, hT2, rfl, _, rfl⟩⟩
    have I1 : Inv X pins σ (upd H s.heap.objs.size (.tup [x, y])) { s with heap := h'', toks := tk } :=
      I.turnedNew (t' := tk) (ch := [z, TI, TO, i1, i2]) (fun c o hb q => (sb.2 c (fun q' => hb (by simp [q']))).trans (hk c o (fun q' => hb (by simp [q'])) (fun q' => hb (by simp [q'])) (fun q' => hb (by simp [q'])) (fun q' => hb (by simp [q'])) q)) hf (Nat.le_refl _) new
    refine ⟨.ref s.heap.objs.size, _, I1, rfl, ⟨_, x, y, rfl, I.hok.fresh (Nat.le_refl _), rfl, y1, y2⟩, ⟨z'', ?_, ⟨u1, u2, ?_⟩, ?_, ?_⟩, fun c hcm => ?_⟩
    · exact (sb.2 _ D.TIz).trans (hk _ _ D.TIz D.TITO D.TIi1 D.TIi2 hTI)
    · exact (sb.2 _ D.TOz).trans TO'
    · exact (b1 _ q1).move fun o q => (sb.2 _ D.zi1.symm).trans q
    · exact (b2 _ q2).move fun o q => (sb.2 _ D.zi2.symm).trans q
    · have hlt : c < s.heap.objs.size := by
        have e' : c = z ∨ c = TI ∨ c = TO ∨ c = i1 ∨ c = i2 := by simpa using hcm
        rcases e' with q | q | q | q | q
        · rw [q]; exact hzl
        · rw [q]; exact Heap.lt_size hTI
        · rw [q]; exact Heap.lt_size hTO
        · rw [q]; obtain ⟨_, _, e1, _⟩ := h1.get; exact Heap.lt_size e1
        · rw [q]; obtain ⟨_, _, e2, _⟩ := h2.get; exact Heap.lt_size e2
      rw [upd_ne (Nat.ne_of_lt hlt)]
      exact (hf c hcm).1
  done := by
    intro X hP hw hK hc i pins s σ H E I hf st hg
    subst hP hw hK
    obtain ⟨hz, hTI, ⟨x0, y0, hTO⟩, h1, h2⟩ := st
    have hh := I.ok.hd hc
    have fin : ∀ {n1 n2 : Nat} {P1 P2 St1 St2}, Draws X.prog X.w X.A.in1 i1 (S1.fp i1) n1 P1 St1 → Draws X.prog X.w X.A.in1 i2 (S2.fp i2) n2 P2 St2 → St1 i s.heap → St2 i s.heap → i ≤ n1 → i ≤ n2 → (i = n1 ∨ i = n2) → _ := fun {n1 n2 P1 P2 St1 St2} D1 D2 st1 st2 l1 l2 le =>
      wpAny_pyNext_zipD2_end (Q := fun r s' => r = none ∧ Inv X pins σ H s') (E := E) D D1 D2 hz hTI hTO st1 st2 l1 l2 le fun h' tk hk => ⟨rfl, I.turnedL (t' := tk) (ch := [z, TI, TO, i1, i2]) (fun c o hb q =>
        hk c o (fun q' => hb (by simp [q'])) (fun q' => hb (by simp [q'])) (fun q' => hb (by simp [q'])) (fun q' => hb (by simp [q'])) q) hf⟩
    rcases hg with ⟨o1, o2 | ⟨y, g2⟩⟩ | ⟨o2, x, g1⟩
    · obtain ⟨P1, St1, D1, st1⟩ := Src.drawsE I hh h1 p1 o1
      obtain ⟨P2, St2, D2, st2⟩ := Src.drawsE I hh h2 p2 o2
      exact fin D1 D2 st1 st2 (Nat.le_refl _) (Nat.le_refl _) (.inl rfl)
    · obtain ⟨P1, St1, D1, st1⟩ := Src.drawsE I hh h1 p1 o1
      obtain ⟨n2, P2, St2, D2, st2, l2, _⟩ := Src.drawsI I hh h2 p2 g2
      exact fin D1 D2 st1 st2 (Nat.le_refl _) (Nat.le_of_lt l2) (.inl rfl)
    · obtain ⟨n1, P1, St1, D1, st1, l1, _⟩ := Src.drawsI I hh h1 p1 g1
      obtain ⟨P2, St2, D2, st2⟩ := Src.drawsE I hh h2 p2 o2
      exact fin D1 D2 st1 st2 (Nat.le_of_lt l1) (Nat.le_refl _) (.inr rfl)
  self := fun A i s Q E st h => wpAny_pyIter_zip st.1 h
/-! ### the call -/
def Mk (v : Value) (o : Obj) (h : Heap) : Prop := ∀ (prog : Program) (w : World) (A : Around) (E : Value → Shared → Prop) (Q : Value → Shared → Prop) (g : Array GenState) (d : Drawn) (tk : Nat) (os : OsState), Q (.ref h.objs.size) ⟨h.push o, g, d, tk, os⟩ → wpAny (model prog w) A (pyIter v) Q E ⟨h, g, d, tk, os⟩
abbrev zH3 (h : Heap) (o1 o2 : Obj) : Heap := ((h.push o1).push o2).push { cls := .type "tuple", data := .seq #[.ref h.objs.size, .ref (h.push o1).objs.size] }
abbrev zH4 (h : Heap) (o1 o2 : Obj) : Heap := (zH3 h o1 o2).push { cls := .type "tuple", data := .seq #[.none, .none] }
abbrev zH5 (h : Heap) (o1 o2 : Obj) : Heap := (zH4 h o1 o2).push { cls := .type "zip", data := .fields #[.none, .bool false, .bool false, .ref ((h.push o1).push o2).objs.size, .ref (zH3 h o1 o2).objs.size] }
theorem meets_zip (v1 v2 : Value) (o1 o2 : Obj) :
    Meets (Builtin.«zip.__new__» ⟨[.type "zip", v1, v2], []⟩) (fun _ R s => Mk v1 o1 s.heap ∧ Mk v2 o2 (s.heap.push o1) ∧
      R (.ok (.ret (.ref (zH4 s.heap o1 o2).objs.size))) { s with heap := zH5 s.heap o1 o2 }) :=
  .of_wp fun prog w A R s h => by
    obtain ⟨hp, g, d, tk, os⟩ := s; obtain ⟨m1, m2, h⟩ := h
    have hsub := sub_zip
    have n1 : ∀ {A : Around} {E Q : Value → Shared → Prop}, Q (.ref hp.objs.size) ⟨hp.push o1, g, d, tk, os⟩ → wpAny (model prog w) A (pyIter v1) Q E ⟨hp, g, d, tk, os⟩ := fun {A E Q} q => m1 prog w A E Q g d tk os q
    have n2 : ∀ {A : Around} {E Q : Value → Shared → Prop}, Q (.ref (hp.push o1).objs.size) ⟨(hp.push o1).push o2, g, d, tk, os⟩ → wpAny (model prog w) A (pyIter v2) Q E ⟨hp.push o1, g, d, tk, os⟩ := fun {A E Q} q => m2 prog w A E Q g d tk os q
    wp_walk using n1, n2
    exact ⟨_, rfl, h⟩
section
variable {prog : Program} {w : World} {A : Around} {E : Value → Shared → Prop} {s : Shared}
theorem call_zipS {v1 v2 : Value} {o1 o2 : Obj} {Q : Value → Shared → Prop} (m1 : Mk v1 o1 s.heap) (m2 : Mk v2 o2 (s.heap.push o1)) (f1 : o1.isFreed = false) (f2 : o2.isFreed = false)
    (h : ∀ h', IsZip h' (s.heap.objs.size + 4) (s.heap.objs.size + 2) (s.heap.objs.size + 3) .none → IsPair h' (s.heap.objs.size + 2) (.ref s.heap.objs.size) (.ref (s.heap.objs.size + 1)) →
      IsPair h' (s.heap.objs.size + 3) .none .none → h'.get? s.heap.objs.size = some o1 → h'.get? (s.heap.objs.size + 1) = some o2 →
      (∀ c o, s.heap.get? c = some o → h'.get? c = some o) → Q (.ref (s.heap.objs.size + 4)) { s with heap := h' }) :
    wpAny (model prog w) A (call (.type "zip") [v1, v2]) Q E s := by
  refine callType_new F.called_zip (by decide) (F.typeCall_zip_2 _ _) (F.newCall_zip_2 _ _) (fun obj => F.args_object_init_3 obj _ _) F.entry_zip_new
    (meets_zip v1 v2 o1 o2) ⟨m1, m2, ?_⟩
  have z1 : (s.heap.push o1).objs.size = s.heap.objs.size + 1 := Heap.size_push ..
  have z2 : ((s.heap.push o1).push o2).objs.size = s.heap.objs.size + 2 := by rw [Heap.size_push, z1]
  have z3 : (zH3 s.heap o1 o2).objs.size = s.heap.objs.size + 3 := by rw [Heap.size_push, z2]
  have z4 : (zH4 s.heap o1 o2).objs.size = s.heap.objs.size + 4 := by rw [Heap.size_push, z3]
  have g5 : (zH5 s.heap o1 o2).get? (zH4 s.heap o1 o2).objs.size = some _ := Heap.get?_push_size _ rfl
  have g4 : (zH5 s.heap o1 o2).get? (zH3 s.heap o1 o2).objs.size = some _ := Heap.get?_push_of_some _ (Heap.get?_push_size _ rfl)
  have g3 : (zH5 s.heap o1 o2).get? ((s.heap.push o1).push o2).objs.size = some _ := Heap.get?_push_of_some _ (Heap.get?_push_of_some _ (Heap.get?_push_size _ rfl))
  have g2 : (zH5 s.heap o1 o2).get? (s.heap.push o1).objs.size = some _ := Heap.get?_push_of_some _ (Heap.get?_push_of_some _ (Heap.get?_push_of_some _ (Heap.get?_push_size _ f2)))
  have g1 : (zH5 s.heap o1 o2).get? s.heap.objs.size = some _ := Heap.get?_push_of_some _ (Heap.get?_push_of_some _ (Heap.get?_push_of_some _ (Heap.get?_push_of_some _ (Heap.get?_push_size _ f1))))
  show _ ∧ _
  rw [z2, z3, z4] at g5
  rw [z1, z2] at g3
  rw [z3] at g4
  rw [z1] at g2
  rw [z4]
  exact ⟨⟨_, g5, rfl⟩, h _ g5 g3 g4 g1 g2 fun c o x =>
    Heap.get?_push_of_some _ (Heap.get?_push_of_some _ (Heap.get?_push_of_some _ (Heap.get?_push_of_some _ (Heap.get?_push_of_some _ x))))⟩
end
theorem nz {a b : Nat} (h : ¬ a = b) : (show Addr from a) ≠ b := h
namespace Src
def bnd (S : Src) (n : Nat) : Prop := match S with
  | txt _ => True
  | lst a => a < n
  | tup a => a < n
theorem bnd.apart {S : Src} {n it : Nat} (b : S.bnd n) (h : n ≤ it) : S.apart it := by
  cases S with
  | txt _ => trivial
  | lst a => exact Nat.ne_of_lt (Nat.lt_of_lt_of_le b h)
  | tup a => exact Nat.ne_of_lt (Nat.lt_of_lt_of_le b h)
theorem bnd.notin {S : Src} {n it c : Nat} (b : S.bnd n) (h : n ≤ c) (hne : c ≠ it) : c ∉ S.fp it := by
  cases S with
  | txt _ => simpa [fp] using hne
  | lst a =>
    have b' : a < n := b
    intro q
    rcases (show c = it ∨ c = a by simpa [fp] using q) with q | q
    · exact hne q
    · exact absurd b' (by rw [← q]; exact Nat.not_lt.mpr h)
  | tup a =>
    have b' : a < n := b
    intro q
    rcases (show c = it ∨ c = a by simpa [fp] using q) with q | q
    · exact hne q
    · exact absurd b' (by rw [← q]; exact Nat.not_lt.mpr h)
theorem mem_fp {S : Src} {it : Nat} : it ∈ S.fp it := by cases S <;> simp [fp]
theorem mk {X : Cx} {pins : List (Addr × Obj)} {σ : L2.St} {H : Hp} {s : Shared} (I : Inv X pins σ H s) {S : Src} {u : Value} (r : RelV S.val u) (hs : S.here X.K H) :
    ∃ o, o.isFreed = false ∧ (∀ h, (∀ c o, s.heap.get? c = some o → h.get? c = some o) → Mk u o h) ∧ (∀ h it, h.get? it = some o → S.St it h 0) ∧ S.bnd s.heap.objs.size := by
  cases S with
  | txt x =>
    obtain ⟨t, rfl⟩ := r
    refine ⟨{ cls := .type (PySem.strIterType x), data := .fields #[.str x t, .int 0 0] }, rfl, fun h _ prog w A E Q g d tk os q => ?_, fun h it e => ⟨t, _, e, rfl, rfl⟩, trivial⟩
    cases ha : x.cps.all (· < 128)
    · simp only [PySem.strIterType, ha, Bool.false_eq_true, if_false] at q
      exact wpAny_pyIter_wide ha q
    · simp only [PySem.strIterType, ha, if_true] at q
      exact wpAny_pyIter_ascii ha q
  | lst a =>
    cases r
    obtain ⟨xs, hq⟩ := hs
    obtain ⟨its, rv, p, _⟩ := I.list hq
    exact ⟨{ cls := .type "list_iterator", data := .fields #[.ref a, .int 0 0] }, rfl, fun h k prog w A E Q g d tk os q => wpAny_pyIter_list (s := ⟨h, g, d, tk, os⟩) (p.isList.at fun o e => k a o e) q, fun h it e => ⟨_, e, rfl, rfl⟩, p.lt⟩
  | tup a =>
    cases r
    obtain ⟨xs, hq⟩ := hs
    obtain ⟨its, rv, p, _⟩ := I.tuple hq
    obtain ⟨ob, ho, _⟩ := id p
    exact ⟨{ cls := .type "tuple_iterator", data := .fields #[.ref a, .int 0 0] }, rfl, fun h k prog w A E Q g d tk os q => wpAny_pyIter_tuple (s := ⟨h, g, d, tk, os⟩) (Heap.IsTuple.at (show s.heap.IsTuple a its.toArray from p) fun o e => k a o e) q, fun h it e => ⟨_, e, rfl, rfl⟩, Heap.lt_size ho⟩
end Src
def iZipS (K : PySem.W.Frag) (ta : TA) : TI := fun σ H R => ta σ H fun vs H1 => ∃ S1 S2 : Src, vs = [S1.val, S2.val] ∧ S1.here K H1 ∧ S2.here K H1 ∧ R (ItZ K S1 S2) H1
theorem pi_zipS {X : Cx} {e e2 : Expr} {ta : TA} {p pos tpos : Pos} {elts : List Expr} {kk : Nat} (hg : Gl X "zip") (hm : X.mg "zip" = none) (ha : PA X [e, e2] ta)
    (hs : starEach [e, e2] X.env = (false, eval e X.env) :: starEach [e2] X.env := by rfl) (hpl : (backTo pos (starEach [e2] X.env)).any (·.1) = false := by rfl) :
    PI X (.Tuple elts kk tpos) (.Call (.Name "zip" p) [e, e2] [] pos) (iZipS X.K ta) := by
  refine ⟨fun pins s σ H R I h => ?_⟩
  refine Call_ (ld_blt I hg hm PyProof.Rows.boot_zip (PyProof.Rows.callWith_type1 (thn (ha.run pos pins s σ H _ I h) fun us s1 ⟨vs, H1, I1, r1, q1⟩ => ?_) hs hpl))
  obtain ⟨S1, S2, ex, h1, h2, q⟩ := q1
  subst ex
  cases r1 with
  | cons r rr =>
    cases rr with
    | cons r' rr =>
      cases rr
      have fresh5 : ∀ c, c ∈ [s1.heap.objs.size + 4, s1.heap.objs.size + 2, s1.heap.objs.size + 3, s1.heap.objs.size, s1.heap.objs.size + 1] → FpOk X pins H1 c := fun c hcm => by
        have e' : c = s1.heap.objs.size + 4 ∨ c = s1.heap.objs.size + 2 ∨ c = s1.heap.objs.size + 3 ∨ c = s1.heap.objs.size ∨ c = s1.heap.objs.size + 1 := by simpa using hcm
        have hle : s1.heap.objs.size ≤ c := by
          rcases e' with z | z | z | z | z
          · rw [z]; exact Nat.le_add_right _ _
          · rw [z]; exact Nat.le_add_right _ _
          · rw [z]; exact Nat.le_add_right _ _
          · rw [z]; exact Nat.le_refl _
          · rw [z]; exact Nat.le_add_right _ _
        exact I1.fpOk hle (I1.hok.fresh hle)
      obtain ⟨o1, f1, m1, t1, b1⟩ := Src.mk I1 r h1
      obtain ⟨o2, f2, m2, t2, b2⟩ := Src.mk I1 r' h2
      refine call_zipS (m1 _ fun _ _ e => e) (m2 _ fun _ _ e => Heap.get?_push_of_some _ e) f1 f2 fun h' hz hTI hTO g1 g2 hk => wpAny_pyIter_zip hz ?_
      have I2 : Inv X pins σ H1 { s1 with heap := h' } := I1.kept (t' := s1.toks) hk
      have D : ZipSep2 (s1.heap.objs.size + 4) (s1.heap.objs.size + 2) (s1.heap.objs.size + 3) s1.heap.objs.size (s1.heap.objs.size + 1) (S1.fp s1.heap.objs.size) (S2.fp (s1.heap.objs.size + 1)) := {
        TIz := nz (by omega), TOz := nz (by omega), TITO := nz (by omega), TIi1 := nz (by omega), TIi2 := nz (by omega), mem1 := Src.mem_fp, mem2 := Src.mem_fp
        zf1 := b1.notin (by omega) (nz (by omega)), Tf1 := b1.notin (by omega) (nz (by omega)), zf2 := b2.notin (by omega) (nz (by omega)), Tf2 := b2.notin (by omega) (nz (by omega))
        sep1_2 := b2.notin (by omega) (nz (by omega)), sep2_1 := b1.notin (by omega) (nz (by omega)) }
      exact ⟨s1.heap.objs.size + 4, [s1.heap.objs.size + 4, s1.heap.objs.size + 2, s1.heap.objs.size + 3, s1.heap.objs.size, s1.heap.objs.size + 1], _, _, H1, rfl, I2, turn_zipS D (nz (by omega)) (b1.apart (by omega)) (b2.apart (by omega)), ⟨hz, hTI, ⟨_, _, hTO⟩, t1 _ _ g1, t2 _ _ g2⟩, fresh5, q⟩
/-! ### by values -/
def SrcD (K : KZ) (S : Src) (items : List D) (G : Mem → Prop) (M : Mem) (H : Hp) : Prop := ∀ M2 H2, Frame M H M2 H2 → MAbs K M2 H2 → G M2 → ∀ i : Nat,
  (items.length ≤ i → S.off K.k H2 i) ∧ ∀ d, items[i]? = some d → (∃ v, S.at_ K.k H2 i v) ∧ ∀ v, S.yl K.k H2 i v → Rep K M2 H2 v d
section
variable {K : KZ} {M : Mem} {H : Hp} {a : Addr} {vs : List V} {ds : List D}
theorem srd_list (h : RdL K M H a vs) (r : Reps K M H vs ds) : SrcD K (.lst a) ds (fun _ => True) M H := fun M2 H2 f A _ i => by
  have q := (h.fr f).sq
  have r2 := r.fr f
  refine ⟨fun hi => ⟨vs, q, by rw [r.length]; exact hi⟩, fun d hd => ?_⟩
  obtain ⟨v, hv, rv⟩ := r2.get hd
  exact ⟨⟨v, vs, q, hv⟩, fun x y => by
    have := y vs q
    rw [hv] at this
    cases this
    exact rv⟩
theorem srd_tup (h : RdT K M H a vs) (r : Reps K M H vs ds) : SrcD K (.tup a) ds (fun _ => True) M H := fun M2 H2 f A _ i => by
  have q := (h.fr f).sq
  have r2 := r.fr f
  refine ⟨fun hi => ⟨vs, q, by rw [r.length]; exact hi⟩, fun d hd => ?_⟩
  obtain ⟨v, hv, rv⟩ := r2.get hd
  exact ⟨⟨v, vs, q, hv⟩, fun x y => by
    have := y vs q
    rw [hv] at this
    cases this
    exact rv⟩
theorem srd_ref : SrcD K (.lst a) ds (fun M => M a = some (.lst ds)) M H := fun M2 H2 f A g i => by
  obtain ⟨us, e, r2⟩ := A.at_ a _ g
  have q : SqL K.k H2 a us := .inl (.inl e)
  refine ⟨fun hi => ⟨us, q, by rw [r2.length]; exact hi⟩, fun d hd => ?_⟩
  obtain ⟨v, hv, rv⟩ := r2.get hd
  exact ⟨⟨v, us, q, hv⟩, fun x y => by
    have := y us q
    rw [hv] at this
    cases this
    exact rv⟩
theorem srd_str {x : Str} : SrcD K (.txt x) (charsD x) (fun _ => True) M H := fun M2 H2 f A _ i => by
  unfold charsD
  refine ⟨fun hi => by rw [List.length_map, Array.length_toList] at hi; exact hi, fun d hd => ?_⟩
  rw [List.getElem?_map] at hd
  cases e : x.cps.toList[i]? with
  | none => rw [e] at hd; cases hd
  | some c =>
    rw [e] at hd
    cases hd
    have e' : x.cps[i]? = some c := by rw [← e, Array.getElem?_toList]
    refine ⟨⟨_, c, e', rfl⟩, fun v ⟨c', ec, ev⟩ => ?_⟩
    subst ev
    rw [e'] at ec
    cases ec
    exact .str _
end
theorem src_of {K : PySem.W.Frag} {z : Addr → Prop} {M : Mem} {H : Hp} {d : D} {v : V} {items : List D} {G : Mem → Prop} (hi : Iter M d items G) (r1 : Rep ⟨K, z⟩ M H v d) (A : MAbs ⟨K, z⟩ M H) :
    ∃ S : Src, v = S.val ∧ S.here K H ∧ ∀ z' : Addr → Prop, (∀ a, z' a → z a ∨ H a = none) → SrcD ⟨K, z'⟩ S items G M H := by
  have zz : ∀ z' : Addr → Prop, (∀ a, z' a → z a ∨ H a = none) → ∀ a, H a ≠ none → z' a → z a := fun z' hz a h y => (hz a y).elim id fun e => absurd e h
  cases d with
  | tup ds =>
    obtain ⟨rfl, rfl⟩ := hi
    obtain ⟨a, vs, rfl, h, r⟩ := rep_tup r1
    exact ⟨.tup a, rfl, ⟨vs, h.sq⟩, fun z' hz => srd_tup (K := ⟨K, z'⟩) (h.elim .inl .inr) (r.zz (zz z' hz))⟩
  | lst ds =>
    obtain ⟨rfl, rfl⟩ := hi
    obtain ⟨a, vs, rfl, h, r⟩ := rep_lst r1
    exact ⟨.lst a, rfl, ⟨vs, h.sq⟩, fun z' hz => srd_list (K := ⟨K, z'⟩) (h.zz (zz z' hz)) (r.zz (zz z' hz))⟩
  | str x =>
    obtain ⟨rfl, rfl⟩ := hi
    obtain rfl := rep_str r1
    exact ⟨.txt x, rfl, trivial, fun z' hz => srd_str⟩
  | ref a =>
    obtain ⟨ha, rfl⟩ := hi
    obtain rfl := rep_ref r1
    obtain ⟨vs, ea, r⟩ := A.at_ a _ ha
    exact ⟨.lst a, rfl, ⟨vs, .inl (.inl ea)⟩, fun z' hz => srd_ref (K := ⟨K, z'⟩)⟩
  | _ => exact hi.elim
def zipD (is js : List D) : List D := List.zipWith (fun x y => .tup [x, y]) is js
theorem zip_at {is js : List D} {i : Nat} {d : D} (h : (zipD is js)[i]? = some d) : ∃ x y, is[i]? = some x ∧ js[i]? = some y ∧ d = .tup [x, y] := by
  unfold zipD at h
  rw [List.getElem?_zipWith] at h
  revert h
  cases is[i]? with
  | none => intro h; cases h
  | some x =>
    cases js[i]? with
    | none => intro h; cases h
    | some y => intro h; cases h; exact ⟨x, y, rfl, rfl, rfl⟩
theorem itd_zip {K : KZ} {M : Mem} {H : Hp} {S1 S2 : Src} {is js : List D} {G1 G2 : Mem → Prop} (h1 : SrcD K S1 is G1 M H) (h2 : SrcD K S2 js G2 M H) : ItD K (ItZ K.k S1 S2) (zipD is js) (fun M => G1 M ∧ G2 M) M H := fun M2 H2 f A g i => by
  obtain ⟨a1, b1⟩ := h1 M2 H2 f A g.1 i
  obtain ⟨a2, b2⟩ := h2 M2 H2 f A g.2 i
  refine ⟨fun hi => ?_, fun d hd => ?_⟩
  · have hl : (zipD is js).length = min is.length js.length := List.length_zipWith
    rw [hl] at hi
    by_cases q1 : is.length ≤ i
    · refine .inl ⟨a1 q1, ?_⟩
      by_cases q2 : js.length ≤ i
      · exact .inl (a2 q2)
      · exact .inr (b2 _ (List.getElem?_eq_getElem (by omega))).1
    · exact .inr ⟨a2 (by omega), (b1 _ (List.getElem?_eq_getElem (by omega))).1⟩
  · obtain ⟨x, y, hx, hy, rfl⟩ := zip_at hd
    obtain ⟨c1, e1⟩ := b1 _ hx
    obtain ⟨c2, e2⟩ := b2 _ hy
    refine ⟨⟨c1, c2⟩, fun v H3 ⟨T, u1, u2, ev, hT, eH, y1, y2⟩ => ?_⟩
    subst ev eH
    exact ⟨.tup (.inl ⟨.inl upd_same, A.free hT⟩) (.cons ((e1 _ y1).fr (Frame.new hT)) (.cons ((e2 _ y2).fr (Frame.new hT)) .nil)), A.new hT, Frame.new hT⟩
/-- zip(x, y) -/
def dZip (ta : DA) : DI := fun ρ M R => ta ρ M fun xs M1 => ∃ x y is js Gx Gy, xs = [x, y] ∧ Iter M1 x is Gx ∧ Iter M1 y js Gy ∧ R (zipD is js) (fun M => Gx M ∧ Gy M) M1
theorem di_zip {X : Cx} {e e2 : Expr} {ta : DA} {p pos tpos : Pos} {elts : List Expr} {kk : Nat} (hm : X.mg "zip" = none) (ha : PAD X [e, e2] ta) (hg : Gl X "zip" := by rfl)
    (hs : starEach [e, e2] X.env = (false, eval e X.env) :: starEach [e2] X.env := by rfl) (hpl : (backTo pos (starEach [e2] X.env)).any (·.1) = false := by rfl) :
    PID X (.Tuple elts kk tpos) (.Call (.Name "zip" p) [e, e2] [] pos) (dZip ta) :=
  (pi_zipS hg hm ha hs hpl).weak fun σ H R ⟨z, ρ, M, R0, S, A, q, F⟩ => ⟨z, ρ, M, _, S, A, q, fun xs M1 vs H1 ⟨x, y, is, js, Gx, Gy, ex, hx, hy, q1⟩ r1 A1 f1 => by
    subst ex
    cases r1 with
    | cons r1 r2 =>
      cases r2 with
      | cons r2 r3 =>
        cases r3
        obtain ⟨S1, e1, k1, d1⟩ := src_of hx r1 A1
        obtain ⟨S2, e2, k2, d2⟩ := src_of hy r2 A1
        subst e1 e2
        exact ⟨S1, S2, rfl, k1, k2, F _ _ _ _ _ q1 A1 f1 fun z' hz => itd_zip (K := ⟨X.K, z'⟩) (d1 z' hz) (d2 z' hz)⟩⟩
end DL

set_option Elab.async false
set_option linter.all false
set_option maxHeartbeats 4000000
set_option maxRecDepth 100000
/-! D-layer, part 31: d.get(k), d.get(k, x); n & 1; [..] * k of a frozen list; list(d), sorted(list(d)). -/
namespace DL
open PySem PySem.Spec PyProof.Rows L2
/-- a dict of either kind -/
def DctAt (M : Mem) (x : D) (ks : List Key) (ds : List D) : Prop := x = .dct ks ds ∨ ∃ a, x = .ref a ∧ M a = some (.dct ks ds)
theorem rep_dctAt {K : KZ} {M : Mem} {H : Hp} {v : V} {x : D} {ks : List Key} {ds : List D} (A : MAbs K M H) (r : Rep K M H v x) (h : DctAt M x ks ds) : ∃ a kvs, v = .ref a ∧ Rd H a (.dK kvs) ∧ kvs.map (·.1) = ks ∧ Reps K M H (kvs.map (·.2)) ds := by
  rcases h with rfl | ⟨a, rfl, em⟩
  · obtain ⟨a, kvs, rfl, h, e1, rs⟩ := rep_dct r
    exact ⟨a, kvs, rfl, h.1, e1, rs⟩
  · obtain rfl := rep_ref r
    obtain ⟨kvs, ea, e1, rs⟩ := A.at_ _ _ em
    exact ⟨a, kvs, rfl, .inl ea, e1, rs⟩
theorem valV_none {K : KZ} {M : Mem} {H : Hp} : ∀ {kvs : List (Key × V)} {ds : List D} {k : Key}, Reps K M H (kvs.map (·.2)) ds → dget (kvs.map (·.1)) ds k = none → valV kvs k = none
  | [], _, _, r, e => rfl
  | (x, v) :: kvs, ds, k, r, e => by
    cases r with
    | cons r rs =>
      by_cases h : x = k
      · have e' : (if x = k then some _ else dget (kvs.map (·.1)) _ k) = none := e
        rw [if_pos h] at e'
        cases e'
      · have e' : (if x = k then some _ else dget (kvs.map (·.1)) _ k) = none := e
        rw [if_neg h] at e'
        exact (valV_neg (p := (x, v)) h).trans (valV_none rs e')
section
variable {X : Cx} {o e f : Expr} {apos cpos pos : Pos} {td ty tx : DE}
def dGet1 (td ty : DE) : DE := fun ρ M R => td ρ M fun x M1 => (∃ ks ds, DctAt M1 x ks ds) ∧ ty ρ M1 fun y M2 => ∃ k ks ds, dkey y = some k ∧ DctAt M2 x ks ds ∧ R ((dget ks ds k).getD .non) M2
theorem de_get1 (hu : X.A.units + 1 < cLine) (ho : PED X o td) (he : PED X e ty) (m : M1 X o "get" apos e cpos := by exact ⟨rfl, rfl, rfl, rfl⟩) : PED X (.Call (.Attribute o "get" apos) [e] [] cpos) (dGet1 td ty) :=
  (pe_dget1 hu ho he m).weak fun σ H Q ⟨z, ρ, M, R, S, A, q, F⟩ => ⟨z, ρ, M, _, S, A, q, fun x M1 v H1 ⟨⟨ks0, ds0, h0⟩, q1⟩ r1 A1 f1 => by
    obtain ⟨a, kvs0, rfl, rd, _, _⟩ := rep_dctAt A1 r1 h0
    refine ⟨a, rfl, .inl ⟨kvs0, rd⟩, z, ρ, M1, _, S.fr f1, A1, q1, fun y M2 u H2 ⟨k, ks, ds, ek, hx, q2⟩ r2 A2 f2 => ?_⟩
    obtain ⟨b, kvs, e1, rd2, e2, rs⟩ := rep_dctAt A2 (r1.fr f2) hx
    cases e1
    subst e2
    obtain rfl := rep_key r2 ek
    refine ⟨valV kvs k, .inl ⟨kvs, k, rd2, rfl, rfl⟩, ?_⟩
    cases hd : dget (kvs.map (·.1)) ds k with
    | none =>
      rw [valV_none rs hd]
      rw [hd] at q2
      exact F _ _ _ _ q2 .non A2 (f1.trans f2)
    | some d =>
      obtain ⟨w, hw, rw⟩ := valV_get rs hd
      rw [hw]
      rw [hd] at q2
      exact F _ _ _ _ q2 rw A2 (f1.trans f2)⟩
def dGet2 (td ty tx : DE) : DE := fun ρ M R => td ρ M fun x M1 => (∃ ks ds, DctAt M1 x ks ds) ∧ ty ρ M1 fun y M2 => tx ρ M2 fun d0 M3 => ∃ k ks ds, dkey y = some k ∧ DctAt M3 x ks ds ∧ R ((dget ks ds k).getD d0) M3
theorem de_get2 (hu : X.A.units + 1 < cLine) (ho : PED X o td) (he : PED X e ty) (hf : PED X f tx) (m : M2 X o "get" apos e f cpos := by exact ⟨rfl, rfl, rfl, rfl⟩) : PED X (.Call (.Attribute o "get" apos) [e, f] [] cpos) (dGet2 td ty tx) :=
  (pe_dget2 hu ho he hf m).weak fun σ H Q ⟨z, ρ, M, R, S, A, q, F⟩ => ⟨z, ρ, M, _, S, A, q, fun x M1 v H1 ⟨⟨ks0, ds0, h0⟩, q1⟩ r1 A1 f1 => by
    obtain ⟨a, kvs0, rfl, rd, _, _⟩ := rep_dctAt A1 r1 h0
    refine ⟨a, rfl, .inl ⟨kvs0, rd⟩, z, ρ, M1, _, S.fr f1, A1, q1, fun y M2 u H2 q2 r2 A2 f2 => ⟨z, ρ, M2, _, S.fr (f1.trans f2), A2, q2, fun d0 M3 w0 H3 ⟨k, ks, ds, ek, hx, q3⟩ r3 A3 f3 => ?_⟩⟩
    obtain ⟨b, kvs, e1, rd2, e2, rs⟩ := rep_dctAt A3 (r1.fr (f2.trans f3)) hx
    cases e1
    subst e2
    obtain rfl := rep_key (r2.fr f3) ek
    refine ⟨valV kvs k, .inl ⟨kvs, k, rd2, rfl, rfl⟩, ?_⟩
    cases hd : dget (kvs.map (·.1)) ds k with
    | none =>
      rw [valV_none rs hd]
      rw [hd] at q3
      exact F _ _ _ _ q3 r3 A3 ((f1.trans f2).trans f3)
    | some d =>
      obtain ⟨w, hw, rw⟩ := valV_get rs hd
      rw [hw]
      rw [hd] at q3
      exact F _ _ _ _ q3 rw A3 ((f1.trans f2).trans f3)⟩
/-! ### n & 1 -/
def dOdd : D2 := fun x y M R => ∃ n : Nat, x = .int (n : Int) ∧ y = .int 1 ∧ R (.int ((n % 2 : Nat) : Int)) M
theorem od_odd : OpR X (binaryOp .BitAnd) (lift2 X.K dOdd) := op_odd.weak fun v u H Q ⟨z, M, x, y, R, A, rx, ry, ⟨n, e1, e2, q⟩, F⟩ => by
  subst e1 e2
  exact ⟨n, rep_int rx, rep_int ry, F.at_ A q (.int _)⟩
/-! ### list(d) -/
def dListK : DN := fun xs M R => ∃ x ks ds, xs = [x] ∧ DctAt M x ks ds ∧ R (.lst (ks.map keyD)) M
theorem reps_keys {K : KZ} {M : Mem} {H : Hp} : ∀ (ks : List Key), Reps K M H (ks.map kV) (ks.map keyD)
  | [] => .nil
  | .inl i :: ks => .cons (.int i) (reps_keys ks)
  | .inr s :: ks => .cons (.str s) (reps_keys ks)
theorem cd_listK (hc : X.calm = true) : CallR X (.type "list") (liftN X.K dListK) := (call_listD hc).weak fun xs H Q ⟨z, M, es, R, A, r, ⟨x, ks, ds, e, h, q⟩, F⟩ => by
  subst e
  cases r with
  | cons r rs =>
    cases rs
    obtain ⟨a, kvs, rfl, rd, e1, _⟩ := rep_dctAt A r h
    subst e1
    refine ⟨a, kvs, rfl, rd, fun p hp => F.lst A hp ?_ q⟩
    have := reps_keys (K := ⟨X.K, z⟩) (M := M) (H := H) (kvs.map (·.1))
    rw [List.map_map] at this
    exact this
end
end DL

set_option Elab.async false
set_option linter.all false
set_option maxHeartbeats 4000000
set_option maxRecDepth 100000
/-! D-layer, part 32: the promises of draw, pick, deck; what an expression may come to. -/
namespace DL
open PySem PySem.Spec PyProof.Rows L2
def sp_draw : SpD := fun ds M R _ => ∃ a many, ds = [.ref a, .int many] ∧ Deck M a ∧ 0 < many ∧ many < 1073741824 ∧ ∀ i, 0 ≤ i → i < many → R (.int i) M
theorem draw_go {M : Mem} {R : RK} {a : Addr} {n : Int} (hd : Deck M a) (h0 : 0 < n) (h1 : n < 1073741824) (q : ∀ i, 0 ≤ i → i < n → R (.int i) M) : sp_draw [.ref a, .int n] M R noX := ⟨a, n, rfl, hd, h0, h1, q⟩
def sp_pick : SpD := fun ds M R _ => ∃ a x, ds = [.ref a, x] ∧ Deck M a ∧ ((∃ xs, (x = .lst xs ∨ x = .tup xs ∨ ∃ p, x = .ref p ∧ M p = some (.lst xs)) ∧ xs ≠ [] ∧ xs.length ≤ 1000000 ∧ ∀ d ∈ xs, R d M) ∨ ∃ s : Str, x = .str s ∧ 0 < s.length ∧ s.length ≤ 1000 ∧ ∀ c ∈ s.cps.toList, R (.str ⟨#[c]⟩) M)
theorem pick_lst {M : Mem} {R : RK} {a : Addr} {xs : List D} (hd : Deck M a) (h0 : xs ≠ []) (h1 : xs.length ≤ 1000) (q : ∀ d ∈ xs, R d M) : sp_pick [.ref a, .lst xs] M R noX := ⟨a, _, rfl, hd, .inl ⟨xs, .inl rfl, h0, Nat.le_trans h1 (by decide), q⟩⟩
theorem pick_tup {M : Mem} {R : RK} {a : Addr} {xs : List D} (hd : Deck M a) (h0 : xs ≠ []) (h1 : xs.length ≤ 1000) (q : ∀ d ∈ xs, R d M) : sp_pick [.ref a, .tup xs] M R noX := ⟨a, _, rfl, hd, .inl ⟨xs, .inr (.inl rfl), h0, Nat.le_trans h1 (by decide), q⟩⟩
theorem pick_ref {M : Mem} {R : RK} {a p : Addr} {xs : List D} (hd : Deck M a) (hp : M p = some (.lst xs)) (h0 : xs ≠ []) (h1 : xs.length ≤ 1000) (q : ∀ d ∈ xs, R d M) : sp_pick [.ref a, .ref p] M R noX := ⟨a, _, rfl, hd, .inl ⟨xs, .inr (.inr ⟨p, rfl, hp⟩), h0, Nat.le_trans h1 (by decide), q⟩⟩
theorem pick_str {M : Mem} {R : RK} {a : Addr} {s : Str} (hd : Deck M a) (h0 : 0 < s.length) (h1 : s.length ≤ 1000) (q : ∀ c ∈ s.cps.toList, R (.str ⟨#[c]⟩) M) : sp_pick [.ref a, .str s] M R noX := ⟨a, _, rfl, hd, .inr ⟨s, rfl, h0, h1, q⟩⟩
def sp_deck : SpD := fun ds M R _ => ∃ ns : List Int, ds = [.lst (ns.map .int)] ∧ ns.length ≤ 63 ∧ ∀ p M2, Deck M2 p → (∀ c o, M c = some o → M2 c = some o) → R (.ref p) M2
def sp_deckS : SpD := fun ds M R _ => ∃ ns : List Int, ∃ seed, ds = [.lst (ns.map .int), .int seed] ∧ ns.length ≤ 63 ∧ ∀ p M2, Deck M2 p → (∀ c o, M c = some o → M2 c = some o) → R (.ref p) M2
theorem cut63 {ns : List Int} : DL.cutD (ns.map D.int) none (some 63) = (DL.cutD ns none (some 63)).map .int := by
  unfold DL.cutD
  rw [List.length_map, List.map_take, List.map_drop]
theorem cut63_len {ns : List Int} (h : ns.length ≤ 63) : (DL.cutD ns none (some 63)).length ≤ 63 := by
  unfold DL.cutD
  rw [List.length_take, List.length_drop]
  omega
theorem dkp2 : dputK dks (.inr "mixed") = dks := by rfl
theorem dkq2 {x y z d : D} : dputD dks [x, y, z] (.inr "mixed") d = [x, d, z] := by rfl
theorem DkM_setm {M : Mem} {a b : Addr} {ns : List Int} {m n m' : Int} : mset (DkM M a b ns m n) a (.dct dks [.ref b, .int m', .int n]) = DkM M a b ns m' n := mset_mset
/-! ### what an expression may come to, the memory as it was -/
def Ev (t : DE) (ρ : DEnv) (M : Mem) (P : D → Prop) : Prop := ∀ R : RK, (∀ d, P d → R d M) → t ρ M R
def EvT (t : DT) (ρ : DEnv) (M : Mem) (P : Bool → Prop) : Prop := ∀ R : Bool → Mem → Prop, (∀ b, P b → R b M) → t ρ M R
def EvA (t : DA) (ρ : DEnv) (M : Mem) (n : Nat) (P : D → Prop) : Prop := ∀ R : List D → Mem → Prop, (∀ ds, ds.length = n → (∀ d ∈ ds, P d) → R ds M) → t ρ M R
section
variable {t ta tb : DE} {tr : DA} {ρ : DEnv} {M : Mem} {P Q : D → Prop} {n i : Nat} {d : D} {a : Addr}
theorem Ev.to {R : RK} (h : Ev t ρ M P) (q : ∀ d, P d → R d M) : t ρ M R := h R q
theorem Ev.mono (h : Ev t ρ M P) (q : ∀ d, P d → Q d) : Ev t ρ M Q := fun R r => h R fun d p => r d (q d p)
theorem ev_var (e : slot ρ i = some d) (h : P d) : Ev (dVar i) ρ M P := fun R r => ⟨d, e, r d h⟩
theorem ev_c (h : P d) : Ev (dC d) ρ M P := fun R r => r d h
theorem ea_nil : EvA dNil ρ M 0 P := fun R r => r [] rfl (by simp)
theorem ea_cons (h : Ev t ρ M P) (hr : EvA tr ρ M n P) : EvA (dCons t tr) ρ M (n + 1) P := fun R r => h _ fun x hx => hr _ fun xs hl hxs => r _ (by simp [hl]) fun d hd => by
  rcases List.mem_cons.mp hd with rfl | hd
  · exact hx
  · exact hxs d hd
theorem ev_lst (h : EvA tr ρ M n P) (hz : n ≤ 1000 := by decide) : Ev (dLst tr) ρ M fun d => ∃ ds, d = .lst ds ∧ ds.length = n ∧ ∀ x ∈ ds, P x := fun R r => h _ fun ds hl hx => ⟨by rw [sizeLine_eq]; omega, r _ ⟨ds, rfl, hl, hx⟩⟩
theorem ev_tup (h : EvA tr ρ M n P) (hz : n ≤ 1000 := by decide) : Ev (dTup tr) ρ M fun d => ∃ ds, d = .tup ds ∧ ds.length = n ∧ ∀ x ∈ ds, P x := fun R r => h _ fun ds hl hx => ⟨by rw [sizeLine_eq]; omega, r _ ⟨ds, rfl, hl, hx⟩⟩
/-- pick of a written list -/
theorem ev_pick (hd : Deck M a) {z : Nat} (e : slot ρ z = some (.ref a)) (h : EvA tr ρ M n P) (h0 : 0 < n := by decide) (hz : n ≤ 1000 := by decide) : Ev (dCall sp_pick (dCons (dVar z) (dCons (dLst tr) dNil))) ρ M P := fun R r =>
  ⟨_, e, h _ fun ds hl hx => ⟨by rw [sizeLine_eq]; omega, pick_lst hd (fun z => by rw [z] at hl; simp at hl; omega) (by omega) fun d hd => r d (hx d hd)⟩⟩
theorem ev_draw {m : Int} (hd : Deck M a) {z : Nat} (e : slot ρ z = some (.ref a)) (h0 : 0 < m := by decide) (h1 : m < 1073741824 := by decide) : Ev (dCall sp_draw (dCons (dVar z) (dCons (dC (.int m)) dNil))) ρ M fun d => ∃ i, d = .int i ∧ 0 ≤ i ∧ i < m := fun R r =>
  ⟨_, e, draw_go hd h0 h1 fun i a b => r _ ⟨i, rfl, a, b⟩⟩
theorem ev_drawL {xs : List D} (hd : Deck M a) {z : Nat} (e : slot ρ z = some (.ref a)) (ei : slot ρ i = some (.tup xs)) (h0 : 0 < xs.length) (h1 : xs.length ≤ 1000) :
    Ev (dCall sp_draw (dCons (dVar z) (dCons (dCB dLen (dCons (dVar i) dNil)) dNil))) ρ M fun d => ∃ j : Nat, d = .int (j : Nat) ∧ j < xs.length := fun R r => by
  refine ⟨_, e, _, ei, ?_⟩
  refine ⟨_, rfl, ?_⟩
  exact draw_go hd (by omega) (by omega) fun i a b => by
    obtain ⟨j, rfl⟩ := Int.eq_ofNat_of_zero_le a
    exact r _ ⟨j, rfl, by omega⟩
theorem ev_if {c : DT} (h : EvT c ρ M fun _ => True) (ha : Ev ta ρ M P) (hb : Ev tb ρ M P) : Ev (dIf c ta tb) ρ M P := fun R r => h _ fun k _ => by
  cases k with
  | true => exact ha R r
  | false => exact hb R r
theorem et_int {j : Int} {op : D2} {f : Int → Int → Bool} (ho : ∀ {x y : Int} {M : Mem} {R : RK}, R (.bl (f x y)) M → op (.int x) (.int y) M R) (h : Ev ta ρ M fun d => ∃ i, d = .int i) : EvT (dTest (dOp op ta (dC (.int j)))) ρ M fun _ => True := fun R r => h _ fun d ⟨i, e⟩ => by
  subst e
  exact ho ⟨_, rfl, r _ trivial⟩
theorem et_eq {j : Int} (h : Ev ta ρ M fun d => ∃ i, d = .int i) : EvT (dTest (dOp dEq ta (dC (.int j)))) ρ M fun _ => True := et_int (fun q => q_eq_int.mpr q) h
theorem et_gt {j : Int} (h : Ev ta ρ M fun d => ∃ i, d = .int i) : EvT (dTest (dOp dGt ta (dC (.int j)))) ρ M fun _ => True := et_int (fun q => q_op_gt.mpr q) h
theorem et_lt {j : Int} (h : Ev ta ρ M fun d => ∃ i, d = .int i) : EvT (dTest (dOp dLt ta (dC (.int j)))) ρ M fun _ => True := et_int (fun q => q_op_lt.mpr q) h
theorem et_or {c1 c2 : DT} (h1 : EvT c1 ρ M fun _ => True) (h2 : EvT c2 ρ M fun _ => True) : EvT (dOr c1 c2) ρ M fun _ => True := fun R r => h1 _ fun k _ => by
  cases k with
  | true => exact r _ trivial
  | false => exact h2 _ r
theorem et_and {c1 c2 : DT} (h1 : EvT c1 ρ M fun _ => True) (h2 : EvT c2 ρ M fun _ => True) : EvT (dAnd c1 c2) ρ M fun _ => True := fun R r => h1 _ fun k _ => by
  cases k with
  | true => exact h2 _ r
  | false => exact r _ trivial
theorem et_not {c1 : DT} (h1 : EvT c1 ρ M fun _ => True) : EvT (dNot c1) ρ M fun _ => True := fun R r => h1 _ fun k _ => r _ trivial
theorem et_one {c1 : DT} {p : Bool → Prop} {b : Bool} (h1 : EvT c1 ρ M (· = b)) : EvT (dNot c1) ρ M (· = !b) := fun R r => h1 _ fun k e => r _ (by rw [e])
theorem et_val {b : Bool} (h : ∀ R : RK, R (.bl b) M → t ρ M R) : EvT (dTest t) ρ M (· = b) := fun R r => h _ ⟨b, rfl, r b rfl⟩
theorem et_eqs {w : Str} (e : slot ρ i = some d) (ht : tyD M d ≠ none) : EvT (dTest (dOp dEq (dVar i) (dC (.str w)))) ρ M (· = isStr d w) := fun R r => ⟨d, e, (show dEq d (.str w) M (fun x M1 => ∃ k, x = .bl k ∧ R k M1) from q_eq_str.mpr ⟨ht, _, rfl, r _ rfl⟩)⟩
theorem et_nes {w : Str} (e : slot ρ i = some d) (ht : tyD M d ≠ none) : EvT (dTest (dOp dNe (dVar i) (dC (.str w)))) ρ M (· = !isStr d w) := fun R r => ⟨d, e, (show dNe d (.str w) M (fun x M1 => ∃ k, x = .bl k ∧ R k M1) from q_ne_str.mpr ⟨ht, _, rfl, r _ rfl⟩)⟩
theorem et_insign {c : Nat} {w : Str} (e : slot ρ i = some (.str ⟨#[c]⟩)) : EvT (dTest (dOp dIn (dVar i) (dC (.str w)))) ρ M (· = signIn c w) := fun R r => ⟨_, e, _, ⟨c, rfl, rfl⟩, _, rfl, r _ rfl⟩
theorem et_orB {c1 c2 : DT} {x y : Bool} (h1 : EvT c1 ρ M (· = x)) (h2 : x = false → EvT c2 ρ M (· = y)) : EvT (dOr c1 c2) ρ M (· = (x || y)) := fun R r => h1 _ fun k e => by
  subst e
  cases k with
  | true => exact r _ rfl
  | false => exact h2 rfl _ fun b e => r b (by rw [e]; rfl)
theorem et_andB {c1 c2 : DT} {x y : Bool} (h1 : EvT c1 ρ M (· = x)) (h2 : x = true → EvT c2 ρ M (· = y)) : EvT (dAnd c1 c2) ρ M (· = (x && y)) := fun R r => h1 _ fun k e => by
  subst e
  cases k with
  | true => exact h2 rfl _ fun b e => r b (by rw [e]; rfl)
  | false => exact r _ rfl
theorem et_notB {c1 : DT} {x : Bool} (h1 : EvT c1 ρ M (· = x)) : EvT (dNot c1) ρ M (· = !x) := fun R r => h1 _ fun k e => r _ (by rw [e])
theorem et_is {x y : Bool} {c : DT} (h : EvT c ρ M (· = x)) (e : x = y) : EvT c ρ M (· = y) := e ▸ h
/-- a statement's return -/
theorem es_ret {D0 : EndsD} (h : Ev t ρ M P) (q : ∀ d, P d → D0.rt d M) : dRet t D0 ρ M := h _ q
theorem es_set {D0 : EndsD} (h : Ev t ρ M P) (q : ∀ d, P d → D0.nx (put ρ i d) M) : dSet i t D0 ρ M := h _ q
theorem es_if {D0 : EndsD} {c : DT} {s1 s2 : DS} (h : EvT c ρ M fun _ => True) (h1 : s1 D0 ρ M) (h2 : s2 D0 ρ M) : dIfS c s1 s2 D0 ρ M := h _ fun k _ => by
  cases k with
  | true => exact h1
  | false => exact h2
theorem es_ifB {D0 : EndsD} {c : DT} {s1 s2 : DS} {b : Bool} (h : EvT c ρ M (· = b)) (h1 : b = true → s1 D0 ρ M) (h2 : b = false → s2 D0 ρ M) : dIfS c s1 s2 D0 ρ M := h _ fun k e => by
  subst e
  cases k with
  | true => exact h1 rfl
  | false => exact h2 rfl
theorem go_isiC {R : RK} {t c : String} (h : tyD M d = some t) (hc : isiTy c = true) (q : R (.bl (isTy t c)) M) : dCons (dC (.ty c)) dNil ρ M (fun xs M2 => dIsi (d :: xs) M2 R) := go_isi h hc q
theorem et_isi {c u : String} (h : Ev t ρ M fun d => tyD M d = some u) (hc : isiTy c = true := by rfl) : EvT (dTest (dCB dIsi (dCons t (dCons (dC (.ty c)) dNil)))) ρ M (· = isTy u c) := fun R r => h _ fun d e => (show dIsi [d, D.ty c] M (fun x M1 => ∃ k, x = .bl k ∧ R k M1) from go_isi e hc ⟨_, rfl, r _ rfl⟩)
theorem et_isiA {c : String} (h : Ev t ρ M fun d => ∃ u, tyD M d = some u) (hc : isiTy c = true := by rfl) : EvT (dTest (dCB dIsi (dCons t (dCons (dC (.ty c)) dNil)))) ρ M fun _ => True := fun R r => h _ fun d ⟨u, e⟩ => (show dIsi [d, D.ty c] M (fun x M1 => ∃ k, x = .bl k ∧ R k M1) from go_isi e hc ⟨_, rfl, r _ trivial⟩)
end
/-! ### one measure of data -/
/-- data with lengths, numbers, parts up to w, so deep -/
def Bd (w k : Nat) (d : D) : Prop := gx w d = true ∧ wt d ≤ w ∧ dp d ≤ k
section
variable {w w' k k' n : Nat} {d e : D} {xs ys : List D} {s t : Str} {i j : Int}
theorem Bd.mono (h : Bd w k d) (h1 : w ≤ w') (h2 : k ≤ k') : Bd w' k' d := ⟨gx_mono h1 h.1, Nat.le_trans h.2.1 h1, Nat.le_trans h.2.2 h2⟩
theorem Bd.dat (h : Bd w k d) (hw : w ≤ 1000 := by omega) : DL.dat d = true := (gx_dat hw h.1).1
theorem bd_int (h : i.natAbs < 10 ^ 40 := by decide) : Bd w k (.int i) := ⟨gx_int.mpr (by omega), by simp [wt], by simp [dp]⟩
theorem bd_int1 (h : Bd w k (.int i)) (hj : j.natAbs ≤ i.natAbs + 10 := by omega) : Bd (w + 1) k (.int j) := ⟨gx_int.mpr (by have := gx_int.mp h.1; omega), by simp [wt], by simp [dp]⟩
theorem bd_bl {b : Bool} : Bd w k (.bl b) := ⟨rfl, by simp [wt], by simp [dp]⟩
theorem bd_non : Bd w k .non := ⟨rfl, by simp [wt], by simp [dp]⟩
theorem bd_str (h : s.length ≤ w) (h2 : ascii s = true) : Bd w k (.str s) := ⟨gx_str.mpr ⟨h, h2⟩, by simpa [wt] using h, by simp [dp]⟩
theorem bd_strs (h : (decide (s.length ≤ w) && ascii s) = true) : Bd w k (.str s) := by
  rw [Bool.and_eq_true, decide_eq_true_eq] at h
  exact bd_str h.1 h.2
theorem Bd.str (h : Bd w k (.str s)) : s.length ≤ w ∧ ascii s = true := gx_str.mp h.1
theorem Bd.int (h : Bd w k (.int i)) : i.natAbs < 10 ^ 40 + 10 * w := gx_int.mp h.1
theorem bd_tup (h : ∀ d ∈ xs, Bd n k d) (hl : xs.length * (n + 1) ≤ w) (hn : n ≤ w) (hk : k + 1 ≤ k') : Bd w k' (.tup xs) ∧ Bd w k' (.lst xs) := by
  have h1 : xs.length ≤ w := Nat.le_trans (Nat.le_mul_of_pos_right _ (by omega)) hl
  have g : gx w (.tup xs) = true := gx_tup.mpr ⟨h1, fun d hd => gx_mono hn (h d hd).1⟩
  have ws : wts xs ≤ w := Nat.le_trans (wts_le (k := n + 1) fun d hd => by have := (h d hd).2.1; omega) hl
  have ds : dps xs ≤ k := dps_le fun d hd => (h d hd).2.2
  have ed : dp (.tup xs) = dps xs + 1 := rfl
  have el : dp (.lst xs) = dps xs + 1 := rfl
  exact ⟨⟨g, ws, by omega⟩, ⟨g, ws, by omega⟩⟩
theorem Bd.mem (h : Bd w k (.tup xs)) (hd : d ∈ xs) : Bd w (k - 1) d := by
  have h1 := (gx_tup.mp h.1).2 d hd
  have h2 := wts_mem hd
  have h3 : wts xs ≤ w := h.2.1
  have h4 := dps_mem hd
  have h5 : dps xs + 1 ≤ k := h.2.2
  exact ⟨h1, by omega, by omega⟩
theorem Bd.len (h : Bd w k (.tup xs)) : xs.length ≤ w := (gx_tup.mp h.1).1
theorem bd_sub (h : Bd w k (.tup xs)) (h1 : ∀ d ∈ ys, d ∈ xs) (h2 : ys.length ≤ w') (h3 : wts ys ≤ w') (hw : w ≤ w') : Bd w' k (.tup ys) ∧ Bd w' k (.lst ys) := by
  have g : gx w' (.tup ys) = true := gx_tup.mpr ⟨h2, fun d hd => gx_mono hw ((gx_tup.mp h.1).2 d (h1 d hd))⟩
  have e := dps_sub h1
  have h5 : dps xs + 1 ≤ k := h.2.2
  have ed : dp (.tup ys) = dps ys + 1 := rfl
  have el : dp (.lst ys) = dps ys + 1 := rfl
  exact ⟨⟨g, h3, by omega⟩, ⟨g, h3, by omega⟩⟩
theorem Bd.wts (h : Bd w k (.tup xs)) : DL.wts xs ≤ w := h.2.1
/-- an item otherwise -/
theorem bd_swap (h : Bd w k (.tup xs)) (hi : n < xs.length) (g : Bd w' k' d) (hk : k' + 1 ≤ k) : Bd (w + w') k (.tup (swap xs n d)) := by
  refine ⟨gx_tup.mpr ⟨by rw [swap_len hi]; have := h.len; omega, fun y hy => (swap_mem hy).elim (fun z => gx_mono (by omega) ((gx_tup.mp h.1).2 y z)) fun e => by rw [e]; exact gx_mono (by omega) g.1⟩, ?_, ?_⟩
  · have := swap_wts (y := d) (List.getElem?_eq_getElem hi)
    have h3 := h.wts
    have := g.2.1
    show DL.wts (swap xs n d) ≤ _
    omega
  · have h5 : dps xs + 1 ≤ k := h.2.2
    have : dps (swap xs n d) ≤ k - 1 := dps_swap (by omega) (by have := g.2.2; omega)
    show dps (swap xs n d) + 1 ≤ k
    omega
theorem bd_app (h : Bd w k (.tup xs)) (g : Bd w' k (.tup ys)) : Bd (w + w') k (.tup (xs ++ ys)) := by
  refine ⟨gx_tup.mpr ⟨by have := h.len; have := g.len; simp; omega, fun d hd => (List.mem_append.mp hd).elim (fun z => gx_mono (by omega) ((gx_tup.mp h.1).2 d z)) fun z => gx_mono (by omega) ((gx_tup.mp g.1).2 d z)⟩, ?_, ?_⟩
  · show DL.wts (xs ++ ys) ≤ _
    rw [wts_app]
    have := h.wts
    have := g.wts
    omega
  · show dps (xs ++ ys) + 1 ≤ k
    rw [dps_app]
    have h5 : dps xs + 1 ≤ k := h.2.2
    have g5 : dps ys + 1 ≤ k := g.2.2
    omega
theorem Bd.rp (h : Bd w k d) (hw : w ≤ 1000 := by decide) (hk : k ≤ 58 := by decide) : ∃ t, Rp d t ∧ t.length ≤ 202 * w + 200 := by
  obtain ⟨t, h1, h2⟩ := rp_gx (gx_mono hw h.1) (by have := h.2.1; omega) (by have := h.2.2; omega)
  exact ⟨t, h1, by have := h.2.1; omega⟩
end
end DL

set_option Elab.async false
set_option linter.all false
set_option maxHeartbeats 4000000
set_option maxRecDepth 100000
/-! D-layer, part 33: what drawn values' expressions may come to. -/
namespace DL
open PySem PySem.Spec PyProof.Rows L2
theorem upper_len : ∀ (l : List Nat), (l.all fun c => decide (c < 128)) = true → (Txt.upper ⟨l.toArray⟩).length = l.length
  | [], _ => by decide
  | c :: l, h => by
    rw [List.all_cons, Bool.and_eq_true, decide_eq_true_eq] at h
    have e : (⟨(c :: l).toArray⟩ : Str) = ⟨#[c]⟩ ++ ⟨l.toArray⟩ := by
      show _ = (⟨#[c] ++ l.toArray⟩ : Str)
      simp
    rw [e, PySem.W.KOpn.upper_app, PySem.W.KOpn.upper_one h.1, Str.length_append, upper_len l h.2]
    show 1 + l.length = l.length + 1
    omega
section
variable {w w' k k' n j : Nat} {d e : D} {xs ys : List D} {s t : Str} {i m : Int}
theorem bd_upper (h : Bd w k (.str s)) : Bd w k (.str (Txt.upper s)) := by
  obtain ⟨h1, h2⟩ := h.str
  have e : s = ⟨s.cps.toList.toArray⟩ := by cases s; simp
  have a := upper_ascii s.cps.toList h2
  have b := upper_len s.cps.toList h2
  rw [← e] at a b
  exact bd_str (by rw [b]; exact h1) a
theorem bd_sapp (h : Bd w k (.str s)) (ht : (decide (t.length ≤ n) && ascii t) = true) : Bd (w + n) k (.str (s ++ t)) := by
  obtain ⟨h1, h2⟩ := h.str
  rw [Bool.and_eq_true, decide_eq_true_eq] at ht
  refine bd_str (by rw [Str.length_append]; omega) ?_
  unfold ascii
  rw [Str.cps_append, Array.toList_append, List.all_append]
  unfold ascii at h2 ht
  rw [h2, ht.2]
  rfl
theorem bd_cut {lo hi : Option Int} (h : Bd w k (.str s)) : Bd w k (.str (cutS s lo hi)) := by
  obtain ⟨h1, h2⟩ := h.str
  have := cutS_ascii (lo := lo) (hi := hi) h2
  exact bd_str (Nat.le_trans this.2 h1) this.1
theorem bd_strInt (h : Bd w k (.int i)) (hw : w ≤ 1000 := by omega) : i.natAbs.log2 < 1920 ∧ Bd (w + 50) k' (.str (toString i)) := by
  have h1 := h.int
  have h2 : i.natAbs < 10 ^ 45 := by omega
  have h3 := str_big h2
  exact ⟨log_big h2, bd_str (by omega) h3.1⟩
theorem bd_del (h : Bd w k (.tup xs)) : Bd w k (.tup (xs.take j ++ xs.drop (j + 1))) := by
  refine (bd_sub h (fun d hd => (List.mem_append.mp hd).elim List.mem_of_mem_take List.mem_of_mem_drop) ?_ ?_ (Nat.le_refl _)).1
  · have := h.len
    simp
    omega
  · have h3 := h.wts
    have w3 : wts (xs.take j ++ xs.drop (j + 1)) ≤ wts xs := by
      rw [wts_app]
      have e1 : wts (xs.take j) + wts (xs.drop j) = wts xs := by rw [← wts_app, List.take_append_drop]
      have e2 : wts (xs.drop (j + 1)) ≤ wts (xs.drop j) := by
        have := wts_drop (xs.drop j) 1
        rw [List.drop_drop] at this
        exact this
      omega
    omega
theorem bd_dup (h : Bd w k (.tup xs)) : Bd (2 * w + 1) k (.tup (xs.take j ++ ((xs.drop j).take 1) ++ xs.drop j)) := by
  refine (bd_sub h (fun d hd => ?_) ?_ ?_ (by omega)).1
  · simp only [List.mem_append] at hd
    rcases hd with (hd | hd) | hd
    · exact List.mem_of_mem_take hd
    · exact List.mem_of_mem_drop (List.mem_of_mem_take hd)
    · exact List.mem_of_mem_drop hd
  · have := h.len
    simp
    omega
  · have h3 := h.wts
    rw [wts_app, wts_app]
    have e1 : wts (xs.take j) + wts (xs.drop j) = wts xs := by rw [← wts_app, List.take_append_drop]
    have e2 := wts_take (xs.drop j) 1
    omega
theorem bd_rev (h : Bd w k (.tup xs)) : Bd w k (.tup xs.reverse) := (bd_sub h (fun d hd => List.mem_reverse.mp hd) (by simpa using h.len) (by rw [wts_rev]; exact h.wts) (Nat.le_refl _)).1
theorem bd_lst (h : Bd w k (.tup xs)) : Bd w k (.lst xs) := (bd_sub h (fun d hd => hd) h.len h.wts (Nat.le_refl _)).2
end
section
variable {t ta tb : DE} {tr : DA} {ρ : DEnv} {M : Mem} {P Q : D → Prop} {n i j k : Nat} {d : D} {a : Addr} {xs : List D}
theorem ev_K (h : ∀ R : RK, R d M → t ρ M R) (p : P d) : Ev t ρ M P := fun R r => h R (r d p)
theorem ev_ix (e1 : slot ρ i = some (.tup xs)) (e3 : slot ρ k = some (.int (j : Nat))) (hj : j < xs.length) (p : P xs[j]) : Ev (dOp dIx (dVar i) (dVar k)) ρ M P := fun R r => ⟨_, e1, _, e3, _, rfl, _, L2.atI_nat (List.getElem?_eq_getElem hj), r _ p⟩
theorem et_orW {c1 c2 : DT} {P1 P2 B : Bool → Prop} (h1 : EvT c1 ρ M P1) (h2 : P1 false → EvT c2 ρ M P2) (ht : B true) (hf : ∀ b, P1 false → P2 b → B b) : EvT (dOr c1 c2) ρ M B := fun R r => h1 _ fun k p => by
  cases k with
  | true => exact r _ ht
  | false => exact h2 p _ fun b pb => r b (hf b p pb)
theorem es_ifW {D0 : EndsD} {c : DT} {s1 s2 : DS} {B : Bool → Prop} (h : EvT c ρ M B) (h1 : B true → s1 D0 ρ M) (h2 : B false → s2 D0 ρ M) : dIfS c s1 s2 D0 ρ M := h _ fun k p => by
  cases k with
  | true => exact h1 p
  | false => exact h2 p
theorem et_monoB {c : DT} {P1 P2 : Bool → Prop} (h : EvT c ρ M P1) (q : ∀ b, P1 b → P2 b) : EvT c ρ M P2 := fun R r => h R fun b p => r b (q b p)
/-- x[:at] + (e,) + x[at + 1:] -/
theorem ev_put (e1 : slot ρ i = some (.tup xs)) (e3 : slot ρ k = some (.int (j : Nat))) (hj : j < xs.length) (hl : xs.length ≤ 1000) (he : Ev t ρ M P) (q : ∀ y, P y → Q (.tup (swap xs j y))) :
    Ev (dOp dAdd (dOp dAdd (dSl (dVar i) dNoPart (dPart (dVar k))) (dTup (dCons t dNil))) (dSl (dVar i) (dPart (dOp dAdd (dVar k) (dC (.int 1)))) dNoPart)) ρ M Q := fun R r => by
  simp only [dOp, dSl, dNoPart, dPart, rSlD, dTup, dCons, dNil, dVar, dC, e1, e3, Option.some.injEq, exists_eq_left', DL.D.int.injEq, q_op_ad]
  refine he _ fun y hy => ⟨q_z1, ?_⟩
  exact swap_go hj hl (r _ (q y hy))
theorem cut_mid {j : Nat} (h : j < xs.length) : DL.cutD xs (some (j : Int)) (some ((j : Int) + 1)) = (xs.drop j).take 1 := by
  have e : ((j : Int) + 1) = ((j + 1 : Nat) : Int) := by omega
  unfold DL.cutD
  rw [e, HT.sIx_nat, HT.sIx_nat, Nat.min_eq_left (by omega), Nat.min_eq_left (by omega), show j + 1 - j = 1 by omega]
/-- x[:at] + x[at + 1:] -/
theorem ev_del (e1 : slot ρ i = some (.tup xs)) (e3 : slot ρ k = some (.int (j : Nat))) (hj : j < xs.length) (hl : xs.length ≤ 1000) (q : Q (.tup (xs.take j ++ xs.drop (j + 1)))) :
    Ev (dOp dAdd (dSl (dVar i) dNoPart (dPart (dVar k))) (dSl (dVar i) (dPart (dOp dAdd (dVar k) (dC (.int 1)))) dNoPart)) ρ M Q := fun R r => by
  simp only [dOp, dSl, dNoPart, dPart, rSlD, dTup, dCons, dNil, dVar, dC, e1, e3, Option.some.injEq, exists_eq_left', DL.D.int.injEq, q_op_ad]
  rw [cut_to (Nat.le_of_lt hj), show DL.cutD xs (some ((j : Int) + 1)) none = xs.drop (j + 1) from cut_from (xs := xs) (i := j + 1) hj]
  exact ⟨by rw [sizeLine_eq]; simp; omega, r _ q⟩
/-- x[:at] + x[at:at + 1] + x[at:] -/
theorem ev_dup (e1 : slot ρ i = some (.tup xs)) (e3 : slot ρ k = some (.int (j : Nat))) (hj : j < xs.length) (hl : xs.length ≤ 1000) (q : Q (.tup (xs.take j ++ ((xs.drop j).take 1) ++ xs.drop j))) :
    Ev (dOp dAdd (dOp dAdd (dSl (dVar i) dNoPart (dPart (dVar k))) (dSl (dVar i) (dPart (dVar k)) (dPart (dOp dAdd (dVar k) (dC (.int 1)))))) (dSl (dVar i) (dPart (dVar k)) dNoPart)) ρ M Q := fun R r => by
  simp only [dOp, dSl, dNoPart, dPart, rSlD, dTup, dCons, dNil, dVar, dC, e1, e3, Option.some.injEq, exists_eq_left', DL.D.int.injEq, q_op_ad]
  rw [cut_to (Nat.le_of_lt hj), cut_mid hj, cut_from (Nat.le_of_lt hj)]
  exact ⟨by rw [sizeLine_eq]; simp; omega, by rw [sizeLine_eq]; simp; omega, r _ q⟩
theorem ev_list (e1 : slot ρ i = some (.tup xs)) (q : Q (.lst xs)) : Ev (dCB dList (dCons (dVar i) dNil)) ρ M Q := ev_K (fun R r => ⟨_, e1, _, _, rfl, .inl rfl, r⟩) q
theorem ev_rev (e1 : slot ρ i = some (.tup xs)) (q : Q (.tup xs.reverse)) : Ev (dRev (dVar i)) ρ M Q := ev_K (fun R r => ⟨_, e1, r⟩) q
theorem ev_addI {i1 : Int} (e1 : slot ρ i = some (.int i1)) {c : Int} (q : Q (.int (i1 + c))) : Ev (dOp dAdd (dVar i) (dC (.int c))) ρ M Q := ev_K (fun R r => ⟨_, e1, r⟩) q
theorem ev_subI {i1 : Int} (e1 : slot ρ i = some (.int i1)) {c : Int} (q : Q (.int (i1 - c))) : Ev (dOp dSub (dVar i) (dC (.int c))) ρ M Q := ev_K (fun R r => ⟨_, e1, _, _, rfl, rfl, r⟩) q
theorem ev_negI {i1 : Int} (e1 : slot ρ i = some (.int i1)) {c : Int} (q : Q (.int (c - i1))) : Ev (dOp dSub (dC (.int c)) (dVar i)) ρ M Q := ev_K (fun R r => ⟨_, e1, _, _, rfl, rfl, r⟩) q
theorem ev_umI {i1 : Int} (e1 : slot ρ i = some (.int i1)) (q : Q (.int (-i1))) : Ev (dUn dNeg (dVar i)) ρ M Q := ev_K (fun R r => ⟨_, e1, _, rfl, r⟩) q
theorem ev_eqI {i1 c : Int} (e1 : slot ρ i = some (.int i1)) (q : ∀ b, Q (.bl b)) : Ev (dOp dEq (dVar i) (dC (.int c))) ρ M Q := ev_K (fun R r => ⟨_, e1, q_eq_int.mpr r⟩) (q _)
theorem ev_strI {i1 : Int} (e1 : slot ρ i = some (.int i1)) (h : i1.natAbs.log2 < 1920) (q : Q (.str (toString i1))) : Ev (dCB dStrInt (dCons (dVar i) dNil)) ρ M Q := ev_K (fun R r => ⟨_, e1, q_strInt.mpr ⟨h, r⟩⟩) q
theorem ev_sapp {s t : Str} (e1 : slot ρ i = some (.str s)) (h : s.length + t.length ≤ 3000) (q : Q (.str (s ++ t))) : Ev (dOp dAdd (dVar i) (dC (.str t))) ρ M Q := ev_K (fun R r => ⟨_, e1, by rw [sizeLine_eq]; omega, r⟩) q
theorem ev_sfrom {s : Str} {c : Int} (e1 : slot ρ i = some (.str s)) (h : s.length ≤ 1000) (q : Q (.str (cutS s (some c) none))) : Ev (dSl (dVar i) (dPart (dC (.int c))) dNoPart) ρ M Q := ev_K (fun R r => ⟨_, e1, c, rfl, le_size h, r⟩) q
theorem ev_upper {s : Str} (e1 : slot ρ i = some (.str s)) (h : s.length ≤ 1000) (q : Q (.str (Txt.upper s))) : Ev (dMeth0 "str" dUpper (dVar i)) ρ M Q := ev_K (fun R r => ⟨_, e1, .inl ⟨rfl, s, rfl⟩, s, rfl, rfl, by omega, r⟩) q
theorem ev_notB {b : Bool} (e1 : slot ρ i = some (.bl b)) (q : Q (.bl !b)) : Ev (dNotV (dVar i)) ρ M Q := ev_K (fun R r => ⟨_, e1, b, rfl, r⟩) q
theorem ev_intB {b : Bool} (e1 : slot ρ i = some (.bl b)) (q : ∀ m, Q (.int m)) : Ev (dCB dInt1 (dCons (dVar i) dNil)) ρ M Q := ev_K (fun R r => ⟨_, e1, .inr ⟨b, rfl, r⟩⟩) (q _)
theorem ev_neg {c : Int} (q : Q (.int (-c))) : Ev (dUn dNeg (dC (.int c))) ρ M Q := ev_K (fun R r => ⟨_, rfl, r⟩) q
theorem ev_pow {b e : Int} (h : L2.CPow b e) (q : Q (.int (b ^ e.toNat))) : Ev (dOp dPow (dC (.int b)) (dC (.int e))) ρ M Q := ev_K (fun R r => ⟨_, _, rfl, rfl, h, r⟩) q
theorem ev_tupK {ds : List D} (h : ∀ R : List D → Mem → Prop, R ds M → tr ρ M R) (hz : ds.length ≤ 1000 := by decide) (q : Q (.tup ds)) : Ev (dTup tr) ρ M Q := ev_K (fun R r => h _ ⟨le_size hz, r⟩) q
theorem ev_lstK {ds : List D} (h : ∀ R : List D → Mem → Prop, R ds M → tr ρ M R) (hz : ds.length ≤ 1000 := by decide) (q : Q (.lst ds)) : Ev (dLst tr) ρ M Q := ev_K (fun R r => h _ ⟨le_size hz, r⟩) q
/-- [e for .. in range(draw(k))] -/
theorem ev_some {vs : List Nat} {g : DG} {c : Int} {C : D → Prop} (hd : Deck M a) {z : Nat} (e0 : slot ρ z = some (.ref a)) (h0 : 0 < c := by decide) (h1 : c ≤ 1000 := by decide) (hs : ∀ (d : D) (Rt : RK), (∀ y, C y → Rt y M) → g d (dwipe ρ vs) fun ρ3 => t ρ3 M Rt)
    (q : ∀ acc : List D, (acc.length : Int) < c → (∀ y ∈ acc, C y) → Q (.lst acc)) : Ev (dLc vs (dRng1 (dCons (dCall sp_draw (dCons (dVar z) (dCons (dC (.int c)) dNil))) dNil)) g dYes t) ρ M Q := fun R r => by
  refine go_someP (fun items => ∃ m : Nat, (m : Int) < c ∧ items = (List.range m).map fun i => .int (i : Nat)) C (fun Q' h => ?_) (fun items ⟨m, hm, e⟩ => by rw [e]; simp [sizeLine_eq]; omega) (fun items _ d _ Rt h => hs d Rt h) (fun items ⟨m, hm, e⟩ acc hacc hC => r _ (q acc (by rw [e] at hacc; simp at hacc; omega) hC))
  simp only [dRng1, dCons, dNil, dCall, dVar, dC, e0, Option.some.injEq, exists_eq_left']
  refine draw_go hd h0 (by omega) fun i i0 i1 => ⟨i, rfl, by omega, by omega, ?_⟩
  exact h _ ⟨i.toNat, by omega, rfl⟩
end
/-! ### what is shown -/
def Py (k n : Nat) (d : D) : Prop := ∃ p, toR d = some p ∧ p.leavesShort 200 = true ∧ p.showable = true ∧ p.depth ≤ k ∧ p.bulk ≤ n
def Pys (k n : Nat) (ds : List D) : Prop := ∃ ps, toRs ds = some ps ∧ PyData.leavesShortAll 200 ps = true ∧ PyData.showableAll ps = true ∧ PyData.depthAll ps ≤ k ∧ PyData.bulkAll ps ≤ n
section
variable {w k n m : Nat} {d : D} {ds : List D}
theorem py_bd (h : Bd w k d) (hw : w ≤ 1000 := by omega) : Py k w d := by
  have g := (gx_dat hw h.1).2
  obtain ⟨p, e, a1, a2, a3, a4⟩ := py_of g
  exact ⟨p, e, leaves_mono (B := 60) (B' := 200) (by decide) p a3, a4, Nat.le_trans a2 h.2.2, Nat.le_trans (bulk_of g e) h.2.1⟩
theorem py_str {t : Str} (h : Sm t) : Py 0 t.length (.str t) := ⟨.str t, rfl, str_leaf h, rfl, by simp [PyData.depth], Nat.le_refl _⟩
theorem py_big {i : Int} (h : i.natAbs < 10 ^ 150) : Py 0 0 (.int i) := ⟨.int i, rfl, (int_leaf h).1, (int_leaf h).2, by simp [PyData.depth], by simp [PyData.bulk]⟩
theorem Py.mono {k' n' : Nat} (h : Py k n d) (h1 : k ≤ k') (h2 : n ≤ n') : Py k' n' d := let ⟨p, a, b, c, e, f⟩ := h; ⟨p, a, b, c, Nat.le_trans e h1, Nat.le_trans f h2⟩
theorem pys_nil : Pys k 0 [] := ⟨[], rfl, rfl, rfl, Nat.zero_le _, Nat.le_refl _⟩
theorem pys_cons (h : Py k n d) (hs : Pys k m ds) : Pys k (n + 1 + m) (d :: ds) := by
  obtain ⟨p, a, b, c, e, f⟩ := h
  obtain ⟨ps, a', b', c', e', f'⟩ := hs
  refine ⟨p :: ps, ?_, ?_, ?_, ?_, ?_⟩
  · simp [toRs, a, a']
  · simp only [PyData.leavesShortAll, b, b', Bool.and_self]
  · simp only [PyData.showableAll, c, c', Bool.and_self]
  · simp only [PyData.depthAll]; omega
  · simp only [PyData.bulkAll]; omega
theorem py_tup (h : Pys k n ds) : Py (k + 1) n (.tup ds) := by
  obtain ⟨ps, a, b, c, e, f⟩ := h
  refine ⟨.tuple ps, ?_, ?_, ?_, ?_, ?_⟩
  · show (toRs ds).map PyData.tuple = _
    rw [a]
    rfl
  · simpa only [PyData.leavesShort] using b
  · simpa only [PyData.showable] using c
  · simp only [PyData.depth]; omega
  · simpa only [PyData.bulk] using f
theorem py_lst (h : Pys k n ds) : Py (k + 1) n (.lst ds) := by
  obtain ⟨ps, a, b, c, e, f⟩ := h
  refine ⟨.list ps, ?_, ?_, ?_, ?_, ?_⟩
  · show (toRs ds).map PyData.list = _
    rw [a]
    rfl
  · simpa only [PyData.leavesShort] using b
  · simpa only [PyData.showable] using c
  · simp only [PyData.depth]; omega
  · simpa only [PyData.bulk] using f
theorem Py.rp (h : Py k n d) (h1 : k ≤ 60 := by decide) (h2 : n ≤ 80000 := by omega) : ∃ t, Rp d t := by
  obtain ⟨p, a, b, c, e, f⟩ := h
  exact ⟨_, rp_of a b c (by omega) (by omega)⟩
theorem Bd.rp60 (h : Bd w k d) (hw : w ≤ 1000 := by omega) (hk : k ≤ 58 := by decide) : ∃ t, Rp d t ∧ t.length ≤ 62 * w + 60 := by
  have g := (gx_dat hw h.1).2
  obtain ⟨p, e, a1, a2, a3, a4⟩ := py_of g
  have hb := bulk_of g e
  have hl := PyData.shown_le_bulk 60 (by decide) p a3
  have h2 := h.2.1
  have h3 := h.2.2
  refine ⟨_, rp_of e (leaves_mono (B := 60) (B' := 200) (by decide) p a3) a4 (by omega) (by omega), ?_⟩
  have h5 : (60 + 2) * p.bulk ≤ (60 + 2) * w := Nat.mul_le_mul_left _ (by omega)
  omega
theorem Rp.py {t : Str} (h : Rp d t) : Py 0 t.length (.str t) := py_str h.2.1
end
section
variable {t : DE} {tr : DA} {ρ : DEnv} {M : Mem} {P Q : D → Prop} {n i : Nat} {a p : Addr} {xs : List D} {D0 : EndsD}
theorem ev_pickT (hd : Deck M a) {z : Nat} (e : slot ρ z = some (.ref a)) (h : EvA tr ρ M n P) (h0 : 0 < n := by decide) (hz : n ≤ 1000 := by decide) : Ev (dCall sp_pick (dCons (dVar z) (dCons (dTup tr) dNil))) ρ M P := fun R r =>
  ⟨_, e, h _ fun ds hl hx => ⟨by rw [sizeLine_eq]; omega, pick_tup hd (fun z => by rw [z] at hl; simp at hl; omega) (by omega) fun d hd => r d (hx d hd)⟩⟩
theorem ev_tupleL (h : Ev t ρ M fun d => ∃ xs, d = .lst xs ∧ Q (.tup xs)) : Ev (dCB dTuple (dCons t dNil)) ρ M Q := fun R r => h _ fun d ⟨xs, e, q⟩ => by
  subst e
  exact q_tuple_lst.mpr (r _ q)
/-- x.append(e) -/
theorem es_app (e : slot ρ i = some (.ref p)) (hp : M p = some (.lst xs)) (hl : xs.length ≤ 1000) (h : Ev t ρ M P) (q : ∀ d, P d → D0.nx ρ (mset M p (.lst (xs ++ [d])))) : dDrop (dMeth "list" dAppend (dVar i) (dCons t dNil)) D0 ρ M :=
  ⟨_, e, tyM_l hp, h _ fun d hd => ⟨p, xs, d, rfl, rfl, hp, Nat.lt_of_le_of_lt hl (by decide), q d hd⟩⟩
/-- two that are told alike, the first one a list at hand -/
theorem ne_frz {j : Nat} {d : D} {ds : List D} {tt : Str} {Rt : Bool → Mem → Prop} (h : Rp d tt) (ed : d = .lst ds) (e : slot ρ i = some (.ref p)) (hp : M p = some (.lst ds)) (ej : slot ρ j = some d) (q : Rt false (mdel M p)) :
    dTest (dOp dNe (dCB dRepr (dCons (dFrz (dVar i)) dNil)) (dCB dRepr (dCons (dVar j) dNil))) ρ M Rt := by
  subst ed
  simp only [dTest, dOp, dCB, dCons, dNil]
  refine ⟨_, e, p, ds, rfl, hp, h.2.2 ⟨_, ej, h.2.2 ?_⟩⟩
  refine q_ne_str.mpr ⟨by simp [tyD], _, rfl, ?_⟩
  have e : isStr (.str tt) tt = true := by simp [isStr]
  rw [e]
  exact q
end
end DL

set_option Elab.async false
set_option linter.all false
set_option maxHeartbeats 8000000
set_option maxRecDepth 100000
/-! k31: the readings and the walks (printed by gen.py). -/
namespace Yk31
open PySem PySem.Spec PyProof.Rows L2 DL
def topS (i : Nat) : Stmt := PySem.Challenge.pw_eyesforever_k31_rows_read_and_set.main.body.getD i (.Pass ⟨0, 0, 0, 0⟩)
abbrev s_is_integer : Stmt := topS 6
abbrev s_is_from : Stmt := topS 7
abbrev s_is_tag_value : Stmt := topS 8
abbrev s_are_cells : Stmt := topS 11
abbrev s_is_part_of : Stmt := topS 12
abbrev s_is_row_value : Stmt := topS 13
abbrev s_cells_read : Stmt := topS 14
abbrev s_cell_set : Stmt := topS 15
abbrev s_need_row : Stmt := topS 17
abbrev s_read_by : Stmt := topS 18
abbrev s_set_by : Stmt := topS 19
abbrev s__law_deck : Stmt := topS 21
abbrev s__law_draw : Stmt := topS 22
abbrev s__law_pick : Stmt := topS 23
abbrev s__law_is_integer : Stmt := topS 24
abbrev s__law_is_number : Stmt := topS 25
abbrev s__law_is_tag : Stmt := topS 26
abbrev s__law_shapes : Stmt := topS 27
abbrev s__law_is_row : Stmt := topS 28
abbrev s__law_read : Stmt := topS 29
abbrev s__law_set : Stmt := topS 30
abbrev s__law_any : Stmt := topS 31
abbrev s__law_bent : Stmt := topS 32
abbrev s__law_any_row : Stmt := topS 33
abbrev s__law_tried : Stmt := topS 34
abbrev s_law : Stmt := topS 35
abbrev d_LONGEST_TAG : D := .int 8
abbrev d_SHAPES : List (Str × D) := [("top", .tup [.str "set"]), ("move", .tup [.str "set", .str "read"]), ("left", .tup [.str "set", .str "read"]), ("right", .tup [.str "set", .str "read"]), ("up", .tup [.str "set", .str "read"]), ("yes", .tup [.str "set"]), ("no", .tup [.str "set"]), ("has", .tup [.str "set", .str "read", .str "tag"]), ("empty", .tup [.str "set", .str "read"]), ("same", .tup [.str "set", .str "read", .str "read"]), ("not", .tup [.str "set", .str "read"]), ("skip", .tup [.str "row"]), ("unless", .tup [.str "read", .str "row"]), ("call", .tup [.str "set", .str "function", .str "args"]), ("give", .tup [.str "read"])]
abbrev d_SMALL : D := .str "abcdefghijklmnopqrstuvwxyz"
abbrev errL : List Str := ["BadRow"]
abbrev tab_BadRow : List (Str × Bool) := [("BadRow", true)]
abbrev tab_EyesError : List (Str × Bool) := [("BadRow", true)]
structure Facts (w : World) (K : PySem.W.Frag) (mg : Str → Option Value) : Prop where
  f_is_integer : ∃ (f : Addr) (fd : FuncData), mg "is_integer" = some (.ref f) ∧ Fun K "is_integer" "is_integer" s_is_integer f fd
  f_is_from : ∃ (f : Addr) (fd : FuncData), mg "is_from" = some (.ref f) ∧ Fun K "is_from" "is_from" s_is_from f fd
  f_is_tag_value : ∃ (f : Addr) (fd : FuncData), mg "is_tag_value" = some (.ref f) ∧ Fun K "is_tag_value" "is_tag_value" s_is_tag_value f fd
  f_are_cells : ∃ (f : Addr) (fd : FuncData), mg "are_cells" = some (.ref f) ∧ Fun K "are_cells" "are_cells" s_are_cells f fd
  f_is_part_of : ∃ (f : Addr) (fd : FuncData), mg "is_part_of" = some (.ref f) ∧ Fun K "is_part_of" "is_part_of" s_is_part_of f fd
  f_is_row_value : ∃ (f : Addr) (fd : FuncData), mg "is_row_value" = some (.ref f) ∧ Fun K "is_row_value" "is_row_value" s_is_row_value f fd
  f_cells_read : ∃ (f : Addr) (fd : FuncData), mg "cells_read" = some (.ref f) ∧ Fun K "cells_read" "cells_read" s_cells_read f fd
  f_cell_set : ∃ (f : Addr) (fd : FuncData), mg "cell_set" = some (.ref f) ∧ Fun K "cell_set" "cell_set" s_cell_set f fd
  f_need_row : ∃ (f : Addr) (fd : FuncData), mg "need_row" = some (.ref f) ∧ Fun K "need_row" "need_row" s_need_row f fd
  f_read_by : ∃ (f : Addr) (fd : FuncData), mg "read_by" = some (.ref f) ∧ Fun K "read_by" "read_by" s_read_by f fd
  f_set_by : ∃ (f : Addr) (fd : FuncData), mg "set_by" = some (.ref f) ∧ Fun K "set_by" "set_by" s_set_by f fd
  f__law_deck : ∃ (f : Addr) (fd : FuncData), mg "_law_deck" = some (.ref f) ∧ Fun K "_law_deck" "_law_deck" s__law_deck f fd
  f__law_draw : ∃ (f : Addr) (fd : FuncData), mg "_law_draw" = some (.ref f) ∧ Fun K "_law_draw" "_law_draw" s__law_draw f fd
  f__law_pick : ∃ (f : Addr) (fd : FuncData), mg "_law_pick" = some (.ref f) ∧ Fun K "_law_pick" "_law_pick" s__law_pick f fd
  f__law_is_integer : ∃ (f : Addr) (fd : FuncData), mg "_law_is_integer" = some (.ref f) ∧ Fun K "_law_is_integer" "_law_is_integer" s__law_is_integer f fd
  f__law_is_number : ∃ (f : Addr) (fd : FuncData), mg "_law_is_number" = some (.ref f) ∧ Fun K "_law_is_number" "_law_is_number" s__law_is_number f fd
  f__law_is_tag : ∃ (f : Addr) (fd : FuncData), mg "_law_is_tag" = some (.ref f) ∧ Fun K "_law_is_tag" "_law_is_tag" s__law_is_tag f fd
  f__law_shapes : ∃ (f : Addr) (fd : FuncData), mg "_law_shapes" = some (.ref f) ∧ Fun K "_law_shapes" "_law_shapes" s__law_shapes f fd
  f__law_is_row : ∃ (f : Addr) (fd : FuncData), mg "_law_is_row" = some (.ref f) ∧ Fun K "_law_is_row" "_law_is_row" s__law_is_row f fd
  f__law_read : ∃ (f : Addr) (fd : FuncData), mg "_law_read" = some (.ref f) ∧ Fun K "_law_read" "_law_read" s__law_read f fd
  f__law_set : ∃ (f : Addr) (fd : FuncData), mg "_law_set" = some (.ref f) ∧ Fun K "_law_set" "_law_set" s__law_set f fd
  f__law_any : ∃ (f : Addr) (fd : FuncData), mg "_law_any" = some (.ref f) ∧ Fun K "_law_any" "_law_any" s__law_any f fd
  f__law_bent : ∃ (f : Addr) (fd : FuncData), mg "_law_bent" = some (.ref f) ∧ Fun K "_law_bent" "_law_bent" s__law_bent f fd
  f__law_any_row : ∃ (f : Addr) (fd : FuncData), mg "_law_any_row" = some (.ref f) ∧ Fun K "_law_any_row" "_law_any_row" s__law_any_row f fd
  f__law_tried : ∃ (f : Addr) (fd : FuncData), mg "_law_tried" = some (.ref f) ∧ Fun K "_law_tried" "_law_tried" s__law_tried f fd
  f_law : ∃ (f : Addr) (fd : FuncData), mg "law" = some (.ref f) ∧ Fun K "law" "law" s_law f fd
  z_all : mg "all" = none
  z_bool : mg "bool" = none
  z_int : mg "int" = none
  z_isinstance : mg "isinstance" = none
  z_len : mg "len" = none
  z_list : mg "list" = none
  z_max : mg "max" = none
  z_range : mg "range" = none
  z_repr : mg "repr" = none
  z_sorted : mg "sorted" = none
  z_str : mg "str" = none
  z_tuple : mg "tuple" = none
  z_zip : mg "zip" = none
  c_LONGEST_TAG : Holds K mg "LONGEST_TAG" d_LONGEST_TAG
  c_SHAPES : HoldsD w K mg "SHAPES" d_SHAPES
  c_SMALL : Holds K mg "SMALL" d_SMALL
  er_BadRow : ∃ C fI q, PySem.EyX.ErrTxt K mg "BadRow" q "thing" C fI
  g_BadRow : ∃ D : Addr, mg "BadRow" = some (.ref D)
  rel_BadRow : ∀ p ∈ tab_BadRow, ErrRel K mg "BadRow" p.1 p.2
  g_EyesError : ∃ D : Addr, mg "EyesError" = some (.ref D)
  rel_EyesError : ∀ p ∈ tab_EyesError, ErrRel K mg "EyesError" p.1 p.2
  cls_sp : PySem.W.specialIn K (.builtin "object.__class__") "__get__" = some (some (.builtin "getset_descriptor.__get__"))
  cls_tk : PySem.W.takesIn K (.builtin "object.__class__") = some true
theorem Facts.err_thing {w : World} {K : PySem.W.Frag} {mg : Str → Option Value} (G : Facts w K mg) : ∀ x ∈ errL, ∃ C fI q, PySem.EyX.ErrTxt K mg x q "thing" C fI := List.forall_mem_cons.mpr ⟨G.er_BadRow, fun _ h => nomatch h⟩
theorem Facts.errI {w : World} {K : PySem.W.Frag} {mg : Str → Option Value} (G : Facts w K mg) : ∀ x ∈ errL, ∃ C fI q f, PySem.EyX.ErrTxt K mg x q f C fI := fun x h => let ⟨C, fI, q, t⟩ := G.err_thing x h; ⟨C, fI, q, _, t⟩
abbrev N_is_integer : List Str := ["thing"]
theorem nd_is_integer : N_is_integer.Nodup := by decide +kernel
theorem sc_is_integer : FnScope N_is_integer ["thing"] (defScope s_is_integer) := ⟨rfl, rfl, rfl, nd_is_integer, rfl, by decide +kernel, by decide +kernel⟩
theorem B_is_integer : PosB "is_integer" s_is_integer ["thing"] := fun _ _ _ _ _ _ us hl => match us, hl with | [_], _ => rfl
abbrev N_is_from : List Str := ["thing", "least"]
theorem nd_is_from : N_is_from.Nodup := by decide +kernel
theorem sc_is_from : FnScope N_is_from ["thing", "least"] (defScope s_is_from) := ⟨rfl, rfl, rfl, nd_is_from, rfl, by decide +kernel, by decide +kernel⟩
theorem B_is_from : PosB "is_from" s_is_from ["thing", "least"] := fun _ _ _ _ _ _ us hl => match us, hl with | [_, _], _ => rfl
abbrev N_is_tag_value : List Str := ["thing", "sign"]
theorem nd_is_tag_value : N_is_tag_value.Nodup := by decide +kernel
theorem sc_is_tag_value : FnScope N_is_tag_value ["thing"] (defScope s_is_tag_value) := ⟨rfl, rfl, rfl, nd_is_tag_value, rfl, by decide +kernel, by decide +kernel⟩
theorem B_is_tag_value : PosB "is_tag_value" s_is_tag_value ["thing"] := fun _ _ _ _ _ _ us hl => match us, hl with | [_], _ => rfl
abbrev N_are_cells : List Str := ["thing", "item"]
theorem nd_are_cells : N_are_cells.Nodup := by decide +kernel
theorem sc_are_cells : FnScope N_are_cells ["thing"] (defScope s_are_cells) := ⟨rfl, rfl, rfl, nd_are_cells, rfl, by decide +kernel, by decide +kernel⟩
theorem B_are_cells : PosB "are_cells" s_are_cells ["thing"] := fun _ _ _ _ _ _ us hl => match us, hl with | [_], _ => rfl
abbrev N_is_part_of : List Str := ["shape", "thing"]
theorem nd_is_part_of : N_is_part_of.Nodup := by decide +kernel
theorem sc_is_part_of : FnScope N_is_part_of ["shape", "thing"] (defScope s_is_part_of) := ⟨rfl, rfl, rfl, nd_is_part_of, rfl, by decide +kernel, by decide +kernel⟩
theorem B_is_part_of : PosB "is_part_of" s_is_part_of ["shape", "thing"] := fun _ _ _ _ _ _ us hl => match us, hl with | [_, _], _ => rfl
abbrev N_is_row_value : List Str := ["thing", "shapes", "shape", "part"]
theorem nd_is_row_value : N_is_row_value.Nodup := by decide +kernel
theorem sc_is_row_value : FnScope N_is_row_value ["thing"] (defScope s_is_row_value) := ⟨rfl, rfl, rfl, nd_is_row_value, rfl, by decide +kernel, by decide +kernel⟩
theorem B_is_row_value : PosB "is_row_value" s_is_row_value ["thing"] := fun _ _ _ _ _ _ us hl => match us, hl with | [_], _ => rfl
abbrev N_cells_read : List Str := ["row", "found", "shape", "part"]
theorem nd_cells_read : N_cells_read.Nodup := by decide +kernel
theorem sc_cells_read : FnScope N_cells_read ["row"] (defScope s_cells_read) := ⟨rfl, rfl, rfl, nd_cells_read, rfl, by decide +kernel, by decide +kernel⟩
theorem B_cells_read : PosB "cells_read" s_cells_read ["row"] := fun _ _ _ _ _ _ us hl => match us, hl with | [_], _ => rfl
abbrev N_cell_set : List Str := ["row"]
theorem nd_cell_set : N_cell_set.Nodup := by decide +kernel
theorem sc_cell_set : FnScope N_cell_set ["row"] (defScope s_cell_set) := ⟨rfl, rfl, rfl, nd_cell_set, rfl, by decide +kernel, by decide +kernel⟩
theorem B_cell_set : PosB "cell_set" s_cell_set ["row"] := fun _ _ _ _ _ _ us hl => match us, hl with | [_], _ => rfl
abbrev N_need_row : List Str := ["row"]
theorem nd_need_row : N_need_row.Nodup := by decide +kernel
theorem sc_need_row : FnScope N_need_row ["row"] (defScope s_need_row) := ⟨rfl, rfl, rfl, nd_need_row, rfl, by decide +kernel, by decide +kernel⟩
theorem B_need_row : PosB "need_row" s_need_row ["row"] := fun _ _ _ _ _ _ us hl => match us, hl with | [_], _ => rfl
abbrev N_read_by : List Str := ["row"]
theorem nd_read_by : N_read_by.Nodup := by decide +kernel
theorem sc_read_by : FnScope N_read_by ["row"] (defScope s_read_by) := ⟨rfl, rfl, rfl, nd_read_by, rfl, by decide +kernel, by decide +kernel⟩
theorem B_read_by : PosB "read_by" s_read_by ["row"] := fun _ _ _ _ _ _ us hl => match us, hl with | [_], _ => rfl
abbrev N_set_by : List Str := ["row"]
theorem nd_set_by : N_set_by.Nodup := by decide +kernel
theorem sc_set_by : FnScope N_set_by ["row"] (defScope s_set_by) := ⟨rfl, rfl, rfl, nd_set_by, rfl, by decide +kernel, by decide +kernel⟩
theorem B_set_by : PosB "set_by" s_set_by ["row"] := fun _ _ _ _ _ _ us hl => match us, hl with | [_], _ => rfl
abbrev N__law_deck : List Str := ["script", "mixed", "cell"]
theorem nd__law_deck : N__law_deck.Nodup := by decide +kernel
theorem sc__law_deck : FnScope N__law_deck ["script"] (defScope s__law_deck) := ⟨rfl, rfl, rfl, nd__law_deck, rfl, by decide +kernel, by decide +kernel⟩
theorem B__law_deck : PosB "_law_deck" s__law_deck ["script"] := fun _ _ _ _ _ _ us hl => match us, hl with | [_], _ => rfl
abbrev N__law_draw : List Str := ["deck", "many", "number", "cell"]
theorem nd__law_draw : N__law_draw.Nodup := by decide +kernel
theorem sc__law_draw : FnScope N__law_draw ["deck", "many"] (defScope s__law_draw) := ⟨rfl, rfl, rfl, nd__law_draw, rfl, by decide +kernel, by decide +kernel⟩
theorem B__law_draw : PosB "_law_draw" s__law_draw ["deck", "many"] := fun _ _ _ _ _ _ us hl => match us, hl with | [_, _], _ => rfl
abbrev N__law_pick : List Str := ["deck", "some"]
theorem nd__law_pick : N__law_pick.Nodup := by decide +kernel
theorem sc__law_pick : FnScope N__law_pick ["deck", "some"] (defScope s__law_pick) := ⟨rfl, rfl, rfl, nd__law_pick, rfl, by decide +kernel, by decide +kernel⟩
theorem B__law_pick : PosB "_law_pick" s__law_pick ["deck", "some"] := fun _ _ _ _ _ _ us hl => match us, hl with | [_, _], _ => rfl
abbrev N__law_is_integer : List Str := ["thing"]
theorem nd__law_is_integer : N__law_is_integer.Nodup := by decide +kernel
theorem sc__law_is_integer : FnScope N__law_is_integer ["thing"] (defScope s__law_is_integer) := ⟨rfl, rfl, rfl, nd__law_is_integer, rfl, by decide +kernel, by decide +kernel⟩
theorem B__law_is_integer : PosB "_law_is_integer" s__law_is_integer ["thing"] := fun _ _ _ _ _ _ us hl => match us, hl with | [_], _ => rfl
abbrev N__law_is_number : List Str := ["thing"]
theorem nd__law_is_number : N__law_is_number.Nodup := by decide +kernel
theorem sc__law_is_number : FnScope N__law_is_number ["thing"] (defScope s__law_is_number) := ⟨rfl, rfl, rfl, nd__law_is_number, rfl, by decide +kernel, by decide +kernel⟩
theorem B__law_is_number : PosB "_law_is_number" s__law_is_number ["thing"] := fun _ _ _ _ _ _ us hl => match us, hl with | [_], _ => rfl
abbrev N__law_is_tag : List Str := ["thing", "sign"]
theorem nd__law_is_tag : N__law_is_tag.Nodup := by decide +kernel
theorem sc__law_is_tag : FnScope N__law_is_tag ["thing"] (defScope s__law_is_tag) := ⟨rfl, rfl, rfl, nd__law_is_tag, rfl, by decide +kernel, by decide +kernel⟩
theorem B__law_is_tag : PosB "_law_is_tag" s__law_is_tag ["thing"] := fun _ _ _ _ _ _ us hl => match us, hl with | [_], _ => rfl
abbrev N__law_shapes : List Str := []
theorem nd__law_shapes : N__law_shapes.Nodup := by decide +kernel
theorem sc__law_shapes : FnScope N__law_shapes [] (defScope s__law_shapes) := ⟨rfl, rfl, rfl, nd__law_shapes, rfl, by decide +kernel, by decide +kernel⟩
theorem B__law_shapes : PosB "_law_shapes" s__law_shapes [] := fun _ _ _ _ _ _ us hl => match us, hl with | [], _ => rfl
abbrev N__law_is_row : List Str := ["thing", "shape", "kind", "it", "x"]
theorem nd__law_is_row : N__law_is_row.Nodup := by decide +kernel
theorem sc__law_is_row : FnScope N__law_is_row ["thing"] (defScope s__law_is_row) := ⟨rfl, rfl, rfl, nd__law_is_row, rfl, by decide +kernel, by decide +kernel⟩
theorem B__law_is_row : PosB "_law_is_row" s__law_is_row ["thing"] := fun _ _ _ _ _ _ us hl => match us, hl with | [_], _ => rfl
abbrev N__law_read : List Str := ["row", "found", "kind", "it"]
theorem nd__law_read : N__law_read.Nodup := by decide +kernel
theorem sc__law_read : FnScope N__law_read ["row"] (defScope s__law_read) := ⟨rfl, rfl, rfl, nd__law_read, rfl, by decide +kernel, by decide +kernel⟩
theorem B__law_read : PosB "_law_read" s__law_read ["row"] := fun _ _ _ _ _ _ us hl => match us, hl with | [_], _ => rfl
abbrev N__law_set : List Str := ["row"]
theorem nd__law_set : N__law_set.Nodup := by decide +kernel
theorem sc__law_set : FnScope N__law_set ["row"] (defScope s__law_set) := ⟨rfl, rfl, rfl, nd__law_set, rfl, by decide +kernel, by decide +kernel⟩
theorem B__law_set : PosB "_law_set" s__law_set ["row"] := fun _ _ _ _ _ _ us hl => match us, hl with | [_], _ => rfl
abbrev N__law_any : List Str := ["deck", "deep", "way", "some", "turn"]
theorem nd__law_any : N__law_any.Nodup := by decide +kernel
theorem sc__law_any : FnScope N__law_any ["deck", "deep"] (defScope s__law_any) := ⟨rfl, rfl, rfl, nd__law_any, rfl, by decide +kernel, by decide +kernel⟩
theorem B__law_any : PosB "_law_any" s__law_any ["deck", "deep"] := fun _ _ _ _ _ _ us hl => match us, hl with | [_, _], _ => rfl
abbrev N__law_bent : List Str := ["deck", "thing", "deep", "at", "way"]
theorem nd__law_bent : N__law_bent.Nodup := by decide +kernel
theorem sc__law_bent : FnScope N__law_bent ["deck", "thing", "deep"] (defScope s__law_bent) := ⟨rfl, rfl, rfl, nd__law_bent, rfl, by decide +kernel, by decide +kernel⟩
theorem B__law_bent : PosB "_law_bent" s__law_bent ["deck", "thing", "deep"] := fun _ _ _ _ _ _ us hl => match us, hl with | [_, _, _], _ => rfl
abbrev N__law_any_row : List Str := ["deck", "word", "found", "kind", "turn"]
theorem nd__law_any_row : N__law_any_row.Nodup := by decide +kernel
theorem sc__law_any_row : FnScope N__law_any_row ["deck"] (defScope s__law_any_row) := ⟨rfl, rfl, rfl, nd__law_any_row, rfl, by decide +kernel, by decide +kernel⟩
theorem B__law_any_row : PosB "_law_any_row" s__law_any_row ["deck"] := fun _ _ _ _ _ _ us hl => match us, hl with | [_], _ => rfl
abbrev N__law_tried : List Str := ["call", "e"]
theorem nd__law_tried : N__law_tried.Nodup := by decide +kernel
theorem sc__law_tried : FnScope N__law_tried ["call"] (defScope s__law_tried) := ⟨rfl, rfl, rfl, nd__law_tried, rfl, by decide +kernel, by decide +kernel⟩
theorem B__law_tried : PosB "_law_tried" s__law_tried ["call"] := fun _ _ _ _ _ _ us hl => match us, hl with | [_], _ => rfl
abbrev N_law : List Str := ["script", "deck", "turn", "row", "due", "told"]
theorem nd_law : N_law.Nodup := by decide +kernel
theorem sc_law : FnScope N_law ["script"] (defScope s_law) := ⟨rfl, rfl, rfl, nd_law, rfl, by decide +kernel, by decide +kernel⟩
theorem B_law : PosB "law" s_law ["script"] := fun _ _ _ _ _ _ us hl => match us, hl with | [_], _ => rfl
section
variable {P : Program} {w : World} {K : PySem.W.Frag} {mg : Str → Option Value} {base : Heap}
def tl__law_tried (ta : DX) : DS := (dTry (dRetX (xTup (xCons (xOf (dC (.str "returned"))) (xCons ta xNil)))) [⟨tab_EyesError, 1, fun x a dd => (dRet (dTup (dCons (dC (.str "raised")) (dCons (dIsE tab_BadRow x a dd (dVar 1)) (dCons (dIf (dTest (dIsE tab_BadRow x a dd (dVar 1))) (dCB dRepr (dCons (dXf a dd "thing" (dVar 1)) dNil)) (dC .non)) dNil)))))⟩])
theorem pl__law_tried (G : Facts w K mg) {k : Nat} {f : Addr} (cdv : Value) {A : Around} {outer : List Env} {s : Shared} {H : Hp} {ta : DX} (hr : Room k (A.deeper (envOfC "_law_tried" (defScope s__law_tried) s.heap.objs.size f cdv))) (hG : A.guards = some [])
    (hact : ∀ (pn : List (Addr × Obj)) (xe : Value → Shared → Prop) (p1 p2 : Pos), PEDX ((cxOf CX0 P w K mg base N__law_tried "_law_tried" (defScope s__law_tried) f cdv A outer s H C8.E0).tr pn xe) (.Call (.Name "call" p1) [] [] p2) ta) :
    PBD (cxOf CX0 P w K mg base N__law_tried "_law_tried" (defScope s__law_tried) f cdv A outer s H C8.E0).nox (defBody s__law_tried) (tl__law_tried ta) :=
  (db_one (ds_try rfl rfl nd__law_tried (fun pn xe hp => (db_one (ds_retX (dx_tup (xa_cons (dx_of de_str) (xa_cons (hact _ _ _ _) xa_nil)))))) (.cons rfl rfl rfl (by decide) G.g_EyesError.choose_spec G.rel_EyesError (fun x C dd a oe pn hx hm hz hf => (db_one (ds_ret (de_tup (da_cons de_str (da_cons (de_isE G.errI G.cls_sp G.cls_tk G.rel_BadRow G.z_isinstance (show x ∈ errL from hx) hm hz hf G.g_BadRow.choose_spec (de_var 1)) (da_cons (de_if (dt_val (de_isE G.errI G.cls_sp G.cls_tk G.rel_BadRow G.z_isinstance (show x ∈ errL from hx) hm hz hf G.g_BadRow.choose_spec (de_var 1))) (de_callB (cd_repr hG hr.units) G.z_repr (da_cons (de_xf G.err_thing (show x ∈ errL from hx) hm hz hf (de_var 1)) da_nil)) de_non) da_nil))))))) (.nil))))
def t_is_integer : DS := (dRet (dAndV (dCB dIsi (dCons (dVar 0) (dCons (dC (.ty "int")) dNil))) (dNotV (dCB dIsi (dCons (dVar 0) (dCons (dC (.ty "bool")) dNil))))))
theorem p_is_integer (G : Facts w K mg) {k : Nat} {f : Addr} (cdv : Value) (A : Around) (outer : List Env) (s : Shared) (H : Hp) (E : XK) (hr : Room (k) (A.deeper (envOfC "is_integer" (defScope s_is_integer) s.heap.objs.size f cdv))) (hG : A.guards = some []) :
    PBD (cxOf CX0 P w K mg base N_is_integer "is_integer" (defScope s_is_integer) f cdv A outer s H E).nox (defBody s_is_integer) (t_is_integer) :=
  (db_one (ds_ret (de_and (de_callB cd_isi G.z_isinstance (da_cons (de_var 0) (da_cons (de_ty G.z_int) da_nil))) (de_one (de_not (de_callB cd_isi G.z_isinstance (da_cons (de_var 0) (da_cons (de_ty G.z_bool) da_nil))))))))
def t_is_from (sp_is_integer : SpD) : DS := (dRet (dAndV (dCall sp_is_integer (dCons (dVar 0) dNil)) (dOp dGe (dVar 0) (dVar 1))))
theorem p_is_from (G : Facts w K mg) {k : Nat} {sp_is_integer : SpD} (h_is_integer : Has P w K mg base CX0 "is_integer" s_is_integer ["thing"] k sp_is_integer) {f : Addr} (cdv : Value) (A : Around) (outer : List Env) (s : Shared) (H : Hp) (E : XK) (hr : Room (k) (A.deeper (envOfC "is_from" (defScope s_is_from) s.heap.objs.size f cdv))) (hG : A.guards = some []) :
    PBD (cxOf CX0 P w K mg base N_is_from "is_from" (defScope s_is_from) f cdv A outer s H E).nox (defBody s_is_from) (t_is_from sp_is_integer) :=
  (db_one (ds_ret (de_and (de_call h_is_integer hr hG B_is_integer (da_cons (de_var 0) da_nil)) (de_one (de_cmp od_ge (de_var 0) (de_var 1) (by rfl))))))
def t_is_tag_value : DS := (dSeq (dIfS (dOr (dNot (dTest (dCB dIsi (dCons (dVar 0) (dCons (dC (.ty "str")) dNil))))) (dNot (dTest (dChain dLe dLe (dC (.int 1)) (dCB dLen (dCons (dVar 0) dNil)) (dC d_LONGEST_TAG))))) (dRet (dC (.bl false))) dNext) (dRet (dCB dAll (dCons (dLc [1] (dVal (dVar 0)) (gNm 1) dYes (dOp dIn (dVar 1) (dC d_SMALL))) dNil))))
theorem p_is_tag_value (G : Facts w K mg) {k : Nat} {f : Addr} (cdv : Value) (A : Around) (outer : List Env) (s : Shared) (H : Hp) (E : XK) (hr : Room (k) (A.deeper (envOfC "is_tag_value" (defScope s_is_tag_value) s.heap.objs.size f cdv))) (hG : A.guards = some []) :
    PBD (cxOf CX0 P w K mg base N_is_tag_value "is_tag_value" (defScope s_is_tag_value) f cdv A outer s H E).nox (defBody s_is_tag_value) (t_is_tag_value) :=
  (db_cons (ds_if (dt_of (dw_or (dt_not (dt_val (de_callB cd_isi G.z_isinstance (da_cons (de_var 0) (da_cons (de_ty G.z_str) da_nil))))) (dw_or1 (dt_not (dt_chain od_le od_le de_int (de_callB cd_len G.z_len (da_cons (de_var 0) da_nil)) (de_glob G.c_LONGEST_TAG)))))) (db_one (ds_ret de_bl)) db_nil) (db_one (ds_ret (de_callB (cd_all rfl) G.z_all (da_cons (de_lc (own := [("sign", 1)]) rfl nd_is_tag_value (di_val (de_var 0)) (by dsimp only [cxOf, Cx.nox, Cx.blk, compEnvC, envOfC]; decide +kernel) (fun _ _ _ _ _ => (dg_name (vs := _) 1 nd_is_tag_value)) (fun _ _ _ _ _ => dts_nil) (fun _ _ _ _ _ => (de_cmp od_in (de_var 1) (de_glob G.c_SMALL) (by rfl)))) da_nil)))))
def t_are_cells (sp_is_from : SpD) : DS := (dRet (dAndV (dCB dIsi (dCons (dVar 0) (dCons (dC (.ty "tuple")) dNil))) (dCB dAll (dCons (dLc [1] (dVal (dVar 0)) (gNm 1) dYes (dCall sp_is_from (dCons (dVar 1) (dCons (dC (.int 0)) dNil)))) dNil))))
theorem p_are_cells (G : Facts w K mg) {k : Nat} {sp_is_from : SpD} (h_is_from : Has P w K mg base CX0 "is_from" s_is_from ["thing", "least"] k sp_is_from) {f : Addr} (cdv : Value) (A : Around) (outer : List Env) (s : Shared) (H : Hp) (E : XK) (hr : Room (k) (A.deeper (envOfC "are_cells" (defScope s_are_cells) s.heap.objs.size f cdv))) (hG : A.guards = some []) :
    PBD (cxOf CX0 P w K mg base N_are_cells "are_cells" (defScope s_are_cells) f cdv A outer s H E).nox (defBody s_are_cells) (t_are_cells sp_is_from) :=
  (db_one (ds_ret (de_and (de_callB cd_isi G.z_isinstance (da_cons (de_var 0) (da_cons (de_ty G.z_tuple) da_nil))) (de_one (de_callB (cd_all rfl) G.z_all (da_cons (de_lc (own := [("item", 1)]) rfl nd_are_cells (di_val (de_var 0)) (by dsimp only [cxOf, Cx.nox, Cx.blk, compEnvC, envOfC]; decide +kernel) (fun _ _ _ _ _ => (dg_name (vs := _) 1 nd_are_cells)) (fun _ _ _ _ _ => dts_nil) (fun _ _ _ _ _ => (de_call h_is_from hr hG B_is_from (da_cons (de_var 1) (da_cons de_int da_nil))))) da_nil))))))
def t_is_part_of (sp_is_from : SpD) (sp_is_tag_value : SpD) (sp_are_cells : SpD) : DS := (dSeq (dIfS (dTest (dOp dEq (dVar 0) (dC (.str "tag")))) (dRet (dCall sp_is_tag_value (dCons (dVar 1) dNil))) dNext) (dRet (dIf (dTest (dOp dEq (dVar 0) (dC (.str "args")))) (dCall sp_are_cells (dCons (dVar 1) dNil)) (dCall sp_is_from (dCons (dVar 1) (dCons (dC (.int 0)) dNil))))))
theorem p_is_part_of (G : Facts w K mg) {k : Nat} {sp_is_from : SpD} (h_is_from : Has P w K mg base CX0 "is_from" s_is_from ["thing", "least"] k sp_is_from) {sp_is_tag_value : SpD} (h_is_tag_value : Has P w K mg base CX0 "is_tag_value" s_is_tag_value ["thing"] k sp_is_tag_value) {sp_are_cells : SpD} (h_are_cells : Has P w K mg base CX0 "are_cells" s_are_cells ["thing"] k sp_are_cells) {f : Addr} (cdv : Value) (A : Around) (outer : List Env) (s : Shared) (H : Hp) (E : XK) (hr : Room (k) (A.deeper (envOfC "is_part_of" (defScope s_is_part_of) s.heap.objs.size f cdv))) (hG : A.guards = some []) :
    PBD (cxOf CX0 P w K mg base N_is_part_of "is_part_of" (defScope s_is_part_of) f cdv A outer s H E).nox (defBody s_is_part_of) (t_is_part_of sp_is_from sp_is_tag_value sp_are_cells) :=
  (db_cons (ds_if (dt_cmp (od_eq hr.units) (de_var 0) de_str (by rfl)) (db_one (ds_ret (de_call h_is_tag_value hr hG B_is_tag_value (da_cons (de_var 1) da_nil)))) db_nil) (db_one (ds_ret (de_if (dt_cmp (od_eq hr.units) (de_var 0) de_str (by rfl)) (de_call h_are_cells hr hG B_are_cells (da_cons (de_var 1) da_nil)) (de_call h_is_from hr hG B_is_from (da_cons (de_var 1) (da_cons de_int da_nil)))))))
def t_is_row_value (sp_is_part_of : SpD) : DS := (dSeq (dIfS (dOr (dNot (dTest (dCB dIsi (dCons (dVar 0) (dCons (dC (.ty "tuple")) dNil))))) (dOr (dTest (dOp dEq (dVar 0) (dTup dNil))) (dOr (dNot (dTest (dCB dIsi (dCons (dOp dIx (dVar 0) (dC (.int 0))) (dCons (dC (.ty "str")) dNil))))) (dTest (dKdNotIn d_SHAPES (dOp dIx (dVar 0) (dC (.int 0)))))))) (dRet (dC (.bl false))) dNext) (dSeq (dSet 1 (dKdGet d_SHAPES (dOp dIx (dVar 0) (dC (.int 0))))) (dRet (dAndV (dOp dEq (dCB dLen (dCons (dVar 0) dNil)) (dOp dAdd (dCB dLen (dCons (dVar 1) dNil)) (dC (.int 1)))) (dCB dAll (dCons (dLc [2, 3] (dZip (dCons (dVar 1) (dCons (dSl (dVar 0) (dPart (dC (.int 1))) dNoPart) dNil))) (gTp 2 (gsCons (gNm 2) (gsCons (gNm 3) gsNil))) dYes (dCall sp_is_part_of (dCons (dVar 2) (dCons (dVar 3) dNil)))) dNil))))))
theorem p_is_row_value (G : Facts w K mg) {k : Nat} {sp_is_part_of : SpD} (h_is_part_of : Has P w K mg base CX0 "is_part_of" s_is_part_of ["shape", "thing"] k sp_is_part_of) {f : Addr} (cdv : Value) (A : Around) (outer : List Env) (s : Shared) (H : Hp) (E : XK) (hr : Room (k) (A.deeper (envOfC "is_row_value" (defScope s_is_row_value) s.heap.objs.size f cdv))) (hG : A.guards = some []) :
    PBD (cxOf CX0 P w K mg base N_is_row_value "is_row_value" (defScope s_is_row_value) f cdv A outer s H E).nox (defBody s_is_row_value) (t_is_row_value sp_is_part_of) :=
  (db_cons (ds_if (dt_of (dw_or (dt_not (dt_val (de_callB cd_isi G.z_isinstance (da_cons (de_var 0) (da_cons (de_ty G.z_tuple) da_nil))))) (dw_or (dt_cmp (od_eq hr.units) (de_var 0) (de_tup da_nil) (by rfl)) (dw_or (dt_not (dt_val (de_callB cd_isi G.z_isinstance (da_cons (de_ix (de_var 0) de_int) (da_cons (de_ty G.z_str) da_nil))))) (dw_or1 (dt_kdNotIn G.c_SHAPES (de_ix (de_var 0) de_int))))))) (db_one (ds_ret de_bl)) db_nil) (db_cons (ds_set 1 nd_is_row_value (de_kdGet G.c_SHAPES (de_ix (de_var 0) de_int))) (db_one (ds_ret (de_and (de_cmp (od_eq hr.units) (de_callB cd_len G.z_len (da_cons (de_var 0) da_nil)) (de_op od_add (de_callB cd_len G.z_len (da_cons (de_var 1) da_nil)) de_int) (by rfl)) (de_one (de_callB (cd_all rfl) G.z_all (da_cons (de_lc (own := [("shape", 2), ("part", 3)]) rfl nd_is_row_value (di_zip G.z_zip (da_cons (de_var 1) (da_cons (de_sl (de_var 0) (do_some de_int) do_none) da_nil))) (by dsimp only [cxOf, Cx.nox, Cx.blk, compEnvC, envOfC]; decide +kernel) (fun _ _ _ _ _ => (dg_tup rfl (dgs_cons (dg_name (vs := _) 2 nd_is_row_value) (dgs_cons (dg_name (vs := _) 3 nd_is_row_value) dgs_nil)))) (fun _ _ _ _ _ => dts_nil) (fun _ _ _ _ _ => (de_call h_is_part_of hr hG B_is_part_of (da_cons (de_var 2) (da_cons (de_var 3) da_nil))))) da_nil))))))))
def t_cells_read : DS := (dSeq (dSet 1 (dLstM dNil)) (dSeq (dFor (dZip (dCons (dKdGet d_SHAPES (dOp dIx (dVar 0) (dC (.int 0)))) (dCons (dSl (dVar 0) (dPart (dC (.int 1))) dNoPart) dNil))) (gTp 2 (gsCons (gNm 2) (gsCons (gNm 3) gsNil))) (dIfS (dTest (dOp dEq (dVar 2) (dC (.str "read")))) (dDrop (dMeth "list" dAppend (dVar 1) (dCons (dVar 3) dNil))) (dIfS (dTest (dOp dEq (dVar 2) (dC (.str "args")))) (dDrop (dMeth "list" dExtendT (dVar 1) (dCons (dVar 3) dNil))) dNext))) (dRet (dCB dTuple (dCons (dVar 1) dNil)))))
theorem p_cells_read (G : Facts w K mg) {k : Nat} {f : Addr} (cdv : Value) (A : Around) (outer : List Env) (s : Shared) (H : Hp) (E : XK) (hr : Room (k) (A.deeper (envOfC "cells_read" (defScope s_cells_read) s.heap.objs.size f cdv))) (hG : A.guards = some []) :
    PBD (cxOf CX0 P w K mg base N_cells_read "cells_read" (defScope s_cells_read) f cdv A outer s H E).nox (defBody s_cells_read) (t_cells_read) :=
  (db_cons (ds_set 1 nd_cells_read (de_lstM da_nil)) (db_cons (ds_for (vs := [2, 3]) PassesOwn.never rfl (di_zip G.z_zip (da_cons (de_kdGet G.c_SHAPES (de_ix (de_var 0) de_int)) (da_cons (de_sl (de_var 0) (do_some de_int) do_none) da_nil))) (dg_tup rfl (dgs_cons (dg_name (vs := [2, 3]) 2 nd_cells_read) (dgs_cons (dg_name (vs := [2, 3]) 3 nd_cells_read) dgs_nil))) (db_one (ds_if (dt_cmp (od_eq hr.units) (de_var 2) de_str (by rfl)) (db_one (ds_expr (de_meth PySem.F.plainAttrs_list PySem.F.slot_list_append PySem.F.type_list_append md_append (de_var 1) (da_cons (de_var 3) da_nil)))) (db_one (ds_if (dt_cmp (od_eq hr.units) (de_var 2) de_str (by rfl)) (db_one (ds_expr (de_meth PySem.F.plainAttrs_list PySem.F.slot_list_extend PySem.F.type_list_extend md_extendT (de_var 1) (da_cons (de_var 3) da_nil)))) db_nil))))) (db_one (ds_ret (de_callTy cd_tuple G.z_tuple (da_cons (de_var 1) da_nil))))))
def t_cell_set : DS := (dRet (dIf (dTest (dOp dEq (dOp dIx (dKdGet d_SHAPES (dOp dIx (dVar 0) (dC (.int 0)))) (dC (.int 0))) (dC (.str "set")))) (dOp dIx (dVar 0) (dC (.int 1))) (dC .non)))
theorem p_cell_set (G : Facts w K mg) {k : Nat} {f : Addr} (cdv : Value) (A : Around) (outer : List Env) (s : Shared) (H : Hp) (E : XK) (hr : Room (k) (A.deeper (envOfC "cell_set" (defScope s_cell_set) s.heap.objs.size f cdv))) (hG : A.guards = some []) :
    PBD (cxOf CX0 P w K mg base N_cell_set "cell_set" (defScope s_cell_set) f cdv A outer s H E).nox (defBody s_cell_set) (t_cell_set) :=
  (db_one (ds_ret (de_if (dt_cmp (od_eq hr.units) (de_ix (de_kdGet G.c_SHAPES (de_ix (de_var 0) de_int)) de_int) de_str (by rfl)) (de_ix (de_var 0) de_int) de_non)))
def t_need_row (sp_is_row_value : SpD) : DS := (dIfS (dNot (dTest (dCall sp_is_row_value (dCons (dVar 0) dNil)))) (fun _ _ _ => False) dNext)
theorem p_need_row (G : Facts w K mg) {k : Nat} {sp_is_row_value : SpD} (h_is_row_value : Has P w K mg base CX0 "is_row_value" s_is_row_value ["thing"] k sp_is_row_value) {f : Addr} (cdv : Value) (A : Around) (outer : List Env) (s : Shared) (H : Hp) (E : XK) (hr : Room (k) (A.deeper (envOfC "need_row" (defScope s_need_row) s.heap.objs.size f cdv))) (hG : A.guards = some []) :
    PBD (cxOf CX0 P w K mg base N_need_row "need_row" (defScope s_need_row) f cdv A outer s H E).nox (defBody s_need_row) (t_need_row sp_is_row_value) :=
  (db_one (ds_if (dt_not (dt_val (de_call h_is_row_value hr hG B_is_row_value (da_cons (de_var 0) da_nil)))) (db_one ds_never) db_nil))
def tx_need_row (sp_is_row_value : SpD) : DS := (dIfS (dNot (dTest (dCall sp_is_row_value (dCons (dVar 0) dNil)))) (dRaise "BadRow" "thing" (dVar 0)) dNext)
theorem px_need_row (G : Facts w K mg) {k : Nat} {sp_is_row_value : SpD} (h_is_row_value : Has P w K mg base CX0 "is_row_value" s_is_row_value ["thing"] k sp_is_row_value) {f : Addr} (cdv : Value) (A : Around) (outer : List Env) (s : Shared) (H : Hp) (E : XK) (hr : Room k (A.deeper (envOfC "need_row" (defScope s_need_row) s.heap.objs.size f cdv))) (hG : A.guards = some []) :
    PBD (cxOf (L2.CX P w) P w K mg base N_need_row "need_row" (defScope s_need_row) f cdv A outer s H E) (defBody s_need_row) (tx_need_row sp_is_row_value) :=
  (db_one (ds_if (dt_not (dt_val (de_call h_is_row_value hr hG B_is_row_value (da_cons (de_var 0) da_nil)))) (db_one (ds_raise G.er_BadRow (.inl rfl) rfl hr (de_var 0))) db_nil))
def t_read_by (sp_cells_read : SpD) (sp_need_row : SpD) : DS := (dSeq (dDrop (dCall sp_need_row (dCons (dVar 0) dNil))) (dRet (dCall sp_cells_read (dCons (dVar 0) dNil))))
theorem p_read_by (G : Facts w K mg) {k : Nat} {sp_cells_read : SpD} (h_cells_read : Has P w K mg base CX0 "cells_read" s_cells_read ["row"] k sp_cells_read) {sp_need_row : SpD} (h_need_row : Has P w K mg base CX0 "need_row" s_need_row ["row"] k sp_need_row) {f : Addr} (cdv : Value) (A : Around) (outer : List Env) (s : Shared) (H : Hp) (E : XK) (hr : Room (k) (A.deeper (envOfC "read_by" (defScope s_read_by) s.heap.objs.size f cdv))) (hG : A.guards = some []) :
    PBD (cxOf CX0 P w K mg base N_read_by "read_by" (defScope s_read_by) f cdv A outer s H E).nox (defBody s_read_by) (t_read_by sp_cells_read sp_need_row) :=
  (db_cons (ds_expr (de_call h_need_row hr hG B_need_row (da_cons (de_var 0) da_nil))) (db_one (ds_ret (de_call h_cells_read hr hG B_cells_read (da_cons (de_var 0) da_nil)))))
def tx_read_by (sp_cells_read : SpD) (spx_need_row : SpD) : DS := (dSeq (dDropX (xCall spx_need_row (dCons (dVar 0) dNil))) (dRet (dCall sp_cells_read (dCons (dVar 0) dNil))))
theorem px_read_by (G : Facts w K mg) {k : Nat} {sp_cells_read : SpD} (h_cells_read : Has P w K mg base CX0 "cells_read" s_cells_read ["row"] k sp_cells_read) {spx_need_row : SpD} (hx_need_row : Has P w K mg base (L2.CX P w) "need_row" s_need_row ["row"] k spx_need_row) {f : Addr} (cdv : Value) (A : Around) (outer : List Env) (s : Shared) (H : Hp) (E : XK) (hr : Room k (A.deeper (envOfC "read_by" (defScope s_read_by) s.heap.objs.size f cdv))) (hG : A.guards = some []) :
    PBD (cxOf (L2.CX P w) P w K mg base N_read_by "read_by" (defScope s_read_by) f cdv A outer s H E) (defBody s_read_by) (tx_read_by sp_cells_read spx_need_row) :=
  (db_cons (ds_exprX (dx_call hx_need_row hr hG B_need_row (da_cons (de_var 0) da_nil))) (db_one (ds_ret (de_call h_cells_read hr hG B_cells_read (da_cons (de_var 0) da_nil)))))
def t_set_by (sp_cell_set : SpD) (sp_need_row : SpD) : DS := (dSeq (dDrop (dCall sp_need_row (dCons (dVar 0) dNil))) (dRet (dCall sp_cell_set (dCons (dVar 0) dNil))))
theorem p_set_by (G : Facts w K mg) {k : Nat} {sp_cell_set : SpD} (h_cell_set : Has P w K mg base CX0 "cell_set" s_cell_set ["row"] k sp_cell_set) {sp_need_row : SpD} (h_need_row : Has P w K mg base CX0 "need_row" s_need_row ["row"] k sp_need_row) {f : Addr} (cdv : Value) (A : Around) (outer : List Env) (s : Shared) (H : Hp) (E : XK) (hr : Room (k) (A.deeper (envOfC "set_by" (defScope s_set_by) s.heap.objs.size f cdv))) (hG : A.guards = some []) :
    PBD (cxOf CX0 P w K mg base N_set_by "set_by" (defScope s_set_by) f cdv A outer s H E).nox (defBody s_set_by) (t_set_by sp_cell_set sp_need_row) :=
  (db_cons (ds_expr (de_call h_need_row hr hG B_need_row (da_cons (de_var 0) da_nil))) (db_one (ds_ret (de_call h_cell_set hr hG B_cell_set (da_cons (de_var 0) da_nil)))))
def tx_set_by (sp_cell_set : SpD) (spx_need_row : SpD) : DS := (dSeq (dDropX (xCall spx_need_row (dCons (dVar 0) dNil))) (dRet (dCall sp_cell_set (dCons (dVar 0) dNil))))
theorem px_set_by (G : Facts w K mg) {k : Nat} {sp_cell_set : SpD} (h_cell_set : Has P w K mg base CX0 "cell_set" s_cell_set ["row"] k sp_cell_set) {spx_need_row : SpD} (hx_need_row : Has P w K mg base (L2.CX P w) "need_row" s_need_row ["row"] k spx_need_row) {f : Addr} (cdv : Value) (A : Around) (outer : List Env) (s : Shared) (H : Hp) (E : XK) (hr : Room k (A.deeper (envOfC "set_by" (defScope s_set_by) s.heap.objs.size f cdv))) (hG : A.guards = some []) :
    PBD (cxOf (L2.CX P w) P w K mg base N_set_by "set_by" (defScope s_set_by) f cdv A outer s H E) (defBody s_set_by) (tx_set_by sp_cell_set spx_need_row) :=
  (db_cons (ds_exprX (dx_call hx_need_row hr hG B_need_row (da_cons (de_var 0) da_nil))) (db_one (ds_ret (de_call h_cell_set hr hG B_cell_set (da_cons (de_var 0) da_nil)))))
def t__law_deck : DS := (dSeq (dSet 1 (dC (.int 14409138))) (dSeq (dFor (dVal (dSl (dVar 0) dNoPart (dPart (dC (.int 63))))) (gNm 2) (dSet 1 (dOp dMod (dCB dInt1 (dCons (dOp dAdd (dOp dAdd (dOp dMul (dVar 1) (dC (.int 40692))) (dOp dMod (dCB dInt1 (dCons (dVar 2) dNil)) (dC (.int 2147483629)))) (dC (.int 115))) dNil)) (dC (.int 2147483549))))) (dRet (dDispM [((dC (.str "cells")), (dRevM (dCB dList (dCons (dSl (dVar 0) dNoPart (dPart (dC (.int 63)))) dNil)))), ((dC (.str "mixed")), (dVar 1)), ((dC (.str "draws")), (dC (.int 0)))]))))
theorem p__law_deck (G : Facts w K mg) {k : Nat} {f : Addr} (cdv : Value) (A : Around) (outer : List Env) (s : Shared) (H : Hp) (E : XK) (hr : Room (k) (A.deeper (envOfC "_law_deck" (defScope s__law_deck) s.heap.objs.size f cdv))) (hG : A.guards = some []) :
    PBD (cxOf CX0 P w K mg base N__law_deck "_law_deck" (defScope s__law_deck) f cdv A outer s H E).nox (defBody s__law_deck) (t__law_deck) :=
  (db_cons (ds_set 1 nd__law_deck de_int) (db_cons (ds_for (vs := [2]) PassesOwn.never rfl (di_val (de_sl (de_var 0) do_none (do_some de_int))) (dg_name (vs := [2]) 2 nd__law_deck) (db_one (ds_set 1 nd__law_deck (de_op od_mod (de_callTy cd_int1 G.z_int (da_cons (de_op od_add (de_op od_add (de_op od_mul (de_var 1) de_int) (de_op od_mod (de_callTy cd_int1 G.z_int (da_cons (de_var 2) da_nil)) de_int)) de_int) da_nil)) de_int)))) (db_one (ds_ret (de_dispM (dps_cons de_str (de_revM (de_callTy cd_list G.z_list (da_cons (de_sl (de_var 0) do_none (do_some de_int)) da_nil))) (dps_cons de_str (de_var 1) (dps_cons de_str de_int dps_nil))))))))
def t__law_draw : DS := (dOpen 0 (dSeq (dDPut (dVar 0) (dC (.str "draws")) (dOp dAdd (dDGet (dVar 0) (dC (.str "draws"))) (dC (.int 1)))) (dSeq (dSet 2 (dOp dAdd (dDGet (dVar 0) (dC (.str "mixed"))) (dOp dMul (dC (.int 54679)) (dDGet (dVar 0) (dC (.str "draws")))))) (dSeq (dIfS (dTest (dOp dNe (dDGet (dVar 0) (dC (.str "cells"))) (dLst dNil))) (dSeq (dSet 3 (dMeth0 "list" dPop (dDGet (dVar 0) (dC (.str "cells"))))) (dSeq (dIfS (dTest (dOp dGe (dVar 3) (dOp dPow (dC (.int 10)) (dC (.int 18))))) (dSeq (dDrop (dMeth "list" dAppend (dDGet (dVar 0) (dC (.str "cells"))) (dCons (dOp dDiv (dVar 3) (dCB dMax2 (dCons (dC (.int 2)) (dCons (dVar 1) dNil)))) dNil))) (dRet (dOp dMod (dCB dInt1 (dCons (dVar 3) dNil)) (dVar 1)))) dNext) (dSet 2 (dOp dAdd (dVar 2) (dOp dMod (dCB dInt1 (dCons (dVar 3) dNil)) (dC (.int 2147483629))))))) dNext) (dSeq (dSet 2 (dOp dMod (dCB dInt1 (dCons (dOp dAdd (dOp dMul (dVar 2) (dC (.int 39373))) (dC (.int 115))) dNil)) (dC (.int 2147483579)))) (dSeq (dSet 2 (dOp dMod (dCB dInt1 (dCons (dOp dAdd (dOp dAdd (dOp dMul (dVar 2) (dVar 2)) (dOp dMul (dC (.int 52361)) (dDGet (dVar 0) (dC (.str "draws"))))) (dC (.int 227))) dNil)) (dC (.int 2147483647)))) (dSeq (dSet 2 (dOp dMod (dCB dInt1 (dCons (dOp dMul (dVar 2) (dC (.int 48271))) dNil)) (dC (.int 2147483563)))) (dRet (dOp dMod (dCB dInt1 (dCons (dOp dDiv (dVar 2) (dC (.int 64))) dNil)) (dVar 1))))))))))
theorem p__law_draw (G : Facts w K mg) {k : Nat} {f : Addr} (cdv : Value) (A : Around) (outer : List Env) (s : Shared) (H : Hp) (E : XK) (hr : Room (k) (A.deeper (envOfC "_law_draw" (defScope s__law_draw) s.heap.objs.size f cdv))) (hG : A.guards = some []) :
    PBD (cxOf CX0 P w K mg base N__law_draw "_law_draw" (defScope s__law_draw) f cdv A outer s H E).nox (defBody s__law_draw) (t__law_draw) :=
  (db_open 0 (db_cons (ds_dput (hu_of hr) (de_var 0) de_str (de_op od_add (de_dget (hu_of hr) (de_var 0) de_str) de_int)) (db_cons (ds_set 2 nd__law_draw (de_op od_add (de_dget (hu_of hr) (de_var 0) de_str) (de_op od_mul de_int (de_dget (hu_of hr) (de_var 0) de_str)))) (db_cons (ds_if (dt_cmp (od_ne hr.units) (de_dget (hu_of hr) (de_var 0) de_str) (de_lst da_nil) (by rfl)) (db_cons (ds_set 3 nd__law_draw (de_meth0 PySem.F.plainAttrs_list PySem.F.slot_list_pop PySem.F.type_list_pop md_pop (de_dget (hu_of hr) (de_var 0) de_str))) (db_cons (ds_if (dt_cmp od_ge (de_var 3) (de_op od_pow de_int de_int) (by rfl)) (db_cons (ds_expr (de_meth PySem.F.plainAttrs_list PySem.F.slot_list_append PySem.F.type_list_append md_append (de_dget (hu_of hr) (de_var 0) de_str) (da_cons (de_op od_div (de_var 3) (de_callB (cd_max2 rfl) G.z_max (da_cons de_int (da_cons (de_var 1) da_nil)))) da_nil))) (db_one (ds_ret (de_op od_mod (de_callTy cd_int1 G.z_int (da_cons (de_var 3) da_nil)) (de_var 1))))) db_nil) (db_one (ds_set 2 nd__law_draw (de_op od_add (de_var 2) (de_op od_mod (de_callTy cd_int1 G.z_int (da_cons (de_var 3) da_nil)) de_int)))))) db_nil) (db_cons (ds_set 2 nd__law_draw (de_op od_mod (de_callTy cd_int1 G.z_int (da_cons (de_op od_add (de_op od_mul (de_var 2) de_int) de_int) da_nil)) de_int)) (db_cons (ds_set 2 nd__law_draw (de_op od_mod (de_callTy cd_int1 G.z_int (da_cons (de_op od_add (de_op od_add (de_op od_mul (de_var 2) (de_var 2)) (de_op od_mul de_int (de_dget (hu_of hr) (de_var 0) de_str))) de_int) da_nil)) de_int)) (db_cons (ds_set 2 nd__law_draw (de_op od_mod (de_callTy cd_int1 G.z_int (da_cons (de_op od_mul (de_var 2) de_int) da_nil)) de_int)) (db_one (ds_ret (de_op od_mod (de_callTy cd_int1 G.z_int (da_cons (de_op od_div (de_var 2) de_int) da_nil)) (de_var 1)))))))))))
def t__law_pick (sp__law_draw : SpD) : DS := (dRet (dOp dIx (dVar 1) (dCall sp__law_draw (dCons (dVar 0) (dCons (dCB dLen (dCons (dVar 1) dNil)) dNil)))))
theorem p__law_pick (G : Facts w K mg) {k : Nat} {sp__law_draw : SpD} (h__law_draw : Has P w K mg base CX0 "_law_draw" s__law_draw ["deck", "many"] k sp__law_draw) {f : Addr} (cdv : Value) (A : Around) (outer : List Env) (s : Shared) (H : Hp) (E : XK) (hr : Room (k) (A.deeper (envOfC "_law_pick" (defScope s__law_pick) s.heap.objs.size f cdv))) (hG : A.guards = some []) :
    PBD (cxOf CX0 P w K mg base N__law_pick "_law_pick" (defScope s__law_pick) f cdv A outer s H E).nox (defBody s__law_pick) (t__law_pick sp__law_draw) :=
  (db_one (ds_ret (de_ix (de_var 1) (de_call h__law_draw hr hG B__law_draw (da_cons (de_var 0) (da_cons (de_callB cd_len G.z_len (da_cons (de_var 1) da_nil)) da_nil))))))
def t__law_is_integer : DS := (dRet (dAndV (dCB dIsi (dCons (dVar 0) (dCons (dC (.ty "int")) dNil))) (dNotV (dCB dIsi (dCons (dVar 0) (dCons (dC (.ty "bool")) dNil))))))
theorem p__law_is_integer (G : Facts w K mg) {k : Nat} {f : Addr} (cdv : Value) (A : Around) (outer : List Env) (s : Shared) (H : Hp) (E : XK) (hr : Room (k) (A.deeper (envOfC "_law_is_integer" (defScope s__law_is_integer) s.heap.objs.size f cdv))) (hG : A.guards = some []) :
    PBD (cxOf CX0 P w K mg base N__law_is_integer "_law_is_integer" (defScope s__law_is_integer) f cdv A outer s H E).nox (defBody s__law_is_integer) (t__law_is_integer) :=
  (db_one (ds_ret (de_and (de_callB cd_isi G.z_isinstance (da_cons (de_var 0) (da_cons (de_ty G.z_int) da_nil))) (de_one (de_not (de_callB cd_isi G.z_isinstance (da_cons (de_var 0) (da_cons (de_ty G.z_bool) da_nil))))))))
def t__law_is_number (sp__law_is_integer : SpD) : DS := (dRet (dAndV (dCall sp__law_is_integer (dCons (dVar 0) dNil)) (dOp dGe (dVar 0) (dC (.int 0)))))
theorem p__law_is_number (G : Facts w K mg) {k : Nat} {sp__law_is_integer : SpD} (h__law_is_integer : Has P w K mg base CX0 "_law_is_integer" s__law_is_integer ["thing"] k sp__law_is_integer) {f : Addr} (cdv : Value) (A : Around) (outer : List Env) (s : Shared) (H : Hp) (E : XK) (hr : Room (k) (A.deeper (envOfC "_law_is_number" (defScope s__law_is_number) s.heap.objs.size f cdv))) (hG : A.guards = some []) :
    PBD (cxOf CX0 P w K mg base N__law_is_number "_law_is_number" (defScope s__law_is_number) f cdv A outer s H E).nox (defBody s__law_is_number) (t__law_is_number sp__law_is_integer) :=
  (db_one (ds_ret (de_and (de_call h__law_is_integer hr hG B__law_is_integer (da_cons (de_var 0) da_nil)) (de_one (de_cmp od_ge (de_var 0) de_int (by rfl))))))
def t__law_is_tag : DS := (dSeq (dIfS (dOr (dNot (dTest (dCB dIsi (dCons (dVar 0) (dCons (dC (.ty "str")) dNil))))) (dNot (dTest (dChain dLe dLe (dC (.int 1)) (dCB dLen (dCons (dVar 0) dNil)) (dC (.int 8)))))) (dRet (dC (.bl false))) dNext) (dRet (dOp dEq (dLc [1] (dVal (dVar 0)) (gNm 1) (dTest (dOp dNotIn (dVar 1) (dC (.str "abcdefghijklmnopqrstuvwxyz")))) (dVar 1)) (dLst dNil))))
theorem p__law_is_tag (G : Facts w K mg) {k : Nat} {f : Addr} (cdv : Value) (A : Around) (outer : List Env) (s : Shared) (H : Hp) (E : XK) (hr : Room (k) (A.deeper (envOfC "_law_is_tag" (defScope s__law_is_tag) s.heap.objs.size f cdv))) (hG : A.guards = some []) :
    PBD (cxOf CX0 P w K mg base N__law_is_tag "_law_is_tag" (defScope s__law_is_tag) f cdv A outer s H E).nox (defBody s__law_is_tag) (t__law_is_tag) :=
  (db_cons (ds_if (dt_of (dw_or (dt_not (dt_val (de_callB cd_isi G.z_isinstance (da_cons (de_var 0) (da_cons (de_ty G.z_str) da_nil))))) (dw_or1 (dt_not (dt_chain od_le od_le de_int (de_callB cd_len G.z_len (da_cons (de_var 0) da_nil)) de_int))))) (db_one (ds_ret de_bl)) db_nil) (db_one (ds_ret (de_cmp (od_eq hr.units) (de_lc (own := [("sign", 1)]) rfl nd__law_is_tag (di_val (de_var 0)) (by dsimp only [cxOf, Cx.nox, Cx.blk, compEnvC, envOfC]; decide +kernel) (fun _ _ _ _ _ => (dg_name (vs := _) 1 nd__law_is_tag)) (fun _ _ _ _ _ => (dts_one (dt_cmp od_notIn (de_var 1) de_str (by rfl)))) (fun _ _ _ _ _ => (de_var 1))) (de_lst da_nil) (by rfl)))))
def t__law_shapes : DS := (dRet (dDisp [((dC (.str "top")), (dC (.str "d"))), ((dC (.str "move")), (dC (.str "ds"))), ((dC (.str "left")), (dC (.str "ds"))), ((dC (.str "right")), (dC (.str "ds"))), ((dC (.str "up")), (dC (.str "ds"))), ((dC (.str "yes")), (dC (.str "d"))), ((dC (.str "no")), (dC (.str "d"))), ((dC (.str "has")), (dC (.str "dst"))), ((dC (.str "empty")), (dC (.str "ds"))), ((dC (.str "same")), (dC (.str "dss"))), ((dC (.str "not")), (dC (.str "ds"))), ((dC (.str "skip")), (dC (.str "k"))), ((dC (.str "unless")), (dC (.str "sk"))), ((dC (.str "call")), (dC (.str "dfa"))), ((dC (.str "give")), (dC (.str "s")))]))
theorem p__law_shapes (G : Facts w K mg) {k : Nat} {f : Addr} (cdv : Value) (A : Around) (outer : List Env) (s : Shared) (H : Hp) (E : XK) (hr : Room (k) (A.deeper (envOfC "_law_shapes" (defScope s__law_shapes) s.heap.objs.size f cdv))) (hG : A.guards = some []) :
    PBD (cxOf CX0 P w K mg base N__law_shapes "_law_shapes" (defScope s__law_shapes) f cdv A outer s H E).nox (defBody s__law_shapes) (t__law_shapes) :=
  (db_one (ds_ret (de_disp (dps_cons de_str de_str (dps_cons de_str de_str (dps_cons de_str de_str (dps_cons de_str de_str (dps_cons de_str de_str (dps_cons de_str de_str (dps_cons de_str de_str (dps_cons de_str de_str (dps_cons de_str de_str (dps_cons de_str de_str (dps_cons de_str de_str (dps_cons de_str de_str (dps_cons de_str de_str (dps_cons de_str de_str (dps_cons de_str de_str dps_nil))))))))))))))))))
def t__law_is_row (sp__law_is_number : SpD) (sp__law_is_tag : SpD) (sp__law_shapes : SpD) : DS := (dSeq (dIfS (dOr (dNot (dTest (dCB dIsi (dCons (dVar 0) (dCons (dC (.ty "tuple")) dNil))))) (dOr (dTest (dOp dEq (dVar 0) (dTup dNil))) (dNot (dTest (dCB dIsi (dCons (dOp dIx (dVar 0) (dC (.int 0))) (dCons (dC (.ty "str")) dNil))))))) (dRet (dC (.bl false))) dNext) (dSeq (dSet 1 (dGet1 (dCall sp__law_shapes dNil) (dOp dIx (dVar 0) (dC (.int 0))))) (dSeq (dIfS (dOr (dTest (dOp dIsN (dVar 1) (dC .non))) (dTest (dOp dNe (dCB dLen (dCons (dVar 0) dNil)) (dOp dAdd (dC (.int 1)) (dCB dLen (dCons (dVar 1) dNil)))))) (dRet (dC (.bl false))) dNext) (dSeq (dFor (dZip (dCons (dVar 1) (dCons (dSl (dVar 0) (dPart (dC (.int 1))) dNoPart) dNil))) (gTp 2 (gsCons (gNm 2) (gsCons (gNm 3) gsNil))) (dSeq (dIfS (dOr (dAnd (dTest (dOp dEq (dVar 2) (dC (.str "t")))) (dNot (dTest (dCall sp__law_is_tag (dCons (dVar 3) dNil))))) (dAnd (dTest (dOp dIn (dVar 2) (dC (.str "dskf")))) (dNot (dTest (dCall sp__law_is_number (dCons (dVar 3) dNil)))))) (dRet (dC (.bl false))) dNext) (dIfS (dAnd (dTest (dOp dEq (dVar 2) (dC (.str "a")))) (dOr (dNot (dTest (dCB dIsi (dCons (dVar 3) (dCons (dC (.ty "tuple")) dNil))))) (dTest (dOp dNe (dLc [4] (dVal (dVar 3)) (gNm 4) (dNot (dTest (dCall sp__law_is_number (dCons (dVar 4) dNil)))) (dVar 4)) (dLst dNil))))) (dRet (dC (.bl false))) dNext))) (dRet (dC (.bl true)))))))
theorem p__law_is_row (G : Facts w K mg) {k : Nat} {sp__law_is_number : SpD} (h__law_is_number : Has P w K mg base CX0 "_law_is_number" s__law_is_number ["thing"] k sp__law_is_number) {sp__law_is_tag : SpD} (h__law_is_tag : Has P w K mg base CX0 "_law_is_tag" s__law_is_tag ["thing"] k sp__law_is_tag) {sp__law_shapes : SpD} (h__law_shapes : Has P w K mg base CX0 "_law_shapes" s__law_shapes [] k sp__law_shapes) {f : Addr} (cdv : Value) (A : Around) (outer : List Env) (s : Shared) (H : Hp) (E : XK) (hr : Room (k) (A.deeper (envOfC "_law_is_row" (defScope s__law_is_row) s.heap.objs.size f cdv))) (hG : A.guards = some []) :
    PBD (cxOf CX0 P w K mg base N__law_is_row "_law_is_row" (defScope s__law_is_row) f cdv A outer s H E).nox (defBody s__law_is_row) (t__law_is_row sp__law_is_number sp__law_is_tag sp__law_shapes) :=
  (db_cons (ds_if (dt_of (dw_or (dt_not (dt_val (de_callB cd_isi G.z_isinstance (da_cons (de_var 0) (da_cons (de_ty G.z_tuple) da_nil))))) (dw_or (dt_cmp (od_eq hr.units) (de_var 0) (de_tup da_nil) (by rfl)) (dw_or1 (dt_not (dt_val (de_callB cd_isi G.z_isinstance (da_cons (de_ix (de_var 0) de_int) (da_cons (de_ty G.z_str) da_nil))))))))) (db_one (ds_ret de_bl)) db_nil) (db_cons (ds_set 1 nd__law_is_row (de_get1 (hu_of hr) (de_call0 h__law_shapes hr hG B__law_shapes) (de_ix (de_var 0) de_int))) (db_cons (ds_if (dt_of (dw_or (dt_cmp od_is (de_var 1) de_non (by rfl)) (dw_or1 (dt_cmp (od_ne hr.units) (de_callB cd_len G.z_len (da_cons (de_var 0) da_nil)) (de_op od_add de_int (de_callB cd_len G.z_len (da_cons (de_var 1) da_nil))) (by rfl))))) (db_one (ds_ret de_bl)) db_nil) (db_cons (ds_for (vs := [2, 3]) PassesOwn.never rfl (di_zip G.z_zip (da_cons (de_var 1) (da_cons (de_sl (de_var 0) (do_some de_int) do_none) da_nil))) (dg_tup rfl (dgs_cons (dg_name (vs := [2, 3]) 2 nd__law_is_row) (dgs_cons (dg_name (vs := [2, 3]) 3 nd__law_is_row) dgs_nil))) (db_cons (ds_if (dt_of (dw_or (dt_of (dw_and (dt_cmp (od_eq hr.units) (de_var 2) de_str (by rfl)) (dw_and1 (dt_not (dt_val (de_call h__law_is_tag hr hG B__law_is_tag (da_cons (de_var 3) da_nil))))))) (dw_or1 (dt_of (dw_and (dt_cmp od_in (de_var 2) de_str (by rfl)) (dw_and1 (dt_not (dt_val (de_call h__law_is_number hr hG B__law_is_number (da_cons (de_var 3) da_nil)))))))))) (db_one (ds_ret de_bl)) db_nil) (db_one (ds_if (dt_of (dw_and (dt_cmp (od_eq hr.units) (de_var 2) de_str (by rfl)) (dw_and1 (dt_of (dw_or (dt_not (dt_val (de_callB cd_isi G.z_isinstance (da_cons (de_var 3) (da_cons (de_ty G.z_tuple) da_nil))))) (dw_or1 (dt_cmp (od_ne hr.units) (de_lc (own := [("x", 4)]) rfl nd__law_is_row (di_val (de_var 3)) (by dsimp only [cxOf, Cx.nox, Cx.blk, compEnvC, envOfC]; decide +kernel) (fun _ _ _ _ _ => (dg_name (vs := _) 4 nd__law_is_row)) (fun _ _ _ _ _ => (dts_one (dt_not (dt_val (de_call h__law_is_number hr hG B__law_is_number (da_cons (de_var 4) da_nil)))))) (fun _ _ _ _ _ => (de_var 4))) (de_lst da_nil) (by rfl)))))))) (db_one (ds_ret de_bl)) db_nil)))) (db_one (ds_ret de_bl))))))
def t__law_read (sp__law_shapes : SpD) : DS := (dSeq (dSet 1 (dLstM dNil)) (dSeq (dFor (dZip (dCons (dDGet (dCall sp__law_shapes dNil) (dOp dIx (dVar 0) (dC (.int 0)))) (dCons (dSl (dVar 0) (dPart (dC (.int 1))) dNoPart) dNil))) (gTp 2 (gsCons (gNm 2) (gsCons (gNm 3) gsNil))) (dDrop (dMeth "list" dExtendL (dVar 1) (dCons (dIf (dTest (dOp dEq (dVar 2) (dC (.str "s")))) (dLst (dCons (dVar 3) dNil)) (dIf (dTest (dOp dEq (dVar 2) (dC (.str "a")))) (dCB dList (dCons (dVar 3) dNil)) (dLst dNil))) dNil)))) (dRet (dVar 1))))
theorem p__law_read (G : Facts w K mg) {k : Nat} {sp__law_shapes : SpD} (h__law_shapes : Has P w K mg base CX0 "_law_shapes" s__law_shapes [] k sp__law_shapes) {f : Addr} (cdv : Value) (A : Around) (outer : List Env) (s : Shared) (H : Hp) (E : XK) (hr : Room (k) (A.deeper (envOfC "_law_read" (defScope s__law_read) s.heap.objs.size f cdv))) (hG : A.guards = some []) :
    PBD (cxOf CX0 P w K mg base N__law_read "_law_read" (defScope s__law_read) f cdv A outer s H E).nox (defBody s__law_read) (t__law_read sp__law_shapes) :=
  (db_cons (ds_set 1 nd__law_read (de_lstM da_nil)) (db_cons (ds_for (vs := [2, 3]) PassesOwn.never rfl (di_zip G.z_zip (da_cons (de_dget (hu_of hr) (de_call0 h__law_shapes hr hG B__law_shapes) (de_ix (de_var 0) de_int)) (da_cons (de_sl (de_var 0) (do_some de_int) do_none) da_nil))) (dg_tup rfl (dgs_cons (dg_name (vs := [2, 3]) 2 nd__law_read) (dgs_cons (dg_name (vs := [2, 3]) 3 nd__law_read) dgs_nil))) (db_one (ds_expr (de_meth PySem.F.plainAttrs_list PySem.F.slot_list_extend PySem.F.type_list_extend md_extendL (de_var 1) (da_cons (de_if (dt_cmp (od_eq hr.units) (de_var 2) de_str (by rfl)) (de_lst (da_cons (de_var 3) da_nil)) (de_if (dt_cmp (od_eq hr.units) (de_var 2) de_str (by rfl)) (de_callTy cd_list G.z_list (da_cons (de_var 3) da_nil)) (de_lst da_nil))) da_nil))))) (db_one (ds_ret (de_var 1)))))
def t__law_set (sp__law_shapes : SpD) : DS := (dRet (dIf (dTest (dOp dEq (dOp dIx (dDGet (dCall sp__law_shapes dNil) (dOp dIx (dVar 0) (dC (.int 0)))) (dC (.int 0))) (dC (.str "d")))) (dOp dIx (dVar 0) (dC (.int 1))) (dC .non)))
theorem p__law_set (G : Facts w K mg) {k : Nat} {sp__law_shapes : SpD} (h__law_shapes : Has P w K mg base CX0 "_law_shapes" s__law_shapes [] k sp__law_shapes) {f : Addr} (cdv : Value) (A : Around) (outer : List Env) (s : Shared) (H : Hp) (E : XK) (hr : Room (k) (A.deeper (envOfC "_law_set" (defScope s__law_set) s.heap.objs.size f cdv))) (hG : A.guards = some []) :
    PBD (cxOf CX0 P w K mg base N__law_set "_law_set" (defScope s__law_set) f cdv A outer s H E).nox (defBody s__law_set) (t__law_set sp__law_shapes) :=
  (db_one (ds_ret (de_if (dt_cmp (od_eq hr.units) (de_ix (de_dget (hu_of hr) (de_call0 h__law_shapes hr hG B__law_shapes) (de_ix (de_var 0) de_int)) de_int) de_str (by rfl)) (de_ix (de_var 0) de_int) de_non)))
def t__law_any (sp__law_draw : SpD) (sp__law_pick : SpD) (sp__law_any : SpD) : DS := (dSeq (dSet 2 (dCall sp__law_draw (dCons (dVar 0) (dCons (dC (.int 8)) dNil)))) (dSeq (dIfS (dTest (dOp dLt (dVar 2) (dC (.int 3)))) (dRet (dCall sp__law_pick (dCons (dVar 0) (dCons (dLst (dCons (dC .non) (dCons (dC (.bl true)) (dCons (dC (.bl false)) (dCons (dC (.int 0)) (dCons (dC (.int 1)) (dCons (dUn dNeg (dC (.int 1))) (dCons (dOp dPow (dC (.int 10)) (dC (.int 39))) (dCons (dC (.str "")) (dCons (dC (.str "a")) (dCons (dC (.str "given")) (dCons (dC (.str "place")) (dCons (dTup dNil) (dCons (dTup (dCons (dC (.int 0)) dNil)) (dCons (dTup (dCons (dC (.str "top")) (dCons (dC (.int 0)) dNil))) (dCons (dTup (dCons (dC (.str "give")) (dCons (dC (.int 0)) dNil))) (dCons (dTup (dCons (dC (.int 0)) (dCons (dTup (dCons (dC (.str "")) dNil)) dNil))) dNil))))))))))))))))) dNil)))) dNext) (dSeq (dSet 3 (dIf (dTest (dOp dGt (dVar 1) (dC (.int 0)))) (dLc [4] (dRng1 (dCons (dCall sp__law_draw (dCons (dVar 0) (dCons (dC (.int 4)) dNil))) dNil)) (gNm 4) dYes (dCall sp__law_any (dCons (dVar 0) (dCons (dOp dSub (dVar 1) (dC (.int 1))) dNil)))) (dLst dNil))) (dRet (dIf (dTest (dOp dEq (dVar 2) (dC (.int 3)))) (dVar 3) (dIf (dTest (dOp dEq (dVar 2) (dC (.int 4)))) (dDisp [((dC (.str "a")), (dVar 3))]) (dCB dTuple (dCons (dVar 3) dNil))))))))
theorem p__law_any (G : Facts w K mg) {k : Nat} {sp__law_draw : SpD} (h__law_draw : Has P w K mg base CX0 "_law_draw" s__law_draw ["deck", "many"] k sp__law_draw) {sp__law_pick : SpD} (h__law_pick : Has P w K mg base CX0 "_law_pick" s__law_pick ["deck", "some"] k sp__law_pick) {sp__law_any : SpD} (h__law_any : Has P w K mg base CX0 "_law_any" s__law_any ["deck", "deep"] k sp__law_any) {f : Addr} (cdv : Value) (A : Around) (outer : List Env) (s : Shared) (H : Hp) (E : XK) (hr : Room (k) (A.deeper (envOfC "_law_any" (defScope s__law_any) s.heap.objs.size f cdv))) (hG : A.guards = some []) :
    PBD (cxOf CX0 P w K mg base N__law_any "_law_any" (defScope s__law_any) f cdv A outer s H E).nox (defBody s__law_any) (t__law_any sp__law_draw sp__law_pick sp__law_any) :=
  (db_cons (ds_set 2 nd__law_any (de_call h__law_draw hr hG B__law_draw (da_cons (de_var 0) (da_cons de_int da_nil)))) (db_cons (ds_if (dt_cmp od_lt (de_var 2) de_int (by rfl)) (db_one (ds_ret (de_call h__law_pick hr hG B__law_pick (da_cons (de_var 0) (da_cons (de_lst (da_cons de_non (da_cons de_bl (da_cons de_bl (da_cons de_int (da_cons de_int (da_cons (de_un ud_neg de_int) (da_cons (de_op od_pow de_int de_int) (da_cons de_str (da_cons de_str (da_cons de_str (da_cons de_str (da_cons (de_tup da_nil) (da_cons (de_tup (da_cons de_int da_nil)) (da_cons (de_tup (da_cons de_str (da_cons de_int da_nil))) (da_cons (de_tup (da_cons de_str (da_cons de_int da_nil))) (da_cons (de_tup (da_cons de_int (da_cons (de_tup (da_cons de_str da_nil)) da_nil))) da_nil))))))))))))))))) da_nil))))) db_nil) (db_cons (ds_set 3 nd__law_any (de_if (dt_cmp od_gt (de_var 1) de_int (by rfl)) (de_lc (own := [("turn", 4)]) rfl nd__law_any (di_rng1 G.z_range (da_cons (de_call h__law_draw hr hG B__law_draw (da_cons (de_var 0) (da_cons de_int da_nil))) da_nil)) (by dsimp only [cxOf, Cx.nox, Cx.blk, compEnvC, envOfC]; decide +kernel) (fun _ _ _ _ _ => (dg_name (vs := _) 4 nd__law_any)) (fun _ _ _ _ _ => dts_nil) (fun _ _ _ _ _ => (de_call h__law_any hr hG B__law_any (da_cons (de_var 0) (da_cons (de_op od_sub (de_var 1) de_int) da_nil))))) (de_lst da_nil))) (db_one (ds_ret (de_if (dt_cmp (od_eq hr.units) (de_var 2) de_int (by rfl)) (de_var 3) (de_if (dt_cmp (od_eq hr.units) (de_var 2) de_int (by rfl)) (de_disp (dps_cons de_str (de_var 3) dps_nil)) (de_callTy cd_tuple G.z_tuple (da_cons (de_var 3) da_nil)))))))))
def t__law_bent (sp__law_draw : SpD) (sp__law_pick : SpD) (sp__law_is_integer : SpD) (sp__law_any : SpD) (sp__law_bent : SpD) : DS := (dSeq (dIfS (dOr (dNot (dTest (dCB dIsi (dCons (dVar 1) (dCons (dC (.ty "tuple")) dNil))))) (dOr (dTest (dOp dEq (dVar 1) (dTup dNil))) (dOr (dTest (dOp dEq (dVar 2) (dC (.int 0)))) (dTest (dOp dEq (dCall sp__law_draw (dCons (dVar 0) (dCons (dC (.int 9)) dNil))) (dC (.int 0))))))) (dSeq (dIfS (dTest (dCall sp__law_is_integer (dCons (dVar 1) dNil))) (dRet (dCall sp__law_pick (dCons (dVar 0) (dCons (dLst (dCons (dOp dAdd (dVar 1) (dC (.int 1))) (dCons (dOp dSub (dVar 1) (dC (.int 1))) (dCons (dOp dSub (dC (.int 0)) (dVar 1)) (dCons (dOp dEq (dVar 1) (dC (.int 1))) (dCons (dCB dStrInt (dCons (dVar 1) dNil)) (dCons (dC .non) (dCons (dC (.int 0)) dNil)))))))) dNil)))) dNext) (dSeq (dIfS (dTest (dCB dIsi (dCons (dVar 1) (dCons (dC (.ty "str")) dNil)))) (dRet (dCall sp__law_pick (dCons (dVar 0) (dCons (dLst (dCons (dOp dAdd (dVar 1) (dC (.str "a"))) (dCons (dSl (dVar 1) (dPart (dC (.int 1))) dNoPart) (dCons (dMeth0 "str" dUpper (dVar 1)) (dCons (dC (.str "place")) (dCons (dC (.str "truth")) (dCons (dC (.str "move")) (dCons (dC (.str "")) (dCons (dC (.int 0)) (dCons (dOp dAdd (dVar 1) (dC (.str " "))) (dCons (dC (.str "a1")) dNil))))))))))) dNil)))) dNext) (dRet (dIf (dNot (dTest (dCB dIsi (dCons (dVar 1) (dCons (dC (.ty "bool")) dNil))))) (dCall sp__law_any (dCons (dVar 0) (dCons (dC (.int 2)) dNil))) (dCall sp__law_pick (dCons (dVar 0) (dCons (dLst (dCons (dNotV (dVar 1)) (dCons (dCB dInt1 (dCons (dVar 1) dNil)) (dCons (dC .non) dNil)))) dNil))))))) dNext) (dSeq (dPar 3 4 (dCons (dCall sp__law_draw (dCons (dVar 0) (dCons (dCB dLen (dCons (dVar 1) dNil)) dNil))) (dCons (dCall sp__law_draw (dCons (dVar 0) (dCons (dC (.int 10)) dNil))) dNil))) (dSeq (dIfS (dTest (dOp dEq (dVar 4) (dC (.int 0)))) (dRet (dOp dAdd (dSl (dVar 1) dNoPart (dPart (dVar 3))) (dSl (dVar 1) (dPart (dOp dAdd (dVar 3) (dC (.int 1)))) dNoPart))) dNext) (dSeq (dIfS (dTest (dOp dEq (dVar 4) (dC (.int 1)))) (dRet (dOp dAdd (dOp dAdd (dSl (dVar 1) dNoPart (dPart (dVar 3))) (dSl (dVar 1) (dPart (dVar 3)) (dPart (dOp dAdd (dVar 3) (dC (.int 1)))))) (dSl (dVar 1) (dPart (dVar 3)) dNoPart))) dNext) (dSeq (dIfS (dTest (dOp dEq (dVar 4) (dC (.int 2)))) (dRet (dIf (dTest (dOp dEq (dCall sp__law_draw (dCons (dVar 0) (dCons (dC (.int 2)) dNil))) (dC (.int 0)))) (dCB dList (dCons (dVar 1) dNil)) (dRev (dVar 1)))) dNext) (dRet (dOp dAdd (dOp dAdd (dSl (dVar 1) dNoPart (dPart (dVar 3))) (dTup (dCons (dCall sp__law_bent (dCons (dVar 0) (dCons (dOp dIx (dVar 1) (dVar 3)) (dCons (dOp dSub (dVar 2) (dC (.int 1))) dNil)))) dNil))) (dSl (dVar 1) (dPart (dOp dAdd (dVar 3) (dC (.int 1)))) dNoPart))))))))
theorem p__law_bent (G : Facts w K mg) {k : Nat} {sp__law_draw : SpD} (h__law_draw : Has P w K mg base CX0 "_law_draw" s__law_draw ["deck", "many"] k sp__law_draw) {sp__law_pick : SpD} (h__law_pick : Has P w K mg base CX0 "_law_pick" s__law_pick ["deck", "some"] k sp__law_pick) {sp__law_is_integer : SpD} (h__law_is_integer : Has P w K mg base CX0 "_law_is_integer" s__law_is_integer ["thing"] k sp__law_is_integer) {sp__law_any : SpD} (h__law_any : Has P w K mg base CX0 "_law_any" s__law_any ["deck", "deep"] k sp__law_any) {sp__law_bent : SpD} (h__law_bent : Has P w K mg base CX0 "_law_bent" s__law_bent ["deck", "thing", "deep"] k sp__law_bent) {f : Addr} (cdv : Value) (A : Around) (outer : List Env) (s : Shared) (H : Hp) (E : XK) (hr : Room (k) (A.deeper (envOfC "_law_bent" (defScope s__law_bent) s.heap.objs.size f cdv))) (hG : A.guards = some []) :
    PBD (cxOf CX0 P w K mg base N__law_bent "_law_bent" (defScope s__law_bent) f cdv A outer s H E).nox (defBody s__law_bent) (t__law_bent sp__law_draw sp__law_pick sp__law_is_integer sp__law_any sp__law_bent) :=
  (db_cons (ds_if (dt_of (dw_or (dt_not (dt_val (de_callB cd_isi G.z_isinstance (da_cons (de_var 1) (da_cons (de_ty G.z_tuple) da_nil))))) (dw_or (dt_cmp (od_eq hr.units) (de_var 1) (de_tup da_nil) (by rfl)) (dw_or (dt_cmp (od_eq hr.units) (de_var 2) de_int (by rfl)) (dw_or1 (dt_cmp (od_eq hr.units) (de_call h__law_draw hr hG B__law_draw (da_cons (de_var 0) (da_cons de_int da_nil))) de_int (by rfl))))))) (db_cons (ds_if (dt_val (de_call h__law_is_integer hr hG B__law_is_integer (da_cons (de_var 1) da_nil))) (db_one (ds_ret (de_call h__law_pick hr hG B__law_pick (da_cons (de_var 0) (da_cons (de_lst (da_cons (de_op od_add (de_var 1) de_int) (da_cons (de_op od_sub (de_var 1) de_int) (da_cons (de_op od_sub de_int (de_var 1)) (da_cons (de_cmp (od_eq hr.units) (de_var 1) de_int (by rfl)) (da_cons (de_callTy cd_strInt G.z_str (da_cons (de_var 1) da_nil)) (da_cons de_non (da_cons de_int da_nil)))))))) da_nil))))) db_nil) (db_cons (ds_if (dt_val (de_callB cd_isi G.z_isinstance (da_cons (de_var 1) (da_cons (de_ty G.z_str) da_nil)))) (db_one (ds_ret (de_call h__law_pick hr hG B__law_pick (da_cons (de_var 0) (da_cons (de_lst (da_cons (de_op od_add (de_var 1) de_str) (da_cons (de_sl (de_var 1) (do_some de_int) do_none) (da_cons (de_meth0 PySem.F.plainAttrs_str PySem.F.slot_str_upper PySem.F.type_str_upper md_upper (de_var 1)) (da_cons de_str (da_cons de_str (da_cons de_str (da_cons de_str (da_cons de_int (da_cons (de_op od_add (de_var 1) de_str) (da_cons de_str da_nil))))))))))) da_nil))))) db_nil) (db_one (ds_ret (de_if (dt_not (dt_val (de_callB cd_isi G.z_isinstance (da_cons (de_var 1) (da_cons (de_ty G.z_bool) da_nil))))) (de_call h__law_any hr hG B__law_any (da_cons (de_var 0) (da_cons de_int da_nil))) (de_call h__law_pick hr hG B__law_pick (da_cons (de_var 0) (da_cons (de_lst (da_cons (de_not (de_var 1)) (da_cons (de_callTy cd_int1 G.z_int (da_cons (de_var 1) da_nil)) (da_cons de_non da_nil)))) da_nil)))))))) db_nil) (db_cons (ds_par 3 4 rfl nd__law_bent (da_cons (de_call h__law_draw hr hG B__law_draw (da_cons (de_var 0) (da_cons (de_callB cd_len G.z_len (da_cons (de_var 1) da_nil)) da_nil))) (da_cons (de_call h__law_draw hr hG B__law_draw (da_cons (de_var 0) (da_cons de_int da_nil))) da_nil))) (db_cons (ds_if (dt_cmp (od_eq hr.units) (de_var 4) de_int (by rfl)) (db_one (ds_ret (de_op od_add (de_sl (de_var 1) do_none (do_some (de_var 3))) (de_sl (de_var 1) (do_some (de_op od_add (de_var 3) de_int)) do_none)))) db_nil) (db_cons (ds_if (dt_cmp (od_eq hr.units) (de_var 4) de_int (by rfl)) (db_one (ds_ret (de_op od_add (de_op od_add (de_sl (de_var 1) do_none (do_some (de_var 3))) (de_sl (de_var 1) (do_some (de_var 3)) (do_some (de_op od_add (de_var 3) de_int)))) (de_sl (de_var 1) (do_some (de_var 3)) do_none)))) db_nil) (db_cons (ds_if (dt_cmp (od_eq hr.units) (de_var 4) de_int (by rfl)) (db_one (ds_ret (de_if (dt_cmp (od_eq hr.units) (de_call h__law_draw hr hG B__law_draw (da_cons (de_var 0) (da_cons de_int da_nil))) de_int (by rfl)) (de_callTy cd_list G.z_list (da_cons (de_var 1) da_nil)) (de_rev (de_var 1))))) db_nil) (db_one (ds_ret (de_op od_add (de_op od_add (de_sl (de_var 1) do_none (do_some (de_var 3))) (de_tup (da_cons (de_call h__law_bent hr hG B__law_bent (da_cons (de_var 0) (da_cons (de_ix (de_var 1) (de_var 3)) (da_cons (de_op od_sub (de_var 2) de_int) da_nil)))) da_nil))) (de_sl (de_var 1) (do_some (de_op od_add (de_var 3) de_int)) do_none)))))))))
def t__law_any_row (sp__law_draw : SpD) (sp__law_pick : SpD) (sp__law_shapes : SpD) : DS := (dSeq (dSet 1 (dCall sp__law_pick (dCons (dVar 0) (dCons (dCB dSorted (dCons (dCB dListK (dCons (dCall sp__law_shapes dNil) dNil)) dNil)) dNil)))) (dSeq (dSet 2 (dLstM (dCons (dVar 1) dNil))) (dSeq (dFor (dVal (dDGet (dCall sp__law_shapes dNil) (dVar 1))) (gNm 3) (dIfS (dTest (dOp dEq (dVar 3) (dC (.str "t")))) (dDrop (dMeth "list" dAppend (dVar 2) (dCons (dCall sp__law_pick (dCons (dVar 0) (dCons (dTup (dCons (dC (.str "a")) (dCons (dC (.str "zz")) (dCons (dC (.str "abcdefgh")) dNil)))) dNil))) dNil))) (dIfS (dTest (dOp dEq (dVar 3) (dC (.str "a")))) (dDrop (dMeth "list" dAppend (dVar 2) (dCons (dCB dTuple (dCons (dLc [4] (dRng1 (dCons (dCall sp__law_draw (dCons (dVar 0) (dCons (dC (.int 5)) dNil))) dNil)) (gNm 4) dYes (dCall sp__law_draw (dCons (dVar 0) (dCons (dC (.int 6)) dNil)))) dNil)) dNil))) (dDrop (dMeth "list" dAppend (dVar 2) (dCons (dCall sp__law_pick (dCons (dVar 0) (dCons (dTup (dCons (dC (.int 0)) (dCons (dC (.int 1)) (dCons (dC (.int 2)) (dCons (dC (.int 7)) (dCons (dC (.int 99)) (dCons (dCall sp__law_draw (dCons (dVar 0) (dCons (dC (.int 1000)) dNil))) dNil))))))) dNil))) dNil)))))) (dRet (dCB dTuple (dCons (dVar 2) dNil))))))
theorem p__law_any_row (G : Facts w K mg) {k : Nat} {sp__law_draw : SpD} (h__law_draw : Has P w K mg base CX0 "_law_draw" s__law_draw ["deck", "many"] k sp__law_draw) {sp__law_pick : SpD} (h__law_pick : Has P w K mg base CX0 "_law_pick" s__law_pick ["deck", "some"] k sp__law_pick) {sp__law_shapes : SpD} (h__law_shapes : Has P w K mg base CX0 "_law_shapes" s__law_shapes [] k sp__law_shapes) {f : Addr} (cdv : Value) (A : Around) (outer : List Env) (s : Shared) (H : Hp) (E : XK) (hr : Room (k) (A.deeper (envOfC "_law_any_row" (defScope s__law_any_row) s.heap.objs.size f cdv))) (hG : A.guards = some []) :
    PBD (cxOf CX0 P w K mg base N__law_any_row "_law_any_row" (defScope s__law_any_row) f cdv A outer s H E).nox (defBody s__law_any_row) (t__law_any_row sp__law_draw sp__law_pick sp__law_shapes) :=
  (db_cons (ds_set 1 nd__law_any_row (de_call h__law_pick hr hG B__law_pick (da_cons (de_var 0) (da_cons (de_callB cd_sorted G.z_sorted (da_cons (de_callTy (cd_listK rfl) G.z_list (da_cons (de_call0 h__law_shapes hr hG B__law_shapes) da_nil)) da_nil)) da_nil)))) (db_cons (ds_set 2 nd__law_any_row (de_lstM (da_cons (de_var 1) da_nil))) (db_cons (ds_for (vs := [3]) PassesOwn.never rfl (di_val (de_dget (hu_of hr) (de_call0 h__law_shapes hr hG B__law_shapes) (de_var 1))) (dg_name (vs := [3]) 3 nd__law_any_row) (db_one (ds_if (dt_cmp (od_eq hr.units) (de_var 3) de_str (by rfl)) (db_one (ds_expr (de_meth PySem.F.plainAttrs_list PySem.F.slot_list_append PySem.F.type_list_append md_append (de_var 2) (da_cons (de_call h__law_pick hr hG B__law_pick (da_cons (de_var 0) (da_cons (de_tup (da_cons de_str (da_cons de_str (da_cons de_str da_nil)))) da_nil))) da_nil)))) (db_one (ds_if (dt_cmp (od_eq hr.units) (de_var 3) de_str (by rfl)) (db_one (ds_expr (de_meth PySem.F.plainAttrs_list PySem.F.slot_list_append PySem.F.type_list_append md_append (de_var 2) (da_cons (de_callTy cd_tuple G.z_tuple (da_cons (de_lc (own := [("turn", 4)]) rfl nd__law_any_row (di_rng1 G.z_range (da_cons (de_call h__law_draw hr hG B__law_draw (da_cons (de_var 0) (da_cons de_int da_nil))) da_nil)) (by dsimp only [cxOf, Cx.nox, Cx.blk, compEnvC, envOfC]; decide +kernel) (fun _ _ _ _ _ => (dg_name (vs := _) 4 nd__law_any_row)) (fun _ _ _ _ _ => dts_nil) (fun _ _ _ _ _ => (de_call h__law_draw hr hG B__law_draw (da_cons (de_var 0) (da_cons de_int da_nil))))) da_nil)) da_nil)))) (db_one (ds_expr (de_meth PySem.F.plainAttrs_list PySem.F.slot_list_append PySem.F.type_list_append md_append (de_var 2) (da_cons (de_call h__law_pick hr hG B__law_pick (da_cons (de_var 0) (da_cons (de_tup (da_cons de_int (da_cons de_int (da_cons de_int (da_cons de_int (da_cons de_int (da_cons (de_call h__law_draw hr hG B__law_draw (da_cons (de_var 0) (da_cons de_int da_nil))) da_nil))))))) da_nil))) da_nil))))))))) (db_one (ds_ret (de_callTy cd_tuple G.z_tuple (da_cons (de_var 2) da_nil)))))))
def t_law (K : PySem.W.Frag) (PL : Addr) (sp__law_deck : SpD) (sp__law_draw : SpD) (sp__law_is_row : SpD) (sp__law_read : SpD) (sp__law_set : SpD) (sp__law_any : SpD) (sp__law_bent : SpD) (sp__law_any_row : SpD) (spx_read_by : SpD) (spx_set_by : SpD) : DS := (dSeq (dSet 1 (dCall sp__law_deck (dCons (dVar 0) dNil))) (dSeq (dFor (dRng1 (dCons (dC (.int 14)) dNil)) (gNm 2) (dSeq (dSet 3 (dIf (dTest (dOp dGt (dCall sp__law_draw (dCons (dVar 1) (dCons (dC (.int 8)) dNil))) (dC (.int 0)))) (dCall sp__law_any_row (dCons (dVar 1) dNil)) (dCall sp__law_any (dCons (dVar 1) (dCons (dC (.int 2)) dNil))))) (dSeq (dIfS (dTest (dOp dEq (dCall sp__law_draw (dCons (dVar 1) (dCons (dC (.int 3)) dNil))) (dC (.int 0)))) (dSet 3 (dCall sp__law_bent (dCons (dVar 1) (dCons (dVar 3) (dCons (dC (.int 2)) dNil))))) dNext) (dSeq (dSet 4 (dOp dRepL (dLstM (dCons (dTup (dCons (dC (.str "raised")) (dCons (dC (.bl true)) (dCons (dCB dRepr (dCons (dVar 3) dNil)) dNil)))) dNil)) (dC (.int 2)))) (dSeq (dIfS (dTest (dCall sp__law_is_row (dCons (dVar 3) dNil))) (dSet 4 (dLst (dCons (dTup (dCons (dC (.str "returned")) (dCons (dCB dTuple (dCons (dCall sp__law_read (dCons (dVar 3) dNil)) dNil)) dNil))) (dCons (dTup (dCons (dC (.str "returned")) (dCons (dCall sp__law_set (dCons (dVar 3) dNil)) dNil))) dNil)))) dNext) (dSeq (dSet 5 (dLstM (dCons (dLam K PL (lamQ "law") 1 tl__law_tried (xIf (dTest (dOp dEq (dOp dOdd (dVar 2) (dC (.int 1))) (dC (.int 0)))) (xCall spx_read_by (dCons (dVar 3) dNil)) (xCallK spx_read_by 0 1 [0] dNil (dCons (dVar 3) dNil)))) dNil))) (dSeq (dDrop (dMeth "list" dAppend (dVar 5) (dCons (dLam K PL (lamQ "law") 1 tl__law_tried (xIf (dTest (dOp dEq (dOp dOdd (dVar 2) (dC (.int 1))) (dC (.int 0)))) (xCall spx_set_by (dCons (dVar 3) dNil)) (xCallK spx_set_by 0 1 [0] dNil (dCons (dVar 3) dNil)))) dNil))) (dIfS (dTest (dOp dNe (dCB dRepr (dCons (dFrz (dVar 5)) dNil)) (dCB dRepr (dCons (dVar 4) dNil)))) (dRet (dC (.bl false))) dNext)))))))) (dRet (dC (.bl true)))))
theorem p_law (G : Facts w K mg) {k : Nat} {sp__law_deck : SpD} (h__law_deck : Has P w K mg base CX0 "_law_deck" s__law_deck ["script"] k sp__law_deck) {sp__law_draw : SpD} (h__law_draw : Has P w K mg base CX0 "_law_draw" s__law_draw ["deck", "many"] k sp__law_draw) {sp__law_is_row : SpD} (h__law_is_row : Has P w K mg base CX0 "_law_is_row" s__law_is_row ["thing"] k sp__law_is_row) {sp__law_read : SpD} (h__law_read : Has P w K mg base CX0 "_law_read" s__law_read ["row"] k sp__law_read) {sp__law_set : SpD} (h__law_set : Has P w K mg base CX0 "_law_set" s__law_set ["row"] k sp__law_set) {sp__law_any : SpD} (h__law_any : Has P w K mg base CX0 "_law_any" s__law_any ["deck", "deep"] k sp__law_any) {sp__law_bent : SpD} (h__law_bent : Has P w K mg base CX0 "_law_bent" s__law_bent ["deck", "thing", "deep"] k sp__law_bent) {sp__law_any_row : SpD} (h__law_any_row : Has P w K mg base CX0 "_law_any_row" s__law_any_row ["deck"] k sp__law_any_row) {spx_read_by : SpD} (hx_read_by : Has P w K mg base (L2.CX P w) "read_by" s_read_by ["row"] k spx_read_by) {spx_set_by : SpD} (hx_set_by : Has P w K mg base (L2.CX P w) "set_by" s_set_by ["row"] k spx_set_by) {c PL : Addr} (TB : LamX.TabB base mg c PL) {f : Addr} (A : Around) (outer : List Env) (s : Shared) (H : Hp) (E : XK) (hr : Room (k + 2) (A.deeper (envOfC "law" (defScope s_law) s.heap.objs.size f (.ref c)))) (hG : A.guards = some []) :
    PBD (cxOf CX0 P w K mg base N_law "law" (defScope s_law) f (.ref c) A outer s H E).nox (defBody s_law) (t_law K PL sp__law_deck sp__law_draw sp__law_is_row sp__law_read sp__law_set sp__law_any sp__law_bent sp__law_any_row spx_read_by spx_set_by) :=
  (db_cons (ds_set 1 nd_law (de_call h__law_deck (hr.mono (Nat.le_add_right _ _)) hG B__law_deck (da_cons (de_var 0) da_nil))) (db_cons (ds_for (vs := [2]) PassesOwn.never rfl (di_rng1 G.z_range (da_cons de_int da_nil)) (dg_name (vs := [2]) 2 nd_law) (db_cons (ds_set 3 nd_law (de_if (dt_cmp od_gt (de_call h__law_draw (hr.mono (Nat.le_add_right _ _)) hG B__law_draw (da_cons (de_var 1) (da_cons de_int da_nil))) de_int (by rfl)) (de_call h__law_any_row (hr.mono (Nat.le_add_right _ _)) hG B__law_any_row (da_cons (de_var 1) da_nil)) (de_call h__law_any (hr.mono (Nat.le_add_right _ _)) hG B__law_any (da_cons (de_var 1) (da_cons de_int da_nil))))) (db_cons (ds_if (dt_cmp (od_eq (hr.mono (Nat.le_add_right _ _)).units) (de_call h__law_draw (hr.mono (Nat.le_add_right _ _)) hG B__law_draw (da_cons (de_var 1) (da_cons de_int da_nil))) de_int (by rfl)) (db_one (ds_set 3 nd_law (de_call h__law_bent (hr.mono (Nat.le_add_right _ _)) hG B__law_bent (da_cons (de_var 1) (da_cons (de_var 3) (da_cons de_int da_nil)))))) db_nil) (db_cons (ds_set 4 nd_law (de_op od_repL (de_lstM (da_cons (de_tup (da_cons de_str (da_cons de_bl (da_cons (de_callB (cd_repr hG (hr.mono (Nat.le_add_right _ _)).units) G.z_repr (da_cons (de_var 3) da_nil)) da_nil)))) da_nil)) de_int)) (db_cons (ds_if (dt_val (de_call h__law_is_row (hr.mono (Nat.le_add_right _ _)) hG B__law_is_row (da_cons (de_var 3) da_nil))) (db_one (ds_set 4 nd_law (de_lst (da_cons (de_tup (da_cons de_str (da_cons (de_callTy cd_tuple G.z_tuple (da_cons (de_call h__law_read (hr.mono (Nat.le_add_right _ _)) hG B__law_read (da_cons (de_var 3) da_nil)) da_nil)) da_nil))) (da_cons (de_tup (da_cons de_str (da_cons (de_call h__law_set (hr.mono (Nat.le_add_right _ _)) hG B__law_set (da_cons (de_var 3) da_nil)) da_nil))) da_nil))))) db_nil) (db_cons (ds_set 5 nd_law (de_lstM (da_cons (de_lamcall G.f__law_tried sc__law_tried B__law_tried rfl (Or.inl rfl) (fun g cdg s H ta hr2 hact => pl__law_tried G cdg hr2 hG hact) TB rfl hr hG (LamX.lamS_by (by dsimp only [cxOf, Cx.nox, envOfC]; decide +kernel)) rfl (fun _ _ _ _ _ => rfl) (fun A2 outer2 s2 H2 E2 f2 c2 hr2 hG2 => (dx_if (dt_cmp (od_eq hr2.units) (de_op od_odd (de_var 2) de_int) de_int (by rfl)) (dx_call hx_read_by hr2 hG2 B_read_by (da_cons (de_var 3) da_nil)) (dx_callK0 (is := [0]) (ks := ["row"]) hx_read_by hr2 hG2 (fun _ _ _ _ _ _ us ws h1 h2 => match us, ws, h1, h2 with | [], [_], _, _ => rfl) (dk_cons (de_var 3) dk_nil))))) da_nil))) (db_cons (ds_expr (de_meth PySem.F.plainAttrs_list PySem.F.slot_list_append PySem.F.type_list_append md_append (de_var 5) (da_cons (de_lamcall G.f__law_tried sc__law_tried B__law_tried rfl (Or.inl rfl) (fun g cdg s H ta hr2 hact => pl__law_tried G cdg hr2 hG hact) TB rfl hr hG (LamX.lamS_by (by dsimp only [cxOf, Cx.nox, envOfC]; decide +kernel)) rfl (fun _ _ _ _ _ => rfl) (fun A2 outer2 s2 H2 E2 f2 c2 hr2 hG2 => (dx_if (dt_cmp (od_eq hr2.units) (de_op od_odd (de_var 2) de_int) de_int (by rfl)) (dx_call hx_set_by hr2 hG2 B_set_by (da_cons (de_var 3) da_nil)) (dx_callK0 (is := [0]) (ks := ["row"]) hx_set_by hr2 hG2 (fun _ _ _ _ _ _ us ws h1 h2 => match us, ws, h1, h2 with | [], [_], _, _ => rfl) (dk_cons (de_var 3) dk_nil))))) da_nil))) (db_one (ds_if (dt_cmp (od_ne (hr.mono (Nat.le_add_right _ _)).units) (de_callB (cd_repr hG (hr.mono (Nat.le_add_right _ _)).units) G.z_repr (da_cons (de_frz (de_var 5)) da_nil)) (de_callB (cd_repr hG (hr.mono (Nat.le_add_right _ _)).units) G.z_repr (da_cons (de_var 4) da_nil)) (by rfl)) (db_one (ds_ret de_bl)) db_nil))))))))) (db_one (ds_ret de_bl))))
end
theorem facts_mk {w : World} {K : PySem.W.Frag} {h : Heap} {mg : Str → Option Value} (X : K.In h) (G : h.Ns mainGlobals mg)
    {f0 : Addr} {od0 an0 : Option Addr} {sl0 : Array (Option Value)} {oc0 kV0 dc0 pm0 cd0 ct0 : Value} (a0 : PySem.W.nsIn K mainGlobals "is_integer" = some (some (.ref f0))) (l0 : K.lookup f0 = some ⟨oc0, od0, .func (PySem.W.fnOf "is_integer" "is_integer" (defArgs s_is_integer) (defBody s_is_integer) (defScope s_is_integer) .none kV0 dc0 pm0 an0 cd0 ct0), sl0⟩) (c0 : PySem.W.codeIn K cd0 "is_integer" = true) (k0 : PySem.W.keepIn K (.ref f0) = true)
    {f1 : Addr} {od1 an1 : Option Addr} {sl1 : Array (Option Value)} {oc1 kV1 dc1 pm1 cd1 ct1 : Value} (a1 : PySem.W.nsIn K mainGlobals "is_from" = some (some (.ref f1))) (l1 : K.lookup f1 = some ⟨oc1, od1, .func (PySem.W.fnOf "is_from" "is_from" (defArgs s_is_from) (defBody s_is_from) (defScope s_is_from) .none kV1 dc1 pm1 an1 cd1 ct1), sl1⟩) (c1 : PySem.W.codeIn K cd1 "is_from" = true) (k1 : PySem.W.keepIn K (.ref f1) = true)
    {f2 : Addr} {od2 an2 : Option Addr} {sl2 : Array (Option Value)} {oc2 kV2 dc2 pm2 cd2 ct2 : Value} (a2 : PySem.W.nsIn K mainGlobals "is_tag_value" = some (some (.ref f2))) (l2 : K.lookup f2 = some ⟨oc2, od2, .func (PySem.W.fnOf "is_tag_value" "is_tag_value" (defArgs s_is_tag_value) (defBody s_is_tag_value) (defScope s_is_tag_value) .none kV2 dc2 pm2 an2 cd2 ct2), sl2⟩) (c2 : PySem.W.codeIn K cd2 "is_tag_value" = true) (k2 : PySem.W.keepIn K (.ref f2) = true)
    {f3 : Addr} {od3 an3 : Option Addr} {sl3 : Array (Option Value)} {oc3 kV3 dc3 pm3 cd3 ct3 : Value} (a3 : PySem.W.nsIn K mainGlobals "are_cells" = some (some (.ref f3))) (l3 : K.lookup f3 = some ⟨oc3, od3, .func (PySem.W.fnOf "are_cells" "are_cells" (defArgs s_are_cells) (defBody s_are_cells) (defScope s_are_cells) .none kV3 dc3 pm3 an3 cd3 ct3), sl3⟩) (c3 : PySem.W.codeIn K cd3 "are_cells" = true) (k3 : PySem.W.keepIn K (.ref f3) = true)
    {f4 : Addr} {od4 an4 : Option Addr} {sl4 : Array (Option Value)} {oc4 kV4 dc4 pm4 cd4 ct4 : Value} (a4 : PySem.W.nsIn K mainGlobals "is_part_of" = some (some (.ref f4))) (l4 : K.lookup f4 = some ⟨oc4, od4, .func (PySem.W.fnOf "is_part_of" "is_part_of" (defArgs s_is_part_of) (defBody s_is_part_of) (defScope s_is_part_of) .none kV4 dc4 pm4 an4 cd4 ct4), sl4⟩) (c4 : PySem.W.codeIn K cd4 "is_part_of" = true) (k4 : PySem.W.keepIn K (.ref f4) = true)
    {f5 : Addr} {od5 an5 : Option Addr} {sl5 : Array (Option Value)} {oc5 kV5 dc5 pm5 cd5 ct5 : Value} (a5 : PySem.W.nsIn K mainGlobals "is_row_value" = some (some (.ref f5))) (l5 : K.lookup f5 = some ⟨oc5, od5, .func (PySem.W.fnOf "is_row_value" "is_row_value" (defArgs s_is_row_value) (defBody s_is_row_value) (defScope s_is_row_value) .none kV5 dc5 pm5 an5 cd5 ct5), sl5⟩) (c5 : PySem.W.codeIn K cd5 "is_row_value" = true) (k5 : PySem.W.keepIn K (.ref f5) = true)
    {f6 : Addr} {od6 an6 : Option Addr} {sl6 : Array (Option Value)} {oc6 kV6 dc6 pm6 cd6 ct6 : Value} (a6 : PySem.W.nsIn K mainGlobals "cells_read" = some (some (.ref f6))) (l6 : K.lookup f6 = some ⟨oc6, od6, .func (PySem.W.fnOf "cells_read" "cells_read" (defArgs s_cells_read) (defBody s_cells_read) (defScope s_cells_read) .none kV6 dc6 pm6 an6 cd6 ct6), sl6⟩) (c6 : PySem.W.codeIn K cd6 "cells_read" = true) (k6 : PySem.W.keepIn K (.ref f6) = true)
    {f7 : Addr} {od7 an7 : Option Addr} {sl7 : Array (Option Value)} {oc7 kV7 dc7 pm7 cd7 ct7 : Value} (a7 : PySem.W.nsIn K mainGlobals "cell_set" = some (some (.ref f7))) (l7 : K.lookup f7 = some ⟨oc7, od7, .func (PySem.W.fnOf "cell_set" "cell_set" (defArgs s_cell_set) (defBody s_cell_set) (defScope s_cell_set) .none kV7 dc7 pm7 an7 cd7 ct7), sl7⟩) (c7 : PySem.W.codeIn K cd7 "cell_set" = true) (k7 : PySem.W.keepIn K (.ref f7) = true)
    {f8 : Addr} {od8 an8 : Option Addr} {sl8 : Array (Option Value)} {oc8 kV8 dc8 pm8 cd8 ct8 : Value} (a8 : PySem.W.nsIn K mainGlobals "need_row" = some (some (.ref f8))) (l8 : K.lookup f8 = some ⟨oc8, od8, .func (PySem.W.fnOf "need_row" "need_row" (defArgs s_need_row) (defBody s_need_row) (defScope s_need_row) .none kV8 dc8 pm8 an8 cd8 ct8), sl8⟩) (c8 : PySem.W.codeIn K cd8 "need_row" = true) (k8 : PySem.W.keepIn K (.ref f8) = true)
    {f9 : Addr} {od9 an9 : Option Addr} {sl9 : Array (Option Value)} {oc9 kV9 dc9 pm9 cd9 ct9 : Value} (a9 : PySem.W.nsIn K mainGlobals "read_by" = some (some (.ref f9))) (l9 : K.lookup f9 = some ⟨oc9, od9, .func (PySem.W.fnOf "read_by" "read_by" (defArgs s_read_by) (defBody s_read_by) (defScope s_read_by) .none kV9 dc9 pm9 an9 cd9 ct9), sl9⟩) (c9 : PySem.W.codeIn K cd9 "read_by" = true) (k9 : PySem.W.keepIn K (.ref f9) = true)
    {f10 : Addr} {od10 an10 : Option Addr} {sl10 : Array (Option Value)} {oc10 kV10 dc10 pm10 cd10 ct10 : Value} (a10 : PySem.W.nsIn K mainGlobals "set_by" = some (some (.ref f10))) (l10 : K.lookup f10 = some ⟨oc10, od10, .func (PySem.W.fnOf "set_by" "set_by" (defArgs s_set_by) (defBody s_set_by) (defScope s_set_by) .none kV10 dc10 pm10 an10 cd10 ct10), sl10⟩) (c10 : PySem.W.codeIn K cd10 "set_by" = true) (k10 : PySem.W.keepIn K (.ref f10) = true)
    {f11 : Addr} {od11 an11 : Option Addr} {sl11 : Array (Option Value)} {oc11 kV11 dc11 pm11 cd11 ct11 : Value} (a11 : PySem.W.nsIn K mainGlobals "_law_deck" = some (some (.ref f11))) (l11 : K.lookup f11 = some ⟨oc11, od11, .func (PySem.W.fnOf "_law_deck" "_law_deck" (defArgs s__law_deck) (defBody s__law_deck) (defScope s__law_deck) .none kV11 dc11 pm11 an11 cd11 ct11), sl11⟩) (c11 : PySem.W.codeIn K cd11 "_law_deck" = true) (k11 : PySem.W.keepIn K (.ref f11) = true)
    {f12 : Addr} {od12 an12 : Option Addr} {sl12 : Array (Option Value)} {oc12 kV12 dc12 pm12 cd12 ct12 : Value} (a12 : PySem.W.nsIn K mainGlobals "_law_draw" = some (some (.ref f12))) (l12 : K.lookup f12 = some ⟨oc12, od12, .func (PySem.W.fnOf "_law_draw" "_law_draw" (defArgs s__law_draw) (defBody s__law_draw) (defScope s__law_draw) .none kV12 dc12 pm12 an12 cd12 ct12), sl12⟩) (c12 : PySem.W.codeIn K cd12 "_law_draw" = true) (k12 : PySem.W.keepIn K (.ref f12) = true)
    {f13 : Addr} {od13 an13 : Option Addr} {sl13 : Array (Option Value)} {oc13 kV13 dc13 pm13 cd13 ct13 : Value} (a13 : PySem.W.nsIn K mainGlobals "_law_pick" = some (some (.ref f13))) (l13 : K.lookup f13 = some ⟨oc13, od13, .func (PySem.W.fnOf "_law_pick" "_law_pick" (defArgs s__law_pick) (defBody s__law_pick) (defScope s__law_pick) .none kV13 dc13 pm13 an13 cd13 ct13), sl13⟩) (c13 : PySem.W.codeIn K cd13 "_law_pick" = true) (k13 : PySem.W.keepIn K (.ref f13) = true)
    {f14 : Addr} {od14 an14 : Option Addr} {sl14 : Array (Option Value)} {oc14 kV14 dc14 pm14 cd14 ct14 : Value} (a14 : PySem.W.nsIn K mainGlobals "_law_is_integer" = some (some (.ref f14))) (l14 : K.lookup f14 = some ⟨oc14, od14, .func (PySem.W.fnOf "_law_is_integer" "_law_is_integer" (defArgs s__law_is_integer) (defBody s__law_is_integer) (defScope s__law_is_integer) .none kV14 dc14 pm14 an14 cd14 ct14), sl14⟩) (c14 : PySem.W.codeIn K cd14 "_law_is_integer" = true) (k14 : PySem.W.keepIn K (.ref f14) = true)
    {f15 : Addr} {od15 an15 : Option Addr} {sl15 : Array (Option Value)} {oc15 kV15 dc15 pm15 cd15 ct15 : Value} (a15 : PySem.W.nsIn K mainGlobals "_law_is_number" = some (some (.ref f15))) (l15 : K.lookup f15 = some ⟨oc15, od15, .func (PySem.W.fnOf "_law_is_number" "_law_is_number" (defArgs s__law_is_number) (defBody s__law_is_number) (defScope s__law_is_number) .none kV15 dc15 pm15 an15 cd15 ct15), sl15⟩) (c15 : PySem.W.codeIn K cd15 "_law_is_number" = true) (k15 : PySem.W.keepIn K (.ref f15) = true)
    {f16 : Addr} {od16 an16 : Option Addr} {sl16 : Array (Option Value)} {oc16 kV16 dc16 pm16 cd16 ct16 : Value} (a16 : PySem.W.nsIn K mainGlobals "_law_is_tag" = some (some (.ref f16))) (l16 : K.lookup f16 = some ⟨oc16, od16, .func (PySem.W.fnOf "_law_is_tag" "_law_is_tag" (defArgs s__law_is_tag) (defBody s__law_is_tag) (defScope s__law_is_tag) .none kV16 dc16 pm16 an16 cd16 ct16), sl16⟩) (c16 : PySem.W.codeIn K cd16 "_law_is_tag" = true) (k16 : PySem.W.keepIn K (.ref f16) = true)
    {f17 : Addr} {od17 an17 : Option Addr} {sl17 : Array (Option Value)} {oc17 kV17 dc17 pm17 cd17 ct17 : Value} (a17 : PySem.W.nsIn K mainGlobals "_law_shapes" = some (some (.ref f17))) (l17 : K.lookup f17 = some ⟨oc17, od17, .func (PySem.W.fnOf "_law_shapes" "_law_shapes" (defArgs s__law_shapes) (defBody s__law_shapes) (defScope s__law_shapes) .none kV17 dc17 pm17 an17 cd17 ct17), sl17⟩) (c17 : PySem.W.codeIn K cd17 "_law_shapes" = true) (k17 : PySem.W.keepIn K (.ref f17) = true)
    {f18 : Addr} {od18 an18 : Option Addr} {sl18 : Array (Option Value)} {oc18 kV18 dc18 pm18 cd18 ct18 : Value} (a18 : PySem.W.nsIn K mainGlobals "_law_is_row" = some (some (.ref f18))) (l18 : K.lookup f18 = some ⟨oc18, od18, .func (PySem.W.fnOf "_law_is_row" "_law_is_row" (defArgs s__law_is_row) (defBody s__law_is_row) (defScope s__law_is_row) .none kV18 dc18 pm18 an18 cd18 ct18), sl18⟩) (c18 : PySem.W.codeIn K cd18 "_law_is_row" = true) (k18 : PySem.W.keepIn K (.ref f18) = true)
    {f19 : Addr} {od19 an19 : Option Addr} {sl19 : Array (Option Value)} {oc19 kV19 dc19 pm19 cd19 ct19 : Value} (a19 : PySem.W.nsIn K mainGlobals "_law_read" = some (some (.ref f19))) (l19 : K.lookup f19 = some ⟨oc19, od19, .func (PySem.W.fnOf "_law_read" "_law_read" (defArgs s__law_read) (defBody s__law_read) (defScope s__law_read) .none kV19 dc19 pm19 an19 cd19 ct19), sl19⟩) (c19 : PySem.W.codeIn K cd19 "_law_read" = true) (k19 : PySem.W.keepIn K (.ref f19) = true)
    {f20 : Addr} {od20 an20 : Option Addr} {sl20 : Array (Option Value)} {oc20 kV20 dc20 pm20 cd20 ct20 : Value} (a20 : PySem.W.nsIn K mainGlobals "_law_set" = some (some (.ref f20))) (l20 : K.lookup f20 = some ⟨oc20, od20, .func (PySem.W.fnOf "_law_set" "_law_set" (defArgs s__law_set) (defBody s__law_set) (defScope s__law_set) .none kV20 dc20 pm20 an20 cd20 ct20), sl20⟩) (c20 : PySem.W.codeIn K cd20 "_law_set" = true) (k20 : PySem.W.keepIn K (.ref f20) = true)
    {f21 : Addr} {od21 an21 : Option Addr} {sl21 : Array (Option Value)} {oc21 kV21 dc21 pm21 cd21 ct21 : Value} (a21 : PySem.W.nsIn K mainGlobals "_law_any" = some (some (.ref f21))) (l21 : K.lookup f21 = some ⟨oc21, od21, .func (PySem.W.fnOf "_law_any" "_law_any" (defArgs s__law_any) (defBody s__law_any) (defScope s__law_any) .none kV21 dc21 pm21 an21 cd21 ct21), sl21⟩) (c21 : PySem.W.codeIn K cd21 "_law_any" = true) (k21 : PySem.W.keepIn K (.ref f21) = true)
    {f22 : Addr} {od22 an22 : Option Addr} {sl22 : Array (Option Value)} {oc22 kV22 dc22 pm22 cd22 ct22 : Value} (a22 : PySem.W.nsIn K mainGlobals "_law_bent" = some (some (.ref f22))) (l22 : K.lookup f22 = some ⟨oc22, od22, .func (PySem.W.fnOf "_law_bent" "_law_bent" (defArgs s__law_bent) (defBody s__law_bent) (defScope s__law_bent) .none kV22 dc22 pm22 an22 cd22 ct22), sl22⟩) (c22 : PySem.W.codeIn K cd22 "_law_bent" = true) (k22 : PySem.W.keepIn K (.ref f22) = true)
    {f23 : Addr} {od23 an23 : Option Addr} {sl23 : Array (Option Value)} {oc23 kV23 dc23 pm23 cd23 ct23 : Value} (a23 : PySem.W.nsIn K mainGlobals "_law_any_row" = some (some (.ref f23))) (l23 : K.lookup f23 = some ⟨oc23, od23, .func (PySem.W.fnOf "_law_any_row" "_law_any_row" (defArgs s__law_any_row) (defBody s__law_any_row) (defScope s__law_any_row) .none kV23 dc23 pm23 an23 cd23 ct23), sl23⟩) (c23 : PySem.W.codeIn K cd23 "_law_any_row" = true) (k23 : PySem.W.keepIn K (.ref f23) = true)
    {f24 : Addr} {od24 an24 : Option Addr} {sl24 : Array (Option Value)} {oc24 kV24 dc24 pm24 cd24 ct24 : Value} (a24 : PySem.W.nsIn K mainGlobals "_law_tried" = some (some (.ref f24))) (l24 : K.lookup f24 = some ⟨oc24, od24, .func (PySem.W.fnOf "_law_tried" "_law_tried" (defArgs s__law_tried) (defBody s__law_tried) (defScope s__law_tried) .none kV24 dc24 pm24 an24 cd24 ct24), sl24⟩) (c24 : PySem.W.codeIn K cd24 "_law_tried" = true) (k24 : PySem.W.keepIn K (.ref f24) = true)
    {f25 : Addr} {od25 an25 : Option Addr} {sl25 : Array (Option Value)} {oc25 kV25 dc25 pm25 cd25 ct25 : Value} (a25 : PySem.W.nsIn K mainGlobals "law" = some (some (.ref f25))) (l25 : K.lookup f25 = some ⟨oc25, od25, .func (PySem.W.fnOf "law" "law" (defArgs s_law) (defBody s_law) (defScope s_law) .none kV25 dc25 pm25 an25 cd25 ct25), sl25⟩) (c25 : PySem.W.codeIn K cd25 "law" = true) (k25 : PySem.W.keepIn K (.ref f25) = true)
    (z_all : PySem.W.nsIn K mainGlobals "all" = some none)
    (z_bool : PySem.W.nsIn K mainGlobals "bool" = some none)
    (z_int : PySem.W.nsIn K mainGlobals "int" = some none)
    (z_isinstance : PySem.W.nsIn K mainGlobals "isinstance" = some none)
    (z_len : PySem.W.nsIn K mainGlobals "len" = some none)
    (z_list : PySem.W.nsIn K mainGlobals "list" = some none)
    (z_max : PySem.W.nsIn K mainGlobals "max" = some none)
    (z_range : PySem.W.nsIn K mainGlobals "range" = some none)
    (z_repr : PySem.W.nsIn K mainGlobals "repr" = some none)
    (z_sorted : PySem.W.nsIn K mainGlobals "sorted" = some none)
    (z_str : PySem.W.nsIn K mainGlobals "str" = some none)
    (z_tuple : PySem.W.nsIn K mainGlobals "tuple" = some none)
    (z_zip : PySem.W.nsIn K mainGlobals "zip" = some none)
    {tk_LONGEST_TAG : Tok} (e_LONGEST_TAG : PySem.W.nsIn K mainGlobals "LONGEST_TAG" = some (some (.int 8 tk_LONGEST_TAG)))
    {ad_SHAPES : Addr} {n_SHAPES : Nat} {tk_SHAPES_0 tk_SHAPES_1 tk_SHAPES_2 tk_SHAPES_3 tk_SHAPES_4 tk_SHAPES_5 tk_SHAPES_6 tk_SHAPES_7 tk_SHAPES_8 tk_SHAPES_9 tk_SHAPES_10 tk_SHAPES_11 tk_SHAPES_12 tk_SHAPES_13 tk_SHAPES_14 : Tok} {h_SHAPES_0 h_SHAPES_1 h_SHAPES_2 h_SHAPES_3 h_SHAPES_4 h_SHAPES_5 h_SHAPES_6 h_SHAPES_7 h_SHAPES_8 h_SHAPES_9 h_SHAPES_10 h_SHAPES_11 h_SHAPES_12 h_SHAPES_13 h_SHAPES_14 : Int} {av_SHAPES_0 : Addr} {odv_SHAPES_0 : Option Addr} {nv_SHAPES_0 : Nat} {sov_SHAPES_0 : Array (Option Value)} {tkv_SHAPES_0_0 : Tok}  {av_SHAPES_1 : Addr} {odv_SHAPES_1 : Option Addr} {nv_SHAPES_1 : Nat} {sov_SHAPES_1 : Array (Option Value)} {tkv_SHAPES_1_0 tkv_SHAPES_1_1 : Tok}  {av_SHAPES_2 : Addr} {odv_SHAPES_2 : Option Addr} {nv_SHAPES_2 : Nat} {sov_SHAPES_2 : Array (Option Value)} {tkv_SHAPES_2_0 tkv_SHAPES_2_1 : Tok}  {av_SHAPES_3 : Addr} {odv_SHAPES_3 : Option Addr} {nv_SHAPES_3 : Nat} {sov_SHAPES_3 : Array (Option Value)} {tkv_SHAPES_3_0 tkv_SHAPES_3_1 : Tok}  {av_SHAPES_4 : Addr} {odv_SHAPES_4 : Option Addr} {nv_SHAPES_4 : Nat} {sov_SHAPES_4 : Array (Option Value)} {tkv_SHAPES_4_0 tkv_SHAPES_4_1 : Tok}  {av_SHAPES_5 : Addr} {odv_SHAPES_5 : Option Addr} {nv_SHAPES_5 : Nat} {sov_SHAPES_5 : Array (Option Value)} {tkv_SHAPES_5_0 : Tok}  {av_SHAPES_6 : Addr} {odv_SHAPES_6 : Option Addr} {nv_SHAPES_6 : Nat} {sov_SHAPES_6 : Array (Option Value)} {tkv_SHAPES_6_0 : Tok}  {av_SHAPES_7 : Addr} {odv_SHAPES_7 : Option Addr} {nv_SHAPES_7 : Nat} {sov_SHAPES_7 : Array (Option Value)} {tkv_SHAPES_7_0 tkv_SHAPES_7_1 tkv_SHAPES_7_2 : Tok}  {av_SHAPES_8 : Addr} {odv_SHAPES_8 : Option Addr} {nv_SHAPES_8 : Nat} {sov_SHAPES_8 : Array (Option Value)} {tkv_SHAPES_8_0 tkv_SHAPES_8_1 : Tok}  {av_SHAPES_9 : Addr} {odv_SHAPES_9 : Option Addr} {nv_SHAPES_9 : Nat} {sov_SHAPES_9 : Array (Option Value)} {tkv_SHAPES_9_0 tkv_SHAPES_9_1 tkv_SHAPES_9_2 : Tok}  {av_SHAPES_10 : Addr} {odv_SHAPES_10 : Option Addr} {nv_SHAPES_10 : Nat} {sov_SHAPES_10 : Array (Option Value)} {tkv_SHAPES_10_0 tkv_SHAPES_10_1 : Tok}  {av_SHAPES_11 : Addr} {odv_SHAPES_11 : Option Addr} {nv_SHAPES_11 : Nat} {sov_SHAPES_11 : Array (Option Value)} {tkv_SHAPES_11_0 : Tok}  {av_SHAPES_12 : Addr} {odv_SHAPES_12 : Option Addr} {nv_SHAPES_12 : Nat} {sov_SHAPES_12 : Array (Option Value)} {tkv_SHAPES_12_0 tkv_SHAPES_12_1 : Tok}  {av_SHAPES_13 : Addr} {odv_SHAPES_13 : Option Addr} {nv_SHAPES_13 : Nat} {sov_SHAPES_13 : Array (Option Value)} {tkv_SHAPES_13_0 tkv_SHAPES_13_1 tkv_SHAPES_13_2 : Tok}  {av_SHAPES_14 : Addr} {odv_SHAPES_14 : Option Addr} {nv_SHAPES_14 : Nat} {sov_SHAPES_14 : Array (Option Value)} {tkv_SHAPES_14_0 : Tok}  (e_SHAPES : PySem.W.nsIn K mainGlobals "SHAPES" = some (some (.ref ad_SHAPES))) (o_SHAPES : K.lookup ad_SHAPES = some ⟨.type "dict", none, .dict #[⟨h_SHAPES_0, .str "top" tk_SHAPES_0, .ref av_SHAPES_0⟩, ⟨h_SHAPES_1, .str "move" tk_SHAPES_1, .ref av_SHAPES_1⟩, ⟨h_SHAPES_2, .str "left" tk_SHAPES_2, .ref av_SHAPES_2⟩, ⟨h_SHAPES_3, .str "right" tk_SHAPES_3, .ref av_SHAPES_3⟩, ⟨h_SHAPES_4, .str "up" tk_SHAPES_4, .ref av_SHAPES_4⟩, ⟨h_SHAPES_5, .str "yes" tk_SHAPES_5, .ref av_SHAPES_5⟩, ⟨h_SHAPES_6, .str "no" tk_SHAPES_6, .ref av_SHAPES_6⟩, ⟨h_SHAPES_7, .str "has" tk_SHAPES_7, .ref av_SHAPES_7⟩, ⟨h_SHAPES_8, .str "empty" tk_SHAPES_8, .ref av_SHAPES_8⟩, ⟨h_SHAPES_9, .str "same" tk_SHAPES_9, .ref av_SHAPES_9⟩, ⟨h_SHAPES_10, .str "not" tk_SHAPES_10, .ref av_SHAPES_10⟩, ⟨h_SHAPES_11, .str "skip" tk_SHAPES_11, .ref av_SHAPES_11⟩, ⟨h_SHAPES_12, .str "unless" tk_SHAPES_12, .ref av_SHAPES_12⟩, ⟨h_SHAPES_13, .str "call" tk_SHAPES_13, .ref av_SHAPES_13⟩, ⟨h_SHAPES_14, .str "give" tk_SHAPES_14, .ref av_SHAPES_14⟩] n_SHAPES, #[]⟩) (l_SHAPES : (ad_SHAPES == sysModules) = false) (o_SHAPES_0 : K.lookup av_SHAPES_0 = some ⟨.type "tuple", odv_SHAPES_0, .seq #[.str "set" tkv_SHAPES_0_0] nv_SHAPES_0, sov_SHAPES_0⟩) (o_SHAPES_1 : K.lookup av_SHAPES_1 = some ⟨.type "tuple", odv_SHAPES_1, .seq #[.str "set" tkv_SHAPES_1_0, .str "read" tkv_SHAPES_1_1] nv_SHAPES_1, sov_SHAPES_1⟩) (o_SHAPES_2 : K.lookup av_SHAPES_2 = some ⟨.type "tuple", odv_SHAPES_2, .seq #[.str "set" tkv_SHAPES_2_0, .str "read" tkv_SHAPES_2_1] nv_SHAPES_2, sov_SHAPES_2⟩) (o_SHAPES_3 : K.lookup av_SHAPES_3 = some ⟨.type "tuple", odv_SHAPES_3, .seq #[.str "set" tkv_SHAPES_3_0, .str "read" tkv_SHAPES_3_1] nv_SHAPES_3, sov_SHAPES_3⟩) (o_SHAPES_4 : K.lookup av_SHAPES_4 = some ⟨.type "tuple", odv_SHAPES_4, .seq #[.str "set" tkv_SHAPES_4_0, .str "read" tkv_SHAPES_4_1] nv_SHAPES_4, sov_SHAPES_4⟩) (o_SHAPES_5 : K.lookup av_SHAPES_5 = some ⟨.type "tuple", odv_SHAPES_5, .seq #[.str "set" tkv_SHAPES_5_0] nv_SHAPES_5, sov_SHAPES_5⟩) (o_SHAPES_6 : K.lookup av_SHAPES_6 = some ⟨.type "tuple", odv_SHAPES_6, .seq #[.str "set" tkv_SHAPES_6_0] nv_SHAPES_6, sov_SHAPES_6⟩) (o_SHAPES_7 : K.lookup av_SHAPES_7 = some ⟨.type "tuple", odv_SHAPES_7, .seq #[.str "set" tkv_SHAPES_7_0, .str "read" tkv_SHAPES_7_1, .str "tag" tkv_SHAPES_7_2] nv_SHAPES_7, sov_SHAPES_7⟩) (o_SHAPES_8 : K.lookup av_SHAPES_8 = some ⟨.type "tuple", odv_SHAPES_8, .seq #[.str "set" tkv_SHAPES_8_0, .str "read" tkv_SHAPES_8_1] nv_SHAPES_8, sov_SHAPES_8⟩) (o_SHAPES_9 : K.lookup av_SHAPES_9 = some ⟨.type "tuple", odv_SHAPES_9, .seq #[.str "set" tkv_SHAPES_9_0, .str "read" tkv_SHAPES_9_1, .str "read" tkv_SHAPES_9_2] nv_SHAPES_9, sov_SHAPES_9⟩) (o_SHAPES_10 : K.lookup av_SHAPES_10 = some ⟨.type "tuple", odv_SHAPES_10, .seq #[.str "set" tkv_SHAPES_10_0, .str "read" tkv_SHAPES_10_1] nv_SHAPES_10, sov_SHAPES_10⟩) (o_SHAPES_11 : K.lookup av_SHAPES_11 = some ⟨.type "tuple", odv_SHAPES_11, .seq #[.str "row" tkv_SHAPES_11_0] nv_SHAPES_11, sov_SHAPES_11⟩) (o_SHAPES_12 : K.lookup av_SHAPES_12 = some ⟨.type "tuple", odv_SHAPES_12, .seq #[.str "read" tkv_SHAPES_12_0, .str "row" tkv_SHAPES_12_1] nv_SHAPES_12, sov_SHAPES_12⟩) (o_SHAPES_13 : K.lookup av_SHAPES_13 = some ⟨.type "tuple", odv_SHAPES_13, .seq #[.str "set" tkv_SHAPES_13_0, .str "function" tkv_SHAPES_13_1, .str "args" tkv_SHAPES_13_2] nv_SHAPES_13, sov_SHAPES_13⟩) (o_SHAPES_14 : K.lookup av_SHAPES_14 = some ⟨.type "tuple", odv_SHAPES_14, .seq #[.str "read" tkv_SHAPES_14_0] nv_SHAPES_14, sov_SHAPES_14⟩) (e_hSHAPES_0 : h_SHAPES_0 = PyData.keyHash w.params "top") (e_hSHAPES_1 : h_SHAPES_1 = PyData.keyHash w.params "move") (e_hSHAPES_2 : h_SHAPES_2 = PyData.keyHash w.params "left") (e_hSHAPES_3 : h_SHAPES_3 = PyData.keyHash w.params "right") (e_hSHAPES_4 : h_SHAPES_4 = PyData.keyHash w.params "up") (e_hSHAPES_5 : h_SHAPES_5 = PyData.keyHash w.params "yes") (e_hSHAPES_6 : h_SHAPES_6 = PyData.keyHash w.params "no") (e_hSHAPES_7 : h_SHAPES_7 = PyData.keyHash w.params "has") (e_hSHAPES_8 : h_SHAPES_8 = PyData.keyHash w.params "empty") (e_hSHAPES_9 : h_SHAPES_9 = PyData.keyHash w.params "same") (e_hSHAPES_10 : h_SHAPES_10 = PyData.keyHash w.params "not") (e_hSHAPES_11 : h_SHAPES_11 = PyData.keyHash w.params "skip") (e_hSHAPES_12 : h_SHAPES_12 = PyData.keyHash w.params "unless") (e_hSHAPES_13 : h_SHAPES_13 = PyData.keyHash w.params "call") (e_hSHAPES_14 : h_SHAPES_14 = PyData.keyHash w.params "give")
    {tk_SMALL : Tok} (e_SMALL : PySem.W.nsIn K mainGlobals "SMALL" = some (some (.str "abcdefghijklmnopqrstuvwxyz" tk_SMALL)))
    {C_BadRow : Addr} (gC_BadRow : PySem.W.nsIn K mainGlobals "BadRow" = some (some (.ref C_BadRow)))
    {C_EyesError : Addr} (gC_EyesError : PySem.W.nsIn K mainGlobals "EyesError" = some (some (.ref C_EyesError)))
    {nm_BadRow q_BadRow : Str} {N_BadRow : Addr} {bs_BadRow : List Value} {sn_BadRow : List Str} {sub_BadRow : List Value} {ab_BadRow : Bool} {col_BadRow : Option Bool} {dd_BadRow : Option Addr} {m0_BadRow m1_BadRow m2_BadRow m3_BadRow m5_BadRow : Option Value} {fi_BadRow : Addr} {oc_BadRow kV_BadRow dc_BadRow pm_BadRow cd_BadRow ct_BadRow : Value} {od_BadRow an_BadRow : Option Addr} {sl_BadRow : Array (Option Value)} {p1_BadRow p2_BadRow q1_BadRow q2_BadRow q3_BadRow q4_BadRow : Pos} (xL_BadRow : K.lookup C_BadRow = some (excClassObj nm_BadRow q_BadRow C_BadRow N_BadRow bs_BadRow [.ref C_EyesError, .type "Exception", .type "BaseException", .type "object"] true sn_BadRow sub_BadRow ab_BadRow col_BadRow dd_BadRow m0_BadRow m1_BadRow m2_BadRow m3_BadRow m5_BadRow "Exception.__new__")) (sa_BadRow : PySem.W.findIn K (.ref C_BadRow) "__setattr__" = some (some (.builtin "object.__setattr__"))) (ga_BadRow : PySem.W.findIn K (.ref C_BadRow) "__getattribute__" = some (some (.builtin "BaseException.__getattribute__"))) (gg_BadRow : PySem.W.findIn K (.ref C_BadRow) "__getattr__" = some none) (no_BadRow : PySem.W.findIn K (.ref C_BadRow) "thing" = some none) (i_BadRow : PySem.W.findIn K (.ref C_BadRow) "__init__" = some (some (.ref fi_BadRow))) (t_BadRow : PySem.W.typeIn K (.ref fi_BadRow) = some (.type "function")) (l_BadRow : K.lookup fi_BadRow = some ⟨oc_BadRow, od_BadRow, .func (PySem.W.fnOf "__init__" "BadRow.__init__" (PySem.EyX.iA "thing" p1_BadRow p2_BadRow) (PySem.EyX.iB "thing" q1_BadRow q2_BadRow q3_BadRow q4_BadRow) (PySem.EyX.iS "thing") .none kV_BadRow dc_BadRow pm_BadRow an_BadRow cd_BadRow ct_BadRow), sl_BadRow⟩) (c_BadRow : PySem.W.codeIn K cd_BadRow "BadRow.__init__" = true) (k_BadRow : PySem.W.keepIn K (.ref C_BadRow) = true) (e_BadRow : PySem.W.subIn K (.ref C_BadRow) (.type "BaseException") = some true) (ty_BadRow : PySem.W.typeIn K (.ref C_BadRow) = some (.type "type")) (h_BadRow : PySem.W.hasDictIn K C_BadRow = true) (ac_BadRow : PySem.W.findIn K (.ref C_BadRow) "__class__" = some (some (.builtin "object.__class__"))) (mo_BadRow : PySem.W.mroIn K C_BadRow (.type "object") = some true)
    (ex_BadRow_BadRow : PySem.W.exmOne K (.ref C_BadRow) (.ref C_BadRow) = some true) (ki_BadRow_BadRow : PySem.W.kitOne K (.ref C_BadRow) (.ref C_BadRow) = some true)
    (ex_BadRow_EyesError : PySem.W.exmOne K (.ref C_BadRow) (.ref C_EyesError) = some true) (ki_BadRow_EyesError : PySem.W.kitOne K (.ref C_BadRow) (.ref C_EyesError) = some true)
    (cls_sp : PySem.W.specialIn K (.builtin "object.__class__") "__get__" = some (some (.builtin "getset_descriptor.__get__"))) (cls_tk : PySem.W.takesIn K (.builtin "object.__class__") = some true)
    : Facts w K mg := ⟨⟨_, _, PySem.W.mg_of X G a0, fun_mk (st := s_is_integer) l0 c0 k0⟩, ⟨_, _, PySem.W.mg_of X G a1, fun_mk (st := s_is_from) l1 c1 k1⟩, ⟨_, _, PySem.W.mg_of X G a2, fun_mk (st := s_is_tag_value) l2 c2 k2⟩, ⟨_, _, PySem.W.mg_of X G a3, fun_mk (st := s_are_cells) l3 c3 k3⟩, ⟨_, _, PySem.W.mg_of X G a4, fun_mk (st := s_is_part_of) l4 c4 k4⟩, ⟨_, _, PySem.W.mg_of X G a5, fun_mk (st := s_is_row_value) l5 c5 k5⟩, ⟨_, _, PySem.W.mg_of X G a6, fun_mk (st := s_cells_read) l6 c6 k6⟩, ⟨_, _, PySem.W.mg_of X G a7, fun_mk (st := s_cell_set) l7 c7 k7⟩, ⟨_, _, PySem.W.mg_of X G a8, fun_mk (st := s_need_row) l8 c8 k8⟩, ⟨_, _, PySem.W.mg_of X G a9, fun_mk (st := s_read_by) l9 c9 k9⟩, ⟨_, _, PySem.W.mg_of X G a10, fun_mk (st := s_set_by) l10 c10 k10⟩, ⟨_, _, PySem.W.mg_of X G a11, fun_mk (st := s__law_deck) l11 c11 k11⟩, ⟨_, _, PySem.W.mg_of X G a12, fun_mk (st := s__law_draw) l12 c12 k12⟩, ⟨_, _, PySem.W.mg_of X G a13, fun_mk (st := s__law_pick) l13 c13 k13⟩, ⟨_, _, PySem.W.mg_of X G a14, fun_mk (st := s__law_is_integer) l14 c14 k14⟩, ⟨_, _, PySem.W.mg_of X G a15, fun_mk (st := s__law_is_number) l15 c15 k15⟩, ⟨_, _, PySem.W.mg_of X G a16, fun_mk (st := s__law_is_tag) l16 c16 k16⟩, ⟨_, _, PySem.W.mg_of X G a17, fun_mk (st := s__law_shapes) l17 c17 k17⟩, ⟨_, _, PySem.W.mg_of X G a18, fun_mk (st := s__law_is_row) l18 c18 k18⟩, ⟨_, _, PySem.W.mg_of X G a19, fun_mk (st := s__law_read) l19 c19 k19⟩, ⟨_, _, PySem.W.mg_of X G a20, fun_mk (st := s__law_set) l20 c20 k20⟩, ⟨_, _, PySem.W.mg_of X G a21, fun_mk (st := s__law_any) l21 c21 k21⟩, ⟨_, _, PySem.W.mg_of X G a22, fun_mk (st := s__law_bent) l22 c22 k22⟩, ⟨_, _, PySem.W.mg_of X G a23, fun_mk (st := s__law_any_row) l23 c23 k23⟩, ⟨_, _, PySem.W.mg_of X G a24, fun_mk (st := s__law_tried) l24 c24 k24⟩, ⟨_, _, PySem.W.mg_of X G a25, fun_mk (st := s_law) l25 c25 k25⟩, PySem.W.mg_none_of X G z_all, PySem.W.mg_none_of X G z_bool, PySem.W.mg_none_of X G z_int, PySem.W.mg_none_of X G z_isinstance, PySem.W.mg_none_of X G z_len, PySem.W.mg_none_of X G z_list, PySem.W.mg_none_of X G z_max, PySem.W.mg_none_of X G z_range, PySem.W.mg_none_of X G z_repr, PySem.W.mg_none_of X G z_sorted, PySem.W.mg_none_of X G z_str, PySem.W.mg_none_of X G z_tuple, PySem.W.mg_none_of X G z_zip, holds_int (PySem.W.mg_of X G e_LONGEST_TAG), holds_dict (PySem.W.mg_of X G e_SHAPES) o_SHAPES l_SHAPES (.cons (ent_strs (xs := ["set"]) o_SHAPES_0 (by simp [sizeLine]) (.cons ⟨_, rfl⟩ (.nil)) e_hSHAPES_0) (.cons (ent_strs (xs := ["set", "read"]) o_SHAPES_1 (by simp [sizeLine]) (.cons ⟨_, rfl⟩ (.cons ⟨_, rfl⟩ (.nil))) e_hSHAPES_1) (.cons (ent_strs (xs := ["set", "read"]) o_SHAPES_2 (by simp [sizeLine]) (.cons ⟨_, rfl⟩ (.cons ⟨_, rfl⟩ (.nil))) e_hSHAPES_2) (.cons (ent_strs (xs := ["set", "read"]) o_SHAPES_3 (by simp [sizeLine]) (.cons ⟨_, rfl⟩ (.cons ⟨_, rfl⟩ (.nil))) e_hSHAPES_3) (.cons (ent_strs (xs := ["set", "read"]) o_SHAPES_4 (by simp [sizeLine]) (.cons ⟨_, rfl⟩ (.cons ⟨_, rfl⟩ (.nil))) e_hSHAPES_4) (.cons (ent_strs (xs := ["set"]) o_SHAPES_5 (by simp [sizeLine]) (.cons ⟨_, rfl⟩ (.nil)) e_hSHAPES_5) (.cons (ent_strs (xs := ["set"]) o_SHAPES_6 (by simp [sizeLine]) (.cons ⟨_, rfl⟩ (.nil)) e_hSHAPES_6) (.cons (ent_strs (xs := ["set", "read", "tag"]) o_SHAPES_7 (by simp [sizeLine]) (.cons ⟨_, rfl⟩ (.cons ⟨_, rfl⟩ (.cons ⟨_, rfl⟩ (.nil)))) e_hSHAPES_7) (.cons (ent_strs (xs := ["set", "read"]) o_SHAPES_8 (by simp [sizeLine]) (.cons ⟨_, rfl⟩ (.cons ⟨_, rfl⟩ (.nil))) e_hSHAPES_8) (.cons (ent_strs (xs := ["set", "read", "read"]) o_SHAPES_9 (by simp [sizeLine]) (.cons ⟨_, rfl⟩ (.cons ⟨_, rfl⟩ (.cons ⟨_, rfl⟩ (.nil)))) e_hSHAPES_9) (.cons (ent_strs (xs := ["set", "read"]) o_SHAPES_10 (by simp [sizeLine]) (.cons ⟨_, rfl⟩ (.cons ⟨_, rfl⟩ (.nil))) e_hSHAPES_10) (.cons (ent_strs (xs := ["row"]) o_SHAPES_11 (by simp [sizeLine]) (.cons ⟨_, rfl⟩ (.nil)) e_hSHAPES_11) (.cons (ent_strs (xs := ["read", "row"]) o_SHAPES_12 (by simp [sizeLine]) (.cons ⟨_, rfl⟩ (.cons ⟨_, rfl⟩ (.nil))) e_hSHAPES_12) (.cons (ent_strs (xs := ["set", "function", "args"]) o_SHAPES_13 (by simp [sizeLine]) (.cons ⟨_, rfl⟩ (.cons ⟨_, rfl⟩ (.cons ⟨_, rfl⟩ (.nil)))) e_hSHAPES_13) (.cons (ent_strs (xs := ["read"]) o_SHAPES_14 (by simp [sizeLine]) (.cons ⟨_, rfl⟩ (.nil)) e_hSHAPES_14) .nil))))))))))))))), holds_str (PySem.W.mg_of X G e_SMALL), ⟨C_BadRow, fi_BadRow, _, { gC := PySem.W.mg_of X G gC_BadRow, cls := ⟨_, _, _, _, _, _, _, _, _, _, _, _, _, _, _, xL_BadRow, rfl⟩, sa := sa_BadRow, ga := ga_BadRow, gg := gg_BadRow, noN := no_BadRow, iC := i_BadRow, tC := t_BadRow, kC := k_BadRow, exC := e_BadRow, tyC := ty_BadRow, hdC := h_BadRow, acl := ac_BadRow, mob := mo_BadRow, fn := ⟨_, _, _, _, _, _, _, _, _, _, _, _, _, _, _, l_BadRow, c_BadRow⟩ }⟩, ⟨_, PySem.W.mg_of X G gC_BadRow⟩, (List.forall_mem_cons.mpr ⟨⟨_, _, PySem.W.mg_of X G gC_BadRow, PySem.W.mg_of X G gC_BadRow, ex_BadRow_BadRow, ki_BadRow_BadRow⟩, fun _ h => nomatch h⟩), ⟨_, PySem.W.mg_of X G gC_EyesError⟩, (List.forall_mem_cons.mpr ⟨⟨_, _, PySem.W.mg_of X G gC_BadRow, PySem.W.mg_of X G gC_EyesError, ex_BadRow_EyesError, ki_BadRow_EyesError⟩, fun _ h => nomatch h⟩), cls_sp, cls_tk⟩
end Yk31
/- HOLES a0 l0 c0 k0 a1 l1 c1 k1 a2 l2 c2 k2 a3 l3 c3 k3 a4 l4 c4 k4 a5 l5 c5 k5 a6 l6 c6 k6 a7 l7 c7 k7 a8 l8 c8 k8 a9 l9 c9 k9 a10 l10 c10 k10 a11 l11 c11 k11 a12 l12 c12 k12 a13 l13 c13 k13 a14 l14 c14 k14 a15 l15 c15 k15 a16 l16 c16 k16 a17 l17 c17 k17 a18 l18 c18 k18 a19 l19 c19 k19 a20 l20 c20 k20 a21 l21 c21 k21 a22 l22 c22 k22 a23 l23 c23 k23 a24 l24 c24 k24 a25 l25 c25 k25 z_all z_bool z_int z_isinstance z_len z_list z_max z_range z_repr z_sorted z_str z_tuple z_zip e_LONGEST_TAG e_SHAPES o_SHAPES l_SHAPES o_SHAPES_0 o_SHAPES_1 o_SHAPES_2 o_SHAPES_3 o_SHAPES_4 o_SHAPES_5 o_SHAPES_6 o_SHAPES_7 o_SHAPES_8 o_SHAPES_9 o_SHAPES_10 o_SHAPES_11 o_SHAPES_12 o_SHAPES_13 o_SHAPES_14 e_hSHAPES_0 e_hSHAPES_1 e_hSHAPES_2 e_hSHAPES_3 e_hSHAPES_4 e_hSHAPES_5 e_hSHAPES_6 e_hSHAPES_7 e_hSHAPES_8 e_hSHAPES_9 e_hSHAPES_10 e_hSHAPES_11 e_hSHAPES_12 e_hSHAPES_13 e_hSHAPES_14 e_SMALL gC_BadRow gC_EyesError xL_BadRow sa_BadRow ga_BadRow gg_BadRow no_BadRow i_BadRow t_BadRow l_BadRow c_BadRow k_BadRow e_BadRow ty_BadRow h_BadRow ac_BadRow mo_BadRow ex_BadRow_BadRow ki_BadRow_BadRow ex_BadRow_EyesError ki_BadRow_EyesError cls_sp cls_tk -/

set_option Elab.async false
set_option linter.all false
set_option maxHeartbeats 4000000
set_option maxRecDepth 100000
namespace Yk31
open PySem PySem.Spec PyProof.Rows L2 DL
section
variable {P : Program} {w : World} {K : PySem.W.Frag} {mg : Str → Option Value} {base : Heap}
def tailS : DS := (dSeq (dSet 2 (dOp dMod (dCB dInt1 (dCons (dOp dAdd (dOp dMul (dVar 2) (dC (.int 39373))) (dC (.int 115))) dNil)) (dC (.int 2147483579)))) (dSeq (dSet 2 (dOp dMod (dCB dInt1 (dCons (dOp dAdd (dOp dAdd (dOp dMul (dVar 2) (dVar 2)) (dOp dMul (dC (.int 52361)) (dDGet (dVar 0) (dC (.str "draws"))))) (dC (.int 227))) dNil)) (dC (.int 2147483647)))) (dSeq (dSet 2 (dOp dMod (dCB dInt1 (dCons (dOp dMul (dVar 2) (dC (.int 48271))) dNil)) (dC (.int 2147483563)))) (dRet (dOp dMod (dCB dInt1 (dCons (dOp dDiv (dVar 2) (dC (.int 64))) dNil)) (dVar 1))))))
theorem draw_eq : t__law_draw = (dOpen 0 (dSeq (dDPut (dVar 0) (dC (.str "draws")) (dOp dAdd (dDGet (dVar 0) (dC (.str "draws"))) (dC (.int 1)))) (dSeq (dSet 2 (dOp dAdd (dDGet (dVar 0) (dC (.str "mixed"))) (dOp dMul (dC (.int 54679)) (dDGet (dVar 0) (dC (.str "draws")))))) (dSeq (dIfS (dTest (dOp dNe (dDGet (dVar 0) (dC (.str "cells"))) (dLst dNil))) (dSeq (dSet 3 (dMeth0 "list" dPop (dDGet (dVar 0) (dC (.str "cells"))))) (dSeq (dIfS (dTest (dOp dGe (dVar 3) (dOp dPow (dC (.int 10)) (dC (.int 18))))) (dSeq (dDrop (dMeth "list" dAppend (dDGet (dVar 0) (dC (.str "cells"))) (dCons (dOp dDiv (dVar 3) (dCB dMax2 (dCons (dC (.int 2)) (dCons (dVar 1) dNil)))) dNil))) (dRet (dOp dMod (dCB dInt1 (dCons (dVar 3) dNil)) (dVar 1)))) dNext) (dSet 2 (dOp dAdd (dVar 2) (dOp dMod (dCB dInt1 (dCons (dVar 3) dNil)) (dC (.int 2147483629))))))) dNext) tailS)))) := rfl
theorem h_draw (G : Facts w K mg) : Has P w K mg base CX0 "_law_draw" s__law_draw ["deck", "many"] 1 sp_draw := by
  refine has_view G.f__law_draw sc__law_draw (fun _ _ _ _ ⟨_, _, e, _⟩ => by rw [e]; rfl) (fun f cdv A outer s H E hr hG => p__law_draw G cdv A outer s H E hr hG) fun ds M R XR ⟨a, many, e, ⟨b, hd, hb⟩, h0, h1, q⟩ => ?_
  subst e
  have hne : b ≠ a := fun e => by rw [e, hd] at hb; cases hb
  rw [draw_eq]
  refine ⟨a, dks, b, rfl, hd, fun m n ns hns0 => ?_⟩
  have fin : ∀ {x : Int} {ns : List Int} {m n}, ns.length ≤ 1000 → (endsOf K R).rt (.int (x % many)) (DkM M a b ns m n) := fun hl => DkM_end hl hd hb (q _ (Int.emod_nonneg _ (by omega)) (Int.emod_lt_of_pos _ h0))
  have tail : ∀ {x : Int} {s3 : Option D} {ns : List Int} {m n}, ns.length ≤ 1000 → tailS (endsOf K R) [some (.ref a), some (.int many), some (.int x), s3] (DkM M a b ns m n) := fun {x s3 ns m n} hl => by
    have e0 := Int.emod_nonneg (x * 39373 + 115) (b := 2147483579) (by decide)
    have e1 := Int.emod_lt_of_pos (x * 39373 + 115) (b := 2147483579) (by decide)
    simp [tailS, q_get3, q_int1, L2.CMul, L2.CDiv, h0, and_assoc, dSeq, dRet, dRetN, dSet, dDrop, dIfS, dNext, dAsg, dPar, dPar3, gNm, gTp, gsCons, gsNil, dTup, dLst, dCB, dCons, dNil, dC, dVar, dOp, dUn, dTest, dAnd, dOr, dNot, dAndV, dOrV, dNotV, dIf, dChain, dCall, dCallK, pick, dYes, startD, slot, put, dwipe, q_isi_iff, q_ty_non, q_ty_bl, q_ty_int, q_ty_str, q_ty_tup, q_ty_lst, q_ty_dct, isiTy, isTy, q_len_tup, q_len_lst, q_len_str, q_eq_int, q_ne_int, q_eq_str, q_ne_str, q_eq_tup0, q_ne_tup0, q_eq_lst0, q_ne_lst0, q_ix_tup, q_ix_lst, q_at0, q_at1, q_at2, q_at3, q_op_lt, q_op_le, q_op_gt, q_op_ge, q_op_sb, q_op_ml, q_op_md, q_op_dv, q_op_pw, q_op_ad, q_ad_str, q_ad_tup, q_ad_lst, q_un_ng, q_z0, q_z1, q_z2, q_z3, q_z4, q_z5, q_z6, q_z7, q_z8, q_z9, q_z10, q_z11, q_z12, q_z13, q_z14, q_z15, q_z16]
    refine ⟨by omega, by omega, fin hl⟩
  have hz : (3 : Nat) < sizeLine := by decide
  show (dSeq (dDPut _ _ _) _) _ _ (DkM M a b ns m n)
  simp only [dSeq, dDPut, dOp, q_get3, dC, q_op_ad, startD, List.map_cons, List.map_nil, List.cons_append, List.nil_append]
  refine ⟨_, rfl, .inr "draws", a, dks, _, rfl, rfl, DkM_a, hz, ?_⟩
  rw [dkp, dkq, DkM_seta]
  simp only [dSet, dSeq, dIfS, dTest, dOp, q_get3, q_get2, q_get1, dC, q_op_ad, q_op_ml, put, dLst, dNil]
  refine ⟨cmul_l (by decide) (by decide), q_z0, ne_left hne ⟨_, rfl, ?_⟩⟩
  cases hns : ns.isEmpty with
  | true =>
    simp only [Bool.not_true, Bool.false_eq_true, if_false]
    exact tail hns0
  | false =>
    simp only [Bool.not_false, if_true]
    obtain ⟨ks, c, rfl⟩ : ∃ ks c, ns = ks ++ [c] := by
      rcases List.eq_nil_or_concat ns with h | ⟨ks, c, h⟩
      · subst h; cases hns
      · exact ⟨ks, c, by simpa using h⟩
    simp only [dSet, dSeq, dMeth0, q_get1]
    refine ⟨.inr (.inl ⟨rfl, _, .inr ⟨b, rfl, DkM_b hne⟩⟩), b, _, .int c, rfl, rfl, DkM_b hne, ?_, ?_⟩
    · simp
    · rw [show ((ks ++ [c]).map D.int).dropLast = ks.map .int by simp, DkM_setb hne]
      have hk : ks.length ≤ 999 := by simp at hns0; omega
      by_cases hc : (1000000000000000000 : Int) ≤ c
      · simp [put, q_get1, q_int1, q_max2, L2.CPow, L2.CDiv, hc, dMeth, and_assoc, dSeq, dRet, dRetN, dSet, dDrop, dIfS, dNext, dAsg, dPar, dPar3, gNm, gTp, gsCons, gsNil, dTup, dLst, dCB, dCons, dNil, dC, dVar, dOp, dUn, dTest, dAnd, dOr, dNot, dAndV, dOrV, dNotV, dIf, dChain, dCall, dCallK, pick, dYes, startD, slot, put, dwipe, q_isi_iff, q_ty_non, q_ty_bl, q_ty_int, q_ty_str, q_ty_tup, q_ty_lst, q_ty_dct, isiTy, isTy, q_len_tup, q_len_lst, q_len_str, q_eq_int, q_ne_int, q_eq_str, q_ne_str, q_eq_tup0, q_ne_tup0, q_eq_lst0, q_ne_lst0, q_ix_tup, q_ix_lst, q_at0, q_at1, q_at2, q_at3, q_op_lt, q_op_le, q_op_gt, q_op_ge, q_op_sb, q_op_ml, q_op_md, q_op_dv, q_op_pw, q_op_ad, q_ad_str, q_ad_tup, q_ad_lst, q_un_ng, q_z0, q_z1, q_z2, q_z3, q_z4, q_z5, q_z6, q_z7, q_z8, q_z9, q_z10, q_z11, q_z12, q_z13, q_z14, q_z15, q_z16]
        refine ⟨.inr (.inl ⟨rfl, _, .inr ⟨b, rfl, DkM_b hne⟩⟩), by split <;> omega, by split <;> omega, b, _, _, rfl, rfl, DkM_b hne, ?_, h0, ?_⟩
        · rw [List.length_map]
          exact Nat.lt_of_le_of_lt hk (by decide)
        · rw [show ks.map D.int ++ [.int (c / if 2 < many then many else 2)] = (ks ++ [c / if 2 < many then many else 2]).map .int by simp, DkM_setb hne]
          exact fin (by simp; omega)
      · simp only [dIfS, dTest, dOp, dVar, dC, put, slot, q_op_pw, q_op_ge, dNext, dCB, dCons, dNil, q_int1, q_op_md, q_op_ad]
        refine ⟨_, rfl, ⟨by decide, by decide, by decide⟩, _, _, rfl, rfl, _, rfl, ?_⟩
        rw [show decide ((10 : Int) ^ (18 : Int).toNat ≤ c) = false from decide_eq_false hc]
        simp only [Bool.false_eq_true, if_false]
        exact ⟨_, rfl, _, rfl, .inl ⟨c, rfl, _, _, rfl, rfl, (by decide : (0 : Int) < 2147483629), tail (by omega)⟩⟩
theorem h_pick (G : Facts w K mg) : Has P w K mg base CX0 "_law_pick" s__law_pick ["deck", "some"] 2 sp_pick := by
  refine has_plain G.f__law_pick sc__law_pick (fun _ _ _ _ ⟨_, _, e, _⟩ => by rw [e]; rfl) (fun f cdv A outer s H E hr hG => p__law_pick G (h_draw G) cdv A outer s H E hr hG) fun ds M R XR ⟨a, x, e, hd, q⟩ => ?_
  subst e
  rcases q with ⟨xs, rfl | rfl | ⟨p, rfl, hp⟩, h0, h1, q⟩ | ⟨s, rfl, h0, h1, q⟩
  · have hpos : 0 < xs.length := List.length_pos_iff.mpr h0
    simp [t__law_pick, sp_draw, hd, hpos, and_assoc, dSeq, dRet, dRetN, dSet, dDrop, dIfS, dNext, dAsg, dPar, dPar3, gNm, gTp, gsCons, gsNil, dTup, dLst, dCB, dCons, dNil, dC, dVar, dOp, dUn, dTest, dAnd, dOr, dNot, dAndV, dOrV, dNotV, dIf, dChain, dCall, dCallK, pick, dYes, startD, slot, put, dwipe, q_isi_iff, q_ty_non, q_ty_bl, q_ty_int, q_ty_str, q_ty_tup, q_ty_lst, q_ty_dct, isiTy, isTy, q_len_tup, q_len_lst, q_len_str, q_eq_int, q_ne_int, q_eq_str, q_ne_str, q_eq_tup0, q_ne_tup0, q_eq_lst0, q_ne_lst0, q_ix_tup, q_ix_lst, q_at0, q_at1, q_at2, q_at3, q_op_lt, q_op_le, q_op_gt, q_op_ge, q_op_sb, q_op_ml, q_op_md, q_op_dv, q_op_pw, q_op_ad, q_ad_str, q_ad_tup, q_ad_lst, q_un_ng, q_z0, q_z1, q_z2, q_z3, q_z4, q_z5, q_z6, q_z7, q_z8, q_z9, q_z10, q_z11, q_z12, q_z13, q_z14, q_z15, q_z16]
    refine ⟨by omega, fun i hi0 hi1 => ?_⟩
    obtain ⟨d, hm, ha⟩ := at_nat hi0 hi1
    exact ⟨d, ha, q d hm⟩
  · have hpos : 0 < xs.length := List.length_pos_iff.mpr h0
    simp [t__law_pick, sp_draw, hd, hpos, and_assoc, dSeq, dRet, dRetN, dSet, dDrop, dIfS, dNext, dAsg, dPar, dPar3, gNm, gTp, gsCons, gsNil, dTup, dLst, dCB, dCons, dNil, dC, dVar, dOp, dUn, dTest, dAnd, dOr, dNot, dAndV, dOrV, dNotV, dIf, dChain, dCall, dCallK, pick, dYes, startD, slot, put, dwipe, q_isi_iff, q_ty_non, q_ty_bl, q_ty_int, q_ty_str, q_ty_tup, q_ty_lst, q_ty_dct, isiTy, isTy, q_len_tup, q_len_lst, q_len_str, q_eq_int, q_ne_int, q_eq_str, q_ne_str, q_eq_tup0, q_ne_tup0, q_eq_lst0, q_ne_lst0, q_ix_tup, q_ix_lst, q_at0, q_at1, q_at2, q_at3, q_op_lt, q_op_le, q_op_gt, q_op_ge, q_op_sb, q_op_ml, q_op_md, q_op_dv, q_op_pw, q_op_ad, q_ad_str, q_ad_tup, q_ad_lst, q_un_ng, q_z0, q_z1, q_z2, q_z3, q_z4, q_z5, q_z6, q_z7, q_z8, q_z9, q_z10, q_z11, q_z12, q_z13, q_z14, q_z15, q_z16]
    refine ⟨by omega, fun i hi0 hi1 => ?_⟩
    obtain ⟨d, hm, ha⟩ := at_nat hi0 hi1
    exact ⟨d, ha, q d hm⟩
  · have hpos : 0 < xs.length := List.length_pos_iff.mpr h0
    simp [t__law_pick, sp_draw, hd, hpos, hp, q_len_ref, and_assoc, dSeq, dRet, dRetN, dSet, dDrop, dIfS, dNext, dAsg, dPar, dPar3, gNm, gTp, gsCons, gsNil, dTup, dLst, dCB, dCons, dNil, dC, dVar, dOp, dUn, dTest, dAnd, dOr, dNot, dAndV, dOrV, dNotV, dIf, dChain, dCall, dCallK, pick, dYes, startD, slot, put, dwipe, q_isi_iff, q_ty_non, q_ty_bl, q_ty_int, q_ty_str, q_ty_tup, q_ty_lst, q_ty_dct, isiTy, isTy, q_len_tup, q_len_lst, q_len_str, q_eq_int, q_ne_int, q_eq_str, q_ne_str, q_eq_tup0, q_ne_tup0, q_eq_lst0, q_ne_lst0, q_ix_tup, q_ix_lst, q_at0, q_at1, q_at2, q_at3, q_op_lt, q_op_le, q_op_gt, q_op_ge, q_op_sb, q_op_ml, q_op_md, q_op_dv, q_op_pw, q_op_ad, q_ad_str, q_ad_tup, q_ad_lst, q_un_ng, q_z0, q_z1, q_z2, q_z3, q_z4, q_z5, q_z6, q_z7, q_z8, q_z9, q_z10, q_z11, q_z12, q_z13, q_z14, q_z15, q_z16]
    refine ⟨by omega, fun i hi0 hi1 => ?_⟩
    obtain ⟨d, hm, ha⟩ := at_nat hi0 hi1
    exact ⟨_, rfl, xs, d, hp, ha, q d hm⟩
  · simp [t__law_pick, sp_draw, hd, le_size h1, and_assoc, dSeq, dRet, dRetN, dSet, dDrop, dIfS, dNext, dAsg, dPar, dPar3, gNm, gTp, gsCons, gsNil, dTup, dLst, dCB, dCons, dNil, dC, dVar, dOp, dUn, dTest, dAnd, dOr, dNot, dAndV, dOrV, dNotV, dIf, dChain, dCall, dCallK, pick, dYes, startD, slot, put, dwipe, q_isi_iff, q_ty_non, q_ty_bl, q_ty_int, q_ty_str, q_ty_tup, q_ty_lst, q_ty_dct, isiTy, isTy, q_len_tup, q_len_lst, q_len_str, q_eq_int, q_ne_int, q_eq_str, q_ne_str, q_eq_tup0, q_ne_tup0, q_eq_lst0, q_ne_lst0, q_ix_tup, q_ix_lst, q_at0, q_at1, q_at2, q_at3, q_op_lt, q_op_le, q_op_gt, q_op_ge, q_op_sb, q_op_ml, q_op_md, q_op_dv, q_op_pw, q_op_ad, q_ad_str, q_ad_tup, q_ad_lst, q_un_ng, q_z0, q_z1, q_z2, q_z3, q_z4, q_z5, q_z6, q_z7, q_z8, q_z9, q_z10, q_z11, q_z12, q_z13, q_z14, q_z15, q_z16]
    refine ⟨h0, by omega, fun i hi0 hi1 => ?_⟩
    obtain ⟨j, rfl⟩ := Int.eq_ofNat_of_zero_le hi0
    have hj : j < s.cps.toList.length := by
      have : s.cps.toList.length = s.length := rfl
      omega
    exact ⟨_, rfl, le_size h1, s.cps.toList[j], L2.atI_nat (List.getElem?_eq_getElem hj), q _ (List.getElem_mem hj)⟩
theorem h_deck (G : Facts w K mg) : Has P w K mg base CX0 "_law_deck" s__law_deck ["script"] 1 sp_deck := by
  refine has_view G.f__law_deck sc__law_deck (fun _ _ _ _ ⟨_, e, _⟩ => by rw [e]; rfl) (fun f cdv A outer s H E hr hG => p__law_deck G cdv A outer s H E hr hG) fun ds M R XR ⟨ns, e, hl, q⟩ => ?_
  subst e
  have hl2 := cut63_len hl
  simp only [t__law_deck, dSeq, dSet, dC]
  refine go_for (items := (DL.cutD ns none (some 63)).map .int) (G := fun _ => True) (fun i ρ2 M2 => M2 = M ∧ ∃ x s2, ρ2 = [some (.lst (ns.map .int)), some (.int x), s2]) (fun Q h => ⟨_, rfl, _, rfl, _, fun _ => True, ⟨rfl, rfl⟩, by rw [cut63]; exact h⟩) ⟨rfl, _, _, rfl⟩ (fun i d ρ2 M2 hd ⟨e1, x, s2, e2⟩ => ?_) (fun ρ2 M2 ⟨e1, x, s2, e2⟩ => ?_)
  · subst e1 e2
    refine ⟨trivial, ?_⟩
    obtain ⟨n, rfl⟩ : ∃ n, d = .int n := by
      have := List.mem_of_getElem? hd
      obtain ⟨n, _, rfl⟩ := List.mem_map.mp this
      exact ⟨n, rfl⟩
    simp [q_int1, L2.CMul, and_assoc, dSeq, dRet, dRetN, dSet, dDrop, dIfS, dNext, dAsg, dPar, dPar3, gNm, gTp, gsCons, gsNil, dTup, dLst, dCB, dCons, dNil, dC, dVar, dOp, dUn, dTest, dAnd, dOr, dNot, dAndV, dOrV, dNotV, dIf, dChain, dCall, dCallK, pick, dYes, startD, slot, put, dwipe, q_isi_iff, q_ty_non, q_ty_bl, q_ty_int, q_ty_str, q_ty_tup, q_ty_lst, q_ty_dct, isiTy, isTy, q_len_tup, q_len_lst, q_len_str, q_eq_int, q_ne_int, q_eq_str, q_ne_str, q_eq_tup0, q_ne_tup0, q_eq_lst0, q_ne_lst0, q_ix_tup, q_ix_lst, q_at0, q_at1, q_at2, q_at3, q_op_lt, q_op_le, q_op_gt, q_op_ge, q_op_sb, q_op_ml, q_op_md, q_op_dv, q_op_pw, q_op_ad, q_ad_str, q_ad_tup, q_ad_lst, q_un_ng, q_z0, q_z1, q_z2, q_z3, q_z4, q_z5, q_z6, q_z7, q_z8, q_z9, q_z10, q_z11, q_z12, q_z13, q_z14, q_z15, q_z16]
  · subst e1 e2
    refine ⟨trivial, ?_⟩
    have hls : ∀ {R : RK}, R (.lst ((DL.cutD ns none (some 63)).map .int)) M2 → dSl (dVar 0) dNoPart (dPart (dC (.int 63))) [some (.lst (ns.map .int)), some (.int x), s2] M2 R := fun {R} h => ⟨_, rfl, _, rfl, by show R (.lst (DL.cutD (ns.map D.int) none (some 63))) M2; rw [cut63]; exact h⟩
    refine (show dDispM _ _ M2 _ from ?_)
    refine hls ⟨_, _, rfl, .inr (.inl rfl), _, .inl rfl, fun b hb => ?_⟩
    refine ⟨_, rfl, dks, rfl, by decide, by decide, fun p hp => ?_⟩
    have hbp : b ≠ p := fun e => by rw [← e, mset_same] at hp; cases hp
    have hr : ((DL.cutD ns none (some 63)).reverse).length ≤ 1000 := by rw [List.length_reverse]; omega
    have eb : (mset (mset M2 b (.lst ((DL.cutD ns none (some 63)).map D.int).reverse)) p (.dct dks [.ref b, .int x, .int 0])) b = some (.lst ((DL.cutD ns none (some 63)).reverse.map .int)) := by
      rw [mset_ne hbp, mset_same, List.map_reverse]
    refine .inr ⟨.ref p, _, View.mem (MView.deck (a := p) (b := b) mset_same eb hr) fun c hc => ?_, q p _ ⟨b, ?_, mset_same⟩ fun c o hc => ?_⟩
    · have h1 : c ≠ p := fun e => by rw [e, mset_same] at hc; cases hc
      have h2 : c ≠ b := fun e => by rw [e, eb] at hc; cases hc
      rw [mset_ne h2, mset_ne h1]
      exact hc
    · rw [mset_ne (Ne.symm hbp), mset_same]
      rfl
    · have n1 : c ≠ b := fun e => by rw [e, hb] at hc; cases hc
      have n2 : c ≠ p := fun e => by
        rw [mset_ne (Ne.symm hbp)] at hp
        rw [e, hp] at hc
        cases hc
      rw [mset_ne n1, mset_ne n2, mset_ne n2, mset_ne n1]
      exact hc
end
end Yk31

set_option Elab.async false
set_option linter.all false
set_option maxHeartbeats 4000000
set_option maxRecDepth 100000
namespace Yk31
open PySem PySem.Spec PyProof.Rows L2 DL
section
variable {P : Program} {w : World} {K : PySem.W.Frag} {mg : Str → Option Value} {base : Heap}
/-! ### integers -/
def isI : D → Bool
  | .int _ => true
  | _ => false
def sp_isI : SpD := fun ds M R _ => ∃ d, ds = [d] ∧ dat d = true ∧ R (.bl (isI d)) M
theorem h_isI (G : Facts w K mg) : Has P w K mg base CX0 "is_integer" s_is_integer ["thing"] 1 sp_isI := by
  refine has_plain G.f_is_integer sc_is_integer (fun _ _ _ _ ⟨_, e, _⟩ => by rw [e]; rfl) (fun f cdv A outer s H E hr hG => p_is_integer G cdv A outer s H E hr hG) fun ds M R XR ⟨d, e, hd, q⟩ => ?_
  subst e
  cases d <;> first | (cases hd; done) | (simp [t_is_integer, and_assoc, dSeq, dRet, dRetN, dSet, dDrop, dIfS, dNext, dAsg, dPar, dPar3, gNm, gTp, gsCons, gsNil, dTup, dLst, dCB, dCons, dNil, dC, dVar, dOp, dUn, dTest, dAnd, dOr, dNot, dAndV, dOrV, dNotV, dIf, dChain, dCall, dCallK, pick, dYes, startD, slot, put, dwipe, q_isi_iff, q_ty_non, q_ty_bl, q_ty_int, q_ty_str, q_ty_tup, q_ty_lst, q_ty_dct, isiTy, isTy, q_len_tup, q_len_lst, q_len_str, q_eq_int, q_ne_int, q_eq_str, q_ne_str, q_eq_tup0, q_ne_tup0, q_eq_lst0, q_ne_lst0, q_ix_tup, q_ix_lst, q_at0, q_at1, q_at2, q_at3, q_op_lt, q_op_le, q_op_gt, q_op_ge, q_op_sb, q_op_ml, q_op_md, q_op_dv, q_op_pw, q_op_ad, q_ad_str, q_ad_tup, q_ad_lst, q_un_ng, q_z0, q_z1, q_z2, q_z3, q_z4, q_z5, q_z6, q_z7, q_z8, q_z9, q_z10, q_z11, q_z12, q_z13, q_z14, q_z15, q_z16] <;> exact q)
theorem h_lint (G : Facts w K mg) : Has P w K mg base CX0 "_law_is_integer" s__law_is_integer ["thing"] 1 sp_isI := by
  refine has_plain G.f__law_is_integer sc__law_is_integer (fun _ _ _ _ ⟨_, e, _⟩ => by rw [e]; rfl) (fun f cdv A outer s H E hr hG => p__law_is_integer G cdv A outer s H E hr hG) fun ds M R XR ⟨d, e, hd, q⟩ => ?_
  subst e
  cases d <;> first | (cases hd; done) | (simp [t__law_is_integer, and_assoc, dSeq, dRet, dRetN, dSet, dDrop, dIfS, dNext, dAsg, dPar, dPar3, gNm, gTp, gsCons, gsNil, dTup, dLst, dCB, dCons, dNil, dC, dVar, dOp, dUn, dTest, dAnd, dOr, dNot, dAndV, dOrV, dNotV, dIf, dChain, dCall, dCallK, pick, dYes, startD, slot, put, dwipe, q_isi_iff, q_ty_non, q_ty_bl, q_ty_int, q_ty_str, q_ty_tup, q_ty_lst, q_ty_dct, isiTy, isTy, q_len_tup, q_len_lst, q_len_str, q_eq_int, q_ne_int, q_eq_str, q_ne_str, q_eq_tup0, q_ne_tup0, q_eq_lst0, q_ne_lst0, q_ix_tup, q_ix_lst, q_at0, q_at1, q_at2, q_at3, q_op_lt, q_op_le, q_op_gt, q_op_ge, q_op_sb, q_op_ml, q_op_md, q_op_dv, q_op_pw, q_op_ad, q_ad_str, q_ad_tup, q_ad_lst, q_un_ng, q_z0, q_z1, q_z2, q_z3, q_z4, q_z5, q_z6, q_z7, q_z8, q_z9, q_z10, q_z11, q_z12, q_z13, q_z14, q_z15, q_z16] <;> exact q)
def isFrom (d : D) (l : Int) : Bool := match d with
  | .int i => decide (l ≤ i)
  | _ => false
def sp_isFrom : SpD := fun ds M R _ => ∃ d l, ds = [d, .int l] ∧ dat d = true ∧ R (.bl (isFrom d l)) M
theorem h_isFrom (G : Facts w K mg) : Has P w K mg base CX0 "is_from" s_is_from ["thing", "least"] 2 sp_isFrom := by
  refine has_plain G.f_is_from sc_is_from (fun _ _ _ _ ⟨_, _, e, _⟩ => by rw [e]; rfl) (fun f cdv A outer s H E hr hG => p_is_from G (h_isI G) cdv A outer s H E hr hG) fun ds M R XR ⟨d, i, e, hd, q⟩ => ?_
  subst e
  cases d <;> first | (cases hd; done) | (simp [t_is_from, sp_isI, isI, hd, and_assoc, dSeq, dRet, dRetN, dSet, dDrop, dIfS, dNext, dAsg, dPar, dPar3, gNm, gTp, gsCons, gsNil, dTup, dLst, dCB, dCons, dNil, dC, dVar, dOp, dUn, dTest, dAnd, dOr, dNot, dAndV, dOrV, dNotV, dIf, dChain, dCall, dCallK, pick, dYes, startD, slot, put, dwipe, q_isi_iff, q_ty_non, q_ty_bl, q_ty_int, q_ty_str, q_ty_tup, q_ty_lst, q_ty_dct, isiTy, isTy, q_len_tup, q_len_lst, q_len_str, q_eq_int, q_ne_int, q_eq_str, q_ne_str, q_eq_tup0, q_ne_tup0, q_eq_lst0, q_ne_lst0, q_ix_tup, q_ix_lst, q_at0, q_at1, q_at2, q_at3, q_op_lt, q_op_le, q_op_gt, q_op_ge, q_op_sb, q_op_ml, q_op_md, q_op_dv, q_op_pw, q_op_ad, q_ad_str, q_ad_tup, q_ad_lst, q_un_ng, q_z0, q_z1, q_z2, q_z3, q_z4, q_z5, q_z6, q_z7, q_z8, q_z9, q_z10, q_z11, q_z12, q_z13, q_z14, q_z15, q_z16] <;> exact q)
def sp_num : SpD := fun ds M R _ => ∃ d, ds = [d] ∧ dat d = true ∧ R (.bl (isFrom d 0)) M
theorem h_lnum (G : Facts w K mg) : Has P w K mg base CX0 "_law_is_number" s__law_is_number ["thing"] 2 sp_num := by
  refine has_plain G.f__law_is_number sc__law_is_number (fun _ _ _ _ ⟨_, e, _⟩ => by rw [e]; rfl) (fun f cdv A outer s H E hr hG => p__law_is_number G (h_lint G) cdv A outer s H E hr hG) fun ds M R XR ⟨d, e, hd, q⟩ => ?_
  subst e
  cases d <;> first | (cases hd; done) | (simp [t__law_is_number, sp_isI, isI, hd, and_assoc, dSeq, dRet, dRetN, dSet, dDrop, dIfS, dNext, dAsg, dPar, dPar3, gNm, gTp, gsCons, gsNil, dTup, dLst, dCB, dCons, dNil, dC, dVar, dOp, dUn, dTest, dAnd, dOr, dNot, dAndV, dOrV, dNotV, dIf, dChain, dCall, dCallK, pick, dYes, startD, slot, put, dwipe, q_isi_iff, q_ty_non, q_ty_bl, q_ty_int, q_ty_str, q_ty_tup, q_ty_lst, q_ty_dct, isiTy, isTy, q_len_tup, q_len_lst, q_len_str, q_eq_int, q_ne_int, q_eq_str, q_ne_str, q_eq_tup0, q_ne_tup0, q_eq_lst0, q_ne_lst0, q_ix_tup, q_ix_lst, q_at0, q_at1, q_at2, q_at3, q_op_lt, q_op_le, q_op_gt, q_op_ge, q_op_sb, q_op_ml, q_op_md, q_op_dv, q_op_pw, q_op_ad, q_ad_str, q_ad_tup, q_ad_lst, q_un_ng, q_z0, q_z1, q_z2, q_z3, q_z4, q_z5, q_z6, q_z7, q_z8, q_z9, q_z10, q_z11, q_z12, q_z13, q_z14, q_z15, q_z16] <;> exact q)
def small : Str := "abcdefghijklmnopqrstuvwxyz"
def isTag : D → Bool
  | .str s => decide (1 ≤ (s.length : Int)) && decide ((s.length : Int) ≤ 8) && s.cps.toList.all fun c => signIn c small
  | _ => false
theorem all_chars {s : Str} {p : Nat → Bool} : ((charsD s).all fun d => p (chr d)) = s.cps.toList.all p := by
  unfold charsD
  rw [List.all_map]
  rfl
def sp_isTag : SpD := fun ds M R _ => ∃ d, ds = [d] ∧ dat d = true ∧ R (.bl (isTag d)) M
theorem all_signs {ρ : DEnv} {M : Mem} {R : RK} {i : Nat} {s t : Str} {te : DE} (hi : slot ρ 0 = some (.str s)) (hl : s.length ≤ 1000) (ht : te = dC (.str t)) (hp : ∀ x : D, slot (put (dwipe ρ [i]) i x) i = some x) (q : R (.bl (s.cps.toList.all fun c => signIn c t)) M) :
    dLc [i] (dVal (dVar 0)) (gNm i) dYes (dOp dIn (dVar i) te) ρ M fun x M1 => dAll [x] M1 R := by
  subst ht
  refine go_all (items := charsD s) (G := fun _ => True) (fun d => signIn (chr d) t) (fun Q h => it_val (d := .str s) (fun R h => ⟨_, hi, h⟩) ⟨rfl, rfl⟩ h) (by rw [chars_len]; exact le_size hl) trivial (fun d hd Rt h => ?_) (by rw [all_chars (p := fun c => signIn c t)]; exact q)
  obtain ⟨c, _, rfl⟩ := List.mem_map.mp hd
  exact ⟨_, hp _, _, ⟨c, rfl, rfl⟩, h⟩
theorem h_isTag (G : Facts w K mg) : Has P w K mg base CX0 "is_tag_value" s_is_tag_value ["thing"] 1 sp_isTag := by
  refine has_plain G.f_is_tag_value sc_is_tag_value (fun _ _ _ _ ⟨_, e, _⟩ => by rw [e]; rfl) (fun f cdv A outer s H E hr hG => p_is_tag_value G cdv A outer s H E hr hG) fun ds M R XR ⟨d, e, hd, q⟩ => ?_
  subst e
  cases d with
  | str s =>
    have hl := dat_str hd
    by_cases h1 : 1 ≤ (s.length : Int)
    · by_cases h2 : (s.length : Int) ≤ 8
      · simp [t_is_tag_value, d_LONGEST_TAG, h1, h2, le_size hl, and_assoc, dSeq, dRet, dRetN, dSet, dDrop, dIfS, dNext, dAsg, dPar, dPar3, gNm, gTp, gsCons, gsNil, dTup, dLst, dCB, dCons, dNil, dC, dVar, dOp, dUn, dTest, dAnd, dOr, dNot, dAndV, dOrV, dNotV, dIf, dChain, dCall, dCallK, pick, dYes, startD, slot, put, dwipe, q_isi_iff, q_ty_non, q_ty_bl, q_ty_int, q_ty_str, q_ty_tup, q_ty_lst, q_ty_dct, isiTy, isTy, q_len_tup, q_len_lst, q_len_str, q_eq_int, q_ne_int, q_eq_str, q_ne_str, q_eq_tup0, q_ne_tup0, q_eq_lst0, q_ne_lst0, q_ix_tup, q_ix_lst, q_at0, q_at1, q_at2, q_at3, q_op_lt, q_op_le, q_op_gt, q_op_ge, q_op_sb, q_op_ml, q_op_md, q_op_dv, q_op_pw, q_op_ad, q_ad_str, q_ad_tup, q_ad_lst, q_un_ng, q_z0, q_z1, q_z2, q_z3, q_z4, q_z5, q_z6, q_z7, q_z8, q_z9, q_z10, q_z11, q_z12, q_z13, q_z14, q_z15, q_z16]
        have q2 : R (.bl (s.cps.toList.all fun c => signIn c small)) M := by simpa [isTag, h1, h2] using q
        exact all_signs (t := small) rfl hl rfl (fun _ => rfl) q2
      · simp [t_is_tag_value, d_LONGEST_TAG, h1, h2, le_size hl, and_assoc, dSeq, dRet, dRetN, dSet, dDrop, dIfS, dNext, dAsg, dPar, dPar3, gNm, gTp, gsCons, gsNil, dTup, dLst, dCB, dCons, dNil, dC, dVar, dOp, dUn, dTest, dAnd, dOr, dNot, dAndV, dOrV, dNotV, dIf, dChain, dCall, dCallK, pick, dYes, startD, slot, put, dwipe, q_isi_iff, q_ty_non, q_ty_bl, q_ty_int, q_ty_str, q_ty_tup, q_ty_lst, q_ty_dct, isiTy, isTy, q_len_tup, q_len_lst, q_len_str, q_eq_int, q_ne_int, q_eq_str, q_ne_str, q_eq_tup0, q_ne_tup0, q_eq_lst0, q_ne_lst0, q_ix_tup, q_ix_lst, q_at0, q_at1, q_at2, q_at3, q_op_lt, q_op_le, q_op_gt, q_op_ge, q_op_sb, q_op_ml, q_op_md, q_op_dv, q_op_pw, q_op_ad, q_ad_str, q_ad_tup, q_ad_lst, q_un_ng, q_z0, q_z1, q_z2, q_z3, q_z4, q_z5, q_z6, q_z7, q_z8, q_z9, q_z10, q_z11, q_z12, q_z13, q_z14, q_z15, q_z16]
        simpa [isTag, h1, h2] using q
    · simp [t_is_tag_value, d_LONGEST_TAG, h1, le_size hl, and_assoc, dSeq, dRet, dRetN, dSet, dDrop, dIfS, dNext, dAsg, dPar, dPar3, gNm, gTp, gsCons, gsNil, dTup, dLst, dCB, dCons, dNil, dC, dVar, dOp, dUn, dTest, dAnd, dOr, dNot, dAndV, dOrV, dNotV, dIf, dChain, dCall, dCallK, pick, dYes, startD, slot, put, dwipe, q_isi_iff, q_ty_non, q_ty_bl, q_ty_int, q_ty_str, q_ty_tup, q_ty_lst, q_ty_dct, isiTy, isTy, q_len_tup, q_len_lst, q_len_str, q_eq_int, q_ne_int, q_eq_str, q_ne_str, q_eq_tup0, q_ne_tup0, q_eq_lst0, q_ne_lst0, q_ix_tup, q_ix_lst, q_at0, q_at1, q_at2, q_at3, q_op_lt, q_op_le, q_op_gt, q_op_ge, q_op_sb, q_op_ml, q_op_md, q_op_dv, q_op_pw, q_op_ad, q_ad_str, q_ad_tup, q_ad_lst, q_un_ng, q_z0, q_z1, q_z2, q_z3, q_z4, q_z5, q_z6, q_z7, q_z8, q_z9, q_z10, q_z11, q_z12, q_z13, q_z14, q_z15, q_z16]
      simpa [isTag, h1] using q
  | _ => first | (cases hd; done) | (simp [t_is_tag_value, d_LONGEST_TAG, and_assoc, dSeq, dRet, dRetN, dSet, dDrop, dIfS, dNext, dAsg, dPar, dPar3, gNm, gTp, gsCons, gsNil, dTup, dLst, dCB, dCons, dNil, dC, dVar, dOp, dUn, dTest, dAnd, dOr, dNot, dAndV, dOrV, dNotV, dIf, dChain, dCall, dCallK, pick, dYes, startD, slot, put, dwipe, q_isi_iff, q_ty_non, q_ty_bl, q_ty_int, q_ty_str, q_ty_tup, q_ty_lst, q_ty_dct, isiTy, isTy, q_len_tup, q_len_lst, q_len_str, q_eq_int, q_ne_int, q_eq_str, q_ne_str, q_eq_tup0, q_ne_tup0, q_eq_lst0, q_ne_lst0, q_ix_tup, q_ix_lst, q_at0, q_at1, q_at2, q_at3, q_op_lt, q_op_le, q_op_gt, q_op_ge, q_op_sb, q_op_ml, q_op_md, q_op_dv, q_op_pw, q_op_ad, q_ad_str, q_ad_tup, q_ad_lst, q_un_ng, q_z0, q_z1, q_z2, q_z3, q_z4, q_z5, q_z6, q_z7, q_z8, q_z9, q_z10, q_z11, q_z12, q_z13, q_z14, q_z15, q_z16] <;> exact q)
theorem empty_filter {α : Type} {p : α → Bool} {xs : List α} : (xs.filter fun x => !p x).isEmpty = xs.all p := by
  induction xs with
  | nil => rfl
  | cons x xs ih =>
    cases h : p x <;> simp [h]
    simpa using ih
/-- [x for x in s if x not in t] == [] -/
theorem no_other {ρ : DEnv} {M : Mem} {R : RK} {i : Nat} {s t : Str} {te : DE} (hi : slot ρ 0 = some (.str s)) (hl : s.length ≤ 1000) (ht : te = dC (.str t)) (hp : ∀ x : D, slot (put (dwipe ρ [i]) i x) i = some x) (q : R (.bl (s.cps.toList.all fun c => signIn c t)) M) :
    dLc [i] (dVal (dVar 0)) (gNm i) (dTest (dOp dNotIn (dVar i) te)) (dVar i) ρ M fun x M1 => dEq x (.lst []) M1 R := by
  subst ht
  refine go_lc (items := charsD s) (G := fun _ => True) (fun d => !signIn (chr d) t) id (fun Q h => it_val (d := .str s) (fun R h => ⟨_, hi, h⟩) ⟨rfl, rfl⟩ h) (by rw [chars_len]; exact le_size hl) trivial (fun d hd Rt Rf h h' => ?_) ?_
  · obtain ⟨c, _, rfl⟩ := List.mem_map.mp hd
    have hc : chr (.str ⟨#[c]⟩) = c := rfl
    rw [hc] at h h'
    refine ⟨_, hp _, _, ⟨c, rfl, rfl⟩, _, rfl, ?_⟩
    cases e : signIn c t
    · simp only [Bool.not_false, if_true]
      exact ⟨_, hp _, h (by rw [e]; rfl)⟩
    · simp only [Bool.not_true, if_false, Bool.false_eq_true]
      exact h' (by rw [e]; rfl)
  · refine q_eq_lst0.mpr ?_
    rw [List.map_id, empty_filter (p := fun d => signIn (chr d) t), all_chars (p := fun c => signIn c t)]
    exact q

theorem h_ltag (G : Facts w K mg) : Has P w K mg base CX0 "_law_is_tag" s__law_is_tag ["thing"] 1 sp_isTag := by
  refine has_plain G.f__law_is_tag sc__law_is_tag (fun _ _ _ _ ⟨_, e, _⟩ => by rw [e]; rfl) (fun f cdv A outer s H E hr hG => p__law_is_tag G cdv A outer s H E hr hG) fun ds M R XR ⟨d, e, hd, q⟩ => ?_
  subst e
  cases d with
  | str s =>
    have hl := dat_str hd
    by_cases h1 : 1 ≤ (s.length : Int)
    · by_cases h2 : (s.length : Int) ≤ 8
      · simp [t__law_is_tag, h1, h2, le_size hl, and_assoc, dSeq, dRet, dRetN, dSet, dDrop, dIfS, dNext, dAsg, dPar, dPar3, gNm, gTp, gsCons, gsNil, dTup, dLst, dCB, dCons, dNil, dC, dVar, dOp, dUn, dTest, dAnd, dOr, dNot, dAndV, dOrV, dNotV, dIf, dChain, dCall, dCallK, pick, dYes, startD, slot, put, dwipe, q_isi_iff, q_ty_non, q_ty_bl, q_ty_int, q_ty_str, q_ty_tup, q_ty_lst, q_ty_dct, isiTy, isTy, q_len_tup, q_len_lst, q_len_str, q_eq_int, q_ne_int, q_eq_str, q_ne_str, q_eq_tup0, q_ne_tup0, q_eq_lst0, q_ne_lst0, q_ix_tup, q_ix_lst, q_at0, q_at1, q_at2, q_at3, q_op_lt, q_op_le, q_op_gt, q_op_ge, q_op_sb, q_op_ml, q_op_md, q_op_dv, q_op_pw, q_op_ad, q_ad_str, q_ad_tup, q_ad_lst, q_un_ng, q_z0, q_z1, q_z2, q_z3, q_z4, q_z5, q_z6, q_z7, q_z8, q_z9, q_z10, q_z11, q_z12, q_z13, q_z14, q_z15, q_z16]
        have q2 : R (.bl (s.cps.toList.all fun c => signIn c small)) M := by simpa [isTag, h1, h2] using q
        exact no_other (t := small) rfl hl rfl (fun _ => rfl) q2
      · simp [t__law_is_tag, h1, h2, le_size hl, and_assoc, dSeq, dRet, dRetN, dSet, dDrop, dIfS, dNext, dAsg, dPar, dPar3, gNm, gTp, gsCons, gsNil, dTup, dLst, dCB, dCons, dNil, dC, dVar, dOp, dUn, dTest, dAnd, dOr, dNot, dAndV, dOrV, dNotV, dIf, dChain, dCall, dCallK, pick, dYes, startD, slot, put, dwipe, q_isi_iff, q_ty_non, q_ty_bl, q_ty_int, q_ty_str, q_ty_tup, q_ty_lst, q_ty_dct, isiTy, isTy, q_len_tup, q_len_lst, q_len_str, q_eq_int, q_ne_int, q_eq_str, q_ne_str, q_eq_tup0, q_ne_tup0, q_eq_lst0, q_ne_lst0, q_ix_tup, q_ix_lst, q_at0, q_at1, q_at2, q_at3, q_op_lt, q_op_le, q_op_gt, q_op_ge, q_op_sb, q_op_ml, q_op_md, q_op_dv, q_op_pw, q_op_ad, q_ad_str, q_ad_tup, q_ad_lst, q_un_ng, q_z0, q_z1, q_z2, q_z3, q_z4, q_z5, q_z6, q_z7, q_z8, q_z9, q_z10, q_z11, q_z12, q_z13, q_z14, q_z15, q_z16]
        simpa [isTag, h1, h2] using q
    · simp [t__law_is_tag, h1, le_size hl, and_assoc, dSeq, dRet, dRetN, dSet, dDrop, dIfS, dNext, dAsg, dPar, dPar3, gNm, gTp, gsCons, gsNil, dTup, dLst, dCB, dCons, dNil, dC, dVar, dOp, dUn, dTest, dAnd, dOr, dNot, dAndV, dOrV, dNotV, dIf, dChain, dCall, dCallK, pick, dYes, startD, slot, put, dwipe, q_isi_iff, q_ty_non, q_ty_bl, q_ty_int, q_ty_str, q_ty_tup, q_ty_lst, q_ty_dct, isiTy, isTy, q_len_tup, q_len_lst, q_len_str, q_eq_int, q_ne_int, q_eq_str, q_ne_str, q_eq_tup0, q_ne_tup0, q_eq_lst0, q_ne_lst0, q_ix_tup, q_ix_lst, q_at0, q_at1, q_at2, q_at3, q_op_lt, q_op_le, q_op_gt, q_op_ge, q_op_sb, q_op_ml, q_op_md, q_op_dv, q_op_pw, q_op_ad, q_ad_str, q_ad_tup, q_ad_lst, q_un_ng, q_z0, q_z1, q_z2, q_z3, q_z4, q_z5, q_z6, q_z7, q_z8, q_z9, q_z10, q_z11, q_z12, q_z13, q_z14, q_z15, q_z16]
      simpa [isTag, h1] using q
  | _ => first | (cases hd; done) | (simp [t__law_is_tag, and_assoc, dSeq, dRet, dRetN, dSet, dDrop, dIfS, dNext, dAsg, dPar, dPar3, gNm, gTp, gsCons, gsNil, dTup, dLst, dCB, dCons, dNil, dC, dVar, dOp, dUn, dTest, dAnd, dOr, dNot, dAndV, dOrV, dNotV, dIf, dChain, dCall, dCallK, pick, dYes, startD, slot, put, dwipe, q_isi_iff, q_ty_non, q_ty_bl, q_ty_int, q_ty_str, q_ty_tup, q_ty_lst, q_ty_dct, isiTy, isTy, q_len_tup, q_len_lst, q_len_str, q_eq_int, q_ne_int, q_eq_str, q_ne_str, q_eq_tup0, q_ne_tup0, q_eq_lst0, q_ne_lst0, q_ix_tup, q_ix_lst, q_at0, q_at1, q_at2, q_at3, q_op_lt, q_op_le, q_op_gt, q_op_ge, q_op_sb, q_op_ml, q_op_md, q_op_dv, q_op_pw, q_op_ad, q_ad_str, q_ad_tup, q_ad_lst, q_un_ng, q_z0, q_z1, q_z2, q_z3, q_z4, q_z5, q_z6, q_z7, q_z8, q_z9, q_z10, q_z11, q_z12, q_z13, q_z14, q_z15, q_z16] <;> exact q)

/-! ### cells -/
def cel : D → Bool
  | .tup xs => xs.all fun x => isFrom x 0
  | _ => false
def sp_cells : SpD := fun ds M R _ => ∃ d, ds = [d] ∧ dat d = true ∧ R (.bl (cel d)) M
theorem h_cells (G : Facts w K mg) : Has P w K mg base CX0 "are_cells" s_are_cells ["thing"] 3 sp_cells := by
  refine has_plain G.f_are_cells sc_are_cells (fun _ _ _ _ ⟨_, e, _⟩ => by rw [e]; rfl) (fun f cdv A outer s H E hr hG => p_are_cells G (h_isFrom G) cdv A outer s H E hr hG) fun ds M R XR ⟨d, e, hd, q⟩ => ?_
  subst e
  cases d with
  | tup xs =>
    obtain ⟨hl, hx⟩ := dat_tup hd
    simp [t_are_cells, and_assoc, dSeq, dRet, dRetN, dSet, dDrop, dIfS, dNext, dAsg, dPar, dPar3, gNm, gTp, gsCons, gsNil, dTup, dLst, dCB, dCons, dNil, dC, dVar, dOp, dUn, dTest, dAnd, dOr, dNot, dAndV, dOrV, dNotV, dIf, dChain, dCall, dCallK, pick, dYes, startD, slot, put, dwipe, q_isi_iff, q_ty_non, q_ty_bl, q_ty_int, q_ty_str, q_ty_tup, q_ty_lst, q_ty_dct, isiTy, isTy, q_len_tup, q_len_lst, q_len_str, q_eq_int, q_ne_int, q_eq_str, q_ne_str, q_eq_tup0, q_ne_tup0, q_eq_lst0, q_ne_lst0, q_ix_tup, q_ix_lst, q_at0, q_at1, q_at2, q_at3, q_op_lt, q_op_le, q_op_gt, q_op_ge, q_op_sb, q_op_ml, q_op_md, q_op_dv, q_op_pw, q_op_ad, q_ad_str, q_ad_tup, q_ad_lst, q_un_ng, q_z0, q_z1, q_z2, q_z3, q_z4, q_z5, q_z6, q_z7, q_z8, q_z9, q_z10, q_z11, q_z12, q_z13, q_z14, q_z15, q_z16]
    refine go_all (items := xs) (G := fun _ => True) (fun x => isFrom x 0) (fun Q h => it_val (d := .tup xs) (fun R h => ⟨_, rfl, h⟩) ⟨rfl, rfl⟩ h) (le_size hl) trivial (fun d hd Rt h => ?_) q
    exact ⟨_, rfl, d, 0, rfl, hx d hd, h⟩
  | _ => first | (cases hd; done) | (simp [t_are_cells, and_assoc, dSeq, dRet, dRetN, dSet, dDrop, dIfS, dNext, dAsg, dPar, dPar3, gNm, gTp, gsCons, gsNil, dTup, dLst, dCB, dCons, dNil, dC, dVar, dOp, dUn, dTest, dAnd, dOr, dNot, dAndV, dOrV, dNotV, dIf, dChain, dCall, dCallK, pick, dYes, startD, slot, put, dwipe, q_isi_iff, q_ty_non, q_ty_bl, q_ty_int, q_ty_str, q_ty_tup, q_ty_lst, q_ty_dct, isiTy, isTy, q_len_tup, q_len_lst, q_len_str, q_eq_int, q_ne_int, q_eq_str, q_ne_str, q_eq_tup0, q_ne_tup0, q_eq_lst0, q_ne_lst0, q_ix_tup, q_ix_lst, q_at0, q_at1, q_at2, q_at3, q_op_lt, q_op_le, q_op_gt, q_op_ge, q_op_sb, q_op_ml, q_op_md, q_op_dv, q_op_pw, q_op_ad, q_ad_str, q_ad_tup, q_ad_lst, q_un_ng, q_z0, q_z1, q_z2, q_z3, q_z4, q_z5, q_z6, q_z7, q_z8, q_z9, q_z10, q_z11, q_z12, q_z13, q_z14, q_z15, q_z16] <;> exact q)
/-! ### the shapes of rows -/
inductive Kd where
  | d | s | t | k | f | a
deriving DecidableEq
/-- a kind's word, its letter -/
def cw : Kd → Str
  | .d => "set"
  | .s => "read"
  | .t => "tag"
  | .k => "row"
  | .f => "function"
  | .a => "args"
def lc : Kd → Nat
  | .d => 100
  | .s => 115
  | .t => 116
  | .k => 107
  | .f => 102
  | .a => 97
structure Rw where
  w : Str
  k : List Kd
  l : Str
deriving DecidableEq
def rows : List Rw := [⟨"top", [.d], "d"⟩, ⟨"move", [.d, .s], "ds"⟩, ⟨"left", [.d, .s], "ds"⟩, ⟨"right", [.d, .s], "ds"⟩, ⟨"up", [.d, .s], "ds"⟩, ⟨"yes", [.d], "d"⟩, ⟨"no", [.d], "d"⟩, ⟨"has", [.d, .s, .t], "dst"⟩, ⟨"empty", [.d, .s], "ds"⟩,
  ⟨"same", [.d, .s, .s], "dss"⟩, ⟨"not", [.d, .s], "ds"⟩, ⟨"skip", [.k], "k"⟩, ⟨"unless", [.s, .k], "sk"⟩, ⟨"call", [.d, .f, .a], "dfa"⟩, ⟨"give", [.s], "s"⟩]
theorem rows_l : ∀ r ∈ rows, r.l.cps.toList = r.k.map lc ∧ r.k ≠ [] ∧ r.k.length ≤ 3 := by decide +kernel
theorem shapes_eq : d_SHAPES = rows.map fun r => (r.w, .tup (r.k.map fun k => .str (cw k))) := rfl
def look : List Rw → Str → Option Rw
  | [], _ => none
  | r :: rs, s => if r.w = s then some r else look rs s
theorem look_mem : ∀ {rs : List Rw} {s : Str} {r : Rw}, look rs s = some r → r ∈ rs ∧ r.w = s
  | r :: rs, s, r', h => by
    unfold look at h
    split at h
    · rename_i e
      cases h
      exact ⟨by simp, e⟩
    · obtain ⟨a, b⟩ := look_mem h
      exact ⟨by simp [a], b⟩
theorem tab_look {F : Rw → D} {s : Str} : ∀ rs : List Rw, tabAt (rs.map fun r => (r.w, F r)) s = (look rs s).map F
  | [] => rfl
  | r :: rs => by
    show (if (r.w == s) = true then some (F r) else tabAt (rs.map fun r => (r.w, F r)) s) = (if r.w = s then some r else look rs s).map F
    by_cases h : r.w = s
    · rw [if_pos h, if_pos (by rw [h]; exact beq_self_eq_true s)]
      rfl
    · rw [if_neg h, if_neg (by simpa using h)]
      exact tab_look rs
theorem get_look {F : Rw → D} {s : Str} : ∀ rs : List Rw, dget (rs.map fun r => .inr r.w) (rs.map F) (.inr s) = (look rs s).map F
  | [] => rfl
  | r :: rs => by
    show (if (Sum.inr r.w : Key) = .inr s then some (F r) else dget (rs.map fun r => .inr r.w) (rs.map F) (.inr s)) = (if r.w = s then some r else look rs s).map F
    by_cases h : r.w = s
    · rw [if_pos h, if_pos (by rw [h])]
      rfl
    · rw [if_neg h, if_neg fun e => h (by injection e)]
      exact get_look rs
/-- an item of a kind -/
def okp : Kd → D → Bool
  | .t, x => isTag x
  | .a, x => cel x
  | _, x => isFrom x 0
def okz : List Kd → List D → Bool
  | k :: ks, x :: xs => okp k x && okz ks xs
  | _, _ => true
def isRow : D → Bool
  | .tup (.str s :: xs) => match look rows s with
    | some r => decide (xs.length = r.k.length) && okz r.k xs
    | none => false
  | _ => false
def sp_part : SpD := fun ds M R _ => ∃ k d, ds = [.str (cw k), d] ∧ dat d = true ∧ R (.bl (okp k d)) M
theorem h_part (G : Facts w K mg) : Has P w K mg base CX0 "is_part_of" s_is_part_of ["shape", "thing"] 4 sp_part := by
  refine has_plain G.f_is_part_of sc_is_part_of (fun _ _ _ _ ⟨_, _, e, _⟩ => by rw [e]; rfl) (fun f cdv A outer s H E hr hG => p_is_part_of G ((h_isFrom G).mono (by decide)) ((h_isTag G).mono (by decide)) (h_cells G) cdv A outer s H E hr hG) fun ds M R XR ⟨k, d, e, hd, q⟩ => ?_
  subst e
  have e1 : ∀ k : Kd, isStr (.str (cw k)) "tag" = decide (k = .t) := by intro k; cases k <;> decide
  have e2 : ∀ k : Kd, isStr (.str (cw k)) "args" = decide (k = .a) := by intro k; cases k <;> decide
  simp [t_is_part_of, sp_isTag, sp_cells, sp_isFrom, hd, e1, e2, and_assoc, dSeq, dRet, dRetN, dSet, dDrop, dIfS, dNext, dAsg, dPar, dPar3, gNm, gTp, gsCons, gsNil, dTup, dLst, dCB, dCons, dNil, dC, dVar, dOp, dUn, dTest, dAnd, dOr, dNot, dAndV, dOrV, dNotV, dIf, dChain, dCall, dCallK, pick, dYes, startD, slot, put, dwipe, q_isi_iff, q_ty_non, q_ty_bl, q_ty_int, q_ty_str, q_ty_tup, q_ty_lst, q_ty_dct, isiTy, isTy, q_len_tup, q_len_lst, q_len_str, q_eq_int, q_ne_int, q_eq_str, q_ne_str, q_eq_tup0, q_ne_tup0, q_eq_lst0, q_ne_lst0, q_ix_tup, q_ix_lst, q_at0, q_at1, q_at2, q_at3, q_op_lt, q_op_le, q_op_gt, q_op_ge, q_op_sb, q_op_ml, q_op_md, q_op_dv, q_op_pw, q_op_ad, q_ad_str, q_ad_tup, q_ad_lst, q_un_ng, q_z0, q_z1, q_z2, q_z3, q_z4, q_z5, q_z6, q_z7, q_z8, q_z9, q_z10, q_z11, q_z12, q_z13, q_z14, q_z15, q_z16]
  cases k <;> simp <;> exact q
def sp_isRow : SpD := fun ds M R _ => ∃ d, ds = [d] ∧ dat d = true ∧ R (.bl (isRow d)) M
theorem all_okz : ∀ (ks : List Kd) (xs : List D), ((zipD (ks.map fun k => .str (cw k)) xs).all fun d => match d with
    | .tup [.str w, x] => (match ([.d, .s, .t, .k, .f, .a] : List Kd).find? fun k => cw k == w with
      | some k => okp k x
      | none => false)
    | _ => false) = okz ks xs
  | [], xs => by simp [zipD, okz]
  | k :: ks, [] => by simp [zipD, okz]
  | k :: ks, x :: xs => by
    have ih := all_okz ks xs
    have e : (([.d, .s, .t, .k, .f, .a] : List Kd).find? fun k' => cw k' == cw k) = some k := by cases k <;> decide
    show ((match (([.d, .s, .t, .k, .f, .a] : List Kd).find? fun k' => cw k' == cw k) with
      | some k => okp k x
      | none => false) && (zipD (ks.map fun k => .str (cw k)) xs).all _) = (okp k x && okz ks xs)
    rw [e, ih]
theorem cut1 {α : Type} {x : α} {xs : List α} : DL.cutD (x :: xs) (some 1) none = xs := by
  unfold DL.cutD HT.sIx
  simp
theorem h_isRowV (G : Facts w K mg) : Has P w K mg base CX0 "is_row_value" s_is_row_value ["thing"] 5 sp_isRow := by
  refine has_plain G.f_is_row_value sc_is_row_value (fun _ _ _ _ ⟨_, e, _⟩ => by rw [e]; rfl) (fun f cdv A outer s H E hr hG => p_is_row_value G (h_part G) cdv A outer s H E hr hG) fun ds M R XR ⟨d, e, hd, q⟩ => ?_
  subst e
  cases d with
  | tup xs =>
    obtain ⟨hl, hx⟩ := dat_tup hd
    cases xs with
    | nil =>
      simp [t_is_row_value, and_assoc, dSeq, dRet, dRetN, dSet, dDrop, dIfS, dNext, dAsg, dPar, dPar3, gNm, gTp, gsCons, gsNil, dTup, dLst, dCB, dCons, dNil, dC, dVar, dOp, dUn, dTest, dAnd, dOr, dNot, dAndV, dOrV, dNotV, dIf, dChain, dCall, dCallK, pick, dYes, startD, slot, put, dwipe, q_isi_iff, q_ty_non, q_ty_bl, q_ty_int, q_ty_str, q_ty_tup, q_ty_lst, q_ty_dct, isiTy, isTy, q_len_tup, q_len_lst, q_len_str, q_eq_int, q_ne_int, q_eq_str, q_ne_str, q_eq_tup0, q_ne_tup0, q_eq_lst0, q_ne_lst0, q_ix_tup, q_ix_lst, q_at0, q_at1, q_at2, q_at3, q_op_lt, q_op_le, q_op_gt, q_op_ge, q_op_sb, q_op_ml, q_op_md, q_op_dv, q_op_pw, q_op_ad, q_ad_str, q_ad_tup, q_ad_lst, q_un_ng, q_z0, q_z1, q_z2, q_z3, q_z4, q_z5, q_z6, q_z7, q_z8, q_z9, q_z10, q_z11, q_z12, q_z13, q_z14, q_z15, q_z16]
      exact q
    | cons x xs =>
      have dx := hx x (by simp)
      have ix0 : ∀ {M : Mem} {R : RK}, R x M → dOp dIx (dVar 0) (dC (.int 0)) [some (.tup (x :: xs)), none, none, none] M R := fun {M R} h => ⟨_, rfl, _, rfl, _, L2.atI_nat (j := 0) rfl, h⟩
      simp only [t_is_row_value, dSeq]
      have isn : ∀ {c : String} {Rt : Bool → Mem → Prop} {u : String}, tyD M x = some u → isiTy c = true → Rt (isTy u c) M → dTest (dCB dIsi (dCons (dOp dIx (dVar 0) (dC (.int 0))) (dCons (dC (.ty c)) dNil))) [some (.tup (x :: xs)), none, none, none] M Rt := fun h1 h2 h3 => ix0 (go_isiC h1 h2 ⟨_, rfl, h3⟩)
      have sk : ∀ {s1 s2 : DS} {D0 : EndsD} {A B C : DT} {a : Bool}, (∀ Rt : Bool → Mem → Prop, Rt true M → A [some (.tup (x :: xs)), none, none, none] M Rt) → (∀ Rt : Bool → Mem → Prop, Rt false M → B [some (.tup (x :: xs)), none, none, none] M Rt) →
          (∀ Rt : Bool → Mem → Prop, Rt a M → C [some (.tup (x :: xs)), none, none, none] M Rt) → (a = true → s1 D0 [some (.tup (x :: xs)), none, none, none] M) → (a = false → s2 D0 [some (.tup (x :: xs)), none, none, none] M) → dIfS (dOr (dNot A) (dOr B C)) s1 s2 D0 [some (.tup (x :: xs)), none, none, none] M := fun {s1 s2 D0 A B C a} hA hB hC h1 h2 => by
        refine hA _ ?_
        simp only [Bool.not_true, Bool.false_eq_true, if_false]
        refine hB _ ?_
        simp only [Bool.false_eq_true, if_false]
        refine hC _ ?_
        cases a
        · exact h2 rfl
        · exact h1 rfl
      have hA : ∀ Rt : Bool → Mem → Prop, Rt true M → dTest (dCB dIsi (dCons (dVar 0) (dCons (dC (.ty "tuple")) dNil))) [some (.tup (x :: xs)), none, none, none] M Rt := fun Rt h => ⟨_, rfl, go_isiC rfl rfl ⟨_, rfl, h⟩⟩
      have hB : ∀ Rt : Bool → Mem → Prop, Rt false M → dTest (dOp dEq (dVar 0) (dTup dNil)) [some (.tup (x :: xs)), none, none, none] M Rt := fun Rt h => ⟨_, rfl, q_z0, q_eq_tup0.mpr ⟨_, rfl, h⟩⟩
      cases x with
      | str s =>
        have hk : tabAt d_SHAPES s = (look rows s).map fun r => .tup (r.k.map fun k => .str (cw k)) := by rw [shapes_eq]; exact tab_look rows
        refine sk (a := !(look rows s).isSome) hA hB (fun Rt h => ?_) (fun h => ?_) (fun h => ?_)
        · refine isn rfl rfl ?_
          simp only [isTy, beq_self_eq_true, Bool.true_or, Bool.not_true, Bool.false_eq_true, if_false]
          refine ix0 ⟨s, rfl, _, rfl, ?_⟩
          rw [hk, Option.isSome_map]
          exact h
        · have e : isRow (.tup (.str s :: xs)) = false := by
            cases z : look rows s with
            | none => simp only [isRow, z]
            | some r => rw [z] at h; cases h
          rw [e] at q
          exact q
        · cases z : look rows s with
          | none => rw [z] at h; cases h
          | some r =>
            obtain ⟨hm, _⟩ := look_mem z
            obtain ⟨hr1, hr2, hr3⟩ := rows_l r hm
            have e : isRow (.tup (.str s :: xs)) = (decide (xs.length = r.k.length) && okz r.k xs) := by simp only [isRow, z]
            rw [e] at q
            simp only [dNext, dSet]
            refine ix0 ⟨s, _, rfl, by rw [hk, z]; rfl, ?_⟩
            simp only [put, dRet, dAndV, dOp, dCB, dCons, dNil, dVar, dC, slot, Option.some.injEq, exists_eq_left', q_len_tup, q_op_ad, q_eq_int, DL.D.bl.injEq]
            have e2 : decide (((DL.D.str s :: xs).length : Int) = ((r.k.map fun k => DL.D.str (cw k)).length : Int) + 1) = decide (xs.length = r.k.length) := by
              rw [List.length_map, List.length_cons]
              exact decide_eq_decide.mpr ⟨fun h => by omega, fun h => by omega⟩
            rw [e2]
            cases z2 : decide (xs.length = r.k.length)
            · rw [z2] at q
              simpa using q
            · rw [z2, Bool.true_and] at q
              simp only [if_true]
              refine go_all (items := zipD (r.k.map fun k => .str (cw k)) xs) (G := fun _ => True ∧ True) _ (fun Q h => ?_) ?_ ⟨trivial, trivial⟩ (fun d hd Rt h => ?_) (by rw [all_okz]; exact q)
              · simp only [dZip, dCons, dNil, dVar, dSl, dNoPart, dPart, dC, slot, Option.some.injEq, exists_eq_left', DL.D.int.injEq, rSlD, cut1]
                exact ⟨_, _, _, _, _, _, rfl, ⟨rfl, rfl⟩, ⟨rfl, rfl⟩, h⟩
              · unfold zipD
                rw [List.length_zipWith, List.length_map, sizeLine_eq]
                omega
              · obtain ⟨i, hi⟩ := List.getElem?_of_mem hd
                obtain ⟨a, b, ha, hb, rfl⟩ := zip_at hi
                have hbm := List.mem_of_getElem? hb
                obtain ⟨k, hk1, rfl⟩ := List.mem_map.mp (List.mem_of_getElem? ha)
                have e : (([.d, .s, .t, .k, .f, .a] : List Kd).find? fun k' => cw k' == cw k) = some k := by cases k <;> decide
                simp only [e] at h
                refine ⟨_, rfl, rfl, _, _, rfl, _, _, rfl, rfl, ?_⟩
                exact ⟨_, rfl, _, rfl, k, b, rfl, hx b (by simp [hbm]), h⟩
      | _ =>
        first
          | (cases dx; done)
          | (refine sk (a := true) hA hB (fun Rt h => isn rfl rfl ?_) (fun _ => q) (fun h => nomatch h)
             simp [isTy]
             exact h)
  | _ => first | (cases hd; done) | (simp [t_is_row_value, and_assoc, dSeq, dRet, dRetN, dSet, dDrop, dIfS, dNext, dAsg, dPar, dPar3, gNm, gTp, gsCons, gsNil, dTup, dLst, dCB, dCons, dNil, dC, dVar, dOp, dUn, dTest, dAnd, dOr, dNot, dAndV, dOrV, dNotV, dIf, dChain, dCall, dCallK, pick, dYes, startD, slot, put, dwipe, q_isi_iff, q_ty_non, q_ty_bl, q_ty_int, q_ty_str, q_ty_tup, q_ty_lst, q_ty_dct, isiTy, isTy, q_len_tup, q_len_lst, q_len_str, q_eq_int, q_ne_int, q_eq_str, q_ne_str, q_eq_tup0, q_ne_tup0, q_eq_lst0, q_ne_lst0, q_ix_tup, q_ix_lst, q_at0, q_at1, q_at2, q_at3, q_op_lt, q_op_le, q_op_gt, q_op_ge, q_op_sb, q_op_ml, q_op_md, q_op_dv, q_op_pw, q_op_ad, q_ad_str, q_ad_tup, q_ad_lst, q_un_ng, q_z0, q_z1, q_z2, q_z3, q_z4, q_z5, q_z6, q_z7, q_z8, q_z9, q_z10, q_z11, q_z12, q_z13, q_z14, q_z15, q_z16] <;> exact q)
end
end Yk31

set_option Elab.async false
set_option linter.all false
set_option maxHeartbeats 4000000
set_option maxRecDepth 100000
namespace Yk31
open PySem PySem.Spec PyProof.Rows L2 DL
section
variable {P : Program} {w : World} {K : PySem.W.Frag} {mg : Str → Option Value} {base : Heap}
def rkeys : List Key := rows.map fun r => .inr r.w
def rvals : List D := rows.map fun r => .str r.l
def sp_shapes : SpD := fun ds M R _ => ds = [] ∧ R (.dct rkeys rvals) M
theorem h_shapes (G : Facts w K mg) : Has P w K mg base CX0 "_law_shapes" s__law_shapes [] 1 sp_shapes := by
  refine has_plain G.f__law_shapes sc__law_shapes (fun _ _ _ _ ⟨e, _⟩ => by rw [e]; rfl) (fun f cdv A outer s H E hr hG => p__law_shapes G cdv A outer s H E hr hG) fun ds M R XR ⟨e, q⟩ => ?_
  subst e
  exact ⟨rkeys, rfl, by decide +kernel, by decide, q⟩
theorem sgn (k : Kd) : isStr (.str ⟨#[lc k]⟩) "t" = decide (k = .t) ∧ isStr (.str ⟨#[lc k]⟩) "a" = decide (k = .a) ∧ isStr (.str ⟨#[lc k]⟩) "s" = decide (k = .s) ∧ isStr (.str ⟨#[lc k]⟩) "d" = decide (k = .d) ∧ signIn (lc k) "dskf" = (decide (k ≠ .t) && decide (k ≠ .a)) := by
  cases k <;> decide +kernel
theorem chars_l {r : Rw} (h : r ∈ rows) : charsD r.l = r.k.map fun k => .str ⟨#[lc k]⟩ := by
  unfold charsD
  rw [(rows_l r h).1, List.map_map]
  rfl
theorem none_any {ρ : DEnv} {M : Mem} {xs : List D} {sp : SpD} {s4 : Option D} {a b c d : Option D} (hsp : sp = sp_num) (hx : ∀ d ∈ xs, dat d = true) (hl : xs.length ≤ 1000) :
    EvT (dTest (dOp dNe (dLc [4] (dVal (dVar 3)) (gNm 4) (dNot (dTest (dCall sp (dCons (dVar 4) dNil)))) (dVar 4)) (dLst dNil))) [a, b, c, some (.tup xs), s4] M (· = !(xs.all fun x => isFrom x 0)) := fun R r => by
  subst hsp
  simp only [dTest, dOp]
  refine go_lc (items := xs) (G := fun _ => True) (fun x => !isFrom x 0) id (fun Q h => it_val (d := .tup xs) (fun R h => ⟨_, rfl, h⟩) ⟨rfl, rfl⟩ h) (le_size hl) trivial (fun d hd Rt Rf h h' => ?_) ?_
  · refine ⟨_, rfl, d, rfl, hx d hd, _, rfl, ?_⟩
    cases z : isFrom d 0
    · exact ⟨_, rfl, h (by rw [z]; rfl)⟩
    · exact h' (by rw [z]; rfl)
  · refine ⟨q_z0, q_ne_lst0.mpr ⟨_, rfl, ?_⟩⟩
    rw [List.map_id, empty_filter (p := fun x => isFrom x 0)]
    exact r _ rfl
def rb1 (sp__law_is_number : SpD) (sp__law_is_tag : SpD) (sp__law_shapes : SpD): DS := (dSeq (dIfS (dOr (dAnd (dTest (dOp dEq (dVar 2) (dC (.str "t")))) (dNot (dTest (dCall sp__law_is_tag (dCons (dVar 3) dNil))))) (dAnd (dTest (dOp dIn (dVar 2) (dC (.str "dskf")))) (dNot (dTest (dCall sp__law_is_number (dCons (dVar 3) dNil)))))) (dRet (dC (.bl false))) dNext) (dIfS (dAnd (dTest (dOp dEq (dVar 2) (dC (.str "a")))) (dOr (dNot (dTest (dCB dIsi (dCons (dVar 3) (dCons (dC (.ty "tuple")) dNil))))) (dTest (dOp dNe (dLc [4] (dVal (dVar 3)) (gNm 4) (dNot (dTest (dCall sp__law_is_number (dCons (dVar 4) dNil)))) (dVar 4)) (dLst dNil))))) (dRet (dC (.bl false))) dNext))
theorem rb1_go {M : Mem} {D0 : EndsD} {k : Kd} {x : D} {a b s4 : Option D} (hd : dat x = true) (h1 : okp k x = true → D0.nx [a, b, some (.str ⟨#[lc k]⟩), some x, s4] M) (h0 : okp k x = false → D0.rt (.bl false) M) :
    rb1 sp_num sp_isTag sp_shapes D0 [a, b, some (.str ⟨#[lc k]⟩), some x, s4] M := by
  obtain ⟨e1, e2, _, _, e5⟩ := sgn k
  have num : EvT (dTest (dCall sp_num (dCons (dVar 3) dNil))) [a, b, some (.str ⟨#[lc k]⟩), some x, s4] M (· = isFrom x 0) := et_val fun R h => ⟨_, rfl, x, rfl, hd, h⟩
  have tag : EvT (dTest (dCall sp_isTag (dCons (dVar 3) dNil))) [a, b, some (.str ⟨#[lc k]⟩), some x, s4] M (· = isTag x) := et_val fun R h => ⟨_, rfl, x, rfl, hd, h⟩
  have ty : tyD M (.str ⟨#[lc k]⟩) ≠ none := nofun
  have c1 := et_orB (et_andB (et_eqs (M := M) (w := "t") (i := 2) (ρ := [a, b, some (.str ⟨#[lc k]⟩), some x, s4]) rfl ty) fun _ => et_notB tag) fun _ => et_andB (et_insign (M := M) (w := "dskf") (i := 2) (ρ := [a, b, some (.str ⟨#[lc k]⟩), some x, s4]) rfl) fun _ => et_notB num
  rw [e1, e5] at c1
  show dSeq (dIfS _ _ _) _ D0 _ M
  refine es_ifB c1 (fun h => ?_) fun h => ?_
  · refine h0 ?_
    cases k <;> simpa [okp] using h
  · have c2 : EvT (dAnd (dTest (dOp dEq (dVar 2) (dC (.str "a")))) (dOr (dNot (dTest (dCB dIsi (dCons (dVar 3) (dCons (dC (.ty "tuple")) dNil))))) (dTest (dOp dNe (dLc [4] (dVal (dVar 3)) (gNm 4) (dNot (dTest (dCall sp_num (dCons (dVar 4) dNil)))) (dVar 4)) (dLst dNil))))) [a, b, some (.str ⟨#[lc k]⟩), some x, s4] M (· = (decide (k = .a) && !cel x)) := by
      refine et_andB (et_is (et_eqs rfl ty) e2) fun _ => ?_
      have isi : ∀ {u : String}, tyD M x = some u → EvT (dTest (dCB dIsi (dCons (dVar 3) (dCons (dC (.ty "tuple")) dNil)))) [a, b, some (.str ⟨#[lc k]⟩), some x, s4] M (· = isTy u "tuple") := fun h => et_isi (c := "tuple") (ev_var rfl h)
      cases x with
      | tup xs =>
        obtain ⟨hl, hx⟩ := dat_tup hd
        exact et_is (et_orB (et_notB (isi rfl)) fun _ => none_any (ρ := []) (d := none) rfl hx hl) (by simp [isTy, cel])
      | _ =>
        first
          | (cases hd; done)
          | (refine et_is (et_orB (y := true) (et_notB (isi rfl)) fun h => ?_) (by simp [isTy, cel])
             simp [isTy] at h)
    refine es_ifB c2 (fun h' => ?_) fun h' => ?_
    · refine h0 ?_
      cases k <;> simp [okp] at h h' ⊢
      exact h'
    · refine h1 ?_
      cases k <;> simp [okp] at h h' ⊢ <;> first | exact h | exact h'
theorem okz_at {ks : List Kd} {xs : List D} {i : Nat} {k : Kd} {x : D} (h1 : ks[i]? = some k) (h2 : xs[i]? = some x) : okz (ks.drop i) (xs.drop i) = (okp k x && okz (ks.drop (i + 1)) (xs.drop (i + 1))) := by
  obtain ⟨l1, e1⟩ := List.getElem?_eq_some_iff.mp h1
  obtain ⟨l2, e2⟩ := List.getElem?_eq_some_iff.mp h2
  rw [List.drop_eq_getElem_cons l1, List.drop_eq_getElem_cons l2, e1, e2]
  rfl
theorem h_lrow (G : Facts w K mg) : Has P w K mg base CX0 "_law_is_row" s__law_is_row ["thing"] 3 sp_isRow := by
  refine has_plain G.f__law_is_row sc__law_is_row (fun _ _ _ _ ⟨_, e, _⟩ => by rw [e]; rfl) (fun f cdv A outer s H E hr hG => p__law_is_row G (h_lnum G) ((h_ltag G).mono (by decide)) ((h_shapes G).mono (by decide)) cdv A outer s H E hr hG) fun ds M R XR ⟨d, e, hd, q⟩ => ?_
  subst e
  cases d with
  | tup xs =>
    obtain ⟨hl, hx⟩ := dat_tup hd
    cases xs with
    | nil =>
      simp [t__law_is_row, and_assoc, dSeq, dRet, dRetN, dSet, dDrop, dIfS, dNext, dAsg, dPar, dPar3, gNm, gTp, gsCons, gsNil, dTup, dLst, dCB, dCons, dNil, dC, dVar, dOp, dUn, dTest, dAnd, dOr, dNot, dAndV, dOrV, dNotV, dIf, dChain, dCall, dCallK, pick, dYes, startD, slot, put, dwipe, q_isi_iff, q_ty_non, q_ty_bl, q_ty_int, q_ty_str, q_ty_tup, q_ty_lst, q_ty_dct, isiTy, isTy, q_len_tup, q_len_lst, q_len_str, q_eq_int, q_ne_int, q_eq_str, q_ne_str, q_eq_tup0, q_ne_tup0, q_eq_lst0, q_ne_lst0, q_ix_tup, q_ix_lst, q_at0, q_at1, q_at2, q_at3, q_op_lt, q_op_le, q_op_gt, q_op_ge, q_op_sb, q_op_ml, q_op_md, q_op_dv, q_op_pw, q_op_ad, q_ad_str, q_ad_tup, q_ad_lst, q_un_ng, q_z0, q_z1, q_z2, q_z3, q_z4, q_z5, q_z6, q_z7, q_z8, q_z9, q_z10, q_z11, q_z12, q_z13, q_z14, q_z15, q_z16]
      exact q
    | cons x xs =>
      have dx := hx x (by simp)
      have ix0 : ∀ {P : D → Prop}, P x → Ev (dOp dIx (dVar 0) (dC (.int 0))) [some (.tup (x :: xs)), none, none, none, none] M P := fun h R r => ⟨_, rfl, _, rfl, _, L2.atI_nat (j := 0) rfl, r _ h⟩
      have hA : EvT (dTest (dCB dIsi (dCons (dVar 0) (dCons (dC (.ty "tuple")) dNil)))) [some (.tup (x :: xs)), none, none, none, none] M (· = true) := et_isi (c := "tuple") (u := "tuple") (ev_var rfl rfl)
      have hB : EvT (dTest (dOp dEq (dVar 0) (dTup dNil))) [some (.tup (x :: xs)), none, none, none, none] M (· = false) := et_val fun R h => ⟨_, rfl, q_z0, q_eq_tup0.mpr h⟩
      have hC : ∀ {u : String}, tyD M x = some u → EvT (dTest (dCB dIsi (dCons (dOp dIx (dVar 0) (dC (.int 0))) (dCons (dC (.ty "str")) dNil)))) [some (.tup (x :: xs)), none, none, none, none] M (· = isTy u "str") := fun h => et_isi (c := "str") (ix0 h)
      cases x with
      | str s =>
        simp only [t__law_is_row, dSeq]
        refine es_ifB (et_orB (et_notB hA) fun _ => et_orB hB fun _ => et_notB (hC rfl)) (fun h => nomatch h) fun _ => ?_
        simp only [dNext, dSet, dGet1, dCall, dNil]
        refine ⟨rfl, ⟨rkeys, rvals, .inl rfl⟩, ix0 (P := (· = .str s)) rfl _ fun d e => ?_⟩
        subst e
        refine ⟨_, rkeys, rvals, rfl, .inl rfl, ?_⟩
        rw [show dget rkeys rvals (.inr s) = (look rows s).map fun r => .str r.l from get_look rows]
        cases z : look rows s with
        | none =>
          have e : isRow (.tup (.str s :: xs)) = false := by simp only [isRow, z]
          rw [e] at q
          refine es_ifB (b := true) (et_is (et_orB (x := true) (y := true) (et_val fun R h => ⟨_, rfl, rfl, h⟩) fun h => nomatch h) rfl) (fun _ => q) fun h => nomatch h
        | some r =>
          obtain ⟨hm, _⟩ := look_mem z
          obtain ⟨hr1, hr2, hr3⟩ := rows_l r hm
          have e : isRow (.tup (.str s :: xs)) = (decide (xs.length = r.k.length) && okz r.k xs) := by simp only [isRow, z]
          rw [e] at q
          have hrl : r.l.length = r.k.length := by
            have := congrArg List.length hr1
            rw [List.length_map] at this
            exact this
          have c3 : EvT (dTest (dOp dNe (dCB dLen (dCons (dVar 0) dNil)) (dOp dAdd (dC (.int 1)) (dCB dLen (dCons (dVar 1) dNil))))) [some (.tup (.str s :: xs)), some (.str r.l), none, none, none] M (· = !decide (xs.length = r.k.length)) := et_val fun R h => by
            simp only [dOp, dCB, dCons, dNil, dVar, dC, slot, Option.some.injEq, exists_eq_left', q_len_tup, q_len_str, q_op_ad, q_ne_int]
            refine ⟨by rw [hrl, sizeLine_eq]; omega, ?_⟩
            have e2 : decide (((DL.D.str s :: xs).length : Int) = 1 + (r.l.length : Int)) = decide (xs.length = r.k.length) := by
              rw [List.length_cons, hrl]
              exact decide_eq_decide.mpr ⟨fun h => by omega, fun h => by omega⟩
            rw [e2]
            exact h
          refine es_ifB (et_orB (x := false) (et_val fun R h => ⟨_, rfl, rfl, h⟩) fun _ => c3) (fun h => ?_) fun h => ?_
          · have h' : (!decide (xs.length = r.k.length)) = true := by simpa using h
            rw [Bool.not_eq_true'] at h'
            rw [h'] at q
            exact q
          · have h' : (!decide (xs.length = r.k.length)) = false := by simpa using h
            rw [Bool.not_eq_false'] at h'
            have hlen := of_decide_eq_true h'
            rw [h', Bool.true_and] at q
            simp only [dNext]
            refine go_for (items := zipD (r.k.map fun k => .str ⟨#[lc k]⟩) xs) (G := fun _ => True ∧ True) (fun i ρ2 M2 => M2 = M ∧ (∃ s2 s3, ρ2 = [some (.tup (.str s :: xs)), some (.str r.l), s2, s3, none]) ∧ okz r.k xs = okz (r.k.drop i) (xs.drop i)) (fun Q h => ?_) ⟨rfl, ⟨none, none, rfl⟩, rfl⟩ (fun i d ρ2 M2 hi ⟨e1, ⟨s2, s3, e2⟩, ih⟩ => ?_) (fun ρ2 M2 ⟨e1, ⟨s2, s3, e2⟩, ih⟩ => ?_)
            · exact ⟨_, rfl, _, rfl, 1, rfl, .str r.l, .tup xs, _, _, _, _, congrArg (fun z => [D.str r.l, D.tup z]) cut1, ⟨(chars_l hm).symm, rfl⟩, ⟨rfl, rfl⟩, h⟩
            · subst e1 e2
              refine ⟨⟨trivial, trivial⟩, ?_⟩
              obtain ⟨a, b, ha, hb, rfl⟩ := zip_at hi
              have hbm := List.mem_of_getElem? hb
              rw [List.getElem?_map] at ha
              cases hk : r.k[i]? with
              | none => rw [hk] at ha; cases ha
              | some k =>
                rw [hk] at ha
                cases ha
                rw [okz_at hk hb] at ih
                refine ⟨_, rfl, rfl, _, _, rfl, _, _, rfl, rfl, ?_⟩
                refine rb1_go (hx b (by simp [hbm])) (fun z => ?_) fun z => ?_
                · rw [z, Bool.true_and] at ih
                  exact ⟨rfl, ⟨_, _, rfl⟩, ih⟩
                · rw [z, Bool.false_and] at ih
                  rw [ih] at q
                  exact q
            · subst e1 e2
              refine ⟨⟨trivial, trivial⟩, ?_⟩
              have e3 : (zipD (r.k.map fun k => .str ⟨#[lc k]⟩) xs).length = r.k.length := by
                unfold zipD
                rw [List.length_zipWith, List.length_map, hlen, Nat.min_self]
              rw [e3, List.drop_length] at ih
              rw [ih] at q
              exact q
      | _ =>
        first
          | (cases dx; done)
          | (simp only [t__law_is_row, dSeq]
             exact es_ifB (et_orB (y := true) (et_notB hA) fun _ => et_orB hB fun _ => et_is (et_notB (hC rfl)) (by simp [isTy])) (fun _ => q) fun h => nomatch h)
  | _ => first | (cases hd; done) | (simp [t__law_is_row, and_assoc, dSeq, dRet, dRetN, dSet, dDrop, dIfS, dNext, dAsg, dPar, dPar3, gNm, gTp, gsCons, gsNil, dTup, dLst, dCB, dCons, dNil, dC, dVar, dOp, dUn, dTest, dAnd, dOr, dNot, dAndV, dOrV, dNotV, dIf, dChain, dCall, dCallK, pick, dYes, startD, slot, put, dwipe, q_isi_iff, q_ty_non, q_ty_bl, q_ty_int, q_ty_str, q_ty_tup, q_ty_lst, q_ty_dct, isiTy, isTy, q_len_tup, q_len_lst, q_len_str, q_eq_int, q_ne_int, q_eq_str, q_ne_str, q_eq_tup0, q_ne_tup0, q_eq_lst0, q_ne_lst0, q_ix_tup, q_ix_lst, q_at0, q_at1, q_at2, q_at3, q_op_lt, q_op_le, q_op_gt, q_op_ge, q_op_sb, q_op_ml, q_op_md, q_op_dv, q_op_pw, q_op_ad, q_ad_str, q_ad_tup, q_ad_lst, q_un_ng, q_z0, q_z1, q_z2, q_z3, q_z4, q_z5, q_z6, q_z7, q_z8, q_z9, q_z10, q_z11, q_z12, q_z13, q_z14, q_z15, q_z16] <;> exact q)
end
end Yk31

set_option Elab.async false
set_option linter.all false
set_option maxHeartbeats 4000000
set_option maxRecDepth 100000
namespace Yk31
open PySem PySem.Spec PyProof.Rows L2 DL
section
variable {P : Program} {w : World} {K : PySem.W.Frag} {mg : Str → Option Value} {base : Heap}
def its : D → List D
  | .tup ys => ys
  | _ => []
def reads : List Kd → List D → List D
  | .s :: ks, x :: xs => x :: reads ks xs
  | .a :: ks, x :: xs => its x ++ reads ks xs
  | _ :: ks, _ :: xs => reads ks xs
  | _, _ => []
def readsOf : D → List D
  | .tup (.str s :: xs) => match look rows s with
    | some r => reads r.k xs
    | none => []
  | _ => []
def setOf : D → D
  | .tup (.str s :: x :: xs) => match look rows s with
    | some r => if r.k.head? = some .d then x else .non
    | none => .non
  | _ => .non
theorem row_of {d : D} (h : isRow d = true) : ∃ s r xs, d = .tup (.str s :: xs) ∧ look rows s = some r ∧ xs.length = r.k.length ∧ okz r.k xs = true ∧ readsOf d = reads r.k xs := by
  unfold isRow at h
  split at h
  · rename_i s xs
    cases z : look rows s with
    | none => rw [z] at h; cases h
    | some r =>
      rw [z] at h
      have h' : (decide (xs.length = r.k.length) && okz r.k xs) = true := h
      rw [Bool.and_eq_true, decide_eq_true_eq] at h'
      exact ⟨s, r, xs, rfl, z, h'.1, h'.2, by simp only [readsOf, z]⟩
  · cases h
def read1 : Kd → D → List D
  | .s, x => [x]
  | .a, x => its x
  | _, _ => []
theorem reads_at {ks : List Kd} {xs : List D} {i : Nat} {k : Kd} {x : D} (h1 : ks[i]? = some k) (h2 : xs[i]? = some x) : reads (ks.drop i) (xs.drop i) = read1 k x ++ reads (ks.drop (i + 1)) (xs.drop (i + 1)) := by
  obtain ⟨l1, e1⟩ := List.getElem?_eq_some_iff.mp h1
  obtain ⟨l2, e2⟩ := List.getElem?_eq_some_iff.mp h2
  rw [List.drop_eq_getElem_cons l1, List.drop_eq_getElem_cons l2, e1, e2]
  cases k <;> rfl
theorem reads_len : ∀ {ks : List Kd} {xs : List D}, (∀ x ∈ xs, dat x = true) → (reads ks xs).length ≤ 1000 * ks.length
  | [], _, _ => by simp [reads]
  | _ :: _, [], _ => by simp [reads]
  | k :: ks, x :: xs, h => by
    have ih := reads_len (ks := ks) (xs := xs) fun y hy => h y (by simp [hy])
    have hx := h x (by simp)
    have hl : (its x).length ≤ 1000 := by
      cases x with
      | tup ys => exact (dat_tup hx).1
      | _ => simp [its]
    cases k <;> simp [reads] <;> omega
theorem mdel_mset {M : Mem} {p : Addr} {o : MO} (h : M p = none) : mdel (mset M p o) p = M := by
  funext c
  unfold mdel mset
  by_cases e : c = p
  · subst e; simp [h]
  · simp [e]
/-- the walk over the items of a row: what both do -/
theorem loop_go {M : Mem} {D0 : EndsD} {p : Addr} {row : D} {r : Rw} {xs : List D} {ti : DI} {tb : DS} {e : Kd → D} (hp : M p = none) (hlen : xs.length = r.k.length) (hx : ∀ x ∈ xs, dat x = true) (hk3 : r.k.length ≤ 3) (hz : okz r.k xs = true)
    (hti : ∀ Q : List D → (Mem → Prop) → Mem → Prop, Q (zipD (r.k.map e) xs) (fun _ => True ∧ True) (mset M p (.lst [])) → ti [some row, some (.ref p), none, none] (mset M p (.lst [])) Q)
    (hb : ∀ (acc : List D) (k : Kd) (x : D) (D0 : EndsD), acc.length + (read1 k x).length ≤ 3000 → okp k x = true → D0.nx [some row, some (.ref p), some (e k), some x] (mset M p (.lst (acc ++ read1 k x))) → tb D0 [some row, some (.ref p), some (e k), some x] (mset M p (.lst acc)))
    (hd : ∀ s2 s3, D0.nx [some row, some (.ref p), s2, s3] (mset M p (.lst (reads r.k xs)))) : dFor ti (gTp 2 (gsCons (gNm 2) (gsCons (gNm 3) gsNil))) tb D0 [some row, some (.ref p), none, none] (mset M p (.lst [])) := by
  have tot := reads_len (ks := r.k) hx
  refine go_for (items := zipD (r.k.map e) xs) (G := fun _ => True ∧ True) (fun i ρ2 M2 => ∃ acc s2 s3, M2 = mset M p (.lst acc) ∧ ρ2 = [some row, some (.ref p), s2, s3] ∧ acc ++ reads (r.k.drop i) (xs.drop i) = reads r.k xs ∧ okz (r.k.drop i) (xs.drop i) = true) hti ⟨[], none, none, rfl, rfl, rfl, hz⟩ (fun i d ρ2 M2 hi ⟨acc, s2, s3, e1, e2, e3, e4⟩ => ?_) (fun ρ2 M2 ⟨acc, s2, s3, e1, e2, e3, e4⟩ => ?_)
  · subst e1 e2
    refine ⟨⟨trivial, trivial⟩, ?_⟩
    obtain ⟨a, b, ha, hbb, rfl⟩ := zip_at hi
    rw [List.getElem?_map] at ha
    cases hk : r.k[i]? with
    | none => rw [hk] at ha; cases ha
    | some k =>
      rw [hk] at ha
      cases ha
      rw [reads_at hk hbb] at e3
      rw [okz_at hk hbb, Bool.and_eq_true] at e4
      refine ⟨_, rfl, rfl, _, _, rfl, _, _, rfl, rfl, hb acc k b _ ?_ e4.1 ⟨acc ++ read1 k b, _, _, rfl, rfl, by rw [List.append_assoc]; exact e3, e4.2⟩⟩
      have := congrArg List.length e3
      rw [List.length_append, List.length_append] at this
      omega
  · subst e1 e2
    refine ⟨⟨trivial, trivial⟩, ?_⟩
    have e5 : (zipD (r.k.map e) xs).length = r.k.length := by
      unfold zipD
      rw [List.length_zipWith, List.length_map, hlen, Nat.min_self]
    rw [e5, List.drop_length] at e3
    have e6 : acc = reads r.k xs := by rw [← e3]; simp [reads]
    subst e6
    exact hd s2 s3
def sp_reads : SpD := fun ds M R _ => ∃ d, ds = [d] ∧ dat d = true ∧ isRow d = true ∧ R (.tup (readsOf d)) M
def crB : DS := (dIfS (dTest (dOp dEq (dVar 2) (dC (.str "read")))) (dDrop (dMeth "list" dAppend (dVar 1) (dCons (dVar 3) dNil))) (dIfS (dTest (dOp dEq (dVar 2) (dC (.str "args")))) (dDrop (dMeth "list" dExtendT (dVar 1) (dCons (dVar 3) dNil))) dNext))
theorem h_reads (G : Facts w K mg) : Has P w K mg base CX0 "cells_read" s_cells_read ["row"] 1 sp_reads := by
  refine has_view G.f_cells_read sc_cells_read (fun _ _ _ _ ⟨_, e, _⟩ => by rw [e]; rfl) (fun f cdv A outer s H E hr hG => p_cells_read G cdv A outer s H E hr hG) fun ds M R XR ⟨d, e, hd, hr, q⟩ => ?_
  subst e
  obtain ⟨s, r, xs, rfl, hl, hlen, hz, hq⟩ := row_of hr
  rw [hq] at q
  obtain ⟨hm, _⟩ := look_mem hl
  obtain ⟨hr1, hr2, hr3⟩ := rows_l r hm
  obtain ⟨hlx, hx⟩ := dat_tup hd
  have hx' : ∀ x ∈ xs, dat x = true := fun x h => hx x (by simp [h])
  have tot := reads_len (ks := r.k) hx'
  have hk : tabAt d_SHAPES s = some (.tup (r.k.map fun k => .str (cw k))) := by rw [shapes_eq, tab_look (F := fun r => .tup (r.k.map fun k => .str (cw k))) rows, hl]; rfl
  show (dSeq (dSet 1 (dLstM dNil)) (dSeq (dFor _ _ crB) _)) (endsOf K R) [some (.tup (.str s :: xs)), none, none, none] M
  refine ⟨q_z0, fun p hp => ?_⟩
  simp only [put]
  rw [dSeq]
  refine loop_go (r := r) (xs := xs) (e := fun k => .str (cw k)) hp hlen hx' hr3 hz (fun Q h => ?_) (fun acc k x D0 hl hok nx => ?_) fun s2 s3 => ?_
  · exact ⟨_, rfl, _, rfl, _, L2.atI_nat (j := 0) rfl, s, _, rfl, hk, _, rfl, 1, rfl, _, .tup xs, _, _, _, _, congrArg (fun z => [_, D.tup z]) cut1, ⟨rfl, rfl⟩, ⟨rfl, rfl⟩, h⟩
  · have ty : tyD (mset M p (.lst acc)) (.str (cw k)) ≠ none := nofun
    have e1 : isStr (.str (cw k)) "read" = decide (k = .s) := by cases k <;> decide
    have e2 : isStr (.str (cw k)) "args" = decide (k = .a) := by cases k <;> decide
    have hp2 : mset M p (.lst acc) p = some (.lst acc) := mset_same
    refine es_ifB (et_is (et_eqs (i := 2) rfl ty) e1) (fun h => ?_) fun h => ?_
    · obtain rfl := of_decide_eq_true h
      refine ⟨_, rfl, tyM_l hp2, ⟨_, rfl, ?_⟩⟩
      refine ⟨p, acc, x, rfl, rfl, hp2, by rw [sizeLine_eq]; simp [read1] at hl; omega, ?_⟩
      rw [mset_mset]
      exact nx
    · refine es_ifB (et_is (et_eqs (i := 2) rfl ty) e2) (fun h2 => ?_) fun h2 => ?_
      · obtain rfl := of_decide_eq_true h2
        cases x with
        | tup ys =>
          refine ⟨_, rfl, tyM_l hp2, ⟨_, rfl, ?_⟩⟩
          refine ⟨p, acc, ys, rfl, rfl, hp2, by rw [sizeLine_eq]; simp [read1, its] at hl; omega, ?_⟩
          rw [mset_mset]
          exact nx
        | _ => cases hok
      · have e : read1 k x = [] := by
          have h1 := of_decide_eq_false h
          have h2 := of_decide_eq_false h2
          cases k <;> first | rfl | exact absurd rfl h1 | exact absurd rfl h2
        rw [e, List.append_nil] at nx
        exact nx
  · refine ⟨_, rfl, ?_⟩
    refine ⟨_, _, rfl, .inr (.inr ⟨p, rfl, mset_same⟩), ?_⟩
    exact (ExtO.updL ExtO.refl hp).ends q
def sp_lread : SpD := fun ds M R _ => ∃ d, ds = [d] ∧ dat d = true ∧ isRow d = true ∧ R (.lst (readsOf d)) M
def lrB (sp__law_shapes : SpD): DS := (dDrop (dMeth "list" dExtendL (dVar 1) (dCons (dIf (dTest (dOp dEq (dVar 2) (dC (.str "s")))) (dLst (dCons (dVar 3) dNil)) (dIf (dTest (dOp dEq (dVar 2) (dC (.str "a")))) (dCB dList (dCons (dVar 3) dNil)) (dLst dNil))) dNil)))
theorem h_lread (G : Facts w K mg) : Has P w K mg base CX0 "_law_read" s__law_read ["row"] 2 sp_lread := by
  refine has_view G.f__law_read sc__law_read (fun _ _ _ _ ⟨_, e, _⟩ => by rw [e]; rfl) (fun f cdv A outer s H E hr hG => p__law_read G (h_shapes G) cdv A outer s H E hr hG) fun ds M R XR ⟨d, e, hd, hr, q⟩ => ?_
  subst e
  obtain ⟨s, r, xs, rfl, hl, hlen, hz, hq⟩ := row_of hr
  rw [hq] at q
  obtain ⟨hm, _⟩ := look_mem hl
  obtain ⟨hr1, hr2, hr3⟩ := rows_l r hm
  obtain ⟨hlx, hx⟩ := dat_tup hd
  have hx' : ∀ x ∈ xs, dat x = true := fun x h => hx x (by simp [h])
  have hk : dget rkeys rvals (.inr s) = some (.str r.l) := by rw [show dget rkeys rvals (.inr s) = (look rows s).map fun r => .str r.l from get_look rows, hl]; rfl
  show (dSeq (dSet 1 (dLstM dNil)) (dSeq (dFor _ _ (lrB sp_shapes)) _)) (endsOf K R) [some (.tup (.str s :: xs)), none, none, none] M
  refine ⟨q_z0, fun p hp => ?_⟩
  simp only [put]
  rw [dSeq]
  refine loop_go (r := r) (xs := xs) (e := fun k => .str ⟨#[lc k]⟩) hp hlen hx' hr3 hz (fun Q h => ?_) (fun acc k x D0 hl hok nx => ?_) fun s2 s3 => ?_
  · exact ⟨rfl, _, rfl, _, rfl, _, L2.atI_nat (j := 0) rfl, .inr s, rfl, .str r.l, hk, _, rfl, 1, rfl, _, .tup xs, _, _, _, _, congrArg (fun z => [_, D.tup z]) cut1, ⟨(chars_l hm).symm, rfl⟩, ⟨rfl, rfl⟩, h⟩
  · have ty : tyD (mset M p (.lst acc)) (.str ⟨#[lc k]⟩) ≠ none := nofun
    obtain ⟨_, e2, e3, _, _⟩ := sgn k
    have hp2 : mset M p (.lst acc) p = some (.lst acc) := mset_same
    have last : ∀ es : List D, es = read1 k x → dExtendL (.ref p) [.lst es] (mset M p (.lst acc)) fun _ M1 => D0.nx [some (.tup (.str s :: xs)), some (.ref p), some (.str ⟨#[lc k]⟩), some x] M1 := fun es e => by
      subst e
      refine ⟨p, acc, _, _, rfl, rfl, hp2, .inl rfl, by rw [sizeLine_eq]; omega, ?_⟩
      rw [mset_mset]
      exact nx
    refine ⟨_, rfl, tyM_l hp2, ?_⟩
    refine et_is (et_eqs (i := 2) (ρ := [some (.tup (.str s :: xs)), some (.ref p), some (.str ⟨#[lc k]⟩), some x]) rfl ty) e3 _ fun b hb => ?_
    subst hb
    cases h : decide (k = .s)
    · refine et_is (et_eqs (i := 2) (ρ := [some (.tup (.str s :: xs)), some (.ref p), some (.str ⟨#[lc k]⟩), some x]) rfl ty) e2 _ fun b hb => ?_
      subst hb
      cases h2 : decide (k = .a)
      · refine ⟨q_z0, last [] ?_⟩
        have h1 := of_decide_eq_false h
        have h2 := of_decide_eq_false h2
        cases k <;> first | rfl | exact absurd rfl h1 | exact absurd rfl h2
      · obtain rfl := of_decide_eq_true h2
        cases x with
        | tup ys => exact ⟨_, rfl, _, _, rfl, .inl rfl, last ys rfl⟩
        | _ => cases hok
    · obtain rfl := of_decide_eq_true h
      exact ⟨_, rfl, q_z1, last [x] rfl⟩
  · refine ⟨_, rfl, .inr ⟨.lst (reads r.k xs), M, ?_, q⟩⟩
    have v : View K (mset M p (.lst (reads r.k xs))) (.ref p) (mdel (mset M p (.lst (reads r.k xs))) p) (.lst (reads r.k xs)) := View.lst mset_same
    rw [mdel_mset hp] at v
    exact v
def sp_set : SpD := fun ds M R _ => ∃ d, ds = [d] ∧ dat d = true ∧ isRow d = true ∧ R (setOf d) M
theorem rd_set {M : Mem} {R : RK} {s : Str} {r : Rw} {xs : List D} {x y : D} {t : DE} {w0 : Str} (hl : look rows s = some r) (hlen : xs.length = r.k.length) (q : R (setOf (.tup (.str s :: xs))) M)
    (ht : ∀ (k : Kd) (R : RK), r.k.head? = some k → R (.bl (decide (k = .d))) M → t [some (.tup (.str s :: xs))] M R) : dRet (dIf (dTest t) (dOp dIx (dVar 0) (dC (.int 1))) (dC .non)) { nx := fun _ M => R .non M, rt := R } [some (.tup (.str s :: xs))] M := by
  obtain ⟨hm, _⟩ := look_mem hl
  obtain ⟨hr1, hr2, hr3⟩ := rows_l r hm
  cases hk : r.k with
  | nil => exact absurd hk hr2
  | cons k ks =>
    cases xs with
    | nil => rw [hk] at hlen; cases hlen
    | cons x xs =>
      have e : setOf (.tup (.str s :: x :: xs)) = if k = .d then x else .non := by
        simp only [setOf, hl, hk, List.head?_cons, Option.some.injEq]
      rw [e] at q
      refine ht k _ (by rw [hk]; rfl) ⟨_, rfl, ?_⟩
      by_cases h : k = .d
      · rw [if_pos h] at q
        rw [decide_eq_true h, if_pos rfl]
        exact ⟨_, rfl, _, rfl, _, L2.atI_nat (j := 1) rfl, q⟩
      · rw [if_neg h] at q
        rw [decide_eq_false h, if_neg Bool.false_ne_true]
        exact q
theorem h_set (G : Facts w K mg) : Has P w K mg base CX0 "cell_set" s_cell_set ["row"] 1 sp_set := by
  refine has_plain G.f_cell_set sc_cell_set (fun _ _ _ _ ⟨_, e, _⟩ => by rw [e]; rfl) (fun f cdv A outer s H E hr hG => p_cell_set G cdv A outer s H E hr hG) fun ds M R XR ⟨d, e, hd, hr, q⟩ => ?_
  subst e
  obtain ⟨s, r, xs, rfl, hl, hlen, hz, hq⟩ := row_of hr
  have hk : tabAt d_SHAPES s = some (.tup (r.k.map fun k => .str (cw k))) := by rw [shapes_eq, tab_look (F := fun r => .tup (r.k.map fun k => .str (cw k))) rows, hl]; rfl
  refine rd_set (x := .non) (y := .non) (w0 := "") hl hlen q fun k R' h0 h => ?_
  refine ⟨_, rfl, _, rfl, _, L2.atI_nat (j := 0) rfl, s, _, rfl, hk, _, rfl, .str (cw k), L2.atI_nat (j := 0) ?_, ?_⟩
  · cases hr : r.k with
    | nil => rw [hr] at h0; cases h0
    | cons a b => rw [hr] at h0; cases h0; rfl
  · refine (show dEq (.str (cw k)) (.str "set") M R' from q_eq_str.mpr ⟨nofun, ?_⟩)
    have e1 : isStr (.str (cw k)) "set" = decide (k = .d) := by cases k <;> decide
    rw [e1]
    exact h
theorem h_lset (G : Facts w K mg) : Has P w K mg base CX0 "_law_set" s__law_set ["row"] 2 sp_set := by
  refine has_plain G.f__law_set sc__law_set (fun _ _ _ _ ⟨_, e, _⟩ => by rw [e]; rfl) (fun f cdv A outer s H E hr hG => p__law_set G (h_shapes G) cdv A outer s H E hr hG) fun ds M R XR ⟨d, e, hd, hr, q⟩ => ?_
  subst e
  obtain ⟨s, r, xs, rfl, hl, hlen, hz, hq⟩ := row_of hr
  obtain ⟨hm, _⟩ := look_mem hl
  obtain ⟨hr1, hr2, hr3⟩ := rows_l r hm
  have hk : dget rkeys rvals (.inr s) = some (.str r.l) := by rw [show dget rkeys rvals (.inr s) = (look rows s).map fun r => .str r.l from get_look rows, hl]; rfl
  refine rd_set (x := .non) (y := .non) (w0 := "") hl hlen q fun k R' h0 h => ?_
  have hl3 : r.l.length ≤ sizeLine := by
    have := congrArg List.length hr1
    rw [List.length_map] at this
    have e : r.l.cps.toList.length = r.l.length := rfl
    rw [sizeLine_eq]
    omega
  refine ⟨rfl, _, rfl, _, rfl, _, L2.atI_nat (j := 0) rfl, .inr s, rfl, .str r.l, hk, _, rfl, hl3, lc k, L2.atI_nat (j := 0) ?_, ?_⟩
  · rw [hr1]
    cases hr : r.k with
    | nil => rw [hr] at h0; cases h0
    | cons a b => rw [hr] at h0; cases h0; rfl
  · obtain ⟨_, _, _, e4, _⟩ := sgn k
    refine (show dEq (.str ⟨#[lc k]⟩) (.str "d") M R' from q_eq_str.mpr ⟨nofun, ?_⟩)
    rw [e4]
    exact h
/-! ### errors -/
def spx_need : SpD := fun ds M R XR => ∃ d, ds = [d] ∧ dat d = true ∧ (isRow d = false → XR "BadRow" "thing" d M) ∧ (isRow d = true → R .non M)
theorem hx_need (G : Facts w K mg) : Has P w K mg base (L2.CX P w) "need_row" s_need_row ["row"] 6 spx_need := by
  refine has_ofX G.f_need_row sc_need_row (fun _ _ _ _ ⟨_, e, _⟩ => by rw [e]; rfl) (fun f cdv A outer s H E hr hG => px_need_row G (h_isRowV G) cdv A outer s H E hr hG) fun ds M R XR ⟨d, e, hd, hx, hn⟩ => ?_
  subst e
  refine es_ifB (et_notB (et_val (b := isRow d) fun R h => ⟨d, rfl, d, rfl, hd, h⟩)) (fun h => ?_) fun h => ?_
  · exact ⟨d, rfl, hx (by simpa using h)⟩
  · exact .inl (hn (by simpa using h))
def spx_rd (f : D → D) : SpD := fun ds M R XR => ∃ d, ds = [d] ∧ dat d = true ∧ (isRow d = false → XR "BadRow" "thing" d M) ∧ (isRow d = true → R (f d) M)
theorem hx_read (G : Facts w K mg) : Has P w K mg base (L2.CX P w) "read_by" s_read_by ["row"] 7 (spx_rd fun d => .tup (readsOf d)) := by
  refine has_ofX G.f_read_by sc_read_by (fun _ _ _ _ ⟨_, e, _⟩ => by rw [e]; rfl) (fun f cdv A outer s H E hr hG => px_read_by G ((h_reads G).mono (by decide)) (hx_need G) cdv A outer s H E hr hG) fun ds M R XR ⟨d, e, hd, hx, hn⟩ => ?_
  subst e
  exact ⟨d, rfl, d, rfl, hd, hx, fun h => ⟨d, rfl, d, rfl, hd, h, .inl (hn h)⟩⟩
theorem hx_setx (G : Facts w K mg) : Has P w K mg base (L2.CX P w) "set_by" s_set_by ["row"] 7 (spx_rd setOf) := by
  refine has_ofX G.f_set_by sc_set_by (fun _ _ _ _ ⟨_, e, _⟩ => by rw [e]; rfl) (fun f cdv A outer s H E hr hG => px_set_by G ((h_set G).mono (by decide)) (hx_need G) cdv A outer s H E hr hG) fun ds M R XR ⟨d, e, hd, hx, hn⟩ => ?_
  subst e
  exact ⟨d, rfl, d, rfl, hd, hx, fun h => ⟨d, rfl, d, rfl, hd, h, .inl (hn h)⟩⟩
end
end Yk31

set_option Elab.async false
set_option linter.all false
set_option maxHeartbeats 4000000
set_option maxRecDepth 100000
namespace Yk31
open PySem PySem.Spec PyProof.Rows L2 DL
section
variable {P : Program} {w : World} {K : PySem.W.Frag} {mg : Str → Option Value} {base : Heap}
def aw : Nat → Nat
  | 0 => 10
  | n + 1 => 3 * (aw n + 1) + 3
theorem aw_ge : ∀ n, 10 ≤ aw n
  | 0 => Nat.le_refl _
  | n + 1 => by have := aw_ge n; show 10 ≤ 3 * (aw n + 1) + 3; omega
def sp_any (n : Nat) : SpD := fun ds M R _ => ∃ a, ds = [.ref a, .int (n : Nat)] ∧ Deck M a ∧ ∀ d, Bd (aw n) (2 * n + 2) d → R d M
theorem rd_any {sp : SpD} {M : Mem} {R : RK} {a : Addr} {n : Nat} (hd : Deck M a) (q : ∀ d, Bd (aw n) (2 * n + 2) d → R d M)
    (hS : ∀ (way : Int), Ev (dIf (dTest (dOp dGt (dVar 1) (dC (.int 0)))) (dLc [4] (dRng1 (dCons (dCall sp_draw (dCons (dVar 0) (dCons (dC (.int 4)) dNil))) dNil)) (gNm 4) dYes (dCall sp (dCons (dVar 0) (dCons (dOp dSub (dVar 1) (dC (.int 1))) dNil)))) (dLst dNil))
      [some (.ref a), some (.int n), some (.int way), none, none] M fun d => ∃ xs, d = .lst xs ∧ xs.length ≤ 3 ∧ ∀ y ∈ xs, ∃ m, n = m + 1 ∧ Bd (aw m) (2 * m + 2) y) :
    t__law_any sp_draw sp_pick sp { nx := fun _ M => R .non M, rt := R } [some (.ref a), some (.int n), none, none, none] M := by
  have leaf : ∀ {d : D}, Bd 10 2 d → Bd (aw n) (2 * n + 2) d := fun h => h.mono (aw_ge n) (by omega)
  simp only [t__law_any, dSeq]
  refine es_set (ev_draw hd rfl) fun d ⟨i, e, i0, i1⟩ => ?_
  subst e
  refine es_if (et_lt (ev_var rfl ⟨_, rfl⟩)) ?_ ?_
  · refine es_ret (ev_pick hd rfl (n := 16) ?_) fun d h => q d h
    repeat' first
      | exact ea_nil
      | refine ea_cons ?_ ?_
      | exact ev_c (leaf ⟨by decide +kernel, by decide, by decide⟩)
      | exact ev_neg (leaf ⟨by decide +kernel, by decide, by decide⟩)
      | exact ev_pow ⟨by decide, by decide, by decide⟩ (leaf ⟨by decide +kernel, by decide, by decide⟩)
      | exact ev_tupK (fun R r => r) (by decide) (leaf ⟨by decide +kernel, by decide, by decide⟩)
      | exact ev_tupK (ds := [.int 0, .tup [.str ""]]) (fun R r => ⟨q_z1, r⟩) (by decide) (leaf ⟨by decide +kernel, by decide, by decide⟩)
  · simp only [dNext]
    refine es_set (hS i) fun d ⟨xs, e, hl, hx⟩ => ?_
    subst e
    have hxs : (∀ y ∈ xs, Bd (aw n) (2 * n) y) ∧ wts xs + 3 ≤ aw n ∧ dps xs ≤ 2 * n := by
      cases n with
      | zero =>
        cases xs with
        | nil => exact ⟨by simp, by decide, by decide⟩
        | cons x xs =>
          obtain ⟨m, e, _⟩ := hx x (by simp)
          omega
      | succ m =>
        have hx' : ∀ y ∈ xs, Bd (aw m) (2 * m + 2) y := fun y hy => by
          obtain ⟨m', e, h⟩ := hx y hy
          obtain rfl : m' = m := by omega
          exact h
        have ha : aw (m + 1) = 3 * (aw m + 1) + 3 := rfl
        refine ⟨fun y hy => (hx' y hy).mono (by omega) (by omega), ?_, dps_le fun y hy => by have := (hx' y hy).2.2; omega⟩
        have := wts_le (k := aw m + 1) fun y hy => Nat.succ_le_succ (hx' y hy).2.1
        have h3 : xs.length * (aw m + 1) ≤ 3 * (aw m + 1) := Nat.mul_le_mul_right _ hl
        omega
    have hw := aw_ge n
    have h1 : Bd (aw n) (2 * n + 2) (.tup xs) := ⟨gx_tup.mpr ⟨by omega, fun y hy => (hxs.1 y hy).1⟩, by show wts xs ≤ _; omega, by show dps xs + 1 ≤ _; omega⟩
    refine es_ret (P := Bd (aw n) (2 * n + 2)) (ev_if (et_eq (ev_var rfl ⟨_, rfl⟩)) (ev_var rfl (bd_lst h1)) (ev_if (et_eq (ev_var rfl ⟨_, rfl⟩)) (ev_K (d := .dct [.inr "a"] [.lst xs]) (fun R r => ?_) ?_) (ev_K (d := .tup xs) (fun R r => ⟨_, rfl, q_tuple_lst.mpr r⟩) h1))) fun d h => q d h
    · exact ⟨_, rfl, [.inr "a"], rfl, by decide, by decide, r⟩
    · refine ⟨gx_dct rfl (by simp; omega) (by simp only [List.all_cons, List.all_nil, Bool.and_true]; exact kgx_mono (aw_ge n) (by decide +kernel)) fun d hd => ?_, ?_, ?_⟩
      · simp only [List.mem_cons, List.not_mem_nil, or_false] at hd
        subst hd
        exact (bd_lst h1).1
      · show (1 + 1 + 0) + (wts xs + 1 + 0) ≤ aw n
        omega
      · show max (dps xs + 1) 0 + 1 ≤ 2 * n + 2
        omega
theorem h_any (G : Facts w K mg) : ∀ n : Nat, Has P w K mg base CX0 "_law_any" s__law_any ["deck", "deep"] (3 + n) (sp_any n)
  | 0 => by
    have no : Has P w K mg base CX0 "_law_any" s__law_any ["deck", "deep"] 1 (fun _ _ _ _ => False) :=
      has_plain G.f__law_any sc__law_any (fun _ _ _ _ h => h.elim) (fun f cdv A outer s H E hr hG => db_cons ds_never (db_cons ds_never (db_cons ds_never (db_one ds_never)))) fun ds M R XR h => h.elim
    refine has_plain G.f__law_any sc__law_any (fun _ _ _ _ ⟨_, e, _⟩ => by rw [e]; rfl) (fun f cdv A outer s H E hr hG => p__law_any G ((h_draw G).mono (by decide)) (h_pick G) (no.mono (by decide)) cdv A outer s H E hr hG) fun ds M R XR ⟨a, e, hd, q⟩ => ?_
    subst e
    refine rd_any (n := 0) hd q fun way R r => ?_
    exact ⟨_, rfl, _, _, rfl, rfl, _, rfl, q_z0, r _ ⟨[], rfl, by simp, by simp⟩⟩
  | n + 1 => by
    refine has_plain G.f__law_any sc__law_any (fun _ _ _ _ ⟨_, e, _⟩ => by rw [e]; rfl) (fun f cdv A outer s H E hr hG => p__law_any G ((h_draw G).mono (by omega)) ((h_pick G).mono (by omega)) (h_any G n) cdv A outer s H E hr hG) fun ds M R XR ⟨a, e, hd, q⟩ => ?_
    subst e
    refine rd_any (n := n + 1) hd q fun way R r => ?_
    simp only [dIf, dTest, dOp, dVar, dC, slot, Option.some.injEq, exists_eq_left']
    refine q_op_gt.mpr ⟨_, rfl, ?_⟩
    rw [decide_eq_true (by omega), if_pos rfl]
    refine ev_some (C := Bd (aw n) (2 * n + 2)) hd rfl (by decide) (by decide) (fun d Rt h => ?_) (fun acc hl hC => ⟨acc, rfl, by omega, fun y hy => ⟨n, rfl, hC y hy⟩⟩) R r
    refine ⟨_, rfl, ⟨_, rfl, q_op_sb.mpr ⟨a, ?_, hd, h⟩⟩⟩
    have : ((n + 1 : Nat) : Int) - 1 = (n : Nat) := by omega
    rw [this]
/-! ### bent -/
def sp_bent (n : Nat) : SpD := fun ds M R _ => ∃ a x w k, ds = [.ref a, x, .int (n : Nat)] ∧ Deck M a ∧ Bd w k x ∧ w ≤ 200 ∧ ∀ d, Bd ((n + 2) * w + 150) (k + 6) d → R d M
/-- in the place of a value -/
theorem rd_leaf {M : Mem} {D0 : EndsD} {a : Addr} {x : D} {w k : Nat} {s2 s3 s4 : Option D} (hd : Deck M a) (hx : Bd w k x) (hw : w ≤ 200) (q : ∀ d, Bd (w + 150) (k + 6) d → D0.rt d M) :
    (dSeq (dIfS (dTest (dCall sp_isI (dCons (dVar 1) dNil))) (dRet (dCall sp_pick (dCons (dVar 0) (dCons (dLst (dCons (dOp dAdd (dVar 1) (dC (.int 1))) (dCons (dOp dSub (dVar 1) (dC (.int 1))) (dCons (dOp dSub (dC (.int 0)) (dVar 1)) (dCons (dOp dEq (dVar 1) (dC (.int 1))) (dCons (dCB dStrInt (dCons (dVar 1) dNil)) (dCons (dC .non) (dCons (dC (.int 0)) dNil)))))))) dNil)))) dNext) (dSeq (dIfS (dTest (dCB dIsi (dCons (dVar 1) (dCons (dC (.ty "str")) dNil)))) (dRet (dCall sp_pick (dCons (dVar 0) (dCons (dLst (dCons (dOp dAdd (dVar 1) (dC (.str "a"))) (dCons (dSl (dVar 1) (dPart (dC (.int 1))) dNoPart) (dCons (dMeth0 "str" dUpper (dVar 1)) (dCons (dC (.str "place")) (dCons (dC (.str "truth")) (dCons (dC (.str "move")) (dCons (dC (.str "")) (dCons (dC (.int 0)) (dCons (dOp dAdd (dVar 1) (dC (.str " "))) (dCons (dC (.str "a1")) dNil))))))))))) dNil)))) dNext) (dRet (dIf (dNot (dTest (dCB dIsi (dCons (dVar 1) (dCons (dC (.ty "bool")) dNil))))) (dCall (sp_any 2) (dCons (dVar 0) (dCons (dC (.int 2)) dNil))) (dCall sp_pick (dCons (dVar 0) (dCons (dLst (dCons (dNotV (dVar 1)) (dCons (dCB dInt1 (dCons (dVar 1) dNil)) (dCons (dC .non) dNil)))) dNil))))))) D0 [some (.ref a), some x, s2, s3, s4] M := by
  have dx : dat x = true := hx.dat (by omega)
  have leaf : ∀ {d : D}, Bd 10 2 d → Bd (w + 150) (k + 6) d := fun h => h.mono (by omega) (by omega)
  have c1 : EvT (dTest (dCall sp_isI (dCons (dVar 1) dNil))) [some (.ref a), some x, s2, s3, s4] M (· = isI x) := et_val fun R h => ⟨_, rfl, x, rfl, dx, h⟩
  have c2 : ∀ {u c : String}, tyD M x = some u → isiTy c = true → EvT (dTest (dCB dIsi (dCons (dVar 1) (dCons (dC (.ty c)) dNil)))) [some (.ref a), some x, s2, s3, s4] M (· = isTy u c) := fun h hc => et_isi (ev_var rfl h) hc
  have any2 : Ev (dCall (sp_any 2) (dCons (dVar 0) (dCons (dC (.int 2)) dNil))) [some (.ref a), some x, s2, s3, s4] M (Bd (w + 150) (k + 6)) := fun R r => ⟨_, rfl, a, rfl, hd, fun d h => r d (h.mono (by have : aw 2 = 114 := rfl; omega) (by omega))⟩
  simp only [dSeq]
  cases x with
  | int i =>
    refine es_ifB c1 (fun _ => ?_) fun h => nomatch h
    refine es_ret (ev_pick hd rfl (n := 7) (P := Bd (w + 150) (k + 6)) ?_) fun d h => q d h
    have hs := bd_strInt (k' := k + 6) hx (by omega)
    refine ea_cons (ev_addI rfl ((bd_int1 hx).mono (by omega) (by omega))) (ea_cons (ev_subI rfl ((bd_int1 hx).mono (by omega) (by omega))) (ea_cons (ev_negI rfl ((bd_int1 hx).mono (by omega) (by omega))) (ea_cons (ev_eqI rfl fun b => bd_bl) (ea_cons (ev_strI rfl hs.1 (hs.2.mono (by omega) (by omega))) (ea_cons (ev_c bd_non) (ea_cons (ev_c bd_int) ea_nil))))))
  | str s =>
    obtain ⟨h1, h2⟩ := hx.str
    refine es_ifB (b := false) (et_is c1 rfl) (fun h => nomatch h) fun _ => ?_
    simp only [dNext]
    refine es_ifB (b := true) (et_is (c2 rfl rfl) (by simp [isTy])) (fun _ => ?_) fun h => nomatch h
    refine es_ret (ev_pick hd rfl (n := 10) (P := Bd (w + 150) (k + 6)) ?_) fun d h => q d h
    refine ea_cons (ev_sapp rfl (by rw [show ("a" : Str).length = 1 by decide]; omega) ((bd_sapp (n := 1) hx (by decide)).mono (by omega) (by omega))) (ea_cons (ev_sfrom rfl (by omega) ((bd_cut hx).mono (by omega) (by omega))) (ea_cons (ev_upper rfl (by omega) ((bd_upper hx).mono (by omega) (by omega))) ?_))
    refine ea_cons (ev_c (leaf (bd_strs (by decide)))) (ea_cons (ev_c (leaf (bd_strs (by decide)))) (ea_cons (ev_c (leaf (bd_strs (by decide)))) (ea_cons (ev_c (leaf (bd_strs (by decide)))) (ea_cons (ev_c bd_int) (ea_cons (ev_sapp rfl (by rw [show (" " : Str).length = 1 by decide]; omega) ((bd_sapp (n := 1) hx (by decide)).mono (by omega) (by omega))) (ea_cons (ev_c (leaf (bd_strs (by decide)))) ea_nil))))))
  | bl b =>
    refine es_ifB (b := false) (et_is c1 rfl) (fun h => nomatch h) fun _ => ?_
    simp only [dNext]
    refine es_ifB (b := false) (et_is (c2 rfl rfl) (by simp [isTy])) (fun h => nomatch h) fun _ => ?_
    simp only [dNext]
    refine es_ret (P := Bd (w + 150) (k + 6)) (ev_if (et_not (et_isiA (ev_var rfl ⟨_, rfl⟩))) any2 (ev_pick hd rfl (n := 3) (P := Bd (w + 150) (k + 6)) ?_)) fun d h => q d h
    refine ea_cons (ev_notB rfl bd_bl) (ea_cons (ev_K (d := .int (if b then 1 else 0)) (fun R r => ⟨_, rfl, .inr ⟨b, rfl, r⟩⟩) (by cases b <;> exact bd_int)) (ea_cons (ev_c bd_non) ea_nil))
  | _ =>
    first
      | (cases dx; done)
      | (refine es_ifB (b := false) (et_is c1 rfl) (fun h => nomatch h) fun _ => ?_
         simp only [dNext]
         refine es_ifB (b := false) (et_is (c2 rfl rfl) (by simp [isTy])) (fun h => nomatch h) fun _ => ?_
         simp only [dNext]
         refine es_ret (P := Bd (w + 150) (k + 6)) (fun R r => ?_) fun d h => q d h
         refine et_notB (c2 (c := "bool") rfl rfl) _ fun b e => ?_
         subst e
         simp only [isTy]
         exact any2 R r)
theorem rd_bent {sp : SpD} {M : Mem} {R : RK} {a : Addr} {x : D} {w k n : Nat} (hd : Deck M a) (hx : Bd w k x) (hw : w ≤ 200) (q : ∀ d, Bd ((n + 2) * w + 150) (k + 6) d → R d M)
    (hS : ∀ (xs : List D) (j : Nat) (hj : j < xs.length) (s2 s3 s4 : Option D), x = .tup xs → 0 < n → s2 = some (.int n) → s3 = some (.int (j : Nat)) → Ev (dCall sp (dCons (dVar 0) (dCons (dOp dIx (dVar 1) (dVar 3)) (dCons (dOp dSub (dVar 2) (dC (.int 1))) dNil)))) [some (.ref a), some x, s2, s3, s4] M (Bd ((n + 1) * w + 150) (k - 1 + 6))) :
    t__law_bent sp_draw sp_pick sp_isI (sp_any 2) sp { nx := fun _ M => R .non M, rt := R } [some (.ref a), some x, some (.int n), none, none] M := by
  have dx : dat x = true := hx.dat (by omega)
  have e1 : (n + 2) * w = n * w + 2 * w := by rw [Nat.add_mul]
  have e2 : (n + 1) * w = n * w + w := by rw [Nat.add_mul, Nat.one_mul]
  have big : ∀ {w' k' : Nat} {d : D}, Bd w' k' d → w' ≤ 2 * w + 150 → k' ≤ k + 6 → R d M := fun h h1 h2 => q _ (h.mono (by omega) h2)
  simp only [t__law_bent, dSeq]
  have lf : ∀ {s3 s4 : Option D} {D0 : EndsD}, D0.rt = R → _ := fun {s3 s4 D0} e => rd_leaf (D0 := D0) (s2 := some (.int n)) (s3 := s3) (s4 := s4) hd hx hw (fun d h => by rw [e]; exact big h (by omega) (Nat.le_refl _))
  simp only [dSeq] at lf
  cases x with
  | tup xs =>
    have hl := hx.len
    have isT : EvT (dTest (dCB dIsi (dCons (dVar 1) (dCons (dC (.ty "tuple")) dNil)))) [some (.ref a), some (.tup xs), some (.int n), none, none] M (· = true) := et_isi (c := "tuple") (u := "tuple") (ev_var rfl rfl)
    have isE : EvT (dTest (dOp dEq (dVar 1) (dTup dNil))) [some (.ref a), some (.tup xs), some (.int n), none, none] M (· = xs.isEmpty) := et_val fun R h => ⟨_, rfl, q_z0, q_eq_tup0.mpr h⟩
    have is0 : EvT (dTest (dOp dEq (dVar 2) (dC (.int 0)))) [some (.ref a), some (.tup xs), some (.int n), none, none] M (· = decide ((n : Int) = 0)) := et_val fun R h => ⟨_, rfl, q_eq_int.mpr h⟩
    have coin : EvT (dTest (dOp dEq (dCall sp_draw (dCons (dVar 0) (dCons (dC (.int 9)) dNil))) (dC (.int 0)))) [some (.ref a), some (.tup xs), some (.int n), none, none] M fun _ => True := et_eq ((ev_draw hd rfl).mono fun d ⟨i, e, _⟩ => ⟨i, e⟩)
    refine es_ifW (B := fun b => b = false → xs.isEmpty = false ∧ (n : Int) ≠ 0) (et_orW (et_notB isT) (fun _ => et_orW (P1 := (· = xs.isEmpty)) (B := fun b => b = false → xs.isEmpty = false ∧ (n : Int) ≠ 0) isE (fun _ => et_orW (P1 := (· = decide ((n : Int) = 0))) (B := fun b => b = false → (n : Int) ≠ 0) is0 (fun _ => coin) nofun (fun b h _ _ => of_decide_eq_false h.symm)) nofun fun b h h2 e => ⟨h.symm, h2 e⟩) nofun fun b _ h => h) (fun _ => lf rfl) fun hB => ?_
    obtain ⟨he, hz⟩ := hB rfl
    have hn : 0 < n := by omega
    have hpos : 0 < xs.length := by
      cases xs with
      | nil => cases he
      | cons _ _ => simp
    simp only [dNext, dPar, dCons, dNil]
    refine ev_drawL hd rfl rfl hpos (by omega) _ fun d ⟨j, e, hj⟩ => ?_
    subst e
    refine ev_draw (m := 10) hd rfl (by decide) (by decide) _ fun d ⟨way, e, _, _⟩ => ?_
    subst e
    refine ⟨_, _, rfl, ?_⟩
    have hl2 : xs.length ≤ 1000 := by omega
    refine es_if (et_eq (ev_var rfl ⟨_, rfl⟩)) (es_ret (ev_del rfl rfl hj hl2 (bd_del hx)) fun d h => big h (by omega) (by omega)) ?_
    refine es_if (et_eq (ev_var rfl ⟨_, rfl⟩)) (es_ret (ev_dup rfl rfl hj hl2 (bd_dup hx)) fun d h => big h (by omega) (by omega)) ?_
    refine es_if (et_eq (ev_var rfl ⟨_, rfl⟩)) (es_ret (ev_if (et_eq ((ev_draw hd rfl).mono fun d ⟨i, e, _⟩ => ⟨i, e⟩)) (ev_list rfl (bd_lst hx)) (ev_rev rfl (bd_rev hx))) fun d h => big h (by omega) (by omega)) ?_
    refine es_ret (ev_put (Q := Bd ((n + 2) * w + 150) (k + 6)) rfl rfl hj hl2 (hS xs j hj _ _ _ rfl hn rfl rfl) fun y hy => ?_) fun d h => q d h
    have hk : 1 ≤ k := by
      have h5 : dps xs + 1 ≤ k := hx.2.2
      omega
    exact (bd_swap (hx.mono (Nat.le_refl _) (show k ≤ k + 6 by omega)) hj hy (by omega)).mono (by omega) (Nat.le_refl _)
  | _ =>
    first
      | (cases dx; done)
      | exact es_ifB (et_orB (y := true) (et_is (y := true) (et_notB (et_isi (c := "tuple") (ev_var rfl rfl))) (by simp [isTy])) fun h => nomatch h) (fun _ => lf rfl) fun h => nomatch h
theorem h_bent (G : Facts w K mg) : ∀ n : Nat, Has P w K mg base CX0 "_law_bent" s__law_bent ["deck", "thing", "deep"] (6 + n) (sp_bent n)
  | 0 => by
    have no : Has P w K mg base CX0 "_law_bent" s__law_bent ["deck", "thing", "deep"] 1 (fun _ _ _ _ => False) :=
      has_plain G.f__law_bent sc__law_bent (fun _ _ _ _ h => h.elim) (fun f cdv A outer s H E hr hG => db_cons ds_never (db_cons ds_never (db_cons ds_never (db_cons ds_never (db_cons ds_never (db_one ds_never)))))) fun ds M R XR h => h.elim
    refine has_plain G.f__law_bent sc__law_bent (fun _ _ _ _ ⟨_, _, _, _, e, _⟩ => by rw [e]; rfl) (fun f cdv A outer s H E hr hG => p__law_bent G ((h_draw G).mono (by decide)) ((h_pick G).mono (by decide)) ((h_lint G).mono (by decide)) (h_any G 2) (no.mono (by decide)) cdv A outer s H E hr hG) fun ds M R XR ⟨a, x, w, k, e, hd, hx, hw, q⟩ => ?_
    subst e
    exact rd_bent (n := 0) hd hx hw q fun xs j hj s2 s3 s4 e h => absurd h (by omega)
  | n + 1 => by
    refine has_plain G.f__law_bent sc__law_bent (fun _ _ _ _ ⟨_, _, _, _, e, _⟩ => by rw [e]; rfl) (fun f cdv A outer s H E hr hG => p__law_bent G ((h_draw G).mono (by omega)) ((h_pick G).mono (by omega)) ((h_lint G).mono (by omega)) ((h_any G 2).mono (by omega)) (h_bent G n) cdv A outer s H E hr hG) fun ds M R XR ⟨a, x, w, k, e, hd, hx, hw, q⟩ => ?_
    subst e
    refine rd_bent (n := n + 1) hd hx hw q fun xs j hj s2 s3 s4 e h e2 e3 R r => ?_
    subst e e2 e3
    refine ⟨_, rfl, _, rfl, _, rfl, _, rfl, _, L2.atI_nat (List.getElem?_eq_getElem hj), _, rfl, q_op_sb.mpr ⟨a, xs[j], w, k - 1, ?_, hd, hx.mem (List.getElem_mem hj), hw, r⟩⟩
    have : ((n + 1 : Nat) : Int) - 1 = (n : Nat) := by omega
    rw [this]
end
end Yk31

set_option Elab.async false
set_option linter.all false
set_option maxHeartbeats 4000000
set_option maxRecDepth 100000
namespace Yk31
open PySem PySem.Spec PyProof.Rows L2 DL
section
variable {P : Program} {w : World} {K : PySem.W.Frag} {mg : Str → Option Value} {base : Heap}
/-! ### any row -/
def sp_arow : SpD := fun ds M R _ => ∃ a, ds = [.ref a] ∧ Deck M a ∧ ∀ d, Bd 60 3 d → R d M
def arB (sp__law_draw : SpD) (sp__law_pick : SpD) (sp__law_shapes : SpD): DS := (dIfS (dTest (dOp dEq (dVar 3) (dC (.str "t")))) (dDrop (dMeth "list" dAppend (dVar 2) (dCons (dCall sp__law_pick (dCons (dVar 0) (dCons (dTup (dCons (dC (.str "a")) (dCons (dC (.str "zz")) (dCons (dC (.str "abcdefgh")) dNil)))) dNil))) dNil))) (dIfS (dTest (dOp dEq (dVar 3) (dC (.str "a")))) (dDrop (dMeth "list" dAppend (dVar 2) (dCons (dCB dTuple (dCons (dLc [4] (dRng1 (dCons (dCall sp__law_draw (dCons (dVar 0) (dCons (dC (.int 5)) dNil))) dNil)) (gNm 4) dYes (dCall sp__law_draw (dCons (dVar 0) (dCons (dC (.int 6)) dNil)))) dNil)) dNil))) (dDrop (dMeth "list" dAppend (dVar 2) (dCons (dCall sp__law_pick (dCons (dVar 0) (dCons (dTup (dCons (dC (.int 0)) (dCons (dC (.int 1)) (dCons (dC (.int 2)) (dCons (dC (.int 7)) (dCons (dC (.int 99)) (dCons (dCall sp__law_draw (dCons (dVar 0) (dCons (dC (.int 1000)) dNil))) dNil))))))) dNil))) dNil)))))
theorem arB_go {M : Mem} {D0 : EndsD} {a p : Addr} {wd : D} {k : Kd} {acc : List D} {s4 : Option D} (hd : Deck M a) (hp : M p = some (.lst acc)) (hl : acc.length ≤ 10)
    (nx : ∀ d, Bd 12 2 d → D0.nx [some (.ref a), some wd, some (.ref p), some (.str ⟨#[lc k]⟩), s4] (mset M p (.lst (acc ++ [d])))) :
    arB sp_draw sp_pick sp_shapes D0 [some (.ref a), some wd, some (.ref p), some (.str ⟨#[lc k]⟩), s4] M := by
  have ty : tyD M (.str ⟨#[lc k]⟩) ≠ none := nofun
  refine es_if (et_monoB (et_eqs (i := 3) rfl ty) fun _ _ => trivial) ?_ ?_
  · refine es_app (P := Bd 12 2) rfl hp (by omega) (ev_pickT hd rfl (n := 3) ?_) nx
    exact ea_cons (ev_c (bd_strs (by decide))) (ea_cons (ev_c (bd_strs (by decide))) (ea_cons (ev_c (bd_strs (by decide))) ea_nil))
  · refine es_if (et_monoB (et_eqs (i := 3) rfl ty) fun _ _ => trivial) ?_ ?_
    · refine es_app (P := Bd 12 2) rfl hp (by omega) (ev_tupleL ?_) nx
      refine ev_some (C := fun d => ∃ i : Int, d = .int i ∧ 0 ≤ i ∧ i < 6) hd rfl (by decide) (by decide) (fun d Rt h => ?_) fun acc hl hC => ⟨acc, rfl, ?_⟩
      · exact ev_draw (m := 6) hd rfl (by decide) (by decide) Rt h
      · refine (bd_tup (n := 0) (k := 0) (fun d hd => ?_) (by omega) (by omega) (by omega)).1
        obtain ⟨i, rfl, h0, h1⟩ := hC d hd
        exact bd_int (by omega)
    · refine es_app (P := Bd 12 2) rfl hp (by omega) (ev_pickT hd rfl (n := 6) ?_) nx
      refine ea_cons (ev_c bd_int) (ea_cons (ev_c bd_int) (ea_cons (ev_c bd_int) (ea_cons (ev_c bd_int) (ea_cons (ev_c bd_int) (ea_cons ((ev_draw (m := 1000) hd rfl).mono fun d ⟨i, e, h0, h1⟩ => ?_) ea_nil)))))
      subst e
      exact bd_int (by omega)
theorem h_arow (G : Facts w K mg) : Has P w K mg base CX0 "_law_any_row" s__law_any_row ["deck"] 3 sp_arow := by
  refine has_view G.f__law_any_row sc__law_any_row (fun _ _ _ _ ⟨_, e, _⟩ => by rw [e]; rfl) (fun f cdv A outer s H E hr hG => p__law_any_row G ((h_draw G).mono (by decide)) (h_pick G) ((h_shapes G).mono (by decide)) cdv A outer s H E hr hG) fun ds M R XR ⟨a, e, hd, q⟩ => ?_
  subst e
  show dSeq _ (dSeq _ (dSeq (dFor _ _ (arB sp_draw sp_pick sp_shapes)) _)) (endsOf K R) [some (.ref a), none, none, none, none] M
  simp only [dSeq]
  refine es_set (P := fun d => ∃ r ∈ rows, d = .str r.w) (fun R r => ?_) fun d ⟨r, hr, e⟩ => ?_
  · refine ⟨_, rfl, rfl, .dct rkeys rvals, rkeys, rvals, rfl, .inl rfl, .lst (rkeys.map keyD), rows.map (·.w), rfl, .inl ?_, fun ys hy _ => ?_⟩
    · congr 1
    · have hl : ys.length = 15 := hy.length_eq
      refine pick_lst hd (fun z => ?_) (by rw [List.length_map]; omega) fun d hd => ?_
      · have := congrArg List.length z
        rw [List.length_map] at this
        simp at this
        rw [this] at hl
        cases hl
      · obtain ⟨y, hy1, rfl⟩ := List.mem_map.mp hd
        obtain ⟨r', hr1, rfl⟩ := List.mem_map.mp (hy.mem_iff.mp hy1)
        exact r _ ⟨r', hr1, rfl⟩
  · subst e
    have hwb : Bd 12 2 (.str r.w) := by
      have : ∀ r ∈ rows, (decide (r.w.length ≤ 12) && ascii r.w) = true := by decide +kernel
      exact bd_strs (this r hr)
    obtain ⟨hr1, hr2, hr3⟩ := rows_l r hr
    have hk : dget rkeys rvals (.inr r.w) = some (.str r.l) := by
      have : ∀ r ∈ rows, look rows r.w = some r := by
        intro r hr
        simp only [rows, List.mem_cons, List.not_mem_nil, or_false] at hr
        rcases hr with rfl | rfl | rfl | rfl | rfl | rfl | rfl | rfl | rfl | rfl | rfl | rfl | rfl | rfl | rfl <;> decide +kernel
      rw [show dget rkeys rvals (.inr r.w) = (look rows r.w).map fun r => .str r.l from get_look rows, this r hr]
      rfl
    simp only [put]
    refine ⟨_, rfl, q_z1, fun p hp => ?_⟩
    simp only [put]
    have hdl : ∀ {xs : List D}, Deck (mset M p (.lst xs)) a := (ExtO.updL ExtO.refl hp).deck hd
    refine go_for (items := r.k.map fun k => .str ⟨#[lc k]⟩) (G := fun _ => True) (fun i ρ2 M2 => ∃ acc s3 s4, M2 = mset M p (.lst acc) ∧ ρ2 = [some (.ref a), some (.str r.w), some (.ref p), s3, s4] ∧ acc.length = i + 1 ∧ ∀ d ∈ acc, Bd 12 2 d) (fun Q h => ?_) ⟨[.str r.w], none, none, rfl, rfl, rfl, fun d hd => by simp at hd; rw [hd]; exact hwb⟩ (fun i d ρ2 M2 hi ⟨acc, s3, s4, e1, e2, e3, e4⟩ => ?_) (fun ρ2 M2 ⟨acc, s3, s4, e1, e2, e3, e4⟩ => ?_)
    · exact ⟨rfl, _, rfl, .inr r.w, rfl, .str r.l, hk, _, fun _ => True, ⟨(chars_l hr).symm, rfl⟩, h⟩
    · subst e1 e2
      refine ⟨trivial, ?_⟩
      have hlt := (List.getElem?_eq_some_iff.mp hi).1
      rw [List.length_map] at hlt
      obtain ⟨k, _, rfl⟩ := List.mem_map.mp (List.mem_of_getElem? hi)
      simp only [gNm, put]
      refine arB_go hdl mset_same (by omega) fun d hd => ?_
      rw [mset_mset]
      refine ⟨acc ++ [d], _, _, rfl, rfl, by simp [e3], fun y hy => ?_⟩
      rcases List.mem_append.mp hy with h | h
      · exact e4 y h
      · simp at h; rw [h]; exact hd
    · subst e1 e2
      refine ⟨trivial, _, rfl, _, acc, rfl, .inr (.inr ⟨p, rfl, mset_same⟩), ?_⟩
      refine (ExtO.updL ExtO.refl hp).ends (q _ ?_)
      have hlen : acc.length ≤ 4 := by rw [e3, List.length_map]; omega
      exact (bd_tup (n := 12) (k := 2) e4 (by omega) (by omega) (by omega)).1
/-! ### what is tried -/
theorem suite_go {M : Mem} {D0 : EndsD} {a dd : Addr} {v : V} {d : D} {t : Str} {s0 : Option D} (hr : Rp d t) (q : D0.rt (.tup [.str "raised", .bl true, .str t]) M) :
    (dRet (dTup (dCons (dC (.str "raised")) (dCons (dIsE tab_BadRow "BadRow" a dd (dVar 1)) (dCons (dIf (dTest (dIsE tab_BadRow "BadRow" a dd (dVar 1))) (dCB dRepr (dCons (dXf a dd "thing" (dVar 1)) dNil)) (dC .non)) dNil))))) D0 [s0, some (.box a dd (.xd [("thing", v)]) [v] [d])] M := by
  simp only [dRet, dTup, dIsE, dIf, dTest, dCB, dXf, dCons, dNil, dC, dVar, slot, Option.some.injEq, exists_eq_left']
  refine ⟨true, _, _, _, by decide, rfl, ⟨_, rfl⟩, true, _, _, _, by decide, rfl, ⟨_, rfl⟩, true, rfl, ?_⟩
  rw [if_pos rfl]
  exact ⟨v, d, rfl, hr.2.2 ⟨q_z3, q⟩⟩
theorem tried_go {Kf : PySem.W.Frag} {M : Mem} {R : RK} {f c : Addr} {q : Str} {vs : List V} {ds : List D} {tb : DX} {ρ0 : DEnv}
    (h : ∀ (R1 : RK) (XR : XD), (∀ d M1, R (.tup [.str "returned", d]) M1 → R1 d M1) → (∀ x fl d M1, (fl = "thing" ∧ x = "BadRow" ∧ ∃ t, Rp d t ∧ R (.tup [.str "raised", .bl true, .str t]) M1) → XR x fl d M1) → tb ρ0 M R1 XR) :
    tl__law_tried (xAct 0 f c q vs ds (tb ρ0)) (endsOf Kf R) (startD 1 [.box f c (LamX.CodeO c q) vs ds]) M := by
  simp only [tl__law_tried, dTry, dRetX, xTup, xCons, xOf, xNil, dC, xAct, startD, List.map_cons, List.map_nil, List.cons_append, List.nil_append]
  refine ⟨rfl, h _ _ (fun d M1 hq => ⟨q_z2, .inl hq⟩) fun x fl d M1 ⟨e, e2, t, hr, hq⟩ => ?_⟩
  subst e e2
  exact ⟨true, by decide, fun _ a dd v _ => suite_go hr (.inl hq), fun h => nomatch h⟩
/-! ### the law -/
def w1 (K : PySem.W.Frag) (PL : Addr) : DS := (dSet 3 (dIf (dTest (dOp dGt (dCall sp_draw (dCons (dVar 1) (dCons (dC (.int 8)) dNil))) (dC (.int 0)))) (dCall sp_arow (dCons (dVar 1) dNil)) (dCall (sp_any 2) (dCons (dVar 1) (dCons (dC (.int 2)) dNil)))))
def w2 (K : PySem.W.Frag) (PL : Addr) : DS := (dIfS (dTest (dOp dEq (dCall sp_draw (dCons (dVar 1) (dCons (dC (.int 3)) dNil))) (dC (.int 0)))) (dSet 3 (dCall (sp_bent 2) (dCons (dVar 1) (dCons (dVar 3) (dCons (dC (.int 2)) dNil))))) dNext)
def w3 (K : PySem.W.Frag) (PL : Addr) : DS := (dSet 4 (dOp dRepL (dLstM (dCons (dTup (dCons (dC (.str "raised")) (dCons (dC (.bl true)) (dCons (dCB dRepr (dCons (dVar 3) dNil)) dNil)))) dNil)) (dC (.int 2))))
def w4 (K : PySem.W.Frag) (PL : Addr) : DS := (dIfS (dTest (dCall sp_isRow (dCons (dVar 3) dNil))) (dSet 4 (dLst (dCons (dTup (dCons (dC (.str "returned")) (dCons (dCB dTuple (dCons (dCall sp_lread (dCons (dVar 3) dNil)) dNil)) dNil))) (dCons (dTup (dCons (dC (.str "returned")) (dCons (dCall sp_set (dCons (dVar 3) dNil)) dNil))) dNil)))) dNext)
def w5 (K : PySem.W.Frag) (PL : Addr) : DS := (dSet 5 (dLstM (dCons (dLam K PL (lamQ "law") 1 tl__law_tried (xIf (dTest (dOp dEq (dOp dOdd (dVar 2) (dC (.int 1))) (dC (.int 0)))) (xCall (spx_rd fun d => .tup (readsOf d)) (dCons (dVar 3) dNil)) (xCallK (spx_rd fun d => .tup (readsOf d)) 0 1 [0] dNil (dCons (dVar 3) dNil)))) dNil)))
def w6 (K : PySem.W.Frag) (PL : Addr) : DS := (dDrop (dMeth "list" dAppend (dVar 5) (dCons (dLam K PL (lamQ "law") 1 tl__law_tried (xIf (dTest (dOp dEq (dOp dOdd (dVar 2) (dC (.int 1))) (dC (.int 0)))) (xCall (spx_rd setOf) (dCons (dVar 3) dNil)) (xCallK (spx_rd setOf) 0 1 [0] dNil (dCons (dVar 3) dNil)))) dNil)))
def w7 (K : PySem.W.Frag) (PL : Addr) : DS := (dIfS (dTest (dOp dNe (dCB dRepr (dCons (dFrz (dVar 5)) dNil)) (dCB dRepr (dCons (dVar 4) dNil)))) (dRet (dC (.bl false))) dNext)
theorem leq (K : PySem.W.Frag) (PL : Addr) : t_law K PL sp_deck sp_draw sp_isRow sp_lread sp_set (sp_any 2) (sp_bent 2) sp_arow (spx_rd fun d => .tup (readsOf d)) (spx_rd setOf) = dSeq (dSet 1 (dCall sp_deck (dCons (dVar 0) dNil))) (dSeq (dFor (dRng1 (dCons (dC (.int 14)) dNil)) (gNm 2) (dSeq (w1 K PL) (dSeq (w2 K PL) (dSeq (w3 K PL) (dSeq (w4 K PL) (dSeq (w5 K PL) (dSeq (w6 K PL) (w7 K PL)))))))) (dRet (dC (.bl true)))) := rfl
def tbL (f : D → D) : DX := (xIf (dTest (dOp dEq (dOp dOdd (dVar 2) (dC (.int 1))) (dC (.int 0)))) (xCall (spx_rd f) (dCons (dVar 3) dNil)) (xCallK (spx_rd f) 0 1 [0] dNil (dCons (dVar 3) dNil)))
section
variable {M : Mem} {D0 : EndsD} {sc x : D} {p : Addr} {k : Nat} {s3 s4 s5 : Option D}
theorem lam_go {f : D → D} {R1 : RK} {XR : XD} (h : spx_rd f [x] M R1 XR) : tbL f [some sc, some (.ref p), some (.int (k : Nat)), some x, s4, s5] M R1 XR := by
  simp only [tbL, xIf, dTest, dOp, dVar, dC, slot, Option.some.injEq, exists_eq_left']
  refine ⟨k, rfl, rfl, q_eq_int.mpr ⟨_, rfl, ?_⟩⟩
  cases decide (((k % 2 : Nat) : Int) = 0)
  · simp only [Bool.false_eq_true, if_false, xCallK, dCons, dNil, dVar, slot, Option.some.injEq, exists_eq_left']
    exact ⟨rfl, rfl, h⟩
  · simp only [if_true, xCall, dCons, dNil, dVar, slot, Option.some.injEq, exists_eq_left']
    exact h
/-- what is told of x by f -/
def Tell (f : D → D) (x r : D) (T : Str) : Prop := r = if isRow x = true then .tup [.str "returned", f x] else .tup [.str "raised", .bl true, .str T]
theorem lamb_go {f : D → D} {Kf : PySem.W.Frag} {PL : Addr} {r : D} {T : Str} {R : RK} (hP : M PL = some (.tab (lamQ "law"))) (hx : dat x = true) (hT : Rp x T) (ht : Tell f x r T) (q : R r M) :
    dLam Kf PL (lamQ "law") 1 tl__law_tried (tbL f) [some sc, some (.ref p), some (.int (k : Nat)), some x, s4, s5] M R := by
  refine ⟨hP, fun g c vs ds => tried_go fun R1 XR hR hX => lam_go ⟨x, rfl, hx, fun z => ?_, fun z => ?_⟩⟩
  · unfold Tell at ht
    rw [if_neg (by rw [z]; exact Bool.false_ne_true)] at ht
    subst ht
    exact hX _ _ _ _ ⟨rfl, rfl, T, hT, q⟩
  · unfold Tell at ht
    rw [if_pos z] at ht
    subst ht
    exact hR _ _ q
theorem due_py {x : D} {T : Str} (hx : Bd 606 12 x) (hT : Rp x T) (hl : T.length ≤ 38000) : ∀ (f : D → D) (r : D), (isRow x = true → ∃ n, Py 13 n (f x) ∧ n ≤ 1500) → Tell f x r T → Py 14 38050 r := fun f r hf ht => by
  unfold Tell at ht
  split at ht
  · rename_i h
    subst ht
    obtain ⟨n, h1, h2⟩ := hf h
    exact (py_tup (pys_cons ((py_str (t := "returned") (sm_by (by decide))).mono (Nat.zero_le _) (Nat.le_refl _)) (pys_cons h1 pys_nil))).mono (Nat.le_refl _) (by rw [show ("returned" : Str).length = 8 by decide]; omega)
  · subst ht
    exact (py_tup (pys_cons ((py_str (t := "raised") (sm_by (by decide))).mono (Nat.zero_le _) (Nat.le_refl _)) (pys_cons ((py_bd (bd_bl (w := 0) (k := 0))).mono (Nat.zero_le _) (Nat.le_refl _)) (pys_cons (hT.py.mono (Nat.zero_le _) (Nat.le_refl _)) pys_nil)))).mono (show 1 ≤ 14 by decide) (by rw [show ("raised" : Str).length = 6 by decide]; omega)
theorem bd_reads {w k : Nat} : ∀ {ks : List Kd} {xs : List D}, (∀ x ∈ xs, Bd w k x) → (∀ d ∈ reads ks xs, Bd w k d) ∧ wts (reads ks xs) ≤ wts xs ∧ (reads ks xs).length ≤ wts xs
  | [], _, _ => ⟨by simp [reads], by simp [reads, wts], by simp [reads]⟩
  | _ :: _, [], _ => ⟨by simp [reads], by simp [reads, wts], by simp [reads]⟩
  | kk :: ks, x :: xs, h => by
    obtain ⟨a, b, c⟩ := bd_reads (ks := ks) (xs := xs) fun y hy => h y (by simp [hy])
    have hx := h x (by simp)
    have e : wts (x :: xs) = wt x + 1 + wts xs := rfl
    have none : reads (kk :: ks) (x :: xs) = reads ks xs → (∀ d ∈ reads (kk :: ks) (x :: xs), Bd w k d) ∧ wts (reads (kk :: ks) (x :: xs)) ≤ wts (x :: xs) ∧ (reads (kk :: ks) (x :: xs)).length ≤ wts (x :: xs) := fun e1 => by
      rw [e1, e]
      exact ⟨a, by omega, by omega⟩
    cases kk with
    | s =>
      refine ⟨fun d hd => ?_, ?_, ?_⟩
      · rcases List.mem_cons.mp hd with rfl | hd
        · exact hx
        · exact a d hd
      · show wt x + 1 + wts (reads ks xs) ≤ wt x + 1 + wts xs
        omega
      · show (reads ks xs).length + 1 ≤ wt x + 1 + wts xs
        omega
    | a =>
      have hi : (∀ d ∈ its x, Bd w k d) ∧ wts (its x) ≤ wt x := by
        cases x with
        | tup ys => exact ⟨fun d hd => (hx.mem hd).mono (Nat.le_refl _) (by omega), Nat.le_refl _⟩
        | _ => exact ⟨by simp [its], Nat.zero_le _⟩
      have hil := wts_len (its x)
      refine ⟨fun d hd => ?_, ?_, ?_⟩
      · rcases List.mem_append.mp (show d ∈ its x ++ reads ks xs from hd) with hd | hd
        · exact hi.1 d hd
        · exact a d hd
      · show wts (its x ++ reads ks xs) ≤ wt x + 1 + wts xs
        rw [wts_app]
        omega
      · show (its x ++ reads ks xs).length ≤ wt x + 1 + wts xs
        rw [List.length_append]
        omega
    | _ => exact none rfl
theorem py_readsOf {x : D} (hx : Bd 606 12 x) (h : isRow x = true) : ∃ n, Py 13 n (.tup (readsOf x)) ∧ n ≤ 1500 := by
  obtain ⟨s, r, xs, rfl, hl, hlen, hz, hq⟩ := row_of h
  have hxs : ∀ y ∈ xs, Bd 606 12 y := fun y hy => (hx.mem (by simp [hy])).mono (Nat.le_refl _) (by decide)
  obtain ⟨a, b, c⟩ := bd_reads (ks := r.k) hxs
  have hw := hx.wts
  have e : wts (DL.D.str s :: xs) = wt (.str s) + 1 + wts xs := rfl
  rw [hq]
  have hb : Bd 606 13 (.tup (reads r.k xs)) := ⟨gx_tup.mpr ⟨by omega, fun d hd => (a d hd).1⟩, by show wts _ ≤ _; omega, by
    have := dps_le (k := 12) fun d hd => (a d hd).2.2
    show dps _ + 1 ≤ 13
    omega⟩
  exact ⟨606, py_bd hb (by decide), by decide⟩
theorem py_setOf {x : D} (hx : Bd 606 12 x) (h : isRow x = true) : ∃ n, Py 13 n (setOf x) ∧ n ≤ 1500 := by
  have non : ∃ n, Py 13 n .non ∧ n ≤ 1500 := ⟨0, py_bd bd_non (by decide), by decide⟩
  unfold setOf
  split
  · rename_i s y ys
    split
    · split
      · exact ⟨606, (py_bd (hx.mem (d := y) (by simp)) (by decide)).mono (by decide) (Nat.le_refl _), by decide⟩
      · exact non
    · exact non
  · exact non
/-- one turn -/
def Wl (sc : D) (p : Addr) (M0 : Mem) (ρ : DEnv) (M : Mem) : Prop := ExtO M0 M ∧ ∃ s2 s3 s4 s5, ρ = [some sc, some (.ref p), s2, s3, s4, s5]
def wB (Kf : PySem.W.Frag) (PL : Addr) : DS := (dSeq (w1 Kf PL) (dSeq (w2 Kf PL) (dSeq (w3 Kf PL) (dSeq (w4 Kf PL) (dSeq (w5 Kf PL) (dSeq (w6 Kf PL) (w7 Kf PL)))))))
theorem turn_go {M0 : Mem} {Kf : PySem.W.Frag} {PL : Addr} (hd : Deck M0 p) (hP : M0 PL = some (.tab (lamQ "law"))) (xM : ExtO M0 M) (nx : ∀ ρ M2, Wl sc p M0 ρ M2 → D0.nx ρ M2) :
    wB Kf PL D0 [some sc, some (.ref p), some (.int (k : Nat)), s3, s4, s5] M := by
  have hdM := xM.deck hd
  simp only [wB, dSeq]
  have rowB : ∀ {x : D} {D0 : EndsD}, Bd 606 12 x → (∀ ρ M2, Wl sc p M0 ρ M2 → D0.nx ρ M2) → w3 Kf PL { D0 with nx := w4 Kf PL { D0 with nx := w5 Kf PL { D0 with nx := w6 Kf PL { D0 with nx := w7 Kf PL D0 } } } } [some sc, some (.ref p), some (.int (k : Nat)), some x, s4, s5] M := fun {x D0} hx nx => by
    have dx : dat x = true := hx.dat (by decide)
    obtain ⟨T, hT, hTl⟩ := hx.rp60 (by decide) (by decide)
    have hTl : T.length ≤ 38000 := by omega
    have re : Tell (fun d => .tup (readsOf d)) x (if isRow x = true then .tup [.str "returned", .tup (readsOf x)] else .tup [.str "raised", .bl true, .str T]) T := rfl
    have se : Tell setOf x (if isRow x = true then .tup [.str "returned", setOf x] else .tup [.str "raised", .bl true, .str T]) T := rfl
    have p1 := due_py hx hT hTl _ _ (py_readsOf hx) re
    have p2 := due_py hx hT hTl _ _ (py_setOf hx) se
    generalize e1 : (if isRow x = true then D.tup [.str "returned", .tup (readsOf x)] else .tup [.str "raised", .bl true, .str T]) = r1 at re p1
    generalize e2 : (if isRow x = true then D.tup [.str "returned", setOf x] else .tup [.str "raised", .bl true, .str T]) = r2 at se p2
    obtain ⟨U, hU⟩ := (py_lst (pys_cons p1 (pys_cons p2 pys_nil))).rp (by decide) (by omega)
    -- from the due on
    have rest : ∀ {M : Mem}, ExtO M0 M → w5 Kf PL { D0 with nx := w6 Kf PL { D0 with nx := w7 Kf PL D0 } } [some sc, some (.ref p), some (.int (k : Nat)), some x, some (.lst [r1, r2]), s5] M := fun {M} xM => by
      have hPM := xM.keep hP
      refine lamb_go (f := fun d => .tup (readsOf d)) (s4 := some (.lst [r1, r2])) hPM dx hT re ?_
      refine ⟨q_z1, fun b hb => ?_⟩
      have hb0 := xM.nn hb
      have xM2 : ExtO M0 (mset M b (.lst [r1])) := xM.new hb
      show w6 Kf PL _ [some sc, some (.ref p), some (.int (k : Nat)), some x, some (.lst [r1, r2]), some (.ref b)] (mset M b (.lst [r1]))
      refine es_app (P := (· = r2)) (i := 5) rfl mset_same (by simp) (fun R r => ?_) fun d e => ?_
      · exact lamb_go (f := setOf) (s4 := some (.lst [r1, r2])) (s5 := some (.ref b)) (xM2.keep hP) dx hT se (r _ rfl)
      · subst e
        rw [mset_mset]
        have xM3 : ExtO M0 (mset M b (.lst ([r1] ++ [d]))) := xM.new hb
        show w7 Kf PL D0 [some sc, some (.ref p), some (.int (k : Nat)), some x, some (.lst [r1, d]), some (.ref b)] (mset M b (.lst ([r1] ++ [d])))
        simp only [w7, dIfS]
        refine ne_frz (ds := [r1, d]) hU rfl rfl mset_same rfl ?_
        simp only [Bool.false_eq_true, if_false]
        rw [mdel_mset hb]
        exact nx _ _ ⟨xM, _, _, _, _, rfl⟩
    simp only [w3, dSet, dOp, dLstM, dTup, dCB, dCons, dNil, dVar, dC, slot, put, Option.some.injEq, exists_eq_left']
    refine hT.2.2 ⟨q_z3, q_z1, fun b hb => ⟨b, _, 2, rfl, rfl, mset_same, by decide, by decide, (by show 1 * 2 ≤ sizeLine; decide), ?_⟩⟩
    have xM2 : ExtO M0 (mset M b (.lst [.tup [.str "raised", .bl true, .str T]])) := xM.new hb
    refine es_ifB (b := isRow x) (et_val fun R h => ⟨_, rfl, x, rfl, dx, h⟩) (fun z => ?_) fun z => ?_
    · rw [if_pos z] at e1 e2
      subst e1 e2
      simp only [dSet, dLst, dTup, dCB, dCall, dCons, dNil, dC, dVar, slot, put, Option.some.injEq, exists_eq_left']
      exact ⟨x, rfl, dx, z, q_tuple_lst.mpr ⟨q_z2, x, rfl, dx, z, q_z2, q_z2, rest xM2⟩⟩
    · rw [if_neg (by rw [z]; exact Bool.false_ne_true)] at e1 e2
      subst e1 e2
      exact rest xM2
  refine es_set (P := Bd 114 6) (ev_if (et_gt ((ev_draw hdM rfl).mono fun d ⟨i, e, _⟩ => ⟨i, e⟩)) (fun R r => ?_) fun R r => ?_) fun x hx => ?_
  · exact ⟨_, rfl, p, rfl, hdM, fun d h => r d (h.mono (by decide) (by decide))⟩
  · exact ⟨_, rfl, p, rfl, hdM, fun d h => r d (h.mono (by decide) (by decide))⟩
  · refine es_if (et_eq ((ev_draw hdM rfl).mono fun d ⟨i, e, _⟩ => ⟨i, e⟩)) ?_ ?_
    · refine es_set (P := Bd 606 12) (fun R r => ⟨_, rfl, _, rfl, p, x, 114, 6, rfl, hdM, hx, by decide, fun d h => r d (h.mono (by decide) (by decide))⟩) fun y hy => ?_
      exact rowB hy nx
    · exact rowB (hx.mono (by decide) (by decide)) nx
end
def sp_law (PL : Addr) : SpD := fun ds M R _ => ∃ ns : List Int, ds = [.lst (ns.map .int)] ∧ ns.length ≤ 63 ∧ M PL = some (.tab (lamQ "law")) ∧ ∀ M2, R (.bl true) M2
theorem h_law (G : Facts w K mg) {c PL : Addr} (TB : LamX.TabB base mg c PL) (hc : ∀ (f : Addr), mg "law" = some (.ref f) → ∀ (oc : Value) (od : Option Addr) (fd : FuncData) (osl : Array (Option Value)), K.lookup f = some ⟨oc, od, .func fd, osl⟩ → fd.code = .ref c) :
    Has P w K mg base CX0 "law" s_law ["script"] 12 (sp_law PL) := by
  refine has_viewC hc G.f_law sc_law (fun _ _ _ _ ⟨_, e, _⟩ => by rw [e]; rfl) (fun f A outer s H E hr hG => p_law G (k := 9) ((h_deck G).mono (by decide)) ((h_draw G).mono (by decide)) ((h_lrow G).mono (by decide)) ((h_lread G).mono (by decide)) ((h_lset G).mono (by decide)) ((h_any G 2).mono (by decide)) ((h_bent G 2).mono (by decide)) ((h_arow G).mono (by decide)) ((hx_read G).mono (by decide)) ((hx_setx G).mono (by decide)) TB A outer s H E hr hG) fun ds M R XR ⟨ns, e, hl, hP, q⟩ => ?_
  subst e
  change t_law K PL sp_deck sp_draw sp_isRow sp_lread sp_set (sp_any 2) (sp_bent 2) sp_arow (spx_rd fun d => .tup (readsOf d)) (spx_rd setOf) (endsOf K R) [some (.lst (ns.map .int)), none, none, none, none, none] M
  rw [leq]
  simp only [dSeq]
  simp only [dSet, dCall, dCons, dNil, dVar, dC, slot, put, Option.some.injEq, exists_eq_left']
  refine ⟨ns, rfl, hl, fun p M1 hd keep => ?_⟩
  refine go_for (G := fun _ => True) (fun i ρ2 M2 => Wl (.lst (ns.map .int)) p M1 ρ2 M2) (it_rng (te := dC (.int 14)) (m := 14) (by decide) fun R h => h) ⟨ExtO.refl, _, _, _, _, rfl⟩ (fun i d ρ2 M2 hi ⟨xM, s2, s3, s4, s5, e2⟩ => ?_) (fun ρ2 M2 ⟨xM, s2, s3, s4, s5, e2⟩ => ?_)
  · subst e2
    obtain ⟨hi4, rfl⟩ := rng_at hi
    refine ⟨trivial, ?_⟩
    simp only [gNm, put]
    exact turn_go hd (keep _ _ hP) xM fun _ _ h => h
  · subst e2
    refine ⟨trivial, ?_⟩
    simp only [dRet, dC]
    exact .inl (q _)
end
end Yk31

set_option Elab.async false
set_option linter.all false
set_option maxHeartbeats 8000000
set_option maxRecDepth 100000
open PySem PySem.W PyProof.Rows DL Yk31
theorem Yk31.tab_mk {K : Frag} {x : Str} {f c Pt : Addr} {oc oc2 : Value} {od od2 : Option Addr} {fd : FuncData} {sl sl2 : Array (Option Value)} {vs : Array Value}
    (a : nsIn K mainGlobals x = some (some (.ref f))) (l : K.lookup f = some ⟨oc, od, .func fd, sl⟩) (hc : fd.code = .ref c) (m : K.lookup c = some ⟨oc2, od2, .fields vs, sl2⟩) (hp : vs[11]? = some (.ref Pt)) : tabIn K x = some (c, Pt) := by
  unfold tabIn
  simp only [a, l, hc, m, hp]
set_option maxHeartbeats 0 in
theorem PySem.Challenge.cw_eyesforever_k31_rows_read_and_set_holds : PySem.Challenge.rw_eyesforever_k31_rows_read_and_set.Holds := by
  w_on; o_law; k_head; (case hw => w_witness2)
  k_fill
  refine DL.walkDT (l := PySem.Challenge.rw_eyesforever_k31_rows_read_and_set) (n := 63) (k := 12) (x := "script") (ql := DL.lamQ "law") (st := Yk31.s_law) rfl (by decide) rfl ⟨rfl, by decide, by decide⟩ ?R (fun w h Y => PySem.W.km_in_of Y) Yk31.B_law ?F
  case R => first | rfl | kernel_rfl | decide +kernel
  case F =>
    intro w mg h KX G
    suffices hx : ∃ c Pt, tabIn _ ("law" : Str) = some (c, Pt) ∧ List.lookup Pt _ = none by
      obtain ⟨c, Pt, ht, nT⟩ := hx
      refine ⟨c, Pt, Yk31.sp_law Pt, ht, nT, fun ns hl => ⟨ns, rfl, hl, DL.mset_same, fun _ => rfl⟩, fun base KXb Gb TB => ?B⟩
      refine Yk31.h_law ?FF TB (DL.code_of KXb Gb ht)
      refine' Yk31.facts_mk KXb Gb ?a0 ?l0 ?c0 ?k0 ?a1 ?l1 ?c1 ?k1 ?a2 ?l2 ?c2 ?k2 ?a3 ?l3 ?c3 ?k3 ?a4 ?l4 ?c4 ?k4 ?a5 ?l5 ?c5 ?k5 ?a6 ?l6 ?c6 ?k6 ?a7 ?l7 ?c7 ?k7 ?a8 ?l8 ?c8 ?k8 ?a9 ?l9 ?c9 ?k9 ?a10 ?l10 ?c10 ?k10 ?a11 ?l11 ?c11 ?k11 ?a12 ?l12 ?c12 ?k12 ?a13 ?l13 ?c13 ?k13 ?a14 ?l14 ?c14 ?k14 ?a15 ?l15 ?c15 ?k15 ?a16 ?l16 ?c16 ?k16 ?a17 ?l17 ?c17 ?k17 ?a18 ?l18 ?c18 ?k18 ?a19 ?l19 ?c19 ?k19 ?a20 ?l20 ?c20 ?k20 ?a21 ?l21 ?c21 ?k21 ?a22 ?l22 ?c22 ?k22 ?a23 ?l23 ?c23 ?k23 ?a24 ?l24 ?c24 ?k24 ?a25 ?l25 ?c25 ?k25 ?z_all ?z_bool ?z_int ?z_isinstance ?z_len ?z_list ?z_max ?z_range ?z_repr ?z_sorted ?z_str ?z_tuple ?z_zip ?e_LONGEST_TAG ?e_SHAPES ?o_SHAPES ?l_SHAPES ?o_SHAPES_0 ?o_SHAPES_1 ?o_SHAPES_2 ?o_SHAPES_3 ?o_SHAPES_4 ?o_SHAPES_5 ?o_SHAPES_6 ?o_SHAPES_7 ?o_SHAPES_8 ?o_SHAPES_9 ?o_SHAPES_10 ?o_SHAPES_11 ?o_SHAPES_12 ?o_SHAPES_13 ?o_SHAPES_14 ?e_hSHAPES_0 ?e_hSHAPES_1 ?e_hSHAPES_2 ?e_hSHAPES_3 ?e_hSHAPES_4 ?e_hSHAPES_5 ?e_hSHAPES_6 ?e_hSHAPES_7 ?e_hSHAPES_8 ?e_hSHAPES_9 ?e_hSHAPES_10 ?e_hSHAPES_11 ?e_hSHAPES_12 ?e_hSHAPES_13 ?e_hSHAPES_14 ?e_SMALL ?gC_BadRow ?gC_EyesError ?xL_BadRow ?sa_BadRow ?ga_BadRow ?gg_BadRow ?no_BadRow ?i_BadRow ?t_BadRow ?l_BadRow ?c_BadRow ?k_BadRow ?e_BadRow ?ty_BadRow ?h_BadRow ?ac_BadRow ?mo_BadRow ?ex_BadRow_BadRow ?ki_BadRow_BadRow ?ex_BadRow_EyesError ?ki_BadRow_EyesError ?cls_sp ?cls_tk
      (case a0 => k_is); (case l0 => k_is); (case c0 => k_is); (case k0 => k_is); (case a1 => k_is); (case l1 => k_is); (case c1 => k_is); (case k1 => k_is); (case a2 => k_is); (case l2 => k_is); (case c2 => k_is); (case k2 => k_is); (case a3 => k_is); (case l3 => k_is); (case c3 => k_is); (case k3 => k_is); (case a4 => k_is); (case l4 => k_is); (case c4 => k_is); (case k4 => k_is); (case a5 => k_is); (case l5 => k_is); (case c5 => k_is); (case k5 => k_is); (case a6 => k_is); (case l6 => k_is); (case c6 => k_is); (case k6 => k_is); (case a7 => k_is); (case l7 => k_is); (case c7 => k_is); (case k7 => k_is); (case a8 => k_is); (case l8 => k_is); (case c8 => k_is); (case k8 => k_is); (case a9 => k_is); (case l9 => k_is); (case c9 => k_is); (case k9 => k_is); (case a10 => k_is); (case l10 => k_is); (case c10 => k_is); (case k10 => k_is); (case a11 => k_is); (case l11 => k_is); (case c11 => k_is); (case k11 => k_is); (case a12 => k_is); (case l12 => k_is); (case c12 => k_is); (case k12 => k_is); (case a13 => k_is); (case l13 => k_is); (case c13 => k_is); (case k13 => k_is); (case a14 => k_is); (case l14 => k_is); (case c14 => k_is); (case k14 => k_is); (case a15 => k_is); (case l15 => k_is); (case c15 => k_is); (case k15 => k_is); (case a16 => k_is); (case l16 => k_is); (case c16 => k_is); (case k16 => k_is); (case a17 => k_is); (case l17 => k_is); (case c17 => k_is); (case k17 => k_is); (case a18 => k_is); (case l18 => k_is); (case c18 => k_is); (case k18 => k_is); (case a19 => k_is); (case l19 => k_is); (case c19 => k_is); (case k19 => k_is); (case a20 => k_is); (case l20 => k_is); (case c20 => k_is); (case k20 => k_is); (case a21 => k_is); (case l21 => k_is); (case c21 => k_is); (case k21 => k_is); (case a22 => k_is); (case l22 => k_is); (case c22 => k_is); (case k22 => k_is); (case a23 => k_is); (case l23 => k_is); (case c23 => k_is); (case k23 => k_is); (case a24 => k_is); (case l24 => k_is); (case c24 => k_is); (case k24 => k_is); (case a25 => k_is); (case l25 => k_is); (case c25 => k_is); (case k25 => k_is); (case z_all => k_is); (case z_bool => k_is); (case z_int => k_is); (case z_isinstance => k_is); (case z_len => k_is); (case z_list => k_is); (case z_max => k_is); (case z_range => k_is); (case z_repr => k_is); (case z_sorted => k_is); (case z_str => k_is); (case z_tuple => k_is); (case z_zip => k_is); (case e_LONGEST_TAG => first | k_is | rfl | kernel_rfl | decide +kernel); (case e_SHAPES => first | k_is | rfl | kernel_rfl | decide +kernel); (case o_SHAPES => k_is); (case l_SHAPES => first | k_is | rfl | kernel_rfl | decide +kernel); (case o_SHAPES_0 => k_is); (case o_SHAPES_1 => k_is); (case o_SHAPES_2 => k_is); (case o_SHAPES_3 => k_is); (case o_SHAPES_4 => k_is); (case o_SHAPES_5 => k_is); (case o_SHAPES_6 => k_is); (case o_SHAPES_7 => k_is); (case o_SHAPES_8 => k_is); (case o_SHAPES_9 => k_is); (case o_SHAPES_10 => k_is); (case o_SHAPES_11 => k_is); (case o_SHAPES_12 => k_is); (case o_SHAPES_13 => k_is); (case o_SHAPES_14 => k_is); (case e_hSHAPES_0 => first | k_is | rfl | kernel_rfl | decide +kernel); (case e_hSHAPES_1 => first | k_is | rfl | kernel_rfl | decide +kernel); (case e_hSHAPES_2 => first | k_is | rfl | kernel_rfl | decide +kernel); (case e_hSHAPES_3 => first | k_is | rfl | kernel_rfl | decide +kernel); (case e_hSHAPES_4 => first | k_is | rfl | kernel_rfl | decide +kernel); (case e_hSHAPES_5 => first | k_is | rfl | kernel_rfl | decide +kernel); (case e_hSHAPES_6 => first | k_is | rfl | kernel_rfl | decide +kernel); (case e_hSHAPES_7 => first | k_is | rfl | kernel_rfl | decide +kernel); (case e_hSHAPES_8 => first | k_is | rfl | kernel_rfl | decide +kernel); (case e_hSHAPES_9 => first | k_is | rfl | kernel_rfl | decide +kernel); (case e_hSHAPES_10 => first | k_is | rfl | kernel_rfl | decide +kernel); (case e_hSHAPES_11 => first | k_is | rfl | kernel_rfl | decide +kernel); (case e_hSHAPES_12 => first | k_is | rfl | kernel_rfl | decide +kernel); (case e_hSHAPES_13 => first | k_is | rfl | kernel_rfl | decide +kernel); (case e_hSHAPES_14 => first | k_is | rfl | kernel_rfl | decide +kernel); (case e_SMALL => first | k_is | rfl | kernel_rfl | decide +kernel); (case gC_BadRow => k_is); (case gC_EyesError => k_is); (case xL_BadRow => first | k_is | rfl | kernel_rfl | decide +kernel); (case sa_BadRow => first | k_is | rfl | kernel_rfl | decide +kernel); (case ga_BadRow => first | k_is | rfl | kernel_rfl | decide +kernel); (case gg_BadRow => first | k_is | rfl | kernel_rfl | decide +kernel); (case no_BadRow => first | k_is | rfl | kernel_rfl | decide +kernel); (case i_BadRow => first | k_is | rfl | kernel_rfl | decide +kernel); (case t_BadRow => first | k_is | rfl | kernel_rfl | decide +kernel); (case l_BadRow => first | k_is | rfl | kernel_rfl | decide +kernel); (case c_BadRow => first | k_is | rfl | kernel_rfl | decide +kernel); (case k_BadRow => first | k_is | rfl | kernel_rfl | decide +kernel); (case e_BadRow => first | k_is | rfl | kernel_rfl | decide +kernel); (case ty_BadRow => first | k_is | rfl | kernel_rfl | decide +kernel); (case h_BadRow => first | k_is | rfl | kernel_rfl | decide +kernel); (case ac_BadRow => first | k_is | rfl | kernel_rfl | decide +kernel); (case mo_BadRow => first | k_is | rfl | kernel_rfl | decide +kernel); (case ex_BadRow_BadRow => first | k_is | rfl | kernel_rfl | decide +kernel); (case ki_BadRow_BadRow => first | k_is | rfl | kernel_rfl | decide +kernel); (case ex_BadRow_EyesError => first | k_is | rfl | kernel_rfl | decide +kernel); (case ki_BadRow_EyesError => first | k_is | rfl | kernel_rfl | decide +kernel); (case cls_sp => first | k_is | rfl | kernel_rfl | decide +kernel); (case cls_tk => first | k_is | rfl | kernel_rfl | decide +kernel)
    refine' ⟨_, _, Yk31.tab_mk ?ta ?tl ?tc ?tm ?tp, ?nT⟩
    (case ta => k_is); (case tl => k_is); (case tc => exact rfl); (case tm => k_is); (case tp => exact rfl); (case nT => first | kernel_rfl | exact rfl | decide +kernel)

