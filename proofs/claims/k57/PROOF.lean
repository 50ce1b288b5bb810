import PyProof.Rows.All
import HandS.ForMost
import HandS.Exc
import HandS.TryMany
import HandS.TryOnly
import HandS.Lambda
import HandS.ExcField
import HandS.ExcIs
import HandS.EndTab
import HandS.TupAny
import HandS.IsInst
import HandS.Style
import HandS.Wide
import KE.KIsAll
import HandS.SetKeys
import HandS.SetFor
import HandS.TupMul
import KE.GoesMore
import HandS.More
import PyProof.ReprBulk
import HandS.SortInts
import HandS.Text
import PyProof.Rows.SortStr
import PyProof.Rows.SortKeyStr
import KE.KRevSl
import HandS.Strs
import HandS.Iter
import KE.KNest
import PyProof.Rows.ReprOcc
import KE.GoesZip
import HandS.Zip
import HandS.WideBits
import HandS.TupSets
import HandS.ReCall
import PySem.Challenge.RW_eyesforever_k57_outcomes_and_clocks
set_option Elab.async false
set_option linter.all false
set_option maxHeartbeats 4000000
/-! D-layer, part 1: values by value (D), the small memory (Mem), what represents what, the lifted readings. -/
namespace DL
open PySem PySem.Spec PyProof.Rows L2

inductive D where
  | non | bl (b : Bool) | int (i : Int) | str (x : Str) | ty (n : String)
  | tup (xs : List D) | lst (xs : List D) | dct (ks : List Key) (vs : List D) | ref (a : Addr)
  | box (a c : Addr) (u : HO) (vs : List V) (ds : List D)
/-- what may still change: a list, a dict, a deck (its dict, whose first item is the list at b), what belongs to another one -/
inductive MO where
  | lst (xs : List D) | dct (ks : List Key) (vs : List D) | deck (ks : List Key) (b : Addr) | hid (a : Addr) | tab (q : Str) | obj (C : Addr) (ns : List Str) (ds : List D)
abbrev Mem := Addr → Option MO
def mset (M : Mem) (a : Addr) (o : MO) : Mem := fun b => if b = a then some o else M b
def mdel (M : Mem) (a : Addr) : Mem := fun b => if b = a then none else M b
theorem mset_same {M : Mem} {a : Addr} {o : MO} : mset M a o a = some o := if_pos rfl
theorem mset_ne {M : Mem} {a b : Addr} {o : MO} (h : b ≠ a) : mset M a o b = M b := if_neg h
theorem mdel_same {M : Mem} {a : Addr} : mdel M a a = none := if_pos rfl
theorem mdel_ne {M : Mem} {a b : Addr} (h : b ≠ a) : mdel M a b = M b := if_neg h
theorem mset_mset {M : Mem} {a : Addr} {o u : MO} : mset (mset M a o) a u = mset M a u := by
  funext b; unfold mset; split <;> rfl
theorem mset_self {M : Mem} {a : Addr} {o : MO} (h : M a = some o) : mset M a o = M := by
  funext b; unfold mset; split
  · rename_i e; rw [e, h]
  · rfl

/-- the written part, and the lists that are being made out of sight -/
structure KZ where
  k : PySem.W.Frag
  z : Addr → Prop
/-- a tuple, a list, a dict that nothing writes any more -/
def KT (K : PySem.W.Frag) (a : Addr) (xs : List V) : Prop :=
  ∃ (o : Obj) (its : Array Value) (n : Nat), K.lookup a = some o ∧ o.cls = .type "tuple" ∧ o.data = .seq its n ∧ its.size ≤ sizeLine ∧ Vals xs its.toList
def KL (K : PySem.W.Frag) (a : Addr) (xs : List V) : Prop :=
  ∃ (o : Obj) (its : Array Value) (n : Nat), K.lookup a = some o ∧ o.cls = .type "list" ∧ o.dict = none ∧ o.data = .seq its n ∧ its.size ≤ sizeLine ∧ Vals xs its.toList
def RdT (K : KZ) (M : Mem) (H : Hp) (a : Addr) (xs : List V) : Prop := (Rd H a (.tup xs) ∧ M a = none) ∨ KT K.k a xs
def RdL (K : KZ) (M : Mem) (H : Hp) (a : Addr) (xs : List V) : Prop := (Rd H a (.lst xs) ∧ M a = none ∧ ¬ K.z a) ∨ KL K.k a xs
def RdD (K : KZ) (M : Mem) (H : Hp) (a : Addr) (kvs : List (Key × V)) : Prop := Rd H a (.dK kvs) ∧ M a = none ∧ ¬ K.z a
theorem RdT.sq {K : KZ} {M : Mem} {H : Hp} {a : Addr} {xs : List V} (h : RdT K M H a xs) : SqT K.k H a xs := h.elim (fun q => .inl q.1) .inr
theorem RdL.sq {K : KZ} {M : Mem} {H : Hp} {a : Addr} {xs : List V} (h : RdL K M H a xs) : SqL K.k H a xs := h.elim (fun q => .inl q.1) .inr

/-- what a box may stand for: an exception's dict, a code object, a tuple that is known -/
def Bx (u : HO) : Prop := (∃ fs, u = .xd fs) ∨ (∃ P, u = .ext P) ∨ ∃ o vs, u = .frz o (.tup vs)
mutual
inductive Rep (K : KZ) (M : Mem) (H : Hp) : V → D → Prop
  | non : Rep K M H .non .non
  | bl (b : Bool) : Rep K M H (.bl b) (.bl b)
  | int (i : Int) : Rep K M H (.int i) (.int i)
  | str (x : Str) : Rep K M H (.str x) (.str x)
  | ty (n : String) : Rep K M H (.ty n) (.ty n)
  | ref (a : Addr) : Rep K M H (.ref a) (.ref a)
  | tup {a : Addr} {vs : List V} {ds : List D} : RdT K M H a vs → Reps K M H vs ds → Rep K M H (.ref a) (.tup ds)
  | lst {a : Addr} {vs : List V} {ds : List D} : RdL K M H a vs → Reps K M H vs ds → Rep K M H (.ref a) (.lst ds)
  | dct {a : Addr} {kvs : List (Key × V)} {ks : List Key} {vs : List V} {ds : List D} : RdD K M H a kvs → kvs.map (·.1) = ks → kvs.map (·.2) = vs → Reps K M H vs ds → Rep K M H (.ref a) (.dct ks ds)
  | box {a c : Addr} {u : HO} {vs : List V} {ds : List D} : Bx u → H c = some u → M c = none → ¬ K.z c → Reps K M H vs ds → Rep K M H (.ref a) (.box a c u vs ds)
inductive Reps (K : KZ) (M : Mem) (H : Hp) : List V → List D → Prop
  | nil : Reps K M H [] []
  | cons {v : V} {vs : List V} {d : D} {ds : List D} : Rep K M H v d → Reps K M H vs ds → Reps K M H (v :: vs) (d :: ds)
end

/-- the table of code objects at a: all of the name q -/
def TabD (K : KZ) (M : Mem) (H : Hp) (a : Addr) (q : Str) : Prop :=
  ∃ ps : Array Value, H a = some (.tbl ps) ∧ TriplesOk ps.toList ∧ ∀ (pos : Pos) (cv : Value), codeAmong pos ps.toList = some cv → ∃ c, cv = .ref c ∧ H c = some (LamX.CodeO c q) ∧ M c = none ∧ ¬ K.z c
theorem bx_code {c : Addr} {q : Str} : Bx (LamX.CodeO c q) := .inr (.inl ⟨_, rfl⟩)
theorem TabD.map {K K' : KZ} {M M' : Mem} {H H' : Hp} {a : Addr} {q : Str} (t : TabD K M H a q) (ha : H' a = H a) (hc : ∀ c u, Bx u → H c = some u → M c = none → ¬ K.z c → H' c = some u ∧ M' c = none ∧ ¬ K'.z c) : TabD K' M' H' a q := by
  obtain ⟨ps, h1, h2, h3⟩ := t
  refine ⟨ps, ha.trans h1, h2, fun pos cv e => ?_⟩
  obtain ⟨c, e1, e2, e3, e4⟩ := h3 pos cv e
  exact ⟨c, e1, hc c _ bx_code e2 e3 e4⟩
/-- what stands at an address of the small memory -/
def ObjRep (K : KZ) (M : Mem) (H : Hp) (a : Addr) : MO → Prop
  | .lst ds => ∃ vs, H a = some (.lst vs) ∧ Reps K M H vs ds
  | .dct ks ds => ∃ kvs, H a = some (.dK kvs) ∧ kvs.map (·.1) = ks ∧ Reps K M H (kvs.map (·.2)) ds
  | .deck ks b => ∃ (k1 k2 k3 : Key) (m n : Int) (ns : { l : List Int // l.length ≤ 1000 }), ks = [k1, k2, k3] ∧ H a = some (.dK [(k1, .ref b), (k2, .int m), (k3, .int n)]) ∧ H b = some (.lst (ns.1.map .int)) ∧ M b = some (.hid a)
  | .hid _ => ∃ o, H a = some o
  | .tab q => TabD K M H a q
  | .obj C ns ds => ∃ (dx : Addr) (fs : List (Str × V)), H a = some (.ins C dx fs) ∧ fs.map (·.1) = ns ∧ Reps K M H (fs.map (·.2)) ds
structure MAbs (K : KZ) (M : Mem) (H : Hp) : Prop where
  at_ : ∀ a o, M a = some o → ObjRep K M H a o
  out : ∀ a o, M a = some o → ¬ K.z a
  zat : ∀ a, K.z a → ∃ o, H a = some o
/-- what isn't in the small memory stays as it is -/
def Frame (M : Mem) (H : Hp) (M' : Mem) (H' : Hp) : Prop := ∀ c, H c ≠ none → M c = none → H' c = H c ∧ M' c = none
theorem Frame.refl {M : Mem} {H : Hp} : Frame M H M H := fun _ _ h => ⟨rfl, h⟩
theorem Frame.trans {M M1 M2 : Mem} {H H1 H2 : Hp} (f : Frame M H M1 H1) (g : Frame M1 H1 M2 H2) : Frame M H M2 H2 := fun c h n => by
  obtain ⟨e1, n1⟩ := f c h n
  obtain ⟨e2, n2⟩ := g c (by rw [e1]; exact h) n1
  exact ⟨e2.trans e1, n2⟩

section
variable {K : KZ} {M M' : Mem} {H H' : Hp}
theorem Frame.rd (f : Frame M H M' H') {a : Addr} {u : HO} (r : Rd H a u) (n : M a = none) : Rd H' a u ∧ M' a = none := by
  have hne : H a ≠ none := by
    rcases r with e | ⟨o, e⟩ <;> (rw [e]; exact nofun)
  obtain ⟨e, n'⟩ := f a hne n
  refine ⟨?_, n'⟩
  unfold Rd
  rw [e]
  exact r
theorem RdT.fr (f : Frame M H M' H') {a : Addr} {xs : List V} : RdT K M H a xs → RdT K M' H' a xs
  | .inl ⟨r, n⟩ => .inl (f.rd r n)
  | .inr k => .inr k
theorem RdL.fr (f : Frame M H M' H') {a : Addr} {xs : List V} : RdL K M H a xs → RdL K M' H' a xs
  | .inl ⟨r, n, z⟩ => let ⟨a, b⟩ := f.rd r n; .inl ⟨a, b, z⟩
  | .inr k => .inr k
theorem RdD.fr (f : Frame M H M' H') {a : Addr} {xs : List (Key × V)} : RdD K M H a xs → RdD K M' H' a xs
  | ⟨r, n, z⟩ => let ⟨a, b⟩ := f.rd r n; ⟨a, b, z⟩
mutual
theorem Rep.fr (f : Frame M H M' H') : ∀ {v : V} {d : D}, Rep K M H v d → Rep K M' H' v d
  | _, _, .non => .non
  | _, _, .bl b => .bl b
  | _, _, .int i => .int i
  | _, _, .str x => .str x
  | _, _, .ty n => .ty n
  | _, _, .ref a => .ref a
  | _, _, .tup h r => .tup (h.fr f) (Reps.fr f r)
  | _, _, .lst h r => .lst (h.fr f) (Reps.fr f r)
  | _, _, .dct h e1 e2 r => .dct (h.fr f) e1 e2 (Reps.fr f r)
  | _, _, .box bx h n z r => .box bx ((f _ (by rw [h]; exact nofun) n).1.trans h) (f _ (by rw [h]; exact nofun) n).2 z (Reps.fr f r)
theorem Reps.fr (f : Frame M H M' H') : ∀ {vs : List V} {ds : List D}, Reps K M H vs ds → Reps K M' H' vs ds
  | _, _, .nil => .nil
  | _, _, .cons r rs => .cons (Rep.fr f r) (Reps.fr f rs)
end
theorem Reps.length : ∀ {vs : List V} {ds : List D}, Reps K M H vs ds → vs.length = ds.length
  | _, _, .nil => rfl
  | _, _, .cons _ t => congrArg (· + 1) t.length
theorem Reps.append : ∀ {vs ws : List V} {ds es : List D}, Reps K M H vs ds → Reps K M H ws es → Reps K M H (vs ++ ws) (ds ++ es)
  | _, _, _, _, .nil, s => s
  | _, _, _, _, .cons r t, s => .cons r (t.append s)
theorem Reps.take : ∀ {vs : List V} {ds : List D} (n : Nat), Reps K M H vs ds → Reps K M H (vs.take n) (ds.take n)
  | _, _, 0, _ => .nil
  | _, _, _ + 1, .nil => .nil
  | _, _, n + 1, .cons r t => .cons r (t.take n)
theorem Reps.drop : ∀ {vs : List V} {ds : List D} (n : Nat), Reps K M H vs ds → Reps K M H (vs.drop n) (ds.drop n)
  | _, _, 0, r => r
  | _, _, _ + 1, .nil => .nil
  | _, _, n + 1, .cons r t => t.drop n
theorem Reps.reverse : ∀ {vs : List V} {ds : List D}, Reps K M H vs ds → Reps K M H vs.reverse ds.reverse
  | _, _, .nil => .nil
  | _, _, .cons r t => by
    rw [List.reverse_cons, List.reverse_cons]
    exact t.reverse.append (.cons r .nil)
theorem Reps.get : ∀ {vs : List V} {ds : List D} {i : Nat} {d : D}, Reps K M H vs ds → ds[i]? = some d → ∃ v, vs[i]? = some v ∧ Rep K M H v d
  | _, _, _, _, .nil, e => by simp at e
  | _, _, 0, _, .cons r _, e => by simp at e; subst e; exact ⟨_, rfl, r⟩
  | _, _, i + 1, d, .cons _ t, e => by
    obtain ⟨v, h1, h2⟩ := Reps.get (i := i) (d := d) t (by simpa using e)
    exact ⟨v, by simpa using h1, h2⟩
theorem Reps.getV : ∀ {vs : List V} {ds : List D} {i : Nat} {v : V}, Reps K M H vs ds → vs[i]? = some v → ∃ d, ds[i]? = some d ∧ Rep K M H v d
  | _, _, _, _, .nil, e => by simp at e
  | _, _, 0, _, .cons r _, e => by simp at e; subst e; exact ⟨_, rfl, r⟩
  | _, _, i + 1, v, .cons _ t, e => by
    obtain ⟨d, h1, h2⟩ := Reps.getV (i := i) (v := v) t (by simpa using e)
    exact ⟨d, by simpa using h1, h2⟩
theorem Reps.set : ∀ {vs : List V} {ds : List D} {v : V} {d : D} (i : Nat), Reps K M H vs ds → Rep K M H v d → Reps K M H (vs.set i v) (ds.set i d)
  | _, _, _, _, _, .nil, _ => .nil
  | _, _, _, _, 0, .cons _ t, r => .cons r t
  | _, _, _, _, i + 1, .cons q t, r => .cons q (t.set i r)
theorem Reps.dropLast : ∀ {vs : List V} {ds : List D}, Reps K M H vs ds → Reps K M H vs.dropLast ds.dropLast := fun {vs ds} r => by
  rw [List.dropLast_eq_take, List.dropLast_eq_take, r.length]
  exact r.take _
theorem Reps.ints : ∀ (ns : List Int), Reps K M H (ns.map .int) (ns.map .int)
  | [] => .nil
  | n :: ns => .cons (.int n) (Reps.ints ns)
theorem Reps.of_ints : ∀ {vs : List V} (ns : List Int), Reps K M H vs (ns.map .int) → vs = ns.map .int
  | _, [], h => by cases h; rfl
  | _, n :: ns, h => by
    cases h with
    | cons r t =>
      cases r
      rw [Reps.of_ints ns t]
      rfl

theorem MAbs.there (A : MAbs K M H) {a : Addr} {o : MO} (e : M a = some o) : ∃ u, H a = some u := by
  have h := A.at_ a o e
  cases o with
  | lst ds => obtain ⟨_, e, _⟩ := h; exact ⟨_, e⟩
  | dct ks ds => obtain ⟨_, e, _⟩ := h; exact ⟨_, e⟩
  | deck ks b => obtain ⟨_, _, _, _, _, _, _, e, _⟩ := h; exact ⟨_, e⟩
  | hid c => exact h
  | tab q => obtain ⟨_, e, _⟩ := h; exact ⟨_, e⟩
  | obj C ns ds => obtain ⟨_, _, e, _⟩ := h; exact ⟨_, e⟩
theorem MAbs.free (A : MAbs K M H) {a : Addr} (e : H a = none) : M a = none := by
  cases q : M a with
  | none => rfl
  | some o =>
    obtain ⟨u, z⟩ := A.there q
    rw [e] at z; cases z
theorem MAbs.zown (A : MAbs K M H) {a : Addr} (z : K.z a) : M a = none := by
  cases q : M a with
  | none => rfl
  | some o => exact absurd z (A.out a o q)
theorem MAbs.znew (A : MAbs K M H) {a : Addr} (e : H a = none) : ¬ K.z a := fun z => by
  obtain ⟨o, q⟩ := A.zat a z
  rw [e] at q; cases q
/-- one step of the memory -/
theorem MAbs.step (A : MAbs K M H) (f : Frame M H M' H')
    (h : ∀ a o, M' a = some o → (M a = some o ∧ H' a = H a ∧ ∀ ks b, o = .deck ks b → M' b = M b ∧ H' b = H b) ∨ ObjRep K M' H' a o) : MAbs K M' H' := by
  have zz : ∀ a, K.z a → ∃ o, H a = some o ∧ H' a = some o ∧ M' a = none := fun a z => by
    obtain ⟨o, e⟩ := A.zat a z
    obtain ⟨e1, e2⟩ := f a (by rw [e]; exact nofun) (A.zown z)
    exact ⟨o, e, e1.trans e, e2⟩
  refine ⟨fun a o e => ?_, fun a o e z => ?_, fun a z => ?_⟩
  · rcases h a o e with ⟨e1, e2, e3⟩ | q
    · have x := A.at_ a o e1
      cases o with
      | lst ds =>
        obtain ⟨vs, q, r⟩ := x
        exact ⟨vs, by rw [e2]; exact q, r.fr f⟩
      | dct ks ds =>
        obtain ⟨vs, q, k, r⟩ := x
        exact ⟨vs, by rw [e2]; exact q, k, r.fr f⟩
      | deck ks b =>
        obtain ⟨k1, k2, k3, m, n, ns, e0, q, qb, mb⟩ := x
        obtain ⟨z1, z2⟩ := e3 ks b rfl
        exact ⟨k1, k2, k3, m, n, ns, e0, by rw [e2]; exact q, by rw [z2]; exact qb, by rw [z1]; exact mb⟩
      | hid c =>
        obtain ⟨u, q⟩ := x
        exact ⟨u, by rw [e2]; exact q⟩
      | obj C ns ds =>
        obtain ⟨dx, fs, q, k, r⟩ := x
        exact ⟨dx, fs, by rw [e2]; exact q, k, r.fr f⟩
      | tab q => exact TabD.map x e2 fun c u _ h n nz => ⟨(f c (by rw [h]; exact nofun) n).1.trans h, (f c (by rw [h]; exact nofun) n).2, nz⟩
    · exact q
  · obtain ⟨_, _, _, n⟩ := zz a z
    rw [e] at n; cases n
  · obtain ⟨o, _, q, _⟩ := zz a z
    exact ⟨o, q⟩
/-- the memory stays, a new object stands in the heap -/
theorem Frame.new {p : Addr} {u : HO} (hp : H p = none) : Frame M H M (upd H p u) := fun c h n => by
  have : c ≠ p := fun e => h (by rw [e]; exact hp)
  exact ⟨upd_ne this, n⟩
theorem MAbs.new (A : MAbs K M H) {p : Addr} {u : HO} (hp : H p = none) : MAbs K M (upd H p u) := by
  refine A.step (Frame.new hp) fun a o e => .inl ⟨e, ?_, fun ks b eo => ⟨rfl, ?_⟩⟩
  · obtain ⟨w, q⟩ := A.there e
    exact upd_ne (ne_of_none q hp)
  · subst eo
    obtain ⟨_, _, _, _, _, _, _, _, qb, _⟩ := A.at_ a _ e
    exact upd_ne (ne_of_none qb hp)
/-- a new object of the memory -/
theorem Frame.newM {p : Addr} {u : HO} {o : MO} (A : MAbs K M H) (hp : H p = none) : Frame M H (mset M p o) (upd H p u) := fun c h n => by
  have : c ≠ p := fun e => h (by rw [e]; exact hp)
  exact ⟨upd_ne this, by rw [mset_ne this]; exact n⟩
theorem MAbs.newM (A : MAbs K M H) {p : Addr} {u : HO} {o : MO} (hp : H p = none) (q : ObjRep K (mset M p o) (upd H p u) p o) : MAbs K (mset M p o) (upd H p u) := by
  refine A.step (Frame.newM A hp) fun a o' e => ?_
  by_cases z : a = p
  · subst z
    rw [mset_same] at e
    cases e
    exact .inr q
  · rw [mset_ne z] at e
    refine .inl ⟨e, upd_ne z, fun ks b eo => ?_⟩
    subst eo
    obtain ⟨_, _, _, _, _, _, _, _, qb, _⟩ := A.at_ a _ e
    have hb : b ≠ p := ne_of_none qb hp
    exact ⟨mset_ne hb, upd_ne hb⟩
/-- what may be written by itself -/
def MO.own : MO → Prop
  | .lst _ => True
  | .dct _ _ => True
  | .obj _ _ _ => True
  | _ => False
theorem Frame.wr {a : Addr} {u : HO} {o o' : MO} (e : M a = some o) : Frame M H (mset M a o') (upd H a u) := fun c h n => by
  have : c ≠ a := fun z => by rw [z, e] at n; cases n
  exact ⟨upd_ne this, by rw [mset_ne this]; exact n⟩
theorem MAbs.wr (A : MAbs K M H) {a : Addr} {u : HO} {o o' : MO} (e : M a = some o) (w : o.own) (q : ObjRep K (mset M a o') (upd H a u) a o') : MAbs K (mset M a o') (upd H a u) := by
  refine A.step (Frame.wr e) fun c x ec => ?_
  by_cases z : c = a
  · subst z
    rw [mset_same] at ec
    cases ec
    exact .inr q
  · rw [mset_ne z] at ec
    refine .inl ⟨ec, upd_ne z, fun ks b eo => ?_⟩
    subst eo
    obtain ⟨_, _, _, _, _, _, _, _, _, mb⟩ := A.at_ c _ ec
    have hb : b ≠ a := fun y => by
      rw [y, e] at mb
      cases mb
      exact w.elim
    exact ⟨mset_ne hb, upd_ne hb⟩
end

/-! ### views: the same state seen otherwise -/
/-- the memory M with the value d may be seen as M' with d' -/
def View (K : PySem.W.Frag) (M : Mem) (d : D) (M' : Mem) (d' : D) : Prop :=
  ∀ z H v, MAbs ⟨K, z⟩ M H → Rep ⟨K, z⟩ M H v d → MAbs ⟨K, z⟩ M' H ∧ Rep ⟨K, z⟩ M' H v d' ∧ ∀ c, M c = none → M' c = none
def MView (K : PySem.W.Frag) (M M' : Mem) : Prop := ∀ z H, MAbs ⟨K, z⟩ M H → MAbs ⟨K, z⟩ M' H ∧ Frame M H M' H
theorem MView.refl {K : PySem.W.Frag} {M : Mem} : MView K M M := fun _ _ A => ⟨A, Frame.refl⟩
theorem MView.trans {K : PySem.W.Frag} {M M1 M2 : Mem} (a : MView K M M1) (b : MView K M1 M2) : MView K M M2 := fun z H A => by
  obtain ⟨A1, f1⟩ := a z H A
  obtain ⟨A2, f2⟩ := b z H A1
  exact ⟨A2, f1.trans f2⟩
/-- less is known -/
def Sub (M' M : Mem) : Prop := ∀ a o, M' a = some o → M a = some o
/-- what may be forgotten: no deck's own list -/
def SubOk (M' M : Mem) : Prop := Sub M' M ∧ ∀ a ks b, M' a = some (.deck ks b) → M' b = M b
theorem MView.sub {K : PySem.W.Frag} {M M' : Mem} (s : SubOk M' M) : MView K M M' := fun z H A => by
  have f : Frame M H M' H := fun c h n => ⟨rfl, by
    cases q : M' c with
    | none => rfl
    | some o => rw [s.1 c o q] at n; cases n⟩
  exact ⟨A.step f fun a o e => .inl ⟨s.1 a o e, rfl, fun ks b eo => ⟨s.2 a ks b (by rw [e, eo]), rfl⟩⟩, f⟩
/-- a list, a dict is frozen -/
theorem Rep.del {K : KZ} {M : Mem} {H : Hp} {a : Addr} {v : V} {d : D} (r : Rep K M H v d) : Rep K (mdel M a) H v d :=
  r.fr fun c _ n => ⟨rfl, by unfold mdel; split <;> simp_all⟩
theorem Reps.del {K : KZ} {M : Mem} {H : Hp} {a : Addr} {vs : List V} {ds : List D} (r : Reps K M H vs ds) : Reps K (mdel M a) H vs ds :=
  r.fr fun c _ n => ⟨rfl, by unfold mdel; split <;> simp_all⟩
theorem subOk_del {M : Mem} {a : Addr} (h : ∀ c, M a ≠ some (.hid c)) : Sub (mdel M a) M ∧ ∀ K H, MAbs K M H → ∀ c ks b, mdel M a c = some (.deck ks b) → mdel M a b = M b := by
  refine ⟨fun c o e => ?_, fun K H A c ks b e => ?_⟩
  · by_cases z : c = a
    · subst z; rw [mdel_same] at e; cases e
    · rw [mdel_ne z] at e; exact e
  · by_cases z : c = a
    · subst z; rw [mdel_same] at e; cases e
    · rw [mdel_ne z] at e
      obtain ⟨_, _, _, _, _, _, _, _, _, mb⟩ := A.at_ c _ e
      by_cases y : b = a
      · subst y; exact absurd mb (h c)
      · exact mdel_ne y
theorem MAbs.del {K : KZ} {M : Mem} {H : Hp} {a : Addr} (A : MAbs K M H) (h : ∀ c, M a ≠ some (.hid c)) : MAbs K (mdel M a) H ∧ Frame M H (mdel M a) H :=
  let ⟨s, q⟩ := subOk_del h
  MView.sub ⟨s, q K H A⟩ K.z H A
theorem View.lst {K : PySem.W.Frag} {M : Mem} {a : Addr} {ds : List D} (e : M a = some (.lst ds)) : View K M (.ref a) (mdel M a) (.lst ds) := fun z H v A r => by
  have h : ∀ c, M a ≠ some (.hid c) := fun c y => by rw [e] at y; cases y
  obtain ⟨vs, q, rs⟩ := A.at_ a _ e
  refine ⟨(A.del h).1, ?_, fun c n => ((mdel_ne (show c ≠ a from fun z => by rw [z, e] at n; cases n)).trans n)⟩
  cases r with
  | ref => exact .lst (.inl ⟨.inl q, mdel_same, A.out a _ e⟩) rs.del
theorem View.dct {K : PySem.W.Frag} {M : Mem} {a : Addr} {ks : List Key} {ds : List D} (e : M a = some (.dct ks ds)) : View K M (.ref a) (mdel M a) (.dct ks ds) := fun z H v A r => by
  have h : ∀ c, M a ≠ some (.hid c) := fun c y => by rw [e] at y; cases y
  obtain ⟨kvs, q, ek, rs⟩ := A.at_ a _ e
  refine ⟨(A.del h).1, ?_, fun c n => ((mdel_ne (show c ≠ a from fun z => by rw [z, e] at n; cases n)).trans n)⟩
  cases r with
  | ref => exact .dct ⟨.inl q, mdel_same, A.out a _ e⟩ ek rfl rs.del
theorem View.refl {K : PySem.W.Frag} {M : Mem} {d : D} : View K M d M d := fun _ _ _ A r => ⟨A, r, fun _ n => n⟩
theorem View.fr {M M' : Mem} {H : Hp} (f : ∀ c, M c = none → M' c = none) : Frame M H M' H := fun c _ n => ⟨rfl, f c n⟩
theorem View.mem {K : PySem.W.Frag} {M M' : Mem} {d : D} (h : MView K M M') (n : ∀ c, M c = none → M' c = none) : View K M d M' d := fun z H v A r => ⟨(h z H A).1, r.fr (h z H A).2, n⟩
theorem View.trans {K : PySem.W.Frag} {M M1 M2 : Mem} {d d1 d2 : D} (a : View K M d M1 d1) (b : View K M1 d1 M2 d2) : View K M d M2 d2 := fun z H v A r => by
  obtain ⟨A1, r1, n1⟩ := a z H v A r
  obtain ⟨A2, r2, n2⟩ := b z H v A1 r1
  exact ⟨A2, r2, fun c n => n2 c (n1 c n)⟩

/-! ### the names' values -/
abbrev DEnv := List (Option D)
def slot : DEnv → Nat → Option D
  | [], _ => none
  | x :: _, 0 => x
  | _ :: r, n + 1 => slot r n
def put : DEnv → Nat → D → DEnv
  | [], _, _ => []
  | _ :: r, 0, d => some d :: r
  | x :: r, n + 1, d => x :: put r n d
def dwipe : DEnv → List Nat → DEnv
  | ρ, [] => ρ
  | ρ, i :: is => (dwipe ρ is).set i none
inductive SAbs (K : KZ) (M : Mem) (H : Hp) : DEnv → L2.St → Prop
  | nil : SAbs K M H [] []
  | off {x : Option V} {ρ : DEnv} {σ : L2.St} : SAbs K M H ρ σ → SAbs K M H (none :: ρ) (x :: σ)
  | on {v : V} {d : D} {ρ : DEnv} {σ : L2.St} : Rep K M H v d → SAbs K M H ρ σ → SAbs K M H (some d :: ρ) (some v :: σ)
section
variable {K : KZ} {M M' : Mem} {H H' : Hp}
theorem SAbs.fr (f : Frame M H M' H') : ∀ {ρ : DEnv} {σ : L2.St}, SAbs K M H ρ σ → SAbs K M' H' ρ σ
  | _, _, .nil => .nil
  | _, _, .off t => .off (t.fr f)
  | _, _, .on r t => .on (r.fr f) (t.fr f)
theorem SAbs.get : ∀ {ρ : DEnv} {σ : L2.St} {i : Nat} {d : D}, SAbs K M H ρ σ → slot ρ i = some d → ∃ v, σ[i]? = some (some v) ∧ Rep K M H v d
  | _, _, _, _, .nil, e => by cases e
  | _, _, 0, _, .off _, e => by cases e
  | _, _, 0, _, .on r _, e => by cases e; exact ⟨_, rfl, r⟩
  | _, _, i + 1, d, .off t, e => SAbs.get (i := i) t e
  | _, _, i + 1, d, .on _ t, e => SAbs.get (i := i) t e
theorem SAbs.put : ∀ {ρ : DEnv} {σ : L2.St} {v : V} {d : D} (i : Nat), SAbs K M H ρ σ → Rep K M H v d → SAbs K M H (put ρ i d) (σ.set i (some v))
  | _, _, _, _, _, .nil, _ => .nil
  | _, _, _, _, 0, .off t, r => .on r t
  | _, _, _, _, 0, .on _ t, r => .on r t
  | _, _, _, _, i + 1, .off t, r => .off (t.put i r)
  | _, _, _, _, i + 1, .on q t, r => .on q (t.put i r)
theorem SAbs.un : ∀ {ρ : DEnv} {σ : L2.St} {x : Option V} (i : Nat), SAbs K M H ρ σ → SAbs K M H (ρ.set i none) (σ.set i x)
  | _, _, _, _, .nil => .nil
  | _, _, _, 0, .off t => .off t
  | _, _, _, 0, .on _ t => .off t
  | _, _, _, i + 1, .off t => .off (t.un i)
  | _, _, _, i + 1, .on q t => .on q (t.un i)
theorem SAbs.wipe {ρ : DEnv} {σ : L2.St} (h : SAbs K M H ρ σ) : ∀ (is : List Nat), SAbs K M H (dwipe ρ is) (L2.wipe σ is)
  | [] => h
  | i :: is => by
    unfold L2.wipe dwipe
    exact (h.wipe is).un i
theorem SAbs.start {vs : List V} {ds : List D} (r : Reps K M H vs ds) (n : Nat) : SAbs K M H (ds.map some ++ List.replicate n none) (vs.map some ++ List.replicate n none) := by
  induction vs generalizing ds with
  | nil =>
    cases r
    show SAbs K M H (List.replicate n none) (List.replicate n none)
    induction n with
    | zero => exact .nil
    | succ n ih => exact .off ih
  | cons v vs ih =>
    cases r with
    | cons r t => exact .on r (ih t)
end

/-! ### the lifted readings -/
abbrev RK := D → Mem → Prop
abbrev DE := DEnv → Mem → RK → Prop
abbrev DT := DEnv → Mem → (Bool → Mem → Prop) → Prop
abbrev DA := DEnv → Mem → (List D → Mem → Prop) → Prop
def Fin (K : KZ) (M : Mem) (H : Hp) (R : RK) (Q : VK) : Prop := ∀ d M' v H', R d M' → Rep K M' H' v d → MAbs K M' H' → Frame M H M' H' → Q v H'
def FinT (K : KZ) (M : Mem) (H : Hp) (R : Bool → Mem → Prop) (Q : Bool → Hp → Prop) : Prop := ∀ b M' H', R b M' → MAbs K M' H' → Frame M H M' H' → Q b H'
def FinA (K : KZ) (M : Mem) (H : Hp) (R : List D → Mem → Prop) (Q : List V → Hp → Prop) : Prop := ∀ ds M' vs H', R ds M' → Reps K M' H' vs ds → MAbs K M' H' → Frame M H M' H' → Q vs H'
def LS (K : KZ) (M : Mem) (H : Hp) (P : DEnv → Mem → Prop) (N : L2.St → Hp → Prop) : Prop := ∀ ρ M' σ' H', P ρ M' → SAbs K M' H' ρ σ' → MAbs K M' H' → Frame M H M' H' → N σ' H'
def liftE (K : PySem.W.Frag) (t : DE) : TE := fun σ H Q => ∃ z ρ M R, SAbs ⟨K, z⟩ M H ρ σ ∧ MAbs ⟨K, z⟩ M H ∧ t ρ M R ∧ Fin ⟨K, z⟩ M H R Q
def liftT (K : PySem.W.Frag) (t : DT) : TT := fun σ H Q => ∃ z ρ M R, SAbs ⟨K, z⟩ M H ρ σ ∧ MAbs ⟨K, z⟩ M H ∧ t ρ M R ∧ FinT ⟨K, z⟩ M H R Q
def liftA (K : PySem.W.Frag) (t : DA) : TA := fun σ H Q => ∃ z ρ M R, SAbs ⟨K, z⟩ M H ρ σ ∧ MAbs ⟨K, z⟩ M H ∧ t ρ M R ∧ FinA ⟨K, z⟩ M H R Q
/-- what is wanted of an exception: its class's name, its one attribute's name, the value there -/
abbrev XD := Str → Str → D → Mem → Prop
abbrev noX : XD := fun _ _ _ _ => False
/-- an exception of the class at a module's name, its dict -/
abbrev WN := Str → Addr → L2.St → Hp → Prop
structure EndsD where
  nx : DEnv → Mem → Prop
  rt : RK
  bk : DEnv → Mem → Prop := fun _ _ => False
  ct : DEnv → Mem → Prop := fun _ _ => False
  xr : Str → Str → D → DEnv → Mem → Prop := fun _ _ _ _ _ => False
abbrev DS := EndsD → DEnv → Mem → Prop
def LX (K : KZ) (M : Mem) (H : Hp) (P : Str → Str → D → DEnv → Mem → Prop) (y : WN) : Prop :=
  ∀ x f d ρ M' v dd σ H', P x f d ρ M' → H' dd = some (.xd [(f, v)]) → M' dd = none → ¬ K.z dd → Rep K M' H' v d → SAbs K M' H' ρ σ → MAbs K M' H' → Frame M H M' H' → y x dd σ H'
def FinX (K : KZ) (M : Mem) (H : Hp) (XR : XD) (y : Str → Addr → Hp → Prop) : Prop :=
  ∀ x f d M' v dd H', XR x f d M' → H' dd = some (.xd [(f, v)]) → M' dd = none → ¬ K.z dd → Rep K M' H' v d → MAbs K M' H' → Frame M H M' H' → y x dd H'
theorem FinX.no {K : KZ} {M : Mem} {H : Hp} {y : Str → Addr → Hp → Prop} : FinX K M H noX y := fun _ _ _ _ _ _ _ h => h.elim
structure LSs (K : KZ) (M : Mem) (H : Hp) (D0 : EndsD) (D : Ends) (y : WN) : Prop where
  nx : LS K M H D0.nx D.nx
  rt : Fin K M H D0.rt D.rt
  bk : LS K M H D0.bk D.bk
  ct : LS K M H D0.ct D.ct
  xr : LX K M H D0.xr y
def liftS (K : PySem.W.Frag) (y : WN) (t : DS) : TS := fun D σ H => ∃ z ρ M D0, SAbs ⟨K, z⟩ M H ρ σ ∧ MAbs ⟨K, z⟩ M H ∧ t D0 ρ M ∧ LSs ⟨K, z⟩ M H D0 D y
/-- expressions that may raise -/
abbrev DX := DEnv → Mem → RK → XD → Prop
def liftX (K : PySem.W.Frag) (y : WN) (t : DX) : TE := fun σ H Q => ∃ z ρ M R XR, SAbs ⟨K, z⟩ M H ρ σ ∧ MAbs ⟨K, z⟩ M H ∧ t ρ M R XR ∧ Fin ⟨K, z⟩ M H R Q ∧ FinX ⟨K, z⟩ M H XR fun x dd H => y x dd σ H
/-- the greatest wish that is taken of exceptions here -/
def Wm (X : Cx) : WX := fun cls d σ H => ∀ u s', L2.XE X (fun c' d' σ' H' => c' = cls ∧ d' = d ∧ σ' = σ ∧ H' = H) u s' → X.xe u s'
theorem takes_wm {X : Cx} : L2.Takes X (Wm X) := fun u s' ⟨a, B, sI, pins, σ, H, cls, d, e, I, nb, up, sky, na, os, ag, w⟩ => w u s' ⟨a, B, sI, pins, σ, H, cls, d, e, I, nb, up, sky, na, os, ag, rfl, rfl, rfl, rfl⟩
theorem wm_of {X : Cx} {W : WX} (t : L2.Takes X W) {cls : Value} {d : Option Addr} {σ : L2.St} {H : Hp} (w : W cls d σ H) : Wm X cls d σ H := fun u s' x => (t.imp (W' := fun c' d' σ' H' => c' = cls ∧ d' = d ∧ σ' = σ ∧ H' = H) fun _ _ _ _ h => by
  obtain ⟨h1, h2, h3, h4⟩ := h
  subst h1 h2 h3 h4
  exact w) u s' x
/-- by the class's name -/
def Wn (X : Cx) : WN := fun x dd σ H => ∀ C, X.mg x = some (.ref C) → Wm X (.ref C) (some dd) σ H
section
variable {K : KZ} {M M' : Mem} {H H' : Hp}
theorem Fin.fr {R : RK} {Q : VK} (h : Fin K M H R Q) (f : Frame M H M' H') : Fin K M' H' R Q := fun d M2 v H2 r a b c => h d M2 v H2 r a b (f.trans c)
theorem FinT.fr {R : Bool → Mem → Prop} {Q : Bool → Hp → Prop} (h : FinT K M H R Q) (f : Frame M H M' H') : FinT K M' H' R Q := fun d M2 H2 r b c => h d M2 H2 r b (f.trans c)
theorem FinA.fr {R : List D → Mem → Prop} {Q : List V → Hp → Prop} (h : FinA K M H R Q) (f : Frame M H M' H') : FinA K M' H' R Q := fun d M2 v H2 r a b c => h d M2 v H2 r a b (f.trans c)
theorem LS.fr {P : DEnv → Mem → Prop} {N : L2.St → Hp → Prop} (h : LS K M H P N) (f : Frame M H M' H') : LS K M' H' P N := fun ρ M2 σ H2 p a b c => h ρ M2 σ H2 p a b (f.trans c)
theorem LX.fr {P : Str → Str → D → DEnv → Mem → Prop} {y : WN} (h : LX K M H P y) (f : Frame M H M' H') : LX K M' H' P y := fun x fl d ρ M2 v dd σ H2 p e n nz r s a c => h x fl d ρ M2 v dd σ H2 p e n nz r s a (f.trans c)
theorem FinX.fr {XR : XD} {y : Str → Addr → Hp → Prop} (h : FinX K M H XR y) (f : Frame M H M' H') : FinX K M' H' XR y := fun x fl d M2 v dd H2 p e n nz r a c => h x fl d M2 v dd H2 p e n nz r a (f.trans c)
theorem LSs.fr {D0 : EndsD} {D : Ends} {y : WN} (h : LSs K M H D0 D y) (f : Frame M H M' H') : LSs K M' H' D0 D y := ⟨h.nx.fr f, h.rt.fr f, h.bk.fr f, h.ct.fr f, h.xr.fr f⟩
/-- the state stays -/
theorem Fin.at_ {R : RK} {Q : VK} {d : D} {v : V} (h : Fin K M H R Q) (A : MAbs K M H) (q : R d M) (r : Rep K M H v d) : Q v H := h d M v H q r A Frame.refl
end
end DL

set_option Elab.async false
set_option linter.all false
set_option maxHeartbeats 4000000
/-! D-layer, part 2: operations by values. -/
namespace DL
open PySem PySem.Spec PyProof.Rows L2

abbrev D2 := D → D → Mem → RK → Prop
abbrev D1 := D → Mem → RK → Prop
abbrev DN := List D → Mem → RK → Prop
abbrev DM := D → List D → Mem → RK → Prop
def lift2 (K : PySem.W.Frag) (rd : D2) : R2 := fun v u H Q => ∃ z M x y R, MAbs ⟨K, z⟩ M H ∧ Rep ⟨K, z⟩ M H v x ∧ Rep ⟨K, z⟩ M H u y ∧ rd x y M R ∧ Fin ⟨K, z⟩ M H R Q
def lift1 (K : PySem.W.Frag) (rd : D1) : V → Hp → VK → Prop := fun v H Q => ∃ z M x R, MAbs ⟨K, z⟩ M H ∧ Rep ⟨K, z⟩ M H v x ∧ rd x M R ∧ Fin ⟨K, z⟩ M H R Q
def liftN (K : PySem.W.Frag) (rd : DN) : List V → Hp → VK → Prop := fun vs H Q => ∃ z M xs R, MAbs ⟨K, z⟩ M H ∧ Reps ⟨K, z⟩ M H vs xs ∧ rd xs M R ∧ Fin ⟨K, z⟩ M H R Q
def liftM (K : PySem.W.Frag) (rd : DM) : V → List V → Hp → VK → Prop := fun v vs H Q => ∃ z M x xs R, MAbs ⟨K, z⟩ M H ∧ Rep ⟨K, z⟩ M H v x ∧ Reps ⟨K, z⟩ M H vs xs ∧ rd x xs M R ∧ Fin ⟨K, z⟩ M H R Q

theorem _root_.L2.OpR.weak {X : Cx} {f : Value → Value → Sem Value} {r r' : R2} (h : OpR X f r) (w : ∀ x y H Q, r' x y H Q → r x y H Q) : OpR X f r' :=
  fun pins s σ H x y v u Q I rx ry q => h pins s σ H x y v u Q I rx ry (w _ _ _ _ q)
/-- by cases, each with its own rule -/
theorem _root_.L2.OpR.cases {X : Cx} {f : Value → Value → Sem Value} {r' : R2} (w : ∀ x y H Q, r' x y H Q → ∃ r : R2, OpR X f r ∧ r x y H Q) : OpR X f r' :=
  fun pins s σ H x y v u Q I rx ry q => let ⟨_, h, z⟩ := w _ _ _ _ q; h pins s σ H x y v u Q I rx ry z
theorem _root_.L2.UnR.weak {X : Cx} {f : Value → Sem Value} {r r' : V → Hp → VK → Prop} (h : UnR X f r) (w : ∀ x H Q, r' x H Q → r x H Q) : UnR X f r' :=
  fun pins s σ H x v Q I rx q => h pins s σ H x v Q I rx (w _ _ _ q)
theorem _root_.L2.CallR.weak {X : Cx} {f : Value} {r r' : List V → Hp → VK → Prop} (h : CallR X f r) (w : ∀ xs H Q, r' xs H Q → r xs H Q) : CallR X f r' :=
  fun pins s σ H xs us Q I rx q => h pins s σ H xs us Q I rx (w _ _ _ q)
theorem _root_.L2.CallR.cases {X : Cx} {f : Value} {r' : List V → Hp → VK → Prop} (w : ∀ xs H Q, r' xs H Q → ∃ r, CallR X f r ∧ r xs H Q) : CallR X f r' :=
  fun pins s σ H xs us Q I rx q => let ⟨_, h, z⟩ := w _ _ _ q; h pins s σ H xs us Q I rx z
theorem _root_.L2.MtR.weak {X : Cx} {id : String} {r r' : V → List V → Hp → VK → Prop} (h : MtR X id r) (w : ∀ x xs H Q, r' x xs H Q → r x xs H Q) : MtR X id r' :=
  fun pins s σ H x xs v us Q I r1 r2 q => h pins s σ H x xs v us Q I r1 r2 (w _ _ _ _ q)

section
variable {K : KZ} {M : Mem} {H : Hp} {R : RK} {Q : VK} {v u : V}
theorem rep_int {i : Int} (h : Rep K M H v (.int i)) : v = .int i := by cases h; rfl
theorem rep_str {x : Str} (h : Rep K M H v (.str x)) : v = .str x := by cases h; rfl
theorem rep_bl {b : Bool} (h : Rep K M H v (.bl b)) : v = .bl b := by cases h; rfl
theorem rep_non (h : Rep K M H v .non) : v = .non := by cases h; rfl
theorem rep_ty {n : String} (h : Rep K M H v (.ty n)) : v = .ty n := by cases h; rfl
theorem rep_ref {a : Addr} (h : Rep K M H v (.ref a)) : v = .ref a := by cases h; rfl
theorem rep_tup {ds : List D} (h : Rep K M H v (.tup ds)) : ∃ a vs, v = .ref a ∧ RdT K M H a vs ∧ Reps K M H vs ds := by
  cases h with
  | tup h r => exact ⟨_, _, rfl, h, r⟩
theorem rep_lst {ds : List D} (h : Rep K M H v (.lst ds)) : ∃ a vs, v = .ref a ∧ RdL K M H a vs ∧ Reps K M H vs ds := by
  cases h with
  | lst h r => exact ⟨_, _, rfl, h, r⟩
theorem rep_dct {ks : List Key} {ds : List D} (h : Rep K M H v (.dct ks ds)) : ∃ a kvs, v = .ref a ∧ RdD K M H a kvs ∧ kvs.map (·.1) = ks ∧ Reps K M H (kvs.map (·.2)) ds := by
  cases h with
  | dct h e1 e2 r => subst e2; exact ⟨_, _, rfl, h, e1, r⟩
/-- the end with a new tuple -/
theorem Fin.tup (F : Fin K M H R Q) (A : MAbs K M H) {p : Addr} {vs : List V} {ds : List D} (hp : H p = none) (r : Reps K M H vs ds) (q : R (.tup ds) M) : Q (.ref p) (upd H p (.tup vs)) :=
  F _ M _ _ q (.tup (.inl ⟨.inl upd_same, A.free hp⟩) (r.fr (Frame.new hp))) (A.new hp) (Frame.new hp)
theorem Fin.lst (F : Fin K M H R Q) (A : MAbs K M H) {p : Addr} {vs : List V} {ds : List D} (hp : H p = none) (r : Reps K M H vs ds) (q : R (.lst ds) M) : Q (.ref p) (upd H p (.lst vs)) :=
  F _ M _ _ q (.lst (.inl ⟨.inl upd_same, A.free hp, A.znew hp⟩) (r.fr (Frame.new hp))) (A.new hp) (Frame.new hp)
theorem Fin.lstM (F : Fin K M H R Q) (A : MAbs K M H) {p : Addr} {vs : List V} {ds : List D} (hp : H p = none) (r : Reps K M H vs ds) (q : R (.ref p) (mset M p (.lst ds))) : Q (.ref p) (upd H p (.lst vs)) :=
  F _ _ _ _ q (.ref p) (A.newM hp ⟨vs, upd_same, r.fr (Frame.newM A hp)⟩) (Frame.newM A hp)
/-- a list of either kind: its items, by the state -/
def ListAt (M : Mem) (d : D) (ds : List D) : Prop := d = .lst ds ∨ ∃ a, d = .ref a ∧ M a = some (.lst ds)
theorem rep_list (A : MAbs K M H) {d : D} {ds : List D} (h : Rep K M H v d) (l : ListAt M d ds) : ∃ a vs, v = .ref a ∧ SqL K.k H a vs ∧ Reps K M H vs ds := by
  rcases l with rfl | ⟨a, rfl, e⟩
  · obtain ⟨a, vs, rfl, hr, r⟩ := rep_lst h
    exact ⟨a, vs, rfl, hr.sq, r⟩
  · obtain rfl := rep_ref h
    obtain ⟨vs, q, r⟩ := A.at_ a _ e
    exact ⟨a, vs, rfl, .inl (.inl q), r⟩
end

section
variable {X : Cx}
/-! ### arithmetic -/
def rI2 (C : Int → Int → Prop) (g : Int → Int → D) : D2 := fun x y M R => ∃ i j, x = .int i ∧ y = .int j ∧ C i j ∧ R (g i j) M
def rI20 (g : Int → Int → D) : D2 := fun x y M R => ∃ i j, x = .int i ∧ y = .int j ∧ R (g i j) M
theorem od_I {f : Value → Value → Sem Value} {C : Int → Int → Prop} {g : Int → Int → Int} (h : OpR X f (rI C fun i j => .int (g i j))) : OpR X f (lift2 X.K (rI2 C fun i j => .int (g i j))) :=
  h.weak fun x y H Q ⟨z, M, _, _, R, A, rx, ry, ⟨i, j, e1, e2, c, q⟩, F⟩ => by
    subst e1; subst e2
    exact ⟨i, j, rep_int rx, rep_int ry, c, F.at_ A q (.int _)⟩
theorem od_I0 {f : Value → Value → Sem Value} {g : Int → Int → Int} (h : OpR X f (rI0 fun i j => .int (g i j))) : OpR X f (lift2 X.K (rI20 fun i j => .int (g i j))) :=
  h.weak fun x y H Q ⟨z, M, _, _, R, A, rx, ry, ⟨i, j, e1, e2, q⟩, F⟩ => by
    subst e1; subst e2
    exact ⟨i, j, rep_int rx, rep_int ry, F.at_ A q (.int _)⟩
theorem od_B0 {f : Value → Value → Sem Value} {g : Int → Int → Bool} (h : OpR X f (rI0 fun i j => .bl (g i j))) : OpR X f (lift2 X.K (rI20 fun i j => .bl (g i j))) :=
  h.weak fun x y H Q ⟨z, M, _, _, R, A, rx, ry, ⟨i, j, e1, e2, q⟩, F⟩ => by
    subst e1; subst e2
    exact ⟨i, j, rep_int rx, rep_int ry, F.at_ A q (.bl _)⟩
def dSub : D2 := rI20 fun i j => .int (i - j)
def dMul : D2 := rI2 CMul fun i j => .int (i * j)
def dMod : D2 := rI2 (fun _ j => 0 < j) fun i j => .int (i % j)
def dDiv : D2 := rI2 CDiv fun i j => .int (i / j)
def dPow : D2 := rI2 CPow fun i j => .int (i ^ j.toNat)
def dLt : D2 := rI20 fun i j => .bl (decide (i < j))
def dLe : D2 := rI20 fun i j => .bl (decide (i ≤ j))
def dGt : D2 := rI20 fun i j => .bl (decide (j < i))
def dGe : D2 := rI20 fun i j => .bl (decide (j ≤ i))
theorem od_sub : OpR X (binaryOp .Sub) (lift2 X.K dSub) := od_I0 op_sub
theorem od_mul : OpR X (binaryOp .Mult) (lift2 X.K dMul) := od_I op_mul
theorem od_mod : OpR X (binaryOp .Mod) (lift2 X.K dMod) := od_I op_mod
theorem od_div : OpR X (binaryOp .FloorDiv) (lift2 X.K dDiv) := od_I op_fdiv
theorem od_pow : OpR X (binaryOp .Pow) (lift2 X.K dPow) := od_I op_pow
theorem od_lt : OpR X (compareOp .Lt) (lift2 X.K dLt) := od_B0 op_lt
theorem od_le : OpR X (compareOp .LtE) (lift2 X.K dLe) := od_B0 op_le
theorem od_gt : OpR X (compareOp .Gt) (lift2 X.K dGt) := od_B0 op_gt
theorem od_ge : OpR X (compareOp .GtE) (lift2 X.K dGe) := od_B0 op_ge
/-- list + list, lists of either kind -/
def rCatL (K : PySem.W.Frag) : R2 := fun x y H Q => ∃ l b xs zs, x = .ref l ∧ y = .ref b ∧ SqL K H l xs ∧ SqL K H b zs ∧ xs.length + zs.length ≤ sizeLine ∧ ∀ p, H p = none → Q (.ref p) (upd H p (.lst (xs ++ zs)))
theorem op_catL : OpR X (binaryOp .Add) (rCatL X.K) := by
  intro pins s σ H x y v u Q I rx ry h
  obtain ⟨l, b, xs, zs, rfl, rfl, hH, hB, hz, q⟩ := h
  cases rx
  cases ry
  obtain ⟨its, r, ⟨⟨cls, dd, data, sl⟩, n, e, hc, hd, hq⟩, z⟩ := I.list hH
  obtain ⟨its2, r2, ⟨⟨cls2, dd2, data2, sl2⟩, n2, e2, hc2, hd2, hq2⟩, z2⟩ := I.list hB
  simp only at hc hd hq hc2 hd2 hq2
  subst hc hd hq hc2 hd2 hq2
  have l1 := r.length
  have l2 := r2.length
  have ea : its.toArray ++ its2.toArray = (its ++ its2).toArray := by simp
  refine concat_meets ⟨_, e, rfl⟩ ⟨_, e2, rfl⟩ noFill_list_add seq_list_add F.slot_list_add F.entry_list_add (F.args_list_add_2 _ _)
    (list_addW l b its.toArray its2.toArray n n2 _ _ sl sl2 (by rw [List.size_toArray, List.size_toArray]; omega)) ⟨e, e2, ?_⟩
  rw [ea]
  exact ⟨.ref _, _, I.lnew (t' := s.toks) (r.append r2) (by rw [List.length_append]; omega), rfl, q _ I.fresh⟩
/-- + -/
def dAdd : D2 := fun x y M R => match x, y with
  | .int i, .int j => R (.int (i + j)) M
  | .str i, .str j => i.length + j.length ≤ sizeLine ∧ R (.str (i ++ j)) M
  | .tup xs, .tup ys => xs.length + ys.length ≤ sizeLine ∧ R (.tup (xs ++ ys)) M
  | .lst xs, .lst ys => xs.length + ys.length ≤ sizeLine ∧ R (.lst (xs ++ ys)) M
  | _, _ => False
theorem od_add : OpR X (binaryOp .Add) (lift2 X.K dAdd) := OpR.cases fun v u H Q ⟨z, M, x, y, R, A, rx, ry, h, F⟩ => by
  unfold dAdd at h
  split at h
  · exact ⟨_, op_add, _, _, rep_int rx, rep_int ry, F.at_ A h (.int _)⟩
  · exact ⟨_, op_add_str, _, _, rep_str rx, rep_str ry, h.1, F.at_ A h.2 (.str _)⟩
  · obtain ⟨a, vs, rfl, h1, r1⟩ := rep_tup rx
    obtain ⟨b, us, rfl, h2, r2⟩ := rep_tup ry
    refine ⟨_, op_catA, a, b, vs, us, rfl, rfl, h1.sq, h2.sq, by rw [r1.length, r2.length]; exact h.1, fun e => ?_, fun e1 e2 => ?_, fun _ _ p hp => F.tup A hp (r1.append r2) h.2⟩
    · subst e
      cases r1
      exact F.at_ A h.2 (.tup h2 r2)
    · subst e2
      cases r2
      rw [List.append_nil] at h
      exact F.at_ A h.2 (.tup h1 r1)
  · obtain ⟨a, vs, rfl, h1, r1⟩ := rep_lst rx
    obtain ⟨b, us, rfl, h2, r2⟩ := rep_lst ry
    exact ⟨_, op_catL, a, b, vs, us, rfl, rfl, h1.sq, h2.sq, by rw [r1.length, r2.length]; exact h.1, fun p hp => F.lst A hp (r1.append r2) h.2⟩
  · exact h.elim
def dNeg : D1 := fun x M R => ∃ i, x = .int i ∧ R (.int (-i)) M
theorem ud_neg : UnR X (unaryOp .USub) (lift1 X.K dNeg) := un_neg.weak fun v H Q ⟨z, M, x, R, A, rx, ⟨i, e, q⟩, F⟩ => by
  subst e
  exact ⟨i, rep_int rx, F.at_ A q (.int _)⟩

/-! ### isinstance with built-in classes -/
def tyD (M : Mem) : D → Option String
  | .non => some "NoneType"
  | .bl _ => some "bool"
  | .int _ => some "int"
  | .str _ => some "str"
  | .ty _ => none
  | .tup _ => some "tuple"
  | .lst _ => some "list"
  | .dct _ _ => some "dict"
  | .box _ _ _ _ _ => none
  | .ref a => match M a with
    | some (.lst _) => some "list"
    | some (.dct _ _) => some "dict"
    | some (.deck _ _) => some "dict"
    | _ => none
def isTy (t c : String) : Bool := t == c || (t == "bool" && c == "int")
theorem tyD_is {K : KZ} {M : Mem} {H : Hp} {v : V} {d : D} {t : String} (A : MAbs K M H) (r : Rep K M H v d) (e : tyD M d = some t) : TyX K.k H v (.type t) := by
  cases d with
  | non => cases r; cases e; exact .base .non
  | bl b => cases r; cases e; exact .base (.bl _)
  | int i => cases r; cases e; exact .base (.int _)
  | str x => cases r; cases e; exact .base (.str _)
  | ty n => cases e
  | box _ _ _ _ _ => cases e
  | tup ds =>
    cases e
    obtain ⟨a, vs, rfl, h, _⟩ := rep_tup r
    rcases h with ⟨q | ⟨o, q⟩, _⟩ | ⟨o, its, n, k, c, _⟩
    · exact .base (.tup q)
    · exact .fTuple q
    · exact .kTuple k c
  | lst ds =>
    cases e
    obtain ⟨a, vs, rfl, h, _⟩ := rep_lst r
    rcases h with ⟨q | ⟨o, q⟩, _⟩ | ⟨o, its, n, k, c, _⟩
    · exact .base (.lst q)
    · exact .base (.frz q)
    · exact .kList k c
  | dct ks ds =>
    cases e
    obtain ⟨a, kvs, rfl, ⟨q | ⟨o, q⟩, _⟩, _⟩ := rep_dct r
    · exact .base (.dK q)
    · exact .fDict q
  | ref a =>
    obtain rfl := rep_ref r
    have e' : (match M a with
      | some (.lst _) => some "list"
      | some (.dct _ _) => some "dict"
      | some (.deck _ _) => some "dict"
      | _ => none) = some t := e
    split at e' <;> cases e'
    · rename_i z
      obtain ⟨vs, q, _⟩ := A.at_ a _ z
      exact .base (.lst q)
    · rename_i z
      obtain ⟨vs, q, _⟩ := A.at_ a _ z
      exact .base (.dK q)
    · rename_i z
      obtain ⟨k1, k2, k3, m, n, ns, _, q, _⟩ := A.at_ a _ z
      exact .base (.dK q)
end
end DL

set_option Elab.async false
set_option linter.all false
set_option maxHeartbeats 4000000
/-! D-layer, part 3: expressions and tests. -/
namespace DL
open PySem PySem.Spec PyProof.Rows L2

theorem _root_.L2.PE.weak {X : Cx} {e : Expr} {t t' : TE} (h : PE X e t) (w : ∀ σ H Q, t' σ H Q → t σ H Q) : PE X e t' := ⟨fun pins s σ H Q I q => h.run pins s σ H Q I (w _ _ _ q)⟩
theorem _root_.L2.PT.weak {X : Cx} {e : Expr} {t t' : TT} (h : PT X e t) (w : ∀ σ H Q, t' σ H Q → t σ H Q) : PT X e t' := ⟨fun pins s σ H Q I q => h.run pins s σ H Q I (w _ _ _ q)⟩
theorem _root_.L2.PW.weak {X : Cx} {e : Expr} {t t' : TT} (h : PW X e t) (w : ∀ σ H Q, t' σ H Q → t σ H Q) : PW X e t' := ⟨fun z pins s σ H Q I q => h.run z pins s σ H Q I (w _ _ _ q)⟩
theorem _root_.L2.PA.weak {X : Cx} {es : List Expr} {t t' : TA} (h : PA X es t) (w : ∀ σ H Q, t' σ H Q → t σ H Q) : PA X es t' := ⟨fun z pins s σ H Q I q => h.run z pins s σ H Q I (w _ _ _ q)⟩
theorem _root_.L2.PK.weak {X : Cx} {es : List Keyword} {t t' : TA} (h : PK X es t) (w : ∀ σ H Q, t' σ H Q → t σ H Q) : PK X es t' := ⟨fun z pins s σ H Q I q => h.run z pins s σ H Q I (w _ _ _ q)⟩
theorem _root_.L2.PS.weak {X : Cx} {st : Stmt} {t t' : TS} (h : PS X st t) (w : ∀ D σ H, t' D σ H → t D σ H) : PS X st t' := ⟨fun pins s σ H D I q => h.run pins s σ H D I (w _ _ _ q)⟩
theorem _root_.L2.PSs.weak {X : Cx} {st : List Stmt} {t t' : TS} (h : PSs X st t) (w : ∀ D σ H, t' D σ H → t D σ H) : PSs X st t' := ⟨fun pins s σ H D I q => h.run pins s σ H D I (w _ _ _ q)⟩

abbrev PED (X : Cx) (e : Expr) (t : DE) : Prop := PE X e (liftE X.K t)
abbrev PTD (X : Cx) (e : Expr) (t : DT) : Prop := PT X e (liftT X.K t)
abbrev PWD (X : Cx) (e : Expr) (t : DT) : Prop := PW X e (liftT X.K t)
abbrev PAD (X : Cx) (es : List Expr) (t : DA) : Prop := PA X es (liftA X.K t)
abbrev PKD (X : Cx) (es : List Keyword) (t : DA) : Prop := PK X es (liftA X.K t)
abbrev PSD (X : Cx) (st : Stmt) (t : DS) : Prop := PS X st (liftS X.K (Wn X) t)
abbrev PBD (X : Cx) (st : List Stmt) (t : DS) : Prop := PSs X st (liftS X.K (Wn X) t)
abbrev PEDX (X : Cx) (e : Expr) (t : DX) : Prop := PE X e (liftX X.K (Wn X) t)

section
variable {X : Cx} {a b c e : Expr} {ta tb tc te : DE} {pos : Pos}
/-! ### names, constants -/
def dVar (i : Nat) : DE := fun ρ M R => ∃ d, slot ρ i = some d ∧ R d M
def dC (d : D) : DE := fun _ M R => R d M
theorem de_var (i : Nat) {x : Str} (hN : X.N[i]? = some x := by rfl) (hv : Vis X.env.scope x := by first | exact Or.inl rfl | exact Or.inr (Or.inl rfl) | exact Or.inr (Or.inr rfl)) (hd : (x == ("__debug__" : Str)) = false := by decide)
    (hcd : (x == ("__classdict__" : Str)) = false := by decide) : PED X (.Name x pos) (dVar i) :=
  (pe_var hN hv hd hcd).weak fun σ H Q ⟨z, ρ, M, R, S, A, ⟨d, e, q⟩, F⟩ => let ⟨v, hs, r⟩ := S.get e; ⟨v, hs, F.at_ A q r⟩
theorem de_int {i j} : PED X (.Constant (.int i) j pos) (dC (.int i)) := pe_int.weak fun σ H Q ⟨z, ρ, M, R, S, A, q, F⟩ => F.at_ A q (.int i)
theorem de_bl {b j} : PED X (.Constant (.bool b) j pos) (dC (.bl b)) := pe_bl.weak fun σ H Q ⟨z, ρ, M, R, S, A, q, F⟩ => F.at_ A q (.bl b)
theorem de_non {j} : PED X (.Constant .none j pos) (dC .non) := pe_non.weak fun σ H Q ⟨z, ρ, M, R, S, A, q, F⟩ => F.at_ A q .non
theorem de_str {x j} : PED X (.Constant (.str x) j pos) (dC (.str x)) := pe_str.weak fun σ H Q ⟨z, ρ, M, R, S, A, q, F⟩ => F.at_ A q (.str x)
/-- what a module's name holds -/
structure Holds (K : PySem.W.Frag) (mg : Str → Option Value) (x : Str) (d : D) : Prop where
  ex : ∃ (v : V) (u : Value), mg x = some u ∧ RelV v u ∧ ∀ z M H, Rep ⟨K, z⟩ M H v d
theorem de_glob {x : Str} {d : D} (h : Holds X.K X.mg x d) (hg : Gl X x := by rfl) (hd : (x == ("__debug__" : Str)) = false := by decide) : PED X (.Name x pos) (dC d) := by
  obtain ⟨v, u, hm, r, hr⟩ := h.ex
  exact (pe_glob hg hm r hd).weak fun σ H Q ⟨z, ρ, M, R, S, A, q, F⟩ => F.at_ A q (hr z M H)
/-- a built-in class as a value -/
theorem de_ty {x : Str} {n : String} (hm : X.mg x = none) (hv : bootBuiltins x = some (.type n) := by decide +kernel) (hg : Gl X x := by rfl) (hn : x ≠ "__name__" := by decide) (hd : (x == ("__debug__" : Str)) = false := by decide) : PED X (.Name x pos) (dC (.ty n)) :=
  (pe_bltn (v := .ty n) hg hm hv rfl hn hd).weak fun σ H Q ⟨z, ρ, M, R, S, A, q, F⟩ => F.at_ A q (.ty n)

/-! ### operators -/
def dOp (r : D2) (ta tb : DE) : DE := fun ρ M R => ta ρ M fun x M1 => tb ρ M1 fun y M2 => r x y M2 R
def dUn (r : D1) (ta : DE) : DE := fun ρ M R => ta ρ M fun x M1 => r x M1 R
theorem lift_two {r : D2} {σ : L2.St} {H : Hp} {Q : VK} (h : liftE X.K (dOp r ta tb) σ H Q) : tOp (lift2 X.K r) (liftE X.K ta) (liftE X.K tb) σ H Q := by
  obtain ⟨z, ρ, M, R, S, A, q, F⟩ := h
  refine ⟨z, ρ, M, _, S, A, q, fun x M1 v H1 q1 r1 A1 f1 => ⟨z, ρ, M1, _, S.fr f1, A1, q1, fun y M2 u H2 q2 r2 A2 f2 => ?_⟩⟩
  exact ⟨z, M2, x, y, R, A2, r1.fr f2, r2, q2, F.fr (f1.trans f2)⟩
theorem de_op {op : Operator} {r : D2} (ho : OpR X (binaryOp op) (lift2 X.K r)) (ha : PED X a ta) (hb : PED X b tb) : PED X (.BinOp a op b pos) (dOp r ta tb) := (pe_op ho ha hb).weak fun _ _ _ => lift_two
theorem de_cmp {op : CmpOp} {r : D2} (ho : OpR X (compareOp op) (lift2 X.K r)) (ha : PED X a ta) (hb : PED X b tb) (hm : behindInMarks op b = false) : PED X (.Compare a [op] [b] pos) (dOp r ta tb) := (pe_cmpR ho ha hb hm).weak fun _ _ _ => lift_two
theorem de_un {op : UnaryOp} {r : D1} (ho : UnR X (unaryOp op) (lift1 X.K r)) (ha : PED X a ta) : PED X (.UnaryOp op a pos) (dUn r ta) :=
  (pe_un ho ha).weak fun σ H Q ⟨z, ρ, M, R, S, A, q, F⟩ => ⟨z, ρ, M, _, S, A, q, fun x M1 v H1 q1 r1 A1 f1 => ⟨z, M1, x, R, A1, r1, q1, F.fr f1⟩⟩
/-- a value as a test -/
def dTest (t : DE) : DT := fun ρ M R => t ρ M fun x M1 => ∃ k, x = .bl k ∧ R k M1
theorem lift_test {t : DE} {σ : L2.St} {H : Hp} {Q : Bool → Hp → Prop} (h : liftT X.K (dTest t) σ H Q) : tTest (liftE X.K t) σ H Q := by
  obtain ⟨z, ρ, M, R, S, A, q, F⟩ := h
  refine ⟨z, ρ, M, _, S, A, q, fun x M1 v H1 ⟨k, e, q1⟩ r1 A1 f1 => ?_⟩
  subst e
  exact ⟨k, rep_bl r1, F k M1 H1 q1 A1 f1⟩
theorem dt_val (h : PED X e te) (he : ∀ whole, isTrue e X.env whole = (do let v ← whole; standAt e.pos; holding [v] (truthy v)) := by intro _; rfl) : PTD X e (dTest te) := (pt_val h he).weak fun _ _ _ => lift_test
theorem lift_test2 {r : D2} {σ : L2.St} {H : Hp} {Q : Bool → Hp → Prop} (h : liftT X.K (dTest (dOp r ta tb)) σ H Q) : tTest (tOp (lift2 X.K r) (liftE X.K ta) (liftE X.K tb)) σ H Q := lift_two (lift_test h)
theorem dt_cmp {op : CmpOp} {r : D2} (ho : OpR X (compareOp op) (lift2 X.K r)) (ha : PED X a ta) (hb : PED X b tb) (hm : behindInMarks op b = false) : PTD X (.Compare a [op] [b] pos) (dTest (dOp r ta tb)) := (pt_cmpR ho ha hb hm).weak fun _ _ _ => lift_test2
/-- a < b < c -/
def dChain (r r' : D2) (ta tb tc : DE) : DE := fun ρ M R => ta ρ M fun x M1 => tb ρ M1 fun y M2 => r x y M2 fun z M3 => ∃ k, z = .bl k ∧ (if k = true then tc ρ M3 fun w M4 => r' y w M4 R else R (.bl false) M3)
theorem lift_chain {r r' : D2} {σ : L2.St} {H : Hp} {Q : VK} (h : liftE X.K (dChain r r' ta tb tc) σ H Q) : tChain (lift2 X.K r) (lift2 X.K r') (liftE X.K ta) (liftE X.K tb) (liftE X.K tc) σ H Q := by
  obtain ⟨z, ρ, M, R, S, A, q, F⟩ := h
  refine ⟨z, ρ, M, _, S, A, q, fun x M1 v H1 q1 r1 A1 f1 => ⟨z, ρ, M1, _, S.fr f1, A1, q1, fun y M2 u H2 q2 r2 A2 f2 => ?_⟩⟩
  refine ⟨z, M2, x, y, _, A2, r1.fr f2, r2, q2, fun z M3 w H3 q3 r3 A3 f3 => ?_⟩
  obtain ⟨k, ez, q3⟩ := q3
  subst ez
  refine ⟨k, rep_bl r3, ?_⟩
  cases k with
  | true =>
    rw [if_pos rfl] at q3 ⊢
    exact ⟨z, ρ, M3, _, S.fr ((f1.trans f2).trans f3), A3, q3, fun w' M4 v4 H4 q4 r4 A4 f4 => ⟨z, M4, y, w', R, A4, r2.fr (f3.trans f4), r4, q4, F.fr (((f1.trans f2).trans f3).trans f4)⟩⟩
  | false =>
    rw [if_neg Bool.false_ne_true] at q3 ⊢
    exact F _ M3 _ H3 q3 (.bl false) A3 ((f1.trans f2).trans f3)
theorem de_chain {op op' : CmpOp} {r r' : D2} (ho : OpR X (compareOp op) (lift2 X.K r)) (ho' : OpR X (compareOp op') (lift2 X.K r')) (ha : PED X a ta) (hb : PED X b tb) (hc : PED X c tc)
    (hm : lastMarks [op, op'] [b, c] = false := by with_unfolding_all rfl) : PED X (.Compare a [op, op'] [b, c] pos) (dChain r r' ta tb tc) := (pe_chain ho ho' ha hb hc hm).weak fun _ _ _ => lift_chain
theorem dt_chain {op op' : CmpOp} {r r' : D2} (ho : OpR X (compareOp op) (lift2 X.K r)) (ho' : OpR X (compareOp op') (lift2 X.K r')) (ha : PED X a ta) (hb : PED X b tb) (hc : PED X c tc)
    (hm : lastMarks [op, op'] [b, c] = false := by with_unfolding_all rfl) : PTD X (.Compare a [op, op'] [b, c] pos) (dTest (dChain r r' ta tb tc)) :=
  (pt_chain ho ho' ha hb hc hm).weak fun _ _ _ h => lift_chain (lift_test h)

/-! ### and, or, not -/
variable {tA tB : DT} {rest : List Expr}
def dAnd (t u : DT) : DT := fun ρ M R => t ρ M fun k M1 => if k = true then u ρ M1 R else R false M1
def dOr (t u : DT) : DT := fun ρ M R => t ρ M fun k M1 => if k = true then R true M1 else u ρ M1 R
def dNot (t : DT) : DT := fun ρ M R => t ρ M fun k M1 => R (!k) M1
theorem dw_and1 (ha : PTD X a tA) : PWD X (.BoolOp .And [a] pos) tA := pw_and1 ha
theorem dw_or1 (ha : PTD X a tA) : PWD X (.BoolOp .Or [a] pos) tA := pw_or1 ha
theorem dw_and (ha : PTD X a tA) (hb : PWD X (.BoolOp .And (b :: rest) pos) tB) : PWD X (.BoolOp .And (a :: b :: rest) pos) (dAnd tA tB) :=
  (pw_and ha hb).weak fun σ H Q ⟨z, ρ, M, R, S, A, q, F⟩ => ⟨z, ρ, M, _, S, A, q, fun k M1 H1 q1 A1 f1 => by
    cases k with
    | true => rw [if_pos rfl] at q1 ⊢; exact ⟨z, ρ, M1, R, S.fr f1, A1, q1, F.fr f1⟩
    | false => rw [if_neg Bool.false_ne_true] at q1 ⊢; exact F _ _ _ q1 A1 f1⟩
theorem dw_or (ha : PTD X a tA) (hb : PWD X (.BoolOp .Or (b :: rest) pos) tB) : PWD X (.BoolOp .Or (a :: b :: rest) pos) (dOr tA tB) :=
  (pw_or ha hb).weak fun σ H Q ⟨z, ρ, M, R, S, A, q, F⟩ => ⟨z, ρ, M, _, S, A, q, fun k M1 H1 q1 A1 f1 => by
    cases k with
    | true => rw [if_pos rfl] at q1 ⊢; exact F _ _ _ q1 A1 f1
    | false => rw [if_neg Bool.false_ne_true] at q1 ⊢; exact ⟨z, ρ, M1, R, S.fr f1, A1, q1, F.fr f1⟩⟩
theorem dt_of (h : PWD X e tA) : PTD X e tA := h.pt
theorem dt_not (ha : PTD X a tA) : PTD X (.UnaryOp .Not a pos) (dNot tA) :=
  (pt_not ha).weak fun σ H Q ⟨z, ρ, M, R, S, A, q, F⟩ => ⟨z, ρ, M, _, S, A, q, fun k M1 H1 q1 A1 f1 => F _ _ _ q1 A1 f1⟩
def dAndV (ta tb : DE) : DE := fun ρ M R => ta ρ M fun x M1 => ∃ k, x = .bl k ∧ if k = true then tb ρ M1 R else R (.bl false) M1
def dOrV (ta tb : DE) : DE := fun ρ M R => ta ρ M fun x M1 => ∃ k, x = .bl k ∧ if k = true then R (.bl true) M1 else tb ρ M1 R
def dNotV (ta : DE) : DE := fun ρ M R => ta ρ M fun x M1 => ∃ k, x = .bl k ∧ R (.bl (!k)) M1
theorem de_one {op} (h : PED X a ta) : PED X (.BoolOp op [a] pos) ta := pe_one h
theorem de_and (ha : PED X a ta) (hb : PED X (.BoolOp .And (b :: rest) pos) tb) : PED X (.BoolOp .And (a :: b :: rest) pos) (dAndV ta tb) :=
  (pe_and ha hb).weak fun σ H Q ⟨z, ρ, M, R, S, A, q, F⟩ => ⟨z, ρ, M, _, S, A, q, fun x M1 v H1 ⟨k, e, q1⟩ r1 A1 f1 => by
    subst e
    refine ⟨k, rep_bl r1, ?_⟩
    cases k with
    | true => rw [if_pos rfl] at q1 ⊢; exact ⟨z, ρ, M1, R, S.fr f1, A1, q1, F.fr f1⟩
    | false => rw [if_neg Bool.false_ne_true] at q1 ⊢; exact F _ _ _ _ q1 (.bl false) A1 f1⟩
theorem de_or (ha : PED X a ta) (hb : PED X (.BoolOp .Or (b :: rest) pos) tb) : PED X (.BoolOp .Or (a :: b :: rest) pos) (dOrV ta tb) :=
  (pe_or ha hb).weak fun σ H Q ⟨z, ρ, M, R, S, A, q, F⟩ => ⟨z, ρ, M, _, S, A, q, fun x M1 v H1 ⟨k, e, q1⟩ r1 A1 f1 => by
    subst e
    refine ⟨k, rep_bl r1, ?_⟩
    cases k with
    | true => rw [if_pos rfl] at q1 ⊢; exact F _ _ _ _ q1 (.bl true) A1 f1
    | false => rw [if_neg Bool.false_ne_true] at q1 ⊢; exact ⟨z, ρ, M1, R, S.fr f1, A1, q1, F.fr f1⟩⟩
theorem de_not (ha : PED X a ta) : PED X (.UnaryOp .Not a pos) (dNotV ta) :=
  (pe_not ha).weak fun σ H Q ⟨z, ρ, M, R, S, A, q, F⟩ => ⟨z, ρ, M, _, S, A, q, fun x M1 v H1 ⟨k, e, q1⟩ r1 A1 f1 => by
    subst e
    exact ⟨k, rep_bl r1, F _ _ _ _ q1 (.bl _) A1 f1⟩⟩
def dIf (t : DT) (ta tb : DE) : DE := fun ρ M R => t ρ M fun k M1 => if k = true then ta ρ M1 R else tb ρ M1 R
theorem de_if (hc : PTD X c tA) (ha : PED X a ta) (hb : PED X b tb) : PED X (.IfExp c a b pos) (dIf tA ta tb) :=
  (pe_ifExp hc ha hb).weak fun σ H Q ⟨z, ρ, M, R, S, A, q, F⟩ => ⟨z, ρ, M, _, S, A, q, fun k M1 H1 q1 A1 f1 => by
    cases k with
    | true => rw [if_pos rfl] at q1 ⊢; exact ⟨z, ρ, M1, R, S.fr f1, A1, q1, F.fr f1⟩
    | false => rw [if_neg Bool.false_ne_true] at q1 ⊢; exact ⟨z, ρ, M1, R, S.fr f1, A1, q1, F.fr f1⟩⟩

/-! ### displays, argument lists -/
variable {es : List Expr} {t : DA}
def dNil : DA := fun _ M R => R [] M
def dCons (ta : DE) (tr : DA) : DA := fun ρ M R => ta ρ M fun x M1 => tr ρ M1 fun xs M2 => R (x :: xs) M2
theorem da_nil : PAD X [] dNil := pa_nil.weak fun σ H Q ⟨z, ρ, M, R, S, A, q, F⟩ => F [] M [] H q .nil A Frame.refl
theorem lift_cons {tr : DA} {σ : L2.St} {H : Hp} {Q : List V → Hp → Prop} (h : liftA X.K (dCons ta tr) σ H Q) : tCons (liftE X.K ta) (liftA X.K tr) σ H Q := by
  obtain ⟨z, ρ, M, R, S, A, q, F⟩ := h
  exact ⟨z, ρ, M, _, S, A, q, fun x M1 v H1 q1 r1 A1 f1 => ⟨z, ρ, M1, _, S.fr f1, A1, q1, fun xs M2 vs H2 q2 r2 A2 f2 => F _ _ _ _ q2 (.cons (r1.fr f2) r2) A2 (f1.trans f2)⟩⟩
theorem da_cons (ha : PED X a ta) (hr : PAD X es t) (hs : starEach (a :: es) X.env = (false, eval a X.env) :: starEach es X.env := by rfl) : PAD X (a :: es) (dCons ta t) := (pa_cons ha hr hs).weak fun _ _ _ => lift_cons
theorem dk_nil : PKD X [] dNil := pk_nil.weak fun σ H Q ⟨z, ρ, M, R, S, A, q, F⟩ => F [] M [] H q .nil A Frame.refl
theorem dk_cons {nm : Option Str} {kpos : Pos} {kws : List Keyword} (ha : PED X a ta) (hr : PKD X kws t) : PKD X (⟨nm, a, kpos⟩ :: kws) (dCons ta t) := (pk_cons ha hr).weak fun _ _ _ => lift_cons
def dTup (t : DA) : DE := fun ρ M R => t ρ M fun ds M1 => ds.length ≤ sizeLine ∧ R (.tup ds) M1
def dLst (t : DA) : DE := fun ρ M R => t ρ M fun ds M1 => ds.length ≤ sizeLine ∧ R (.lst ds) M1
def dLstM (t : DA) : DE := fun ρ M R => t ρ M fun ds M1 => ds.length ≤ sizeLine ∧ ∀ p, M1 p = none → R (.ref p) (mset M1 p (.lst ds))
theorem de_tup {x1} (h : PAD X es t) : PED X (.Tuple es x1 pos) (dTup t) :=
  (pe_tup h).weak fun σ H Q ⟨z, ρ, M, R, S, A, q, F⟩ => ⟨z, ρ, M, _, S, A, q, fun ds M1 vs H1 q1 r1 A1 f1 => ⟨by rw [r1.length]; exact q1.1, fun p hp => (F.fr f1).tup A1 hp r1 q1.2⟩⟩
theorem de_lst (h : PAD X es t) : PED X (.List es pos) (dLst t) :=
  (pe_lst h).weak fun σ H Q ⟨z, ρ, M, R, S, A, q, F⟩ => ⟨z, ρ, M, _, S, A, q, fun ds M1 vs H1 q1 r1 A1 f1 => ⟨by rw [r1.length]; exact q1.1, fun p hp => (F.fr f1).lst A1 hp r1 q1.2⟩⟩
theorem de_lstM (h : PAD X es t) : PED X (.List es pos) (dLstM t) :=
  (pe_lst h).weak fun σ H Q ⟨z, ρ, M, R, S, A, q, F⟩ => ⟨z, ρ, M, _, S, A, q, fun ds M1 vs H1 q1 r1 A1 f1 => ⟨by rw [r1.length]; exact q1.1, fun p hp => (F.fr f1).lstM A1 hp r1 (q1.2 p (A1.free hp))⟩⟩
/-- another view of the value -/
def dView (K : PySem.W.Frag) (t : DE) : DE := fun ρ M R => t ρ M fun d M1 => ∃ d' M2, View K M1 d M2 d' ∧ R d' M2
theorem de_view (h : PED X e te) : PED X e (dView X.K te) := h.weak fun σ H Q ⟨z, ρ, M, R, S, A, q, F⟩ => ⟨z, ρ, M, _, S, A, q, fun d M1 v H1 ⟨d', M2, w, q1⟩ r1 A1 f1 => by
  obtain ⟨A2, r2, n⟩ := w z H1 v A1 r1
  exact F d' M2 v H1 q1 r2 A2 (f1.trans (View.fr n))⟩
/-- a list is frozen -/
def dFrz (t : DE) : DE := fun ρ M R => t ρ M fun d M1 => ∃ a ds, d = .ref a ∧ M1 a = some (.lst ds) ∧ R (.lst ds) (mdel M1 a)
theorem de_frz (h : PED X e te) : PED X e (dFrz te) := h.weak fun σ H Q ⟨z, ρ, M, R, S, A, q, F⟩ => ⟨z, ρ, M, _, S, A, q, fun d M1 v H1 ⟨a, ds, ed, em, q1⟩ r1 A1 f1 => by
  subst ed
  obtain ⟨A2, r2, n⟩ := View.lst (K := X.K) em z H1 v A1 r1
  exact F _ _ v H1 q1 r2 A2 (f1.trans (View.fr n))⟩

/-! ### calls of built-ins by name, of methods -/
def dCB (r : DN) (t : DA) : DE := fun ρ M R => t ρ M fun ds M1 => r ds M1 R
theorem lift_cb {r : DN} {σ : L2.St} {H : Hp} {Q : VK} (h : liftE X.K (dCB r t) σ H Q) : tCB (liftN X.K r) (liftA X.K t) σ H Q := by
  obtain ⟨z, ρ, M, R, S, A, q, F⟩ := h
  exact ⟨z, ρ, M, _, S, A, q, fun ds M1 vs H1 q1 r1 A1 f1 => ⟨z, M1, ds, R, A1, r1, q1, F.fr f1⟩⟩
theorem de_callB {x : Str} {p : Pos} {id : String} {r : DN} (hc : CallR X (.builtin id) (liftN X.K r)) (hm : X.mg x = none) (ha : PAD X (e :: es) t) (hv : bootBuiltins x = some (.builtin id) := by decide +kernel) (hg : Gl X x := by rfl) (hn : x ≠ "__name__" := by decide) (hdb : (x == ("__debug__" : Str)) = false := by decide)
    (he : starEach (e :: es) X.env = (false, eval e X.env) :: starEach es X.env := by rfl) (hpl : (backTo pos (starEach es X.env)).any (·.1) = false := by rfl) : PED X (.Call (.Name x p) (e :: es) [] pos) (dCB r t) :=
  (pe_callB hc hg hm hv ha hn hdb he hpl).weak fun _ _ _ => lift_cb
theorem de_callTy {x : Str} {p : Pos} {T : String} {r : DN} (hc : CallR X (.type T) (liftN X.K r)) (hm : X.mg x = none) (ha : PAD X (e :: es) t) (hv : bootBuiltins x = some (.type T) := by decide +kernel) (hg : Gl X x := by rfl) (hn : x ≠ "__name__" := by decide) (hdb : (x == ("__debug__" : Str)) = false := by decide)
    (he : starEach (e :: es) X.env = (false, eval e X.env) :: starEach es X.env := by rfl) (hpl : (backTo pos (starEach es X.env)).any (·.1) = false := by rfl) : PED X (.Call (.Name x p) (e :: es) [] pos) (dCB r t) :=
  (pe_callTy hc hg hm hv ha hn hdb he hpl).weak fun _ _ _ => lift_cb
end
end DL

set_option Elab.async false
set_option linter.all false
set_option maxHeartbeats 4000000
set_option maxRecDepth 100000
/-! D-layer, part 26: own error classes over Exception, whose __init__ keeps one value. -/
namespace PySem
namespace EyX
open PySem.W PySem.Calls PyProof.Rows PySem.HandSPX
abbrev exTl : List Value := [.type "Exception", .type "BaseException", .type "object"]
/-- own classes, then Exception's mro -/
def refsX : List Value → Bool
  | .ref _ :: r => refsX r
  | l => l == exTl
theorem refsX_cases : ∀ l : List Value, refsX l = true → (∃ c r, l = .ref c :: r ∧ refsX r = true) ∨ l = exTl
  | [], e => .inr (beq_iff_eq.mp e)
  | .ref c :: r, e => .inl ⟨c, r, rfl, e⟩
  | .none :: _, e => .inr (beq_iff_eq.mp e)
  | .ellipsis :: _, e => .inr (beq_iff_eq.mp e)
  | .notImplemented :: _, e => .inr (beq_iff_eq.mp e)
  | .bool _ :: _, e => .inr (beq_iff_eq.mp e)
  | .int _ _ :: _, e => .inr (beq_iff_eq.mp e)
  | .float _ _ :: _, e => .inr (beq_iff_eq.mp e)
  | .str _ _ :: _, e => .inr (beq_iff_eq.mp e)
  | .bytes _ _ :: _, e => .inr (beq_iff_eq.mp e)
  | .type _ :: _, e => .inr (beq_iff_eq.mp e)
  | .builtin _ :: _, e => .inr (beq_iff_eq.mp e)
theorem refsX_pass (self : Value) : ∀ l : List Value, refsX l = true → refuseLoop self "__setattr__" l = pure () := by
  intro l
  induction l with
  | nil => intro e; exact absurd e (by decide)
  | cons a r ih =>
    intro e
    rcases refsX_cases (a :: r) e with ⟨c, r', q, h⟩ | q
    · obtain ⟨rfl, rfl⟩ := List.cons.inj q
      rw [refuseLoop_ref]; exact ih h
    · rw [q]; exact F.store_Exception.passes self
theorem refsX_contains (X : String) : ∀ l : List Value, refsX l = true → l.contains (.type X) = exTl.contains (.type X) := by
  intro l
  induction l with
  | nil => intro e; exact absurd e (by decide)
  | cons a r ih =>
    intro e
    rcases refsX_cases (a :: r) e with ⟨c, r', q, h⟩ | q
    · obtain ⟨rfl, rfl⟩ := List.cons.inj q
      rw [List.contains_cons, ih h]; rfl
    · rw [q]
theorem refsX_ne {l : List Value} (e : refsX l = true) : l.isEmpty = false := by
  cases l with
  | nil => exact absurd e (by decide)
  | cons _ _ => rfl
section
variable {prog : Program} {w : World} {A : Around} {E : Value → Shared → Prop} {R : Result → Shared → Prop} {hp : Heap} {g : Array GenState} {d : Drawn} {t : Nat} {os : OsState}
open Builtin Builtin.ObjectAttr
/-- self.name = v, the first one -/
theorem osa_first {K : W.Frag} {name : Str} {tk : Tok} {v : Value} {x C : Addr} {fv : Array Value} {cd : ClassData}
    (X : K.In hp) (hx : hp.get? x = some { cls := .ref C, data := .fields fv }) (hcd : W.clsIn K C = some cd) (hm : refsX cd.mro = true) (hh : cd.hasDict = true) (ha : W.findIn K (.ref C) name = some none)
    (hq : ∀ h' tk' dx, (∀ b o, b ≠ x → hp.get? b = some o → h'.get? b = some o) → hp.objs.size ≤ dx → dx ≠ x → h'.get? x = some { cls := .ref C, dict := some dx, data := .fields fv } →
      h'.Ns1 dx (fun y => if y = name then some v else none) → R (.ok (.ret .none)) ⟨h', g, d, tk', os⟩) :
    codeAny (model prog w) A (.call (.builtin "object.__setattr__") ⟨[.ref x, .str name tk, v], []⟩) R ⟨hp, g, d, t, os⟩ := by
  have I : W.InstAt hp x { cls := .ref C, data := .fields fv } C none := ⟨hx, rfl, rfl, trivial⟩
  have SF := F.store_object
  have ne := refsX_ne hm
  have hob : cd.mro.contains (.type "object") = true := (refsX_contains "object" _ hm).trans (by decide +kernel)
  have hxs : x ≠ hp.objs.size := Nat.ne_of_lt (Heap.lt_size hx)
  have sub : W.Looks (model prog w) hp (isInstance (.ref x) (.type "object")) true := I.type.andThen (W.looks_mroIn X (by unfold W.mroIn; rw [hcd, Option.bind_some, if_neg (by rw [ne]; decide), hob]))
  refine codeAny_call_builtin SF.slot.plain SF.entry (@W.check_slot (model prog w) _ _ ⟨hp, g, d, t, os⟩ "object.__setattr__" "object" "__setattr__" (.ref x) [.str name tk, v] [] _ SF.kind SF.split sub (SF.args (.ref x) (.str name tk) v) ?_)
  have hmr : W.Looks (model prog w) hp (mroOf (.ref C)) cd.mro := (W.looks_clsIn X hcd).andThen .now
  have L3 : W.Looks (model prog w) hp (storeTaker? none) none := .now
  have hcls : W.Looks (model prog w) hp (classData C) cd := W.looks_clsIn X hcd
  rw [W.osa_eq, refuse_eq]
  refine wpAny_bind (wpAny_bind (I.type.at (wpAny_bind (hmr.at ?_))))
  rw [refsX_pass _ _ hm]
  refine wpAny_pure (wpAny_bind (I.type.at (wpAny_bind ((W.looks_findIn X ha).at (wpAny_bind (L3.at ?_))))))
  show wpAny _ _ (storeInOwnDict (.ref x) (.ref C) (.str name tk) name v false) _ _ _
  obtain ⟨nm, bs, mro, ns, qn, hd, sn, sb, ab, col, del⟩ := cd
  dsimp only at hh
  subst hh
  unfold storeInOwnDict ownDictForStores
  repeat (first | with_reducible refine store_in_new ?_ ?_ | with_reducible refine wpAny_loadPart_at hx ?_ | with_reducible refine hcls.at ?_ | wp_step)
  · exact ⟨_, #[], _, (Heap.get?_update_ne _ _ _ _ hxs.symm).trans (Heap.get?_push_at rfl rfl), rfl, fun e he => absurd he (by simp), fun _ => rfl⟩
  · intro h' tk' hn' hs
    have hx₁ : (hp.push { cls := .type "dict", data := .dict #[] }).get? x = some { cls := .ref C, data := .fields fv } := Heap.get?_push_of_some _ hx
    refine hq h' tk' hp.objs.size (fun b o hb ho => ?_) (Nat.le_refl _) hxs.symm ?_ hn'
    · exact (hs.2 b (Nat.ne_of_lt (Heap.lt_size ho))).trans ((Heap.get?_update_ne _ _ _ _ hb).trans (Heap.get?_push_of_some _ ho))
    · exact (hs.2 x hxs).trans (Heap.get?_update_self _ hx₁ rfl)
end
/-! ### the text of __init__ -/
def iA (fl : Str) (p1 p2 : Pos) : Arguments := { posonlyargs := [], args := [{ arg := "self", annotation := none, pos := p1 }, { arg := fl, annotation := none, pos := p2 }], vararg := none, kwonlyargs := [], kw_defaults := [], kwarg := none, defaults := [] }
def iB (fl : Str) (q1 q2 q3 q4 : Pos) : List Stmt := [.Assign [.Attribute (.Name "self" q1) fl q2] (.Name fl q3) q4]
def iS (fl : Str) : Scope := { kind := .function, names := [(PySem.Str.ofString "self", .local), (fl, .local)], isGenerator := false, isCoroutine := false, more := [] }
/-- what the written part says of an error class at C, of the module's name x, whose __init__ at fI says self.fl = fl -/
structure ErrTxt (K : Frag) (mg : Str → Option Value) (x q fl : Str) (C fI : Addr) : Prop where
  gC : mg x = some (.ref C)
  cls : ∃ nm q N bs bm sn sub ab col dd k0 k1 k2 k3 k5, K.lookup C = some (excClassObj nm q C N bs bm true sn sub ab col dd k0 k1 k2 k3 k5 "Exception.__new__") ∧ refsX bm = true
  sa : findIn K (.ref C) "__setattr__" = some (some (.builtin "object.__setattr__"))
  ga : findIn K (.ref C) "__getattribute__" = some (some (.builtin "BaseException.__getattribute__"))
  gg : findIn K (.ref C) "__getattr__" = some none
  noN : findIn K (.ref C) fl = some none
  iC : findIn K (.ref C) "__init__" = some (some (.ref fI))
  tC : typeIn K (.ref fI) = some (.type "function")
  kC : keepIn K (.ref C) = true
  exC : subIn K (.ref C) (.type "BaseException") = some true
  tyC : typeIn K (.ref C) = some (.type "type")
  hdC : hasDictIn K C = true
  acl : findIn K (.ref C) "__class__" = some (some (.builtin "object.__class__"))
  mob : mroIn K C (.type "object") = some true
  fn : ∃ (oc : Value) (od : Option Addr) (kV doc pm : Value) (an : Option Addr) (cdv ct : Value) (osl : Array (Option Value)) (p1 p2 q1 q2 q3 q4 : Pos),
    K.lookup fI = some ⟨oc, od, .func (fnOf "__init__" q (iA fl p1 p2) (iB fl q1 q2 q3 q4) (iS fl) .none kV doc pm an cdv ct), osl⟩ ∧ codeIn K cdv q = true
/-- a field's name -/
structure FlOk (fl : Str) : Prop where
  nd : (fl == ("__debug__" : Str)) = false
  ns : (fl == ("self" : Str)) = false
theorem one_size (v : Value) : [v].length ≤ sizeLine := by
  rw [sizeLine_eq]
  exact (by decide : 1 ≤ 16777216)
theorem ldC {M : Model} {s : Shared} {name : Str} {scope : Scope} {L a : Addr} {cd : Value} {m : Str → Option Value} {x : Str} {pos : Pos} {v : Value} {Q : Value → Shared → Prop} {A : Around} {E : Value → Shared → Prop} (hn : s.heap.Ns L m) (hv : m x = some v) (h : Q v s)
    (hk : scope.kind = .function) (hl : (envOfC name scope L a cd).kindOf x = some .local) (hd : (x == ("__debug__" : Str)) = false) :
    wpAny M A (eval (.Name x pos) (envOfC name scope L a cd)) Q E s := wpAny_Name (wpAny_loadName_local hk hl hn hv h) hd
/-- what __init__ leaves of a fresh exception at x -/
structure InitEnd (fl : Str) (h h' : Heap) (x C dx t1 : Addr) (v : Value) : Prop where
  keep : ∀ b o, b ≠ x → h.get? b = some o → h'.get? b = some o
  obj : h'.get? x = some { cls := .ref C, dict := some dx, data := .fields #[.ref t1, .none, .none, .none, .bool false, .none] }
  dbig : h.objs.size ≤ dx
  dne : dx ≠ x
  ns : h'.Ns1 dx (fun y => if y = fl then some v else none)
structure Made (fl : Str) (h h' : Heap) (e C d : Addr) (v : Value) : Prop where
  keep : ∀ b o, h.get? b = some o → h'.get? b = some o
  new : h.objs.size ≤ e
  obj : ∃ oe vs, h'.get? e = some oe ∧ oe.cls = .ref C ∧ oe.dict = some d ∧ oe.data = .fields vs ∧ vs[1]? = some .none
  dbig : h.objs.size ≤ d
  dne : d ≠ e
  ns : h'.Ns1 d (fun y => if y = fl then some v else none)
section
variable {prog : Program} {w : World} {A : Around} {E : Value → Shared → Prop} {R : Result → Shared → Prop} {s : Shared} {K : Frag} {mg : Str → Option Value} {C fI : Addr} {nx q fl : Str}
theorem err_init (ok : fl = "thing" ∨ fl = "at") (T : ErrTxt K mg nx q fl C fI) {x t0 : Addr} {v : Value} (X : K.In s.heap) (hlim : s.heap.NoLimit) (hx : s.heap.get? x = some (excO C t0)) (hnx : K.lookup x = none) (hroom : A.depth < recursionLimit)
    (hq : ∀ h' tk dx, InitEnd fl s.heap h' x C dx t0 v → R (.ok (.ret .none)) { s with heap := h', toks := tk }) :
    codeAny (model prog w) A (.call (.ref fI) ⟨[.ref x, v], []⟩) R s := by
  obtain ⟨oc, od, kV, doc, pm, an, cdv, ct, osl, p1, p2, q1, q2, q3, q4, ho, hcd⟩ := T.fn
  obtain ⟨nm, qn, N, bs, bm, sn, sub, ab, col, dd, k0, k1, k2, k3, k5, hC, hbm⟩ := T.cls
  have hcl : clsIn K C = some { name := nm, bases := bs, mro := .ref C :: bm, ns := N, qualname := qn, hasDict := true, slotNames := sn, subclasses := sub, abstract := ab, collection := col, hasDel := false } := by unfold clsIn; rw [hC] <;> rfl
  have noN := T.noN
  rcases ok with rfl | rfl
  all_goals
    refine Att.call_fn (binds := [("self", .ref x), (_, v)]) X hlim ho hcd hroom (BindsTo.of_eq (by first | rfl | with_unfolding_all rfl)) (by first | rfl | decide | with_unfolding_all rfl) (fun s₁ IC => ?_) rfl rfl rfl
    obtain ⟨h₁, tk₁, rfl⟩ := IC.toInCall.same
    have k : ∀ b o, s.heap.get? b = some o → h₁.get? b = some o := IC.toInCall.keep
    have hn := IC.toInCall.ns
    have X₁ : K.In h₁ := X.keeps k
    have hx₁ := k _ _ hx
    show wpAny _ _ (execs _ _) _ _ _
    refine wpAny_execs_cons (plainObj_wpAny_Assign_Attribute ?_)
    refine ldC (v := v) hn (by first | rfl | with_unfolding_all rfl | kernel_rfl) (ldC (v := .ref x) hn (by first | rfl | with_unfolding_all rfl | kernel_rfl) ?_ rfl rfl (by decide)) rfl rfl (by decide)
    refine set_plain X₁ (ox := excO C t0) (od := none) ⟨hx₁, rfl, rfl, trivial⟩ T.sa ?_
    refine osa_first X₁ hx₁ hcl (show refsX (.ref C :: bm) = true from hbm) rfl noN (fun h₃ tk₃ dx k₃ dn dne hx₃ hn₃ => ?_)
    show wpAny _ _ (execs _ _) _ _ _
    have z : s.heap.objs.size < h₁.objs.size := hn.lt
    exact wpAny_execs_nil (hq h₃ tk₃ dx ⟨fun b o hb e => k₃ b o hb (k b o e), hx₃, Nat.le_of_lt (Nat.lt_of_lt_of_le z dn), dne, hn₃⟩)
theorem err_made (ok : fl = "thing" ∨ fl = "at") (T : ErrTxt K mg nx q fl C fI) {v : Value} (X : K.In s.heap) (hlim : s.heap.NoLimit) (hroom : A.depth + 1 < recursionLimit)
    (hq : ∀ h' tk e d, Made fl s.heap h' e C d v → R (.ok (.ret (.ref e))) { s with heap := h', toks := tk }) :
    codeAny (model prog w) A (.call (.ref C) ⟨[v], []⟩) R s := by
  obtain ⟨nm, qn, N, bs, bm, sn, sub, ab, col, dd, k0, k1, k2, k3, k5, hC, hbm⟩ := T.cls
  obtain ⟨hp, g, dr, tk, os⟩ := s
  have k : ∀ b o, hp.get? b = some o → ((hp.push (kdv_tup [v])).push (excO C hp.objs.size)).get? b = some o := fun b o e => Heap.get?_push_of_some _ (Heap.get?_push_of_some _ e)
  have hget : ((hp.push (kdv_tup [v])).push (excO C hp.objs.size)).get? (hp.objs.size + 1) = some (excO C hp.objs.size) := by heap_get
  have hnx : K.lookup (hp.objs.size + 1) = none := by
    cases e : K.lookup (hp.objs.size + 1) with
    | none => rfl
    | some o =>
      have z : hp.get? (hp.objs.size + 1) = some o := X _ _ e
      exact absurd (Nat.lt_of_succ_lt (Heap.lt_size z)) (Nat.lt_irrefl _)
  refine call_own F.excBase_Exception (fun X => refsX_contains X bm hbm) (X _ _ hC) (looks_findIn X T.iC) (fun self => bind_fn X self T.tC) (one_size v) ?_
  refine err_init (s := ⟨(hp.push (kdv_tup [v])).push (excO C hp.objs.size), g, dr, tk, os⟩) ok T (X.keeps k) (hlim.keeps k) hget hnx ?_ fun h' tk' dx ⟨k', hx, dn, dne, hns⟩ => ?_
  · show A.depth + 1 < recursionLimit
    exact hroom
  · have old : ∀ b o, hp.get? b = some o → h'.get? b = some o := fun b o e => k' b o (Nat.ne_of_lt (Nat.lt_succ_of_lt (Heap.lt_size e))) (k b o e)
    have z : hp.objs.size + 1 + 1 ≤ dx := by
      first
        | (simpa only [Heap.size_push] using dn)
        | exact dn
        | (have q := dn; rw [Heap.size_push, Heap.size_push] at q; exact q)
    exact ⟨rfl, hq h' tk' (hp.objs.size + 1) dx ⟨old, Nat.le_succ _, ⟨_, _, hx, rfl, rfl, rfl, rfl⟩, Nat.le_trans (Nat.le_trans (Nat.le_succ _) (Nat.le_succ _)) z, dne, hns⟩⟩
end
/-! ### isinstance of an error that has its dict -/
section
variable {prog : Program} {w : World} {A : Around} {E : Value → Shared → Prop} {s : Shared} {K : Frag} {x D : Addr} {ox : Obj} {od : Option Obj}
theorem findObj_dataD {C : Addr} {name : Str} {a g : Value} (hc : (clsIn K C).isSome = true) (ha : findIn K (.ref C) name = some (some a)) (hg : specialIn K a "__get__" = some (some g)) (ht : takesIn K a = some true) : findObj K C od name = some (.bind g a) := by
  obtain ⟨cd, hc⟩ := Option.isSome_iff_exists.mp hc
  unfold findObj
  rw [hc, Option.bind_some, ha, Option.bind_some]
  simp [hg, ht]
theorem kin_classD {Q : Option Value → Shared → Prop} (hga : findIn K (.ref D) "__getattribute__" = some (some (.builtin "BaseException.__getattribute__"))) (hgt : findIn K (.ref D) "__getattr__" = some none) (hsub : subIn K (.ref D) (.type "BaseException") = some true)
    (hdct : hasDictIn K D = true) (ha : findIn K (.ref D) "__class__" = some (some (.builtin "object.__class__")))
    (hn : specialIn K (.builtin "object.__class__") "__get__" = some (some (.builtin "getset_descriptor.__get__"))) (htk : takesIn K (.builtin "object.__class__") = some true) (hm : mroIn K D (.type "object") = some true)
    (X : K.In s.heap) (I : InstAt s.heap x ox D od) (h : Q (some (.ref D)) { s with toks := s.toks + 1 }) : wpAny (model prog w) A (getAttr? (.ref x) "__class__") Q E s := by
  have hf : findObj K D od "__class__" = some (.bind (.builtin "getset_descriptor.__get__") (.builtin "object.__class__")) := findObj_dataD (by obtain ⟨cd, hc, _⟩ := any_some hdct; rw [hc]; rfl) ha hn htk
  obtain ⟨hp, g, d, t, os⟩ := s
  have L0 := I.type (M := model prog w)
  have L1 := looks_findIn (M := model prog w) X hga
  have L2 := looks_findIn (M := model prog w) X hgt
  have L3 := looks_find (M := model prog w) X I hf
  have sub : Looks (model prog w) hp (isInstance (.ref x) (.type "BaseException")) true := L0.andThen (looks_subIn X hsub)
  have hx0 : (false && onTheHeap (Value.builtin "BaseException.__getattribute__")) = false := rfl
  have hx2 : (Value.builtin "BaseException.__getattribute__" == Value.builtin "object.__getattribute__") = false := by decide +kernel
  have hx1 : (onTheHeap (Value.ref D) && Value.builtin "BaseException.__getattribute__" == Value.builtin "object.__getattribute__") = false := by rw [hx2]; rfl
  unfold getAttr? getAttrBy? getAttrBy
  refine wpAny_bind (wpAny_mkText (wpAny_bind (wpAny_attempt (wpAny_holding (wpAny_bind (L0.at (wpAny_bind (L1.at ?_))))))))
  show wpAny _ _ (if (onTheHeap (Value.ref D) && Value.builtin "BaseException.__getattribute__" == Value.builtin "object.__getattribute__") = true then _ else _) _ _ _
  rw [hx1, if_neg Bool.false_ne_true]
  unfold getAttrByItsOwn hookBefore
  refine wpAny_bind ?_
  rw [if_pos (show onTheHeap (Value.ref D) = true from rfl)]
  refine L2.at ?_
  refine wpAny_bind (wpAny_attempt (wpAny_holding ?_))
  unfold callGetattribute
  rw [hx0, if_neg Bool.false_ne_true]
  unfold boundAndCalled
  rw [PySem.F.excAttr_ValueError.ga.bind (.ref x)]
  refine wpAny_bind (wpAny_pure ?_)
  show wpAny _ _ (call (.builtin "BaseException.__getattribute__") [.ref x, .str "__class__" t]) _ _ _
  refine wpAny_call (codeAny_call_builtin PySem.F.excAttr_ValueError.ga.plain PySem.F.entry_bexc_ga ?_)
  refine @check_slot (model prog w) _ _ ⟨hp, g, d, t + 1, os⟩ "BaseException.__getattribute__" "BaseException" "__getattribute__" (.ref x) [.str "__class__" t] [] _ (by decide +kernel) (by decide +kernel) sub (PySem.F.args_bexc_ga (.ref x) (.str "__class__" t)) ?_
  unfold Builtin.«object.__getattribute__»
  refine wpAny_bind (wpAny_of_eq (a := ((Value.ref x : Value), [Value.str "__class__" t])) (by first | rfl | (simp only [slotArgs]; rfl)) ?_)
  refine wpAny_bind (wpAny_pure (wpAny_bind (L0.at (wpAny_bind (L3.at ?_)))))
  show wpAny _ _ (holding [Value.builtin "object.__class__"] (call (.builtin "getset_descriptor.__get__") [.builtin "object.__class__", .ref x, .ref D]) >>= ret) _ _ _
  refine wpAny_bind (wpAny_holding (wpAny_call (class_get (s := ⟨hp, g, d, t + 1, os⟩) (ox := ox) (od := od) X I hm ?_)))
  refine wpAny_pure ?_
  show wpAny _ _ (handedOut (.ref D)) _ _ _
  rw [handedOut_of (v := .ref D) rfl]
  first
    | exact wpAny_pure (wpAny_pure h)
    | exact wpAny_pure h
    | exact wpAny_pure (wpAny_bind (wpAny_pure (wpAny_pure h)))
theorem kitx_excD (hga : findIn K (.ref D) "__getattribute__" = some (some (.builtin "BaseException.__getattribute__"))) (hgt : findIn K (.ref D) "__getattr__" = some none) (hsub : subIn K (.ref D) (.type "BaseException") = some true) (hdct : hasDictIn K D = true) (ha : findIn K (.ref D) "__class__" = some (some (.builtin "object.__class__")))
    (hn : specialIn K (.builtin "object.__class__") "__get__" = some (some (.builtin "getset_descriptor.__get__"))) (htk : takesIn K (.builtin "object.__class__") = some true) (hm : mroIn K D (.type "object") = some true) :
    KitX K (.ref x) (.ref D) (fun h => ∃ od, InstAt h x ox D od) where
  ty := fun _ _ _ ⟨_, I⟩ => I.type
  it := fun _ _ X _ => by
    obtain ⟨cdD, hcD, _⟩ := any_some hdct
    unfold clsIn at hcD
    split at hcD
    · rename_i c' d' cd' sl' ho
      intro A' Q' E' s' k q
      unfold isType loadHead
      exact wpAny_bind (wpAny_loadPart (k _ _ (X _ _ ho)) (wpAny_pure q))
    · cases hcD
  ne := fun h tp dd its n sl X htp => by
    obtain ⟨cdD, hcD, _⟩ := any_some hdct
    refine Bool.eq_false_iff.mpr fun q => ?_
    have e : D = tp := Value.ref.inj (beq_iff_eq.mp q)
    subst e
    unfold clsIn at hcD
    split at hcD
    · rename_i c' d' cd' sl' ho
      have z := (X _ _ ho).symm.trans htp
      cases z
    · cases hcD
  ca := fun X I k => by
    obtain ⟨od, I⟩ := I
    exact kin_classD hga hgt hsub hdct ha hn htk hm X I k
end
end EyX
end PySem

set_option Elab.async false
set_option linter.all false
set_option maxHeartbeats 4000000
/-! D-layer, part 4: defs and their calls. -/
namespace DL
open PySem PySem.Spec PyProof.Rows L2

abbrev SpD := List D → Mem → RK → XD → Prop
def liftSp (K : PySem.W.Frag) (mg : Str → Option Value) (sp : SpD) : Sp := fun vs H Q E => ∃ z M ds R XR, MAbs ⟨K, z⟩ M H ∧ Reps ⟨K, z⟩ M H vs ds ∧ sp ds M R XR ∧ Fin ⟨K, z⟩ M H R Q ∧ FinX ⟨K, z⟩ M H XR fun x dd H' => ∀ C, mg x = some (.ref C) → E (.ref C) (some dd) H'

/-- as FnOk, where no repr is under way -/
structure FnG (P : Program) (w : World) (K : PySem.W.Frag) (mg : Str → Option Value) (base : Heap) (CX : CXT) (k : Nat) (f : Addr) (fd : FuncData) (ps : List Str) (sp : Sp) : Prop where
  len : ∀ vs H Q E, sp vs H Q E → vs.length = ps.length
  run : ∀ (A : Around) (outer : List Env) (s : Shared) (H : Hp) (args : Args) (us : List Value) (vs : List V) (Q : VK) (E : XK), Room k A → A.guards = some [] → Env0 P w K mg base A outer s H →
    BindsTo s fd args (ps.zip us) → Vals vs us → sp vs H Q E → codeAny (model P w) A (.call (.ref f) args) (CR CX outer P w H s Q E) s
section
variable {P : Program} {w : World} {K : PySem.W.Frag} {mg : Str → Option Value} {base : Heap}
theorem FnG.imp {CX : CXT} {k : Nat} {f : Addr} {fd : FuncData} {ps : List Str} {sp sp' : Sp} (F : FnG P w K mg base CX k f fd ps sp) (h : ∀ vs H Q E, sp' vs H Q E → sp vs H Q E) : FnG P w K mg base CX k f fd ps sp' :=
  ⟨fun vs H Q E q => F.len vs H Q E (h _ _ _ _ q), fun A outer s H args us vs Q E hr hG he hb hv hs => F.run A outer s H args us vs Q E hr hG he hb hv (h _ _ _ _ hs)⟩
theorem FnG.mono {CX : CXT} {j k : Nat} {f : Addr} {fd : FuncData} {ps : List Str} {sp : Sp} (F : FnG P w K mg base CX j f fd ps sp) (h : j ≤ k) : FnG P w K mg base CX k f fd ps sp :=
  ⟨F.len, fun A outer s H args us vs Q E hr => F.run A outer s H args us vs Q E (hr.mono h)⟩
/-- a def that lets nothing out, whatever one asks of exceptions -/
theorem FnG.any {CX : CXT} {k : Nat} {f : Addr} {fd : FuncData} {ps : List Str} {sp : Sp} (F : FnG P w K mg base CX0 k f fd ps sp) : FnG P w K mg base CX k f fd ps sp :=
  ⟨F.len, fun A outer s H args us vs Q E hr hG he hb hv hs => codeAny_mono (F.run A outer s H args us vs Q E hr hG he hb hv hs) fun r s' hq => by
    cases r with
    | error e => exact hq.elim
    | ok fl => cases fl <;> exact hq⟩
/-- the rule for a def by its body -/
theorem fnG_of {CX : CXT} {k : Nat} {f : Addr} {x : Str} {st : Stmt} {fd : FuncData} {N ps : List Str} {sp : Sp} (F : Fun K x x st f fd) (S : FnScope N ps (defScope st)) (len : ∀ vs H Q E, sp vs H Q E → vs.length = ps.length)
    (hbody : ∀ (cdv : Value) (A : Around) (outer : List Env) (s : Shared) (H : Hp) (vs : List V) (Q : VK) (E : XK), Room k (A.deeper (envOfC x (defScope st) s.heap.objs.size f cdv)) → A.guards = some [] → sp vs H Q E →
      ∃ t, PSs (cxOf CX P w K mg base N x (defScope st) f cdv A outer s H E) (defBody st) t ∧ t { nx := fun _ H' => Q .non H', rt := Q } (start N vs) H) : FnG P w K mg base CX (k + 1) f fd ps sp := by
  obtain ⟨oc, od, kV, doc, pm, an, cdv, ct, osl, rfl, lk, hcd⟩ := F.ex
  refine ⟨len, fun A outer s H args us vs Q E hr hG e0 hb r hsp => ?_⟩
  have hl := len _ _ _ _ hsp
  have KX : K.In s.heap := e0.mod.kin.keeps fun b o e => (e0.bs b o e).1
  have lim : s.heap.NoLimit := e0.mod.nolimit.keeps fun b o e => (e0.bs b o e).1
  refine codeAny_call_function hr.depth (KX _ _ lk) rfl S.co S.gen rfl (PySem.W.codeRec_of KX hcd) (hb _ _ _ _ ?_)
  refine wpAny_newFunctionEnv_cells S.kind (fun ⟨n, v⟩ hy => ?_) fun env he s1 x => ?_
  · rcases S.par n (List.of_mem_zip hy).1 with q | q
    · exact .inl q
    · exact .inr ⟨q, PySem.W.cellsFrom_some _ _ _ (.inl q)⟩
  subst he
  refine ⟨lim.keeps x.toInCall.keep, codeAny_func ?_⟩
  obtain ⟨t, ht, hq⟩ := hbody cdv A outer s H vs Q E (hr.deeper _) hG hsp
  refine wpAny_mono (ht.run [] s1 (start N vs) H _ (inv_start S hr.hd e0 hl r x) hq) (fun fl s' hs => ?_) fun e s' hs => hs
  cases fl with
  | ret u =>
    obtain ⟨v, σ', H', J, rv, q⟩ := hs
    exact ⟨v, H', J.os, J.bare, J.base, J.hok, rv, q⟩
  | next =>
    obtain ⟨σ', H', J, q⟩ := hs
    exact ⟨V.non, H', J.os, J.bare, J.base, J.hok, rfl, q⟩
  | brk => exact hs.elim fun _ h => h.elim fun _ h => h.2.elim
  | cont => exact hs.elim fun _ h => h.elim fun _ h => h.2.elim
end

/-- some of a list's items by their places -/
def pick {α : Type} : List Nat → List α → List α
  | [], _ => []
  | i :: is, xs => match xs[i]? with
    | some x => x :: pick is xs
    | none => pick is xs
def AtBoth {α β : Type} (F : α → β → Prop) (xs : List α) (ys : List β) : Prop := ∀ i : Nat, match xs[i]?, ys[i]? with | some x, some y => F x y | none, none => True | _, _ => False
theorem pick_paired {α β : Type} {F : α → β → Prop} {xs : List α} {ys : List β} (h : AtBoth F xs ys) : ∀ is : List Nat, Paired F (pick is xs) (pick is ys)
  | [] => .nil
  | i :: is => by
    have hi := h i
    unfold pick
    revert hi
    cases xs[i]? <;> cases ys[i]? <;> intro hi
    · exact pick_paired h is
    · exact hi.elim
    · exact hi.elim
    · exact .cons hi (pick_paired h is)
theorem vals_at : ∀ {vs : List V} {us : List Value}, Vals vs us → AtBoth RelV vs us
  | _, _, .nil, i => by simp
  | _, _, .cons r t, 0 => by simpa using r
  | _, _, .cons r t, i + 1 => by simpa using vals_at t i
theorem reps_at {K : KZ} {M : Mem} {H : Hp} : ∀ {vs : List V} {ds : List D}, Reps K M H vs ds → AtBoth (Rep K M H) vs ds
  | _, _, .nil, i => by simp
  | _, _, .cons r t, 0 => by simpa using r
  | _, _, .cons r t, i + 1 => by simpa using reps_at t i
theorem reps_of_paired {K : KZ} {M : Mem} {H : Hp} : ∀ {vs : List V} {ds : List D}, Paired (Rep K M H) vs ds → Reps K M H vs ds
  | _, _, .nil => .nil
  | _, _, .cons r t => .cons r (reps_of_paired t)

/-- the def that stands at the module's name x keeps the promise sp, by at most k calls deep -/
structure Has (P : Program) (w : World) (K : PySem.W.Frag) (mg : Str → Option Value) (base : Heap) (CX : CXT) (x : Str) (st : Stmt) (ps : List Str) (k : Nat) (sp : SpD) : Prop where
  ex : ∃ (f : Addr) (fd : FuncData), mg x = some (.ref f) ∧ Fun K x x st f fd ∧ FnG P w K mg base CX k f fd ps (liftSp K mg sp)
section
variable {P : Program} {w : World} {K : PySem.W.Frag} {mg : Str → Option Value} {base : Heap} {CX : CXT} {x : Str} {st : Stmt} {ps : List Str} {j k : Nat} {sp sp' : SpD}
theorem Has.mono (h : Has P w K mg base CX x st ps j sp) (l : j ≤ k) : Has P w K mg base CX x st ps k sp := let ⟨f, fd, a, b, c⟩ := h.ex; ⟨f, fd, a, b, c.mono l⟩
theorem Has.any (h : Has P w K mg base CX0 x st ps k sp) : Has P w K mg base CX x st ps k sp := let ⟨f, fd, a, b, c⟩ := h.ex; ⟨f, fd, a, b, c.any⟩
theorem Has.imp (h : Has P w K mg base CX x st ps k sp) (l : ∀ ds M R XR, sp' ds M R XR → sp ds M R XR) : Has P w K mg base CX x st ps k sp' :=
  let ⟨f, fd, a, b, c⟩ := h.ex
  ⟨f, fd, a, b, c.imp fun vs H Q E ⟨z, M, ds, R, XR, q1, q2, q3, q4⟩ => ⟨z, M, ds, R, XR, q1, q2, l _ _ _ _ q3, q4⟩⟩
end

section
variable {X : Cx} {CX : CXT} {k n : Nat} {f : Addr} {fd : FuncData} {ps ks : List Str} {sp : SpD} {E : XK} {x : Str} {st : Stmt} {p pos : Pos} {e : Expr} {es : List Expr} {kws : List Keyword} {t tk : DA}
theorem run_fnG {pins : List (Addr × Obj)} {σ : L2.St} {H : Hp} {s : Shared} {Q : VK} {args : Args} {us : List Value} {vs : List V} {sp : Sp} (F : FnG X.prog X.w X.K X.mg X.base CX0 k f fd ps sp) (hr : Room k X.A) (hG : X.A.guards = some []) (hb : BindsTo s fd args (ps.zip us))
    (I : Inv X pins σ H s) (r : Vals vs us) (h : sp vs H Q (fun _ _ _ => False)) : codeAny (model X.prog X.w) X.A (.call (.ref f) args) (fun r s' => match r with | .ok (.ret u) => EP X pins σ Q u s' | _ => False) s := by
  refine codeAny_mono (F.run X.A X.stack s H args us vs Q _ hr hG I.env0 hb r h) fun r s' hq => ?_
  cases r with
  | error e => exact hq.elim
  | ok fl =>
    cases fl with
    | ret u => exact I.after hq
    | next => exact hq.elim
    | brk => exact hq.elim
    | cont => exact hq.elim
/-- f(..): what is asked -/
def dCall (sp : SpD) (t : DA) : DE := fun ρ M R => t ρ M fun ds M1 => sp ds M1 R noX
theorem lift_call {σ : L2.St} {H : Hp} {Q : VK} (h : liftE X.K (dCall sp t) σ H Q) : liftA X.K t σ H fun vs H1 => liftSp X.K X.mg sp vs H1 Q (fun _ _ _ => False) := by
  obtain ⟨z, ρ, M, R, S, A, q, F⟩ := h
  exact ⟨z, ρ, M, _, S, A, q, fun ds M1 vs H1 q1 r1 A1 f1 => ⟨z, M1, ds, R, noX, A1, r1, q1, F.fr f1, .no⟩⟩
/-- how positional arguments bind -/
def PosB (x : Str) (st : Stmt) (ps : List Str) : Prop := ∀ (kV doc pm : Value) (an : Option Addr) (cdv ct : Value) (us : List Value), us.length = ps.length → bindArgs (PySem.W.fnOf x x (defArgs st) (defBody st) (defScope st) .none kV doc pm an cdv ct) ⟨us, []⟩ = pure (ps.zip us)
theorem de_call (F : Has X.prog X.w X.K X.mg X.base CX0 x st ps k sp) (hr : Room k X.A) (hG : X.A.guards = some []) (hb : PosB x st ps) (ha : PAD X (e :: es) t) (hg : Gl X x := by rfl)
    (hdb : (x == ("__debug__" : Str)) = false := by decide) (he : starEach (e :: es) X.env = (false, eval e X.env) :: starEach es X.env := by rfl) (hpl : (backTo pos (starEach es X.env)).any (·.1) = false := by rfl) :
    PED X (.Call (.Name x p) (e :: es) [] pos) (dCall sp t) := by
  obtain ⟨f, fd, hm, Fn, G⟩ := F.ex
  refine ⟨fun pins s σ H Q I h => ?_⟩
  refine wpAny_Call_Name_kw (ld_glob I hg hm ?_ hdb)
  refine PySem.W.callWith_K (h₀ := X.base) I.ok.mod.kin Fn.kp (thn (ha.run pos pins s σ H _ I (lift_call h)) fun us s1 ⟨vs, H1, I1, r, q⟩ => ⟨I1.kIn, ?_⟩) he hpl
  have hl : us.length = ps.length := by rw [← r.length]; exact G.len _ _ _ _ q
  refine wpAny_call (codeAny_mono (run_fnG (args := ⟨us, []⟩) G hr hG ?_ I1 r q) fun r s' hq => ?_)
  · obtain ⟨oc, od, kV, doc, pm, an, cdv, ct, osl, rfl, _⟩ := Fn.ex
    exact .of_eq (hb _ _ _ _ _ _ _ hl)
  · cases r with
    | error e => exact hq.elim
    | ok fl => cases fl <;> exact hq
/-- f() -/
theorem de_call0 (F : Has X.prog X.w X.K X.mg X.base CX0 x st [] k sp) (hr : Room k X.A) (hG : X.A.guards = some []) (hb : PosB x st []) (hg : Gl X x := by rfl) (hdb : (x == ("__debug__" : Str)) = false := by decide) :
    PED X (.Call (.Name x p) [] [] pos) (dCall sp dNil) := by
  obtain ⟨f, fd, hm, Fn, G⟩ := F.ex
  refine ⟨fun pins s σ H Q I h => ?_⟩
  refine wpAny_Call_Name_kw (ld_glob I hg hm ?_ hdb)
  obtain ⟨z, ρ, M, R, S, A, q, F⟩ := h
  refine PySem.W.callWith_K0 I.kIn Fn.kp (wpAny_call (codeAny_mono (run_fnG (args := ⟨[], []⟩) (us := []) G hr hG ?_ I .nil (Q := Q) ⟨z, M, [], R, noX, A, .nil, q, F, .no⟩) fun r s' hq => ?_))
  · obtain ⟨oc, od, kV, doc, pm, an, cdv, ct, osl, rfl, _⟩ := Fn.ex
    exact .of_eq (hb _ _ _ _ _ _ _ rfl)
  · cases r with
    | error e => exact hq.elim
    | ok fl => cases fl <;> exact hq
/-- how n positional arguments and keywords bind: the parameters are the places is of both -/
def KwB (x : Str) (st : Stmt) (ps : List Str) (n : Nat) (ks : List Str) (is : List Nat) : Prop := ∀ (kV doc pm : Value) (an : Option Addr) (cdv ct : Value) (us ws : List Value), us.length = n → ws.length = ks.length →
  bindArgs (PySem.W.fnOf x x (defArgs st) (defBody st) (defScope st) .none kV doc pm an cdv ct) ⟨us, ks.zip ws⟩ = pure (ps.zip (pick is (us ++ ws)))
def dCallK (sp : SpD) (n m : Nat) (is : List Nat) (t tk : DA) : DE := fun ρ M R => t ρ M fun ds M1 => tk ρ M1 fun es M2 => ds.length = n ∧ es.length = m ∧ sp (pick is (ds ++ es)) M2 R noX
/-- f(k = v, ..) -/
theorem de_callK0 {is : List Nat} (F : Has X.prog X.w X.K X.mg X.base CX0 x st ps k sp) (hr : Room k X.A) (hG : X.A.guards = some []) (hb : KwB x st ps 0 ks is) (hkw : PKD X kws tk) (hg : Gl X x := by rfl)
    (hall : (backToKw pos (keywordEach kws X.env)).all (·.1.isSome) = true := by rfl) (hks : (backToKw pos (keywordEach kws X.env)).filterMap (·.1) = ks := by rfl) (hdb : (x == ("__debug__" : Str)) = false := by decide)
    (hpl : ((backTo pos (starEach [] X.env)).any (·.1) || (backToKw pos (keywordEach kws X.env)).any (·.1.isNone)) = false := by rfl) : PED X (.Call (.Name x p) [] kws pos) (dCallK sp 0 ks.length is dNil tk) := by
  obtain ⟨f, fd, hm, Fn, G⟩ := F.ex
  refine ⟨fun pins s σ H Q I h => ?_⟩
  obtain ⟨z, ρ, M, R, S, A, q, F⟩ := h
  refine wpAny_Call_Name_kw (ld_glob I hg hm ?_ hdb)
  refine PySem.W.callWith_KW0 (h₀ := X.base) I.ok.mod.kin Fn.kp hall (thn (hkw.run pos pins s σ H (fun zs H1 => zs.length = ks.length ∧ liftSp X.K X.mg sp (pick is zs) H1 Q (fun _ _ _ => False)) I
    ⟨z, ρ, M, _, S, A, q, fun es M1 zs H1 q1 r1 A1 f1 => ⟨r1.length.trans q1.2.1, z, M1, _, R, noX, A1, reps_of_paired (pick_paired (reps_at r1) is), q1.2.2, F.fr f1, .no⟩⟩) fun ws s1 ⟨zs, H1, I1, rz, hl, q1⟩ => ⟨I1.kIn, ?_⟩) hpl
  rw [hks]
  refine wpAny_call (codeAny_mono (run_fnG (args := ⟨[] ++ [], ks.zip ws⟩) (us := pick is ws) G hr hG ?_ I1 (pick_paired (vals_at rz) is) q1) fun r s' hq => ?_)
  · obtain ⟨oc, od, kV, doc, pm, an, cdv, ct, osl, rfl, _⟩ := Fn.ex
    exact .of_eq (hb _ _ _ _ _ _ [] ws rfl (rz.length.symm.trans hl))
  · cases r with
    | error e => exact hq.elim
    | ok fl => cases fl <;> exact hq
end

/-! ### a def's body -/
section
variable {P : Program} {w : World} {K : PySem.W.Frag} {mg : Str → Option Value} {base : Heap}
/-- what is wanted at a body's end: the value seen otherwise, if one likes -/
def endsOf (K : PySem.W.Frag) (R : RK) : EndsD where
  nx := fun _ M => R .non M ∨ ∃ d' M', View K M .non M' d' ∧ R d' M'
  rt := fun d M => R d M ∨ ∃ d' M', View K M d M' d' ∧ R d' M'
theorem Fin.ends {z : Addr → Prop} {M : Mem} {H : Hp} {R : RK} {Q : VK} (F : Fin ⟨K, z⟩ M H R Q) : Fin ⟨K, z⟩ M H (endsOf K R).rt Q := fun d M1 v H1 q r1 A1 f1 => by
  rcases q with q | ⟨d', M2, w, q⟩
  · exact F d M1 v H1 q r1 A1 f1
  · obtain ⟨A2, r2, n⟩ := w z H1 v A1 r1
    exact F d' M2 v H1 q r2 A2 (f1.trans (View.fr n))
def startD (n : Nat) (ds : List D) : DEnv := ds.map some ++ List.replicate n none
/-- a def that raises nothing: its body's reading t, at the promise -/
theorem has_of {x : Str} {st : Stmt} {f : Addr} {fd : FuncData} {N ps : List Str} {k : Nat} {sp : SpD} {t : DS} (hm : mg x = some (.ref f)) (F : Fun K x x st f fd) (S : FnScope N ps (defScope st))
    (len : ∀ ds M R XR, sp ds M R XR → ds.length = ps.length)
    (hb : ∀ (cdv : Value) (A : Around) (outer : List Env) (s : Shared) (H : Hp) (E : XK), Room k (A.deeper (envOfC x (defScope st) s.heap.objs.size f cdv)) → A.guards = some [] →
      PBD (cxOf CX0 P w K mg base N x (defScope st) f cdv A outer s H E).nox (defBody st) t)
    (rd : ∀ ds M R XR, sp ds M R XR → t (endsOf K R) (startD (N.length - ps.length) ds) M) : Has P w K mg base CX0 x st ps (k + 1) sp := by
  have hlen : ∀ vs H Q E, liftSp K mg sp vs H Q E → vs.length = ps.length := fun vs H Q E ⟨z, M, ds, R, XR, A, r, q, _⟩ => r.length.trans (len _ _ _ _ q)
  refine ⟨f, fd, hm, F, fnG_of F S hlen fun cdv A outer s H vs Q E hr hG h => ?_⟩
  obtain ⟨z, M, ds, R, XR, A', r, q, FF, _⟩ := h
  refine ⟨_, (hb cdv A outer s H E hr hG).nox, z, startD (N.length - ps.length) ds, M, endsOf K R, ?_, A', rd _ _ _ _ q, ⟨?_, FF.ends, fun _ _ _ _ z => z.elim, fun _ _ _ _ z => z.elim, fun _ _ _ _ _ _ _ _ _ z => z.elim⟩⟩
  · have e : vs.length = ps.length := r.length.trans (len _ _ _ _ q)
    unfold L2.start startD
    rw [e]
    exact SAbs.start r _
  · intro ρ M1 σ1 H1 q1 S1 A1 f1
    exact FF.ends .non M1 .non H1 q1 .non A1 f1
end
end DL

set_option Elab.async false
set_option linter.all false
set_option maxHeartbeats 4000000
/-! D-layer, part 5: statements, loops, list comprehensions. -/
namespace DL
open PySem PySem.Spec PyProof.Rows L2

section
variable {X : Cx} {a b c e : Expr} {ta tb te : DE} {tt : DT} {pos : Pos} {st : Stmt} {rest body orelse : List Stmt} {t u : DS}
/-! ### small statements -/
def dNext : DS := fun D ρ M => D.nx ρ M
def dSeq (t u : DS) : DS := fun D ρ M => t { D with nx := fun ρ M => u D ρ M } ρ M
def dDrop (te : DE) : DS := fun D ρ M => te ρ M fun _ M1 => D.nx ρ M1
def dRet (te : DE) : DS := fun D ρ M => te ρ M D.rt
def dRetN : DS := fun D _ M => D.rt .non M
def dIfS (c : DT) (t u : DS) : DS := fun D ρ M => c ρ M fun k M1 => if k = true then t D ρ M1 else u D ρ M1
def dBreak : DS := fun D ρ M => D.bk ρ M
def dCont : DS := fun D ρ M => D.ct ρ M
def dNever : DS := fun _ _ _ => False
def dSet (i : Nat) (te : DE) : DS := fun D ρ M => te ρ M fun d M1 => D.nx (put ρ i d) M1
theorem lift_next {D : Ends} {σ : L2.St} {H : Hp} (h : liftS X.K (Wn X) dNext D σ H) : tNext D σ H := by
  obtain ⟨z, ρ, M, D0, S, A, q, L⟩ := h
  exact L.nx ρ M σ H q S A Frame.refl
theorem db_nil : PBD X [] dNext := pss_nil.weak fun _ _ _ => lift_next
theorem ds_pass : PSD X (.Pass pos) dNext := ps_pass.weak fun _ _ _ => lift_next
theorem db_cons (h1 : PSD X st t) (h2 : PBD X rest u) : PBD X (st :: rest) (dSeq t u) :=
  (pss_cons h1 h2).weak fun D σ H ⟨z, ρ, M, D0, S, A, q, L⟩ => ⟨z, ρ, M, _, S, A, q, ⟨fun ρ1 M1 σ1 H1 q1 S1 A1 f1 => ⟨z, ρ1, M1, D0, S1, A1, q1, L.fr f1⟩, L.rt, L.bk, L.ct, L.xr⟩⟩
theorem db_one (h1 : PSD X st t) : PBD X [st] t := pss_one h1
theorem ds_expr (he : PED X e te) (hs : swapsWith e none pos.line X.env = pure false := by rfl) : PSD X (.Expr e pos) (dDrop te) :=
  (ps_expr he hs).weak fun D σ H ⟨z, ρ, M, D0, S, A, q, L⟩ => ⟨z, ρ, M, _, S, A, q, fun d M1 v H1 q1 r1 A1 f1 => L.nx ρ M1 σ H1 q1 (S.fr f1) A1 f1⟩
theorem ds_ret (he : PED X e te) : PSD X (.Return (some e) pos) (dRet te) :=
  (ps_ret he).weak fun D σ H ⟨z, ρ, M, D0, S, A, q, L⟩ => ⟨z, ρ, M, _, S, A, q, L.rt⟩
theorem ds_retN : PSD X (.Return none pos) dRetN := ps_retN.weak fun D σ H ⟨z, ρ, M, D0, S, A, q, L⟩ => L.rt .non M .non H q .non A Frame.refl
theorem ds_if (hc : PTD X c tt) (ha : PBD X body t) (hb : PBD X orelse u) : PSD X (.If c body orelse pos) (dIfS tt t u) :=
  (ps_if hc ha hb).weak fun D σ H ⟨z, ρ, M, D0, S, A, q, L⟩ => ⟨z, ρ, M, _, S, A, q, fun k M1 H1 q1 A1 f1 => by
    cases k with
    | true => rw [if_pos rfl] at q1 ⊢; exact ⟨z, ρ, M1, D0, S.fr f1, A1, q1, L.fr f1⟩
    | false => rw [if_neg Bool.false_ne_true] at q1 ⊢; exact ⟨z, ρ, M1, D0, S.fr f1, A1, q1, L.fr f1⟩⟩
theorem ds_break : PSD X (.Break pos) dBreak := ps_break.weak fun D σ H ⟨z, ρ, M, D0, S, A, q, L⟩ => L.bk ρ M σ H q S A Frame.refl
theorem ds_cont : PSD X (.Continue pos) dCont := ps_continue.weak fun D σ H ⟨z, ρ, M, D0, S, A, q, L⟩ => L.ct ρ M σ H q S A Frame.refl
theorem ds_never : PSD X st dNever := ps_never.weak fun D σ H ⟨z, ρ, M, D0, S, A, q, L⟩ => q.elim
theorem ds_set (i : Nat) {x : Str} {pos' : Pos} (hN : X.N.Nodup) (he : PED X e te) (hi : X.N[i]? = some x := by rfl) (hx : Loc X.env.scope x := by first | exact Or.inl rfl | exact Or.inr rfl) (hs : swapsWith e (some (.Name x pos')) pos.line X.env = pure false := by rfl)
    (hf : X.fn x = true ∨ X.env.scope.names.lookup x = some .local := by first | exact .inl rfl | exact .inr rfl) : PSD X (.Assign [.Name x pos'] e pos) (dSet i te) :=
  (ps_set hN hi hx he hs hf).weak fun D σ H ⟨z, ρ, M, D0, S, A, q, L⟩ => ⟨z, ρ, M, _, S, A, q, fun d M1 v H1 q1 r1 A1 f1 => L.nx _ M1 _ H1 q1 ((S.fr f1).put i r1) A1 f1⟩

/-! ### targets -/
abbrev DG := D → DEnv → (DEnv → Prop) → Prop
abbrev DGs := List D → DEnv → (DEnv → Prop) → Prop
def liftG (K : PySem.W.Frag) (vs : List Nat) (g : DG) : TG := fun v σ H Q => ∃ z ρ M d P, SAbs ⟨K, z⟩ M H ρ σ ∧ MAbs ⟨K, z⟩ M H ∧ Rep ⟨K, z⟩ M H v d ∧ g d ρ P ∧ ∀ ρ' σ', P ρ' → SAbs ⟨K, z⟩ M H ρ' σ' → wipe σ' vs = wipe σ vs → Q σ' H
def liftGs (K : PySem.W.Frag) (vs : List Nat) (g : DGs) : TGs := fun us σ H Q => ∃ z ρ M ds P, SAbs ⟨K, z⟩ M H ρ σ ∧ MAbs ⟨K, z⟩ M H ∧ Reps ⟨K, z⟩ M H us ds ∧ g ds ρ P ∧ ∀ ρ' σ', P ρ' → SAbs ⟨K, z⟩ M H ρ' σ' → wipe σ' vs = wipe σ vs → Q σ' H
theorem _root_.L2.PG.weak {tg : Expr} {g g' : TG} (h : PG X tg g) (w : ∀ v σ H Q, g' v σ H Q → g v σ H Q) : PG X tg g' := ⟨fun pins s σ H v u Q I r q => h.run pins s σ H v u Q I r (w _ _ _ _ q)⟩
theorem _root_.L2.PGs.weak {tg : List Expr} {g g' : TGs} (h : PGs X tg g) (w : ∀ v σ H Q, g' v σ H Q → g v σ H Q) : PGs X tg g' := ⟨fun pins s σ H v u Q I r q => h.run pins s σ H v u Q I r (w _ _ _ _ q)⟩
abbrev PGD (X : Cx) (vs : List Nat) (tg : Expr) (g : DG) : Prop := PG X tg (liftG X.K vs g)
abbrev PGsD (X : Cx) (vs : List Nat) (tg : List Expr) (g : DGs) : Prop := PGs X tg (liftGs X.K vs g)
theorem wipe_set {σ : L2.St} {x : Option V} : ∀ {vs : List Nat} {i : Nat}, i ∈ vs → wipe (σ.set i x) vs = wipe σ vs
  | [], _, h => by cases h
  | v :: vs, i, h => by
    unfold L2.wipe
    by_cases e : i = v
    · subst e
      have : ∀ (vs : List Nat) (σ : L2.St), (wipe (σ.set i x) vs).set i none = (wipe σ vs).set i none := fun vs => by
        induction vs with
        | nil => intro σ; exact List.set_set ..
        | cons w ws ih =>
          intro σ
          unfold L2.wipe
          by_cases e : i = w
          · subst e; rw [List.set_set, List.set_set, ih]
          · rw [List.set_comm _ _ (Ne.symm e), ih, List.set_comm _ _ e]
      exact this vs σ
    · rcases List.mem_cons.mp h with h | h
      · exact absurd h e
      · rw [wipe_set h]
theorem wipe_wipe {σ : L2.St} : ∀ {vs ws : List Nat}, (∀ i ∈ ws, i ∈ vs) → wipe (wipe σ ws) vs = wipe σ vs
  | _, [], _ => rfl
  | vs, w :: ws, h => by
    rw [show wipe σ (w :: ws) = (wipe σ ws).set w none from rfl, wipe_set (h w List.mem_cons_self)]
    exact wipe_wipe fun i hi => h i (List.mem_cons_of_mem _ hi)
def gNm (i : Nat) : DG := fun d ρ P => P (put ρ i d)
def gsNil : DGs := fun ds ρ P => ds = [] ∧ P ρ
def gsCons (g : DG) (gs : DGs) : DGs := fun ds ρ P => ∃ d r, ds = d :: r ∧ g d ρ fun ρ1 => gs r ρ1 P
def gTp (n : Nat) (gs : DGs) : DG := fun d ρ P => ∃ ds, d = .tup ds ∧ ds.length = n ∧ gs ds ρ P
theorem dg_name {vs : List Nat} (i : Nat) {x : Str} (hN : X.N.Nodup) (hi : X.N[i]? = some x := by rfl) (hx : Loc X.env.scope x := by first | exact Or.inl rfl | exact Or.inr rfl) (hv : i ∈ vs := by decide)
    (hf : X.fn x = true ∨ X.env.scope.names.lookup x = some .local := by first | exact .inl rfl | exact .inr rfl) : PGD X vs (.Name x pos) (gNm i) :=
  (pg_name hN hi hx hf).weak fun v σ H Q ⟨z, ρ, M, d, P, S, A, r, q, F⟩ => F _ _ q (S.put i r) (wipe_set hv)
theorem dgs_nil {vs : List Nat} : PGsD X vs [] gsNil := pgs_nil.weak fun us σ H Q ⟨z, ρ, M, ds, P, S, A, r, ⟨e, q⟩, F⟩ => by
  subst e
  cases r
  exact ⟨rfl, F ρ σ q S rfl⟩
theorem dgs_cons {vs : List Nat} {es : List Expr} {g : DG} {gs : DGs} (h1 : PGD X vs e g) (h2 : PGsD X vs es gs) (hs : (assignEach (e :: es) X.env).map (·.2) = assign e X.env :: (assignEach es X.env).map (·.2) := by rfl) : PGsD X vs (e :: es) (gsCons g gs) :=
  (pgs_cons h1 h2 hs).weak fun us σ H Q ⟨z, ρ, M, ds, P, S, A, r, ⟨d, dr, e, q⟩, F⟩ => by
    subst e
    cases r with
    | cons r1 r2 => exact ⟨_, _, rfl, z, ρ, M, d, _, S, A, r1, q, fun ρ1 σ1 q1 S1 w1 => ⟨z, ρ1, M, dr, P, S1, A, r2, q1, fun ρ2 σ2 q2 S2 w2 => F ρ2 σ2 q2 S2 (w2.trans w1)⟩⟩
theorem dg_tup {vs : List Nat} {es : List Expr} {k n : Nat} {gs : DGs} (hc : X.calm = true) (h : PGsD X vs es gs) (hn : (assignEach es X.env).length = n := by rfl) (hst : (assignEach es X.env).findIdx? (·.1) = none := by rfl) : PGD X vs (.Tuple es k pos) (gTp n gs) :=
  (pg_tup hc h hn hst).weak fun v σ H Q ⟨z, ρ, M, d, P, S, A, r, ⟨ds, e, hl, q⟩, F⟩ => by
    subst e
    obtain ⟨a, us, rfl, h, r⟩ := rep_tup r
    exact ⟨a, us, rfl, h.sq, r.length.trans hl, z, ρ, M, ds, P, S, A, r, q, F⟩
/-- target = value -/
def dAsg (te : DE) (g : DG) : DS := fun D ρ M => te ρ M fun d M1 => g d ρ fun ρ1 => D.nx ρ1 M1
theorem ds_asg {vs : List Nat} {tg : Expr} {g : DG} (he : PED X e te) (hg : PGD X vs tg g) (hs : swapsWithSole [tg] e pos.line X.env = pure false := by rfl) (hw : swappedStores [tg] e X.env = pure none := by rfl)
    (h1 : (assignEach [tg] X.env).map (·.2) = [assign tg X.env] := by rfl) : PSD X (.Assign [tg] e pos) (dAsg te g) :=
  (ps_asg he hg hs hw h1).weak fun D σ H ⟨z, ρ, M, D0, S, A, q, L⟩ => ⟨z, ρ, M, _, S, A, q, fun d M1 v H1 q1 r1 A1 f1 =>
    ⟨z, ρ, M1, d, _, S.fr f1, A1, r1, q1, fun ρ1 σ1 q2 S1 _ => L.nx ρ1 M1 σ1 H1 q2 S1 A1 f1⟩⟩
/-- a, b = x, y with two local names -/
def dPar (i j : Nat) (t : DA) : DS := fun D ρ M => t ρ M fun ds M1 => ∃ x y, ds = [x, y] ∧ D.nx (put (put ρ i x) j y) M1
theorem ds_par {ta : DA} (i j : Nat) {x y : Str} {px py pt : Pos} {kt k2 : Nat} {pt2 : Pos} (hc : X.calm = true) (hN : X.N.Nodup) (ha : PAD X [a, b] ta) (hi : X.N[i]? = some x := by rfl) (hj : X.N[j]? = some y := by rfl) (hij : i ≠ j := by decide)
    (hx : X.env.scope.names.lookup x = some .local := by rfl) (hy : X.env.scope.names.lookup y = some .local := by rfl)
    (hw : swappedStores [.Tuple [.Name x px, .Name y py] kt pt] (.Tuple [a, b] k2 pt2) X.env = pure (some [x, y]) := by rfl)
    (hs : swapsWithSole [.Tuple [.Name x px, .Name y py] kt pt] (.Tuple [a, b] k2 pt2) pos.line X.env = pure false := by rfl) :
    PSD X (.Assign [.Tuple [.Name x px, .Name y py] kt pt] (.Tuple [a, b] k2 pt2) pos) (dPar i j ta) :=
  (ps_par hc hN hi hj hij hx hy ha hw hs).weak fun D σ H ⟨z, ρ, M, D0, S, A, q, L⟩ => ⟨z, ρ, M, _, S, A, q, fun ds M1 vs H1 ⟨x, y, e, q1⟩ r1 A1 f1 => by
    subst e
    cases r1 with
    | cons r1 r2 =>
      cases r2 with
      | cons r2 r3 =>
        cases r3
        exact ⟨_, _, rfl, L.nx _ M1 _ H1 q1 (((S.fr f1).put i r1).put j r2) A1 f1⟩⟩
/-- a name's value, seen otherwise, ahead of a statement; the memory, too -/
def dMView (K : PySem.W.Frag) (t : DS) : DS := fun D ρ M => ∃ M1, MView K M M1 ∧ t D ρ M1
theorem ds_mview (h : PSD X st t) : PSD X st (dMView X.K t) := h.weak fun D σ H ⟨z, ρ, M, D0, S, A, ⟨M1, w, q⟩, L⟩ => by
  obtain ⟨A1, f1⟩ := w z H A
  exact ⟨z, ρ, M1, D0, S.fr f1, A1, q, L.fr f1⟩
theorem db_mview (h : PBD X rest t) : PBD X rest (dMView X.K t) := h.weak fun D σ H ⟨z, ρ, M, D0, S, A, ⟨M1, w, q⟩, L⟩ => by
  obtain ⟨A1, f1⟩ := w z H A
  exact ⟨z, ρ, M1, D0, S.fr f1, A1, q, L.fr f1⟩

/-! ### what a loop walks -/
abbrev DI := DEnv → Mem → (List D → (Mem → Prop) → Mem → Prop) → Prop
/-- the iterator J yields these items, as long as the memory does as G says -/
def ItD (K : KZ) (J : It) (items : List D) (G : Mem → Prop) (M : Mem) (H : Hp) : Prop := ∀ M2 H2, Frame M H M2 H2 → MAbs K M2 H2 → G M2 → ∀ i : Nat,
  (items.length ≤ i → J.stop i H2) ∧ ∀ d, items[i]? = some d → J.go i H2 ∧ ∀ x H3, J.yld i H2 x H3 → Rep K M2 H3 x d ∧ MAbs K M2 H3 ∧ Frame M2 H2 M2 H3
def liftI (K : PySem.W.Frag) (t : DI) : TI := fun σ H R => ∃ z ρ M R0, SAbs ⟨K, z⟩ M H ρ σ ∧ MAbs ⟨K, z⟩ M H ∧ t ρ M R0 ∧ ∀ items G M1 H1 J, R0 items G M1 → MAbs ⟨K, z⟩ M1 H1 → Frame M H M1 H1 → (∀ z', (∀ a, z' a → z a ∨ H1 a = none) → ItD ⟨K, z'⟩ J items G M1 H1) → R J H1
abbrev PID (X : Cx) (tg iter : Expr) (t : DI) : Prop := PI X tg iter (liftI X.K t)
theorem _root_.L2.PI.weak {tg e : Expr} {t t' : TI} (h : PI X tg e t) (w : ∀ σ H R, t' σ H R → t σ H R) : PI X tg e t' := ⟨fun pins s σ H R I q => h.run pins s σ H R I (w _ _ _ q)⟩
/-- for -/
def dFor (ti : DI) (g : DG) (tb : DS) : DS := fun D ρ M => ti ρ M fun items G M1 => ∃ W : Nat → DEnv → Mem → Prop, W 0 ρ M1 ∧
  (∀ i d ρ2 M2, items[i]? = some d → W i ρ2 M2 → G M2 ∧ g d ρ2 fun ρ3 => tb { D with nx := W (i + 1), ct := W (i + 1), bk := D.nx } ρ3 M2) ∧ ∀ ρ2 M2, W items.length ρ2 M2 → G M2 ∧ D.nx ρ2 M2
theorem ds_for {vs : List Nat} {tg iter : Expr} {ti : DI} {g : DG} {tb : DS} (hp : PassesOwn (model X.prog X.w) X.A X.env X.xe) (hc : X.calm = true) (hi : PID X tg iter ti) (hg : PGD X vs tg g) (hb : PBD X body tb)
    (hs : ∀ x, foldedSetIterable iter X.env x = pure x := by intro _; rfl) : PSD X (.For tg iter body [] pos) (dFor ti g tb) :=
  (ps_for hp hc hi hg hb hs).weak fun D σ H ⟨z, ρ, M, D0, S, A, q, L⟩ => ⟨z, ρ, M, _, S, A, q, fun items G M1 H1 J ⟨W, w0, ws, wd⟩ A1 f1 it => by
    have it := it z fun a h => .inl h
    refine ⟨fun i m σ2 H2 => i ≤ items.length ∧ m = items.length - i ∧ ∃ ρ2 M2, SAbs ⟨X.K, z⟩ M2 H2 ρ2 σ2 ∧ MAbs ⟨X.K, z⟩ M2 H2 ∧ Frame M1 H1 M2 H2 ∧ W i ρ2 M2,
      ⟨items.length, Nat.zero_le _, rfl, ρ, M1, S.fr f1, A1, Frame.refl, w0⟩, fun i m σ2 H2 ⟨hi, hm, ρ2, M2, S2, A2, f2, w2⟩ => ?_⟩
    by_cases hlt : i < items.length
    · have hd : items[i]? = some items[i] := List.getElem?_eq_getElem hlt
      obtain ⟨g2, q2⟩ := ws i _ ρ2 M2 hd w2
      obtain ⟨go, y⟩ := (it M2 H2 f2 A2 g2 i).2 _ hd
      refine .inr ⟨go, fun σ3 H3 => ∃ ρ3 M3, SAbs ⟨X.K, z⟩ M3 H3 ρ3 σ3 ∧ MAbs ⟨X.K, z⟩ M3 H3 ∧ Frame M1 H1 M3 H3 ∧ W (i + 1) ρ3 M3, fun σ3 H3 w3 => ⟨items.length - (i + 1), by omega, hlt, rfl, w3⟩, fun x H3 y3 => ?_⟩
      obtain ⟨rx, A3, f3⟩ := y x H3 y3
      refine ⟨z, ρ2, M2, _, _, S2.fr f3, A3, rx, q2, fun ρ4 σ4 q4 S4 _ => ⟨z, ρ4, M2, _, S4, A3, q4, ?_⟩⟩
      have f4 := (f1.trans f2).trans f3
      have again : LS ⟨X.K, z⟩ M2 H3 (W (i + 1)) fun σ3 H3 => ∃ ρ3 M3, SAbs ⟨X.K, z⟩ M3 H3 ρ3 σ3 ∧ MAbs ⟨X.K, z⟩ M3 H3 ∧ Frame M1 H1 M3 H3 ∧ W (i + 1) ρ3 M3 :=
        fun ρ5 M5 σ5 H5 w5 S5 A5 f5 => ⟨ρ5, M5, S5, A5, (f2.trans f3).trans f5, w5⟩
      exact ⟨again, L.rt.fr f4, L.nx.fr f4, again, L.xr.fr f4⟩
    · have e : i = items.length := by omega
      subst e
      obtain ⟨g2, q2⟩ := wd ρ2 M2 w2
      exact .inl ⟨(it M2 H2 f2 A2 g2 _).1 (Nat.le_refl _), L.nx ρ2 M2 σ2 H2 q2 S2 A2 (f1.trans f2)⟩⟩
/-- while -/
def dWhile (c : DT) (tb : DS) : DS := fun D ρ M => ∃ W : Nat → DEnv → Mem → Prop, (∃ m, W m ρ M) ∧ ∀ m ρ M, W m ρ M → c ρ M fun k M1 => if k = true then
  tb { D with nx := fun ρ2 M2 => ∃ m2, m2 < m ∧ W m2 ρ2 M2, ct := fun ρ2 M2 => ∃ m2, m2 < m ∧ W m2 ρ2 M2, bk := D.nx } ρ M1 else D.nx ρ M1
theorem ds_while {tb : DS} (hp : PassesOwn (model X.prog X.w) X.A X.env X.xe) (hc : PTD X c tt) (hb : PBD X body tb) : PSD X (.While c body [] pos) (dWhile tt tb) :=
  (ps_while hp hc hb).weak fun D σ H ⟨z, ρ, M, D0, S, A, ⟨W, ⟨m0, w0⟩, ws⟩, L⟩ => by
    refine ⟨fun m σ2 H2 => ∃ ρ2 M2, SAbs ⟨X.K, z⟩ M2 H2 ρ2 σ2 ∧ MAbs ⟨X.K, z⟩ M2 H2 ∧ Frame M H M2 H2 ∧ W m ρ2 M2, ⟨m0, ρ, M, S, A, Frame.refl, w0⟩, fun m σ2 H2 ⟨ρ2, M2, S2, A2, f2, w2⟩ => ?_⟩
    refine ⟨z, ρ2, M2, _, S2, A2, ws m ρ2 M2 w2, fun k M3 H3 q3 A3 f3 => ?_⟩
    have f4 := f2.trans f3
    cases k with
    | true =>
      rw [if_pos rfl] at q3
      have again : LS ⟨X.K, z⟩ M3 H3 (fun ρ2 M2 => ∃ m2, m2 < m ∧ W m2 ρ2 M2) fun σ3 H3 => ∃ m2, m2 < m ∧ ∃ ρ3 M3, SAbs ⟨X.K, z⟩ M3 H3 ρ3 σ3 ∧ MAbs ⟨X.K, z⟩ M3 H3 ∧ Frame M H M3 H3 ∧ W m2 ρ3 M3 :=
        fun ρ5 M5 σ5 H5 ⟨m2, l, w5⟩ S5 A5 f5 => ⟨m2, l, ρ5, M5, S5, A5, f4.trans f5, w5⟩
      exact iteT ⟨_, fun σ3 H3 w3 => w3, z, ρ2, M3, _, S2.fr f3, A3, q3, ⟨again, L.rt.fr f4, L.nx.fr f4, again, L.xr.fr f4⟩⟩
    | false =>
      rw [if_neg Bool.false_ne_true] at q3
      exact iteF <| L.nx ρ2 M3 σ2 H3 q3 (S2.fr f3) A3 f4

/-! ### list comprehensions -/
abbrev PTsD (X : Cx) (ifs : List Expr) (t : DT) : Prop := PTs X ifs (liftT X.K t)
theorem _root_.L2.PTs.weak {ifs : List Expr} {t t' : TT} (h : PTs X ifs t) (w : ∀ σ H Q, t' σ H Q → t σ H Q) : PTs X ifs t' := ⟨fun pins s σ H Q I q => h.run pins s σ H Q I (w _ _ _ q)⟩
def dYes : DT := fun _ M R => R true M
theorem dts_nil : PTsD X [] dYes := pts_nil.weak fun σ H Q ⟨z, ρ, M, R, S, A, q, F⟩ => F _ _ _ q A Frame.refl
theorem dts_one (h : PTD X c tt) : PTsD X [c] tt := pts_one h
end
/-! what is out of sight: a list that is being made -/
section
variable {K : PySem.W.Frag} {z z' : Addr → Prop} {M : Mem} {H : Hp} {p : Addr} {u : HO}
theorem not_tup {vs0 : List V} (e : H p = some (.lst vs0)) : ∀ xs, ¬ Rd H p (.tup xs) := fun xs h => by
  rcases h with h | ⟨o, h⟩ <;> (rw [e] at h; cases h)
theorem not_tupD {vs0 : List (Key × V)} (e : H p = some (.dK vs0)) : ∀ xs, ¬ Rd H p (.tup xs) := fun xs h => by
  rcases h with h | ⟨o, h⟩ <;> (rw [e] at h; cases h)
theorem rd_some {a : Addr} {u : HO} (r : Rd H a u) : H a ≠ none := by
  rcases r with e | ⟨o, e⟩ <;> (rw [e]; exact nofun)
mutual
theorem Rep.zz (h : ∀ a, H a ≠ none → z' a → z a) : ∀ {v : V} {d : D}, Rep ⟨K, z⟩ M H v d → Rep ⟨K, z'⟩ M H v d
  | _, _, .non => .non
  | _, _, .bl b => .bl b
  | _, _, .int i => .int i
  | _, _, .str x => .str x
  | _, _, .ty n => .ty n
  | _, _, .ref a => .ref a
  | _, _, .tup q r => .tup q (Reps.zz h r)
  | _, _, .lst q r => .lst (q.elim (fun ⟨a, b, c⟩ => .inl ⟨a, b, fun y => c (h _ (rd_some a) y)⟩) .inr) (Reps.zz h r)
  | _, _, .dct ⟨a, b, c⟩ e1 e2 r => .dct ⟨a, b, fun y => c (h _ (rd_some a) y)⟩ e1 e2 (Reps.zz h r)
  | _, _, .box bx e n c r => .box bx e n (fun y => c (h _ (by rw [e]; exact nofun) y)) (Reps.zz h r)
theorem Reps.zz (h : ∀ a, H a ≠ none → z' a → z a) : ∀ {vs : List V} {ds : List D}, Reps ⟨K, z⟩ M H vs ds → Reps ⟨K, z'⟩ M H vs ds
  | _, _, .nil => .nil
  | _, _, .cons r rs => .cons (Rep.zz h r) (Reps.zz h rs)
end
theorem SAbs.zz (h : ∀ a, H a ≠ none → z' a → z a) : ∀ {ρ : DEnv} {σ : L2.St}, SAbs ⟨K, z⟩ M H ρ σ → SAbs ⟨K, z'⟩ M H ρ σ
  | _, _, .nil => .nil
  | _, _, .off t => .off (t.zz h)
  | _, _, .on r t => .on (r.zz h) (t.zz h)
theorem ObjRep.map {K K' : KZ} {M : Mem} {H H' : Hp} {a : Addr} {o : MO} (x : ObjRep K M H a o) (ha : H' a = H a) (hb : ∀ ks b, o = .deck ks b → H' b = H b) (hc : ∀ c u, Bx u → H c = some u → M c = none → ¬ K.z c → H' c = some u ∧ M c = none ∧ ¬ K'.z c) (hr : ∀ vs ds, Reps K M H vs ds → Reps K' M H' vs ds) : ObjRep K' M H' a o := by
  cases o with
  | lst ds =>
    obtain ⟨vs, q, r⟩ := x
    exact ⟨vs, ha.trans q, hr _ _ r⟩
  | dct ks ds =>
    obtain ⟨vs, q, k, r⟩ := x
    exact ⟨vs, ha.trans q, k, hr _ _ r⟩
  | deck ks b =>
    obtain ⟨k1, k2, k3, m, n, ns, e0, q, qb, mb⟩ := x
    exact ⟨k1, k2, k3, m, n, ns, e0, ha.trans q, (hb ks b rfl).trans qb, mb⟩
  | hid c =>
    obtain ⟨w, q⟩ := x
    exact ⟨w, ha.trans q⟩
  | tab q => exact TabD.map x ha hc
  | obj C ns ds =>
    obtain ⟨dx, fs, q, k, r⟩ := x
    exact ⟨dx, fs, ha.trans q, k, hr _ _ r⟩
theorem MAbs.deckAt {K : KZ} (A : MAbs K M H) {a b : Addr} {ks : List Key} (e : M a = some (.deck ks b)) : M b = some (.hid a) := by
  obtain ⟨_, _, _, _, _, _, _, _, _, mb⟩ := A.at_ a _ e
  exact mb
def zput (z : Addr → Prop) (p : Addr) : Addr → Prop := fun a => z a ∨ a = p
theorem MAbs.hide (A : MAbs ⟨K, z⟩ M H) (hp : H p = none) : MAbs ⟨K, zput z p⟩ M (upd H p u) := by
  have hz : ∀ a, H a ≠ none → zput z p a → z a := fun a h y => y.elim id fun e => absurd (e ▸ hp) h
  refine ⟨fun a o e => ?_, fun a o e y => ?_, fun a y => ?_⟩
  · obtain ⟨w, q⟩ := A.there e
    refine (A.at_ a o e).map (upd_ne (ne_of_none q hp)) (fun ks b eo => ?_) (fun c u _ h n nz => ⟨(upd_ne (ne_of_none h hp)).trans h, n, fun y => nz (hz c (by rw [h]; exact nofun) y)⟩) fun vs ds r => (r.zz hz).fr (Frame.new hp)
    subst eo
    obtain ⟨w, q⟩ := A.there (A.deckAt e)
    exact upd_ne (ne_of_none q hp)
  · obtain ⟨w, q⟩ := A.there e
    exact A.out a o e (hz a (by rw [q]; exact nofun) y)
  · by_cases e : a = p
    · exact ⟨u, by rw [e]; exact upd_same⟩
    · obtain ⟨o, q⟩ := A.zat a (y.elim id fun k => absurd k e)
      exact ⟨o, by rw [upd_ne e]; exact q⟩
theorem MAbs.show_ (A : MAbs ⟨K, z'⟩ M H) (h : ∀ a, z a → z' a) : MAbs ⟨K, z⟩ M H := by
  have hz : ∀ a, H a ≠ none → z a → z' a := fun a _ y => h a y
  exact ⟨fun a o e => (A.at_ a o e).map rfl (fun _ _ _ => rfl) (fun c u _ q n nz => ⟨q, n, fun y => nz (h c y)⟩) fun vs ds r => r.zz hz, fun a o e y => A.out a o e (h a y), fun a y => A.zat a (h a y)⟩
mutual
theorem Rep.side (hp : ∀ xs, ¬ Rd H p (.tup xs)) (zp : z p) : ∀ {v : V} {d : D}, Rep ⟨K, z⟩ M H v d → Rep ⟨K, z⟩ M (upd H p u) v d
  | _, _, .non => .non
  | _, _, .bl b => .bl b
  | _, _, .int i => .int i
  | _, _, .str x => .str x
  | _, _, .ty n => .ty n
  | _, _, .ref a => .ref a
  | _, _, .tup q r => .tup (q.elim (fun ⟨a, b⟩ => .inl ⟨by
      unfold Rd
      rw [upd_ne fun e => hp _ (e ▸ a)]
      exact a, b⟩) .inr) (Reps.side hp zp r)
  | _, _, .lst q r => .lst (q.elim (fun ⟨a, b, c⟩ => .inl ⟨by
      have n : ∀ x, x = p → ¬ ¬ z x := fun x e k => k (e ▸ zp)
      unfold Rd
      rw [upd_ne fun e => n _ e c]
      exact a, b, c⟩) .inr) (Reps.side hp zp r)
  | _, _, .dct ⟨a, b, c⟩ e1 e2 r => .dct ⟨by
      have n : ∀ x, x = p → ¬ ¬ z x := fun x e k => k (e ▸ zp)
      unfold Rd
      rw [upd_ne fun e => n _ e c]
      exact a, b, c⟩ e1 e2 (Reps.side hp zp r)
  | _, _, .box bx e n c r => .box bx (by
      have n : ∀ x, x = p → ¬ ¬ z x := fun x e k => k (e ▸ zp)
      rw [upd_ne fun e => n _ e c]
      exact e) n c (Reps.side hp zp r)
theorem Reps.side (hp : ∀ xs, ¬ Rd H p (.tup xs)) (zp : z p) : ∀ {vs : List V} {ds : List D}, Reps ⟨K, z⟩ M H vs ds → Reps ⟨K, z⟩ M (upd H p u) vs ds
  | _, _, .nil => .nil
  | _, _, .cons r rs => .cons (Rep.side hp zp r) (Reps.side hp zp rs)
end
theorem MAbs.side (A : MAbs ⟨K, z⟩ M H) (hp : ∀ xs, ¬ Rd H p (.tup xs)) (zp : z p) : MAbs ⟨K, z⟩ M (upd H p u) := by
  have hne : ∀ a o, M a = some o → a ≠ p := fun a o e k => A.out a o e (k ▸ zp)
  refine ⟨fun a o e => (A.at_ a o e).map (upd_ne (hne a o e)) (fun ks b eo => ?_) (fun c u _ q n nz => ⟨(upd_ne fun y => nz (show z c from by rw [y]; exact zp)).trans q, n, nz⟩) fun vs ds r => r.side hp zp, fun a o e y => A.out a o e y, fun a y => ?_⟩
  · subst eo
    exact upd_ne (hne b _ (A.deckAt e))
  · by_cases e : a = p
    · exact ⟨u, by rw [e]; exact upd_same⟩
    · obtain ⟨o, q⟩ := A.zat a y
      exact ⟨o, by rw [upd_ne e]; exact q⟩
end
section
variable {K : PySem.W.Frag} {z : Addr → Prop} {M : Mem} {H : Hp} {p : Addr} {o : MO}
mutual
theorem Rep.bare (hp : ∀ xs, ¬ Rd H p (.tup xs)) : ∀ {v : V} {d : D}, Rep ⟨K, zput z p⟩ M H v d → Rep ⟨K, z⟩ (mset M p o) H v d
  | _, _, .non => .non
  | _, _, .bl b => .bl b
  | _, _, .int i => .int i
  | _, _, .str x => .str x
  | _, _, .ty n => .ty n
  | _, _, .ref a => .ref a
  | _, _, .tup q r => .tup (q.elim (fun ⟨a, b⟩ => .inl ⟨a, by rw [mset_ne fun e => hp _ (e ▸ a)]; exact b⟩) .inr) (Reps.bare hp r)
  | _, _, .lst q r => .lst (q.elim (fun ⟨a, b, c⟩ => .inl ⟨a, by rw [mset_ne fun e => c (.inr e)]; exact b, fun y => c (.inl y)⟩) .inr) (Reps.bare hp r)
  | _, _, .dct ⟨a, b, c⟩ e1 e2 r => .dct ⟨a, by rw [mset_ne fun e => c (.inr e)]; exact b, fun y => c (.inl y)⟩ e1 e2 (Reps.bare hp r)
  | _, _, .box bx e n c r => .box bx e (by rw [mset_ne fun e => c (.inr e)]; exact n) (fun y => c (.inl y)) (Reps.bare hp r)
theorem Reps.bare (hp : ∀ xs, ¬ Rd H p (.tup xs)) : ∀ {vs : List V} {ds : List D}, Reps ⟨K, zput z p⟩ M H vs ds → Reps ⟨K, z⟩ (mset M p o) H vs ds
  | _, _, .nil => .nil
  | _, _, .cons r rs => .cons (Rep.bare hp r) (Reps.bare hp rs)
end
theorem MAbs.bare {u : HO} (A : MAbs ⟨K, zput z p⟩ M H) (e : H p = some u) (hp : ∀ xs, ¬ Rd H p (.tup xs)) (nz : ¬ z p) (q : ObjRep ⟨K, z⟩ (mset M p o) H p o) : MAbs ⟨K, z⟩ (mset M p o) H := by
  have np : M p = none := A.zown (.inr rfl)
  refine ⟨fun a x ea => ?_, fun a x ea y => ?_, fun a y => A.zat a (.inl y)⟩
  · by_cases w : a = p
    · subst w
      rw [mset_same] at ea
      cases ea
      exact q
    · rw [mset_ne w] at ea
      have h := A.at_ a x ea
      cases x with
      | lst ds =>
        obtain ⟨vs, q, r⟩ := h
        exact ⟨vs, q, r.bare hp⟩
      | dct ks ds =>
        obtain ⟨vs, q, k, r⟩ := h
        exact ⟨vs, q, k, r.bare hp⟩
      | deck ks b =>
        obtain ⟨k1, k2, k3, m, n, ns, e0, q, qb, mb⟩ := h
        refine ⟨k1, k2, k3, m, n, ns, e0, q, qb, ?_⟩
        rw [mset_ne fun e => ?_]
        · exact mb
        · rw [e, np] at mb; cases mb
      | hid c => exact h
      | obj C ns ds =>
        obtain ⟨dx, fs, q, k, r⟩ := h
        exact ⟨dx, fs, q, k, r.bare hp⟩
      | tab q => exact TabD.map h rfl fun c u _ q n nz => ⟨q, by rw [mset_ne fun e => nz (.inr e)]; exact n, fun y => nz (.inl y)⟩
  · by_cases w : a = p
    · exact nz (w ▸ y)
    · rw [mset_ne w] at ea
      exact A.out a x ea (.inl y)
theorem Frame.bare {M0 : Mem} {H0 : Hp} (f : Frame M0 H0 M H) (hp : H0 p = none) : Frame M0 H0 (mset M p o) H := fun c h n => by
  obtain ⟨e1, e2⟩ := f c h n
  exact ⟨e1, by rw [mset_ne fun e => h (by rw [e]; exact hp)]; exact e2⟩
end
section
variable {X : Cx} {pos : Pos}
/-- [te for g in ti if tt]: vs the block's own names -/
def dLcW (vs : List Nat) (ti : DI) (g : DG) (tt : DT) (te : DE) (end_ : List D → Mem → RK → Prop) : DE := fun ρ M R => ti ρ M fun items G M1 => items.length ≤ sizeLine ∧ ∃ W : Nat → List D → Mem → Prop, W 0 [] M1 ∧
  (∀ i d acc M2, items[i]? = some d → acc.length ≤ i → W i acc M2 → G M2 ∧ g d (dwipe ρ vs) fun ρ3 => tt ρ3 M2 fun k M3 => if k = true then te ρ3 M3 fun y M4 => W (i + 1) (acc ++ [y]) M4 else W (i + 1) acc M3) ∧
  ∀ acc M2, acc.length ≤ items.length → W items.length acc M2 → G M2 ∧ end_ acc M2 R
/-- a frozen list; one that may change -/
def dLc (vs : List Nat) (ti : DI) (g : DG) (tt : DT) (te : DE) : DE := dLcW vs ti g tt te fun acc M R => R (.lst acc) M
def dLcM (vs : List Nat) (ti : DI) (g : DG) (tt : DT) (te : DE) : DE := dLcW vs ti g tt te fun acc M R => ∀ p, M p = none → R (.ref p) (mset M p (.lst acc))
theorem lc_end (z : Addr → Prop) (acc : List D) (M : Mem) (R : RK) (H : Hp) (Q : VK) (p : Addr) (us : List V) (M0 : Mem) (H0 : Hp) (q : R (.lst acc) M) (A : MAbs ⟨X.K, zput z p⟩ M H) (e : H p = some (.lst us)) (r : Reps ⟨X.K, zput z p⟩ M H us acc) (nz : ¬ z p) (hp : H0 p = none) (f : Frame M0 H0 M H) (F : Fin ⟨X.K, z⟩ M0 H0 R Q) : Q (.ref p) H := by
  have hs : ∀ a, z a → zput z p a := fun a h => .inl h
  exact F _ _ _ _ q (.lst (.inl ⟨.inl e, A.zown (.inr rfl), nz⟩) (r.zz fun a _ h => hs a h)) (A.show_ hs) f
theorem lc_endM (z : Addr → Prop) (acc : List D) (M : Mem) (R : RK) (H : Hp) (Q : VK) (p : Addr) (us : List V) (M0 : Mem) (H0 : Hp) (q : ∀ p, M p = none → R (.ref p) (mset M p (.lst acc))) (A : MAbs ⟨X.K, zput z p⟩ M H) (e : H p = some (.lst us)) (r : Reps ⟨X.K, zput z p⟩ M H us acc) (nz : ¬ z p) (hp : H0 p = none) (f : Frame M0 H0 M H) (F : Fin ⟨X.K, z⟩ M0 H0 R Q) : Q (.ref p) H :=
  F _ _ _ _ (q p (A.zown (.inr rfl))) (.ref p) (A.bare e (not_tup e) nz ⟨us, e, r.bare (not_tup e)⟩) (f.bare hp)
theorem lift_lc {vs : List Nat} {ti : DI} {g : DG} {tt : DT} {te : DE} {end_ : List D → Mem → RK → Prop} {σ : L2.St} {H : Hp} {Q : VK}
    (he : ∀ (z : Addr → Prop) acc M R H Q p us M0 H0, end_ acc M R → MAbs ⟨X.K, zput z p⟩ M H → H p = some (.lst us) → Reps ⟨X.K, zput z p⟩ M H us acc → ¬ z p → H0 p = none → Frame M0 H0 M H → Fin ⟨X.K, z⟩ M0 H0 R Q → Q (.ref p) H)
    (h : liftE X.K (dLcW vs ti g tt te end_) σ H Q) : tLc (liftI X.K ti) (liftG X.K vs g) (liftT X.K tt) (liftE X.K te) vs σ H Q := by
  obtain ⟨z, ρ, M, R, S, A, q, F⟩ := h
  refine ⟨z, ρ, M, _, S, A, q, fun items G M1 H1 J ⟨hz, W, w0, ws, wd⟩ A1 f1 it p hp => ?_⟩
  have it := it (zput z p) fun a h => h.elim .inl fun e => .inr (e ▸ hp)
  have hzz : ∀ a, H1 a ≠ none → zput z p a → z a := fun a h y => y.elim id fun e => absurd (e ▸ hp) h
  have zp : zput z p p := .inr rfl
  have S1 : SAbs ⟨X.K, zput z p⟩ M1 H1 (dwipe ρ vs) (wipe σ vs) := ((S.fr f1).zz hzz).wipe vs
  have fn : ∀ {u : HO}, Frame M1 H1 M1 (upd H1 p u) := Frame.new hp
  refine ⟨fun i m H2 => i ≤ items.length ∧ m = items.length - i ∧ ∃ acc M2 us, acc.length ≤ i ∧ H2 p = some (.lst us) ∧ Reps ⟨X.K, zput z p⟩ M2 H2 us acc ∧ MAbs ⟨X.K, zput z p⟩ M2 H2 ∧ Frame M1 H1 M2 H2 ∧ W i acc M2,
    ⟨items.length, Nat.zero_le _, rfl, [], M1, [], Nat.le_refl _, upd_same, .nil, A1.hide hp, fn, w0⟩, fun i m H2 ⟨hi, hm, acc, M2, us, ha, eD, rD, A2, f2, w2⟩ => ?_⟩
  by_cases hlt : i < items.length
  · have hd : items[i]? = some items[i] := List.getElem?_eq_getElem hlt
    obtain ⟨g2, q2⟩ := ws i _ acc M2 hd ha w2
    obtain ⟨go, y⟩ := (it M2 H2 f2 A2 g2 i).2 _ hd
    refine .inr ⟨go, fun H3 => ∃ acc M3 us, acc.length ≤ i + 1 ∧ H3 p = some (.lst us) ∧ Reps ⟨X.K, zput z p⟩ M3 H3 us acc ∧ MAbs ⟨X.K, zput z p⟩ M3 H3 ∧ Frame M1 H1 M3 H3 ∧ W (i + 1) acc M3,
      fun H3 w3 => ⟨items.length - (i + 1), by omega, hlt, rfl, w3⟩, fun x H3 y3 => ?_⟩
    obtain ⟨rx, A3, f3⟩ := y x H3 y3
    have f13 := f2.trans f3
    -- the new list stands as long as others work
    have keep : ∀ {M5 H5}, Frame M2 H2 M5 H5 → H5 p = some (.lst us) ∧ M5 p = none := fun {M5 H5} f => by
      obtain ⟨e1, e2⟩ := f p (by rw [eD]; exact nofun) (A2.zown zp)
      exact ⟨e1.trans eD, e2⟩
    refine ⟨zput z p, dwipe ρ vs, M2, _, _, S1.fr f13, A3, rx, q2, fun ρ4 σ4 q4 S4 hw => ⟨by rw [hw]; exact wipe_wipe (fun _ h => h), zput z p, ρ4, M2, _, S4, A3, q4, fun k M5 H5 q5 A5 f5 => ?_⟩⟩
    cases k with
    | true =>
      rw [if_pos rfl] at q5
      refine iteT ⟨zput z p, ρ4, M5, _, S4.fr f5, A5, q5, fun y M6 v H6 q6 r6 A6 f6 => ?_⟩
      have f26 := (f3.trans f5).trans f6
      obtain ⟨e6, n6⟩ := keep f26
      have hl : us.length = acc.length := rD.length
      refine ⟨us, e6, by omega, acc ++ [y], M6, us ++ [v], by rw [List.length_append]; simp; omega, upd_same, ((rD.fr f26).append (.cons r6 .nil)).side (not_tup e6) zp, A6.side (not_tup e6) zp, fun c hc nc => ?_, q6⟩
      obtain ⟨z1, z2⟩ := (f2.trans f26) c hc nc
      have ne : c ≠ p := fun e => hc (by rw [e]; exact hp)
      exact ⟨(upd_ne ne).trans z1, z2⟩
    | false =>
      rw [if_neg Bool.false_ne_true] at q5
      have f25 := f3.trans f5
      obtain ⟨e5, n5⟩ := keep f25
      exact iteF ⟨acc, M5, us, by omega, e5, rD.fr f25, A5, f2.trans f25, q5⟩
  · have e : i = items.length := by omega
    subst e
    obtain ⟨g2, q2⟩ := wd acc M2 ha w2
    refine .inl ⟨(it M2 H2 f2 A2 g2 _).1 (Nat.le_refl _), ?_⟩
    exact he z acc M2 R H2 Q p us M1 H1 q2 A2 eD rD (A1.znew hp) hp f2 (F.fr f1)
section
variable {elt tg iter : Expr} {ifs : List Expr} {scope : Scope} {own : List (Str × Nat)} {ti : DI} {g : DG} {tt : DT} {te : DE}
theorem de_lc (hc : X.calm = true) (hN : X.N.Nodup) (hi : PID X tg iter ti) (ok : blkC X.N X.env.scope scope own = true)
    (hg : ∀ (s : Shared) (H : Hp) (C : Addr) (cl : List (Str × Addr)) (fp : List Addr), PGD (X.blk s H scope (compEnvC scope cl C X.env) fp) (own.map (·.2)) tg g) (ht : ∀ (s : Shared) (H : Hp) (C : Addr) (cl : List (Str × Addr)) (fp : List Addr), PTsD (X.blk s H scope (compEnvC scope cl C X.env) fp) ifs tt)
    (he : ∀ (s : Shared) (H : Hp) (C : Addr) (cl : List (Str × Addr)) (fp : List Addr), PED (X.blk s H scope (compEnvC scope cl C X.env) fp) elt te) (hs : ∀ x, foldedSetIterable iter X.env x = pure x := by intro _; rfl) :
    PED X (.ListComp elt [⟨tg, iter, ifs, 0⟩] scope pos) (dLc (own.map (·.2)) ti g tt te) :=
  (pe_lc hc hN hi (blkOk_by ok) hg ht he hs).weak fun σ H Q h => lift_lc lc_end h
theorem de_lcM (hc : X.calm = true) (hN : X.N.Nodup) (hi : PID X tg iter ti) (ok : blkC X.N X.env.scope scope own = true)
    (hg : ∀ (s : Shared) (H : Hp) (C : Addr) (cl : List (Str × Addr)) (fp : List Addr), PGD (X.blk s H scope (compEnvC scope cl C X.env) fp) (own.map (·.2)) tg g) (ht : ∀ (s : Shared) (H : Hp) (C : Addr) (cl : List (Str × Addr)) (fp : List Addr), PTsD (X.blk s H scope (compEnvC scope cl C X.env) fp) ifs tt)
    (he : ∀ (s : Shared) (H : Hp) (C : Addr) (cl : List (Str × Addr)) (fp : List Addr), PED (X.blk s H scope (compEnvC scope cl C X.env) fp) elt te) (hs : ∀ x, foldedSetIterable iter X.env x = pure x := by intro _; rfl) :
    PED X (.ListComp elt [⟨tg, iter, ifs, 0⟩] scope pos) (dLcM (own.map (·.2)) ti g tt te) :=
  (pe_lc hc hN hi (blkOk_by ok) hg ht he hs).weak fun σ H Q h => lift_lc lc_endM h
/-- y = [..] -/
theorem ds_setLc (i : Nat) {y : Str} {py spos : Pos} (hc : X.calm = true) (hN : X.N.Nodup) (hi : PID X tg iter ti) (ok : blkC X.N X.env.scope scope own = true)
    (hg : ∀ (s : Shared) (H : Hp) (C : Addr) (cl : List (Str × Addr)) (fp : List Addr), PGD (X.blk s H scope (compEnvC scope cl C X.env) fp) (own.map (·.2)) tg g) (ht : ∀ (s : Shared) (H : Hp) (C : Addr) (cl : List (Str × Addr)) (fp : List Addr), PTsD (X.blk s H scope (compEnvC scope cl C X.env) fp) ifs tt)
    (he : ∀ (s : Shared) (H : Hp) (C : Addr) (cl : List (Str × Addr)) (fp : List Addr), PED (X.blk s H scope (compEnvC scope cl C X.env) fp) elt te)
    (hsw : swapsWith (.ListComp elt [⟨tg, iter, ifs, 0⟩] scope pos) (some (.Name y py)) spos.line X.env = pure true) (hy : X.N[i]? = some y := by rfl) (hyl : X.env.scope.names.lookup y = some .local := by rfl) (hs : ∀ x, foldedSetIterable iter X.env x = pure x := by intro _; rfl) :
    PSD X (.Assign [.Name y py] (.ListComp elt [⟨tg, iter, ifs, 0⟩] scope pos) spos) (dSet i (dLc (own.map (·.2)) ti g tt te)) :=
  (ps_setLc hc hN hy hyl hsw hi (blkOk_by ok) hg ht he hs).weak fun D σ H ⟨z, ρ, M, D0, S, A, q, L⟩ => lift_lc (tt := tt) (g := g) (te := te) (Q := fun x H1 => gName i x σ H1 D.nx) lc_end
    ⟨z, ρ, M, fun d M1 => D0.nx (put ρ i d) M1, S, A, q, fun d M1 v H1 q1 r1 A1 f1 => L.nx _ M1 _ H1 q1 ((S.fr f1).put i r1) A1 f1⟩
end
end
end DL

set_option Elab.async false
set_option linter.all false
set_option maxHeartbeats 4000000
/-! D-layer, part 6: what loops and comprehensions walk. -/
namespace DL
open PySem PySem.Spec PyProof.Rows L2

def charsD (x : Str) : List D := x.cps.toList.map fun c => .str ⟨#[c]⟩
/-- a value that is walked: its items, and what must stay so while they are -/
def Iter (M : Mem) (d : D) (items : List D) (G : Mem → Prop) : Prop := match d with
  | .tup ds => items = ds ∧ G = fun _ => True
  | .lst ds => items = ds ∧ G = fun _ => True
  | .str x => items = charsD x ∧ G = fun _ => True
  | .ref a => M a = some (.lst items) ∧ G = fun M => M a = some (.lst items)
  | _ => False
section
variable {K : KZ} {M : Mem} {H : Hp} {a : Addr} {vs : List V} {ds : List D}
theorem itd_list (h : RdL K M H a vs) (r : Reps K M H vs ds) : ItD K (Itl K.k a) ds (fun _ => True) M H := fun M2 H2 f A _ i => by
  have q := (h.fr f).sq
  have r2 := r.fr f
  refine ⟨fun hi => ⟨vs, q, by rw [r.length]; exact hi⟩, fun d hd => ?_⟩
  obtain ⟨v, hv, rv⟩ := r2.get hd
  exact ⟨⟨vs, v, q, hv⟩, fun x H3 ⟨e, y⟩ => by
    subst e
    have := y vs q
    rw [hv] at this
    cases this
    exact ⟨rv, A, Frame.refl⟩⟩
theorem itd_tup (h : RdT K M H a vs) (r : Reps K M H vs ds) : ItD K (Itt K.k a) ds (fun _ => True) M H := fun M2 H2 f A _ i => by
  have q := (h.fr f).sq
  have r2 := r.fr f
  refine ⟨fun hi => ⟨vs, q, by rw [r.length]; exact hi⟩, fun d hd => ?_⟩
  obtain ⟨v, hv, rv⟩ := r2.get hd
  exact ⟨⟨vs, v, q, hv⟩, fun x H3 ⟨e, y⟩ => by
    subst e
    have := y vs q
    rw [hv] at this
    cases this
    exact ⟨rv, A, Frame.refl⟩⟩
theorem itd_ref : ItD K (Itl K.k a) ds (fun M => M a = some (.lst ds)) M H := fun M2 H2 f A g i => by
  obtain ⟨us, e, r2⟩ := A.at_ a _ g
  have q : SqL K.k H2 a us := .inl (.inl e)
  refine ⟨fun hi => ⟨us, q, by rw [r2.length]; exact hi⟩, fun d hd => ?_⟩
  obtain ⟨v, hv, rv⟩ := r2.get hd
  exact ⟨⟨us, v, q, hv⟩, fun x H3 ⟨e, y⟩ => by
    subst e
    have := y us q
    rw [hv] at this
    cases this
    exact ⟨rv, A, Frame.refl⟩⟩
theorem itd_str {x : Str} : ItD K (Its x) (charsD x) (fun _ => True) M H := fun M2 H2 f A _ i => by
  unfold charsD
  refine ⟨fun hi => by rw [List.length_map, Array.length_toList] at hi; exact hi, fun d hd => ?_⟩
  rw [List.getElem?_map] at hd
  cases e : x.cps.toList[i]? with
  | none => rw [e] at hd; cases hd
  | some c =>
    rw [e] at hd
    cases hd
    have e' : x.cps[i]? = some c := by rw [← e, Array.getElem?_toList]
    refine ⟨by obtain ⟨h, _⟩ := Array.getElem?_eq_some_iff.mp e'; exact h, fun v H3 ⟨eh, c', ec, ev⟩ => ?_⟩
    subst eh ev
    rw [e'] at ec
    cases ec
    exact ⟨.str _, A, Frame.refl⟩
theorem itd_rng {lo : Int} {n : Nat} : ItD K (Itr lo n) ((List.range n).map fun i => .int (lo + (i : Nat))) (fun _ => True) M H := fun M2 H2 f A _ i => by
  refine ⟨fun hi => by rw [List.length_map, List.length_range] at hi; exact hi, fun d hd => ?_⟩
  rw [List.getElem?_map] at hd
  cases e : (List.range n)[i]? with
  | none => rw [e] at hd; cases hd
  | some j =>
    rw [e] at hd
    cases hd
    have hj := List.getElem?_eq_some_iff.mp e
    obtain ⟨hl, hj⟩ := hj
    rw [List.length_range] at hl
    rw [List.getElem_range] at hj
    subst hj
    exact ⟨hl, fun v H3 ⟨eh, ev⟩ => by subst eh ev; exact ⟨.int _, A, Frame.refl⟩⟩
end
theorem RdL.zz {K : PySem.W.Frag} {z z' : Addr → Prop} {M : Mem} {H : Hp} {a : Addr} {vs : List V} (h : ∀ a, H a ≠ none → z' a → z a) : RdL ⟨K, z⟩ M H a vs → RdL ⟨K, z'⟩ M H a vs
  | .inl ⟨p, q, r⟩ => .inl ⟨p, q, fun y => r (h _ (rd_some p) y)⟩
  | .inr k => .inr k
section
variable {X : Cx} {tg e : Expr} {te : DE} {ta : DA} {pos : Pos}
/-- a list, a tuple, a text, whichever it is, at an address or as it is -/
def iVal (K : PySem.W.Frag) (te : TE) : TI := fun σ H R => te σ H fun v H1 => (∃ x, v = .str x ∧ R (Its x) H1) ∨ ∃ a, v = .ref a ∧ ((∃ xs, SqL K H1 a xs ∧ R (Itl K a) H1) ∨ ∃ xs, SqT K H1 a xs ∧ R (Itt K a) H1)
theorem pi_val {te : TE} (he : PE X e te) : PI X tg e (iVal X.K te) := by
  refine ⟨fun pins s σ H R I h => ?_⟩
  refine thn (he.run pins s σ H _ I h) fun v s1 ⟨y, H1, I1, r1, q⟩ => ?_
  have nw : H1 s1.heap.objs.size = none := I1.hok.fresh (Nat.le_refl _)
  have one : ∀ {o : Obj} {tk : Nat} {tn : Nat → Heap → Prop} {J : It}, Turn X.prog X.w X.K tg J [s1.heap.objs.size] s1.heap.objs.size tn → tn 0 (s1.heap.push o) → R J H1 → PIE X pins σ tg R (.ref s1.heap.objs.size) { s1 with heap := s1.heap.push o, toks := tk } :=
    fun {o tk tn J} T st qr => ⟨_, _, tn, J, H1, rfl, I1.kept (t' := tk) fun b u ee => Heap.get?_push_of_some _ ee, T, st, fun b hb => by
      obtain rfl : b = s1.heap.objs.size := by simpa using hb
      exact I1.fpOk (Nat.le_refl _) nw, qr⟩
  rcases q with ⟨x, rfl, q⟩ | ⟨a, rfl, ⟨xs, hq, q⟩ | ⟨xs, hq, q⟩⟩
  · obtain ⟨t, rfl⟩ := r1
    cases ha : x.cps.all (· < 128)
    · exact wpAny_pyIter_wide ha (one (tk := s1.toks) (turn_str _ x t "str_iterator" (.inr rfl)) ⟨_, Heap.get?_push_size _ rfl, rfl, rfl⟩ q)
    · exact wpAny_pyIter_ascii ha (one (tk := s1.toks) (turn_str _ x t "str_ascii_iterator" (.inl rfl)) ⟨_, Heap.get?_push_size _ rfl, rfl, rfl⟩ q)
  · cases r1
    obtain ⟨its, _, p, _⟩ := I1.list hq
    exact wpAny_pyIter_list p.isList (one (tk := s1.toks) (turn_list a _) ⟨_, Heap.get?_push_size _ rfl, rfl, rfl⟩ q)
  · cases r1
    obtain ⟨its, _, p, _⟩ := I1.tuple hq
    exact wpAny_pyIter_tuple (show s1.heap.IsTuple a its.toArray from p) (one (tk := s1.toks) (turn_tuple a _) ⟨_, Heap.get?_push_size _ rfl, rfl, rfl⟩ q)
def dVal (te : DE) : DI := fun ρ M R => te ρ M fun d M1 => ∃ items G, Iter M1 d items G ∧ R items G M1
theorem di_val (he : PED X e te) : PID X tg e (dVal te) :=
  (pi_val he).weak fun σ H R ⟨z, ρ, M, R0, S, A, q, F⟩ => ⟨z, ρ, M, _, S, A, q, fun d M1 v H1 ⟨items, G, hi, q1⟩ r1 A1 f1 => by
    have zz : ∀ z' : Addr → Prop, (∀ a, z' a → z a ∨ H1 a = none) → ∀ a, H1 a ≠ none → z' a → z a := fun z' hz a h y => (hz a y).elim id fun e => absurd e h
    cases d with
    | tup ds =>
      obtain ⟨rfl, rfl⟩ := hi
      obtain ⟨a, vs, rfl, h, r⟩ := rep_tup r1
      exact .inr ⟨a, rfl, .inr ⟨vs, h.sq, F _ _ _ _ _ q1 A1 f1 fun z' hz => itd_tup (K := ⟨X.K, z'⟩) (h.elim .inl .inr) (r.zz (zz z' hz))⟩⟩
    | lst ds =>
      obtain ⟨rfl, rfl⟩ := hi
      obtain ⟨a, vs, rfl, h, r⟩ := rep_lst r1
      exact .inr ⟨a, rfl, .inl ⟨vs, h.sq, F _ _ _ _ _ q1 A1 f1 fun z' hz => itd_list (K := ⟨X.K, z'⟩) (h.zz (zz z' hz)) (r.zz (zz z' hz))⟩⟩
    | str x =>
      obtain ⟨rfl, rfl⟩ := hi
      obtain rfl := rep_str r1
      exact .inl ⟨x, rfl, F _ _ _ _ _ q1 A1 f1 fun z' hz => itd_str⟩
    | ref a =>
      obtain ⟨ha, rfl⟩ := hi
      obtain rfl := rep_ref r1
      obtain ⟨vs, ea, r⟩ := A1.at_ a _ ha
      exact .inr ⟨a, rfl, .inl ⟨vs, .inl (.inl ea), F _ _ _ _ _ q1 A1 f1 fun z' hz => itd_ref (K := ⟨X.K, z'⟩)⟩⟩
    | _ => exact hi.elim⟩
/-- range(n) -/
def dRng1 (ta : DA) : DI := fun ρ M R => ta ρ M fun ds M1 => ∃ n : Int, ds = [.int n] ∧ -(2 ^ 62) ≤ n ∧ n < 2 ^ 62 ∧ R ((List.range n.toNat).map fun i => .int (i : Nat)) (fun _ => True) M1
theorem di_rng1 {p : Pos} (hm : X.mg "range" = none) (ha : PAD X [e] ta) (hg : Gl X "range" := by rfl) (hs : starEach [e] X.env = [(false, eval e X.env)] := by rfl) : PID X tg (.Call (.Name "range" p) [e] [] pos) (dRng1 ta) :=
  (pi_range1 hg hm ha hs).weak fun σ H R ⟨z, ρ, M, R0, S, A, q, F⟩ => ⟨z, ρ, M, _, S, A, q, fun ds M1 vs H1 ⟨n, e, h1, h2, q1⟩ r1 A1 f1 => by
    subst e
    cases r1 with
    | cons r rs =>
      cases rs
      obtain rfl := rep_int r
      refine ⟨n, rfl, h1, h2, F _ _ _ _ _ q1 A1 f1 fun z' hz => ?_⟩
      have := itd_rng (K := ⟨X.K, z'⟩) (M := M1) (H := H1) (lo := 0) (n := n.toNat)
      simpa using this⟩
/-- range(m, n) -/
def dRng2 (ta : DA) : DI := fun ρ M R => ta ρ M fun ds M1 => ∃ m n : Int, ds = [.int m, .int n] ∧ (-(2 ^ 62) ≤ m ∧ m < 2 ^ 62 ∧ -(2 ^ 62) ≤ n ∧ n < 2 ^ 62) ∧ R ((List.range (n - m).toNat).map fun i => .int (m + (i : Nat))) (fun _ => True) M1
theorem di_rng2 {e2 : Expr} {p : Pos} (hm : X.mg "range" = none) (ha : PAD X [e, e2] ta) (hg : Gl X "range" := by rfl) (hs : starEach [e, e2] X.env = [(false, eval e X.env), (false, eval e2 X.env)] := by rfl) (hs2 : starEach [e2] X.env = [(false, eval e2 X.env)] := by rfl) : PID X tg (.Call (.Name "range" p) [e, e2] [] pos) (dRng2 ta) :=
  (pi_range2 hg hm ha hs hs2).weak fun σ H R ⟨z, ρ, M, R0, S, A, q, F⟩ => ⟨z, ρ, M, _, S, A, q, fun ds M1 vs H1 ⟨m, n, e, h1, q1⟩ r1 A1 f1 => by
    subst e
    cases r1 with
    | cons r rs =>
      cases rs with
      | cons r' rs =>
        cases rs
        obtain rfl := rep_int r
        obtain rfl := rep_int r'
        exact ⟨m, n, rfl, h1, F _ _ _ _ _ q1 A1 f1 fun z' hz => itd_rng⟩⟩
end
end DL

set_option Elab.async false
set_option linter.all false
set_option maxHeartbeats 4000000
/-! D-layer, part 7: items, slices, methods of lists and texts, built-ins. -/
namespace DL
open PySem PySem.Spec PyProof.Rows L2

section
variable {K : KZ} {M : Mem} {H : Hp}
theorem Reps.atI {vs : List V} {ds : List D} {i : Int} {d : D} (r : Reps K M H vs ds) (e : atI ds i = some d) : ∃ v, L2.atI vs i = some v ∧ Rep K M H v d := by
  unfold L2.atI at *
  rw [r.length]
  cases q : ixN ds.length i with
  | none => rw [q] at e; cases e
  | some j =>
    rw [q] at e
    exact r.get e
def cutD {α : Type} (xs : List α) (lo hi : Option Int) : List α := (xs.drop (HT.sIx xs.length 0 lo)).take (HT.sIx xs.length xs.length hi - HT.sIx xs.length 0 lo)
theorem Reps.cut {vs : List V} {ds : List D} (r : Reps K M H vs ds) (lo hi : Option Int) : Reps K M H (cutV vs lo hi) (cutD ds lo hi) := by
  unfold cutV cutD
  rw [r.length]
  exact (r.drop _).take _
theorem cutD_all {α : Type} {xs : List α} {lo hi : Option Int} (h : HT.sIx xs.length 0 lo = 0 ∧ HT.sIx xs.length xs.length hi = xs.length) : cutD xs lo hi = xs := by
  unfold cutD
  rw [h.1, h.2]
  simp
end

section
variable {X : Cx} {a b e : Expr} {es : List Expr} {ta tb te : DE} {t : DA} {pos : Pos}
/-! ### items -/
def dIx : D2 := fun x y M R => ∃ i, y = .int i ∧ match x with
  | .tup ds => ∃ d, atI ds i = some d ∧ R d M
  | .lst ds => ∃ d, atI ds i = some d ∧ R d M
  | .str s => s.length ≤ sizeLine ∧ ∃ c, atI s.cps.toList i = some c ∧ R (.str ⟨#[c]⟩) M
  | .ref a => ∃ ds d, M a = some (.lst ds) ∧ atI ds i = some d ∧ R d M
  | _ => False
theorem ixr_seq : IxR X (lift2 X.K dIx) := by
  intro val sli pins s σ H x y v u Q I rx ry hh hsub
  obtain ⟨z, M, dx, dy, R, A, r1, r2, ⟨i, e, h⟩, F⟩ := hh
  subst e
  obtain rfl := rep_int r2
  refine ix_seq val sli pins s σ H x _ v u Q I rx ry ?_ hsub
  split at h
  · obtain ⟨d, hd, q⟩ := h
    obtain ⟨a, vs, rfl, hr, rs⟩ := rep_tup r1
    obtain ⟨w, hw, rw⟩ := rs.atI hd
    exact .inr (.inl ⟨a, vs, i, w, rfl, rfl, hr.sq, hw, F.at_ A q rw⟩)
  · obtain ⟨d, hd, q⟩ := h
    obtain ⟨a, vs, rfl, hr, rs⟩ := rep_lst r1
    obtain ⟨w, hw, rw⟩ := rs.atI hd
    exact .inl ⟨a, vs, i, w, rfl, rfl, hr.sq, hw, F.at_ A q rw⟩
  · obtain ⟨hl, c, hc, q⟩ := h
    obtain rfl := rep_str r1
    exact .inr (.inr ⟨_, i, c, rfl, rfl, hl, hc, F.at_ A q (.str _)⟩)
  · obtain ⟨ds, d, hm, hd, q⟩ := h
    obtain rfl := rep_ref r1
    obtain ⟨vs, ea, rs⟩ := A.at_ _ _ hm
    obtain ⟨w, hw, rw⟩ := rs.atI hd
    exact .inl ⟨_, vs, i, w, rfl, rfl, .inl (.inl ea), hw, F.at_ A q rw⟩
  · exact h.elim
theorem de_ix (ha : PED X a ta) (hb : PED X b tb) (hs : PlainIx b := by exact fun _ _ => rfl) : PED X (.Subscript a b pos) (dOp dIx ta tb) := (pe_ix ixr_seq ha hb hs).weak fun _ _ _ => lift_two

/-! ### slices -/
abbrev DO := DEnv → Mem → (Option Int → Mem → Prop) → Prop
def liftO (K : PySem.W.Frag) (t : DO) : TO := fun σ H Q => ∃ z ρ M R, SAbs ⟨K, z⟩ M H ρ σ ∧ MAbs ⟨K, z⟩ M H ∧ t ρ M R ∧ ∀ o M' H', R o M' → MAbs ⟨K, z⟩ M' H' → Frame M H M' H' → Q o H'
theorem _root_.L2.PO.weak {e : Option Expr} {t t' : TO} (h : PO X e t) (w : ∀ σ H Q, t' σ H Q → t σ H Q) : PO X e t' := ⟨fun pins s σ H Q I q => h.run pins s σ H Q I (w _ _ _ q)⟩
abbrev POD (X : Cx) (e : Option Expr) (t : DO) : Prop := PO X e (liftO X.K t)
def dNoPart : DO := fun _ M R => R none M
def dPart (te : DE) : DO := fun ρ M R => te ρ M fun d M1 => ∃ i, d = .int i ∧ R (some i) M1
theorem do_none : POD X none dNoPart := po_none.weak fun σ H Q ⟨z, ρ, M, R, S, A, q, F⟩ => F none M H q A Frame.refl
theorem do_some (he : PED X e te) : POD X (some e) (dPart te) := (po_some he).weak fun σ H Q ⟨z, ρ, M, R, S, A, q, F⟩ => ⟨z, ρ, M, _, S, A, q, fun d M1 v H1 ⟨i, ed, q1⟩ r1 A1 f1 => by
  subst ed
  exact ⟨i, rep_int r1, F _ M1 H1 q1 A1 f1⟩⟩
def rSlD (x : D) (lo hi : Option Int) (M : Mem) (R : RK) : Prop := match x with
  | .tup ds => R (.tup (cutD ds lo hi)) M
  | .lst ds => R (.lst (cutD ds lo hi)) M
  | .str s => s.length ≤ sizeLine ∧ R (.str (cutS s lo hi)) M
  | .ref a => ∃ ds, M a = some (.lst ds) ∧ R (.lst (cutD ds lo hi)) M
  | _ => False
def liftSl (K : PySem.W.Frag) : V → Option Int → Option Int → Hp → VK → Prop := fun v lo hi H Q => ∃ z M x R, MAbs ⟨K, z⟩ M H ∧ Rep ⟨K, z⟩ M H v x ∧ rSlD x lo hi M R ∧ Fin ⟨K, z⟩ M H R Q
theorem slr_seq : SlR X (liftSl X.K) := by
  intro pins s σ H x v vl vu lo hi sl Q I rx hs pl pu ⟨z, M, dx, R, A, r1, h, F⟩
  unfold rSlD at h
  split at h
  · obtain ⟨a, vs, rfl, hr, rs⟩ := rep_tup r1
    refine sl_tupA pins s σ H _ v vl vu lo hi sl Q I rx hs pl pu ⟨a, vs, rfl, hr.sq, fun e => ?_, fun _ p hp => F.tup A hp (rs.cut lo hi) h⟩
    rw [rs.length] at e
    rw [cutD_all e] at h
    exact F.at_ A h (.tup hr rs)
  · obtain ⟨a, vs, rfl, hr, rs⟩ := rep_lst r1
    exact sl_list pins s σ H _ v vl vu lo hi sl Q I rx hs pl pu ⟨a, vs, rfl, hr.sq, fun p hp => F.lst A hp (rs.cut lo hi) h⟩
  · obtain rfl := rep_str r1
    exact sl_str pins s σ H _ v vl vu lo hi sl Q I rx hs pl pu ⟨_, rfl, h.1, F.at_ A h.2 (.str _)⟩
  · obtain ⟨ds, hm, q⟩ := h
    obtain rfl := rep_ref r1
    obtain ⟨vs, ea, rs⟩ := A.at_ _ _ hm
    exact sl_list pins s σ H _ v vl vu lo hi sl Q I rx hs pl pu ⟨_, vs, rfl, .inl (.inl ea), fun p hp => F.lst A hp (rs.cut lo hi) q⟩
  · exact h.elim
def dSl (te : DE) (tl th : DO) : DE := fun ρ M R => te ρ M fun x M1 => tl ρ M1 fun l M2 => th ρ M2 fun u M3 => rSlD x l u M3 R
theorem de_sl {lo hi : Option Expr} {tl th : DO} {p2 : Pos} (he : PED X e te) (hl : POD X lo tl) (hh : POD X hi th) : PED X (.Subscript e (.Slice lo hi none p2) pos) (dSl te tl th) :=
  (pe_slice slr_seq he hl hh).weak fun σ H Q ⟨z, ρ, M, R, S, A, q, F⟩ => ⟨z, ρ, M, _, S, A, q, fun x M1 v H1 q1 r1 A1 f1 => ⟨z, ρ, M1, _, S.fr f1, A1, q1, fun l M2 H2 q2 A2 f2 =>
    ⟨z, ρ, M2, _, S.fr (f1.trans f2), A2, q2, fun u M3 H3 q3 A3 f3 => ⟨z, M3, x, R, A3, r1.fr (f2.trans f3), q3, F.fr ((f1.trans f2).trans f3)⟩⟩⟩⟩

/-! ### x[::-1] -/
theorem fmap_congr {α β : Type} {f g : α → Option β} : ∀ {l : List α}, (∀ x ∈ l, f x = g x) → l.filterMap f = l.filterMap g
  | [], _ => rfl
  | x :: l, h => by
    rw [List.filterMap_cons, List.filterMap_cons, h x List.mem_cons_self, fmap_congr fun y hy => h y (List.mem_cons_of_mem _ hy)]
theorem tup_back {prog : Program} {w : World} {A : Around} {E : Value → Shared → Prop} {s : Shared} {t sl : Addr} {items : Array Value} {vs : Value} {Q : Value → Shared → Prop} (ht : IsTup s.heap t items) (hs : s.heap.IsSliceOf sl .none .none vs) (ps : IsPart vs (some (-1)))
    (h : Q (.ref s.heap.objs.size) { s with heap := s.heap.push { cls := .type "tuple", data := .seq items.toList.reverse.toArray } }) (hsz : items.size ≤ sizeLine) : wpAny (model prog w) A (getItem (.ref t) (.ref sl)) Q E s := by
  obtain ⟨os, hos, hcs, hds⟩ := id hs
  have hTs : s.TypeIs (.ref sl) "slice" := ⟨os, hos, hcs⟩
  have hadj : Builtin.Slice.sliceAdjust none none (-1) (items.size : Int) = ((items.size : Int) - 1, -1) := rfl
  have hpl : Builtin.Slice.slicePlaces ((items.size : Int) - 1) (-1) (-1) = items.size := by
    unfold Builtin.Slice.slicePlaces
    have h1 : ¬ ((-1 : Int) > 0) := by decide
    by_cases h2 : (items.size : Int) - 1 > -1
    · simp only [h1, h2, if_true, if_false]
      rw [show (-(-1 : Int)) = 1 by decide, Int.ediv_one]
      omega
    · simp only [h1, h2, if_false]
      omega
  have hpick : ((List.range items.size).filterMap fun (k : Nat) => items[((items.size : Int) - 1 + (k : Int) * (-1)).toNat]?).toArray = items.toList.reverse.toArray := by
    have e := PySem.W.krv_pick items
    unfold slicePick at e
    rw [PySem.W.krv_bounds] at e
    rw [← e]
    show _ = ((sliceRange ((items.size : Int) - 1) (-1) (-1)).filterMap (items[·]?)).toArray
    rw [PySem.W.krv_sliceRange, List.filterMap_map]
    congr 1
    refine fmap_congr fun k hk => ?_
    have hk := List.mem_range.mp hk
    show items[_]? = items[items.size - 1 - k]?
    congr 1
    omega
  unfold getItem
  try with_reducible refine wpAny_holding ?_
  first | refine wpAny_bind (wpAny_pure ?_) | skip
  refine wpAny_bind (wpAny_sequenceKey ht.typeIs (by decide) ?_)
  refine wpAny_bind (wpAny_callSpecial?_slot (name := Str.ofString "__getitem__") ht.typeIs PyProof.Rows.slot_tuple_getitem (wpAny_call_entry PyProof.Rows.slot_tuple_getitem ht.typeIs entry_tuple_getitem ?_ (args_tuple_getitem _ _)))
  show wpAny _ _ (Builtin.Tuple.tupleItemsOf (.ref t) >>= _) _ _ s
  refine wpAny_bind (tupleItemsOf_ ht ?_)
  refine wpAny_bind (wpAny_typeOf hTs ?_)
  rw [if_pos (by decide)]
  refine wpAny_bind ?_
  · unfold Builtin.Slice.sliceApplied Builtin.Slice.sliceFields
    refine wpAny_bind (wpAny_bind (wpAny_field hos hds (x := .none) rfl (wpAny_bind (wpAny_field hos hds (x := .none) rfl (wpAny_bind (wpAny_field hos hds (x := vs) rfl (wpAny_pure ?_)))))))
    refine wpAny_bind (HT.slicePart_ ps ?_)
    show wpAny _ _ (if ((-1 : Int) == 0) = true then _ else _) _ _ s
    rw [if_neg (by decide)]
    refine wpAny_bind (HT.slicePart_ .none (wpAny_bind (HT.slicePart_ .none (wpAny_bind (wpAny_pure ?_)))))
    show wpAny _ _ (match Builtin.Slice.sliceAdjust none none (-1) (items.size : Int) with | (lo, hi) => pure (lo, (-1 : Int), Builtin.Slice.slicePlaces lo hi (-1))) _ _ s
    rw [hadj]
    show wpAny _ _ (pure ((items.size : Int) - 1, (-1 : Int), Builtin.Slice.slicePlaces ((items.size : Int) - 1) (-1) (-1))) _ _ s
    rw [hpl]
    refine wpAny_pure ?_
    have hno : ¬ (((items.size : Int) - 1 == 0 && (-1 : Int) == 1 && items.size == items.size) = true) := by simp
    show wpAny _ _ (if ((items.size : Int) - 1 == 0 && (-1 : Int) == 1 && items.size == items.size) = true then _ else _) _ _ s
    rw [if_neg hno, hpick]
    have htake : sizeOk (.seq items.toList.reverse.toArray) := by
      show items.toList.reverse.toArray.size ≤ sizeLine
      simpa using hsz
    first
      | exact wpAny_bind (m := Builtin.Tuple.tupleExact _) (wpAny_newObj_type (wpAny_pure ⟨_, rfl, wpAny_pure h⟩) htake)
      | exact wpAny_bind (wpAny_bind (m := Builtin.Tuple.tupleExact _) (wpAny_newObj_type (wpAny_pure ⟨_, rfl, wpAny_pure h⟩) htake))
/-- x[::-1], a tuple or a list -/
def dRev (te : DE) : DE := fun ρ M R => te ρ M fun x M1 => match x with
  | .tup ds => R (.tup ds.reverse) M1
  | .lst ds => R (.lst ds.reverse) M1
  | .ref a => ∃ ds, M1 a = some (.lst ds) ∧ R (.lst ds.reverse) M1
  | _ => False
/-- the same, the new list one that may change -/
def dRevM (te : DE) : DE := fun ρ M R => te ρ M fun x M1 => ∃ ds, ListAt M1 x ds ∧ ∀ p, M1 p = none → R (.ref p) (mset M1 p (.lst ds.reverse))
def tRevA (K : PySem.W.Frag) (te : TE) : TE := fun σ H Q => te σ H fun x H1 => ∃ a xs, x = .ref a ∧ ((SqL K H1 a xs ∧ ∀ p, H1 p = none → Q (.ref p) (upd H1 p (.lst xs.reverse))) ∨ (SqT K H1 a xs ∧ ∀ p, H1 p = none → Q (.ref p) (upd H1 p (.tup xs.reverse))))
theorem pe_revA {te : TE} {k : Nat} {p1 p2 p3 : Pos} (he : PE X e te) : PE X (.Subscript e (.Slice none none (some (.UnaryOp .USub (.Constant (.int 1) k p1) p2)) p3) pos) (tRevA X.K te) := by
  refine ⟨fun pins s σ H Q I h => ?_⟩
  refine Subscript_ (thn (he.run pins s σ H _ I h) fun v s1 ⟨x, H1, I1, r1, a, xs, ex, hx⟩ => ?_)
  subst ex
  cases r1
  have hst : PO X (some (.UnaryOp .USub (.Constant (.int 1) k p1) p2)) (tPart (tUn (rU fun i => .int (-i)) (tC (.int 1)))) := po_some (pe_un un_neg pe_int)
  refine wpAny_Slice (thn (po_none.run pins s1 σ H1 (fun o H2 => o = none ∧ H2 = H1) I1 ⟨rfl, rfl⟩) fun vl s2 ⟨l, H2, I2, pl, el, e2⟩ => ?_)
  subst el e2
  refine thn (po_none.run pins s2 σ H2 (fun o H3 => o = none ∧ H3 = H2) I2 ⟨rfl, rfl⟩) fun vu s3 ⟨u, H3, I3, pu, eu, e3⟩ => ?_
  subst eu e3
  refine thn (hst.run pins s3 σ H3 (fun o H4 => o = some (-1) ∧ H4 = H3) I3 ⟨1, rfl, -1, rfl, rfl, rfl⟩) fun vs s4 ⟨o, H4, I4, ps, eo, e4⟩ => ?_
  subst eo e4
  have I5 : Inv X pins σ H4 { s4 with heap := s4.heap.push { cls := .type "slice", data := .fields #[vl, vu, vs] } } := I4.kept (t' := s4.toks) fun b ob q => Heap.get?_push_of_some _ q
  have nw := I5.hok.fresh (Nat.le_refl _)
  rcases hx with ⟨hx, q⟩ | ⟨hx, q⟩
  · obtain ⟨its, r, ht, hz⟩ := I5.list hx
    refine tail_any (ops := [.ref a, .ref s4.heap.objs.size]) ht.isList.typeIs (PySem.slot_list_getitem.lookup) ?_ (by with_unfolding_all rfl)
    refine wpAny_getItem_list_slice ht.isList (Heap.IsSliceOf.new _ vl vu vs) pl pu ps (by decide) ?_ (by rw [List.size_toArray, ← r.length]; exact hz)
    rw [PySem.W.krv_pick]
    exact ⟨.ref _, _, I5.laid (t' := s4.toks) (o := .lst xs.reverse) (fun b ob q => Heap.get?_push_of_some _ q) (Nat.le_refl _) ⟨by rw [List.length_reverse]; exact hz, _, 0, r.reverse, Heap.get?_push_size _ rfl⟩, rfl, q _ nw⟩
  · obtain ⟨its, r, ht, hz⟩ := I5.tuple hx
    obtain rfl : vl = .none := by cases pl; rfl
    obtain rfl : vu = .none := by cases pu; rfl
    refine tail_any (ops := [.ref a, .ref s4.heap.objs.size]) ht.typeIs PyProof.Rows.slot_tuple_getitem.lookup ?_ (by with_unfolding_all rfl)
    refine tup_back ht (Heap.IsSliceOf.new _ .none .none vs) ps ?_ (by rw [List.size_toArray, ← r.length]; exact hz)
    exact ⟨.ref _, _, I5.laid (t' := s4.toks) (o := .tup xs.reverse) (fun b ob q => Heap.get?_push_of_some _ q) (Nat.le_refl _) ⟨by rw [List.length_reverse]; exact hz, _, r.reverse, IsTup.new _ _⟩, rfl, q _ nw⟩
theorem de_rev {k : Nat} {p1 p2 p3 : Pos} (he : PED X e te) : PED X (.Subscript e (.Slice none none (some (.UnaryOp .USub (.Constant (.int 1) k p1) p2)) p3) pos) (dRev te) :=
  (pe_revA he).weak fun σ H Q ⟨z, ρ, M, R, S, A, q, F⟩ => ⟨z, ρ, M, _, S, A, q, fun x M1 v H1 q1 r1 A1 f1 => by
    cases x with
    | tup ds =>
      obtain ⟨a, vs, rfl, hr, rs⟩ := rep_tup r1
      exact ⟨a, vs, rfl, .inr ⟨hr.sq, fun p hp => (F.fr f1).tup A1 hp rs.reverse q1⟩⟩
    | lst ds =>
      obtain ⟨a, vs, rfl, hr, rs⟩ := rep_lst r1
      exact ⟨a, vs, rfl, .inl ⟨hr.sq, fun p hp => (F.fr f1).lst A1 hp rs.reverse q1⟩⟩
    | ref a =>
      obtain ⟨ds, hm, q1⟩ := q1
      obtain rfl := rep_ref r1
      obtain ⟨vs, ea, rs⟩ := A1.at_ _ _ hm
      exact ⟨a, vs, rfl, .inl ⟨.inl (.inl ea), fun p hp => (F.fr f1).lst A1 hp rs.reverse q1⟩⟩
    | _ => exact q1.elim⟩
theorem de_revM {k : Nat} {p1 p2 p3 : Pos} (he : PED X e te) : PED X (.Subscript e (.Slice none none (some (.UnaryOp .USub (.Constant (.int 1) k p1) p2)) p3) pos) (dRevM te) :=
  (pe_revA he).weak fun σ H Q ⟨z, ρ, M, R, S, A, q, F⟩ => ⟨z, ρ, M, _, S, A, q, fun x M1 v H1 ⟨ds, l, q1⟩ r1 A1 f1 => by
    obtain ⟨a, vs, rfl, hr, rs⟩ := rep_list A1 r1 l
    exact ⟨a, vs, rfl, .inl ⟨hr, fun p hp => (F.fr f1).lstM A1 hp rs.reverse (q1 p (A1.free hp))⟩⟩⟩

/-! ### methods -/
def tyM (T : String) (d : D) (M : Mem) : Prop := (T = "str" ∧ ∃ x, d = .str x) ∨ (T = "list" ∧ ∃ ds, ListAt M d ds) ∨ (T = "dict" ∧ ∃ a ks ds, d = .ref a ∧ M a = some (.dct ks ds))
theorem tyM_is {K : KZ} {M : Mem} {H : Hp} {v : V} {d : D} {T : String} (A : MAbs K M H) (r : Rep K M H v d) (h : tyM T d M) : tyV K.k T v H := by
  rcases h with ⟨rfl, x, rfl⟩ | ⟨rfl, ds, l⟩ | ⟨rfl, a, ks, ds, rfl, m⟩
  · obtain rfl := rep_str r
    exact rfl
  · obtain ⟨a, vs, rfl, hr, rs⟩ := rep_list A r l
    exact .inl ⟨rfl, vs, hr⟩
  · obtain rfl := rep_ref r
    obtain ⟨kvs, ea, _⟩ := A.at_ _ _ m
    exact .inr (.inr (.inl ⟨rfl, .inl ⟨kvs, ea⟩⟩))
def dMeth0 (T : String) (r : DM) (to : DE) : DE := fun ρ M R => to ρ M fun d M1 => tyM T d M1 ∧ r d [] M1 R
def dMeth (T : String) (r : DM) (to : DE) (t : DA) : DE := fun ρ M R => to ρ M fun d M1 => tyM T d M1 ∧ t ρ M1 fun ds M2 => r d ds M2 R
variable {o : Expr} {to : DE} {name : Str} {apos cpos : Pos} {T id : String} {r : DM}
theorem de_meth0 (pa : PlainAttrs T) (slot : Slot T name id) (hty : typeOf (.builtin id) = pure (.type "method_descriptor")) (hm : MtR X id (liftM X.K r)) (ho : PED X o to)
    (hbase : attributeBase o name X.env (eval o X.env) = eval o X.env := by rfl) (hline : (apos.endLine == cpos.line) = true := by rfl) : PED X (.Call (.Attribute o name apos) [] [] cpos) (dMeth0 T r to) :=
  (pe_bm0 pa slot hty hm ho hbase hline).weak fun σ H Q ⟨z, ρ, M, R, S, A, q, F⟩ => ⟨z, ρ, M, _, S, A, q, fun d M1 v H1 ⟨ty, q1⟩ r1 A1 f1 => ⟨tyM_is A1 r1 ty, z, M1, d, [], R, A1, r1, .nil, q1, F.fr f1⟩⟩
theorem de_meth (pa : PlainAttrs T) (slot : Slot T name id) (hty : typeOf (.builtin id) = pure (.type "method_descriptor")) (hm : MtR X id (liftM X.K r)) (ho : PED X o to) (ha : PAD X (e :: es) t)
    (hbase : attributeBase o name X.env (eval o X.env) = eval o X.env := by rfl)
    (hfew : ((backTo cpos (starEach (e :: es) X.env)).all (fun x => !x.1) && (backToKw cpos (keywordEach [] X.env)).all (fun x => x.1.isSome)
      && decide ((e :: es).length + ([] : List Keyword).length + (if ([] : List Keyword).isEmpty then 0 else 1) < 30)) = true := by rfl)
    (hline : (apos.endLine == cpos.line) = true := by rfl) (hs : starEach (e :: es) X.env = (false, eval e X.env) :: starEach es X.env := by rfl) (hplain : (backTo cpos (starEach es X.env)).any (·.1) = false := by rfl) :
    PED X (.Call (.Attribute o name apos) (e :: es) [] cpos) (dMeth T r to t) :=
  (pe_bm pa slot hty hm ho ha hbase hfew hline hs hplain).weak fun σ H Q ⟨z, ρ, M, R, S, A, q, F⟩ => ⟨z, ρ, M, _, S, A, q, fun d M1 v H1 ⟨ty, q1⟩ r1 A1 f1 => ⟨tyM_is A1 r1 ty,
    z, ρ, M1, _, S.fr f1, A1, q1, fun ds M2 us H2 q2 r2 A2 f2 => ⟨z, M2, d, ds, R, A2, r1.fr f2, r2, q2, F.fr (f1.trans f2)⟩⟩⟩
theorem _root_.L2.MtM.toR {id : String} {r : V → List V → Hp → VK → Prop} (h : MtM X id r) : MtR X id r := fun pins s σ H x xs v us Q I a b c => h pins s σ H x xs v us Q I a b c
/-- the memory's list at a is another one -/
theorem Fin.wrL {K : KZ} {M : Mem} {H : Hp} {R : RK} {Q : VK} (F : Fin K M H R Q) (A : MAbs K M H) {a : Addr} {ds es : List D} {vs : List V} {d : D} {v : V} (e : M a = some (.lst ds)) (rs : Reps K M H vs es) (r : Rep K M H v d) (q : R d (mset M a (.lst es))) : Q v (upd H a (.lst vs)) :=
  F _ _ _ _ q (r.fr (Frame.wr e)) (A.wr e True.intro ⟨vs, upd_same, rs.fr (Frame.wr e)⟩) (Frame.wr e)
def dAppend : DM := fun d xs M R => ∃ a ds y, d = .ref a ∧ xs = [y] ∧ M a = some (.lst ds) ∧ ds.length < sizeLine ∧ R .non (mset M a (.lst (ds ++ [y])))
def dExtend : DM := fun d xs M R => ∃ a ds y es, d = .ref a ∧ xs = [y] ∧ M a = some (.lst ds) ∧ ListAt M y es ∧ ds.length + es.length ≤ sizeLine ∧ R .non (mset M a (.lst (ds ++ es)))
def dPop : DM := fun d xs M R => ∃ a ds y, d = .ref a ∧ xs = [] ∧ M a = some (.lst ds) ∧ ds[ds.length - 1]? = some y ∧ R y (mset M a (.lst ds.dropLast))
theorem md_append : MtR X "list.append" (liftM X.K dAppend) := mt_append.toR.weak fun x xs H Q ⟨z, M, d, ds, R, A, r1, r2, ⟨a, es, y, e1, e2, hm, hl, q⟩, F⟩ => by
  subst e1 e2
  obtain rfl := rep_ref r1
  obtain ⟨vs, ea, rs⟩ := A.at_ _ _ hm
  cases r2 with
  | cons r2 r3 =>
    cases r3
    exact ⟨a, vs, _, rfl, rfl, ea, by rw [rs.length]; exact hl, F.wrL A hm (rs.append (.cons r2 .nil)) .non q⟩
theorem md_pop : MtR X "list.pop" (liftM X.K dPop) := mt_pop.toR.weak fun x xs H Q ⟨z, M, d, ds, R, A, r1, r2, ⟨a, es, y, e1, e2, hm, hy, q⟩, F⟩ => by
  subst e1 e2
  obtain rfl := rep_ref r1
  obtain ⟨vs, ea, rs⟩ := A.at_ _ _ hm
  cases r2
  obtain ⟨v, hv, rv⟩ := rs.get hy
  exact ⟨a, vs, v, rfl, rfl, ea, by rw [rs.length]; exact hv, F.wrL A hm rs.dropLast rv q⟩
theorem strs_of {K : KZ} {M : Mem} {H : Hp} : ∀ {vs : List V} (ys : List Str), Reps K M H vs (ys.map .str) → vs = ys.map .str
  | _, [], h => by cases h; rfl
  | _, y :: ys, h => by
    cases h with
    | cons r t =>
      obtain rfl := rep_str r
      rw [strs_of ys t]
      rfl
theorem bools_of {K : KZ} {M : Mem} {H : Hp} : ∀ {vs : List V} (ys : List Bool), Reps K M H vs (ys.map .bl) → vs = ys.map .bl
  | _, [], h => by cases h; rfl
  | _, y :: ys, h => by
    cases h with
    | cons r t =>
      obtain rfl := rep_bl r
      rw [bools_of ys t]
      rfl
def dJoin : DM := fun d xs M R => ∃ a y, ∃ ys : List Str, d = .str a ∧ xs = [y] ∧ (ListAt M y (ys.map .str) ∨ y = .tup (ys.map .str)) ∧ (ys.map (·.length)).sum + ys.length * a.length ≤ 16777216 ∧ R (.str (Txt.join a ys)) M
theorem md_join : MtR X "str.join" (liftM X.K dJoin) := mt_join.weak fun x xs H Q ⟨z, M, d, ds, R, A, r1, r2, ⟨a, y, ys, e1, e2, hm, hl, q⟩, F⟩ => by
  subst e1 e2
  obtain rfl := rep_str r1
  cases r2 with
  | cons r2 r3 =>
    cases r3
    rcases hm with hm | hm
    · obtain ⟨p, vs, rfl, hr, rs⟩ := rep_list A r2 hm
      obtain rfl := strs_of ys rs
      exact ⟨a, p, ys, rfl, rfl, .inl hr, hl, F.at_ A q (.str _)⟩
    · subst hm
      obtain ⟨p, vs, rfl, hr, rs⟩ := rep_tup r2
      obtain rfl := strs_of ys rs
      exact ⟨a, p, ys, rfl, rfl, .inr hr.sq, hl, F.at_ A q (.str _)⟩
def dUpper : DM := fun d xs M R => ∃ a, d = .str a ∧ xs = [] ∧ a.length ≤ 5592405 ∧ R (.str (Txt.upper a)) M
theorem md_upper : MtR X "str.upper" (liftM X.K dUpper) := mt_upper.weak fun x xs H Q ⟨z, M, d, ds, R, A, r1, r2, ⟨a, e1, e2, hl, q⟩, F⟩ => by
  subst e1 e2
  obtain rfl := rep_str r1
  cases r2
  exact ⟨a, rfl, rfl, hl, F.at_ A q (.str _)⟩

/-! ### built-ins by name -/
def dInt1 : DN := fun xs M R => (∃ i, xs = [.int i] ∧ R (.int i) M) ∨ ∃ k, xs = [.bl k] ∧ R (.int (if k then 1 else 0)) M
theorem cd_int1 : CallR X (.type "int") (liftN X.K dInt1) := call_int1.weak fun xs H Q ⟨z, M, ds, R, A, r, h, F⟩ => by
  rcases h with ⟨i, e, q⟩ | ⟨k, e, q⟩
  · subst e
    obtain rfl := Reps.of_ints [i] r
    exact .inl ⟨i, rfl, F.at_ A q (.int _)⟩
  · subst e
    obtain rfl := bools_of [k] r
    exact .inr ⟨k, rfl, F.at_ A q (.int _)⟩
def dMax2 : DN := fun xs M R => ∃ i j, xs = [.int i, .int j] ∧ R (.int (if j > i then j else i)) M
def dMin2 : DN := fun xs M R => ∃ i j, xs = [.int i, .int j] ∧ R (.int (if j < i then j else i)) M
theorem cd_max2 (hc : X.calm = true) : CallR X (.builtin "max") (liftN X.K dMax2) := (call_max2 hc).weak fun xs H Q ⟨z, M, ds, R, A, r, ⟨i, j, e, q⟩, F⟩ => by
  subst e
  obtain rfl := Reps.of_ints [i, j] r
  exact ⟨i, j, rfl, F.at_ A q (.int _)⟩
theorem cd_min2 (hc : X.calm = true) : CallR X (.builtin "min") (liftN X.K dMin2) := (call_min2 hc).weak fun xs H Q ⟨z, M, ds, R, A, r, ⟨i, j, e, q⟩, F⟩ => by
  subst e
  obtain rfl := Reps.of_ints [i, j] r
  exact ⟨i, j, rfl, F.at_ A q (.int _)⟩
def dLen : DN := fun xs M R => ∃ x, xs = [x] ∧ match x with
  | .tup ds => R (.int ds.length) M
  | .lst ds => R (.int ds.length) M
  | .str s => s.length ≤ sizeLine ∧ R (.int s.length) M
  | .ref a => ∃ ds, M a = some (.lst ds) ∧ R (.int ds.length) M
  | _ => False
theorem cd_len : CallR X (.builtin "len") (liftN X.K dLen) := CallR.cases fun xs H Q ⟨z, M, ds, R, A, r, ⟨x, e, h⟩, F⟩ => by
  subst e
  cases r with
  | cons r rs =>
    cases rs
    split at h
    · obtain ⟨p, vs, rfl, hr, rs⟩ := rep_tup r
      exact ⟨_, call_len_seq, p, vs, rfl, .inr hr.sq, by rw [rs.length]; exact F.at_ A h (.int _)⟩
    · obtain ⟨p, vs, rfl, hr, rs⟩ := rep_lst r
      exact ⟨_, call_len_seq, p, vs, rfl, .inl hr.sq, by rw [rs.length]; exact F.at_ A h (.int _)⟩
    · obtain rfl := rep_str r
      exact ⟨_, call_len_str, _, rfl, h.1, F.at_ A h.2 (.int _)⟩
    · obtain ⟨ds, hm, q⟩ := h
      obtain rfl := rep_ref r
      obtain ⟨vs, ea, rs⟩ := A.at_ _ _ hm
      exact ⟨_, call_len_seq, _, vs, rfl, .inl (.inl (.inl ea)), by rw [rs.length]; exact F.at_ A q (.int _)⟩
    · exact h.elim
/-- list(x): frozen -/
def dList : DN := fun xs M R => ∃ x ds, xs = [x] ∧ (x = .tup ds ∨ ListAt M x ds) ∧ R (.lst ds) M
theorem cd_list : CallR X (.type "list") (liftN X.K dList) := call_list_of.weak fun xs H Q ⟨z, M, ds, R, A, r, ⟨x, es, e, h, q⟩, F⟩ => by
  subst e
  cases r with
  | cons r rs =>
    cases rs
    rcases h with h | h
    · subst h
      obtain ⟨p, vs, rfl, hr, rs⟩ := rep_tup r
      exact ⟨p, vs, rfl, .inr hr.sq, fun l hl => F.lst A hl rs q⟩
    · obtain ⟨p, vs, rfl, hr, rs⟩ := rep_list A r h
      exact ⟨p, vs, rfl, .inl hr, fun l hl => F.lst A hl rs q⟩
def dTuple : DN := fun xs M R => ∃ x ds, xs = [x] ∧ (x = .tup ds ∨ ListAt M x ds) ∧ R (.tup ds) M
theorem cd_tuple : CallR X (.type "tuple") (liftN X.K dTuple) := call_tuple_of.weak fun xs H Q ⟨z, M, ds, R, A, r, ⟨x, es, e, h, q⟩, F⟩ => by
  subst e
  cases r with
  | cons r rs =>
    cases rs
    rcases h with h | h
    · subst h
      obtain ⟨p, vs, rfl, hr, rs⟩ := rep_tup r
      exact ⟨p, vs, rfl, .inr ⟨hr.sq, F.at_ A q (.tup hr rs)⟩⟩
    · obtain ⟨p, vs, rfl, hr, rs⟩ := rep_list A r h
      exact ⟨p, vs, rfl, .inl ⟨hr, fun l hl => F.tup A hl rs q⟩⟩
def dStrInt : DN := fun xs M R => ∃ i, xs = [.int i] ∧ i.natAbs.log2 < 1920 ∧ R (.str (toString i)) M
theorem cd_strInt : CallR X (.type "str") (liftN X.K dStrInt) := call_str_int.weak fun xs H Q ⟨z, M, ds, R, A, r, ⟨i, e, h, q⟩, F⟩ => by
  subst e
  obtain rfl := Reps.of_ints [i] r
  exact ⟨i, rfl, h, F.at_ A q (.str _)⟩
def dAll : DN := fun xs M R => ∃ x, ∃ bs : List Bool, xs = [x] ∧ ListAt M x (bs.map .bl) ∧ R (.bl (bs.all fun b => b)) M
def dAny : DN := fun xs M R => ∃ x, ∃ bs : List Bool, xs = [x] ∧ ListAt M x (bs.map .bl) ∧ R (.bl (bs.any fun b => b)) M
theorem cd_all (hc : X.calm = true) : CallR X (.builtin "all") (liftN X.K dAll) := (cr_all hc).weak fun xs H Q ⟨z, M, ds, R, A, r, ⟨x, bs, e, h, q⟩, F⟩ => by
  subst e
  cases r with
  | cons r rs =>
    cases rs
    obtain ⟨p, vs, rfl, hr, rs⟩ := rep_list A r h
    obtain rfl := bools_of bs rs
    exact ⟨p, bs, rfl, hr, F.at_ A q (.bl _)⟩
theorem cd_any (hc : X.calm = true) : CallR X (.builtin "any") (liftN X.K dAny) := (cr_any hc).weak fun xs H Q ⟨z, M, ds, R, A, r, ⟨x, bs, e, h, q⟩, F⟩ => by
  subst e
  cases r with
  | cons r rs =>
    cases rs
    obtain ⟨p, vs, rfl, hr, rs⟩ := rep_list A r h
    obtain rfl := bools_of bs rs
    exact ⟨p, bs, rfl, hr, F.at_ A q (.bl _)⟩
def dSum : DN := fun xs M R => ∃ x, ∃ ns : List Int, xs = [x] ∧ ListAt M x (ns.map .int) ∧ R (.int (List.sum ns)) M
theorem cd_sum (hc : X.calm = true) : CallR X (.builtin "sum") (liftN X.K dSum) := (cr_sum hc).weak fun xs H Q ⟨z, M, ds, R, A, r, ⟨x, bs, e, h, q⟩, F⟩ => by
  subst e
  cases r with
  | cons r rs =>
    cases rs
    obtain ⟨p, vs, rfl, hr, rs⟩ := rep_list A r h
    obtain rfl := Reps.of_ints bs rs
    exact ⟨p, bs, rfl, hr, F.at_ A q (.int _)⟩
/-- isinstance of a built-in class -/
def dIsi : DN := fun xs M R => ∃ x t c, xs = [x, .ty c] ∧ tyD M x = some t ∧ R (.bl (isTy t c)) M ∧ c ∈ ["int", "str", "bool", "tuple", "list", "dict"]
theorem tyD_mem {M : Mem} {d : D} {t : String} (h : tyD M d = some t) : t ∈ ["NoneType", "bool", "int", "str", "tuple", "list", "dict"] := by
  cases d with
  | ref a =>
    have e' : (match M a with
      | some (.lst _) => some "list"
      | some (.dct _ _) => some "dict"
      | some (.deck _ _) => some "dict"
      | _ => none) = some t := h
    split at e' <;> cases e' <;> decide
  | _ => cases h <;> decide
theorem kit_all : ∀ t ∈ ["NoneType", "bool", "int", "str", "tuple", "list", "dict"], ∀ c ∈ ["int", "str", "bool", "tuple", "list", "dict"], L2.kitB t c = some (isTy t c) := by decide +kernel
theorem cd_isi : CallR X (.builtin "isinstance") (liftN X.K dIsi) := call_isi.weak fun xs H Q ⟨z, M, ds, R, A, r, ⟨x, t, c, e, h, q, hc⟩, F⟩ => by
  subst e
  cases r with
  | cons r rs =>
    cases rs with
    | cons r2 rs =>
      cases rs
      obtain rfl := rep_ty r2
      exact ⟨_, .ty c, .type t, .type c, isTy t c, rfl, .ty c, tyD_is A r h, kit_ty (kit_all t (tyD_mem h) c hc), F.at_ A q (.bl _)⟩
end
end DL

set_option Elab.async false
set_option linter.all false
set_option maxHeartbeats 4000000
/-! D-layer, part 8: == and !=, in and not in. -/
namespace DL
open PySem PySem.Spec PyProof.Rows L2

/-! ### a dict beside a text -/
section
variable {A : Around} {s : Shared}
theorem dict_eq_not_str (l : Addr) (es : Array DictEntry) (n : Nat) (sl : Array (Option Value)) (b : Str) (u : Tok) :
    Meets (Builtin.«dict.__eq__» ⟨[.ref l, .str b u], []⟩) (fun _ R s => s.heap.get? l = some { cls := .type "dict", dict := none, data := .dict es n, slots := sl } ∧ R (.ok (.ret .notImplemented)) s) :=
  .of_wp fun prog w A R s h => by obtain ⟨hp, g, d, tk, os⟩ := s; obtain ⟨hl, h⟩ := h; have f1 := F.sub_str_dict; wp_walk using wpAny_load hl; exact ⟨_, rfl, h⟩
theorem dict_ne_not_str (l : Addr) (es : Array DictEntry) (n : Nat) (sl : Array (Option Value)) (b : Str) (u : Tok) :
    Meets (Builtin.«dict.__ne__» ⟨[.ref l, .str b u], []⟩) (fun _ R s => s.heap.get? l = some { cls := .type "dict", dict := none, data := .dict es n, slots := sl } ∧ R (.ok (.ret .notImplemented)) s) :=
  .of_wp fun prog w A R s h => by obtain ⟨hp, g, d, tk, os⟩ := s; obtain ⟨hl, h⟩ := h; have f1 := F.sub_str_dict; wp_walk using wpAny_load hl; exact ⟨_, rfl, h⟩
theorem str_eq_not_dict (b : Str) (u : Tok) (l : Addr) (es : Array DictEntry) (n : Nat) (sl : Array (Option Value)) :
    Meets (Builtin.«str.__eq__» ⟨[.str b u, .ref l], []⟩) (fun _ R s => s.heap.get? l = some { cls := .type "dict", dict := none, data := .dict es n, slots := sl } ∧ R (.ok (.ret .notImplemented)) s) :=
  .of_wp fun prog w A R s h => by obtain ⟨hp, g, d, tk, os⟩ := s; obtain ⟨hl, h⟩ := h; wp_walk using wpAny_loadPart' hl, wpAny_load hl; exact ⟨_, rfl, h⟩
theorem str_ne_not_dict (b : Str) (u : Tok) (l : Addr) (es : Array DictEntry) (n : Nat) (sl : Array (Option Value)) :
    Meets (Builtin.«str.__ne__» ⟨[.str b u, .ref l], []⟩) (fun _ R s => s.heap.get? l = some { cls := .type "dict", dict := none, data := .dict es n, slots := sl } ∧ R (.ok (.ret .notImplemented)) s) :=
  .of_wp fun prog w A R s h => by obtain ⟨hp, g, d, tk, os⟩ := s; obtain ⟨hl, h⟩ := h; wp_walk using wpAny_loadPart' hl, wpAny_load hl; exact ⟨_, rfl, h⟩
theorem rcAt_dict_str {l : Addr} {o : Obj} {es : Array DictEntry} {n : Nat} (b : Str) (u : Tok) (ho : s.heap.get? l = some o) (hx : o.ExactDict) (hd : o.data = .dict es n) (hu : A.units < cLine) : SeqAt.RcAt A s (.ref l) (.str b u) false := fun prog w E Q h => by
  obtain ⟨cls, dd, data, sl⟩ := o
  obtain ⟨h1, h2, h3⟩ := hx
  simp only at h1 h2 hd
  subst h1 h2 hd
  exact SeqAt.rc_eq_decline_or (k := false) ⟨_, ho, rfl⟩ (typeIs_str s b u) (by decide) F.sub_str_dict F.slot_dict_eq F.slot_str_eq_refl
    (fun _ hq => call_meets F.slot_dict_eq ⟨_, ho, rfl⟩ F.entry_dict_eq (F.args_dict_eq_2 _ _) (dict_eq_not_str l es n sl b u) ⟨ho, hq⟩)
    (fun _ hq => call_meets F.slot_str_eq_refl (typeIs_str s b u) F.entry_str_eq (F.args_str_eq_2 _ _) (str_eq_not_dict b u l es n sl) ⟨ho, hq⟩)
    (fun _ hq => wpAny_of_eq (rfl : isSame (.ref l) (.str b u) = pure false) hq) (.inr hu) h
theorem rcNeAt_dict_str {l : Addr} {o : Obj} {es : Array DictEntry} {n : Nat} (b : Str) (u : Tok) (ho : s.heap.get? l = some o) (hx : o.ExactDict) (hd : o.data = .dict es n) (hu : A.units < cLine) : SeqAt.RcNeAt A s (.ref l) (.str b u) true := fun prog w E Q h => by
  obtain ⟨cls, dd, data, sl⟩ := o
  obtain ⟨h1, h2, h3⟩ := hx
  simp only at h1 h2 hd
  subst h1 h2 hd
  exact SeqAt.rc_ne_decline_or (k := false) ⟨_, ho, rfl⟩ (typeIs_str s b u) (by decide) F.sub_str_dict F.slot_dict_ne F.slot_str_ne_refl
    (fun _ hq => call_meets F.slot_dict_ne ⟨_, ho, rfl⟩ F.entry_dict_ne (F.args_dict_ne_2 _ _) (dict_ne_not_str l es n sl b u) ⟨ho, hq⟩)
    (fun _ hq => call_meets F.slot_str_ne_refl (typeIs_str s b u) F.entry_str_ne (F.args_str_ne_2 _ _) (str_ne_not_dict b u l es n sl) ⟨ho, hq⟩)
    (fun _ hq => wpAny_of_eq (rfl : isSame (.ref l) (.str b u) = pure false) hq) (.inr hu) h
end

/-! ### as data of the library -/
mutual
def toPy : D → Option PyData
  | .non => some .none
  | .bl b => some (.bool b)
  | .int i => some (.int i)
  | .str x => some (.str x)
  | .tup ds => (toPys ds).map .tuple
  | .lst ds => (toPys ds).map .list
  | _ => none
def toPys : List D → Option (List PyData)
  | [] => some []
  | d :: ds => match toPy d, toPys ds with
    | some p, some ps => some (p :: ps)
    | _, _ => none
end
def pyOf (M : Mem) : D → Option PyData
  | .ref a => match M a with
    | some (.lst ds) => (toPys ds).map .list
    | _ => none
  | d => toPy d
section
variable {K : KZ} {M : Mem} {H : Hp}
mutual
theorem Rep.dp : ∀ {v : V} {d : D} {p : PyData}, Rep K M H v d → toPy d = some p → Dp K.k H v p
  | _, _, _, .non, e => by cases e; exact .non
  | _, _, _, .bl b, e => by cases e; exact .bl b
  | _, _, _, .int i, e => by cases e; exact .int i
  | _, _, _, .str x, e => by cases e; exact .str x
  | _, _, _, .ty n, e => by cases e
  | _, _, _, .ref a, e => by cases e
  | _, _, _, .tup (ds := ds) h r, e => by
    have e' : (toPys ds).map PyData.tuple = some _ := e
    cases q : toPys ds with
    | none => rw [q] at e'; cases e'
    | some ps =>
      rw [q] at e'
      cases e'
      exact .tup h.sq (Reps.dp r q)
  | _, _, _, .lst (ds := ds) h r, e => by
    have e' : (toPys ds).map PyData.list = some _ := e
    cases q : toPys ds with
    | none => rw [q] at e'; cases e'
    | some ps =>
      rw [q] at e'
      cases e'
      exact .lst h.sq (Reps.dp r q)
  | _, _, _, .dct _ _ _ _, e => by cases e
  | _, _, _, .box _ _ _ _ _, e => by cases e
theorem Reps.dp : ∀ {vs : List V} {ds : List D} {ps : List PyData}, Reps K M H vs ds → toPys ds = some ps → DpAll K.k H vs ps
  | _, _, _, .nil, e => by cases e; exact .nil
  | _, _, _, .cons (d := d) (ds := ds) r rs, e => by
    have e' : (match toPy d, toPys ds with
      | some p, some ps => some (p :: ps)
      | _, _ => none) = some _ := e
    cases q1 : toPy d with
    | none => rw [q1] at e'; cases e'
    | some p =>
      cases q2 : toPys ds with
      | none => rw [q1, q2] at e'; cases e'
      | some ps =>
        rw [q1, q2] at e'
        cases e'
        exact .cons (Rep.dp r q1) (Reps.dp rs q2)
end
theorem rep_pyOf (A : MAbs K M H) {v : V} {d : D} {p : PyData} (r : Rep K M H v d) (e : pyOf M d = some p) : Dp K.k H v p := by
  cases d with
  | ref a =>
    obtain rfl := rep_ref r
    cases q : M a with
    | none => simp only [pyOf, q] at e; cases e
    | some o =>
      cases o with
      | lst ds =>
        simp only [pyOf, q] at e
        obtain ⟨vs, ea, rs⟩ := A.at_ _ _ q
        cases q2 : toPys ds with
        | none => rw [q2] at e; cases e
        | some ps =>
          rw [q2] at e
          cases e
          exact .lst (.inl (.inl ea)) (rs.dp q2)
      | _ => simp only [pyOf, q] at e; cases e
  | _ => exact r.dp e
end

/-! ### == and != -/
def isStr : D → Str → Bool
  | .str x, y => x == y
  | _, _ => false
/-- whether two values are equal, where one can tell -/
def EqD (M : Mem) (x y : D) (k : Bool) : Prop := match x, y with
  | x, .str s => tyD M x ≠ none ∧ k = isStr x s
  | .tup ds, .tup [] => k = ds.isEmpty
  | .lst ds, .lst [] => k = ds.isEmpty
  | x, y => ∃ p q, pyOf M x = some p ∧ pyOf M y = some q ∧ SeqAt.shaped p = true ∧ SeqAt.shaped q = true ∧ k = PyData.eqv p q
def dEq : D2 := fun x y M R => ∃ k, EqD M x y k ∧ R (.bl k) M
def dNe : D2 := fun x y M R => ∃ k, EqD M x y k ∧ R (.bl (!k)) M
section
variable {X : Cx}
/-- == and != in one: what the machine finds -/
theorem eqD_run {pins : List (Addr × Obj)} {s : Shared} {σ : L2.St} {H : Hp} {z : Addr → Prop} {M : Mem} {v u : V} {x y : D} {a b : Value} {k : Bool} (hu : X.A.units + 64 < cLine) (I : Inv X pins σ H s) (A : MAbs ⟨X.K, z⟩ M H)
    (rv : RelV v a) (ru : RelV u b) (rx : Rep ⟨X.K, z⟩ M H v x) (ry : Rep ⟨X.K, z⟩ M H u y) (h : EqD M x y k) : SeqAt.RcAt X.A s a b k ∧ SeqAt.RcNeAt X.A s a b (!k) := by
  have hu0 : X.A.units < cLine := by omega
  have gen : ∀ {p q : PyData}, Dp X.K H v p → Dp X.K H u q → SeqAt.shaped p = true → SeqAt.shaped q = true → SeqAt.RcAt X.A s a b (PyData.eqv p q) ∧ SeqAt.RcNeAt X.A s a b (!PyData.eqv p q) := fun {p q} d1 d2 s1 s2 => by
    obtain ⟨as, r1⟩ := Dp.reads I p v a d1 rv
    obtain ⟨bs, r2⟩ := Dp.reads I q u b d2 ru
    exact ⟨SeqAt.rcAt_reads r1 r2 (SeqAt.canLay_of_shaped s1) (SeqAt.canLay_of_shaped s2) (SeqAt.room_of_shaped s1 hu), SeqAt.rcNeAt_reads r1 r2 (SeqAt.canLay_of_shaped s1) (SeqAt.canLay_of_shaped s2) (SeqAt.room_of_shaped s1 hu)⟩
  unfold EqD at h
  split at h
  · -- a text on the right
    rename_i y0
    obtain ⟨ht, rfl⟩ := h
    obtain rfl := rep_str ry
    obtain ⟨tk, rfl⟩ := ru
    have seq : ∀ {l : Addr} {us : List V}, SqL X.K H l us → SeqAt.RcAt X.A s (.ref l) (.str y0 tk) false ∧ SeqAt.RcNeAt X.A s (.ref l) (.str y0 tk) true := fun hq => by
      obtain ⟨its, _, pl, _⟩ := I.list hq
      exact ⟨SeqAt.RcAt.list_str y0 tk pl.isList hu0, SeqAt.RcNeAt.list_str y0 tk pl.isList hu0⟩
    have dk : ∀ {l : Addr} {kvs : List (Key × V)}, Rd H l (.dK kvs) → SeqAt.RcAt X.A s (.ref l) (.str y0 tk) false ∧ SeqAt.RcNeAt X.A s (.ref l) (.str y0 tk) true := fun hq => by
      obtain ⟨_, _, vs, _, o, es, ep, e, ex, ed, _⟩ := hq.ok I.hok
      exact ⟨rcAt_dict_str y0 tk e ex ed hu0, rcNeAt_dict_str y0 tk e ex ed hu0⟩
    cases x with
    | non => cases rx; cases rv; exact ⟨SeqAt.RcAt.none_str _ _, SeqAt.RcNeAt.none_str _ _⟩
    | bl c => cases rx; cases rv; exact ⟨SeqAt.RcAt.bool_str _ _ _, SeqAt.RcNeAt.bool_str _ _ _⟩
    | int i => cases rx; obtain ⟨t2, rfl⟩ := rv; exact ⟨SeqAt.RcAt.int_str _ _ _ _, SeqAt.RcNeAt.int_str _ _ _ _⟩
    | str x0 => cases rx; obtain ⟨t2, rfl⟩ := rv; exact ⟨SeqAt.RcAt.str_str _ _ _ _, SeqAt.RcNeAt.str_str _ _ _ _⟩
    | ty n => exact absurd rfl ht
    | box _ _ _ _ _ => exact absurd rfl ht
    | tup ds =>
      obtain ⟨l, us, rfl, hr, _⟩ := rep_tup rx
      cases rv
      obtain ⟨its, _, p, _⟩ := I.tuple hr.sq
      exact ⟨SeqAt.RcAt.tuple_str y0 tk p hu0, SeqAt.RcNeAt.tuple_str y0 tk p hu0⟩
    | lst ds =>
      obtain ⟨l, us, rfl, hr, _⟩ := rep_lst rx
      cases rv
      exact seq hr.sq
    | dct ks ds =>
      obtain ⟨l, kvs, rfl, hr, _⟩ := rep_dct rx
      cases rv
      exact dk hr.1
    | ref l =>
      obtain rfl := rep_ref rx
      cases rv
      cases q : M l with
      | none => simp only [tyD, q] at ht; exact absurd rfl ht
      | some o =>
        cases o with
        | lst ds =>
          obtain ⟨vs, ea, _⟩ := A.at_ _ _ q
          exact seq (.inl (.inl ea))
        | dct ks ds =>
          obtain ⟨vs, ea, _⟩ := A.at_ _ _ q
          exact dk (.inl ea)
        | deck ks b =>
          obtain ⟨_, _, _, _, _, _, _, ea, _⟩ := A.at_ _ _ q
          exact dk (.inl ea)
        | hid c => simp only [tyD, q] at ht; exact absurd rfl ht
        | tab c => simp only [tyD, q] at ht; exact absurd rfl ht
        | obj _ _ _ => simp only [tyD, q] at ht; exact absurd rfl ht
  · -- the empty tuple
    rename_i ds
    subst h
    obtain ⟨l, us, rfl, hr, rs⟩ := rep_tup rx
    obtain ⟨l2, us2, rfl, hr2, rs2⟩ := rep_tup ry
    cases rv
    cases ru
    cases rs2
    obtain ⟨its, r1, p1, _⟩ := I.tuple hr.sq
    obtain ⟨its2, r2, p2, _⟩ := I.tuple hr2.sq
    cases r2
    have e : its.length = ds.length := by rw [← r1.length]; exact rs.length
    have hk : ((List.range (min its.toArray.size ([] : List Value).toArray.size)).all (fun _ => true) && its.toArray.size == ([] : List Value).toArray.size) = ds.isEmpty := by
      rw [List.size_toArray, e]
      cases ds <;> simp
    have q1 := SeqAt.RcAt.tuples (e := fun _ => true) p1 p2 hu0 fun j _ h2 => absurd h2 (Nat.not_lt_zero _)
    have q2 := SeqAt.RcNeAt.tuples (e := fun _ => true) p1 p2 hu0 fun j _ h2 => absurd h2 (Nat.not_lt_zero _)
    rw [hk] at q1 q2
    exact ⟨q1, q2⟩
  · -- the empty list
    rename_i ds
    subst h
    obtain ⟨l, us, rfl, hr, rs⟩ := rep_lst rx
    obtain ⟨l2, us2, rfl, hr2, rs2⟩ := rep_lst ry
    cases rv
    cases ru
    cases rs2
    obtain ⟨its, r1, p1, _⟩ := I.list hr.sq
    obtain ⟨its2, r2, p2, _⟩ := I.list hr2.sq
    cases r2
    have e : its.length = ds.length := by rw [← r1.length]; exact rs.length
    cases ds with
    | nil =>
      cases rs
      cases r1
      exact ⟨by simpa using SeqAt.RcAt.lists (e := fun _ => true) p1.isList p2.isList rfl hu0 fun j _ h2 => absurd h2 (Nat.not_lt_zero _), by simpa using SeqAt.RcNeAt.lists (e := fun _ => true) p1.isList p2.isList rfl hu0 fun j _ h2 => absurd h2 (Nat.not_lt_zero _)⟩
    | cons d ds =>
      have hne : (its.toArray.size != ([] : List Value).toArray.size) = true := by
        rw [List.size_toArray, e]
        simp
      exact ⟨SeqAt.RcAt.lists_lengths p1.isList p2.isList hne hu0, SeqAt.RcNeAt.lists_lengths p1.isList p2.isList hne hu0⟩
  · obtain ⟨p, q, e1, e2, s1, s2, rfl⟩ := h
    exact gen (rep_pyOf A rx e1) (rep_pyOf A ry e2) s1 s2
theorem od_eq (hu : X.A.units + 64 < cLine) : OpR X (compareOp .Eq) (lift2 X.K dEq) := by
  intro pins s σ H x y v u Q I rx ry ⟨z, M, dx, dy, R, A, r1, r2, ⟨k, h, q⟩, F⟩
  exact (eqD_run hu I A rx ry r1 r2 h).1 _ _ _ _ ⟨.bl k, H, I, rfl, F.at_ A q (.bl k)⟩
theorem od_ne (hu : X.A.units + 64 < cLine) : OpR X (compareOp .NotEq) (lift2 X.K dNe) := by
  intro pins s σ H x y v u Q I rx ry ⟨z, M, dx, dy, R, A, r1, r2, ⟨k, h, q⟩, F⟩
  exact (eqD_run hu I A rx ry r1 r2 h).2 _ _ _ _ ⟨.bl (!k), H, I, rfl, F.at_ A q (.bl _)⟩

/-! ### in, not in -/
def flatD : D → Bool
  | .non => true
  | .bl _ => true
  | .int _ => true
  | .str _ => true
  | _ => false
def eqF : D → D → Bool
  | .non, .non => true
  | .bl a, .bl b => a == b
  | .int a, .int b => a == b
  | .str a, .str b => a == b
  | .bl a, .int b => (if a then 1 else 0) == b
  | .int a, .bl b => a == (if b then 1 else 0)
  | _, _ => false
def inF (x : D) (ds : List D) : Bool := ds.any fun y => eqF y x
theorem Rep.flat {K : KZ} {M : Mem} {H : Hp} {v : V} {d : D} (r : Rep K M H v d) (f : flatD d = true) : flatV v = true := by
  cases d <;> first | (cases f; done) | (cases r; rfl)
theorem Rep.eqF {K : KZ} {M : Mem} {H : Hp} {v u : V} {d e : D} (r : Rep K M H v d) (q : Rep K M H u e) (f : flatD d = true) (g : flatD e = true) : eqV v u = DL.eqF d e := by
  cases d <;> first | (cases f; done) | (cases r; cases e <;> first | (cases g; done) | (cases q; rfl))
theorem Reps.inF {K : KZ} {M : Mem} {H : Hp} {v : V} {x : D} (r : Rep K M H v x) (f : flatD x = true) : ∀ {vs : List V} {ds : List D}, Reps K M H vs ds → ds.all flatD = true → vs.all flatV = true ∧ inV v vs = DL.inF x ds
  | _, _, .nil, _ => ⟨rfl, rfl⟩
  | _, _, .cons q t, g => by
    rw [List.all_cons, Bool.and_eq_true] at g
    obtain ⟨h1, h2⟩ := t.inF r f g.2
    refine ⟨by rw [List.all_cons, q.flat g.1, h1]; rfl, ?_⟩
    unfold inV DL.inF at *
    rw [List.any_cons, List.any_cons, h2, q.eqF r g.1 f]
/-- one sign in a text -/
def signIn (c : Nat) (z : Str) : Bool := decide (c ∈ z.cps.toList)
def InD (M : Mem) (x y : D) (k : Bool) : Prop := match x, y with
  | .str s, .str t => ∃ c, s = ⟨#[c]⟩ ∧ k = signIn c t
  | x, y => flatD x = true ∧ ∃ ds, (y = .tup ds ∨ ListAt M y ds) ∧ ds.all flatD = true ∧ k = inF x ds
def dIn : D2 := fun x y M R => ∃ k, InD M x y k ∧ R (.bl k) M
def dNotIn : D2 := fun x y M R => ∃ k, InD M x y k ∧ R (.bl (!k)) M
theorem od_in : OpR X (compareOp .In) (lift2 X.K dIn) := OpR.cases fun v u H Q ⟨z, M, x, y, R, A, rx, ry, ⟨k, h, q⟩, F⟩ => by
  unfold InD at h
  split at h
  · obtain ⟨c, rfl, rfl⟩ := h
    exact ⟨_, op_in_sign, c, _, rep_str rx, rep_str ry, F.at_ A q (.bl _)⟩
  · obtain ⟨f, ds, hd, g, rfl⟩ := h
    rcases hd with rfl | hd
    · obtain ⟨a, vs, rfl, hr, rs⟩ := rep_tup ry
      obtain ⟨h1, h2⟩ := rs.inF rx f g
      exact ⟨_, op_in_seq, a, vs, rfl, .inr hr.sq, rx.flat f, h1, by rw [h2]; exact F.at_ A q (.bl _)⟩
    · obtain ⟨a, vs, rfl, hr, rs⟩ := rep_list A ry hd
      obtain ⟨h1, h2⟩ := rs.inF rx f g
      exact ⟨_, op_in_seq, a, vs, rfl, .inl hr, rx.flat f, h1, by rw [h2]; exact F.at_ A q (.bl _)⟩
theorem od_notIn : OpR X (compareOp .NotIn) (lift2 X.K dNotIn) := OpR.cases fun v u H Q ⟨z, M, x, y, R, A, rx, ry, ⟨k, h, q⟩, F⟩ => by
  unfold InD at h
  split at h
  · obtain ⟨c, rfl, rfl⟩ := h
    exact ⟨_, op_notIn_sign, c, _, rep_str rx, rep_str ry, F.at_ A q (.bl _)⟩
  · obtain ⟨f, ds, hd, g, rfl⟩ := h
    rcases hd with rfl | hd
    · obtain ⟨a, vs, rfl, hr, rs⟩ := rep_tup ry
      obtain ⟨h1, h2⟩ := rs.inF rx f g
      exact ⟨_, op_notIn_seq, a, vs, rfl, .inr hr.sq, rx.flat f, h1, by rw [h2]; exact F.at_ A q (.bl _)⟩
    · obtain ⟨a, vs, rfl, hr, rs⟩ := rep_list A ry hd
      obtain ⟨h1, h2⟩ := rs.inF rx f g
      exact ⟨_, op_notIn_seq, a, vs, rfl, .inl hr, rx.flat f, h1, by rw [h2]; exact F.at_ A q (.bl _)⟩
end
end DL

set_option Elab.async false
set_option linter.all false
set_option maxHeartbeats 4000000
/-! D-layer, part 9: repr of data, dicts among them. -/
namespace DL
open PySem PySem.Spec PyProof.Rows L2

/-! as the library says what is read, of dicts but the interpreter s own one; no addresses are told -/
mutual
inductive RdX (h : Heap) : Value → PyData → Prop
  | none : RdX h .none .none
  | bool (b) : RdX h (.bool b) (.bool b)
  | int (i t) : RdX h (.int i t) (.int i)
  | str (x t) : RdX h (.str x t) (.str x)
  | list {a o vs n xs} : h.get? a = some o → o.cls = .type "list" → o.data = .seq vs n → RdXs h vs.toList xs → RdX h (.ref a) (.list xs)
  | tuple {a o vs n xs} : h.get? a = some o → o.cls = .type "tuple" → o.data = .seq vs n → RdXs h vs.toList xs → RdX h (.ref a) (.tuple xs)
  | dict {a o es n kvs} : h.get? a = some o → o.cls = .type "dict" → o.data = .dict es n → (a == sysModules) = false → RdXs h (es.toList.map (·.key)) (kvs.map (·.1)) → RdXs h (es.toList.map (·.val)) (kvs.map (·.2)) → RdX h (.ref a) (.dict kvs)
inductive RdXs (h : Heap) : List Value → List PyData → Prop
  | nil : RdXs h [] []
  | cons {v vs d ds} : RdX h v d → RdXs h vs ds → RdXs h (v :: vs) (d :: ds)
end
mutual
theorem RdX.reads {h : Heap} : ∀ {v : Value} {d : PyData}, RdX h v d → ∃ as, Reads h v d as
  | _, _, .none => ⟨_, .none⟩
  | _, _, .bool b => ⟨_, .bool b⟩
  | _, _, .int i t => ⟨_, .int i t⟩
  | _, _, .str x t => ⟨_, .str x t⟩
  | _, _, .list h1 h2 h3 h4 => let ⟨_, q⟩ := RdXs.reads h4; ⟨_, .list h1 h2 h3 q⟩
  | _, _, .tuple h1 h2 h3 h4 => let ⟨_, q⟩ := RdXs.reads h4; ⟨_, .tuple h1 h2 h3 q⟩
  | _, _, .dict h1 h2 h3 _ h4 h5 => let ⟨_, q⟩ := RdXs.reads h4; let ⟨_, r⟩ := RdXs.reads h5; ⟨_, .dict h1 h2 h3 q r⟩
theorem RdXs.reads {h : Heap} : ∀ {vs : List Value} {ds : List PyData}, RdXs h vs ds → ∃ as, ReadsAll h vs ds as
  | _, _, .nil => ⟨_, .nil⟩
  | _, _, .cons r rs => let ⟨_, q⟩ := RdX.reads r; let ⟨_, p⟩ := RdXs.reads rs; ⟨_, .cons q p⟩
end
section
variable {prog : Program} {w : World} {h₀ : Heap}
mutual
theorem RdX.repr : ∀ {v : Value} {d : PyData}, RdX h₀ v d → d.showable = true → d.shown.length ≤ sizeLine → ∃ bs, ReadAtMost h₀ d.depth bs ∧ ReprK prog w bs h₀ d.depth v d.shown
  | _, _, .none, _, _ => ⟨[], nofun, by simp only [PyData.shown]; exact .of_is ReprIs.none _ _ _⟩
  | _, _, .bool b, _, _ => ⟨[], nofun, by simp only [PyData.shown]; exact .of_is (ReprIs.bool b) _ _ _⟩
  | _, _, .int i t, hs, _ => ⟨[], nofun, by simp only [PyData.shown]; exact .of_is (ReprIs.int t (by simpa [PyData.showable] using hs)) _ _ _⟩
  | _, _, .str x t, _, hz => ⟨[], nofun, by simp only [PyData.shown] at hz ⊢; exact .of_is (ReprIs.str x t hz) _ _ _⟩
  | _, _, .list (a := a) (vs := vs) (xs := xs) h1 h2 h3 h4, hs, hz => by
    simp only [PyData.shown] at hz
    obtain ⟨bs, hb, hk⟩ := RdXs.repr h4 (by simpa [PyData.showable] using hs) fun t ht => Nat.le_trans (listText_mem_le ht) hz
    obtain ⟨_, r⟩ := RdX.reads (.list h1 h2 h3 h4)
    have dl : PyData.depthAll xs < (PyData.list xs).depth := by simp only [PyData.depth]; omega
    refine ⟨a :: bs, ReadAtMost.cons r (by simp only [PyData.depth]; omega) hb, ?_⟩
    have hna := not_mem_of_deeper r dl hb
    simp only [PyData.depth, PyData.shown]
    obtain ⟨l⟩ := vs
    cases l with
    | nil =>
      have e : RdXs h₀ [] xs := h4
      cases e
      simp only [PyData.shownAll, listText_nil]
      exact ReprK.listEmpty h1 h2 h3
    | cons x l => exact ReprK.list h1 h2 h3 hna (by simpa using hk.length_eq) fun i y e => hk.item i y (by simpa using e)
  | _, _, .tuple (a := a) (xs := xs) h1 h2 h3 h4, hs, hz => by
    simp only [PyData.shown] at hz
    obtain ⟨bs, hb, hk⟩ := RdXs.repr h4 (by simpa [PyData.showable] using hs) fun t ht => Nat.le_trans (tupleText_mem_le ht) hz
    obtain ⟨_, r⟩ := RdX.reads (.tuple h1 h2 h3 h4)
    have dl : PyData.depthAll xs < (PyData.tuple xs).depth := by simp only [PyData.depth]; omega
    refine ⟨a :: bs, ReadAtMost.cons r (by simp only [PyData.depth]; omega) hb, ?_⟩
    have hna := not_mem_of_deeper r dl hb
    simp only [PyData.depth, PyData.shown]
    exact ReprK.tuple h1 h2 h3 hna hk
  | _, _, .dict (a := a) (es := es) (kvs := kvs) h1 h2 h3 hy h4 h5, hs, hz => by
    simp only [PyData.shown] at hz
    obtain ⟨hs1, hs2⟩ := PyData.showableKv_split kvs (by simpa [PyData.showable] using hs)
    obtain ⟨b1, hb1, k1⟩ := RdXs.repr h4 hs1 fun t ht => let ⟨p, hp, hl⟩ := PyData.shownKv_key_le kvs t ht; Nat.le_trans hl (Nat.le_trans (dictText_mem_le hp) hz)
    obtain ⟨b2, hb2, k2⟩ := RdXs.repr h5 hs2 fun t ht => let ⟨p, hp, hl⟩ := PyData.shownKv_val_le kvs t ht; Nat.le_trans hl (Nat.le_trans (dictText_mem_le hp) hz)
    have hb := (hb1.mono (PyData.depthAll_keys_le kvs)).append (hb2.mono (PyData.depthAll_vals_le kvs))
    obtain ⟨_, r⟩ := RdX.reads (.dict h1 h2 h3 hy h4 h5)
    have dl : PyData.depthKv kvs < (PyData.dict kvs).depth := by simp only [PyData.depth]; omega
    refine ⟨a :: (b1 ++ b2), ReadAtMost.cons r (by simp only [PyData.depth]; omega) hb, ?_⟩
    have hna := not_mem_of_deeper r dl hb
    simp only [PyData.depth, PyData.shown, PyData.shownKv_eq]
    exact ReprK.dict h1 h2 h3 hy hna (ReprEntriesK.of_two es.toList _ _ (k1.more_le (fun b h => List.mem_append_left _ h) (PyData.depthAll_keys_le kvs))
      (k2.more_le (fun b h => List.mem_append_right _ h) (PyData.depthAll_vals_le kvs)))
theorem RdXs.repr : ∀ {vs : List Value} {ds : List PyData}, RdXs h₀ vs ds → PyData.showableAll ds = true → (∀ t ∈ PyData.shownAll ds, t.length ≤ sizeLine) →
    ∃ bs, ReadAtMost h₀ (PyData.depthAll ds) bs ∧ ReprAllK prog w bs h₀ (PyData.depthAll ds) vs (PyData.shownAll ds)
  | _, _, .nil, _, _ => ⟨[], nofun, by simp only [PyData.shownAll]; exact .nil⟩
  | _, _, .cons (d := d) (ds := ds) r rs, hs, hz => by
    have hs' : d.showable = true ∧ PyData.showableAll ds = true := by simpa [PyData.showableAll] using hs
    obtain ⟨b1, hb1, k1⟩ := RdX.repr r hs'.1 (hz _ (by simp only [PyData.shownAll]; exact List.mem_cons_self))
    obtain ⟨b2, hb2, k2⟩ := RdXs.repr rs hs'.2 fun t ht => hz t (by simp only [PyData.shownAll]; exact List.mem_cons_of_mem _ ht)
    have l1 : d.depth ≤ PyData.depthAll (d :: ds) := by simp only [PyData.depthAll]; exact Nat.le_max_left _ _
    have l2 : PyData.depthAll ds ≤ PyData.depthAll (d :: ds) := by simp only [PyData.depthAll]; exact Nat.le_max_right _ _
    refine ⟨b1 ++ b2, (hb1.mono l1).append (hb2.mono l2), ?_⟩
    simp only [PyData.shownAll]
    exact .cons ((k1.more fun b h => List.mem_append_left _ h).level_le l1) (k2.more_le (fun b h => List.mem_append_right _ h) l2)
end
variable {A : Around} {E : Value → Shared → Prop} {s : Shared} {Q : Value → Shared → Prop}
/-- repr(v) -/
theorem repr_run {v : Value} {d : PyData} (r : RdX s.heap v d) (hs : d.showable = true) (hz : d.shown.length ≤ sizeLine) (hg : A.guards = some []) (hu : A.units + (d.depth + 1) < cLine)
    (hQ : ∀ h' u tk, (∀ b o, s.heap.get? b = some o → h'.get? b = some o) → Q (.str d.shown u) { s with heap := h', toks := tk }) : wpAny (model prog w) A (call (.builtin "repr") [v]) Q E s := by
  have kk : ∀ b o, s.heap.get? b = some o → s.heap.get? b = some o := fun _ _ e => e
  cases r with
  | none => simp only [PyData.shown] at hQ; exact PySem.P.repr_of_none (hQ s.heap _ _ kk)
  | bool b => simp only [PyData.shown] at hQ; exact PySem.P.repr_of_bool (hQ s.heap _ _ kk)
  | int i t => simp only [PyData.shown] at hQ; exact PySem.P.repr_of_int (by simpa [PyData.showable] using hs) (hQ s.heap _ _ kk)
  | str x t => simp only [PyData.shown] at hQ hz; exact PySem.P.repr_of_str (hQ s.heap _ _ kk) hz
  | list h1 h2 h3 h4 =>
    rename_i a o vs n xs
    simp only [PyData.shown] at hz hQ
    simp only [PyData.depth] at hu
    obtain ⟨bs, hb, hk⟩ := RdXs.repr (prog := prog) (w := w) h4 (by simpa [PyData.showable] using hs) fun t ht => Nat.le_trans (listText_mem_le ht) hz
    obtain ⟨_, rr⟩ := RdX.reads (.list h1 h2 h3 h4)
    have hna := not_mem_of_deeper rr (by simp only [PyData.depth]; omega) hb
    refine call_repr_slot (by omega) ⟨o, h1, h2⟩ F.slot_list_repr.toG ?_
    obtain ⟨l⟩ := vs
    cases l with
    | nil =>
      have e : RdXs s.heap [] xs := h4
      cases e
      simp only [PyData.shownAll, listText_nil] at hQ
      exact call_list_repr_empty ⟨o, h1, h2⟩ h1 h3 ⟨_, _, rfl, hQ s.heap _ _ kk⟩
    | cons x l =>
      exact call_list_reprK h1 h2 h3 hna (by simpa using hk.length_eq) (fun i y e => hk.item i y (by simpa using e)) hg (fun b _ => Clear.nil b) (by show A.units + 1 + _ < cLine; omega) kk (fun h' u tk q => ⟨_, _, rfl, hQ h' u tk q⟩) hz
  | tuple h1 h2 h3 h4 =>
    rename_i a o vs n xs
    simp only [PyData.shown] at hz hQ
    simp only [PyData.depth] at hu
    obtain ⟨bs, hb, hk⟩ := RdXs.repr (prog := prog) (w := w) h4 (by simpa [PyData.showable] using hs) fun t ht => Nat.le_trans (tupleText_mem_le ht) hz
    obtain ⟨_, rr⟩ := RdX.reads (.tuple h1 h2 h3 h4)
    have hna := not_mem_of_deeper rr (by simp only [PyData.depth]; omega) hb
    refine call_repr_slot (by omega) ⟨o, h1, h2⟩ F.slot_tuple_repr ?_
    exact call_tuple_reprK h1 h2 h3 hna hk hg (fun b _ => Clear.nil b) (by show A.units + 1 + _ < cLine; omega) kk (fun h' u tk q => ⟨_, _, rfl, hQ h' u tk q⟩) hz
  | dict h1 h2 h3 hy h4 h5 =>
    rename_i a o es n kvs
    simp only [PyData.shown, PyData.shownKv_eq] at hz hQ
    simp only [PyData.depth] at hu
    have hz' : (dictText (PyData.shownKv kvs)).length ≤ sizeLine := by rw [PyData.shownKv_eq]; exact hz
    obtain ⟨hs1, hs2⟩ := PyData.showableKv_split kvs (by simpa [PyData.showable] using hs)
    obtain ⟨b1, hb1, k1⟩ := RdXs.repr (prog := prog) (w := w) h4 hs1 fun t ht => let ⟨p, hp, hl⟩ := PyData.shownKv_key_le kvs t ht; Nat.le_trans hl (Nat.le_trans (dictText_mem_le hp) hz')
    obtain ⟨b2, hb2, k2⟩ := RdXs.repr (prog := prog) (w := w) h5 hs2 fun t ht => let ⟨p, hp, hl⟩ := PyData.shownKv_val_le kvs t ht; Nat.le_trans hl (Nat.le_trans (dictText_mem_le hp) hz')
    have hb := (hb1.mono (PyData.depthAll_keys_le kvs)).append (hb2.mono (PyData.depthAll_vals_le kvs))
    obtain ⟨_, rr⟩ := RdX.reads (.dict h1 h2 h3 hy h4 h5)
    have hna := not_mem_of_deeper rr (by simp only [PyData.depth]; omega) hb
    refine call_repr_slot (by omega) ⟨o, h1, h2⟩ F.slot_dict_repr ?_
    exact call_dict_reprK h1 h2 h3 hy hna (ReprEntriesK.of_two es.toList _ _ (k1.more_le (fun b h => List.mem_append_left _ h) (PyData.depthAll_keys_le kvs))
      (k2.more_le (fun b h => List.mem_append_right _ h) (PyData.depthAll_vals_le kvs))) hg (fun b _ => Clear.nil b) (by show A.units + 1 + _ < cLine; omega) kk (fun h' u tk q => ⟨_, _, rfl, hQ h' u tk q⟩) hz
end

/-! ### repr of a D -/
def keyPy : Key → PyData
  | .inl i => .int i
  | .inr x => .str x
mutual
def toR : D → Option PyData
  | .non => some .none
  | .bl b => some (.bool b)
  | .int i => some (.int i)
  | .str x => some (.str x)
  | .tup ds => (toRs ds).map .tuple
  | .lst ds => (toRs ds).map .list
  | .dct ks ds => (toRs ds).map fun ps => .dict ((ks.map keyPy).zip ps)
  | _ => none
def toRs : List D → Option (List PyData)
  | [] => some []
  | d :: ds => match toR d, toRs ds with
    | some p, some ps => some (p :: ps)
    | _, _ => none
end
theorem pairs_rdx {P : Program} {w : World} {h : Heap} : ∀ {es : List DictEntry} {vs : List (Key × Value)}, Pairs (mixKind P w) es vs → RdXs h (es.map (·.key)) ((vs.map (·.1)).map keyPy) ∧ es.map (·.val) = vs.map (·.2)
  | _, _, .nil => ⟨.nil, rfl⟩
  | _, _, .cons (e := e) (kv := q) hk hv t => by
    obtain ⟨h1, h2⟩ := pairs_rdx (h := h) t
    refine ⟨.cons ?_ h1, by rw [List.map_cons, List.map_cons, hv, h2]⟩
    show RdX h e.key (keyPy q.1)
    rcases keyIs_shape hk with ⟨i, t, e1, e2⟩ | ⟨x, t, e1, e2⟩
    · rw [e1, e2]; exact .int i t
    · rw [e1, e2]; exact .str x t
theorem kv_keys : ∀ {kvs : List (Key × V)} {vs : List (Key × Value)}, KV kvs vs → kvs.map (·.1) = vs.map (·.1) ∧ Vals (kvs.map (·.2)) (vs.map (·.2))
  | _, _, .nil => ⟨rfl, .nil⟩
  | _, _, .cons h t => let ⟨a, b⟩ := kv_keys t; ⟨by rw [List.map_cons, List.map_cons, h.1, a], .cons h.2 b⟩
theorem zip_fst {α β : Type} : ∀ {xs : List α} {ys : List β}, xs.length = ys.length → (xs.zip ys).map (·.1) = xs ∧ (xs.zip ys).map (·.2) = ys
  | [], [], _ => ⟨rfl, rfl⟩
  | x :: xs, y :: ys, h => by
    obtain ⟨a, b⟩ := zip_fst (xs := xs) (ys := ys) (by simpa using h)
    simp [a, b]
  | [], _ :: _, h => by simp at h
  | _ :: _, [], h => by simp at h
theorem rdxs_length {h : Heap} : ∀ {vs : List Value} {ds : List PyData}, RdXs h vs ds → vs.length = ds.length
  | _, _, .nil => rfl
  | _, _, .cons _ t => congrArg (· + 1) (rdxs_length t)
section
variable {X : Cx} {pins : List (Addr × Obj)} {σ : L2.St} {H : Hp} {s : Shared} {K : KZ} {M : Mem}
mutual
theorem Rep.rdx (I : Inv X pins σ H s) (hK : K.k = X.K) : ∀ {v : V} {d : D} {p : PyData} {u : Value}, Rep K M H v d → RelV v u → toR d = some p → RdX s.heap u p
  | _, _, _, _, .non, r, e => by cases e; cases r; exact .none
  | _, _, _, _, .bl b, r, e => by cases e; cases r; exact .bool b
  | _, _, _, _, .int i, r, e => by cases e; obtain ⟨t, rfl⟩ := r; exact .int i t
  | _, _, _, _, .str x, r, e => by cases e; obtain ⟨t, rfl⟩ := r; exact .str x t
  | _, _, _, _, .ty n, _, e => by cases e
  | _, _, _, _, .ref a, _, e => by cases e
  | _, _, _, _, .box _ _ _ _ _, _, e => by cases e
  | _, _, _, _, .tup (ds := ds) h rs, r, e => by
    have e' : (toRs ds).map PyData.tuple = some _ := e
    cases q : toRs ds with
    | none => rw [q] at e'; cases e'
    | some ps =>
      rw [q] at e'
      cases e'
      cases r
      obtain ⟨its, rv, ⟨o, ho, hc, n, hd⟩, _⟩ := I.tuple (hK ▸ h.sq)
      exact .tuple ho hc hd (Reps.rdx I hK rs rv q)
  | _, _, _, _, .lst (ds := ds) h rs, r, e => by
    have e' : (toRs ds).map PyData.list = some _ := e
    cases q : toRs ds with
    | none => rw [q] at e'; cases e'
    | some ps =>
      rw [q] at e'
      cases e'
      cases r
      obtain ⟨its, rv, ⟨o, n, ho, hc, _, hd⟩, _⟩ := I.list (hK ▸ h.sq)
      exact .list ho hc hd (Reps.rdx I hK rs rv q)
  | _, _, _, _, .dct (ks := ks) (ds := ds) h e1 e2 rs, r, e => by
    have e' : (toRs ds).map (fun ps => PyData.dict ((ks.map keyPy).zip ps)) = some _ := e
    cases q : toRs ds with
    | none => rw [q] at e'; cases e'
    | some ps =>
      rw [q] at e'
      cases e'
      cases r
      obtain ⟨_, hsy, vs, rk, o, es, ep, ho, hx, hd, _, hp, _⟩ := h.1.ok I.hok
      obtain ⟨k1, k2⟩ := kv_keys rk
      obtain ⟨p1, p2⟩ := pairs_rdx (h := s.heap) hp
      subst e1 e2
      have q2 := Reps.rdx I hK rs k2 q
      rw [k1]
      have hl := rdxs_length p1
      have hl2 := rdxs_length q2
      have hz : ((vs.map (·.1)).map keyPy).length = ps.length := by
        rw [← hl2, List.length_map, List.length_map, List.length_map]
      obtain ⟨z1, z2⟩ := zip_fst hz
      exact .dict ho hx.1 hd hsy (by rw [z1]; exact p1) (by rw [z2, p2]; exact q2)
theorem Reps.rdx (I : Inv X pins σ H s) (hK : K.k = X.K) : ∀ {vs : List V} {ds : List D} {ps : List PyData} {us : List Value}, Reps K M H vs ds → Vals vs us → toRs ds = some ps → RdXs s.heap us ps
  | _, _, _, _, .nil, r, e => by cases e; cases r; exact .nil
  | _, _, _, _, .cons (d := d) (ds := ds) q qs, r, e => by
    have e' : (match toR d, toRs ds with
      | some p, some ps => some (p :: ps)
      | _, _ => none) = some _ := e
    cases q1 : toR d with
    | none => rw [q1] at e'; cases e'
    | some p =>
      cases q2 : toRs ds with
      | none => rw [q1, q2] at e'; cases e'
      | some ps =>
        rw [q1, q2] at e'
        cases e'
        cases r with
        | cons r1 r2 => exact .cons (Rep.rdx I hK q r1 q1) (Reps.rdx I hK qs r2 q2)
end
end
section
variable {X : Cx}
/-- repr(x) -/
def dRepr : DN := fun xs M R => ∃ x p, xs = [x] ∧ toR x = some p ∧ p.showable = true ∧ p.shown.length ≤ sizeLine ∧ p.depth ≤ 60 ∧ R (.str p.shown) M
theorem cd_repr (hG : X.A.guards = some []) (hu : X.A.units + 64 < cLine) : CallR X (.builtin "repr") (liftN X.K dRepr) := by
  intro pins s σ H xs us Q I rv ⟨z, M, ds, R, A, r, ⟨x, p, e, hp, hs, hz, hd, q⟩, F⟩
  subst e
  cases r with
  | cons r rs =>
    cases rs
    cases rv with
    | cons rv rvs =>
      cases rvs
      exact repr_run (r.rdx I rfl rv hp) hs hz hG (by omega) fun h' u tk hk => ⟨.str p.shown, H, I.kept hk, ⟨u, rfl⟩, F.at_ A q (.str _)⟩
end
end DL

set_option Elab.async false
set_option linter.all false
set_option maxHeartbeats 4000000
/-! D-layer, part 10: dicts, the deck. -/
namespace DL
open PySem PySem.Spec PyProof.Rows L2

def dkey : D → Option Key
  | .int i => some (.inl i)
  | .str s => some (.inr s)
  | _ => none
def dget : List Key → List D → Key → Option D
  | k :: ks, d :: ds, j => if k = j then some d else dget ks ds j
  | _, _, _ => none
def drepl : List Key → List D → Key → D → List D
  | x :: ks, y :: ds, k, d => (if x = k then d else y) :: drepl ks ds k d
  | _, _, _, _ => []
def dputK (ks : List Key) (k : Key) : List Key := if ks.any (fun x => decide (x = k)) = true then ks else ks ++ [k]
def dputD (ks : List Key) (ds : List D) (k : Key) (d : D) : List D := if ks.any (fun x => decide (x = k)) = true then drepl ks ds k d else ds ++ [d]
section
variable {K : KZ} {M : Mem} {H : Hp}
theorem rep_key {v : V} {d : D} {k : Key} (r : Rep K M H v d) (e : dkey d = some k) : v = kV k := by
  cases d with
  | int i => cases e; exact rep_int r
  | str s => cases e; exact rep_str r
  | _ => cases e
theorem valV_get : ∀ {kvs : List (Key × V)} {ds : List D} {k : Key} {d : D}, Reps K M H (kvs.map (·.2)) ds → dget (kvs.map (·.1)) ds k = some d → ∃ v, valV kvs k = some v ∧ Rep K M H v d
  | [], _, _, _, r, e => by cases r; cases e
  | (x, v) :: kvs, ds, k, d, r, e => by
    cases r with
    | cons r rs =>
      by_cases h : x = k
      · refine ⟨v, valV_pos (p := (x, v)) h, ?_⟩
        have e' : (if x = k then some _ else dget (kvs.map (·.1)) _ k) = some d := e
        rw [if_pos h] at e'
        cases e'
        exact r
      · have e' : (if x = k then some _ else dget (kvs.map (·.1)) _ k) = some d := e
        rw [if_neg h] at e'
        obtain ⟨w, hw, rw⟩ := valV_get rs e'
        exact ⟨w, (valV_neg (p := (x, v)) h).trans hw, rw⟩
theorem valV_no : ∀ {kvs : List (Key × V)} {k : Key}, (kvs.map (·.1)).any (fun x => decide (x = k)) = (valV kvs k).isSome
  | kvs, k => by rw [← valV_any, List.any_map]; rfl
theorem putK_rep {kvs : List (Key × V)} {ds : List D} {k : Key} {v : V} {d : D} (r : Reps K M H (kvs.map (·.2)) ds) (rv : Rep K M H v d) :
    (putK kvs k v).map (·.1) = dputK (kvs.map (·.1)) k ∧ Reps K M H ((putK kvs k v).map (·.2)) (dputD (kvs.map (·.1)) ds k d) := by
  unfold putK dputK dputD
  have e : (kvs.map (·.1)).any (fun x => decide (x = k)) = kvs.any fun kv => decide (kv.1 = k) := by rw [List.any_map]; rfl
  rw [e]
  by_cases a : (kvs.any fun kv => decide (kv.1 = k)) = true
  · rw [if_pos a, if_pos a, if_pos a]
    refine ⟨?_, ?_⟩
    · rw [List.map_map]
      refine List.map_congr_left fun p _ => ?_
      show (if p.1 = k then (p.1, v) else p).1 = p.1
      split <;> rfl
    · clear a e
      induction kvs generalizing ds with
      | nil => cases r; exact .nil
      | cons p kvs ih =>
        cases r with
        | cons r rs =>
          rw [List.map_cons, List.map_cons, List.map_cons]
          show Reps K M H _ ((if p.1 = k then d else _) :: drepl (kvs.map (·.1)) _ k d)
          by_cases h : p.1 = k
          · rw [if_pos h, if_pos h]
            exact .cons rv (ih rs)
          · rw [if_neg h, if_neg h]
            exact .cons r (ih rs)
  · rw [if_neg a, if_neg a, if_neg a, List.map_append, List.map_append]
    exact ⟨rfl, r.append (.cons rv .nil)⟩
end
section
variable {X : Cx} {o i value : Expr} {pos pos' : Pos} {ta tb tv : DE}
/-! ### d[k], d[k] = v -/
def dDGet (ta tb : DE) : DE := fun ρ M R => ta ρ M fun x M1 => tb ρ M1 fun y M2 => ∃ k, dkey y = some k ∧ match x with
  | .dct ks ds => ∃ d, dget ks ds k = some d ∧ R d M2
  | .ref a => ∃ ks ds d, M2 a = some (.dct ks ds) ∧ dget ks ds k = some d ∧ R d M2
  | _ => False
theorem de_dget (hu : X.A.units + 1 < cLine) (ho : PED X o ta) (hi : PED X i tb) (hs : NoSl i := by exact fun _ _ => rfl) : PED X (.Subscript o i pos) (dDGet ta tb) :=
  (pe_dget hu ho hi hs).weak fun σ H Q ⟨z, ρ, M, R, S, A, q, F⟩ => ⟨z, ρ, M, _, S, A, q, fun x M1 v H1 q1 r1 A1 f1 => ⟨z, ρ, M1, _, S.fr f1, A1, q1, fun y M2 u H2 ⟨k, ek, q2⟩ r2 A2 f2 => by
    have r1 := r1.fr f2
    have f12 := f1.trans f2
    obtain rfl := rep_key r2 ek
    split at q2
    · obtain ⟨d, hd, q2⟩ := q2
      obtain ⟨a, kvs, rfl, h, e1, rs⟩ := rep_dct r1
      subst e1
      obtain ⟨w, hw, rw⟩ := valV_get rs hd
      exact ⟨a, w, rfl, .inl ⟨kvs, k, h.1, rfl, hw.symm⟩, F _ _ _ _ q2 rw A2 f12⟩
    · obtain ⟨ks, ds, d, hm, hd, q2⟩ := q2
      obtain rfl := rep_ref r1
      obtain ⟨kvs, ea, e1, rs⟩ := A2.at_ _ _ hm
      subst e1
      obtain ⟨w, hw, rw⟩ := valV_get rs hd
      exact ⟨_, w, rfl, .inl ⟨kvs, k, .inl ea, rfl, hw.symm⟩, F _ _ _ _ q2 rw A2 f12⟩
    · exact q2.elim⟩⟩
def dDPut (ta tb tv : DE) : DS := fun D ρ M => tv ρ M fun d M1 => ta ρ M1 fun x M2 => tb ρ M2 fun y M3 => ∃ k a ks ds, dkey y = some k ∧ x = .ref a ∧ M3 a = some (.dct ks ds) ∧ ds.length < sizeLine ∧ D.nx ρ (mset M3 a (.dct (dputK ks k) (dputD ks ds k d)))
theorem ds_dput (hu : X.A.units + 1 < cLine) (ho : PED X o ta) (hi : PED X i tb) (hv : PED X value tv) (hs : swapsWith value (some (.Subscript o i pos')) pos.line X.env = pure false := by rfl) :
    PSD X (.Assign [.Subscript o i pos'] value pos) (dDPut ta tb tv) :=
  (ps_dput hu ho hi hv hs).weak fun D σ H ⟨z, ρ, M, D0, S, A, q, L⟩ => ⟨z, ρ, M, _, S, A, q, fun d M1 v H1 q1 r1 A1 f1 => ⟨z, ρ, M1, _, S.fr f1, A1, q1, fun x M2 u H2 q2 r2 A2 f2 =>
    ⟨z, ρ, M2, _, S.fr (f1.trans f2), A2, q2, fun y M3 w H3 ⟨k, a, ks, ds, ek, ex, em, hl, q3⟩ r3 A3 f3 => by
      subst ex
      obtain rfl := rep_key r3 ek
      obtain rfl := rep_ref r2
      obtain ⟨kvs, ea, e1, rs⟩ := A3.at_ _ _ em
      subst e1
      have rv := r1.fr (f2.trans f3)
      obtain ⟨p1, p2⟩ := putK_rep (k := k) rs rv
      have hlen : kvs.length < sizeLine := by
        have := rs.length
        rw [List.length_map] at this
        omega
      have fw : Frame M3 H3 (mset M3 a (.dct (dputK (kvs.map (·.1)) k) (dputD (kvs.map (·.1)) ds k d))) (upd H3 a (.dK (putK kvs k v))) := Frame.wr em
      have f13 := (f1.trans f2).trans f3
      refine ⟨a, _, rfl, DPut.k ea hlen, L.nx ρ _ σ _ q3 (S.fr (f13.trans fw)) (A3.wr em True.intro ⟨_, upd_same, p1, p2.fr fw⟩) (f13.trans fw)⟩⟩⟩⟩
/-! ### displays -/
def dPairs : List (DE × DE) → DEnv → Mem → (List D → List D → Mem → Prop) → Prop
  | [], _, M, R => R [] [] M
  | (tk, tv) :: r, ρ, M, R => tk ρ M fun k M1 => tv ρ M1 fun v M2 => dPairs r ρ M2 fun ks vs M3 => R (k :: ks) (v :: vs) M3
def dDispW (trs : List (DE × DE)) (end_ : List Key → List D → Mem → RK → Prop) : DE := fun ρ M R => dPairs trs ρ M fun kds ds M1 => ∃ ks : List Key, kds.map dkey = ks.map some ∧ ks.Nodup ∧ ks.length ≤ 15 ∧ end_ ks ds M1 R
def dDisp (trs : List (DE × DE)) : DE := dDispW trs fun ks ds M R => R (.dct ks ds) M
def dDispM (trs : List (DE × DE)) : DE := dDispW trs fun ks ds M R => ∀ p, M p = none → R (.ref p) (mset M p (.dct ks ds))
structure PPsD (X : Cx) (pos : Pos) (keys : List (Option Expr)) (values : List Expr) (trs : List (DE × DE)) : Prop where
  pps : PPs X pos keys values (trs.map fun p => (liftE X.K p.1, liftE X.K p.2))
theorem dps_nil : PPsD X pos [] [] [] := ⟨pps_nil⟩
theorem dps_cons {k v : Expr} {ks : List (Option Expr)} {vs : List Expr} {trs : List (DE × DE)} (hk : PED X k ta) (hv : PED X v tb) (hr : PPsD X pos ks vs trs) : PPsD X pos (some k :: ks) (v :: vs) ((ta, tb) :: trs) := ⟨pps_cons hk hv hr.pps⟩
theorem lift_pairs {z : Addr → Prop} {ρ : DEnv} {σ : L2.St} : ∀ {trs : List (DE × DE)} {M : Mem} {H : Hp} {R : List D → List D → Mem → Prop} {Q : List (V × V) → Hp → Prop}, SAbs ⟨X.K, z⟩ M H ρ σ → MAbs ⟨X.K, z⟩ M H → dPairs trs ρ M R →
    (∀ kds ds M' ps H', R kds ds M' → Reps ⟨X.K, z⟩ M' H' (ps.map (·.1)) kds → Reps ⟨X.K, z⟩ M' H' (ps.map (·.2)) ds → MAbs ⟨X.K, z⟩ M' H' → Frame M H M' H' → Q ps H') → tPairs (trs.map fun p => (liftE X.K p.1, liftE X.K p.2)) σ H Q
  | [], M, H, R, Q, S, A, q, F => F _ _ _ [] _ q .nil .nil A Frame.refl
  | (tk, tv) :: trs, M, H, R, Q, S, A, q, F => ⟨z, ρ, M, _, S, A, q, fun k M1 v H1 q1 r1 A1 f1 => ⟨z, ρ, M1, _, S.fr f1, A1, q1, fun d M2 u H2 q2 r2 A2 f2 =>
    lift_pairs (S.fr (f1.trans f2)) A2 q2 fun kds ds M3 ps H3 q3 rk rd A3 f3 => F _ _ _ ((v, u) :: ps) _ q3 (.cons (r1.fr (f2.trans f3)) rk) (.cons (r2.fr f3) rd) A3 ((f1.trans f2).trans f3)⟩⟩
theorem mergeK_app : ∀ {kvs acc : List (Key × V)}, (acc ++ kvs).map (·.1) |>.Nodup → mergeK acc kvs = acc ++ kvs
  | [], acc, _ => by rw [List.append_nil]; rfl
  | p :: kvs, acc, h => by
    have hn : valV acc p.1 = none := by
      cases e : valV acc p.1 with
      | none => rfl
      | some v =>
        exfalso
        have : (acc.any fun kv => decide (kv.1 = p.1)) = true := by rw [valV_any, e]; rfl
        obtain ⟨q, hq, eq⟩ := List.any_eq_true.mp this
        have eq := of_decide_eq_true eq
        rw [List.map_append, List.nodup_append] at h
        exact h.2.2 q.1 (List.mem_map.mpr ⟨q, hq, rfl⟩) p.1 (by simp) eq
    show mergeK (putK acc p.1 p.2) kvs = _
    rw [putK_new _ hn, mergeK_app (by simpa using h)]
    simp
theorem keyed {K : KZ} {M : Mem} {H : Hp} : ∀ {ps : List (V × V)} {kds : List D} {ks : List Key}, Reps K M H (ps.map (·.1)) kds → kds.map dkey = ks.map some → ∃ kvs : List (Key × V), ps = kvs.map (fun kv => (kV kv.1, kv.2)) ∧ kvs.map (·.1) = ks ∧ kvs.map (·.2) = ps.map (·.2)
  | [], kds, ks, r, e => by
    cases r
    cases ks with
    | nil => exact ⟨[], rfl, rfl, rfl⟩
    | cons _ _ => cases e
  | (x, y) :: ps, kds, ks, r, e => by
    cases r with
    | cons r rs =>
      cases ks with
      | nil => cases e
      | cons k ks =>
        rw [List.map_cons, List.map_cons] at e
        injection e with e1 e2
        obtain ⟨kvs, h1, h2, h3⟩ := keyed rs e2
        have : x = kV k := rep_key r e1
        subst this
        exact ⟨(k, y) :: kvs, by rw [List.map_cons, h1], by rw [List.map_cons, h2], by rw [List.map_cons, h3, List.map_cons]⟩
theorem lift_disp {trs : List (DE × DE)} {end_ : List Key → List D → Mem → RK → Prop} {σ : L2.St} {H : Hp} {Q : VK}
    (he : ∀ (z : Addr → Prop) ks kvs ds M R H Q p M0 H0, end_ ks ds M R → MAbs ⟨X.K, zput z p⟩ M H → H p = some (.dK []) → (kvs : List (Key × V)).map (·.1) = ks → Reps ⟨X.K, zput z p⟩ M H (kvs.map (·.2)) ds → ¬ z p → H0 p = none → Frame M0 H0 M H → Fin ⟨X.K, z⟩ M0 H0 R Q → Q (.ref p) (upd H p (.dK kvs)))
    (h : liftE X.K (dDispW trs end_) σ H Q) : tDisp (trs.map fun p => (liftE X.K p.1, liftE X.K p.2)) σ H Q := by
  obtain ⟨z, ρ, M, R, S, A, q, F⟩ := h
  intro p hp
  have hzz : ∀ a, H a ≠ none → zput z p a → z a := fun a h y => y.elim id fun e => absurd (e ▸ hp) h
  have fn : ∀ {u : HO}, Frame M H M (upd H p u) := Frame.new hp
  refine lift_pairs (z := zput z p) (ρ := ρ) (M := M) ((S.zz hzz).fr fn) (A.hide hp) q fun kds ds M1 ps H1 ⟨ks, ek, hn, hl, q1⟩ rk rd A1 f1 => ?_
  have e1 : H1 p = some (.dK []) := (f1 p (by rw [upd_same]; exact nofun) (A.free hp)).1.trans upd_same
  obtain ⟨kvs, h1, h2, h3⟩ := keyed rk ek
  refine ⟨e1, kvs, h1, ?_, ?_⟩
  · have := congrArg List.length h2
    rw [List.length_map] at this
    omega
  · rw [show mergeK [] kvs = kvs from (mergeK_app (acc := []) (by rw [List.nil_append, h2]; exact hn)).trans (List.nil_append _)]
    exact he z ks kvs ds M1 R H1 Q p M H q1 A1 e1 h2 (by rw [h3]; exact rd) (A.znew hp) hp (fn.trans f1) F
theorem upd_bare {M0 : Mem} {H0 : Hp} {M : Mem} {H : Hp} {p : Addr} {u : HO} (f : Frame M0 H0 M H) (hp : H0 p = none) : Frame M0 H0 M (upd H p u) := fun c h n => by
  obtain ⟨e1, e2⟩ := f c h n
  exact ⟨(upd_ne fun e => h (by rw [e]; exact hp)).trans e1, e2⟩
theorem not_tupU {H : Hp} {p : Addr} {kvs : List (Key × V)} : ∀ xs, ¬ Rd (upd H p (.dK kvs)) p (.tup xs) := not_tupD upd_same
theorem disp_end (z : Addr → Prop) (ks : List Key) (kvs : List (Key × V)) (ds : List D) (M : Mem) (R : RK) (H : Hp) (Q : VK) (p : Addr) (M0 : Mem) (H0 : Hp) (q : R (.dct ks ds) M) (A : MAbs ⟨X.K, zput z p⟩ M H) (e : H p = some (.dK [])) (ek : kvs.map (·.1) = ks) (r : Reps ⟨X.K, zput z p⟩ M H (kvs.map (·.2)) ds) (nz : ¬ z p) (hp : H0 p = none) (f : Frame M0 H0 M H) (F : Fin ⟨X.K, z⟩ M0 H0 R Q) : Q (.ref p) (upd H p (.dK kvs)) := by
  have hs : ∀ a, z a → zput z p a := fun a h => .inl h
  have zp : zput z p p := .inr rfl
  exact F _ _ _ _ q (.dct ⟨.inl upd_same, A.zown zp, nz⟩ ek rfl ((r.side (not_tupD e) zp).zz fun a _ h => hs a h)) ((A.side (not_tupD e) zp).show_ hs) (upd_bare f hp)
theorem disp_endM (z : Addr → Prop) (ks : List Key) (kvs : List (Key × V)) (ds : List D) (M : Mem) (R : RK) (H : Hp) (Q : VK) (p : Addr) (M0 : Mem) (H0 : Hp) (q : ∀ p, M p = none → R (.ref p) (mset M p (.dct ks ds))) (A : MAbs ⟨X.K, zput z p⟩ M H) (e : H p = some (.dK [])) (ek : kvs.map (·.1) = ks) (r : Reps ⟨X.K, zput z p⟩ M H (kvs.map (·.2)) ds) (nz : ¬ z p) (hp : H0 p = none) (f : Frame M0 H0 M H) (F : Fin ⟨X.K, z⟩ M0 H0 R Q) : Q (.ref p) (upd H p (.dK kvs)) := by
  have zp : zput z p p := .inr rfl
  have A1 : MAbs ⟨X.K, zput z p⟩ M (upd H p (.dK kvs)) := A.side (not_tupD e) zp
  have r1 : Reps ⟨X.K, zput z p⟩ M (upd H p (.dK kvs)) (kvs.map (·.2)) ds := r.side (not_tupD e) zp
  exact F _ _ _ _ (q p (A.zown zp)) (.ref p) (A1.bare upd_same not_tupU nz ⟨kvs, upd_same, ek, r1.bare not_tupU⟩) ((upd_bare f hp).bare hp)
section
variable {keys : List (Option Expr)} {values : List Expr} {trs : List (DE × DE)}
theorem de_disp (h : PPsD X pos keys values trs) (hall : keys.all (·.isSome) = true := by rfl) (hl : keys.length = values.length := by rfl) (h0 : keys ≠ [] := by exact nofun) (h15 : keys.length ≤ 15 := by decide) : PED X (.Dict keys values pos) (dDisp trs) :=
  (pe_disp h.pps hall hl h0 h15).weak fun σ H Q h => lift_disp disp_end h
theorem de_dispM (h : PPsD X pos keys values trs) (hall : keys.all (·.isSome) = true := by rfl) (hl : keys.length = values.length := by rfl) (h0 : keys ≠ [] := by exact nofun) (h15 : keys.length ≤ 15 := by decide) : PED X (.Dict keys values pos) (dDispM trs) :=
  (pe_disp h.pps hall hl h0 h15).weak fun σ H Q h => lift_disp disp_endM h
end
def dDict0 : DE := fun _ M R => R (.dct [] []) M
theorem de_dict0 : PED X (.Dict [] [] pos) dDict0 := pe_dnewK.weak fun σ H Q ⟨z, ρ, M, R, S, A, q, F⟩ p hp =>
  F _ _ _ _ q (.dct (kvs := []) ⟨.inl upd_same, A.free hp, A.znew hp⟩ rfl rfl .nil) (A.new hp) (Frame.new hp)
def dDict0M : DE := fun _ M R => ∀ p, M p = none → R (.ref p) (mset M p (.dct [] []))
theorem de_dict0M : PED X (.Dict [] [] pos) dDict0M := pe_dnewK.weak fun σ H Q ⟨z, ρ, M, R, S, A, q, F⟩ p hp =>
  F _ _ _ _ (q p (A.free hp)) (.ref p) (A.newM hp ⟨[], upd_same, rfl, .nil⟩) (Frame.newM A hp)
end

/-! ### a deck, opened and closed -/
theorem MView.deck {K : PySem.W.Frag} {M : Mem} {a b : Addr} {k1 k2 k3 : Key} {m n : Int} {ns : List Int} (ea : M a = some (.dct [k1, k2, k3] [.ref b, .int m, .int n])) (eb : M b = some (.lst (ns.map .int))) (hl : ns.length ≤ 1000) :
    MView K M (mset (mset M a (.deck [k1, k2, k3] b)) b (.hid a)) := fun z H A => by
  have hab : a ≠ b := fun e => by rw [e, eb] at ea; cases ea
  have fr : Frame M H (mset (mset M a (.deck [k1, k2, k3] b)) b (.hid a)) H := fun c h nn => ⟨rfl, by
    rw [mset_ne (show c ≠ b from fun e => by rw [e, eb] at nn; cases nn), mset_ne (show c ≠ a from fun e => by rw [e, ea] at nn; cases nn)]
    exact nn⟩
  refine ⟨A.step fr fun c o e => ?_, fr⟩
  obtain ⟨kvs, qa, ek, ra⟩ := A.at_ a _ ea
  obtain ⟨us, qb, rb⟩ := A.at_ b _ eb
  obtain rfl := Reps.of_ints ns rb
  by_cases h1 : c = b
  · subst h1
    rw [mset_same] at e
    cases e
    exact .inr ⟨_, qb⟩
  · rw [mset_ne h1] at e
    by_cases h2 : c = a
    · subst h2
      rw [mset_same] at e
      cases e
      refine .inr ⟨k1, k2, k3, m, n, ⟨ns, hl⟩, rfl, ?_, qb, mset_same⟩
      cases kvs with
      | nil => cases ek
      | cons p kvs => cases kvs with
        | nil => cases ek
        | cons p2 kvs => cases kvs with
          | nil => cases ek
          | cons p3 kvs => cases kvs with
            | cons _ _ => cases ek
            | nil =>
              obtain ⟨x1, y1⟩ := p
              obtain ⟨x2, y2⟩ := p2
              obtain ⟨x3, y3⟩ := p3
              simp only [List.map_cons, List.map_nil, List.cons.injEq, and_true] at ek
              obtain ⟨rfl, rfl, rfl⟩ := ek
              cases ra with
              | cons r1 ra => cases ra with
                | cons r2 ra => cases ra with
                  | cons r3 ra =>
                    cases r1 with
                    | ref =>
                      obtain rfl := rep_int r2
                      obtain rfl := rep_int r3
                      exact qa
    · rw [mset_ne h2] at e
      refine .inl ⟨e, rfl, fun ks d eo => ?_⟩
      subst eo
      have hd := A.deckAt e
      refine ⟨?_, rfl⟩
      rw [mset_ne (show d ≠ b from fun e => by rw [e, eb] at hd; cases hd), mset_ne (show d ≠ a from fun e => by rw [e, ea] at hd; cases hd)]
/-- the deck's own parts are seen -/
theorem MAbs.open_ {K : KZ} {M : Mem} {H : Hp} {a b : Addr} {ks : List Key} (A : MAbs K M H) (e : M a = some (.deck ks b)) : ∃ m n, ∃ ns : List Int, ns.length ≤ 1000 ∧
    MAbs K (mset (mset M b (.lst (ns.map .int))) a (.dct ks [.ref b, .int m, .int n])) H ∧ Frame M H (mset (mset M b (.lst (ns.map .int))) a (.dct ks [.ref b, .int m, .int n])) H := by
  obtain ⟨k1, k2, k3, m, n, ⟨ns, hl⟩, e0, q, qb, mb⟩ := A.at_ a _ e
  subst e0
  have hab : b ≠ a := fun h => by rw [h, e] at mb; cases mb
  have fr : Frame M H (mset (mset M b (.lst (ns.map .int))) a (.dct [k1, k2, k3] [.ref b, .int m, .int n])) H := fun c h nn => ⟨rfl, by
    rw [mset_ne (show c ≠ a from fun h => by rw [h, e] at nn; cases nn), mset_ne (show c ≠ b from fun h => by rw [h, mb] at nn; cases nn)]
    exact nn⟩
  refine ⟨m, n, ns, hl, A.step fr fun c o ec => ?_, fr⟩
  by_cases h1 : c = a
  · subst h1
    rw [mset_same] at ec
    cases ec
    exact .inr ⟨_, q, rfl, .cons (.ref b) (.cons (.int m) (.cons (.int n) .nil))⟩
  · rw [mset_ne h1] at ec
    by_cases h2 : c = b
    · subst h2
      rw [mset_same] at ec
      cases ec
      exact .inr ⟨_, qb, Reps.ints ns⟩
    · rw [mset_ne h2] at ec
      by_cases h3 : ∃ ks', o = .deck ks' b
      · -- another deck with this list: none, as the list says whose it is
        obtain ⟨ks', rfl⟩ := h3
        have := A.deckAt ec
        rw [mb] at this
        cases this
        exact absurd rfl h1
      · refine .inl ⟨ec, rfl, fun ks' d eo => ?_⟩
        subst eo
        have hd := A.deckAt ec
        refine ⟨?_, rfl⟩
        rw [mset_ne (show d ≠ a from fun h => by rw [h, e] at hd; cases hd), mset_ne (show d ≠ b from fun h => h3 ⟨ks', by rw [h]⟩)]
section
variable {X : Cx} {st : List Stmt} {t : DS}
/-- ahead of a block the deck in the name's slot i is opened -/
def dOpen (i : Nat) (t : DS) : DS := fun D ρ M => ∃ a ks b, slot ρ i = some (.ref a) ∧ M a = some (.deck ks b) ∧ ∀ (m n : Int) (ns : List Int), ns.length ≤ 1000 → t D ρ (mset (mset M b (.lst (ns.map .int))) a (.dct ks [.ref b, .int m, .int n]))
theorem db_open (i : Nat) (h : PBD X st t) : PBD X st (dOpen i t) := h.weak fun D σ H ⟨z, ρ, M, D0, S, A, ⟨a, ks, b, _, e, q⟩, L⟩ => by
  obtain ⟨m, n, ns, hl, A1, f1⟩ := A.open_ e
  exact ⟨z, ρ, _, D0, S.fr f1, A1, q m n ns hl, L.fr f1⟩
end
end DL

set_option Elab.async false
set_option linter.all false
set_option maxHeartbeats 4000000
set_option maxRecDepth 100000
/-! D-layer, part 11: len(set(..)) of keys. -/
namespace DL
open PySem PySem.Spec PyProof.Rows L2

instance memKey (k : Key) : (us : List Key) → Decidable (k ∈ us)
  | [] => .isFalse List.not_mem_nil
  | x :: us => if h : k = x then .isTrue (h ▸ List.mem_cons_self) else match memKey k us with
    | .isTrue t => isTrue (List.mem_cons_of_mem _ t)
    | .isFalse f => .isFalse fun m => (List.mem_cons.mp m).elim h f
theorem setU_congr {prog : Program} {w : World} {h : Heap} {a : Addr} {S S' : Key → Bool} {n n' : Nat} (x : h.SetOf (mixKind prog w) a S n) (e : ∀ k, S k = S' k) (en : n = n') : h.SetOf (mixKind prog w) a S' n' := by
  obtain rfl := funext e
  exact en ▸ x
def stepU (us : List Key) (k : Key) : List Key := if k ∈ us then us else us ++ [k]
def uniqs (ks : List Key) : List Key := ks.foldl stepU []
theorem uniqs_snoc (ks : List Key) (k : Key) : uniqs (ks ++ [k]) = stepU (uniqs ks) k := by
  unfold uniqs
  rw [List.foldl_append]
  rfl
theorem uniqs_le : ∀ (ks us : List Key), (ks.foldl stepU us).length ≤ us.length + ks.length
  | [], us => by simp
  | k :: ks, us => by
    have a := uniqs_le ks (stepU us k)
    have b : (stepU us k).length ≤ us.length + 1 := by
      unfold stepU
      split
      · omega
      · simp
    rw [List.foldl_cons, List.length_cons]
    omega
theorem uniqs_len (ks : List Key) : (uniqs ks).length ≤ ks.length := by
  have := uniqs_le ks []
  simpa [uniqs] using this
section
variable {prog : Program} {w : World} {A : Around} {R : Result → Shared → Prop} {it : Addr} {fp wr : List Addr} {G : Array GenState → Array GenState → Prop} {n : Nat} {Pv : Nat → Value → Prop} {St : Nat → Shared → Prop}
/-- the set at b holds these keys -/
abbrev SetU (prog : Program) (w : World) (h : Heap) (b : Addr) (us : List Key) : Prop := h.SetOf (mixKind prog w) b (fun k => decide (k ∈ us)) us.length
theorem keys_added (W : WalksS prog w A.in1 it fp wr G n Pv St) (b : Addr) (hfp : b ∉ fp) (ks : List Key) (hn : ks.length = n) (hv : ∀ i v, Pv i v → ∃ k, ks[i]? = some k ∧ RelV (kV k) v) (hb : n + 1 < scanBound) :
    ∀ (j i : Nat) (s : Shared), n - i = j → i ≤ n → St i s → SetU prog w s.heap b (uniqs (ks.take i)) → (∀ s2, Moved (b :: wr) G s s2 → SetU prog w s2.heap b (uniqs ks) → R (.ok (.ret .none)) s2) → codeAny (model prog w) A (.builtin "set.update.loop" ⟨[.ref b, .ref it], []⟩) R s := by
  have hbw : b ∉ wr := fun h => hfp (W.sub _ h)
  have more : ∀ c ∈ wr, c ∈ b :: wr := fun _ h => List.mem_cons_of_mem _ h
  have stay : ∀ {s s2 : Shared} {us}, Moved wr G s s2 → SetU prog w s.heap b us → SetU prog w s2.heap b us := fun hm ⟨o, es, ep, t, ho, z⟩ => ⟨o, es, ep, t, hm.heap b _ hbw ho, z⟩
  intro j
  induction j with
  | zero =>
    intro i s hj hi st hS hR
    obtain rfl : i = n := by omega
    refine codeAny_builtin PyProof.Rows.F.entry_set_update_loop ?_
    rw [Around.under_plainId PyProof.Rows.F.plain_set_update_loop _]
    show wpAny _ A.in1 (pyNext (.ref it) >>= _) _ _ s
    refine wpAny_bind (W.done s _ _ st fun s2 hm => ?_)
    show wpAny _ A.in1 (ret Value.none) _ _ s2
    rw [← hn, List.take_length] at hS
    exact wpAny_pure (hR s2 (hm.mono more) (stay hm hS))
  | succ j ih =>
    intro i s hj hi st hS hR
    have hlt : i < n := by omega
    refine codeAny_builtin PyProof.Rows.F.entry_set_update_loop ?_
    rw [Around.under_plainId PyProof.Rows.F.plain_set_update_loop _]
    show wpAny _ A.in1 (pyNext (.ref it) >>= _) _ _ s
    refine wpAny_bind (W.item i s _ _ hlt st fun v s2 hP st2 hm => ?_)
    obtain ⟨k, ek, rk⟩ := hv i v hP
    have hS2 := stay hm hS
    have his : (mixKind prog w).is k v = true := kV_is rk
    show wpAny _ A.in1 (holding [v] (setAdd b v) >>= _) _ _ s2
    refine wpAny_bind (wpAny_holding ?_)
    unfold setAdd
    refine wpAny_holding (wpAny_bind ((mixKind prog w).pyHash (k := k) his ?_))
    have hz := uniqs_len (ks.take i)
    have ht : (ks.take i).length ≤ i := List.length_take_le _ _
    refine wpAny_setAddHashed_of (knd := mixKind prog w) (s := { s2 with toks := s2.toks + 1 }) his (key_scan rk) hS2 (by omega) fun h3 sb hS3 => ?_
    have eu : uniqs (ks.take (i + 1)) = stepU (uniqs (ks.take i)) k := by rw [List.take_add_one, ek, Option.toList_some, uniqs_snoc]
    have hS4 : SetU prog w h3 b (uniqs (ks.take (i + 1))) := setU_congr hS3 (fun x => by
      rw [eu]
      unfold stepU
      by_cases m : k ∈ uniqs (ks.take i)
      · rw [if_pos m]
        by_cases e : x = k
        · subst e; simp [m]
        · simp [e]
      · rw [if_neg m]
        simp) (by
      rw [eu]
      unfold stepU
      by_cases m : k ∈ uniqs (ks.take i)
      · simp [m]
      · simp [m])
    have nb : ∀ c ∈ fp, c ≠ b := fun c hc e => hfp (e ▸ hc)
    refine wpAny_pure ⟨plainId_quiet PyProof.Rows.F.plain_set_update_loop _, ih (i + 1) _ (by omega) hlt (W.frame _ s2 _ _ st2 (Nat.le_succ _) fun c hc o e => (sb.2 c (nb c hc)).trans e) hS4 fun s5 hm5 hS5 => ?_⟩
    exact hR s5 (Moved.trans W.gtrans ((hm.mono more).then_heap (Nat.le_succ _) fun c o hc e => (sb.2 c fun z => hc (z ▸ List.mem_cons_self)).trans e) hm5) hS5
end
section
variable {prog : Program} {w : World} {A : Around} {E : Value → Shared → Prop} {s : Shared}
def seqTy (T : String) : Prop := T = "list" ∨ T = "tuple"
theorem seqTy_set {T : String} (h : seqTy T) : isSubtype (.type T) (.type "set") = pure false := by
  rcases h with rfl | rfl
  · exact PySem.F.sub_list_set
  · exact PySem.F.sub_tuple_set
theorem seqTy_froz {T : String} (h : seqTy T) : isSubtype (.type T) (.type "frozenset") = pure false := by
  rcases h with rfl | rfl
  · exact PySem.F.sub_list_frozenset
  · exact PySem.F.sub_tuple_frozenset
set_option maxHeartbeats 16000000 in
theorem keys_set {T : String} (hty : seqTy T) {l : Addr} {od : Option Addr} {its : Array Value} {nl : Nat} {sl : Array (Option Value)} {ks : List Key} {Q : Value → Shared → Prop} (hh : A.handled = none)
    (ho : s.heap.get? l = some { cls := .type T, dict := od, data := .seq its nl, slots := sl }) (hk : Vals (ks.map kV) its.toList) (hb : ks.length + 1 < scanBound)
    (h : ∀ (h2 : Heap) (tk : Nat), SetU prog w h2 s.heap.objs.size (uniqs ks) → (∀ b o, s.heap.get? b = some o → h2.get? b = some o) → Q (.ref s.heap.objs.size) { s with heap := h2, toks := tk }) :
    wpAny (model prog w) A (call (.type "set") [.ref l]) Q E s := by
  have hsz : ks.length = its.size := by
    have := hk.length
    rw [List.length_map, Array.length_toList] at this
    exact this
  have hv : ∀ (i : Nat) (v : Value), its[i]? = some v → ∃ k, ks[i]? = some k ∧ RelV (kV k) v := fun i v e => by
    have hi : i < ks.length := by rw [hsz]; exact (Array.getElem?_eq_some_iff.mp e).1
    obtain ⟨u, hu, ru⟩ := hk.get (i := i) (x := kV ks[i]) (by simp [hi])
    rw [Array.getElem?_toList, e] at hu
    cases hu
    exact ⟨ks[i], List.getElem?_eq_getElem hi, ru⟩
  obtain ⟨c, tl, hmro⟩ := PySem.F.called_set.mro
  have hmade := PySem.F.called_set.made; have hsub := PySem.F.called_set.sub
  refine wpAny_call (codeAny_of_tree ?_)
  show wpAny _ _ (callAny (.type "set") _) _ _ _
  refine wpAny_pure ⟨Code.quiet_builtin _ (by decide +kernel), codeAny_builtin PySem.F.entry_type_call ?_⟩
  rw [Around.under_plain (weight_type_call_type "set" [.ref l] []) rfl]
  have h1 := PySem.F.called_set.notType; have h2 := PySem.F.called_set.canCreate; have hct := PySem.F.typeCall_set_1 (.ref l)
  repeat (any_goals (first | assumption | wp_step))
  refine codeAny_mono (code_set_new_1 (.ref l) (E := E) (Q₁ := fun u s1 => ∃ led : Bool, u = .ref s.heap.objs.size ∧ s1 = { s with heap := s.heap.push { cls := .type "set", dict := none, data := .set #[] 0 (.fresh 0 0 led) } }) fun led => ⟨led, rfl, rfl⟩) fun r s1 hr => ?_
  rcases r with e | fl
  · exact hr
  rcases fl with _ | _ | _ | u
  all_goals try exact hr.elim
  obtain ⟨led, rfl, rfl⟩ := hr
  generalize hp : s.heap.push { cls := .type "set", dict := none, data := .set #[] 0 (.fresh 0 0 led) } = hp0
  have hS : hp0.get? s.heap.objs.size = some { cls := .type "set", dict := none, data := .set #[] 0 (.fresh 0 0 led) } := by rw [← hp]; exact Heap.get?_push_size _ rfl
  have hold : ∀ b o, s.heap.get? b = some o → hp0.get? b = some o := fun b o e => by rw [← hp]; exact Heap.get?_push_of_some _ e
  have hs0 : hp0.objs.size = s.heap.objs.size + 1 := by rw [← hp]; exact Heap.size_push ..
  have hT : Shared.TypeIs { s with heap := hp0 } (.ref s.heap.objs.size) "set" := ⟨_, hS, rfl⟩
  have hli := PySem.F.called_set.init.lookup; have hbi := PySem.F.called_set.init.bind (.ref s.heap.objs.size)
  repeat (any_goals (first | assumption | wp_step))
  refine codeAny_mono (codeAny_call_builtin (R := wants (fun r s2 => r = .none ∧ ∃ h2 tk, s2 = { s with heap := h2, toks := tk } ∧ SetU prog w h2 s.heap.objs.size (uniqs ks) ∧ (∀ b o, s.heap.get? b = some o → h2.get? b = some o)) E) PySem.F.called_set.init.plain PySem.F.entry_set_init (check_set_init_1 hT ?_)) fun r2 s2 hr2 => ?_
  · have ho1 := hold _ _ ho
    have hsls := seqTy_set hty; have hslf := seqTy_froz hty
    have hne : (Value.type T == Value.type "dict") = false := by rcases hty with rfl | rfl <;> decide
    have hlS : l < s.heap.objs.size := Heap.lt_size ho
    have hh3 : A.in1.in1.in1.handled = none := by simp [hh]
    have hneI : l ≠ hp0.objs.size := Nat.ne_of_lt (by rw [hs0]; exact Nat.lt_succ_of_lt hlS)
    have hSf : s.heap.objs.size ∉ [hp0.objs.size, l] := by
      simp only [List.mem_cons, List.not_mem_nil, or_false, not_or]
      exact ⟨Nat.ne_of_lt (by rw [hs0]; exact Nat.lt_succ_self _), Nat.ne_of_gt hlS⟩
    unfold Builtin.«set.__init__» noKeywords Builtin.Frozenset.updateFrom
    generalize hPI : pyIter = PI
    wp_walk
    subst hPI
    have hset : ∀ {o : Obj}, SetU prog w (hp0.push o) s.heap.objs.size (uniqs (ks.take 0)) := fun {o} =>
      setU_congr (S := fun _ => false) (n := 0) ⟨_, #[], 0, _, Heap.get?_push_of_some _ hS, ⟨rfl, rfl, rfl⟩, rfl, fun e he => by simp at he, fun k => by simp, by decide, by rfl, rfl⟩ (fun _ => by simp [uniqs]) rfl
    have fin : ∀ {o : Obj} {tk : Nat} {s3 : Shared}, Moved (s.heap.objs.size :: [hp0.objs.size]) (fun a b => b = a) { s with heap := hp0.push o, toks := tk } s3 → SetU prog w s3.heap s.heap.objs.size (uniqs ks) → ∃ h2 tk, s3 = { s with heap := h2, toks := tk } ∧ SetU prog w h2 s.heap.objs.size (uniqs ks) ∧ (∀ b o, s.heap.get? b = some o → h2.get? b = some o) := fun {o tk s3} hm hU => by
      obtain ⟨h4, g4, d4, t4, os4⟩ := s3
      obtain rfl : g4 = s.gens := hm.gens
      obtain rfl : d4 = s.drawn := hm.drawn
      obtain rfl : os4 = s.os := hm.os
      refine ⟨h4, t4, rfl, hU, fun b ob e => hm.heap b ob ?_ (Heap.get?_push_of_some _ (hold b ob e))⟩
      have hlt := Heap.lt_size e
      simp only [List.mem_cons, List.not_mem_nil, or_false, not_or]
      exact ⟨Nat.ne_of_lt hlt, Nat.ne_of_lt (by rw [hs0]; exact Nat.lt_succ_of_lt hlt)⟩
    rcases hty with rfl | rfl
    · have hl1 : hp0.IsList l its := ⟨_, ho1, rfl, nl, rfl⟩
      refine wpAny_pyIter_list hl1 (wpAny_bind (wpAny_runValue ?_))
      refine keys_added ((Walks.list hh3 _ l hneI its).toS) s.heap.objs.size hSf ks hsz hv (by omega) (its.size - 0) 0 _ (by omega) (Nat.zero_le _) ⟨⟨_, Heap.get?_push_size _ rfl, rfl, rfl⟩, hl1.push _⟩ hset fun s3 hm hU => ?_
      obtain ⟨h5, t5, rfl, hU5, hk5⟩ := fin hm hU
      show wpAny _ _ _ _ _ _
      refine wpAny_pure ?_
      show wpAny _ _ (ret Value.none) _ _ _
      exact wpAny_pure ⟨rfl, h5, t5, rfl, hU5, hk5⟩
    · have hl1 : hp0.IsTuple l its := ⟨_, ho1, rfl, nl, rfl⟩
      refine wpAny_pyIter_tuple hl1 (wpAny_bind (wpAny_runValue ?_))
      refine keys_added ((Walks.tuple hh3 _ l hneI its).toS) s.heap.objs.size hSf ks hsz hv (by omega) (its.size - 0) 0 _ (by omega) (Nat.zero_le _) ⟨⟨_, Heap.get?_push_size _ rfl, rfl, rfl⟩, hl1.push _⟩ hset fun s3 hm hU => ?_
      obtain ⟨h5, t5, rfl, hU5, hk5⟩ := fin hm hU
      show wpAny _ _ _ _ _ _
      refine wpAny_pure ?_
      show wpAny _ _ (ret Value.none) _ _ _
      exact wpAny_pure ⟨rfl, h5, t5, rfl, hU5, hk5⟩
  · rcases r2 with e | fl
    · exact hr2
    rcases fl with _ | _ | _ | u
    all_goals try exact hr2.elim
    obtain ⟨rfl, h2, tk, rfl, hU, hk2⟩ := hr2
    repeat (any_goals (first | assumption | wp_step))
    exact h _ _ hU hk2
end
section
variable {X : Cx} {a : Expr} {ta : DE} {p p2 q pos : Pos}
/-- len(set(x)), x a list or a tuple of ints and texts -/
def dLenSet (ta : DE) : DE := fun ρ M R => ta ρ M fun x M1 => ∃ ds, ∃ ks : List Key, (x = .tup ds ∨ ListAt M1 x ds) ∧ ds.map dkey = ks.map some ∧ ks.length + 1 < scanBound ∧ R (.int (uniqs ks).length) M1
theorem keys_of {K : KZ} {M : Mem} {H : Hp} : ∀ {vs : List V} {ds : List D} {ks : List Key}, Reps K M H vs ds → ds.map dkey = ks.map some → vs = ks.map kV
  | _, _, [], .nil, _ => rfl
  | _, _, k :: ks, .cons r rs, e => by
    rw [List.map_cons, List.map_cons] at e
    injection e with e1 e2
    rw [rep_key r e1, keys_of rs e2, List.map_cons]
  | _, _, [], .cons _ _, e => by cases e
  | _, _, _ :: _, .nil, e => by cases e
theorem de_lenSet (hc : X.calm = true) (hm : X.mg "len" = none) (hm2 : X.mg "set" = none) (ha : PED X a ta) (hg : Gl X "len" := by rfl) (hg2 : Gl X "set" := by rfl)
    (na : starEach [a] X.env = (false, eval a X.env) :: starEach [] X.env := by rfl) : PED X (.Call (.Name "len" p) [.Call (.Name "set" p2) [a] [] q] [] pos) (dLenSet ta) := by
  refine ⟨fun pins s σ H Q I h => ?_⟩
  refine Call_ (ld_blt I hg hm boot_len (PyProof.Rows.callWith_builtin1 (PyProof.Rows.args_cons (Call_ (ld_blt I hg2 hm2 boot_set ?_)) rfl) rfl rfl))
  obtain ⟨z, ρ, M, R, S, A, q, F⟩ := h
  refine PyProof.Rows.callWith_type1 (PyProof.Rows.args_cons (thn (ha.run pins s σ H (fun v H1 => ∃ l xs, ∃ ks : List Key, v = .ref l ∧ (SqL X.K H1 l xs ∨ SqT X.K H1 l xs) ∧ xs = ks.map kV ∧ ks.length + 1 < scanBound ∧ Q (.int (uniqs ks).length) H1) I
    ⟨z, ρ, M, _, S, A, q, fun x M1 v H1 ⟨ds, ks, hx, ek, hb, q1⟩ r1 A1 f1 => ?_⟩) fun v s1 ⟨x, H1, I1, r1, l, xs, ks, ex, hq, exs, hb, q1⟩ => PyProof.Rows.args_nil ?_) na) na rfl
  · have fin := F _ _ (.int (uniqs ks).length) H1 q1 (.int _) A1 f1
    rcases hx with hx | hx
    · subst hx
      obtain ⟨l, vs, rfl, hr, rs⟩ := rep_tup r1
      exact ⟨l, vs, ks, rfl, .inr hr.sq, keys_of rs ek, hb, fin⟩
    · obtain ⟨l, vs, rfl, hr, rs⟩ := rep_list A1 r1 hx
      exact ⟨l, vs, ks, rfl, .inl hr, keys_of rs ek, hb, fin⟩
  · subst ex exs
    cases r1
    have ob : ∃ T, seqTy T ∧ ∃ od its nl sl, s1.heap.get? l = some { cls := .type T, dict := od, data := .seq its nl, slots := sl } ∧ Vals (ks.map kV) its.toList := by
      rcases hq with hq | hq
      · obtain ⟨its, r, ⟨⟨c, d, dt, sl⟩, n, e, e1, e2, e3⟩, _⟩ := I1.list hq
        simp only at e1 e2 e3
        subst e1 e2 e3
        exact ⟨"list", .inl rfl, _, _, _, _, e, by simpa using r⟩
      · obtain ⟨its, r, ⟨⟨c, d, dt, sl⟩, e, e1, n, e3⟩, _⟩ := I1.tuple hq
        simp only at e1 e3
        subst e1 e3
        exact ⟨"tuple", .inr rfl, _, _, _, _, e, by simpa using r⟩
    obtain ⟨T, hT, od, its, nl, sl, ho, hk⟩ := ob
    refine keys_set hT (I1.ok.hd hc) ho hk hb fun h2 tk hU hk2 => PyProof.Rows.args_nil ?_
    obtain ⟨o, es, ep, t, hoo, hex, hd, _, _, hlt, hf, hn⟩ := hU
    have I2 : Inv X pins σ H1 { s1 with heap := h2, toks := tk } := I1.kept fun b o e => hk2 b o e
    have hle := uniqs_len ks
    have hs : scanBound = 4096 := by unfold scanBound; rfl
    refine call_len_set hoo hex hd hf (by rw [hn]; omega) ⟨.int (uniqs ks).length, H1, I2.tok _, ⟨_, by rw [hn]⟩, q1⟩
end
end DL

set_option Elab.async false
set_option linter.all false
set_option maxHeartbeats 4000000
/-! D-layer, part 12: the head of a law. -/
namespace DL
open PySem PySem.Spec PyProof.Rows L2

theorem mnone {K : KZ} {H : Hp} (hz : ∀ a, ¬ K.z a) : MAbs K (fun _ => none) H := ⟨fun _ _ e => (nomatch e), fun _ _ e => (nomatch e), fun a h => absurd h (hz a)⟩
section
variable {P : Program} {w : World} {K : PySem.W.Frag} {mg mb : Str → Option Value}
/-- what is asked of the law's def, and that it gives True -/
def LawSp (sp : SpD) (n : Nat) : Prop := ∀ ns : List Int, ns.length ≤ n → sp [.lst (ns.map .int)] (fun _ => none) (fun d _ => d = .bl true) noX
theorem head_ {k n : Nat} {fa a : Addr} {nm x : Str} {st : Stmt} {sp : SpD} {s1 : Shared} {us : List Value} {ns : List Int} (kin : K.In s1.heap) (g1 : s1.heap.Ns mainGlobals mg) (g2 : s1.heap.Ns builtinsNs mb) (gb : ∀ y : Str, y ≠ "__name__" → mb y = bootBuiltins y)
    (nl : s1.heap.NoLimit) (ng : s1.gens = #[]) (ea : s1.heap.get? a = some { cls := .type "list", data := .seq us.toArray }) (ui : IntsAre us ns) (un : ns.length ≤ n) (nn : n ≤ sizeLine) (room : Room k callerA) (em : mg nm = some (.ref fa)) (pb : PosB nm st [x])
    (F : ∀ base : Heap, K.In base → base.Ns mainGlobals mg → Has P w K mg base CX0 nm st [x] k sp) (hsp : LawSp sp n) :
    codeAny (model P w) callerA (.call (.ref fa) ⟨[.ref a], []⟩) (fun r s2 => r = .ok (.ret (.bool true)) ∧ OldK s1.heap s2.heap ∧ s2.os = s1.os ∧ AllBare s2.gens) s1 := by
  have uv : Vals (ns.map V.int) us := vals_ints ui
  have ul : us.length = ns.length := by rw [← uv.length, List.length_map]
  have go : ∀ H : Hp, Only H → SqL K H a (ns.map V.int) → HOk P w H s1.heap → (∀ b, H b ≠ none → b = a ∧ K.lookup b = none) → codeAny (model P w) callerA (.call (.ref fa) ⟨[.ref a], []⟩) (fun r s2 => r = .ok (.ret (.bool true)) ∧ OldK s1.heap s2.heap ∧ s2.os = s1.os ∧ AllBare s2.gens) s1 := by
    intro H only sq ok there
    have free : ∀ {b : Addr} {o : Obj}, s1.heap.get? b = some o → (∀ es ep, o.data ≠ .dict es ep) → True := fun _ _ => trivial
    have dic : ∀ {b : Addr} {m : Str → Option Value}, s1.heap.Ns b m → (hidT s1.heap H).Ns b m := fun {b m} ⟨o, es, ep, e, d, z⟩ => ⟨o, es, ep, hidT_get e (Classical.byContradiction fun hb => by
      obtain ⟨eb, _⟩ := there b hb
      rw [eb, ea] at e
      cases e
      exact nomatch d), d, z⟩
    have kb : K.In (hidT s1.heap H) := fun b o e => hidT_get (kin b o e) (Classical.byContradiction fun hb => by
      obtain ⟨_, eb⟩ := there b hb
      rw [eb] at e
      cases e)
    have md : Mod K mg (hidT s1.heap H) := ⟨kb, dic g1, ⟨mb, dic g2, gb⟩, let ⟨mc, p, q⟩ := nl; ⟨mc, dic p, q⟩⟩
    have env : Env0 P w K mg (hidT s1.heap H) callerA [] s1 H := ⟨rfl, md, fun b o e => of_hidT e, Nat.le_of_eq (hidT_size _ _), trivial, fun b hb => (nomatch (show b ∈ ([] : List Addr) from hb)), ok, .of_eq ng⟩
    obtain ⟨f, fd, hm, Fn, G⟩ := (F _ kb (dic g1)).ex
    obtain rfl : f = fa := by
      have z := hm.symm.trans em
      cases z
      rfl
    have mz : MAbs ⟨K, fun _ => False⟩ (fun _ => none) H := mnone fun _ h => h
    have rep : Reps ⟨K, fun _ => False⟩ (fun _ => none) H [.ref a] [.lst (ns.map .int)] := .cons (.lst (sq.elim (fun r => .inl ⟨r, rfl, id⟩) .inr) (Reps.ints ns)) .nil
    have fin : Fin ⟨K, fun _ => False⟩ (fun _ => none) H (fun d _ => d = .bl true) (fun v _ => v = .bl true) := fun d M2 v H2 e r _ _ => by
      subst e
      exact rep_bl r
    have bind : BindsTo s1 fd ⟨[.ref a], []⟩ ([x].zip [.ref a]) := by
      obtain ⟨oc, od, kV, doc, pm, an, cdv, ct, osl, rfl, _⟩ := Fn.ex
      exact .of_eq (pb _ _ _ _ _ _ _ rfl)
    refine codeAny_mono (G.run callerA [] s1 H ⟨[.ref a], []⟩ [.ref a] [.ref a] (fun v _ => v = .bl true) (fun _ _ _ => False) room rfl env bind (.cons rfl .nil) ⟨_, _, _, _, _, mz, rep, hsp ns un, fin, .no⟩) fun r s2 h => ?_
    rcases r with e | fl
    · exact h.elim
    rcases fl with _ | _ | _ | u
    all_goals try exact h.elim
    obtain ⟨v, H2, h1, h2, h3, h4, h5, h6⟩ := h
    have h6' : v = .bl true := h6
    subst h6'
    obtain rfl : u = Value.bool true := h5
    refine ⟨rfl, OldK.of_keep fun b o e => ?_, h1, h2⟩
    rcases only b with z | ⟨ob, xs, z⟩
    · exact h3.keep b o e z (fun q => nomatch (show b ∈ ([] : List Addr) from q)) (fun q => nomatch q)
    · have a1 := (ok b _ z).1
      have a2 := (h4 b _ (h3.frzs b ob _ z)).1
      rw [e] at a1
      cases a1
      exact a2
  cases q : K.lookup a with
  | some o =>
    have e := kin a o q
    rw [ea] at e
    cases e
    exact go (fun _ => none) (fun _ => .inl rfl) (.inr ⟨_, us.toArray, _, q, rfl, rfl, rfl, by rw [List.size_toArray, ul]; omega, by simpa using uv⟩) (fun b u z => (nomatch z)) fun b z => absurd rfl z
  | none =>
    let H : Hp := fun b => if b = a then some (.frz { cls := .type "list", data := .seq us.toArray } (.lst (ns.map V.int))) else none
    have at_a : H a = some (.frz { cls := .type "list", data := .seq us.toArray } (.lst (ns.map V.int))) := if_pos rfl
    have off : ∀ {b}, b ≠ a → H b = none := fun h => if_neg h
    refine go H (fun b => ?_) (.inl (.inr ⟨_, at_a⟩)) (fun b u z => ?_) fun b z => ?_
    · by_cases h : b = a
      · exact .inr ⟨_, _, h ▸ at_a⟩
      · exact .inl (off h)
    · by_cases h : b = a
      · subst h
        rw [at_a] at z
        cases z
        exact ⟨ea, by rw [List.length_map]; omega, us, _, uv, ea⟩
      · rw [off h] at z
        cases z
    · by_cases h : b = a
      · exact ⟨h, h ▸ q⟩
      · exact absurd (off h) z
end
open PySem.W in
/-- the goal that k_head leaves (case hc) -/
theorem walkD {l : OpenLaw} {n k : Nat} {q : Program} {loose : List Str} {XP : (Str → Option Value) → Heap → Prop} {YP : World → Heap → Prop} {d : DefRec} {K : Params → Frag} {sp : SpD} {x : Str} {st : Stmt} (hn : l.most = some n) (nn : n ≤ sizeLine) (hdf : d.params.defaults = []) (hr : Room k callerA)
    (hY : ∀ (w : World) (h : Heap), YP w h → (K w.params).In h) (pb : PosB d.name st [x]) (F : ∀ (w : World) (mg : Str → Option Value) (base : Heap), (K w.params).In base → base.Ns mainGlobals mg → Has l.prog w (K w.params) mg base CX0 d.name st [x] k sp) (hsp : LawSp sp n) :
    WalkO q loose XP YP l.row.toRowW d [] (fun f vs => PySem.call f vs) :=
  Att.attach_call hn hdf fun w s0 s1 mg mb fa o pm cd doc a us ns G Y ho hd hcd hmg hobj hints hlen hg => head_ (hY w _ Y) G.T.g G.T.b G.T.builtins G.T.nolimit hg hobj hints hlen nn hr hmg pb (F w mg) hsp
end DL

set_option Elab.async false
set_option linter.all false
set_option maxHeartbeats 4000000
/-! D-layer, part 13: what the printed walks use. -/
namespace DL
open PySem PySem.Spec PyProof.Rows L2
section
variable {X : Cx} {a b c : Expr} {pos : Pos}
/-- a, b, c = x, y, z with three local names -/
def dPar3 (i j l : Nat) (t : DA) : DS := fun D ρ M => t ρ M fun ds M1 => ∃ x y z, ds = [x, y, z] ∧ D.nx (put (put (put ρ i x) j y) l z) M1
theorem ds_par3 {ta : DA} (i j l : Nat) {x y z : Str} {px py pz pt : Pos} {kt k2 : Nat} {pt2 : Pos} (hc : X.calm = true) (hN : X.N.Nodup) (ha : PAD X [a, b, c] ta) (hi : X.N[i]? = some x := by rfl) (hj : X.N[j]? = some y := by rfl) (hl : X.N[l]? = some z := by rfl) (hij : i ≠ j := by decide) (hil : i ≠ l := by decide) (hjl : j ≠ l := by decide)
    (hx : X.env.scope.names.lookup x = some .local := by rfl) (hy : X.env.scope.names.lookup y = some .local := by rfl) (hz : X.env.scope.names.lookup z = some .local := by rfl)
    (hw : swappedStores [.Tuple [.Name x px, .Name y py, .Name z pz] kt pt] (.Tuple [a, b, c] k2 pt2) X.env = pure (some [x, y, z]) := by rfl)
    (hs : swapsWithSole [.Tuple [.Name x px, .Name y py, .Name z pz] kt pt] (.Tuple [a, b, c] k2 pt2) pos.line X.env = pure false := by rfl) :
    PSD X (.Assign [.Tuple [.Name x px, .Name y py, .Name z pz] kt pt] (.Tuple [a, b, c] k2 pt2) pos) (dPar3 i j l ta) :=
  (ps_par3 hc hN hi hj hl hij hil hjl hx hy hz ha hw hs).weak fun D σ H ⟨z, ρ, M, D0, S, A, q, L⟩ => ⟨z, ρ, M, _, S, A, q, fun ds M1 vs H1 ⟨x, y, z', e, q1⟩ r1 A1 f1 => by
    subst e
    cases r1 with
    | cons r1 r2 => cases r2 with
      | cons r2 r3 => cases r3 with
        | cons r3 r4 =>
          cases r4
          exact ⟨_, _, _, rfl, L.nx _ M1 _ H1 q1 ((((S.fr f1).put i r1).put j r2).put l r3) A1 f1⟩⟩
end
section
variable {K : PySem.W.Frag} {mg : Str → Option Value} {x : Str}
theorem holds_str {s : Str} {t : Tok} (e : mg x = some (.str s t)) : Holds K mg x (.str s) := ⟨.str s, _, e, ⟨t, rfl⟩, fun _ _ _ => .str _⟩
theorem holds_int {i : Int} {t : Tok} (e : mg x = some (.int i t)) : Holds K mg x (.int i) := ⟨.int i, _, e, ⟨t, rfl⟩, fun _ _ _ => .int _⟩
theorem reps_strs {K : KZ} {M : Mem} {H : Hp} : ∀ xs : List Str, Reps K M H (xs.map .str) (xs.map .str)
  | [] => .nil
  | x :: xs => .cons (.str x) (reps_strs xs)
theorem holds_ints {a : Addr} {od : Option Addr} {n : Nat} {so : Array (Option Value)} {us : Array Value} {xs : List Int} (e : mg x = some (.ref a)) (o : K.lookup a = some ⟨.type "tuple", od, .seq us n, so⟩) (hz : us.size ≤ sizeLine) (r : Vals (xs.map V.int) us.toList) : Holds K mg x (.tup (xs.map .int)) :=
  ⟨.ref a, _, e, rfl, fun _ _ _ => .tup (.inr ⟨_, us, n, o, rfl, rfl, hz, r⟩) (Reps.ints xs)⟩
theorem holds_strs {a : Addr} {od : Option Addr} {n : Nat} {so : Array (Option Value)} {us : Array Value} {xs : List Str} (e : mg x = some (.ref a)) (o : K.lookup a = some ⟨.type "tuple", od, .seq us n, so⟩) (hz : us.size ≤ sizeLine) (r : Vals (xs.map V.str) us.toList) : Holds K mg x (.tup (xs.map .str)) :=
  ⟨.ref a, _, e, rfl, fun _ _ _ => .tup (.inr ⟨_, us, n, o, rfl, rfl, hz, r⟩) (reps_strs xs)⟩
end
end DL

set_option Elab.async false
set_option linter.all false
set_option maxHeartbeats 4000000
/-! D-layer, part 14: defs that leave the memory as it is; plain comprehensions; data. -/
namespace DL
open PySem PySem.Spec PyProof.Rows L2

section
variable {P : Program} {w : World} {K : PySem.W.Frag} {mg : Str → Option Value} {base : Heap}
theorem has_plain {x : Str} {st : Stmt} {N ps : List Str} {k : Nat} {sp : SpD} {t : DS} (F : ∃ (f : Addr) (fd : FuncData), mg x = some (.ref f) ∧ Fun K x x st f fd) (S : FnScope N ps (defScope st)) (len : ∀ ds M R XR, sp ds M R XR → ds.length = ps.length)
    (hb : ∀ (f : Addr) (cdv : Value) (A : Around) (outer : List Env) (s : Shared) (H : Hp) (E : XK), Room k (A.deeper (envOfC x (defScope st) s.heap.objs.size f cdv)) → A.guards = some [] → PBD (cxOf CX0 P w K mg base N x (defScope st) f cdv A outer s H E).nox (defBody st) t)
    (rd : ∀ ds M R XR, sp ds M R XR → t { nx := fun _ M => R .non M, rt := R } (startD (N.length - ps.length) ds) M) : Has P w K mg base CX0 x st ps (k + 1) sp := by
  obtain ⟨f, fd, hm, F⟩ := F
  refine ⟨f, fd, hm, F, fnG_of F S (fun vs H Q E ⟨z, M, ds, R, XR, A, r, q, _⟩ => r.length.trans (len _ _ _ _ q)) fun cdv A outer s H vs Q E hr hG h => ?_⟩
  obtain ⟨z, M, ds, R, XR, A', r, q, FF, _⟩ := h
  refine ⟨_, (hb f cdv A outer s H E hr hG).nox, z, startD (N.length - ps.length) ds, M, _, ?_, A', rd _ _ _ _ q, ⟨?_, FF, fun _ _ _ _ z => z.elim, fun _ _ _ _ z => z.elim, fun _ _ _ _ _ _ _ _ _ z => z.elim⟩⟩
  · have e : vs.length = ps.length := r.length.trans (len _ _ _ _ q)
    unfold L2.start startD
    rw [e]
    exact SAbs.start r _
  · intro ρ M1 σ1 H1 q1 S1 A1 f1
    exact FF .non M1 .non H1 q1 .non A1 f1
/-- the same, where the end may be seen otherwise -/
theorem has_view {x : Str} {st : Stmt} {N ps : List Str} {k : Nat} {sp : SpD} {t : DS} (F : ∃ (f : Addr) (fd : FuncData), mg x = some (.ref f) ∧ Fun K x x st f fd) (S : FnScope N ps (defScope st)) (len : ∀ ds M R XR, sp ds M R XR → ds.length = ps.length)
    (hb : ∀ (f : Addr) (cdv : Value) (A : Around) (outer : List Env) (s : Shared) (H : Hp) (E : XK), Room k (A.deeper (envOfC x (defScope st) s.heap.objs.size f cdv)) → A.guards = some [] → PBD (cxOf CX0 P w K mg base N x (defScope st) f cdv A outer s H E).nox (defBody st) t)
    (rd : ∀ ds M R XR, sp ds M R XR → t (endsOf K R) (startD (N.length - ps.length) ds) M) : Has P w K mg base CX0 x st ps (k + 1) sp := by
  obtain ⟨f, fd, hm, F⟩ := F
  exact has_of hm F S len (fun cdv A outer s H E hr hG => hb f cdv A outer s H E hr hG) rd
end
/-! ### data -/
mutual
def dat : D → Bool
  | .non => true
  | .bl _ => true
  | .int _ => true
  | .str s => decide (s.length ≤ 1000)
  | .ty _ => false
  | .ref _ => false
  | .box _ _ _ _ _ => false
  | .tup ds => decide (ds.length ≤ 1000) && dats ds
  | .lst ds => decide (ds.length ≤ 1000) && dats ds
  | .dct ks ds => decide (ks.length = ds.length) && dats ds
def dats : List D → Bool
  | [] => true
  | d :: ds => dat d && dats ds
end
theorem dats_all : ∀ {ds : List D}, dats ds = true ↔ ∀ d ∈ ds, dat d = true
  | [] => by simp [dats]
  | d :: ds => by simp [dats, dats_all (ds := ds)]
def tyN : D → String
  | .non => "NoneType"
  | .bl _ => "bool"
  | .int _ => "int"
  | .str _ => "str"
  | .tup _ => "tuple"
  | .lst _ => "list"
  | .dct _ _ => "dict"
  | _ => ""
theorem tyD_dat {M : Mem} {d : D} (h : dat d = true) : tyD M d = some (tyN d) := by
  cases d <;> first | rfl | (cases h; done)
theorem EqD.int {M : Mem} {i j : Int} : EqD M (.int i) (.int j) (decide (i = j)) := ⟨.int i, .int j, rfl, rfl, rfl, rfl, rfl⟩
theorem EqD.str {M : Mem} {x : D} {s : Str} {t : String} (h : tyD M x = some t) : EqD M x (.str s) (isStr x s) := by
  unfold EqD
  exact ⟨by rw [h]; exact nofun, rfl⟩
theorem EqD.tup0 {M : Mem} {ds : List D} : EqD M (.tup ds) (.tup []) ds.isEmpty := rfl
theorem EqD.lst0 {M : Mem} {ds : List D} : EqD M (.lst ds) (.lst []) ds.isEmpty := rfl
theorem toPys_ints : ∀ ns : List Int, toPys (ns.map .int) = some (ns.map .int)
  | [] => rfl
  | n :: ns => by
    rw [List.map_cons]
    show (match toPy (.int n), toPys (ns.map .int) with
      | some p, some ps => some (p :: ps)
      | _, _ => none) = _
    rw [toPys_ints ns]
    rfl
/-! ### isinstance -/
def isiTy : String → Bool := fun c => decide (c ∈ ["int", "str", "bool", "tuple", "list", "dict"])
theorem go_isi {M : Mem} {R : RK} {d : D} {t c : String} (h : tyD M d = some t) (hc : isiTy c = true) (q : R (.bl (isTy t c)) M) : dIsi [d, .ty c] M R := ⟨d, t, c, rfl, h, q, of_decide_eq_true hc⟩
/-! ### comprehensions and loops that leave the memory as it is -/
section
variable {ρ : DEnv} {M : Mem} {R : RK} {vs : List Nat} {ti : DI} {g : DG} {tt : DT} {te : DE} {items : List D} {G : Mem → Prop}
theorem go_lcW (end_ : List D → Mem → RK → Prop) (p : D → Bool) (f : D → D) (hti : ∀ Q : List D → (Mem → Prop) → Mem → Prop, Q items G M → ti ρ M Q) (hl : items.length ≤ sizeLine) (hG : G M)
    (hs : ∀ d ∈ items, ∀ (Rt : RK) (Rf : Mem → Prop), (p d = true → Rt (f d) M) → (p d = false → Rf M) → g d (dwipe ρ vs) fun ρ3 => tt ρ3 M fun k M3 => if k = true then te ρ3 M3 Rt else Rf M3) (q : end_ ((items.filter p).map f) M R) : dLcW vs ti g tt te end_ ρ M R := by
  refine hti _ ⟨hl, fun i acc M2 => M2 = M ∧ acc = (((items.take i).filter p).map f), ⟨rfl, rfl⟩, fun i d acc M2 hd _ ⟨e1, e2⟩ => ?_, fun acc M2 _ ⟨e1, e2⟩ => ?_⟩
  · subst e1 e2
    have next : items.take (i + 1) = items.take i ++ [d] := by rw [List.take_add_one, hd]; rfl
    refine ⟨hG, hs d (List.mem_of_getElem? hd) _ _ (fun e => ⟨rfl, ?_⟩) fun e => ⟨rfl, ?_⟩⟩
    · rw [next, List.filter_append, List.map_append]
      simp [e]
    · rw [next, List.filter_append, List.map_append]
      simp [e]
  · subst e1 e2
    rw [List.take_length]
    exact ⟨hG, q⟩
theorem go_lc (p : D → Bool) (f : D → D) (hti : ∀ Q : List D → (Mem → Prop) → Mem → Prop, Q items G M → ti ρ M Q) (hl : items.length ≤ sizeLine) (hG : G M)
    (hs : ∀ d ∈ items, ∀ (Rt : RK) (Rf : Mem → Prop), (p d = true → Rt (f d) M) → (p d = false → Rf M) → g d (dwipe ρ vs) fun ρ3 => tt ρ3 M fun k M3 => if k = true then te ρ3 M3 Rt else Rf M3) (q : R (.lst ((items.filter p).map f)) M) : dLc vs ti g tt te ρ M R :=
  go_lcW _ p f hti hl hG hs q
/-- no condition -/
theorem go_map (f : D → D) (hti : ∀ Q : List D → (Mem → Prop) → Mem → Prop, Q items G M → ti ρ M Q) (hl : items.length ≤ sizeLine) (hG : G M)
    (hs : ∀ d ∈ items, ∀ Rt : RK, Rt (f d) M → g d (dwipe ρ vs) fun ρ3 => te ρ3 M Rt) (q : R (.lst (items.map f)) M) : dLc vs ti g dYes te ρ M R :=
  go_lc (fun _ => true) f hti hl hG (fun d hd Rt Rf h1 _ => hs d hd Rt (h1 rfl)) (by rw [List.filter_eq_self.mpr fun _ _ => rfl]; exact q)
/-- each item is one of some -/
theorem go_some (C : D → Prop) (hti : ∀ Q : List D → (Mem → Prop) → Mem → Prop, Q items G M → ti ρ M Q) (hl : items.length ≤ sizeLine) (hG : G M)
    (hs : ∀ d ∈ items, ∀ Rt : RK, (∀ y, C y → Rt y M) → g d (dwipe ρ vs) fun ρ3 => te ρ3 M Rt) (q : ∀ acc : List D, acc.length = items.length → (∀ y ∈ acc, C y) → R (.lst acc) M) : dLc vs ti g dYes te ρ M R := by
  refine hti _ ⟨hl, fun i acc M2 => M2 = M ∧ acc.length = i ∧ ∀ y ∈ acc, C y, ⟨rfl, rfl, by simp⟩, fun i d acc M2 hd _ ⟨e1, e2, e3⟩ => ?_, fun acc M2 _ ⟨e1, e2, e3⟩ => ?_⟩
  · subst e1
    exact ⟨hG, hs d (List.mem_of_getElem? hd) _ fun y hy => ⟨rfl, by simp [e2], fun z hz => (List.mem_append.mp hz).elim (e3 z) fun h => by simp at h; exact h ▸ hy⟩⟩
  · subst e1
    exact ⟨hG, q acc e2 e3⟩
theorem go_for {tb : DS} {D0 : EndsD} (W : Nat → DEnv → Mem → Prop) (hti : ∀ Q : List D → (Mem → Prop) → Mem → Prop, Q items G M → ti ρ M Q) (h0 : W 0 ρ M)
    (hs : ∀ i d ρ2 M2, items[i]? = some d → W i ρ2 M2 → G M2 ∧ g d ρ2 fun ρ3 => tb { D0 with nx := W (i + 1), ct := W (i + 1), bk := D0.nx } ρ3 M2) (hd : ∀ ρ2 M2, W items.length ρ2 M2 → G M2 ∧ D0.nx ρ2 M2) : dFor ti g tb D0 ρ M :=
  hti _ ⟨W, h0, hs, hd⟩
theorem it_val {te : DE} {d : D} {Q : List D → (Mem → Prop) → Mem → Prop} (h : ∀ R : RK, R d M → te ρ M R) (hi : Iter M d items G) (q : Q items G M) : dVal te ρ M Q := h _ ⟨items, G, hi, q⟩
end
/-! ### readings as equivalences -/
section
variable {M : Mem} {R : RK} {d : D} {i j : Int} {ds es : List D} {s t : Str} {c : String} {a : Addr} {b : Bool}
theorem q_isi_iff : dIsi [d, .ty c] M R ↔ ∃ t, tyD M d = some t ∧ isiTy c = true ∧ R (.bl (isTy t c)) M := by
  constructor
  · rintro ⟨x, t, c', e, h1, h2, h3⟩
    simp at e
    obtain ⟨rfl, rfl⟩ := e
    exact ⟨t, h1, decide_eq_true h3, h2⟩
  · rintro ⟨t, h1, h2, h3⟩
    exact ⟨d, t, c, rfl, h1, h3, of_decide_eq_true h2⟩
theorem q_ty_non : tyD M .non = some "NoneType" := rfl
theorem q_ty_bl : tyD M (.bl b) = some "bool" := rfl
theorem q_ty_int : tyD M (.int i) = some "int" := rfl
theorem q_ty_str : tyD M (.str s) = some "str" := rfl
theorem q_ty_tup : tyD M (.tup ds) = some "tuple" := rfl
theorem q_ty_lst : tyD M (.lst ds) = some "list" := rfl
theorem q_ty_dct {ks : List Key} : tyD M (.dct ks ds) = some "dict" := rfl
theorem q_len_tup : dLen [.tup ds] M R ↔ R (.int ds.length) M := ⟨fun ⟨x, e, h⟩ => by simp at e; subst e; exact h, fun h => ⟨_, rfl, h⟩⟩
theorem q_len_lst : dLen [.lst ds] M R ↔ R (.int ds.length) M := ⟨fun ⟨x, e, h⟩ => by simp at e; subst e; exact h, fun h => ⟨_, rfl, h⟩⟩
theorem q_len_str : dLen [.str s] M R ↔ s.length ≤ sizeLine ∧ R (.int s.length) M := ⟨fun ⟨x, e, h⟩ => by simp at e; subst e; exact h, fun h => ⟨_, rfl, h⟩⟩
theorem q_len_ref : dLen [.ref a] M R ↔ ∃ ds, M a = some (.lst ds) ∧ R (.int ds.length) M := ⟨fun ⟨x, e, h⟩ => by simp at e; subst e; exact h, fun h => ⟨_, rfl, h⟩⟩
theorem q_bl_iff {P : Bool → Prop} : (∃ k, D.bl b = .bl k ∧ P k) ↔ P b := ⟨fun ⟨k, e, h⟩ => by cases e; exact h, fun h => ⟨b, rfl, h⟩⟩
theorem q_eqd_int {k : Bool} : EqD M (.int i) (.int j) k ↔ k = decide (i = j) := by
  constructor
  · rintro ⟨p, q, e1, e2, _, _, e⟩
    cases e1
    cases e2
    exact e
  · rintro rfl
    exact EqD.int
theorem q_eqd_str {k : Bool} : EqD M d (.str s) k ↔ tyD M d ≠ none ∧ k = isStr d s := by cases d <;> rfl
theorem q_eqd_tup {k : Bool} : EqD M (.tup ds) (.tup []) k ↔ k = ds.isEmpty := Iff.rfl
theorem q_eqd_lst {k : Bool} : EqD M (.lst ds) (.lst []) k ↔ k = ds.isEmpty := Iff.rfl
theorem q_eq_int : dEq (.int i) (.int j) M R ↔ R (.bl (decide (i = j))) M := ⟨fun ⟨k, h, q⟩ => by rw [q_eqd_int] at h; rw [← h]; exact q, fun q => ⟨_, EqD.int, q⟩⟩
theorem q_ne_int : dNe (.int i) (.int j) M R ↔ R (.bl (!decide (i = j))) M := ⟨fun ⟨k, h, q⟩ => by rw [q_eqd_int] at h; rw [← h]; exact q, fun q => ⟨_, EqD.int, q⟩⟩
theorem q_eq_str : dEq d (.str s) M R ↔ tyD M d ≠ none ∧ R (.bl (isStr d s)) M := ⟨fun ⟨k, h, q⟩ => by rw [q_eqd_str] at h; rw [← h.2]; exact ⟨h.1, q⟩, fun q => ⟨_, q_eqd_str.mpr ⟨q.1, rfl⟩, q.2⟩⟩
theorem q_ne_str : dNe d (.str s) M R ↔ tyD M d ≠ none ∧ R (.bl (!isStr d s)) M := ⟨fun ⟨k, h, q⟩ => by rw [q_eqd_str] at h; rw [← h.2]; exact ⟨h.1, q⟩, fun q => ⟨_, q_eqd_str.mpr ⟨q.1, rfl⟩, q.2⟩⟩
theorem q_eq_tup0 : dEq (.tup ds) (.tup []) M R ↔ R (.bl ds.isEmpty) M := ⟨fun ⟨k, h, q⟩ => by rw [q_eqd_tup] at h; rw [← h]; exact q, fun q => ⟨_, rfl, q⟩⟩
theorem q_ne_tup0 : dNe (.tup ds) (.tup []) M R ↔ R (.bl !ds.isEmpty) M := ⟨fun ⟨k, h, q⟩ => by rw [q_eqd_tup] at h; rw [← h]; exact q, fun q => ⟨_, rfl, q⟩⟩
theorem q_eq_lst0 : dEq (.lst ds) (.lst []) M R ↔ R (.bl ds.isEmpty) M := ⟨fun ⟨k, h, q⟩ => by rw [q_eqd_lst] at h; rw [← h]; exact q, fun q => ⟨_, rfl, q⟩⟩
theorem q_ne_lst0 : dNe (.lst ds) (.lst []) M R ↔ R (.bl !ds.isEmpty) M := ⟨fun ⟨k, h, q⟩ => by rw [q_eqd_lst] at h; rw [← h]; exact q, fun q => ⟨_, rfl, q⟩⟩
theorem q_ix_tup : dIx (.tup ds) (.int i) M R ↔ ∃ d, L2.atI ds i = some d ∧ R d M := ⟨fun ⟨x, e, h⟩ => by cases e; exact h, fun h => ⟨_, rfl, h⟩⟩
theorem q_ix_lst : dIx (.lst ds) (.int i) M R ↔ ∃ d, L2.atI ds i = some d ∧ R d M := ⟨fun ⟨x, e, h⟩ => by cases e; exact h, fun h => ⟨_, rfl, h⟩⟩
theorem q_at0 {x : D} : L2.atI (x :: ds) 0 = some x := L2.atI_nat (j := 0) rfl
theorem q_at1 {x y : D} : L2.atI (x :: y :: ds) 1 = some y := L2.atI_nat (j := 1) rfl
theorem q_at2 {x y z : D} : L2.atI (x :: y :: z :: ds) 2 = some z := L2.atI_nat (j := 2) rfl
theorem q_at3 {x y z u : D} : L2.atI (x :: y :: z :: u :: ds) 3 = some u := L2.atI_nat (j := 3) rfl
theorem q_op_lt : dLt (.int i) (.int j) M R ↔ R (.bl (decide (i < j))) M := ⟨fun ⟨_, _, e1, e2, h⟩ => by cases e1; cases e2; exact h, fun h => ⟨_, _, rfl, rfl, h⟩⟩
theorem q_op_le : dLe (.int i) (.int j) M R ↔ R (.bl (decide (i ≤ j))) M := ⟨fun ⟨_, _, e1, e2, h⟩ => by cases e1; cases e2; exact h, fun h => ⟨_, _, rfl, rfl, h⟩⟩
theorem q_op_gt : dGt (.int i) (.int j) M R ↔ R (.bl (decide (j < i))) M := ⟨fun ⟨_, _, e1, e2, h⟩ => by cases e1; cases e2; exact h, fun h => ⟨_, _, rfl, rfl, h⟩⟩
theorem q_op_ge : dGe (.int i) (.int j) M R ↔ R (.bl (decide (j ≤ i))) M := ⟨fun ⟨_, _, e1, e2, h⟩ => by cases e1; cases e2; exact h, fun h => ⟨_, _, rfl, rfl, h⟩⟩
theorem q_op_sb : dSub (.int i) (.int j) M R ↔ R (.int (i - j)) M := ⟨fun ⟨_, _, e1, e2, h⟩ => by cases e1; cases e2; exact h, fun h => ⟨_, _, rfl, rfl, h⟩⟩
theorem q_op_ml : dMul (.int i) (.int j) M R ↔ L2.CMul i j ∧ R (.int (i * j)) M := ⟨fun ⟨_, _, e1, e2, h⟩ => by cases e1; cases e2; exact h, fun h => ⟨_, _, rfl, rfl, h⟩⟩
theorem q_op_md : dMod (.int i) (.int j) M R ↔ 0 < j ∧ R (.int (i % j)) M := ⟨fun ⟨_, _, e1, e2, h⟩ => by cases e1; cases e2; exact h, fun h => ⟨_, _, rfl, rfl, h⟩⟩
theorem q_op_dv : dDiv (.int i) (.int j) M R ↔ L2.CDiv i j ∧ R (.int (i / j)) M := ⟨fun ⟨_, _, e1, e2, h⟩ => by cases e1; cases e2; exact h, fun h => ⟨_, _, rfl, rfl, h⟩⟩
theorem q_op_pw : dPow (.int i) (.int j) M R ↔ L2.CPow i j ∧ R (.int (i ^ j.toNat)) M := ⟨fun ⟨_, _, e1, e2, h⟩ => by cases e1; cases e2; exact h, fun h => ⟨_, _, rfl, rfl, h⟩⟩
theorem q_op_ad : dAdd (.int i) (.int j) M R ↔ R (.int (i + j)) M := Iff.rfl
theorem q_ad_str : dAdd (.str s) (.str t) M R ↔ s.length + t.length ≤ sizeLine ∧ R (.str (s ++ t)) M := Iff.rfl
theorem q_ad_tup : dAdd (.tup ds) (.tup es) M R ↔ ds.length + es.length ≤ sizeLine ∧ R (.tup (ds ++ es)) M := Iff.rfl
theorem q_ad_lst : dAdd (.lst ds) (.lst es) M R ↔ ds.length + es.length ≤ sizeLine ∧ R (.lst (ds ++ es)) M := Iff.rfl
theorem q_un_ng : dNeg (.int i) M R ↔ R (.int (-i)) M := ⟨fun ⟨_, e, h⟩ => by cases e; exact h, fun h => ⟨_, rfl, h⟩⟩
theorem q_slot0 {x : Option D} {r : DEnv} : slot (x :: r) 0 = x := rfl
theorem q_slotS {x : Option D} {r : DEnv} {n : Nat} : slot (x :: r) (n + 1) = slot r n := rfl
theorem q_put0 {x : Option D} {r : DEnv} : put (x :: r) 0 d = some d :: r := rfl
theorem q_putS {x : Option D} {r : DEnv} {n : Nat} : put (x :: r) (n + 1) d = x :: put r n d := rfl
end
section
variable {ρ : DEnv} {M : Mem} {R : RK} {vs : List Nat} {ti : DI} {g : DG} {tt : DT} {te : DE} {items : List D} {G : Mem → Prop}
/-- all([.. for x in ..]) -/
theorem go_all (p : D → Bool) (hti : ∀ Q : List D → (Mem → Prop) → Mem → Prop, Q items G M → ti ρ M Q) (hl : items.length ≤ sizeLine) (hG : G M)
    (hs : ∀ d ∈ items, ∀ Rt : RK, Rt (.bl (p d)) M → g d (dwipe ρ vs) fun ρ3 => te ρ3 M Rt) (q : R (.bl (items.all p)) M) : dLc vs ti g dYes te ρ M fun x M1 => dAll [x] M1 R := by
  refine go_map (fun d => .bl (p d)) hti hl hG hs ⟨_, items.map p, rfl, .inl (by rw [List.map_map]; rfl), ?_⟩
  rw [List.all_map]
  exact q
theorem go_any (p : D → Bool) (hti : ∀ Q : List D → (Mem → Prop) → Mem → Prop, Q items G M → ti ρ M Q) (hl : items.length ≤ sizeLine) (hG : G M)
    (hs : ∀ d ∈ items, ∀ Rt : RK, Rt (.bl (p d)) M → g d (dwipe ρ vs) fun ρ3 => te ρ3 M Rt) (q : R (.bl (items.any p)) M) : dLc vs ti g dYes te ρ M fun x M1 => dAny [x] M1 R := by
  refine go_map (fun d => .bl (p d)) hti hl hG hs ⟨_, items.map p, rfl, .inl (by rw [List.map_map]; rfl), ?_⟩
  rw [List.any_map]
  exact q
end
theorem le_size {n : Nat} (h : n ≤ 1000) : n ≤ sizeLine := Nat.le_trans h (by decide)
def chr : D → Nat
  | .str s => s.cps.toList.headD 0
  | _ => 0
theorem chars_len (s : Str) : (charsD s).length = s.length := by unfold charsD; rw [List.length_map, Array.length_toList]; rfl
theorem dat_str {s : Str} (h : dat (.str s) = true) : s.length ≤ 1000 := of_decide_eq_true h
theorem dat_tup {ds : List D} (h : dat (.tup ds) = true) : ds.length ≤ 1000 ∧ ∀ d ∈ ds, dat d = true := by
  have h' : (decide (ds.length ≤ 1000) && dats ds) = true := h
  rw [Bool.and_eq_true] at h'
  exact ⟨of_decide_eq_true h'.1, dats_all.mp h'.2⟩
theorem dat_lst {ds : List D} (h : dat (.lst ds) = true) : ds.length ≤ 1000 ∧ ∀ d ∈ ds, dat d = true := by
  have h' : (decide (ds.length ≤ 1000) && dats ds) = true := h
  rw [Bool.and_eq_true] at h'
  exact ⟨of_decide_eq_true h'.1, dats_all.mp h'.2⟩
theorem q_z0 : 0 ≤ sizeLine := by decide
theorem q_z1 : 1 ≤ sizeLine := by decide
theorem q_z2 : 2 ≤ sizeLine := by decide
theorem q_z3 : 3 ≤ sizeLine := by decide
theorem q_z4 : 4 ≤ sizeLine := by decide
theorem q_z5 : 5 ≤ sizeLine := by decide
theorem q_z6 : 6 ≤ sizeLine := by decide
theorem q_z7 : 7 ≤ sizeLine := by decide
theorem q_z8 : 8 ≤ sizeLine := by decide
theorem q_z9 : 9 ≤ sizeLine := by decide
theorem q_z10 : 10 ≤ sizeLine := by decide
theorem q_z11 : 11 ≤ sizeLine := by decide
theorem q_z12 : 12 ≤ sizeLine := by decide
theorem q_z13 : 13 ≤ sizeLine := by decide
theorem q_z14 : 14 ≤ sizeLine := by decide
theorem q_z15 : 15 ≤ sizeLine := by decide
theorem q_z16 : 16 ≤ sizeLine := by decide
end DL

set_option Elab.async false
set_option linter.all false
set_option maxHeartbeats 4000000
/-! D-layer, part 15: bool, extend, pop at a place, a tuple again and again, is None, enumerate. -/
namespace DL
open PySem PySem.Spec PyProof.Rows L2

section
variable {X : Cx}
def dBool : DN := fun xs M R => (∃ i, xs = [.int i] ∧ R (.bl (i != 0)) M) ∨ ∃ k, xs = [.bl k] ∧ R (.bl k) M
theorem cd_bool : CallR X (.type "bool") (liftN X.K dBool) := call_bool1.weak fun xs H Q ⟨z, M, ds, R, A, r, h, F⟩ => by
  rcases h with ⟨i, e, q⟩ | ⟨k, e, q⟩
  · subst e
    obtain rfl := Reps.of_ints [i] r
    exact .inl ⟨i, rfl, F.at_ A q (.bl _)⟩
  · subst e
    obtain rfl := bools_of [k] r
    exact .inr ⟨k, rfl, F.at_ A q (.bl _)⟩
/-- found.extend(more): two lists that may change -/
def dExtendM : DM := fun d xs M R => ∃ a b ds es, d = .ref a ∧ xs = [.ref b] ∧ M a = some (.lst ds) ∧ M b = some (.lst es) ∧ ds.length + es.length ≤ sizeLine ∧ R .non (mset M a (.lst (ds ++ es)))
theorem md_extend : MtR X "list.extend" (liftM X.K dExtendM) := mt_extend.toR.weak fun x xs H Q ⟨z, M, d, ds, R, A, r1, r2, ⟨a, b, es, fs, e1, e2, hm, hb, hl, q⟩, F⟩ => by
  subst e1 e2
  obtain rfl := rep_ref r1
  obtain ⟨vs, ea, rs⟩ := A.at_ _ _ hm
  obtain ⟨us, eb, rb⟩ := A.at_ _ _ hb
  cases r2 with
  | cons r2 r3 =>
    cases r3
    obtain rfl := rep_ref r2
    exact ⟨a, b, vs, us, rfl, rfl, ea, eb, by rw [rs.length, rb.length]; exact hl, F.wrL A hm (rs.append rb) .non q⟩
theorem Reps.erase {K : KZ} {M : Mem} {H : Hp} : ∀ {vs : List V} {ds : List D} (i : Nat), Reps K M H vs ds → Reps K M H (vs.eraseIdx i) (ds.eraseIdx i)
  | _, _, _, .nil => .nil
  | _, _, 0, .cons _ t => t
  | _, _, i + 1, .cons r t => .cons r (t.erase i)
def dPopAt : DM := fun d xs M R => ∃ a ds i k y, d = .ref a ∧ xs = [.int i] ∧ M a = some (.lst ds) ∧ -(2 ^ 63) ≤ i ∧ i < 2 ^ 63 ∧ seqIndex? i ds.length = some k ∧ ds[k]? = some y ∧ R y (mset M a (.lst (ds.eraseIdx k)))
theorem md_popAt : MtR X "list.pop" (liftM X.K dPopAt) := mt_popAt.toR.weak fun x xs H Q ⟨z, M, d, ds, R, A, r1, r2, ⟨a, es, i, k, y, e1, e2, hm, h1, h2, hk, hy, q⟩, F⟩ => by
  subst e1 e2
  obtain rfl := rep_ref r1
  obtain ⟨vs, ea, rs⟩ := A.at_ _ _ hm
  obtain rfl := Reps.of_ints [i] r2
  obtain ⟨v, hv, rv⟩ := rs.get hy
  exact ⟨a, vs, i, k, v, rfl, rfl, ea, h1, h2, by rw [rs.length]; exact hk, hv, F.wrL A hm (rs.erase k) rv q⟩
/-- (x, ..) * k -/
def dRepT : D2 := fun x y M R => ∃ ds k, x = .tup ds ∧ y = .int k ∧ ds ≠ [] ∧ 2 ≤ k ∧ k ≤ 1000 ∧ ds.length ≤ 1000 ∧ R (.tup (List.replicate k.toNat ds).flatten) M
theorem Reps.rep {K : KZ} {M : Mem} {H : Hp} {vs : List V} {ds : List D} (r : Reps K M H vs ds) : ∀ n : Nat, Reps K M H (List.replicate n vs).flatten (List.replicate n ds).flatten
  | 0 => .nil
  | n + 1 => by
    rw [List.replicate_succ, List.replicate_succ, List.flatten_cons, List.flatten_cons]
    exact r.append (r.rep n)
theorem od_repT : OpR X (binaryOp .Mult) (lift2 X.K dRepT) := op_repT.weak fun v u H Q ⟨z, M, x, y, R, A, rx, ry, ⟨ds, k, e1, e2, hne, h1, h2, hl, q⟩, F⟩ => by
  subst e1 e2
  obtain ⟨a, vs, rfl, hr, rs⟩ := rep_tup rx
  refine ⟨a, k, vs, rfl, rep_int ry, hr.sq, fun e => ?_, h1, h2, by rw [rs.length]; exact hl, fun p hp => F.tup A hp (rs.rep _) q⟩
  subst e
  cases rs
  exact hne rfl
def isNon : D → Bool
  | .non => true
  | _ => false
theorem Rep.isNon {K : KZ} {M : Mem} {H : Hp} {v : V} {d : D} (r : Rep K M H v d) : decide (v = .non) = DL.isNon d := by
  cases r <;> rfl
def dIsN : D2 := fun x y M R => y = .non ∧ R (.bl (isNon x)) M
def dNotN : D2 := fun x y M R => y = .non ∧ R (.bl (!isNon x)) M
theorem od_is : OpR X (compareOp .Is) (lift2 X.K dIsN) := op_isN.weak fun v u H Q ⟨z, M, x, y, R, A, rx, ry, ⟨e, q⟩, F⟩ => by
  subst e
  exact ⟨rep_non ry, by rw [rx.isNon]; exact F.at_ A q (.bl _)⟩
theorem od_isNot : OpR X (compareOp .IsNot) (lift2 X.K dNotN) := op_notN.weak fun v u H Q ⟨z, M, x, y, R, A, rx, ry, ⟨e, q⟩, F⟩ => by
  subst e
  exact ⟨rep_non ry, by rw [rx.isNon]; exact F.at_ A q (.bl _)⟩
/-! ### enumerate -/
def enumD (ds : List D) : List D := (List.range ds.length).map fun i => .tup [.int (i : Nat), ds.getD i .non]
theorem enum_at {ds : List D} {i : Nat} {d : D} (h : (enumD ds)[i]? = some d) : ∃ x, ds[i]? = some x ∧ d = .tup [.int (i : Nat), x] := by
  unfold enumD at h
  rw [List.getElem?_map] at h
  cases e : (List.range ds.length)[i]? with
  | none => rw [e] at h; cases h
  | some j =>
    rw [e] at h
    obtain ⟨hl, hj⟩ := List.getElem?_eq_some_iff.mp e
    simp at hl hj
    subst hj
    refine ⟨ds[i], List.getElem?_eq_getElem hl, ?_⟩
    have := Option.some.inj h
    rw [← this]
    dsimp only
    rw [List.getD_eq_getElem?_getD, List.getElem?_eq_getElem hl]
    rfl
theorem enum_len {ds : List D} : (enumD ds).length = ds.length := by unfold enumD; simp
section
variable {K : KZ} {M : Mem} {H : Hp} {a : Addr} {vs : List V} {ds : List D}
theorem pair_new {i : Nat} {x : D} {v : V} {p : Addr} (A : MAbs K M H) (r : Rep K M H v x) (hp : H p = none) : Rep K M (upd H p (.tup [.int (i : Nat), v])) (.ref p) (.tup [.int (i : Nat), x]) ∧ MAbs K M (upd H p (.tup [.int (i : Nat), v])) ∧ Frame M H M (upd H p (.tup [.int (i : Nat), v])) :=
  ⟨.tup (.inl ⟨.inl upd_same, A.free hp⟩) (.cons (.int _) (.cons (r.fr (Frame.new hp)) .nil)), A.new hp, Frame.new hp⟩
theorem itd_enum (h : RdL K M H a vs) (r : Reps K M H vs ds) : ItD K (Ite K.k a) (enumD ds) (fun _ => True) M H := fun M2 H2 f A _ i => by
  have q := (h.fr f).sq
  have r2 := r.fr f
  refine ⟨fun hi => ⟨vs, q, by rw [r.length, ← enum_len]; exact hi⟩, fun d hd => ?_⟩
  obtain ⟨x, hx, rfl⟩ := enum_at hd
  obtain ⟨v, hv, rv⟩ := r2.get hx
  refine ⟨⟨vs, v, q, hv⟩, fun y H3 ⟨T, u, ey, hT, eH, hu⟩ => ?_⟩
  subst ey eH
  have := hu vs q
  rw [hv] at this
  cases this
  exact pair_new A rv hT
theorem itd_enumM : ItD K (Ite K.k a) (enumD ds) (fun M => M a = some (.lst ds)) M H := fun M2 H2 f A g i => by
  obtain ⟨us, e, r2⟩ := A.at_ a _ g
  have q : SqL K.k H2 a us := .inl (.inl e)
  refine ⟨fun hi => ⟨us, q, by rw [r2.length, ← enum_len]; exact hi⟩, fun d hd => ?_⟩
  obtain ⟨x, hx, rfl⟩ := enum_at hd
  obtain ⟨v, hv, rv⟩ := r2.get hx
  refine ⟨⟨us, v, q, hv⟩, fun y H3 ⟨T, u, ey, hT, eH, hu⟩ => ?_⟩
  subst ey eH
  have := hu us q
  rw [hv] at this
  cases this
  exact pair_new A rv hT
end
/-- enumerate(x), x a list -/
def dEnumL (ta : DA) : DI := fun ρ M R => ta ρ M fun xs M1 => ∃ x ds G, xs = [x] ∧ ((x = .lst ds ∧ G = fun _ => True) ∨ ∃ a, x = .ref a ∧ M1 a = some (.lst ds) ∧ G = fun M => M a = some (.lst ds)) ∧ R (enumD ds) G M1
theorem di_enumL {e : Expr} {ta : DA} {elts : List Expr} {kk : Nat} {p pos tpos : Pos} (hm : X.mg "enumerate" = none) (ha : PAD X [e] ta) (hg : Gl X "enumerate" := by rfl) (hs : starEach [e] X.env = [(false, eval e X.env)] := by rfl) :
    PID X (.Tuple elts kk tpos) (.Call (.Name "enumerate" p) [e] [] pos) (dEnumL ta) :=
  (pi_enum hg hm ha hs).weak fun σ H R ⟨z, ρ, M, R0, S, A, q, F⟩ => ⟨z, ρ, M, _, S, A, q, fun xs M1 vs H1 ⟨x, ds, G, ex, hx, q1⟩ r1 A1 f1 => by
    have zz : ∀ z' : Addr → Prop, (∀ a, z' a → z a ∨ H1 a = none) → ∀ a, H1 a ≠ none → z' a → z a := fun z' hz a h y => (hz a y).elim id fun e => absurd e h
    subst ex
    cases r1 with
    | cons r1 r2 =>
      cases r2
      rcases hx with ⟨rfl, rfl⟩ | ⟨a, rfl, hm, rfl⟩
      · obtain ⟨a, vs, rfl, h, r⟩ := rep_lst r1
        exact ⟨a, vs, rfl, h.sq, F _ _ _ _ _ q1 A1 f1 fun z' hz => itd_enum (K := ⟨X.K, z'⟩) (h.zz (zz z' hz)) (r.zz (zz z' hz))⟩
      · obtain rfl := rep_ref r1
        obtain ⟨vs, ea, r⟩ := A1.at_ a _ hm
        exact ⟨a, vs, rfl, .inl (.inl ea), F _ _ _ _ _ q1 A1 f1 fun z' hz => itd_enumM (K := ⟨X.K, z'⟩)⟩⟩
end
end DL

set_option Elab.async false
set_option linter.all false
set_option maxHeartbeats 4000000
set_option maxRecDepth 100000
/-! D-layer, part 16: enumerate of a tuple. -/
namespace DL
open PySem PySem.Spec PyProof.Rows L2

/-- the iterator and the enumerate object that a call makes over the tuple at t -/
abbrev enHeap (h : Heap) (t : Addr) : Heap := (h.push { cls := .type "tuple_iterator", data := .fields #[.ref t, .int 0 0] }).push { cls := .type "enumerate", data := .fields #[.none, .bool false, .ref h.objs.size, rawInt 0, .none, .none] }
theorem new_enumT (t : Addr) (its : Array Value) (n : Nat) (dct : Option Addr) (so : Array (Option Value)) : Meets (Builtin.«enumerate.__new__» ⟨[.type "enumerate", .ref t], []⟩) (fun _ R s => s.heap.get? t = some { cls := .type "tuple", dict := dct, data := .seq its n, slots := so } ∧ R (.ok (.ret (.ref (s.heap.push { cls := .type "tuple_iterator", data := .fields #[.ref t, .int 0 0] }).objs.size))) { s with heap := enHeap s.heap t }) :=
  .of_wp fun prog w A R s h => by
    obtain ⟨hp, g, d, tk, os⟩ := s
    obtain ⟨ht, hq⟩ := h
    have se := sub_enumerate
    have it : Heap.IsTuple (Shared.heap ⟨hp, g, d, tk, os⟩) t its := ⟨_, ht, rfl, n, rfl⟩
    wp_walk using AutoSeq1.wpAny_loadPart' ht
    refine wpAny_stack_any fun st => wpAny_pure ?_
    split
    · rename_i c _ _ _ _ _
      cases (c == Value.type "enumerate") <;> (wp_walk using AutoSeq1.wpAny_loadPart' ht, wpAny_pyIter_tuple it) <;> exact ⟨_, rfl, hq⟩
    · wp_walk using AutoSeq1.wpAny_loadPart' ht, wpAny_pyIter_tuple it
      exact ⟨_, rfl, hq⟩
section
variable {prog : Program} {w : World} {A : Around} {E : Value → Shared → Prop} {s : Shared}
theorem call_enumT {t : Addr} {its : Array Value} {Q : Value → Shared → Prop} (ht : s.heap.IsTuple t its)
    (q : ∀ h2, IsEnum h2 (s.heap.objs.size + 1) s.heap.objs.size 0 .none → h2.IsTupleIter s.heap.objs.size t 0 → (∀ b o, s.heap.get? b = some o → h2.get? b = some o) → Q (.ref (s.heap.objs.size + 1)) { s with heap := h2 }) :
    wpAny (model prog w) A (call (.type "enumerate") [.ref t]) Q E s := by
  obtain ⟨⟨c, dct, dt, so⟩, hl, hc, n, hd⟩ := ht
  simp only at hc hd
  subst hc hd
  refine callType_new F.called_enumerate (by decide) (F.typeCall_enumerate_1 _) (F.newCall_enumerate_1 _) (fun u => F.args_object_init_2 u _) F.entry_enumerate_new (new_enumT t its n dct so) ⟨hl, ?_⟩
  have hz : (s.heap.push { cls := .type "tuple_iterator", data := .fields #[.ref t, .int 0 0] }).objs.size = s.heap.objs.size + 1 := Heap.size_push ..
  show _ ∧ _
  rw [hz]
  have he : IsEnum (enHeap s.heap t) (s.heap.objs.size + 1) s.heap.objs.size 0 .none := by
    have e := Heap.get?_push_size (s.heap.push { cls := .type "tuple_iterator", data := .fields #[.ref t, .int 0 0] }) (o := { cls := .type "enumerate", data := .fields #[.none, .bool false, .ref s.heap.objs.size, rawInt 0, .none, .none] }) rfl
    rw [hz] at e
    exact e
  exact ⟨⟨_, he, rfl⟩, q _ he ⟨_, Heap.get?_push_of_some _ (Heap.get?_push_size _ rfl), rfl, rfl⟩ fun b o x => Heap.get?_push_of_some _ (Heap.get?_push_of_some _ x)⟩
end
/-- the tuple at a, each item in a new pair -/
def ItE (K : PySem.W.Frag) (a : Addr) : It :=
  ⟨fun i H => ∃ (xs : List V) (x : V), SqT K H a xs ∧ xs[i]? = some x, fun i H v H2 => ∃ T x, v = .ref T ∧ H T = none ∧ H2 = upd H T (.tup [.int (i : Nat), x]) ∧ ∀ xs, SqT K H a xs → xs[i]? = some x, fun i H => ∃ xs : List V, SqT K H a xs ∧ xs.length ≤ i⟩
theorem turn_enumT {P : Program} {w : World} {K : PySem.W.Frag} {elts : List Expr} {kk : Nat} {tp : Pos} (a e it : Addr) (hai : a ≠ it) :
    Turn P w K (.Tuple elts kk tp) (ItE K a) [e, it] e (fun i h => (∃ old, IsEnum h e it ((i : Nat) : Int) old) ∧ h.IsTupleIter it a i ∧ e ≠ it) where
  mem := by simp
  obj := fun i h st b hb => by
    obtain ⟨⟨old, he⟩, ⟨o, ho, hc, hd⟩, _⟩ := st
    rcases (show b = e ∨ b = it by simpa using hb) with z | z
    · rw [z]; exact ⟨_, he, fun v q => nomatch q⟩
    · rw [z]; exact ⟨o, ho, fun v q => by rw [hd] at q; cases q⟩
  keep := fun i h h' st k => let ⟨⟨old, he⟩, hi, hne⟩ := st; ⟨⟨old, k e (by simp) _ he⟩, hi.at fun o q => k it (by simp) o q, hne⟩
  item := by
    intro X hP hw hK hc i pins s σ H E I hf st hg
    subst hP hw hK
    obtain ⟨⟨old, he⟩, hit, hne⟩ := st
    obtain ⟨xs, x, hq, hx⟩ := hg
    obtain ⟨its, rv, p, hz⟩ := I.tuple hq
    obtain ⟨u, hu, ru⟩ := rv.get hx
    have hel : e < s.heap.objs.size := Heap.lt_size he
    have hil : it < s.heap.objs.size := by obtain ⟨_, q, _⟩ := hit; exact Heap.lt_size q
    have hei : (i : Nat) < its.toArray.size := by
      have := (List.getElem?_eq_some_iff.mp hu).1
      simpa using this
    by_cases hea : e = a
    · subst hea
      obtain ⟨o, ho, hcl, _⟩ := p
      have z := he.symm.trans ho
      rw [← Option.some.inj z] at hcl
      have hcl' : Value.type "enumerate" = Value.type "tuple" := hcl
      injection hcl' with hcl'
      exact absurd hcl' (by decide)
    refine wpAny_pyNext_enum_itemD (D := Draws.tuple (A := X.A.in1) (I.ok.hd hc) it a hai its.toArray) he ⟨hit, p⟩ hei hne (by simp [hne, hea]) fun y h2 tk hy ho st2 hT hsz hk => ?_
    have : y = u := by
      have e1 : its.toArray[i]? = some u := by simpa using hu
      rw [e1] at hy
      exact (Option.some.inj hy).symm
    subst this
    refine ⟨_, rfl, wpAny_letOwnedTupleGo_enum (s := { s with heap := h2, toks := tk + 1 }) ho fun h3 he3 sb => ?_⟩
    have hT2 : h3.get? s.heap.objs.size = some { cls := .type "tuple", data := .seq #[.int i tk, y] } := (sb.2 _ (Nat.ne_of_gt hel)).trans hT
    have new : ObjOk X.prog X.w (upd H s.heap.objs.size (.tup [.int (i : Nat), x])) h3 s.heap.objs.size (.tup [.int (i : Nat), x]) :=
      ⟨by show 2 ≤ sizeLine; decide, [.int i tk, y], .cons ⟨_, rfl⟩ (.cons ru .nil), ⟨_, hT2, rfl, _, rfl⟩⟩
    have I1 : Inv X pins σ (upd H s.heap.objs.size (.tup [.int (i : Nat), x])) { s with heap := h3, toks := tk + 1 } :=
      I.turnedNew (ch := [e, it]) (fun b ob hb q => (sb.2 b (fun z => hb (by simp [z]))).trans (hk b ob (fun z => hb (by simp [z])) (fun z => hb (by simp [z])) q)) hf (Nat.le_refl _) new
    refine ⟨.ref s.heap.objs.size, _, I1, rfl, ⟨_, x, rfl, I.hok.fresh (Nat.le_refl _), rfl, fun ys hy => by rw [I.tuple_inj hy hq]; exact hx⟩, ⟨⟨y, ?_⟩, st2.1.at fun o q => (sb.2 it (Ne.symm hne)).trans q, hne⟩, fun b hb => ?_⟩
    · have e1 : ((i + 1 : Nat) : Int) = (i : Int) + 1 := by omega
      rw [e1]; exact he3
    · have hb' : b < s.heap.objs.size := by
        rcases (show b = e ∨ b = it by simpa using hb) with z | z
        · rw [z]; exact hel
        · rw [z]; exact hil
      rw [upd_ne (Nat.ne_of_lt hb')]
      exact (hf b hb).1
  done := by
    intro X hP hw hK hc i pins s σ H E I hf st hg
    subst hP hw hK
    obtain ⟨⟨old, he⟩, hit, hne⟩ := st
    obtain ⟨xs, hq, hx⟩ := hg
    obtain ⟨its, rv, p, hz⟩ := I.tuple hq
    obtain ⟨f0, f1, f2, f3, f4, f5⟩ := hf it (by simp)
    have hl := rv.length
    have hnone : its.toArray[i]? = none := by simp; omega
    have D : Draws X.prog X.w X.A.in1 it [it, a] i (fun _ _ => True) (fun j h => j = i ∧ h.IsTupleIter it a i ∧ h.IsTuple a its.toArray) := {
      live := fun _ _ st => let ⟨o, ho, _⟩ := st.2.1; ⟨o, ho⟩
      frame := fun _ _ _ st hk => ⟨st.1, st.2.1.at fun o e => hk it (by simp) o e, st.2.2.at fun o e => hk a (by simp) o e⟩
      item := fun j s Q E hj st _ => absurd st.1 (Nat.ne_of_lt hj)
      done := fun s Q E st hE => wpAny_nextOf_tuple_end (I.ok.hd hc) st.2.1 st.2.2 hnone hE }
    exact wpAny_pyNext_enum_endD D he ⟨rfl, hit, p⟩ fun h2 eb => ⟨rfl, I.turned (t' := s.toks) (fun b o hb q => eb b o hb q) f0 f1 f3 f4 f5⟩
  self := fun A i s Q E st h => let ⟨⟨_, he⟩, _⟩ := st; wpAny_pyIter_enum he h
section
variable {X : Cx} {e : Expr} {elts : List Expr} {kk : Nat} {p pos tpos : Pos}
def iEnT (K : PySem.W.Frag) (ta : TA) : TI := fun σ H R => ta σ H fun vs H1 => ∃ a xs, vs = [.ref a] ∧ SqT K H1 a xs ∧ R (ItE K a) H1
theorem pi_enumT {ta : TA} (hg : Gl X "enumerate") (hm : X.mg "enumerate" = none) (ha : PA X [e] ta) (hs : starEach [e] X.env = [(false, eval e X.env)] := by rfl) : PI X (.Tuple elts kk tpos) (.Call (.Name "enumerate" p) [e] [] pos) (iEnT X.K ta) := by
  refine ⟨fun pins s σ H R I h => ?_⟩
  refine Call_ (ld_blt I hg hm boot_enumerate (PyProof.Rows.callWith_type1 (thn (ha.run pos pins s σ H _ I h) fun us s1 ⟨vs, H1, I1, r1, a, xs, ex, hq, q⟩ => ?_) hs rfl))
  subst ex
  cases r1 with
  | cons r rr =>
    cases rr
    cases r
    obtain ⟨its, rv, pt, hz⟩ := I1.tuple hq
    have hlt : a < s1.heap.objs.size := by obtain ⟨o, ho, _⟩ := pt; exact Heap.lt_size ho
    refine call_enumT pt fun h2 he hit hk => wpAny_pyIter_enum he ?_
    refine ⟨s1.heap.objs.size + 1, [s1.heap.objs.size + 1, s1.heap.objs.size], _, _, H1, rfl, I1.kept (t' := s1.toks) hk, turn_enumT a (s1.heap.objs.size + 1) s1.heap.objs.size (Nat.ne_of_lt hlt), ⟨⟨.none, he⟩, hit, Nat.succ_ne_self _⟩, fun b hb => ?_, q⟩
    have hle : s1.heap.objs.size ≤ b := by
      rcases (show b = s1.heap.objs.size + 1 ∨ b = s1.heap.objs.size by simpa using hb) with z | z
      · rw [z]; exact Nat.le_add_right _ _
      · rw [z]; exact Nat.le_refl _
    exact I1.fpOk hle (I1.hok.fresh hle)
theorem itd_enumT {K : KZ} {M : Mem} {H : Hp} {a : Addr} {vs : List V} {ds : List D} (h : RdT K M H a vs) (r : Reps K M H vs ds) : ItD K (ItE K.k a) (enumD ds) (fun _ => True) M H := fun M2 H2 f A _ i => by
  have q := (h.fr f).sq
  have r2 := r.fr f
  refine ⟨fun hi => ⟨vs, q, by rw [r.length, ← enum_len]; exact hi⟩, fun d hd => ?_⟩
  obtain ⟨x, hx, rfl⟩ := enum_at hd
  obtain ⟨v, hv, rv⟩ := r2.get hx
  refine ⟨⟨vs, v, q, hv⟩, fun y H3 ⟨T, u, ey, hT, eH, hu⟩ => ?_⟩
  subst ey eH
  have z := hu vs q
  rw [hv] at z
  cases z
  exact pair_new A rv hT
/-- enumerate(x), x a tuple -/
def dEnumT (ta : DA) : DI := fun ρ M R => ta ρ M fun xs M1 => ∃ ds, xs = [.tup ds] ∧ R (enumD ds) (fun _ => True) M1
theorem di_enumT {ta : DA} (hm : X.mg "enumerate" = none) (ha : PAD X [e] ta) (hg : Gl X "enumerate" := by rfl) (hs : starEach [e] X.env = [(false, eval e X.env)] := by rfl) : PID X (.Tuple elts kk tpos) (.Call (.Name "enumerate" p) [e] [] pos) (dEnumT ta) :=
  (pi_enumT hg hm ha hs).weak fun σ H R ⟨z, ρ, M, R0, S, A, q, F⟩ => ⟨z, ρ, M, _, S, A, q, fun xs M1 vs H1 ⟨ds, ex, q1⟩ r1 A1 f1 => by
    have zz : ∀ z' : Addr → Prop, (∀ a, z' a → z a ∨ H1 a = none) → ∀ a, H1 a ≠ none → z' a → z a := fun z' hz a h y => (hz a y).elim id fun e => absurd e h
    subst ex
    cases r1 with
    | cons r1 r2 =>
      cases r2
      obtain ⟨a, vs, rfl, h, r⟩ := rep_tup r1
      exact ⟨a, vs, rfl, h.sq, F _ _ _ _ _ q1 A1 f1 fun z' hz => itd_enumT (K := ⟨X.K, z'⟩) (h.elim .inl .inr) (r.zz (zz z' hz))⟩⟩
end
end DL

set_option Elab.async false
set_option linter.all false
set_option maxHeartbeats 4000000
set_option maxRecDepth 100000
/-! D-layer, part 17: a module's own dict with text keys. -/
namespace DL
open PySem PySem.Spec PyProof.Rows L2

def tabAt : List (Str × D) → Str → Option D
  | [], _ => none
  | (k, d) :: r, s => if k == s then some d else tabAt r s
/-- at the module's name x stands a dict with these keys and values -/
structure HoldsD (w : World) (K : PySem.W.Frag) (mg : Str → Option Value) (x : Str) (tab : List (Str × D)) : Prop where
  ex : ∃ (a : Addr) (es : Array DictEntry) (n : Nat), mg x = some (.ref a) ∧ KDict K w a es n ∧ ∀ s, match tabAt tab s with
    | some d => ∃ u v, PySem.W.nsIn K a s = some (some u) ∧ RelV v u ∧ ∀ z M H, Rep ⟨K, z⟩ M H v d
    | none => PySem.W.nsIn K a s = some none
/-- one entry -/
def EntD (w : World) (K : PySem.W.Frag) (e : DictEntry) (p : Str × D) : Prop := ∃ t v, e.key = .str p.1 t ∧ e.hash = PyData.keyHash w.params p.1 ∧ RelV v e.val ∧ ∀ z M H, Rep ⟨K, z⟩ M H v p.2
theorem ent_lit {w : World} {K : PySem.W.Frag} : ∀ {l : List DictEntry} {tab : List (Str × D)}, Paired (EntD w K) l tab → PySem.W.KeysLit w.params l
  | _, _, .nil => trivial
  | _, _, .cons ⟨t, v, a, b, _, _⟩ r => ⟨⟨_, t, a, b⟩, ent_lit r⟩
theorem ent_find {w : World} {K : PySem.W.Frag} {s : Str} : ∀ {l : List DictEntry} {tab : List (Str × D)}, Paired (EntD w K) l tab →
    (l.any (·.refKey)) = false ∧ match tabAt tab s with
    | some d => ∃ e v, l.find? (·.key.isStr s) = some e ∧ RelV v e.val ∧ ∀ z M H, Rep ⟨K, z⟩ M H v d
    | none => l.find? (·.key.isStr s) = none
  | _, _, .nil => ⟨rfl, rfl⟩
  | _, _, @Paired.cons _ _ _ e p l tab ⟨t, v, a, b, r, q⟩ rest => by
    obtain ⟨h1, h2⟩ := ent_find (s := s) rest
    have hk : e.key.isStr s = (p.1 == s) := by rw [a]; rfl
    have hr : e.refKey = false := by
      unfold DictEntry.refKey
      rw [a]
    refine ⟨by rw [List.any_cons, hr, h1]; rfl, ?_⟩
    obtain ⟨k, d⟩ := p
    show match (if k == s then some d else tabAt tab s) with
    | some d => ∃ e', ∃ v, (e :: l).find? (·.key.isStr s) = some e' ∧ RelV v e'.val ∧ ∀ z M H, Rep ⟨K, z⟩ M H v d
    | none => (e :: l).find? (·.key.isStr s) = none
    cases c : (k == s)
    · rw [if_neg Bool.false_ne_true, List.find?_cons, hk, c]
      exact h2
    · rw [if_pos rfl, List.find?_cons, hk, c]
      exact ⟨e, v, rfl, r, q⟩
theorem holds_dict {w : World} {K : PySem.W.Frag} {mg : Str → Option Value} {x : Str} {a : Addr} {es : Array DictEntry} {n : Nat} {tab : List (Str × D)} (e : mg x = some (.ref a)) (o : K.lookup a = some ⟨.type "dict", none, .dict es n, #[]⟩) (low : (a == sysModules) = false) (h : Paired (EntD w K) es.toList tab) : HoldsD w K mg x tab := by
  refine ⟨a, es, n, e, ⟨o, ent_lit h, low⟩, fun s => ?_⟩
  obtain ⟨h1, h2⟩ := ent_find (s := s) h
  have hn : PySem.W.nsIn K a s = (match es.toList.find? (·.key.isStr s) with
      | some e => some (some e.val)
      | none => if es.toList.any (·.refKey) then none else some none) := by
    unfold PySem.W.nsIn
    rw [o]
    rfl
  rw [hn]
  revert h2
  cases tabAt tab s with
  | none =>
    intro h2
    dsimp only at h2 ⊢
    rw [h2]
    dsimp only
    rw [h1]
    rfl
  | some d =>
    intro ⟨e, v, h3, r, q⟩
    dsimp only
    rw [h3]
    exact ⟨_, v, rfl, r, q⟩
section
variable {w : World} {K : PySem.W.Frag} {k : Str} {t : Tok} {h : Int} {a : Addr} {od : Option Addr} {us : Array Value} {n : Nat} {so : Array (Option Value)}
theorem ent_ints {xs : List Int} (o : K.lookup a = some ⟨.type "tuple", od, .seq us n, so⟩) (hz : us.size ≤ sizeLine) (r : Vals (xs.map V.int) us.toList) (e : h = PyData.keyHash w.params k) : EntD w K ⟨h, .str k t, .ref a⟩ (k, .tup (xs.map .int)) :=
  ⟨t, .ref a, rfl, e, rfl, fun _ _ _ => .tup (.inr ⟨_, us, n, o, rfl, rfl, hz, r⟩) (Reps.ints xs)⟩
theorem ent_strs {xs : List Str} (o : K.lookup a = some ⟨.type "tuple", od, .seq us n, so⟩) (hz : us.size ≤ sizeLine) (r : Vals (xs.map V.str) us.toList) (e : h = PyData.keyHash w.params k) : EntD w K ⟨h, .str k t, .ref a⟩ (k, .tup (xs.map .str)) :=
  ⟨t, .ref a, rfl, e, rfl, fun _ _ _ => .tup (.inr ⟨_, us, n, o, rfl, rfl, hz, r⟩) (reps_strs xs)⟩
end
section
variable {X : Cx} {a i : Expr} {ta : DE} {x : Str} {tab : List (Str × D)} {p pos : Pos}
def dKdIn (tab : List (Str × D)) (ta : DE) : DE := fun ρ M R => ta ρ M fun y M1 => ∃ s, y = .str s ∧ R (.bl (tabAt tab s).isSome) M1
def dKdNotIn (tab : List (Str × D)) (ta : DE) : DE := fun ρ M R => ta ρ M fun y M1 => ∃ s, y = .str s ∧ R (.bl (!(tabAt tab s).isSome)) M1
theorem HoldsD.found {w : World} {K : PySem.W.Frag} {d : Addr} {s : Str} (h : match tabAt tab s with
    | some d' => ∃ u v, PySem.W.nsIn K d s = some (some u) ∧ RelV v u ∧ ∀ z M H, Rep ⟨K, z⟩ M H v d'
    | none => PySem.W.nsIn K d s = some none) : ∃ r, PySem.W.nsIn K d s = some r ∧ r.isSome = (tabAt tab s).isSome := by
  cases q : tabAt tab s with
  | none => rw [q] at h; exact ⟨none, h, rfl⟩
  | some d' =>
    rw [q] at h
    obtain ⟨u, v, e, _⟩ := h
    exact ⟨some u, e, rfl⟩
theorem de_kdIn (D : HoldsD X.w X.K X.mg x tab) (ha : PED X a ta) (hg : Gl X x := by rfl) (hdb : (x == ("__debug__" : Str)) = false := by decide) (hm : behindInMarks .In (.Name x p) = false := by rfl) : PED X (.Compare a [.In] [.Name x p] pos) (dKdIn tab ta) := by
  obtain ⟨d, es, n, hmg, kd, hl⟩ := D.ex
  exact (pe_cmpR (op_in_kd kd) ha (pe_glob hg hmg (v := .ref d) rfl hdb) hm).weak fun σ H Q ⟨z, ρ, M, R, S, A, q, F⟩ => ⟨z, ρ, M, _, S, A, q, fun y M1 v H1 ⟨s, e, q1⟩ r1 A1 f1 => by
    subst e
    obtain ⟨r, e1, e2⟩ := HoldsD.found (w := X.w) (hl s)
    exact ⟨s, r, rep_str r1, rfl, e1, by rw [e2]; exact F _ _ _ _ q1 (.bl _) A1 f1⟩⟩
theorem dt_kdIn (D : HoldsD X.w X.K X.mg x tab) (ha : PED X a ta) (hg : Gl X x := by rfl) (hdb : (x == ("__debug__" : Str)) = false := by decide) (hm : behindInMarks .In (.Name x p) = false := by rfl) : PTD X (.Compare a [.In] [.Name x p] pos) (dTest (dKdIn tab ta)) := by
  obtain ⟨d, es, n, hmg, kd, hl⟩ := D.ex
  exact (pt_cmpR (op_in_kd kd) ha (pe_glob hg hmg (v := .ref d) rfl hdb) hm).weak fun σ H Q ⟨z, ρ, M, R, S, A, q, F⟩ => ⟨z, ρ, M, _, S, A, q, fun y M1 v H1 ⟨s, e, q1⟩ r1 A1 f1 => by
    subst e
    obtain ⟨r, e1, e2⟩ := HoldsD.found (w := X.w) (hl s)
    obtain ⟨k, ek, q1⟩ := q1
    cases ek
    exact ⟨s, r, rep_str r1, rfl, e1, _, by rw [e2], F _ _ _ q1 A1 f1⟩⟩
theorem de_kdNotIn (D : HoldsD X.w X.K X.mg x tab) (ha : PED X a ta) (hg : Gl X x := by rfl) (hdb : (x == ("__debug__" : Str)) = false := by decide) (hm : behindInMarks .NotIn (.Name x p) = false := by rfl) : PED X (.Compare a [.NotIn] [.Name x p] pos) (dKdNotIn tab ta) := by
  obtain ⟨d, es, n, hmg, kd, hl⟩ := D.ex
  exact (pe_cmpR (op_notIn_kd kd) ha (pe_glob hg hmg (v := .ref d) rfl hdb) hm).weak fun σ H Q ⟨z, ρ, M, R, S, A, q, F⟩ => ⟨z, ρ, M, _, S, A, q, fun y M1 v H1 ⟨s, e, q1⟩ r1 A1 f1 => by
    subst e
    obtain ⟨r, e1, e2⟩ := HoldsD.found (w := X.w) (hl s)
    exact ⟨s, r, rep_str r1, rfl, e1, by rw [e2]; exact F _ _ _ _ q1 (.bl _) A1 f1⟩⟩
theorem dt_kdNotIn (D : HoldsD X.w X.K X.mg x tab) (ha : PED X a ta) (hg : Gl X x := by rfl) (hdb : (x == ("__debug__" : Str)) = false := by decide) (hm : behindInMarks .NotIn (.Name x p) = false := by rfl) : PTD X (.Compare a [.NotIn] [.Name x p] pos) (dTest (dKdNotIn tab ta)) := by
  obtain ⟨d, es, n, hmg, kd, hl⟩ := D.ex
  exact (pt_cmpR (op_notIn_kd kd) ha (pe_glob hg hmg (v := .ref d) rfl hdb) hm).weak fun σ H Q ⟨z, ρ, M, R, S, A, q, F⟩ => ⟨z, ρ, M, _, S, A, q, fun y M1 v H1 ⟨s, e, q1⟩ r1 A1 f1 => by
    subst e
    obtain ⟨r, e1, e2⟩ := HoldsD.found (w := X.w) (hl s)
    obtain ⟨k, ek, q1⟩ := q1
    cases ek
    exact ⟨s, r, rep_str r1, rfl, e1, _, by rw [e2], F _ _ _ q1 A1 f1⟩⟩
/-- TAB[key] -/
def dKdGet (tab : List (Str × D)) (ta : DE) : DE := fun ρ M R => ta ρ M fun y M1 => ∃ s d, y = .str s ∧ tabAt tab s = some d ∧ R d M1
theorem de_kdGet (D : HoldsD X.w X.K X.mg x tab) (hi : PED X i ta) (hg : Gl X x := by rfl) (hdb : (x == ("__debug__" : Str)) = false := by decide) (hs : NoSl i := by exact fun _ _ => rfl) : PED X (.Subscript (.Name x p) i pos) (dKdGet tab ta) := by
  obtain ⟨d, es, n, hmg, kd, hl⟩ := D.ex
  refine ⟨fun pins s σ H Q I h => ?_⟩
  obtain ⟨z, ρ, M, R, S, A, q, F⟩ := h
  have hn : PE X (.Name x p) _ := pe_glob hg hmg (v := .ref d) rfl hdb
  refine subD_of PySem.F.slot_dict_getitem.lookup hs (thn (hn.run pins s σ H (fun v H1 => v = .ref d ∧ H1 = H) I ⟨rfl, rfl⟩) fun u s1 ⟨y, H1, I1, ry, e1, e2⟩ => ?_)
  subst e1 e2
  obtain rfl : u = Value.ref d := ry
  refine thn (hi.run pins s1 σ _ (fun v H2 => ∃ s u0 v0, v = .str s ∧ PySem.W.nsIn X.K d s = some (some u0) ∧ RelV v0 u0 ∧ Q v0 H2) I1 ⟨z, ρ, M, _, S, A, q, fun y M1 v H1 ⟨k, dd, e, ht, q1⟩ r1 A1 f1 => ?_⟩) fun iv s2 ⟨y, H2, I2, ry, k, u0, v0, ey, en, r0, q2⟩ => ?_
  · subst e
    have hk := hl k
    rw [ht] at hk
    obtain ⟨u0, v0, e0, r0, rep0⟩ := hk
    exact ⟨k, u0, v0, rep_str r1, e0, r0, F _ _ _ _ q1 (rep0 _ _ _) A1 f1⟩
  · exact ⟨kd_type kd I2, op_item_kd kd pins s2 σ H2 (.ref d) y (.ref d) iv Q I2 rfl ry ⟨k, u0, v0, rfl, ey, en, r0, q2⟩⟩
end
end DL

set_option Elab.async false
set_option linter.all false
set_option maxHeartbeats 4000000
set_option maxRecDepth 100000
/-! D-layer, part 18: decks, data, parts of lists. -/
namespace DL
open PySem PySem.Spec PyProof.Rows L2
def dks : List Key := [.inr "left", .inr "mixed", .inr "draws"]
def Deck (M : Mem) (a : Addr) : Prop := ∃ b, M a = some (.deck dks b) ∧ M b = some (.hid a)
theorem dk1 {x y z : D} : dget dks [x, y, z] (.inr "left") = some x := by rfl
theorem dk2 {x y z : D} : dget dks [x, y, z] (.inr "mixed") = some y := by rfl
theorem dk3 {x y z : D} : dget dks [x, y, z] (.inr "draws") = some z := by rfl
theorem dkp : dputK dks (.inr "draws") = dks := by rfl
theorem dkq {x y z d : D} : dputD dks [x, y, z] (.inr "draws") d = [x, y, d] := by rfl
/-- the deck's parts, open -/
def DkM (M : Mem) (a b : Addr) (ns : List Int) (m n : Int) : Mem := mset (mset M b (.lst (ns.map .int))) a (.dct dks [.ref b, .int m, .int n])
section
variable {M : Mem} {a b : Addr} {ns ks : List Int} {m n i : Int} {R : RK} {ρ : DEnv} {Kf : PySem.W.Frag}
theorem DkM_a : DkM M a b ns m n a = some (.dct dks [.ref b, .int m, .int n]) := mset_same
theorem DkM_b (h : b ≠ a) : DkM M a b ns m n b = some (.lst (ns.map .int)) := (mset_ne h).trans mset_same
theorem DkM_seta {n' : Int} : mset (DkM M a b ns m n) a (.dct dks [.ref b, .int m, .int n']) = DkM M a b ns m n' := mset_mset
theorem DkM_setb (h : b ≠ a) : mset (DkM M a b ns m n) b (.lst (ks.map .int)) = DkM M a b ks m n := by
  funext c
  unfold DkM mset
  by_cases e : c = b
  · subst e; simp [h]
  · simp [e]
theorem DkM_end (hl : ns.length ≤ 1000) (hd : M a = some (.deck dks b)) (hb : M b = some (.hid a)) (q : R (.int i) M) : (endsOf Kf R).rt (.int i) (DkM M a b ns m n) := by
  have hne : b ≠ a := fun e => by rw [e, hd] at hb; cases hb
  have v : MView Kf (DkM M a b ns m n) (mset (mset (DkM M a b ns m n) a (.deck dks b)) b (.hid a)) := MView.deck DkM_a (DkM_b hne) hl
  have e : mset (mset (DkM M a b ns m n) a (.deck dks b)) b (.hid a) = M := by
    funext c
    unfold DkM mset
    by_cases e1 : c = b
    · subst e1; simp [hb]
    · by_cases e2 : c = a
      · subst e2; simp [hd, e1]
      · simp [e1, e2]
  rw [e] at v
  refine .inr ⟨.int i, M, View.mem v fun c hc => ?_, q⟩
  unfold DkM mset at hc
  by_cases e2 : c = a
  · subst e2; simp at hc
  · by_cases e1 : c = b
    · subst e1; simp [hne] at hc
    · simpa [e1, e2] using hc
/-- d[k] of the deck -/
theorem q_get {k : Str} {d : D} {r : DEnv} (hk : dget dks [.ref b, .int m, .int n] (.inr k) = some d) : dDGet (dVar 0) (dC (.str k)) (some (.ref a) :: r) (DkM M a b ns m n) R ↔ R d (DkM M a b ns m n) := by
  constructor
  · rintro ⟨_, h, k, hk', q⟩
    cases h
    cases hk'
    obtain ⟨ks, ds, d, hm, hk2, q⟩ := q
    rw [DkM_a] at hm
    cases hm
    rw [hk] at hk2
    cases hk2
    exact q
  · exact fun q => ⟨_, rfl, .inr k, rfl, dks, _, d, DkM_a, hk, q⟩
theorem q_get1 {r : DEnv} : dDGet (dVar 0) (dC (.str "left")) (some (.ref a) :: r) (DkM M a b ns m n) R ↔ R (.ref b) (DkM M a b ns m n) := q_get dk1
theorem q_get2 {r : DEnv} : dDGet (dVar 0) (dC (.str "mixed")) (some (.ref a) :: r) (DkM M a b ns m n) R ↔ R (.int m) (DkM M a b ns m n) := q_get dk2
theorem q_get3 {r : DEnv} : dDGet (dVar 0) (dC (.str "draws")) (some (.ref a) :: r) (DkM M a b ns m n) R ↔ R (.int n) (DkM M a b ns m n) := q_get dk3
theorem q_int1 {M : Mem} : dInt1 [.int i] M R ↔ R (.int i) M := ⟨fun h => h.elim (fun ⟨j, e, q⟩ => by cases e; exact q) fun ⟨j, e, q⟩ => (nomatch e), fun q => .inl ⟨i, rfl, q⟩⟩
theorem q_max2 {M : Mem} {j : Int} : dMax2 [.int i, .int j] M R ↔ R (.int (if j > i then j else i)) M := ⟨fun ⟨_, _, e, q⟩ => by cases e; exact q, fun q => ⟨_, _, rfl, q⟩⟩
theorem q_min2 {M : Mem} {j : Int} : dMin2 [.int i, .int j] M R ↔ R (.int (if j < i then j else i)) M := ⟨fun ⟨_, _, e, q⟩ => by cases e; exact q, fun q => ⟨_, _, rfl, q⟩⟩
theorem toPys_int' : toPys (ns.map .int) = some (ns.map .int) := toPys_ints ns
theorem shaped_ints : SeqAt.shaped (.list (ns.map .int)) = true := by
  simp [SeqAt.shaped, PyData.canLay0, PyData.depth, canLayAll_ints, depthAll_ints]
theorem ne_left (h : b ≠ a) (q : R (.bl !ns.isEmpty) (DkM M a b ns m n)) : dNe (.ref b) (.lst []) (DkM M a b ns m n) R := by
  refine ⟨ns.isEmpty, ⟨.list (ns.map .int), .list [], ?_, rfl, shaped_ints, rfl, ?_⟩, q⟩
  · show (match DkM M a b ns m n b with
      | some (.lst ds) => (toPys ds).map PyData.list
      | _ => none) = _
    rw [DkM_b h]
    show (toPys (ns.map .int)).map PyData.list = _
    rw [toPys_int']
    rfl
  · cases ns <;> rfl
end

theorem int1_go {M : Mem} {R : RK} {i : Int} (q : R (.int i) M) : dInt1 [.int i] M R := .inl ⟨i, rfl, q⟩
theorem cmul_l {i j : Int} (h1 : -(2 ^ 64) < i) (h2 : i < 2 ^ 64) : L2.CMul i j := .inl ⟨h1, h2⟩
theorem cmul_r {i j : Int} (h1 : -(2 ^ 64) < j) (h2 : j < 2 ^ 64) : L2.CMul i j := .inr ⟨h1, h2⟩

/-! ### what a memory may have more of: lists -/
def Ext (M M2 : Mem) : Prop := ∀ c, M2 c = M c ∨ (M c = none ∧ ∃ ds, M2 c = some (.lst ds))
theorem Ext.refl {M : Mem} : Ext M M := fun _ => .inl rfl
theorem Ext.view {K : PySem.W.Frag} {M M2 : Mem} (x : Ext M M2) : MView K M2 M := fun z H A => by
  have fr : Frame M2 H M H := fun c _ n => ⟨rfl, by
    rcases x c with e | ⟨e, _⟩
    · rw [← e]; exact n
    · exact e⟩
  refine ⟨A.step fr fun a o e => .inl ?_, fr⟩
  have ea : M2 a = some o := by
    rcases x a with h | ⟨h, _⟩
    · rw [h]; exact e
    · rw [h] at e; cases e
  refine ⟨ea, rfl, fun ks b eo => ⟨?_, rfl⟩⟩
  subst eo
  have hb := A.deckAt ea
  rcases x b with h | ⟨_, ds, h⟩
  · exact h.symm
  · rw [h] at hb; cases hb
theorem Ext.ends {K : PySem.W.Frag} {M M2 : Mem} {R : RK} {d : D} (x : Ext M M2) (q : R d M) : (endsOf K R).rt d M2 := .inr ⟨d, M, View.mem x.view fun c n => by
  rcases x c with e | ⟨e, _⟩
  · rw [← e]; exact n
  · exact e, q⟩
theorem Ext.new {M M2 : Mem} {p : Addr} {ds : List D} (x : Ext M M2) (h : M2 p = none) : Ext M (mset M2 p (.lst ds)) := fun c => by
  by_cases e : c = p
  · subst e
    refine .inr ⟨?_, ds, mset_same⟩
    rcases x c with h' | ⟨h', _⟩
    · rw [← h']; exact h
    · exact h'
  · rw [mset_ne e]; exact x c
theorem Ext.upd {M M2 : Mem} {p : Addr} {ds : List D} (x : Ext M M2) (h : M p = none) : Ext M (mset M2 p (.lst ds)) := fun c => by
  by_cases e : c = p
  · subst e; exact .inr ⟨h, ds, mset_same⟩
  · rw [mset_ne e]; exact x c
theorem Ext.none {M M2 : Mem} {p : Addr} (x : Ext M M2) (h : M2 p = none) : M p = none := by
  rcases x p with h' | ⟨h', _⟩
  · rw [← h']; exact h
  · exact h'
theorem Ext.deck {M M2 : Mem} {a : Addr} (x : Ext M M2) (d : Deck M a) : Deck M2 a := by
  obtain ⟨b, h1, h2⟩ := d
  have e : ∀ {c o}, M c = some o → M2 c = some o := fun {c o} h => by
    rcases x c with h' | ⟨h', _⟩
    · rw [h']; exact h
    · rw [h] at h'; cases h'
  exact ⟨b, e h1, e h2⟩
theorem Ext.trans {M M1 M2 : Mem} (x : Ext M M1) (y : Ext M1 M2) : Ext M M2 := fun c => by
  rcases y c with e | ⟨e, ds, h⟩
  · rw [e]; exact x c
  · exact .inr ⟨x.none e, ds, h⟩
/-! ### good data -/
def kgd : Key → Bool
  | .inl i => decide (i.natAbs < 10 ^ 50)
  | .inr s => s.cps.toList.all fun c => decide (c < 128)
def kwt : Key → Nat
  | .inl _ => 1
  | .inr s => s.length + 1
def kwts : List Key → Nat
  | [] => 0
  | k :: ks => kwt k + kwts ks
mutual
def gd : D → Bool
  | .non => true
  | .bl _ => true
  | .int i => decide (i.natAbs < 10 ^ 50)
  | .str s => s.cps.toList.all fun c => decide (c < 128)
  | .tup ds => gds ds
  | .lst ds => gds ds
  | .dct ks ds => decide (ks.length = ds.length) && ks.all kgd && gds ds
  | _ => false
def gds : List D → Bool
  | [] => true
  | d :: ds => gd d && gds ds
end
mutual
def wt : D → Nat
  | .str s => s.length
  | .tup ds => wts ds
  | .lst ds => wts ds
  | .dct ks ds => kwts ks + wts ds
  | _ => 0
def wts : List D → Nat
  | [] => 0
  | d :: ds => wt d + 1 + wts ds
end
mutual
def dp : D → Nat
  | .tup ds => dps ds + 1
  | .lst ds => dps ds + 1
  | .dct _ ds => dps ds + 1
  | _ => 0
def dps : List D → Nat
  | [] => 0
  | d :: ds => max (dp d) (dps ds)
end
theorem gds_all : ∀ {ds : List D}, gds ds = true ↔ ∀ d ∈ ds, gd d = true
  | [] => by simp [gds]
  | d :: ds => by simp [gds, gds_all (ds := ds)]
theorem gds_app {xs ys : List D} : gds (xs ++ ys) = true ↔ gds xs = true ∧ gds ys = true := by
  induction xs with
  | nil => simp [gds]
  | cons x xs ih => simp [gds, ih, and_assoc]
theorem wts_app (xs ys : List D) : wts (xs ++ ys) = wts xs + wts ys := by
  induction xs with
  | nil => simp [wts]
  | cons x xs ih => simp [wts, ih] <;> omega
theorem dps_app (xs ys : List D) : dps (xs ++ ys) = max (dps xs) (dps ys) := by
  induction xs with
  | nil => simp [dps]
  | cons x xs ih => simp [dps, ih] <;> omega
theorem wts_len (xs : List D) : xs.length ≤ wts xs := by
  induction xs with
  | nil => simp
  | cons x xs ih => simp [wts]; omega
theorem wts_mem {xs : List D} {d : D} (h : d ∈ xs) : wt d + 1 ≤ wts xs := by
  induction xs with
  | nil => cases h
  | cons x xs ih =>
    simp [wts]
    rcases List.mem_cons.mp h with e | h
    · subst e; omega
    · have := ih h; omega
theorem dps_mem {xs : List D} {d : D} (h : d ∈ xs) : dp d ≤ dps xs := by
  induction xs with
  | nil => cases h
  | cons x xs ih =>
    simp [dps]
    rcases List.mem_cons.mp h with e | h
    · subst e; omega
    · have := ih h; omega
theorem dps_le {xs : List D} {k : Nat} (h : ∀ d ∈ xs, dp d ≤ k) : dps xs ≤ k := by
  induction xs with
  | nil => simp [dps]
  | cons x xs ih =>
    simp [dps]
    have := h x (by simp)
    have := ih fun d hd => h d (by simp [hd])
    omega
theorem wts_le {xs : List D} {k : Nat} (h : ∀ d ∈ xs, wt d + 1 ≤ k) : wts xs ≤ xs.length * k := by
  induction xs with
  | nil => simp [wts]
  | cons x xs ih =>
    simp [wts, Nat.add_mul]
    have a := h x (by simp)
    have b := ih fun d hd => h d (by simp [hd])
    omega
theorem wts_rev (xs : List D) : wts xs.reverse = wts xs := by
  induction xs with
  | nil => rfl
  | cons x xs ih =>
    rw [List.reverse_cons, wts_app, ih]
    simp [wts]
    omega
theorem gds_rev {xs : List D} (h : gds xs = true) : gds xs.reverse = true := gds_all.mpr fun d hd => gds_all.mp h d (List.mem_reverse.mp hd)
theorem dps_sub {xs ys : List D} (h : ∀ d ∈ ys, d ∈ xs) : dps ys ≤ dps xs := dps_le fun d hd => dps_mem (h d hd)
theorem gds_sub {xs ys : List D} (h : ∀ d ∈ ys, d ∈ xs) (g : gds xs = true) : gds ys = true := gds_all.mpr fun d hd => gds_all.mp g d (h d hd)
theorem wts_take (xs : List D) (n : Nat) : wts (xs.take n) ≤ wts xs := by
  have := wts_app (xs.take n) (xs.drop n)
  rw [List.take_append_drop] at this
  omega
theorem wts_drop (xs : List D) (n : Nat) : wts (xs.drop n) ≤ wts xs := by
  have := wts_app (xs.take n) (xs.drop n)
  rw [List.take_append_drop] at this
  omega
mutual
theorem dat_of : ∀ {d : D}, gd d = true → wt d ≤ 1000 → dat d = true
  | .non, _, _ => rfl
  | .bl _, _, _ => rfl
  | .int _, _, _ => rfl
  | .str s, _, h => decide_eq_true h
  | .tup ds, g, h => by
    have h' : wts ds ≤ 1000 := h
    show (decide (ds.length ≤ 1000) && dats ds) = true
    rw [decide_eq_true (Nat.le_trans (wts_len ds) h'), dats_of g h']
    rfl
  | .lst ds, g, h => by
    have h' : wts ds ≤ 1000 := h
    show (decide (ds.length ≤ 1000) && dats ds) = true
    rw [decide_eq_true (Nat.le_trans (wts_len ds) h'), dats_of g h']
    rfl
  | .dct ks ds, g, h => by
    have g' : (decide (ks.length = ds.length) && ks.all kgd && gds ds) = true := g
    have h' : kwts ks + wts ds ≤ 1000 := h
    rw [Bool.and_eq_true, Bool.and_eq_true] at g'
    show (decide (ks.length = ds.length) && dats ds) = true
    rw [g'.1.1, dats_of g'.2 (by omega)]
    rfl
  | .ty _, g, _ => by cases g
  | .ref _, g, _ => by cases g
theorem dats_of : ∀ {ds : List D}, gds ds = true → wts ds ≤ 1000 → dats ds = true
  | [], _, _ => rfl
  | d :: ds, g, h => by
    have g' : (gd d && gds ds) = true := g
    have h' : wt d + 1 + wts ds ≤ 1000 := h
    rw [Bool.and_eq_true] at g'
    show (dat d && dats ds) = true
    rw [dat_of g'.1 (by omega), dats_of g'.2 (by omega)]
    rfl
end
theorem int_short {i : Int} (h : i.natAbs < 10 ^ 50) : (PyData.shown (.int i)).length ≤ 60 ∧ i.natAbs.log2 ≤ 168 := by
  constructor
  · have e := int_text_length_le10 (k := 50) (by decide) h
    show (Str.ofString (toString i)).length ≤ 60
    rw [PySem.ofString_length]
    omega
  · by_cases z : i.natAbs = 0
    · rw [z]; decide
    · exact Nat.le_of_lt_succ ((Nat.log2_lt z).mpr (Nat.lt_of_lt_of_le h (by decide)))
theorem int_wt {i : Int} (h : i.natAbs < 10 ^ 50) : PyData.weight (.int i) ≤ 170 := by
  have := (int_short h).2
  simp only [PyData.weight]
  split <;> omega
theorem zipKv : ∀ {ks : List Key} {ps : List PyData}, ks.length = ps.length → ks.all kgd = true → PyData.weightKv ((ks.map keyPy).zip ps) ≤ 171 * kwts ks + PyData.weightAll ps ∧ PyData.depthKv ((ks.map keyPy).zip ps) ≤ PyData.depthAll ps ∧
    (PyData.leavesShortAll 60 ps = true → PyData.leavesShortKv 60 ((ks.map keyPy).zip ps) = true) ∧ (PyData.showableAll ps = true → PyData.showableKv ((ks.map keyPy).zip ps) = true)
  | [], [], _, _ => ⟨by simp [PyData.weightKv, PyData.weightAll], by simp [PyData.depthKv, PyData.depthAll], by simp [PyData.leavesShortKv], by simp [PyData.showableKv]⟩
  | k :: ks, p :: ps, hl, hg => by
    rw [List.all_cons, Bool.and_eq_true] at hg
    obtain ⟨a, b, c, d⟩ := zipKv (ks := ks) (ps := ps) (by simpa using hl) hg.2
    have key : PyData.weight (keyPy k) + 1 ≤ 171 * kwt k ∧ PyData.depth (keyPy k) = 0 ∧ PyData.leavesShort 60 (keyPy k) = true ∧ PyData.showable (keyPy k) = true := by
      cases k with
      | inl i =>
        have hi : i.natAbs < 10 ^ 50 := of_decide_eq_true hg.1
        have w := int_wt hi
        obtain ⟨x, y⟩ := int_short hi
        exact ⟨by show PyData.weight (.int i) + 1 ≤ 171; omega, by simp [keyPy, PyData.depth], by simp [keyPy, PyData.leavesShort, x], by simp [keyPy, PyData.showable]; omega⟩
      | inr s =>
        have hs : (s.cps.toList.all fun c => decide (c < 128)) = true := hg.1
        refine ⟨?_, by simp [keyPy, PyData.depth], ?_, by simp [keyPy, PyData.showable]⟩
        · have e : PyData.weight (.str s) = s.length := by simp only [PyData.weight]; rfl
          show PyData.weight (.str s) + 1 ≤ 171 * (s.length + 1)
          omega
        · simp only [keyPy, PyData.leavesShort]
          rw [List.all_eq_true] at hs ⊢
          intro c hc
          exact decide_eq_true (Nat.lt_of_lt_of_le (of_decide_eq_true (hs c hc)) (by decide))
    obtain ⟨k1, k2, k3, k4⟩ := key
    refine ⟨?_, ?_, fun h => ?_, fun h => ?_⟩
    · simp only [List.map_cons, List.zip_cons_cons, PyData.weightKv, PyData.weightAll, kwts]
      omega
    · simp only [List.map_cons, List.zip_cons_cons, PyData.depthKv, PyData.depthAll]
      omega
    · simp only [PyData.leavesShortAll, Bool.and_eq_true] at h
      simp only [List.map_cons, List.zip_cons_cons, PyData.leavesShortKv, k3, h.1, c h.2, Bool.and_self]
    · simp only [PyData.showableAll, Bool.and_eq_true] at h
      simp only [List.map_cons, List.zip_cons_cons, PyData.showableKv, k4, h.1, d h.2, Bool.and_self]
theorem toRs_len : ∀ {ds : List D} {ps : List PyData}, toRs ds = some ps → ds.length = ps.length
  | [], ps, h => by cases h; rfl
  | d :: ds, ps, h => by
    have h' : (match toR d, toRs ds with
      | some p, some ps => some (p :: ps)
      | _, _ => none) = some ps := h
    cases e1 : toR d with
    | none => rw [e1] at h'; cases h'
    | some p =>
      cases e2 : toRs ds with
      | none => rw [e1, e2] at h'; cases h'
      | some qs =>
        rw [e1, e2] at h'
        cases h'
        simp [toRs_len e2]
mutual
theorem py_of : ∀ {d : D}, gd d = true → ∃ p, toR d = some p ∧ p.weight ≤ 170 + 171 * wt d ∧ p.depth ≤ dp d ∧ p.leavesShort 60 = true ∧ p.showable = true
  | .non, _ => ⟨_, rfl, by simp [PyData.weight, wt], by simp [PyData.depth, dp], by simp [PyData.leavesShort], by simp [PyData.showable]⟩
  | .bl _, _ => ⟨_, rfl, by simp [PyData.weight, wt], by simp [PyData.depth, dp], by simp [PyData.leavesShort], by simp [PyData.showable]⟩
  | .int i, g => by
    obtain ⟨a, b⟩ := int_short (of_decide_eq_true g)
    exact ⟨_, rfl, Nat.le_trans (int_wt (of_decide_eq_true g)) (Nat.le_add_right _ _), by simp [PyData.depth, dp], by simp [PyData.leavesShort, a], by simp [PyData.showable]; omega⟩
  | .str s, g => by
    have g' : (s.cps.toList.all fun c => decide (c < 128)) = true := g
    refine ⟨_, rfl, by
      have : s.cps.size = s.length := rfl
      simp [PyData.weight, wt]
      omega, by simp [PyData.depth, dp], ?_, by simp [PyData.showable]⟩
    simp only [PyData.leavesShort]
    rw [List.all_eq_true] at g' ⊢
    intro c hc
    have := of_decide_eq_true (g' c hc)
    exact decide_eq_true (Nat.lt_of_lt_of_le this (by decide))
  | .tup ds, g => by
    obtain ⟨ps, e, h1, h2, h3, h4⟩ := pys_of (ds := ds) g
    exact ⟨.tuple ps, by simp [toR, e], by
      simp [PyData.weight, wt]
      omega, by simp [PyData.depth, dp, h2], by simp [PyData.leavesShort, h3], by simp [PyData.showable, h4]⟩
  | .lst ds, g => by
    obtain ⟨ps, e, h1, h2, h3, h4⟩ := pys_of (ds := ds) g
    exact ⟨.list ps, by simp [toR, e], by
      simp [PyData.weight, wt]
      omega, by simp [PyData.depth, dp, h2], by simp [PyData.leavesShort, h3], by simp [PyData.showable, h4]⟩
  | .dct ks ds, g => by
    have g' : (decide (ks.length = ds.length) && ks.all kgd && gds ds) = true := g
    rw [Bool.and_eq_true, Bool.and_eq_true, decide_eq_true_eq] at g'
    obtain ⟨ps, e, h1, h2, h3, h4⟩ := pys_of (ds := ds) g'.2
    obtain ⟨z1, z2, z3, z4⟩ := zipKv (ks := ks) (ps := ps) (g'.1.1.trans (toRs_len e)) g'.1.2
    exact ⟨.dict ((ks.map keyPy).zip ps), by simp [toR, e], by
      simp only [PyData.weight, wt]
      omega, by
      simp only [PyData.depth, dp]
      omega, by simp only [PyData.leavesShort]; exact z3 h3, by simp only [PyData.showable]; exact z4 h4⟩
  | .ty _, g => by cases g
  | .ref _, g => by cases g
theorem pys_of : ∀ {ds : List D}, gds ds = true → ∃ ps, toRs ds = some ps ∧ PyData.weightAll ps ≤ 171 * wts ds ∧ PyData.depthAll ps ≤ dps ds ∧ PyData.leavesShortAll 60 ps = true ∧ PyData.showableAll ps = true
  | [], _ => ⟨[], rfl, by simp [PyData.weightAll, wts], by simp [PyData.depthAll, dps], by simp [PyData.leavesShortAll], by simp [PyData.showableAll]⟩
  | d :: ds, g => by
    have g' : (gd d && gds ds) = true := g
    rw [Bool.and_eq_true] at g'
    obtain ⟨p, e, h1, h2, h3, h4⟩ := py_of (d := d) g'.1
    obtain ⟨ps, e', k1, k2, k3, k4⟩ := pys_of (ds := ds) g'.2
    refine ⟨p :: ps, by simp [toRs, e, e'], by
      simp [PyData.weightAll, wts]
      omega, ?_, by simp [PyData.leavesShortAll, h3, k3], by simp [PyData.showableAll, h4, k4]⟩
    simp [PyData.depthAll, dps]
    omega
end
/-- what may be shown -/
def Good (d : D) : Prop := gd d = true ∧ wt d ≤ 900 ∧ dp d ≤ 20
theorem Good.dat {d : D} (h : Good d) : DL.dat d = true := dat_of h.1 (by have := h.2.1; omega)
theorem repr_go {d : D} (h : Good d) : ∃ p : PyData, ∀ {M : Mem} {R : RK}, R (.str p.shown) M → dRepr [d] M R := by
  obtain ⟨p, e, h1, h2, h3, h4⟩ := py_of h.1
  refine ⟨p, fun {M R} q => ⟨d, p, rfl, e, h4, ?_, ?_, q⟩⟩
  · have := PyData.shown_le 60 (by decide) p h3
    have h5 := h.2.1
    rw [sizeLine_eq]
    omega
  · have := h.2.2
    omega

theorem at_nat {xs : List D} {i : Int} (h0 : 0 ≤ i) (h1 : i < xs.length) : ∃ d, d ∈ xs ∧ L2.atI xs i = some d := by
  obtain ⟨j, rfl⟩ := Int.eq_ofNat_of_zero_le h0
  have hj : j < xs.length := by omega
  exact ⟨xs[j], List.getElem_mem hj, L2.atI_nat (List.getElem?_eq_getElem hj)⟩
theorem rng_mem {n : Nat} {d : D} (h : d ∈ (List.range n).map fun i => D.int (i : Nat)) : ∃ i : Nat, i < n ∧ d = .int i := by
  obtain ⟨i, hi, rfl⟩ := List.mem_map.mp h
  exact ⟨i, List.mem_range.mp hi, rfl⟩
theorem rng_at {m i : Nat} {d : D} (h : ((List.range m).map fun i => D.int (i : Nat))[i]? = some d) : i < m ∧ d = .int (i : Nat) := by
  rw [List.getElem?_map] at h
  cases e : (List.range m)[i]? with
  | none => rw [e] at h; cases h
  | some j =>
    rw [e] at h
    cases h
    obtain ⟨hl, hj⟩ := List.getElem?_eq_some_iff.mp e
    simp at hl hj
    exact ⟨hl, by rw [hj]⟩
theorem it_rng {ρ : DEnv} {M : Mem} {te : DE} {m : Nat} (hm : m ≤ 1000) (h : ∀ R : RK, R (.int m) M → te ρ M R) : ∀ Q : List D → (Mem → Prop) → Mem → Prop, Q ((List.range m).map fun i => D.int (i : Nat)) (fun _ => True) M → dRng1 (dCons te dNil) ρ M Q :=
  fun Q q => h _ ⟨(m : Int), rfl, by omega, by omega, by simpa using q⟩
theorem app_go {ρ : DEnv} {M : Mem} {R : RK} {p : Addr} {xs : List D} {to te : DE} {x : D} (h : ∀ R : RK, R (.ref p) M → to ρ M R) (hm : M p = some (.lst xs)) (hl : xs.length ≤ 1000) (he : ∀ R : RK, R x M → te ρ M R) (q : R .non (mset M p (.lst (xs ++ [x])))) : dMeth "list" dAppend to (dCons te dNil) ρ M R :=
  h _ ⟨.inr (.inl ⟨rfl, xs, .inr ⟨p, rfl, hm⟩⟩), he _ ⟨p, xs, x, rfl, rfl, hm, Nat.lt_of_le_of_lt hl (by decide), q⟩⟩
def ascii (s : Str) : Bool := s.cps.toList.all fun c => decide (c < 128)
theorem join_one : ∀ (ys : List Str), (∀ y ∈ ys, ascii y = true ∧ y.length = 1) → ascii (Str.join ⟨#[]⟩ ys) = true ∧ (Str.join ⟨#[]⟩ ys).length = ys.length
  | [], _ => ⟨rfl, rfl⟩
  | y :: ys, h => by
    obtain ⟨a1, a2⟩ := h y (by simp)
    obtain ⟨b1, b2⟩ := join_one ys fun z hz => h z (by simp [hz])
    rw [PyProof.Rows.join_nil_cons, Str.length_append, a2, b2]
    refine ⟨?_, by simp; omega⟩
    unfold ascii at *
    rw [Str.cps_append, Array.toList_append, List.all_append, a1, b1]
    rfl
theorem join_ascii {ys : List Str} (h : ∀ y ∈ ys, ascii y = true ∧ y.length = 1) : ascii (Txt.join "" ys) = true ∧ (Txt.join "" ys).length = ys.length := by
  rw [TL.join_eq]
  exact join_one ys h
theorem inF_mem {x : Str} {ds : List D} (h : inF (.str x) ds = true) : .str x ∈ ds := by
  unfold inF at h
  obtain ⟨y, hy, e⟩ := List.any_eq_true.mp h
  cases y with
  | str z =>
    have e' : (z == x) = true := e
    rw [eq_of_beq e'] at hy
    exact hy
  | _ => cases e
theorem cut_mem {xs : List D} {lo hi : Option Int} {d : D} (h : d ∈ DL.cutD xs lo hi) : d ∈ xs := List.mem_of_mem_drop (List.mem_of_mem_take h)
theorem cut_wts {xs : List D} {lo hi : Option Int} : wts (DL.cutD xs lo hi) ≤ wts xs := Nat.le_trans (wts_take _ _) (wts_drop _ _)
theorem cut_len {xs : List D} {lo hi : Option Int} : (DL.cutD xs lo hi).length ≤ xs.length := by
  unfold DL.cutD
  rw [List.length_take, List.length_drop]
  omega
theorem cut_gds {xs : List D} {lo hi : Option Int} (h : gds xs = true) : gds (DL.cutD xs lo hi) = true := gds_sub (fun d hd => cut_mem hd) h
theorem cut_dps {xs : List D} {lo hi : Option Int} : dps (DL.cutD xs lo hi) ≤ dps xs := dps_sub fun d hd => cut_mem hd
section
variable {M : Mem} {R : RK} {xs : List D} {i : Int}
theorem q_list_tup : dList [.tup xs] M R ↔ R (.lst xs) M := by
  constructor
  · rintro ⟨x, ds, e, h | h, q⟩
    · cases e; cases h; exact q
    · cases e
      rcases h with h | ⟨a, h, _⟩ <;> cases h
  · exact fun q => ⟨_, xs, rfl, .inl rfl, q⟩
theorem q_tuple_lst : dTuple [.lst xs] M R ↔ R (.tup xs) M := by
  constructor
  · rintro ⟨x, ds, e, h | h, q⟩
    · cases e; cases h
    · cases e
      rcases h with h | ⟨a, h, _⟩ <;> cases h
      exact q
  · exact fun q => ⟨_, xs, rfl, .inr (.inl rfl), q⟩
theorem q_strInt : dStrInt [.int i] M R ↔ i.natAbs.log2 < 1920 ∧ R (.str (toString i)) M := ⟨fun ⟨j, e, h⟩ => by cases e; exact h, fun h => ⟨i, rfl, h⟩⟩
end
theorem str_small : ∀ n : _root_.Fin 1000, ascii (toString ((n.val : Nat) : Int)) = true ∧ ((toString ((n.val : Nat) : Int) : Str)).length ≤ 5 ∧ ascii (toString (-((n.val : Nat) : Int))) = true ∧ ((toString (-((n.val : Nat) : Int)) : Str)).length ≤ 5 := by decide +kernel
theorem str_int {i : Int} (h : i.natAbs < 1000) : ascii (toString i) = true ∧ ((toString i : Str)).length ≤ 5 := by
  have s := str_small ⟨i.natAbs, h⟩
  rcases Int.natAbs_eq i with e | e
  · rw [e]; exact ⟨s.1, s.2.1⟩
  · rw [e]; exact ⟨s.2.2.1, s.2.2.2⟩
theorem upper_ascii : ∀ (l : List Nat), (l.all fun c => decide (c < 128)) = true → ascii (Txt.upper ⟨l.toArray⟩) = true
  | [], _ => by decide
  | c :: l, h => by
    rw [List.all_cons, Bool.and_eq_true, decide_eq_true_eq] at h
    have e : (⟨(c :: l).toArray⟩ : Str) = ⟨#[c]⟩ ++ ⟨l.toArray⟩ := by
      show _ = (⟨#[c] ++ l.toArray⟩ : Str)
      simp
    rw [e, PySem.W.KOpn.upper_app, PySem.W.KOpn.upper_one h.1]
    unfold ascii
    rw [Str.cps_append, Array.toList_append, List.all_append]
    have ih := upper_ascii l h.2
    unfold ascii at ih
    rw [ih]
    have := h.1
    simp
    split <;> omega
theorem cutS_ascii {s : Str} {lo hi : Option Int} (h : ascii s = true) : ascii (cutS s lo hi) = true ∧ (cutS s lo hi).length ≤ s.length := by
  unfold ascii at *
  rw [List.all_eq_true] at h
  constructor
  · rw [List.all_eq_true]
    intro c hc
    unfold cutS at hc
    exact h c (List.mem_of_mem_drop (List.mem_of_mem_take hc))
  · have e : s.cps.toList.length = s.length := rfl
    show ((s.cps.toList.drop _).take _).toArray.size ≤ _
    rw [List.size_toArray, List.length_take, List.length_drop, e]
    omega
def swap (xs : List D) (i : Nat) (y : D) : List D := xs.take i ++ [y] ++ xs.drop (i + 1)
theorem swap_len {xs : List D} {i : Nat} {y : D} (h : i < xs.length) : (swap xs i y).length = xs.length := by
  unfold swap
  simp
  omega
theorem swap_mem {xs : List D} {i : Nat} {y d : D} (h : d ∈ swap xs i y) : d ∈ xs ∨ d = y := by
  unfold swap at h
  simp at h
  rcases h with h | h | h
  · exact .inl (List.mem_of_mem_take h)
  · exact .inr h
  · exact .inl (List.mem_of_mem_drop h)
theorem swap_wts {xs : List D} {i : Nat} {y x : D} (h : xs[i]? = some x) : wts (swap xs i y) + wt x = wts xs + wt y := by
  obtain ⟨hl, hx⟩ := List.getElem?_eq_some_iff.mp h
  have e : xs = xs.take i ++ [x] ++ xs.drop (i + 1) := by
    rw [← hx]
    simp
  have e2 : wts xs = wts (xs.take i) + (wt x + 1) + wts (xs.drop (i + 1)) := by
    conv => lhs; rw [e]
    rw [wts_app, wts_app]
    simp [wts]
  unfold swap
  rw [wts_app, wts_app, e2]
  simp [wts]
  omega
theorem cut_to {xs : List D} {i : Nat} (h : i ≤ xs.length) : DL.cutD xs none (some (i : Int)) = xs.take i := by
  unfold DL.cutD
  rw [HT.sIx_nat, HT.sIx_none]
  simp
theorem cut_from {xs : List D} {i : Nat} (h : i ≤ xs.length) : DL.cutD xs (some (i : Int)) none = xs.drop i := by
  unfold DL.cutD
  rw [HT.sIx_nat, HT.sIx_none]
  rw [Nat.min_eq_left h]
  exact List.take_of_length_le (by simp)
theorem swap_go {M : Mem} {R : RK} {xs : List D} {i : Nat} {y : D} (hi : i < xs.length) (hl : xs.length ≤ 1000) (q : R (.tup (swap xs i y)) M) :
    dAdd (.tup (DL.cutD xs none (some (i : Int)))) (.tup [y]) M fun x M1 => dAdd x (.tup (DL.cutD xs (some ((i : Int) + 1)) none)) M1 R := by
  have e1 := cut_to (xs := xs) (Nat.le_of_lt hi)
  have e2 : DL.cutD xs (some ((i : Int) + 1)) none = xs.drop (i + 1) := cut_from (xs := xs) (i := i + 1) hi
  rw [e1, e2]
  refine ⟨by rw [sizeLine_eq]; simp; omega, by rw [sizeLine_eq]; simp; omega, q⟩
theorem szl {a b : Nat} (h1 : a ≤ 1000) (h2 : b ≤ 1000) : a + b ≤ sizeLine := by rw [sizeLine_eq]; omega
theorem gds_swap {xs : List D} {i : Nat} {y : D} (h : gds xs = true) (g : gd y = true) : gds (swap xs i y) = true := gds_all.mpr fun d hd => (swap_mem hd).elim (gds_all.mp h d) fun e => e ▸ g
theorem dps_swap {xs : List D} {i k : Nat} {y : D} (h : dps xs ≤ k) (g : dp y ≤ k) : dps (swap xs i y) ≤ k := dps_le fun d hd => (swap_mem hd).elim (fun z => Nat.le_trans (dps_mem z) h) fun e => e ▸ g
end DL

set_option Elab.async false
set_option linter.all false
set_option maxHeartbeats 4000000
set_option maxRecDepth 100000
/-! D-layer, part 19: data by length, weight and depth; what may be shown. -/
namespace DL
open PySem PySem.Spec PyProof.Rows L2
def kgx (L : Nat) : Key → Bool
  | .inl i => decide (i.natAbs < 10 ^ 40 + 10 * L)
  | .inr s => decide (s.length ≤ L) && s.cps.toList.all fun c => decide (c < 128)
mutual
def gx (L : Nat) : D → Bool
  | .non => true
  | .bl _ => true
  | .int i => decide (i.natAbs < 10 ^ 40 + 10 * L)
  | .str s => decide (s.length ≤ L) && ascii s
  | .tup ds => decide (ds.length ≤ L) && gxs L ds
  | .lst ds => decide (ds.length ≤ L) && gxs L ds
  | .dct ks ds => decide (ks.length = ds.length) && decide (ds.length ≤ L) && ks.all (kgx L) && gxs L ds
  | _ => false
def gxs (L : Nat) : List D → Bool
  | [] => true
  | d :: ds => gx L d && gxs L ds
end
theorem gxs_all {L : Nat} : ∀ {ds : List D}, gxs L ds = true ↔ ∀ d ∈ ds, gx L d = true
  | [] => by simp [gxs]
  | d :: ds => by simp [gxs, gxs_all (ds := ds)]
theorem gx_tup {L : Nat} {ds : List D} : gx L (.tup ds) = true ↔ ds.length ≤ L ∧ ∀ d ∈ ds, gx L d = true := by
  show (decide (ds.length ≤ L) && gxs L ds) = true ↔ _
  rw [Bool.and_eq_true, decide_eq_true_eq, gxs_all]
theorem gx_lst {L : Nat} {ds : List D} : gx L (.lst ds) = true ↔ ds.length ≤ L ∧ ∀ d ∈ ds, gx L d = true := gx_tup
theorem gx_str {L : Nat} {s : Str} : gx L (.str s) = true ↔ s.length ≤ L ∧ ascii s = true := by
  show (decide (s.length ≤ L) && ascii s) = true ↔ _
  rw [Bool.and_eq_true, decide_eq_true_eq]
theorem gx_int {L : Nat} {i : Int} : gx L (.int i) = true ↔ i.natAbs < 10 ^ 40 + 10 * L := by
  show decide _ = true ↔ _
  rw [decide_eq_true_eq]
theorem gx_dct {L : Nat} {ks : List Key} {ds : List D} (h1 : ks.length = ds.length) (h2 : ds.length ≤ L) (h3 : ks.all (kgx L) = true) (h4 : ∀ d ∈ ds, gx L d = true) : gx L (.dct ks ds) = true := by
  show (decide (ks.length = ds.length) && decide (ds.length ≤ L) && ks.all (kgx L) && gxs L ds) = true
  rw [decide_eq_true h1, decide_eq_true h2, h3, gxs_all.mpr h4]
  rfl
theorem kgx_mono {L L' : Nat} (h : L ≤ L') {k : Key} (g : kgx L k = true) : kgx L' k = true := by
  cases k with
  | inl i =>
    have := of_decide_eq_true g
    exact decide_eq_true (by omega)
  | inr s =>
    have g' : (decide (s.length ≤ L) && s.cps.toList.all fun c => decide (c < 128)) = true := g
    rw [Bool.and_eq_true, decide_eq_true_eq] at g'
    show (decide (s.length ≤ L') && s.cps.toList.all fun c => decide (c < 128)) = true
    rw [Bool.and_eq_true, decide_eq_true_eq]
    exact ⟨Nat.le_trans g'.1 h, g'.2⟩
mutual
theorem gx_mono {L L' : Nat} (h : L ≤ L') : ∀ {d : D}, gx L d = true → gx L' d = true
  | .non, _ => rfl
  | .bl _, _ => rfl
  | .int i, g => gx_int.mpr (by have := gx_int.mp g; omega)
  | .str s, g => gx_str.mpr (by have := gx_str.mp g; exact ⟨by omega, this.2⟩)
  | .tup ds, g => by
    have g' : (decide (ds.length ≤ L) && gxs L ds) = true := g
    rw [Bool.and_eq_true, decide_eq_true_eq] at g'
    show (decide (ds.length ≤ L') && gxs L' ds) = true
    rw [decide_eq_true (Nat.le_trans g'.1 h), gxs_mono h g'.2]
    rfl
  | .lst ds, g => by
    have g' : (decide (ds.length ≤ L) && gxs L ds) = true := g
    rw [Bool.and_eq_true, decide_eq_true_eq] at g'
    show (decide (ds.length ≤ L') && gxs L' ds) = true
    rw [decide_eq_true (Nat.le_trans g'.1 h), gxs_mono h g'.2]
    rfl
  | .dct ks ds, g => by
    have g' : (decide (ks.length = ds.length) && decide (ds.length ≤ L) && ks.all (kgx L) && gxs L ds) = true := g
    rw [Bool.and_eq_true, Bool.and_eq_true, Bool.and_eq_true, decide_eq_true_eq, decide_eq_true_eq, List.all_eq_true] at g'
    show (decide (ks.length = ds.length) && decide (ds.length ≤ L') && ks.all (kgx L') && gxs L' ds) = true
    rw [decide_eq_true g'.1.1.1, decide_eq_true (Nat.le_trans g'.1.1.2 h), gxs_mono h g'.2, List.all_eq_true.mpr fun k hk => kgx_mono h (g'.1.2 k hk)]
    rfl
  | .ty _, g => by cases g
  | .ref _, g => by cases g
theorem gxs_mono {L L' : Nat} (h : L ≤ L') : ∀ {ds : List D}, gxs L ds = true → gxs L' ds = true
  | [], _ => rfl
  | d :: ds, g => by
    have g' : (gx L d && gxs L ds) = true := g
    rw [Bool.and_eq_true] at g'
    show (gx L' d && gxs L' ds) = true
    rw [gx_mono h g'.1, gxs_mono h g'.2]
    rfl
end
theorem kgx_kgd {L : Nat} (h : L ≤ 1000) {k : Key} (g : kgx L k = true) : kgd k = true := by
  cases k with
  | inl i =>
    have := of_decide_eq_true g
    exact decide_eq_true (by omega)
  | inr s =>
    have g' : (decide (s.length ≤ L) && s.cps.toList.all fun c => decide (c < 128)) = true := g
    rw [Bool.and_eq_true] at g'
    exact g'.2
mutual
theorem gx_dat {L : Nat} (h : L ≤ 1000) : ∀ {d : D}, gx L d = true → dat d = true ∧ gd d = true
  | .non, _ => ⟨rfl, rfl⟩
  | .bl _, _ => ⟨rfl, rfl⟩
  | .int i, g => ⟨rfl, decide_eq_true (by have := gx_int.mp g; omega)⟩
  | .str s, g => ⟨decide_eq_true (by have := gx_str.mp g; omega), (gx_str.mp g).2⟩
  | .tup ds, g => by
    have g' : (decide (ds.length ≤ L) && gxs L ds) = true := g
    rw [Bool.and_eq_true, decide_eq_true_eq] at g'
    obtain ⟨a, b⟩ := gxs_dat h g'.2
    refine ⟨?_, b⟩
    show (decide (ds.length ≤ 1000) && dats ds) = true
    rw [decide_eq_true (Nat.le_trans g'.1 h), a]
    rfl
  | .lst ds, g => by
    have g' : (decide (ds.length ≤ L) && gxs L ds) = true := g
    rw [Bool.and_eq_true, decide_eq_true_eq] at g'
    obtain ⟨a, b⟩ := gxs_dat h g'.2
    refine ⟨?_, b⟩
    show (decide (ds.length ≤ 1000) && dats ds) = true
    rw [decide_eq_true (Nat.le_trans g'.1 h), a]
    rfl
  | .dct ks ds, g => by
    have g' : (decide (ks.length = ds.length) && decide (ds.length ≤ L) && ks.all (kgx L) && gxs L ds) = true := g
    rw [Bool.and_eq_true, Bool.and_eq_true, Bool.and_eq_true, decide_eq_true_eq, decide_eq_true_eq, List.all_eq_true] at g'
    obtain ⟨a, b⟩ := gxs_dat h g'.2
    constructor
    · show (decide (ks.length = ds.length) && dats ds) = true
      rw [decide_eq_true g'.1.1.1, a]
      rfl
    · show (decide (ks.length = ds.length) && ks.all kgd && gds ds) = true
      rw [decide_eq_true g'.1.1.1, b, List.all_eq_true.mpr fun k hk => kgx_kgd h (g'.1.2 k hk)]
      rfl
  | .ty _, g => by cases g
  | .ref _, g => by cases g
theorem gxs_dat {L : Nat} (h : L ≤ 1000) : ∀ {ds : List D}, gxs L ds = true → dats ds = true ∧ gds ds = true
  | [], _ => ⟨rfl, rfl⟩
  | d :: ds, g => by
    have g' : (gx L d && gxs L ds) = true := g
    rw [Bool.and_eq_true] at g'
    obtain ⟨a, b⟩ := gx_dat h g'.1
    obtain ⟨a', b'⟩ := gxs_dat h g'.2
    constructor
    · show (dat d && dats ds) = true
      rw [a, a']
      rfl
    · show (gd d && gds ds) = true
      rw [b, b']
      rfl
end
theorem bulkKv_le : ∀ {ks : List Key} {ps : List PyData}, ks.length = ps.length → PyData.bulkKv ((ks.map keyPy).zip ps) ≤ kwts ks + PyData.bulkAll ps
  | [], [], _ => by simp [PyData.bulkKv, PyData.bulkAll]
  | k :: ks, p :: ps, hl => by
    have a := bulkKv_le (ks := ks) (ps := ps) (by simpa using hl)
    have key : PyData.bulk (keyPy k) + 1 ≤ kwt k := by
      cases k with
      | inl i => simp [keyPy, PyData.bulk, kwt]
      | inr s =>
        have e : PyData.bulk (.str s) = s.length := by simp only [PyData.bulk]; rfl
        show PyData.bulk (.str s) + 1 ≤ s.length + 1
        omega
    simp only [List.map_cons, List.zip_cons_cons, PyData.bulkKv, PyData.bulkAll, kwts]
    omega
mutual
theorem bulk_of : ∀ {d : D} {p : PyData}, gd d = true → toR d = some p → p.bulk ≤ wt d
  | .non, p, _, e => by cases e; simp [PyData.bulk]
  | .bl _, p, _, e => by cases e; simp [PyData.bulk]
  | .int i, p, _, e => by cases e; simp [PyData.bulk]
  | .str s, p, _, e => by cases e; simp only [PyData.bulk]; exact Nat.le_refl _
  | .tup ds, p, g, e => by
    have e' : (toRs ds).map PyData.tuple = some p := e
    cases h : toRs ds with
    | none => rw [h] at e'; cases e'
    | some ps =>
      rw [h] at e'
      cases e'
      simp only [PyData.bulk]
      exact bulks_of (ds := ds) g h
  | .lst ds, p, g, e => by
    have e' : (toRs ds).map PyData.list = some p := e
    cases h : toRs ds with
    | none => rw [h] at e'; cases e'
    | some ps =>
      rw [h] at e'
      cases e'
      simp only [PyData.bulk]
      exact bulks_of (ds := ds) g h
  | .dct ks ds, p, g, e => by
    have g' : (decide (ks.length = ds.length) && ks.all kgd && gds ds) = true := g
    rw [Bool.and_eq_true, Bool.and_eq_true, decide_eq_true_eq] at g'
    have e' : (toRs ds).map (fun ps => PyData.dict ((ks.map keyPy).zip ps)) = some p := e
    cases h : toRs ds with
    | none => rw [h] at e'; cases e'
    | some ps =>
      rw [h] at e'
      cases e'
      simp only [PyData.bulk]
      have a := bulks_of (ds := ds) g'.2 h
      have b := bulkKv_le (ks := ks) (ps := ps) (g'.1.1.trans (toRs_len h))
      show _ ≤ kwts ks + wts ds
      omega
  | .ty _, p, g, _ => by cases g
  | .ref _, p, g, _ => by cases g
theorem bulks_of : ∀ {ds : List D} {ps : List PyData}, gds ds = true → toRs ds = some ps → PyData.bulkAll ps ≤ wts ds
  | [], ps, _, e => by cases e; simp [PyData.bulkAll]
  | d :: ds, ps, g, e => by
    have g' : (gd d && gds ds) = true := g
    rw [Bool.and_eq_true] at g'
    have e' : (match toR d, toRs ds with
      | some p, some ps => some (p :: ps)
      | _, _ => none) = some ps := e
    cases e1 : toR d with
    | none => rw [e1] at e'; cases e'
    | some q =>
      cases e2 : toRs ds with
      | none => rw [e1, e2] at e'; cases e'
      | some qs =>
        rw [e1, e2] at e'
        cases e'
        have a := bulk_of g'.1 e1
        have b := bulks_of g'.2 e2
        simp only [PyData.bulkAll, wts]
        omega
end
theorem str_big {i : Int} (h : i.natAbs < 10 ^ 45) : ascii (toString i) = true ∧ ((toString i : Str)).length ≤ 46 := by
  constructor
  · unfold ascii
    rw [List.all_eq_true]
    intro c hc
    refine decide_eq_true ?_
    by_cases z : c < 128
    · exact z
    · exact absurd hc (PyProof.Rows.int_text_free' c (by omega) i)
  · have e := int_text_length_le10 (k := 45) (by decide) h
    show (Str.ofString (toString i)).length ≤ 46
    rw [PySem.ofString_length]
    exact e
theorem log_big {i : Int} (h : i.natAbs < 10 ^ 45) : i.natAbs.log2 < 1920 := by
  by_cases z : i.natAbs = 0
  · rw [z]; decide
  · exact (Nat.log2_lt z).mpr (Nat.lt_of_lt_of_le h (by decide))
/-- what may be shown, great ones too -/
def Big (d : D) : Prop := gx 1000 d = true ∧ wt d ≤ 200000 ∧ dp d ≤ 58
theorem Big.dat {d : D} (h : Big d) : DL.dat d = true := (gx_dat (Nat.le_refl _) h.1).1
theorem repr_big {d : D} (h : Big d) : ∃ p : PyData, ∀ {M : Mem} {R : RK}, R (.str p.shown) M → dRepr [d] M R := by
  have g := (gx_dat (Nat.le_refl _) h.1).2
  obtain ⟨p, e, h1, h2, h3, h4⟩ := py_of g
  refine ⟨p, fun {M R} q => ⟨d, p, rfl, e, h4, ?_, ?_, q⟩⟩
  · have := PyData.shown_le_bulk 60 (by decide) p h3
    have h5 := h.2.1
    have h6 := bulk_of g e
    rw [sizeLine_eq]
    omega
  · have := h.2.2
    omega
theorem gx_app {L L1 L2 : Nat} {xs ys : List D} (h1 : ∀ d ∈ xs, gx L1 d = true) (h2 : ∀ d ∈ ys, gx L2 d = true) (hl : xs.length + ys.length ≤ L) (l1 : L1 ≤ L) (l2 : L2 ≤ L) : gx L (.tup (xs ++ ys)) = true :=
  gx_tup.mpr ⟨by rw [List.length_append]; exact hl, fun d hd => (List.mem_append.mp hd).elim (fun h => gx_mono l1 (h1 d h)) fun h => gx_mono l2 (h2 d h)⟩
theorem gx_swap {L L' : Nat} {xs : List D} {i : Nat} {y : D} (h : gx L (.tup xs) = true) (hi : i < xs.length) (hl : L ≤ L') (g : gx L' y = true) : gx L' (.tup (swap xs i y)) = true := by
  obtain ⟨a, b⟩ := gx_tup.mp h
  refine gx_tup.mpr ⟨by rw [swap_len hi]; omega, fun d hd => (swap_mem hd).elim (fun z => gx_mono hl (b d z)) fun e => e ▸ g⟩
section
variable {ρ : DEnv} {M : Mem} {R : RK} {vs : List Nat} {ti : DI} {g : DG} {tt : DT} {te : DE}
/-- each item is one of some, whatever they are -/
theorem go_someP (Pi : List D → Prop) (C : D → Prop) (hti : ∀ Q : List D → (Mem → Prop) → Mem → Prop, (∀ items, Pi items → Q items (fun _ => True) M) → ti ρ M Q) (hl : ∀ items, Pi items → items.length ≤ sizeLine)
    (hs : ∀ items, Pi items → ∀ d ∈ items, ∀ Rt : RK, (∀ y, C y → Rt y M) → g d (dwipe ρ vs) fun ρ3 => te ρ3 M Rt) (q : ∀ items, Pi items → ∀ acc : List D, acc.length = items.length → (∀ y ∈ acc, C y) → R (.lst acc) M) : dLc vs ti g dYes te ρ M R :=
  hti _ fun items h => (go_some (ti := fun _ M Q => Q items (fun _ => True) M) C (fun Q h => h) (hl items h) trivial (hs items h) (q items h) : dLc vs (fun _ M Q => Q items (fun _ => True) M) g dYes te ρ M R)
end
end DL

set_option Elab.async false
set_option linter.all false
set_option maxHeartbeats 4000000
set_option maxRecDepth 100000
/-! D-layer, part 20: memories with more lists and dicts; lists that are drawn from. -/
namespace DL
open PySem PySem.Spec PyProof.Rows L2
def ExtO (M M2 : Mem) : Prop := ∀ c, M2 c = M c ∨ (M c = none ∧ ∃ o, M2 c = some o ∧ o.own)
theorem ExtO.refl {M : Mem} : ExtO M M := fun _ => .inl rfl
theorem ExtO.keep {M M2 : Mem} {c : Addr} {o : MO} (x : ExtO M M2) (h : M c = some o) : M2 c = some o := by
  rcases x c with h' | ⟨h', _⟩
  · rw [h']; exact h
  · rw [h] at h'; cases h'
theorem ExtO.view {K : PySem.W.Frag} {M M2 : Mem} (x : ExtO M M2) : MView K M2 M := fun z H A => by
  have fr : Frame M2 H M H := fun c _ n => ⟨rfl, by
    rcases x c with e | ⟨e, _⟩
    · rw [← e]; exact n
    · exact e⟩
  refine ⟨A.step fr fun a o e => .inl ?_, fr⟩
  have ea : M2 a = some o := x.keep e
  refine ⟨ea, rfl, fun ks b eo => ⟨?_, rfl⟩⟩
  subst eo
  have hb := A.deckAt ea
  rcases x b with h | ⟨_, o, h, ho⟩
  · exact h.symm
  · rw [h] at hb; cases hb; exact ho.elim
theorem ExtO.ends {K : PySem.W.Frag} {M M2 : Mem} {R : RK} {d : D} (x : ExtO M M2) (q : R d M) : (endsOf K R).rt d M2 := .inr ⟨d, M, View.mem x.view fun c n => by
  rcases x c with e | ⟨e, _⟩
  · rw [← e]; exact n
  · exact e, q⟩
theorem ExtO.nn {M M2 : Mem} {p : Addr} (x : ExtO M M2) (h : M2 p = none) : M p = none := by
  rcases x p with h' | ⟨h', _⟩
  · rw [← h']; exact h
  · exact h'
theorem ExtO.upd {M M2 : Mem} {p : Addr} {o : MO} (x : ExtO M M2) (h : M p = none) (ho : o.own) : ExtO M (mset M2 p o) := fun c => by
  by_cases e : c = p
  · subst e; exact .inr ⟨h, o, mset_same, ho⟩
  · rw [mset_ne e]; exact x c
theorem ExtO.updL {M M2 : Mem} {p : Addr} {ds : List D} (x : ExtO M M2) (h : M p = none) : ExtO M (mset M2 p (.lst ds)) := x.upd h trivial
theorem ExtO.updD {M M2 : Mem} {p : Addr} {ks : List Key} {ds : List D} (x : ExtO M M2) (h : M p = none) : ExtO M (mset M2 p (.dct ks ds)) := x.upd h trivial
theorem ExtO.new {M M2 : Mem} {p : Addr} {ds : List D} (x : ExtO M M2) (h : M2 p = none) : ExtO M (mset M2 p (.lst ds)) := x.updL (x.nn h)
theorem ExtO.deck {M M2 : Mem} {a : Addr} (x : ExtO M M2) (d : Deck M a) : Deck M2 a := by
  obtain ⟨b, h1, h2⟩ := d
  exact ⟨b, x.keep h1, x.keep h2⟩
theorem ExtO.trans {M M1 M2 : Mem} (x : ExtO M M1) (y : ExtO M1 M2) : ExtO M M2 := fun c => by
  rcases y c with e | ⟨e, o, h, ho⟩
  · rw [e]; exact x c
  · exact .inr ⟨x.nn e, o, h, ho⟩
theorem tyM_l {M : Mem} {p : Addr} {xs : List D} (h : M p = some (.lst xs)) : tyM "list" (.ref p) M := .inr (.inl ⟨rfl, xs, .inr ⟨p, rfl, h⟩⟩)
theorem app_at {M : Mem} {R : RK} {p : Addr} {xs : List D} {x : D} (h : M p = some (.lst xs)) (hl : xs.length ≤ 1000) (q : R .non (mset M p (.lst (xs ++ [x])))) : dAppend (.ref p) [x] M R :=
  ⟨p, xs, x, rfl, rfl, h, Nat.lt_of_le_of_lt hl (by decide), q⟩
theorem pop_at {M : Mem} {R : RK} {p : Addr} {xs : List D} {i : Int} (h : M p = some (.lst xs)) (hl : xs.length ≤ 1000) (h0 : 0 ≤ i) (h1 : i < xs.length) (q : ∀ k y, k < xs.length → y ∈ xs → R y (mset M p (.lst (xs.eraseIdx k)))) : dPopAt (.ref p) [.int i] M R := by
  obtain ⟨j, rfl⟩ := Int.eq_ofNat_of_zero_le h0
  have hj : j < xs.length := by omega
  refine ⟨p, xs, (j : Int), j, xs[j], rfl, rfl, h, by omega, by omega, ?_, List.getElem?_eq_getElem hj, q j _ hj (List.getElem_mem hj)⟩
  unfold seqIndex?
  simp only [Int.not_lt.mpr h0, if_false]
  rw [if_pos (by simp; omega)]
  simp
theorem erase_mem {xs : List D} {k : Nat} {d : D} (h : d ∈ xs.eraseIdx k) : d ∈ xs := List.mem_of_mem_eraseIdx h
theorem ext_at {M : Mem} {R : RK} {p p2 : Addr} {xs ys : List D} (h : M p = some (.lst xs)) (h2 : M p2 = some (.lst ys)) (hl : xs.length + ys.length ≤ 100000) (q : R .non (mset M p (.lst (xs ++ ys)))) : dExtendM (.ref p) [.ref p2] M R :=
  ⟨p, p2, xs, ys, rfl, rfl, h, h2, Nat.le_trans hl (by decide), q⟩
end DL

set_option Elab.async false
set_option linter.all false
set_option maxHeartbeats 4000000
set_option maxRecDepth 100000
/-! D-layer, part 21: sorted texts of any number, the greatest of a list, endswith, a list that is extended by a tuple. -/
namespace DL
open PySem PySem.Spec PyProof.Rows L2
/-! ### texts in order -/
def sv : Value → List Nat
  | .str x _ => x.cps.toList
  | _ => []
def stOf : Value → Str
  | .str x _ => x
  | _ => ⟨#[]⟩
def ltSv (v u : Value) : Bool := decide (sv v < sv u)
theorem swo_txt : SrtO.Swo ltSv := by
  refine ⟨fun x y h => ?_, fun x y z h1 h2 => ?_⟩
  · have a := of_decide_eq_true (p := sv x < sv y) h
    exact decide_eq_false (p := sv y < sv x) (List.lt_asymm a)
  · have a := of_decide_eq_false (p := sv y < sv x) h1
    have b := of_decide_eq_false (p := sv z < sv y) h2
    exact decide_eq_false (p := sv z < sv x) (List.not_lt.mpr (List.le_trans (List.not_lt.mp a) (List.not_lt.mp b)))
theorem txt_mem : ∀ {vs : List Value} {xs : List Str}, StrsAre vs xs → ∀ v ∈ vs, ∃ x t, v = Value.str x t
  | _, _, .nil, v, h => absurd h (by simp)
  | _, _, .cons x t r, v, h => by
    rcases List.mem_cons.mp h with e | h
    · exact ⟨x, t, e⟩
    · exact txt_mem r v h
theorem txt_of : ∀ {vs : List Value}, (∀ v ∈ vs, ∃ x t, v = Value.str x t) → StrsAre vs (vs.map stOf)
  | [], _ => .nil
  | v :: vs, h => by
    obtain ⟨x, t, e⟩ := h v List.mem_cons_self
    subst e
    exact .cons x t (txt_of fun u hu => h u (List.mem_cons_of_mem _ hu))
theorem of_txt : ∀ {vs : List Value} {xs : List Str}, StrsAre vs xs → vs.map stOf = xs
  | _, _, .nil => rfl
  | _, _, .cons x t r => congrArg (x :: ·) (of_txt r)
section
variable {prog : Program} {w : World} {A : Around} {E : Value → Shared → Prop} {s : Shared}
theorem txt_cmp {vs : List Value} {xs : List Str} (hI : StrsAre vs xs) : SrtO.Cmp prog w A s oneType' (fun p => p.1 ∈ vs) (SrtO.lt2 ltSv) := by
  intro p q hm hm'
  obtain ⟨a, t, e⟩ := txt_mem hI _ hm
  obtain ⟨b, u, e'⟩ := txt_mem hI _ hm'
  show wpAny (model prog w) A (keyLt' oneType' p.1 q.1) (fun r s' => s' = s ∧ r = ltSv p.1 q.1) (fun _ _ => False) s
  rw [e, e', keyLt'_oneType]
  exact oneLt_str ⟨rfl, rfl⟩
theorem txt_sortable {a : Addr} {vs : List Value} {xs : List Str} (hI : StrsAre vs xs) (h2 : 2 ≤ vs.length) : SrtO.SortableO prog w A s a vs ltSv := by
  intro h' _
  refine ⟨oneType', fun Q E hq => ?_, txt_cmp hI⟩
  match vs, hI, h2 with
  | v1 :: v2 :: rest, hI, _ =>
    rw [keyKind_strs hI]
    exact wpAny_pure hq
  | [], _, h => exact absurd h (by decide)
  | [v], _, h => exact absurd h (by simp)
end
def Asc (ys : List Str) : Prop := ys.Pairwise fun a b => ¬ b.cps.toList < a.cps.toList
theorem txt_out {vs out : List Value} {xs : List Str} (hI : StrsAre vs xs) (hs : SrtO.Srtd ltSv out) (hb : SrtO.Stb ltSv out vs) : StrsAre out (out.map stOf) ∧ (out.map stOf).Perm xs ∧ Asc (out.map stOf) := by
  have hm : ∀ v ∈ out, ∃ x t, v = Value.str x t := fun v hv => txt_mem hI v (hb.perm.mem_iff.mp hv)
  refine ⟨txt_of hm, ?_, ?_⟩
  · have q := hb.perm.map stOf
    rw [of_txt hI] at q
    exact q
  · refine List.pairwise_map.mpr (List.Pairwise.imp_of_mem (fun {x y} hx hy h => ?_) hs)
    obtain ⟨a, t, rfl⟩ := hm x hx
    obtain ⟨b, u, rfl⟩ := hm y hy
    exact of_decide_eq_false (p := b.cps.toList < a.cps.toList) h
section
variable {X : Cx}
def rSortTx (K : PySem.W.Frag) : List V → Hp → VK → Prop := fun vs H Q => ∃ (a : Addr) (xs : List Str), vs = [V.ref a] ∧ SqL K H a (xs.map V.str) ∧
  ∀ (ys : List Str) (p : Addr), ys.Perm xs → Asc ys → H p = none → Q (.ref p) (upd H p (.lst (ys.map V.str)))
theorem cr_sortTx : CallR X (.builtin "sorted") (rSortTx X.K) := by
  intro pins s σ H vs us Q I r h
  obtain ⟨a, xs, rfl, hs, q⟩ := h
  obtain ⟨its, rv, hl, hz⟩ := I.list hs
  rw [Vals.ref1 r]
  have hi := rv.strs
  refine SrtO.sorted_ord swo_txt hl.isList (by rw [← rv.length]; exact hz) (fun h2 _ _ _ _ => txt_sortable hi h2) fun out h1 h2 => ?_
  obtain ⟨k1, k2, k3⟩ := txt_out hi h1 h2
  obtain ⟨ep, he'⟩ := sortedAll_at s.heap its out.toArray
  have hlen : ((out.map stOf).map V.str).length ≤ sizeLine := by
    rw [List.length_map, k2.length_eq]
    rw [List.length_map] at hz
    exact hz
  exact ⟨.ref _, upd H (s.heap.objs.size + 1) (.lst ((out.map stOf).map V.str)), I.laid (t' := s.toks) (fun _ _ => sortedAll_old) (Nat.le_succ _) ⟨hlen, out, ep, vals_of_strs k1, he'⟩, rfl, q _ _ k2 k3 (I.hok.fresh (Nat.le_succ _))⟩
theorem txs_of {K : KZ} {M : Mem} {H : Hp} : ∀ {vs : List V} (xs : List Str), Reps K M H vs (xs.map .str) → vs = xs.map .str
  | _, [], h => by cases h; rfl
  | _, x :: xs, h => by
    cases h with
    | cons r t =>
      cases r
      rw [txs_of xs t]
      rfl
theorem Reps.txs {K : KZ} {M : Mem} {H : Hp} : ∀ (xs : List Str), Reps K M H (xs.map .str) (xs.map .str)
  | [] => .nil
  | x :: xs => .cons (.str x) (Reps.txs xs)
/-- sorted(x), x a list of texts: a frozen one -/
def dSorted : DN := fun xs M R => ∃ x, ∃ zs : List Str, xs = [x] ∧ ListAt M x (zs.map .str) ∧ ∀ ys : List Str, ys.Perm zs → Asc ys → R (.lst (ys.map .str)) M
theorem cd_sorted : CallR X (.builtin "sorted") (liftN X.K dSorted) := cr_sortTx.weak fun xs H Q ⟨z, M, ds, R, A, r, ⟨x, zs, e, h, q⟩, F⟩ => by
  subst e
  cases r with
  | cons r rs =>
    cases rs
    obtain ⟨a, vs, rfl, hq, rv⟩ := rep_list A r h
    obtain rfl := txs_of zs rv
    exact ⟨a, zs, rfl, hq, fun ys p h1 h2 hp => F.lst A hp (Reps.txs ys) (q ys h1 h2)⟩
/-- the greatest of a list of integers -/
def dMaxL : DN := fun xs M R => ∃ x, ∃ ns : List Int, xs = [x] ∧ ListAt M x (ns.map .int) ∧ 0 < ns.length ∧ ∀ m, m ∈ ns → (∀ y ∈ ns, y ≤ m) → R (.int m) M
theorem cd_maxL (hc : X.calm = true) : CallR X (.builtin "max") (liftN X.K dMaxL) := (cr_max hc).weak fun xs H Q ⟨z, M, ds, R, A, r, ⟨x, ns, e, h, h0, q⟩, F⟩ => by
  subst e
  cases r with
  | cons r rs =>
    cases rs
    obtain ⟨a, vs, rfl, hq, rv⟩ := rep_list A r h
    obtain rfl := Reps.of_ints ns rv
    exact ⟨a, ns, rfl, hq, h0, fun m h1 h2 => F.at_ A (q m h1 h2) (.int _)⟩
/-- xs.extend(t), t a tuple -/
theorem ext_tup (l : Addr) (its : Array Value) (n : Nat) (b : Addr) (us : Array Value) (m : Nat) (dd : Option Addr) (sl : Array (Option Value)) (h0 : ¬(!its.isEmpty && Builtin.List.listTooLong (its.size + us.size)) = true) (h1 : its.size ≤ sizeLine) (h2 : its.size + us.size ≤ sizeLine + 1) :
    Meets (Builtin.«list.extend» ⟨[.ref l, .ref b], []⟩) (fun _ R s => s.heap.get? l = some { cls := .type "list", dict := none, data := .seq its n, slots := #[] } ∧ (s.heap.get? b = some { cls := .type "tuple", dict := dd, data := .seq us m, slots := sl }) ∧ R (.ok (.ret .none)) { s with heap := s.heap.update l (Obj.mapSeq (· ++ us)), toks := s.toks }) :=
  .of_wp fun prog w A R s h => by
    obtain ⟨hp, g, d, tk, os⟩ := s
    obtain ⟨hl, hb, h⟩ := h
    have f1 := AutoSeq1.idx_int
    have f2 := AutoSeq1.sub_tuple_tuple
    have f3 := AutoSeq1.sub_list_list
    have f4 := AutoSeq1.sub_tuple_list
    have f5 := AutoSeq1.sub_list_tuple
    have hz : (its ++ us).size ≤ sizeLine + 1 := by rw [Array.size_append]; exact h2
    wp_walk using (wpAny_updateSeq hl rfl (hz := h1) (_hz' := hz)), wpAny_loadPart' hl, wpAny_loadPart' hb
    exact ⟨_, rfl, h⟩
def rExtTup (K : PySem.W.Frag) : V → List V → Hp → VK → Prop := fun x vs H Q => ∃ l b xs zs, x = .ref l ∧ vs = [.ref b] ∧ H l = some (.lst xs) ∧ SqT K H b zs ∧ xs.length + zs.length ≤ sizeLine ∧ Q .non (upd H l (.lst (xs ++ zs)))
theorem mt_extTup : MtM X "list.extend" (rExtTup X.K) := by
  intro pins s σ H x vs v us Q I rx rv h
  obtain ⟨l, b, xs, zs, rfl, rfl, hH, hB, hz, q⟩ := h
  cases rx
  obtain ⟨u, rfl, ru⟩ := rv.one
  cases ru
  obtain ⟨z, its, n, r, hl, e⟩ := I.lstM hH
  obtain ⟨its2, r2, ⟨⟨cls2, dd2, data2, sl2⟩, e2, hc2, n2, hq2⟩, z2⟩ := I.tuple hB
  simp only at hc2 hq2
  subst hc2 hq2
  have l1 := r.length
  have l2 := r2.length
  have hsz : its.toArray.size + its2.toArray.size ≤ sizeLine := by rw [List.size_toArray, List.size_toArray]; omega
  have hlong : ¬ (!its.toArray.isEmpty && Builtin.List.listTooLong (its.toArray.size + its2.toArray.size)) = true := by
    rw [notLongL hsz, Bool.and_false]
    exact Bool.false_ne_true
  refine call_meets PySem.F.slot_list_extend ⟨_, e, rfl⟩ PySem.F.entry_list_extend (PySem.F.args_list_extend_2 _ _)
    (ext_tup l its.toArray n b its2.toArray n2 dd2 sl2 hlong (by rw [List.size_toArray]; omega) (by omega)) ⟨e, e2, ?_⟩
  refine ⟨.non, _, I.lset (its' := its ++ its2) hH e (by simp) (r.append r2) ?_, rfl, q⟩
  rw [List.length_append]
  omega
def dExtendT : DM := fun d xs M R => ∃ a ds es, d = .ref a ∧ xs = [.tup es] ∧ M a = some (.lst ds) ∧ ds.length + es.length ≤ sizeLine ∧ R .non (mset M a (.lst (ds ++ es)))
theorem md_extendT : MtR X "list.extend" (liftM X.K dExtendT) := mt_extTup.toR.weak fun x xs H Q ⟨z, M, d, ds, R, A, r1, r2, ⟨a, es, fs, e1, e2, hm, hl, q⟩, F⟩ => by
  subst e1 e2
  obtain rfl := rep_ref r1
  obtain ⟨vs, ea, rs⟩ := A.at_ _ _ hm
  cases r2 with
  | cons r2 r3 =>
    cases r3
    obtain ⟨b, us, rfl, h, rb⟩ := rep_tup r2
    exact ⟨a, b, vs, us, rfl, rfl, ea, h.sq, by rw [rs.length, rb.length]; exact hl, F.wrL A hm (rs.append rb) .non q⟩
def dEndswith : DM := fun d xs M R => ∃ a b, d = .str a ∧ xs = [.str b] ∧ R (.bl (Txt.endswith a b)) M
theorem md_endswith : MtR X "str.endswith" (liftM X.K dEndswith) := mt_endswith.weak fun x xs H Q ⟨z, M, d, ds, R, A, r1, r2, ⟨a, b, e1, e2, q⟩, F⟩ => by
  subst e1 e2
  obtain rfl := txs_of [b] r2
  exact ⟨a, b, rep_str r1, rfl, F.at_ A q (.bl _)⟩
end
end DL

set_option Elab.async false
set_option linter.all false
set_option maxHeartbeats 4000000
set_option maxRecDepth 100000
/-! D-layer, part 22: a text turned round; is not True. -/
namespace DL
open PySem PySem.Spec PyProof.Rows L2
theorem txt_back (z : Str) : (⟨((Builtin.Str.strSliceIndices none none (-1) z.length).filterMap (z.cps[·]?)).toArray⟩ : Str) = ⟨z.cps.toList.reverse.toArray⟩ := by
  have e : Builtin.Str.strSliceIndices none none (-1) z.length = (List.range z.cps.size).reverse := by
    show sliceRange ((z.cps.size : Int) - 1) (-1) (-1) = _
    rw [PySem.W.krv_sliceRange, PySem.W.krv_range]
  rw [e, List.filterMap_reverse, PySem.W.krv_all]
section
variable {X : Cx} {e : Expr} {pos : Pos}
def revS (z : Str) : Str := ⟨z.cps.toList.reverse.toArray⟩
theorem revS_len {z : Str} : (revS z).length = z.length := by
  show (z.cps.toList.reverse.toArray).size = z.cps.size
  simp
theorem revS_ascii {z : Str} (h : ascii z = true) : ascii (revS z) = true := by
  unfold ascii at *
  rw [List.all_eq_true] at h ⊢
  intro c hc
  exact h c (by simpa [revS] using hc)
def tRevTx (te : TE) : TE := fun σ H Q => te σ H fun x H1 => ∃ z : Str, x = .str z ∧ z.length ≤ sizeLine ∧ Q (.str (revS z)) H1
theorem pe_revTx {te : TE} {k : Nat} {p1 p2 p3 : Pos} (he : PE X e te) : PE X (.Subscript e (.Slice none none (some (.UnaryOp .USub (.Constant (.int 1) k p1) p2)) p3) pos) (tRevTx te) := by
  refine ⟨fun pins s σ H Q I h => ?_⟩
  refine Subscript_ (thn (he.run pins s σ H _ I h) fun v s1 ⟨x, H1, I1, r1, z, ex, hz, q⟩ => ?_)
  subst ex
  obtain ⟨t, rfl⟩ := r1
  have hst : PO X (some (.UnaryOp .USub (.Constant (.int 1) k p1) p2)) (tPart (tUn (rU fun i => .int (-i)) (tC (.int 1)))) := po_some (pe_un un_neg pe_int)
  refine wpAny_Slice (thn (po_none.run pins s1 σ H1 (fun o H2 => o = none ∧ H2 = H1) I1 ⟨rfl, rfl⟩) fun vl s2 ⟨l, H2, I2, pl, el, e2⟩ => ?_)
  subst el e2
  refine thn (po_none.run pins s2 σ H2 (fun o H3 => o = none ∧ H3 = H2) I2 ⟨rfl, rfl⟩) fun vu s3 ⟨u, H3, I3, pu, eu, e3⟩ => ?_
  subst eu e3
  refine thn (hst.run pins s3 σ H3 (fun o H4 => o = some (-1) ∧ H4 = H3) I3 ⟨1, rfl, -1, rfl, rfl, rfl⟩) fun vs s4 ⟨o, H4, I4, ps, eo, e4⟩ => ?_
  subst eo e4
  have I5 : Inv X pins σ H4 { s4 with heap := s4.heap.push { cls := .type "slice", data := .fields #[vl, vu, vs] } } := I4.kept (t' := s4.toks) fun b ob q => Heap.get?_push_of_some _ q
  obtain rfl : vl = .none := by cases pl; rfl
  obtain rfl : vu = .none := by cases pu; rfl
  obtain ⟨tk, rfl⟩ : ∃ tk, vs = .int (-1) tk := by cases ps; exact ⟨_, rfl⟩
  refine tail_any (ops := [.str z t, .ref s4.heap.objs.size]) (typeIs_str _ _ _) (PySem.F.slot_str_getitem.lookup) ?_ (by with_unfolding_all rfl)
  refine wpAny_getItem_str_slice (l := none) (u := none) (st := some (-1, tk)) ⟨_, Heap.get?_push_size _ rfl, rfl, rfl⟩ (by rfl) ?_
  show Made.post (Made.str ⟨((Builtin.Str.strSliceIndices none none (-1) z.length).filterMap (z.cps[·]?)).toArray⟩) (EP X pins σ Q) _
  rw [txt_back]
  refine ⟨?_, .str _, H4, I5.tok _, ⟨_, rfl⟩, q⟩
  show (revS z).length ≤ sizeLine
  rw [revS_len]
  exact hz
def dRevS (te : DE) : DE := fun ρ M R => te ρ M fun x M1 => ∃ z : Str, x = .str z ∧ z.length ≤ sizeLine ∧ R (.str (revS z)) M1
theorem de_revS {te : DE} {k : Nat} {p1 p2 p3 : Pos} (he : PED X e te) : PED X (.Subscript e (.Slice none none (some (.UnaryOp .USub (.Constant (.int 1) k p1) p2)) p3) pos) (dRevS te) :=
  (pe_revTx he).weak fun σ H Q ⟨z, ρ, M, R, S, A, q, F⟩ => ⟨z, ρ, M, _, S, A, q, fun x M1 v H1 ⟨y, e1, e2, q1⟩ r1 A1 f1 => by
    subst e1
    exact ⟨y, rep_str r1, e2, F _ _ _ _ q1 (.str _) A1 f1⟩⟩
/-- x is True, x is not True, x a truth -/
def dIsB : D2 := fun x y M R => ∃ c d, x = .bl c ∧ y = .bl d ∧ R (.bl (c == d)) M
def dNotB : D2 := fun x y M R => ∃ c d, x = .bl c ∧ y = .bl d ∧ R (.bl (c != d)) M
theorem op_isB : OpR X (compareOp .Is) (fun x y H Q => ∃ c d, x = .bl c ∧ y = .bl d ∧ Q (.bl (c == d)) H) := by
  intro pins s σ H x y v u Q I rx ry h
  obtain ⟨c, d, rfl, rfl, q⟩ := h
  cases rx
  cases ry
  exact is_bool (fin_bl I q rfl)
theorem op_notB : OpR X (compareOp .IsNot) (fun x y H Q => ∃ c d, x = .bl c ∧ y = .bl d ∧ Q (.bl (c != d)) H) := by
  intro pins s σ H x y v u Q I rx ry h
  obtain ⟨c, d, rfl, rfl, q⟩ := h
  cases rx
  cases ry
  exact isnot_bool (fin_bl I q rfl)
theorem od_isB : OpR X (compareOp .Is) (lift2 X.K dIsB) := op_isB.weak fun v u H Q ⟨z, M, x, y, R, A, rx, ry, ⟨c, d, e1, e2, q⟩, F⟩ => by
  subst e1 e2
  exact ⟨c, d, rep_bl rx, rep_bl ry, F.at_ A q (.bl _)⟩
theorem od_notB : OpR X (compareOp .IsNot) (lift2 X.K dNotB) := op_notB.weak fun v u H Q ⟨z, M, x, y, R, A, rx, ry, ⟨c, d, e1, e2, q⟩, F⟩ => by
  subst e1 e2
  exact ⟨c, d, rep_bl rx, rep_bl ry, F.at_ A q (.bl _)⟩
end
end DL

set_option Elab.async false
set_option linter.all false
set_option maxHeartbeats 4000000
set_option maxRecDepth 100000
/-! D-layer, part 23: a list of either kind and the empty list. -/
namespace DL
open PySem PySem.Spec PyProof.Rows L2
section
variable {X : Cx}
theorem nil_run {pins : List (Addr × Obj)} {s : Shared} {σ : L2.St} {H : Hp} {z : Addr → Prop} {M : Mem} {v u : V} {x : D} {ds : List D} {a b : Value} (hu : X.A.units + 64 < cLine) (I : Inv X pins σ H s) (A : MAbs ⟨X.K, z⟩ M H)
    (rv : RelV v a) (ru : RelV u b) (rx : Rep ⟨X.K, z⟩ M H v x) (ry : Rep ⟨X.K, z⟩ M H u (.lst [])) (h : ListAt M x ds) : SeqAt.RcAt X.A s a b ds.isEmpty ∧ SeqAt.RcNeAt X.A s a b (!ds.isEmpty) := by
  have hu0 : X.A.units < cLine := by omega
  obtain ⟨l, us, rfl, hr, rs⟩ := rep_list A rx h
  obtain ⟨l2, us2, rfl, hr2, rs2⟩ := rep_lst ry
  cases rv
  cases ru
  cases rs2
  obtain ⟨its, r1, p1, _⟩ := I.list hr
  obtain ⟨its2, r2, p2, _⟩ := I.list hr2.sq
  cases r2
  have e : its.length = ds.length := by rw [← r1.length]; exact rs.length
  cases ds with
  | nil =>
    cases rs
    cases r1
    constructor
    · simpa using SeqAt.RcAt.lists (e := fun _ => true) p1.isList p2.isList rfl hu0 fun j _ h2 => (Nat.not_lt_zero _ h2).elim
    · simpa using SeqAt.RcNeAt.lists (e := fun _ => true) p1.isList p2.isList rfl hu0 fun j _ h2 => (Nat.not_lt_zero _ h2).elim
  | cons d ds =>
    have hne : (its.toArray.size != ([] : List Value).toArray.size) = true := by
      rw [List.size_toArray, e]
      simp
    exact ⟨SeqAt.RcAt.lists_lengths p1.isList p2.isList hne hu0, SeqAt.RcNeAt.lists_lengths p1.isList p2.isList hne hu0⟩
def dEqL : D2 := fun x y M R => ∃ ds, ListAt M x ds ∧ y = .lst [] ∧ R (.bl ds.isEmpty) M
def dNeL : D2 := fun x y M R => ∃ ds, ListAt M x ds ∧ y = .lst [] ∧ R (.bl !ds.isEmpty) M
theorem od_eqL (hu : X.A.units + 64 < cLine) : OpR X (compareOp .Eq) (lift2 X.K dEqL) := by
  intro pins s σ H x y v u Q I rx ry ⟨z, M, dx, dy, R, A, r1, r2, ⟨ds, h, e, q⟩, F⟩
  subst e
  exact (nil_run hu I A rx ry r1 r2 h).1 _ _ _ _ ⟨.bl _, H, I, rfl, F.at_ A q (.bl _)⟩
theorem od_neL (hu : X.A.units + 64 < cLine) : OpR X (compareOp .NotEq) (lift2 X.K dNeL) := by
  intro pins s σ H x y v u Q I rx ry ⟨z, M, dx, dy, R, A, r1, r2, ⟨ds, h, e, q⟩, F⟩
  subst e
  exact (nil_run hu I A rx ry r1 r2 h).2 _ _ _ _ ⟨.bl _, H, I, rfl, F.at_ A q (.bl _)⟩
end
end DL

set_option Elab.async false
set_option linter.all false
set_option maxHeartbeats 4000000
set_option maxRecDepth 100000
/-! D-layer, part 24: a list's item is put, lists are joined into one that may change, a list again and again, the place in a tuple, a list extended by a frozen one, the keys of a dict in order. -/
namespace DL
open PySem PySem.Spec PyProof.Rows L2
section
variable {X : Cx}
/-- xs[i] = v -/
def dLPut (ta tb tv : DE) : DS := fun D0 ρ M => tv ρ M fun d M1 => ta ρ M1 fun x M2 => tb ρ M2 fun y M3 => ∃ (a : Addr) (ds : List D) (k : Int) (j : Nat), x = .ref a ∧ y = .int k ∧ M3 a = some (.lst ds) ∧ L2.ixN ds.length k = some j ∧ D0.nx ρ (mset M3 a (.lst (ds.set j d)))
theorem ds_lput {o i value : Expr} {ta tb tv : DE} {pos pos' : Pos} (ho : PED X o ta) (hi : PED X i tb) (hv : PED X value tv)
    (hs : swapsWithSole [.Subscript o i pos'] value pos.line X.env = pure false := by rfl) (hw : swappedStores [.Subscript o i pos'] value X.env = pure none := by rfl)
    (ha : ∀ v, assign (.Subscript o i pos') X.env v = (do
      let ov ← holding [v] (eval o X.env)
      let iv ← holding [v, ov] (eval i X.env)
      standAt pos'
      holding [v, ov, iv] (setItem ov iv v)
      release [v, ov, iv] []) := by intro _; rfl) : PSD X (.Assign [.Subscript o i pos'] value pos) (dLPut ta tb tv) :=
  (ps_asg hv (pg_sub ho hi set_list ha) hs hw).weak fun D σ H ⟨z, ρ, M, D0, S, A, q, L⟩ => ⟨z, ρ, M, _, S, A, q, fun d M1 v H1 q1 r1 A1 f1 => ⟨z, ρ, M1, _, S.fr f1, A1, q1, fun x M2 u H2 q2 r2 A2 f2 =>
    ⟨z, ρ, M2, _, S.fr (f1.trans f2), A2, q2, fun y M3 w H3 ⟨a, ds, k, j, ex, ey, em, hj, q3⟩ r3 A3 f3 => by
      subst ex ey
      obtain rfl := rep_int r3
      obtain rfl := rep_ref r2
      obtain ⟨vs, ea, rs⟩ := A3.at_ _ _ em
      have rv := r1.fr (f2.trans f3)
      refine ⟨a, vs, k, j, rfl, rfl, ea, by rw [rs.length]; exact hj, ?_⟩
      have fw : Frame M3 H3 (mset M3 a (.lst (ds.set j d))) (upd H3 a (.lst (vs.set j v))) := Frame.wr em
      exact L.nx _ _ _ _ q3 ((((S.fr f1).fr f2).fr f3).fr fw) (A3.wr em trivial ⟨_, upd_same, (rs.set j rv).fr fw⟩) (((f1.trans f2).trans f3).trans fw)⟩⟩⟩
/-- xs + ys, the new list one that may change -/
def dAddM : D2 := fun x y M R => ∃ xs ys, ListAt M x xs ∧ ListAt M y ys ∧ xs.length + ys.length ≤ sizeLine ∧ ∀ p, M p = none → R (.ref p) (mset M p (.lst (xs ++ ys)))
theorem od_addM : OpR X (binaryOp .Add) (lift2 X.K dAddM) := op_catL.weak fun v u H Q ⟨z, M, x, y, R, A, rx, ry, ⟨xs, ys, h1, h2, hl, q⟩, F⟩ => by
  obtain ⟨a, vs, rfl, ha, ra⟩ := rep_list A rx h1
  obtain ⟨b, us, rfl, hb, rb⟩ := rep_list A ry h2
  exact ⟨a, b, vs, us, rfl, rfl, ha, hb, by rw [ra.length, rb.length]; exact hl, fun p hp => F.lstM A hp (ra.append rb) (q p (A.free hp))⟩
/-- [..] * k, the left one fresh: a frozen list -/
def dRepL : D2 := fun x y M R => ∃ (a : Addr) (xs : List D) (k : Int), x = .ref a ∧ y = .int k ∧ M a = some (.lst xs) ∧ -(2 ^ 63) ≤ k ∧ k < 2 ^ 63 ∧ xs.length * k.toNat ≤ sizeLine ∧ R (.lst (List.replicate k.toNat xs).flatten) M
theorem od_repL : OpR X (binaryOp .Mult) (lift2 X.K dRepL) := op_rep.weak fun v u H Q ⟨z, M, x, y, R, A, rx, ry, ⟨a, xs, k, e1, e2, em, h1, h2, hl, q⟩, F⟩ => by
  subst e1 e2
  obtain rfl := rep_ref rx
  obtain ⟨vs, ea, rs⟩ := A.at_ _ _ em
  exact ⟨a, k, vs, rfl, rep_int ry, ea, h1, h2, by rw [rs.length]; exact hl, fun p hp => F.lst A hp (rs.rep _) q⟩
/-- t.index(x), texts -/
def dIndexT : DM := fun d xs M R => ∃ (ys : List Str) (z : Str) (j : Nat), d = .tup (ys.map .str) ∧ xs = [.str z] ∧ ys[j]? = some z ∧ (∀ m, m < j → ys[m]? ≠ some z) ∧ R (.int (j : Nat)) M
theorem md_indexT : MtR X "tuple.index" (liftM X.K dIndexT) := mt_tup_index.weak fun x xs H Q ⟨z, M, d, ds, R, A, r1, r2, ⟨ys, s, j, e1, e2, h1, h2, q⟩, F⟩ => by
  subst e1 e2
  obtain ⟨a, vs, rfl, h, rs⟩ := rep_tup r1
  obtain rfl := txs_of ys rs
  obtain rfl := txs_of [s] r2
  exact ⟨a, ys, s, j, rfl, rfl, h.sq, h1, h2, F.at_ A q (.int _)⟩
def tyTup (d : D) : Prop := ∃ ds, d = .tup ds
/-- sorted(d), d a dict with texts as keys -/
def dSortedK : DN := fun xs M R => ∃ x, ∃ zs : List Str, ∃ ds : List D, xs = [x] ∧ (x = .dct (zs.map .inr) ds ∨ ∃ a, x = .ref a ∧ M a = some (.dct (zs.map .inr) ds)) ∧ zs.length < 64 ∧ ∀ ys : List Str, ys.Perm zs → sortedS ys = true → R (.lst (ys.map .str)) M
theorem cd_sortedK (hc : X.calm = true) : CallR X (.builtin "sorted") (liftN X.K dSortedK) := (call_sortedD hc).weak fun xs H Q ⟨z, M, ds, R, A, r, ⟨x, zs, es, e, h, hl, q⟩, F⟩ => by
  subst e
  cases r with
  | cons r rs =>
    cases rs
    rcases h with rfl | ⟨a, rfl, em⟩
    · obtain ⟨a, kvs, rfl, ⟨h, _⟩, e1, _⟩ := rep_dct r
      exact ⟨a, kvs, zs, rfl, h, e1, hl, fun ys p h1 h2 hp => F.lst A hp (Reps.txs ys) (q ys h1 h2)⟩
    · obtain rfl := rep_ref r
      obtain ⟨kvs, ea, e1, _⟩ := A.at_ _ _ em
      exact ⟨a, kvs, zs, rfl, .inl ea, e1, hl, fun ys p h1 h2 hp => F.lst A hp (Reps.txs ys) (q ys h1 h2)⟩
/-- xs.extend(ys), ys any list -/
theorem ext_lst (l : Addr) (its : Array Value) (n : Nat) (b : Addr) (us : Array Value) (m : Nat) (dd : Option Addr) (sl : Array (Option Value)) (h0 : ¬(!its.isEmpty && Builtin.List.listTooLong (its.size + us.size)) = true) (h1 : its.size ≤ sizeLine) (h2 : its.size + us.size ≤ sizeLine + 1) :
    Meets (Builtin.«list.extend» ⟨[.ref l, .ref b], []⟩) (fun _ R s => s.heap.get? l = some { cls := .type "list", dict := none, data := .seq its n, slots := #[] } ∧ (s.heap.get? b = some { cls := .type "list", dict := dd, data := .seq us m, slots := sl }) ∧ R (.ok (.ret .none)) { s with heap := s.heap.update l (Obj.mapSeq (· ++ us)), toks := s.toks }) :=
  .of_wp fun prog w A R s h => by
    obtain ⟨hp, g, d, tk, os⟩ := s
    obtain ⟨hl, hb, h⟩ := h
    have f1 := AutoSeq1.idx_int
    have f2 := AutoSeq1.sub_tuple_tuple
    have f3 := AutoSeq1.sub_list_list
    have f4 := AutoSeq1.sub_tuple_list
    have f5 := AutoSeq1.sub_list_tuple
    have hz : (its ++ us).size ≤ sizeLine + 1 := by rw [Array.size_append]; exact h2
    wp_walk using (wpAny_updateSeq hl rfl (hz := h1) (_hz' := hz)), wpAny_loadPart' hl, wpAny_loadPart' hb
    exact ⟨_, rfl, h⟩
def rExtLst (K : PySem.W.Frag) : V → List V → Hp → VK → Prop := fun x vs H Q => ∃ l b xs zs, x = .ref l ∧ vs = [.ref b] ∧ H l = some (.lst xs) ∧ SqL K H b zs ∧ xs.length + zs.length ≤ sizeLine ∧ Q .non (upd H l (.lst (xs ++ zs)))
theorem mt_extLst : MtM X "list.extend" (rExtLst X.K) := by
  intro pins s σ H x vs v us Q I rx rv h
  obtain ⟨l, b, xs, zs, rfl, rfl, hH, hB, hz, q⟩ := h
  cases rx
  obtain ⟨u, rfl, ru⟩ := rv.one
  cases ru
  obtain ⟨z, its, n, r, hl, e⟩ := I.lstM hH
  obtain ⟨its2, r2, ⟨⟨cls2, dd2, data2, sl2⟩, n2, e2, hc2, hd2, hq2⟩, z2⟩ := I.list hB
  simp only at hc2 hd2 hq2
  subst hc2 hd2 hq2
  have l1 := r.length
  have l2 := r2.length
  have hsz : its.toArray.size + its2.toArray.size ≤ sizeLine := by rw [List.size_toArray, List.size_toArray]; omega
  have hlong : ¬ (!its.toArray.isEmpty && Builtin.List.listTooLong (its.toArray.size + its2.toArray.size)) = true := by
    rw [notLongL hsz, Bool.and_false]
    exact Bool.false_ne_true
  refine call_meets PySem.F.slot_list_extend ⟨_, e, rfl⟩ PySem.F.entry_list_extend (PySem.F.args_list_extend_2 _ _)
    (ext_lst l its.toArray n b its2.toArray n2 none sl2 hlong (by rw [List.size_toArray]; omega) (by omega)) ⟨e, e2, ?_⟩
  refine ⟨.non, _, I.lset (its' := its ++ its2) hH e (by simp) (r.append r2) ?_, rfl, q⟩
  rw [List.length_append]
  omega
def dExtendL : DM := fun d xs M R => ∃ a ds y es, d = .ref a ∧ xs = [y] ∧ M a = some (.lst ds) ∧ ListAt M y es ∧ ds.length + es.length ≤ sizeLine ∧ R .non (mset M a (.lst (ds ++ es)))
theorem md_extendL : MtR X "list.extend" (liftM X.K dExtendL) := mt_extLst.toR.weak fun x xs H Q ⟨z, M, d, ds, R, A, r1, r2, ⟨a, es, y, fs, e1, e2, hm, hy, hl, q⟩, F⟩ => by
  subst e1 e2
  obtain rfl := rep_ref r1
  obtain ⟨vs, ea, rs⟩ := A.at_ _ _ hm
  cases r2 with
  | cons r2 r3 =>
    cases r3
    obtain ⟨b, us, rfl, h, rb⟩ := rep_list A r2 hy
    exact ⟨a, b, vs, us, rfl, rfl, ea, h, by rw [rs.length, rb.length]; exact hl, F.wrL A hm (rs.append rb) .non q⟩
end
end DL

set_option Elab.async false
set_option linter.all false
set_option maxHeartbeats 4000000
set_option maxRecDepth 100000
/-! D-layer, part 25: for k in d, a dict that is a name's value. -/
namespace DL
open PySem PySem.Spec PyProof.Rows L2
def keyD : Key → D
  | .inl i => .int i
  | .inr s => .str s
section
variable {K : KZ} {M : Mem} {H H' : Hp} {a : Addr} {kvs : List (Key × V)} {o : Obj}
theorem rd_lock {b : Addr} {w : HO} (e : H a = some (.dK kvs)) (hb : Rd H b w) : Rd (upd H a (.frz o (.dK kvs))) b w := by
  by_cases h : b = a
  · subst h
    rcases hb with q | ⟨o', q⟩
    · rw [e] at q
      cases q
      exact .inr ⟨o, upd_same⟩
    · rw [e] at q
      cases q
  · unfold Rd
    rw [upd_ne h]
    exact hb
theorem rd_open {b : Addr} {w : HO} (e : H a = some (.frz o (.dK kvs))) (hb : Rd H b w) : w = .frz o (.dK kvs) ∧ b = a ∨ Rd (upd H a (.dK kvs)) b w := by
  by_cases h : b = a
  · subst h
    rcases hb with q | ⟨o', q⟩
    · rw [e] at q
      cases q
      exact .inl ⟨rfl, rfl⟩
    · rw [e] at q
      cases q
      exact .inr (.inl upd_same)
  · refine .inr ?_
    unfold Rd
    rw [upd_ne h]
    exact hb
theorem RdT.rd (h : ∀ b xs, Rd H b (.tup xs) → Rd H' b (.tup xs)) {b : Addr} {xs : List V} : RdT K M H b xs → RdT K M H' b xs
  | .inl ⟨r, n⟩ => .inl ⟨h _ _ r, n⟩
  | .inr k => .inr k
theorem RdL.rd (h : ∀ b xs, Rd H b (.lst xs) → Rd H' b (.lst xs)) {b : Addr} {xs : List V} : RdL K M H b xs → RdL K M H' b xs
  | .inl ⟨r, n, z⟩ => .inl ⟨h _ _ r, n, z⟩
  | .inr k => .inr k
/-- what may be read is what could be read -/
structure Same (H H' : Hp) : Prop where
  t : ∀ b xs, Rd H b (.tup xs) → Rd H' b (.tup xs)
  l : ∀ b xs, Rd H b (.lst xs) → Rd H' b (.lst xs)
  d : ∀ b xs, Rd H b (.dK xs) → Rd H' b (.dK xs)
  b : ∀ c u, Bx u → H c = some u → H' c = some u
theorem bx_dk {u : HO} {kvs : List (Key × V)} (h : Bx u) : u ≠ .dK kvs := fun z => by
  rcases h with ⟨_, e⟩ | ⟨_, e⟩ | ⟨_, _, e⟩ <;> (rw [e] at z; cases z)
theorem bx_frz {u : HO} {kvs : List (Key × V)} {o : Obj} (h : Bx u) : u ≠ .frz o (.dK kvs) := fun z => by
  rcases h with ⟨_, e⟩ | ⟨_, e⟩ | ⟨_, _, e⟩ <;> (rw [e] at z; cases z)
theorem same_lock (e : H a = some (.dK kvs)) : Same H (upd H a (.frz o (.dK kvs))) := ⟨fun _ _ => rd_lock e, fun _ _ => rd_lock e, fun _ _ => rd_lock e, fun c u bx q => by
  rw [upd_ne fun z => by rw [z, e] at q; exact bx_dk bx (Option.some.inj q).symm]
  exact q⟩
theorem same_open (e : H a = some (.frz o (.dK kvs))) : Same H (upd H a (.dK kvs)) :=
  ⟨fun _ _ h => (rd_open e h).elim (fun ⟨q, _⟩ => nomatch q) id, fun _ _ h => (rd_open e h).elim (fun ⟨q, _⟩ => nomatch q) id, fun _ _ h => (rd_open e h).elim (fun ⟨q, _⟩ => nomatch q) id, fun c u bx q => by
  rw [upd_ne fun z => by rw [z, e] at q; exact bx_frz bx (Option.some.inj q).symm]
  exact q⟩
mutual
theorem Rep.same (f : Same H H') : ∀ {v : V} {d : D}, Rep K M H v d → Rep K M H' v d
  | _, _, .non => .non
  | _, _, .bl b => .bl b
  | _, _, .int i => .int i
  | _, _, .str x => .str x
  | _, _, .ty n => .ty n
  | _, _, .ref a => .ref a
  | _, _, .tup h r => .tup (h.rd f.t) (Reps.same f r)
  | _, _, .lst h r => .lst (h.rd f.l) (Reps.same f r)
  | _, _, .dct ⟨h, n, z⟩ e1 e2 r => .dct ⟨f.d _ _ h, n, z⟩ e1 e2 (Reps.same f r)
  | _, _, .box bx e n z r => .box bx (f.b _ _ bx e) n z (Reps.same f r)
theorem Reps.same (f : Same H H') : ∀ {vs : List V} {ds : List D}, Reps K M H vs ds → Reps K M H' vs ds
  | _, _, .nil => .nil
  | _, _, .cons r rs => .cons (Rep.same f r) (Reps.same f rs)
end
theorem SAbs.same (f : Same H H') : ∀ {ρ : DEnv} {σ : L2.St}, SAbs K M H ρ σ → SAbs K M H' ρ σ
  | _, _, .nil => .nil
  | _, _, .off t => .off (SAbs.same f t)
  | _, _, .on r t => .on (r.same f) (SAbs.same f t)
theorem MAbs.same {k : PySem.W.Frag} {z : Addr → Prop} (A : MAbs ⟨k, z⟩ M H) (f : Same H H') (n : M a = none) (h : ∀ b, b ≠ a → H' b = H b) (ha : ∃ u, H' a = some u) : MAbs ⟨k, z⟩ M H' := by
  have ne : ∀ {b o}, M b = some o → b ≠ a := fun e q => by rw [q, n] at e; cases e
  refine ⟨fun b o e => (A.at_ b o e).map (h b (ne e)) (fun ks c eo => ?_) (fun c u bx q n nz => ⟨f.b c u bx q, n, nz⟩) fun vs ds r => r.same f, A.out, fun b y => ?_⟩
  · subst eo
    exact h c (ne (A.deckAt e))
  · by_cases q : b = a
    · subst q; exact ha
    · obtain ⟨u, e⟩ := A.zat b y
      exact ⟨u, by rw [h b q]; exact e⟩
end
section
variable {X : Cx}
/-- a loop, its iterator at hand -/
theorem for_core {vs : List Nat} {g : DG} {tb : DS} {z : Addr → Prop} {ρ : DEnv} {σ : L2.St} {M : Mem} {H : Hp} {D0 : EndsD} {E0 : Ends} {J : It} {items : List D} {G : Mem → Prop} {W : Nat → DEnv → Mem → Prop} (S : SAbs ⟨X.K, z⟩ M H ρ σ) (A : MAbs ⟨X.K, z⟩ M H) (L : LSs ⟨X.K, z⟩ M H D0 E0 (Wn X)) (it : ItD ⟨X.K, z⟩ J items G M H)
    (w0 : W 0 ρ M) (ws : ∀ i d ρ2 M2, items[i]? = some d → W i ρ2 M2 → G M2 ∧ g d ρ2 fun ρ3 => tb { D0 with nx := W (i + 1), ct := W (i + 1), bk := D0.nx } ρ3 M2) (wd : ∀ ρ2 M2, W items.length ρ2 M2 → G M2 ∧ D0.nx ρ2 M2) :
    tFor (fun _ H R => R J H) (liftG X.K vs g) (liftS X.K (Wn X) tb) E0 σ H := by
  refine ⟨fun i m σ2 H2 => i ≤ items.length ∧ m = items.length - i ∧ ∃ ρ2 M2, SAbs ⟨X.K, z⟩ M2 H2 ρ2 σ2 ∧ MAbs ⟨X.K, z⟩ M2 H2 ∧ Frame M H M2 H2 ∧ W i ρ2 M2,
    ⟨items.length, Nat.zero_le _, rfl, ρ, M, S, A, Frame.refl, w0⟩, fun i m σ2 H2 ⟨hi, hm, ρ2, M2, S2, A2, f2, w2⟩ => ?_⟩
  by_cases hlt : i < items.length
  · have hd : items[i]? = some items[i] := List.getElem?_eq_getElem hlt
    obtain ⟨g2, q2⟩ := ws i _ ρ2 M2 hd w2
    obtain ⟨go, y⟩ := (it M2 H2 f2 A2 g2 i).2 _ hd
    refine .inr ⟨go, fun σ3 H3 => ∃ ρ3 M3, SAbs ⟨X.K, z⟩ M3 H3 ρ3 σ3 ∧ MAbs ⟨X.K, z⟩ M3 H3 ∧ Frame M H M3 H3 ∧ W (i + 1) ρ3 M3, fun σ3 H3 w3 => ⟨items.length - (i + 1), by omega, hlt, rfl, w3⟩, fun x H3 y3 => ?_⟩
    obtain ⟨rx, A3, f3⟩ := y x H3 y3
    have f4 := f2.trans f3
    refine ⟨z, ρ2, M2, _, _, S2.fr f3, A3, rx, q2, fun ρ4 σ4 q4 S4 _ => ⟨z, ρ4, M2, _, S4, A3, q4, ?_⟩⟩
    have again : LS ⟨X.K, z⟩ M2 H3 (W (i + 1)) fun σ3 H3 => ∃ ρ3 M3, SAbs ⟨X.K, z⟩ M3 H3 ρ3 σ3 ∧ MAbs ⟨X.K, z⟩ M3 H3 ∧ Frame M H M3 H3 ∧ W (i + 1) ρ3 M3 :=
      fun ρ5 M5 σ5 H5 w5 S5 A5 f5 => ⟨ρ5, M5, S5, A5, f4.trans f5, w5⟩
    exact ⟨again, L.rt.fr f4, L.nx.fr f4, again, L.xr.fr f4⟩
  · have e : i = items.length := by omega
    subst e
    obtain ⟨g2, q2⟩ := wd ρ2 M2 w2
    exact .inl ⟨(it M2 H2 f2 A2 g2 _).1 (Nat.le_refl _), L.nx ρ2 M2 σ2 H2 q2 S2 A2 f2⟩
theorem itd_keys {k : PySem.W.Frag} {z : Addr → Prop} {a : Addr} {o : Obj} {kvs : List (Key × V)} {M : Mem} {H : Hp} (e : H a = some (.frz o (.dK kvs))) (n : M a = none) : ItD ⟨k, z⟩ (Itk a o kvs) ((kvs.map (·.1)).map keyD) (fun _ => True) M H := fun M2 H2 f A _ i => by
  have e2 : H2 a = some (.frz o (.dK kvs)) := (f a (by rw [e]; exact nofun) n).1.trans e
  refine ⟨fun hi => ⟨e2, by simpa using hi⟩, fun d hd => ?_⟩
  rw [List.getElem?_map, List.getElem?_map] at hd
  cases hk : kvs[i]? with
  | none => rw [hk] at hd; cases hd
  | some p =>
    rw [hk] at hd
    obtain rfl : d = keyD p.1 := (Option.some.inj hd).symm
    refine ⟨⟨e2, (List.getElem?_eq_some_iff.mp hk).1⟩, fun x H3 ⟨eh, k', v, h1, h2⟩ => ?_⟩
    subst eh h2
    rw [hk] at h1
    cases h1
    refine ⟨?_, A, Frame.refl⟩
    cases k' with
    | inl i => exact .int i
    | inr s => exact .str s
/-- for k in d -/
def dForK (i : Nat) (g : DG) (tb : DS) : DS := fun D0 ρ M => ∃ (ks : List Key) (ds : List D), slot ρ i = some (.dct ks ds) ∧ ∃ W : Nat → DEnv → Mem → Prop, W 0 ρ M ∧
  (∀ i d ρ2 M2, (ks.map keyD)[i]? = some d → W i ρ2 M2 → g d ρ2 fun ρ3 => tb { D0 with nx := W (i + 1), ct := W (i + 1), bk := D0.nx, xr := fun _ _ _ _ _ => False } ρ3 M2) ∧ ∀ ρ2 M2, W ks.length ρ2 M2 → D0.nx ρ2 M2
theorem ps_either {st : Stmt} {t u : TS} (h : PS X st t) (h' : PS X st u) : PS X st (fun E σ H => t E σ H ∨ u E σ H) := ⟨fun pins s σ H E I q => q.elim (h.run pins s σ H E I) (h'.run pins s σ H E I)⟩
theorem ds_forK {vs : List Nat} {tg : Expr} {body : List Stmt} {x : Str} {p pos : Pos} {g : DG} {tb : DS} (i : Nat) (hp : PassesOwn (model X.prog X.w) X.A X.env X.xe) (hc : X.calm = true) (hg : PGD X vs tg g) (hb : PBD X body tb)
    (hN : X.N[i]? = some x := by rfl) (hv : Vis X.env.scope x := by first | exact Or.inl rfl | exact Or.inr (Or.inl rfl) | exact Or.inr (Or.inr rfl)) (hd : (x == ("__debug__" : Str)) = false := by decide)
    (hcd : (x == ("__classdict__" : Str)) = false := by decide) (hs : ∀ y, foldedSetIterable (.Name x p) X.env y = pure y := by intro _; rfl) : PSD X (.For tg (.Name x p) body [] pos) (dForK i g tb) := by
  have core := ps_for (pos := pos) hp hc (pi_keys (tg := tg) (pe_var (pos := p) hN hv hd hcd)) hg hb hs
  refine (ps_either (ps_lock core) core).weak fun E σ H ⟨z, ρ, M, D0, S, A, ⟨ks, ds, hslot, W, w0, ws, wd⟩, L⟩ => ?_
  obtain ⟨v, hσ, r⟩ := S.get hslot
  obtain ⟨a, kvs, rfl, ⟨hr, hM, hz⟩, e1, rs⟩ := rep_dct r
  subst e1
  have hl : ((kvs.map (·.1)).map keyD).length = (kvs.map (·.1)).length := by simp
  rcases hr with e | ⟨o, e⟩
  · refine .inl ⟨a, .dK kvs, e, trivial, fun od => ⟨.ref a, hσ, a, od, rfl, .inl ⟨kvs, upd_same, ?_⟩⟩⟩
    have sm : Same H (upd H a (.frz od (.dK kvs))) := same_lock e
    have A1 : MAbs ⟨X.K, z⟩ M (upd H a (.frz od (.dK kvs))) := A.same sm hM (fun b h => upd_ne h) ⟨_, upd_same⟩
    have back : ∀ {M2 : Mem} {H2 : Hp}, Frame M (upd H a (.frz od (.dK kvs))) M2 H2 → MAbs ⟨X.K, z⟩ M2 H2 → H2 a = some (.frz od (.dK kvs)) ∧ MAbs ⟨X.K, z⟩ M2 (upd H2 a (.dK kvs)) ∧ Frame M H M2 (upd H2 a (.dK kvs)) ∧ Same H2 (upd H2 a (.dK kvs)) := fun {M2 H2} f A2 => by
      obtain ⟨q1, q2⟩ := f a (by rw [upd_same]; exact nofun) hM
      rw [upd_same] at q1
      have so := same_open q1
      refine ⟨q1, A2.same so q2 (fun b h => upd_ne h) ⟨_, upd_same⟩, fun c hc hn => ?_, so⟩
      by_cases h : c = a
      · subst h
        exact ⟨by rw [upd_same]; exact e.symm, q2⟩
      · obtain ⟨y1, y2⟩ := f c (by rw [upd_ne h]; exact hc) hn
        rw [upd_ne h] at y1
        exact ⟨by rw [upd_ne h]; exact y1, y2⟩
    refine for_core (S.same sm) A1 (D0 := { D0 with xr := fun _ _ _ _ _ => False }) ⟨fun ρ2 M2 σ2 H2 p2 S2 A2 f2 => ?_, fun d M2 v H2 p2 r2 A2 f2 => ?_, fun ρ2 M2 σ2 H2 p2 S2 A2 f2 => ?_, fun ρ2 M2 σ2 H2 p2 S2 A2 f2 => ?_, fun _ _ _ _ _ _ _ _ _ h => h.elim⟩ (itd_keys upd_same hM) w0 (fun i d ρ2 M2 h w => ⟨trivial, ws i d ρ2 M2 h w⟩) fun ρ2 M2 w => ⟨trivial, wd ρ2 M2 (hl ▸ w)⟩
    · obtain ⟨b1, b2, b3, b4⟩ := back f2 A2
      exact ⟨b1, L.nx ρ2 M2 σ2 _ p2 (S2.same b4) b2 b3⟩
    · obtain ⟨b1, b2, b3, b4⟩ := back f2 A2
      exact ⟨b1, L.rt d M2 v _ p2 (r2.same b4) b2 b3⟩
    · obtain ⟨b1, b2, b3, b4⟩ := back f2 A2
      exact ⟨b1, L.bk ρ2 M2 σ2 _ p2 (S2.same b4) b2 b3⟩
    · obtain ⟨b1, b2, b3, b4⟩ := back f2 A2
      exact ⟨b1, L.ct ρ2 M2 σ2 _ p2 (S2.same b4) b2 b3⟩
  · refine .inr ⟨.ref a, hσ, a, o, rfl, .inl ⟨kvs, e, ?_⟩⟩
    exact for_core (D0 := { D0 with xr := fun _ _ _ _ _ => False }) S A ⟨L.nx, L.rt, L.bk, L.ct, fun _ _ _ _ _ _ _ _ _ h => h.elim⟩ (itd_keys e hM) w0 (fun i d ρ2 M2 h w => ⟨trivial, ws i d ρ2 M2 h w⟩) fun ρ2 M2 w => ⟨trivial, wd ρ2 M2 (hl ▸ w)⟩
end
end DL

set_option Elab.async false
set_option linter.all false
set_option maxHeartbeats 4000000
set_option maxRecDepth 100000
/-! D-layer, part 27: what may raise: calls, raise, try. -/
namespace DL
open PySem PySem.Spec PyProof.Rows L2

/-! ### expressions that may raise -/
abbrev XA := DEnv → Mem → (List D → Mem → Prop) → XD → Prop
def liftXA (K : PySem.W.Frag) (y : WN) (t : XA) : TA := fun σ H Q => ∃ z ρ M R XR, SAbs ⟨K, z⟩ M H ρ σ ∧ MAbs ⟨K, z⟩ M H ∧ t ρ M R XR ∧ FinA ⟨K, z⟩ M H R Q ∧ FinX ⟨K, z⟩ M H XR fun x dd H => y x dd σ H
abbrev PAXD (X : Cx) (es : List Expr) (t : XA) : Prop := PA X es (liftXA X.K (Wn X) t)
section
variable {X : Cx} {k n : Nat} {f : Addr} {fd : FuncData} {ps ks : List Str} {sp : SpD} {x : Str} {st : Stmt} {p pos : Pos} {e a b c : Expr} {es : List Expr} {kws : List Keyword} {t tk : DA} {te : DE} {tA : DT} {tx ux : DX} {txa : XA}
def xOf (t : DE) : DX := fun ρ M R _ => t ρ M R
theorem dx_of (h : PED X e te) : PEDX X e (xOf te) := h.weak fun σ H Q ⟨z, ρ, M, R, XR, S, A, q, F, _⟩ => ⟨z, ρ, M, R, S, A, q, F⟩
def xIf (t : DT) (ta tb : DX) : DX := fun ρ M R XR => t ρ M fun k M1 => if k = true then ta ρ M1 R XR else tb ρ M1 R XR
theorem dx_if (hc : PTD X c tA) (ha : PEDX X a tx) (hb : PEDX X b ux) : PEDX X (.IfExp c a b pos) (xIf tA tx ux) :=
  (pe_ifExp hc ha hb).weak fun σ H Q ⟨z, ρ, M, R, XR, S, A, q, F, G⟩ => ⟨z, ρ, M, _, S, A, q, fun k M1 H1 q1 A1 f1 => by
    cases k with
    | true => rw [if_pos rfl] at q1 ⊢; exact ⟨z, ρ, M1, R, XR, S.fr f1, A1, q1, F.fr f1, G.fr f1⟩
    | false => rw [if_neg Bool.false_ne_true] at q1 ⊢; exact ⟨z, ρ, M1, R, XR, S.fr f1, A1, q1, F.fr f1, G.fr f1⟩⟩
def xNil : XA := fun _ M R _ => R [] M
def xCons (ta : DX) (tr : XA) : XA := fun ρ M R XR => ta ρ M (fun x M1 => tr ρ M1 (fun xs M2 => R (x :: xs) M2) XR) XR
theorem xa_nil : PAXD X [] xNil := pa_nil.weak fun σ H Q ⟨z, ρ, M, R, XR, S, A, q, F, _⟩ => F [] M [] H q .nil A Frame.refl
theorem xa_cons (ha : PEDX X a tx) (hr : PAXD X es txa) (hs : starEach (a :: es) X.env = (false, eval a X.env) :: starEach es X.env := by rfl) : PAXD X (a :: es) (xCons tx txa) :=
  (pa_cons ha hr hs).weak fun σ H Q ⟨z, ρ, M, R, XR, S, A, q, F, G⟩ =>
    ⟨z, ρ, M, _, _, S, A, q, fun x M1 v H1 q1 r1 A1 f1 => ⟨z, ρ, M1, _, XR, S.fr f1, A1, q1, fun xs M2 vs H2 q2 r2 A2 f2 => F _ _ _ _ q2 (.cons (r1.fr f2) r2) A2 (f1.trans f2), G.fr f1⟩, G⟩
def xTup (t : XA) : DX := fun ρ M R XR => t ρ M (fun ds M1 => ds.length ≤ sizeLine ∧ R (.tup ds) M1) XR
theorem dx_tup {x1} (h : PAXD X es txa) : PEDX X (.Tuple es x1 pos) (xTup txa) :=
  (pe_tup h).weak fun σ H Q ⟨z, ρ, M, R, XR, S, A, q, F, G⟩ => ⟨z, ρ, M, _, XR, S, A, q, fun ds M1 vs H1 q1 r1 A1 f1 => ⟨by rw [r1.length]; exact q1.1, fun p hp => (F.fr f1).tup A1 hp r1 q1.2⟩, G⟩
/-! ### calls of defs that may raise -/
theorem run_fnX {pins : List (Addr × Obj)} {σ : L2.St} {H : Hp} {s : Shared} {Q : VK} {args : Args} {us : List Value} {vs : List V} {sp : Sp} (F : FnG X.prog X.w X.K X.mg X.base (L2.CX X.prog X.w) k f fd ps sp) (hr : Room k X.A) (hG : X.A.guards = some []) (hb : BindsTo s fd args (ps.zip us))
    (I : Inv X pins σ H s) (r : Vals vs us) (h : sp vs H Q (fun cls d H' => Wm X cls d σ H')) : codeAny (model X.prog X.w) X.A (.call (.ref f) args) (fun r s' => match r with | .ok (.ret u) => EP X pins σ Q u s' | .error e => X.xe e s' | _ => False) s := by
  refine codeAny_mono (F.run X.A X.stack s H args us vs Q _ hr hG I.env0 hb r h) fun r s' hq => ?_
  cases r with
  | error e => exact takes_wm _ _ (XE.of_call I (fun _ _ _ h => h) hq)
  | ok fl =>
    cases fl with
    | ret u => exact I.after hq
    | next => exact hq.elim
    | brk => exact hq.elim
    | cont => exact hq.elim
/-- f(..): what is asked -/
def xCall (sp : SpD) (t : DA) : DX := fun ρ M R XR => t ρ M fun ds M1 => sp ds M1 R XR
theorem lift_xcall {σ : L2.St} {H : Hp} {Q : VK} (h : liftX X.K (Wn X) (xCall sp t) σ H Q) : liftA X.K t σ H fun vs H1 => liftSp X.K X.mg sp vs H1 Q (fun cls d H' => Wm X cls d σ H') := by
  obtain ⟨z, ρ, M, R, XR, S, A, q, F, G⟩ := h
  exact ⟨z, ρ, M, _, S, A, q, fun ds M1 vs H1 q1 r1 A1 f1 => ⟨z, M1, ds, R, XR, A1, r1, q1, F.fr f1, G.fr f1⟩⟩
theorem dx_call (F : Has X.prog X.w X.K X.mg X.base (L2.CX X.prog X.w) x st ps k sp) (hr : Room k X.A) (hG : X.A.guards = some []) (hb : PosB x st ps) (ha : PAD X (e :: es) t) (hg : Gl X x := by rfl)
    (hdb : (x == ("__debug__" : Str)) = false := by decide) (he : starEach (e :: es) X.env = (false, eval e X.env) :: starEach es X.env := by rfl) (hpl : (backTo pos (starEach es X.env)).any (·.1) = false := by rfl) :
    PEDX X (.Call (.Name x p) (e :: es) [] pos) (xCall sp t) := by
  obtain ⟨f, fd, hm, Fn, G⟩ := F.ex
  refine ⟨fun pins s σ H Q I h => ?_⟩
  refine wpAny_Call_Name_kw (ld_glob I hg hm ?_ hdb)
  refine PySem.W.callWith_K (h₀ := X.base) I.ok.mod.kin Fn.kp (thn (ha.run pos pins s σ H _ I (lift_xcall h)) fun us s1 ⟨vs, H1, I1, r, q⟩ => ⟨I1.kIn, ?_⟩) he hpl
  have hl : us.length = ps.length := by rw [← r.length]; exact G.len _ _ _ _ q
  refine wpAny_call (codeAny_mono (run_fnX (args := ⟨us, []⟩) G hr hG ?_ I1 r q) fun r s' hq => ?_)
  · obtain ⟨oc, od, kV, doc, pm, an, cdv, ct, osl, rfl, _⟩ := Fn.ex
    exact .of_eq (hb _ _ _ _ _ _ _ hl)
  · cases r with
    | error e => exact hq
    | ok fl => cases fl <;> exact hq
def xCallK (sp : SpD) (n m : Nat) (is : List Nat) (t tk : DA) : DX := fun ρ M R XR => t ρ M fun ds M1 => tk ρ M1 fun es M2 => ds.length = n ∧ es.length = m ∧ sp (pick is (ds ++ es)) M2 R XR
/-- f(k = v, ..) -/
theorem dx_callK0 {is : List Nat} (F : Has X.prog X.w X.K X.mg X.base (L2.CX X.prog X.w) x st ps k sp) (hr : Room k X.A) (hG : X.A.guards = some []) (hb : KwB x st ps 0 ks is) (hkw : PKD X kws tk) (hg : Gl X x := by rfl)
    (hall : (backToKw pos (keywordEach kws X.env)).all (·.1.isSome) = true := by rfl) (hks : (backToKw pos (keywordEach kws X.env)).filterMap (·.1) = ks := by rfl) (hdb : (x == ("__debug__" : Str)) = false := by decide)
    (hpl : ((backTo pos (starEach [] X.env)).any (·.1) || (backToKw pos (keywordEach kws X.env)).any (·.1.isNone)) = false := by rfl) : PEDX X (.Call (.Name x p) [] kws pos) (xCallK sp 0 ks.length is dNil tk) := by
  obtain ⟨f, fd, hm, Fn, G⟩ := F.ex
  refine ⟨fun pins s σ H Q I h => ?_⟩
  obtain ⟨z, ρ, M, R, XR, S, A, q, F, FX⟩ := h
  refine wpAny_Call_Name_kw (ld_glob I hg hm ?_ hdb)
  refine PySem.W.callWith_KW0 (h₀ := X.base) I.ok.mod.kin Fn.kp hall (thn (hkw.run pos pins s σ H (fun zs H1 => zs.length = ks.length ∧ liftSp X.K X.mg sp (pick is zs) H1 Q (fun cls d H' => Wm X cls d σ H')) I
    ⟨z, ρ, M, _, S, A, q, fun es M1 zs H1 q1 r1 A1 f1 => ⟨r1.length.trans q1.2.1, z, M1, _, R, XR, A1, reps_of_paired (pick_paired (reps_at r1) is), q1.2.2, F.fr f1, FX.fr f1⟩⟩) fun ws s1 ⟨zs, H1, I1, rz, hl, q1⟩ => ⟨I1.kIn, ?_⟩) hpl
  rw [hks]
  refine wpAny_call (codeAny_mono (run_fnX (args := ⟨[] ++ [], ks.zip ws⟩) (us := pick is ws) G hr hG ?_ I1 (pick_paired (vals_at rz) is) q1) fun r s' hq => ?_)
  · obtain ⟨oc, od, kV, doc, pm, an, cdv, ct, osl, rfl, _⟩ := Fn.ex
    exact .of_eq (hb _ _ _ _ _ _ [] ws rfl (rz.length.symm.trans hl))
  · cases r with
    | error e => exact hq
    | ok fl => cases fl <;> exact hq
/-! ### statements -/
theorem LX.at_ {K : KZ} {M : Mem} {H : Hp} {P : Str → Str → D → DEnv → Mem → Prop} {y : WN} (L : LX K M H P y) {ρ : DEnv} {σ : L2.St} (S : SAbs K M H ρ σ) : FinX K M H (fun x f d M' => P x f d ρ M') fun x dd H' => y x dd σ H' :=
  fun x f d M' v dd H' p e n nz r A fr => L x f d ρ M' v dd σ H' p e n nz r (S.fr fr) A fr
def dRetX (t : DX) : DS := fun D ρ M => t ρ M D.rt fun x f d M' => D.xr x f d ρ M'
theorem ds_retX (he : PEDX X e tx) : PSD X (.Return (some e) pos) (dRetX tx) :=
  (ps_ret he).weak fun D σ H ⟨z, ρ, M, D0, S, A, q, L⟩ => ⟨z, ρ, M, _, _, S, A, q, L.rt, L.xr.at_ S⟩
def dDropX (t : DX) : DS := fun D ρ M => t ρ M (fun _ M1 => D.nx ρ M1) fun x f d M' => D.xr x f d ρ M'
theorem ds_exprX (he : PEDX X e tx) (hs : swapsWith e none pos.line X.env = pure false := by rfl) : PSD X (.Expr e pos) (dDropX tx) :=
  (ps_expr he hs).weak fun D σ H ⟨z, ρ, M, D0, S, A, q, L⟩ => ⟨z, ρ, M, _, _, S, A, q, fun d M1 v H1 q1 r1 A1 f1 => L.nx ρ M1 σ H1 q1 (S.fr f1) A1 f1, L.xr.at_ S⟩
/-- raise C(e) -/
def dRaise (x f : Str) (te : DE) : DS := fun D ρ M => te ρ M fun d M1 => D.xr x f d ρ M1
end
end DL
namespace L2
open PySem PySem.Spec PyProof.Rows
theorem relO_fl {fl : Str} {v : V} {v' : Value} (r : RelV v v') (f : Str) : RelO (List.lookup f [(fl, v)]) (if f = fl then some v' else none) := by
  by_cases hw : f = fl
  · subst hw
    rw [if_pos rfl]
    have q : List.lookup f [(f, v)] = some v := by simp [List.lookup]
    rw [q]
    exact r
  · rw [if_neg hw]
    have qw : (f == fl) = false := by simpa using hw
    have q2 : List.lookup f [(fl, v)] = none := by simp [List.lookup, qw]
    rw [q2]
    trivial
section
variable {X : Cx} {C fI : Addr} {nx q fl : Str}
/-- C(e) -/
def tMkE (C : Addr) (fl : Str) (te : TE) : St → Hp → XK → Prop := fun σ H Q => tCons te tNil σ H fun vs H1 => ∃ v, vs = [v] ∧ ∀ d, H1 d = none → Q (.ref C) (some d) (upd H1 d (.xd [(fl, v)]))
theorem pmk_err {a : Expr} {ta : TE} {p pos : Pos} {k : Nat} (ok : fl = "thing" ∨ fl = "at") (T : PySem.EyX.ErrTxt X.K X.mg nx q fl C fI) (hr : Room k X.A) (ha : PE X a ta) (hg : Gl X nx := by rfl) (hdb : (nx == ("__debug__" : Str)) = false := by decide)
    (he : starEach (a :: []) X.env = (false, eval a X.env) :: starEach [] X.env := by rfl) (hpl : (backTo pos (starEach [] X.env)).any (·.1) = false := by rfl) :
    PMk X (.Call (.Name nx p) [a] [] pos) (tMkE C fl ta) := by
  intro pins s σ H Q I h
  refine wpAny_Call_Name_kw (ld_glob I hg T.gC ?_ hdb)
  have hpa : PA X [a] (tCons ta tNil) := pa_cons ha pa_nil he
  refine PySem.W.callWith_K (h₀ := X.base) I.ok.mod.kin T.kC (thn (hpa.run pos pins s σ H _ I h) fun us s1 hh => ?_) he hpl
  obtain ⟨vs, H1, I1, r1, v, ev, q1⟩ := hh
  subst ev
  refine ⟨I1.kIn, ?_⟩
  cases r1 with
  | cons rv rn =>
    rename_i v' us'
    cases rn
    show wpAny _ _ (call (.ref C) [v']) _ _ _
    have hlim := I1.nolimit
    obtain ⟨hp, g, dr, tk, os⟩ := s1
    refine wpAny_call (PySem.EyX.err_made ok T I1.kIn hlim (by have := hr.dp; omega) fun h' tk' e d M => ?_)
    show MkP X pins σ Q (.ref e) ⟨h', g, dr, tk', os⟩
    obtain ⟨oe, fv, hoe, hc, hd, hdat, h1⟩ := M.obj
    have hns := M.ns
    obtain ⟨G', g1, g2⟩ := restrict h' fun b => decide (b ≠ e)
    have gk : ∀ b, b ≠ e → G'.get? b = h'.get? b := fun b hb => g1 b (decide_eq_true hb)
    have ge : G'.get? e = none := g2 e (by simp)
    have old : ∀ b o, hp.get? b = some o → G'.get? b = some o := fun b o q => (gk b (Nat.ne_of_lt (Nat.lt_of_lt_of_le (Heap.lt_size q) M.new))).trans (M.keep b o q)
    have ob : ObjOk X.prog X.w (upd H1 d (.xd [(fl, v)])) G' d (.xd [(fl, v)]) :=
      ⟨_, hns.at (fun o q => (gk d M.dne).trans q), fun f => relO_fl rv f⟩
    have J : Inv X pins σ (upd H1 d (.xd [(fl, v)])) ⟨G', g, dr, tk', os⟩ := I1.laid (t' := tk') old M.dbig ob
    refine ⟨e, oe, fv, ⟨G', g, dr, tk', os⟩, _, .ref C, some d, rfl, J, fun b o q => ?_, ge, hoe, ⟨hc, hd⟩, hdat, h1, ?_, rfl, I1.bare, raises_own T.exC T.tyC, q1 d (I1.hok.fresh M.dbig)⟩
    · by_cases hb : b = e
      · have q' : G'.get? b = some o := q
        rw [hb, ge] at q'; cases q'
      · exact (gk b hb).symm.trans q
    · rw [upd_ne (Ne.symm M.dne)]
      exact I1.hok.fresh M.new
end
end L2
namespace DL
open PySem PySem.Spec PyProof.Rows L2
section
variable {X : Cx} {k n : Nat} {x q fl : Str} {p pos pos2 : Pos} {e a b c : Expr} {ta te : DE}
theorem ds_raise (T : ∃ C fI q, PySem.EyX.ErrTxt X.K X.mg x q fl C fI) (ok : fl = "thing" ∨ fl = "at") (hc : X.calm = true) (hr : Room k X.A) (ha : PED X a ta) (hg : Gl X x := by rfl) (hdb : (x == ("__debug__" : Str)) = false := by decide)
    (he : starEach (a :: []) X.env = (false, eval a X.env) :: starEach [] X.env := by rfl) (hpl : (backTo pos (starEach [] X.env)).any (·.1) = false := by rfl) :
    PSD X (.Raise (some (.Call (.Name x p) [a] [] pos)) none pos2) (dRaise x fl ta) := by
  obtain ⟨C, fI, q, T⟩ := T
  refine (ps_raise hc takes_wm (pmk_err ok T hr ha hg hdb he hpl)).weak fun D σ H ⟨z, ρ, M, D0, S, A, q, L⟩ => ?_
  exact ⟨z, ρ, M, _, S, A, q, fun d M1 v H1 q1 r1 A1 f1 => ⟨v, rfl, fun dd hd => L.xr x fl d ρ M1 v dd σ _ q1 upd_same (A1.free hd) (A1.znew hd) (r1.fr (Frame.new hd)) ((S.fr f1).fr (Frame.new hd)) (A1.new hd) (f1.trans (Frame.new hd)) C T.gC⟩⟩
end
/-! ### a def that may raise -/
section
variable {P : Program} {w : World} {K : PySem.W.Frag} {mg : Str → Option Value} {base : Heap}
def endsX (K : PySem.W.Frag) (R : RK) (XR : XD) : EndsD := { endsOf K R with xr := fun x f d _ M => XR x f d M }
theorem has_ofX {x : Str} {st : Stmt} {N ps : List Str} {k : Nat} {sp : SpD} {t : DS} (F : ∃ (f : Addr) (fd : FuncData), mg x = some (.ref f) ∧ Fun K x x st f fd) (S : FnScope N ps (defScope st))
    (len : ∀ ds M R XR, sp ds M R XR → ds.length = ps.length)
    (hb : ∀ (f : Addr) (cdv : Value) (A : Around) (outer : List Env) (s : Shared) (H : Hp) (E : XK), Room k (A.deeper (envOfC x (defScope st) s.heap.objs.size f cdv)) → A.guards = some [] →
      PBD (cxOf (L2.CX P w) P w K mg base N x (defScope st) f cdv A outer s H E) (defBody st) t)
    (rd : ∀ ds M R XR, sp ds M R XR → t (endsX K R XR) (startD (N.length - ps.length) ds) M) : Has P w K mg base (L2.CX P w) x st ps (k + 1) sp := by
  obtain ⟨f, fd, hm, F⟩ := F
  have hlen : ∀ vs H Q E, liftSp K mg sp vs H Q E → vs.length = ps.length := fun vs H Q E ⟨z, M, ds, R, XR, A, r, q, _⟩ => r.length.trans (len _ _ _ _ q)
  refine ⟨f, fd, hm, F, fnG_of F S hlen fun cdv A outer s H vs Q E hr hG h => ?_⟩
  obtain ⟨z, M, ds, R, XR, A', r, q, FF, FX⟩ := h
  refine ⟨_, hb f cdv A outer s H E hr hG, z, startD (N.length - ps.length) ds, M, endsX K R XR, ?_, A', rd _ _ _ _ q, ⟨?_, FF.ends, fun _ _ _ _ z => z.elim, fun _ _ _ _ z => z.elim, ?_⟩⟩
  · have e : vs.length = ps.length := r.length.trans (len _ _ _ _ q)
    unfold L2.start startD
    rw [e]
    exact SAbs.start r _
  · intro ρ M1 σ1 H1 q1 S1 A1 f1
    exact FF.ends .non M1 .non H1 q1 .non A1 f1
  · intro x f d ρ M1 v dd σ1 H1 p e n nz r1 S1 A1 f1 C hC
    exact wm_of (takes_of rfl rfl rfl rfl) (FX x f d M1 v dd H1 p e n nz r1 A1 f1 C hC)
end
end DL

set_option Elab.async false
set_option linter.all false
set_option maxHeartbeats 4000000
set_option maxRecDepth 100000
/-! D-layer, part 28: try .. except C as e: .., several clauses; what a suite may ask of e. -/
namespace L2
open PySem PySem.Spec PyProof.Rows
/-- what the clauses 'except c as n' (slot i) wish of an exception of the body, one after the other -/
def wManyAs (K : PySem.W.Frag) (Wout : WX) (D : Ends) : List (Value × Nat × (Addr → Value → Option Addr → TS)) → WX
  | [] => Wout
  | (c, i, ts) :: r => fun cls d σ H => ∃ b, PySem.W.exmOne K cls c = some b ∧
      (b = true → ∀ a, H a = none → ts a cls d { nx := fun σ' H' => D.nx (σ'.set i none) H', rt := D.rt, bk := fun σ' H' => D.bk (σ'.set i none) H', ct := fun σ' H' => D.ct (σ'.set i none) H' } (σ.set i (some (.ref a))) H) ∧
      (b = false → wManyAs K Wout D r cls d σ H)
inductive HdsAs (X : Cx) : List ExceptHandler → List (Value × Nat × (Addr → Value → Option Addr → TS)) → Prop
  | nil : HdsAs X [] []
  | cons {x n : Str} {i : Nat} {c : Value} {ts : Addr → Value → Option Addr → TS} {b₀ : Stmt} {suite : List Stmt} {np pos' : Pos} {hds : List ExceptHandler} {l : List (Value × Nat × (Addr → Value → Option Addr → TS))} (hi : X.N[i]? = some n) (hln : X.env.kindOf n = some .local) (hc : Names X x c)
      (hsu : ∀ (a : Addr) (oe : Obj) (cls : Value) (d : Option Addr) (pn : List (Addr × Obj)), Zc cls d oe → (∃ vs, oe.data = .fields vs) → PSs (X.suite a ((a, oe) :: pn)) (b₀ :: suite) (ts a cls d)) (r : HdsAs X hds l) :
      HdsAs X (.ExceptHandler (some (.Name x np)) (some n) (b₀ :: suite) pos' :: hds) ((c, i, ts) :: l)
section
variable {X : Cx} {body : List Stmt} {h₀ : ExceptHandler} {hds : List ExceptHandler} {l : List (Value × Nat × (Addr → Value → Option Addr → TS))} {pos : Pos} {tb : WX → TS} {Wout : WX}
theorem ps_try_manyAs (hs : X.stack = X.env :: X.outer) (hf : X.env.frame = some X.env.locals) (hN : X.N.Nodup) (tk : Takes X Wout)
    (hb : ∀ (W : WX) (pn : List (Addr × Obj)) (xe : Value → Shared → Prop), Takes (X.tr pn xe) W → PassesOwn (model X.prog X.w) X.A X.env xe → PSs (X.tr pn xe) body (tb W))
    (hh : HdsAs X (h₀ :: hds) l) : PS X (.Try body (h₀ :: hds) [] [] pos) (fun D σ H => tb (wManyAs X.K Wout D l) D σ H) := by
  refine ⟨fun pins s σ H D I h => ?_⟩
  have ok := I.ok
  have hfr : X.A.frames = some (X.env :: X.outer) := by rw [ok.frames, hs]
  refine wpAny_Try_except ?_
  refine wpAny_mono ((hb (wManyAs X.K Wout D l) (X.pn ++ pins) (fun e s₁ => wpAny (model X.prog X.w) X.A (noteFrame e X.env) (fun _ s₂ => wpAny (model X.prog X.w) X.A (setFlight e none) (fun _ s₃ =>
    wpAny (model X.prog X.w) X.A (handleBy e X.env (h₀ :: hds)) (SP X pins D) X.xe s₃) X.xe s₂) X.xe s₁) (fun u s' xx => ?_) PassesOwn.looking).run [] s σ H D (I.toTry _) h) (fun f s1 hsp => ?_) (fun e s1 he => he)
  · -- the catch
    obtain ⟨a, B, sI, pins', σ', H', cls, d, rfl, J', nb, up, sky, na, os, ag, w⟩ := xx
    have J : Inv X pins σ' H' sI := J'.ofTry ok
    have sky' : Sky B (X.env :: X.outer) a (Zc cls d) X.env.locals s'.heap := by rw [← hs]; exact sky
    show wpAny (model X.prog X.w) X.A (noteFrame (.ref a) X.env) _ _ _
    refine Sky.land Zc.steady hfr hf sky' fun h3 fl3 up3 => ?_
    have J3 : Inv X pins σ' H' { s' with heap := h3 } := J.landed nb fl3.1 (up.trans up3) os ag
    obtain ⟨oe3, vs3, he3, hz3, hd3⟩ := fl3.there
    have notFr : ∀ {h : Heap} {o : Obj} {vs : Array Value}, h.FunFrames B (X.env :: X.outer) → h.get? a = some o → o.data = .fields vs → a ∉ frs (X.env :: X.outer) := fun {h o vs} ff e dd hm => by
      obtain ⟨_, o', e', hnf⟩ := ff.mem hm
      rw [e] at e'; cases e'
      exact hnf _ dd
    have nfr := notFr fl3.2.2.1 he3 hd3
    have nL : a ≠ X.env.locals := fun z => nfr (List.mem_filterMap.mpr ⟨X.env, List.mem_cons_self, by rw [hf, z]⟩)
    have nF : a ∉ X.fs := fun hm => by
      obtain ⟨e, he, q⟩ := List.mem_filterMap.mp hm
      exact nfr (List.mem_filterMap.mpr ⟨e, List.mem_cons_of_mem _ he, q⟩)
    have S3 := J3.suite he3 hd3 na nL nF
    have go : ∀ {hds' : List ExceptHandler} {l' : List (Value × Nat × (Addr → Value → Option Addr → TS))}, HdsAs X hds' l' → wManyAs X.K Wout D l' cls d σ' H' →
        wpAny (model X.prog X.w) X.A (handleBy (.ref a) X.env hds') (SP X pins D) X.xe { s' with heap := h3 } := by
      intro hds' l' hk
      induction hk with
      | nil =>
        intro w
        refine wpAny_handleBy_nil ?_
        obtain ⟨k1, k2, k3, oe, vs, T, oT, ts', he, hz, hd, h1, hr⟩ := id fl3
        unfold PySem.passOn
        refine wpAny_bind (wpAny_field he hd h1 ?_)
        rw [if_neg (show ¬ ((Value.ref T == Value.none) = true) from by simp)]
        have fin : wpAny (model X.prog X.w) X.A (setFlight (.ref a) X.env.frame) (fun _ s4 => wpAny (model X.prog X.w) X.A (throw (.ref a) : Sem Flow) (SP X pins D) X.xe s4) X.xe { s' with heap := h3 } := by
          rw [hf]
          refine HandSPX.setFlight_upZ fl3 fun h4 hh4 up4 => wpAny_throw (tk _ _ ?_)
          exact ⟨a, B, sI, pins, σ', H', cls, d, rfl, J, nb, (up.trans up3).trans up4, .inr (.inr (by rw [hs]; exact hh4)), na, os, ag, w⟩
        first
          | exact wpAny_bind (wpAny_pure (wpAny_bind fin))
          | exact wpAny_bind fin
      | @cons x n i c ts b₀ suite np pos' hds2 l2 hi hln hc hsu r ih =>
        intro w
        obtain ⟨b, hb1, hyes, hno⟩ := w
        have hloc : Loc X.env.scope n := .inl hln
        refine wpAny_handleBy_cons (codeAny_handlers_test ?_) (by intro q; cases q)
        have LT : PySem.W.Looks (model X.prog X.w) h3 (typeOf (.ref a)) cls := fun A Q E s k q => wpAny_typeOf_ref (k _ _ he3) (by rw [hz3.1]; exact q)
        have LM := PySem.W.exm_one (M := model X.prog X.w) (J3.kIn) LT hb1
        have test : ∀ {Q : Value → Shared → Prop} {E : Value → Shared → Prop}, Q c { s' with heap := h3 } → wpAny (model X.prog X.w) (X.A.mark (some (.ref a))) (eval (.Name x np) X.env) Q E { s' with heap := h3 } := fun {Q E} q => by
          obtain ⟨hg, hdbg, hm | ⟨hm, hv, hnn⟩⟩ := hc
          · exact ld_glob (X := X.suite a ((a, oe3) :: (X.pn ++ pins))) S3 hg hm q hdbg
          · exact ld_blt (X := X.suite a ((a, oe3) :: (X.pn ++ pins))) S3 hg hm hv q hnn hdbg
        refine test (LM.here ?_)
        cases b with
        | true =>
          refine codeAny_handlers_suite_as ?_
          refine HandSPX.lands_againZ fl3 fun h4 fl4 up4 => ?_
          have J4 : Inv X pins σ' H' { s' with heap := h4 } := J.landed nb fl4.1 ((up.trans up3).trans up4) os ag
          obtain ⟨oe4, vs4, he4, hz4, hd4⟩ := fl4.there
          have S4 := J4.suite he4 hd4 na nL nF
          refine store_ok (X := X.suite a ((a, oe4) :: (X.pn ++ pins))) (v := .ref a) S4 hN hi hloc rfl (fun s5 S5 => ?_) (.inr hln)
          refine wpAny_mono ((hsu a oe4 cls d (X.pn ++ pins) hz4 ⟨_, hd4⟩).run [] s5 _ H' _ S5 (hyes rfl a na)) (fun f s6 hsp => ?_) (fun _ _ z => False.elim z)
          have end_ : ∀ {σ6 : St} {H6 : Hp} {Q : Shared → Prop}, Inv (X.suite a ((a, oe4) :: (X.pn ++ pins))) [] σ6 H6 s6 → (∀ s7, Inv X pins (σ6.set i none) H6 s7 → Q s7) →
              wpAny (model X.prog X.w) X.A (do bindName X.env n .none; unbindBehindTheSuite X.env n pos') (fun _ s7 => Q s7) X.xe s6 := fun {σ6 H6 Q} S6 hq => gone_ok (S6.unsuite ok) hN hi hln hq
          cases f with
          | next =>
            obtain ⟨σ6, H6, S6, q6⟩ := hsp
            exact end_ S6 fun s7 J7 => ⟨_, _, J7, q6⟩
          | brk =>
            obtain ⟨σ6, H6, S6, q6⟩ := hsp
            exact end_ S6 fun s7 J7 => ⟨_, _, J7, q6⟩
          | cont =>
            obtain ⟨σ6, H6, S6, q6⟩ := hsp
            exact end_ S6 fun s7 J7 => ⟨_, _, J7, q6⟩
          | ret u =>
            obtain ⟨v6, σ6, H6, S6, r6, q6⟩ := hsp
            exact end_ S6 fun s7 J7 => ⟨_, _, _, J7, r6, q6⟩
        | false =>
          show wpAny _ X.A (handleBy (.ref a) X.env hds2) _ _ _
          exact ih (hno rfl)
    exact go hh w
  · cases f with
    | next =>
      obtain ⟨σ', H', J', q⟩ := hsp
      exact wpAny_execs_nil ⟨σ', H', J'.ofTry ok, q⟩
    | brk =>
      obtain ⟨σ', H', J', q⟩ := hsp
      exact ⟨σ', H', J'.ofTry ok, q⟩
    | cont =>
      obtain ⟨σ', H', J', q⟩ := hsp
      exact ⟨σ', H', J'.ofTry ok, q⟩
    | ret u =>
      obtain ⟨v, σ', H', J', r, q⟩ := hsp
      exact ⟨v, σ', H', J'.ofTry ok, r, q⟩
end
end L2
namespace DL
open PySem PySem.Spec PyProof.Rows L2
/-- what is written of a class x beside a class y: whether an instance of x is one of y -/
def ErrRel (K : PySem.W.Frag) (mg : Str → Option Value) (y x : Str) (b : Bool) : Prop :=
  ∃ C D, mg x = some (.ref C) ∧ mg y = some (.ref D) ∧ PySem.W.exmOne K (.ref C) (.ref D) = some b ∧ PySem.W.kitOne K (.ref C) (.ref D) = some b
/-- such a clause: y's table of the classes that may come, the slot, the suite's reading -/
structure Cl where
  tab : List (Str × Bool)
  i : Nat
  u : Str → Addr → Addr → DS
def xrOf (D0 : EndsD) : List Cl → Str → Str → D → DEnv → Mem → Prop
  | [] => D0.xr
  | c :: r => fun x f d ρ M => ∃ b, c.tab.lookup x = some b ∧
      (b = true → ∀ a dd v, M dd = none → c.u x a dd { nx := fun ρ' M' => D0.nx (ρ'.set c.i none) M', rt := D0.rt, bk := fun ρ' M' => D0.bk (ρ'.set c.i none) M', ct := fun ρ' M' => D0.ct (ρ'.set c.i none) M' } (put ρ c.i (.box a dd (.xd [(f, v)]) [v] [d])) M) ∧
      (b = false → xrOf D0 r x f d ρ M)
def dTry (t : DS) (cs : List Cl) : DS := fun D ρ M => t { D with xr := xrOf D cs } ρ M
/-- the suite's reading over the heap -/
def tsOf (X : Cx) (c : Cl) : Addr → Value → Option Addr → TS := fun a cls d D σ H => ∃ x C dd, cls = .ref C ∧ d = some dd ∧ X.mg x = some (.ref C) ∧ x ∈ c.tab.map (·.1) ∧ liftS X.K (fun _ _ _ _ => False) (c.u x a dd) D σ H
inductive ClsOk (X : Cx) : List ExceptHandler → List Cl → List Value → Prop
  | nil : ClsOk X [] [] []
  | cons {y n : Str} {i : Nat} {tab : List (Str × Bool)} {u : Str → Addr → Addr → DS} {b₀ : Stmt} {suite : List Stmt} {np pos' : Pos} {hds : List ExceptHandler} {l : List Cl} {cv : List Value} {D : Addr} (hi : X.N[i]? = some n) (hln : X.env.kindOf n = some .local) (hg : Gl X y) (hdb : (y == ("__debug__" : Str)) = false)
      (hD : X.mg y = some (.ref D)) (hr : ∀ p ∈ tab, ErrRel X.K X.mg y p.1 p.2)
      (hsu : ∀ (x : Str) (C dd a : Addr) (oe : Obj) (pn : List (Addr × Obj)), x ∈ tab.map (·.1) → X.mg x = some (.ref C) → Zc (.ref C) (some dd) oe → (∃ vs, oe.data = .fields vs) → PBD (X.suite a ((a, oe) :: pn)) (b₀ :: suite) (u x a dd)) (r : ClsOk X hds l cv) :
      ClsOk X (.ExceptHandler (some (.Name y np)) (some n) (b₀ :: suite) pos' :: hds) (⟨tab, i, u⟩ :: l) (.ref D :: cv)
theorem mem_of_look {x : Str} {b : Bool} : ∀ {tab : List (Str × Bool)}, tab.lookup x = some b → (x, b) ∈ tab
  | [], h => by cases h
  | (y, c) :: r, h => by
    by_cases e : x = y
    · subst e
      rw [List.lookup_cons_self] at h
      cases h
      exact List.mem_cons_self
    · have : (x == y) = false := by simpa using e
      simp only [List.lookup, this] at h
      exact List.mem_cons_of_mem _ (mem_of_look h)
theorem liftS_imp {K : PySem.W.Frag} {y y' : WN} {t : DS} {D : Ends} {σ : L2.St} {H : Hp} (h : liftS K y t D σ H) (w : ∀ x dd σ H, y x dd σ H → y' x dd σ H) : liftS K y' t D σ H := by
  obtain ⟨z, ρ, M, D0, S, A, q, L⟩ := h
  exact ⟨z, ρ, M, D0, S, A, q, L.nx, L.rt, L.bk, L.ct, fun x f d ρ' M' v dd σ' H' p e n nz r S' A' fr => w _ _ _ _ (L.xr x f d ρ' M' v dd σ' H' p e n nz r S' A' fr)⟩
section
variable {X : Cx} {body : List Stmt} {h₀ : ExceptHandler} {hds : List ExceptHandler} {l : List Cl} {cv : List Value} {pos : Pos} {t : DS}
theorem ClsOk.toHds {hds : List ExceptHandler} {l : List Cl} {cv : List Value} (h : ClsOk X hds l cv) : HdsAs X hds ((cv.zip l).map fun p => (p.1, p.2.i, tsOf X p.2)) := by
  induction h with
  | nil => exact .nil
  | cons hi hln hg hdb hD hr hsu r ih =>
    refine .cons hi hln ⟨hg, hdb, .inl hD⟩ (fun a oe cls d pn hz hf => ⟨fun pins s σ H D I hts => ?_⟩) ih
    obtain ⟨x, C, dd, rfl, rfl, hm, hx, hl⟩ := hts
    exact (hsu x C dd a oe pn hx hm hz hf).run pins s σ H D I (liftS_imp hl fun _ _ _ _ h => h.elim)
/-- what the clauses wish, told by the reading -/
theorem ClsOk.wish {K : PySem.W.Frag} {hds : List ExceptHandler} {l : List Cl} {cv : List Value} (h : ClsOk X hds l cv) {z : Addr → Prop} {D0 : EndsD} {D : Ends} {M0 : Mem} {H0 : Hp} (L : LSs ⟨X.K, z⟩ M0 H0 D0 D (Wn X)) :
    LX ⟨X.K, z⟩ M0 H0 (xrOf D0 l) fun x dd σ H => ∀ C, X.mg x = some (.ref C) → wManyAs X.K (Wm X) D ((cv.zip l).map fun p => (p.1, p.2.i, tsOf X p.2)) (.ref C) (some dd) σ H := by
  induction h with
  | nil => exact fun x f d ρ M v dd σ H p e n nz r S A fr C hC => L.xr x f d ρ M v dd σ H p e n nz r S A fr C hC
  | @cons y n i tab u b₀ suite np pos' hds l cv Dc hi hln hg hdb hD hr hsu r0 ih =>
    intro x f d ρ M v dd σ H p e n nz r S A fr C hC
    obtain ⟨b, hb, hy, hn⟩ := p
    have hmem := mem_of_look hb
    obtain ⟨C', D', h1, h2, h3, h4⟩ := hr _ hmem
    rw [hC] at h1
    rw [hD] at h2
    cases h1
    cases h2
    refine ⟨b, h3, fun hb' a na => ?_, fun hb' => ih x f d ρ M v dd σ H (hn hb') e n nz r S A fr C hC⟩
    refine ⟨x, C, dd, rfl, rfl, hC, List.mem_map.mpr ⟨_, hmem, rfl⟩, z, _, M, _, S.put i (.box (.inl ⟨_, rfl⟩) e n nz (.cons r .nil)), A, hy hb' a dd v n, ⟨?_, L.rt.fr fr, ?_, ?_, fun _ _ _ _ _ _ _ _ _ h => h.elim⟩⟩
    · exact fun ρ' M' σ' H' p' S' A' f' => L.nx _ M' _ H' p' (S'.un i) A' (fr.trans f')
    · exact fun ρ' M' σ' H' p' S' A' f' => L.bk _ M' _ H' p' (S'.un i) A' (fr.trans f')
    · exact fun ρ' M' σ' H' p' S' A' f' => L.ct _ M' _ H' p' (S'.un i) A' (fr.trans f')
theorem ds_try (hs : X.stack = X.env :: X.outer) (hf : X.env.frame = some X.env.locals) (hN : X.N.Nodup)
    (hb : ∀ (pn : List (Addr × Obj)) (xe : Value → Shared → Prop), PassesOwn (model X.prog X.w) X.A X.env xe → PBD (X.tr pn xe) body t)
    (hh : ClsOk X (h₀ :: hds) l cv) : PSD X (.Try body (h₀ :: hds) [] [] pos) (dTry t l) :=
  (ps_try_manyAs (tb := fun W => liftS X.K (fun x dd σ H => ∀ C, X.mg x = some (.ref C) → W (.ref C) (some dd) σ H) t) hs hf hN takes_wm
    (fun W pn xe tk hp => ⟨fun pins s σ H D I h => (hb pn xe hp).run pins s σ H D I (liftS_imp h fun x dd σ H q C hC => wm_of tk (q C hC))⟩) hh.toHds).weak
    fun D σ H ⟨z, ρ, M, D0, S, A, q, L⟩ => ⟨z, ρ, M, _, S, A, q, L.nx, L.rt, L.bk, L.ct, hh.wish (K := X.K) L⟩
end
/-! ### what a suite asks of e -/
section
variable {X : Cx} {x f y : Str} {C dd a : Addr} {oe : Obj} {pn : List (Addr × Obj)} {e : Expr} {te : DE} {pos p p2 : Pos} {xs : List Str} {tab : List (Str × Bool)}
/-- e.f -/
def dXf (a dd : Addr) (f : Str) (te : DE) : DE := fun ρ M R => te ρ M fun y M1 => ∃ v d, y = .box a dd (.xd [(f, v)]) [v] [d] ∧ R d M1
theorem de_xf (T : ∀ x ∈ xs, ∃ C fI q, PySem.EyX.ErrTxt X.K X.mg x q f C fI) (hx : x ∈ xs) (hm : X.mg x = some (.ref C)) (hz : Zc (.ref C) (some dd) oe) (hf : ∃ vs, oe.data = .fields vs) (he : PED (X.suite a ((a, oe) :: pn)) e te)
    (hb : attributeBase e f X.env (eval e X.env) = eval e X.env := by rfl) : PED (X.suite a ((a, oe) :: pn)) (.Attribute e f pos) (dXf a dd f te) := by
  obtain ⟨C', fI, q, T⟩ := T x hx
  have hC := T.gC
  rw [hm] at hC
  cases hC
  refine (pe_xf (X := X) ⟨T.ga, T.gg, T.exC, T.hdC⟩ T.noN hz hf he hb).weak fun σ H Q ⟨z, ρ, M, R, S, A, q, F⟩ => ?_
  refine ⟨z, ρ, M, _, S, A, q, fun y M1 v H1 ⟨v', d, e, q1⟩ r1 A1 f1 => ?_⟩
  subst e
  cases r1 with
  | box bx h n nz rs =>
    cases rs with
    | cons r rs =>
      exact ⟨rfl, rfl, dd, _, _, rfl, h, by simp [List.lookup], F d M1 _ H1 q1 r A1 f1⟩
/-- isinstance(e, y) -/
def dIsE (tab : List (Str × Bool)) (x : Str) (a dd : Addr) (te : DE) : DE := fun ρ M R => te ρ M fun d M1 => ∃ b u vs ds, tab.lookup x = some b ∧ d = .box a dd u vs ds ∧ (∃ fs, u = .xd fs) ∧ R (.bl b) M1
/-- the rule over the heap -/
def rIsX (K : PySem.W.Frag) (C a dd : Addr) : List V → Hp → VK → Prop := fun xs H Q => ∃ (c : V) (cv : Value) (b : Bool) (fs : List (Str × V)), xs = [.ref a, c] ∧ (∀ u, RelV c u → u = cv) ∧ H dd = some (.xd fs) ∧ PySem.W.kitOne K (.ref C) cv = some b ∧ Q (.bl b) H
theorem call_isX {nx q fl : Str} {fI : Addr} (T : PySem.EyX.ErrTxt X.K X.mg nx q fl C fI) (hn : PySem.W.specialIn X.K (.builtin "object.__class__") "__get__" = some (some (.builtin "getset_descriptor.__get__"))) (ht : PySem.W.takesIn X.K (.builtin "object.__class__") = some true) (hz : Zc (.ref C) (some dd) oe) (hf : ∃ vs, oe.data = .fields vs) :
    CallR (X.suite a ((a, oe) :: pn)) (.builtin "isinstance") (rIsX X.K C a dd) := by
  intro pins s σ H xs us Q I r h
  obtain ⟨c, cv, b, fs, rfl, hcv, hd, e, q⟩ := h
  cases r with
  | cons rx rr =>
    cases rr with
    | cons rt rr =>
      cases rr
      cases rx
      have ec := hcv _ rt
      subst ec
      obtain ⟨hget, _⟩ := I.pin (a, oe) (List.mem_append.mpr (.inl List.mem_cons_self))
      obtain ⟨vs, hv⟩ := hf
      have hx : ObjOk X.prog X.w H s.heap dd (.xd fs) := I.hok dd _ hd
      obtain ⟨mA, hns, hr⟩ := hx
      obtain ⟨od, ho, hl⟩ := lookIn_ns hns
      have J : PySem.W.InstAt s.heap a oe C (some od) := ⟨hget, hz.1, by unfold PySem.W.notCls; rw [hv] <;> rfl, by rw [hz.2]; exact ho⟩
      exact PySem.W.kia_one (PySem.EyX.kitx_excD T.ga T.gg T.exC T.hdC T.acl hn ht T.mob) I.kIn ⟨_, J⟩ e (fun z => nomatch z) fun tk => ⟨.bl b, H, I.kept (t' := tk) fun _ _ z => z, rfl, q⟩
theorem de_isE (Ti : ∀ x ∈ xs, ∃ C fI q f, PySem.EyX.ErrTxt X.K X.mg x q f C fI) (hn : PySem.W.specialIn X.K (.builtin "object.__class__") "__get__" = some (some (.builtin "getset_descriptor.__get__"))) (ht : PySem.W.takesIn X.K (.builtin "object.__class__") = some true)
    (hr : ∀ p ∈ tab, ErrRel X.K X.mg y p.1 p.2) (hi : X.mg "isinstance" = none) (hx : x ∈ xs) (hm : X.mg x = some (.ref C)) (hz : Zc (.ref C) (some dd) oe) (hf : ∃ vs, oe.data = .fields vs) {D : Addr} (hD : X.mg y = some (.ref D)) (he : PED (X.suite a ((a, oe) :: pn)) e te)
    (hg : Gl (X.suite a ((a, oe) :: pn)) "isinstance" := by rfl) (hgy : Gl (X.suite a ((a, oe) :: pn)) y := by rfl) (hdy : (y == ("__debug__" : Str)) = false := by decide)
    (hse : starEach (e :: [.Name y p2]) X.env = (false, eval e X.env) :: starEach [.Name y p2] X.env := by rfl) (hse2 : starEach [.Name y p2] X.env = (false, eval (.Name y p2) X.env) :: starEach [] X.env := by rfl)
    (hpl : (backTo pos (starEach [.Name y p2] X.env)).any (·.1) = false := by rfl) :
    PED (X.suite a ((a, oe) :: pn)) (.Call (.Name "isinstance" p) [e, .Name y p2] [] pos) (dIsE tab x a dd te) := by
  obtain ⟨C', fI, q, f, T⟩ := Ti x hx
  have hC := T.gC
  rw [hm] at hC
  cases hC
  have hy : PE (X.suite a ((a, oe) :: pn)) (.Name y p2) (tC (.ref D)) := pe_glob hgy hD rfl hdy
  have hpa : PA (X.suite a ((a, oe) :: pn)) [e, .Name y p2] _ := pa_cons he (pa_cons hy pa_nil hse2) hse
  refine (pe_callB (call_isX T hn ht hz hf) hg hi (by decide +kernel) hpa (by decide) (by decide) hse hpl).weak fun σ H Q ⟨z, ρ, M, R, S, A, q, F⟩ => ?_
  refine ⟨z, ρ, M, _, S, A, q, fun d M1 v H1 ⟨b, u, vs, ds, hl, e, ⟨fs, eu⟩, q1⟩ r1 A1 f1 => ?_⟩
  subst e
  subst eu
  obtain ⟨C2, D2, h1, h2, h3, h4⟩ := hr _ (mem_of_look hl)
  rw [hm] at h1
  rw [hD] at h2
  cases h1
  cases h2
  cases r1 with
  | box bx h n nz rs =>
    exact ⟨.ref D, .ref D, b, fs, rfl, fun u ru => ru, h, h4, F _ M1 _ H1 q1 (.bl b) A1 f1⟩
end
end DL

set_option Elab.async false
set_option linter.all false
set_option maxHeartbeats 4000000
set_option maxRecDepth 100000
/-! D-layer, part 29: a lambda without parameters handed to a def that calls it. -/
namespace LamX
open PySem PySem.Spec PyProof.Rows L2
/-- the table at P tells code objects of the name q, at addresses that are G -/
def TabG (H : Hp) (P : Addr) (q : Str) (G : Addr → Prop) : Prop := ∃ ps : Array Value, H P = some (.tbl ps) ∧ TriplesOk ps.toList ∧ ∀ (pos : Pos) (cv : Value), codeAmong pos ps.toList = some cv → ∃ c, cv = .ref c ∧ H c = some (CodeO c q) ∧ G c
section
variable {X : Cx} {pins : List (Addr × Obj)} {σ : L2.St} {H : Hp} {s : Shared}
theorem lam_make3 {c P : Addr} {params : Arguments} {body : Expr} {scope : Scope} {pos : Pos} {G : Addr → Prop} {E : Value → Shared → Prop} {Q : Value → Shared → Prop} (I : Inv X pins σ H s) (TB : TabB X.base X.mg c P) (hcode : X.env.code = .ref c)
    (hT : TabG H P (X.env.qual ++ "<lambda>") G) (hG : ∀ c, H c = none → G c) (hdef : defaultsOf params X.env = ([], [])) (hfree : ∀ y ∈ scope.names, y.2 = .free → ∃ c, X.env.cells.lookup y.1 = some c)
    (h : ∀ (f c' : Addr) (pm ctv : Value) (H1 : Hp) (s' : Shared), Inv X pins σ H1 s' → (∀ b o, b ≠ P → H b = some o → H1 b = some o) → TabG H1 P (X.env.qual ++ "<lambda>") G →
      s'.heap.get? f = some (PySem.W.kla_obj "<lambda>" (X.env.qual ++ "<lambda>") params body scope (cloFrom X.env.cells scope.names []) pm c' ctv) → H1 f = none → f ∉ frs X.stack → H1 c' = some (CodeO c' (X.env.qual ++ "<lambda>")) → G c' → Q (.ref f) s') :
    wpAny (model X.prog X.w) X.A (eval (.Lambda params body scope pos) X.env) Q E s := by
  obtain ⟨ps, hP, ht, ha⟩ := hT
  refine PySem.W.kla_eval hdef ?_
  have bP : s.heap.BuiltinsAt X.mg P := TB.bm.keeps I.bk
  have hP' : s.heap.get? P = some { cls := .none, data := .fields ps } := I.hok P _ hP
  have nofr : ∀ f, s.heap.objs.size ≤ f → f ∉ frs X.stack := fun f hf z => by
    rcases List.mem_cons.mp (I.stkSub _ z) with e | e
    · have h1 := I.lt
      rw [← e] at h1
      exact Nat.lt_irrefl _ (Nat.lt_of_lt_of_le h1 hf)
    · exact I.nofs hf e
  cases hc : codeAmong pos ps.toList with
  | none =>
    refine PySem.W.kla_makeFunction (mg := X.mg) (c := c) (P := P) (ps := ps) (closure_ok hfree) I.ok.glob (I.mod.glob.keeps I.bk) hcode (TB.code.keeps I.bk) hP' ht hc TB.gP bP fun c' ctv h' tk hx hge hlt hrec htb => ?_
    obtain ⟨c2, oc, vs, t, e2, hoc, hd, hv⟩ := hrec
    cases e2
    have hsz : s.heap.objs.size ≤ h'.objs.size := Nat.le_trans hge (Nat.le_of_lt hlt)
    have nC : H c' = none := I.hok.fresh hge
    have I1 := inv_table (t' := tk) (more := #[rawInt pos.line, rawInt pos.col, .ref c']) (h' := h'.push (PySem.W.kla_obj "<lambda>" (X.env.qual ++ "<lambda>") params body scope (cloFrom X.env.cells scope.names []) ((X.mg "__name__").getD .none) c' ctv)) I hP
      (fun b o hb e => Heap.get?_push_of_some _ (hx b o hb e)) (Heap.get?_push_of_some _ htb) hge ⟨oc, vs, t, Heap.get?_push_of_some _ hoc, hd, hv⟩
    have hE : ∀ b o, b ≠ P → H b = some o → (upd (upd H P (.tbl (ps ++ #[rawInt pos.line, rawInt pos.col, .ref c']))) c' (CodeO c' (X.env.qual ++ "<lambda>"))) b = some o := fun b o n e => by
      rw [upd_ne (ne_of_none e nC), upd_ne n]
      exact e
    have eL : (ps ++ #[rawInt pos.line, rawInt pos.col, .ref c']).toList = ps.toList ++ [rawInt pos.line, rawInt pos.col, .ref c'] := by simp
    refine h h'.objs.size c' ((X.mg "__name__").getD .none) ctv _ _ I1 hE ?_ (Heap.get?_push_size _ rfl) ?_ (nofr _ hsz) upd_same (hG c' nC)
    · refine ⟨_, by rw [upd_ne (ne_of_none hP nC), upd_same], by rw [eL]; exact PySem.TriplesOk_snoc _ _ _ _ ht, fun p' cv hcv => ?_⟩
      rw [eL] at hcv
      rcases among_app _ ht hcv with z | z
      · obtain ⟨c0, e1, e2, e3⟩ := ha p' cv z
        exact ⟨c0, e1, hE _ _ (fun z => by rw [z, hP] at e2; cases Option.some.inj e2) e2, e3⟩
      · exact ⟨c', z, upd_same, hG c' nC⟩
    · have n1 : h'.objs.size ≠ c' := Nat.ne_of_gt hlt
      have n2 : h'.objs.size ≠ P := Nat.ne_of_gt (Nat.lt_of_lt_of_le (Heap.lt_size hP') hsz)
      rw [upd_ne n1, upd_ne n2]
      exact I.hok.fresh hsz
  | some cv =>
    obtain ⟨c', e, hco, gc⟩ := ha pos cv hc
    subst e
    refine PySem.W.kla_makeFunctionHit (mg := X.mg) (c := c) (P := P) (ps := ps) (closure_ok hfree) I.ok.glob (I.mod.glob.keeps I.bk) hcode (TB.code.keeps I.bk) hP' ht hc bP fun ctv h' tk hx hsz => ?_
    have I1 : Inv X pins σ H { s with heap := h'.push (PySem.W.kla_obj "<lambda>" (X.env.qual ++ "<lambda>") params body scope (cloFrom X.env.cells scope.names []) ((X.mg "__name__").getD .none) c' ctv), toks := tk } := I.kept fun b o e => Heap.get?_push_of_some _ (hx b o e)
    exact h h'.objs.size c' ((X.mg "__name__").getD .none) ctv H _ I1 (fun _ _ _ e => e) ⟨ps, hP, ht, ha⟩ (Heap.get?_push_size _ rfl) (I.hok.fresh hsz) (nofr _ hsz) hco gc
end
section
variable {X : Cx} {pins : List (Addr × Obj)} {σ : L2.St} {H : Hp} {s : Shared}
/-- x(), in the def that got the lambda: what it may let out is told by the frame's own state -/
theorem pe_actS {CXg : CXT} {Eg : XK} {Ng : List Str} {qg : Str} {sg : Scope} {g f c' : Addr} {cdg pm ctv : Value} {params : Arguments} {body : Expr} {scope : Scope} {k i : Nat} {a : Str} {pn : List (Addr × Obj)} {xe : Value → Shared → Prop} {tb : XK → TE} {p1 p2 : Pos}
    (I : Inv X pins σ H s) (L : LamS X.env.scope scope) (hf : s.heap.get? f = some (PySem.W.kla_obj "<lambda>" (X.env.qual ++ "<lambda>") params body scope (cloFrom X.env.cells scope.names []) pm c' ctv)) (hfn : H f = none) (hfr : f ∉ frs X.stack)
    (hbind : bindArgs (PySem.W.kla_fn "<lambda>" (X.env.qual ++ "<lambda>") params body scope (cloFrom X.env.cells scope.names []) pm (.ref c') ctv) ⟨[], []⟩ = pure [])
    (hr : Room (k + 1) (X.A.deeper (envOfC qg sg s.heap.objs.size g cdg))) (hGd : X.A.guards = some [])
    (hbody : ∀ (A : Around) (outer : List Env) (s : Shared) (H : Hp) (E : XK), Room k (A.deeper (lamEnv X scope s.heap.objs.size f c')) → A.guards = some [] → PE (lamCx X A outer s H E scope f c') body (tb E))
    (hN : Ng[i]? = some a) (hv : Vis sg a) (hd : (a == ("__debug__" : Str)) = false := by decide) (hcd : (a == ("__classdict__" : Str)) = false := by decide) :
    PE ((cxOf CXg X.prog X.w X.K X.mg X.base Ng qg sg g cdg X.A X.stack s H Eg).tr pn xe) (.Call (.Name a p1) [] [] p2)
      (fun σZ HZ Q => σZ[i]? = some (some (.ref f)) ∧ HZ c' = some (CodeO c' (X.env.qual ++ "<lambda>")) ∧
        ∃ E : XK, (∀ cls d H', E cls d H' → DL.Wm ((cxOf CXg X.prog X.w X.K X.mg X.base Ng qg sg g cdg X.A X.stack s H Eg).tr pn xe) cls d σZ H') ∧ tb E σ HZ Q) := by
  refine ⟨fun pinsZ sZ σZ HZ Q IZ h => ?_⟩
  obtain ⟨hs, hc, E, hW, ht⟩ := h
  refine wpAny_Call_Name_kw (thn ((pe_var (pos := p1) (i := i) hN hv hd hcd).run pinsZ sZ σZ HZ (fun v H1 => v = .ref f ∧ H1 = HZ) IZ ⟨.ref f, hs, rfl, rfl⟩) fun u s1 ⟨v, H1, I1, r1, q1⟩ => ?_)
  obtain ⟨ev, eH⟩ := q1
  subst ev
  rw [eH] at I1
  obtain rfl : u = Value.ref f := r1
  have of1 : s1.heap.get? f = some (PySem.W.kla_obj "<lambda>" (X.env.qual ++ "<lambda>") params body scope (cloFrom X.env.cells scope.names []) pm c' ctv) := I1.base.keep f _ hf hfn hfr (fun z => nomatch (show f ∈ ([] : List Addr) from z))
  refine PySem.W.callWith_F0 ⟨_, _, _, _, of1⟩ ?_
  have un : Un (frs X.stack) [] H HZ s.heap s1.heap := I1.base
  obtain ⟨⟨oc, vs, t, hoc, hdc, hvc⟩, _, _⟩ := I1.hok c' _ hc
  have rc : codeAny (model X.prog X.w) (X.A.deeper (envOfC qg sg s.heap.objs.size g cdg)) (.call (.ref f) ⟨[], []⟩) (CR (L2.CX X.prog X.w) (envOfC qg sg s.heap.objs.size g cdg :: X.stack) X.prog X.w HZ s1 Q E) s1 := by
    refine PySem.W.kla_callFunE hr.depth of1 rfl L.co L.gen rfl ⟨c', oc, vs, t, rfl, hoc, hdc, hvc⟩ ?_
    rw [hbind]
    refine wpAny_pure (wpAny_newFunctionEnv (fun y hy => (L.own y hy).2) (fun y hy => absurd hy (by simp)) (fun h₁ hns hsb => ⟨I1.nolimit.fresh _ hsb, ?_⟩) L.kind)
    show codeAny _ _ (.expr body (lamEnv X scope s1.heap.objs.size f c')) _ _
    have kp : ∀ b o, s1.heap.get? b = some o → h₁.get? b = some o := fun b o e => hsb.extBut b o (Nat.ne_of_lt (Heap.lt_size e)) (Heap.get?_push_of_some _ e)
    have J : Inv (lamCx X (X.A.deeper (envOfC qg sg s.heap.objs.size g cdg)) (envOfC qg sg s.heap.objs.size g cdg :: X.stack) s1 HZ E scope f c') [] σ HZ { s1 with heap := h₁, toks := s1.toks + ([] : List (Str × Value)).length } :=
      lam_start2 I L I1.env0 hr.hd un hns kp
    refine PySem.W.kla_codeExpr (wpAny_mono ((hbody _ _ s1 HZ E (hr.deeper _) hGd).run [] _ _ HZ Q J ht) (fun v s' hq => ?_) fun e s' hq => hq)
    obtain ⟨w', H', J', rv, q⟩ := hq
    exact ⟨w', H', J'.os, J'.bare, J'.base, J'.hok, rv, q⟩
  refine wpAny_call (codeAny_mono rc fun r s' hq => ?_)
  cases r with
  | error e => exact DL.takes_wm _ _ (XE.of_call I1 (fun cls d H' h => hW cls d H' h) hq)
  | ok fl =>
    cases fl with
    | ret u => exact I1.after hq
    | next => exact False.elim hq
    | brk => exact False.elim hq
    | cont => exact False.elim hq
end
end LamX
namespace DL
open PySem PySem.Spec PyProof.Rows L2 LamX
/-! ### what a lambda captured, as a value -/
def packV : DEnv → L2.St → List V
  | none :: ρ, _ :: σ => packV ρ σ
  | some _ :: ρ, some v :: σ => v :: packV ρ σ
  | _, _ => []
def packD : DEnv → List D
  | [] => []
  | none :: ρ => packD ρ
  | some d :: ρ => d :: packD ρ
theorem pack_reps {K : KZ} {M : Mem} {H : Hp} : ∀ {ρ : DEnv} {σ : L2.St}, SAbs K M H ρ σ → Reps K M H (packV ρ σ) (packD ρ)
  | _, _, .nil => .nil
  | _, _, .off t => have h := pack_reps t; h
  | _, _, .on r t => have h := pack_reps t; .cons r h
theorem unpack {K K' : KZ} {M M' : Mem} {H H' : Hp} : ∀ {ρ : DEnv} {σ : L2.St}, SAbs K M H ρ σ → Reps K' M' H' (packV ρ σ) (packD ρ) → SAbs K' M' H' ρ σ
  | _, _, .nil, _ => .nil
  | _, _, .off t, r => .off (unpack t r)
  | _, _, .on _ t, .cons r rs => .on r (unpack t rs)
/-- a(): the value in slot i is the box of the lambda made, tl its body's reading -/
def xAct (i : Nat) (f c : Addr) (q : Str) (vs : List V) (ds : List D) (tl : Mem → RK → XD → Prop) : DX := fun ρ M R XR => slot ρ i = some (.box f c (CodeO c q) vs ds) ∧ tl M R XR
/-- the name of a def's lambdas -/
def lamQ (x : Str) : Str := (x ++ ".<locals>.") ++ "<lambda>"
/-- x(lambda: body): n the number of x's names, tD x's reading, tb the body's -/
def dLam (K : PySem.W.Frag) (P : Addr) (q : Str) (n : Nat) (tD : DX → DS) (tb : DX) : DE := fun ρ M R => M P = some (.tab q) ∧
  ∀ (f c : Addr) (vs : List V) (ds : List D), tD (xAct 0 f c q vs ds (tb ρ)) (endsOf K R) (startD n [.box f c (CodeO c q) vs ds]) M
section
variable {X : Cx} {x a : Str} {st : Stmt} {Ng : List Str} {c P : Addr} {k : Nat} {params : Arguments} {body : Expr} {scope : Scope} {p lpos pos : Pos} {tD : DX → DS} {tb : DX}
theorem de_lamcall (Fx : ∃ (g : Addr) (fd : FuncData), X.mg x = some (.ref g) ∧ Fun X.K x x st g fd) (Sg : FnScope Ng [a] (defScope st)) (pb : PosB x st [a]) (hNg : Ng[0]? = some a) (hva : Vis (defScope st) a)
    (hg0 : ∀ (g : Addr) (cdg : Value) (s : Shared) (H : Hp) (ta : DX), Room (k + 1) (X.A.deeper (envOfC x (defScope st) s.heap.objs.size g cdg)) →
      (∀ (pn : List (Addr × Obj)) (xe : Value → Shared → Prop) (p1 p2 : Pos), PEDX ((cxOf CX0 X.prog X.w X.K X.mg X.base Ng x (defScope st) g cdg X.A X.stack s H C8.E0).tr pn xe) (.Call (.Name a p1) [] [] p2) ta) →
      PBD (cxOf CX0 X.prog X.w X.K X.mg X.base Ng x (defScope st) g cdg X.A X.stack s H C8.E0).nox (defBody st) (tD ta))
    (TB : TabB X.base X.mg c P) (hcode : X.env.code = .ref c) (hr : Room (k + 2) X.A) (hGd : X.A.guards = some []) (L : LamS X.env.scope scope) (hdef : defaultsOf params X.env = ([], []))
    (hbind : ∀ (q : Str) (cl : List (Str × Addr)) (pm cv ctv : Value), bindArgs (PySem.W.kla_fn "<lambda>" q params body scope cl pm cv ctv) ⟨[], []⟩ = pure [])
    (hbody : ∀ (A : Around) (outer : List Env) (s : Shared) (H : Hp) (E : XK) (f c' : Addr), Room k (A.deeper (lamEnv X scope s.heap.objs.size f c')) → A.guards = some [] → PEDX (lamCx X A outer s H E scope f c') body tb)
    (hg : Gl X x := by rfl) (hdb : (x == ("__debug__" : Str)) = false := by decide) (hd : (a == ("__debug__" : Str)) = false := by decide) (hcd : (a == ("__classdict__" : Str)) = false := by decide) :
    PED X (.Call (.Name x p) [.Lambda params body scope lpos] [] pos) (dLam X.K P (X.env.qual ++ "<lambda>") (Ng.length - 1) tD tb) := by
  obtain ⟨g, fd, hm, Fn⟩ := Fx
  refine ⟨fun pins s σ H Q I h => ?_⟩
  obtain ⟨z, ρ, M, R, S, A, ⟨hM, q⟩, F⟩ := h
  obtain ⟨ps, hP, ht, hcs⟩ : TabD ⟨X.K, z⟩ M H P (X.env.qual ++ "<lambda>") := A.at_ P _ hM
  refine wpAny_Call_Name_kw (ld_glob I hg hm ?_ hdb)
  refine PySem.W.callWith_K (h₀ := X.base) I.ok.mod.kin Fn.kp ?_ (by rfl) (by rfl)
  show wpAny _ _ (spliced ((false, eval (.Lambda params body scope lpos) X.env) :: backTo pos (starEach [] X.env))) _ _ s
  refine Calls.spliced_cons (lam_make3 (G := fun c => M c = none ∧ ¬ z c) I TB hcode ⟨ps, hP, ht, hcs⟩ (fun c e => ⟨A.free e, A.znew (K := ⟨X.K, z⟩) e⟩) hdef (L.has I.ok) fun f c' pm' ctv H1 s' I1 eN T1 hf hfn hfr hco gc => ?_)
  refine Calls.spliced_nil ⟨I1.kIn, ?_⟩
  have f1 : Frame M H M H1 := fun b hb n => by
    cases e : H b with
    | none => exact absurd e hb
    | some o => exact ⟨eN b o (fun z => by rw [z, hM] at n; cases n) e, n⟩
  have A1 : MAbs ⟨X.K, z⟩ M H1 := A.step f1 fun b o e => by
    by_cases hb : b = P
    · subst hb
      rw [hM] at e
      cases e
      exact .inr T1
    · have keep : ∀ b o, b ≠ P → M b = some o → H1 b = H b := fun b o n e => by
        obtain ⟨u, hu⟩ := A.there e
        rw [hu]
        exact eN b u n hu
      refine .inl ⟨e, keep b o hb e, fun ks b2 eo => ⟨rfl, ?_⟩⟩
      subst eo
      obtain ⟨_, _, _, _, _, _, _, _, _, mb⟩ := A.at_ b _ e
      exact keep b2 _ (fun y => by rw [y, hM] at mb; cases mb) mb
  have S1 : SAbs ⟨X.K, z⟩ M H1 ρ σ := S.fr f1
  obtain ⟨oc, od, kV, doc, pm, an, cdv, ct, osl, rfl, lk, hcg⟩ := Fn.ex
  have rc : codeAny (model X.prog X.w) X.A (.call (.ref g) ⟨[.ref f], []⟩) (CR CX0 X.stack X.prog X.w H1 s' Q C8.E0) s' := by
    refine run_ofS (N := Ng) (ps := [a]) (us := [.ref f]) (vs := [.ref f]) lk hcg Sg hr I1.env0 (.of_eq (pb _ _ _ _ _ _ [.ref f] rfl)) (.cons rfl .nil) rfl fun hr' => ?_
    refine ⟨_, (hg0 g cdv s' H1 (xAct 0 f c' (X.env.qual ++ "<lambda>") (packV ρ σ) (packD ρ) (tb ρ)) hr' fun pn xe p1 p2 => ?_).nox, z, startD (Ng.length - 1) [.box f c' (CodeO c' (X.env.qual ++ "<lambda>")) (packV ρ σ) (packD ρ)], M, endsOf X.K R, ?_, A1, q f c' _ _, ⟨?_, (F.fr f1).ends, fun _ _ _ _ z => z.elim, fun _ _ _ _ z => z.elim, fun _ _ _ _ _ _ _ _ _ z => z.elim⟩⟩
    · refine (pe_actS (i := 0) (tb := fun E => liftX X.K (fun x dd _ H' => ∀ C, X.mg x = some (.ref C) → E (.ref C) (some dd) H') tb) I1 L hf hfn hfr (hbind _ _ _ _ _) hr' hGd (fun A outer s2 H2 E hr2 hg2 => ?_) hNg hva hd hcd).weak fun σZ HZ Q2 ⟨z2, ρ2, M2, R2, XR2, S2, A2, ⟨hsl, ht2⟩, F2, G2⟩ => ?_
      · exact (hbody A outer s2 H2 E f c' hr2 hg2).weak fun σ3 H3 Q3 ⟨z3, ρ3, M3, R3, XR3, S3, A3, q3, F3, G3⟩ => ⟨z3, ρ3, M3, R3, XR3, S3, A3, q3, F3, fun x fl d M' v dd H' p e n nz r A' fr C hC => wm_of (takes_of rfl rfl rfl rfl) (G3 x fl d M' v dd H' p e n nz r A' fr C hC)⟩
      · obtain ⟨v, hv, rb⟩ := S2.get hsl
        cases rb with
        | box bx h n nz rs =>
          refine ⟨hv, h, fun cls d H' => DL.Wm ((cxOf CX0 X.prog X.w X.K X.mg X.base Ng x (defScope st) g cdv X.A X.stack s' H1 C8.E0).tr pn xe) cls d σZ H', fun _ _ _ h => h, z2, ρ, M2, R2, XR2, unpack S1 rs, A2, ht2, F2, G2⟩
    · have hl : Ng.length - 1 = Ng.length - ([.ref f] : List V).length := rfl
      exact SAbs.start (.cons (.box bx_code hco gc.1 gc.2 (pack_reps S1)) .nil) _
    · intro ρ2 M2 σ2 H2 q2 S2 A2 f2
      exact (F.fr f1).ends .non M2 .non H2 q2 .non A2 f2
  refine wpAny_call (codeAny_mono rc fun r s2 hq => ?_)
  cases r with
  | error e => exact (show False from hq).elim
  | ok fl =>
    cases fl with
    | ret u => exact I1.after hq
    | next => exact False.elim hq
    | brk => exact False.elim hq
    | cont => exact False.elim hq
end
end DL

set_option Elab.async false
set_option linter.all false
set_option maxHeartbeats 4000000
set_option maxRecDepth 100000
/-! D-layer, part 30: the head of a law whose def makes lambdas. -/
namespace DL
open PySem PySem.Spec PyProof.Rows L2 LamX
section
variable {P : Program} {w : World} {K : PySem.W.Frag} {mg mb : Str → Option Value} {base : Heap}
/-- what the table of the top tells of a def's code object -/
theorem code_of {x : Str} {c Pt : Addr} {h : Heap} (X : K.In h) (G : h.Ns mainGlobals mg) (ht : PySem.W.tabIn K x = some (c, Pt)) : ∀ (f : Addr), mg x = some (.ref f) → ∀ (oc : Value) (od : Option Addr) (fd : FuncData) (osl : Array (Option Value)), K.lookup f = some ⟨oc, od, .func fd, osl⟩ → fd.code = .ref c :=
  fun f hm oc od fd osl lk => PySem.W.law_code X G ht hm (X _ _ lk) rfl
/-- the rule for a def by its body, its code object known -/
theorem fnG_ofC {CX : CXT} {k : Nat} {f c : Addr} {x : Str} {st : Stmt} {fd : FuncData} {N ps : List Str} {sp : Sp} (hc : ∀ (oc : Value) (od : Option Addr) (fd : FuncData) (osl : Array (Option Value)), K.lookup f = some ⟨oc, od, .func fd, osl⟩ → fd.code = .ref c)
    (F : Fun K x x st f fd) (S : FnScope N ps (defScope st)) (len : ∀ vs H Q E, sp vs H Q E → vs.length = ps.length)
    (hbody : ∀ (A : Around) (outer : List Env) (s : Shared) (H : Hp) (vs : List V) (Q : VK) (E : XK), Room k (A.deeper (envOfC x (defScope st) s.heap.objs.size f (.ref c))) → A.guards = some [] → sp vs H Q E →
      ∃ t, PSs (cxOf CX P w K mg base N x (defScope st) f (.ref c) A outer s H E) (defBody st) t ∧ t { nx := fun _ H' => Q .non H', rt := Q } (start N vs) H) : FnG P w K mg base CX (k + 1) f fd ps sp := by
  obtain ⟨oc, od, kV, doc, pm, an, cdv, ct, osl, rfl, lk, hcd⟩ := F.ex
  obtain rfl : cdv = .ref c := hc _ _ _ _ lk
  refine ⟨len, fun A outer s H args us vs Q E hr hG e0 hb r hsp => ?_⟩
  have hl := len _ _ _ _ hsp
  have KX : K.In s.heap := e0.mod.kin.keeps fun b o e => (e0.bs b o e).1
  have lim : s.heap.NoLimit := e0.mod.nolimit.keeps fun b o e => (e0.bs b o e).1
  refine codeAny_call_function hr.depth (KX _ _ lk) rfl S.co S.gen rfl (PySem.W.codeRec_of KX hcd) (hb _ _ _ _ ?_)
  refine wpAny_newFunctionEnv_cells S.kind (fun ⟨n, v⟩ hy => ?_) fun env he s1 x => ?_
  · rcases S.par n (List.of_mem_zip hy).1 with q | q
    · exact .inl q
    · exact .inr ⟨q, PySem.W.cellsFrom_some _ _ _ (.inl q)⟩
  subst he
  refine ⟨lim.keeps x.toInCall.keep, codeAny_func ?_⟩
  obtain ⟨t, ht, hq⟩ := hbody A outer s H vs Q E (hr.deeper _) hG hsp
  refine wpAny_mono (ht.run [] s1 (start N vs) H _ (inv_start S hr.hd e0 hl r x) hq) (fun fl s' hs => ?_) fun e s' hs => hs
  cases fl with
  | ret u =>
    obtain ⟨v, σ', H', J, rv, q⟩ := hs
    exact ⟨v, H', J.os, J.bare, J.base, J.hok, rv, q⟩
  | next =>
    obtain ⟨σ', H', J, q⟩ := hs
    exact ⟨V.non, H', J.os, J.bare, J.base, J.hok, rfl, q⟩
  | brk => exact hs.elim fun _ h => h.elim fun _ h => h.2.elim
  | cont => exact hs.elim fun _ h => h.elim fun _ h => h.2.elim
theorem has_viewC {x : Str} {c : Addr} {st : Stmt} {N ps : List Str} {k : Nat} {sp : SpD} {t : DS} (hc : ∀ (f : Addr), mg x = some (.ref f) → ∀ (oc : Value) (od : Option Addr) (fd : FuncData) (osl : Array (Option Value)), K.lookup f = some ⟨oc, od, .func fd, osl⟩ → fd.code = .ref c)
    (F : ∃ (f : Addr) (fd : FuncData), mg x = some (.ref f) ∧ Fun K x x st f fd) (S : FnScope N ps (defScope st)) (len : ∀ ds M R XR, sp ds M R XR → ds.length = ps.length)
    (hb : ∀ (f : Addr) (A : Around) (outer : List Env) (s : Shared) (H : Hp) (E : XK), Room k (A.deeper (envOfC x (defScope st) s.heap.objs.size f (.ref c))) → A.guards = some [] → PBD (cxOf CX0 P w K mg base N x (defScope st) f (.ref c) A outer s H E).nox (defBody st) t)
    (rd : ∀ ds M R XR, sp ds M R XR → t (endsOf K R) (startD (N.length - ps.length) ds) M) : Has P w K mg base CX0 x st ps (k + 1) sp := by
  obtain ⟨f, fd, hm, F⟩ := F
  have hlen : ∀ vs H Q E, liftSp K mg sp vs H Q E → vs.length = ps.length := fun vs H Q E ⟨z, M, ds, R, XR, A, r, q, _⟩ => r.length.trans (len _ _ _ _ q)
  refine ⟨f, fd, hm, F, fnG_ofC (hc f hm) F S hlen fun A outer s H vs Q E hr hG h => ?_⟩
  obtain ⟨z, M, ds, R, XR, A', r, q, FF, _⟩ := h
  refine ⟨_, (hb f A outer s H E hr hG).nox, z, startD (N.length - ps.length) ds, M, endsOf K R, ?_, A', rd _ _ _ _ q, ⟨?_, FF.ends, fun _ _ _ _ z => z.elim, fun _ _ _ _ z => z.elim, fun _ _ _ _ _ _ _ _ _ z => z.elim⟩⟩
  · have e : vs.length = ps.length := r.length.trans (len _ _ _ _ q)
    unfold L2.start startD
    rw [e]
    exact SAbs.start r _
  · intro ρ M1 σ1 H1 q1 S1 A1 f1
    exact FF.ends .non M1 .non H1 q1 .non A1 f1
/-- the memory at the head: the law's table of code objects -/
abbrev memT (Pt : Addr) (q : Str) : Mem := mset (fun _ => none) Pt (.tab q)
def LawSpT (sp : SpD) (n : Nat) (Pt : Addr) (q : Str) : Prop := ∀ ns : List Int, ns.length ≤ n → sp [.lst (ns.map .int)] (memT Pt q) (fun d _ => d = .bl true) noX
theorem headT_ {k n : Nat} {fa a c Pt : Addr} {q nm x : Str} {st : Stmt} {sp : SpD} {s1 : Shared} {us : List Value} {ns : List Int} (kin : K.In s1.heap) (g1 : s1.heap.Ns mainGlobals mg) (g2 : s1.heap.Ns builtinsNs mb) (gb : ∀ y : Str, y ≠ "__name__" → mb y = bootBuiltins y)
    (nl : s1.heap.NoLimit) (ng : s1.gens = #[]) (hT : s1.heap.get? Pt = some { cls := .none, data := .fields #[] }) (nT : K.lookup Pt = none) (C : PySem.W.CodeHd s1.heap c Pt)
    (hbm : ∃ (bm : Addr) (ob : Obj), mg "__builtins__" = some (.ref bm) ∧ bm ≠ builtinsNs ∧ s1.heap.get? bm = some ob ∧ ob.cls = .type "module" ∧ ob.dict = some builtinsNs ∧ ob.data = .plain)
    (ea : s1.heap.get? a = some { cls := .type "list", data := .seq us.toArray }) (ui : IntsAre us ns) (un : ns.length ≤ n) (nn : n ≤ sizeLine) (room : Room k callerA) (em : mg nm = some (.ref fa)) (pb : PosB nm st [x])
    (F : ∀ base : Heap, K.In base → base.Ns mainGlobals mg → TabB base mg c Pt → Has P w K mg base CX0 nm st [x] k sp) (hsp : LawSpT sp n Pt q) :
    codeAny (model P w) callerA (.call (.ref fa) ⟨[.ref a], []⟩) (fun r s2 => r = .ok (.ret (.bool true)) ∧ OldK s1.heap s2.heap ∧ s2.os = s1.os ∧ AllBare s2.gens) s1 := by
  have uv : Vals (ns.map V.int) us := vals_ints ui
  have ul : us.length = ns.length := by rw [← uv.length, List.length_map]
  have aT : a ≠ Pt := fun z => by
    rw [z, hT] at ea
    cases ea
  have go : ∀ H : Hp, H Pt = some (.tbl #[]) → (∀ b, H b = none ∨ b = Pt ∨ ∃ ob xs, H b = some (.frz ob (.lst xs))) → SqL K H a (ns.map V.int) → HOk P w H s1.heap → (∀ b, H b ≠ none → (b = a ∧ K.lookup b = none) ∨ b = Pt) → codeAny (model P w) callerA (.call (.ref fa) ⟨[.ref a], []⟩) (fun r s2 => r = .ok (.ret (.bool true)) ∧ OldK s1.heap s2.heap ∧ s2.os = s1.os ∧ AllBare s2.gens) s1 := by
    intro H hHP only sq ok there
    have noD : ∀ {b : Addr} {o : Obj}, s1.heap.get? b = some o → (∀ vs n, o.data ≠ .seq vs n) → o.data ≠ .fields #[] → H b = none := fun {b o} e h1 h2 => by
      cases q : H b with
      | none => rfl
      | some u =>
        rcases there b (by rw [q]; simp) with ⟨e', _⟩ | e'
        · rw [e', ea] at e
          cases e
          exact (h1 _ _ rfl).elim
        · rw [e', hT] at e
          cases e
          exact (h2 rfl).elim
    have base_of : ∀ {b : Addr} {o : Obj}, s1.heap.get? b = some o → H b = none → (hidT s1.heap H).get? b = some o := fun e n => hidT_get e n
    have dic : ∀ {b : Addr} {m : Str → Option Value}, s1.heap.Ns b m → (hidT s1.heap H).Ns b m := fun {b m} ⟨o, es, ep, e, d, z⟩ => ⟨o, es, ep, base_of e (noD e (fun vs n y => by rw [d] at y; cases y) fun y => by rw [d] at y; cases y), d, z⟩
    have kb : K.In (hidT s1.heap H) := fun b o e => hidT_get (kin b o e) (Classical.byContradiction fun hb => by
      rcases there b hb with ⟨_, eb⟩ | eb
      · rw [eb] at e
        cases e
      · rw [eb, nT] at e
        cases e)
    have md : Mod K mg (hidT s1.heap H) := ⟨kb, dic g1, ⟨mb, dic g2, gb⟩, let ⟨mc, p, q⟩ := nl; ⟨mc, dic p, q⟩⟩
    have env : Env0 P w K mg (hidT s1.heap H) callerA [] s1 H := ⟨rfl, md, fun b o e => of_hidT e, Nat.le_of_eq (hidT_size _ _), trivial, fun b hb => (nomatch (show b ∈ ([] : List Addr) from hb)), ok, .of_eq ng⟩
    have TB : TabB (hidT s1.heap H) mg c Pt := by
      refine ⟨?_, ?_, fun z => ?_⟩
      · obtain ⟨o, us, file, tf, flags, tg, inF, text, tt, e1, r1, r2, r3, r4, r5, r6, r7, r8, hne⟩ := C
        refine ⟨o, us, file, tf, flags, tg, inF, text, tt, base_of e1 (noD e1 (fun vs n z => ?_) fun z => ?_), r1, r2, r3, r4, r5, r6, r7, r8, hne⟩
        · rw [r2] at z
          cases z
        · rw [r2] at z
          cases z
          simp at r3
      · obtain ⟨bm, ob, b1, b2, b3, b4, b5, b6⟩ := hbm
        have nG : bm ≠ mainGlobals := fun q => by
          obtain ⟨o, es, ep, e, hd, _⟩ := g1
          rw [q, e] at b3
          cases b3
          rw [hd] at b6
          cases b6
        have nP : bm ≠ Pt := fun q => by
          rw [q, hT] at b3
          cases b3
          cases b6
        refine ⟨bm, ob, b1, b2, nG, nP, base_of b3 (noD b3 (fun vs n z => ?_) fun z => ?_), b4, b5, b6⟩
        · rw [b6] at z
          cases z
        · rw [b6] at z
          cases z
      · obtain ⟨o, es, ep, e, hd, _⟩ := g1
        rw [z, hT] at e
        cases e
        cases hd
    obtain ⟨f, fd, hm, Fn, G⟩ := (F _ kb (dic g1) TB).ex
    obtain rfl : f = fa := by
      have z := hm.symm.trans em
      cases z
      rfl
    have mz : MAbs ⟨K, fun _ => False⟩ (memT Pt q) H := by
      refine ⟨fun b o e => ?_, fun b o e h => h, fun b h => h.elim⟩
      by_cases hb : b = Pt
      · subst hb
        have e' : mset (fun _ => none) b (.tab q) b = some o := e
        rw [mset_same] at e'
        cases e'
        exact ⟨#[], hHP, True.intro, fun pos cv hc => by
          have z : codeAmong pos [] = some cv := hc
          simp [codeAmong] at z⟩
      · have e' : mset (fun _ => none) Pt (.tab q) b = some o := e
        rw [mset_ne hb] at e'
        cases e'
    have rep : Reps ⟨K, fun _ => False⟩ (memT Pt q) H [.ref a] [.lst (ns.map .int)] := .cons (.lst (sq.elim (fun r => .inl ⟨r, mset_ne aT, id⟩) .inr) (Reps.ints ns)) .nil
    have fin : Fin ⟨K, fun _ => False⟩ (memT Pt q) H (fun d _ => d = .bl true) (fun v _ => v = .bl true) := fun d M2 v H2 e r _ _ => by
      subst e
      exact rep_bl r
    have bind : BindsTo s1 fd ⟨[.ref a], []⟩ ([x].zip [.ref a]) := by
      obtain ⟨oc, od, kV, doc, pm, an, cdv, ct, osl, rfl, _⟩ := Fn.ex
      exact .of_eq (pb _ _ _ _ _ _ _ rfl)
    refine codeAny_mono (G.run callerA [] s1 H ⟨[.ref a], []⟩ [.ref a] [.ref a] (fun v _ => v = .bl true) (fun _ _ _ => False) room rfl env bind (.cons rfl .nil) ⟨_, _, _, _, _, mz, rep, hsp ns un, fin, .no⟩) fun r s2 h => ?_
    rcases r with e | fl
    · exact h.elim
    rcases fl with _ | _ | _ | u
    all_goals try exact h.elim
    obtain ⟨v, H2, h1, h2, h3, h4, h5, h6⟩ := h
    have h6' : v = .bl true := h6
    subst h6'
    obtain rfl : u = Value.bool true := h5
    have key : ∀ b o, b ≠ Pt → s1.heap.get? b = some o → s2.heap.get? b = some o := fun b o nb e => by
      rcases only b with z | z | ⟨ob, xs, z⟩
      · exact h3.keep b o e z (fun q => nomatch (show b ∈ ([] : List Addr) from q)) (fun q => nomatch q)
      · exact absurd z nb
      · have a1 := (ok b _ z).1
        have a2 := (h4 b _ (h3.frzs b ob _ z)).1
        rw [e] at a1
        cases a1
        exact a2
    obtain ⟨more, hm2⟩ := h3.tbls Pt #[] hHP
    have hPs : s2.heap.get? Pt = some { cls := .none, data := .fields (#[] ++ more) } := h4 Pt _ hm2
    refine ⟨rfl, ⟨fun b o e => ?_, fun b o e => ?_⟩, h1, h2⟩
    · by_cases hb : b = Pt
      · subst hb
        rw [hT] at e
        cases e
        exact .inr (.inl ⟨(C.tab hT).isCodeTable, rfl, #[], more, rfl, hPs⟩)
      · exact .inl (key b o hb e)
    · by_cases hb : b = Pt
      · rw [hb]
        exact ⟨_, hPs⟩
      · exact ⟨o, key b o hb e⟩
  cases q : K.lookup a with
  | some o =>
    have e := kin a o q
    rw [ea] at e
    cases e
    refine go (fun b => if b = Pt then some (.tbl #[]) else none) (if_pos rfl) (fun b => ?_) (.inr ⟨_, us.toArray, _, q, rfl, rfl, rfl, by rw [List.size_toArray, ul]; omega, by simpa using uv⟩) (fun b u z => ?_) fun b z => ?_
    · by_cases hb : b = Pt
      · exact .inr (.inl hb)
      · exact .inl (if_neg hb)
    · by_cases hb : b = Pt
      · subst hb
        have z' := (if_pos rfl).symm.trans z
        cases z'
        exact hT
      · have z' := (if_neg hb).symm.trans z
        cases z'
    · by_cases hb : b = Pt
      · exact .inr hb
      · exact absurd (if_neg hb) z
  | none =>
    let H : Hp := fun b => if b = a then some (.frz { cls := .type "list", data := .seq us.toArray } (.lst (ns.map V.int))) else if b = Pt then some (.tbl #[]) else none
    have at_a : H a = some (.frz { cls := .type "list", data := .seq us.toArray } (.lst (ns.map V.int))) := if_pos rfl
    have at_P : H Pt = some (.tbl #[]) := (if_neg (Ne.symm aT)).trans (if_pos rfl)
    have off : ∀ {b}, b ≠ a → b ≠ Pt → H b = none := fun h h2 => (if_neg h).trans (if_neg h2)
    refine go H at_P (fun b => ?_) (.inl (.inr ⟨_, at_a⟩)) (fun b u z => ?_) fun b z => ?_
    · by_cases h : b = a
      · exact .inr (.inr ⟨_, _, h ▸ at_a⟩)
      · by_cases h2 : b = Pt
        · exact .inr (.inl h2)
        · exact .inl (off h h2)
    · by_cases h : b = a
      · subst h
        rw [at_a] at z
        cases z
        exact ⟨ea, by rw [List.length_map]; omega, us, _, uv, ea⟩
      · by_cases h2 : b = Pt
        · subst h2
          rw [at_P] at z
          cases z
          exact hT
        · rw [off h h2] at z
          cases z
    · by_cases h : b = a
      · exact .inl ⟨h, h ▸ q⟩
      · by_cases h2 : b = Pt
        · exact .inr h2
        · exact absurd (off h h2) z
end
open PySem.W in
/-- the goal that k_head leaves (case hc), for a law that makes lambdas -/
theorem walkDT {l : OpenLaw} {n k : Nat} {q : Program} {loose : List Str} {XP : (Str → Option Value) → Heap → Prop} {YP : World → Heap → Prop} {d : DefRec} {K : Params → Frag} {x ql : Str} {st : Stmt} (hn : l.most = some n) (nn : n ≤ sizeLine) (hdf : d.params.defaults = []) (hr : Room k callerA)
    (hrec : ((recsOf q).any fun e => e.name == d.name) = true) (hY : ∀ (w : World) (h : Heap), YP w h → (K w.params).In h) (pb : PosB d.name st [x])
    (F : ∀ (w : World) (mg : Str → Option Value) (h : Heap), (K w.params).In h → h.Ns mainGlobals mg → ∃ (c Pt : Addr) (sp : SpD), tabIn (K w.params) d.name = some (c, Pt) ∧ (K w.params).lookup Pt = none ∧ LawSpT sp n Pt ql ∧ ∀ base : Heap, (K w.params).In base → base.Ns mainGlobals mg → TabB base mg c Pt → Has l.prog w (K w.params) mg base CX0 d.name st [x] k sp) :
    WalkO q loose XP YP l.row.toRowW d [] (fun f vs => PySem.call f vs) :=
  Att.attach_call hn hdf fun w s0 s1 mg mb fa o pm cd doc a us ns G Y ho hd hcd hmg hobj hints hlen hg => by
    have KX := hY w _ Y
    obtain ⟨c, Pt, sp, ht, nT, hsp, hF⟩ := F w mg s1.heap KX G.T.g
    obtain ⟨dL, hm, hn1⟩ := List.any_eq_true.mp hrec
    cases hfd : (recsOf q).find? (fun e => e.name == d.name) with
    | none =>
      have z := List.find?_eq_none.mp hfd dL hm
      exact absurd hn1 z
    | some d' =>
      obtain ⟨C, hT⟩ := tab_of G.T KX hfd ht
      exact headT_ KX G.T.g G.T.b G.T.builtins G.T.nolimit hg hT nT C G.T.bmain hobj hints hlen nn hr hmg pb hF hsp
end DL

set_option Elab.async false
set_option linter.all false
set_option maxHeartbeats 4000000
/-! D-layer, part 31: // by wide ints. -/
namespace DL
open PySem PySem.Spec PyProof.Rows L2
def dDivW : D2 := rI2 CDivW fun i j => .int (i / j)
theorem od_divW {X : Cx} : OpR X (binaryOp .FloorDiv) (lift2 X.K dDivW) := od_I op_fdivW
theorem q_op_dvW {M : Mem} {R : RK} {i j : Int} : dDivW (.int i) (.int j) M R ↔ L2.CDivW i j ∧ R (.int (i / j)) M := ⟨fun ⟨_, _, e1, e2, h⟩ => by cases e1; cases e2; exact h, fun h => ⟨_, _, rfl, rfl, h⟩⟩
theorem wide_log {j : Int} (h0 : 0 ≤ j) (h : j < 18446744073709551616) : j.natAbs.log2 < 9000 := by
  by_cases z : j.natAbs = 0
  · rw [z]; decide
  · exact (Nat.log2_lt z).mpr (Nat.lt_of_lt_of_le (show j.natAbs < 2 ^ 64 by omega) (Nat.pow_le_pow_right (by decide) (by decide)))
end DL

set_option Elab.async false
set_option linter.all false
set_option maxHeartbeats 4000000
set_option maxRecDepth 100000
/-! D-layer, part 32: repr of what holds texts that repr made. -/
namespace DL
open PySem PySem.Spec PyProof.Rows L2
open Builtin Builtin.Str in
section
/-- texts whose signs are no greater than they can be -/
def Sm (s : Str) : Prop := ∀ c ∈ s.cps.toList, c < 16 ^ 8
theorem char_sm (c : Char) : c.toNat < 16 ^ 8 := by
  have h := c.valid
  have e : c.val.toNat = c.toNat := rfl
  have h' : c.val.toNat < 0xd800 ∨ (0xdfff < c.val.toNat ∧ c.val.toNat < 0x110000) := h
  omega
theorem hex_sm (w c : Nat) : ∀ e ∈ (List.replicate (w - ((Nat.toDigits 16 c).map Char.toNat).length) 48 ++ (Nat.toDigits 16 c).map Char.toNat), e < 16 ^ 8 := fun e he => by
  rcases List.mem_append.mp he with h | h
  · rw [(List.mem_replicate.mp h).2]
    decide
  · obtain ⟨ch, _, rfl⟩ := List.mem_map.mp h
    exact char_sm ch
theorem reprChar_sm (q c : Nat) (hc : c < 16 ^ 8) : ∀ e ∈ Builtin.Str.reprChar q c, e < 16 ^ 8 := by
  have h2 := hex_sm 2 c
  have h4 := hex_sm 4 c
  have h8 := hex_sm 8 c
  unfold Builtin.Str.reprChar
  dsimp only
  intro e he
  repeat' split at he
  all_goals simp only [List.mem_append, List.mem_cons, List.not_mem_nil, or_false] at he
  all_goals first
    | (rcases he with rfl | rfl <;> omega)
    | (subst he; omega)
    | (rcases he with (rfl | rfl) | he
       · omega
       · omega
       · first | exact h2 e (List.mem_append.mpr he) | exact h4 e (List.mem_append.mpr he) | exact h8 e (List.mem_append.mpr he))
theorem foldl_sm (q : Nat) : ∀ (l : List Nat) (acc : Array Nat), (∀ c ∈ l, c < 16 ^ 8) → (∀ c ∈ acc.toList, c < 16 ^ 8) → ∀ c ∈ (l.foldl (fun out c => out ++ (Builtin.Str.reprChar q c).toArray) acc).toList, c < 16 ^ 8
  | [], acc, _, h => h
  | c :: r, acc, h, ha => by
    refine foldl_sm q r _ (fun d hd => h d (List.mem_cons_of_mem _ hd)) fun d hd => ?_
    rw [Array.toList_append] at hd
    rcases List.mem_append.mp hd with z | z
    · exact ha d z
    · exact reprChar_sm q c (h c (List.mem_cons_self ..)) d (by simpa using z)
end
theorem reprText_sm {x : Str} (h : Sm x) : Sm (reprText x) := fun c hc => by
  have hq : reprQuote x < 16 ^ 8 := by
    unfold reprQuote
    split <;> decide
  unfold reprText at hc
  have hc' : c ∈ ((x.cps.foldl (fun out c => out ++ (Builtin.Str.reprChar (reprQuote x) c).toArray) #[reprQuote x]).push (reprQuote x)).toList := hc
  rw [Array.toList_push, ← Array.foldl_toList] at hc'
  rcases List.mem_append.mp hc' with z | z
  · exact foldl_sm (reprQuote x) x.cps.toList #[reprQuote x] h (fun d hd => by simp at hd; rw [hd]; exact hq) c z
  · simp at z
    rw [z]
    exact hq
theorem sm_app {a b : Str} (h1 : Sm a) (h2 : Sm b) : Sm (a ++ b) := fun c hc => (mem_cps_append.mp hc).elim (h1 c) (h2 c)
theorem sm_join {sep : Str} {ts : List Str} (h1 : Sm sep) (h2 : ∀ t ∈ ts, Sm t) : Sm (Str.join sep ts) := fun c hc => by
  rcases (mem_join sep c ts).mp hc with ⟨t, ht, h⟩ | ⟨_, h⟩
  · exact h2 t ht c h
  · exact h1 c h
theorem sm_by {s : Str} (h : (s.cps.toList.all fun c => decide (c < 16 ^ 8)) = true) : Sm s := fun c hc => of_decide_eq_true (List.all_eq_true.mp h c hc)
mutual
theorem shown_sm (B : Nat) : ∀ p : PyData, p.leavesShort B = true → Sm p.shown
  | .none, _ => by rw [PyData.shown_none]; exact sm_by (by decide)
  | .bool b, _ => by rw [PyData.shown_bool]; cases b <;> exact sm_by (by decide)
  | .int i, _ => fun c hc => by
    rw [PyData.shown_int] at hc
    by_cases z : c < 128
    · omega
    · exact absurd hc (int_text_free' c (by omega) i)
  | .str x, h => by
    rw [PyData.shown_str]
    exact reprText_sm fun c hc => by
      have h' : (x.cps.toList.all fun c => decide (c < 16 ^ 8)) = true := by simpa only [PyData.leavesShort] using h
      exact of_decide_eq_true (List.all_eq_true.mp h' c hc)
  | .list xs, h => by
    rw [PyData.shown_list]
    exact sm_app (sm_app (sm_by (by decide)) (sm_join (sm_by (by decide)) (shownAll_sm B xs (by simpa only [PyData.leavesShort] using h)))) (sm_by (by decide))
  | .tuple xs, h => by
    rw [PyData.shown_tuple]
    refine sm_app (sm_app (sm_by (by decide)) (sm_join (sm_by (by decide)) (shownAll_sm B xs (by simpa only [PyData.leavesShort] using h)))) ?_
    split <;> exact sm_by (by decide)
  | .dict kvs, h => by
    rw [PyData.shown_dict]
    exact sm_app (sm_app (sm_by (by decide)) (sm_join (sm_by (by decide)) (shownKv_sm B kvs (by simpa only [PyData.leavesShort] using h)))) (sm_by (by decide))
theorem shownAll_sm (B : Nat) : ∀ xs : List PyData, PyData.leavesShortAll B xs = true → ∀ t ∈ PyData.shownAll xs, Sm t
  | [], _ => by simp [PyData.shownAll]
  | x :: xs, h => by
    have h' : x.leavesShort B = true ∧ PyData.leavesShortAll B xs = true := by simpa only [PyData.leavesShortAll, Bool.and_eq_true] using h
    rw [PyData.shownAll_cons]
    intro t ht
    rcases List.mem_cons.mp ht with rfl | ht
    · exact shown_sm B x h'.1
    · exact shownAll_sm B xs h'.2 t ht
theorem shownKv_sm (B : Nat) : ∀ kvs : List (PyData × PyData), PyData.leavesShortKv B kvs = true → ∀ t ∈ PyData.shownKv kvs, Sm t
  | [], _ => by simp [PyData.shownKv]
  | (k, v) :: r, h => by
    have h' : (k.leavesShort B = true ∧ v.leavesShort B = true) ∧ PyData.leavesShortKv B r = true := by simpa only [PyData.leavesShortKv, Bool.and_eq_true] using h
    rw [PyData.shownKv_cons]
    intro t ht
    rcases List.mem_cons.mp ht with rfl | ht
    · exact sm_app (sm_app (shown_sm B k h'.1.1) (sm_by (by decide))) (shown_sm B v h'.1.2)
    · exact shownKv_sm B r h'.2 t ht
end
/-! ### what repr tells of d is the text t, short and small -/
def Rp (d : D) (t : Str) : Prop := t.length ≤ sizeLine ∧ Sm t ∧ ∀ {M : Mem} {R : RK}, R (.str t) M → dRepr [d] M R
/-- what may be shown, by its PyData -/
theorem rp_of {d : D} {p : PyData} (e : toR d = some p) (h1 : p.leavesShort 200 = true) (h2 : p.showable = true) (h3 : p.depth ≤ 60) (h4 : p.bulk ≤ 80000) : Rp d p.shown := by
  have hl := PyData.shown_le_bulk 200 (by decide) p h1
  have h5 : (200 + 2) * p.bulk ≤ (200 + 2) * 80000 := Nat.mul_le_mul_left _ h4
  have h6 : p.shown.length ≤ sizeLine := by rw [sizeLine_eq]; omega
  exact ⟨h6, shown_sm 200 p h1, fun {M R} q => ⟨d, p, rfl, e, h2, h6, h3, q⟩⟩
theorem leaves_mono {B B' : Nat} (hB : B ≤ B') : (∀ p : PyData, p.leavesShort B = true → p.leavesShort B' = true) := by
  have key : ∀ n : Nat, (∀ p : PyData, sizeOf p < n → p.leavesShort B = true → p.leavesShort B' = true) := by
    intro n
    induction n with
    | zero => intro p h; exact absurd h (Nat.not_lt_zero _)
    | succ n ih =>
      have all : ∀ xs : List PyData, sizeOf xs < n → PyData.leavesShortAll B xs = true → PyData.leavesShortAll B' xs = true := by
        intro xs
        induction xs with
        | nil => intros; rfl
        | cons x xs ihx =>
          intro hs h
          have h' : x.leavesShort B = true ∧ PyData.leavesShortAll B xs = true := by simpa only [PyData.leavesShortAll, Bool.and_eq_true] using h
          have s1 : sizeOf (x :: xs) = 1 + sizeOf x + sizeOf xs := rfl
          simp only [PyData.leavesShortAll, Bool.and_eq_true]
          exact ⟨ih x (by omega) h'.1, ihx (by omega) h'.2⟩
      have kvs : ∀ xs : List (PyData × PyData), sizeOf xs < n → PyData.leavesShortKv B xs = true → PyData.leavesShortKv B' xs = true := by
        intro xs
        induction xs with
        | nil => intros; rfl
        | cons x xs ihx =>
          obtain ⟨k, v⟩ := x
          intro hs h
          have h' : (k.leavesShort B = true ∧ v.leavesShort B = true) ∧ PyData.leavesShortKv B xs = true := by simpa only [PyData.leavesShortKv, Bool.and_eq_true] using h
          have s1 : sizeOf ((k, v) :: xs) = 1 + (1 + sizeOf k + sizeOf v) + sizeOf xs := rfl
          simp only [PyData.leavesShortKv, Bool.and_eq_true]
          exact ⟨⟨ih k (by omega) h'.1.1, ih v (by omega) h'.1.2⟩, ihx (by omega) h'.2⟩
      intro p hs h
      cases p with
      | int i =>
        simp only [PyData.leavesShort, decide_eq_true_eq] at h ⊢
        omega
      | list xs =>
        have s1 : sizeOf (PyData.list xs) = 1 + sizeOf xs := by simp
        simp only [PyData.leavesShort] at h ⊢
        exact all xs (by omega) h
      | tuple xs =>
        have s1 : sizeOf (PyData.tuple xs) = 1 + sizeOf xs := by simp
        simp only [PyData.leavesShort] at h ⊢
        exact all xs (by omega) h
      | dict xs =>
        have s1 : sizeOf (PyData.dict xs) = 1 + sizeOf xs := by simp
        simp only [PyData.leavesShort] at h ⊢
        exact kvs xs (by omega) h
      | _ => simpa only [PyData.leavesShort] using h
  exact fun p h => key (sizeOf p + 1) p (Nat.lt_succ_self _) h
/-- data -/
theorem rp_gx {d : D} (h1 : gx 1000 d = true) (h2 : wt d ≤ 80000) (h3 : dp d ≤ 58) : ∃ t, Rp d t ∧ t.length ≤ 202 * wt d + 200 := by
  have g := (gx_dat (Nat.le_refl _) h1).2
  obtain ⟨p, e, a1, a2, a3, a4⟩ := py_of g
  have a3' := leaves_mono (B := 60) (B' := 200) (by decide) p a3
  have hb := bulk_of g e
  refine ⟨_, rp_of e a3' a4 (by omega) (by omega), ?_⟩
  have hl := PyData.shown_le_bulk 200 (by decide) p a3'
  have h5 : (200 + 2) * p.bulk ≤ (200 + 2) * wt d := Nat.mul_le_mul_left _ hb
  omega
/-- a tuple of such -/
theorem rp_tup {ds : List D} {ps : List PyData} (e : toRs ds = some ps) (h1 : PyData.leavesShortAll 200 ps = true) (h2 : PyData.showableAll ps = true) (h3 : PyData.depthAll ps ≤ 50) (h4 : PyData.bulkAll ps ≤ 80000) : ∃ t, Rp (.tup ds) t := by
  refine ⟨_, rp_of (p := .tuple ps) ?_ ?_ ?_ ?_ ?_⟩
  · show (toRs ds).map PyData.tuple = _
    rw [e]
    rfl
  · simpa only [PyData.leavesShort] using h1
  · simpa only [PyData.showable] using h2
  · simp only [PyData.depth]; omega
  · simp only [PyData.bulk]; exact h4
theorem int_leaf {i : Int} (h : i.natAbs < 10 ^ 150) : PyData.leavesShort 200 (.int i) = true ∧ PyData.showable (.int i) = true := by
  constructor
  · have e := int_text_length_le10 (k := 150) (by decide) h
    simp only [PyData.leavesShort, decide_eq_true_eq]
    show (Str.ofString (toString i)).length ≤ 200
    rw [PySem.ofString_length]
    omega
  · simp only [PyData.showable, decide_eq_true_eq]
    by_cases z : i.natAbs = 0
    · rw [z]; decide
    · exact (Nat.log2_lt z).mpr (Nat.lt_of_lt_of_le h (by decide))
theorem str_leaf {t : Str} (h1 : Sm t) : PyData.leavesShort 200 (.str t) = true := by
  simp only [PyData.leavesShort, List.all_eq_true, decide_eq_true_eq]
  exact h1
theorem rp_raised (a b : Bool) {t : Str} (h1 : Sm t) (h2 : t.length ≤ 79000) : ∃ u, Rp (.tup [.str "raised", .tup [.bl a, .bl b], .str t]) u := by
  have e : t.cps.size = t.length := rfl
  refine rp_tup (ps := [.str "raised", .tuple [.bool a, .bool b], .str t]) rfl ?_ ?_ ?_ ?_
  · show (PyData.leavesShort 200 (.str "raised") && (PyData.leavesShort 200 (.tuple [.bool a, .bool b]) && (PyData.leavesShort 200 (.str t) && true))) = true
    rw [str_leaf h1, str_leaf (t := "raised") (sm_by (by decide))]
    rfl
  · simp [PyData.showableAll, PyData.showable]
  · simp [PyData.depthAll, PyData.depth]
  · have e2 : ("raised" : Str).cps.size = 6 := by decide
    simp only [PyData.bulkAll, PyData.bulk, e, e2]
    omega
theorem rp_returned {v : Int} (h : v.natAbs < 10 ^ 150) : ∃ u, Rp (.tup [.str "returned", .int v]) u := by
  obtain ⟨a, b⟩ := int_leaf h
  refine rp_tup (ps := [.str "returned", .int v]) rfl ?_ ?_ ?_ ?_
  · simp only [PyData.leavesShortAll, str_leaf (t := "returned") (sm_by (by decide)), a, Bool.and_self]
  · show (true && (PyData.showable (.int v) && true)) = true
    rw [b]
    rfl
  · simp [PyData.depthAll, PyData.depth]
  · have e2 : ("returned" : Str).cps.size = 8 := by decide
    simp only [PyData.bulkAll, PyData.bulk, e2]
    omega
theorem rp_ints {v w : Int} (h : v.natAbs < 10 ^ 150) (h2 : w.natAbs < 10 ^ 150) : ∃ u, Rp (.tup [.int v, .int w]) u := by
  obtain ⟨a, b⟩ := int_leaf h
  obtain ⟨a2, b2⟩ := int_leaf h2
  refine rp_tup (ps := [.int v, .int w]) rfl ?_ ?_ ?_ ?_
  · simp only [PyData.leavesShortAll, a, a2, Bool.and_self]
  · simp only [PyData.showableAll, b, b2, Bool.and_self]
  · simp [PyData.depthAll, PyData.depth]
  · simp [PyData.bulkAll, PyData.bulk]
/-- two that are told alike -/
theorem ne_same {ρ : DEnv} {M : Mem} {d : D} {t : Str} {e1 e2 : DA} {Rt : Bool → Mem → Prop} (h : Rp d t) (h1 : ∀ R : List D → Mem → Prop, R [d] M → e1 ρ M R) (h2 : ∀ R : List D → Mem → Prop, R [d] M → e2 ρ M R) (q : Rt false M) :
    dTest (dOp dNe (dCB dRepr e1) (dCB dRepr e2)) ρ M Rt := by
  simp only [dTest, dOp, dCB]
  refine h1 _ (h.2.2 (h2 _ (h.2.2 ?_)))
  refine q_ne_str.mpr ⟨by simp [tyD], _, rfl, ?_⟩
  have e : isStr (.str t) t = true := by simp [isStr]
  rw [e]
  exact q
end DL

set_option Elab.async false
set_option linter.all false
set_option maxHeartbeats 4000000
set_option maxRecDepth 100000
/-! D-layer, part 30: zip of any two of: a text, a list, a tuple. -/
namespace DL
open PySem PySem.Spec PyProof.Rows L2

/-- what is drawn from -/
inductive Src
  | txt (x : Str)
  | lst (a : Addr)
  | tup (a : Addr)
namespace Src
def val : Src → V
  | txt x => .str x
  | lst a => .ref a
  | tup a => .ref a
def here (K : PySem.W.Frag) (S : Src) (H : Hp) : Prop := match S with
  | txt _ => True
  | lst a => ∃ xs : List V, SqL K H a xs
  | tup a => ∃ xs : List V, SqT K H a xs
def at_ (K : PySem.W.Frag) (S : Src) (H : Hp) (i : Nat) (v : V) : Prop := match S with
  | txt x => ∃ c, x.cps[i]? = some c ∧ v = .str ⟨#[c]⟩
  | lst a => ∃ xs : List V, SqL K H a xs ∧ xs[i]? = some v
  | tup a => ∃ xs : List V, SqT K H a xs ∧ xs[i]? = some v
def yl (K : PySem.W.Frag) (S : Src) (H : Hp) (i : Nat) (v : V) : Prop := match S with
  | txt x => ∃ c, x.cps[i]? = some c ∧ v = .str ⟨#[c]⟩
  | lst a => ∀ xs : List V, SqL K H a xs → xs[i]? = some v
  | tup a => ∀ xs : List V, SqT K H a xs → xs[i]? = some v
def off (K : PySem.W.Frag) (S : Src) (H : Hp) (i : Nat) : Prop := match S with
  | txt x => x.cps.size ≤ i
  | lst a => ∃ xs : List V, SqL K H a xs ∧ xs.length ≤ i
  | tup a => ∃ xs : List V, SqT K H a xs ∧ xs.length ≤ i
def St (S : Src) (it : Addr) (h : Heap) (i : Nat) : Prop := match S with
  | txt x => ∃ t, h.IsStrIter it (PySem.strIterType x) x t i
  | lst a => h.IsListIter it a i
  | tup a => h.IsTupleIter it a i
def fp (S : Src) (it : Addr) : List Addr := match S with
  | txt _ => [it]
  | lst a => [it, a]
  | tup a => [it, a]
def apart (S : Src) (it : Addr) : Prop := match S with
  | txt _ => True
  | lst a => a ≠ it
  | tup a => a ≠ it
theorem St.get {S : Src} {it : Addr} {h : Heap} {i : Nat} (st : S.St it h i) : ∃ o ds, h.get? it = some o ∧ o.data = .fields ds := by
  cases S with
  | txt x => obtain ⟨t, o, ho, _, hd⟩ := st; exact ⟨o, _, ho, hd⟩
  | lst a => obtain ⟨o, ho, _, hd⟩ := st; exact ⟨o, _, ho, hd⟩
  | tup a => obtain ⟨o, ho, _, hd⟩ := st; exact ⟨o, _, ho, hd⟩
theorem St.move {S : Src} {it : Addr} {h h' : Heap} {i : Nat} (st : S.St it h i) (k : ∀ o, h.get? it = some o → h'.get? it = some o) : S.St it h' i := by
  cases S with
  | txt x => obtain ⟨t, o, ho, r⟩ := st; exact ⟨t, o, k o ho, r⟩
  | lst a => exact Heap.IsListIter.at st k
  | tup a => exact Heap.IsTupleIter.at st k
section
variable {X : Cx} {pins : List (Addr × Obj)} {σ : L2.St} {H : Hp} {s : Shared} {E : XK}
theorem drawsI {S : Src} (I : Inv X pins σ H s) (hh : X.A.in1.handled = none) {it : Addr} {i : Nat} {v : V} (st : S.St it s.heap i) (ap : S.apart it) (g : S.at_ X.K H i v) :
    ∃ n P St', Draws X.prog X.w X.A.in1 it (S.fp it) n P St' ∧ St' i s.heap ∧ i < n ∧ (∀ u, P i u → RelV v u) ∧ (∀ h, St' (i + 1) h → S.St it h (i + 1)) ∧ S.yl X.K H i v := by
  cases S with
  | txt x =>
    obtain ⟨t, st⟩ := st
    obtain ⟨c, hc, rfl⟩ := g
    refine ⟨_, _, _, Draws.text (A := X.A.in1) hh it x t, st, (Array.getElem?_eq_some_iff.mp hc).1, fun u ⟨c', u', e1, e2⟩ => ?_, fun h q => ⟨t, q⟩, ⟨c, hc, rfl⟩⟩
    rw [hc] at e1
    cases e1
    exact ⟨_, e2⟩
  | lst a =>
    obtain ⟨xs, hq, hx⟩ := g
    obtain ⟨its, rv, p, _⟩ := I.list hq
    obtain ⟨u, hu, ru⟩ := rv.get hx
    have hu' : its.toArray[i]? = some u := by simpa using hu
    refine ⟨_, _, _, Draws.list (A := X.A.in1) hh it a ap its.toArray, ⟨st, p.isList⟩, (Array.getElem?_eq_some_iff.mp hu').1, fun y e => ?_, fun h q => q.1, fun ys hy => by rw [I.list_inj hy hq]; exact hx⟩
    rw [hu'] at e
    cases e
    exact ru
  | tup a =>
    obtain ⟨xs, hq, hx⟩ := g
    obtain ⟨its, rv, p, _⟩ := I.tuple hq
    obtain ⟨u, hu, ru⟩ := rv.get hx
    have hu' : its.toArray[i]? = some u := by simpa using hu
    refine ⟨_, _, _, Draws.tuple (A := X.A.in1) hh it a ap its.toArray, ⟨st, p⟩, (Array.getElem?_eq_some_iff.mp hu').1, fun y e => ?_, fun h q => q.1, fun ys hy => by rw [I.tuple_inj hy hq]; exact hx⟩
    rw [hu'] at e
    cases e
    exact ru
theorem drawsE {S : Src} (I : Inv X pins σ H s) (hh : X.A.in1.handled = none) {it : Addr} {i : Nat} (st : S.St it s.heap i) (ap : S.apart it) (g : S.off X.K H i) :
    ∃ P St', Draws X.prog X.w X.A.in1 it (S.fp it) i P St' ∧ St' i s.heap := by
  cases S with
  | txt x =>
    obtain ⟨t, st⟩ := st
    have hx : x.cps[i]? = none := Array.getElem?_eq_none g
    refine ⟨fun _ _ => True, fun j h => j = i ∧ h.IsStrIter it (PySem.strIterType x) x t i, {
      live := fun _ _ st => let ⟨o, ho, _⟩ := st.2; ⟨o, ho⟩
      frame := fun _ _ _ st hk => let ⟨o, ho, r⟩ := st.2; ⟨st.1, o, hk it (by simp [fp]) o ho, r⟩
      item := fun j s Q E hj st _ => absurd st.1 (Nat.ne_of_lt hj)
      done := fun s Q E st hE => ?_ }, rfl, st⟩
    have st2 := st.2
    cases ha : x.cps.all (· < 128)
    · simp only [PySem.strIterType, ha, Bool.false_eq_true, if_false] at st2
      exact PySem.wpAny_nextOf_wide_end hh st2 hx hE
    · simp only [PySem.strIterType, ha, if_true] at st2
      exact PySem.wpAny_nextOf_ascii_end hh st2 hx hE
  | lst a =>
    obtain ⟨xs, hq, hx⟩ := g
    obtain ⟨its, rv, p, _⟩ := I.list hq
    have hl := rv.length
    have hnone : its.toArray[i]? = none := by simp; omega
    exact ⟨fun _ _ => True, fun j h => j = i ∧ h.IsListIter it a i ∧ h.IsList a its.toArray, {
      live := fun _ _ st => let ⟨o, ho, _⟩ := st.2.1; ⟨o, ho⟩
      frame := fun _ _ _ st hk => ⟨st.1, st.2.1.at fun o e => hk it (by simp [fp]) o e, st.2.2.at fun o e => hk a (by simp [fp]) o e⟩
      item := fun j s Q E hj st _ => absurd st.1 (Nat.ne_of_lt hj)
      done := fun s Q E st hE => PySem.wpAny_nextOf_list_end hh st.2.1 st.2.2 hnone hE }, rfl, st, p.isList⟩
  | tup a =>
    obtain ⟨xs, hq, hx⟩ := g
    obtain ⟨its, rv, p, _⟩ := I.tuple hq
    have hl := rv.length
    have hnone : its.toArray[i]? = none := by simp; omega
    exact ⟨fun _ _ => True, fun j h => j = i ∧ h.IsTupleIter it a i ∧ h.IsTuple a its.toArray, {
      live := fun _ _ st => let ⟨o, ho, _⟩ := st.2.1; ⟨o, ho⟩
      frame := fun _ _ _ st hk => ⟨st.1, st.2.1.at fun o e => hk it (by simp [fp]) o e, st.2.2.at fun o e => hk a (by simp [fp]) o e⟩
      item := fun j s Q E hj st _ => absurd st.1 (Nat.ne_of_lt hj)
      done := fun s Q E st hE => PySem.wpAny_nextOf_tuple_end hh st.2.1 st.2.2 hnone hE }, rfl, st, p⟩
end
end Src
/-- the two at each turn, the items in new pairs -/
def ItZ (K : PySem.W.Frag) (S1 S2 : Src) : It :=
  ⟨fun i H => (∃ x, S1.at_ K H i x) ∧ ∃ y, S2.at_ K H i y,
    fun i H v H' => ∃ T x y, v = .ref T ∧ H T = none ∧ H' = upd H T (.tup [x, y]) ∧ S1.yl K H i x ∧ S2.yl K H i y,
    fun i H => (S1.off K H i ∧ (S2.off K H i ∨ ∃ y, S2.at_ K H i y)) ∨ (S2.off K H i ∧ ∃ x, S1.at_ K H i x)⟩
theorem turn_zipS {P : Program} {w : World} {K : PySem.W.Frag} {elts : List Expr} {kk : Nat} {tpos : Pos} {S1 S2 : Src} {z TI TO i1 i2 : Addr} (D : ZipSep2 z TI TO i1 i2 (S1.fp i1) (S2.fp i2)) (d12 : i1 ≠ i2) (p1 : S1.apart i1) (p2 : S2.apart i2) :
    Turn P w K (.Tuple elts kk tpos) (ItZ K S1 S2) [z, TI, TO, i1, i2] z (fun i h => IsZip h z TI TO .none ∧ IsPair h TI (.ref i1) (.ref i2) ∧ (∃ x y, IsPair h TO x y) ∧ S1.St i1 h i ∧ S2.St i2 h i) where
  mem := by simp
  obj := fun i h st c hc => by
    obtain ⟨hz, hTI, ⟨x, y, hTO⟩, h1, h2⟩ := st
    obtain ⟨o1, _, e1, d1⟩ := h1.get
    obtain ⟨o2, _, e2, d2⟩ := h2.get
    have e' : c = z ∨ c = TI ∨ c = TO ∨ c = i1 ∨ c = i2 := by simpa using hc
    rcases e' with q | q | q | q | q
    · rw [q]; exact ⟨_, hz, fun v q => nomatch q⟩
    · rw [q]; exact ⟨_, hTI, fun v q => nomatch q⟩
    · rw [q]; exact ⟨_, hTO, fun v q => nomatch q⟩
    · rw [q]; exact ⟨o1, e1, fun v q => by rw [d1] at q; cases q⟩
    · rw [q]; exact ⟨o2, e2, fun v q => by rw [d2] at q; cases q⟩
  keep := fun i h h' st k => by
    obtain ⟨hz, hTI, ⟨x, y, hTO⟩, h1, h2⟩ := st
    exact ⟨k z (by simp) _ hz, k TI (by simp) _ hTI, ⟨x, y, k TO (by simp) _ hTO⟩, h1.move fun o q => k i1 (by simp) o q, h2.move fun o q => k i2 (by simp) o q⟩
  item := by
    intro X hP hw hK hc i pins s σ H E I hf st hg
    subst hP hw hK
    obtain ⟨hz, hTI, ⟨x0, y0, hTO⟩, h1, h2⟩ := st
    obtain ⟨⟨x, g1⟩, ⟨y, g2⟩⟩ := hg
    have hh := I.ok.hd hc
    obtain ⟨n1, P1, St1, D1, st1, l1, r1, b1, y1⟩ := Src.drawsI I hh h1 p1 g1
    obtain ⟨n2, P2, St2, D2, st2, l2, r2, b2, y2⟩ := Src.drawsI I hh h2 p2 g2
    have hzl : z < s.heap.objs.size := Heap.lt_size hz
    refine wpAny_pyNext_zipD2_item D D1 D2 hz hTI hTO st1 st2 l1 l2 fun u1 u2 h' tk e1 e2 z' TO' q1 q2 hT hsz hk => ?_
    refine ⟨_, rfl, wpAny_letOwnedTupleGo_zip (s := { s with heap := h', toks := tk }) z' fun h'' z'' sb => ?_⟩
    have hT2 : h''.get? s.heap.objs.size = some { cls := .type "tuple", data := .seq #[u1, u2] } := (sb.2 _ (Nat.ne_of_gt hzl)).trans hT
    have new : ObjOk X.prog X.w (upd H s.heap.objs.size (.tup [x, y])) h'' s.heap.objs.size (.tup [x, y]) :=
      ⟨by show 2 ≤ sizeLine; decide, [u1, u2], .cons (r1 _ e1) (.cons (r2 _ e2) .nil), ⟨_, hT2, rfl, _, rfl⟩⟩
    have I1 : Inv X pins σ (upd H s.heap.objs.size (.tup [x, y])) { s with heap := h'', toks := tk } :=
      I.turnedNew (t' := tk) (ch := [z, TI, TO, i1, i2]) (fun c o hb q => (sb.2 c (fun q' => hb (by simp [q']))).trans (hk c o (fun q' => hb (by simp [q'])) (fun q' => hb (by simp [q'])) (fun q' => hb (by simp [q'])) (fun q' => hb (by simp [q'])) q)) hf (Nat.le_refl _) new
    refine ⟨.ref s.heap.objs.size, _, I1, rfl, ⟨_, x, y, rfl, I.hok.fresh (Nat.le_refl _), rfl, y1, y2⟩, ⟨z'', ?_, ⟨u1, u2, ?_⟩, ?_, ?_⟩, fun c hcm => ?_⟩
    · exact (sb.2 _ D.TIz).trans (hk _ _ D.TIz D.TITO D.TIi1 D.TIi2 hTI)
    · exact (sb.2 _ D.TOz).trans TO'
    · exact (b1 _ q1).move fun o q => (sb.2 _ D.zi1.symm).trans q
    · exact (b2 _ q2).move fun o q => (sb.2 _ D.zi2.symm).trans q
    · have hlt : c < s.heap.objs.size := by
        have e' : c = z ∨ c = TI ∨ c = TO ∨ c = i1 ∨ c = i2 := by simpa using hcm
        rcases e' with q | q | q | q | q
        · rw [q]; exact hzl
        · rw [q]; exact Heap.lt_size hTI
        · rw [q]; exact Heap.lt_size hTO
        · rw [q]; obtain ⟨_, _, e1, _⟩ := h1.get; exact Heap.lt_size e1
        · rw [q]; obtain ⟨_, _, e2, _⟩ := h2.get; exact Heap.lt_size e2
      rw [upd_ne (Nat.ne_of_lt hlt)]
      exact (hf c hcm).1
  done := by
    intro X hP hw hK hc i pins s σ H E I hf st hg
    subst hP hw hK
    obtain ⟨hz, hTI, ⟨x0, y0, hTO⟩, h1, h2⟩ := st
    have hh := I.ok.hd hc
    have fin : ∀ {n1 n2 : Nat} {P1 P2 St1 St2}, Draws X.prog X.w X.A.in1 i1 (S1.fp i1) n1 P1 St1 → Draws X.prog X.w X.A.in1 i2 (S2.fp i2) n2 P2 St2 → St1 i s.heap → St2 i s.heap → i ≤ n1 → i ≤ n2 → (i = n1 ∨ i = n2) → _ := fun {n1 n2 P1 P2 St1 St2} D1 D2 st1 st2 l1 l2 le =>
      wpAny_pyNext_zipD2_end (Q := fun r s' => r = none ∧ Inv X pins σ H s') (E := E) D D1 D2 hz hTI hTO st1 st2 l1 l2 le fun h' tk hk => ⟨rfl, I.turnedL (t' := tk) (ch := [z, TI, TO, i1, i2]) (fun c o hb q =>
        hk c o (fun q' => hb (by simp [q'])) (fun q' => hb (by simp [q'])) (fun q' => hb (by simp [q'])) (fun q' => hb (by simp [q'])) q) hf⟩
    rcases hg with ⟨o1, o2 | ⟨y, g2⟩⟩ | ⟨o2, x, g1⟩
    · obtain ⟨P1, St1, D1, st1⟩ := Src.drawsE I hh h1 p1 o1
      obtain ⟨P2, St2, D2, st2⟩ := Src.drawsE I hh h2 p2 o2
      exact fin D1 D2 st1 st2 (Nat.le_refl _) (Nat.le_refl _) (.inl rfl)
    · obtain ⟨P1, St1, D1, st1⟩ := Src.drawsE I hh h1 p1 o1
      obtain ⟨n2, P2, St2, D2, st2, l2, _⟩ := Src.drawsI I hh h2 p2 g2
      exact fin D1 D2 st1 st2 (Nat.le_refl _) (Nat.le_of_lt l2) (.inl rfl)
    · obtain ⟨n1, P1, St1, D1, st1, l1, _⟩ := Src.drawsI I hh h1 p1 g1
      obtain ⟨P2, St2, D2, st2⟩ := Src.drawsE I hh h2 p2 o2
      exact fin D1 D2 st1 st2 (Nat.le_of_lt l1) (Nat.le_refl _) (.inr rfl)
  self := fun A i s Q E st h => wpAny_pyIter_zip st.1 h
/-! ### the call -/
def Mk (v : Value) (o : Obj) (h : Heap) : Prop := ∀ (prog : Program) (w : World) (A : Around) (E : Value → Shared → Prop) (Q : Value → Shared → Prop) (g : Array GenState) (d : Drawn) (tk : Nat) (os : OsState), Q (.ref h.objs.size) ⟨h.push o, g, d, tk, os⟩ → wpAny (model prog w) A (pyIter v) Q E ⟨h, g, d, tk, os⟩
abbrev zH3 (h : Heap) (o1 o2 : Obj) : Heap := ((h.push o1).push o2).push { cls := .type "tuple", data := .seq #[.ref h.objs.size, .ref (h.push o1).objs.size] }
abbrev zH4 (h : Heap) (o1 o2 : Obj) : Heap := (zH3 h o1 o2).push { cls := .type "tuple", data := .seq #[.none, .none] }
abbrev zH5 (h : Heap) (o1 o2 : Obj) : Heap := (zH4 h o1 o2).push { cls := .type "zip", data := .fields #[.none, .bool false, .bool false, .ref ((h.push o1).push o2).objs.size, .ref (zH3 h o1 o2).objs.size] }
theorem meets_zip (v1 v2 : Value) (o1 o2 : Obj) :
    Meets (Builtin.«zip.__new__» ⟨[.type "zip", v1, v2], []⟩) (fun _ R s => Mk v1 o1 s.heap ∧ Mk v2 o2 (s.heap.push o1) ∧
      R (.ok (.ret (.ref (zH4 s.heap o1 o2).objs.size))) { s with heap := zH5 s.heap o1 o2 }) :=
  .of_wp fun prog w A R s h => by
    obtain ⟨hp, g, d, tk, os⟩ := s; obtain ⟨m1, m2, h⟩ := h
    have hsub := sub_zip
    have n1 : ∀ {A : Around} {E Q : Value → Shared → Prop}, Q (.ref hp.objs.size) ⟨hp.push o1, g, d, tk, os⟩ → wpAny (model prog w) A (pyIter v1) Q E ⟨hp, g, d, tk, os⟩ := fun {A E Q} q => m1 prog w A E Q g d tk os q
    have n2 : ∀ {A : Around} {E Q : Value → Shared → Prop}, Q (.ref (hp.push o1).objs.size) ⟨(hp.push o1).push o2, g, d, tk, os⟩ → wpAny (model prog w) A (pyIter v2) Q E ⟨hp.push o1, g, d, tk, os⟩ := fun {A E Q} q => m2 prog w A E Q g d tk os q
    wp_walk using n1, n2
    exact ⟨_, rfl, h⟩
section
variable {prog : Program} {w : World} {A : Around} {E : Value → Shared → Prop} {s : Shared}
theorem call_zipS {v1 v2 : Value} {o1 o2 : Obj} {Q : Value → Shared → Prop} (m1 : Mk v1 o1 s.heap) (m2 : Mk v2 o2 (s.heap.push o1)) (f1 : o1.isFreed = false) (f2 : o2.isFreed = false)
    (h : ∀ h', IsZip h' (s.heap.objs.size + 4) (s.heap.objs.size + 2) (s.heap.objs.size + 3) .none → IsPair h' (s.heap.objs.size + 2) (.ref s.heap.objs.size) (.ref (s.heap.objs.size + 1)) →
      IsPair h' (s.heap.objs.size + 3) .none .none → h'.get? s.heap.objs.size = some o1 → h'.get? (s.heap.objs.size + 1) = some o2 →
      (∀ c o, s.heap.get? c = some o → h'.get? c = some o) → Q (.ref (s.heap.objs.size + 4)) { s with heap := h' }) :
    wpAny (model prog w) A (call (.type "zip") [v1, v2]) Q E s := by
  refine callType_new F.called_zip (by decide) (F.typeCall_zip_2 _ _) (F.newCall_zip_2 _ _) (fun obj => F.args_object_init_3 obj _ _) F.entry_zip_new
    (meets_zip v1 v2 o1 o2) ⟨m1, m2, ?_⟩
  have z1 : (s.heap.push o1).objs.size = s.heap.objs.size + 1 := Heap.size_push ..
  have z2 : ((s.heap.push o1).push o2).objs.size = s.heap.objs.size + 2 := by rw [Heap.size_push, z1]
  have z3 : (zH3 s.heap o1 o2).objs.size = s.heap.objs.size + 3 := by rw [Heap.size_push, z2]
  have z4 : (zH4 s.heap o1 o2).objs.size = s.heap.objs.size + 4 := by rw [Heap.size_push, z3]
  have g5 : (zH5 s.heap o1 o2).get? (zH4 s.heap o1 o2).objs.size = some _ := Heap.get?_push_size _ rfl
  have g4 : (zH5 s.heap o1 o2).get? (zH3 s.heap o1 o2).objs.size = some _ := Heap.get?_push_of_some _ (Heap.get?_push_size _ rfl)
  have g3 : (zH5 s.heap o1 o2).get? ((s.heap.push o1).push o2).objs.size = some _ := Heap.get?_push_of_some _ (Heap.get?_push_of_some _ (Heap.get?_push_size _ rfl))
  have g2 : (zH5 s.heap o1 o2).get? (s.heap.push o1).objs.size = some _ := Heap.get?_push_of_some _ (Heap.get?_push_of_some _ (Heap.get?_push_of_some _ (Heap.get?_push_size _ f2)))
  have g1 : (zH5 s.heap o1 o2).get? s.heap.objs.size = some _ := Heap.get?_push_of_some _ (Heap.get?_push_of_some _ (Heap.get?_push_of_some _ (Heap.get?_push_of_some _ (Heap.get?_push_size _ f1))))
  show _ ∧ _
  rw [z2, z3, z4] at g5
  rw [z1, z2] at g3
  rw [z3] at g4
  rw [z1] at g2
  rw [z4]
  exact ⟨⟨_, g5, rfl⟩, h _ g5 g3 g4 g1 g2 fun c o x =>
    Heap.get?_push_of_some _ (Heap.get?_push_of_some _ (Heap.get?_push_of_some _ (Heap.get?_push_of_some _ (Heap.get?_push_of_some _ x))))⟩
end
theorem nz {a b : Nat} (h : ¬ a = b) : (show Addr from a) ≠ b := h
namespace Src
def bnd (S : Src) (n : Nat) : Prop := match S with
  | txt _ => True
  | lst a => a < n
  | tup a => a < n
theorem bnd.apart {S : Src} {n it : Nat} (b : S.bnd n) (h : n ≤ it) : S.apart it := by
  cases S with
  | txt _ => trivial
  | lst a => exact Nat.ne_of_lt (Nat.lt_of_lt_of_le b h)
  | tup a => exact Nat.ne_of_lt (Nat.lt_of_lt_of_le b h)
theorem bnd.notin {S : Src} {n it c : Nat} (b : S.bnd n) (h : n ≤ c) (hne : c ≠ it) : c ∉ S.fp it := by
  cases S with
  | txt _ => simpa [fp] using hne
  | lst a =>
    have b' : a < n := b
    intro q
    rcases (show c = it ∨ c = a by simpa [fp] using q) with q | q
    · exact hne q
    · exact absurd b' (by rw [← q]; exact Nat.not_lt.mpr h)
  | tup a =>
    have b' : a < n := b
    intro q
    rcases (show c = it ∨ c = a by simpa [fp] using q) with q | q
    · exact hne q
    · exact absurd b' (by rw [← q]; exact Nat.not_lt.mpr h)
theorem mem_fp {S : Src} {it : Nat} : it ∈ S.fp it := by cases S <;> simp [fp]
theorem mk {X : Cx} {pins : List (Addr × Obj)} {σ : L2.St} {H : Hp} {s : Shared} (I : Inv X pins σ H s) {S : Src} {u : Value} (r : RelV S.val u) (hs : S.here X.K H) :
    ∃ o, o.isFreed = false ∧ (∀ h, (∀ c o, s.heap.get? c = some o → h.get? c = some o) → Mk u o h) ∧ (∀ h it, h.get? it = some o → S.St it h 0) ∧ S.bnd s.heap.objs.size := by
  cases S with
  | txt x =>
    obtain ⟨t, rfl⟩ := r
    refine ⟨{ cls := .type (PySem.strIterType x), data := .fields #[.str x t, .int 0 0] }, rfl, fun h _ prog w A E Q g d tk os q => ?_, fun h it e => ⟨t, _, e, rfl, rfl⟩, trivial⟩
    cases ha : x.cps.all (· < 128)
    · simp only [PySem.strIterType, ha, Bool.false_eq_true, if_false] at q
      exact wpAny_pyIter_wide ha q
    · simp only [PySem.strIterType, ha, if_true] at q
      exact wpAny_pyIter_ascii ha q
  | lst a =>
    cases r
    obtain ⟨xs, hq⟩ := hs
    obtain ⟨its, rv, p, _⟩ := I.list hq
    exact ⟨{ cls := .type "list_iterator", data := .fields #[.ref a, .int 0 0] }, rfl, fun h k prog w A E Q g d tk os q => wpAny_pyIter_list (s := ⟨h, g, d, tk, os⟩) (p.isList.at fun o e => k a o e) q, fun h it e => ⟨_, e, rfl, rfl⟩, p.lt⟩
  | tup a =>
    cases r
    obtain ⟨xs, hq⟩ := hs
    obtain ⟨its, rv, p, _⟩ := I.tuple hq
    obtain ⟨ob, ho, _⟩ := id p
    exact ⟨{ cls := .type "tuple_iterator", data := .fields #[.ref a, .int 0 0] }, rfl, fun h k prog w A E Q g d tk os q => wpAny_pyIter_tuple (s := ⟨h, g, d, tk, os⟩) (Heap.IsTuple.at (show s.heap.IsTuple a its.toArray from p) fun o e => k a o e) q, fun h it e => ⟨_, e, rfl, rfl⟩, Heap.lt_size ho⟩
end Src
def iZipS (K : PySem.W.Frag) (ta : TA) : TI := fun σ H R => ta σ H fun vs H1 => ∃ S1 S2 : Src, vs = [S1.val, S2.val] ∧ S1.here K H1 ∧ S2.here K H1 ∧ R (ItZ K S1 S2) H1
theorem pi_zipS {X : Cx} {e e2 : Expr} {ta : TA} {p pos tpos : Pos} {elts : List Expr} {kk : Nat} (hg : Gl X "zip") (hm : X.mg "zip" = none) (ha : PA X [e, e2] ta)
    (hs : starEach [e, e2] X.env = (false, eval e X.env) :: starEach [e2] X.env := by rfl) (hpl : (backTo pos (starEach [e2] X.env)).any (·.1) = false := by rfl) :
    PI X (.Tuple elts kk tpos) (.Call (.Name "zip" p) [e, e2] [] pos) (iZipS X.K ta) := by
  refine ⟨fun pins s σ H R I h => ?_⟩
  refine Call_ (ld_blt I hg hm PyProof.Rows.boot_zip (PyProof.Rows.callWith_type1 (thn (ha.run pos pins s σ H _ I h) fun us s1 ⟨vs, H1, I1, r1, q1⟩ => ?_) hs hpl))
  obtain ⟨S1, S2, ex, h1, h2, q⟩ := q1
  subst ex
  cases r1 with
  | cons r rr =>
    cases rr with
    | cons r' rr =>
      cases rr
      have fresh5 : ∀ c, c ∈ [s1.heap.objs.size + 4, s1.heap.objs.size + 2, s1.heap.objs.size + 3, s1.heap.objs.size, s1.heap.objs.size + 1] → FpOk X pins H1 c := fun c hcm => by
        have e' : c = s1.heap.objs.size + 4 ∨ c = s1.heap.objs.size + 2 ∨ c = s1.heap.objs.size + 3 ∨ c = s1.heap.objs.size ∨ c = s1.heap.objs.size + 1 := by simpa using hcm
        have hle : s1.heap.objs.size ≤ c := by
          rcases e' with z | z | z | z | z
          · rw [z]; exact Nat.le_add_right _ _
          · rw [z]; exact Nat.le_add_right _ _
          · rw [z]; exact Nat.le_add_right _ _
          · rw [z]; exact Nat.le_refl _
          · rw [z]; exact Nat.le_add_right _ _
        exact I1.fpOk hle (I1.hok.fresh hle)
      obtain ⟨o1, f1, m1, t1, b1⟩ := Src.mk I1 r h1
      obtain ⟨o2, f2, m2, t2, b2⟩ := Src.mk I1 r' h2
      refine call_zipS (m1 _ fun _ _ e => e) (m2 _ fun _ _ e => Heap.get?_push_of_some _ e) f1 f2 fun h' hz hTI hTO g1 g2 hk => wpAny_pyIter_zip hz ?_
      have I2 : Inv X pins σ H1 { s1 with heap := h' } := I1.kept (t' := s1.toks) hk
      have D : ZipSep2 (s1.heap.objs.size + 4) (s1.heap.objs.size + 2) (s1.heap.objs.size + 3) s1.heap.objs.size (s1.heap.objs.size + 1) (S1.fp s1.heap.objs.size) (S2.fp (s1.heap.objs.size + 1)) := {
        TIz := nz (by omega), TOz := nz (by omega), TITO := nz (by omega), TIi1 := nz (by omega), TIi2 := nz (by omega), mem1 := Src.mem_fp, mem2 := Src.mem_fp
        zf1 := b1.notin (by omega) (nz (by omega)), Tf1 := b1.notin (by omega) (nz (by omega)), zf2 := b2.notin (by omega) (nz (by omega)), Tf2 := b2.notin (by omega) (nz (by omega))
        sep1_2 := b2.notin (by omega) (nz (by omega)), sep2_1 := b1.notin (by omega) (nz (by omega)) }
      exact ⟨s1.heap.objs.size + 4, [s1.heap.objs.size + 4, s1.heap.objs.size + 2, s1.heap.objs.size + 3, s1.heap.objs.size, s1.heap.objs.size + 1], _, _, H1, rfl, I2, turn_zipS D (nz (by omega)) (b1.apart (by omega)) (b2.apart (by omega)), ⟨hz, hTI, ⟨_, _, hTO⟩, t1 _ _ g1, t2 _ _ g2⟩, fresh5, q⟩
/-! ### by values -/
def SrcD (K : KZ) (S : Src) (items : List D) (G : Mem → Prop) (M : Mem) (H : Hp) : Prop := ∀ M2 H2, Frame M H M2 H2 → MAbs K M2 H2 → G M2 → ∀ i : Nat,
  (items.length ≤ i → S.off K.k H2 i) ∧ ∀ d, items[i]? = some d → (∃ v, S.at_ K.k H2 i v) ∧ ∀ v, S.yl K.k H2 i v → Rep K M2 H2 v d
section
variable {K : KZ} {M : Mem} {H : Hp} {a : Addr} {vs : List V} {ds : List D}
theorem srd_list (h : RdL K M H a vs) (r : Reps K M H vs ds) : SrcD K (.lst a) ds (fun _ => True) M H := fun M2 H2 f A _ i => by
  have q := (h.fr f).sq
  have r2 := r.fr f
  refine ⟨fun hi => ⟨vs, q, by rw [r.length]; exact hi⟩, fun d hd => ?_⟩
  obtain ⟨v, hv, rv⟩ := r2.get hd
  exact ⟨⟨v, vs, q, hv⟩, fun x y => by
    have := y vs q
    rw [hv] at this
    cases this
    exact rv⟩
theorem srd_tup (h : RdT K M H a vs) (r : Reps K M H vs ds) : SrcD K (.tup a) ds (fun _ => True) M H := fun M2 H2 f A _ i => by
  have q := (h.fr f).sq
  have r2 := r.fr f
  refine ⟨fun hi => ⟨vs, q, by rw [r.length]; exact hi⟩, fun d hd => ?_⟩
  obtain ⟨v, hv, rv⟩ := r2.get hd
  exact ⟨⟨v, vs, q, hv⟩, fun x y => by
    have := y vs q
    rw [hv] at this
    cases this
    exact rv⟩
theorem srd_ref : SrcD K (.lst a) ds (fun M => M a = some (.lst ds)) M H := fun M2 H2 f A g i => by
  obtain ⟨us, e, r2⟩ := A.at_ a _ g
  have q : SqL K.k H2 a us := .inl (.inl e)
  refine ⟨fun hi => ⟨us, q, by rw [r2.length]; exact hi⟩, fun d hd => ?_⟩
  obtain ⟨v, hv, rv⟩ := r2.get hd
  exact ⟨⟨v, us, q, hv⟩, fun x y => by
    have := y us q
    rw [hv] at this
    cases this
    exact rv⟩
theorem srd_str {x : Str} : SrcD K (.txt x) (charsD x) (fun _ => True) M H := fun M2 H2 f A _ i => by
  unfold charsD
  refine ⟨fun hi => by rw [List.length_map, Array.length_toList] at hi; exact hi, fun d hd => ?_⟩
  rw [List.getElem?_map] at hd
  cases e : x.cps.toList[i]? with
  | none => rw [e] at hd; cases hd
  | some c =>
    rw [e] at hd
    cases hd
    have e' : x.cps[i]? = some c := by rw [← e, Array.getElem?_toList]
    refine ⟨⟨_, c, e', rfl⟩, fun v ⟨c', ec, ev⟩ => ?_⟩
    subst ev
    rw [e'] at ec
    cases ec
    exact .str _
end
theorem src_of {K : PySem.W.Frag} {z : Addr → Prop} {M : Mem} {H : Hp} {d : D} {v : V} {items : List D} {G : Mem → Prop} (hi : Iter M d items G) (r1 : Rep ⟨K, z⟩ M H v d) (A : MAbs ⟨K, z⟩ M H) :
    ∃ S : Src, v = S.val ∧ S.here K H ∧ ∀ z' : Addr → Prop, (∀ a, z' a → z a ∨ H a = none) → SrcD ⟨K, z'⟩ S items G M H := by
  have zz : ∀ z' : Addr → Prop, (∀ a, z' a → z a ∨ H a = none) → ∀ a, H a ≠ none → z' a → z a := fun z' hz a h y => (hz a y).elim id fun e => absurd e h
  cases d with
  | tup ds =>
    obtain ⟨rfl, rfl⟩ := hi
    obtain ⟨a, vs, rfl, h, r⟩ := rep_tup r1
    exact ⟨.tup a, rfl, ⟨vs, h.sq⟩, fun z' hz => srd_tup (K := ⟨K, z'⟩) (h.elim .inl .inr) (r.zz (zz z' hz))⟩
  | lst ds =>
    obtain ⟨rfl, rfl⟩ := hi
    obtain ⟨a, vs, rfl, h, r⟩ := rep_lst r1
    exact ⟨.lst a, rfl, ⟨vs, h.sq⟩, fun z' hz => srd_list (K := ⟨K, z'⟩) (h.zz (zz z' hz)) (r.zz (zz z' hz))⟩
  | str x =>
    obtain ⟨rfl, rfl⟩ := hi
    obtain rfl := rep_str r1
    exact ⟨.txt x, rfl, trivial, fun z' hz => srd_str⟩
  | ref a =>
    obtain ⟨ha, rfl⟩ := hi
    obtain rfl := rep_ref r1
    obtain ⟨vs, ea, r⟩ := A.at_ a _ ha
    exact ⟨.lst a, rfl, ⟨vs, .inl (.inl ea)⟩, fun z' hz => srd_ref (K := ⟨K, z'⟩)⟩
  | _ => exact hi.elim
def zipD (is js : List D) : List D := List.zipWith (fun x y => .tup [x, y]) is js
theorem zip_at {is js : List D} {i : Nat} {d : D} (h : (zipD is js)[i]? = some d) : ∃ x y, is[i]? = some x ∧ js[i]? = some y ∧ d = .tup [x, y] := by
  unfold zipD at h
  rw [List.getElem?_zipWith] at h
  revert h
  cases is[i]? with
  | none => intro h; cases h
  | some x =>
    cases js[i]? with
    | none => intro h; cases h
    | some y => intro h; cases h; exact ⟨x, y, rfl, rfl, rfl⟩
theorem itd_zip {K : KZ} {M : Mem} {H : Hp} {S1 S2 : Src} {is js : List D} {G1 G2 : Mem → Prop} (h1 : SrcD K S1 is G1 M H) (h2 : SrcD K S2 js G2 M H) : ItD K (ItZ K.k S1 S2) (zipD is js) (fun M => G1 M ∧ G2 M) M H := fun M2 H2 f A g i => by
  obtain ⟨a1, b1⟩ := h1 M2 H2 f A g.1 i
  obtain ⟨a2, b2⟩ := h2 M2 H2 f A g.2 i
  refine ⟨fun hi => ?_, fun d hd => ?_⟩
  · have hl : (zipD is js).length = min is.length js.length := List.length_zipWith
    rw [hl] at hi
    by_cases q1 : is.length ≤ i
    · refine .inl ⟨a1 q1, ?_⟩
      by_cases q2 : js.length ≤ i
      · exact .inl (a2 q2)
      · exact .inr (b2 _ (List.getElem?_eq_getElem (by omega))).1
    · exact .inr ⟨a2 (by omega), (b1 _ (List.getElem?_eq_getElem (by omega))).1⟩
  · obtain ⟨x, y, hx, hy, rfl⟩ := zip_at hd
    obtain ⟨c1, e1⟩ := b1 _ hx
    obtain ⟨c2, e2⟩ := b2 _ hy
    refine ⟨⟨c1, c2⟩, fun v H3 ⟨T, u1, u2, ev, hT, eH, y1, y2⟩ => ?_⟩
    subst ev eH
    exact ⟨.tup (.inl ⟨.inl upd_same, A.free hT⟩) (.cons ((e1 _ y1).fr (Frame.new hT)) (.cons ((e2 _ y2).fr (Frame.new hT)) .nil)), A.new hT, Frame.new hT⟩
/-- zip(x, y) -/
def dZip (ta : DA) : DI := fun ρ M R => ta ρ M fun xs M1 => ∃ x y is js Gx Gy, xs = [x, y] ∧ Iter M1 x is Gx ∧ Iter M1 y js Gy ∧ R (zipD is js) (fun M => Gx M ∧ Gy M) M1
theorem di_zip {X : Cx} {e e2 : Expr} {ta : DA} {p pos tpos : Pos} {elts : List Expr} {kk : Nat} (hm : X.mg "zip" = none) (ha : PAD X [e, e2] ta) (hg : Gl X "zip" := by rfl)
    (hs : starEach [e, e2] X.env = (false, eval e X.env) :: starEach [e2] X.env := by rfl) (hpl : (backTo pos (starEach [e2] X.env)).any (·.1) = false := by rfl) :
    PID X (.Tuple elts kk tpos) (.Call (.Name "zip" p) [e, e2] [] pos) (dZip ta) :=
  (pi_zipS hg hm ha hs hpl).weak fun σ H R ⟨z, ρ, M, R0, S, A, q, F⟩ => ⟨z, ρ, M, _, S, A, q, fun xs M1 vs H1 ⟨x, y, is, js, Gx, Gy, ex, hx, hy, q1⟩ r1 A1 f1 => by
    subst ex
    cases r1 with
    | cons r1 r2 =>
      cases r2 with
      | cons r2 r3 =>
        cases r3
        obtain ⟨S1, e1, k1, d1⟩ := src_of hx r1 A1
        obtain ⟨S2, e2, k2, d2⟩ := src_of hy r2 A1
        subst e1 e2
        exact ⟨S1, S2, rfl, k1, k2, F _ _ _ _ _ q1 A1 f1 fun z' hz => itd_zip (K := ⟨X.K, z'⟩) (d1 z' hz) (d2 z' hz)⟩⟩
end DL

set_option Elab.async false
set_option linter.all false
set_option maxHeartbeats 4000000
set_option maxRecDepth 100000
/-! D-layer, part 31: d.get(k), d.get(k, x); n & 1; [..] * k of a frozen list; list(d), sorted(list(d)). -/
namespace DL
open PySem PySem.Spec PyProof.Rows L2
/-- a dict of either kind -/
def DctAt (M : Mem) (x : D) (ks : List Key) (ds : List D) : Prop := x = .dct ks ds ∨ ∃ a, x = .ref a ∧ M a = some (.dct ks ds)
theorem rep_dctAt {K : KZ} {M : Mem} {H : Hp} {v : V} {x : D} {ks : List Key} {ds : List D} (A : MAbs K M H) (r : Rep K M H v x) (h : DctAt M x ks ds) : ∃ a kvs, v = .ref a ∧ Rd H a (.dK kvs) ∧ kvs.map (·.1) = ks ∧ Reps K M H (kvs.map (·.2)) ds := by
  rcases h with rfl | ⟨a, rfl, em⟩
  · obtain ⟨a, kvs, rfl, h, e1, rs⟩ := rep_dct r
    exact ⟨a, kvs, rfl, h.1, e1, rs⟩
  · obtain rfl := rep_ref r
    obtain ⟨kvs, ea, e1, rs⟩ := A.at_ _ _ em
    exact ⟨a, kvs, rfl, .inl ea, e1, rs⟩
theorem valV_none {K : KZ} {M : Mem} {H : Hp} : ∀ {kvs : List (Key × V)} {ds : List D} {k : Key}, Reps K M H (kvs.map (·.2)) ds → dget (kvs.map (·.1)) ds k = none → valV kvs k = none
  | [], _, _, r, e => rfl
  | (x, v) :: kvs, ds, k, r, e => by
    cases r with
    | cons r rs =>
      by_cases h : x = k
      · have e' : (if x = k then some _ else dget (kvs.map (·.1)) _ k) = none := e
        rw [if_pos h] at e'
        cases e'
      · have e' : (if x = k then some _ else dget (kvs.map (·.1)) _ k) = none := e
        rw [if_neg h] at e'
        exact (valV_neg (p := (x, v)) h).trans (valV_none rs e')
section
variable {X : Cx} {o e f : Expr} {apos cpos pos : Pos} {td ty tx : DE}
def dGet1 (td ty : DE) : DE := fun ρ M R => td ρ M fun x M1 => (∃ ks ds, DctAt M1 x ks ds) ∧ ty ρ M1 fun y M2 => ∃ k ks ds, dkey y = some k ∧ DctAt M2 x ks ds ∧ R ((dget ks ds k).getD .non) M2
theorem de_get1 (hu : X.A.units + 1 < cLine) (ho : PED X o td) (he : PED X e ty) (m : M1 X o "get" apos e cpos := by exact ⟨rfl, rfl, rfl, rfl⟩) : PED X (.Call (.Attribute o "get" apos) [e] [] cpos) (dGet1 td ty) :=
  (pe_dget1 hu ho he m).weak fun σ H Q ⟨z, ρ, M, R, S, A, q, F⟩ => ⟨z, ρ, M, _, S, A, q, fun x M1 v H1 ⟨⟨ks0, ds0, h0⟩, q1⟩ r1 A1 f1 => by
    obtain ⟨a, kvs0, rfl, rd, _, _⟩ := rep_dctAt A1 r1 h0
    refine ⟨a, rfl, .inl ⟨kvs0, rd⟩, z, ρ, M1, _, S.fr f1, A1, q1, fun y M2 u H2 ⟨k, ks, ds, ek, hx, q2⟩ r2 A2 f2 => ?_⟩
    obtain ⟨b, kvs, e1, rd2, e2, rs⟩ := rep_dctAt A2 (r1.fr f2) hx
    cases e1
    subst e2
    obtain rfl := rep_key r2 ek
    refine ⟨valV kvs k, .inl ⟨kvs, k, rd2, rfl, rfl⟩, ?_⟩
    cases hd : dget (kvs.map (·.1)) ds k with
    | none =>
      rw [valV_none rs hd]
      rw [hd] at q2
      exact F _ _ _ _ q2 .non A2 (f1.trans f2)
    | some d =>
      obtain ⟨w, hw, rw⟩ := valV_get rs hd
      rw [hw]
      rw [hd] at q2
      exact F _ _ _ _ q2 rw A2 (f1.trans f2)⟩
def dGet2 (td ty tx : DE) : DE := fun ρ M R => td ρ M fun x M1 => (∃ ks ds, DctAt M1 x ks ds) ∧ ty ρ M1 fun y M2 => tx ρ M2 fun d0 M3 => ∃ k ks ds, dkey y = some k ∧ DctAt M3 x ks ds ∧ R ((dget ks ds k).getD d0) M3
theorem de_get2 (hu : X.A.units + 1 < cLine) (ho : PED X o td) (he : PED X e ty) (hf : PED X f tx) (m : M2 X o "get" apos e f cpos := by exact ⟨rfl, rfl, rfl, rfl⟩) : PED X (.Call (.Attribute o "get" apos) [e, f] [] cpos) (dGet2 td ty tx) :=
  (pe_dget2 hu ho he hf m).weak fun σ H Q ⟨z, ρ, M, R, S, A, q, F⟩ => ⟨z, ρ, M, _, S, A, q, fun x M1 v H1 ⟨⟨ks0, ds0, h0⟩, q1⟩ r1 A1 f1 => by
    obtain ⟨a, kvs0, rfl, rd, _, _⟩ := rep_dctAt A1 r1 h0
    refine ⟨a, rfl, .inl ⟨kvs0, rd⟩, z, ρ, M1, _, S.fr f1, A1, q1, fun y M2 u H2 q2 r2 A2 f2 => ⟨z, ρ, M2, _, S.fr (f1.trans f2), A2, q2, fun d0 M3 w0 H3 ⟨k, ks, ds, ek, hx, q3⟩ r3 A3 f3 => ?_⟩⟩
    obtain ⟨b, kvs, e1, rd2, e2, rs⟩ := rep_dctAt A3 (r1.fr (f2.trans f3)) hx
    cases e1
    subst e2
    obtain rfl := rep_key (r2.fr f3) ek
    refine ⟨valV kvs k, .inl ⟨kvs, k, rd2, rfl, rfl⟩, ?_⟩
    cases hd : dget (kvs.map (·.1)) ds k with
    | none =>
      rw [valV_none rs hd]
      rw [hd] at q3
      exact F _ _ _ _ q3 r3 A3 ((f1.trans f2).trans f3)
    | some d =>
      obtain ⟨w, hw, rw⟩ := valV_get rs hd
      rw [hw]
      rw [hd] at q3
      exact F _ _ _ _ q3 rw A3 ((f1.trans f2).trans f3)⟩
/-! ### n & 1 -/
def dOdd : D2 := fun x y M R => ∃ n : Nat, x = .int (n : Int) ∧ y = .int 1 ∧ R (.int ((n % 2 : Nat) : Int)) M
theorem od_odd : OpR X (binaryOp .BitAnd) (lift2 X.K dOdd) := op_odd.weak fun v u H Q ⟨z, M, x, y, R, A, rx, ry, ⟨n, e1, e2, q⟩, F⟩ => by
  subst e1 e2
  exact ⟨n, rep_int rx, rep_int ry, F.at_ A q (.int _)⟩
/-! ### list(d) -/
def dListK : DN := fun xs M R => ∃ x ks ds, xs = [x] ∧ DctAt M x ks ds ∧ R (.lst (ks.map keyD)) M
theorem reps_keys {K : KZ} {M : Mem} {H : Hp} : ∀ (ks : List Key), Reps K M H (ks.map kV) (ks.map keyD)
  | [] => .nil
  | .inl i :: ks => .cons (.int i) (reps_keys ks)
  | .inr s :: ks => .cons (.str s) (reps_keys ks)
theorem cd_listK (hc : X.calm = true) : CallR X (.type "list") (liftN X.K dListK) := (call_listD hc).weak fun xs H Q ⟨z, M, es, R, A, r, ⟨x, ks, ds, e, h, q⟩, F⟩ => by
  subst e
  cases r with
  | cons r rs =>
    cases rs
    obtain ⟨a, kvs, rfl, rd, e1, _⟩ := rep_dctAt A r h
    subst e1
    refine ⟨a, kvs, rfl, rd, fun p hp => F.lst A hp ?_ q⟩
    have := reps_keys (K := ⟨X.K, z⟩) (M := M) (H := H) (kvs.map (·.1))
    rw [List.map_map] at this
    exact this
end
end DL

set_option Elab.async false
set_option linter.all false
set_option maxHeartbeats 4000000
set_option maxRecDepth 100000
/-! D-layer, part 32: the promises of draw, pick, deck; what an expression may come to. -/
namespace DL
open PySem PySem.Spec PyProof.Rows L2
def sp_draw : SpD := fun ds M R _ => ∃ a many, ds = [.ref a, .int many] ∧ Deck M a ∧ 0 < many ∧ many < 1073741824 ∧ ∀ i, 0 ≤ i → i < many → R (.int i) M
theorem draw_go {M : Mem} {R : RK} {a : Addr} {n : Int} (hd : Deck M a) (h0 : 0 < n) (h1 : n < 1073741824) (q : ∀ i, 0 ≤ i → i < n → R (.int i) M) : sp_draw [.ref a, .int n] M R noX := ⟨a, n, rfl, hd, h0, h1, q⟩
def sp_pick : SpD := fun ds M R _ => ∃ a x, ds = [.ref a, x] ∧ Deck M a ∧ ((∃ xs, (x = .lst xs ∨ x = .tup xs ∨ ∃ p, x = .ref p ∧ M p = some (.lst xs)) ∧ xs ≠ [] ∧ xs.length ≤ 1000000 ∧ ∀ d ∈ xs, R d M) ∨ ∃ s : Str, x = .str s ∧ 0 < s.length ∧ s.length ≤ 1000 ∧ ∀ c ∈ s.cps.toList, R (.str ⟨#[c]⟩) M)
theorem pick_lst {M : Mem} {R : RK} {a : Addr} {xs : List D} (hd : Deck M a) (h0 : xs ≠ []) (h1 : xs.length ≤ 1000) (q : ∀ d ∈ xs, R d M) : sp_pick [.ref a, .lst xs] M R noX := ⟨a, _, rfl, hd, .inl ⟨xs, .inl rfl, h0, Nat.le_trans h1 (by decide), q⟩⟩
theorem pick_tup {M : Mem} {R : RK} {a : Addr} {xs : List D} (hd : Deck M a) (h0 : xs ≠ []) (h1 : xs.length ≤ 1000) (q : ∀ d ∈ xs, R d M) : sp_pick [.ref a, .tup xs] M R noX := ⟨a, _, rfl, hd, .inl ⟨xs, .inr (.inl rfl), h0, Nat.le_trans h1 (by decide), q⟩⟩
theorem pick_ref {M : Mem} {R : RK} {a p : Addr} {xs : List D} (hd : Deck M a) (hp : M p = some (.lst xs)) (h0 : xs ≠ []) (h1 : xs.length ≤ 1000) (q : ∀ d ∈ xs, R d M) : sp_pick [.ref a, .ref p] M R noX := ⟨a, _, rfl, hd, .inl ⟨xs, .inr (.inr ⟨p, rfl, hp⟩), h0, Nat.le_trans h1 (by decide), q⟩⟩
theorem pick_str {M : Mem} {R : RK} {a : Addr} {s : Str} (hd : Deck M a) (h0 : 0 < s.length) (h1 : s.length ≤ 1000) (q : ∀ c ∈ s.cps.toList, R (.str ⟨#[c]⟩) M) : sp_pick [.ref a, .str s] M R noX := ⟨a, _, rfl, hd, .inr ⟨s, rfl, h0, h1, q⟩⟩
def sp_deck : SpD := fun ds M R _ => ∃ ns : List Int, ds = [.lst (ns.map .int)] ∧ ns.length ≤ 63 ∧ ∀ p M2, Deck M2 p → (∀ c o, M c = some o → M2 c = some o) → R (.ref p) M2
def sp_deckS : SpD := fun ds M R _ => ∃ ns : List Int, ∃ seed, ds = [.lst (ns.map .int), .int seed] ∧ ns.length ≤ 63 ∧ ∀ p M2, Deck M2 p → (∀ c o, M c = some o → M2 c = some o) → R (.ref p) M2
theorem cut63 {ns : List Int} : DL.cutD (ns.map D.int) none (some 63) = (DL.cutD ns none (some 63)).map .int := by
  unfold DL.cutD
  rw [List.length_map, List.map_take, List.map_drop]
theorem cut63_len {ns : List Int} (h : ns.length ≤ 63) : (DL.cutD ns none (some 63)).length ≤ 63 := by
  unfold DL.cutD
  rw [List.length_take, List.length_drop]
  omega
theorem dkp2 : dputK dks (.inr "mixed") = dks := by rfl
theorem dkq2 {x y z d : D} : dputD dks [x, y, z] (.inr "mixed") d = [x, d, z] := by rfl
theorem DkM_setm {M : Mem} {a b : Addr} {ns : List Int} {m n m' : Int} : mset (DkM M a b ns m n) a (.dct dks [.ref b, .int m', .int n]) = DkM M a b ns m' n := mset_mset
/-! ### what an expression may come to, the memory as it was -/
def Ev (t : DE) (ρ : DEnv) (M : Mem) (P : D → Prop) : Prop := ∀ R : RK, (∀ d, P d → R d M) → t ρ M R
def EvT (t : DT) (ρ : DEnv) (M : Mem) (P : Bool → Prop) : Prop := ∀ R : Bool → Mem → Prop, (∀ b, P b → R b M) → t ρ M R
def EvA (t : DA) (ρ : DEnv) (M : Mem) (n : Nat) (P : D → Prop) : Prop := ∀ R : List D → Mem → Prop, (∀ ds, ds.length = n → (∀ d ∈ ds, P d) → R ds M) → t ρ M R
section
variable {t ta tb : DE} {tr : DA} {ρ : DEnv} {M : Mem} {P Q : D → Prop} {n i : Nat} {d : D} {a : Addr}
theorem Ev.to {R : RK} (h : Ev t ρ M P) (q : ∀ d, P d → R d M) : t ρ M R := h R q
theorem Ev.mono (h : Ev t ρ M P) (q : ∀ d, P d → Q d) : Ev t ρ M Q := fun R r => h R fun d p => r d (q d p)
theorem ev_var (e : slot ρ i = some d) (h : P d) : Ev (dVar i) ρ M P := fun R r => ⟨d, e, r d h⟩
theorem ev_c (h : P d) : Ev (dC d) ρ M P := fun R r => r d h
theorem ea_nil : EvA dNil ρ M 0 P := fun R r => r [] rfl (by simp)
theorem ea_cons (h : Ev t ρ M P) (hr : EvA tr ρ M n P) : EvA (dCons t tr) ρ M (n + 1) P := fun R r => h _ fun x hx => hr _ fun xs hl hxs => r _ (by simp [hl]) fun d hd => by
  rcases List.mem_cons.mp hd with rfl | hd
  · exact hx
  · exact hxs d hd
theorem ev_lst (h : EvA tr ρ M n P) (hz : n ≤ 1000 := by decide) : Ev (dLst tr) ρ M fun d => ∃ ds, d = .lst ds ∧ ds.length = n ∧ ∀ x ∈ ds, P x := fun R r => h _ fun ds hl hx => ⟨by rw [sizeLine_eq]; omega, r _ ⟨ds, rfl, hl, hx⟩⟩
theorem ev_tup (h : EvA tr ρ M n P) (hz : n ≤ 1000 := by decide) : Ev (dTup tr) ρ M fun d => ∃ ds, d = .tup ds ∧ ds.length = n ∧ ∀ x ∈ ds, P x := fun R r => h _ fun ds hl hx => ⟨by rw [sizeLine_eq]; omega, r _ ⟨ds, rfl, hl, hx⟩⟩
/-- pick of a written list -/
theorem ev_pick (hd : Deck M a) {z : Nat} (e : slot ρ z = some (.ref a)) (h : EvA tr ρ M n P) (h0 : 0 < n := by decide) (hz : n ≤ 1000 := by decide) : Ev (dCall sp_pick (dCons (dVar z) (dCons (dLst tr) dNil))) ρ M P := fun R r =>
  ⟨_, e, h _ fun ds hl hx => ⟨by rw [sizeLine_eq]; omega, pick_lst hd (fun z => by rw [z] at hl; simp at hl; omega) (by omega) fun d hd => r d (hx d hd)⟩⟩
theorem ev_draw {m : Int} (hd : Deck M a) {z : Nat} (e : slot ρ z = some (.ref a)) (h0 : 0 < m := by decide) (h1 : m < 1073741824 := by decide) : Ev (dCall sp_draw (dCons (dVar z) (dCons (dC (.int m)) dNil))) ρ M fun d => ∃ i, d = .int i ∧ 0 ≤ i ∧ i < m := fun R r =>
  ⟨_, e, draw_go hd h0 h1 fun i a b => r _ ⟨i, rfl, a, b⟩⟩
theorem ev_drawL {xs : List D} (hd : Deck M a) {z : Nat} (e : slot ρ z = some (.ref a)) (ei : slot ρ i = some (.tup xs)) (h0 : 0 < xs.length) (h1 : xs.length ≤ 1000) :
    Ev (dCall sp_draw (dCons (dVar z) (dCons (dCB dLen (dCons (dVar i) dNil)) dNil))) ρ M fun d => ∃ j : Nat, d = .int (j : Nat) ∧ j < xs.length := fun R r => by
  refine ⟨_, e, _, ei, ?_⟩
  refine ⟨_, rfl, ?_⟩
  exact draw_go hd (by omega) (by omega) fun i a b => by
    obtain ⟨j, rfl⟩ := Int.eq_ofNat_of_zero_le a
    exact r _ ⟨j, rfl, by omega⟩
theorem ev_if {c : DT} (h : EvT c ρ M fun _ => True) (ha : Ev ta ρ M P) (hb : Ev tb ρ M P) : Ev (dIf c ta tb) ρ M P := fun R r => h _ fun k _ => by
  cases k with
  | true => exact ha R r
  | false => exact hb R r
theorem et_int {j : Int} {op : D2} {f : Int → Int → Bool} (ho : ∀ {x y : Int} {M : Mem} {R : RK}, R (.bl (f x y)) M → op (.int x) (.int y) M R) (h : Ev ta ρ M fun d => ∃ i, d = .int i) : EvT (dTest (dOp op ta (dC (.int j)))) ρ M fun _ => True := fun R r => h _ fun d ⟨i, e⟩ => by
  subst e
  exact ho ⟨_, rfl, r _ trivial⟩
theorem et_eq {j : Int} (h : Ev ta ρ M fun d => ∃ i, d = .int i) : EvT (dTest (dOp dEq ta (dC (.int j)))) ρ M fun _ => True := et_int (fun q => q_eq_int.mpr q) h
theorem et_gt {j : Int} (h : Ev ta ρ M fun d => ∃ i, d = .int i) : EvT (dTest (dOp dGt ta (dC (.int j)))) ρ M fun _ => True := et_int (fun q => q_op_gt.mpr q) h
theorem et_lt {j : Int} (h : Ev ta ρ M fun d => ∃ i, d = .int i) : EvT (dTest (dOp dLt ta (dC (.int j)))) ρ M fun _ => True := et_int (fun q => q_op_lt.mpr q) h
theorem et_or {c1 c2 : DT} (h1 : EvT c1 ρ M fun _ => True) (h2 : EvT c2 ρ M fun _ => True) : EvT (dOr c1 c2) ρ M fun _ => True := fun R r => h1 _ fun k _ => by
  cases k with
  | true => exact r _ trivial
  | false => exact h2 _ r
theorem et_and {c1 c2 : DT} (h1 : EvT c1 ρ M fun _ => True) (h2 : EvT c2 ρ M fun _ => True) : EvT (dAnd c1 c2) ρ M fun _ => True := fun R r => h1 _ fun k _ => by
  cases k with
  | true => exact h2 _ r
  | false => exact r _ trivial
theorem et_not {c1 : DT} (h1 : EvT c1 ρ M fun _ => True) : EvT (dNot c1) ρ M fun _ => True := fun R r => h1 _ fun k _ => r _ trivial
theorem et_one {c1 : DT} {p : Bool → Prop} {b : Bool} (h1 : EvT c1 ρ M (· = b)) : EvT (dNot c1) ρ M (· = !b) := fun R r => h1 _ fun k e => r _ (by rw [e])
theorem et_val {b : Bool} (h : ∀ R : RK, R (.bl b) M → t ρ M R) : EvT (dTest t) ρ M (· = b) := fun R r => h _ ⟨b, rfl, r b rfl⟩
theorem et_eqs {w : Str} (e : slot ρ i = some d) (ht : tyD M d ≠ none) : EvT (dTest (dOp dEq (dVar i) (dC (.str w)))) ρ M (· = isStr d w) := fun R r => ⟨d, e, (show dEq d (.str w) M (fun x M1 => ∃ k, x = .bl k ∧ R k M1) from q_eq_str.mpr ⟨ht, _, rfl, r _ rfl⟩)⟩
theorem et_nes {w : Str} (e : slot ρ i = some d) (ht : tyD M d ≠ none) : EvT (dTest (dOp dNe (dVar i) (dC (.str w)))) ρ M (· = !isStr d w) := fun R r => ⟨d, e, (show dNe d (.str w) M (fun x M1 => ∃ k, x = .bl k ∧ R k M1) from q_ne_str.mpr ⟨ht, _, rfl, r _ rfl⟩)⟩
theorem et_insign {c : Nat} {w : Str} (e : slot ρ i = some (.str ⟨#[c]⟩)) : EvT (dTest (dOp dIn (dVar i) (dC (.str w)))) ρ M (· = signIn c w) := fun R r => ⟨_, e, _, ⟨c, rfl, rfl⟩, _, rfl, r _ rfl⟩
theorem et_orB {c1 c2 : DT} {x y : Bool} (h1 : EvT c1 ρ M (· = x)) (h2 : x = false → EvT c2 ρ M (· = y)) : EvT (dOr c1 c2) ρ M (· = (x || y)) := fun R r => h1 _ fun k e => by
  subst e
  cases k with
  | true => exact r _ rfl
  | false => exact h2 rfl _ fun b e => r b (by rw [e]; rfl)
theorem et_andB {c1 c2 : DT} {x y : Bool} (h1 : EvT c1 ρ M (· = x)) (h2 : x = true → EvT c2 ρ M (· = y)) : EvT (dAnd c1 c2) ρ M (· = (x && y)) := fun R r => h1 _ fun k e => by
  subst e
  cases k with
  | true => exact h2 rfl _ fun b e => r b (by rw [e]; rfl)
  | false => exact r _ rfl
theorem et_notB {c1 : DT} {x : Bool} (h1 : EvT c1 ρ M (· = x)) : EvT (dNot c1) ρ M (· = !x) := fun R r => h1 _ fun k e => r _ (by rw [e])
theorem et_is {x y : Bool} {c : DT} (h : EvT c ρ M (· = x)) (e : x = y) : EvT c ρ M (· = y) := e ▸ h
/-- a statement's return -/
theorem es_ret {D0 : EndsD} (h : Ev t ρ M P) (q : ∀ d, P d → D0.rt d M) : dRet t D0 ρ M := h _ q
theorem es_set {D0 : EndsD} (h : Ev t ρ M P) (q : ∀ d, P d → D0.nx (put ρ i d) M) : dSet i t D0 ρ M := h _ q
theorem es_if {D0 : EndsD} {c : DT} {s1 s2 : DS} (h : EvT c ρ M fun _ => True) (h1 : s1 D0 ρ M) (h2 : s2 D0 ρ M) : dIfS c s1 s2 D0 ρ M := h _ fun k _ => by
  cases k with
  | true => exact h1
  | false => exact h2
theorem es_ifB {D0 : EndsD} {c : DT} {s1 s2 : DS} {b : Bool} (h : EvT c ρ M (· = b)) (h1 : b = true → s1 D0 ρ M) (h2 : b = false → s2 D0 ρ M) : dIfS c s1 s2 D0 ρ M := h _ fun k e => by
  subst e
  cases k with
  | true => exact h1 rfl
  | false => exact h2 rfl
theorem go_isiC {R : RK} {t c : String} (h : tyD M d = some t) (hc : isiTy c = true) (q : R (.bl (isTy t c)) M) : dCons (dC (.ty c)) dNil ρ M (fun xs M2 => dIsi (d :: xs) M2 R) := go_isi h hc q
theorem et_isi {c u : String} (h : Ev t ρ M fun d => tyD M d = some u) (hc : isiTy c = true := by rfl) : EvT (dTest (dCB dIsi (dCons t (dCons (dC (.ty c)) dNil)))) ρ M (· = isTy u c) := fun R r => h _ fun d e => (show dIsi [d, D.ty c] M (fun x M1 => ∃ k, x = .bl k ∧ R k M1) from go_isi e hc ⟨_, rfl, r _ rfl⟩)
theorem et_isiA {c : String} (h : Ev t ρ M fun d => ∃ u, tyD M d = some u) (hc : isiTy c = true := by rfl) : EvT (dTest (dCB dIsi (dCons t (dCons (dC (.ty c)) dNil)))) ρ M fun _ => True := fun R r => h _ fun d ⟨u, e⟩ => (show dIsi [d, D.ty c] M (fun x M1 => ∃ k, x = .bl k ∧ R k M1) from go_isi e hc ⟨_, rfl, r _ trivial⟩)
end
/-! ### one measure of data -/
/-- data with lengths, numbers, parts up to w, so deep -/
def Bd (w k : Nat) (d : D) : Prop := gx w d = true ∧ wt d ≤ w ∧ dp d ≤ k
section
variable {w w' k k' n : Nat} {d e : D} {xs ys : List D} {s t : Str} {i j : Int}
theorem Bd.mono (h : Bd w k d) (h1 : w ≤ w') (h2 : k ≤ k') : Bd w' k' d := ⟨gx_mono h1 h.1, Nat.le_trans h.2.1 h1, Nat.le_trans h.2.2 h2⟩
theorem Bd.dat (h : Bd w k d) (hw : w ≤ 1000 := by omega) : DL.dat d = true := (gx_dat hw h.1).1
theorem bd_int (h : i.natAbs < 10 ^ 40 := by decide) : Bd w k (.int i) := ⟨gx_int.mpr (by omega), by simp [wt], by simp [dp]⟩
theorem bd_int1 (h : Bd w k (.int i)) (hj : j.natAbs ≤ i.natAbs + 10 := by omega) : Bd (w + 1) k (.int j) := ⟨gx_int.mpr (by have := gx_int.mp h.1; omega), by simp [wt], by simp [dp]⟩
theorem bd_bl {b : Bool} : Bd w k (.bl b) := ⟨rfl, by simp [wt], by simp [dp]⟩
theorem bd_non : Bd w k .non := ⟨rfl, by simp [wt], by simp [dp]⟩
theorem bd_str (h : s.length ≤ w) (h2 : ascii s = true) : Bd w k (.str s) := ⟨gx_str.mpr ⟨h, h2⟩, by simpa [wt] using h, by simp [dp]⟩
theorem bd_strs (h : (decide (s.length ≤ w) && ascii s) = true) : Bd w k (.str s) := by
  rw [Bool.and_eq_true, decide_eq_true_eq] at h
  exact bd_str h.1 h.2
theorem Bd.str (h : Bd w k (.str s)) : s.length ≤ w ∧ ascii s = true := gx_str.mp h.1
theorem Bd.int (h : Bd w k (.int i)) : i.natAbs < 10 ^ 40 + 10 * w := gx_int.mp h.1
theorem bd_tup (h : ∀ d ∈ xs, Bd n k d) (hl : xs.length * (n + 1) ≤ w) (hn : n ≤ w) (hk : k + 1 ≤ k') : Bd w k' (.tup xs) ∧ Bd w k' (.lst xs) := by
  have h1 : xs.length ≤ w := Nat.le_trans (Nat.le_mul_of_pos_right _ (by omega)) hl
  have g : gx w (.tup xs) = true := gx_tup.mpr ⟨h1, fun d hd => gx_mono hn (h d hd).1⟩
  have ws : wts xs ≤ w := Nat.le_trans (wts_le (k := n + 1) fun d hd => by have := (h d hd).2.1; omega) hl
  have ds : dps xs ≤ k := dps_le fun d hd => (h d hd).2.2
  have ed : dp (.tup xs) = dps xs + 1 := rfl
  have el : dp (.lst xs) = dps xs + 1 := rfl
  exact ⟨⟨g, ws, by omega⟩, ⟨g, ws, by omega⟩⟩
theorem Bd.mem (h : Bd w k (.tup xs)) (hd : d ∈ xs) : Bd w (k - 1) d := by
  have h1 := (gx_tup.mp h.1).2 d hd
  have h2 := wts_mem hd
  have h3 : wts xs ≤ w := h.2.1
  have h4 := dps_mem hd
  have h5 : dps xs + 1 ≤ k := h.2.2
  exact ⟨h1, by omega, by omega⟩
theorem Bd.len (h : Bd w k (.tup xs)) : xs.length ≤ w := (gx_tup.mp h.1).1
theorem bd_sub (h : Bd w k (.tup xs)) (h1 : ∀ d ∈ ys, d ∈ xs) (h2 : ys.length ≤ w') (h3 : wts ys ≤ w') (hw : w ≤ w') : Bd w' k (.tup ys) ∧ Bd w' k (.lst ys) := by
  have g : gx w' (.tup ys) = true := gx_tup.mpr ⟨h2, fun d hd => gx_mono hw ((gx_tup.mp h.1).2 d (h1 d hd))⟩
  have e := dps_sub h1
  have h5 : dps xs + 1 ≤ k := h.2.2
  have ed : dp (.tup ys) = dps ys + 1 := rfl
  have el : dp (.lst ys) = dps ys + 1 := rfl
  exact ⟨⟨g, h3, by omega⟩, ⟨g, h3, by omega⟩⟩
theorem Bd.wts (h : Bd w k (.tup xs)) : DL.wts xs ≤ w := h.2.1
/-- an item otherwise -/
theorem bd_swap (h : Bd w k (.tup xs)) (hi : n < xs.length) (g : Bd w' k' d) (hk : k' + 1 ≤ k) : Bd (w + w') k (.tup (swap xs n d)) := by
  refine ⟨gx_tup.mpr ⟨by rw [swap_len hi]; have := h.len; omega, fun y hy => (swap_mem hy).elim (fun z => gx_mono (by omega) ((gx_tup.mp h.1).2 y z)) fun e => by rw [e]; exact gx_mono (by omega) g.1⟩, ?_, ?_⟩
  · have := swap_wts (y := d) (List.getElem?_eq_getElem hi)
    have h3 := h.wts
    have := g.2.1
    show DL.wts (swap xs n d) ≤ _
    omega
  · have h5 : dps xs + 1 ≤ k := h.2.2
    have : dps (swap xs n d) ≤ k - 1 := dps_swap (by omega) (by have := g.2.2; omega)
    show dps (swap xs n d) + 1 ≤ k
    omega
theorem bd_app (h : Bd w k (.tup xs)) (g : Bd w' k (.tup ys)) : Bd (w + w') k (.tup (xs ++ ys)) := by
  refine ⟨gx_tup.mpr ⟨by have := h.len; have := g.len; simp; omega, fun d hd => (List.mem_append.mp hd).elim (fun z => gx_mono (by omega) ((gx_tup.mp h.1).2 d z)) fun z => gx_mono (by omega) ((gx_tup.mp g.1).2 d z)⟩, ?_, ?_⟩
  · show DL.wts (xs ++ ys) ≤ _
    rw [wts_app]
    have := h.wts
    have := g.wts
    omega
  · show dps (xs ++ ys) + 1 ≤ k
    rw [dps_app]
    have h5 : dps xs + 1 ≤ k := h.2.2
    have g5 : dps ys + 1 ≤ k := g.2.2
    omega
theorem Bd.rp (h : Bd w k d) (hw : w ≤ 1000 := by decide) (hk : k ≤ 58 := by decide) : ∃ t, Rp d t ∧ t.length ≤ 202 * w + 200 := by
  obtain ⟨t, h1, h2⟩ := rp_gx (gx_mono hw h.1) (by have := h.2.1; omega) (by have := h.2.2; omega)
  exact ⟨t, h1, by have := h.2.1; omega⟩
end
end DL

set_option Elab.async false
set_option linter.all false
set_option maxHeartbeats 4000000
set_option maxRecDepth 100000
/-! D-layer, part 33: what drawn values' expressions may come to. -/
namespace DL
open PySem PySem.Spec PyProof.Rows L2
theorem upper_len : ∀ (l : List Nat), (l.all fun c => decide (c < 128)) = true → (Txt.upper ⟨l.toArray⟩).length = l.length
  | [], _ => by decide
  | c :: l, h => by
    rw [List.all_cons, Bool.and_eq_true, decide_eq_true_eq] at h
    have e : (⟨(c :: l).toArray⟩ : Str) = ⟨#[c]⟩ ++ ⟨l.toArray⟩ := by
      show _ = (⟨#[c] ++ l.toArray⟩ : Str)
      simp
    rw [e, PySem.W.KOpn.upper_app, PySem.W.KOpn.upper_one h.1, Str.length_append, upper_len l h.2]
    show 1 + l.length = l.length + 1
    omega
section
variable {w w' k k' n j : Nat} {d e : D} {xs ys : List D} {s t : Str} {i m : Int}
theorem bd_upper (h : Bd w k (.str s)) : Bd w k (.str (Txt.upper s)) := by
  obtain ⟨h1, h2⟩ := h.str
  have e : s = ⟨s.cps.toList.toArray⟩ := by cases s; simp
  have a := upper_ascii s.cps.toList h2
  have b := upper_len s.cps.toList h2
  rw [← e] at a b
  exact bd_str (by rw [b]; exact h1) a
theorem bd_sapp (h : Bd w k (.str s)) (ht : (decide (t.length ≤ n) && ascii t) = true) : Bd (w + n) k (.str (s ++ t)) := by
  obtain ⟨h1, h2⟩ := h.str
  rw [Bool.and_eq_true, decide_eq_true_eq] at ht
  refine bd_str (by rw [Str.length_append]; omega) ?_
  unfold ascii
  rw [Str.cps_append, Array.toList_append, List.all_append]
  unfold ascii at h2 ht
  rw [h2, ht.2]
  rfl
theorem bd_cut {lo hi : Option Int} (h : Bd w k (.str s)) : Bd w k (.str (cutS s lo hi)) := by
  obtain ⟨h1, h2⟩ := h.str
  have := cutS_ascii (lo := lo) (hi := hi) h2
  exact bd_str (Nat.le_trans this.2 h1) this.1
theorem bd_strInt (h : Bd w k (.int i)) (hw : w ≤ 1000 := by omega) : i.natAbs.log2 < 1920 ∧ Bd (w + 50) k' (.str (toString i)) := by
  have h1 := h.int
  have h2 : i.natAbs < 10 ^ 45 := by omega
  have h3 := str_big h2
  exact ⟨log_big h2, bd_str (by omega) h3.1⟩
theorem bd_del (h : Bd w k (.tup xs)) : Bd w k (.tup (xs.take j ++ xs.drop (j + 1))) := by
  refine (bd_sub h (fun d hd => (List.mem_append.mp hd).elim List.mem_of_mem_take List.mem_of_mem_drop) ?_ ?_ (Nat.le_refl _)).1
  · have := h.len
    simp
    omega
  · have h3 := h.wts
    have w3 : wts (xs.take j ++ xs.drop (j + 1)) ≤ wts xs := by
      rw [wts_app]
      have e1 : wts (xs.take j) + wts (xs.drop j) = wts xs := by rw [← wts_app, List.take_append_drop]
      have e2 : wts (xs.drop (j + 1)) ≤ wts (xs.drop j) := by
        have := wts_drop (xs.drop j) 1
        rw [List.drop_drop] at this
        exact this
      omega
    omega
theorem bd_dup (h : Bd w k (.tup xs)) : Bd (2 * w + 1) k (.tup (xs.take j ++ ((xs.drop j).take 1) ++ xs.drop j)) := by
  refine (bd_sub h (fun d hd => ?_) ?_ ?_ (by omega)).1
  · simp only [List.mem_append] at hd
    rcases hd with (hd | hd) | hd
    · exact List.mem_of_mem_take hd
    · exact List.mem_of_mem_drop (List.mem_of_mem_take hd)
    · exact List.mem_of_mem_drop hd
  · have := h.len
    simp
    omega
  · have h3 := h.wts
    rw [wts_app, wts_app]
    have e1 : wts (xs.take j) + wts (xs.drop j) = wts xs := by rw [← wts_app, List.take_append_drop]
    have e2 := wts_take (xs.drop j) 1
    omega
theorem bd_rev (h : Bd w k (.tup xs)) : Bd w k (.tup xs.reverse) := (bd_sub h (fun d hd => List.mem_reverse.mp hd) (by simpa using h.len) (by rw [wts_rev]; exact h.wts) (Nat.le_refl _)).1
theorem bd_lst (h : Bd w k (.tup xs)) : Bd w k (.lst xs) := (bd_sub h (fun d hd => hd) h.len h.wts (Nat.le_refl _)).2
end
section
variable {t ta tb : DE} {tr : DA} {ρ : DEnv} {M : Mem} {P Q : D → Prop} {n i j k : Nat} {d : D} {a : Addr} {xs : List D}
theorem ev_K (h : ∀ R : RK, R d M → t ρ M R) (p : P d) : Ev t ρ M P := fun R r => h R (r d p)
theorem ev_ix (e1 : slot ρ i = some (.tup xs)) (e3 : slot ρ k = some (.int (j : Nat))) (hj : j < xs.length) (p : P xs[j]) : Ev (dOp dIx (dVar i) (dVar k)) ρ M P := fun R r => ⟨_, e1, _, e3, _, rfl, _, L2.atI_nat (List.getElem?_eq_getElem hj), r _ p⟩
theorem et_orW {c1 c2 : DT} {P1 P2 B : Bool → Prop} (h1 : EvT c1 ρ M P1) (h2 : P1 false → EvT c2 ρ M P2) (ht : B true) (hf : ∀ b, P1 false → P2 b → B b) : EvT (dOr c1 c2) ρ M B := fun R r => h1 _ fun k p => by
  cases k with
  | true => exact r _ ht
  | false => exact h2 p _ fun b pb => r b (hf b p pb)
theorem es_ifW {D0 : EndsD} {c : DT} {s1 s2 : DS} {B : Bool → Prop} (h : EvT c ρ M B) (h1 : B true → s1 D0 ρ M) (h2 : B false → s2 D0 ρ M) : dIfS c s1 s2 D0 ρ M := h _ fun k p => by
  cases k with
  | true => exact h1 p
  | false => exact h2 p
theorem et_monoB {c : DT} {P1 P2 : Bool → Prop} (h : EvT c ρ M P1) (q : ∀ b, P1 b → P2 b) : EvT c ρ M P2 := fun R r => h R fun b p => r b (q b p)
/-- x[:at] + (e,) + x[at + 1:] -/
theorem ev_put (e1 : slot ρ i = some (.tup xs)) (e3 : slot ρ k = some (.int (j : Nat))) (hj : j < xs.length) (hl : xs.length ≤ 1000) (he : Ev t ρ M P) (q : ∀ y, P y → Q (.tup (swap xs j y))) :
    Ev (dOp dAdd (dOp dAdd (dSl (dVar i) dNoPart (dPart (dVar k))) (dTup (dCons t dNil))) (dSl (dVar i) (dPart (dOp dAdd (dVar k) (dC (.int 1)))) dNoPart)) ρ M Q := fun R r => by
  simp only [dOp, dSl, dNoPart, dPart, rSlD, dTup, dCons, dNil, dVar, dC, e1, e3, Option.some.injEq, exists_eq_left', DL.D.int.injEq, q_op_ad]
  refine he _ fun y hy => ⟨q_z1, ?_⟩
  exact swap_go hj hl (r _ (q y hy))
theorem cut_mid {j : Nat} (h : j < xs.length) : DL.cutD xs (some (j : Int)) (some ((j : Int) + 1)) = (xs.drop j).take 1 := by
  have e : ((j : Int) + 1) = ((j + 1 : Nat) : Int) := by omega
  unfold DL.cutD
  rw [e, HT.sIx_nat, HT.sIx_nat, Nat.min_eq_left (by omega), Nat.min_eq_left (by omega), show j + 1 - j = 1 by omega]
/-- x[:at] + x[at + 1:] -/
theorem ev_del (e1 : slot ρ i = some (.tup xs)) (e3 : slot ρ k = some (.int (j : Nat))) (hj : j < xs.length) (hl : xs.length ≤ 1000) (q : Q (.tup (xs.take j ++ xs.drop (j + 1)))) :
    Ev (dOp dAdd (dSl (dVar i) dNoPart (dPart (dVar k))) (dSl (dVar i) (dPart (dOp dAdd (dVar k) (dC (.int 1)))) dNoPart)) ρ M Q := fun R r => by
  simp only [dOp, dSl, dNoPart, dPart, rSlD, dTup, dCons, dNil, dVar, dC, e1, e3, Option.some.injEq, exists_eq_left', DL.D.int.injEq, q_op_ad]
  rw [cut_to (Nat.le_of_lt hj), show DL.cutD xs (some ((j : Int) + 1)) none = xs.drop (j + 1) from cut_from (xs := xs) (i := j + 1) hj]
  exact ⟨by rw [sizeLine_eq]; simp; omega, r _ q⟩
/-- x[:at] + x[at:at + 1] + x[at:] -/
theorem ev_dup (e1 : slot ρ i = some (.tup xs)) (e3 : slot ρ k = some (.int (j : Nat))) (hj : j < xs.length) (hl : xs.length ≤ 1000) (q : Q (.tup (xs.take j ++ ((xs.drop j).take 1) ++ xs.drop j))) :
    Ev (dOp dAdd (dOp dAdd (dSl (dVar i) dNoPart (dPart (dVar k))) (dSl (dVar i) (dPart (dVar k)) (dPart (dOp dAdd (dVar k) (dC (.int 1)))))) (dSl (dVar i) (dPart (dVar k)) dNoPart)) ρ M Q := fun R r => by
  simp only [dOp, dSl, dNoPart, dPart, rSlD, dTup, dCons, dNil, dVar, dC, e1, e3, Option.some.injEq, exists_eq_left', DL.D.int.injEq, q_op_ad]
  rw [cut_to (Nat.le_of_lt hj), cut_mid hj, cut_from (Nat.le_of_lt hj)]
  exact ⟨by rw [sizeLine_eq]; simp; omega, by rw [sizeLine_eq]; simp; omega, r _ q⟩
theorem ev_list (e1 : slot ρ i = some (.tup xs)) (q : Q (.lst xs)) : Ev (dCB dList (dCons (dVar i) dNil)) ρ M Q := ev_K (fun R r => ⟨_, e1, _, _, rfl, .inl rfl, r⟩) q
theorem ev_rev (e1 : slot ρ i = some (.tup xs)) (q : Q (.tup xs.reverse)) : Ev (dRev (dVar i)) ρ M Q := ev_K (fun R r => ⟨_, e1, r⟩) q
theorem ev_addI {i1 : Int} (e1 : slot ρ i = some (.int i1)) {c : Int} (q : Q (.int (i1 + c))) : Ev (dOp dAdd (dVar i) (dC (.int c))) ρ M Q := ev_K (fun R r => ⟨_, e1, r⟩) q
theorem ev_subI {i1 : Int} (e1 : slot ρ i = some (.int i1)) {c : Int} (q : Q (.int (i1 - c))) : Ev (dOp dSub (dVar i) (dC (.int c))) ρ M Q := ev_K (fun R r => ⟨_, e1, _, _, rfl, rfl, r⟩) q
theorem ev_negI {i1 : Int} (e1 : slot ρ i = some (.int i1)) {c : Int} (q : Q (.int (c - i1))) : Ev (dOp dSub (dC (.int c)) (dVar i)) ρ M Q := ev_K (fun R r => ⟨_, e1, _, _, rfl, rfl, r⟩) q
theorem ev_umI {i1 : Int} (e1 : slot ρ i = some (.int i1)) (q : Q (.int (-i1))) : Ev (dUn dNeg (dVar i)) ρ M Q := ev_K (fun R r => ⟨_, e1, _, rfl, r⟩) q
theorem ev_eqI {i1 c : Int} (e1 : slot ρ i = some (.int i1)) (q : ∀ b, Q (.bl b)) : Ev (dOp dEq (dVar i) (dC (.int c))) ρ M Q := ev_K (fun R r => ⟨_, e1, q_eq_int.mpr r⟩) (q _)
theorem ev_strI {i1 : Int} (e1 : slot ρ i = some (.int i1)) (h : i1.natAbs.log2 < 1920) (q : Q (.str (toString i1))) : Ev (dCB dStrInt (dCons (dVar i) dNil)) ρ M Q := ev_K (fun R r => ⟨_, e1, q_strInt.mpr ⟨h, r⟩⟩) q
theorem ev_sapp {s t : Str} (e1 : slot ρ i = some (.str s)) (h : s.length + t.length ≤ 3000) (q : Q (.str (s ++ t))) : Ev (dOp dAdd (dVar i) (dC (.str t))) ρ M Q := ev_K (fun R r => ⟨_, e1, by rw [sizeLine_eq]; omega, r⟩) q
theorem ev_sfrom {s : Str} {c : Int} (e1 : slot ρ i = some (.str s)) (h : s.length ≤ 1000) (q : Q (.str (cutS s (some c) none))) : Ev (dSl (dVar i) (dPart (dC (.int c))) dNoPart) ρ M Q := ev_K (fun R r => ⟨_, e1, c, rfl, le_size h, r⟩) q
theorem ev_upper {s : Str} (e1 : slot ρ i = some (.str s)) (h : s.length ≤ 1000) (q : Q (.str (Txt.upper s))) : Ev (dMeth0 "str" dUpper (dVar i)) ρ M Q := ev_K (fun R r => ⟨_, e1, .inl ⟨rfl, s, rfl⟩, s, rfl, rfl, by omega, r⟩) q
theorem ev_notB {b : Bool} (e1 : slot ρ i = some (.bl b)) (q : Q (.bl !b)) : Ev (dNotV (dVar i)) ρ M Q := ev_K (fun R r => ⟨_, e1, b, rfl, r⟩) q
theorem ev_intB {b : Bool} (e1 : slot ρ i = some (.bl b)) (q : ∀ m, Q (.int m)) : Ev (dCB dInt1 (dCons (dVar i) dNil)) ρ M Q := ev_K (fun R r => ⟨_, e1, .inr ⟨b, rfl, r⟩⟩) (q _)
theorem ev_neg {c : Int} (q : Q (.int (-c))) : Ev (dUn dNeg (dC (.int c))) ρ M Q := ev_K (fun R r => ⟨_, rfl, r⟩) q
theorem ev_pow {b e : Int} (h : L2.CPow b e) (q : Q (.int (b ^ e.toNat))) : Ev (dOp dPow (dC (.int b)) (dC (.int e))) ρ M Q := ev_K (fun R r => ⟨_, _, rfl, rfl, h, r⟩) q
theorem ev_tupK {ds : List D} (h : ∀ R : List D → Mem → Prop, R ds M → tr ρ M R) (hz : ds.length ≤ 1000 := by decide) (q : Q (.tup ds)) : Ev (dTup tr) ρ M Q := ev_K (fun R r => h _ ⟨le_size hz, r⟩) q
theorem ev_lstK {ds : List D} (h : ∀ R : List D → Mem → Prop, R ds M → tr ρ M R) (hz : ds.length ≤ 1000 := by decide) (q : Q (.lst ds)) : Ev (dLst tr) ρ M Q := ev_K (fun R r => h _ ⟨le_size hz, r⟩) q
/-- [e for .. in range(draw(k))] -/
theorem ev_some {vs : List Nat} {g : DG} {c : Int} {C : D → Prop} (hd : Deck M a) {z : Nat} (e0 : slot ρ z = some (.ref a)) (h0 : 0 < c := by decide) (h1 : c ≤ 1000 := by decide) (hs : ∀ (d : D) (Rt : RK), (∀ y, C y → Rt y M) → g d (dwipe ρ vs) fun ρ3 => t ρ3 M Rt)
    (q : ∀ acc : List D, (acc.length : Int) < c → (∀ y ∈ acc, C y) → Q (.lst acc)) : Ev (dLc vs (dRng1 (dCons (dCall sp_draw (dCons (dVar z) (dCons (dC (.int c)) dNil))) dNil)) g dYes t) ρ M Q := fun R r => by
  refine go_someP (fun items => ∃ m : Nat, (m : Int) < c ∧ items = (List.range m).map fun i => .int (i : Nat)) C (fun Q' h => ?_) (fun items ⟨m, hm, e⟩ => by rw [e]; simp [sizeLine_eq]; omega) (fun items _ d _ Rt h => hs d Rt h) (fun items ⟨m, hm, e⟩ acc hacc hC => r _ (q acc (by rw [e] at hacc; simp at hacc; omega) hC))
  simp only [dRng1, dCons, dNil, dCall, dVar, dC, e0, Option.some.injEq, exists_eq_left']
  refine draw_go hd h0 (by omega) fun i i0 i1 => ⟨i, rfl, by omega, by omega, ?_⟩
  exact h _ ⟨i.toNat, by omega, rfl⟩
end
/-! ### what is shown -/
def Py (k n : Nat) (d : D) : Prop := ∃ p, toR d = some p ∧ p.leavesShort 200 = true ∧ p.showable = true ∧ p.depth ≤ k ∧ p.bulk ≤ n
def Pys (k n : Nat) (ds : List D) : Prop := ∃ ps, toRs ds = some ps ∧ PyData.leavesShortAll 200 ps = true ∧ PyData.showableAll ps = true ∧ PyData.depthAll ps ≤ k ∧ PyData.bulkAll ps ≤ n
section
variable {w k n m : Nat} {d : D} {ds : List D}
theorem py_bd (h : Bd w k d) (hw : w ≤ 1000 := by omega) : Py k w d := by
  have g := (gx_dat hw h.1).2
  obtain ⟨p, e, a1, a2, a3, a4⟩ := py_of g
  exact ⟨p, e, leaves_mono (B := 60) (B' := 200) (by decide) p a3, a4, Nat.le_trans a2 h.2.2, Nat.le_trans (bulk_of g e) h.2.1⟩
theorem py_str {t : Str} (h : Sm t) : Py 0 t.length (.str t) := ⟨.str t, rfl, str_leaf h, rfl, by simp [PyData.depth], Nat.le_refl _⟩
theorem py_big {i : Int} (h : i.natAbs < 10 ^ 150) : Py 0 0 (.int i) := ⟨.int i, rfl, (int_leaf h).1, (int_leaf h).2, by simp [PyData.depth], by simp [PyData.bulk]⟩
theorem Py.mono {k' n' : Nat} (h : Py k n d) (h1 : k ≤ k') (h2 : n ≤ n') : Py k' n' d := let ⟨p, a, b, c, e, f⟩ := h; ⟨p, a, b, c, Nat.le_trans e h1, Nat.le_trans f h2⟩
theorem pys_nil : Pys k 0 [] := ⟨[], rfl, rfl, rfl, Nat.zero_le _, Nat.le_refl _⟩
theorem pys_cons (h : Py k n d) (hs : Pys k m ds) : Pys k (n + 1 + m) (d :: ds) := by
  obtain ⟨p, a, b, c, e, f⟩ := h
  obtain ⟨ps, a', b', c', e', f'⟩ := hs
  refine ⟨p :: ps, ?_, ?_, ?_, ?_, ?_⟩
  · simp [toRs, a, a']
  · simp only [PyData.leavesShortAll, b, b', Bool.and_self]
  · simp only [PyData.showableAll, c, c', Bool.and_self]
  · simp only [PyData.depthAll]; omega
  · simp only [PyData.bulkAll]; omega
theorem py_tup (h : Pys k n ds) : Py (k + 1) n (.tup ds) := by
  obtain ⟨ps, a, b, c, e, f⟩ := h
  refine ⟨.tuple ps, ?_, ?_, ?_, ?_, ?_⟩
  · show (toRs ds).map PyData.tuple = _
    rw [a]
    rfl
  · simpa only [PyData.leavesShort] using b
  · simpa only [PyData.showable] using c
  · simp only [PyData.depth]; omega
  · simpa only [PyData.bulk] using f
theorem py_lst (h : Pys k n ds) : Py (k + 1) n (.lst ds) := by
  obtain ⟨ps, a, b, c, e, f⟩ := h
  refine ⟨.list ps, ?_, ?_, ?_, ?_, ?_⟩
  · show (toRs ds).map PyData.list = _
    rw [a]
    rfl
  · simpa only [PyData.leavesShort] using b
  · simpa only [PyData.showable] using c
  · simp only [PyData.depth]; omega
  · simpa only [PyData.bulk] using f
theorem Py.rp (h : Py k n d) (h1 : k ≤ 60 := by decide) (h2 : n ≤ 80000 := by omega) : ∃ t, Rp d t := by
  obtain ⟨p, a, b, c, e, f⟩ := h
  exact ⟨_, rp_of a b c (by omega) (by omega)⟩
theorem Bd.rp60 (h : Bd w k d) (hw : w ≤ 1000 := by omega) (hk : k ≤ 58 := by decide) : ∃ t, Rp d t ∧ t.length ≤ 62 * w + 60 := by
  have g := (gx_dat hw h.1).2
  obtain ⟨p, e, a1, a2, a3, a4⟩ := py_of g
  have hb := bulk_of g e
  have hl := PyData.shown_le_bulk 60 (by decide) p a3
  have h2 := h.2.1
  have h3 := h.2.2
  refine ⟨_, rp_of e (leaves_mono (B := 60) (B' := 200) (by decide) p a3) a4 (by omega) (by omega), ?_⟩
  have h5 : (60 + 2) * p.bulk ≤ (60 + 2) * w := Nat.mul_le_mul_left _ (by omega)
  omega
theorem Rp.py {t : Str} (h : Rp d t) : Py 0 t.length (.str t) := py_str h.2.1
end
section
variable {t : DE} {tr : DA} {ρ : DEnv} {M : Mem} {P Q : D → Prop} {n i : Nat} {a p : Addr} {xs : List D} {D0 : EndsD}
theorem ev_pickT (hd : Deck M a) {z : Nat} (e : slot ρ z = some (.ref a)) (h : EvA tr ρ M n P) (h0 : 0 < n := by decide) (hz : n ≤ 1000 := by decide) : Ev (dCall sp_pick (dCons (dVar z) (dCons (dTup tr) dNil))) ρ M P := fun R r =>
  ⟨_, e, h _ fun ds hl hx => ⟨by rw [sizeLine_eq]; omega, pick_tup hd (fun z => by rw [z] at hl; simp at hl; omega) (by omega) fun d hd => r d (hx d hd)⟩⟩
theorem ev_tupleL (h : Ev t ρ M fun d => ∃ xs, d = .lst xs ∧ Q (.tup xs)) : Ev (dCB dTuple (dCons t dNil)) ρ M Q := fun R r => h _ fun d ⟨xs, e, q⟩ => by
  subst e
  exact q_tuple_lst.mpr (r _ q)
/-- x.append(e) -/
theorem es_app (e : slot ρ i = some (.ref p)) (hp : M p = some (.lst xs)) (hl : xs.length ≤ 1000) (h : Ev t ρ M P) (q : ∀ d, P d → D0.nx ρ (mset M p (.lst (xs ++ [d])))) : dDrop (dMeth "list" dAppend (dVar i) (dCons t dNil)) D0 ρ M :=
  ⟨_, e, tyM_l hp, h _ fun d hd => ⟨p, xs, d, rfl, rfl, hp, Nat.lt_of_le_of_lt hl (by decide), q d hd⟩⟩
/-- two that are told alike, the first one a list at hand -/
theorem ne_frz {j : Nat} {d : D} {ds : List D} {tt : Str} {Rt : Bool → Mem → Prop} (h : Rp d tt) (ed : d = .lst ds) (e : slot ρ i = some (.ref p)) (hp : M p = some (.lst ds)) (ej : slot ρ j = some d) (q : Rt false (mdel M p)) :
    dTest (dOp dNe (dCB dRepr (dCons (dFrz (dVar i)) dNil)) (dCB dRepr (dCons (dVar j) dNil))) ρ M Rt := by
  subst ed
  simp only [dTest, dOp, dCB, dCons, dNil]
  refine ⟨_, e, p, ds, rfl, hp, h.2.2 ⟨_, ej, h.2.2 ?_⟩⟩
  refine q_ne_str.mpr ⟨by simp [tyD], _, rfl, ?_⟩
  have e : isStr (.str tt) tt = true := by simp [isStr]
  rw [e]
  exact q
end
end DL

set_option Elab.async false
set_option linter.all false
set_option maxHeartbeats 4000000
set_option maxRecDepth 100000
/-! D-layer, part 34: k in d, a dict frozen, comprehensions over d.items(), sorted keys and pairs. -/
namespace DL
open PySem PySem.Spec PyProof.Rows L2
section
variable {X : Cx} {i o : Expr} {pos : Pos} {ty td te : DE}
/-- k in d -/
def dDIn (ty td : DE) : DE := fun ρ M R => ty ρ M fun y M1 => td ρ M1 fun x M2 => ∃ k ks ds, dkey y = some k ∧ DctAt M2 x ks ds ∧ R (.bl (dget ks ds k).isSome) M2
def dDNotIn (ty td : DE) : DE := fun ρ M R => ty ρ M fun y M1 => td ρ M1 fun x M2 => ∃ k ks ds, dkey y = some k ∧ DctAt M2 x ks ds ∧ R (.bl (!(dget ks ds k).isSome)) M2
theorem valV_some {K : KZ} {M : Mem} {H : Hp} {kvs : List (Key × V)} {ds : List D} {k : Key} (rs : Reps K M H (kvs.map (·.2)) ds) : (valV kvs k).isSome = (dget (kvs.map (·.1)) ds k).isSome := by
  cases hd : dget (kvs.map (·.1)) ds k with
  | none => rw [valV_none rs hd]; rfl
  | some d =>
    obtain ⟨w, hw, _⟩ := valV_get rs hd
    rw [hw]
    rfl
theorem lift_din {f : Bool → Bool} {σ : L2.St} {H : Hp} {Q : VK} (h : liftE X.K (fun ρ M R => ty ρ M fun y M1 => td ρ M1 fun x M2 => ∃ k ks ds, dkey y = some k ∧ DctAt M2 x ks ds ∧ R (.bl (f (dget ks ds k).isSome)) M2) σ H Q) :
    liftE X.K ty σ H fun y H1 => liftE X.K td σ H1 fun x H2 => ∃ a o, x = .ref a ∧ DGet H2 a y o ∧ Q (.bl (f o.isSome)) H2 := by
  obtain ⟨z, ρ, M, R, S, A, q, F⟩ := h
  refine ⟨z, ρ, M, _, S, A, q, fun y M1 u H1 q1 r1 A1 f1 => ⟨z, ρ, M1, _, S.fr f1, A1, q1, fun x M2 v H2 ⟨k, ks, ds, ek, hx, q2⟩ r2 A2 f2 => ?_⟩⟩
  obtain ⟨a, kvs, rfl, rd, e2, rs⟩ := rep_dctAt A2 r2 hx
  subst e2
  obtain rfl := rep_key (r1.fr f2) ek
  refine ⟨a, valV kvs k, rfl, .inl ⟨kvs, k, rd, rfl, rfl⟩, ?_⟩
  rw [valV_some rs]
  exact F _ _ _ _ q2 (.bl _) A2 (f1.trans f2)
theorem de_din (hu : X.A.units + 1 < cLine) (hi : PED X i ty) (ho : PED X o td) (h1 : behindInMarks .In o = false := by first | exact nobehind _ (by decide) (by decide) | rfl) : PED X (.Compare i [.In] [o] pos) (dDIn ty td) :=
  (pe_cmp (pc_din hu hi ho) h1).weak fun σ H Q h => lift_din (f := id) h
theorem de_dnotin (hu : X.A.units + 1 < cLine) (hi : PED X i ty) (ho : PED X o td) (h1 : behindInMarks .NotIn o = false := by first | exact nobehind _ (by decide) (by decide) | rfl) : PED X (.Compare i [.NotIn] [o] pos) (dDNotIn ty td) :=
  (pe_cmp (pc_dnotin hu hi ho) h1).weak fun σ H Q h => lift_din (f := not) h
theorem dt_din (hu : X.A.units + 1 < cLine) (hi : PED X i ty) (ho : PED X o td) (h1 : behindInMarks .In o = false := by first | exact nobehind _ (by decide) (by decide) | rfl) : PTD X (.Compare i [.In] [o] pos) (dTest (dDIn ty td)) :=
  (pt_cmp (pc_din hu hi ho) h1).weak fun σ H Q h => by
    have := lift_din (f := id) (lift_test h)
    exact this
theorem dt_dnotin (hu : X.A.units + 1 < cLine) (hi : PED X i ty) (ho : PED X o td) (h1 : behindInMarks .NotIn o = false := by first | exact nobehind _ (by decide) (by decide) | rfl) : PTD X (.Compare i [.NotIn] [o] pos) (dTest (dDNotIn ty td)) :=
  (pt_cmp (pc_dnotin hu hi ho) h1).weak fun σ H Q h => by
    have := lift_din (f := not) (lift_test h)
    exact this
/-- a dict is frozen -/
def dFrzD (t : DE) : DE := fun ρ M R => t ρ M fun d M1 => ∃ a ks ds, d = .ref a ∧ M1 a = some (.dct ks ds) ∧ R (.dct ks ds) (mdel M1 a)
theorem de_frzD (h : PED X o te) : PED X o (dFrzD te) := h.weak fun σ H Q ⟨z, ρ, M, R, S, A, q, F⟩ => ⟨z, ρ, M, _, S, A, q, fun d M1 v H1 ⟨a, ks, ds, ed, em, q1⟩ r1 A1 f1 => by
  subst ed
  obtain ⟨A2, r2, n⟩ := View.dct (K := X.K) em z H1 v A1 r1
  exact F _ _ v H1 q1 r2 A2 (f1.trans (View.fr n))⟩
/-! ### sorted -/
def dSortedKI : DN := fun xs M R => ∃ x, ∃ zs : List Int, ∃ ds : List D, xs = [x] ∧ DctAt M x (zs.map .inl) ds ∧ zs.length < 64 ∧ ∀ ys : List Int, ys.Perm zs → ys.Pairwise (· ≤ ·) → R (.lst (ys.map .int)) M
theorem cd_sortedKI (hc : X.calm = true) : CallR X (.builtin "sorted") (liftN X.K dSortedKI) := (call_sortedDI hc).weak fun xs H Q ⟨z, M, es, R, A, r, ⟨x, zs, ds, e, h, hl, q⟩, F⟩ => by
  subst e
  cases r with
  | cons r rs =>
    cases rs
    obtain ⟨a, kvs, rfl, rd, e1, _⟩ := rep_dctAt A r h
    exact ⟨a, kvs, zs, rfl, rd, e1, hl, fun ys p h1 h2 hp => F.lst A hp (Reps.ints ys) (q ys h1 h2)⟩
/-- pairs of ints -/
def pairD (p : Int × Int) : D := .tup [.int p.1, .int p.2]
def dSortedP (B : Int) : DN := fun xs M R => ∃ x, ∃ ps : List (Int × Int), xs = [x] ∧ ListAt M x (ps.map pairD) ∧ ps.length < 64 ∧ (∀ p ∈ ps, 0 ≤ p.1 ∧ p.1 < B ∧ 0 ≤ p.2 ∧ p.2 < B) ∧ ∀ ys : List (Int × Int), ys.Perm ps → ys.Pairwise (fun p q => p.1 * B + p.2 ≤ q.1 * B + q.2) → R (.lst (ys.map pairD)) M
theorem reps_perm {α : Type} {f : α → D} {K : KZ} {M : Mem} {H : Hp} {ys vs : List V} (p : ys.Perm vs) : ∀ {ps : List α}, Reps K M H vs (ps.map f) → ∃ qs : List α, qs.Perm ps ∧ Reps K M H ys (qs.map f) := by
  induction p with
  | nil =>
    intro ps r
    cases ps with
    | nil => exact ⟨[], .nil, .nil⟩
    | cons _ _ => cases r
  | cons x _ ih =>
    intro ps r
    cases ps with
    | nil => cases r
    | cons p ps =>
      cases r with
      | cons r rs =>
        obtain ⟨qs, h1, h2⟩ := ih rs
        exact ⟨p :: qs, h1.cons p, .cons r h2⟩
  | swap x y l =>
    intro ps r
    cases ps with
    | nil => cases r
    | cons p ps =>
      cases r with
      | cons r1 rs =>
        cases ps with
        | nil => cases rs
        | cons q ps =>
          cases rs with
          | cons r2 rs => exact ⟨q :: p :: ps, .swap p q ps, .cons r2 (.cons r1 rs)⟩
  | trans _ _ ih1 ih2 =>
    intro ps r
    obtain ⟨qs, h1, h2⟩ := ih2 r
    obtain ⟨qs', h3, h4⟩ := ih1 h2
    exact ⟨qs', h3.trans h1, h4⟩
theorem tupI_pair {K : PySem.W.Frag} {z : Addr → Prop} {M : Mem} {H : Hp} {v : V} {p : Int × Int} (r : Rep ⟨K, z⟩ M H v (pairD p)) : TupI K H v [p.1, p.2] := by
  obtain ⟨a, vs, rfl, h, rs⟩ := rep_tup r
  have e := Reps.of_ints [p.1, p.2] rs
  subst e
  exact ⟨a, rfl, h.sq⟩
theorem cd_sortedP {B : Int} : CallR X (.builtin "sorted") (liftN X.K (dSortedP B)) := (cr_sortT (d := 2) (B := B) (by decide)).weak fun xs H Q ⟨z, M, es, R, A, r, ⟨x, ps, e, h, hl, hb, q⟩, F⟩ => by
  subst e
  cases r with
  | cons r rs =>
    cases rs
    obtain ⟨a, vs, rfl, hs, rv⟩ := rep_list A r h
    have hlen : vs.length = ps.length := by rw [rv.length, List.length_map]
    refine ⟨a, vs, rfl, hs, by omega, fun v hv => ?_, fun ys p hp hpw np => ?_⟩
    · obtain ⟨i, hi⟩ := List.getElem?_of_mem hv
      obtain ⟨d, hd, rd⟩ := rv.getV hi
      rw [List.getElem?_map] at hd
      cases hpi : ps[i]? with
      | none => rw [hpi] at hd; cases hd
      | some pr =>
        rw [hpi] at hd
        cases hd
        refine ⟨[pr.1, pr.2], tupI_pair rd, rfl, fun m hm => ?_⟩
        have := hb pr (List.mem_of_getElem? hpi)
        simp only [List.mem_cons, List.not_mem_nil, or_false] at hm
        rcases hm with rfl | rfl <;> omega
    · obtain ⟨qs, h1, h2⟩ := reps_perm hp rv
      refine F.lst A np h2 (q qs h1 ?_)
      clear q h1 hp F r h hs rv hb np
      induction qs generalizing ys with
      | nil => exact .nil
      | cons q0 qs ih =>
        cases h2 with
        | cons r0 rs0 =>
          cases hpw with
          | cons hall hrest =>
            refine .cons (fun q1 hq1 => ?_) (ih _ hrest rs0)
            obtain ⟨j, hj⟩ := List.getElem?_of_mem hq1
            obtain ⟨v1, hv1, rv1⟩ := rs0.get (i := j) (d := pairD q1) (by rw [List.getElem?_map, hj]; rfl)
            have := hall v1 (List.mem_of_getElem? hv1) _ _ (tupI_pair r0) (tupI_pair rv1)
            simpa [TS.code, Int.pow_succ] using this
end
/-! ### comprehensions over d.items() -/
def itemsD (ks : List Key) (ds : List D) : List D := List.zipWith (fun k d => .tup [keyD k, d]) ks ds
theorem items_at {ks : List Key} {ds : List D} {i : Nat} {d : D} (h : (itemsD ks ds)[i]? = some d) : ∃ k y, ks[i]? = some k ∧ ds[i]? = some y ∧ d = .tup [keyD k, y] := by
  unfold itemsD at h
  rw [List.getElem?_zipWith] at h
  cases h1 : ks[i]? with
  | none => rw [h1] at h; cases h
  | some k =>
    cases h2 : ds[i]? with
    | none => rw [h1, h2] at h; cases h
    | some y =>
      rw [h1, h2] at h
      exact ⟨k, y, rfl, rfl, (Option.some.inj h).symm⟩
theorem itd_items {k : PySem.W.Frag} {z : Addr → Prop} {a : Addr} {o : Obj} {kvs : List (Key × V)} {ds : List D} {M : Mem} {H : Hp} (e : H a = some (.frz o (.dK kvs))) (n : M a = none) (rs : Reps ⟨k, z⟩ M H (kvs.map (·.2)) ds) : ItD ⟨k, z⟩ (Iti a o kvs) (itemsD (kvs.map (·.1)) ds) (fun _ => True) M H := fun M2 H2 f A _ i => by
  have e2 : H2 a = some (.frz o (.dK kvs)) := (f a (by rw [e]; exact nofun) n).1.trans e
  have rs2 := rs.fr f
  have hl : ds.length = kvs.length := by rw [← rs.length, List.length_map]
  refine ⟨fun hi => ⟨e2, by unfold itemsD at hi; rw [List.length_zipWith, List.length_map, hl] at hi; omega⟩, fun d hd => ?_⟩
  obtain ⟨k', y, h1, h2, rfl⟩ := items_at hd
  rw [List.getElem?_map] at h1
  cases hk : kvs[i]? with
  | none => rw [hk] at h1; cases h1
  | some p =>
    rw [hk] at h1
    cases h1
    refine ⟨⟨e2, (List.getElem?_eq_some_iff.mp hk).1⟩, fun x H3 ⟨T, k'', v, g1, ev, hT, eh⟩ => ?_⟩
    subst ev eh
    rw [hk] at g1
    cases g1
    obtain ⟨v', hv', rv⟩ := rs2.get (i := i) h2
    rw [List.getElem?_map, hk] at hv'
    cases hv'
    have rk : Rep ⟨k, z⟩ M2 H2 (kV k'') (keyD k'') := by
      cases k'' with
      | inl i => exact .int i
      | inr s => exact .str s
    exact ⟨.tup (.inl ⟨.inl upd_same, A.free hT⟩) (.cons (rk.fr (Frame.new hT)) (.cons (rv.fr (Frame.new hT)) .nil)), A.new hT, Frame.new hT⟩
section
variable {X : Cx} {pos : Pos}
/-- a comprehension, its iterator at hand -/
theorem lc_run {vs : List Nat} {g : DG} {tt : DT} {te : DE} {end_ : List D → Mem → RK → Prop} {σ : L2.St} {z : Addr → Prop} {ρ : DEnv} {M1 : Mem} {H1 : Hp} {R : RK} {Q : VK} {J : It} {items : List D} {G : Mem → Prop} {W : Nat → List D → Mem → Prop}
    (he : ∀ (z : Addr → Prop) acc M R H Q p us M0 H0, end_ acc M R → MAbs ⟨X.K, zput z p⟩ M H → H p = some (.lst us) → Reps ⟨X.K, zput z p⟩ M H us acc → ¬ z p → H0 p = none → Frame M0 H0 M H → Fin ⟨X.K, z⟩ M0 H0 R Q → Q (.ref p) H)
    (S : SAbs ⟨X.K, z⟩ M1 H1 ρ σ) (A1 : MAbs ⟨X.K, z⟩ M1 H1) (it : ∀ z', (∀ a, z' a → z a ∨ H1 a = none) → ItD ⟨X.K, z'⟩ J items G M1 H1) (hz : items.length ≤ sizeLine) (w0 : W 0 [] M1)
    (ws : ∀ i d acc M2, items[i]? = some d → acc.length ≤ i → W i acc M2 → G M2 ∧ g d (dwipe ρ vs) fun ρ3 => tt ρ3 M2 fun k M3 => if k = true then te ρ3 M3 fun y M4 => W (i + 1) (acc ++ [y]) M4 else W (i + 1) acc M3)
    (wd : ∀ acc M2, acc.length ≤ items.length → W items.length acc M2 → G M2 ∧ end_ acc M2 R) (F : Fin ⟨X.K, z⟩ M1 H1 R Q) :
    tLc (fun _ H R => R J H) (liftG X.K vs g) (liftT X.K tt) (liftE X.K te) vs σ H1 Q := by
  intro p hp
  have it := it (zput z p) fun a h => h.elim .inl fun e => .inr (e ▸ hp)
  have hzz : ∀ a, H1 a ≠ none → zput z p a → z a := fun a h y => y.elim id fun e => absurd (e ▸ hp) h
  have zp : zput z p p := .inr rfl
  have S1 : SAbs ⟨X.K, zput z p⟩ M1 H1 (dwipe ρ vs) (wipe σ vs) := (S.zz hzz).wipe vs
  have fn : ∀ {u : HO}, Frame M1 H1 M1 (upd H1 p u) := Frame.new hp
  refine ⟨fun i m H2 => i ≤ items.length ∧ m = items.length - i ∧ ∃ acc M2 us, acc.length ≤ i ∧ H2 p = some (.lst us) ∧ Reps ⟨X.K, zput z p⟩ M2 H2 us acc ∧ MAbs ⟨X.K, zput z p⟩ M2 H2 ∧ Frame M1 H1 M2 H2 ∧ W i acc M2,
    ⟨items.length, Nat.zero_le _, rfl, [], M1, [], Nat.le_refl _, upd_same, .nil, A1.hide hp, fn, w0⟩, fun i m H2 ⟨hi, hm, acc, M2, us, ha, eD, rD, A2, f2, w2⟩ => ?_⟩
  by_cases hlt : i < items.length
  · have hd : items[i]? = some items[i] := List.getElem?_eq_getElem hlt
    obtain ⟨g2, q2⟩ := ws i _ acc M2 hd ha w2
    obtain ⟨go, y⟩ := (it M2 H2 f2 A2 g2 i).2 _ hd
    refine .inr ⟨go, fun H3 => ∃ acc M3 us, acc.length ≤ i + 1 ∧ H3 p = some (.lst us) ∧ Reps ⟨X.K, zput z p⟩ M3 H3 us acc ∧ MAbs ⟨X.K, zput z p⟩ M3 H3 ∧ Frame M1 H1 M3 H3 ∧ W (i + 1) acc M3,
      fun H3 w3 => ⟨items.length - (i + 1), by omega, hlt, rfl, w3⟩, fun x H3 y3 => ?_⟩
    obtain ⟨rx, A3, f3⟩ := y x H3 y3
    have f13 := f2.trans f3
    have keep : ∀ {M5 H5}, Frame M2 H2 M5 H5 → H5 p = some (.lst us) ∧ M5 p = none := fun {M5 H5} f => by
      obtain ⟨e1, e2⟩ := f p (by rw [eD]; exact nofun) (A2.zown zp)
      exact ⟨e1.trans eD, e2⟩
    refine ⟨zput z p, dwipe ρ vs, M2, _, _, S1.fr f13, A3, rx, q2, fun ρ4 σ4 q4 S4 hw => ⟨by rw [hw]; exact wipe_wipe (fun _ h => h), zput z p, ρ4, M2, _, S4, A3, q4, fun k M5 H5 q5 A5 f5 => ?_⟩⟩
    cases k with
    | true =>
      rw [if_pos rfl] at q5
      refine iteT ⟨zput z p, ρ4, M5, _, S4.fr f5, A5, q5, fun y M6 v H6 q6 r6 A6 f6 => ?_⟩
      have f26 := (f3.trans f5).trans f6
      obtain ⟨e6, n6⟩ := keep f26
      have hl : us.length = acc.length := rD.length
      refine ⟨us, e6, by omega, acc ++ [y], M6, us ++ [v], by rw [List.length_append]; simp; omega, upd_same, ((rD.fr f26).append (.cons r6 .nil)).side (not_tup e6) zp, A6.side (not_tup e6) zp, fun c hc nc => ?_, q6⟩
      obtain ⟨z1, z2⟩ := (f2.trans f26) c hc nc
      have ne : c ≠ p := fun e => hc (by rw [e]; exact hp)
      exact ⟨(upd_ne ne).trans z1, z2⟩
    | false =>
      rw [if_neg Bool.false_ne_true] at q5
      have f25 := f3.trans f5
      obtain ⟨e5, n5⟩ := keep f25
      exact iteF ⟨acc, M5, us, by omega, e5, rD.fr f25, A5, f2.trans f25, q5⟩
  · have e : i = items.length := by omega
    subst e
    obtain ⟨g2, q2⟩ := wd acc M2 ha w2
    refine .inl ⟨(it M2 H2 f2 A2 g2 _).1 (Nat.le_refl _), ?_⟩
    exact he z acc M2 R H2 Q p us M1 H1 q2 A2 eD rD (A1.znew hp) hp f2 F
/-- the items of the dict in the name's slot -/
def iItD (i : Nat) : DI := fun ρ M R => ∃ ks ds, slot ρ i = some (.dct ks ds) ∧ R (itemsD ks ds) (fun _ => True) M
theorem pe_eitherE {e : Expr} {t u : TE} (h : PE X e t) (h' : PE X e u) : PE X e (fun σ H Q => t σ H Q ∨ u σ H Q) := ⟨fun pins s σ H Q I q => q.elim (h.run pins s σ H Q I) (h'.run pins s σ H Q I)⟩
theorem de_lcIt {elt : Expr} {elts : List Expr} {kk : Nat} {tpos : Pos} {ifs : List Expr} {scope : Scope} {own : List (Str × Nat)} {g : DG} {tt : DT} {te : DE} {x : Str} {p apos cpos : Pos} (i : Nat) (hc : X.calm = true) (hN : X.N.Nodup) (ok : blkC X.N X.env.scope scope own = true)
    (hg : ∀ (s : Shared) (H : Hp) (C : Addr) (cl : List (Str × Addr)) (fp : List Addr), PGD (X.blk s H scope (compEnvC scope cl C X.env) fp) (own.map (·.2)) (.Tuple elts kk tpos) g) (ht : ∀ (s : Shared) (H : Hp) (C : Addr) (cl : List (Str × Addr)) (fp : List Addr), PTsD (X.blk s H scope (compEnvC scope cl C X.env) fp) ifs tt)
    (he : ∀ (s : Shared) (H : Hp) (C : Addr) (cl : List (Str × Addr)) (fp : List Addr), PED (X.blk s H scope (compEnvC scope cl C X.env) fp) elt te)
    (hx : X.N[i]? = some x := by rfl) (hv : Vis X.env.scope x := by first | exact Or.inl rfl | exact Or.inr (Or.inl rfl) | exact Or.inr (Or.inr rfl)) (hd : (x == ("__debug__" : Str)) = false := by decide)
    (hcd : (x == ("__classdict__" : Str)) = false := by decide) (hbase : attributeBase (.Name x p) "items" X.env (eval (.Name x p) X.env) = eval (.Name x p) X.env := by rfl) (hline : (apos.endLine == cpos.line) = true := by rfl)
    (hs : ∀ y, foldedSetIterable (.Call (.Attribute (.Name x p) "items" apos) [] [] cpos) X.env y = pure y := by intro _; rfl) :
    PED X (.ListComp elt [⟨.Tuple elts kk tpos, .Call (.Attribute (.Name x p) "items" apos) [] [] cpos, ifs, 0⟩] scope pos) (dLc (own.map (·.2)) (iItD i) g tt te) := by
  have core := pe_lc (pos := pos) (elt := elt) (ifs := ifs) (g := liftG X.K (own.map (·.2)) g) (tt := liftT X.K tt) (te := liftE X.K te) hc hN (pi_items (elts := elts) (kk := kk) (tpos := tpos) (apos := apos) (cpos := cpos) (pe_var (pos := p) hx hv hd hcd) hbase hline) (blkOk_by ok) hg ht he hs
  refine (pe_eitherE (pe_lock core) core).weak fun σ H Q ⟨z, ρ, M, R, S, A, ⟨ks, ds, hslot, hz, W, w0, ws, wd⟩, F⟩ => ?_
  obtain ⟨v, hσ, r⟩ := S.get hslot
  obtain ⟨a, kvs, rfl, ⟨hr, hM, hzn⟩, e1, rs⟩ := rep_dct r
  subst e1
  rcases hr with e | ⟨o, e⟩
  · refine .inl ⟨a, .dK kvs, e, trivial, fun od => ⟨.ref a, hσ, a, od, kvs, rfl, upd_same, ?_⟩⟩
    have sm : Same H (upd H a (.frz od (.dK kvs))) := same_lock e
    have A1 : MAbs ⟨X.K, z⟩ M (upd H a (.frz od (.dK kvs))) := A.same sm hM (fun b h => upd_ne h) ⟨_, upd_same⟩
    refine lc_run (Q := fun v H' => H' a = some (.frz od (.dK kvs)) ∧ Q v (upd H' a (.dK kvs))) (end_ := fun acc M R => R (.lst acc) M) lc_end (S.same sm) A1 (fun z' hz' => itd_items upd_same hM ((rs.same sm).zz fun c hc y => (hz' c y).elim id fun e => absurd e hc)) hz w0 ws wd fun d M2 v H2 p2 r2 A2 f2 => ?_
    obtain ⟨q1, q2⟩ := f2 a (by rw [upd_same]; exact nofun) hM
    rw [upd_same] at q1
    have so := same_open q1
    refine ⟨q1, F d M2 v _ p2 (r2.same so) (A2.same so q2 (fun b h => upd_ne h) ⟨_, upd_same⟩) fun c hc hn => ?_⟩
    by_cases h : c = a
    · subst h
      exact ⟨by rw [upd_same]; exact e.symm, q2⟩
    · obtain ⟨y1, y2⟩ := f2 c (by rw [upd_ne h]; exact hc) hn
      rw [upd_ne h] at y1
      exact ⟨by rw [upd_ne h]; exact y1, y2⟩
  · refine .inr ⟨.ref a, hσ, a, o, kvs, rfl, e, ?_⟩
    exact lc_run (Q := Q) (end_ := fun acc M R => R (.lst acc) M) lc_end S A (fun z' hz' => itd_items e hM (rs.zz fun c hc y => (hz' c y).elim id fun e => absurd e hc)) hz w0 ws wd F
end
/-! ### TAB.get(key), a module's own dict -/
section
variable {X : Cx} {e : Expr} {x : Str} {p apos cpos : Pos} {ty : DE} {tab : List (Str × D)}
def dKdGet1 (tab : List (Str × D)) (ty : DE) : DE := fun ρ M R => ty ρ M fun y M1 => ∃ s, y = .str s ∧ R ((tabAt tab s).getD .non) M1
theorem de_kdGet1 (T : HoldsD X.w X.K X.mg x tab) (he : PED X e ty) (hg : Gl X x := by rfl) (hdb : (x == ("__debug__" : Str)) = false := by decide) (m : M1 X (.Name x p) "get" apos e cpos := by exact ⟨rfl, rfl, rfl, rfl⟩) :
    PED X (.Call (.Attribute (.Name x p) "get" apos) [e] [] cpos) (dKdGet1 tab ty) := by
  obtain ⟨d, es, n, hmg, kd, hl⟩ := T.ex
  have hn : PE X (.Name x p) _ := pe_glob hg hmg (v := .ref d) rfl hdb
  refine ⟨fun pins s σ H Q I h => ?_⟩
  obtain ⟨z, ρ, M, R, S, A, q, F⟩ := h
  refine wpAny_Call_method m.base m.few m.line PySem.F.plainAttrs_dict PySem.F.slot_dict_get PySem.F.type_dict_get (thn (hn.run pins s σ H (fun v H1 => v = .ref d ∧ H1 = H) I ⟨rfl, rfl⟩) fun u s1 ⟨y, H1, I1, ry, e1, e2⟩ => ?_)
  subst e1 e2
  obtain rfl : u = Value.ref d := ry
  have hm1 := PySem.W.mapOf_K (prog := X.prog) (w := X.w) I1.kIn kd.at_ kd.lit
  refine ⟨hm1.typeIs, hm1.noDict, ?_⟩
  rw [m.trees]
  refine Calls.callWith_builtin rfl (Calls.evalArgs_plain (Calls.spliced_cons (thn (he.run pins s1 σ _ (fun v H2 => ∃ (k : Str) (r : Option Value) (w : V), v = .str k ∧ PySem.W.nsIn X.K d k = some r ∧ RelV w (r.getD .none) ∧ Q w H2) I1 ⟨z, ρ, M, _, S, A, q, fun y M2 v H2 ⟨k, ek, q1⟩ r1 A1 f1 => ?_⟩) fun iv s2 ⟨y, H2, I2, ry, k, r, w0, ey, en, rw0, q2⟩ => Calls.spliced_nil ?_)))
  · subst ek
    have hk := hl k
    cases ht : tabAt tab k with
    | none =>
      rw [ht] at hk q1
      exact ⟨k, none, .non, rep_str r1, hk, rfl, F _ _ _ _ q1 .non A1 f1⟩
    | some dd =>
      rw [ht] at hk q1
      obtain ⟨u0, v0, e0, r0, rep0⟩ := hk
      exact ⟨k, some u0, v0, rep_str r1, e0, r0, F _ _ _ _ q1 (rep0 _ _ _) A1 f1⟩
  · subst ey
    obtain ⟨t, rfl⟩ := ry
    have hm2 := PySem.W.mapOf_K (prog := X.prog) (w := X.w) I2.kIn kd.at_ kd.lit
    refine call_meetsIn PySem.F.slot_dict_get hm2.typeIs PySem.F.entry_dict_get (PySem.F.args_dict_get_2 _ _) (meets_dict_get (PySem.strKind X.prog X.w) d (PySem.strKind_is X.prog X.w k t) kd.low) ⟨_, hm2, ⟨w0, H2, I2.tok _, ?_, q2⟩⟩
    rw [PySem.W.find_K kd.at_ en]
    exact rw0
end
end DL

set_option Elab.async false
set_option linter.all false
set_option maxHeartbeats 4000000
/-! D-layer: instances of the program's own classes: attributes, methods, making one. -/
namespace DL
open PySem PySem.Spec PyProof.Rows L2

/-! ### fields -/
def fldD : List Str → List D → Str → Option D
  | n :: ns, d :: ds, f => if n = f then some d else fldD ns ds f
  | _, _, _ => none
def fputN : List Str → Str → List Str
  | [], f => [f]
  | n :: ns, f => if n = f then n :: ns else n :: fputN ns f
def fputD : List Str → List D → Str → D → List D
  | [], _, _, d => [d]
  | n :: ns, x :: ds, f, d => if n = f then d :: ds else x :: fputD ns ds f d
  | _ :: _, [], _, d => [d]
section
variable {K : KZ} {M : Mem} {H : Hp}
theorem look_fld {f : Str} {d : D} : ∀ {fs : List (Str × V)} {ds : List D}, Reps K M H (fs.map (·.2)) ds → fldD (fs.map (·.1)) ds f = some d → ∃ v, fs.lookup f = some v ∧ Rep K M H v d
  | [], _, r, e => by cases r; cases e
  | (n, v) :: fs, ds, r, e => by
    cases r with
    | cons r rs =>
      rename_i d0 ds0
      have e' : (if n = f then some d0 else fldD (fs.map (·.1)) ds0 f) = some d := e
      by_cases h : n = f
      · rw [if_pos h] at e'
        cases e'
        exact ⟨v, by rw [List.lookup_cons, show (f == n) = true by rw [h]; exact beq_self_eq_true f], r⟩
      · rw [if_neg h] at e'
        obtain ⟨u, h1, h2⟩ := look_fld rs e'
        exact ⟨u, by rw [List.lookup_cons, show (f == n) = false by rw [beq_eq_false_iff_ne]; exact fun z => h z.symm]; exact h1, h2⟩
theorem look_none {f : Str} : ∀ {fs : List (Str × V)}, f ∉ fs.map (·.1) → fs.lookup f = none
  | [], _ => rfl
  | (n, v) :: fs, h => by
    have h1 : f ≠ n := fun e => h (by rw [e]; exact List.mem_cons_self)
    rw [List.lookup_cons, show (f == n) = false by rw [beq_eq_false_iff_ne]; exact h1]
    exact look_none fun m => h (List.mem_cons_of_mem _ m)
theorem putF_rep {f : Str} {v : V} {d : D} (rv : Rep K M H v d) : ∀ {fs : List (Str × V)} {ds : List D}, Reps K M H (fs.map (·.2)) ds → (putF f v fs).map (·.1) = fputN (fs.map (·.1)) f ∧ Reps K M H ((putF f v fs).map (·.2)) (fputD (fs.map (·.1)) ds f d)
  | [], _, r => by
    cases r
    exact ⟨rfl, .cons rv .nil⟩
  | (n, x) :: fs, _, r => by
    cases r with
    | cons r rs =>
      rename_i d0 ds0
      obtain ⟨h1, h2⟩ := putF_rep rv rs
      rw [show putF f v ((n, x) :: fs) = (if n = f then (n, v) :: fs else (n, x) :: putF f v fs) from rfl]
      show _ = (if n = f then n :: fs.map (·.1) else n :: fputN (fs.map (·.1)) f) ∧ Reps K M H _ (if n = f then d :: ds0 else d0 :: fputD (fs.map (·.1)) ds0 f d)
      by_cases h : n = f
      · rw [if_pos h, if_pos h, if_pos h]
        exact ⟨rfl, .cons rv rs⟩
      · rw [if_neg h, if_neg h, if_neg h]
        exact ⟨by rw [List.map_cons, h1], .cons r h2⟩
end
/-! ### e.f and e.f = v -/
/-- the attribute f of an instance of the class at C -/
def dFld (C : Addr) (ta : DE) (f : Str) : DE := fun ρ M R => ta ρ M fun x M1 => ∃ a ns ds d, x = .ref a ∧ M1 a = some (.obj C ns ds) ∧ fldD ns ds f = some d ∧ R d M1
def dSetF (C : Addr) (ta tv : DE) (f : Str) : DS := fun D ρ M => tv ρ M fun y M1 => ta ρ M1 fun x M2 => ∃ a ns ds, x = .ref a ∧ M2 a = some (.obj C ns ds) ∧ ds.length < 1000 ∧ D.nx ρ (mset M2 a (.obj C (fputN ns f) (fputD ns ds f y)))
section
variable {X : Cx} {C g : Addr} {o e value : Expr} {f m : Str} {pos pos' apos : Pos} {ta tv : DE} {t : DA} {es : List Expr}
theorem de_fld (c : Cls X.K C) (n : NoAttr X.K C f) (he : PED X e ta) (hb : attributeBase e f X.env (eval e X.env) = eval e X.env := by rfl) : PED X (.Attribute e f pos) (dFld C ta f) :=
  (pe_fld he hb).weak fun σ H Q ⟨z, ρ, M, R, S, A, q, F⟩ => ⟨z, ρ, M, _, S, A, q, fun x M1 v H1 ⟨a, ns, ds, d, ex, hm, hf, q1⟩ r1 A1 f1 => by
    subst ex
    obtain rfl := rep_ref r1
    obtain ⟨dx, fs, ea, en, rs⟩ := A1.at_ _ _ hm
    subst en
    obtain ⟨u, h1, h2⟩ := look_fld rs hf
    exact ⟨a, C, dx, fs, u, rfl, ea, c, n, h1, F d M1 u H1 q1 h2 A1 f1⟩⟩
theorem ds_setF (c : Cls X.K C) (n : NoAttr X.K C f) (ha : PED X o ta) (hv : PED X value tv) (hs : swapsWith value (some (.Attribute o f pos')) pos.line X.env = pure false := by rfl) :
    PSD X (.Assign [.Attribute o f pos'] value pos) (dSetF C ta tv f) :=
  (ps_fld ha hv hs).weak fun D σ H ⟨z, ρ, M, D0, S, A, q, L⟩ => ⟨z, ρ, M, _, S, A, q, fun d M1 v H1 q1 r1 A1 f1 => ⟨z, ρ, M1, _, S.fr f1, A1, q1, fun x M2 u H2 ⟨a, ns, ds, ex, hm, hl, q2⟩ r2 A2 f2 => by
    subst ex
    obtain rfl := rep_ref r2
    obtain ⟨dx, fs, ea, en, rs⟩ := A2.at_ _ _ hm
    subst en
    have rv := r1.fr f2
    obtain ⟨p1, p2⟩ := putF_rep (f := f) rv rs
    have hlen : fs.length < 1000 := by
      have := rs.length
      rw [List.length_map] at this
      omega
    have fw : Frame M2 H2 (mset M2 a (.obj C (fputN (fs.map (·.1)) f) (fputD (fs.map (·.1)) ds f d))) (upd H2 a (.ins C dx (putF f v fs))) := Frame.wr hm
    have f12 := f1.trans f2
    exact ⟨a, C, dx, fs, rfl, ea, c, n, hlen, L.nx ρ _ σ _ q2 (S.fr (f12.trans fw)) (A2.wr hm True.intro ⟨dx, _, upd_same, p1, p2.fr fw⟩) (f12.trans fw)⟩⟩⟩
/-- e.f += v, of whole numbers -/
def dAugF (C : Addr) (ta tv : DE) (f : Str) : DS := fun D ρ M => ta ρ M fun x M1 => ∃ a ns ds i, x = .ref a ∧ M1 a = some (.obj C ns ds) ∧ fldD ns ds f = some (.int i) ∧ tv ρ M1 fun y M2 => ∃ j ns' ds', y = .int j ∧ M2 a = some (.obj C ns' ds') ∧ ds'.length < 1000 ∧ D.nx ρ (mset M2 a (.obj C (fputN ns' f) (fputD ns' ds' f (.int (i + j)))))
theorem ds_augF {tpos : Pos} (c : Cls X.K C) (n : NoAttr X.K C f) (ha : PED X o ta) (hv : PED X value tv) : PSD X (.AugAssign (.Attribute o f tpos) .Add value pos) (dAugF C ta tv f) :=
  (ps_fldaug ha hv in_add).weak fun D σ H ⟨z, ρ, M, D0, S, A, q, L⟩ => ⟨z, ρ, M, _, S, A, q, fun x M1 u H1 ⟨a, ns, ds, i, ex, hm, hf, q1⟩ r1 A1 f1 => by
    subst ex
    obtain rfl := rep_ref r1
    obtain ⟨dx, fs, ea, en, rs⟩ := A1.at_ _ _ hm
    subst en
    obtain ⟨u, h1, h2⟩ := look_fld rs hf
    obtain rfl := rep_int h2
    refine ⟨a, C, dx, fs, _, rfl, ea, c, n, h1, z, ρ, M1, _, S.fr f1, A1, q1, fun y M2 v H2 ⟨j, ns', ds', ey, hm2, hl, q2⟩ r2 A2 f2 => ?_⟩
    subst ey
    obtain rfl := rep_int r2
    obtain ⟨dx2, fs2, ea2, en2, rs2⟩ := A2.at_ _ _ hm2
    subst en2
    obtain ⟨p1, p2⟩ := putF_rep (f := f) (Rep.int (i + j)) rs2
    have hlen : fs2.length < 1000 := by
      have := rs2.length
      rw [List.length_map] at this
      omega
    have fw : Frame M2 H2 (mset M2 a (.obj C (fputN (fs2.map (·.1)) f) (fputD (fs2.map (·.1)) ds' f (.int (i + j))))) (upd H2 a (.ins C dx2 (putF f (.int (i + j)) fs2))) := Frame.wr hm2
    have f12 := f1.trans f2
    exact ⟨i, j, rfl, rfl, dx2, fs2, ea2, hlen, L.nx ρ _ σ _ q2 (S.fr (f12.trans fw)) (A2.wr hm2 True.intro ⟨dx2, _, upd_same, p1, p2.fr fw⟩) (f12.trans fw)⟩⟩
end
/-! ### methods -/
/-- the method x of the class at C, of the longer name q, keeps the promise -/
structure HasM (P : Program) (w : World) (K : PySem.W.Frag) (mg : Str → Option Value) (base : Heap) (CX : CXT) (C : Addr) (x q : Str) (st : Stmt) (ps : List Str) (k : Nat) (sp : SpD) : Prop where
  ex : ∃ (f : Addr) (fd : FuncData), Meth K C x f ∧ Fun K x q st f fd ∧ FnG P w K mg base CX k f fd ps (liftSp K mg sp)
section
variable {P : Program} {w : World} {K : PySem.W.Frag} {mg : Str → Option Value} {base : Heap} {CX : CXT} {C : Addr} {x q : Str} {st : Stmt} {ps : List Str} {j k : Nat} {sp sp' : SpD}
theorem HasM.mono (h : HasM P w K mg base CX C x q st ps j sp) (l : j ≤ k) : HasM P w K mg base CX C x q st ps k sp := let ⟨f, fd, m, b, c⟩ := h.ex; ⟨f, fd, m, b, c.mono l⟩
theorem HasM.any (h : HasM P w K mg base CX0 C x q st ps k sp) : HasM P w K mg base CX C x q st ps k sp := let ⟨f, fd, m, b, c⟩ := h.ex; ⟨f, fd, m, b, c.any⟩
/-- the rule for a method by its body -/
theorem fnG_ofQ {CX : CXT} {k : Nat} {f : Addr} {x q : Str} {st : Stmt} {fd : FuncData} {N ps : List Str} {sp : Sp} (F : Fun K x q st f fd) (S : FnScope N ps (defScope st)) (len : ∀ vs H Q E, sp vs H Q E → vs.length = ps.length)
    (hbody : ∀ (cdv : Value) (A : Around) (outer : List Env) (s : Shared) (H : Hp) (vs : List V) (Q : VK) (E : XK), Room k (A.deeper (envOfC q (defScope st) s.heap.objs.size f cdv)) → A.guards = some [] → sp vs H Q E →
      ∃ t, PSs (cxOf CX P w K mg base N q (defScope st) f cdv A outer s H E) (defBody st) t ∧ t { nx := fun _ H' => Q .non H', rt := Q } (start N vs) H) : FnG P w K mg base CX (k + 1) f fd ps sp := by
  obtain ⟨oc, od, kV, doc, pm, an, cdv, ct, osl, rfl, lk, hcd⟩ := F.ex
  refine ⟨len, fun A outer s H args us vs Q E hr hG e0 hb r hsp => ?_⟩
  have hl := len _ _ _ _ hsp
  have KX : K.In s.heap := e0.mod.kin.keeps fun b o e => (e0.bs b o e).1
  have lim : s.heap.NoLimit := e0.mod.nolimit.keeps fun b o e => (e0.bs b o e).1
  refine codeAny_call_function hr.depth (KX _ _ lk) rfl S.co S.gen rfl (PySem.W.codeRec_of KX hcd) (hb _ _ _ _ ?_)
  refine wpAny_newFunctionEnv_cells S.kind (fun ⟨n, v⟩ hy => ?_) fun env he s1 x => ?_
  · rcases S.par n (List.of_mem_zip hy).1 with q | q
    · exact .inl q
    · exact .inr ⟨q, PySem.W.cellsFrom_some _ _ _ (.inl q)⟩
  subst he
  refine ⟨lim.keeps x.toInCall.keep, codeAny_func ?_⟩
  obtain ⟨t, ht, hq⟩ := hbody cdv A outer s H vs Q E (hr.deeper _) hG hsp
  refine wpAny_mono (ht.run [] s1 (start N vs) H _ (inv_start S hr.hd e0 hl r x) hq) (fun fl s' hs => ?_) fun e s' hs => hs
  cases fl with
  | ret u =>
    obtain ⟨v, σ', H', J, rv, q⟩ := hs
    exact ⟨v, H', J.os, J.bare, J.base, J.hok, rv, q⟩
  | next =>
    obtain ⟨σ', H', J, q⟩ := hs
    exact ⟨V.non, H', J.os, J.bare, J.base, J.hok, rfl, q⟩
  | brk => exact hs.elim fun _ h => h.elim fun _ h => h.2.elim
  | cont => exact hs.elim fun _ h => h.elim fun _ h => h.2.elim
theorem hasM_plain {st : Stmt} {N ps : List Str} {k : Nat} {sp : SpD} {t : DS} (F : ∃ (f : Addr) (fd : FuncData), Meth K C x f ∧ Fun K x q st f fd) (S : FnScope N ps (defScope st)) (len : ∀ ds M R XR, sp ds M R XR → ds.length = ps.length)
    (hb : ∀ (f : Addr) (cdv : Value) (A : Around) (outer : List Env) (s : Shared) (H : Hp) (E : XK), Room k (A.deeper (envOfC q (defScope st) s.heap.objs.size f cdv)) → A.guards = some [] → PBD (cxOf CX0 P w K mg base N q (defScope st) f cdv A outer s H E).nox (defBody st) t)
    (rd : ∀ ds M R XR, sp ds M R XR → t { nx := fun _ M => R .non M, rt := R } (startD (N.length - ps.length) ds) M) : HasM P w K mg base CX0 C x q st ps (k + 1) sp := by
  obtain ⟨f, fd, hm, F⟩ := F
  refine ⟨f, fd, hm, F, fnG_ofQ F S (fun vs H Q E ⟨z, M, ds, R, XR, A, r, q, _⟩ => r.length.trans (len _ _ _ _ q)) fun cdv A outer s H vs Q E hr hG h => ?_⟩
  obtain ⟨z, M, ds, R, XR, A', r, q, FF, _⟩ := h
  refine ⟨_, (hb f cdv A outer s H E hr hG).nox, z, startD (N.length - ps.length) ds, M, _, ?_, A', rd _ _ _ _ q, ⟨?_, FF, fun _ _ _ _ z => z.elim, fun _ _ _ _ z => z.elim, fun _ _ _ _ _ _ _ _ _ z => z.elim⟩⟩
  · have e : vs.length = ps.length := r.length.trans (len _ _ _ _ q)
    unfold L2.start startD
    rw [e]
    exact SAbs.start r _
  · intro ρ M1 σ1 H1 q1 S1 A1 f1
    exact FF .non M1 .non H1 q1 .non A1 f1
theorem hasM_view {st : Stmt} {N ps : List Str} {k : Nat} {sp : SpD} {t : DS} (F : ∃ (f : Addr) (fd : FuncData), Meth K C x f ∧ Fun K x q st f fd) (S : FnScope N ps (defScope st)) (len : ∀ ds M R XR, sp ds M R XR → ds.length = ps.length)
    (hb : ∀ (f : Addr) (cdv : Value) (A : Around) (outer : List Env) (s : Shared) (H : Hp) (E : XK), Room k (A.deeper (envOfC q (defScope st) s.heap.objs.size f cdv)) → A.guards = some [] → PBD (cxOf CX0 P w K mg base N q (defScope st) f cdv A outer s H E).nox (defBody st) t)
    (rd : ∀ ds M R XR, sp ds M R XR → t (endsOf K R) (startD (N.length - ps.length) ds) M) : HasM P w K mg base CX0 C x q st ps (k + 1) sp := by
  obtain ⟨f, fd, hm, F⟩ := F
  refine ⟨f, fd, hm, F, fnG_ofQ F S (fun vs H Q E ⟨z, M, ds, R, XR, A, r, q, _⟩ => r.length.trans (len _ _ _ _ q)) fun cdv A outer s H vs Q E hr hG h => ?_⟩
  obtain ⟨z, M, ds, R, XR, A', r, q, FF, _⟩ := h
  refine ⟨_, (hb f cdv A outer s H E hr hG).nox, z, startD (N.length - ps.length) ds, M, endsOf K R, ?_, A', rd _ _ _ _ q, ⟨?_, FF.ends, fun _ _ _ _ z => z.elim, fun _ _ _ _ z => z.elim, fun _ _ _ _ _ _ _ _ _ z => z.elim⟩⟩
  · have e : vs.length = ps.length := r.length.trans (len _ _ _ _ q)
    unfold L2.start startD
    rw [e]
    exact SAbs.start r _
  · intro ρ M1 σ1 H1 q1 S1 A1 f1
    exact FF.ends .non M1 .non H1 q1 .non A1 f1
end
/-- how positional arguments bind, self among them -/
def PosM (x q : Str) (st : Stmt) (ps : List Str) : Prop := ∀ (kV doc pm : Value) (an : Option Addr) (cdv ct : Value) (us : List Value), us.length = ps.length → bindArgs (PySem.W.fnOf x q (defArgs st) (defBody st) (defScope st) .none kV doc pm an cdv ct) ⟨us, []⟩ = pure (ps.zip us)
/-- o.m(..) -/
def dMethO (C : Addr) (m : Str) (sp : SpD) (ta : DE) (t : DA) : DE := fun ρ M R => ta ρ M fun x M1 => ∃ a ns ds, x = .ref a ∧ M1 a = some (.obj C ns ds) ∧ m ∉ ns ∧ t ρ M1 fun es M2 => sp (x :: es) M2 R noX
/-- C(..): what is asked of __init__, the new instance bare -/
def dMake (C : Addr) (sp : SpD) (t : DA) : DE := fun ρ M R => t ρ M fun es M1 => ∀ a, M1 a = none → sp (.ref a :: es) (mset M1 a (.obj C [] [])) (fun d M2 => d = .non ∧ R (.ref a) M2) noX
section
variable {X : Cx} {C g : Addr} {o e : Expr} {x q m : Str} {p pos apos : Pos} {ta : DE} {t : DA} {es : List Expr} {st : Stmt} {ps : List Str} {k : Nat} {sp : SpD}
theorem de_methO {pl : Sem Bool} (F : HasM X.prog X.w X.K X.mg X.base CX0 C m q st ps k sp) (c : Cls X.K C) (hr : Room k X.A) (hG : X.A.guards = some []) (hb : PosM m q st ps) (he : PED X o ta) (ha : PAD X (e :: es) t)
    (hst : starEach (e :: es) X.env = (false, eval e X.env) :: starEach es X.env := by rfl) (hpl : (backTo pos (starEach es X.env)).any (·.1) = false := by rfl)
    (ht : eval (.Call (.Attribute o m apos) (e :: es) [] pos) X.env = (do
      let ov ← eval o X.env
      standAt apos.atName
      let (f, first) ← holding [ov] (getMethod ov m pl)
      callWith pos f first (backTo pos (starEach (e :: es) X.env)) (backToKw pos (keywordEach [] X.env))) := by rfl) :
    PED X (.Call (.Attribute o m apos) (e :: es) [] pos) (dMethO C m sp ta t) := by
  obtain ⟨g, fd, hm, Fn, G⟩ := F.ex
  refine ⟨fun pins s σ H Q I h => ?_⟩
  obtain ⟨z, ρ, M, R, S, A, q, FF⟩ := h
  refine PySem.W.methodCall_KW (pl := pl) (thn (he.run pins s σ H (fun v H1 => ∃ a M1 ns ds, v = .ref a ∧ M1 a = some (.obj C ns ds) ∧ m ∉ ns ∧ MAbs ⟨X.K, z⟩ M1 H1 ∧ Frame M H M1 H1 ∧ t ρ M1 fun es M2 => sp (.ref a :: es) M2 R noX) I ⟨z, ρ, M, _, S, A, q, fun d M1 v H1 ⟨a, ns, ds, ed, hma, hn, q1⟩ r1 A1 f1 => ?_⟩) fun u s1 ⟨x, H1, I1, rx, a, M1, ns, ds, ex, ea, hn, A1, f1, q1⟩ => ?_) ht
  · subst ed
    obtain rfl := rep_ref r1
    exact ⟨a, M1, ns, ds, rfl, hma, hn, A1, f1, q1⟩
  · subst ex
    obtain rfl : u = Value.ref a := rx
    obtain ⟨dx, fs, eh, en, rs⟩ := A1.at_ _ _ ea
    subst en
    refine getmeth_ok I1 eh c hm (look_none hn) ?_
    refine PySem.W.callWith_K (first := [.ref a]) (h₀ := X.base) I.ok.mod.kin hm.kp (thn (ha.run pos pins s1 σ H1 (fun vs H2 => liftSp X.K X.mg sp (.ref a :: vs) H2 Q (fun _ _ _ => False)) I1 ⟨z, ρ, M1, _, S.fr f1, A1, q1, fun es M2 vs H2 q2 r2 A2 f2 => ⟨z, M2, .ref a :: es, R, noX, A2, .cons (.ref a) r2, q2, FF.fr (f1.trans f2), .no⟩⟩) fun us s2 ⟨vs, H2, I2, r, q2⟩ => ⟨I2.kIn, ?_⟩) hst hpl
    have hl : (Value.ref a :: us).length = ps.length := by
      have := G.len _ _ _ _ q2
      rw [List.length_cons, r.length] at this
      exact this
    refine wpAny_call (codeAny_mono (run_fnG (args := ⟨.ref a :: us, []⟩) (us := .ref a :: us) G hr hG ?_ I2 (.cons (show L2.RelV (.ref a) (.ref a) from rfl) r) q2) fun r s' hq => ?_)
    · obtain ⟨oc, od, kV, doc, pm, an, cdv, ct, osl, rfl, _⟩ := Fn.ex
      exact .of_eq (hb _ _ _ _ _ _ _ hl)
    · cases r with
      | error e => exact hq.elim
      | ok fl => cases fl <;> exact hq
/-- o.m() -/
theorem de_methO0 {pl : Sem Bool} (F : HasM X.prog X.w X.K X.mg X.base CX0 C m q st ps k sp) (c : Cls X.K C) (hr : Room k X.A) (hG : X.A.guards = some []) (hb : PosM m q st ps) (he : PED X o ta)
    (ht : eval (.Call (.Attribute o m apos) [] [] pos) X.env = (do
      let ov ← eval o X.env
      standAt apos.atName
      let (f, first) ← holding [ov] (getMethod ov m pl)
      callWith pos f first (backTo pos (starEach [] X.env)) (backToKw pos (keywordEach [] X.env))) := by rfl) :
    PED X (.Call (.Attribute o m apos) [] [] pos) (dMethO C m sp ta dNil) := by
  obtain ⟨g, fd, hm, Fn, G⟩ := F.ex
  refine ⟨fun pins s σ H Q I h => ?_⟩
  obtain ⟨z, ρ, M, R, S, A, q, FF⟩ := h
  refine PySem.W.methodCall_KW (pl := pl) (thn (he.run pins s σ H (fun v H1 => ∃ a M1 ns ds, v = .ref a ∧ M1 a = some (.obj C ns ds) ∧ m ∉ ns ∧ MAbs ⟨X.K, z⟩ M1 H1 ∧ Frame M H M1 H1 ∧ sp [.ref a] M1 R noX) I ⟨z, ρ, M, _, S, A, q, fun d M1 v H1 ⟨a, ns, ds, ed, hma, hn, q1⟩ r1 A1 f1 => ?_⟩) fun u s1 ⟨x, H1, I1, rx, a, M1, ns, ds, ex, ea, hn, A1, f1, q1⟩ => ?_) ht
  · subst ed
    obtain rfl := rep_ref r1
    exact ⟨a, M1, ns, ds, rfl, hma, hn, A1, f1, q1⟩
  · subst ex
    obtain rfl : u = Value.ref a := rx
    obtain ⟨dx, fs, eh, en, rs⟩ := A1.at_ _ _ ea
    subst en
    refine getmeth_ok I1 eh c hm (look_none hn) ?_
    have q2 : liftSp X.K X.mg sp [.ref a] H1 Q (fun _ _ _ => False) := ⟨z, M1, [.ref a], R, noX, A1, .cons (.ref a) .nil, q1, FF.fr f1, .no⟩
    refine PySem.W.callWith_K0 (first := [.ref a]) I1.kIn hm.kp (wpAny_call (codeAny_mono (run_fnG (args := ⟨[.ref a], []⟩) (us := [.ref a]) G hr hG ?_ I1 (.cons (show L2.RelV (.ref a) (.ref a) from rfl) .nil) q2) fun r s' hq => ?_))
    · obtain ⟨oc, od, kV, doc, pm, an, cdv, ct, osl, rfl, _⟩ := Fn.ex
      exact .of_eq (hb _ _ _ _ _ _ _ (by have := G.len _ _ _ _ q2; exact this))
    · cases r with
      | error e => exact hq.elim
      | ok fl => cases fl <;> exact hq
/-- what a bare new instance is in both memories -/
theorem made_abs {K : KZ} {M : Mem} {H : Hp} {y dx : Addr} (A : MAbs K M H) (hy : H y = none) (hd : H dx = none) (ne : dx ≠ y) :
    MAbs K (mset M y (.obj C [] [])) (upd (upd H dx (.own y)) y (.ins C dx [])) ∧ Frame M H (mset M y (.obj C [] [])) (upd (upd H dx (.own y)) y (.ins C dx [])) := by
  have A1 : MAbs K M (upd H dx (.own y)) := A.new hd
  have hy1 : upd H dx (.own y) y = none := by rw [upd_ne fun e => ne e.symm]; exact hy
  exact ⟨A1.newM hy1 ⟨dx, [], upd_same, rfl, .nil⟩, (Frame.new hd).trans (Frame.newM A1 hy1)⟩
theorem run_makeG {pins : List (Addr × Obj)} {σ : L2.St} {H : Hp} {s : Shared} {Q : VK} {us : List Value} {vs : List V} {f : Addr} {sp : Sp} {fd : FuncData} (Mk1 : L2.Mk X.K C f) (F : FnG X.prog X.w X.K X.mg X.base CX0 k f fd ps sp) (hr : Room (k + 1) X.A) (hG : X.A.guards = some [])
    (hb : BindsTo { s with heap := (s.heap.push PySem.W.emptyDict).push (PySem.W.instObj C s.heap.objs.size) } fd ⟨Value.ref (s.heap.objs.size + 1) :: us, []⟩ (ps.zip (Value.ref (s.heap.objs.size + 1) :: us))) (I : Inv X pins σ H s) (r : Vals vs us)
    (h : ∀ x dx, H x = none → H dx = none → dx ≠ x → sp (.ref x :: vs) (upd (upd H dx (.own x)) x (.ins C dx [])) (fun v H2 => v = .non ∧ Q (.ref x) H2) (fun _ _ _ => False)) :
    wpAny (model X.prog X.w) X.A (call (.ref C) us) (EP X pins σ Q) X.xe s := by
  have hq := h (s.heap.objs.size + 1) s.heap.objs.size (I.hok.fresh (Nat.le_succ _)) (I.hok.fresh (Nat.le_refl _)) (Nat.ne_of_lt (Nat.lt_succ_self _))
  have I2 := Inv.made (C := C) I
  have r2 : Vals (V.ref (s.heap.objs.size + 1) :: vs) (Value.ref (s.heap.objs.size + 1) :: us) := .cons rfl r
  refine wpAny_call (make_map (f := f) I.kIn Mk1.makes Mk1.init (beq_iff_eq.mp Mk1.fn) (codeAny_mono (F.run _ X.stack _ _ ⟨Value.ref (s.heap.objs.size + 1) :: us, []⟩ (Value.ref (s.heap.objs.size + 1) :: us) _ _ _ (hr.make C us []) hG
    (I2.env0.make C us []) hb r2 hq) fun r s' hq' => ?_))
  cases r with
  | error e => exact hq'.elim
  | ok fl =>
    cases fl with
    | ret u =>
      obtain ⟨v, H', I3, rv, ev, q3⟩ := I2.after hq'
      subst ev
      exact ⟨rv, ⟨V.ref (s.heap.objs.size + 1), H', I3, rfl, q3⟩⟩
    | next => exact False.elim hq'
    | brk => exact False.elim hq'
    | cont => exact False.elim hq'
/-- C(e, ..) -/
theorem de_make (mk : PySem.W.makesIn X.K C = true) (kc : PySem.W.keepIn X.K (.ref C) = true) (F : HasM X.prog X.w X.K X.mg X.base CX0 C "__init__" q st ps k sp) (hr : Room (k + 1) X.A) (hG : X.A.guards = some []) (hb : PosM "__init__" q st ps) (hg1 : X.mg x = some (.ref C)) (ha : PAD X (e :: es) t) (hg : Gl X x := by rfl)
    (hdb : (x == ("__debug__" : Str)) = false := by decide) (he : starEach (e :: es) X.env = (false, eval e X.env) :: starEach es X.env := by rfl) (hpl : (backTo pos (starEach es X.env)).any (·.1) = false := by rfl) :
    PED X (.Call (.Name x p) (e :: es) [] pos) (dMake C sp t) := by
  obtain ⟨f, fd, hm, Fn, G⟩ := F.ex
  have Mk1 : L2.Mk X.K C f := ⟨mk, hm.at_, hm.fn, kc⟩
  refine ⟨fun pins s σ H Q I h => ?_⟩
  obtain ⟨z, ρ, M, R, S, A, q, FF⟩ := h
  refine wpAny_Call_Name_kw (ld_glob I hg hg1 ?_ hdb)
  refine PySem.W.callWith_K (h₀ := X.base) I.ok.mod.kin Mk1.kp (thn (ha.run pos pins s σ H (fun vs H1 => ∀ x dx, H1 x = none → H1 dx = none → dx ≠ x → liftSp X.K X.mg sp (.ref x :: vs) (upd (upd H1 dx (.own x)) x (.ins C dx [])) (fun v H2 => v = .non ∧ Q (.ref x) H2) (fun _ _ _ => False)) I ⟨z, ρ, M, _, S, A, q, fun es M1 vs H1 q1 r1 A1 f1 y dx hy hd ne => ?_⟩) fun us s1 ⟨vs, H1, I1, r, q1⟩ => ⟨I1.kIn, ?_⟩) he hpl
  · obtain ⟨A2, f2⟩ := made_abs (C := C) A1 hy hd ne
    refine ⟨z, _, .ref y :: es, _, noX, A2, .cons (.ref y) (r1.fr f2), q1 y (A1.free hy), fun d M3 v H3 ⟨ed, q3⟩ r3 A3 f3 => ?_, .no⟩
    subst ed
    cases r3
    exact ⟨rfl, FF (.ref y) M3 (.ref y) H3 q3 (.ref y) A3 ((f1.trans f2).trans f3)⟩
  · have hl : (Value.ref (s1.heap.objs.size + 1) :: us).length = ps.length := by
      have := G.len _ _ _ _ (q1 (s1.heap.objs.size + 1) s1.heap.objs.size (I1.hok.fresh (Nat.le_succ _)) (I1.hok.fresh (Nat.le_refl _)) (Nat.ne_of_lt (Nat.lt_succ_self _)))
      rw [List.length_cons, r.length] at this
      exact this
    refine run_makeG Mk1 G hr hG ?_ I1 r q1
    obtain ⟨oc, od, kV, doc, pm, an, cdv, ct, osl, rfl, _⟩ := Fn.ex
    exact .of_eq (hb _ _ _ _ _ _ _ hl)
/-- C() -/
theorem de_make0 (mk : PySem.W.makesIn X.K C = true) (kc : PySem.W.keepIn X.K (.ref C) = true) (F : HasM X.prog X.w X.K X.mg X.base CX0 C "__init__" q st ["self"] k sp) (hr : Room (k + 1) X.A) (hG : X.A.guards = some []) (hb : PosM "__init__" q st ["self"]) (hg1 : X.mg x = some (.ref C)) (hg : Gl X x := by rfl)
    (hdb : (x == ("__debug__" : Str)) = false := by decide) : PED X (.Call (.Name x p) [] [] pos) (dMake C sp dNil) := by
  obtain ⟨f, fd, hm, Fn, G⟩ := F.ex
  have Mk1 : L2.Mk X.K C f := ⟨mk, hm.at_, hm.fn, kc⟩
  refine ⟨fun pins s σ H Q I h => ?_⟩
  obtain ⟨z, ρ, M, R, S, A, q, FF⟩ := h
  refine wpAny_Call_Name_kw (ld_glob I hg hg1 ?_ hdb)
  have q1 : ∀ x dx, H x = none → H dx = none → dx ≠ x → liftSp X.K X.mg sp (.ref x :: []) (upd (upd H dx (.own x)) x (.ins C dx [])) (fun v H2 => v = .non ∧ Q (.ref x) H2) (fun _ _ _ => False) := fun y dx hy hd ne => by
    obtain ⟨A2, f2⟩ := made_abs (C := C) A hy hd ne
    refine ⟨z, _, [.ref y], _, noX, A2, .cons (.ref y) .nil, q y (A.free hy), fun d M3 v H3 ⟨ed, q3⟩ r3 A3 f3 => ?_, .no⟩
    subst ed
    cases r3
    exact ⟨rfl, FF (.ref y) M3 (.ref y) H3 q3 (.ref y) A3 (f2.trans f3)⟩
  refine PySem.W.callWith_K0 I.kIn Mk1.kp (run_makeG (us := []) Mk1 G hr hG ?_ I .nil q1)
  obtain ⟨oc, od, kV, doc, pm, an, cdv, ct, osl, rfl, _⟩ := Fn.ex
  exact .of_eq (hb _ _ _ _ _ _ _ rfl)
end
end DL
namespace DL
open PySem PySem.Spec PyProof.Rows L2
theorem fun_mkQ {K : PySem.W.Frag} {x q : Str} {st : Stmt} {f : Addr} {od an : Option Addr} {sl : Array (Option Value)} {oc kV dc pm cd ct : Value} (l : K.lookup f = some ⟨oc, od, .func (PySem.W.fnOf x q (defArgs st) (defBody st) (defScope st) .none kV dc pm an cd ct), sl⟩)
    (c : PySem.W.codeIn K cd q = true) (k : PySem.W.keepIn K (.ref f) = true) : Fun K x q st f (PySem.W.fnOf x q (defArgs st) (defBody st) (defScope st) .none kV dc pm an cd ct) := ⟨⟨_, _, _, _, _, _, _, _, _, rfl, l, c⟩, k⟩
end DL

set_option Elab.async false
set_option linter.all false
set_option maxHeartbeats 4000000
set_option maxRecDepth 100000
/-! D-layer: a tuple of which the object is known, so that its methods may be called. -/
namespace DL
open PySem PySem.Spec PyProof.Rows L2
/-- the tuple at a, made by tuple(a list), its object o -/
def ztup (a : Addr) (o : Obj) (vs : List V) (ds : List D) : D := .box a a (.frz o (.tup vs)) vs ds
section
variable {X : Cx}
theorem call_tuple_z : CallR X (.type "tuple") (fun xs H Q => ∃ p ys, xs = [.ref p] ∧ SqL X.K H p ys ∧ ∀ l o, H l = none → o.dict = none → Q (.ref l) (upd H l (.frz o (.tup ys)))) := by
  intro pins s σ H xs us Q I r h
  obtain ⟨p, ys, rfl, hq, q⟩ := h
  cases r with
  | cons rx rr =>
    cases rr
    cases rx
    obtain ⟨its, r', pl, hz⟩ := I.list hq
    have hlen := r'.length
    refine call_tuple_list pl.isList (fun h' kp => ?_) (by simp only [List.size_toArray] <;> omega)
    have I1 : Inv X pins σ H { s with heap := h' } := I.kept (t' := s.toks) kp
    have I2 : Inv X pins σ (upd H h'.objs.size (.frz { cls := .type "tuple", data := .seq its.toArray } (.tup ys))) { s with heap := h'.push { cls := .type "tuple", data := .seq its.toArray } } :=
      I1.laid (t' := s.toks) (fun b o e => Heap.get?_push_of_some _ e) (Nat.le_refl _) (show ObjOk X.prog X.w _ _ _ (.frz _ (.tup ys)) from ⟨Heap.get?_push_size _ rfl, hz, its, r', IsTup.new _ _⟩)
    exact ⟨.ref h'.objs.size, _, I2, rfl, q _ _ (I1.hok.fresh (Nat.le_refl _)) rfl⟩
/-- tuple(xs), the new tuple's object known -/
def dTupleZ : DN := fun xs M R => ∃ x ds, xs = [x] ∧ ListAt M x ds ∧ ∀ a o vs, o.dict = none → R (ztup a o vs ds) M
theorem cd_tupleZ : CallR X (.type "tuple") (liftN X.K dTupleZ) := call_tuple_z.weak fun xs H Q ⟨z, M, ds, R, A, r, ⟨x, es, e, h, q⟩, F⟩ => by
  subst e
  cases r with
  | cons r rs =>
    cases rs
    obtain ⟨p, vs, rfl, hr, rs⟩ := rep_list A r h
    exact ⟨p, vs, rfl, hr, fun l o hl ho => F _ M _ _ (q l o vs ho) (.box (.inr (.inr ⟨_, _, rfl⟩)) upd_same (A.free hl) (A.znew hl) (rs.fr (Frame.new hl))) (A.new hl) (Frame.new hl)⟩
theorem rep_ztup {K : KZ} {M : Mem} {H : Hp} {v : V} {a : Addr} {o : Obj} {vs : List V} {ds : List D} (r : Rep K M H v (ztup a o vs ds)) : v = .ref a ∧ H a = some (.frz o (.tup vs)) ∧ Rep K M H v (.tup ds) := by
  cases r with
  | box bx h n z rs => exact ⟨rfl, h, .tup (.inl ⟨.inr ⟨o, h⟩, n⟩) rs⟩
/-- seen as a tuple -/
def dZv (t : DE) : DE := fun ρ M R => t ρ M fun d M1 => ∃ a o vs ds, d = ztup a o vs ds ∧ R (.tup ds) M1
theorem de_zv {te : DE} {e : Expr} (h : PED X e te) : PED X e (dZv te) := h.weak fun σ H Q ⟨z, ρ, M, R, S, A, q, F⟩ => ⟨z, ρ, M, _, S, A, q, fun d M1 v H1 ⟨a, o, vs, ds, ed, q1⟩ r1 A1 f1 => by
  subst ed
  exact F _ _ v H1 q1 (rep_ztup r1).2.2 A1 f1⟩
def tyZ (x : V) (H : Hp) : Prop := ∃ a o vs, x = .ref a ∧ H a = some (.frz o (.tup vs)) ∧ o.dict = none
theorem ty_z : TyOk X "tuple" tyZ := by
  intro pins σ H s x v I r ty
  obtain ⟨a, o, vs, rfl, h, hd⟩ := ty
  cases r
  obtain ⟨ho, _, its, _, o', ho', hc, _⟩ := (show ObjOk X.prog X.w H s.heap a (.frz o (.tup vs)) from I.hok a _ h)
  rw [ho] at ho'
  cases ho'
  refine ⟨⟨_, ho, hc⟩, fun b e => ?_⟩
  cases e
  exact ⟨_, ho, hd⟩
/-- t.index(x), texts, the tuple's object known -/
def dIndexZ (to : DE) (t : DA) : DE := fun ρ M R => to ρ M fun d M1 => ∃ a o vs, ∃ ys : List Str, d = ztup a o vs (ys.map .str) ∧ o.dict = none ∧ t ρ M1 fun xs M2 => ∃ (z : Str) (j : Nat), xs = [.str z] ∧ ys[j]? = some z ∧ (∀ m, m < j → ys[m]? ≠ some z) ∧ R (.int (j : Nat)) M2
variable {o e : Expr} {es : List Expr} {to : DE} {t : DA} {apos cpos : Pos}
theorem de_indexZ (ho : PED X o to) (ha : PAD X (e :: es) t)
    (hbase : attributeBase o "index" X.env (eval o X.env) = eval o X.env := by rfl)
    (hfew : ((backTo cpos (starEach (e :: es) X.env)).all (fun x => !x.1) && (backToKw cpos (keywordEach [] X.env)).all (fun x => x.1.isSome)
      && decide ((e :: es).length + ([] : List Keyword).length + (if ([] : List Keyword).isEmpty then 0 else 1) < 30)) = true := by rfl)
    (hline : (apos.endLine == cpos.line) = true := by rfl) (hs : starEach (e :: es) X.env = (false, eval e X.env) :: starEach es X.env := by rfl) (hplain : (backTo cpos (starEach es X.env)).any (·.1) = false := by rfl) :
    PED X (.Call (.Attribute o "index" apos) (e :: es) [] cpos) (dIndexZ to t) :=
  (pe_mG ty_z PySem.F.plainAttrs_tuple PySem.F.slot_tuple_index PySem.F.type_tuple_index md_indexT ho ha hbase hfew hline hs hplain).weak fun σ H Q ⟨z, ρ, M, R, S, A, q, F⟩ => ⟨z, ρ, M, _, S, A, q, fun d M1 v H1 ⟨a, ob, vs, ys, ed, hd, q1⟩ r1 A1 f1 => by
    subst ed
    obtain ⟨rfl, h, _⟩ := rep_ztup r1
    exact ⟨⟨a, ob, vs, rfl, h, hd⟩, z, ρ, M1, _, S.fr f1, A1, q1, fun ds M2 us H2 ⟨x, j, e1, e2, e3, q2⟩ r2 A2 f2 => ⟨z, M2, .tup (ys.map .str), ds, R, A2, (rep_ztup (r1.fr f2)).2.2, r2, ⟨ys, x, j, rfl, e1, e2, e3, q2⟩, F.fr (f1.trans f2)⟩⟩⟩
end
end DL

set_option Elab.async false
set_option linter.all false
set_option maxHeartbeats 8000000
set_option maxRecDepth 100000
/-! k57: the readings and the walks (printed by gen.py). -/
namespace Yk57
open PySem PySem.Spec PyProof.Rows L2 DL
def topS (i : Nat) : Stmt := PySem.Challenge.pw_eyesforever_k57_outcomes_and_clocks.main.body.getD i (.Pass ⟨0, 0, 0, 0⟩)
abbrev s_is_integer : Stmt := topS 8
abbrev s_is_from : Stmt := topS 9
abbrev s_is_tuple : Stmt := topS 10
abbrev s_is_tag_value : Stmt := topS 11
abbrev s_is_tree_value : Stmt := topS 12
abbrev s_need_tree : Stmt := topS 13
abbrev s_subtree : Stmt := topS 15
abbrev s_all_places : Stmt := topS 16
abbrev s_is_rule : Stmt := topS 19
abbrev s_is_state : Stmt := topS 20
abbrev s_are_unlike_tags : Stmt := topS 21
abbrev s_is_tape_value : Stmt := topS 22
abbrev s_need_tape : Stmt := topS 23
abbrev s_need_clock : Stmt := topS 24
abbrev s_sign_of : Stmt := topS 25
abbrev s_cells_of : Stmt := topS 26
abbrev s_standing_after : Stmt := topS 27
abbrev s_need_run : Stmt := topS 29
abbrev s_tape_standing : Stmt := topS 30
abbrev s_tape_outcome : Stmt := topS 31
abbrev s__law_deck : Stmt := topS 33
abbrev s__law_draw : Stmt := topS 34
abbrev s__law_pick : Stmt := topS 35
abbrev s__law_is_tuple : Stmt := topS 36
abbrev s__law_tags : Stmt := topS 37
abbrev s__law_tree : Stmt := topS 38
abbrev s__law_map : Stmt := topS 39
abbrev s__law_power : Stmt := topS 40
abbrev s__law_tape : Stmt := topS 41
abbrev s__law_cells : Stmt := topS 42
abbrev s__law_standing : Stmt := topS 43
abbrev s__law_outcome : Stmt := topS 44
abbrev s__law_seeker : Stmt := topS 45
abbrev s__law_exchanged : Stmt := topS 46
abbrev s__law_ahead : Stmt := topS 47
abbrev s__law_are_steps_right : Stmt := topS 48
abbrev s_law : Stmt := topS 49
abbrev d_LONGEST_TAG : D := .int 8
abbrev d_MOVES : D := .tup [.int (-1), .int 0, .int 1]
abbrev d_SMALL : D := .str "abcdefghijklmnopqrstuvwxyz"
abbrev errL : List Str := ["BadTree", "BadNumber", "BadMachine"]
structure Facts (K : PySem.W.Frag) (mg : Str → Option Value) : Prop where
  f_is_integer : ∃ (f : Addr) (fd : FuncData), mg "is_integer" = some (.ref f) ∧ Fun K "is_integer" "is_integer" s_is_integer f fd
  f_is_from : ∃ (f : Addr) (fd : FuncData), mg "is_from" = some (.ref f) ∧ Fun K "is_from" "is_from" s_is_from f fd
  f_is_tuple : ∃ (f : Addr) (fd : FuncData), mg "is_tuple" = some (.ref f) ∧ Fun K "is_tuple" "is_tuple" s_is_tuple f fd
  f_is_tag_value : ∃ (f : Addr) (fd : FuncData), mg "is_tag_value" = some (.ref f) ∧ Fun K "is_tag_value" "is_tag_value" s_is_tag_value f fd
  f_is_tree_value : ∃ (f : Addr) (fd : FuncData), mg "is_tree_value" = some (.ref f) ∧ Fun K "is_tree_value" "is_tree_value" s_is_tree_value f fd
  f_need_tree : ∃ (f : Addr) (fd : FuncData), mg "need_tree" = some (.ref f) ∧ Fun K "need_tree" "need_tree" s_need_tree f fd
  f_subtree : ∃ (f : Addr) (fd : FuncData), mg "subtree" = some (.ref f) ∧ Fun K "subtree" "subtree" s_subtree f fd
  f_all_places : ∃ (f : Addr) (fd : FuncData), mg "all_places" = some (.ref f) ∧ Fun K "all_places" "all_places" s_all_places f fd
  f_is_rule : ∃ (f : Addr) (fd : FuncData), mg "is_rule" = some (.ref f) ∧ Fun K "is_rule" "is_rule" s_is_rule f fd
  f_is_state : ∃ (f : Addr) (fd : FuncData), mg "is_state" = some (.ref f) ∧ Fun K "is_state" "is_state" s_is_state f fd
  f_are_unlike_tags : ∃ (f : Addr) (fd : FuncData), mg "are_unlike_tags" = some (.ref f) ∧ Fun K "are_unlike_tags" "are_unlike_tags" s_are_unlike_tags f fd
  f_is_tape_value : ∃ (f : Addr) (fd : FuncData), mg "is_tape_value" = some (.ref f) ∧ Fun K "is_tape_value" "is_tape_value" s_is_tape_value f fd
  f_need_tape : ∃ (f : Addr) (fd : FuncData), mg "need_tape" = some (.ref f) ∧ Fun K "need_tape" "need_tape" s_need_tape f fd
  f_need_clock : ∃ (f : Addr) (fd : FuncData), mg "need_clock" = some (.ref f) ∧ Fun K "need_clock" "need_clock" s_need_clock f fd
  f_sign_of : ∃ (f : Addr) (fd : FuncData), mg "sign_of" = some (.ref f) ∧ Fun K "sign_of" "sign_of" s_sign_of f fd
  f_cells_of : ∃ (f : Addr) (fd : FuncData), mg "cells_of" = some (.ref f) ∧ Fun K "cells_of" "cells_of" s_cells_of f fd
  f_standing_after : ∃ (f : Addr) (fd : FuncData), mg "standing_after" = some (.ref f) ∧ Fun K "standing_after" "standing_after" s_standing_after f fd
  f_need_run : ∃ (f : Addr) (fd : FuncData), mg "need_run" = some (.ref f) ∧ Fun K "need_run" "need_run" s_need_run f fd
  f_tape_standing : ∃ (f : Addr) (fd : FuncData), mg "tape_standing" = some (.ref f) ∧ Fun K "tape_standing" "tape_standing" s_tape_standing f fd
  f_tape_outcome : ∃ (f : Addr) (fd : FuncData), mg "tape_outcome" = some (.ref f) ∧ Fun K "tape_outcome" "tape_outcome" s_tape_outcome f fd
  f__law_deck : ∃ (f : Addr) (fd : FuncData), mg "_law_deck" = some (.ref f) ∧ Fun K "_law_deck" "_law_deck" s__law_deck f fd
  f__law_draw : ∃ (f : Addr) (fd : FuncData), mg "_law_draw" = some (.ref f) ∧ Fun K "_law_draw" "_law_draw" s__law_draw f fd
  f__law_pick : ∃ (f : Addr) (fd : FuncData), mg "_law_pick" = some (.ref f) ∧ Fun K "_law_pick" "_law_pick" s__law_pick f fd
  f__law_is_tuple : ∃ (f : Addr) (fd : FuncData), mg "_law_is_tuple" = some (.ref f) ∧ Fun K "_law_is_tuple" "_law_is_tuple" s__law_is_tuple f fd
  f__law_tags : ∃ (f : Addr) (fd : FuncData), mg "_law_tags" = some (.ref f) ∧ Fun K "_law_tags" "_law_tags" s__law_tags f fd
  f__law_tree : ∃ (f : Addr) (fd : FuncData), mg "_law_tree" = some (.ref f) ∧ Fun K "_law_tree" "_law_tree" s__law_tree f fd
  f__law_map : ∃ (f : Addr) (fd : FuncData), mg "_law_map" = some (.ref f) ∧ Fun K "_law_map" "_law_map" s__law_map f fd
  f__law_power : ∃ (f : Addr) (fd : FuncData), mg "_law_power" = some (.ref f) ∧ Fun K "_law_power" "_law_power" s__law_power f fd
  f__law_tape : ∃ (f : Addr) (fd : FuncData), mg "_law_tape" = some (.ref f) ∧ Fun K "_law_tape" "_law_tape" s__law_tape f fd
  f__law_cells : ∃ (f : Addr) (fd : FuncData), mg "_law_cells" = some (.ref f) ∧ Fun K "_law_cells" "_law_cells" s__law_cells f fd
  f__law_standing : ∃ (f : Addr) (fd : FuncData), mg "_law_standing" = some (.ref f) ∧ Fun K "_law_standing" "_law_standing" s__law_standing f fd
  f__law_outcome : ∃ (f : Addr) (fd : FuncData), mg "_law_outcome" = some (.ref f) ∧ Fun K "_law_outcome" "_law_outcome" s__law_outcome f fd
  f__law_seeker : ∃ (f : Addr) (fd : FuncData), mg "_law_seeker" = some (.ref f) ∧ Fun K "_law_seeker" "_law_seeker" s__law_seeker f fd
  f__law_exchanged : ∃ (f : Addr) (fd : FuncData), mg "_law_exchanged" = some (.ref f) ∧ Fun K "_law_exchanged" "_law_exchanged" s__law_exchanged f fd
  f__law_ahead : ∃ (f : Addr) (fd : FuncData), mg "_law_ahead" = some (.ref f) ∧ Fun K "_law_ahead" "_law_ahead" s__law_ahead f fd
  f__law_are_steps_right : ∃ (f : Addr) (fd : FuncData), mg "_law_are_steps_right" = some (.ref f) ∧ Fun K "_law_are_steps_right" "_law_are_steps_right" s__law_are_steps_right f fd
  f_law : ∃ (f : Addr) (fd : FuncData), mg "law" = some (.ref f) ∧ Fun K "law" "law" s_law f fd
  z_all : mg "all" = none
  z_bool : mg "bool" = none
  z_int : mg "int" = none
  z_isinstance : mg "isinstance" = none
  z_len : mg "len" = none
  z_list : mg "list" = none
  z_max : mg "max" = none
  z_min : mg "min" = none
  z_range : mg "range" = none
  z_repr : mg "repr" = none
  z_set : mg "set" = none
  z_sorted : mg "sorted" = none
  z_str : mg "str" = none
  z_tuple : mg "tuple" = none
  c_LONGEST_TAG : Holds K mg "LONGEST_TAG" d_LONGEST_TAG
  c_MOVES : Holds K mg "MOVES" d_MOVES
  c_SMALL : Holds K mg "SMALL" d_SMALL
  er_BadTree : ∃ C fI q, PySem.EyX.ErrTxt K mg "BadTree" q "thing" C fI
  er_BadNumber : ∃ C fI q, PySem.EyX.ErrTxt K mg "BadNumber" q "thing" C fI
  er_BadMachine : ∃ C fI q, PySem.EyX.ErrTxt K mg "BadMachine" q "thing" C fI
abbrev N_is_integer : List Str := ["thing"]
theorem nd_is_integer : N_is_integer.Nodup := by decide +kernel
theorem sc_is_integer : FnScope N_is_integer ["thing"] (defScope s_is_integer) := ⟨rfl, rfl, rfl, nd_is_integer, rfl, by decide +kernel, by decide +kernel⟩
theorem B_is_integer : PosB "is_integer" s_is_integer ["thing"] := fun _ _ _ _ _ _ us hl => match us, hl with | [_], _ => rfl
abbrev N_is_from : List Str := ["thing", "least"]
theorem nd_is_from : N_is_from.Nodup := by decide +kernel
theorem sc_is_from : FnScope N_is_from ["thing", "least"] (defScope s_is_from) := ⟨rfl, rfl, rfl, nd_is_from, rfl, by decide +kernel, by decide +kernel⟩
theorem B_is_from : PosB "is_from" s_is_from ["thing", "least"] := fun _ _ _ _ _ _ us hl => match us, hl with | [_, _], _ => rfl
abbrev N_is_tuple : List Str := ["thing", "many"]
theorem nd_is_tuple : N_is_tuple.Nodup := by decide +kernel
theorem sc_is_tuple : FnScope N_is_tuple ["thing", "many"] (defScope s_is_tuple) := ⟨rfl, rfl, rfl, nd_is_tuple, rfl, by decide +kernel, by decide +kernel⟩
theorem B_is_tuple : PosB "is_tuple" s_is_tuple ["thing", "many"] := fun _ _ _ _ _ _ us hl => match us, hl with | [_, _], _ => rfl
abbrev N_is_tag_value : List Str := ["thing", "sign"]
theorem nd_is_tag_value : N_is_tag_value.Nodup := by decide +kernel
theorem sc_is_tag_value : FnScope N_is_tag_value ["thing"] (defScope s_is_tag_value) := ⟨rfl, rfl, rfl, nd_is_tag_value, rfl, by decide +kernel, by decide +kernel⟩
theorem B_is_tag_value : PosB "is_tag_value" s_is_tag_value ["thing"] := fun _ _ _ _ _ _ us hl => match us, hl with | [_], _ => rfl
abbrev N_is_tree_value : List Str := ["thing", "parts", "part"]
theorem nd_is_tree_value : N_is_tree_value.Nodup := by decide +kernel
theorem sc_is_tree_value : FnScope N_is_tree_value ["thing"] (defScope s_is_tree_value) := ⟨rfl, rfl, rfl, nd_is_tree_value, rfl, by decide +kernel, by decide +kernel⟩
theorem B_is_tree_value : PosB "is_tree_value" s_is_tree_value ["thing"] := fun _ _ _ _ _ _ us hl => match us, hl with | [_], _ => rfl
abbrev N_need_tree : List Str := ["tree"]
theorem nd_need_tree : N_need_tree.Nodup := by decide +kernel
theorem sc_need_tree : FnScope N_need_tree ["tree"] (defScope s_need_tree) := ⟨rfl, rfl, rfl, nd_need_tree, rfl, by decide +kernel, by decide +kernel⟩
theorem B_need_tree : PosB "need_tree" s_need_tree ["tree"] := fun _ _ _ _ _ _ us hl => match us, hl with | [_], _ => rfl
abbrev N_subtree : List Str := ["tree", "place", "letter"]
theorem nd_subtree : N_subtree.Nodup := by decide +kernel
theorem sc_subtree : FnScope N_subtree ["tree", "place"] (defScope s_subtree) := ⟨rfl, rfl, rfl, nd_subtree, rfl, by decide +kernel, by decide +kernel⟩
theorem B_subtree : PosB "subtree" s_subtree ["tree", "place"] := fun _ _ _ _ _ _ us hl => match us, hl with | [_, _], _ => rfl
abbrev N_all_places : List Str := ["tree", "found", "waiting", "place", "part"]
theorem nd_all_places : N_all_places.Nodup := by decide +kernel
theorem sc_all_places : FnScope N_all_places ["tree"] (defScope s_all_places) := ⟨rfl, rfl, rfl, nd_all_places, rfl, by decide +kernel, by decide +kernel⟩
theorem B_all_places : PosB "all_places" s_all_places ["tree"] := fun _ _ _ _ _ _ us hl => match us, hl with | [_], _ => rfl
abbrev N_is_rule : List Str := ["thing", "signs", "states", "part"]
theorem nd_is_rule : N_is_rule.Nodup := by decide +kernel
theorem sc_is_rule : FnScope N_is_rule ["thing", "signs", "states"] (defScope s_is_rule) := ⟨rfl, rfl, rfl, nd_is_rule, rfl, by decide +kernel, by decide +kernel⟩
theorem B_is_rule : PosB "is_rule" s_is_rule ["thing", "signs", "states"] := fun _ _ _ _ _ _ us hl => match us, hl with | [_, _, _], _ => rfl
abbrev N_is_state : List Str := ["thing", "signs", "states", "rule"]
theorem nd_is_state : N_is_state.Nodup := by decide +kernel
theorem sc_is_state : FnScope N_is_state ["thing", "signs", "states"] (defScope s_is_state) := ⟨rfl, rfl, rfl, nd_is_state, rfl, by decide +kernel, by decide +kernel⟩
theorem B_is_state : PosB "is_state" s_is_state ["thing", "signs", "states"] := fun _ _ _ _ _ _ us hl => match us, hl with | [_, _, _], _ => rfl
abbrev N_are_unlike_tags : List Str := ["thing", "tag"]
theorem nd_are_unlike_tags : N_are_unlike_tags.Nodup := by decide +kernel
theorem sc_are_unlike_tags : FnScope N_are_unlike_tags ["thing"] (defScope s_are_unlike_tags) := ⟨rfl, rfl, rfl, nd_are_unlike_tags, rfl, by decide +kernel, by decide +kernel⟩
theorem B_are_unlike_tags : PosB "are_unlike_tags" s_are_unlike_tags ["thing"] := fun _ _ _ _ _ _ us hl => match us, hl with | [_], _ => rfl
abbrev N_is_tape_value : List Str := ["thing", "signs", "states", "state"]
theorem nd_is_tape_value : N_is_tape_value.Nodup := by decide +kernel
theorem sc_is_tape_value : FnScope N_is_tape_value ["thing"] (defScope s_is_tape_value) := ⟨rfl, rfl, rfl, nd_is_tape_value, rfl, by decide +kernel, by decide +kernel⟩
theorem B_is_tape_value : PosB "is_tape_value" s_is_tape_value ["thing"] := fun _ _ _ _ _ _ us hl => match us, hl with | [_], _ => rfl
abbrev N_need_tape : List Str := ["machine"]
theorem nd_need_tape : N_need_tape.Nodup := by decide +kernel
theorem sc_need_tape : FnScope N_need_tape ["machine"] (defScope s_need_tape) := ⟨rfl, rfl, rfl, nd_need_tape, rfl, by decide +kernel, by decide +kernel⟩
theorem B_need_tape : PosB "need_tape" s_need_tape ["machine"] := fun _ _ _ _ _ _ us hl => match us, hl with | [_], _ => rfl
abbrev N_need_clock : List Str := ["c"]
theorem nd_need_clock : N_need_clock.Nodup := by decide +kernel
theorem sc_need_clock : FnScope N_need_clock ["c"] (defScope s_need_clock) := ⟨rfl, rfl, rfl, nd_need_clock, rfl, by decide +kernel, by decide +kernel⟩
theorem B_need_clock : PosB "need_clock" s_need_clock ["c"] := fun _ _ _ _ _ _ us hl => match us, hl with | [_], _ => rfl
abbrev N_sign_of : List Str := ["tags", "part"]
theorem nd_sign_of : N_sign_of.Nodup := by decide +kernel
theorem sc_sign_of : FnScope N_sign_of ["tags", "part"] (defScope s_sign_of) := ⟨rfl, rfl, rfl, nd_sign_of, rfl, by decide +kernel, by decide +kernel⟩
theorem B_sign_of : PosB "sign_of" s_sign_of ["tags", "part"] := fun _ _ _ _ _ _ us hl => match us, hl with | [_, _], _ => rfl
abbrev N_cells_of : List Str := ["machine", "tree", "c", "found", "many", "_", "place"]
theorem nd_cells_of : N_cells_of.Nodup := by decide +kernel
theorem sc_cells_of : FnScope N_cells_of ["machine", "tree", "c"] (defScope s_cells_of) := ⟨rfl, rfl, rfl, nd_cells_of, rfl, by decide +kernel, by decide +kernel⟩
theorem B_cells_of : PosB "cells_of" s_cells_of ["machine", "tree", "c"] := fun _ _ _ _ _ _ us hl => match us, hl with | [_, _, _], _ => rfl
abbrev N_standing_after : List Str := ["machine", "tree", "c", "many", "cells", "states", "state", "head", "last", "_", "sign", "move"]
theorem nd_standing_after : N_standing_after.Nodup := by decide +kernel
theorem sc_standing_after : FnScope N_standing_after ["machine", "tree", "c", "many"] (defScope s_standing_after) := ⟨rfl, rfl, rfl, nd_standing_after, rfl, by decide +kernel, by decide +kernel⟩
theorem B_standing_after : PosB "standing_after" s_standing_after ["machine", "tree", "c", "many"] := fun _ _ _ _ _ _ us hl => match us, hl with | [_, _, _, _], _ => rfl
abbrev N_need_run : List Str := ["machine", "tree", "c"]
theorem nd_need_run : N_need_run.Nodup := by decide +kernel
theorem sc_need_run : FnScope N_need_run ["machine", "tree", "c"] (defScope s_need_run) := ⟨rfl, rfl, rfl, nd_need_run, rfl, by decide +kernel, by decide +kernel⟩
theorem B_need_run : PosB "need_run" s_need_run ["machine", "tree", "c"] := fun _ _ _ _ _ _ us hl => match us, hl with | [_, _, _], _ => rfl
abbrev N_tape_standing : List Str := ["machine", "tree", "c", "many"]
theorem nd_tape_standing : N_tape_standing.Nodup := by decide +kernel
theorem sc_tape_standing : FnScope N_tape_standing ["machine", "tree", "c", "many"] (defScope s_tape_standing) := ⟨rfl, rfl, rfl, nd_tape_standing, rfl, by decide +kernel, by decide +kernel⟩
theorem B_tape_standing : PosB "tape_standing" s_tape_standing ["machine", "tree", "c", "many"] := fun _ _ _ _ _ _ us hl => match us, hl with | [_, _, _, _], _ => rfl
abbrev N_tape_outcome : List Str := ["machine", "tree", "c"]
theorem nd_tape_outcome : N_tape_outcome.Nodup := by decide +kernel
theorem sc_tape_outcome : FnScope N_tape_outcome ["machine", "tree", "c"] (defScope s_tape_outcome) := ⟨rfl, rfl, rfl, nd_tape_outcome, rfl, by decide +kernel, by decide +kernel⟩
theorem B_tape_outcome : PosB "tape_outcome" s_tape_outcome ["machine", "tree", "c"] := fun _ _ _ _ _ _ us hl => match us, hl with | [_, _, _], _ => rfl
abbrev N__law_deck : List Str := ["script", "mixed", "cell"]
theorem nd__law_deck : N__law_deck.Nodup := by decide +kernel
theorem sc__law_deck : FnScope N__law_deck ["script"] (defScope s__law_deck) := ⟨rfl, rfl, rfl, nd__law_deck, rfl, by decide +kernel, by decide +kernel⟩
theorem B__law_deck : PosB "_law_deck" s__law_deck ["script"] := fun _ _ _ _ _ _ us hl => match us, hl with | [_], _ => rfl
abbrev N__law_draw : List Str := ["deck", "many", "figure", "cell"]
theorem nd__law_draw : N__law_draw.Nodup := by decide +kernel
theorem sc__law_draw : FnScope N__law_draw ["deck", "many"] (defScope s__law_draw) := ⟨rfl, rfl, rfl, nd__law_draw, rfl, by decide +kernel, by decide +kernel⟩
theorem B__law_draw : PosB "_law_draw" s__law_draw ["deck", "many"] := fun _ _ _ _ _ _ us hl => match us, hl with | [_, _], _ => rfl
abbrev N__law_pick : List Str := ["deck", "some"]
theorem nd__law_pick : N__law_pick.Nodup := by decide +kernel
theorem sc__law_pick : FnScope N__law_pick ["deck", "some"] (defScope s__law_pick) := ⟨rfl, rfl, rfl, nd__law_pick, rfl, by decide +kernel, by decide +kernel⟩
theorem B__law_pick : PosB "_law_pick" s__law_pick ["deck", "some"] := fun _ _ _ _ _ _ us hl => match us, hl with | [_, _], _ => rfl
abbrev N__law_is_tuple : List Str := ["thing", "many"]
theorem nd__law_is_tuple : N__law_is_tuple.Nodup := by decide +kernel
theorem sc__law_is_tuple : FnScope N__law_is_tuple ["thing", "many"] (defScope s__law_is_tuple) := ⟨rfl, rfl, rfl, nd__law_is_tuple, rfl, by decide +kernel, by decide +kernel⟩
theorem B__law_is_tuple : PosB "_law_is_tuple" s__law_is_tuple ["thing", "many"] := fun _ _ _ _ _ _ us hl => match us, hl with | [_, _], _ => rfl
abbrev N__law_tags : List Str := ["deck", "many", "found", "turn", "size", "tag", "spare", "letter", "one"]
theorem nd__law_tags : N__law_tags.Nodup := by decide +kernel
theorem sc__law_tags : FnScope N__law_tags ["deck", "many"] (defScope s__law_tags) := ⟨rfl, rfl, rfl, nd__law_tags, rfl, by decide +kernel, by decide +kernel⟩
theorem B__law_tags : PosB "_law_tags" s__law_tags ["deck", "many"] := fun _ _ _ _ _ _ us hl => match us, hl with | [_, _], _ => rfl
abbrev N__law_tree : List Str := ["deck", "nodes", "tags", "left"]
theorem nd__law_tree : N__law_tree.Nodup := by decide +kernel
theorem sc__law_tree : FnScope N__law_tree ["deck", "nodes", "tags"] (defScope s__law_tree) := ⟨rfl, rfl, rfl, nd__law_tree, rfl, by decide +kernel, by decide +kernel⟩
theorem B__law_tree : PosB "_law_tree" s__law_tree ["deck", "nodes", "tags"] := fun _ _ _ _ _ _ us hl => match us, hl with | [_, _, _], _ => rfl
abbrev N__law_map : List Str := ["tree", "found", "todo", "place", "part", "ordered"]
theorem nd__law_map : N__law_map.Nodup := by decide +kernel
theorem sc__law_map : FnScope N__law_map ["tree"] (defScope s__law_map) := ⟨rfl, rfl, rfl, nd__law_map, rfl, by decide +kernel, by decide +kernel⟩
theorem B__law_map : PosB "_law_map" s__law_map ["tree"] := fun _ _ _ _ _ _ us hl => match us, hl with | [_], _ => rfl
abbrev N__law_power : List Str := ["base", "many", "found", "turn"]
theorem nd__law_power : N__law_power.Nodup := by decide +kernel
theorem sc__law_power : FnScope N__law_power ["base", "many"] (defScope s__law_power) := ⟨rfl, rfl, rfl, nd__law_power, rfl, by decide +kernel, by decide +kernel⟩
theorem B__law_power : PosB "_law_power" s__law_power ["base", "many"] := fun _ _ _ _ _ _ us hl => match us, hl with | [_, _], _ => rfl
abbrev N__law_tape : List Str := ["deck", "most", "tags", "signs", "many", "states", "state", "rules", "sign", "to"]
theorem nd__law_tape : N__law_tape.Nodup := by decide +kernel
theorem sc__law_tape : FnScope N__law_tape ["deck", "most"] (defScope s__law_tape) := ⟨rfl, rfl, rfl, nd__law_tape, rfl, by decide +kernel, by decide +kernel⟩
theorem B__law_tape : PosB "_law_tape" s__law_tape ["deck", "most"] := fun _ _ _ _ _ _ us hl => match us, hl with | [_, _], _ => rfl
abbrev N__law_cells : List Str := ["machine", "tree", "c", "kind", "tags", "signs", "states", "where", "found", "place", "tag"]
theorem nd__law_cells : N__law_cells.Nodup := by decide +kernel
theorem sc__law_cells : FnScope N__law_cells ["machine", "tree", "c"] (defScope s__law_cells) := ⟨rfl, rfl, rfl, nd__law_cells, rfl, by decide +kernel, by decide +kernel⟩
theorem B__law_cells : PosB "_law_cells" s__law_cells ["machine", "tree", "c"] := fun _ _ _ _ _ _ us hl => match us, hl with | [_, _, _], _ => rfl
abbrev N__law_standing : List Str := ["machine", "tree", "c", "many", "cells", "state", "head", "turn", "to", "sign", "move"]
theorem nd__law_standing : N__law_standing.Nodup := by decide +kernel
theorem sc__law_standing : FnScope N__law_standing ["machine", "tree", "c", "many"] (defScope s__law_standing) := ⟨rfl, rfl, rfl, nd__law_standing, rfl, by decide +kernel, by decide +kernel⟩
theorem B__law_standing : PosB "_law_standing" s__law_standing ["machine", "tree", "c", "many"] := fun _ _ _ _ _ _ us hl => match us, hl with | [_, _, _, _], _ => rfl
abbrev N__law_outcome : List Str := ["machine", "tree", "c", "many"]
theorem nd__law_outcome : N__law_outcome.Nodup := by decide +kernel
theorem sc__law_outcome : FnScope N__law_outcome ["machine", "tree", "c"] (defScope s__law_outcome) := ⟨rfl, rfl, rfl, nd__law_outcome, rfl, by decide +kernel, by decide +kernel⟩
theorem B__law_outcome : PosB "_law_outcome" s__law_outcome ["machine", "tree", "c"] := fun _ _ _ _ _ _ us hl => match us, hl with | [_, _, _], _ => rfl
abbrev N__law_seeker : List Str := ["deck", "tags", "signs", "wanted", "rules", "sign"]
theorem nd__law_seeker : N__law_seeker.Nodup := by decide +kernel
theorem sc__law_seeker : FnScope N__law_seeker ["deck"] (defScope s__law_seeker) := ⟨rfl, rfl, rfl, nd__law_seeker, rfl, by decide +kernel, by decide +kernel⟩
theorem B__law_seeker : PosB "_law_seeker" s__law_seeker ["deck"] := fun _ _ _ _ _ _ us hl => match us, hl with | [_], _ => rfl
abbrev N__law_exchanged : List Str := ["machine", "kind", "tags", "signs", "states", "many", "found", "state", "to", "sign", "move"]
theorem nd__law_exchanged : N__law_exchanged.Nodup := by decide +kernel
theorem sc__law_exchanged : FnScope N__law_exchanged ["machine"] (defScope s__law_exchanged) := ⟨rfl, rfl, rfl, nd__law_exchanged, rfl, by decide +kernel, by decide +kernel⟩
theorem B__law_exchanged : PosB "_law_exchanged" s__law_exchanged ["machine"] := fun _ _ _ _ _ _ us hl => match us, hl with | [_], _ => rfl
abbrev N__law_ahead : List Str := ["deck", "turn", "c", "machine", "wanted", "tree", "cells", "due", "told", "other", "last"]
theorem nd__law_ahead : N__law_ahead.Nodup := by decide +kernel
theorem sc__law_ahead : FnScope N__law_ahead ["deck"] (defScope s__law_ahead) := ⟨rfl, rfl, rfl, nd__law_ahead, rfl, by decide +kernel, by decide +kernel⟩
theorem B__law_ahead : PosB "_law_ahead" s__law_ahead ["deck"] := fun _ _ _ _ _ _ us hl => match us, hl with | [_], _ => rfl
abbrev N__law_are_steps_right : List Str := ["deck", "c", "machine", "tree", "size", "at", "many", "due", "told"]
theorem nd__law_are_steps_right : N__law_are_steps_right.Nodup := by decide +kernel
theorem sc__law_are_steps_right : FnScope N__law_are_steps_right ["deck"] (defScope s__law_are_steps_right) := ⟨rfl, rfl, rfl, nd__law_are_steps_right, rfl, by decide +kernel, by decide +kernel⟩
theorem B__law_are_steps_right : PosB "_law_are_steps_right" s__law_are_steps_right ["deck"] := fun _ _ _ _ _ _ us hl => match us, hl with | [_], _ => rfl
abbrev N_law : List Str := ["script", "deck"]
theorem nd_law : N_law.Nodup := by decide +kernel
theorem sc_law : FnScope N_law ["script"] (defScope s_law) := ⟨rfl, rfl, rfl, nd_law, rfl, by decide +kernel, by decide +kernel⟩
theorem B_law : PosB "law" s_law ["script"] := fun _ _ _ _ _ _ us hl => match us, hl with | [_], _ => rfl
section
variable {P : Program} {w : World} {K : PySem.W.Frag} {mg : Str → Option Value} {base : Heap}
def t_is_integer : DS := (dRet (dAndV (dCB dIsi (dCons (dVar 0) (dCons (dC (.ty "int")) dNil))) (dNotV (dCB dIsi (dCons (dVar 0) (dCons (dC (.ty "bool")) dNil))))))
theorem p_is_integer (G : Facts K mg) {k : Nat} {f : Addr} (cdv : Value) (A : Around) (outer : List Env) (s : Shared) (H : Hp) (E : XK) (hr : Room (k) (A.deeper (envOfC "is_integer" (defScope s_is_integer) s.heap.objs.size f cdv))) (hG : A.guards = some []) :
    PBD (cxOf CX0 P w K mg base N_is_integer "is_integer" (defScope s_is_integer) f cdv A outer s H E).nox (defBody s_is_integer) (t_is_integer) :=
  (db_one (ds_ret (de_and (de_callB cd_isi G.z_isinstance (da_cons (de_var 0) (da_cons (de_ty G.z_int) da_nil))) (de_one (de_not (de_callB cd_isi G.z_isinstance (da_cons (de_var 0) (da_cons (de_ty G.z_bool) da_nil))))))))
def t_is_from (sp_is_integer : SpD) : DS := (dRet (dAndV (dCall sp_is_integer (dCons (dVar 0) dNil)) (dOp dGe (dVar 0) (dVar 1))))
theorem p_is_from (G : Facts K mg) {k : Nat} {sp_is_integer : SpD} (h_is_integer : Has P w K mg base CX0 "is_integer" s_is_integer ["thing"] k sp_is_integer) {f : Addr} (cdv : Value) (A : Around) (outer : List Env) (s : Shared) (H : Hp) (E : XK) (hr : Room (k) (A.deeper (envOfC "is_from" (defScope s_is_from) s.heap.objs.size f cdv))) (hG : A.guards = some []) :
    PBD (cxOf CX0 P w K mg base N_is_from "is_from" (defScope s_is_from) f cdv A outer s H E).nox (defBody s_is_from) (t_is_from sp_is_integer) :=
  (db_one (ds_ret (de_and (de_call h_is_integer hr hG B_is_integer (da_cons (de_var 0) da_nil)) (de_one (de_cmp od_ge (de_var 0) (de_var 1) (by rfl))))))
def t_is_tuple : DS := (dRet (dAndV (dCB dIsi (dCons (dVar 0) (dCons (dC (.ty "tuple")) dNil))) (dOp dEq (dCB dLen (dCons (dVar 0) dNil)) (dVar 1))))
theorem p_is_tuple (G : Facts K mg) {k : Nat} {f : Addr} (cdv : Value) (A : Around) (outer : List Env) (s : Shared) (H : Hp) (E : XK) (hr : Room (k) (A.deeper (envOfC "is_tuple" (defScope s_is_tuple) s.heap.objs.size f cdv))) (hG : A.guards = some []) :
    PBD (cxOf CX0 P w K mg base N_is_tuple "is_tuple" (defScope s_is_tuple) f cdv A outer s H E).nox (defBody s_is_tuple) (t_is_tuple) :=
  (db_one (ds_ret (de_and (de_callB cd_isi G.z_isinstance (da_cons (de_var 0) (da_cons (de_ty G.z_tuple) da_nil))) (de_one (de_cmp (od_eq hr.units) (de_callB cd_len G.z_len (da_cons (de_var 0) da_nil)) (de_var 1) (by rfl))))))
def t_is_tag_value : DS := (dSeq (dIfS (dOr (dNot (dTest (dCB dIsi (dCons (dVar 0) (dCons (dC (.ty "str")) dNil))))) (dNot (dTest (dChain dLe dLe (dC (.int 1)) (dCB dLen (dCons (dVar 0) dNil)) (dC d_LONGEST_TAG))))) (dRet (dC (.bl false))) dNext) (dRet (dCB dAll (dCons (dLc [1] (dVal (dVar 0)) (gNm 1) dYes (dOp dIn (dVar 1) (dC d_SMALL))) dNil))))
theorem p_is_tag_value (G : Facts K mg) {k : Nat} {f : Addr} (cdv : Value) (A : Around) (outer : List Env) (s : Shared) (H : Hp) (E : XK) (hr : Room (k) (A.deeper (envOfC "is_tag_value" (defScope s_is_tag_value) s.heap.objs.size f cdv))) (hG : A.guards = some []) :
    PBD (cxOf CX0 P w K mg base N_is_tag_value "is_tag_value" (defScope s_is_tag_value) f cdv A outer s H E).nox (defBody s_is_tag_value) (t_is_tag_value) :=
  (db_cons (ds_if (dt_of (dw_or (dt_not (dt_val (de_callB cd_isi G.z_isinstance (da_cons (de_var 0) (da_cons (de_ty G.z_str) da_nil))))) (dw_or1 (dt_not (dt_chain od_le od_le de_int (de_callB cd_len G.z_len (da_cons (de_var 0) da_nil)) (de_glob G.c_LONGEST_TAG)))))) (db_one (ds_ret de_bl)) db_nil) (db_one (ds_ret (de_callB (cd_all rfl) G.z_all (da_cons (de_lc (own := [("sign", 1)]) rfl nd_is_tag_value (di_val (de_var 0)) (by dsimp only [cxOf, Cx.nox, Cx.blk, compEnvC, envOfC]; decide +kernel) (fun _ _ _ _ _ => (dg_name (vs := _) 1 nd_is_tag_value)) (fun _ _ _ _ _ => dts_nil) (fun _ _ _ _ _ => (de_cmp od_in (de_var 1) (de_glob G.c_SMALL) (by rfl)))) da_nil)))))
def t_is_tree_value (sp_is_tuple : SpD) (sp_is_tag_value : SpD) : DS := (dSeq (dSet 1 (dLstM (dCons (dVar 0) dNil))) (dSeq (dWhile (dTest (dOp dNeL (dVar 1) (dLst dNil))) (dSeq (dSet 2 (dMeth0 "list" dPop (dVar 1))) (dSeq (dIfS (dTest (dOp dIsN (dVar 2) (dC .non))) dCont dNext) (dSeq (dIfS (dOr (dNot (dTest (dCall sp_is_tuple (dCons (dVar 2) (dCons (dC (.int 3)) dNil))))) (dNot (dTest (dCall sp_is_tag_value (dCons (dOp dIx (dVar 2) (dC (.int 0))) dNil))))) (dRet (dC (.bl false))) dNext) (dDrop (dMeth "list" dExtendT (dVar 1) (dCons (dSl (dVar 2) (dPart (dC (.int 1))) dNoPart) dNil))))))) (dRet (dC (.bl true)))))
theorem p_is_tree_value (G : Facts K mg) {k : Nat} {sp_is_tuple : SpD} (h_is_tuple : Has P w K mg base CX0 "is_tuple" s_is_tuple ["thing", "many"] k sp_is_tuple) {sp_is_tag_value : SpD} (h_is_tag_value : Has P w K mg base CX0 "is_tag_value" s_is_tag_value ["thing"] k sp_is_tag_value) {f : Addr} (cdv : Value) (A : Around) (outer : List Env) (s : Shared) (H : Hp) (E : XK) (hr : Room (k) (A.deeper (envOfC "is_tree_value" (defScope s_is_tree_value) s.heap.objs.size f cdv))) (hG : A.guards = some []) :
    PBD (cxOf CX0 P w K mg base N_is_tree_value "is_tree_value" (defScope s_is_tree_value) f cdv A outer s H E).nox (defBody s_is_tree_value) (t_is_tree_value sp_is_tuple sp_is_tag_value) :=
  (db_cons (ds_set 1 nd_is_tree_value (de_lstM (da_cons (de_var 0) da_nil))) (db_cons (ds_while PassesOwn.never (dt_cmp (od_neL hr.units) (de_var 1) (de_lst da_nil) (by rfl)) (db_cons (ds_set 2 nd_is_tree_value (de_meth0 PySem.F.plainAttrs_list PySem.F.slot_list_pop PySem.F.type_list_pop md_pop (de_var 1))) (db_cons (ds_if (dt_cmp od_is (de_var 2) de_non (by rfl)) (db_one ds_cont) db_nil) (db_cons (ds_if (dt_of (dw_or (dt_not (dt_val (de_call h_is_tuple hr hG B_is_tuple (da_cons (de_var 2) (da_cons de_int da_nil))))) (dw_or1 (dt_not (dt_val (de_call h_is_tag_value hr hG B_is_tag_value (da_cons (de_ix (de_var 2) de_int) da_nil))))))) (db_one (ds_ret de_bl)) db_nil) (db_one (ds_expr (de_meth PySem.F.plainAttrs_list PySem.F.slot_list_extend PySem.F.type_list_extend md_extendT (de_var 1) (da_cons (de_sl (de_var 2) (do_some de_int) do_none) da_nil)))))))) (db_one (ds_ret de_bl))))
def t_need_tree (sp_is_tree_value : SpD) : DS := (dIfS (dNot (dTest (dCall sp_is_tree_value (dCons (dVar 0) dNil)))) (fun _ _ _ => False) dNext)
theorem p_need_tree (G : Facts K mg) {k : Nat} {sp_is_tree_value : SpD} (h_is_tree_value : Has P w K mg base CX0 "is_tree_value" s_is_tree_value ["thing"] k sp_is_tree_value) {f : Addr} (cdv : Value) (A : Around) (outer : List Env) (s : Shared) (H : Hp) (E : XK) (hr : Room (k) (A.deeper (envOfC "need_tree" (defScope s_need_tree) s.heap.objs.size f cdv))) (hG : A.guards = some []) :
    PBD (cxOf CX0 P w K mg base N_need_tree "need_tree" (defScope s_need_tree) f cdv A outer s H E).nox (defBody s_need_tree) (t_need_tree sp_is_tree_value) :=
  (db_one (ds_if (dt_not (dt_val (de_call h_is_tree_value hr hG B_is_tree_value (da_cons (de_var 0) da_nil)))) (db_one ds_never) db_nil))
def tx_need_tree (sp_is_tree_value : SpD) : DS := (dIfS (dNot (dTest (dCall sp_is_tree_value (dCons (dVar 0) dNil)))) (dRaise "BadTree" "thing" (dVar 0)) dNext)
theorem px_need_tree (G : Facts K mg) {k : Nat} {sp_is_tree_value : SpD} (h_is_tree_value : Has P w K mg base CX0 "is_tree_value" s_is_tree_value ["thing"] k sp_is_tree_value) {f : Addr} (cdv : Value) (A : Around) (outer : List Env) (s : Shared) (H : Hp) (E : XK) (hr : Room (k) (A.deeper (envOfC "need_tree" (defScope s_need_tree) s.heap.objs.size f cdv))) (hG : A.guards = some []) :
    PBD (cxOf (L2.CX P w) P w K mg base N_need_tree "need_tree" (defScope s_need_tree) f cdv A outer s H E) (defBody s_need_tree) (tx_need_tree sp_is_tree_value) :=
  (db_one (ds_if (dt_not (dt_val (de_call h_is_tree_value hr hG B_is_tree_value (da_cons (de_var 0) da_nil)))) (db_one (ds_raise G.er_BadTree (.inl rfl) rfl hr (de_var 0))) db_nil))
def t_subtree : DS := (dSeq (dFor (dVal (dVar 1)) (gNm 2) (dSet 0 (dIf (dTest (dOp dEq (dVar 2) (dC (.str "l")))) (dOp dIx (dVar 0) (dC (.int 1))) (dOp dIx (dVar 0) (dC (.int 2)))))) (dRet (dVar 0)))
theorem p_subtree (G : Facts K mg) {k : Nat} {f : Addr} (cdv : Value) (A : Around) (outer : List Env) (s : Shared) (H : Hp) (E : XK) (hr : Room (k) (A.deeper (envOfC "subtree" (defScope s_subtree) s.heap.objs.size f cdv))) (hG : A.guards = some []) :
    PBD (cxOf CX0 P w K mg base N_subtree "subtree" (defScope s_subtree) f cdv A outer s H E).nox (defBody s_subtree) (t_subtree) :=
  (db_cons (ds_for (vs := [2]) PassesOwn.never rfl (di_val (de_var 1)) (dg_name (vs := [2]) 2 nd_subtree) (db_one (ds_set 0 nd_subtree (de_if (dt_cmp (od_eq hr.units) (de_var 2) de_str (by rfl)) (de_ix (de_var 0) de_int) (de_ix (de_var 0) de_int))))) (db_one (ds_ret (de_var 0))))
def t_all_places : DS := (dSeq (dPar 1 2 (dCons (dLstM dNil) (dCons (dLstM (dCons (dTup (dCons (dC (.str "")) (dCons (dVar 0) dNil))) dNil)) dNil))) (dSeq (dWhile (dTest (dOp dNeL (dVar 2) (dLst dNil))) (dSeq (dAsg (dMeth0 "list" dPop (dVar 2)) (gTp 2 (gsCons (gNm 3) (gsCons (gNm 4) gsNil)))) (dSeq (dDrop (dMeth "list" dAppend (dVar 1) (dCons (dVar 3) dNil))) (dIfS (dTest (dOp dNotN (dVar 4) (dC .non))) (dSeq (dDrop (dMeth "list" dAppend (dVar 2) (dCons (dTup (dCons (dOp dAdd (dVar 3) (dC (.str "r"))) (dCons (dOp dIx (dVar 4) (dC (.int 2))) dNil))) dNil))) (dDrop (dMeth "list" dAppend (dVar 2) (dCons (dTup (dCons (dOp dAdd (dVar 3) (dC (.str "l"))) (dCons (dOp dIx (dVar 4) (dC (.int 1))) dNil))) dNil)))) dNext)))) (dRet (dVar 1))))
theorem p_all_places (G : Facts K mg) {k : Nat} {f : Addr} (cdv : Value) (A : Around) (outer : List Env) (s : Shared) (H : Hp) (E : XK) (hr : Room (k) (A.deeper (envOfC "all_places" (defScope s_all_places) s.heap.objs.size f cdv))) (hG : A.guards = some []) :
    PBD (cxOf CX0 P w K mg base N_all_places "all_places" (defScope s_all_places) f cdv A outer s H E).nox (defBody s_all_places) (t_all_places) :=
  (db_cons (ds_par 1 2 rfl nd_all_places (da_cons (de_lstM da_nil) (da_cons (de_lstM (da_cons (de_tup (da_cons de_str (da_cons (de_var 0) da_nil))) da_nil)) da_nil))) (db_cons (ds_while PassesOwn.never (dt_cmp (od_neL hr.units) (de_var 2) (de_lst da_nil) (by rfl)) (db_cons (ds_asg (vs := [3, 4]) (de_meth0 PySem.F.plainAttrs_list PySem.F.slot_list_pop PySem.F.type_list_pop md_pop (de_var 2)) (dg_tup rfl (dgs_cons (dg_name (vs := [3, 4]) 3 nd_all_places) (dgs_cons (dg_name (vs := [3, 4]) 4 nd_all_places) dgs_nil)))) (db_cons (ds_expr (de_meth PySem.F.plainAttrs_list PySem.F.slot_list_append PySem.F.type_list_append md_append (de_var 1) (da_cons (de_var 3) da_nil))) (db_one (ds_if (dt_cmp od_isNot (de_var 4) de_non (by rfl)) (db_cons (ds_expr (de_meth PySem.F.plainAttrs_list PySem.F.slot_list_append PySem.F.type_list_append md_append (de_var 2) (da_cons (de_tup (da_cons (de_op od_add (de_var 3) de_str) (da_cons (de_ix (de_var 4) de_int) da_nil))) da_nil))) (db_one (ds_expr (de_meth PySem.F.plainAttrs_list PySem.F.slot_list_append PySem.F.type_list_append md_append (de_var 2) (da_cons (de_tup (da_cons (de_op od_add (de_var 3) de_str) (da_cons (de_ix (de_var 4) de_int) da_nil))) da_nil))))) db_nil))))) (db_one (ds_ret (de_var 1)))))
def t_is_rule (sp_is_integer : SpD) (sp_is_tuple : SpD) : DS := (dSeq (dIfS (dOr (dNot (dTest (dCall sp_is_tuple (dCons (dVar 0) (dCons (dC (.int 3)) dNil))))) (dNot (dTest (dCB dAll (dCons (dLc [3] (dVal (dVar 0)) (gNm 3) dYes (dCall sp_is_integer (dCons (dVar 3) dNil))) dNil))))) (dRet (dC (.bl false))) dNext) (dRet (dAndV (dChain dLe dLe (dC (.int 0)) (dOp dIx (dVar 0) (dC (.int 0))) (dOp dAdd (dVar 2) (dC (.int 1)))) (dAndV (dChain dLe dLt (dC (.int 0)) (dOp dIx (dVar 0) (dC (.int 1))) (dVar 1)) (dOp dIn (dOp dIx (dVar 0) (dC (.int 2))) (dC d_MOVES))))))
theorem p_is_rule (G : Facts K mg) {k : Nat} {sp_is_integer : SpD} (h_is_integer : Has P w K mg base CX0 "is_integer" s_is_integer ["thing"] k sp_is_integer) {sp_is_tuple : SpD} (h_is_tuple : Has P w K mg base CX0 "is_tuple" s_is_tuple ["thing", "many"] k sp_is_tuple) {f : Addr} (cdv : Value) (A : Around) (outer : List Env) (s : Shared) (H : Hp) (E : XK) (hr : Room (k) (A.deeper (envOfC "is_rule" (defScope s_is_rule) s.heap.objs.size f cdv))) (hG : A.guards = some []) :
    PBD (cxOf CX0 P w K mg base N_is_rule "is_rule" (defScope s_is_rule) f cdv A outer s H E).nox (defBody s_is_rule) (t_is_rule sp_is_integer sp_is_tuple) :=
  (db_cons (ds_if (dt_of (dw_or (dt_not (dt_val (de_call h_is_tuple hr hG B_is_tuple (da_cons (de_var 0) (da_cons de_int da_nil))))) (dw_or1 (dt_not (dt_val (de_callB (cd_all rfl) G.z_all (da_cons (de_lc (own := [("part", 3)]) rfl nd_is_rule (di_val (de_var 0)) (by dsimp only [cxOf, Cx.nox, Cx.blk, compEnvC, envOfC]; decide +kernel) (fun _ _ _ _ _ => (dg_name (vs := _) 3 nd_is_rule)) (fun _ _ _ _ _ => dts_nil) (fun _ _ _ _ _ => (de_call h_is_integer hr hG B_is_integer (da_cons (de_var 3) da_nil)))) da_nil))))))) (db_one (ds_ret de_bl)) db_nil) (db_one (ds_ret (de_and (de_chain od_le od_le de_int (de_ix (de_var 0) de_int) (de_op od_add (de_var 2) de_int)) (de_and (de_chain od_le od_lt de_int (de_ix (de_var 0) de_int) (de_var 1)) (de_one (de_cmp od_in (de_ix (de_var 0) de_int) (de_glob G.c_MOVES) (by rfl))))))))
def t_is_state (sp_is_tuple : SpD) (sp_is_rule : SpD) : DS := (dRet (dAndV (dCall sp_is_tuple (dCons (dVar 0) (dCons (dVar 1) dNil))) (dCB dAll (dCons (dLc [3] (dVal (dVar 0)) (gNm 3) dYes (dCall sp_is_rule (dCons (dVar 3) (dCons (dVar 1) (dCons (dVar 2) dNil))))) dNil))))
theorem p_is_state (G : Facts K mg) {k : Nat} {sp_is_tuple : SpD} (h_is_tuple : Has P w K mg base CX0 "is_tuple" s_is_tuple ["thing", "many"] k sp_is_tuple) {sp_is_rule : SpD} (h_is_rule : Has P w K mg base CX0 "is_rule" s_is_rule ["thing", "signs", "states"] k sp_is_rule) {f : Addr} (cdv : Value) (A : Around) (outer : List Env) (s : Shared) (H : Hp) (E : XK) (hr : Room (k) (A.deeper (envOfC "is_state" (defScope s_is_state) s.heap.objs.size f cdv))) (hG : A.guards = some []) :
    PBD (cxOf CX0 P w K mg base N_is_state "is_state" (defScope s_is_state) f cdv A outer s H E).nox (defBody s_is_state) (t_is_state sp_is_tuple sp_is_rule) :=
  (db_one (ds_ret (de_and (de_call h_is_tuple hr hG B_is_tuple (da_cons (de_var 0) (da_cons (de_var 1) da_nil))) (de_one (de_callB (cd_all rfl) G.z_all (da_cons (de_lc (own := [("rule", 3)]) rfl nd_is_state (di_val (de_var 0)) (by dsimp only [cxOf, Cx.nox, Cx.blk, compEnvC, envOfC]; decide +kernel) (fun _ _ _ _ _ => (dg_name (vs := _) 3 nd_is_state)) (fun _ _ _ _ _ => dts_nil) (fun _ _ _ _ _ => (de_call h_is_rule hr hG B_is_rule (da_cons (de_var 3) (da_cons (de_var 1) (da_cons (de_var 2) da_nil)))))) da_nil))))))
def t_are_unlike_tags (sp_is_tag_value : SpD) : DS := (dRet (dAndV (dCB dIsi (dCons (dZv (dVar 0)) (dCons (dC (.ty "tuple")) dNil))) (dAndV (dCB dAll (dCons (dLc [1] (dVal (dZv (dVar 0))) (gNm 1) dYes (dCall sp_is_tag_value (dCons (dVar 1) dNil))) dNil)) (dOp dEq (dLenSet (dZv (dVar 0))) (dCB dLen (dCons (dZv (dVar 0)) dNil))))))
theorem p_are_unlike_tags (G : Facts K mg) {k : Nat} {sp_is_tag_value : SpD} (h_is_tag_value : Has P w K mg base CX0 "is_tag_value" s_is_tag_value ["thing"] k sp_is_tag_value) {f : Addr} (cdv : Value) (A : Around) (outer : List Env) (s : Shared) (H : Hp) (E : XK) (hr : Room (k) (A.deeper (envOfC "are_unlike_tags" (defScope s_are_unlike_tags) s.heap.objs.size f cdv))) (hG : A.guards = some []) :
    PBD (cxOf CX0 P w K mg base N_are_unlike_tags "are_unlike_tags" (defScope s_are_unlike_tags) f cdv A outer s H E).nox (defBody s_are_unlike_tags) (t_are_unlike_tags sp_is_tag_value) :=
  (db_one (ds_ret (de_and (de_callB cd_isi G.z_isinstance (da_cons (de_zv (de_var 0)) (da_cons (de_ty G.z_tuple) da_nil))) (de_and (de_callB (cd_all rfl) G.z_all (da_cons (de_lc (own := [("tag", 1)]) rfl nd_are_unlike_tags (di_val (de_zv (de_var 0))) (by dsimp only [cxOf, Cx.nox, Cx.blk, compEnvC, envOfC]; decide +kernel) (fun _ _ _ _ _ => (dg_name (vs := _) 1 nd_are_unlike_tags)) (fun _ _ _ _ _ => dts_nil) (fun _ _ _ _ _ => (de_call h_is_tag_value hr hG B_is_tag_value (da_cons (de_var 1) da_nil)))) da_nil)) (de_one (de_cmp (od_eq hr.units) (de_lenSet rfl G.z_len G.z_set (de_zv (de_var 0))) (de_callB cd_len G.z_len (da_cons (de_zv (de_var 0)) da_nil)) (by rfl)))))))
def t_is_tape_value (sp_is_from : SpD) (sp_is_tuple : SpD) (sp_is_state : SpD) (sp_are_unlike_tags : SpD) : DS := (dSeq (dIfS (dOr (dNot (dTest (dCall sp_is_tuple (dCons (dVar 0) (dCons (dC (.int 4)) dNil))))) (dOr (dTest (dOp dNe (dOp dIx (dVar 0) (dC (.int 0))) (dC (.str "tape")))) (dNot (dTest (dCall sp_are_unlike_tags (dCons (dOp dIx (dVar 0) (dC (.int 1))) dNil)))))) (dRet (dC (.bl false))) dNext) (dSeq (dAsg (dTup (dCons (dOp dIx (dVar 0) (dC (.int 2))) (dCons (dOp dIx (dVar 0) (dC (.int 3))) dNil))) (gTp 2 (gsCons (gNm 1) (gsCons (gNm 2) gsNil)))) (dSeq (dIfS (dOr (dNot (dTest (dCall sp_is_from (dCons (dVar 1) (dCons (dOp dAdd (dCB dLen (dCons (dZv (dOp dIx (dVar 0) (dC (.int 1)))) dNil)) (dC (.int 2))) dNil))))) (dOr (dNot (dTest (dCB dIsi (dCons (dVar 2) (dCons (dC (.ty "tuple")) dNil))))) (dTest (dOp dEq (dVar 2) (dTup dNil))))) (dRet (dC (.bl false))) dNext) (dRet (dCB dAll (dCons (dLc [3] (dVal (dVar 2)) (gNm 3) dYes (dCall sp_is_state (dCons (dVar 3) (dCons (dVar 1) (dCons (dCB dLen (dCons (dVar 2) dNil)) dNil))))) dNil))))))
theorem p_is_tape_value (G : Facts K mg) {k : Nat} {sp_is_from : SpD} (h_is_from : Has P w K mg base CX0 "is_from" s_is_from ["thing", "least"] k sp_is_from) {sp_is_tuple : SpD} (h_is_tuple : Has P w K mg base CX0 "is_tuple" s_is_tuple ["thing", "many"] k sp_is_tuple) {sp_is_state : SpD} (h_is_state : Has P w K mg base CX0 "is_state" s_is_state ["thing", "signs", "states"] k sp_is_state) {sp_are_unlike_tags : SpD} (h_are_unlike_tags : Has P w K mg base CX0 "are_unlike_tags" s_are_unlike_tags ["thing"] k sp_are_unlike_tags) {f : Addr} (cdv : Value) (A : Around) (outer : List Env) (s : Shared) (H : Hp) (E : XK) (hr : Room (k) (A.deeper (envOfC "is_tape_value" (defScope s_is_tape_value) s.heap.objs.size f cdv))) (hG : A.guards = some []) :
    PBD (cxOf CX0 P w K mg base N_is_tape_value "is_tape_value" (defScope s_is_tape_value) f cdv A outer s H E).nox (defBody s_is_tape_value) (t_is_tape_value sp_is_from sp_is_tuple sp_is_state sp_are_unlike_tags) :=
  (db_cons (ds_if (dt_of (dw_or (dt_not (dt_val (de_call h_is_tuple hr hG B_is_tuple (da_cons (de_var 0) (da_cons de_int da_nil))))) (dw_or (dt_cmp (od_ne hr.units) (de_ix (de_var 0) de_int) de_str (by rfl)) (dw_or1 (dt_not (dt_val (de_call h_are_unlike_tags hr hG B_are_unlike_tags (da_cons (de_ix (de_var 0) de_int) da_nil)))))))) (db_one (ds_ret de_bl)) db_nil) (db_cons (ds_asg (vs := [1, 2]) (de_tup (da_cons (de_ix (de_var 0) de_int) (da_cons (de_ix (de_var 0) de_int) da_nil))) (dg_tup rfl (dgs_cons (dg_name (vs := [1, 2]) 1 nd_is_tape_value) (dgs_cons (dg_name (vs := [1, 2]) 2 nd_is_tape_value) dgs_nil)))) (db_cons (ds_if (dt_of (dw_or (dt_not (dt_val (de_call h_is_from hr hG B_is_from (da_cons (de_var 1) (da_cons (de_op od_add (de_callB cd_len G.z_len (da_cons (de_zv (de_ix (de_var 0) de_int)) da_nil)) de_int) da_nil))))) (dw_or (dt_not (dt_val (de_callB cd_isi G.z_isinstance (da_cons (de_var 2) (da_cons (de_ty G.z_tuple) da_nil))))) (dw_or1 (dt_cmp (od_eq hr.units) (de_var 2) (de_tup da_nil) (by rfl)))))) (db_one (ds_ret de_bl)) db_nil) (db_one (ds_ret (de_callB (cd_all rfl) G.z_all (da_cons (de_lc (own := [("state", 3)]) rfl nd_is_tape_value (di_val (de_var 2)) (by dsimp only [cxOf, Cx.nox, Cx.blk, compEnvC, envOfC]; decide +kernel) (fun _ _ _ _ _ => (dg_name (vs := _) 3 nd_is_tape_value)) (fun _ _ _ _ _ => dts_nil) (fun _ _ _ _ _ => (de_call h_is_state hr hG B_is_state (da_cons (de_var 3) (da_cons (de_var 1) (da_cons (de_callB cd_len G.z_len (da_cons (de_var 2) da_nil)) da_nil)))))) da_nil)))))))
def t_need_tape (sp_is_tape_value : SpD) : DS := (dIfS (dNot (dTest (dCall sp_is_tape_value (dCons (dVar 0) dNil)))) (fun _ _ _ => False) dNext)
theorem p_need_tape (G : Facts K mg) {k : Nat} {sp_is_tape_value : SpD} (h_is_tape_value : Has P w K mg base CX0 "is_tape_value" s_is_tape_value ["thing"] k sp_is_tape_value) {f : Addr} (cdv : Value) (A : Around) (outer : List Env) (s : Shared) (H : Hp) (E : XK) (hr : Room (k) (A.deeper (envOfC "need_tape" (defScope s_need_tape) s.heap.objs.size f cdv))) (hG : A.guards = some []) :
    PBD (cxOf CX0 P w K mg base N_need_tape "need_tape" (defScope s_need_tape) f cdv A outer s H E).nox (defBody s_need_tape) (t_need_tape sp_is_tape_value) :=
  (db_one (ds_if (dt_not (dt_val (de_call h_is_tape_value hr hG B_is_tape_value (da_cons (de_var 0) da_nil)))) (db_one ds_never) db_nil))
def tx_need_tape (sp_is_tape_value : SpD) : DS := (dIfS (dNot (dTest (dCall sp_is_tape_value (dCons (dVar 0) dNil)))) (dRaise "BadMachine" "thing" (dVar 0)) dNext)
theorem px_need_tape (G : Facts K mg) {k : Nat} {sp_is_tape_value : SpD} (h_is_tape_value : Has P w K mg base CX0 "is_tape_value" s_is_tape_value ["thing"] k sp_is_tape_value) {f : Addr} (cdv : Value) (A : Around) (outer : List Env) (s : Shared) (H : Hp) (E : XK) (hr : Room (k) (A.deeper (envOfC "need_tape" (defScope s_need_tape) s.heap.objs.size f cdv))) (hG : A.guards = some []) :
    PBD (cxOf (L2.CX P w) P w K mg base N_need_tape "need_tape" (defScope s_need_tape) f cdv A outer s H E) (defBody s_need_tape) (tx_need_tape sp_is_tape_value) :=
  (db_one (ds_if (dt_not (dt_val (de_call h_is_tape_value hr hG B_is_tape_value (da_cons (de_var 0) da_nil)))) (db_one (ds_raise G.er_BadMachine (.inl rfl) rfl hr (de_var 0))) db_nil))
def t_need_clock (sp_is_from : SpD) : DS := (dIfS (dNot (dTest (dCall sp_is_from (dCons (dVar 0) (dCons (dC (.int 1)) dNil))))) (fun _ _ _ => False) dNext)
theorem p_need_clock (G : Facts K mg) {k : Nat} {sp_is_from : SpD} (h_is_from : Has P w K mg base CX0 "is_from" s_is_from ["thing", "least"] k sp_is_from) {f : Addr} (cdv : Value) (A : Around) (outer : List Env) (s : Shared) (H : Hp) (E : XK) (hr : Room (k) (A.deeper (envOfC "need_clock" (defScope s_need_clock) s.heap.objs.size f cdv))) (hG : A.guards = some []) :
    PBD (cxOf CX0 P w K mg base N_need_clock "need_clock" (defScope s_need_clock) f cdv A outer s H E).nox (defBody s_need_clock) (t_need_clock sp_is_from) :=
  (db_one (ds_if (dt_not (dt_val (de_call h_is_from hr hG B_is_from (da_cons (de_var 0) (da_cons de_int da_nil))))) (db_one ds_never) db_nil))
def tx_need_clock (sp_is_from : SpD) : DS := (dIfS (dNot (dTest (dCall sp_is_from (dCons (dVar 0) (dCons (dC (.int 1)) dNil))))) (dRaise "BadNumber" "thing" (dVar 0)) dNext)
theorem px_need_clock (G : Facts K mg) {k : Nat} {sp_is_from : SpD} (h_is_from : Has P w K mg base CX0 "is_from" s_is_from ["thing", "least"] k sp_is_from) {f : Addr} (cdv : Value) (A : Around) (outer : List Env) (s : Shared) (H : Hp) (E : XK) (hr : Room (k) (A.deeper (envOfC "need_clock" (defScope s_need_clock) s.heap.objs.size f cdv))) (hG : A.guards = some []) :
    PBD (cxOf (L2.CX P w) P w K mg base N_need_clock "need_clock" (defScope s_need_clock) f cdv A outer s H E) (defBody s_need_clock) (tx_need_clock sp_is_from) :=
  (db_one (ds_if (dt_not (dt_val (de_call h_is_from hr hG B_is_from (da_cons (de_var 0) (da_cons de_int da_nil))))) (db_one (ds_raise G.er_BadNumber (.inl rfl) rfl hr (de_var 0))) db_nil))
def t_sign_of : DS := (dSeq (dIfS (dTest (dOp dIsN (dVar 1) (dC .non))) (dRet (dC (.int 0))) dNext) (dRet (dIf (dTest (dOp dIn (dOp dIx (dVar 1) (dC (.int 0))) (dZv (dVar 0)))) (dOp dAdd (dIndexZ (dVar 0) (dCons (dOp dIx (dVar 1) (dC (.int 0))) dNil)) (dC (.int 1))) (dOp dAdd (dCB dLen (dCons (dZv (dVar 0)) dNil)) (dC (.int 1))))))
theorem p_sign_of (G : Facts K mg) {k : Nat} {f : Addr} (cdv : Value) (A : Around) (outer : List Env) (s : Shared) (H : Hp) (E : XK) (hr : Room (k) (A.deeper (envOfC "sign_of" (defScope s_sign_of) s.heap.objs.size f cdv))) (hG : A.guards = some []) :
    PBD (cxOf CX0 P w K mg base N_sign_of "sign_of" (defScope s_sign_of) f cdv A outer s H E).nox (defBody s_sign_of) (t_sign_of) :=
  (db_cons (ds_if (dt_cmp od_is (de_var 1) de_non (by rfl)) (db_one (ds_ret de_int)) db_nil) (db_one (ds_ret (de_if (dt_cmp od_in (de_ix (de_var 1) de_int) (de_zv (de_var 0)) (by rfl)) (de_op od_add (de_indexZ (de_var 0) (da_cons (de_ix (de_var 1) de_int) da_nil)) de_int) (de_op od_add (de_callB cd_len G.z_len (da_cons (de_zv (de_var 0)) da_nil)) de_int)))))
def t_cells_of (sp_subtree : SpD) (sp_all_places : SpD) (sp_sign_of : SpD) : DS := (dSeq (dSet 3 (dLc [6] (dVal (dCall sp_all_places (dCons (dVar 1) dNil))) (gNm 6) dYes (dCall sp_sign_of (dCons (dOp dIx (dVar 0) (dC (.int 1))) (dCons (dCall sp_subtree (dCons (dVar 1) (dCons (dVar 6) dNil))) dNil))))) (dSeq (dSet 4 (dC (.int 1))) (dSeq (dFor (dRng1 (dCons (dVar 2) dNil)) (gNm 5) (dSet 4 (dOp dMul (dVar 4) (dCB dLen (dCons (dVar 3) dNil))))) (dRet (dOp dAddM (dVar 3) (dOp dRepL (dLstM (dCons (dC (.int 0)) dNil)) (dOp dSub (dVar 4) (dCB dLen (dCons (dVar 3) dNil)))))))))
theorem p_cells_of (G : Facts K mg) {k : Nat} {sp_subtree : SpD} (h_subtree : Has P w K mg base CX0 "subtree" s_subtree ["tree", "place"] k sp_subtree) {sp_all_places : SpD} (h_all_places : Has P w K mg base CX0 "all_places" s_all_places ["tree"] k sp_all_places) {sp_sign_of : SpD} (h_sign_of : Has P w K mg base CX0 "sign_of" s_sign_of ["tags", "part"] k sp_sign_of) {f : Addr} (cdv : Value) (A : Around) (outer : List Env) (s : Shared) (H : Hp) (E : XK) (hr : Room (k) (A.deeper (envOfC "cells_of" (defScope s_cells_of) s.heap.objs.size f cdv))) (hG : A.guards = some []) :
    PBD (cxOf CX0 P w K mg base N_cells_of "cells_of" (defScope s_cells_of) f cdv A outer s H E).nox (defBody s_cells_of) (t_cells_of sp_subtree sp_all_places sp_sign_of) :=
  (db_cons (ds_setLc 3 (own := [("place", 6)]) rfl nd_cells_of (di_val (de_call h_all_places hr hG B_all_places (da_cons (de_var 1) da_nil))) (by dsimp only [cxOf, Cx.nox, Cx.blk, compEnvC, envOfC]; decide +kernel) (fun _ _ _ _ _ => (dg_name (vs := _) 6 nd_cells_of)) (fun _ _ _ _ _ => dts_nil) (fun _ _ _ _ _ => (de_call h_sign_of hr hG B_sign_of (da_cons (de_ix (de_var 0) de_int) (da_cons (de_call h_subtree hr hG B_subtree (da_cons (de_var 1) (da_cons (de_var 6) da_nil))) da_nil)))) (sw_true rfl rfl rfl rfl)) (db_cons (ds_set 4 nd_cells_of de_int) (db_cons (ds_for (vs := [5]) PassesOwn.never rfl (di_rng1 G.z_range (da_cons (de_var 2) da_nil)) (dg_name (vs := [5]) 5 nd_cells_of) (db_one (ds_set 4 nd_cells_of (de_op od_mul (de_var 4) (de_callB cd_len G.z_len (da_cons (de_var 3) da_nil)))))) (db_one (ds_ret (de_op od_addM (de_var 3) (de_op od_repL (de_lstM (da_cons de_int da_nil)) (de_op od_sub (de_var 4) (de_callB cd_len G.z_len (da_cons (de_var 3) da_nil))))))))))
def t_standing_after (sp_cells_of : SpD) : DS := (dSeq (dPar 4 5 (dCons (dCall sp_cells_of (dCons (dVar 0) (dCons (dVar 1) (dCons (dVar 2) dNil)))) (dCons (dOp dIx (dVar 0) (dC (.int 3))) dNil))) (dSeq (dPar3 6 7 8 (dCons (dC (.int 0)) (dCons (dC (.int 0)) (dCons (dOp dSub (dCB dLen (dCons (dVar 4) dNil)) (dC (.int 1))) dNil)))) (dSeq (dFor (dRng1 (dCons (dIf (dTest (dOp dIsN (dVar 3) (dC .non))) (dVar 8) (dVar 3)) dNil)) (gNm 9) (dSeq (dIfS (dTest (dOp dGe (dVar 6) (dCB dLen (dCons (dVar 5) dNil)))) dBreak dNext) (dSeq (dAsg (dOp dIx (dOp dIx (dVar 5) (dVar 6)) (dOp dIx (dVar 4) (dVar 7))) (gTp 3 (gsCons (gNm 6) (gsCons (gNm 10) (gsCons (gNm 11) gsNil))))) (dSeq (dLPut (dVar 4) (dVar 7) (dVar 10)) (dSet 7 (dCB dMin2 (dCons (dCB dMax2 (dCons (dOp dAdd (dVar 7) (dVar 11)) (dCons (dC (.int 0)) dNil))) (dCons (dVar 8) dNil)))))))) (dRet (dTup (dCons (dVar 6) (dCons (dVar 7) (dCons (dCB dTuple (dCons (dVar 4) dNil)) dNil))))))))
theorem p_standing_after (G : Facts K mg) {k : Nat} {sp_cells_of : SpD} (h_cells_of : Has P w K mg base CX0 "cells_of" s_cells_of ["machine", "tree", "c"] k sp_cells_of) {f : Addr} (cdv : Value) (A : Around) (outer : List Env) (s : Shared) (H : Hp) (E : XK) (hr : Room (k) (A.deeper (envOfC "standing_after" (defScope s_standing_after) s.heap.objs.size f cdv))) (hG : A.guards = some []) :
    PBD (cxOf CX0 P w K mg base N_standing_after "standing_after" (defScope s_standing_after) f cdv A outer s H E).nox (defBody s_standing_after) (t_standing_after sp_cells_of) :=
  (db_cons (ds_par 4 5 rfl nd_standing_after (da_cons (de_call h_cells_of hr hG B_cells_of (da_cons (de_var 0) (da_cons (de_var 1) (da_cons (de_var 2) da_nil)))) (da_cons (de_ix (de_var 0) de_int) da_nil))) (db_cons (ds_par3 6 7 8 rfl nd_standing_after (da_cons de_int (da_cons de_int (da_cons (de_op od_sub (de_callB cd_len G.z_len (da_cons (de_var 4) da_nil)) de_int) da_nil)))) (db_cons (ds_for (vs := [9]) PassesOwn.never rfl (di_rng1 G.z_range (da_cons (de_if (dt_cmp od_is (de_var 3) de_non (by rfl)) (de_var 8) (de_var 3)) da_nil)) (dg_name (vs := [9]) 9 nd_standing_after) (db_cons (ds_if (dt_cmp od_ge (de_var 6) (de_callB cd_len G.z_len (da_cons (de_var 5) da_nil)) (by rfl)) (db_one ds_break) db_nil) (db_cons (ds_asg (vs := [6, 10, 11]) (de_ix (de_ix (de_var 5) (de_var 6)) (de_ix (de_var 4) (de_var 7))) (dg_tup rfl (dgs_cons (dg_name (vs := [6, 10, 11]) 6 nd_standing_after) (dgs_cons (dg_name (vs := [6, 10, 11]) 10 nd_standing_after) (dgs_cons (dg_name (vs := [6, 10, 11]) 11 nd_standing_after) dgs_nil))))) (db_cons (ds_lput (de_var 4) (de_var 7) (de_var 10)) (db_one (ds_set 7 nd_standing_after (de_callB (cd_min2 rfl) G.z_min (da_cons (de_callB (cd_max2 rfl) G.z_max (da_cons (de_op od_add (de_var 7) (de_var 11)) (da_cons de_int da_nil))) (da_cons (de_var 8) da_nil))))))))) (db_one (ds_ret (de_tup (da_cons (de_var 6) (da_cons (de_var 7) (da_cons (de_callTy cd_tuple G.z_tuple (da_cons (de_var 4) da_nil)) da_nil)))))))))
def t_need_run (sp_need_tree : SpD) (sp_need_tape : SpD) (sp_need_clock : SpD) : DS := (dSeq (dDrop (dCall sp_need_tape (dCons (dVar 0) dNil))) (dSeq (dDrop (dCall sp_need_tree (dCons (dVar 1) dNil))) (dDrop (dCall sp_need_clock (dCons (dVar 2) dNil)))))
theorem p_need_run (G : Facts K mg) {k : Nat} {sp_need_tree : SpD} (h_need_tree : Has P w K mg base CX0 "need_tree" s_need_tree ["tree"] k sp_need_tree) {sp_need_tape : SpD} (h_need_tape : Has P w K mg base CX0 "need_tape" s_need_tape ["machine"] k sp_need_tape) {sp_need_clock : SpD} (h_need_clock : Has P w K mg base CX0 "need_clock" s_need_clock ["c"] k sp_need_clock) {f : Addr} (cdv : Value) (A : Around) (outer : List Env) (s : Shared) (H : Hp) (E : XK) (hr : Room (k) (A.deeper (envOfC "need_run" (defScope s_need_run) s.heap.objs.size f cdv))) (hG : A.guards = some []) :
    PBD (cxOf CX0 P w K mg base N_need_run "need_run" (defScope s_need_run) f cdv A outer s H E).nox (defBody s_need_run) (t_need_run sp_need_tree sp_need_tape sp_need_clock) :=
  (db_cons (ds_expr (de_call h_need_tape hr hG B_need_tape (da_cons (de_var 0) da_nil))) (db_cons (ds_expr (de_call h_need_tree hr hG B_need_tree (da_cons (de_var 1) da_nil))) (db_one (ds_expr (de_call h_need_clock hr hG B_need_clock (da_cons (de_var 2) da_nil))))))
def tx_need_run (spx_need_tree : SpD) (spx_need_tape : SpD) (spx_need_clock : SpD) : DS := (dSeq (dDropX (xCall spx_need_tape (dCons (dVar 0) dNil))) (dSeq (dDropX (xCall spx_need_tree (dCons (dVar 1) dNil))) (dDropX (xCall spx_need_clock (dCons (dVar 2) dNil)))))
theorem px_need_run (G : Facts K mg) {k : Nat} {spx_need_tree : SpD} (hx_need_tree : Has P w K mg base (L2.CX P w) "need_tree" s_need_tree ["tree"] k spx_need_tree) {spx_need_tape : SpD} (hx_need_tape : Has P w K mg base (L2.CX P w) "need_tape" s_need_tape ["machine"] k spx_need_tape) {spx_need_clock : SpD} (hx_need_clock : Has P w K mg base (L2.CX P w) "need_clock" s_need_clock ["c"] k spx_need_clock) {f : Addr} (cdv : Value) (A : Around) (outer : List Env) (s : Shared) (H : Hp) (E : XK) (hr : Room (k) (A.deeper (envOfC "need_run" (defScope s_need_run) s.heap.objs.size f cdv))) (hG : A.guards = some []) :
    PBD (cxOf (L2.CX P w) P w K mg base N_need_run "need_run" (defScope s_need_run) f cdv A outer s H E) (defBody s_need_run) (tx_need_run spx_need_tree spx_need_tape spx_need_clock) :=
  (db_cons (ds_exprX (dx_call hx_need_tape hr hG B_need_tape (da_cons (de_var 0) da_nil))) (db_cons (ds_exprX (dx_call hx_need_tree hr hG B_need_tree (da_cons (de_var 1) da_nil))) (db_one (ds_exprX (dx_call hx_need_clock hr hG B_need_clock (da_cons (de_var 2) da_nil))))))
def t_tape_standing (sp_is_from : SpD) (sp_standing_after : SpD) (sp_need_run : SpD) : DS := (dSeq (dDrop (dCall sp_need_run (dCons (dVar 0) (dCons (dVar 1) (dCons (dVar 2) dNil))))) (dSeq (dIfS (dNot (dTest (dCall sp_is_from (dCons (dVar 3) (dCons (dC (.int 0)) dNil))))) (fun _ _ _ => False) dNext) (dRet (dCall sp_standing_after (dCons (dVar 0) (dCons (dVar 1) (dCons (dVar 2) (dCons (dVar 3) dNil))))))))
theorem p_tape_standing (G : Facts K mg) {k : Nat} {sp_is_from : SpD} (h_is_from : Has P w K mg base CX0 "is_from" s_is_from ["thing", "least"] k sp_is_from) {sp_standing_after : SpD} (h_standing_after : Has P w K mg base CX0 "standing_after" s_standing_after ["machine", "tree", "c", "many"] k sp_standing_after) {sp_need_run : SpD} (h_need_run : Has P w K mg base CX0 "need_run" s_need_run ["machine", "tree", "c"] k sp_need_run) {f : Addr} (cdv : Value) (A : Around) (outer : List Env) (s : Shared) (H : Hp) (E : XK) (hr : Room (k) (A.deeper (envOfC "tape_standing" (defScope s_tape_standing) s.heap.objs.size f cdv))) (hG : A.guards = some []) :
    PBD (cxOf CX0 P w K mg base N_tape_standing "tape_standing" (defScope s_tape_standing) f cdv A outer s H E).nox (defBody s_tape_standing) (t_tape_standing sp_is_from sp_standing_after sp_need_run) :=
  (db_cons (ds_expr (de_call h_need_run hr hG B_need_run (da_cons (de_var 0) (da_cons (de_var 1) (da_cons (de_var 2) da_nil))))) (db_cons (ds_if (dt_not (dt_val (de_call h_is_from hr hG B_is_from (da_cons (de_var 3) (da_cons de_int da_nil))))) (db_one ds_never) db_nil) (db_one (ds_ret (de_call h_standing_after hr hG B_standing_after (da_cons (de_var 0) (da_cons (de_var 1) (da_cons (de_var 2) (da_cons (de_var 3) da_nil)))))))))
def tx_tape_standing (sp_is_from : SpD) (sp_standing_after : SpD) (spx_need_run : SpD) : DS := (dSeq (dDropX (xCall spx_need_run (dCons (dVar 0) (dCons (dVar 1) (dCons (dVar 2) dNil))))) (dSeq (dIfS (dNot (dTest (dCall sp_is_from (dCons (dVar 3) (dCons (dC (.int 0)) dNil))))) (dRaise "BadNumber" "thing" (dVar 3)) dNext) (dRet (dCall sp_standing_after (dCons (dVar 0) (dCons (dVar 1) (dCons (dVar 2) (dCons (dVar 3) dNil))))))))
theorem px_tape_standing (G : Facts K mg) {k : Nat} {sp_is_from : SpD} (h_is_from : Has P w K mg base CX0 "is_from" s_is_from ["thing", "least"] k sp_is_from) {sp_standing_after : SpD} (h_standing_after : Has P w K mg base CX0 "standing_after" s_standing_after ["machine", "tree", "c", "many"] k sp_standing_after) {spx_need_run : SpD} (hx_need_run : Has P w K mg base (L2.CX P w) "need_run" s_need_run ["machine", "tree", "c"] k spx_need_run) {f : Addr} (cdv : Value) (A : Around) (outer : List Env) (s : Shared) (H : Hp) (E : XK) (hr : Room (k) (A.deeper (envOfC "tape_standing" (defScope s_tape_standing) s.heap.objs.size f cdv))) (hG : A.guards = some []) :
    PBD (cxOf (L2.CX P w) P w K mg base N_tape_standing "tape_standing" (defScope s_tape_standing) f cdv A outer s H E) (defBody s_tape_standing) (tx_tape_standing sp_is_from sp_standing_after spx_need_run) :=
  (db_cons (ds_exprX (dx_call hx_need_run hr hG B_need_run (da_cons (de_var 0) (da_cons (de_var 1) (da_cons (de_var 2) da_nil))))) (db_cons (ds_if (dt_not (dt_val (de_call h_is_from hr hG B_is_from (da_cons (de_var 3) (da_cons de_int da_nil))))) (db_one (ds_raise G.er_BadNumber (.inl rfl) rfl hr (de_var 3))) db_nil) (db_one (ds_ret (de_call h_standing_after hr hG B_standing_after (da_cons (de_var 0) (da_cons (de_var 1) (da_cons (de_var 2) (da_cons (de_var 3) da_nil)))))))))
def t_tape_outcome (sp_standing_after : SpD) (sp_need_run : SpD) : DS := (dSeq (dDrop (dCall sp_need_run (dCons (dVar 0) (dCons (dVar 1) (dCons (dVar 2) dNil))))) (dRet (dOp dEq (dOp dIx (dCall sp_standing_after (dCons (dVar 0) (dCons (dVar 1) (dCons (dVar 2) (dCons (dC .non) dNil))))) (dC (.int 0))) (dCB dLen (dCons (dOp dIx (dVar 0) (dC (.int 3))) dNil)))))
theorem p_tape_outcome (G : Facts K mg) {k : Nat} {sp_standing_after : SpD} (h_standing_after : Has P w K mg base CX0 "standing_after" s_standing_after ["machine", "tree", "c", "many"] k sp_standing_after) {sp_need_run : SpD} (h_need_run : Has P w K mg base CX0 "need_run" s_need_run ["machine", "tree", "c"] k sp_need_run) {f : Addr} (cdv : Value) (A : Around) (outer : List Env) (s : Shared) (H : Hp) (E : XK) (hr : Room (k) (A.deeper (envOfC "tape_outcome" (defScope s_tape_outcome) s.heap.objs.size f cdv))) (hG : A.guards = some []) :
    PBD (cxOf CX0 P w K mg base N_tape_outcome "tape_outcome" (defScope s_tape_outcome) f cdv A outer s H E).nox (defBody s_tape_outcome) (t_tape_outcome sp_standing_after sp_need_run) :=
  (db_cons (ds_expr (de_call h_need_run hr hG B_need_run (da_cons (de_var 0) (da_cons (de_var 1) (da_cons (de_var 2) da_nil))))) (db_one (ds_ret (de_cmp (od_eq hr.units) (de_ix (de_call h_standing_after hr hG B_standing_after (da_cons (de_var 0) (da_cons (de_var 1) (da_cons (de_var 2) (da_cons de_non da_nil))))) de_int) (de_callB cd_len G.z_len (da_cons (de_ix (de_var 0) de_int) da_nil)) (by rfl)))))
def tx_tape_outcome (sp_standing_after : SpD) (spx_need_run : SpD) : DS := (dSeq (dDropX (xCall spx_need_run (dCons (dVar 0) (dCons (dVar 1) (dCons (dVar 2) dNil))))) (dRet (dOp dEq (dOp dIx (dCall sp_standing_after (dCons (dVar 0) (dCons (dVar 1) (dCons (dVar 2) (dCons (dC .non) dNil))))) (dC (.int 0))) (dCB dLen (dCons (dOp dIx (dVar 0) (dC (.int 3))) dNil)))))
theorem px_tape_outcome (G : Facts K mg) {k : Nat} {sp_standing_after : SpD} (h_standing_after : Has P w K mg base CX0 "standing_after" s_standing_after ["machine", "tree", "c", "many"] k sp_standing_after) {spx_need_run : SpD} (hx_need_run : Has P w K mg base (L2.CX P w) "need_run" s_need_run ["machine", "tree", "c"] k spx_need_run) {f : Addr} (cdv : Value) (A : Around) (outer : List Env) (s : Shared) (H : Hp) (E : XK) (hr : Room (k) (A.deeper (envOfC "tape_outcome" (defScope s_tape_outcome) s.heap.objs.size f cdv))) (hG : A.guards = some []) :
    PBD (cxOf (L2.CX P w) P w K mg base N_tape_outcome "tape_outcome" (defScope s_tape_outcome) f cdv A outer s H E) (defBody s_tape_outcome) (tx_tape_outcome sp_standing_after spx_need_run) :=
  (db_cons (ds_exprX (dx_call hx_need_run hr hG B_need_run (da_cons (de_var 0) (da_cons (de_var 1) (da_cons (de_var 2) da_nil))))) (db_one (ds_ret (de_cmp (od_eq hr.units) (de_ix (de_call h_standing_after hr hG B_standing_after (da_cons (de_var 0) (da_cons (de_var 1) (da_cons (de_var 2) (da_cons de_non da_nil))))) de_int) (de_callB cd_len G.z_len (da_cons (de_ix (de_var 0) de_int) da_nil)) (by rfl)))))
def t__law_deck : DS := (dSeq (dSet 1 (dC (.int 14406057))) (dSeq (dFor (dVal (dSl (dVar 0) dNoPart (dPart (dC (.int 63))))) (gNm 2) (dSet 1 (dOp dMod (dCB dInt1 (dCons (dOp dAdd (dOp dAdd (dOp dMul (dVar 1) (dC (.int 48271))) (dOp dMod (dCB dInt1 (dCons (dVar 2) dNil)) (dC (.int 2147483629)))) (dC (.int 57))) dNil)) (dC (.int 2147483563))))) (dRet (dDispM [((dC (.str "left")), (dRevM (dCB dList (dCons (dSl (dVar 0) dNoPart (dPart (dC (.int 63)))) dNil)))), ((dC (.str "mixed")), (dVar 1)), ((dC (.str "draws")), (dC (.int 0)))]))))
theorem p__law_deck (G : Facts K mg) {k : Nat} {f : Addr} (cdv : Value) (A : Around) (outer : List Env) (s : Shared) (H : Hp) (E : XK) (hr : Room (k) (A.deeper (envOfC "_law_deck" (defScope s__law_deck) s.heap.objs.size f cdv))) (hG : A.guards = some []) :
    PBD (cxOf CX0 P w K mg base N__law_deck "_law_deck" (defScope s__law_deck) f cdv A outer s H E).nox (defBody s__law_deck) (t__law_deck) :=
  (db_cons (ds_set 1 nd__law_deck de_int) (db_cons (ds_for (vs := [2]) PassesOwn.never rfl (di_val (de_sl (de_var 0) do_none (do_some de_int))) (dg_name (vs := [2]) 2 nd__law_deck) (db_one (ds_set 1 nd__law_deck (de_op od_mod (de_callTy cd_int1 G.z_int (da_cons (de_op od_add (de_op od_add (de_op od_mul (de_var 1) de_int) (de_op od_mod (de_callTy cd_int1 G.z_int (da_cons (de_var 2) da_nil)) de_int)) de_int) da_nil)) de_int)))) (db_one (ds_ret (de_dispM (dps_cons de_str (de_revM (de_callTy cd_list G.z_list (da_cons (de_sl (de_var 0) do_none (do_some de_int)) da_nil))) (dps_cons de_str (de_var 1) (dps_cons de_str de_int dps_nil))))))))
def t__law_draw : DS := (dOpen 0 (dSeq (dDPut (dVar 0) (dC (.str "draws")) (dOp dAdd (dDGet (dVar 0) (dC (.str "draws"))) (dC (.int 1)))) (dSeq (dSet 2 (dOp dAdd (dDGet (dVar 0) (dC (.str "mixed"))) (dOp dMul (dC (.int 53267)) (dDGet (dVar 0) (dC (.str "draws")))))) (dSeq (dIfS (dTest (dOp dNe (dDGet (dVar 0) (dC (.str "left"))) (dLst dNil))) (dSeq (dSet 3 (dMeth0 "list" dPop (dDGet (dVar 0) (dC (.str "left"))))) (dSeq (dIfS (dTest (dOp dGe (dVar 3) (dOp dPow (dC (.int 10)) (dC (.int 18))))) (dSeq (dDrop (dMeth "list" dAppend (dDGet (dVar 0) (dC (.str "left"))) (dCons (dOp dDiv (dVar 3) (dCB dMax2 (dCons (dC (.int 2)) (dCons (dVar 1) dNil)))) dNil))) (dRet (dOp dMod (dCB dInt1 (dCons (dVar 3) dNil)) (dVar 1)))) dNext) (dSet 2 (dOp dAdd (dVar 2) (dOp dMod (dCB dInt1 (dCons (dVar 3) dNil)) (dC (.int 2147483629))))))) dNext) (dSeq (dSet 2 (dOp dMod (dCB dInt1 (dCons (dOp dAdd (dOp dMul (dVar 2) (dC (.int 39373))) (dC (.int 57))) dNil)) (dC (.int 2147483647)))) (dSeq (dSet 2 (dOp dMod (dCB dInt1 (dCons (dOp dAdd (dOp dAdd (dOp dMul (dVar 2) (dVar 2)) (dOp dMul (dC (.int 60089)) (dDGet (dVar 0) (dC (.str "draws"))))) (dC (.int 57))) dNil)) (dC (.int 2147483587)))) (dSeq (dSet 2 (dOp dMod (dCB dInt1 (dCons (dOp dMul (dVar 2) (dC (.int 69621))) dNil)) (dC (.int 2147483563)))) (dRet (dOp dMod (dCB dInt1 (dCons (dOp dDiv (dVar 2) (dC (.int 64))) dNil)) (dVar 1))))))))))
theorem p__law_draw (G : Facts K mg) {k : Nat} {f : Addr} (cdv : Value) (A : Around) (outer : List Env) (s : Shared) (H : Hp) (E : XK) (hr : Room (k) (A.deeper (envOfC "_law_draw" (defScope s__law_draw) s.heap.objs.size f cdv))) (hG : A.guards = some []) :
    PBD (cxOf CX0 P w K mg base N__law_draw "_law_draw" (defScope s__law_draw) f cdv A outer s H E).nox (defBody s__law_draw) (t__law_draw) :=
  (db_open 0 (db_cons (ds_dput (hu_of hr) (de_var 0) de_str (de_op od_add (de_dget (hu_of hr) (de_var 0) de_str) de_int)) (db_cons (ds_set 2 nd__law_draw (de_op od_add (de_dget (hu_of hr) (de_var 0) de_str) (de_op od_mul de_int (de_dget (hu_of hr) (de_var 0) de_str)))) (db_cons (ds_if (dt_cmp (od_ne hr.units) (de_dget (hu_of hr) (de_var 0) de_str) (de_lst da_nil) (by rfl)) (db_cons (ds_set 3 nd__law_draw (de_meth0 PySem.F.plainAttrs_list PySem.F.slot_list_pop PySem.F.type_list_pop md_pop (de_dget (hu_of hr) (de_var 0) de_str))) (db_cons (ds_if (dt_cmp od_ge (de_var 3) (de_op od_pow de_int de_int) (by rfl)) (db_cons (ds_expr (de_meth PySem.F.plainAttrs_list PySem.F.slot_list_append PySem.F.type_list_append md_append (de_dget (hu_of hr) (de_var 0) de_str) (da_cons (de_op od_div (de_var 3) (de_callB (cd_max2 rfl) G.z_max (da_cons de_int (da_cons (de_var 1) da_nil)))) da_nil))) (db_one (ds_ret (de_op od_mod (de_callTy cd_int1 G.z_int (da_cons (de_var 3) da_nil)) (de_var 1))))) db_nil) (db_one (ds_set 2 nd__law_draw (de_op od_add (de_var 2) (de_op od_mod (de_callTy cd_int1 G.z_int (da_cons (de_var 3) da_nil)) de_int)))))) db_nil) (db_cons (ds_set 2 nd__law_draw (de_op od_mod (de_callTy cd_int1 G.z_int (da_cons (de_op od_add (de_op od_mul (de_var 2) de_int) de_int) da_nil)) de_int)) (db_cons (ds_set 2 nd__law_draw (de_op od_mod (de_callTy cd_int1 G.z_int (da_cons (de_op od_add (de_op od_add (de_op od_mul (de_var 2) (de_var 2)) (de_op od_mul de_int (de_dget (hu_of hr) (de_var 0) de_str))) de_int) da_nil)) de_int)) (db_cons (ds_set 2 nd__law_draw (de_op od_mod (de_callTy cd_int1 G.z_int (da_cons (de_op od_mul (de_var 2) de_int) da_nil)) de_int)) (db_one (ds_ret (de_op od_mod (de_callTy cd_int1 G.z_int (da_cons (de_op od_div (de_var 2) de_int) da_nil)) (de_var 1)))))))))))
def t__law_pick (sp__law_draw : SpD) : DS := (dRet (dOp dIx (dVar 1) (dCall sp__law_draw (dCons (dVar 0) (dCons (dCB dLen (dCons (dVar 1) dNil)) dNil)))))
theorem p__law_pick (G : Facts K mg) {k : Nat} {sp__law_draw : SpD} (h__law_draw : Has P w K mg base CX0 "_law_draw" s__law_draw ["deck", "many"] k sp__law_draw) {f : Addr} (cdv : Value) (A : Around) (outer : List Env) (s : Shared) (H : Hp) (E : XK) (hr : Room (k) (A.deeper (envOfC "_law_pick" (defScope s__law_pick) s.heap.objs.size f cdv))) (hG : A.guards = some []) :
    PBD (cxOf CX0 P w K mg base N__law_pick "_law_pick" (defScope s__law_pick) f cdv A outer s H E).nox (defBody s__law_pick) (t__law_pick sp__law_draw) :=
  (db_one (ds_ret (de_ix (de_var 1) (de_call h__law_draw hr hG B__law_draw (da_cons (de_var 0) (da_cons (de_callB cd_len G.z_len (da_cons (de_var 1) da_nil)) da_nil))))))
def t__law_is_tuple : DS := (dRet (dAndV (dCB dIsi (dCons (dVar 0) (dCons (dC (.ty "tuple")) dNil))) (dOp dEq (dCB dLen (dCons (dVar 0) dNil)) (dVar 1))))
theorem p__law_is_tuple (G : Facts K mg) {k : Nat} {f : Addr} (cdv : Value) (A : Around) (outer : List Env) (s : Shared) (H : Hp) (E : XK) (hr : Room (k) (A.deeper (envOfC "_law_is_tuple" (defScope s__law_is_tuple) s.heap.objs.size f cdv))) (hG : A.guards = some []) :
    PBD (cxOf CX0 P w K mg base N__law_is_tuple "_law_is_tuple" (defScope s__law_is_tuple) f cdv A outer s H E).nox (defBody s__law_is_tuple) (t__law_is_tuple) :=
  (db_one (ds_ret (de_and (de_callB cd_isi G.z_isinstance (da_cons (de_var 0) (da_cons (de_ty G.z_tuple) da_nil))) (de_one (de_cmp (od_eq hr.units) (de_callB cd_len G.z_len (da_cons (de_var 0) da_nil)) (de_var 1) (by rfl))))))
def t__law_tags (sp__law_pick : SpD) : DS := (dSeq (dSet 2 (dLstM dNil)) (dSeq (dFor (dRng1 (dCons (dVar 1) dNil)) (gNm 3) (dSeq (dSet 4 (dCall sp__law_pick (dCons (dVar 0) (dCons (dLst (dCons (dC (.int 1)) (dCons (dC (.int 2)) (dCons (dC (.int 1)) (dCons (dC (.int 8)) (dCons (dC (.int 4)) dNil)))))) dNil)))) (dSeq (dSet 5 (dMeth "str" dJoin (dC (.str "")) (dCons (dLc [7] (dRng1 (dCons (dVar 4) dNil)) (gNm 7) dYes (dCall sp__law_pick (dCons (dVar 0) (dCons (dC (.str "abcdefghijklmnopqrstuvwxyz")) dNil)))) dNil))) (dSeq (dSet 6 (dLc [8] (dVal (dTup (dCons (dVar 5) (dCons (dC (.str "yes")) (dCons (dC (.str "top")) (dCons (dC (.str "fun")) (dCons (dC (.str "zz")) dNil))))))) (gNm 8) (dTest (dOp dNotIn (dVar 8) (dVar 2))) (dVar 8))) (dDrop (dMeth "list" dAppend (dVar 2) (dCons (dOp dIx (dVar 6) (dC (.int 0))) dNil))))))) (dRet (dCB dTupleZ (dCons (dVar 2) dNil)))))
theorem p__law_tags (G : Facts K mg) {k : Nat} {sp__law_pick : SpD} (h__law_pick : Has P w K mg base CX0 "_law_pick" s__law_pick ["deck", "some"] k sp__law_pick) {f : Addr} (cdv : Value) (A : Around) (outer : List Env) (s : Shared) (H : Hp) (E : XK) (hr : Room (k) (A.deeper (envOfC "_law_tags" (defScope s__law_tags) s.heap.objs.size f cdv))) (hG : A.guards = some []) :
    PBD (cxOf CX0 P w K mg base N__law_tags "_law_tags" (defScope s__law_tags) f cdv A outer s H E).nox (defBody s__law_tags) (t__law_tags sp__law_pick) :=
  (db_cons (ds_set 2 nd__law_tags (de_lstM da_nil)) (db_cons (ds_for (vs := [3]) PassesOwn.never rfl (di_rng1 G.z_range (da_cons (de_var 1) da_nil)) (dg_name (vs := [3]) 3 nd__law_tags) (db_cons (ds_set 4 nd__law_tags (de_call h__law_pick hr hG B__law_pick (da_cons (de_var 0) (da_cons (de_lst (da_cons de_int (da_cons de_int (da_cons de_int (da_cons de_int (da_cons de_int da_nil)))))) da_nil)))) (db_cons (ds_set 5 nd__law_tags (de_meth PySem.F.plainAttrs_str PySem.F.slot_str_join PySem.F.type_str_join md_join de_str (da_cons (de_lc (own := [("letter", 7)]) rfl nd__law_tags (di_rng1 G.z_range (da_cons (de_var 4) da_nil)) (by dsimp only [cxOf, Cx.nox, Cx.blk, compEnvC, envOfC]; decide +kernel) (fun _ _ _ _ _ => (dg_name (vs := _) 7 nd__law_tags)) (fun _ _ _ _ _ => dts_nil) (fun _ _ _ _ _ => (de_call h__law_pick hr hG B__law_pick (da_cons (de_var 0) (da_cons de_str da_nil))))) da_nil))) (db_cons (ds_setLc 6 (own := [("one", 8)]) rfl nd__law_tags (di_val (de_tup (da_cons (de_var 5) (da_cons de_str (da_cons de_str (da_cons de_str (da_cons de_str da_nil))))))) (by dsimp only [cxOf, Cx.nox, Cx.blk, compEnvC, envOfC]; decide +kernel) (fun _ _ _ _ _ => (dg_name (vs := _) 8 nd__law_tags)) (fun _ _ _ _ _ => (dts_one (dt_cmp od_notIn (de_var 8) (de_var 2) (by rfl)))) (fun _ _ _ _ _ => (de_var 8)) (sw_true rfl rfl rfl rfl)) (db_one (ds_expr (de_meth PySem.F.plainAttrs_list PySem.F.slot_list_append PySem.F.type_list_append md_append (de_var 2) (da_cons (de_ix (de_var 6) de_int) da_nil)))))))) (db_one (ds_ret (de_callTy cd_tupleZ G.z_tuple (da_cons (de_var 2) da_nil))))))
def t__law_tree (sp__law_draw : SpD) (sp__law_pick : SpD) (sp__law_tree : SpD) : DS := (dSeq (dIfS (dTest (dOp dEq (dVar 1) (dC (.int 0)))) (dRet (dC .non)) dNext) (dSeq (dSet 3 (dCall sp__law_draw (dCons (dVar 0) (dCons (dVar 1) dNil)))) (dRet (dTup (dCons (dCall sp__law_pick (dCons (dVar 0) (dCons (dVar 2) dNil))) (dCons (dCall sp__law_tree (dCons (dVar 0) (dCons (dVar 3) (dCons (dVar 2) dNil)))) (dCons (dCall sp__law_tree (dCons (dVar 0) (dCons (dOp dSub (dOp dSub (dVar 1) (dC (.int 1))) (dVar 3)) (dCons (dVar 2) dNil)))) dNil)))))))
theorem p__law_tree (G : Facts K mg) {k : Nat} {sp__law_draw : SpD} (h__law_draw : Has P w K mg base CX0 "_law_draw" s__law_draw ["deck", "many"] k sp__law_draw) {sp__law_pick : SpD} (h__law_pick : Has P w K mg base CX0 "_law_pick" s__law_pick ["deck", "some"] k sp__law_pick) {sp__law_tree : SpD} (h__law_tree : Has P w K mg base CX0 "_law_tree" s__law_tree ["deck", "nodes", "tags"] k sp__law_tree) {f : Addr} (cdv : Value) (A : Around) (outer : List Env) (s : Shared) (H : Hp) (E : XK) (hr : Room (k) (A.deeper (envOfC "_law_tree" (defScope s__law_tree) s.heap.objs.size f cdv))) (hG : A.guards = some []) :
    PBD (cxOf CX0 P w K mg base N__law_tree "_law_tree" (defScope s__law_tree) f cdv A outer s H E).nox (defBody s__law_tree) (t__law_tree sp__law_draw sp__law_pick sp__law_tree) :=
  (db_cons (ds_if (dt_cmp (od_eq hr.units) (de_var 1) de_int (by rfl)) (db_one (ds_ret de_non)) db_nil) (db_cons (ds_set 3 nd__law_tree (de_call h__law_draw hr hG B__law_draw (da_cons (de_var 0) (da_cons (de_var 1) da_nil)))) (db_one (ds_ret (de_tup (da_cons (de_call h__law_pick hr hG B__law_pick (da_cons (de_var 0) (da_cons (de_var 2) da_nil))) (da_cons (de_call h__law_tree hr hG B__law_tree (da_cons (de_var 0) (da_cons (de_var 3) (da_cons (de_var 2) da_nil)))) (da_cons (de_call h__law_tree hr hG B__law_tree (da_cons (de_var 0) (da_cons (de_op od_sub (de_op od_sub (de_var 1) de_int) (de_var 3)) (da_cons (de_var 2) da_nil)))) da_nil))))))))
def t__law_map : DS := (dSeq (dPar 1 2 (dCons dDict0M (dCons (dLstM (dCons (dTup (dCons (dC (.str "")) (dCons (dVar 0) dNil))) dNil)) dNil))) (dSeq (dWhile (dTest (dOp dNeL (dVar 2) (dLst dNil))) (dSeq (dAsg (dMeth0 "list" dPop (dVar 2)) (gTp 2 (gsCons (gNm 3) (gsCons (gNm 4) gsNil)))) (dSeq (dDPut (dVar 1) (dVar 3) (dIf (dTest (dOp dIsN (dVar 4) (dC .non))) (dC .non) (dOp dIx (dVar 4) (dC (.int 0))))) (dDrop (dMeth "list" dExtendL (dVar 2) (dCons (dIf (dTest (dOp dNotN (dVar 4) (dC .non))) (dLst (dCons (dTup (dCons (dOp dAdd (dVar 3) (dC (.str "l"))) (dCons (dOp dIx (dVar 4) (dC (.int 1))) dNil))) (dCons (dTup (dCons (dOp dAdd (dVar 3) (dC (.str "r"))) (dCons (dOp dIx (dVar 4) (dC (.int 2))) dNil))) dNil))) (dLst dNil)) dNil)))))) (dSeq (dSet 5 dDict0M) (dSeq (dFor (dVal (dCB dSortedK (dCons (dVar 1) dNil))) (gNm 3) (dDPut (dVar 5) (dVar 3) (dDGet (dVar 1) (dVar 3)))) (dRet (dVar 5))))))
theorem p__law_map (G : Facts K mg) {k : Nat} {f : Addr} (cdv : Value) (A : Around) (outer : List Env) (s : Shared) (H : Hp) (E : XK) (hr : Room (k) (A.deeper (envOfC "_law_map" (defScope s__law_map) s.heap.objs.size f cdv))) (hG : A.guards = some []) :
    PBD (cxOf CX0 P w K mg base N__law_map "_law_map" (defScope s__law_map) f cdv A outer s H E).nox (defBody s__law_map) (t__law_map) :=
  (db_cons (ds_par 1 2 rfl nd__law_map (da_cons de_dict0M (da_cons (de_lstM (da_cons (de_tup (da_cons de_str (da_cons (de_var 0) da_nil))) da_nil)) da_nil))) (db_cons (ds_while PassesOwn.never (dt_cmp (od_neL hr.units) (de_var 2) (de_lst da_nil) (by rfl)) (db_cons (ds_asg (vs := [3, 4]) (de_meth0 PySem.F.plainAttrs_list PySem.F.slot_list_pop PySem.F.type_list_pop md_pop (de_var 2)) (dg_tup rfl (dgs_cons (dg_name (vs := [3, 4]) 3 nd__law_map) (dgs_cons (dg_name (vs := [3, 4]) 4 nd__law_map) dgs_nil)))) (db_cons (ds_dput (hu_of hr) (de_var 1) (de_var 3) (de_if (dt_cmp od_is (de_var 4) de_non (by rfl)) de_non (de_ix (de_var 4) de_int))) (db_one (ds_expr (de_meth PySem.F.plainAttrs_list PySem.F.slot_list_extend PySem.F.type_list_extend md_extendL (de_var 2) (da_cons (de_if (dt_cmp od_isNot (de_var 4) de_non (by rfl)) (de_lst (da_cons (de_tup (da_cons (de_op od_add (de_var 3) de_str) (da_cons (de_ix (de_var 4) de_int) da_nil))) (da_cons (de_tup (da_cons (de_op od_add (de_var 3) de_str) (da_cons (de_ix (de_var 4) de_int) da_nil))) da_nil))) (de_lst da_nil)) da_nil))))))) (db_cons (ds_set 5 nd__law_map de_dict0M) (db_cons (ds_for (vs := [3]) PassesOwn.never rfl (di_val (de_callB (cd_sortedK rfl) G.z_sorted (da_cons (de_var 1) da_nil))) (dg_name (vs := [3]) 3 nd__law_map) (db_one (ds_dput (hu_of hr) (de_var 5) (de_var 3) (de_dget (hu_of hr) (de_var 1) (de_var 3))))) (db_one (ds_ret (de_var 5)))))))
def t__law_power : DS := (dSeq (dSet 2 (dC (.int 1))) (dSeq (dFor (dRng1 (dCons (dVar 1) dNil)) (gNm 3) (dSet 2 (dOp dMul (dVar 2) (dVar 0)))) (dRet (dVar 2))))
theorem p__law_power (G : Facts K mg) {k : Nat} {f : Addr} (cdv : Value) (A : Around) (outer : List Env) (s : Shared) (H : Hp) (E : XK) (hr : Room (k) (A.deeper (envOfC "_law_power" (defScope s__law_power) s.heap.objs.size f cdv))) (hG : A.guards = some []) :
    PBD (cxOf CX0 P w K mg base N__law_power "_law_power" (defScope s__law_power) f cdv A outer s H E).nox (defBody s__law_power) (t__law_power) :=
  (db_cons (ds_set 2 nd__law_power de_int) (db_cons (ds_for (vs := [3]) PassesOwn.never rfl (di_rng1 G.z_range (da_cons (de_var 1) da_nil)) (dg_name (vs := [3]) 3 nd__law_power) (db_one (ds_set 2 nd__law_power (de_op od_mul (de_var 2) (de_var 0))))) (db_one (ds_ret (de_var 2)))))
def t__law_tape (sp__law_draw : SpD) (sp__law_pick : SpD) (sp__law_tags : SpD) : DS := (dSeq (dSet 2 (dCall sp__law_tags (dCons (dVar 0) (dCons (dCall sp__law_pick (dCons (dVar 0) (dCons (dLst (dCons (dC (.int 1)) (dCons (dC (.int 2)) (dCons (dC (.int 0)) (dCons (dC (.int 3)) dNil))))) dNil))) dNil)))) (dSeq (dSet 3 (dCB dMin2 (dCons (dC (.int 5)) (dCons (dOp dAdd (dOp dAdd (dCB dLen (dCons (dZv (dVar 2)) dNil)) (dC (.int 2))) (dCall sp__law_draw (dCons (dVar 0) (dCons (dC (.int 2)) dNil)))) dNil)))) (dSeq (dPar 4 5 (dCons (dOp dAdd (dC (.int 1)) (dCall sp__law_draw (dCons (dVar 0) (dCons (dVar 1) dNil)))) (dCons (dLstM dNil) dNil))) (dSeq (dFor (dRng1 (dCons (dVar 4) dNil)) (gNm 6) (dSeq (dSet 7 (dLstM dNil)) (dSeq (dFor (dRng1 (dCons (dVar 3) dNil)) (gNm 8) (dSeq (dSet 9 (dCall sp__law_pick (dCons (dVar 0) (dCons (dLst (dCons (dCall sp__law_draw (dCons (dVar 0) (dCons (dOp dAdd (dVar 4) (dC (.int 2))) dNil))) (dCons (dVar 6) (dCons (dVar 4) (dCons (dCall sp__law_draw (dCons (dVar 0) (dCons (dVar 4) dNil))) dNil))))) dNil)))) (dDrop (dMeth "list" dAppend (dVar 7) (dCons (dTup (dCons (dVar 9) (dCons (dCall sp__law_pick (dCons (dVar 0) (dCons (dLst (dCons (dVar 8) (dCons (dCall sp__law_draw (dCons (dVar 0) (dCons (dVar 3) dNil))) dNil))) dNil))) (dCons (dCall sp__law_pick (dCons (dVar 0) (dCons (dLst (dCons (dC (.int 1)) (dCons (dC (.int 1)) (dCons (dUn dNeg (dC (.int 1))) (dCons (dC (.int 0)) (dCons (dC (.int 1)) dNil)))))) dNil))) dNil)))) dNil))))) (dDrop (dMeth "list" dAppend (dVar 5) (dCons (dCB dTuple (dCons (dVar 7) dNil)) dNil)))))) (dRet (dTup (dCons (dC (.str "tape")) (dCons (dVar 2) (dCons (dVar 3) (dCons (dCB dTuple (dCons (dVar 5) dNil)) dNil))))))))))
theorem p__law_tape (G : Facts K mg) {k : Nat} {sp__law_draw : SpD} (h__law_draw : Has P w K mg base CX0 "_law_draw" s__law_draw ["deck", "many"] k sp__law_draw) {sp__law_pick : SpD} (h__law_pick : Has P w K mg base CX0 "_law_pick" s__law_pick ["deck", "some"] k sp__law_pick) {sp__law_tags : SpD} (h__law_tags : Has P w K mg base CX0 "_law_tags" s__law_tags ["deck", "many"] k sp__law_tags) {f : Addr} (cdv : Value) (A : Around) (outer : List Env) (s : Shared) (H : Hp) (E : XK) (hr : Room (k) (A.deeper (envOfC "_law_tape" (defScope s__law_tape) s.heap.objs.size f cdv))) (hG : A.guards = some []) :
    PBD (cxOf CX0 P w K mg base N__law_tape "_law_tape" (defScope s__law_tape) f cdv A outer s H E).nox (defBody s__law_tape) (t__law_tape sp__law_draw sp__law_pick sp__law_tags) :=
  (db_cons (ds_set 2 nd__law_tape (de_call h__law_tags hr hG B__law_tags (da_cons (de_var 0) (da_cons (de_call h__law_pick hr hG B__law_pick (da_cons (de_var 0) (da_cons (de_lst (da_cons de_int (da_cons de_int (da_cons de_int (da_cons de_int da_nil))))) da_nil))) da_nil)))) (db_cons (ds_set 3 nd__law_tape (de_callB (cd_min2 rfl) G.z_min (da_cons de_int (da_cons (de_op od_add (de_op od_add (de_callB cd_len G.z_len (da_cons (de_zv (de_var 2)) da_nil)) de_int) (de_call h__law_draw hr hG B__law_draw (da_cons (de_var 0) (da_cons de_int da_nil)))) da_nil)))) (db_cons (ds_par 4 5 rfl nd__law_tape (da_cons (de_op od_add de_int (de_call h__law_draw hr hG B__law_draw (da_cons (de_var 0) (da_cons (de_var 1) da_nil)))) (da_cons (de_lstM da_nil) da_nil))) (db_cons (ds_for (vs := [6]) PassesOwn.never rfl (di_rng1 G.z_range (da_cons (de_var 4) da_nil)) (dg_name (vs := [6]) 6 nd__law_tape) (db_cons (ds_set 7 nd__law_tape (de_lstM da_nil)) (db_cons (ds_for (vs := [8]) PassesOwn.never rfl (di_rng1 G.z_range (da_cons (de_var 3) da_nil)) (dg_name (vs := [8]) 8 nd__law_tape) (db_cons (ds_set 9 nd__law_tape (de_call h__law_pick hr hG B__law_pick (da_cons (de_var 0) (da_cons (de_lst (da_cons (de_call h__law_draw hr hG B__law_draw (da_cons (de_var 0) (da_cons (de_op od_add (de_var 4) de_int) da_nil))) (da_cons (de_var 6) (da_cons (de_var 4) (da_cons (de_call h__law_draw hr hG B__law_draw (da_cons (de_var 0) (da_cons (de_var 4) da_nil))) da_nil))))) da_nil)))) (db_one (ds_expr (de_meth PySem.F.plainAttrs_list PySem.F.slot_list_append PySem.F.type_list_append md_append (de_var 7) (da_cons (de_tup (da_cons (de_var 9) (da_cons (de_call h__law_pick hr hG B__law_pick (da_cons (de_var 0) (da_cons (de_lst (da_cons (de_var 8) (da_cons (de_call h__law_draw hr hG B__law_draw (da_cons (de_var 0) (da_cons (de_var 3) da_nil))) da_nil))) da_nil))) (da_cons (de_call h__law_pick hr hG B__law_pick (da_cons (de_var 0) (da_cons (de_lst (da_cons de_int (da_cons de_int (da_cons (de_un ud_neg de_int) (da_cons de_int (da_cons de_int da_nil)))))) da_nil))) da_nil)))) da_nil)))))) (db_one (ds_expr (de_meth PySem.F.plainAttrs_list PySem.F.slot_list_append PySem.F.type_list_append md_append (de_var 5) (da_cons (de_callTy cd_tuple G.z_tuple (da_cons (de_var 7) da_nil)) da_nil))))))) (db_one (ds_ret (de_tup (da_cons de_str (da_cons (de_var 2) (da_cons (de_var 3) (da_cons (de_callTy cd_tuple G.z_tuple (da_cons (de_var 5) da_nil)) da_nil)))))))))))
def t__law_cells (sp__law_map : SpD) (sp__law_power : SpD) : DS := (dSeq (dAsg (dVar 0) (gTp 4 (gsCons (gNm 3) (gsCons (gNm 4) (gsCons (gNm 5) (gsCons (gNm 6) gsNil)))))) (dSeq (dPar 7 8 (dCons (dCall sp__law_map (dCons (dVar 1) dNil)) (dCons (dLstM dNil) dNil))) (dSeq (dForK 7 (gNm 9) (dSeq (dSet 10 (dDGet (dVar 7) (dVar 9))) (dDrop (dMeth "list" dAppend (dVar 8) (dCons (dIf (dTest (dOp dIsN (dVar 10) (dC .non))) (dC (.int 0)) (dIf (dTest (dOp dIn (dVar 10) (dZv (dVar 4)))) (dOp dAdd (dIndexZ (dVar 4) (dCons (dVar 10) dNil)) (dC (.int 1))) (dOp dAdd (dCB dLen (dCons (dZv (dVar 4)) dNil)) (dC (.int 1))))) dNil))))) (dRet (dOp dAddM (dVar 8) (dOp dRepL (dLstM (dCons (dC (.int 0)) dNil)) (dOp dSub (dCall sp__law_power (dCons (dCB dLen (dCons (dVar 8) dNil)) (dCons (dVar 2) dNil))) (dCB dLen (dCons (dVar 8) dNil)))))))))
theorem p__law_cells (G : Facts K mg) {k : Nat} {sp__law_map : SpD} (h__law_map : Has P w K mg base CX0 "_law_map" s__law_map ["tree"] k sp__law_map) {sp__law_power : SpD} (h__law_power : Has P w K mg base CX0 "_law_power" s__law_power ["base", "many"] k sp__law_power) {f : Addr} (cdv : Value) (A : Around) (outer : List Env) (s : Shared) (H : Hp) (E : XK) (hr : Room (k) (A.deeper (envOfC "_law_cells" (defScope s__law_cells) s.heap.objs.size f cdv))) (hG : A.guards = some []) :
    PBD (cxOf CX0 P w K mg base N__law_cells "_law_cells" (defScope s__law_cells) f cdv A outer s H E).nox (defBody s__law_cells) (t__law_cells sp__law_map sp__law_power) :=
  (db_cons (ds_asg (vs := [3, 4, 5, 6]) (de_var 0) (dg_tup rfl (dgs_cons (dg_name (vs := [3, 4, 5, 6]) 3 nd__law_cells) (dgs_cons (dg_name (vs := [3, 4, 5, 6]) 4 nd__law_cells) (dgs_cons (dg_name (vs := [3, 4, 5, 6]) 5 nd__law_cells) (dgs_cons (dg_name (vs := [3, 4, 5, 6]) 6 nd__law_cells) dgs_nil)))))) (db_cons (ds_par 7 8 rfl nd__law_cells (da_cons (de_call h__law_map hr hG B__law_map (da_cons (de_var 1) da_nil)) (da_cons (de_lstM da_nil) da_nil))) (db_cons (ds_forK (vs := [9]) 7 PassesOwn.never rfl (dg_name (vs := [9]) 9 nd__law_cells) (db_cons (ds_set 10 nd__law_cells (de_dget (hu_of hr) (de_var 7) (de_var 9))) (db_one (ds_expr (de_meth PySem.F.plainAttrs_list PySem.F.slot_list_append PySem.F.type_list_append md_append (de_var 8) (da_cons (de_if (dt_cmp od_is (de_var 10) de_non (by rfl)) de_int (de_if (dt_cmp od_in (de_var 10) (de_zv (de_var 4)) (by rfl)) (de_op od_add (de_indexZ (de_var 4) (da_cons (de_var 10) da_nil)) de_int) (de_op od_add (de_callB cd_len G.z_len (da_cons (de_zv (de_var 4)) da_nil)) de_int))) da_nil)))))) (db_one (ds_ret (de_op od_addM (de_var 8) (de_op od_repL (de_lstM (da_cons de_int da_nil)) (de_op od_sub (de_call h__law_power hr hG B__law_power (da_cons (de_callB cd_len G.z_len (da_cons (de_var 8) da_nil)) (da_cons (de_var 2) da_nil))) (de_callB cd_len G.z_len (da_cons (de_var 8) da_nil))))))))))
def t__law_standing (sp__law_cells : SpD) : DS := (dSeq (dPar3 4 5 6 (dCons (dCall sp__law_cells (dCons (dVar 0) (dCons (dVar 1) (dCons (dVar 2) dNil)))) (dCons (dC (.int 0)) (dCons (dC (.int 0)) dNil)))) (dSeq (dFor (dRng1 (dCons (dVar 3) dNil)) (gNm 7) (dIfS (dTest (dOp dLt (dVar 5) (dCB dLen (dCons (dOp dIx (dVar 0) (dC (.int 3))) dNil)))) (dSeq (dAsg (dOp dIx (dOp dIx (dOp dIx (dVar 0) (dC (.int 3))) (dVar 5)) (dOp dIx (dVar 4) (dVar 6))) (gTp 3 (gsCons (gNm 8) (gsCons (gNm 9) (gsCons (gNm 10) gsNil))))) (dSeq (dLPut (dVar 4) (dVar 6) (dVar 9)) (dPar 6 5 (dCons (dCB dMin2 (dCons (dOp dSub (dCB dLen (dCons (dVar 4) dNil)) (dC (.int 1))) (dCons (dCB dMax2 (dCons (dC (.int 0)) (dCons (dOp dAdd (dVar 6) (dVar 10)) dNil))) dNil))) (dCons (dVar 8) dNil))))) dNext)) (dRet (dTup (dCons (dVar 5) (dCons (dVar 6) (dCons (dCB dTuple (dCons (dVar 4) dNil)) dNil)))))))
theorem p__law_standing (G : Facts K mg) {k : Nat} {sp__law_cells : SpD} (h__law_cells : Has P w K mg base CX0 "_law_cells" s__law_cells ["machine", "tree", "c"] k sp__law_cells) {f : Addr} (cdv : Value) (A : Around) (outer : List Env) (s : Shared) (H : Hp) (E : XK) (hr : Room (k) (A.deeper (envOfC "_law_standing" (defScope s__law_standing) s.heap.objs.size f cdv))) (hG : A.guards = some []) :
    PBD (cxOf CX0 P w K mg base N__law_standing "_law_standing" (defScope s__law_standing) f cdv A outer s H E).nox (defBody s__law_standing) (t__law_standing sp__law_cells) :=
  (db_cons (ds_par3 4 5 6 rfl nd__law_standing (da_cons (de_call h__law_cells hr hG B__law_cells (da_cons (de_var 0) (da_cons (de_var 1) (da_cons (de_var 2) da_nil)))) (da_cons de_int (da_cons de_int da_nil)))) (db_cons (ds_for (vs := [7]) PassesOwn.never rfl (di_rng1 G.z_range (da_cons (de_var 3) da_nil)) (dg_name (vs := [7]) 7 nd__law_standing) (db_one (ds_if (dt_cmp od_lt (de_var 5) (de_callB cd_len G.z_len (da_cons (de_ix (de_var 0) de_int) da_nil)) (by rfl)) (db_cons (ds_asg (vs := [8, 9, 10]) (de_ix (de_ix (de_ix (de_var 0) de_int) (de_var 5)) (de_ix (de_var 4) (de_var 6))) (dg_tup rfl (dgs_cons (dg_name (vs := [8, 9, 10]) 8 nd__law_standing) (dgs_cons (dg_name (vs := [8, 9, 10]) 9 nd__law_standing) (dgs_cons (dg_name (vs := [8, 9, 10]) 10 nd__law_standing) dgs_nil))))) (db_cons (ds_lput (de_var 4) (de_var 6) (de_var 9)) (db_one (ds_par 6 5 rfl nd__law_standing (da_cons (de_callB (cd_min2 rfl) G.z_min (da_cons (de_op od_sub (de_callB cd_len G.z_len (da_cons (de_var 4) da_nil)) de_int) (da_cons (de_callB (cd_max2 rfl) G.z_max (da_cons de_int (da_cons (de_op od_add (de_var 6) (de_var 10)) da_nil))) da_nil))) (da_cons (de_var 8) da_nil)))))) db_nil))) (db_one (ds_ret (de_tup (da_cons (de_var 5) (da_cons (de_var 6) (da_cons (de_callTy cd_tuple G.z_tuple (da_cons (de_var 4) da_nil)) da_nil))))))))
def t__law_outcome (sp__law_cells : SpD) (sp__law_standing : SpD) : DS := (dSeq (dSet 3 (dCB dLen (dCons (dCall sp__law_cells (dCons (dVar 0) (dCons (dVar 1) (dCons (dVar 2) dNil)))) dNil))) (dRet (dOp dEq (dOp dIx (dCall sp__law_standing (dCons (dVar 0) (dCons (dVar 1) (dCons (dVar 2) (dCons (dOp dSub (dVar 3) (dC (.int 1))) dNil))))) (dC (.int 0))) (dCB dLen (dCons (dOp dIx (dVar 0) (dC (.int 3))) dNil)))))
theorem p__law_outcome (G : Facts K mg) {k : Nat} {sp__law_cells : SpD} (h__law_cells : Has P w K mg base CX0 "_law_cells" s__law_cells ["machine", "tree", "c"] k sp__law_cells) {sp__law_standing : SpD} (h__law_standing : Has P w K mg base CX0 "_law_standing" s__law_standing ["machine", "tree", "c", "many"] k sp__law_standing) {f : Addr} (cdv : Value) (A : Around) (outer : List Env) (s : Shared) (H : Hp) (E : XK) (hr : Room (k) (A.deeper (envOfC "_law_outcome" (defScope s__law_outcome) s.heap.objs.size f cdv))) (hG : A.guards = some []) :
    PBD (cxOf CX0 P w K mg base N__law_outcome "_law_outcome" (defScope s__law_outcome) f cdv A outer s H E).nox (defBody s__law_outcome) (t__law_outcome sp__law_cells sp__law_standing) :=
  (db_cons (ds_set 3 nd__law_outcome (de_callB cd_len G.z_len (da_cons (de_call h__law_cells hr hG B__law_cells (da_cons (de_var 0) (da_cons (de_var 1) (da_cons (de_var 2) da_nil)))) da_nil))) (db_one (ds_ret (de_cmp (od_eq hr.units) (de_ix (de_call h__law_standing hr hG B__law_standing (da_cons (de_var 0) (da_cons (de_var 1) (da_cons (de_var 2) (da_cons (de_op od_sub (de_var 3) de_int) da_nil))))) de_int) (de_callB cd_len G.z_len (da_cons (de_ix (de_var 0) de_int) da_nil)) (by rfl)))))
def t__law_seeker (sp__law_draw : SpD) (sp__law_tags : SpD) : DS := (dSeq (dSet 1 (dCall sp__law_tags (dCons (dVar 0) (dCons (dOp dAdd (dC (.int 1)) (dCall sp__law_draw (dCons (dVar 0) (dCons (dC (.int 3)) dNil)))) dNil)))) (dSeq (dSet 2 (dOp dAdd (dCB dLen (dCons (dZv (dVar 1)) dNil)) (dC (.int 2)))) (dSeq (dPar 3 4 (dCons (dCall sp__law_draw (dCons (dVar 0) (dCons (dVar 2) dNil))) (dCons (dLstM dNil) dNil))) (dSeq (dFor (dRng1 (dCons (dVar 2) dNil)) (gNm 5) (dDrop (dMeth "list" dAppend (dVar 4) (dCons (dIf (dTest (dOp dEq (dVar 5) (dVar 3))) (dTup (dCons (dC (.int 1)) (dCons (dVar 5) (dCons (dC (.int 0)) dNil)))) (dTup (dCons (dC (.int 0)) (dCons (dCall sp__law_draw (dCons (dVar 0) (dCons (dVar 2) dNil))) (dCons (dC (.int 1)) dNil))))) dNil)))) (dRet (dTup (dCons (dTup (dCons (dC (.str "tape")) (dCons (dVar 1) (dCons (dVar 2) (dCons (dTup (dCons (dCB dTuple (dCons (dVar 4) dNil)) dNil)) dNil))))) (dCons (dVar 3) dNil))))))))
theorem p__law_seeker (G : Facts K mg) {k : Nat} {sp__law_draw : SpD} (h__law_draw : Has P w K mg base CX0 "_law_draw" s__law_draw ["deck", "many"] k sp__law_draw) {sp__law_tags : SpD} (h__law_tags : Has P w K mg base CX0 "_law_tags" s__law_tags ["deck", "many"] k sp__law_tags) {f : Addr} (cdv : Value) (A : Around) (outer : List Env) (s : Shared) (H : Hp) (E : XK) (hr : Room (k) (A.deeper (envOfC "_law_seeker" (defScope s__law_seeker) s.heap.objs.size f cdv))) (hG : A.guards = some []) :
    PBD (cxOf CX0 P w K mg base N__law_seeker "_law_seeker" (defScope s__law_seeker) f cdv A outer s H E).nox (defBody s__law_seeker) (t__law_seeker sp__law_draw sp__law_tags) :=
  (db_cons (ds_set 1 nd__law_seeker (de_call h__law_tags hr hG B__law_tags (da_cons (de_var 0) (da_cons (de_op od_add de_int (de_call h__law_draw hr hG B__law_draw (da_cons (de_var 0) (da_cons de_int da_nil)))) da_nil)))) (db_cons (ds_set 2 nd__law_seeker (de_op od_add (de_callB cd_len G.z_len (da_cons (de_zv (de_var 1)) da_nil)) de_int)) (db_cons (ds_par 3 4 rfl nd__law_seeker (da_cons (de_call h__law_draw hr hG B__law_draw (da_cons (de_var 0) (da_cons (de_var 2) da_nil))) (da_cons (de_lstM da_nil) da_nil))) (db_cons (ds_for (vs := [5]) PassesOwn.never rfl (di_rng1 G.z_range (da_cons (de_var 2) da_nil)) (dg_name (vs := [5]) 5 nd__law_seeker) (db_one (ds_expr (de_meth PySem.F.plainAttrs_list PySem.F.slot_list_append PySem.F.type_list_append md_append (de_var 4) (da_cons (de_if (dt_cmp (od_eq hr.units) (de_var 5) (de_var 3) (by rfl)) (de_tup (da_cons de_int (da_cons (de_var 5) (da_cons de_int da_nil)))) (de_tup (da_cons de_int (da_cons (de_call h__law_draw hr hG B__law_draw (da_cons (de_var 0) (da_cons (de_var 2) da_nil))) (da_cons de_int da_nil))))) da_nil))))) (db_one (ds_ret (de_tup (da_cons (de_tup (da_cons de_str (da_cons (de_var 1) (da_cons (de_var 2) (da_cons (de_tup (da_cons (de_callTy cd_tuple G.z_tuple (da_cons (de_var 4) da_nil)) da_nil)) da_nil))))) (da_cons (de_var 3) da_nil)))))))))
def t__law_exchanged : DS := (dSeq (dAsg (dVar 0) (gTp 4 (gsCons (gNm 1) (gsCons (gNm 2) (gsCons (gNm 3) (gsCons (gNm 4) gsNil)))))) (dSeq (dAsg (dTup (dCons (dCB dLen (dCons (dVar 4) dNil)) (dCons (dLstM dNil) dNil))) (gTp 2 (gsCons (gNm 5) (gsCons (gNm 6) gsNil)))) (dSeq (dFor (dVal (dVar 4)) (gNm 7) (dDrop (dMeth "list" dAppend (dVar 6) (dCons (dCB dTuple (dCons (dLc [8, 9, 10] (dVal (dVar 7)) (gTp 3 (gsCons (gNm 8) (gsCons (gNm 9) (gsCons (gNm 10) gsNil)))) dYes (dTup (dCons (dIf (dTest (dOp dGe (dVar 8) (dVar 5))) (dOp dSub (dOp dAdd (dOp dMul (dC (.int 2)) (dVar 5)) (dC (.int 1))) (dVar 8)) (dVar 8)) (dCons (dVar 9) (dCons (dVar 10) dNil))))) dNil)) dNil)))) (dRet (dTup (dCons (dVar 1) (dCons (dVar 2) (dCons (dVar 3) (dCons (dCB dTuple (dCons (dVar 6) dNil)) dNil)))))))))
theorem p__law_exchanged (G : Facts K mg) {k : Nat} {f : Addr} (cdv : Value) (A : Around) (outer : List Env) (s : Shared) (H : Hp) (E : XK) (hr : Room (k) (A.deeper (envOfC "_law_exchanged" (defScope s__law_exchanged) s.heap.objs.size f cdv))) (hG : A.guards = some []) :
    PBD (cxOf CX0 P w K mg base N__law_exchanged "_law_exchanged" (defScope s__law_exchanged) f cdv A outer s H E).nox (defBody s__law_exchanged) (t__law_exchanged) :=
  (db_cons (ds_asg (vs := [1, 2, 3, 4]) (de_var 0) (dg_tup rfl (dgs_cons (dg_name (vs := [1, 2, 3, 4]) 1 nd__law_exchanged) (dgs_cons (dg_name (vs := [1, 2, 3, 4]) 2 nd__law_exchanged) (dgs_cons (dg_name (vs := [1, 2, 3, 4]) 3 nd__law_exchanged) (dgs_cons (dg_name (vs := [1, 2, 3, 4]) 4 nd__law_exchanged) dgs_nil)))))) (db_cons (ds_asg (vs := [5, 6]) (de_tup (da_cons (de_callB cd_len G.z_len (da_cons (de_var 4) da_nil)) (da_cons (de_lstM da_nil) da_nil))) (dg_tup rfl (dgs_cons (dg_name (vs := [5, 6]) 5 nd__law_exchanged) (dgs_cons (dg_name (vs := [5, 6]) 6 nd__law_exchanged) dgs_nil)))) (db_cons (ds_for (vs := [7]) PassesOwn.never rfl (di_val (de_var 4)) (dg_name (vs := [7]) 7 nd__law_exchanged) (db_one (ds_expr (de_meth PySem.F.plainAttrs_list PySem.F.slot_list_append PySem.F.type_list_append md_append (de_var 6) (da_cons (de_callTy cd_tuple G.z_tuple (da_cons (de_lc (own := [("to", 8), ("sign", 9), ("move", 10)]) rfl nd__law_exchanged (di_val (de_var 7)) (by dsimp only [cxOf, Cx.nox, Cx.blk, compEnvC, envOfC]; decide +kernel) (fun _ _ _ _ _ => (dg_tup rfl (dgs_cons (dg_name (vs := _) 8 nd__law_exchanged) (dgs_cons (dg_name (vs := _) 9 nd__law_exchanged) (dgs_cons (dg_name (vs := _) 10 nd__law_exchanged) dgs_nil))))) (fun _ _ _ _ _ => dts_nil) (fun _ _ _ _ _ => (de_tup (da_cons (de_if (dt_cmp od_ge (de_var 8) (de_var 5) (by rfl)) (de_op od_sub (de_op od_add (de_op od_mul de_int (de_var 5)) de_int) (de_var 8)) (de_var 8)) (da_cons (de_var 9) (da_cons (de_var 10) da_nil)))))) da_nil)) da_nil))))) (db_one (ds_ret (de_tup (da_cons (de_var 1) (da_cons (de_var 2) (da_cons (de_var 3) (da_cons (de_callTy cd_tuple G.z_tuple (da_cons (de_var 6) da_nil)) da_nil))))))))))
def t__law_ahead (sp_tape_standing : SpD) (sp_tape_outcome : SpD) (sp__law_draw : SpD) (sp__law_pick : SpD) (sp__law_is_tuple : SpD) (sp__law_tags : SpD) (sp__law_tree : SpD) (sp__law_tape : SpD) (sp__law_cells : SpD) (sp__law_standing : SpD) (sp__law_outcome : SpD) (sp__law_seeker : SpD) (sp__law_exchanged : SpD) : DS := (dSeq (dFor (dRng1 (dCons (dC (.int 3)) dNil)) (gNm 1) (dSeq (dSet 2 (dCall sp__law_pick (dCons (dVar 0) (dCons (dLst (dCons (dC (.int 1)) (dCons (dC (.int 1)) (dCons (dC (.int 2)) dNil)))) dNil)))) (dSeq (dAsg (dIf (dTest (dOp dEq (dVar 1) (dC (.int 0)))) (dCall sp__law_seeker (dCons (dVar 0) dNil)) (dTup (dCons (dCall sp__law_tape (dCons (dVar 0) (dCons (dC (.int 4)) dNil))) (dCons (dC (.int 0)) dNil)))) (gTp 2 (gsCons (gNm 3) (gsCons (gNm 4) gsNil)))) (dSeq (dSet 5 (dCall sp__law_tree (dCons (dVar 0) (dCons (dIf (dTest (dOp dEq (dVar 2) (dC (.int 1)))) (dCall sp__law_draw (dCons (dVar 0) (dCons (dC (.int 13)) dNil))) (dCall sp__law_draw (dCons (dVar 0) (dCons (dC (.int 4)) dNil)))) (dCons (dOp dAdd (dZv (dOp dIx (dVar 3) (dC (.int 1)))) (dZv (dCall sp__law_tags (dCons (dVar 0) (dCons (dC (.int 2)) dNil))))) dNil))))) (dSeq (dSet 6 (dCall sp__law_cells (dCons (dVar 3) (dCons (dVar 5) (dCons (dVar 2) dNil))))) (dSeq (dPar 7 8 (dCons (dCall sp__law_outcome (dCons (dVar 3) (dCons (dVar 5) (dCons (dVar 2) dNil)))) (dCons (dCall sp_tape_outcome (dCons (dVar 3) (dCons (dVar 5) (dCons (dVar 2) dNil)))) dNil))) (dSeq (dPar 9 10 (dCons (dCall sp_tape_outcome (dCons (dCall sp__law_exchanged (dCons (dVar 3) dNil)) (dCons (dVar 5) (dCons (dVar 2) dNil)))) (dCons (dCall sp_tape_standing (dCons (dVar 3) (dCons (dVar 5) (dCons (dVar 2) (dCons (dOp dSub (dCB dLen (dCons (dVar 6) dNil)) (dC (.int 1))) dNil))))) dNil))) (dSeq (dIfS (dOr (dAnd (dTest (dOp dEq (dVar 1) (dC (.int 0)))) (dTest (dOp dNe (dVar 8) (dOp dIn (dVar 4) (dSl (dVar 6) dNoPart (dPart (dUn dNeg (dC (.int 1))))))))) (dAnd (dTest (dVar 8)) (dTest (dVar 9)))) (dRet (dC (.bl false))) dNext) (dSeq (dIfS (dOr (dNot (dTest (dCall sp__law_is_tuple (dCons (dVar 10) (dCons (dC (.int 3)) dNil))))) (dTest (dOp dNe (dOp dEq (dOp dIx (dVar 10) (dC (.int 0))) (dCB dLen (dCons (dOp dIx (dVar 3) (dC (.int 3))) dNil))) (dVar 8)))) (dRet (dC (.bl false))) dNext) (dSeq (dIfS (dOr (dTest (dOp dNe (dCB dRepr (dCons (dVar 8) dNil)) (dCB dRepr (dCons (dVar 7) dNil)))) (dTest (dOp dNe (dCB dRepr (dCons (dCallK sp_tape_outcome 0 3 [2, 1, 0] dNil (dCons (dVar 2) (dCons (dVar 5) (dCons (dVar 3) dNil)))) dNil)) (dCB dRepr (dCons (dVar 7) dNil))))) (dRet (dC (.bl false))) dNext) (dSeq (dIfS (dTest (dOp dNe (dCB dRepr (dCons (dVar 10) dNil)) (dCB dRepr (dCons (dCall sp__law_standing (dCons (dVar 3) (dCons (dVar 5) (dCons (dVar 2) (dCons (dOp dSub (dCB dLen (dCons (dVar 6) dNil)) (dC (.int 1))) dNil))))) dNil)))) (dRet (dC (.bl false))) dNext) (dIfS (dTest (dOp dNe (dCB dRepr (dCons (dVar 9) dNil)) (dCB dRepr (dCons (dCall sp__law_outcome (dCons (dCall sp__law_exchanged (dCons (dVar 3) dNil)) (dCons (dVar 5) (dCons (dVar 2) dNil)))) dNil)))) (dRet (dC (.bl false))) dNext)))))))))))) (dRet (dC (.bl true))))
theorem p__law_ahead (G : Facts K mg) {k : Nat} {sp_tape_standing : SpD} (h_tape_standing : Has P w K mg base CX0 "tape_standing" s_tape_standing ["machine", "tree", "c", "many"] k sp_tape_standing) {sp_tape_outcome : SpD} (h_tape_outcome : Has P w K mg base CX0 "tape_outcome" s_tape_outcome ["machine", "tree", "c"] k sp_tape_outcome) {sp__law_draw : SpD} (h__law_draw : Has P w K mg base CX0 "_law_draw" s__law_draw ["deck", "many"] k sp__law_draw) {sp__law_pick : SpD} (h__law_pick : Has P w K mg base CX0 "_law_pick" s__law_pick ["deck", "some"] k sp__law_pick) {sp__law_is_tuple : SpD} (h__law_is_tuple : Has P w K mg base CX0 "_law_is_tuple" s__law_is_tuple ["thing", "many"] k sp__law_is_tuple) {sp__law_tags : SpD} (h__law_tags : Has P w K mg base CX0 "_law_tags" s__law_tags ["deck", "many"] k sp__law_tags) {sp__law_tree : SpD} (h__law_tree : Has P w K mg base CX0 "_law_tree" s__law_tree ["deck", "nodes", "tags"] k sp__law_tree) {sp__law_tape : SpD} (h__law_tape : Has P w K mg base CX0 "_law_tape" s__law_tape ["deck", "most"] k sp__law_tape) {sp__law_cells : SpD} (h__law_cells : Has P w K mg base CX0 "_law_cells" s__law_cells ["machine", "tree", "c"] k sp__law_cells) {sp__law_standing : SpD} (h__law_standing : Has P w K mg base CX0 "_law_standing" s__law_standing ["machine", "tree", "c", "many"] k sp__law_standing) {sp__law_outcome : SpD} (h__law_outcome : Has P w K mg base CX0 "_law_outcome" s__law_outcome ["machine", "tree", "c"] k sp__law_outcome) {sp__law_seeker : SpD} (h__law_seeker : Has P w K mg base CX0 "_law_seeker" s__law_seeker ["deck"] k sp__law_seeker) {sp__law_exchanged : SpD} (h__law_exchanged : Has P w K mg base CX0 "_law_exchanged" s__law_exchanged ["machine"] k sp__law_exchanged) {f : Addr} (cdv : Value) (A : Around) (outer : List Env) (s : Shared) (H : Hp) (E : XK) (hr : Room (k) (A.deeper (envOfC "_law_ahead" (defScope s__law_ahead) s.heap.objs.size f cdv))) (hG : A.guards = some []) :
    PBD (cxOf CX0 P w K mg base N__law_ahead "_law_ahead" (defScope s__law_ahead) f cdv A outer s H E).nox (defBody s__law_ahead) (t__law_ahead sp_tape_standing sp_tape_outcome sp__law_draw sp__law_pick sp__law_is_tuple sp__law_tags sp__law_tree sp__law_tape sp__law_cells sp__law_standing sp__law_outcome sp__law_seeker sp__law_exchanged) :=
  (db_cons (ds_for (vs := [1]) PassesOwn.never rfl (di_rng1 G.z_range (da_cons de_int da_nil)) (dg_name (vs := [1]) 1 nd__law_ahead) (db_cons (ds_set 2 nd__law_ahead (de_call h__law_pick hr hG B__law_pick (da_cons (de_var 0) (da_cons (de_lst (da_cons de_int (da_cons de_int (da_cons de_int da_nil)))) da_nil)))) (db_cons (ds_asg (vs := [3, 4]) (de_if (dt_cmp (od_eq hr.units) (de_var 1) de_int (by rfl)) (de_call h__law_seeker hr hG B__law_seeker (da_cons (de_var 0) da_nil)) (de_tup (da_cons (de_call h__law_tape hr hG B__law_tape (da_cons (de_var 0) (da_cons de_int da_nil))) (da_cons de_int da_nil)))) (dg_tup rfl (dgs_cons (dg_name (vs := [3, 4]) 3 nd__law_ahead) (dgs_cons (dg_name (vs := [3, 4]) 4 nd__law_ahead) dgs_nil)))) (db_cons (ds_set 5 nd__law_ahead (de_call h__law_tree hr hG B__law_tree (da_cons (de_var 0) (da_cons (de_if (dt_cmp (od_eq hr.units) (de_var 2) de_int (by rfl)) (de_call h__law_draw hr hG B__law_draw (da_cons (de_var 0) (da_cons de_int da_nil))) (de_call h__law_draw hr hG B__law_draw (da_cons (de_var 0) (da_cons de_int da_nil)))) (da_cons (de_op od_add (de_zv (de_ix (de_var 3) de_int)) (de_zv (de_call h__law_tags hr hG B__law_tags (da_cons (de_var 0) (da_cons de_int da_nil))))) da_nil))))) (db_cons (ds_set 6 nd__law_ahead (de_call h__law_cells hr hG B__law_cells (da_cons (de_var 3) (da_cons (de_var 5) (da_cons (de_var 2) da_nil))))) (db_cons (ds_par 7 8 rfl nd__law_ahead (da_cons (de_call h__law_outcome hr hG B__law_outcome (da_cons (de_var 3) (da_cons (de_var 5) (da_cons (de_var 2) da_nil)))) (da_cons (de_call h_tape_outcome hr hG B_tape_outcome (da_cons (de_var 3) (da_cons (de_var 5) (da_cons (de_var 2) da_nil)))) da_nil))) (db_cons (ds_par 9 10 rfl nd__law_ahead (da_cons (de_call h_tape_outcome hr hG B_tape_outcome (da_cons (de_call h__law_exchanged hr hG B__law_exchanged (da_cons (de_var 3) da_nil)) (da_cons (de_var 5) (da_cons (de_var 2) da_nil)))) (da_cons (de_call h_tape_standing hr hG B_tape_standing (da_cons (de_var 3) (da_cons (de_var 5) (da_cons (de_var 2) (da_cons (de_op od_sub (de_callB cd_len G.z_len (da_cons (de_var 6) da_nil)) de_int) da_nil))))) da_nil))) (db_cons (ds_if (dt_of (dw_or (dt_of (dw_and (dt_cmp (od_eq hr.units) (de_var 1) de_int (by rfl)) (dw_and1 (dt_cmp (od_ne hr.units) (de_var 8) (de_cmp od_in (de_var 4) (de_sl (de_var 6) do_none (do_some (de_un ud_neg de_int))) (by rfl)) (by rfl))))) (dw_or1 (dt_of (dw_and (dt_val (de_var 8)) (dw_and1 (dt_val (de_var 9)))))))) (db_one (ds_ret de_bl)) db_nil) (db_cons (ds_if (dt_of (dw_or (dt_not (dt_val (de_call h__law_is_tuple hr hG B__law_is_tuple (da_cons (de_var 10) (da_cons de_int da_nil))))) (dw_or1 (dt_cmp (od_ne hr.units) (de_cmp (od_eq hr.units) (de_ix (de_var 10) de_int) (de_callB cd_len G.z_len (da_cons (de_ix (de_var 3) de_int) da_nil)) (by rfl)) (de_var 8) (by rfl))))) (db_one (ds_ret de_bl)) db_nil) (db_cons (ds_if (dt_of (dw_or (dt_cmp (od_ne hr.units) (de_callB (cd_repr hG hr.units) G.z_repr (da_cons (de_var 8) da_nil)) (de_callB (cd_repr hG hr.units) G.z_repr (da_cons (de_var 7) da_nil)) (by rfl)) (dw_or1 (dt_cmp (od_ne hr.units) (de_callB (cd_repr hG hr.units) G.z_repr (da_cons (de_callK0 (is := [2, 1, 0]) (ks := ["c", "tree", "machine"]) h_tape_outcome hr hG (fun _ _ _ _ _ _ us ws h1 h2 => match us, ws, h1, h2 with | [], [_, _, _], _, _ => rfl) (dk_cons (de_var 2) (dk_cons (de_var 5) (dk_cons (de_var 3) dk_nil)))) da_nil)) (de_callB (cd_repr hG hr.units) G.z_repr (da_cons (de_var 7) da_nil)) (by rfl))))) (db_one (ds_ret de_bl)) db_nil) (db_cons (ds_if (dt_cmp (od_ne hr.units) (de_callB (cd_repr hG hr.units) G.z_repr (da_cons (de_var 10) da_nil)) (de_callB (cd_repr hG hr.units) G.z_repr (da_cons (de_call h__law_standing hr hG B__law_standing (da_cons (de_var 3) (da_cons (de_var 5) (da_cons (de_var 2) (da_cons (de_op od_sub (de_callB cd_len G.z_len (da_cons (de_var 6) da_nil)) de_int) da_nil))))) da_nil)) (by rfl)) (db_one (ds_ret de_bl)) db_nil) (db_one (ds_if (dt_cmp (od_ne hr.units) (de_callB (cd_repr hG hr.units) G.z_repr (da_cons (de_var 9) da_nil)) (de_callB (cd_repr hG hr.units) G.z_repr (da_cons (de_call h__law_outcome hr hG B__law_outcome (da_cons (de_call h__law_exchanged hr hG B__law_exchanged (da_cons (de_var 3) da_nil)) (da_cons (de_var 5) (da_cons (de_var 2) da_nil)))) da_nil)) (by rfl)) (db_one (ds_ret de_bl)) db_nil))))))))))))) (db_one (ds_ret de_bl)))
def tx__law_ahead (sp_tape_standing : SpD) (sp_tape_outcome : SpD) (sp__law_draw : SpD) (sp__law_pick : SpD) (sp__law_is_tuple : SpD) (sp__law_tags : SpD) (sp__law_tree : SpD) (sp__law_tape : SpD) (sp__law_cells : SpD) (sp__law_standing : SpD) (sp__law_outcome : SpD) (sp__law_seeker : SpD) (sp__law_exchanged : SpD) : DS := (dSeq (dFor (dRng1 (dCons (dC (.int 3)) dNil)) (gNm 1) (dSeq (dSet 2 (dCall sp__law_pick (dCons (dVar 0) (dCons (dLst (dCons (dC (.int 1)) (dCons (dC (.int 1)) (dCons (dC (.int 2)) dNil)))) dNil)))) (dSeq (dAsg (dIf (dTest (dOp dEq (dVar 1) (dC (.int 0)))) (dCall sp__law_seeker (dCons (dVar 0) dNil)) (dTup (dCons (dCall sp__law_tape (dCons (dVar 0) (dCons (dC (.int 4)) dNil))) (dCons (dC (.int 0)) dNil)))) (gTp 2 (gsCons (gNm 3) (gsCons (gNm 4) gsNil)))) (dSeq (dSet 5 (dCall sp__law_tree (dCons (dVar 0) (dCons (dIf (dTest (dOp dEq (dVar 2) (dC (.int 1)))) (dCall sp__law_draw (dCons (dVar 0) (dCons (dC (.int 13)) dNil))) (dCall sp__law_draw (dCons (dVar 0) (dCons (dC (.int 4)) dNil)))) (dCons (dOp dAdd (dZv (dOp dIx (dVar 3) (dC (.int 1)))) (dZv (dCall sp__law_tags (dCons (dVar 0) (dCons (dC (.int 2)) dNil))))) dNil))))) (dSeq (dSet 6 (dCall sp__law_cells (dCons (dVar 3) (dCons (dVar 5) (dCons (dVar 2) dNil))))) (dSeq (dPar 7 8 (dCons (dCall sp__law_outcome (dCons (dVar 3) (dCons (dVar 5) (dCons (dVar 2) dNil)))) (dCons (dCall sp_tape_outcome (dCons (dVar 3) (dCons (dVar 5) (dCons (dVar 2) dNil)))) dNil))) (dSeq (dPar 9 10 (dCons (dCall sp_tape_outcome (dCons (dCall sp__law_exchanged (dCons (dVar 3) dNil)) (dCons (dVar 5) (dCons (dVar 2) dNil)))) (dCons (dCall sp_tape_standing (dCons (dVar 3) (dCons (dVar 5) (dCons (dVar 2) (dCons (dOp dSub (dCB dLen (dCons (dVar 6) dNil)) (dC (.int 1))) dNil))))) dNil))) (dSeq (dIfS (dOr (dAnd (dTest (dOp dEq (dVar 1) (dC (.int 0)))) (dTest (dOp dNe (dVar 8) (dOp dIn (dVar 4) (dSl (dVar 6) dNoPart (dPart (dUn dNeg (dC (.int 1))))))))) (dAnd (dTest (dVar 8)) (dTest (dVar 9)))) (dRet (dC (.bl false))) dNext) (dSeq (dIfS (dOr (dNot (dTest (dCall sp__law_is_tuple (dCons (dVar 10) (dCons (dC (.int 3)) dNil))))) (dTest (dOp dNe (dOp dEq (dOp dIx (dVar 10) (dC (.int 0))) (dCB dLen (dCons (dOp dIx (dVar 3) (dC (.int 3))) dNil))) (dVar 8)))) (dRet (dC (.bl false))) dNext) (dSeq (dIfS (dOr (dTest (dOp dNe (dCB dRepr (dCons (dVar 8) dNil)) (dCB dRepr (dCons (dVar 7) dNil)))) (dTest (dOp dNe (dCB dRepr (dCons (dCallK sp_tape_outcome 0 3 [2, 1, 0] dNil (dCons (dVar 2) (dCons (dVar 5) (dCons (dVar 3) dNil)))) dNil)) (dCB dRepr (dCons (dVar 7) dNil))))) (dRet (dC (.bl false))) dNext) (dSeq (dIfS (dTest (dOp dNe (dCB dRepr (dCons (dVar 10) dNil)) (dCB dRepr (dCons (dCall sp__law_standing (dCons (dVar 3) (dCons (dVar 5) (dCons (dVar 2) (dCons (dOp dSub (dCB dLen (dCons (dVar 6) dNil)) (dC (.int 1))) dNil))))) dNil)))) (dRet (dC (.bl false))) dNext) (dIfS (dTest (dOp dNe (dCB dRepr (dCons (dVar 9) dNil)) (dCB dRepr (dCons (dCall sp__law_outcome (dCons (dCall sp__law_exchanged (dCons (dVar 3) dNil)) (dCons (dVar 5) (dCons (dVar 2) dNil)))) dNil)))) (dRet (dC (.bl false))) dNext)))))))))))) (dRet (dC (.bl true))))
theorem px__law_ahead (G : Facts K mg) {k : Nat} {sp_tape_standing : SpD} (h_tape_standing : Has P w K mg base CX0 "tape_standing" s_tape_standing ["machine", "tree", "c", "many"] k sp_tape_standing) {sp_tape_outcome : SpD} (h_tape_outcome : Has P w K mg base CX0 "tape_outcome" s_tape_outcome ["machine", "tree", "c"] k sp_tape_outcome) {sp__law_draw : SpD} (h__law_draw : Has P w K mg base CX0 "_law_draw" s__law_draw ["deck", "many"] k sp__law_draw) {sp__law_pick : SpD} (h__law_pick : Has P w K mg base CX0 "_law_pick" s__law_pick ["deck", "some"] k sp__law_pick) {sp__law_is_tuple : SpD} (h__law_is_tuple : Has P w K mg base CX0 "_law_is_tuple" s__law_is_tuple ["thing", "many"] k sp__law_is_tuple) {sp__law_tags : SpD} (h__law_tags : Has P w K mg base CX0 "_law_tags" s__law_tags ["deck", "many"] k sp__law_tags) {sp__law_tree : SpD} (h__law_tree : Has P w K mg base CX0 "_law_tree" s__law_tree ["deck", "nodes", "tags"] k sp__law_tree) {sp__law_tape : SpD} (h__law_tape : Has P w K mg base CX0 "_law_tape" s__law_tape ["deck", "most"] k sp__law_tape) {sp__law_cells : SpD} (h__law_cells : Has P w K mg base CX0 "_law_cells" s__law_cells ["machine", "tree", "c"] k sp__law_cells) {sp__law_standing : SpD} (h__law_standing : Has P w K mg base CX0 "_law_standing" s__law_standing ["machine", "tree", "c", "many"] k sp__law_standing) {sp__law_outcome : SpD} (h__law_outcome : Has P w K mg base CX0 "_law_outcome" s__law_outcome ["machine", "tree", "c"] k sp__law_outcome) {sp__law_seeker : SpD} (h__law_seeker : Has P w K mg base CX0 "_law_seeker" s__law_seeker ["deck"] k sp__law_seeker) {sp__law_exchanged : SpD} (h__law_exchanged : Has P w K mg base CX0 "_law_exchanged" s__law_exchanged ["machine"] k sp__law_exchanged) {f : Addr} (cdv : Value) (A : Around) (outer : List Env) (s : Shared) (H : Hp) (E : XK) (hr : Room (k) (A.deeper (envOfC "_law_ahead" (defScope s__law_ahead) s.heap.objs.size f cdv))) (hG : A.guards = some []) :
    PBD (cxOf (L2.CX P w) P w K mg base N__law_ahead "_law_ahead" (defScope s__law_ahead) f cdv A outer s H E) (defBody s__law_ahead) (tx__law_ahead sp_tape_standing sp_tape_outcome sp__law_draw sp__law_pick sp__law_is_tuple sp__law_tags sp__law_tree sp__law_tape sp__law_cells sp__law_standing sp__law_outcome sp__law_seeker sp__law_exchanged) :=
  (db_cons (ds_for (vs := [1]) (passes_of rfl) rfl (di_rng1 G.z_range (da_cons de_int da_nil)) (dg_name (vs := [1]) 1 nd__law_ahead) (db_cons (ds_set 2 nd__law_ahead (de_call h__law_pick hr hG B__law_pick (da_cons (de_var 0) (da_cons (de_lst (da_cons de_int (da_cons de_int (da_cons de_int da_nil)))) da_nil)))) (db_cons (ds_asg (vs := [3, 4]) (de_if (dt_cmp (od_eq hr.units) (de_var 1) de_int (by rfl)) (de_call h__law_seeker hr hG B__law_seeker (da_cons (de_var 0) da_nil)) (de_tup (da_cons (de_call h__law_tape hr hG B__law_tape (da_cons (de_var 0) (da_cons de_int da_nil))) (da_cons de_int da_nil)))) (dg_tup rfl (dgs_cons (dg_name (vs := [3, 4]) 3 nd__law_ahead) (dgs_cons (dg_name (vs := [3, 4]) 4 nd__law_ahead) dgs_nil)))) (db_cons (ds_set 5 nd__law_ahead (de_call h__law_tree hr hG B__law_tree (da_cons (de_var 0) (da_cons (de_if (dt_cmp (od_eq hr.units) (de_var 2) de_int (by rfl)) (de_call h__law_draw hr hG B__law_draw (da_cons (de_var 0) (da_cons de_int da_nil))) (de_call h__law_draw hr hG B__law_draw (da_cons (de_var 0) (da_cons de_int da_nil)))) (da_cons (de_op od_add (de_zv (de_ix (de_var 3) de_int)) (de_zv (de_call h__law_tags hr hG B__law_tags (da_cons (de_var 0) (da_cons de_int da_nil))))) da_nil))))) (db_cons (ds_set 6 nd__law_ahead (de_call h__law_cells hr hG B__law_cells (da_cons (de_var 3) (da_cons (de_var 5) (da_cons (de_var 2) da_nil))))) (db_cons (ds_par 7 8 rfl nd__law_ahead (da_cons (de_call h__law_outcome hr hG B__law_outcome (da_cons (de_var 3) (da_cons (de_var 5) (da_cons (de_var 2) da_nil)))) (da_cons (de_call h_tape_outcome hr hG B_tape_outcome (da_cons (de_var 3) (da_cons (de_var 5) (da_cons (de_var 2) da_nil)))) da_nil))) (db_cons (ds_par 9 10 rfl nd__law_ahead (da_cons (de_call h_tape_outcome hr hG B_tape_outcome (da_cons (de_call h__law_exchanged hr hG B__law_exchanged (da_cons (de_var 3) da_nil)) (da_cons (de_var 5) (da_cons (de_var 2) da_nil)))) (da_cons (de_call h_tape_standing hr hG B_tape_standing (da_cons (de_var 3) (da_cons (de_var 5) (da_cons (de_var 2) (da_cons (de_op od_sub (de_callB cd_len G.z_len (da_cons (de_var 6) da_nil)) de_int) da_nil))))) da_nil))) (db_cons (ds_if (dt_of (dw_or (dt_of (dw_and (dt_cmp (od_eq hr.units) (de_var 1) de_int (by rfl)) (dw_and1 (dt_cmp (od_ne hr.units) (de_var 8) (de_cmp od_in (de_var 4) (de_sl (de_var 6) do_none (do_some (de_un ud_neg de_int))) (by rfl)) (by rfl))))) (dw_or1 (dt_of (dw_and (dt_val (de_var 8)) (dw_and1 (dt_val (de_var 9)))))))) (db_one (ds_ret de_bl)) db_nil) (db_cons (ds_if (dt_of (dw_or (dt_not (dt_val (de_call h__law_is_tuple hr hG B__law_is_tuple (da_cons (de_var 10) (da_cons de_int da_nil))))) (dw_or1 (dt_cmp (od_ne hr.units) (de_cmp (od_eq hr.units) (de_ix (de_var 10) de_int) (de_callB cd_len G.z_len (da_cons (de_ix (de_var 3) de_int) da_nil)) (by rfl)) (de_var 8) (by rfl))))) (db_one (ds_ret de_bl)) db_nil) (db_cons (ds_if (dt_of (dw_or (dt_cmp (od_ne hr.units) (de_callB (cd_repr hG hr.units) G.z_repr (da_cons (de_var 8) da_nil)) (de_callB (cd_repr hG hr.units) G.z_repr (da_cons (de_var 7) da_nil)) (by rfl)) (dw_or1 (dt_cmp (od_ne hr.units) (de_callB (cd_repr hG hr.units) G.z_repr (da_cons (de_callK0 (is := [2, 1, 0]) (ks := ["c", "tree", "machine"]) h_tape_outcome hr hG (fun _ _ _ _ _ _ us ws h1 h2 => match us, ws, h1, h2 with | [], [_, _, _], _, _ => rfl) (dk_cons (de_var 2) (dk_cons (de_var 5) (dk_cons (de_var 3) dk_nil)))) da_nil)) (de_callB (cd_repr hG hr.units) G.z_repr (da_cons (de_var 7) da_nil)) (by rfl))))) (db_one (ds_ret de_bl)) db_nil) (db_cons (ds_if (dt_cmp (od_ne hr.units) (de_callB (cd_repr hG hr.units) G.z_repr (da_cons (de_var 10) da_nil)) (de_callB (cd_repr hG hr.units) G.z_repr (da_cons (de_call h__law_standing hr hG B__law_standing (da_cons (de_var 3) (da_cons (de_var 5) (da_cons (de_var 2) (da_cons (de_op od_sub (de_callB cd_len G.z_len (da_cons (de_var 6) da_nil)) de_int) da_nil))))) da_nil)) (by rfl)) (db_one (ds_ret de_bl)) db_nil) (db_one (ds_if (dt_cmp (od_ne hr.units) (de_callB (cd_repr hG hr.units) G.z_repr (da_cons (de_var 9) da_nil)) (de_callB (cd_repr hG hr.units) G.z_repr (da_cons (de_call h__law_outcome hr hG B__law_outcome (da_cons (de_call h__law_exchanged hr hG B__law_exchanged (da_cons (de_var 3) da_nil)) (da_cons (de_var 5) (da_cons (de_var 2) da_nil)))) da_nil)) (by rfl)) (db_one (ds_ret de_bl)) db_nil))))))))))))) (db_one (ds_ret de_bl)))
def t__law_are_steps_right (sp_tape_standing : SpD) (sp__law_draw : SpD) (sp__law_pick : SpD) (sp__law_tags : SpD) (sp__law_tree : SpD) (sp__law_tape : SpD) (sp__law_cells : SpD) (sp__law_standing : SpD) (sp__law_seeker : SpD) : DS := (dSeq (dSet 1 (dCall sp__law_pick (dCons (dVar 0) (dCons (dLst (dCons (dC (.int 1)) (dCons (dC (.int 1)) (dCons (dC (.int 2)) dNil)))) dNil)))) (dSeq (dSet 2 (dIf (dTest (dOp dEq (dCall sp__law_draw (dCons (dVar 0) (dCons (dC (.int 4)) dNil))) (dC (.int 0)))) (dOp dIx (dCall sp__law_seeker (dCons (dVar 0) dNil)) (dC (.int 0))) (dCall sp__law_tape (dCons (dVar 0) (dCons (dC (.int 4)) dNil))))) (dSeq (dSet 3 (dCall sp__law_tree (dCons (dVar 0) (dCons (dIf (dTest (dOp dEq (dVar 1) (dC (.int 1)))) (dCall sp__law_draw (dCons (dVar 0) (dCons (dC (.int 13)) dNil))) (dCall sp__law_draw (dCons (dVar 0) (dCons (dC (.int 4)) dNil)))) (dCons (dOp dAdd (dZv (dOp dIx (dVar 2) (dC (.int 1)))) (dZv (dCall sp__law_tags (dCons (dVar 0) (dCons (dC (.int 2)) dNil))))) dNil))))) (dSeq (dSet 4 (dCB dLen (dCons (dCall sp__law_cells (dCons (dVar 2) (dCons (dVar 3) (dCons (dVar 1) dNil)))) dNil))) (dSeq (dSet 5 (dCall sp__law_draw (dCons (dVar 0) (dCons (dOp dAdd (dVar 4) (dC (.int 40))) dNil)))) (dSeq (dFor (dVal (dTup (dCons (dC (.int 0)) (dCons (dVar 5) (dCons (dOp dAdd (dVar 5) (dC (.int 1))) (dCons (dCall sp__law_draw (dCons (dVar 0) (dCons (dOp dAdd (dVar 4) (dC (.int 1))) dNil))) dNil)))))) (gNm 6) (dSeq (dSet 7 (dCall sp__law_standing (dCons (dVar 2) (dCons (dVar 3) (dCons (dVar 1) (dCons (dVar 6) dNil)))))) (dSeq (dSet 8 (dLst (dCons (dCall sp_tape_standing (dCons (dVar 2) (dCons (dVar 3) (dCons (dVar 1) (dCons (dVar 6) dNil))))) (dCons (dCallK sp_tape_standing 0 4 [3, 2, 1, 0] dNil (dCons (dVar 6) (dCons (dVar 1) (dCons (dVar 3) (dCons (dVar 2) dNil))))) dNil)))) (dSeq (dIfS (dTest (dOp dNe (dCB dRepr (dCons (dVar 8) dNil)) (dCB dRepr (dCons (dLst (dCons (dVar 7) (dCons (dVar 7) dNil))) dNil)))) (dRet (dC (.bl false))) dNext) (dIfS (dAnd (dTest (dOp dGe (dOp dIx (dVar 7) (dC (.int 0))) (dCB dLen (dCons (dOp dIx (dVar 2) (dC (.int 3))) dNil)))) (dTest (dOp dNe (dCB dRepr (dCons (dCall sp_tape_standing (dCons (dVar 2) (dCons (dVar 3) (dCons (dVar 1) (dCons (dOp dAdd (dVar 6) (dC (.int 1))) dNil))))) dNil)) (dCB dRepr (dCons (dVar 7) dNil))))) (dRet (dC (.bl false))) dNext))))) (dRet (dC (.bl true)))))))))
theorem p__law_are_steps_right (G : Facts K mg) {k : Nat} {sp_tape_standing : SpD} (h_tape_standing : Has P w K mg base CX0 "tape_standing" s_tape_standing ["machine", "tree", "c", "many"] k sp_tape_standing) {sp__law_draw : SpD} (h__law_draw : Has P w K mg base CX0 "_law_draw" s__law_draw ["deck", "many"] k sp__law_draw) {sp__law_pick : SpD} (h__law_pick : Has P w K mg base CX0 "_law_pick" s__law_pick ["deck", "some"] k sp__law_pick) {sp__law_tags : SpD} (h__law_tags : Has P w K mg base CX0 "_law_tags" s__law_tags ["deck", "many"] k sp__law_tags) {sp__law_tree : SpD} (h__law_tree : Has P w K mg base CX0 "_law_tree" s__law_tree ["deck", "nodes", "tags"] k sp__law_tree) {sp__law_tape : SpD} (h__law_tape : Has P w K mg base CX0 "_law_tape" s__law_tape ["deck", "most"] k sp__law_tape) {sp__law_cells : SpD} (h__law_cells : Has P w K mg base CX0 "_law_cells" s__law_cells ["machine", "tree", "c"] k sp__law_cells) {sp__law_standing : SpD} (h__law_standing : Has P w K mg base CX0 "_law_standing" s__law_standing ["machine", "tree", "c", "many"] k sp__law_standing) {sp__law_seeker : SpD} (h__law_seeker : Has P w K mg base CX0 "_law_seeker" s__law_seeker ["deck"] k sp__law_seeker) {f : Addr} (cdv : Value) (A : Around) (outer : List Env) (s : Shared) (H : Hp) (E : XK) (hr : Room (k) (A.deeper (envOfC "_law_are_steps_right" (defScope s__law_are_steps_right) s.heap.objs.size f cdv))) (hG : A.guards = some []) :
    PBD (cxOf CX0 P w K mg base N__law_are_steps_right "_law_are_steps_right" (defScope s__law_are_steps_right) f cdv A outer s H E).nox (defBody s__law_are_steps_right) (t__law_are_steps_right sp_tape_standing sp__law_draw sp__law_pick sp__law_tags sp__law_tree sp__law_tape sp__law_cells sp__law_standing sp__law_seeker) :=
  (db_cons (ds_set 1 nd__law_are_steps_right (de_call h__law_pick hr hG B__law_pick (da_cons (de_var 0) (da_cons (de_lst (da_cons de_int (da_cons de_int (da_cons de_int da_nil)))) da_nil)))) (db_cons (ds_set 2 nd__law_are_steps_right (de_if (dt_cmp (od_eq hr.units) (de_call h__law_draw hr hG B__law_draw (da_cons (de_var 0) (da_cons de_int da_nil))) de_int (by rfl)) (de_ix (de_call h__law_seeker hr hG B__law_seeker (da_cons (de_var 0) da_nil)) de_int) (de_call h__law_tape hr hG B__law_tape (da_cons (de_var 0) (da_cons de_int da_nil))))) (db_cons (ds_set 3 nd__law_are_steps_right (de_call h__law_tree hr hG B__law_tree (da_cons (de_var 0) (da_cons (de_if (dt_cmp (od_eq hr.units) (de_var 1) de_int (by rfl)) (de_call h__law_draw hr hG B__law_draw (da_cons (de_var 0) (da_cons de_int da_nil))) (de_call h__law_draw hr hG B__law_draw (da_cons (de_var 0) (da_cons de_int da_nil)))) (da_cons (de_op od_add (de_zv (de_ix (de_var 2) de_int)) (de_zv (de_call h__law_tags hr hG B__law_tags (da_cons (de_var 0) (da_cons de_int da_nil))))) da_nil))))) (db_cons (ds_set 4 nd__law_are_steps_right (de_callB cd_len G.z_len (da_cons (de_call h__law_cells hr hG B__law_cells (da_cons (de_var 2) (da_cons (de_var 3) (da_cons (de_var 1) da_nil)))) da_nil))) (db_cons (ds_set 5 nd__law_are_steps_right (de_call h__law_draw hr hG B__law_draw (da_cons (de_var 0) (da_cons (de_op od_add (de_var 4) de_int) da_nil)))) (db_cons (ds_for (vs := [6]) PassesOwn.never rfl (di_val (de_tup (da_cons de_int (da_cons (de_var 5) (da_cons (de_op od_add (de_var 5) de_int) (da_cons (de_call h__law_draw hr hG B__law_draw (da_cons (de_var 0) (da_cons (de_op od_add (de_var 4) de_int) da_nil))) da_nil)))))) (dg_name (vs := [6]) 6 nd__law_are_steps_right) (db_cons (ds_set 7 nd__law_are_steps_right (de_call h__law_standing hr hG B__law_standing (da_cons (de_var 2) (da_cons (de_var 3) (da_cons (de_var 1) (da_cons (de_var 6) da_nil)))))) (db_cons (ds_set 8 nd__law_are_steps_right (de_lst (da_cons (de_call h_tape_standing hr hG B_tape_standing (da_cons (de_var 2) (da_cons (de_var 3) (da_cons (de_var 1) (da_cons (de_var 6) da_nil))))) (da_cons (de_callK0 (is := [3, 2, 1, 0]) (ks := ["many", "c", "tree", "machine"]) h_tape_standing hr hG (fun _ _ _ _ _ _ us ws h1 h2 => match us, ws, h1, h2 with | [], [_, _, _, _], _, _ => rfl) (dk_cons (de_var 6) (dk_cons (de_var 1) (dk_cons (de_var 3) (dk_cons (de_var 2) dk_nil))))) da_nil)))) (db_cons (ds_if (dt_cmp (od_ne hr.units) (de_callB (cd_repr hG hr.units) G.z_repr (da_cons (de_var 8) da_nil)) (de_callB (cd_repr hG hr.units) G.z_repr (da_cons (de_lst (da_cons (de_var 7) (da_cons (de_var 7) da_nil))) da_nil)) (by rfl)) (db_one (ds_ret de_bl)) db_nil) (db_one (ds_if (dt_of (dw_and (dt_cmp od_ge (de_ix (de_var 7) de_int) (de_callB cd_len G.z_len (da_cons (de_ix (de_var 2) de_int) da_nil)) (by rfl)) (dw_and1 (dt_cmp (od_ne hr.units) (de_callB (cd_repr hG hr.units) G.z_repr (da_cons (de_call h_tape_standing hr hG B_tape_standing (da_cons (de_var 2) (da_cons (de_var 3) (da_cons (de_var 1) (da_cons (de_op od_add (de_var 6) de_int) da_nil))))) da_nil)) (de_callB (cd_repr hG hr.units) G.z_repr (da_cons (de_var 7) da_nil)) (by rfl))))) (db_one (ds_ret de_bl)) db_nil)))))) (db_one (ds_ret de_bl))))))))
def tx__law_are_steps_right (sp_tape_standing : SpD) (sp__law_draw : SpD) (sp__law_pick : SpD) (sp__law_tags : SpD) (sp__law_tree : SpD) (sp__law_tape : SpD) (sp__law_cells : SpD) (sp__law_standing : SpD) (sp__law_seeker : SpD) : DS := (dSeq (dSet 1 (dCall sp__law_pick (dCons (dVar 0) (dCons (dLst (dCons (dC (.int 1)) (dCons (dC (.int 1)) (dCons (dC (.int 2)) dNil)))) dNil)))) (dSeq (dSet 2 (dIf (dTest (dOp dEq (dCall sp__law_draw (dCons (dVar 0) (dCons (dC (.int 4)) dNil))) (dC (.int 0)))) (dOp dIx (dCall sp__law_seeker (dCons (dVar 0) dNil)) (dC (.int 0))) (dCall sp__law_tape (dCons (dVar 0) (dCons (dC (.int 4)) dNil))))) (dSeq (dSet 3 (dCall sp__law_tree (dCons (dVar 0) (dCons (dIf (dTest (dOp dEq (dVar 1) (dC (.int 1)))) (dCall sp__law_draw (dCons (dVar 0) (dCons (dC (.int 13)) dNil))) (dCall sp__law_draw (dCons (dVar 0) (dCons (dC (.int 4)) dNil)))) (dCons (dOp dAdd (dZv (dOp dIx (dVar 2) (dC (.int 1)))) (dZv (dCall sp__law_tags (dCons (dVar 0) (dCons (dC (.int 2)) dNil))))) dNil))))) (dSeq (dSet 4 (dCB dLen (dCons (dCall sp__law_cells (dCons (dVar 2) (dCons (dVar 3) (dCons (dVar 1) dNil)))) dNil))) (dSeq (dSet 5 (dCall sp__law_draw (dCons (dVar 0) (dCons (dOp dAdd (dVar 4) (dC (.int 40))) dNil)))) (dSeq (dFor (dVal (dTup (dCons (dC (.int 0)) (dCons (dVar 5) (dCons (dOp dAdd (dVar 5) (dC (.int 1))) (dCons (dCall sp__law_draw (dCons (dVar 0) (dCons (dOp dAdd (dVar 4) (dC (.int 1))) dNil))) dNil)))))) (gNm 6) (dSeq (dSet 7 (dCall sp__law_standing (dCons (dVar 2) (dCons (dVar 3) (dCons (dVar 1) (dCons (dVar 6) dNil)))))) (dSeq (dSet 8 (dLst (dCons (dCall sp_tape_standing (dCons (dVar 2) (dCons (dVar 3) (dCons (dVar 1) (dCons (dVar 6) dNil))))) (dCons (dCallK sp_tape_standing 0 4 [3, 2, 1, 0] dNil (dCons (dVar 6) (dCons (dVar 1) (dCons (dVar 3) (dCons (dVar 2) dNil))))) dNil)))) (dSeq (dIfS (dTest (dOp dNe (dCB dRepr (dCons (dVar 8) dNil)) (dCB dRepr (dCons (dLst (dCons (dVar 7) (dCons (dVar 7) dNil))) dNil)))) (dRet (dC (.bl false))) dNext) (dIfS (dAnd (dTest (dOp dGe (dOp dIx (dVar 7) (dC (.int 0))) (dCB dLen (dCons (dOp dIx (dVar 2) (dC (.int 3))) dNil)))) (dTest (dOp dNe (dCB dRepr (dCons (dCall sp_tape_standing (dCons (dVar 2) (dCons (dVar 3) (dCons (dVar 1) (dCons (dOp dAdd (dVar 6) (dC (.int 1))) dNil))))) dNil)) (dCB dRepr (dCons (dVar 7) dNil))))) (dRet (dC (.bl false))) dNext))))) (dRet (dC (.bl true)))))))))
theorem px__law_are_steps_right (G : Facts K mg) {k : Nat} {sp_tape_standing : SpD} (h_tape_standing : Has P w K mg base CX0 "tape_standing" s_tape_standing ["machine", "tree", "c", "many"] k sp_tape_standing) {sp__law_draw : SpD} (h__law_draw : Has P w K mg base CX0 "_law_draw" s__law_draw ["deck", "many"] k sp__law_draw) {sp__law_pick : SpD} (h__law_pick : Has P w K mg base CX0 "_law_pick" s__law_pick ["deck", "some"] k sp__law_pick) {sp__law_tags : SpD} (h__law_tags : Has P w K mg base CX0 "_law_tags" s__law_tags ["deck", "many"] k sp__law_tags) {sp__law_tree : SpD} (h__law_tree : Has P w K mg base CX0 "_law_tree" s__law_tree ["deck", "nodes", "tags"] k sp__law_tree) {sp__law_tape : SpD} (h__law_tape : Has P w K mg base CX0 "_law_tape" s__law_tape ["deck", "most"] k sp__law_tape) {sp__law_cells : SpD} (h__law_cells : Has P w K mg base CX0 "_law_cells" s__law_cells ["machine", "tree", "c"] k sp__law_cells) {sp__law_standing : SpD} (h__law_standing : Has P w K mg base CX0 "_law_standing" s__law_standing ["machine", "tree", "c", "many"] k sp__law_standing) {sp__law_seeker : SpD} (h__law_seeker : Has P w K mg base CX0 "_law_seeker" s__law_seeker ["deck"] k sp__law_seeker) {f : Addr} (cdv : Value) (A : Around) (outer : List Env) (s : Shared) (H : Hp) (E : XK) (hr : Room (k) (A.deeper (envOfC "_law_are_steps_right" (defScope s__law_are_steps_right) s.heap.objs.size f cdv))) (hG : A.guards = some []) :
    PBD (cxOf (L2.CX P w) P w K mg base N__law_are_steps_right "_law_are_steps_right" (defScope s__law_are_steps_right) f cdv A outer s H E) (defBody s__law_are_steps_right) (tx__law_are_steps_right sp_tape_standing sp__law_draw sp__law_pick sp__law_tags sp__law_tree sp__law_tape sp__law_cells sp__law_standing sp__law_seeker) :=
  (db_cons (ds_set 1 nd__law_are_steps_right (de_call h__law_pick hr hG B__law_pick (da_cons (de_var 0) (da_cons (de_lst (da_cons de_int (da_cons de_int (da_cons de_int da_nil)))) da_nil)))) (db_cons (ds_set 2 nd__law_are_steps_right (de_if (dt_cmp (od_eq hr.units) (de_call h__law_draw hr hG B__law_draw (da_cons (de_var 0) (da_cons de_int da_nil))) de_int (by rfl)) (de_ix (de_call h__law_seeker hr hG B__law_seeker (da_cons (de_var 0) da_nil)) de_int) (de_call h__law_tape hr hG B__law_tape (da_cons (de_var 0) (da_cons de_int da_nil))))) (db_cons (ds_set 3 nd__law_are_steps_right (de_call h__law_tree hr hG B__law_tree (da_cons (de_var 0) (da_cons (de_if (dt_cmp (od_eq hr.units) (de_var 1) de_int (by rfl)) (de_call h__law_draw hr hG B__law_draw (da_cons (de_var 0) (da_cons de_int da_nil))) (de_call h__law_draw hr hG B__law_draw (da_cons (de_var 0) (da_cons de_int da_nil)))) (da_cons (de_op od_add (de_zv (de_ix (de_var 2) de_int)) (de_zv (de_call h__law_tags hr hG B__law_tags (da_cons (de_var 0) (da_cons de_int da_nil))))) da_nil))))) (db_cons (ds_set 4 nd__law_are_steps_right (de_callB cd_len G.z_len (da_cons (de_call h__law_cells hr hG B__law_cells (da_cons (de_var 2) (da_cons (de_var 3) (da_cons (de_var 1) da_nil)))) da_nil))) (db_cons (ds_set 5 nd__law_are_steps_right (de_call h__law_draw hr hG B__law_draw (da_cons (de_var 0) (da_cons (de_op od_add (de_var 4) de_int) da_nil)))) (db_cons (ds_for (vs := [6]) (passes_of rfl) rfl (di_val (de_tup (da_cons de_int (da_cons (de_var 5) (da_cons (de_op od_add (de_var 5) de_int) (da_cons (de_call h__law_draw hr hG B__law_draw (da_cons (de_var 0) (da_cons (de_op od_add (de_var 4) de_int) da_nil))) da_nil)))))) (dg_name (vs := [6]) 6 nd__law_are_steps_right) (db_cons (ds_set 7 nd__law_are_steps_right (de_call h__law_standing hr hG B__law_standing (da_cons (de_var 2) (da_cons (de_var 3) (da_cons (de_var 1) (da_cons (de_var 6) da_nil)))))) (db_cons (ds_set 8 nd__law_are_steps_right (de_lst (da_cons (de_call h_tape_standing hr hG B_tape_standing (da_cons (de_var 2) (da_cons (de_var 3) (da_cons (de_var 1) (da_cons (de_var 6) da_nil))))) (da_cons (de_callK0 (is := [3, 2, 1, 0]) (ks := ["many", "c", "tree", "machine"]) h_tape_standing hr hG (fun _ _ _ _ _ _ us ws h1 h2 => match us, ws, h1, h2 with | [], [_, _, _, _], _, _ => rfl) (dk_cons (de_var 6) (dk_cons (de_var 1) (dk_cons (de_var 3) (dk_cons (de_var 2) dk_nil))))) da_nil)))) (db_cons (ds_if (dt_cmp (od_ne hr.units) (de_callB (cd_repr hG hr.units) G.z_repr (da_cons (de_var 8) da_nil)) (de_callB (cd_repr hG hr.units) G.z_repr (da_cons (de_lst (da_cons (de_var 7) (da_cons (de_var 7) da_nil))) da_nil)) (by rfl)) (db_one (ds_ret de_bl)) db_nil) (db_one (ds_if (dt_of (dw_and (dt_cmp od_ge (de_ix (de_var 7) de_int) (de_callB cd_len G.z_len (da_cons (de_ix (de_var 2) de_int) da_nil)) (by rfl)) (dw_and1 (dt_cmp (od_ne hr.units) (de_callB (cd_repr hG hr.units) G.z_repr (da_cons (de_call h_tape_standing hr hG B_tape_standing (da_cons (de_var 2) (da_cons (de_var 3) (da_cons (de_var 1) (da_cons (de_op od_add (de_var 6) de_int) da_nil))))) da_nil)) (de_callB (cd_repr hG hr.units) G.z_repr (da_cons (de_var 7) da_nil)) (by rfl))))) (db_one (ds_ret de_bl)) db_nil)))))) (db_one (ds_ret de_bl))))))))
def t_law (sp__law_deck : SpD) (sp__law_ahead : SpD) (sp__law_are_steps_right : SpD) : DS := (dSeq (dSet 1 (dCall sp__law_deck (dCons (dVar 0) dNil))) (dRet (dAndV (dCall sp__law_are_steps_right (dCons (dVar 1) dNil)) (dCall sp__law_ahead (dCons (dVar 1) dNil)))))
theorem p_law (G : Facts K mg) {k : Nat} {sp__law_deck : SpD} (h__law_deck : Has P w K mg base CX0 "_law_deck" s__law_deck ["script"] k sp__law_deck) {sp__law_ahead : SpD} (h__law_ahead : Has P w K mg base CX0 "_law_ahead" s__law_ahead ["deck"] k sp__law_ahead) {sp__law_are_steps_right : SpD} (h__law_are_steps_right : Has P w K mg base CX0 "_law_are_steps_right" s__law_are_steps_right ["deck"] k sp__law_are_steps_right) {f : Addr} (cdv : Value) (A : Around) (outer : List Env) (s : Shared) (H : Hp) (E : XK) (hr : Room (k) (A.deeper (envOfC "law" (defScope s_law) s.heap.objs.size f cdv))) (hG : A.guards = some []) :
    PBD (cxOf CX0 P w K mg base N_law "law" (defScope s_law) f cdv A outer s H E).nox (defBody s_law) (t_law sp__law_deck sp__law_ahead sp__law_are_steps_right) :=
  (db_cons (ds_set 1 nd_law (de_call h__law_deck hr hG B__law_deck (da_cons (de_var 0) da_nil))) (db_one (ds_ret (de_and (de_call h__law_are_steps_right hr hG B__law_are_steps_right (da_cons (de_var 1) da_nil)) (de_one (de_call h__law_ahead hr hG B__law_ahead (da_cons (de_var 1) da_nil)))))))
end
theorem facts_mk {K : PySem.W.Frag} {h : Heap} {mg : Str → Option Value} (X : K.In h) (G : h.Ns mainGlobals mg)
    {f0 : Addr} {od0 an0 : Option Addr} {sl0 : Array (Option Value)} {oc0 kV0 dc0 pm0 cd0 ct0 : Value} (a0 : PySem.W.nsIn K mainGlobals "is_integer" = some (some (.ref f0))) (l0 : K.lookup f0 = some ⟨oc0, od0, .func (PySem.W.fnOf "is_integer" "is_integer" (defArgs s_is_integer) (defBody s_is_integer) (defScope s_is_integer) .none kV0 dc0 pm0 an0 cd0 ct0), sl0⟩) (c0 : PySem.W.codeIn K cd0 "is_integer" = true) (k0 : PySem.W.keepIn K (.ref f0) = true)
    {f1 : Addr} {od1 an1 : Option Addr} {sl1 : Array (Option Value)} {oc1 kV1 dc1 pm1 cd1 ct1 : Value} (a1 : PySem.W.nsIn K mainGlobals "is_from" = some (some (.ref f1))) (l1 : K.lookup f1 = some ⟨oc1, od1, .func (PySem.W.fnOf "is_from" "is_from" (defArgs s_is_from) (defBody s_is_from) (defScope s_is_from) .none kV1 dc1 pm1 an1 cd1 ct1), sl1⟩) (c1 : PySem.W.codeIn K cd1 "is_from" = true) (k1 : PySem.W.keepIn K (.ref f1) = true)
    {f2 : Addr} {od2 an2 : Option Addr} {sl2 : Array (Option Value)} {oc2 kV2 dc2 pm2 cd2 ct2 : Value} (a2 : PySem.W.nsIn K mainGlobals "is_tuple" = some (some (.ref f2))) (l2 : K.lookup f2 = some ⟨oc2, od2, .func (PySem.W.fnOf "is_tuple" "is_tuple" (defArgs s_is_tuple) (defBody s_is_tuple) (defScope s_is_tuple) .none kV2 dc2 pm2 an2 cd2 ct2), sl2⟩) (c2 : PySem.W.codeIn K cd2 "is_tuple" = true) (k2 : PySem.W.keepIn K (.ref f2) = true)
    {f3 : Addr} {od3 an3 : Option Addr} {sl3 : Array (Option Value)} {oc3 kV3 dc3 pm3 cd3 ct3 : Value} (a3 : PySem.W.nsIn K mainGlobals "is_tag_value" = some (some (.ref f3))) (l3 : K.lookup f3 = some ⟨oc3, od3, .func (PySem.W.fnOf "is_tag_value" "is_tag_value" (defArgs s_is_tag_value) (defBody s_is_tag_value) (defScope s_is_tag_value) .none kV3 dc3 pm3 an3 cd3 ct3), sl3⟩) (c3 : PySem.W.codeIn K cd3 "is_tag_value" = true) (k3 : PySem.W.keepIn K (.ref f3) = true)
    {f4 : Addr} {od4 an4 : Option Addr} {sl4 : Array (Option Value)} {oc4 kV4 dc4 pm4 cd4 ct4 : Value} (a4 : PySem.W.nsIn K mainGlobals "is_tree_value" = some (some (.ref f4))) (l4 : K.lookup f4 = some ⟨oc4, od4, .func (PySem.W.fnOf "is_tree_value" "is_tree_value" (defArgs s_is_tree_value) (defBody s_is_tree_value) (defScope s_is_tree_value) .none kV4 dc4 pm4 an4 cd4 ct4), sl4⟩) (c4 : PySem.W.codeIn K cd4 "is_tree_value" = true) (k4 : PySem.W.keepIn K (.ref f4) = true)
    {f5 : Addr} {od5 an5 : Option Addr} {sl5 : Array (Option Value)} {oc5 kV5 dc5 pm5 cd5 ct5 : Value} (a5 : PySem.W.nsIn K mainGlobals "need_tree" = some (some (.ref f5))) (l5 : K.lookup f5 = some ⟨oc5, od5, .func (PySem.W.fnOf "need_tree" "need_tree" (defArgs s_need_tree) (defBody s_need_tree) (defScope s_need_tree) .none kV5 dc5 pm5 an5 cd5 ct5), sl5⟩) (c5 : PySem.W.codeIn K cd5 "need_tree" = true) (k5 : PySem.W.keepIn K (.ref f5) = true)
    {f6 : Addr} {od6 an6 : Option Addr} {sl6 : Array (Option Value)} {oc6 kV6 dc6 pm6 cd6 ct6 : Value} (a6 : PySem.W.nsIn K mainGlobals "subtree" = some (some (.ref f6))) (l6 : K.lookup f6 = some ⟨oc6, od6, .func (PySem.W.fnOf "subtree" "subtree" (defArgs s_subtree) (defBody s_subtree) (defScope s_subtree) .none kV6 dc6 pm6 an6 cd6 ct6), sl6⟩) (c6 : PySem.W.codeIn K cd6 "subtree" = true) (k6 : PySem.W.keepIn K (.ref f6) = true)
    {f7 : Addr} {od7 an7 : Option Addr} {sl7 : Array (Option Value)} {oc7 kV7 dc7 pm7 cd7 ct7 : Value} (a7 : PySem.W.nsIn K mainGlobals "all_places" = some (some (.ref f7))) (l7 : K.lookup f7 = some ⟨oc7, od7, .func (PySem.W.fnOf "all_places" "all_places" (defArgs s_all_places) (defBody s_all_places) (defScope s_all_places) .none kV7 dc7 pm7 an7 cd7 ct7), sl7⟩) (c7 : PySem.W.codeIn K cd7 "all_places" = true) (k7 : PySem.W.keepIn K (.ref f7) = true)
    {f8 : Addr} {od8 an8 : Option Addr} {sl8 : Array (Option Value)} {oc8 kV8 dc8 pm8 cd8 ct8 : Value} (a8 : PySem.W.nsIn K mainGlobals "is_rule" = some (some (.ref f8))) (l8 : K.lookup f8 = some ⟨oc8, od8, .func (PySem.W.fnOf "is_rule" "is_rule" (defArgs s_is_rule) (defBody s_is_rule) (defScope s_is_rule) .none kV8 dc8 pm8 an8 cd8 ct8), sl8⟩) (c8 : PySem.W.codeIn K cd8 "is_rule" = true) (k8 : PySem.W.keepIn K (.ref f8) = true)
    {f9 : Addr} {od9 an9 : Option Addr} {sl9 : Array (Option Value)} {oc9 kV9 dc9 pm9 cd9 ct9 : Value} (a9 : PySem.W.nsIn K mainGlobals "is_state" = some (some (.ref f9))) (l9 : K.lookup f9 = some ⟨oc9, od9, .func (PySem.W.fnOf "is_state" "is_state" (defArgs s_is_state) (defBody s_is_state) (defScope s_is_state) .none kV9 dc9 pm9 an9 cd9 ct9), sl9⟩) (c9 : PySem.W.codeIn K cd9 "is_state" = true) (k9 : PySem.W.keepIn K (.ref f9) = true)
    {f10 : Addr} {od10 an10 : Option Addr} {sl10 : Array (Option Value)} {oc10 kV10 dc10 pm10 cd10 ct10 : Value} (a10 : PySem.W.nsIn K mainGlobals "are_unlike_tags" = some (some (.ref f10))) (l10 : K.lookup f10 = some ⟨oc10, od10, .func (PySem.W.fnOf "are_unlike_tags" "are_unlike_tags" (defArgs s_are_unlike_tags) (defBody s_are_unlike_tags) (defScope s_are_unlike_tags) .none kV10 dc10 pm10 an10 cd10 ct10), sl10⟩) (c10 : PySem.W.codeIn K cd10 "are_unlike_tags" = true) (k10 : PySem.W.keepIn K (.ref f10) = true)
    {f11 : Addr} {od11 an11 : Option Addr} {sl11 : Array (Option Value)} {oc11 kV11 dc11 pm11 cd11 ct11 : Value} (a11 : PySem.W.nsIn K mainGlobals "is_tape_value" = some (some (.ref f11))) (l11 : K.lookup f11 = some ⟨oc11, od11, .func (PySem.W.fnOf "is_tape_value" "is_tape_value" (defArgs s_is_tape_value) (defBody s_is_tape_value) (defScope s_is_tape_value) .none kV11 dc11 pm11 an11 cd11 ct11), sl11⟩) (c11 : PySem.W.codeIn K cd11 "is_tape_value" = true) (k11 : PySem.W.keepIn K (.ref f11) = true)
    {f12 : Addr} {od12 an12 : Option Addr} {sl12 : Array (Option Value)} {oc12 kV12 dc12 pm12 cd12 ct12 : Value} (a12 : PySem.W.nsIn K mainGlobals "need_tape" = some (some (.ref f12))) (l12 : K.lookup f12 = some ⟨oc12, od12, .func (PySem.W.fnOf "need_tape" "need_tape" (defArgs s_need_tape) (defBody s_need_tape) (defScope s_need_tape) .none kV12 dc12 pm12 an12 cd12 ct12), sl12⟩) (c12 : PySem.W.codeIn K cd12 "need_tape" = true) (k12 : PySem.W.keepIn K (.ref f12) = true)
    {f13 : Addr} {od13 an13 : Option Addr} {sl13 : Array (Option Value)} {oc13 kV13 dc13 pm13 cd13 ct13 : Value} (a13 : PySem.W.nsIn K mainGlobals "need_clock" = some (some (.ref f13))) (l13 : K.lookup f13 = some ⟨oc13, od13, .func (PySem.W.fnOf "need_clock" "need_clock" (defArgs s_need_clock) (defBody s_need_clock) (defScope s_need_clock) .none kV13 dc13 pm13 an13 cd13 ct13), sl13⟩) (c13 : PySem.W.codeIn K cd13 "need_clock" = true) (k13 : PySem.W.keepIn K (.ref f13) = true)
    {f14 : Addr} {od14 an14 : Option Addr} {sl14 : Array (Option Value)} {oc14 kV14 dc14 pm14 cd14 ct14 : Value} (a14 : PySem.W.nsIn K mainGlobals "sign_of" = some (some (.ref f14))) (l14 : K.lookup f14 = some ⟨oc14, od14, .func (PySem.W.fnOf "sign_of" "sign_of" (defArgs s_sign_of) (defBody s_sign_of) (defScope s_sign_of) .none kV14 dc14 pm14 an14 cd14 ct14), sl14⟩) (c14 : PySem.W.codeIn K cd14 "sign_of" = true) (k14 : PySem.W.keepIn K (.ref f14) = true)
    {f15 : Addr} {od15 an15 : Option Addr} {sl15 : Array (Option Value)} {oc15 kV15 dc15 pm15 cd15 ct15 : Value} (a15 : PySem.W.nsIn K mainGlobals "cells_of" = some (some (.ref f15))) (l15 : K.lookup f15 = some ⟨oc15, od15, .func (PySem.W.fnOf "cells_of" "cells_of" (defArgs s_cells_of) (defBody s_cells_of) (defScope s_cells_of) .none kV15 dc15 pm15 an15 cd15 ct15), sl15⟩) (c15 : PySem.W.codeIn K cd15 "cells_of" = true) (k15 : PySem.W.keepIn K (.ref f15) = true)
    {f16 : Addr} {od16 an16 : Option Addr} {sl16 : Array (Option Value)} {oc16 kV16 dc16 pm16 cd16 ct16 : Value} (a16 : PySem.W.nsIn K mainGlobals "standing_after" = some (some (.ref f16))) (l16 : K.lookup f16 = some ⟨oc16, od16, .func (PySem.W.fnOf "standing_after" "standing_after" (defArgs s_standing_after) (defBody s_standing_after) (defScope s_standing_after) .none kV16 dc16 pm16 an16 cd16 ct16), sl16⟩) (c16 : PySem.W.codeIn K cd16 "standing_after" = true) (k16 : PySem.W.keepIn K (.ref f16) = true)
    {f17 : Addr} {od17 an17 : Option Addr} {sl17 : Array (Option Value)} {oc17 kV17 dc17 pm17 cd17 ct17 : Value} (a17 : PySem.W.nsIn K mainGlobals "need_run" = some (some (.ref f17))) (l17 : K.lookup f17 = some ⟨oc17, od17, .func (PySem.W.fnOf "need_run" "need_run" (defArgs s_need_run) (defBody s_need_run) (defScope s_need_run) .none kV17 dc17 pm17 an17 cd17 ct17), sl17⟩) (c17 : PySem.W.codeIn K cd17 "need_run" = true) (k17 : PySem.W.keepIn K (.ref f17) = true)
    {f18 : Addr} {od18 an18 : Option Addr} {sl18 : Array (Option Value)} {oc18 kV18 dc18 pm18 cd18 ct18 : Value} (a18 : PySem.W.nsIn K mainGlobals "tape_standing" = some (some (.ref f18))) (l18 : K.lookup f18 = some ⟨oc18, od18, .func (PySem.W.fnOf "tape_standing" "tape_standing" (defArgs s_tape_standing) (defBody s_tape_standing) (defScope s_tape_standing) .none kV18 dc18 pm18 an18 cd18 ct18), sl18⟩) (c18 : PySem.W.codeIn K cd18 "tape_standing" = true) (k18 : PySem.W.keepIn K (.ref f18) = true)
    {f19 : Addr} {od19 an19 : Option Addr} {sl19 : Array (Option Value)} {oc19 kV19 dc19 pm19 cd19 ct19 : Value} (a19 : PySem.W.nsIn K mainGlobals "tape_outcome" = some (some (.ref f19))) (l19 : K.lookup f19 = some ⟨oc19, od19, .func (PySem.W.fnOf "tape_outcome" "tape_outcome" (defArgs s_tape_outcome) (defBody s_tape_outcome) (defScope s_tape_outcome) .none kV19 dc19 pm19 an19 cd19 ct19), sl19⟩) (c19 : PySem.W.codeIn K cd19 "tape_outcome" = true) (k19 : PySem.W.keepIn K (.ref f19) = true)
    {f20 : Addr} {od20 an20 : Option Addr} {sl20 : Array (Option Value)} {oc20 kV20 dc20 pm20 cd20 ct20 : Value} (a20 : PySem.W.nsIn K mainGlobals "_law_deck" = some (some (.ref f20))) (l20 : K.lookup f20 = some ⟨oc20, od20, .func (PySem.W.fnOf "_law_deck" "_law_deck" (defArgs s__law_deck) (defBody s__law_deck) (defScope s__law_deck) .none kV20 dc20 pm20 an20 cd20 ct20), sl20⟩) (c20 : PySem.W.codeIn K cd20 "_law_deck" = true) (k20 : PySem.W.keepIn K (.ref f20) = true)
    {f21 : Addr} {od21 an21 : Option Addr} {sl21 : Array (Option Value)} {oc21 kV21 dc21 pm21 cd21 ct21 : Value} (a21 : PySem.W.nsIn K mainGlobals "_law_draw" = some (some (.ref f21))) (l21 : K.lookup f21 = some ⟨oc21, od21, .func (PySem.W.fnOf "_law_draw" "_law_draw" (defArgs s__law_draw) (defBody s__law_draw) (defScope s__law_draw) .none kV21 dc21 pm21 an21 cd21 ct21), sl21⟩) (c21 : PySem.W.codeIn K cd21 "_law_draw" = true) (k21 : PySem.W.keepIn K (.ref f21) = true)
    {f22 : Addr} {od22 an22 : Option Addr} {sl22 : Array (Option Value)} {oc22 kV22 dc22 pm22 cd22 ct22 : Value} (a22 : PySem.W.nsIn K mainGlobals "_law_pick" = some (some (.ref f22))) (l22 : K.lookup f22 = some ⟨oc22, od22, .func (PySem.W.fnOf "_law_pick" "_law_pick" (defArgs s__law_pick) (defBody s__law_pick) (defScope s__law_pick) .none kV22 dc22 pm22 an22 cd22 ct22), sl22⟩) (c22 : PySem.W.codeIn K cd22 "_law_pick" = true) (k22 : PySem.W.keepIn K (.ref f22) = true)
    {f23 : Addr} {od23 an23 : Option Addr} {sl23 : Array (Option Value)} {oc23 kV23 dc23 pm23 cd23 ct23 : Value} (a23 : PySem.W.nsIn K mainGlobals "_law_is_tuple" = some (some (.ref f23))) (l23 : K.lookup f23 = some ⟨oc23, od23, .func (PySem.W.fnOf "_law_is_tuple" "_law_is_tuple" (defArgs s__law_is_tuple) (defBody s__law_is_tuple) (defScope s__law_is_tuple) .none kV23 dc23 pm23 an23 cd23 ct23), sl23⟩) (c23 : PySem.W.codeIn K cd23 "_law_is_tuple" = true) (k23 : PySem.W.keepIn K (.ref f23) = true)
    {f24 : Addr} {od24 an24 : Option Addr} {sl24 : Array (Option Value)} {oc24 kV24 dc24 pm24 cd24 ct24 : Value} (a24 : PySem.W.nsIn K mainGlobals "_law_tags" = some (some (.ref f24))) (l24 : K.lookup f24 = some ⟨oc24, od24, .func (PySem.W.fnOf "_law_tags" "_law_tags" (defArgs s__law_tags) (defBody s__law_tags) (defScope s__law_tags) .none kV24 dc24 pm24 an24 cd24 ct24), sl24⟩) (c24 : PySem.W.codeIn K cd24 "_law_tags" = true) (k24 : PySem.W.keepIn K (.ref f24) = true)
    {f25 : Addr} {od25 an25 : Option Addr} {sl25 : Array (Option Value)} {oc25 kV25 dc25 pm25 cd25 ct25 : Value} (a25 : PySem.W.nsIn K mainGlobals "_law_tree" = some (some (.ref f25))) (l25 : K.lookup f25 = some ⟨oc25, od25, .func (PySem.W.fnOf "_law_tree" "_law_tree" (defArgs s__law_tree) (defBody s__law_tree) (defScope s__law_tree) .none kV25 dc25 pm25 an25 cd25 ct25), sl25⟩) (c25 : PySem.W.codeIn K cd25 "_law_tree" = true) (k25 : PySem.W.keepIn K (.ref f25) = true)
    {f26 : Addr} {od26 an26 : Option Addr} {sl26 : Array (Option Value)} {oc26 kV26 dc26 pm26 cd26 ct26 : Value} (a26 : PySem.W.nsIn K mainGlobals "_law_map" = some (some (.ref f26))) (l26 : K.lookup f26 = some ⟨oc26, od26, .func (PySem.W.fnOf "_law_map" "_law_map" (defArgs s__law_map) (defBody s__law_map) (defScope s__law_map) .none kV26 dc26 pm26 an26 cd26 ct26), sl26⟩) (c26 : PySem.W.codeIn K cd26 "_law_map" = true) (k26 : PySem.W.keepIn K (.ref f26) = true)
    {f27 : Addr} {od27 an27 : Option Addr} {sl27 : Array (Option Value)} {oc27 kV27 dc27 pm27 cd27 ct27 : Value} (a27 : PySem.W.nsIn K mainGlobals "_law_power" = some (some (.ref f27))) (l27 : K.lookup f27 = some ⟨oc27, od27, .func (PySem.W.fnOf "_law_power" "_law_power" (defArgs s__law_power) (defBody s__law_power) (defScope s__law_power) .none kV27 dc27 pm27 an27 cd27 ct27), sl27⟩) (c27 : PySem.W.codeIn K cd27 "_law_power" = true) (k27 : PySem.W.keepIn K (.ref f27) = true)
    {f28 : Addr} {od28 an28 : Option Addr} {sl28 : Array (Option Value)} {oc28 kV28 dc28 pm28 cd28 ct28 : Value} (a28 : PySem.W.nsIn K mainGlobals "_law_tape" = some (some (.ref f28))) (l28 : K.lookup f28 = some ⟨oc28, od28, .func (PySem.W.fnOf "_law_tape" "_law_tape" (defArgs s__law_tape) (defBody s__law_tape) (defScope s__law_tape) .none kV28 dc28 pm28 an28 cd28 ct28), sl28⟩) (c28 : PySem.W.codeIn K cd28 "_law_tape" = true) (k28 : PySem.W.keepIn K (.ref f28) = true)
    {f29 : Addr} {od29 an29 : Option Addr} {sl29 : Array (Option Value)} {oc29 kV29 dc29 pm29 cd29 ct29 : Value} (a29 : PySem.W.nsIn K mainGlobals "_law_cells" = some (some (.ref f29))) (l29 : K.lookup f29 = some ⟨oc29, od29, .func (PySem.W.fnOf "_law_cells" "_law_cells" (defArgs s__law_cells) (defBody s__law_cells) (defScope s__law_cells) .none kV29 dc29 pm29 an29 cd29 ct29), sl29⟩) (c29 : PySem.W.codeIn K cd29 "_law_cells" = true) (k29 : PySem.W.keepIn K (.ref f29) = true)
    {f30 : Addr} {od30 an30 : Option Addr} {sl30 : Array (Option Value)} {oc30 kV30 dc30 pm30 cd30 ct30 : Value} (a30 : PySem.W.nsIn K mainGlobals "_law_standing" = some (some (.ref f30))) (l30 : K.lookup f30 = some ⟨oc30, od30, .func (PySem.W.fnOf "_law_standing" "_law_standing" (defArgs s__law_standing) (defBody s__law_standing) (defScope s__law_standing) .none kV30 dc30 pm30 an30 cd30 ct30), sl30⟩) (c30 : PySem.W.codeIn K cd30 "_law_standing" = true) (k30 : PySem.W.keepIn K (.ref f30) = true)
    {f31 : Addr} {od31 an31 : Option Addr} {sl31 : Array (Option Value)} {oc31 kV31 dc31 pm31 cd31 ct31 : Value} (a31 : PySem.W.nsIn K mainGlobals "_law_outcome" = some (some (.ref f31))) (l31 : K.lookup f31 = some ⟨oc31, od31, .func (PySem.W.fnOf "_law_outcome" "_law_outcome" (defArgs s__law_outcome) (defBody s__law_outcome) (defScope s__law_outcome) .none kV31 dc31 pm31 an31 cd31 ct31), sl31⟩) (c31 : PySem.W.codeIn K cd31 "_law_outcome" = true) (k31 : PySem.W.keepIn K (.ref f31) = true)
    {f32 : Addr} {od32 an32 : Option Addr} {sl32 : Array (Option Value)} {oc32 kV32 dc32 pm32 cd32 ct32 : Value} (a32 : PySem.W.nsIn K mainGlobals "_law_seeker" = some (some (.ref f32))) (l32 : K.lookup f32 = some ⟨oc32, od32, .func (PySem.W.fnOf "_law_seeker" "_law_seeker" (defArgs s__law_seeker) (defBody s__law_seeker) (defScope s__law_seeker) .none kV32 dc32 pm32 an32 cd32 ct32), sl32⟩) (c32 : PySem.W.codeIn K cd32 "_law_seeker" = true) (k32 : PySem.W.keepIn K (.ref f32) = true)
    {f33 : Addr} {od33 an33 : Option Addr} {sl33 : Array (Option Value)} {oc33 kV33 dc33 pm33 cd33 ct33 : Value} (a33 : PySem.W.nsIn K mainGlobals "_law_exchanged" = some (some (.ref f33))) (l33 : K.lookup f33 = some ⟨oc33, od33, .func (PySem.W.fnOf "_law_exchanged" "_law_exchanged" (defArgs s__law_exchanged) (defBody s__law_exchanged) (defScope s__law_exchanged) .none kV33 dc33 pm33 an33 cd33 ct33), sl33⟩) (c33 : PySem.W.codeIn K cd33 "_law_exchanged" = true) (k33 : PySem.W.keepIn K (.ref f33) = true)
    {f34 : Addr} {od34 an34 : Option Addr} {sl34 : Array (Option Value)} {oc34 kV34 dc34 pm34 cd34 ct34 : Value} (a34 : PySem.W.nsIn K mainGlobals "_law_ahead" = some (some (.ref f34))) (l34 : K.lookup f34 = some ⟨oc34, od34, .func (PySem.W.fnOf "_law_ahead" "_law_ahead" (defArgs s__law_ahead) (defBody s__law_ahead) (defScope s__law_ahead) .none kV34 dc34 pm34 an34 cd34 ct34), sl34⟩) (c34 : PySem.W.codeIn K cd34 "_law_ahead" = true) (k34 : PySem.W.keepIn K (.ref f34) = true)
    {f35 : Addr} {od35 an35 : Option Addr} {sl35 : Array (Option Value)} {oc35 kV35 dc35 pm35 cd35 ct35 : Value} (a35 : PySem.W.nsIn K mainGlobals "_law_are_steps_right" = some (some (.ref f35))) (l35 : K.lookup f35 = some ⟨oc35, od35, .func (PySem.W.fnOf "_law_are_steps_right" "_law_are_steps_right" (defArgs s__law_are_steps_right) (defBody s__law_are_steps_right) (defScope s__law_are_steps_right) .none kV35 dc35 pm35 an35 cd35 ct35), sl35⟩) (c35 : PySem.W.codeIn K cd35 "_law_are_steps_right" = true) (k35 : PySem.W.keepIn K (.ref f35) = true)
    {f36 : Addr} {od36 an36 : Option Addr} {sl36 : Array (Option Value)} {oc36 kV36 dc36 pm36 cd36 ct36 : Value} (a36 : PySem.W.nsIn K mainGlobals "law" = some (some (.ref f36))) (l36 : K.lookup f36 = some ⟨oc36, od36, .func (PySem.W.fnOf "law" "law" (defArgs s_law) (defBody s_law) (defScope s_law) .none kV36 dc36 pm36 an36 cd36 ct36), sl36⟩) (c36 : PySem.W.codeIn K cd36 "law" = true) (k36 : PySem.W.keepIn K (.ref f36) = true)
    (z_all : PySem.W.nsIn K mainGlobals "all" = some none)
    (z_bool : PySem.W.nsIn K mainGlobals "bool" = some none)
    (z_int : PySem.W.nsIn K mainGlobals "int" = some none)
    (z_isinstance : PySem.W.nsIn K mainGlobals "isinstance" = some none)
    (z_len : PySem.W.nsIn K mainGlobals "len" = some none)
    (z_list : PySem.W.nsIn K mainGlobals "list" = some none)
    (z_max : PySem.W.nsIn K mainGlobals "max" = some none)
    (z_min : PySem.W.nsIn K mainGlobals "min" = some none)
    (z_range : PySem.W.nsIn K mainGlobals "range" = some none)
    (z_repr : PySem.W.nsIn K mainGlobals "repr" = some none)
    (z_set : PySem.W.nsIn K mainGlobals "set" = some none)
    (z_sorted : PySem.W.nsIn K mainGlobals "sorted" = some none)
    (z_str : PySem.W.nsIn K mainGlobals "str" = some none)
    (z_tuple : PySem.W.nsIn K mainGlobals "tuple" = some none)
    {tk_LONGEST_TAG : Tok} (e_LONGEST_TAG : PySem.W.nsIn K mainGlobals "LONGEST_TAG" = some (some (.int 8 tk_LONGEST_TAG)))
    {ad_MOVES : Addr} {od_MOVES : Option Addr} {n_MOVES : Nat} {so_MOVES : Array (Option Value)} {tk_MOVES_0 tk_MOVES_1 tk_MOVES_2 : Tok} (e_MOVES : PySem.W.nsIn K mainGlobals "MOVES" = some (some (.ref ad_MOVES))) (o_MOVES : K.lookup ad_MOVES = some ⟨.type "tuple", od_MOVES, .seq #[.int (-1) tk_MOVES_0, .int (0) tk_MOVES_1, .int (1) tk_MOVES_2] n_MOVES, so_MOVES⟩)
    {tk_SMALL : Tok} (e_SMALL : PySem.W.nsIn K mainGlobals "SMALL" = some (some (.str "abcdefghijklmnopqrstuvwxyz" tk_SMALL)))
    {C_BadTree : Addr} (gC_BadTree : PySem.W.nsIn K mainGlobals "BadTree" = some (some (.ref C_BadTree)))
    {C_EyesError : Addr} (gC_EyesError : PySem.W.nsIn K mainGlobals "EyesError" = some (some (.ref C_EyesError)))
    {C_BadNumber : Addr} (gC_BadNumber : PySem.W.nsIn K mainGlobals "BadNumber" = some (some (.ref C_BadNumber)))
    {C_BadMachine : Addr} (gC_BadMachine : PySem.W.nsIn K mainGlobals "BadMachine" = some (some (.ref C_BadMachine)))
    {nm_BadTree q_BadTree : Str} {N_BadTree : Addr} {bs_BadTree : List Value} {sn_BadTree : List Str} {sub_BadTree : List Value} {ab_BadTree : Bool} {col_BadTree : Option Bool} {dd_BadTree : Option Addr} {m0_BadTree m1_BadTree m2_BadTree m3_BadTree m5_BadTree : Option Value} {fi_BadTree : Addr} {oc_BadTree kV_BadTree dc_BadTree pm_BadTree cd_BadTree ct_BadTree : Value} {od_BadTree an_BadTree : Option Addr} {sl_BadTree : Array (Option Value)} {p1_BadTree p2_BadTree q1_BadTree q2_BadTree q3_BadTree q4_BadTree : Pos} (xL_BadTree : K.lookup C_BadTree = some (excClassObj nm_BadTree q_BadTree C_BadTree N_BadTree bs_BadTree [.ref C_EyesError, .type "Exception", .type "BaseException", .type "object"] true sn_BadTree sub_BadTree ab_BadTree col_BadTree dd_BadTree m0_BadTree m1_BadTree m2_BadTree m3_BadTree m5_BadTree "Exception.__new__")) (sa_BadTree : PySem.W.findIn K (.ref C_BadTree) "__setattr__" = some (some (.builtin "object.__setattr__"))) (ga_BadTree : PySem.W.findIn K (.ref C_BadTree) "__getattribute__" = some (some (.builtin "BaseException.__getattribute__"))) (gg_BadTree : PySem.W.findIn K (.ref C_BadTree) "__getattr__" = some none) (no_BadTree : PySem.W.findIn K (.ref C_BadTree) "thing" = some none) (i_BadTree : PySem.W.findIn K (.ref C_BadTree) "__init__" = some (some (.ref fi_BadTree))) (t_BadTree : PySem.W.typeIn K (.ref fi_BadTree) = some (.type "function")) (l_BadTree : K.lookup fi_BadTree = some ⟨oc_BadTree, od_BadTree, .func (PySem.W.fnOf "__init__" "BadTree.__init__" (PySem.EyX.iA "thing" p1_BadTree p2_BadTree) (PySem.EyX.iB "thing" q1_BadTree q2_BadTree q3_BadTree q4_BadTree) (PySem.EyX.iS "thing") .none kV_BadTree dc_BadTree pm_BadTree an_BadTree cd_BadTree ct_BadTree), sl_BadTree⟩) (c_BadTree : PySem.W.codeIn K cd_BadTree "BadTree.__init__" = true) (k_BadTree : PySem.W.keepIn K (.ref C_BadTree) = true) (e_BadTree : PySem.W.subIn K (.ref C_BadTree) (.type "BaseException") = some true) (ty_BadTree : PySem.W.typeIn K (.ref C_BadTree) = some (.type "type")) (h_BadTree : PySem.W.hasDictIn K C_BadTree = true) (ac_BadTree : PySem.W.findIn K (.ref C_BadTree) "__class__" = some (some (.builtin "object.__class__"))) (mo_BadTree : PySem.W.mroIn K C_BadTree (.type "object") = some true)
    {nm_BadNumber q_BadNumber : Str} {N_BadNumber : Addr} {bs_BadNumber : List Value} {sn_BadNumber : List Str} {sub_BadNumber : List Value} {ab_BadNumber : Bool} {col_BadNumber : Option Bool} {dd_BadNumber : Option Addr} {m0_BadNumber m1_BadNumber m2_BadNumber m3_BadNumber m5_BadNumber : Option Value} {fi_BadNumber : Addr} {oc_BadNumber kV_BadNumber dc_BadNumber pm_BadNumber cd_BadNumber ct_BadNumber : Value} {od_BadNumber an_BadNumber : Option Addr} {sl_BadNumber : Array (Option Value)} {p1_BadNumber p2_BadNumber q1_BadNumber q2_BadNumber q3_BadNumber q4_BadNumber : Pos} (xL_BadNumber : K.lookup C_BadNumber = some (excClassObj nm_BadNumber q_BadNumber C_BadNumber N_BadNumber bs_BadNumber [.ref C_EyesError, .type "Exception", .type "BaseException", .type "object"] true sn_BadNumber sub_BadNumber ab_BadNumber col_BadNumber dd_BadNumber m0_BadNumber m1_BadNumber m2_BadNumber m3_BadNumber m5_BadNumber "Exception.__new__")) (sa_BadNumber : PySem.W.findIn K (.ref C_BadNumber) "__setattr__" = some (some (.builtin "object.__setattr__"))) (ga_BadNumber : PySem.W.findIn K (.ref C_BadNumber) "__getattribute__" = some (some (.builtin "BaseException.__getattribute__"))) (gg_BadNumber : PySem.W.findIn K (.ref C_BadNumber) "__getattr__" = some none) (no_BadNumber : PySem.W.findIn K (.ref C_BadNumber) "thing" = some none) (i_BadNumber : PySem.W.findIn K (.ref C_BadNumber) "__init__" = some (some (.ref fi_BadNumber))) (t_BadNumber : PySem.W.typeIn K (.ref fi_BadNumber) = some (.type "function")) (l_BadNumber : K.lookup fi_BadNumber = some ⟨oc_BadNumber, od_BadNumber, .func (PySem.W.fnOf "__init__" "BadNumber.__init__" (PySem.EyX.iA "thing" p1_BadNumber p2_BadNumber) (PySem.EyX.iB "thing" q1_BadNumber q2_BadNumber q3_BadNumber q4_BadNumber) (PySem.EyX.iS "thing") .none kV_BadNumber dc_BadNumber pm_BadNumber an_BadNumber cd_BadNumber ct_BadNumber), sl_BadNumber⟩) (c_BadNumber : PySem.W.codeIn K cd_BadNumber "BadNumber.__init__" = true) (k_BadNumber : PySem.W.keepIn K (.ref C_BadNumber) = true) (e_BadNumber : PySem.W.subIn K (.ref C_BadNumber) (.type "BaseException") = some true) (ty_BadNumber : PySem.W.typeIn K (.ref C_BadNumber) = some (.type "type")) (h_BadNumber : PySem.W.hasDictIn K C_BadNumber = true) (ac_BadNumber : PySem.W.findIn K (.ref C_BadNumber) "__class__" = some (some (.builtin "object.__class__"))) (mo_BadNumber : PySem.W.mroIn K C_BadNumber (.type "object") = some true)
    {nm_BadMachine q_BadMachine : Str} {N_BadMachine : Addr} {bs_BadMachine : List Value} {sn_BadMachine : List Str} {sub_BadMachine : List Value} {ab_BadMachine : Bool} {col_BadMachine : Option Bool} {dd_BadMachine : Option Addr} {m0_BadMachine m1_BadMachine m2_BadMachine m3_BadMachine m5_BadMachine : Option Value} {fi_BadMachine : Addr} {oc_BadMachine kV_BadMachine dc_BadMachine pm_BadMachine cd_BadMachine ct_BadMachine : Value} {od_BadMachine an_BadMachine : Option Addr} {sl_BadMachine : Array (Option Value)} {p1_BadMachine p2_BadMachine q1_BadMachine q2_BadMachine q3_BadMachine q4_BadMachine : Pos} (xL_BadMachine : K.lookup C_BadMachine = some (excClassObj nm_BadMachine q_BadMachine C_BadMachine N_BadMachine bs_BadMachine [.ref C_EyesError, .type "Exception", .type "BaseException", .type "object"] true sn_BadMachine sub_BadMachine ab_BadMachine col_BadMachine dd_BadMachine m0_BadMachine m1_BadMachine m2_BadMachine m3_BadMachine m5_BadMachine "Exception.__new__")) (sa_BadMachine : PySem.W.findIn K (.ref C_BadMachine) "__setattr__" = some (some (.builtin "object.__setattr__"))) (ga_BadMachine : PySem.W.findIn K (.ref C_BadMachine) "__getattribute__" = some (some (.builtin "BaseException.__getattribute__"))) (gg_BadMachine : PySem.W.findIn K (.ref C_BadMachine) "__getattr__" = some none) (no_BadMachine : PySem.W.findIn K (.ref C_BadMachine) "thing" = some none) (i_BadMachine : PySem.W.findIn K (.ref C_BadMachine) "__init__" = some (some (.ref fi_BadMachine))) (t_BadMachine : PySem.W.typeIn K (.ref fi_BadMachine) = some (.type "function")) (l_BadMachine : K.lookup fi_BadMachine = some ⟨oc_BadMachine, od_BadMachine, .func (PySem.W.fnOf "__init__" "BadMachine.__init__" (PySem.EyX.iA "thing" p1_BadMachine p2_BadMachine) (PySem.EyX.iB "thing" q1_BadMachine q2_BadMachine q3_BadMachine q4_BadMachine) (PySem.EyX.iS "thing") .none kV_BadMachine dc_BadMachine pm_BadMachine an_BadMachine cd_BadMachine ct_BadMachine), sl_BadMachine⟩) (c_BadMachine : PySem.W.codeIn K cd_BadMachine "BadMachine.__init__" = true) (k_BadMachine : PySem.W.keepIn K (.ref C_BadMachine) = true) (e_BadMachine : PySem.W.subIn K (.ref C_BadMachine) (.type "BaseException") = some true) (ty_BadMachine : PySem.W.typeIn K (.ref C_BadMachine) = some (.type "type")) (h_BadMachine : PySem.W.hasDictIn K C_BadMachine = true) (ac_BadMachine : PySem.W.findIn K (.ref C_BadMachine) "__class__" = some (some (.builtin "object.__class__"))) (mo_BadMachine : PySem.W.mroIn K C_BadMachine (.type "object") = some true)
    : Facts K mg := ⟨⟨_, _, PySem.W.mg_of X G a0, fun_mk (st := s_is_integer) l0 c0 k0⟩, ⟨_, _, PySem.W.mg_of X G a1, fun_mk (st := s_is_from) l1 c1 k1⟩, ⟨_, _, PySem.W.mg_of X G a2, fun_mk (st := s_is_tuple) l2 c2 k2⟩, ⟨_, _, PySem.W.mg_of X G a3, fun_mk (st := s_is_tag_value) l3 c3 k3⟩, ⟨_, _, PySem.W.mg_of X G a4, fun_mk (st := s_is_tree_value) l4 c4 k4⟩, ⟨_, _, PySem.W.mg_of X G a5, fun_mk (st := s_need_tree) l5 c5 k5⟩, ⟨_, _, PySem.W.mg_of X G a6, fun_mk (st := s_subtree) l6 c6 k6⟩, ⟨_, _, PySem.W.mg_of X G a7, fun_mk (st := s_all_places) l7 c7 k7⟩, ⟨_, _, PySem.W.mg_of X G a8, fun_mk (st := s_is_rule) l8 c8 k8⟩, ⟨_, _, PySem.W.mg_of X G a9, fun_mk (st := s_is_state) l9 c9 k9⟩, ⟨_, _, PySem.W.mg_of X G a10, fun_mk (st := s_are_unlike_tags) l10 c10 k10⟩, ⟨_, _, PySem.W.mg_of X G a11, fun_mk (st := s_is_tape_value) l11 c11 k11⟩, ⟨_, _, PySem.W.mg_of X G a12, fun_mk (st := s_need_tape) l12 c12 k12⟩, ⟨_, _, PySem.W.mg_of X G a13, fun_mk (st := s_need_clock) l13 c13 k13⟩, ⟨_, _, PySem.W.mg_of X G a14, fun_mk (st := s_sign_of) l14 c14 k14⟩, ⟨_, _, PySem.W.mg_of X G a15, fun_mk (st := s_cells_of) l15 c15 k15⟩, ⟨_, _, PySem.W.mg_of X G a16, fun_mk (st := s_standing_after) l16 c16 k16⟩, ⟨_, _, PySem.W.mg_of X G a17, fun_mk (st := s_need_run) l17 c17 k17⟩, ⟨_, _, PySem.W.mg_of X G a18, fun_mk (st := s_tape_standing) l18 c18 k18⟩, ⟨_, _, PySem.W.mg_of X G a19, fun_mk (st := s_tape_outcome) l19 c19 k19⟩, ⟨_, _, PySem.W.mg_of X G a20, fun_mk (st := s__law_deck) l20 c20 k20⟩, ⟨_, _, PySem.W.mg_of X G a21, fun_mk (st := s__law_draw) l21 c21 k21⟩, ⟨_, _, PySem.W.mg_of X G a22, fun_mk (st := s__law_pick) l22 c22 k22⟩, ⟨_, _, PySem.W.mg_of X G a23, fun_mk (st := s__law_is_tuple) l23 c23 k23⟩, ⟨_, _, PySem.W.mg_of X G a24, fun_mk (st := s__law_tags) l24 c24 k24⟩, ⟨_, _, PySem.W.mg_of X G a25, fun_mk (st := s__law_tree) l25 c25 k25⟩, ⟨_, _, PySem.W.mg_of X G a26, fun_mk (st := s__law_map) l26 c26 k26⟩, ⟨_, _, PySem.W.mg_of X G a27, fun_mk (st := s__law_power) l27 c27 k27⟩, ⟨_, _, PySem.W.mg_of X G a28, fun_mk (st := s__law_tape) l28 c28 k28⟩, ⟨_, _, PySem.W.mg_of X G a29, fun_mk (st := s__law_cells) l29 c29 k29⟩, ⟨_, _, PySem.W.mg_of X G a30, fun_mk (st := s__law_standing) l30 c30 k30⟩, ⟨_, _, PySem.W.mg_of X G a31, fun_mk (st := s__law_outcome) l31 c31 k31⟩, ⟨_, _, PySem.W.mg_of X G a32, fun_mk (st := s__law_seeker) l32 c32 k32⟩, ⟨_, _, PySem.W.mg_of X G a33, fun_mk (st := s__law_exchanged) l33 c33 k33⟩, ⟨_, _, PySem.W.mg_of X G a34, fun_mk (st := s__law_ahead) l34 c34 k34⟩, ⟨_, _, PySem.W.mg_of X G a35, fun_mk (st := s__law_are_steps_right) l35 c35 k35⟩, ⟨_, _, PySem.W.mg_of X G a36, fun_mk (st := s_law) l36 c36 k36⟩, PySem.W.mg_none_of X G z_all, PySem.W.mg_none_of X G z_bool, PySem.W.mg_none_of X G z_int, PySem.W.mg_none_of X G z_isinstance, PySem.W.mg_none_of X G z_len, PySem.W.mg_none_of X G z_list, PySem.W.mg_none_of X G z_max, PySem.W.mg_none_of X G z_min, PySem.W.mg_none_of X G z_range, PySem.W.mg_none_of X G z_repr, PySem.W.mg_none_of X G z_set, PySem.W.mg_none_of X G z_sorted, PySem.W.mg_none_of X G z_str, PySem.W.mg_none_of X G z_tuple, holds_int (PySem.W.mg_of X G e_LONGEST_TAG), holds_ints (PySem.W.mg_of X G e_MOVES) (xs := [-1, 0, 1]) o_MOVES (by simp [sizeLine]) (.cons ⟨_, rfl⟩ (.cons ⟨_, rfl⟩ (.cons ⟨_, rfl⟩ (.nil)))), holds_str (PySem.W.mg_of X G e_SMALL), ⟨C_BadTree, fi_BadTree, _, { gC := PySem.W.mg_of X G gC_BadTree, cls := ⟨_, _, _, _, _, _, _, _, _, _, _, _, _, _, _, xL_BadTree, rfl⟩, sa := sa_BadTree, ga := ga_BadTree, gg := gg_BadTree, noN := no_BadTree, iC := i_BadTree, tC := t_BadTree, kC := k_BadTree, exC := e_BadTree, tyC := ty_BadTree, hdC := h_BadTree, acl := ac_BadTree, mob := mo_BadTree, fn := ⟨_, _, _, _, _, _, _, _, _, _, _, _, _, _, _, l_BadTree, c_BadTree⟩ }⟩, ⟨C_BadNumber, fi_BadNumber, _, { gC := PySem.W.mg_of X G gC_BadNumber, cls := ⟨_, _, _, _, _, _, _, _, _, _, _, _, _, _, _, xL_BadNumber, rfl⟩, sa := sa_BadNumber, ga := ga_BadNumber, gg := gg_BadNumber, noN := no_BadNumber, iC := i_BadNumber, tC := t_BadNumber, kC := k_BadNumber, exC := e_BadNumber, tyC := ty_BadNumber, hdC := h_BadNumber, acl := ac_BadNumber, mob := mo_BadNumber, fn := ⟨_, _, _, _, _, _, _, _, _, _, _, _, _, _, _, l_BadNumber, c_BadNumber⟩ }⟩, ⟨C_BadMachine, fi_BadMachine, _, { gC := PySem.W.mg_of X G gC_BadMachine, cls := ⟨_, _, _, _, _, _, _, _, _, _, _, _, _, _, _, xL_BadMachine, rfl⟩, sa := sa_BadMachine, ga := ga_BadMachine, gg := gg_BadMachine, noN := no_BadMachine, iC := i_BadMachine, tC := t_BadMachine, kC := k_BadMachine, exC := e_BadMachine, tyC := ty_BadMachine, hdC := h_BadMachine, acl := ac_BadMachine, mob := mo_BadMachine, fn := ⟨_, _, _, _, _, _, _, _, _, _, _, _, _, _, _, l_BadMachine, c_BadMachine⟩ }⟩⟩
end Yk57
/- HOLES a0 l0 c0 k0 a1 l1 c1 k1 a2 l2 c2 k2 a3 l3 c3 k3 a4 l4 c4 k4 a5 l5 c5 k5 a6 l6 c6 k6 a7 l7 c7 k7 a8 l8 c8 k8 a9 l9 c9 k9 a10 l10 c10 k10 a11 l11 c11 k11 a12 l12 c12 k12 a13 l13 c13 k13 a14 l14 c14 k14 a15 l15 c15 k15 a16 l16 c16 k16 a17 l17 c17 k17 a18 l18 c18 k18 a19 l19 c19 k19 a20 l20 c20 k20 a21 l21 c21 k21 a22 l22 c22 k22 a23 l23 c23 k23 a24 l24 c24 k24 a25 l25 c25 k25 a26 l26 c26 k26 a27 l27 c27 k27 a28 l28 c28 k28 a29 l29 c29 k29 a30 l30 c30 k30 a31 l31 c31 k31 a32 l32 c32 k32 a33 l33 c33 k33 a34 l34 c34 k34 a35 l35 c35 k35 a36 l36 c36 k36 z_all z_bool z_int z_isinstance z_len z_list z_max z_min z_range z_repr z_set z_sorted z_str z_tuple e_LONGEST_TAG e_MOVES o_MOVES e_SMALL gC_BadTree gC_EyesError gC_BadNumber gC_BadMachine xL_BadTree sa_BadTree ga_BadTree gg_BadTree no_BadTree i_BadTree t_BadTree l_BadTree c_BadTree k_BadTree e_BadTree ty_BadTree h_BadTree ac_BadTree mo_BadTree xL_BadNumber sa_BadNumber ga_BadNumber gg_BadNumber no_BadNumber i_BadNumber t_BadNumber l_BadNumber c_BadNumber k_BadNumber e_BadNumber ty_BadNumber h_BadNumber ac_BadNumber mo_BadNumber xL_BadMachine sa_BadMachine ga_BadMachine gg_BadMachine no_BadMachine i_BadMachine t_BadMachine l_BadMachine c_BadMachine k_BadMachine e_BadMachine ty_BadMachine h_BadMachine ac_BadMachine mo_BadMachine -/

set_option Elab.async false
set_option linter.all false
set_option maxHeartbeats 4000000
set_option maxRecDepth 100000
namespace Yk57
open PySem PySem.Spec PyProof.Rows L2 DL
section
variable {P : Program} {w : World} {K : PySem.W.Frag} {mg : Str → Option Value} {base : Heap}
def tailS : DS := (dSeq (dSet 2 (dOp dMod (dCB dInt1 (dCons (dOp dAdd (dOp dMul (dVar 2) (dC (.int 39373))) (dC (.int 57))) dNil)) (dC (.int 2147483647)))) (dSeq (dSet 2 (dOp dMod (dCB dInt1 (dCons (dOp dAdd (dOp dAdd (dOp dMul (dVar 2) (dVar 2)) (dOp dMul (dC (.int 60089)) (dDGet (dVar 0) (dC (.str "draws"))))) (dC (.int 57))) dNil)) (dC (.int 2147483587)))) (dSeq (dSet 2 (dOp dMod (dCB dInt1 (dCons (dOp dMul (dVar 2) (dC (.int 69621))) dNil)) (dC (.int 2147483563)))) (dRet (dOp dMod (dCB dInt1 (dCons (dOp dDiv (dVar 2) (dC (.int 64))) dNil)) (dVar 1))))))
theorem draw_eq : t__law_draw = (dOpen 0 (dSeq (dDPut (dVar 0) (dC (.str "draws")) (dOp dAdd (dDGet (dVar 0) (dC (.str "draws"))) (dC (.int 1)))) (dSeq (dSet 2 (dOp dAdd (dDGet (dVar 0) (dC (.str "mixed"))) (dOp dMul (dC (.int 53267)) (dDGet (dVar 0) (dC (.str "draws")))))) (dSeq (dIfS (dTest (dOp dNe (dDGet (dVar 0) (dC (.str "left"))) (dLst dNil))) (dSeq (dSet 3 (dMeth0 "list" dPop (dDGet (dVar 0) (dC (.str "left"))))) (dSeq (dIfS (dTest (dOp dGe (dVar 3) (dOp dPow (dC (.int 10)) (dC (.int 18))))) (dSeq (dDrop (dMeth "list" dAppend (dDGet (dVar 0) (dC (.str "left"))) (dCons (dOp dDiv (dVar 3) (dCB dMax2 (dCons (dC (.int 2)) (dCons (dVar 1) dNil)))) dNil))) (dRet (dOp dMod (dCB dInt1 (dCons (dVar 3) dNil)) (dVar 1)))) dNext) (dSet 2 (dOp dAdd (dVar 2) (dOp dMod (dCB dInt1 (dCons (dVar 3) dNil)) (dC (.int 2147483629))))))) dNext) tailS)))) := rfl
theorem h_draw (G : Facts K mg) : Has P w K mg base CX0 "_law_draw" s__law_draw ["deck", "many"] 1 sp_draw := by
  refine has_view G.f__law_draw sc__law_draw (fun _ _ _ _ ⟨_, _, e, _⟩ => by rw [e]; rfl) (fun f cdv A outer s H E hr hG => p__law_draw G cdv A outer s H E hr hG) fun ds M R XR ⟨a, many, e, ⟨b, hd, hb⟩, h0, h1, q⟩ => ?_
  subst e
  have hne : b ≠ a := fun e => by rw [e, hd] at hb; cases hb
  rw [draw_eq]
  refine ⟨a, dks, b, rfl, hd, fun m n ns hns0 => ?_⟩
  have fin : ∀ {x : Int} {ns : List Int} {m n}, ns.length ≤ 1000 → (endsOf K R).rt (.int (x % many)) (DkM M a b ns m n) := fun hl => DkM_end hl hd hb (q _ (Int.emod_nonneg _ (by omega)) (Int.emod_lt_of_pos _ h0))
  have tail : ∀ {x : Int} {s3 : Option D} {ns : List Int} {m n}, ns.length ≤ 1000 → tailS (endsOf K R) [some (.ref a), some (.int many), some (.int x), s3] (DkM M a b ns m n) := fun {x s3 ns m n} hl => by
    have e0 := Int.emod_nonneg (x * 39373 + 57) (b := 2147483647) (by decide)
    have e1 := Int.emod_lt_of_pos (x * 39373 + 57) (b := 2147483647) (by decide)
    simp [tailS, q_get3, q_int1, L2.CMul, L2.CDiv, h0, and_assoc, dSeq, dRet, dRetN, dSet, dDrop, dIfS, dNext, dAsg, dPar, dPar3, gNm, gTp, gsCons, gsNil, dTup, dLst, dCB, dCons, dNil, dC, dVar, dOp, dUn, dTest, dAnd, dOr, dNot, dAndV, dOrV, dNotV, dIf, dChain, dCall, dCallK, pick, dYes, startD, slot, put, dwipe, q_isi_iff, q_ty_non, q_ty_bl, q_ty_int, q_ty_str, q_ty_tup, q_ty_lst, q_ty_dct, isiTy, isTy, q_len_tup, q_len_lst, q_len_str, q_eq_int, q_ne_int, q_eq_str, q_ne_str, q_eq_tup0, q_ne_tup0, q_eq_lst0, q_ne_lst0, q_ix_tup, q_ix_lst, q_at0, q_at1, q_at2, q_at3, q_op_lt, q_op_le, q_op_gt, q_op_ge, q_op_sb, q_op_ml, q_op_md, q_op_dv, q_op_pw, q_op_ad, q_ad_str, q_ad_tup, q_ad_lst, q_un_ng, q_z0, q_z1, q_z2, q_z3, q_z4, q_z5, q_z6, q_z7, q_z8, q_z9, q_z10, q_z11, q_z12, q_z13, q_z14, q_z15, q_z16]
    refine ⟨by omega, by omega, fin hl⟩
  have hz : (3 : Nat) < sizeLine := by decide
  show (dSeq (dDPut _ _ _) _) _ _ (DkM M a b ns m n)
  simp only [dSeq, dDPut, dOp, q_get3, dC, q_op_ad, startD, List.map_cons, List.map_nil, List.cons_append, List.nil_append]
  refine ⟨_, rfl, .inr "draws", a, dks, _, rfl, rfl, DkM_a, hz, ?_⟩
  rw [dkp, dkq, DkM_seta]
  simp only [dSet, dSeq, dIfS, dTest, dOp, q_get3, q_get2, q_get1, dC, q_op_ad, q_op_ml, put, dLst, dNil]
  refine ⟨cmul_l (by decide) (by decide), q_z0, ne_left hne ⟨_, rfl, ?_⟩⟩
  cases hns : ns.isEmpty with
  | true =>
    simp only [Bool.not_true, Bool.false_eq_true, if_false]
    exact tail hns0
  | false =>
    simp only [Bool.not_false, if_true]
    obtain ⟨ks, c, rfl⟩ : ∃ ks c, ns = ks ++ [c] := by
      rcases List.eq_nil_or_concat ns with h | ⟨ks, c, h⟩
      · subst h; cases hns
      · exact ⟨ks, c, by simpa using h⟩
    simp only [dSet, dSeq, dMeth0, q_get1]
    refine ⟨.inr (.inl ⟨rfl, _, .inr ⟨b, rfl, DkM_b hne⟩⟩), b, _, .int c, rfl, rfl, DkM_b hne, ?_, ?_⟩
    · simp
    · rw [show ((ks ++ [c]).map D.int).dropLast = ks.map .int by simp, DkM_setb hne]
      have hk : ks.length ≤ 999 := by simp at hns0; omega
      by_cases hc : (1000000000000000000 : Int) ≤ c
      · simp [put, q_get1, q_int1, q_max2, L2.CPow, L2.CDiv, hc, dMeth, and_assoc, dSeq, dRet, dRetN, dSet, dDrop, dIfS, dNext, dAsg, dPar, dPar3, gNm, gTp, gsCons, gsNil, dTup, dLst, dCB, dCons, dNil, dC, dVar, dOp, dUn, dTest, dAnd, dOr, dNot, dAndV, dOrV, dNotV, dIf, dChain, dCall, dCallK, pick, dYes, startD, slot, put, dwipe, q_isi_iff, q_ty_non, q_ty_bl, q_ty_int, q_ty_str, q_ty_tup, q_ty_lst, q_ty_dct, isiTy, isTy, q_len_tup, q_len_lst, q_len_str, q_eq_int, q_ne_int, q_eq_str, q_ne_str, q_eq_tup0, q_ne_tup0, q_eq_lst0, q_ne_lst0, q_ix_tup, q_ix_lst, q_at0, q_at1, q_at2, q_at3, q_op_lt, q_op_le, q_op_gt, q_op_ge, q_op_sb, q_op_ml, q_op_md, q_op_dv, q_op_pw, q_op_ad, q_ad_str, q_ad_tup, q_ad_lst, q_un_ng, q_z0, q_z1, q_z2, q_z3, q_z4, q_z5, q_z6, q_z7, q_z8, q_z9, q_z10, q_z11, q_z12, q_z13, q_z14, q_z15, q_z16]
        refine ⟨.inr (.inl ⟨rfl, _, .inr ⟨b, rfl, DkM_b hne⟩⟩), by split <;> omega, by split <;> omega, b, _, _, rfl, rfl, DkM_b hne, ?_, h0, ?_⟩
        · rw [List.length_map]
          exact Nat.lt_of_le_of_lt hk (by decide)
        · rw [show ks.map D.int ++ [.int (c / if 2 < many then many else 2)] = (ks ++ [c / if 2 < many then many else 2]).map .int by simp, DkM_setb hne]
          exact fin (by simp; omega)
      · simp only [dIfS, dTest, dOp, dVar, dC, put, slot, q_op_pw, q_op_ge, dNext, dCB, dCons, dNil, q_int1, q_op_md, q_op_ad]
        refine ⟨_, rfl, ⟨by decide, by decide, by decide⟩, _, _, rfl, rfl, _, rfl, ?_⟩
        rw [show decide ((10 : Int) ^ (18 : Int).toNat ≤ c) = false from decide_eq_false hc]
        simp only [Bool.false_eq_true, if_false]
        exact ⟨_, rfl, _, rfl, .inl ⟨c, rfl, _, _, rfl, rfl, (by decide : (0 : Int) < 2147483629), tail (by omega)⟩⟩
theorem h_pick (G : Facts K mg) : Has P w K mg base CX0 "_law_pick" s__law_pick ["deck", "some"] 2 sp_pick := by
  refine has_plain G.f__law_pick sc__law_pick (fun _ _ _ _ ⟨_, _, e, _⟩ => by rw [e]; rfl) (fun f cdv A outer s H E hr hG => p__law_pick G (h_draw G) cdv A outer s H E hr hG) fun ds M R XR ⟨a, x, e, hd, q⟩ => ?_
  subst e
  rcases q with ⟨xs, rfl | rfl | ⟨p, rfl, hp⟩, h0, h1, q⟩ | ⟨s, rfl, h0, h1, q⟩
  · have hpos : 0 < xs.length := List.length_pos_iff.mpr h0
    simp [t__law_pick, sp_draw, hd, hpos, and_assoc, dSeq, dRet, dRetN, dSet, dDrop, dIfS, dNext, dAsg, dPar, dPar3, gNm, gTp, gsCons, gsNil, dTup, dLst, dCB, dCons, dNil, dC, dVar, dOp, dUn, dTest, dAnd, dOr, dNot, dAndV, dOrV, dNotV, dIf, dChain, dCall, dCallK, pick, dYes, startD, slot, put, dwipe, q_isi_iff, q_ty_non, q_ty_bl, q_ty_int, q_ty_str, q_ty_tup, q_ty_lst, q_ty_dct, isiTy, isTy, q_len_tup, q_len_lst, q_len_str, q_eq_int, q_ne_int, q_eq_str, q_ne_str, q_eq_tup0, q_ne_tup0, q_eq_lst0, q_ne_lst0, q_ix_tup, q_ix_lst, q_at0, q_at1, q_at2, q_at3, q_op_lt, q_op_le, q_op_gt, q_op_ge, q_op_sb, q_op_ml, q_op_md, q_op_dv, q_op_pw, q_op_ad, q_ad_str, q_ad_tup, q_ad_lst, q_un_ng, q_z0, q_z1, q_z2, q_z3, q_z4, q_z5, q_z6, q_z7, q_z8, q_z9, q_z10, q_z11, q_z12, q_z13, q_z14, q_z15, q_z16]
    refine ⟨by omega, fun i hi0 hi1 => ?_⟩
    obtain ⟨d, hm, ha⟩ := at_nat hi0 hi1
    exact ⟨d, ha, q d hm⟩
  · have hpos : 0 < xs.length := List.length_pos_iff.mpr h0
    simp [t__law_pick, sp_draw, hd, hpos, and_assoc, dSeq, dRet, dRetN, dSet, dDrop, dIfS, dNext, dAsg, dPar, dPar3, gNm, gTp, gsCons, gsNil, dTup, dLst, dCB, dCons, dNil, dC, dVar, dOp, dUn, dTest, dAnd, dOr, dNot, dAndV, dOrV, dNotV, dIf, dChain, dCall, dCallK, pick, dYes, startD, slot, put, dwipe, q_isi_iff, q_ty_non, q_ty_bl, q_ty_int, q_ty_str, q_ty_tup, q_ty_lst, q_ty_dct, isiTy, isTy, q_len_tup, q_len_lst, q_len_str, q_eq_int, q_ne_int, q_eq_str, q_ne_str, q_eq_tup0, q_ne_tup0, q_eq_lst0, q_ne_lst0, q_ix_tup, q_ix_lst, q_at0, q_at1, q_at2, q_at3, q_op_lt, q_op_le, q_op_gt, q_op_ge, q_op_sb, q_op_ml, q_op_md, q_op_dv, q_op_pw, q_op_ad, q_ad_str, q_ad_tup, q_ad_lst, q_un_ng, q_z0, q_z1, q_z2, q_z3, q_z4, q_z5, q_z6, q_z7, q_z8, q_z9, q_z10, q_z11, q_z12, q_z13, q_z14, q_z15, q_z16]
    refine ⟨by omega, fun i hi0 hi1 => ?_⟩
    obtain ⟨d, hm, ha⟩ := at_nat hi0 hi1
    exact ⟨d, ha, q d hm⟩
  · have hpos : 0 < xs.length := List.length_pos_iff.mpr h0
    simp [t__law_pick, sp_draw, hd, hpos, hp, q_len_ref, and_assoc, dSeq, dRet, dRetN, dSet, dDrop, dIfS, dNext, dAsg, dPar, dPar3, gNm, gTp, gsCons, gsNil, dTup, dLst, dCB, dCons, dNil, dC, dVar, dOp, dUn, dTest, dAnd, dOr, dNot, dAndV, dOrV, dNotV, dIf, dChain, dCall, dCallK, pick, dYes, startD, slot, put, dwipe, q_isi_iff, q_ty_non, q_ty_bl, q_ty_int, q_ty_str, q_ty_tup, q_ty_lst, q_ty_dct, isiTy, isTy, q_len_tup, q_len_lst, q_len_str, q_eq_int, q_ne_int, q_eq_str, q_ne_str, q_eq_tup0, q_ne_tup0, q_eq_lst0, q_ne_lst0, q_ix_tup, q_ix_lst, q_at0, q_at1, q_at2, q_at3, q_op_lt, q_op_le, q_op_gt, q_op_ge, q_op_sb, q_op_ml, q_op_md, q_op_dv, q_op_pw, q_op_ad, q_ad_str, q_ad_tup, q_ad_lst, q_un_ng, q_z0, q_z1, q_z2, q_z3, q_z4, q_z5, q_z6, q_z7, q_z8, q_z9, q_z10, q_z11, q_z12, q_z13, q_z14, q_z15, q_z16]
    refine ⟨by omega, fun i hi0 hi1 => ?_⟩
    obtain ⟨d, hm, ha⟩ := at_nat hi0 hi1
    exact ⟨_, rfl, xs, d, hp, ha, q d hm⟩
  · simp [t__law_pick, sp_draw, hd, le_size h1, and_assoc, dSeq, dRet, dRetN, dSet, dDrop, dIfS, dNext, dAsg, dPar, dPar3, gNm, gTp, gsCons, gsNil, dTup, dLst, dCB, dCons, dNil, dC, dVar, dOp, dUn, dTest, dAnd, dOr, dNot, dAndV, dOrV, dNotV, dIf, dChain, dCall, dCallK, pick, dYes, startD, slot, put, dwipe, q_isi_iff, q_ty_non, q_ty_bl, q_ty_int, q_ty_str, q_ty_tup, q_ty_lst, q_ty_dct, isiTy, isTy, q_len_tup, q_len_lst, q_len_str, q_eq_int, q_ne_int, q_eq_str, q_ne_str, q_eq_tup0, q_ne_tup0, q_eq_lst0, q_ne_lst0, q_ix_tup, q_ix_lst, q_at0, q_at1, q_at2, q_at3, q_op_lt, q_op_le, q_op_gt, q_op_ge, q_op_sb, q_op_ml, q_op_md, q_op_dv, q_op_pw, q_op_ad, q_ad_str, q_ad_tup, q_ad_lst, q_un_ng, q_z0, q_z1, q_z2, q_z3, q_z4, q_z5, q_z6, q_z7, q_z8, q_z9, q_z10, q_z11, q_z12, q_z13, q_z14, q_z15, q_z16]
    refine ⟨h0, by omega, fun i hi0 hi1 => ?_⟩
    obtain ⟨j, rfl⟩ := Int.eq_ofNat_of_zero_le hi0
    have hj : j < s.cps.toList.length := by
      have : s.cps.toList.length = s.length := rfl
      omega
    exact ⟨_, rfl, le_size h1, s.cps.toList[j], L2.atI_nat (List.getElem?_eq_getElem hj), q _ (List.getElem_mem hj)⟩
theorem h_deck (G : Facts K mg) : Has P w K mg base CX0 "_law_deck" s__law_deck ["script"] 1 sp_deck := by
  refine has_view G.f__law_deck sc__law_deck (fun _ _ _ _ ⟨_, e, _⟩ => by rw [e]; rfl) (fun f cdv A outer s H E hr hG => p__law_deck G cdv A outer s H E hr hG) fun ds M R XR ⟨ns, e, hl, q⟩ => ?_
  subst e
  have hl2 := cut63_len hl
  simp only [t__law_deck, dSeq, dSet, dC]
  refine go_for (items := (DL.cutD ns none (some 63)).map .int) (G := fun _ => True) (fun i ρ2 M2 => M2 = M ∧ ∃ x s2, ρ2 = [some (.lst (ns.map .int)), some (.int x), s2]) (fun Q h => ⟨_, rfl, _, rfl, _, fun _ => True, ⟨rfl, rfl⟩, by rw [cut63]; exact h⟩) ⟨rfl, _, _, rfl⟩ (fun i d ρ2 M2 hd ⟨e1, x, s2, e2⟩ => ?_) (fun ρ2 M2 ⟨e1, x, s2, e2⟩ => ?_)
  · subst e1 e2
    refine ⟨trivial, ?_⟩
    obtain ⟨n, rfl⟩ : ∃ n, d = .int n := by
      have := List.mem_of_getElem? hd
      obtain ⟨n, _, rfl⟩ := List.mem_map.mp this
      exact ⟨n, rfl⟩
    simp [q_int1, L2.CMul, and_assoc, dSeq, dRet, dRetN, dSet, dDrop, dIfS, dNext, dAsg, dPar, dPar3, gNm, gTp, gsCons, gsNil, dTup, dLst, dCB, dCons, dNil, dC, dVar, dOp, dUn, dTest, dAnd, dOr, dNot, dAndV, dOrV, dNotV, dIf, dChain, dCall, dCallK, pick, dYes, startD, slot, put, dwipe, q_isi_iff, q_ty_non, q_ty_bl, q_ty_int, q_ty_str, q_ty_tup, q_ty_lst, q_ty_dct, isiTy, isTy, q_len_tup, q_len_lst, q_len_str, q_eq_int, q_ne_int, q_eq_str, q_ne_str, q_eq_tup0, q_ne_tup0, q_eq_lst0, q_ne_lst0, q_ix_tup, q_ix_lst, q_at0, q_at1, q_at2, q_at3, q_op_lt, q_op_le, q_op_gt, q_op_ge, q_op_sb, q_op_ml, q_op_md, q_op_dv, q_op_pw, q_op_ad, q_ad_str, q_ad_tup, q_ad_lst, q_un_ng, q_z0, q_z1, q_z2, q_z3, q_z4, q_z5, q_z6, q_z7, q_z8, q_z9, q_z10, q_z11, q_z12, q_z13, q_z14, q_z15, q_z16]
  · subst e1 e2
    refine ⟨trivial, ?_⟩
    have hls : ∀ {R : RK}, R (.lst ((DL.cutD ns none (some 63)).map .int)) M2 → dSl (dVar 0) dNoPart (dPart (dC (.int 63))) [some (.lst (ns.map .int)), some (.int x), s2] M2 R := fun {R} h => ⟨_, rfl, _, rfl, by show R (.lst (DL.cutD (ns.map D.int) none (some 63))) M2; rw [cut63]; exact h⟩
    refine (show dDispM _ _ M2 _ from ?_)
    refine hls ⟨_, _, rfl, .inr (.inl rfl), _, .inl rfl, fun b hb => ?_⟩
    refine ⟨_, rfl, dks, rfl, by decide, by decide, fun p hp => ?_⟩
    have hbp : b ≠ p := fun e => by rw [← e, mset_same] at hp; cases hp
    have hr : ((DL.cutD ns none (some 63)).reverse).length ≤ 1000 := by rw [List.length_reverse]; omega
    have eb : (mset (mset M2 b (.lst ((DL.cutD ns none (some 63)).map D.int).reverse)) p (.dct dks [.ref b, .int x, .int 0])) b = some (.lst ((DL.cutD ns none (some 63)).reverse.map .int)) := by
      rw [mset_ne hbp, mset_same, List.map_reverse]
    refine .inr ⟨.ref p, _, View.mem (MView.deck (a := p) (b := b) mset_same eb hr) fun c hc => ?_, q p _ ⟨b, ?_, mset_same⟩ fun c o hc => ?_⟩
    · have h1 : c ≠ p := fun e => by rw [e, mset_same] at hc; cases hc
      have h2 : c ≠ b := fun e => by rw [e, eb] at hc; cases hc
      rw [mset_ne h2, mset_ne h1]
      exact hc
    · rw [mset_ne (Ne.symm hbp), mset_same]
      rfl
    · have n1 : c ≠ b := fun e => by rw [e, hb] at hc; cases hc
      have n2 : c ≠ p := fun e => by
        rw [mset_ne (Ne.symm hbp)] at hp
        rw [e, hp] at hc
        cases hc
      rw [mset_ne n1, mset_ne n2, mset_ne n2, mset_ne n1]
      exact hc
end
end Yk57

set_option Elab.async false
set_option linter.all false
set_option maxHeartbeats 4000000
set_option maxRecDepth 100000
namespace Yk57
open PySem PySem.Spec PyProof.Rows L2 DL
section
variable {P : Program} {w : World} {K : PySem.W.Frag} {mg : Str → Option Value} {base : Heap}
def isTup (d : D) (n : Int) : Bool := match d with
  | .tup ds => decide ((ds.length : Int) = n)
  | _ => false
def small : Str := "abcdefghijklmnopqrstuvwxyz"
def isTag : D → Bool
  | .str s => decide (1 ≤ (s.length : Int)) && decide ((s.length : Int) ≤ 8) && s.cps.toList.all fun c => signIn c small
  | _ => false
theorem all_chars {s : Str} {p : Nat → Bool} : ((charsD s).all fun d => p (chr d)) = s.cps.toList.all p := by
  unfold charsD
  rw [List.all_map]
  rfl
def sp_isTup : SpD := fun ds M R _ => ∃ d i, ds = [d, .int i] ∧ dat d = true ∧ R (.bl (isTup d i)) M
theorem h_isTup (G : Facts K mg) : Has P w K mg base CX0 "is_tuple" s_is_tuple ["thing", "many"] 1 sp_isTup := by
  refine has_plain G.f_is_tuple sc_is_tuple (fun _ _ _ _ ⟨_, _, e, _⟩ => by rw [e]; rfl) (fun f cdv A outer s H E hr hG => p_is_tuple G cdv A outer s H E hr hG) fun ds M R XR ⟨d, i, e, hd, q⟩ => ?_
  subst e
  cases d <;> first | (cases hd; done) | (simp [t_is_tuple, and_assoc, dSeq, dRet, dRetN, dSet, dDrop, dIfS, dNext, dAsg, dPar, dPar3, gNm, gTp, gsCons, gsNil, dTup, dLst, dCB, dCons, dNil, dC, dVar, dOp, dUn, dTest, dAnd, dOr, dNot, dAndV, dOrV, dNotV, dIf, dChain, dCall, dCallK, pick, dYes, startD, slot, put, dwipe, q_isi_iff, q_ty_non, q_ty_bl, q_ty_int, q_ty_str, q_ty_tup, q_ty_lst, q_ty_dct, isiTy, isTy, q_len_tup, q_len_lst, q_len_str, q_eq_int, q_ne_int, q_eq_str, q_ne_str, q_eq_tup0, q_ne_tup0, q_eq_lst0, q_ne_lst0, q_ix_tup, q_ix_lst, q_at0, q_at1, q_at2, q_at3, q_op_lt, q_op_le, q_op_gt, q_op_ge, q_op_sb, q_op_ml, q_op_md, q_op_dv, q_op_pw, q_op_ad, q_ad_str, q_ad_tup, q_ad_lst, q_un_ng, q_z0, q_z1, q_z2, q_z3, q_z4, q_z5, q_z6, q_z7, q_z8, q_z9, q_z10, q_z11, q_z12, q_z13, q_z14, q_z15, q_z16] <;> exact q)
def sp_isTag : SpD := fun ds M R _ => ∃ d, ds = [d] ∧ dat d = true ∧ R (.bl (isTag d)) M
theorem all_signs {ρ : DEnv} {M : Mem} {R : RK} {i : Nat} {s t : Str} {te : DE} (hi : slot ρ 0 = some (.str s)) (hl : s.length ≤ 1000) (ht : te = dC (.str t)) (hp : ∀ x : D, slot (put (dwipe ρ [i]) i x) i = some x) (q : R (.bl (s.cps.toList.all fun c => signIn c t)) M) :
    dLc [i] (dVal (dVar 0)) (gNm i) dYes (dOp dIn (dVar i) te) ρ M fun x M1 => dAll [x] M1 R := by
  subst ht
  refine go_all (items := charsD s) (G := fun _ => True) (fun d => signIn (chr d) t) (fun Q h => it_val (d := .str s) (fun R h => ⟨_, hi, h⟩) ⟨rfl, rfl⟩ h) (by rw [chars_len]; exact le_size hl) trivial (fun d hd Rt h => ?_) (by rw [all_chars (p := fun c => signIn c t)]; exact q)
  obtain ⟨c, _, rfl⟩ := List.mem_map.mp hd
  exact ⟨_, hp _, _, ⟨c, rfl, rfl⟩, h⟩
theorem h_isTag (G : Facts K mg) : Has P w K mg base CX0 "is_tag_value" s_is_tag_value ["thing"] 1 sp_isTag := by
  refine has_plain G.f_is_tag_value sc_is_tag_value (fun _ _ _ _ ⟨_, e, _⟩ => by rw [e]; rfl) (fun f cdv A outer s H E hr hG => p_is_tag_value G cdv A outer s H E hr hG) fun ds M R XR ⟨d, e, hd, q⟩ => ?_
  subst e
  cases d with
  | str s =>
    have hl := dat_str hd
    by_cases h1 : 1 ≤ (s.length : Int)
    · by_cases h2 : (s.length : Int) ≤ 8
      · simp [t_is_tag_value, d_LONGEST_TAG, h1, h2, le_size hl, and_assoc, dSeq, dRet, dRetN, dSet, dDrop, dIfS, dNext, dAsg, dPar, dPar3, gNm, gTp, gsCons, gsNil, dTup, dLst, dCB, dCons, dNil, dC, dVar, dOp, dUn, dTest, dAnd, dOr, dNot, dAndV, dOrV, dNotV, dIf, dChain, dCall, dCallK, pick, dYes, startD, slot, put, dwipe, q_isi_iff, q_ty_non, q_ty_bl, q_ty_int, q_ty_str, q_ty_tup, q_ty_lst, q_ty_dct, isiTy, isTy, q_len_tup, q_len_lst, q_len_str, q_eq_int, q_ne_int, q_eq_str, q_ne_str, q_eq_tup0, q_ne_tup0, q_eq_lst0, q_ne_lst0, q_ix_tup, q_ix_lst, q_at0, q_at1, q_at2, q_at3, q_op_lt, q_op_le, q_op_gt, q_op_ge, q_op_sb, q_op_ml, q_op_md, q_op_dv, q_op_pw, q_op_ad, q_ad_str, q_ad_tup, q_ad_lst, q_un_ng, q_z0, q_z1, q_z2, q_z3, q_z4, q_z5, q_z6, q_z7, q_z8, q_z9, q_z10, q_z11, q_z12, q_z13, q_z14, q_z15, q_z16]
        have q2 : R (.bl (s.cps.toList.all fun c => signIn c small)) M := by simpa [isTag, h1, h2] using q
        exact all_signs (t := small) rfl hl rfl (fun _ => rfl) q2
      · simp [t_is_tag_value, d_LONGEST_TAG, h1, h2, le_size hl, and_assoc, dSeq, dRet, dRetN, dSet, dDrop, dIfS, dNext, dAsg, dPar, dPar3, gNm, gTp, gsCons, gsNil, dTup, dLst, dCB, dCons, dNil, dC, dVar, dOp, dUn, dTest, dAnd, dOr, dNot, dAndV, dOrV, dNotV, dIf, dChain, dCall, dCallK, pick, dYes, startD, slot, put, dwipe, q_isi_iff, q_ty_non, q_ty_bl, q_ty_int, q_ty_str, q_ty_tup, q_ty_lst, q_ty_dct, isiTy, isTy, q_len_tup, q_len_lst, q_len_str, q_eq_int, q_ne_int, q_eq_str, q_ne_str, q_eq_tup0, q_ne_tup0, q_eq_lst0, q_ne_lst0, q_ix_tup, q_ix_lst, q_at0, q_at1, q_at2, q_at3, q_op_lt, q_op_le, q_op_gt, q_op_ge, q_op_sb, q_op_ml, q_op_md, q_op_dv, q_op_pw, q_op_ad, q_ad_str, q_ad_tup, q_ad_lst, q_un_ng, q_z0, q_z1, q_z2, q_z3, q_z4, q_z5, q_z6, q_z7, q_z8, q_z9, q_z10, q_z11, q_z12, q_z13, q_z14, q_z15, q_z16]
        simpa [isTag, h1, h2] using q
    · simp [t_is_tag_value, d_LONGEST_TAG, h1, le_size hl, and_assoc, dSeq, dRet, dRetN, dSet, dDrop, dIfS, dNext, dAsg, dPar, dPar3, gNm, gTp, gsCons, gsNil, dTup, dLst, dCB, dCons, dNil, dC, dVar, dOp, dUn, dTest, dAnd, dOr, dNot, dAndV, dOrV, dNotV, dIf, dChain, dCall, dCallK, pick, dYes, startD, slot, put, dwipe, q_isi_iff, q_ty_non, q_ty_bl, q_ty_int, q_ty_str, q_ty_tup, q_ty_lst, q_ty_dct, isiTy, isTy, q_len_tup, q_len_lst, q_len_str, q_eq_int, q_ne_int, q_eq_str, q_ne_str, q_eq_tup0, q_ne_tup0, q_eq_lst0, q_ne_lst0, q_ix_tup, q_ix_lst, q_at0, q_at1, q_at2, q_at3, q_op_lt, q_op_le, q_op_gt, q_op_ge, q_op_sb, q_op_ml, q_op_md, q_op_dv, q_op_pw, q_op_ad, q_ad_str, q_ad_tup, q_ad_lst, q_un_ng, q_z0, q_z1, q_z2, q_z3, q_z4, q_z5, q_z6, q_z7, q_z8, q_z9, q_z10, q_z11, q_z12, q_z13, q_z14, q_z15, q_z16]
      simpa [isTag, h1] using q
  | _ => first | (cases hd; done) | (simp [t_is_tag_value, d_LONGEST_TAG, and_assoc, dSeq, dRet, dRetN, dSet, dDrop, dIfS, dNext, dAsg, dPar, dPar3, gNm, gTp, gsCons, gsNil, dTup, dLst, dCB, dCons, dNil, dC, dVar, dOp, dUn, dTest, dAnd, dOr, dNot, dAndV, dOrV, dNotV, dIf, dChain, dCall, dCallK, pick, dYes, startD, slot, put, dwipe, q_isi_iff, q_ty_non, q_ty_bl, q_ty_int, q_ty_str, q_ty_tup, q_ty_lst, q_ty_dct, isiTy, isTy, q_len_tup, q_len_lst, q_len_str, q_eq_int, q_ne_int, q_eq_str, q_ne_str, q_eq_tup0, q_ne_tup0, q_eq_lst0, q_ne_lst0, q_ix_tup, q_ix_lst, q_at0, q_at1, q_at2, q_at3, q_op_lt, q_op_le, q_op_gt, q_op_ge, q_op_sb, q_op_ml, q_op_md, q_op_dv, q_op_pw, q_op_ad, q_ad_str, q_ad_tup, q_ad_lst, q_un_ng, q_z0, q_z1, q_z2, q_z3, q_z4, q_z5, q_z6, q_z7, q_z8, q_z9, q_z10, q_z11, q_z12, q_z13, q_z14, q_z15, q_z16] <;> exact q)
end
end Yk57

set_option Elab.async false
set_option linter.all false
set_option maxHeartbeats 4000000
set_option maxRecDepth 100000
namespace Yk57
open PySem PySem.Spec PyProof.Rows L2 DL
/-! ### trees, in plain words -/
inductive Tr where
  | e
  | n (t : Str) (l r : Tr)
def Tr.d : Tr → D
  | .e => .non
  | .n t l r => .tup [.str t, l.d, r.d]
/-- a value that is a tree, as one -/
def Tr.tags : Tr → List Str
  | .e => []
  | .n t l r => t :: (l.tags ++ r.tags)
def Tr.ok : Tr → Bool
  | .e => true
  | .n t l r => isTag (.str t) && l.ok && r.ok
mutual
def isTree : D → Bool
  | .non => true
  | .tup (t :: ds) => isTag t && decide (ds.length = 2) && allTree ds
  | _ => false
def allTree : List D → Bool
  | [] => true
  | d :: ds => isTree d && allTree ds
end
theorem allTree_eq : ∀ ds : List D, allTree ds = ds.all isTree
  | [] => rfl
  | d :: ds => by
    show (isTree d && allTree ds) = _
    rw [allTree_eq ds]
    try rfl
theorem isTree_node {t l r : D} : isTree (.tup [t, l, r]) = (isTag t && isTree l && isTree r) := by
  have h : isTree (.tup [t, l, r]) = (isTag t && decide ([l, r].length = 2) && allTree [l, r]) := by
    conv => lhs; unfold isTree
  rw [h, allTree_eq]
  simp [Bool.and_assoc]
theorem isTree_short {ds : List D} (h : ds.length ≠ 3) : isTree (.tup ds) = false := by
  cases ds with
  | nil => unfold isTree; try rfl
  | cons t ds =>
    have h' : isTree (.tup (t :: ds)) = (isTag t && decide (ds.length = 2) && allTree ds) := by
      conv => lhs; unfold isTree
    rw [h', decide_eq_false (by intro e; apply h; simp [e])]
    simp
theorem tag_str {d : D} (h : isTag d = true) : ∃ s, d = .str s := by
  cases d with
  | str s => exact ⟨s, rfl⟩
  | _ => cases h
theorem tree_of : ∀ {n : Nat} {d : D}, dp d ≤ n → isTree d = true → ∃ t : Tr, d = t.d ∧ t.ok = true
  | n, .non, _, _ => ⟨.e, rfl, rfl⟩
  | 0, .tup ds, hp, _ => by cases hp
  | n + 1, .tup ds, hp, h => by
    by_cases h3 : ds.length = 3
    · obtain ⟨t, l, r, rfl⟩ : ∃ t l r, ds = [t, l, r] := by
        match ds, h3 with
        | [a, b, c], _ => exact ⟨a, b, c, rfl⟩
      rw [isTree_node, Bool.and_eq_true, Bool.and_eq_true] at h
      obtain ⟨⟨h1, h2⟩, h4⟩ := h
      obtain ⟨s, rfl⟩ := tag_str h1
      have d1 : dp l ≤ dps [.str s, l, r] := dps_mem (by simp)
      have d2 : dp r ≤ dps [.str s, l, r] := dps_mem (by simp)
      have hp' : dps [.str s, l, r] + 1 ≤ n + 1 := hp
      obtain ⟨a, rfl, a1⟩ := tree_of (n := n) (by omega) h2
      obtain ⟨b, rfl, b1⟩ := tree_of (n := n) (by omega) h4
      exact ⟨.n s a b, rfl, by show (isTag (.str s) && a.ok && b.ok) = true; rw [h1, a1, b1]; try rfl⟩
    · rw [isTree_short h3] at h
      cases h
  | _, .bl _, _, h => by unfold isTree at h; cases h
  | _, .int _, _, h => by unfold isTree at h; cases h
  | _, .str _, _, h => by unfold isTree at h; cases h
  | _, .lst _, _, h => by unfold isTree at h; cases h
  | _, .dct _ _, _, h => by unfold isTree at h; cases h
  | _, .ty _, _, h => by unfold isTree at h; cases h
  | _, .ref _, _, h => by unfold isTree at h; cases h
theorem Tr.is : ∀ {t : Tr}, t.ok = true → isTree t.d = true
  | .e, _ => by show isTree .non = true; unfold isTree; try rfl
  | .n s l r, h => by
    have h' : (isTag (.str s) && l.ok && r.ok) = true := h
    rw [Bool.and_eq_true, Bool.and_eq_true] at h'
    show isTree (.tup [.str s, l.d, r.d]) = true
    rw [isTree_node, h'.1.1, Tr.is h'.1.2, Tr.is h'.2]
    try rfl
/-- the places -/
def mkS (l : List Nat) : Str := ⟨l.toArray⟩
def Tr.pl : Tr → List Nat → List (List Nat)
  | .e, a => [a]
  | .n _ l r, a => a :: (l.pl (a ++ [108]) ++ r.pl (a ++ [114]))
def Tr.plc (t : Tr) (a : List Nat) : List Str := (t.pl a).map mkS
theorem mkS_app (a b : List Nat) : mkS a ++ mkS b = mkS (a ++ b) := by
  show (⟨a.toArray ++ b.toArray⟩ : Str) = ⟨(a ++ b).toArray⟩
  simp
theorem mkS_l (a : List Nat) : mkS a ++ "l" = mkS (a ++ [108]) := mkS_app a [108]
theorem mkS_r (a : List Nat) : mkS a ++ "r" = mkS (a ++ [114]) := mkS_app a [114]
theorem mkS_len (a : List Nat) : (mkS a).length = a.length := by
  show a.toArray.size = a.length
  simp
theorem mkS_cps (a : List Nat) : (mkS a).cps.toList = a := rfl
theorem mkS_back (s : Str) : mkS s.cps.toList = s := by
  unfold mkS
  simp
def Tr.walk : Tr → List Nat → Bool
  | _, [] => true
  | .e, _ :: _ => false
  | .n _ l r, c :: w => if c = 108 then l.walk w else if c = 114 then r.walk w else false
def Tr.cnt : Tr → Nat
  | .e => 1
  | .n _ l r => 1 + l.cnt + r.cnt
theorem Tr.pl_len : ∀ {t : Tr} {a : List Nat}, (t.pl a).length = t.cnt
  | .e, _ => rfl
  | .n _ l r, a => by
    show (a :: (l.pl (a ++ [108]) ++ r.pl (a ++ [114]))).length = 1 + l.cnt + r.cnt
    rw [List.length_cons, List.length_append, Tr.pl_len (t := l), Tr.pl_len (t := r)]
    omega
theorem Tr.cnt_wt : ∀ {t : Tr}, t.cnt ≤ wt t.d + 1
  | .e => by decide
  | .n s l r => by
    have a := Tr.cnt_wt (t := l)
    have b := Tr.cnt_wt (t := r)
    show 1 + l.cnt + r.cnt ≤ s.length + 1 + (wt l.d + 1 + (wt r.d + 1 + 0)) + 1
    omega
def Tr.dep : Tr → Nat
  | .e => 0
  | .n _ l r => max l.dep r.dep + 1
theorem Tr.dp_eq : ∀ {t : Tr}, dp t.d = t.dep
  | .e => rfl
  | .n s l r => by
    show max 0 (max (dp l.d) (max (dp r.d) 0)) + 1 = max l.dep r.dep + 1
    rw [Tr.dp_eq (t := l), Tr.dp_eq (t := r)]
    omega
theorem Tr.mem_pl : ∀ {t : Tr} {a x : List Nat}, x ∈ t.pl a ↔ ∃ w, x = a ++ w ∧ t.walk w = true
  | .e, a, x => by
    show x ∈ [a] ↔ _
    constructor
    · intro h
      exact ⟨[], by simpa using h, rfl⟩
    · rintro ⟨w, rfl, h⟩
      cases w with
      | nil => simp
      | cons => cases h
  | .n s l r, a, x => by
    show x ∈ a :: (l.pl (a ++ [108]) ++ r.pl (a ++ [114])) ↔ _
    rw [List.mem_cons, List.mem_append, Tr.mem_pl (t := l), Tr.mem_pl (t := r)]
    constructor
    · rintro (rfl | ⟨w, rfl, h⟩ | ⟨w, rfl, h⟩)
      · exact ⟨[], by simp, rfl⟩
      · refine ⟨108 :: w, by simp, ?_⟩
        show (if 108 = 108 then l.walk w else _) = true
        rw [if_pos rfl]; exact h
      · refine ⟨114 :: w, by simp, ?_⟩
        show (if 114 = 108 then l.walk w else if 114 = 114 then r.walk w else false) = true
        rw [if_neg (by decide), if_pos rfl]; exact h
    · rintro ⟨w, rfl, h⟩
      cases w with
      | nil => exact .inl (by simp)
      | cons c w =>
        have h' : (if c = 108 then l.walk w else if c = 114 then r.walk w else false) = true := h
        by_cases h1 : c = 108
        · rw [if_pos h1] at h'
          exact .inr (.inl ⟨w, by simp [h1], h'⟩)
        · rw [if_neg h1] at h'
          by_cases h2 : c = 114
          · rw [if_pos h2] at h'
            exact .inr (.inr ⟨w, by simp [h2], h'⟩)
          · rw [if_neg h2] at h'
            cases h'
theorem Tr.pl_dep : ∀ {t : Tr} {a x : List Nat}, x ∈ t.pl a → x.length ≤ a.length + t.dep
  | .e, a, x, h => by
    have h' : x ∈ [a] := h
    simp at h'
    rw [h']; exact Nat.le_add_right _ _
  | .n s l r, a, x, h => by
    have h' : x ∈ a :: (l.pl (a ++ [108]) ++ r.pl (a ++ [114])) := h
    show x.length ≤ a.length + (max l.dep r.dep + 1)
    rcases List.mem_cons.mp h' with rfl | h'
    · omega
    · rcases List.mem_append.mp h' with h' | h'
      · have := Tr.pl_dep h'
        rw [List.length_append, List.length_singleton] at this
        omega
      · have := Tr.pl_dep h'
        rw [List.length_append, List.length_singleton] at this
        omega
theorem lex_pre : ∀ {a u v : List Nat}, a ++ u < a ++ v ↔ u < v
  | [], u, v => Iff.rfl
  | x :: a, u, v => by
    rw [List.cons_append, List.cons_append, List.cons_lt_cons_iff]
    constructor
    · rintro (h | ⟨_, h⟩)
      · omega
      · exact lex_pre.mp h
    · exact fun h => .inr ⟨rfl, lex_pre.mpr h⟩
theorem Tr.asc : ∀ {t : Tr} {a : List Nat}, (t.pl a).Pairwise (· < ·)
  | .e, a => List.pairwise_singleton _ _
  | .n s l r, a => by
    show (a :: (l.pl (a ++ [108]) ++ r.pl (a ++ [114]))).Pairwise (· < ·)
    refine List.pairwise_cons.mpr ⟨fun x hx => ?_, List.pairwise_append.mpr ⟨Tr.asc, Tr.asc, fun x hx y hy => ?_⟩⟩
    · have go : ∀ {c : Nat} {w : List Nat}, a < a ++ [c] ++ w := fun {c w} => by
        have : a ++ [] < a ++ (c :: w) := lex_pre.mpr (List.nil_lt_cons ..)
        simpa using this
      rcases List.mem_append.mp hx with h | h
      · obtain ⟨w, rfl, _⟩ := Tr.mem_pl.mp h
        exact go
      · obtain ⟨w, rfl, _⟩ := Tr.mem_pl.mp h
        exact go
    · obtain ⟨w, rfl, _⟩ := Tr.mem_pl.mp hx
      obtain ⟨u, rfl, _⟩ := Tr.mem_pl.mp hy
      have : a ++ (108 :: w) < a ++ (114 :: u) := lex_pre.mpr (List.cons_lt_cons_iff.mpr (.inl (by decide)))
      simpa using this
/-- in order, they are as they are -/
theorem sorted_plc {t : Tr} {ys : List Str} (h : ys.Perm (t.plc [])) (ha : Asc ys) : ys = t.plc [] := by
  refine List.Perm.eq_of_pairwise (le := fun (a b : Str) => ¬ b.cps.toList < a.cps.toList) (fun a b _ _ h1 h2 => ?_) ha ?_ h
  · have e := List.le_antisymm (List.not_lt.mp h1) (List.not_lt.mp h2)
    rw [← mkS_back a, ← mkS_back b, e]
  · refine List.pairwise_map.mpr (List.Pairwise.imp (fun {x y} h => ?_) Tr.asc)
    rw [mkS_cps, mkS_cps]
    exact List.lt_asymm h
end Yk57

set_option Elab.async false
set_option linter.all false
set_option maxHeartbeats 4000000
set_option maxRecDepth 100000
namespace Yk57
open PySem PySem.Spec PyProof.Rows L2 DL
section
variable {P : Program} {w : World} {K : PySem.W.Frag} {mg : Str → Option Value} {base : Heap}
def sp_isTree : SpD := fun ds M R _ => ∃ d, ds = [d] ∧ dat d = true ∧ wt d ≤ 200000 ∧ R (.bl (isTree d)) M
theorem not_tree {d : D} (h1 : isNon d = false) (h2 : isTup d 3 = false) : isTree d = false := by
  cases d with
  | non => cases h1
  | tup ds =>
    refine isTree_short fun e => ?_
    have : isTup (.tup ds) 3 = decide ((ds.length : Int) = 3) := rfl
    rw [this, decide_eq_true (by omega)] at h2
    cases h2
  | _ => unfold isTree; try rfl
theorem tup3 {d : D} (h : isTup d 3 = true) : ∃ t l r, d = .tup [t, l, r] := by
  cases d with
  | tup ds =>
    have e : decide ((ds.length : Int) = 3) = true := h
    have := of_decide_eq_true e
    match ds, this with
    | [a, b, c], _ => exact ⟨a, b, c, rfl⟩
  | _ => cases h
theorem pop_end {M : Mem} {R : RK} {p : Addr} {xs : List D} {x : D} (h : M p = some (.lst (xs ++ [x]))) (q : R x (mset M p (.lst xs))) : dPop (.ref p) [] M R :=
  ⟨p, _, x, rfl, rfl, h, by simp, by simpa using q⟩
theorem h_isTreeV (G : Facts K mg) : Has P w K mg base CX0 "is_tree_value" s_is_tree_value ["thing"] 2 sp_isTree := by
  refine has_view G.f_is_tree_value sc_is_tree_value (fun _ _ _ _ ⟨_, e, _⟩ => by rw [e]; rfl) (fun f cdv A outer s H E hr hG => p_is_tree_value G (h_isTup G) (h_isTag G) cdv A outer s H E hr hG) fun ds M R XR ⟨d, e, hd, hw, q⟩ => ?_
  subst e
  change t_is_tree_value _ _ (endsOf K R) [some d, none, none] M
  simp only [t_is_tree_value, dSeq]
  simp only [dSet, dLstM, dCons, dNil, dVar, slot, Option.some.injEq, exists_eq_left']
  refine ⟨q_z1, fun p hp => ?_⟩
  have x1 := ExtO.refl.new (ds := [d]) hp
  have kp : (mset M p (.lst [d])) p = some (.lst [d]) := mset_same
  generalize mset M p (.lst [d]) = M1 at x1 kp
  simp only [put]
  refine ⟨fun m ρ2 M2 => (∃ s2, ρ2 = [some d, some (.ref p), s2]) ∧ ExtO M M2 ∧ ∃ st, M2 p = some (.lst st) ∧ m = wts st ∧ (∀ y ∈ st, dat y = true) ∧ m ≤ 200001 ∧ isTree d = st.all isTree, ⟨_, ⟨_, rfl⟩, x1, [d], kp, rfl, by simpa using hd, by show wt d + 1 + 0 ≤ _; omega, by simp⟩, fun m ρ2 M2 ⟨⟨s2, e⟩, y1, st, y2, y3, y4, y5, y6⟩ => ?_⟩
  subst e
  simp only [dTest, dOp, dLst, dNil, dVar, slot, Option.some.injEq, exists_eq_left']
  refine ⟨q_z0, st, .inr ⟨p, rfl, y2⟩, rfl, _, rfl, ?_⟩
  rcases List.eq_nil_or_concat st with e | ⟨rest, x, e⟩
  · subst e
    simp only [List.isEmpty_nil, Bool.not_true, Bool.false_eq_true, if_false, dRet, dC]
    refine y1.ends ?_
    rw [y6] at q
    exact q
  · rw [List.concat_eq_append] at e
    subst e
    have hne : (rest ++ [x]).isEmpty = false := by simp
    have hwx : wts (rest ++ [x]) = wts rest + (wt x + 1 + 0) := by rw [wts_app]; try rfl
    rw [hne]
    simp only [Bool.not_false, if_true]
    simp only [dSeq]
    simp only [dSet, dMeth0, dVar, slot, Option.some.injEq, exists_eq_left']
    refine ⟨tyM_l y2, pop_end y2 ?_⟩
    have y1' : ExtO M (mset M2 p (.lst rest)) := y1.updL hp
    have kp' : (mset M2 p (.lst rest)) p = some (.lst rest) := mset_same
    generalize mset M2 p (.lst rest) = M3 at y1' kp'
    have dx := y4 x (by simp)
    have dr : ∀ y ∈ rest, dat y = true := fun y hy => y4 y (by simp [hy])
    have all' : isTree d = (rest.all isTree && isTree x) := by rw [y6]; simp
    simp only [put, dIfS, dTest, dOp, dVar, dC, slot, Option.some.injEq, exists_eq_left']
    refine ⟨rfl, _, rfl, ?_⟩
    cases hx : isNon x
    · simp only [Bool.false_eq_true, if_false, dNext]
      simp only [dOr, dNot, dTest, dCall, dCons, dNil, dVar, dC, slot, Option.some.injEq, exists_eq_left']
      refine ⟨x, 3, rfl, dx, _, rfl, ?_⟩
      cases h3 : isTup x 3
      · simp only [Bool.not_false, if_true, dRet, dC]
        refine y1'.ends ?_
        rw [all', not_tree hx h3, Bool.and_false] at q
        exact q
      · obtain ⟨t, l, r, rfl⟩ := tup3 h3
        obtain ⟨_, hx3⟩ := dat_tup dx
        simp only [Bool.not_true, Bool.false_eq_true, if_false, dOp, dVar, dC, slot, Option.some.injEq, exists_eq_left', q_ix_tup, q_at0]
        refine ⟨t, rfl, hx3 t (by simp), _, rfl, ?_⟩
        cases ht : isTag t
        · simp only [Bool.not_false, if_true, dRet, dC]
          refine y1'.ends ?_
          rw [all', isTree_node, ht, Bool.false_and, Bool.false_and, Bool.and_false] at q
          exact q
        · simp only [Bool.not_true, Bool.false_eq_true, if_false, dNext]
          simp only [dDrop, dMeth, dSl, dNoPart, dPart, rSlD, dCons, dNil, dVar, dC, slot, Option.some.injEq, exists_eq_left', DL.D.int.injEq]
          have ec : DL.cutD [t, l, r] (some 1) none = [l, r] := cut_from (xs := [t, l, r]) (i := 1) (by simp)
          rw [ec]
          have hwl : wt (.tup [t, l, r]) = wt t + 1 + (wt l + 1 + (wt r + 1 + 0)) := rfl
          have hlen := wts_len rest
          refine ⟨tyM_l kp', p, rest, [l, r], rfl, rfl, kp', Nat.le_trans (show rest.length + 2 ≤ 300000 by omega) (by decide), wts (rest ++ [l, r]), ?_, ⟨_, rfl⟩, y1'.updL hp, _, mset_same, rfl, fun y hy => ?_, ?_, ?_⟩
          · rw [wts_app]
            show wts rest + (wt l + 1 + (wt r + 1 + 0)) < m
            omega
          · rcases List.mem_append.mp hy with hy | hy
            · exact dr y hy
            · simp only [List.mem_cons, List.not_mem_nil, or_false] at hy
              rcases hy with rfl | rfl <;> exact hx3 _ (by simp)
          · rw [wts_app]
            show wts rest + (wt l + 1 + (wt r + 1 + 0)) ≤ _
            omega
          · rw [all', isTree_node, ht]
            simp
    · simp only [if_true, dCont]
      have ex : x = .non := by cases x <;> first | rfl | (cases hx; done)
      subst ex
      refine ⟨wts rest, by show wts rest < m; have : wt D.non = 0 := rfl; omega, ⟨_, rfl⟩, y1', rest, kp', rfl, dr, by omega, ?_⟩
      rw [all']
      have : isTree .non = true := by unfold isTree; try rfl
      rw [this, Bool.and_true]
def sp_need : SpD := fun ds M R _ => ∃ d, ds = [d] ∧ dat d = true ∧ wt d ≤ 200000 ∧ isTree d = true ∧ R .non M
theorem h_need (G : Facts K mg) : Has P w K mg base CX0 "need_tree" s_need_tree ["tree"] 3 sp_need := by
  refine has_plain G.f_need_tree sc_need_tree (fun _ _ _ _ ⟨_, e, _⟩ => by rw [e]; rfl) (fun f cdv A outer s H E hr hG => p_need_tree G (h_isTreeV G) cdv A outer s H E hr hG) fun ds M R XR ⟨d, e, hd, hw, ht, q⟩ => ?_
  subst e
  refine ⟨_, rfl, d, rfl, hd, hw, true, by rw [ht], ?_⟩
  exact q
def Tt (t : Tr) : Prop := t.ok = true ∧ t.cnt ≤ 600 ∧ t.dep ≤ 60 ∧ wt t.d ≤ 20000
def pr (p : List Nat × Tr) : D := .tup [.str (mkS p.1), p.2.d]
def sumc : List (List Nat × Tr) → Nat
  | [] => 0
  | p :: r => p.2.cnt + sumc r
theorem sumc_app : ∀ {xs ys : List (List Nat × Tr)}, sumc (xs ++ ys) = sumc xs + sumc ys
  | [], ys => by simp [sumc]
  | x :: xs, ys => by
    show x.2.cnt + sumc (xs ++ ys) = x.2.cnt + sumc xs + sumc ys
    rw [sumc_app (xs := xs)]
    omega
theorem cnt_pos : ∀ {t : Tr}, 1 ≤ t.cnt
  | .e => Nat.le_refl _
  | .n _ l r => by show 1 ≤ 1 + l.cnt + r.cnt; omega
theorem sumc_len : ∀ {xs : List (List Nat × Tr)}, xs.length ≤ sumc xs
  | [] => Nat.le_refl _
  | x :: xs => by
    have := sumc_len (xs := xs)
    have := cnt_pos (t := x.2)
    show xs.length + 1 ≤ x.2.cnt + sumc xs
    omega
theorem Tr.dat : ∀ {t : Tr}, t.ok = true → dat t.d = true
  | .e, _ => rfl
  | .n s l r, h => by
    have h' : (isTag (.str s) && l.ok && r.ok) = true := h
    rw [Bool.and_eq_true, Bool.and_eq_true] at h'
    have hs : s.length ≤ 1000 := by
      have := h'.1.1
      unfold isTag at this
      simp only [Bool.and_eq_true, decide_eq_true_eq] at this
      omega
    show (decide (3 ≤ 1000) && (DL.dat (.str s) && (DL.dat l.d && (DL.dat r.d && true)))) = true
    rw [Tr.dat h'.1.2, Tr.dat h'.2, show DL.dat (.str s) = true from decide_eq_true hs]
    decide
def sp_allpl : SpD := fun ds M R _ => ∃ t : Tr, ds = [t.d] ∧ Tt t ∧ R (.lst ((t.plc []).map .str)) M
theorem h_allpl (G : Facts K mg) : Has P w K mg base CX0 "all_places" s_all_places ["tree"] 1 sp_allpl := by
  refine has_view G.f_all_places sc_all_places (fun _ _ _ _ ⟨_, e, _⟩ => by rw [e]; rfl) (fun f cdv A outer s H E hr hG => p_all_places G cdv A outer s H E hr hG) fun ds M R XR ⟨T, e, ⟨hok, hc, hdep, hw⟩, q⟩ => ?_
  subst e
  change t_all_places (endsOf K R) [some T.d, none, none, none, none] M
  simp only [t_all_places, dSeq]
  simp only [dPar, dLstM, dTup, dCons, dNil, dVar, dC, slot, Option.some.injEq, exists_eq_left']
  refine ⟨q_z0, fun p hp => ⟨q_z2, q_z1, fun p2 hp2 => ⟨_, _, rfl, ?_⟩⟩⟩
  have hne : p ≠ p2 := fun e => by rw [← e, mset_same] at hp2; cases hp2
  have x0 : ExtO M (mset M p (.lst [])) := ExtO.refl.new hp
  have hM2 : M p2 = none := x0.nn hp2
  have x1 := x0.new (ds := [.tup [.str "", T.d]]) hp2
  have kp : (mset (mset M p (.lst [])) p2 (.lst [.tup [.str "", T.d]])) p = some (.lst []) := by rw [mset_ne hne, mset_same]
  have kp2 : (mset (mset M p (.lst [])) p2 (.lst [.tup [.str "", T.d]])) p2 = some (.lst [.tup [.str "", T.d]]) := mset_same
  generalize mset (mset M p (.lst [])) p2 (.lst [.tup [.str "", T.d]]) = M1 at x1 kp kp2
  simp only [put]
  refine ⟨fun m ρ2 M2 => (∃ s3 s4, ρ2 = [some T.d, some (.ref p), some (.ref p2), s3, s4]) ∧ ExtO M M2 ∧ ∃ (fs : List (List Nat)) (st : List (List Nat × Tr)), M2 p = some (.lst ((fs.map mkS).map .str)) ∧ M2 p2 = some (.lst (st.map pr)) ∧ m = sumc st ∧ fs ++ st.reverse.flatMap (fun p => p.2.pl p.1) = T.pl [] ∧ fs.length + sumc st ≤ 600 ∧ ∀ p ∈ st, p.1.length + p.2.dep ≤ 60,
    ⟨_, ⟨_, _, rfl⟩, x1, [], [([], T)], kp, kp2, rfl, by simp, by simp [sumc]; exact hc, by simpa using hdep⟩, fun m ρ2 M2 ⟨⟨s3, s4, e⟩, y1, fs, st, y2, y3, y4, y5, y6, y7⟩ => ?_⟩
  subst e
  simp only [dTest, dOp, dLst, dNil, dVar, slot, Option.some.injEq, exists_eq_left']
  refine ⟨q_z0, _, .inr ⟨p2, rfl, y3⟩, rfl, _, rfl, ?_⟩
  rcases List.eq_nil_or_concat st with e | ⟨rest, x, e⟩
  · subst e
    simp only [List.map_nil, List.isEmpty_nil, Bool.not_true, Bool.false_eq_true, if_false, dRet, dVar, slot, Option.some.injEq, exists_eq_left']
    have ef : fs = T.pl [] := by simpa using y5
    subst ef
    refine .inr ⟨_, M, ?_, q⟩
    have x2 : ExtO M (mdel M2 p) := fun c => by
      by_cases e : c = p
      · subst e
        exact .inl (by rw [mdel_same, hp])
      · rw [mdel_ne e]
        exact y1 c
    refine (View.lst y2).trans (View.mem x2.view fun c n => ?_)
    rcases x2 c with e | ⟨e, _⟩
    · rw [← e]; exact n
    · exact e
  · rw [List.concat_eq_append] at e
    subst e
    obtain ⟨a, t⟩ := x
    have hne2 : ((rest ++ [(a, t)]).map pr).isEmpty = false := by simp
    rw [hne2]
    simp only [Bool.not_false, if_true]
    rw [List.map_append, List.map_cons, List.map_nil] at y3
    have h7 := y7 (a, t) (by simp)
    have h7r : ∀ p ∈ rest, p.1.length + p.2.dep ≤ 60 := fun p hp => y7 p (by simp [hp])
    have hs : sumc (rest ++ [(a, t)]) = sumc rest + (t.cnt + 0) := sumc_app
    have hrl := sumc_len (xs := rest)
    have hfl : fs.length ≤ 600 := by omega
    simp only [dSeq]
    simp only [dAsg, dMeth0, dVar, slot, Option.some.injEq, exists_eq_left']
    refine ⟨tyM_l y3, pop_end y3 ⟨_, rfl, rfl, _, _, rfl, _, _, rfl, rfl, ?_⟩⟩
    have z1 : ExtO M (mset M2 p2 (.lst (rest.map pr))) := y1.updL hM2
    have zp : (mset M2 p2 (.lst (rest.map pr))) p = some (.lst ((fs.map mkS).map .str)) := by rw [mset_ne hne]; exact y2
    have zp2 : (mset M2 p2 (.lst (rest.map pr))) p2 = some (.lst (rest.map pr)) := mset_same
    generalize mset M2 p2 (.lst (rest.map pr)) = M3 at z1 zp zp2
    simp only [put, dDrop, dMeth, dCons, dNil, dVar, slot, Option.some.injEq, exists_eq_left']
    refine ⟨tyM_l zp, app_at zp (by simp; omega) ?_⟩
    have v1 : ExtO M (mset M3 p (.lst ((fs.map mkS).map .str ++ [.str (mkS a)]))) := z1.updL hp
    have vp : (mset M3 p (.lst ((fs.map mkS).map .str ++ [.str (mkS a)]))) p = some (.lst (((fs ++ [a]).map mkS).map .str)) := by rw [mset_same]; simp
    have vp2 : (mset M3 p (.lst ((fs.map mkS).map .str ++ [.str (mkS a)]))) p2 = some (.lst (rest.map pr)) := by rw [mset_ne (Ne.symm hne)]; exact zp2
    generalize mset M3 p (.lst ((fs.map mkS).map .str ++ [.str (mkS a)])) = M4 at v1 vp vp2
    simp only [dIfS, dTest, dOp, dVar, dC, slot, Option.some.injEq, exists_eq_left']
    refine ⟨rfl, _, rfl, ?_⟩
    have fl : (rest ++ [(a, t)]).reverse.flatMap (fun p => p.2.pl p.1) = t.pl a ++ rest.reverse.flatMap (fun p => p.2.pl p.1) := by simp
    rw [fl] at y5
    cases t with
    | e =>
      have hcn : Tr.e.cnt = 1 := rfl
      simp only [show isNon Tr.e.d = true from rfl, Bool.not_true, Bool.false_eq_true, if_false, dNext]
      refine ⟨sumc rest, by omega, ⟨_, _, rfl⟩, v1, fs ++ [a], rest, vp, vp2, rfl, ?_, by simp; omega, h7r⟩
      rw [← y5]
      show fs ++ [a] ++ _ = fs ++ ([a] ++ _)
      simp
    | n s l r =>
      have hcn : (Tr.n s l r).cnt = 1 + l.cnt + r.cnt := rfl
      have hdn : (Tr.n s l r).dep = max l.dep r.dep + 1 := rfl
      have hed : (Tr.n s l r).d = .tup [.str s, l.d, r.d] := rfl
      simp only [show isNon (Tr.n s l r).d = false from rfl, Bool.not_false, if_true, dSeq]
      rw [hed]
      simp only [dDrop, dMeth, dTup, dCons, dNil, dOp, dVar, dC, slot, Option.some.injEq, exists_eq_left', q_ad_str, q_ix_tup, q_at1, q_at2, mkS_l, mkS_r]
      refine ⟨tyM_l vp2, by rw [mkS_len, sizeLine_eq, show ("r" : Str).length = 1 from rfl]; simp at h7; omega, q_z2, app_at vp2 (by simp; omega) ?_⟩
      have u1 : ExtO M (mset M4 p2 (.lst (rest.map pr ++ [.tup [.str (mkS (a ++ [114])), r.d]]))) := v1.updL hM2
      have up : (mset M4 p2 (.lst (rest.map pr ++ [.tup [.str (mkS (a ++ [114])), r.d]]))) p = some (.lst (((fs ++ [a]).map mkS).map .str)) := by rw [mset_ne hne]; exact vp
      have up2 : (mset M4 p2 (.lst (rest.map pr ++ [.tup [.str (mkS (a ++ [114])), r.d]]))) p2 = some (.lst ((rest ++ [(a ++ [114], r)]).map pr)) := by rw [mset_same]; simp [pr]
      generalize mset M4 p2 (.lst (rest.map pr ++ [.tup [.str (mkS (a ++ [114])), r.d]])) = M5 at u1 up up2
      have h7' : a.length + (max l.dep r.dep + 1) ≤ 60 := h7
      refine ⟨tyM_l up2, by rw [mkS_len, sizeLine_eq, show ("l" : Str).length = 1 from rfl]; omega, q_z2, app_at up2 (by simp; omega) ?_⟩
      refine ⟨sumc (rest ++ [(a ++ [114], r), (a ++ [108], l)]), ?_, ⟨_, _, rfl⟩, u1.updL hM2, fs ++ [a], rest ++ [(a ++ [114], r), (a ++ [108], l)], by rw [mset_ne hne]; exact up, by rw [mset_same]; simp [pr], rfl, ?_, ?_, fun p hp => ?_⟩
      · rw [sumc_app]
        show sumc rest + (r.cnt + (l.cnt + 0)) < m
        omega
      · rw [← y5]
        show fs ++ [a] ++ _ = fs ++ (a :: (l.pl (a ++ [108]) ++ r.pl (a ++ [114])) ++ _)
        simp
      · rw [sumc_app]
        show (fs ++ [a]).length + (sumc rest + (r.cnt + (l.cnt + 0))) ≤ 600
        simp
        omega
      · rcases List.mem_append.mp hp with hp | hp
        · exact h7r p hp
        · simp only [List.mem_cons, List.not_mem_nil, or_false] at hp
          rcases hp with rfl | rfl
          · show (a ++ [114]).length + r.dep ≤ 60
            simp; omega
          · show (a ++ [108]).length + l.dep ≤ 60
            simp; omega
end
end Yk57

set_option Elab.async false
set_option linter.all false
set_option maxHeartbeats 4000000
set_option maxRecDepth 100000
namespace Yk57
open PySem PySem.Spec PyProof.Rows L2 DL
section
variable {P : Program} {w : World} {K : PySem.W.Frag} {mg : Str → Option Value} {base : Heap}
def Tr.sub : Tr → List Nat → Tr
  | t, [] => t
  | .e, _ :: _ => .e
  | .n _ l r, c :: w => if c = 108 then l.sub w else r.sub w
def Tr.isE : Tr → Bool
  | .e => true
  | _ => false
theorem Tr.isNon : ∀ {t : Tr}, DL.isNon t.d = t.isE
  | .e => rfl
  | .n _ _ _ => rfl
/-- the places, from the top on -/
theorem pl_pre : ∀ {t : Tr} {a : List Nat}, t.pl a = (t.pl []).map (a ++ ·)
  | .e, a => by show [a] = [a ++ []]; simp
  | .n s l r, a => by
    show a :: (l.pl (a ++ [108]) ++ r.pl (a ++ [114])) = ([] :: (l.pl ([] ++ [108]) ++ r.pl ([] ++ [114]))).map (a ++ ·)
    rw [pl_pre (t := l) (a := a ++ [108]), pl_pre (t := r) (a := a ++ [114]), pl_pre (t := l) (a := [] ++ [108]), pl_pre (t := r) (a := [] ++ [114])]
    simp [Function.comp_def]
theorem pl_n {s : Str} {l r : Tr} : (Tr.n s l r).pl [] = [] :: ((l.pl []).map (108 :: ·) ++ (r.pl []).map (114 :: ·)) := by
  show [] :: (l.pl ([] ++ [108]) ++ r.pl ([] ++ [114])) = _
  rw [pl_pre (t := l) (a := [] ++ [108]), pl_pre (t := r) (a := [] ++ [114])]
  simp
theorem pl_head : ∀ {t : Tr}, ∃ r, t.pl [] = [] :: r
  | .e => ⟨[], rfl⟩
  | .n s l r => ⟨_, pl_n⟩
/-- the places behind a place -/
theorem walk_sub : ∀ {t : Tr} {w u : List Nat}, t.walk w = true → (t.sub w).walk u = t.walk (w ++ u)
  | t, [], u, _ => by cases t <;> rfl
  | .e, c :: w, u, h => by cases h
  | .n s l r, c :: w, u, h => by
    have h' : (if c = 108 then l.walk w else if c = 114 then r.walk w else false) = true := h
    show ((if c = 108 then l.sub w else r.sub w).walk u) = (if c = 108 then l.walk (w ++ u) else if c = 114 then r.walk (w ++ u) else false)
    by_cases h1 : c = 108
    · rw [if_pos h1] at h' ⊢
      rw [if_pos h1]
      exact walk_sub h'
    · rw [if_neg h1] at h' ⊢
      rw [if_neg h1]
      by_cases h2 : c = 114
      · rw [if_pos h2] at h' ⊢
        exact walk_sub h'
      · rw [if_neg h2] at h'
        cases h'
theorem mkS_eq {a b : List Nat} : (mkS a == mkS b) = decide (a = b) := by
  by_cases h : a = b
  · subst h
    rw [decide_eq_true rfl]
    exact beq_self_eq_true _
  · rw [decide_eq_false h]
    exact beq_eq_false_iff_ne.mpr fun e => h (by rw [← mkS_cps a, ← mkS_cps b, e])
theorem sub_ok : ∀ {t : Tr} {w : List Nat}, t.ok = true → t.walk w = true → (t.sub w).ok = true ∧ (t.sub w).cnt ≤ t.cnt ∧ (t.sub w).dep ≤ t.dep ∧ wt (t.sub w).d ≤ wt t.d ∧ (∀ {L}, gx L t.d = true → gx L (t.sub w).d = true)
  | t, [], h, _ => by cases t <;> exact ⟨h, Nat.le_refl _, Nat.le_refl _, Nat.le_refl _, fun g => g⟩
  | .e, c :: w, _, h => by cases h
  | .n s l r, c :: w, ho, h => by
    have ho' : (isTag (.str s) && l.ok && r.ok) = true := ho
    rw [Bool.and_eq_true, Bool.and_eq_true] at ho'
    have h' : (if c = 108 then l.walk w else if c = 114 then r.walk w else false) = true := h
    have e : (Tr.n s l r).sub (c :: w) = if c = 108 then l.sub w else r.sub w := rfl
    have c1 : (Tr.n s l r).cnt = 1 + l.cnt + r.cnt := rfl
    have c2 : (Tr.n s l r).dep = max l.dep r.dep + 1 := rfl
    have c3 : wt (Tr.n s l r).d = s.length + 1 + (wt l.d + 1 + (wt r.d + 1 + 0)) := rfl
    have c4 : (Tr.n s l r).d = .tup [.str s, l.d, r.d] := rfl
    rw [e]
    by_cases h1 : c = 108
    · rw [if_pos h1] at h' ⊢
      obtain ⟨a1, a2, a3, a4, a5⟩ := sub_ok ho'.1.2 h'
      exact ⟨a1, by omega, by omega, by omega, fun g => a5 ((gx_tup.mp (c4 ▸ g)).2 _ (by simp))⟩
    · rw [if_neg h1] at h' ⊢
      by_cases h2 : c = 114
      · rw [if_pos h2] at h'
        obtain ⟨a1, a2, a3, a4, a5⟩ := sub_ok ho'.2 h'
        exact ⟨a1, by omega, by omega, by omega, fun g => a5 ((gx_tup.mp (c4 ▸ g)).2 _ (by simp))⟩
      · rw [if_neg h2] at h'
        cases h'
theorem walk_dep : ∀ {t : Tr} {w : List Nat}, t.walk w = true → w.length ≤ t.dep
  | t, [], _ => Nat.zero_le _
  | .e, c :: w, h => by cases h
  | .n s l r, c :: w, h => by
    have h' : (if c = 108 then l.walk w else if c = 114 then r.walk w else false) = true := h
    show w.length + 1 ≤ max l.dep r.dep + 1
    by_cases h1 : c = 108
    · rw [if_pos h1] at h'
      have := walk_dep h'
      omega
    · rw [if_neg h1] at h'
      by_cases h2 : c = 114
      · rw [if_pos h2] at h'
        have := walk_dep h'
        omega
      · rw [if_neg h2] at h'
        cases h'
def sp_sub : SpD := fun ds M R _ => ∃ (t : Tr) (w : List Nat), ds = [t.d, .str (mkS w)] ∧ t.walk w = true ∧ t.dep ≤ 100 ∧ R (t.sub w).d M
theorem rd_sub {T : Tr} {w : List Nat} {M : Mem} {R : RK} (hw : T.walk w = true) (hdp : T.dep ≤ 100) (q : R (T.sub w).d M) : t_subtree { nx := fun _ M => R .non M, rt := R } [some T.d, some (.str (mkS w)), none] M := by
  have hl := walk_dep hw
  simp only [t_subtree, dSeq]
  refine go_for (items := charsD (mkS w)) (G := fun _ => True) (fun i ρ2 M2 => M2 = M ∧ ∃ (t : Tr) (s2 : Option D), ρ2 = [some t.d, some (.str (mkS w)), s2] ∧ T.sub w = t.sub (w.drop i) ∧ t.walk (w.drop i) = true) (fun Q h => it_val (d := .str (mkS w)) (fun R h => ⟨_, rfl, h⟩) ⟨rfl, rfl⟩ h) ⟨rfl, T, none, rfl, rfl, hw⟩ (fun i d ρ2 M2 hi ⟨e1, t, s2, e2, e3, e4⟩ => ?_) (fun ρ2 M2 ⟨e1, t, s2, e2, e3, e4⟩ => ?_)
  · subst e1 e2
    refine ⟨trivial, ?_⟩
    unfold charsD at hi
    rw [List.getElem?_map, mkS_cps] at hi
    cases hc : w[i]? with
    | none => rw [hc] at hi; cases hi
    | some c =>
      rw [hc] at hi
      obtain rfl : d = .str ⟨#[c]⟩ := (Option.some.inj hi).symm
      obtain ⟨hlt, hx⟩ := List.getElem?_eq_some_iff.mp hc
      rw [List.drop_eq_getElem_cons hlt, hx] at e3 e4
      cases t with
      | e => cases e4
      | n g l r =>
        have hed : (Tr.n g l r).d = .tup [.str g, l.d, r.d] := rfl
        have e3' : T.sub w = if c = 108 then l.sub (w.drop (i + 1)) else r.sub (w.drop (i + 1)) := e3
        have e4' : (if c = 108 then l.walk (w.drop (i + 1)) else if c = 114 then r.walk (w.drop (i + 1)) else false) = true := e4
        simp only [gNm, put, dSet, dIf, dTest, dOp, dVar, dC, slot, Option.some.injEq, exists_eq_left']
        have el : isStr (.str ⟨#[c]⟩) "l" = decide (c = 108) := by
          show (mkS [c] == mkS [108]) = _
          rw [mkS_eq]
          simp
        refine q_eq_str.mpr ⟨nofun, _, rfl, ?_⟩
        by_cases h1 : c = 108
        · rw [if_pos h1] at e3' e4'
          rw [el, decide_eq_true h1, if_pos rfl, hed]
          exact q_ix_tup.mpr ⟨_, q_at1, rfl, l, _, rfl, e3', e4'⟩
        · rw [if_neg h1] at e3' e4'
          have e5 : r.walk (w.drop (i + 1)) = true := by
            by_cases h2 : c = 114
            · rw [if_pos h2] at e4'; exact e4'
            · rw [if_neg h2] at e4'; cases e4'
          rw [el, decide_eq_false h1, if_neg Bool.false_ne_true, hed]
          exact q_ix_tup.mpr ⟨_, q_at2, rfl, r, _, rfl, e3', e5⟩
  · subst e1 e2
    refine ⟨trivial, ?_⟩
    rw [chars_len, mkS_len, List.drop_length] at e3
    have e5 : t.sub [] = t := by cases t <;> rfl
    rw [e5] at e3
    rw [e3] at q
    exact ⟨_, rfl, q⟩
theorem h_sub (G : Facts K mg) : Has P w K mg base CX0 "subtree" s_subtree ["tree", "place"] 1 sp_sub := by
  refine has_plain G.f_subtree sc_subtree (fun _ _ _ _ ⟨_, _, e, _⟩ => by rw [e]; rfl) (fun f cdv A outer s H E hr hG => p_subtree G cdv A outer s H E hr hG) fun ds M R XR ⟨t, x, e, h1, h2, q⟩ => ?_
  subst e
  exact rd_sub h1 h2 q
end
end Yk57

set_option Elab.async false
set_option linter.all false
set_option maxHeartbeats 4000000
set_option maxRecDepth 100000
namespace Yk57
open PySem PySem.Spec PyProof.Rows L2 DL
/-! ### machines -/
abbrev Rule := Nat × Nat × Int
structure Mac where
  tags : List Str
  n : Nat
  sts : List (List Rule)
def ruleD (r : Rule) : D := .tup [.int (r.1 : Nat), .int (r.2.1 : Nat), .int r.2.2]
def stD (s : List Rule) : D := .tup (s.map ruleD)
def Zt (z : D) (tags : List Str) : Prop := ∃ a o vs, z = ztup a o vs (tags.map .str) ∧ o.dict = none
def mD (z : D) (m : Mac) : D := .tup [.str "tape", z, .int (m.n : Nat), .tup (m.sts.map stD)]
structure TagsOk (tags : List Str) : Prop where
  t : ∀ t ∈ tags, isTag (.str t) = true
  nd : tags.Nodup
  l : tags.length ≤ 10
structure RuleOk (n k : Nat) (r : Rule) : Prop where
  a : r.1 ≤ k + 1
  b : r.2.1 < n
  c : r.2.2 = -1 ∨ r.2.2 = 0 ∨ r.2.2 = 1
structure MacOk (m : Mac) : Prop where
  t : TagsOk m.tags
  n2 : m.tags.length + 2 ≤ m.n
  n5 : m.n ≤ 20
  s1 : 1 ≤ m.sts.length
  s4 : m.sts.length ≤ 20
  s : ∀ s ∈ m.sts, s.length = m.n ∧ ∀ r ∈ s, RuleOk m.n m.sts.length r
section
variable {P : Program} {w : World} {K : PySem.W.Frag} {mg : Str → Option Value} {base : Heap}
def sp_isI : SpD := fun ds M R _ => ∃ i, ds = [.int i] ∧ R (.bl true) M
theorem h_isI (G : Facts K mg) : Has P w K mg base CX0 "is_integer" s_is_integer ["thing"] 1 sp_isI := by
  refine has_plain (k := 0) G.f_is_integer sc_is_integer (fun _ _ _ _ ⟨_, e, _⟩ => by rw [e]; rfl) (fun f cdv A outer s H E hr hG => p_is_integer G cdv A outer s H E hr hG) fun ds M R XR ⟨i, e, q⟩ => ?_
  subst e
  have t1 : isTy "int" "int" = true := by simp [isTy]
  have t2 : isTy "int" "bool" = false := by simp [isTy]
  refine ⟨_, rfl, ?_⟩
  refine go_isiC (d := .int i) (t := "int") (c := "int") rfl rfl ?_
  rw [t1]
  refine ⟨_, rfl, _, rfl, ?_⟩
  refine go_isiC (d := .int i) (t := "int") (c := "bool") rfl rfl ?_
  rw [t2]
  exact ⟨_, rfl, q⟩
def sp_isF : SpD := fun ds M R _ => ∃ i j, ds = [.int i, .int j] ∧ R (.bl (decide (j ≤ i))) M
theorem h_isF (G : Facts K mg) : Has P w K mg base CX0 "is_from" s_is_from ["thing", "least"] 2 sp_isF := by
  refine has_plain (k := 1) G.f_is_from sc_is_from (fun _ _ _ _ ⟨_, _, e, _⟩ => by rw [e]; rfl) (fun f cdv A outer s H E hr hG => p_is_from G (h_isI G) cdv A outer s H E hr hG) fun ds M R XR ⟨i, j, e, q⟩ => ?_
  subst e
  exact ⟨_, rfl, i, rfl, _, rfl, _, rfl, _, rfl, q_op_ge.mpr q⟩
def sp_isTupZ : SpD := fun ds M R _ => ∃ xs, ∃ i : Nat, ds = [.tup xs, .int (i : Nat)] ∧ R (.bl (decide (xs.length = i))) M
theorem tupZ_go {M : Mem} {R : RK} {xs : List D} {i : Nat} {ρ : DEnv} (h0 : slot ρ 0 = some (.tup xs)) (h1 : slot ρ 1 = some (.int (i : Nat))) (q : R (.bl (decide (xs.length = i))) M) : (dAndV (dCB dIsi (dCons (dVar 0) (dCons (dC (.ty "tuple")) dNil))) (dOp dEq (dCB dLen (dCons (dVar 0) dNil)) (dVar 1))) ρ M R := by
  have t1 : isTy "tuple" "tuple" = true := by simp [isTy]
  refine ⟨_, h0, ?_⟩
  refine go_isiC (d := .tup xs) (t := "tuple") (c := "tuple") rfl rfl ?_
  rw [t1]
  refine ⟨_, rfl, ?_⟩
  refine ⟨_, h0, _, rfl, _, h1, ?_⟩
  refine q_eq_int.mpr ?_
  have : decide (((xs.length : Nat) : Int) = (i : Nat)) = decide (xs.length = i) := by
    congr 1
    exact propext Int.ofNat_inj
  rw [this]
  exact q
theorem h_isTupZ (G : Facts K mg) : Has P w K mg base CX0 "is_tuple" s_is_tuple ["thing", "many"] 1 sp_isTupZ := by
  refine has_plain (k := 0) G.f_is_tuple sc_is_tuple (fun _ _ _ _ ⟨_, _, e, _⟩ => by rw [e]; rfl) (fun f cdv A outer s H E hr hG => p_is_tuple G cdv A outer s H E hr hG) fun ds M R XR ⟨xs, i, e, q⟩ => ?_
  subst e
  exact tupZ_go rfl rfl q
theorem h_lisTupZ (G : Facts K mg) : Has P w K mg base CX0 "_law_is_tuple" s__law_is_tuple ["thing", "many"] 1 sp_isTupZ := by
  refine has_plain (k := 0) G.f__law_is_tuple sc__law_is_tuple (fun _ _ _ _ ⟨_, _, e, _⟩ => by rw [e]; rfl) (fun f cdv A outer s H E hr hG => p__law_is_tuple G cdv A outer s H E hr hG) fun ds M R XR ⟨xs, i, e, q⟩ => ?_
  subst e
  exact tupZ_go rfl rfl q
def sp_isRule : SpD := fun ds M R _ => ∃ r, ∃ n k : Nat, ds = [ruleD r, .int (n : Nat), .int (k : Nat)] ∧ RuleOk n k r ∧ R (.bl true) M
theorem moves_eq : d_MOVES = .tup [.int (-1), .int 0, .int 1] := rfl
theorem h_isRule (G : Facts K mg) : Has P w K mg base CX0 "is_rule" s_is_rule ["thing", "signs", "states"] 2 sp_isRule := by
  refine has_plain (k := 1) G.f_is_rule sc_is_rule (fun _ _ _ _ ⟨_, _, _, e, _⟩ => by rw [e]; rfl) (fun f cdv A outer s H E hr hG => p_is_rule G (h_isI G) (h_isTupZ G) cdv A outer s H E hr hG) fun ds M R XR ⟨⟨x, y, z⟩, n, k, e, ⟨ha, hb, hc⟩, q⟩ => ?_
  subst e
  simp only at ha hb hc
  show t_is_rule sp_isI sp_isTupZ { nx := fun _ M => R .non M, rt := R } [some (.tup [.int (x : Nat), .int (y : Nat), .int z]), some (.int (n : Nat)), some (.int (k : Nat)), none] M
  simp only [t_is_rule, dSeq]
  refine es_ifB (b := false) (et_orB (x := false) (y := false) (et_notB (x := true) (et_val fun R r => ⟨_, rfl, _, 3, rfl, r⟩)) fun _ => et_notB (x := true) (et_val fun R r => ?_)) (fun h => nomatch h) fun _ => ?_
  · refine (show dLc _ _ _ _ _ _ M (fun x M1 => dAll [x] M1 R) from ?_)
    refine go_all (items := [.int (x : Nat), .int (y : Nat), .int z]) (G := fun _ => True) (fun _ => true) (fun Q h => it_val (d := .tup [.int (x : Nat), .int (y : Nat), .int z]) (fun R h => ⟨_, rfl, h⟩) ⟨rfl, rfl⟩ h) (show 3 ≤ sizeLine by rw [sizeLine_eq]; decide) trivial (fun d hd Rt h => ?_) (by simpa using r)
    simp only [List.mem_cons, List.not_mem_nil, or_false] at hd
    rcases hd with rfl | rfl | rfl <;> exact ⟨_, rfl, _, rfl, h⟩
  · simp only [dNext]
    have c1 : ∀ (R : RK), R (.bl true) M → dChain dLe dLe (dC (.int 0)) (dOp dIx (dVar 0) (dC (.int 0))) (dOp dAdd (dVar 2) (dC (.int 1))) [some (.tup [.int (x : Nat), .int (y : Nat), .int z]), some (.int (n : Nat)), some (.int (k : Nat)), none] M R := fun R r => by
      refine ⟨_, rfl, 0, rfl, _, L2.atI_nat (j := 0) rfl, ?_⟩
      refine q_op_le.mpr ⟨_, rfl, ?_⟩
      rw [decide_eq_true (by omega), if_pos rfl]
      refine ⟨_, rfl, ?_⟩
      refine q_op_le.mpr ?_
      rw [decide_eq_true (by omega)]
      exact r
    have c2 : ∀ (R : RK), R (.bl true) M → dChain dLe dLt (dC (.int 0)) (dOp dIx (dVar 0) (dC (.int 1))) (dVar 1) [some (.tup [.int (x : Nat), .int (y : Nat), .int z]), some (.int (n : Nat)), some (.int (k : Nat)), none] M R := fun R r => by
      refine ⟨_, rfl, 1, rfl, _, L2.atI_nat (j := 1) rfl, ?_⟩
      refine q_op_le.mpr ⟨_, rfl, ?_⟩
      rw [decide_eq_true (by omega), if_pos rfl]
      refine ⟨_, rfl, ?_⟩
      refine q_op_lt.mpr ?_
      rw [decide_eq_true (by omega)]
      exact r
    refine c1 _ ⟨_, rfl, ?_⟩
    refine c2 _ ⟨_, rfl, ?_⟩
    refine ⟨_, rfl, 2, rfl, _, L2.atI_nat (j := 2) rfl, _, ⟨rfl, _, .inl moves_eq, rfl, ?_⟩, q⟩
    rcases hc with rfl | rfl | rfl <;> rfl
def sp_isState : SpD := fun ds M R _ => ∃ s, ∃ n k : Nat, ds = [stD s, .int (n : Nat), .int (k : Nat)] ∧ s.length = n ∧ n ≤ 1000 ∧ (∀ r ∈ s, RuleOk n k r) ∧ R (.bl true) M
theorem h_isState (G : Facts K mg) : Has P w K mg base CX0 "is_state" s_is_state ["thing", "signs", "states"] 3 sp_isState := by
  refine has_plain (k := 2) G.f_is_state sc_is_state (fun _ _ _ _ ⟨_, _, _, e, _⟩ => by rw [e]; rfl) (fun f cdv A outer s H E hr hG => p_is_state G ((h_isTupZ G).mono (by decide)) (h_isRule G) cdv A outer s H E hr hG) fun ds M R XR ⟨s, n, k, e, hl, hn, hr, q⟩ => ?_
  subst e
  refine ⟨_, rfl, _, rfl, _, _, rfl, _, rfl, ?_⟩
  rw [List.length_map, decide_eq_true hl]
  refine (show dLc _ _ _ _ _ _ M (fun x M1 => dAll [x] M1 R) from ?_)
  refine go_all (items := s.map ruleD) (G := fun _ => True) (fun _ => true) (fun Q h => it_val (d := stD s) (fun R h => ⟨_, rfl, h⟩) ⟨rfl, rfl⟩ h) (by rw [List.length_map, sizeLine_eq]; omega) trivial (fun d hd Rt h => ?_) (by
    have e : ((s.map ruleD).all fun _ => true) = true := by simp
    rw [e]
    exact q)
  obtain ⟨r, hr', rfl⟩ := List.mem_map.mp hd
  exact ⟨_, rfl, _, rfl, _, rfl, r, n, k, rfl, hr r hr', h⟩
end
end Yk57

set_option Elab.async false
set_option linter.all false
set_option maxHeartbeats 4000000
set_option maxRecDepth 100000
namespace Yk57
open PySem PySem.Spec PyProof.Rows L2 DL
theorem uniqs_nd : ∀ (ks us : List Key), (us ++ ks).Nodup → (ks.foldl stepU us).length = us.length + ks.length
  | [], us, _ => by simp
  | k :: ks, us, h => by
    have hk : k ∉ us := fun e => by
      rw [List.nodup_append] at h
      exact h.2.2 k e k (by simp) rfl
    have e : stepU us k = us ++ [k] := by unfold stepU; rw [if_neg hk]
    rw [List.foldl_cons, e, uniqs_nd ks (us ++ [k]) (by rw [List.append_assoc]; exact h)]
    simp
    omega
theorem inF_strs {s : Str} {tags : List Str} : inF (.str s) (tags.map .str) = decide (s ∈ tags) := by
  unfold inF
  rw [List.any_map]
  induction tags with
  | nil => rfl
  | cons t ts ih =>
    rw [List.any_cons, ih]
    have e : ((fun y => eqF y (D.str s)) ∘ D.str) t = decide (s = t) := by
      show (t == s) = _
      by_cases h : s = t
      · subst h; simp
      · rw [decide_eq_false h]
        exact beq_eq_false_iff_ne.mpr fun e => h e.symm
    rw [e, ← Bool.decide_or]
    simp
theorem flat_strs {tags : List Str} : (tags.map D.str).all flatD = true := by
  rw [List.all_map]
  exact List.all_eq_true.mpr fun _ _ => rfl
/-- what a tree's top is to a machine -/
def signN (tags : List Str) : Tr → Nat
  | .e => 0
  | .n s _ _ => if s ∈ tags then tags.idxOf s + 1 else tags.length + 1
theorem sign_lt (tags : List Str) (t : Tr) : signN tags t < tags.length + 2 := by
  cases t with
  | e => show 0 < _; omega
  | n s l r =>
    show (if s ∈ tags then tags.idxOf s + 1 else tags.length + 1) < _
    split
    · have := List.idxOf_lt_length_iff.mpr ‹_›
      omega
    · omega
theorem idx_first {s : Str} {tags : List Str} (h : s ∈ tags) : tags[tags.idxOf s]? = some s ∧ ∀ m, m < tags.idxOf s → tags[m]? ≠ some s := by
  have hl := List.idxOf_lt_length_iff.mpr h
  refine ⟨by rw [List.getElem?_eq_getElem hl, List.getElem_idxOf], fun m hm e => ?_⟩
  have hml : m < tags.length := by omega
  rw [List.getElem?_eq_getElem hml] at e
  have := List.not_of_lt_findIdx (p := (· == s)) (xs := tags) (i := m) hm
  simp at this
  exact this (Option.some.inj e)
section
variable {ρ : DEnv} {M : Mem} {z : D} {tags : List Str} {i : Nat}
theorem zv_go {R : RK} (h : slot ρ i = some z) (hz : Zt z tags) (q : R (.tup (tags.map .str)) M) : dZv (dVar i) ρ M R := by
  obtain ⟨a, o, vs, rfl, _⟩ := hz
  exact ⟨_, h, a, o, vs, _, rfl, q⟩
theorem in_tags {R : RK} {te : DE} {s : Str} (he : ∀ R : RK, R (.str s) M → te ρ M R) (h : slot ρ i = some z) (hz : Zt z tags) (q : R (.bl (decide (s ∈ tags))) M) : dOp dIn te (dZv (dVar i)) ρ M R :=
  he _ (zv_go h hz ⟨_, ⟨rfl, _, .inl rfl, flat_strs, rfl⟩, by rw [inF_strs]; exact q⟩)
theorem idx_tags {R : RK} {te : DE} {s : Str} (he : ∀ R : RK, R (.str s) M → te ρ M R) (h : slot ρ i = some z) (hz : Zt z tags) (hs : s ∈ tags) (q : R (.int ((tags.idxOf s + 1 : Nat) : Int)) M) : dOp dAdd (dIndexZ (dVar i) (dCons te dNil)) (dC (.int 1)) ρ M R := by
  obtain ⟨a, o, vs, rfl, ho⟩ := hz
  obtain ⟨h1, h2⟩ := idx_first hs
  exact ⟨_, h, a, o, vs, tags, rfl, ho, he _ ⟨s, _, rfl, h1, h2, q⟩⟩
theorem len_tags {R : RK} (h : slot ρ i = some z) (hz : Zt z tags) (q : R (.int ((tags.length + 1 : Nat) : Int)) M) : dOp dAdd (dCB dLen (dCons (dZv (dVar i)) dNil)) (dC (.int 1)) ρ M R := by
  obtain ⟨a, o, vs, rfl, _⟩ := hz
  refine ⟨_, h, a, o, vs, _, rfl, _, rfl, ?_⟩
  show R (.int ((((tags.map D.str).length : Nat) : Int) + 1)) M
  rw [List.length_map]
  exact q
end
section
variable {P : Program} {w : World} {K : PySem.W.Frag} {mg : Str → Option Value} {base : Heap}
theorem tag_dat {t : Str} (h : isTag (.str t) = true) : dat (.str t) = true := by
  have h' : (decide (1 ≤ (t.length : Int)) && decide ((t.length : Int) ≤ 8) && t.cps.toList.all fun c => signIn c small) = true := h
  rw [Bool.and_eq_true, Bool.and_eq_true, decide_eq_true_eq, decide_eq_true_eq] at h'
  show decide (t.length ≤ 1000) = true
  exact decide_eq_true (by omega)
def sp_unlike : SpD := fun ds M R _ => ∃ z tags, ds = [z] ∧ Zt z tags ∧ TagsOk tags ∧ R (.bl true) M
theorem h_unlike (G : Facts K mg) : Has P w K mg base CX0 "are_unlike_tags" s_are_unlike_tags ["thing"] 2 sp_unlike := by
  refine has_plain (k := 1) G.f_are_unlike_tags sc_are_unlike_tags (fun _ _ _ _ ⟨_, _, e, _⟩ => by rw [e]; rfl) (fun f cdv A outer s H E hr hG => p_are_unlike_tags G (h_isTag G) cdv A outer s H E hr hG) fun ds M R XR ⟨z, tags, e, hz, ht, q⟩ => ?_
  subst e
  have t1 : isTy "tuple" "tuple" = true := by simp [isTy]
  have hl := ht.l
  obtain ⟨a, o, vs, rfl, ho⟩ := hz
  show t_are_unlike_tags sp_isTag { nx := fun _ M => R .non M, rt := R } [some (ztup a o vs (tags.map .str)), none] M
  refine ⟨_, rfl, a, o, vs, _, rfl, ?_⟩
  refine go_isiC (d := .tup (tags.map .str)) (t := "tuple") (c := "tuple") rfl rfl ?_
  rw [t1]
  refine ⟨_, rfl, ?_⟩
  rw [if_pos rfl]
  simp only [dAndV, dCB, dCons, dNil]
  refine go_all (items := tags.map .str) (G := fun _ => True) (fun _ => true) (fun Q h => it_val (d := .tup (tags.map .str)) (fun R h => ⟨_, rfl, a, o, vs, _, rfl, h⟩) ⟨rfl, rfl⟩ h) (by rw [List.length_map, sizeLine_eq]; omega) trivial (fun d hd Rt h => ?_) ?_
  · obtain ⟨t, ht', rfl⟩ := List.mem_map.mp hd
    have := ht.t t ht'
    exact ⟨_, rfl, _, rfl, tag_dat this, by rw [this]; exact h⟩
  · have e : ((tags.map D.str).all fun _ => true) = true := by simp
    rw [e]
    refine ⟨_, rfl, ?_⟩
    refine ⟨_, rfl, a, o, vs, _, rfl, _, tags.map .inr, .inl rfl, by rw [List.map_map, List.map_map]; rfl, by rw [List.length_map]; show _ < 4096; omega, ?_⟩
    refine ⟨_, rfl, a, o, vs, _, rfl, _, rfl, ?_⟩
    have eu : (uniqs (tags.map Sum.inr)).length = tags.length := by
      have := uniqs_nd (tags.map Sum.inr) [] (by
        rw [List.nil_append]
        exact List.Pairwise.map _ (fun a b h e => h (Sum.inr.inj e)) ht.nd)
      rw [List.length_map, List.length_nil] at this
      unfold uniqs
      omega
    rw [eu]
    refine q_eq_int.mpr ?_
    rw [List.length_map, decide_eq_true rfl]
    exact q
def sp_isTape : SpD := fun ds M R _ => ∃ z m, ds = [mD z m] ∧ Zt z m.tags ∧ MacOk m ∧ R (.bl true) M
theorem h_isTape (G : Facts K mg) : Has P w K mg base CX0 "is_tape_value" s_is_tape_value ["thing"] 4 sp_isTape := by
  refine has_plain (k := 3) G.f_is_tape_value sc_is_tape_value (fun _ _ _ _ ⟨_, _, e, _⟩ => by rw [e]; rfl) (fun f cdv A outer s H E hr hG => p_is_tape_value G ((h_isF G).mono (by decide)) ((h_isTupZ G).mono (by decide)) (h_isState G) ((h_unlike G).mono (by decide)) cdv A outer s H E hr hG) fun ds M R XR ⟨z, m, e, hz, hm, q⟩ => ?_
  subst e
  have t1 : isTy "tuple" "tuple" = true := by simp [isTy]
  show t_is_tape_value sp_isF sp_isTupZ sp_isState sp_unlike { nx := fun _ M => R .non M, rt := R } [some (.tup [.str "tape", z, .int (m.n : Nat), .tup (m.sts.map stD)]), none, none, none] M
  simp only [t_is_tape_value, dSeq]
  refine es_ifB (b := false) (et_orB (x := false) (y := false) (et_notB (x := true) (et_val fun R r => ⟨_, rfl, _, 4, rfl, r⟩)) fun _ => et_orB (x := false) (y := false) (et_val fun R r => ⟨_, rfl, 0, rfl, _, L2.atI_nat (j := 0) rfl, ?_⟩) fun _ => et_notB (x := true) (et_val fun R r => ⟨_, rfl, 1, rfl, _, L2.atI_nat (j := 1) rfl, z, m.tags, rfl, hz, hm.t, r⟩)) (fun h => nomatch h) fun _ => ?_
  · refine q_ne_str.mpr ⟨by simp [tyD], ?_⟩
    have e : isStr (.str "tape") "tape" = true := by simp [isStr]
    rw [e]
    exact r
  simp only [dNext]
  refine ⟨_, rfl, 2, rfl, _, L2.atI_nat (j := 2) rfl, _, rfl, 3, rfl, _, L2.atI_nat (j := 3) rfl, q_z2, _, rfl, rfl, _, _, rfl, _, _, rfl, rfl, ?_⟩
  simp only [gNm, put]
  have hn2 := hm.n2
  have hs1 := hm.s1
  have hs4 := hm.s4
  refine es_ifB (b := false) (et_orB (x := false) (y := false) (et_notB (x := true) (et_val fun R r => ⟨_, rfl, _, rfl, 1, rfl, _, L2.atI_nat (j := 1) rfl, ?_⟩)) fun _ => et_orB (x := false) (y := false) (et_notB (x := true) (et_val fun R r => ⟨_, rfl, ?_⟩)) fun _ => et_val fun R r => ⟨_, rfl, q_z0, q_eq_tup0.mpr ?_⟩) (fun h => nomatch h) fun _ => ?_
  · obtain ⟨a, o, vs, rfl, ho⟩ := hz
    refine ⟨a, o, vs, _, rfl, _, rfl, ?_⟩
    refine ⟨_, _, rfl, ?_⟩
    rw [decide_eq_true (by rw [List.length_map]; omega)]
    exact r
  · refine go_isiC (d := .tup (m.sts.map stD)) (t := "tuple") (c := "tuple") rfl rfl ?_
    rw [t1]
    exact r
  · have e : (m.sts.map stD).isEmpty = false := by
      cases h : m.sts with
      | nil => rw [h] at hs1; simp at hs1
      | cons _ _ => rfl
    rw [e]
    exact r
  · simp only [dNext]
    refine (show dLc _ _ _ _ _ _ M (fun x M1 => dAll [x] M1 _) from ?_)
    refine go_all (items := m.sts.map stD) (G := fun _ => True) (fun _ => true) (fun Q h => it_val (d := .tup (m.sts.map stD)) (fun R h => ⟨_, rfl, h⟩) ⟨rfl, rfl⟩ h) (by rw [List.length_map, sizeLine_eq]; omega) trivial (fun d hd Rt h => ?_) ?_
    · obtain ⟨s, hs, rfl⟩ := List.mem_map.mp hd
      obtain ⟨h1, h2⟩ := hm.s s hs
      refine ⟨_, rfl, _, rfl, _, rfl, _, rfl, ?_⟩
      refine ⟨s, m.n, m.sts.length, by rw [List.length_map], h1, by have := hm.n5; omega, h2, h⟩
    · have e : ((m.sts.map stD).all fun _ => true) = true := by simp
      rw [e]
      exact q
def sp_needTape : SpD := fun ds M R _ => ∃ z m, ds = [mD z m] ∧ Zt z m.tags ∧ MacOk m ∧ R .non M
theorem h_needTape (G : Facts K mg) : Has P w K mg base CX0 "need_tape" s_need_tape ["machine"] 5 sp_needTape := by
  refine has_plain (k := 4) G.f_need_tape sc_need_tape (fun _ _ _ _ ⟨_, _, e, _⟩ => by rw [e]; rfl) (fun f cdv A outer s H E hr hG => p_need_tape G (h_isTape G) cdv A outer s H E hr hG) fun ds M R XR ⟨z, m, e, hz, hm, q⟩ => ?_
  subst e
  exact es_ifB (b := false) (et_notB (x := true) (et_val fun R r => ⟨_, rfl, z, m, rfl, hz, hm, r⟩)) (fun h => nomatch h) fun _ => q
def sp_needClock : SpD := fun ds M R _ => ∃ c : Nat, ds = [.int (c : Nat)] ∧ 1 ≤ c ∧ R .non M
theorem h_needClock (G : Facts K mg) : Has P w K mg base CX0 "need_clock" s_need_clock ["c"] 3 sp_needClock := by
  refine has_plain (k := 2) G.f_need_clock sc_need_clock (fun _ _ _ _ ⟨_, e, _⟩ => by rw [e]; rfl) (fun f cdv A outer s H E hr hG => p_need_clock G (h_isF G) cdv A outer s H E hr hG) fun ds M R XR ⟨c, e, hc, q⟩ => ?_
  subst e
  exact es_ifB (b := false) (et_notB (x := true) (et_val fun R r => ⟨_, rfl, _, 1, rfl, by rw [decide_eq_true (by omega)]; exact r⟩)) (fun h => nomatch h) fun _ => q
def sp_sign : SpD := fun ds M R _ => ∃ z tags t, ds = [z, Tr.d t] ∧ Zt z tags ∧ R (.int (signN tags t : Nat)) M
theorem h_sign (G : Facts K mg) : Has P w K mg base CX0 "sign_of" s_sign_of ["tags", "part"] 1 sp_sign := by
  refine has_plain (k := 0) G.f_sign_of sc_sign_of (fun _ _ _ _ ⟨_, _, _, e, _⟩ => by rw [e]; rfl) (fun f cdv A outer s H E hr hG => p_sign_of G cdv A outer s H E hr hG) fun ds M R XR ⟨z, tags, t, e, hz, q⟩ => ?_
  subst e
  show t_sign_of { nx := fun _ M => R .non M, rt := R } [some z, some t.d] M
  simp only [t_sign_of, dSeq]
  cases t with
  | e => exact es_ifB (b := true) (et_val fun R r => ⟨_, rfl, rfl, r⟩) (fun _ => q) fun h => nomatch h
  | n s l r =>
    have hd : (Tr.n s l r).d = .tup [.str s, l.d, r.d] := rfl
    rw [hd]
    refine es_ifB (b := false) (et_val fun R r => ⟨_, rfl, rfl, r⟩) (fun h => nomatch h) fun _ => ?_
    simp only [dNext]
    have e0 : ∀ R : RK, R (.str s) M → dOp dIx (dVar 1) (dC (.int 0)) [some z, some (.tup [.str s, l.d, r.d])] M R := fun R r => ⟨_, rfl, 0, rfl, _, L2.atI_nat (j := 0) rfl, r⟩
    have q' : R (.int ((if s ∈ tags then tags.idxOf s + 1 else tags.length + 1 : Nat) : Int)) M := q
    refine (show dIf _ _ _ _ M R from ?_)
    refine et_val (b := decide (s ∈ tags)) (fun R r => in_tags e0 rfl hz r) _ fun b hb => ?_
    subst hb
    by_cases h : s ∈ tags
    · rw [if_pos h] at q'
      rw [decide_eq_true h, if_pos rfl]
      exact idx_tags e0 rfl hz h q'
    · rw [if_neg h] at q'
      rw [decide_eq_false h, if_neg (by decide)]
      exact len_tags rfl hz q'
end
end Yk57

set_option Elab.async false
set_option linter.all false
set_option maxHeartbeats 4000000
set_option maxRecDepth 100000
namespace Yk57
open PySem PySem.Spec PyProof.Rows L2 DL
abbrev nI (n : Nat) : D := .int ((n : Nat) : Int)
def cellsL (m : Mac) (T : Tr) : List Nat := (T.pl []).map fun w => signN m.tags (T.sub w)
def full (m : Mac) (T : Tr) (c : Nat) : List Nat := cellsL m T ++ List.replicate (T.cnt ^ c - T.cnt) 0
theorem cells_len {m : Mac} {T : Tr} : (cellsL m T).length = T.cnt := by unfold cellsL; rw [List.length_map, Tr.pl_len]
structure CB (T : Tr) (c : Nat) : Prop where
  t : Tt T
  c1 : 1 ≤ c
  c3 : c ≤ 3
  l : T.cnt ^ c ≤ 700
  k : T.cnt ≤ 60
theorem CB.cnt {T : Tr} {c : Nat} (h : CB T c) : T.cnt ≤ T.cnt ^ c := Nat.le_self_pow (by have := h.c1; omega) _
theorem CB.pow {T : Tr} {c i : Nat} (h : CB T c) (hi : i ≤ c) : T.cnt ^ i ≤ 700 := Nat.le_trans (Nat.pow_le_pow_right (cnt_pos (t := T)) hi) h.l
theorem full_len {m : Mac} {T : Tr} {c : Nat} (h : CB T c) : (full m T c).length = T.cnt ^ c := by
  unfold full
  rw [List.length_append, cells_len, List.length_replicate]
  have := h.cnt
  omega
theorem full_lt {m : Mac} {T : Tr} {c : Nat} (hm : MacOk m) : ∀ v ∈ full m T c, v < m.n := fun v hv => by
  have := hm.n2
  rcases List.mem_append.mp hv with h | h
  · obtain ⟨w, _, rfl⟩ := List.mem_map.mp h
    have := sign_lt m.tags (T.sub w)
    omega
  · have := List.eq_of_mem_replicate h
    omega
theorem walk_of {T : Tr} {w : List Nat} (h : w ∈ T.pl []) : T.walk w = true := by
  obtain ⟨u, hu, h2⟩ := Tr.mem_pl.mp h
  have : w = u := by simpa using hu
  rw [this]
  exact h2
section
variable {P : Program} {w : World} {K : PySem.W.Frag} {mg : Str → Option Value} {base : Heap}
def sp_cells : SpD := fun ds M R _ => ∃ z m T, ∃ c : Nat, ds = [mD z m, Tr.d T, nI c] ∧ Zt z m.tags ∧ MacOk m ∧ CB T c ∧ ∀ p M2, M p = none → M2 p = some (.lst ((full m T c).map nI)) → ExtO M M2 → R (.ref p) M2
theorem ix_sts {ρ : DEnv} {M : Mem} {R : RK} {i : Nat} {z : D} {m : Mac} (h : slot ρ i = some (mD z m)) (q : R (.tup (m.sts.map stD)) M) : dOp dIx (dVar i) (dC (.int 3)) ρ M R := ⟨_, h, 3, rfl, _, L2.atI_nat (j := 3) rfl, q⟩
theorem ix_tags {ρ : DEnv} {M : Mem} {R : RK} {i : Nat} {z : D} {m : Mac} (h : slot ρ i = some (mD z m)) (q : R z M) : dOp dIx (dVar i) (dC (.int 1)) ρ M R := ⟨_, h, 1, rfl, _, L2.atI_nat (j := 1) rfl, q⟩
/-- xs + [0] * (many - len(xs)) -/
theorem pad_go {ρ : DEnv} {M : Mem} {R : RK} {t1 t2 t3 : DE} {x : D} {xs : List Nat} {L N : Nat} (h1 : ∀ R : RK, R x M → t1 ρ M R) (hx : ListAt M x (xs.map nI)) (hl : xs.length = L) (hL : L ≤ N) (hN : N ≤ 700)
    (h2 : ∀ M2 R, (∀ c o, M c = some o → M2 c = some o) → R (nI N) M2 → t2 ρ M2 R) (h3 : ∀ M2 R, (∀ c o, M c = some o → M2 c = some o) → R (nI L) M2 → t3 ρ M2 R)
    (q : ∀ p M2, M p = none → M2 p = some (.lst ((xs ++ List.replicate (N - L) 0).map nI)) → ExtO M M2 → R (.ref p) M2) : dOp dAddM t1 (dOp dRepL (dLstM (dCons (dC (.int 0)) dNil)) (dOp dSub t2 t3)) ρ M R := by
  refine h1 _ ⟨q_z1, fun a ha => ?_⟩
  have X1 : ExtO M (mset M a (.lst [.int 0])) := ExtO.refl.updL ha
  have keep : ∀ c o, M c = some o → (mset M a (.lst [.int 0])) c = some o := fun c o h => X1.keep h
  refine h2 _ _ keep (h3 _ _ keep ⟨_, _, rfl, rfl, ?_⟩)
  refine ⟨a, [.int 0], _, rfl, rfl, mset_same, by omega, by omega, ?_, ?_⟩
  · rw [sizeLine_eq]
    show 1 * _ ≤ _
    omega
  · have e : (List.replicate (((N : Nat) : Int) - ((L : Nat) : Int)).toNat [D.int 0]).flatten = (List.replicate (N - L) 0).map nI := by
      have e1 : (((N : Nat) : Int) - ((L : Nat) : Int)).toNat = N - L := by omega
      rw [e1, List.map_replicate]
      induction N - L with
      | zero => rfl
      | succ k ih => rw [List.replicate_succ, List.flatten_cons, ih, List.replicate_succ]; rfl
    rw [e]
    have hx2 : ListAt (mset M a (.lst [.int 0])) x (xs.map nI) := by
      rcases hx with h | ⟨b, h, hb⟩
      · exact .inl h
      · exact .inr ⟨b, h, keep b _ hb⟩
    refine ⟨_, _, hx2, .inl rfl, by rw [List.length_map, List.length_map, List.length_replicate, sizeLine_eq]; omega, fun p hp => ?_⟩
    rw [← List.map_append]
    exact q p _ (X1.nn hp) mset_same (X1.new hp)
theorem h_cellsOf (G : Facts K mg) : Has P w K mg base CX0 "cells_of" s_cells_of ["machine", "tree", "c"] 2 sp_cells := by
  refine has_view (k := 1) G.f_cells_of sc_cells_of (fun _ _ _ _ ⟨_, _, _, _, e, _⟩ => by rw [e]; rfl) (fun f cdv A outer s H E hr hG => p_cells_of G (h_sub G) (h_allpl G) (h_sign G) cdv A outer s H E hr hG) fun ds M R XR ⟨z, m, T, c, e, hz, hm, hc, q⟩ => ?_
  subst e
  show t_cells_of sp_sub sp_allpl sp_sign (endsOf K R) [some (mD z m), some T.d, some (nI c), none, none, none, none] M
  simp only [t_cells_of, dSeq]
  have hcnt := hc.cnt
  have hl := hc.l
  have hL : (cellsL m T).length = T.cnt := cells_len
  refine (show dLc _ _ _ _ _ _ M _ from ?_)
  refine go_map (items := (T.plc []).map .str) (G := fun _ => True) (fun d => match d with | .str s => nI (signN m.tags (T.sub s.cps.toList)) | d => d) (fun Q h => it_val (d := .lst ((T.plc []).map .str)) (fun R h => ⟨_, rfl, T, rfl, hc.t, h⟩) ⟨rfl, rfl⟩ h) (by rw [List.length_map, Tr.plc, List.length_map, Tr.pl_len, sizeLine_eq]; omega) trivial (fun d hd Rt h => ?_) ?_
  · obtain ⟨s, hs, rfl⟩ := List.mem_map.mp hd
    obtain ⟨u, hu, rfl⟩ := List.mem_map.mp hs
    have hw := walk_of hu
    refine (show dOp dIx (dVar 0) (dC (.int 1)) _ M _ from ix_tags rfl ⟨_, rfl, _, rfl, T, u, rfl, hw, Nat.le_trans hc.t.2.2.1 (by decide), z, m.tags, T.sub u, rfl, hz, h⟩)
  · have e : ((T.plc []).map D.str).map (fun d => match d with | .str s => nI (signN m.tags (T.sub s.cps.toList)) | d => d) = (cellsL m T).map nI := by
      unfold cellsL Tr.plc
      rw [List.map_map, List.map_map, List.map_map]
      rfl
    rw [e]
    simp only [put, dSet, dC]
    refine go_for (G := fun _ => True) (fun i ρ2 M2 => M2 = M ∧ ∃ s5 s6, ρ2 = [some (mD z m), some T.d, some (nI c), some (.lst ((cellsL m T).map nI)), some (nI (T.cnt ^ i)), s5, s6]) (it_rng (te := dVar 2) (m := c) (by have := hc.c3; omega) fun R h => ⟨_, rfl, h⟩) ⟨rfl, _, _, rfl⟩ (fun i d ρ2 M2 hi ⟨e1, s5, s6, e2⟩ => ?_) (fun ρ2 M2 ⟨e1, s5, s6, e2⟩ => ?_)
    · subst e1 e2
      obtain ⟨hi4, rfl⟩ := rng_at hi
      have hp := hc.pow (i := i) (by omega)
      refine ⟨trivial, _, rfl, _, rfl, _, rfl, ?_⟩
      refine q_op_ml.mpr ⟨cmul_l (by omega) (by omega), rfl, some (nI i), s6, ?_⟩
      rw [List.length_map, hL]
      have : nI (T.cnt ^ (i + 1)) = .int (((T.cnt ^ i : Nat) : Int) * ((T.cnt : Nat) : Int)) := by
        rw [Nat.pow_succ]
        simp [nI]
      rw [this]
      rfl
    · subst e1 e2
      rw [List.length_map, List.length_range]
      refine ⟨trivial, ?_⟩
      dsimp only [dRet]
      refine pad_go (x := .lst ((cellsL m T).map nI)) (xs := cellsL m T) (fun R r => ⟨_, rfl, r⟩) (.inl rfl) hL hcnt hl (fun M2 R _ r => ⟨_, rfl, r⟩) (fun M2 R _ r => ⟨_, rfl, _, rfl, ?_⟩) fun p M3 h1 h2 X => .inl (q p M3 h1 h2 X)
      show R (.int ((((cellsL m T).map nI).length : Nat) : Int)) M2
      rw [List.length_map, hL]
      exact r
end
end Yk57

set_option Elab.async false
set_option linter.all false
set_option maxHeartbeats 4000000
set_option maxRecDepth 100000
namespace Yk57
open PySem PySem.Spec PyProof.Rows L2 DL
/-! ### runs of machines -/
abbrev St := Nat × Nat × List Nat
def ruleAt (m : Mac) (st sg : Nat) : Rule := (m.sts.getD st []).getD sg (0, 0, 0)
def clampN (x l : Int) : Nat := (min (max x 0) l).toNat
def stp (m : Mac) (x : St) : St := if m.sts.length ≤ x.1 then x else
  ((ruleAt m x.1 (x.2.2.getD x.2.1 0)).1, clampN ((x.2.1 : Int) + (ruleAt m x.1 (x.2.2.getD x.2.1 0)).2.2) ((x.2.2.length : Int) - 1), x.2.2.set x.2.1 (ruleAt m x.1 (x.2.2.getD x.2.1 0)).2.1)
def run (m : Mac) (x : St) : Nat → St
  | 0 => x
  | k + 1 => stp m (run m x k)
theorem stp_stop {m : Mac} {x : St} (h : m.sts.length ≤ x.1) : stp m x = x := by unfold stp; rw [if_pos h]
theorem run_stop {m : Mac} {x : St} {i : Nat} (h : m.sts.length ≤ (run m x i).1) : ∀ j, run m x (i + j) = run m x i
  | 0 => rfl
  | j + 1 => by
    show stp m (run m x (i + j)) = _
    rw [run_stop h j, stp_stop h]
structure Gd (m : Mac) (N : Nat) (x : St) : Prop where
  l : x.2.2.length = N
  h : x.2.1 < N
  v : ∀ v ∈ x.2.2, v < m.n
  s : x.1 ≤ m.sts.length + 1
theorem clamp_lt {x : Int} {N : Nat} (h : 0 < N) : clampN x ((N : Int) - 1) < N := by
  unfold clampN
  omega
structure Rw (m : Mac) (N : Nat) (x : St) (row : List Rule) (v : Nat) (r : Rule) : Prop where
  hrow : m.sts[x.1]? = some row
  hv : x.2.2[x.2.1]? = some v
  hr : row[v]? = some r
  ok : RuleOk m.n m.sts.length r
  e : stp m x = (r.1, clampN ((x.2.1 : Int) + r.2.2) ((N : Int) - 1), x.2.2.set x.2.1 r.2.1)
theorem row_of {m : Mac} {N : Nat} {x : St} (hm : MacOk m) (g : Gd m N x) (h : x.1 < m.sts.length) : ∃ row v r, Rw m N x row v r := by
  have e1 : m.sts[x.1]? = some m.sts[x.1] := List.getElem?_eq_getElem h
  have hh : x.2.1 < x.2.2.length := by rw [g.l]; exact g.h
  have e2 : x.2.2[x.2.1]? = some x.2.2[x.2.1] := List.getElem?_eq_getElem hh
  obtain ⟨s1, s2⟩ := hm.s _ (List.getElem_mem h)
  have hv : x.2.2[x.2.1] < (m.sts[x.1]).length := by rw [s1]; exact g.v _ (List.getElem_mem hh)
  have e3 : (m.sts[x.1])[x.2.2[x.2.1]]? = some (m.sts[x.1])[x.2.2[x.2.1]] := List.getElem?_eq_getElem hv
  refine ⟨_, _, _, e1, e2, e3, s2 _ (List.getElem_mem hv), ?_⟩
  have er : ruleAt m x.1 (x.2.2.getD x.2.1 0) = (m.sts[x.1])[x.2.2[x.2.1]] := by
    unfold ruleAt
    rw [List.getD_eq_getElem?_getD (l := m.sts), e1, List.getD_eq_getElem?_getD (l := x.2.2), e2]
    show (m.sts[x.1]).getD (x.2.2[x.2.1]) (0, 0, 0) = _
    rw [List.getD_eq_getElem?_getD, e3]
    rfl
  unfold stp
  rw [if_neg (by omega), er, g.l]
theorem gd_step {m : Mac} {N : Nat} {x : St} (hm : MacOk m) (g : Gd m N x) : Gd m N (stp m x) := by
  by_cases h : m.sts.length ≤ x.1
  · rw [stp_stop h]; exact g
  · obtain ⟨row, v, r, w⟩ := row_of hm g (by omega)
    rw [w.e]
    refine ⟨by show (x.2.2.set _ _).length = N; rw [List.length_set]; exact g.l, clamp_lt (by have := g.h; omega), fun y hy => ?_, w.ok.a⟩
    rcases List.mem_or_eq_of_mem_set hy with h | h
    · exact g.v y h
    · rw [h]; exact w.ok.b
theorem gd_run {m : Mac} {N : Nat} {x : St} (hm : MacOk m) (g : Gd m N x) : ∀ k, Gd m N (run m x k)
  | 0 => g
  | k + 1 => gd_step hm (gd_run hm g k)
def ini (m : Mac) (T : Tr) (c : Nat) : St := (0, 0, full m T c)
theorem gd_ini {m : Mac} {T : Tr} {c : Nat} (hm : MacOk m) (h : CB T c) : Gd m (T.cnt ^ c) (ini m T c) := ⟨full_len h, Nat.pow_pos (cnt_pos (t := T)), full_lt hm, Nat.zero_le _⟩
def outD (x : St) : D := .tup [nI x.1, nI x.2.1, .tup (x.2.2.map nI)]
theorem clamp_a {x l : Int} (h : 0 ≤ l) : (if l < (if 0 > x then 0 else x) then l else (if 0 > x then 0 else x)) = ((clampN x l : Nat) : Int) := by
  unfold clampN
  split <;> split at * <;> omega
theorem clamp_b {x l : Int} (h : 0 ≤ l) : (if (if x > 0 then x else 0) < l then (if x > 0 then x else 0) else l) = ((clampN x l : Nat) : Int) := by
  unfold clampN
  split <;> split at * <;> omega
theorem ixN_nat {n j : Nat} (h : j < n) : L2.ixN n ((j : Nat) : Int) = some j := by
  unfold L2.ixN
  rw [if_pos (by omega), if_pos (by omega)]
  rfl
/-- the rule of a state that reads -/
theorem rule_go {ρ : DEnv} {M : Mem} {R : RK} {m : Mac} {N : Nat} {x : St} {row : List Rule} {v : Nat} {r : Rule} {p : Addr} {t1 t2 t3 t4 : DE} (w : Rw m N x row v r) (h1 : ∀ R : RK, R (.tup (m.sts.map stD)) M → t1 ρ M R) (h2 : ∀ R : RK, R (nI x.1) M → t2 ρ M R) (h3 : ∀ R : RK, R (.ref p) M → t3 ρ M R) (h4 : ∀ R : RK, R (nI x.2.1) M → t4 ρ M R)
    (hp : M p = some (.lst (x.2.2.map nI))) (q : R (ruleD r) M) : dOp dIx (dOp dIx t1 t2) (dOp dIx t3 t4) ρ M R := by
  refine h1 _ (h2 _ ⟨_, rfl, stD row, L2.atI_nat (by rw [List.getElem?_map, w.hrow]; rfl), ?_⟩)
  refine h3 _ (h4 _ ⟨_, rfl, x.2.2.map nI, nI v, hp, L2.atI_nat (by rw [List.getElem?_map, w.hv]; rfl), ?_⟩)
  exact ⟨_, rfl, ruleD r, L2.atI_nat (by rw [List.getElem?_map, w.hr]; rfl), q⟩
section
variable {P : Program} {w : World} {K : PySem.W.Frag} {mg : Str → Option Value} {base : Heap}
def manyD (N : Nat) : Option Nat → D × Nat
  | none => (.non, N - 1)
  | some k => (nI k, k)
def sp_after : SpD := fun ds M R _ => ∃ z m T, ∃ c : Nat, ∃ o : Option Nat, ds = [mD z m, Tr.d T, nI c, (manyD (T.cnt ^ c) o).1] ∧ Zt z m.tags ∧ MacOk m ∧ CB T c ∧ (∀ k, o = some k → k ≤ 1000) ∧ R (outD (run m (ini m T c) (manyD (T.cnt ^ c) o).2)) M
abbrev SA (z : D) (m : Mac) (T : Tr) (c : Nat) (d : D) (p : Addr) (x : St) (N : Nat) (s9 s10 s11 : Option D) : DEnv := [some (mD z m), some (Tr.d T), some (nI c), some d, some (.ref p), some (.tup (m.sts.map stD)), some (nI x.1), some (nI x.2.1), some (.int ((N : Int) - 1)), s9, s10, s11]
theorem h_after (G : Facts K mg) : Has P w K mg base CX0 "standing_after" s_standing_after ["machine", "tree", "c", "many"] 3 sp_after := by
  refine has_view (k := 2) G.f_standing_after sc_standing_after (fun _ _ _ _ ⟨_, _, _, _, _, e, _⟩ => by rw [e]; rfl) (fun f cdv A outer s H E hr hG => p_standing_after G (h_cellsOf G) cdv A outer s H E hr hG) fun ds M R XR ⟨z, m, T, c, o, e, hz, hm, hc, ho, q⟩ => ?_
  subst e
  have hN := hc.l
  have hpos : 0 < T.cnt ^ c := Nat.pow_pos (cnt_pos (t := T))
  have hfl := full_len (m := m) hc
  have g0 := gd_ini hm hc
  show t_standing_after sp_cells (endsOf K R) [some (mD z m), some T.d, some (nI c), some (manyD (T.cnt ^ c) o).1, none, none, none, none, none, none, none, none] M
  simp only [t_standing_after, dSeq]
  refine ⟨_, rfl, _, rfl, _, rfl, z, m, T, c, rfl, hz, hm, hc, fun p M1 hp0 hp X => ?_⟩
  refine ix_sts rfl ⟨_, _, rfl, ?_⟩
  simp only [put]
  refine (show dPar3 6 7 8 _ _ _ M1 from ?_)
  refine ⟨_, rfl, _, rfl, _, hp, _, 1, rfl, rfl, _, _, _, rfl, ?_⟩
  simp only [put]
  rw [List.length_map, hfl]
  have hK : (manyD (T.cnt ^ c) o).2 ≤ 1000 := by
    cases o with
    | none => show T.cnt ^ c - 1 ≤ 1000; omega
    | some k => exact ho k rfl
  have upd : ∀ x : St, ExtO M (mset M1 p (.lst (x.2.2.map nI))) := fun x => X.updL hp0
  generalize hKe : (manyD (T.cnt ^ c) o).2 = Kn at q hK
  have fin : ∀ {x : St} {s9 s10 s11 : Option D}, x = run m (ini m T c) Kn → (dRet (dTup (dCons (dVar 6) (dCons (dVar 7) (dCons (dCB dTuple (dCons (dVar 4) dNil)) dNil))))) (endsOf K R) (SA z m T c (manyD (T.cnt ^ c) o).1 p x (T.cnt ^ c) s9 s10 s11) (mset M1 p (.lst (x.2.2.map nI))) := fun {x s9 s10 s11} e => by
    refine ⟨_, rfl, _, rfl, _, rfl, _, _, rfl, .inr (.inr ⟨p, rfl, mset_same⟩), q_z3, (upd x).ends ?_⟩
    rw [e]
    exact q
  have e0 : mset M1 p (.lst ((ini m T c).2.2.map nI)) = M1 := mset_self hp
  refine go_for (G := fun _ => True) (fun i ρ2 M2 => ∃ s9 s10 s11, M2 = mset M1 p (.lst ((run m (ini m T c) i).2.2.map nI)) ∧ ρ2 = SA z m T c (manyD (T.cnt ^ c) o).1 p (run m (ini m T c) i) (T.cnt ^ c) s9 s10 s11) (it_rng (m := Kn) (by omega) fun R h => ?_) ⟨_, _, _, e0.symm, rfl⟩ (fun i d ρ2 M2 hi ⟨s9, s10, s11, e1, e2⟩ => ?_) (fun ρ2 M2 ⟨s9, s10, s11, e1, e2⟩ => ?_)
  · subst hKe
    cases o with
    | none =>
      refine et_val (b := true) (fun R r => ⟨_, rfl, rfl, r⟩) _ fun b hb => ?_
      subst hb
      rw [if_pos rfl]
      refine ⟨_, rfl, ?_⟩
      have : ((((T.cnt ^ c : Nat) : Int)) - 1) = ((T.cnt ^ c - 1 : Nat) : Int) := by omega
      rw [this]
      exact h
    | some k =>
      refine et_val (b := false) (fun R r => ⟨_, rfl, rfl, r⟩) _ fun b hb => ?_
      subst hb
      rw [if_neg (by decide)]
      exact ⟨_, rfl, h⟩
  · subst e1 e2
    obtain ⟨hi4, rfl⟩ := rng_at hi
    have g := gd_run hm g0 i
    refine ⟨trivial, ?_⟩
    simp only [gNm, put, dSeq]
    generalize hx : run m (ini m T c) i = x at g
    have hlen : ((m.sts.map stD).length : Int) = ((m.sts.length : Nat) : Int) := by rw [List.length_map]
    refine es_ifB (b := decide (m.sts.length ≤ x.1)) (et_val fun R r => ⟨_, rfl, _, rfl, _, rfl, ?_⟩) (fun h => ?_) fun h => ?_
    · refine q_op_ge.mpr ?_
      have : decide (((m.sts.map stD).length : Int) ≤ ((x.1 : Nat) : Int)) = decide (m.sts.length ≤ x.1) := by
        rw [hlen]
        congr 1
        exact propext Int.ofNat_le
      rw [this]
      exact r
    · have h := of_decide_eq_true h
      refine fin ?_
      have := run_stop (m := m) (x := ini m T c) (i := i) (by rw [hx]; exact h) (Kn - i)
      rw [show i + (Kn - i) = Kn by omega, hx] at this
      exact this.symm
    · have h := of_decide_eq_false h
      simp only [dNext]
      obtain ⟨row, v, r, wr⟩ := row_of hm g (by omega)
      refine rule_go (p := p) wr (fun R r => ⟨_, rfl, r⟩) (fun R r => ⟨_, rfl, r⟩) (fun R r => ⟨_, rfl, r⟩) (fun R r => ⟨_, rfl, r⟩) mset_same ⟨_, rfl, rfl, _, _, rfl, _, _, rfl, _, _, rfl, rfl, ?_⟩
      simp only [gNm, put]
      refine ⟨_, rfl, _, rfl, _, rfl, p, _, _, x.2.1, rfl, rfl, mset_same, ixN_nat (by rw [List.length_map, g.l]; exact g.h), ?_⟩
      rw [mset_mset]
      refine ⟨_, rfl, _, rfl, _, _, rfl, _, rfl, _, _, rfl, ?_⟩
      rw [clamp_a (by omega)]
      have e3 : (List.map nI x.2.2).set x.2.1 (nI r.2.1) = (stp m x).2.2.map nI := by
        rw [wr.e, List.map_set]
      have e4 : run m (ini m T c) (i + 1) = stp m x := by
        show stp m (run m (ini m T c) i) = _
        rw [hx]
      refine ⟨some (nI i), some (nI r.2.1), some (.int r.2.2), ?_, ?_⟩
      · rw [e4, ← e3]
      · rw [e4, wr.e]
        rfl
  · subst e1 e2
    refine ⟨trivial, ?_⟩
    rw [List.length_map, List.length_range]
    exact fin rfl
end
end Yk57

set_option Elab.async false
set_option linter.all false
set_option maxHeartbeats 4000000
set_option maxRecDepth 100000
namespace Yk57
open PySem PySem.Spec PyProof.Rows L2 DL
section
variable {P : Program} {w : World} {K : PySem.W.Frag} {mg : Str → Option Value} {base : Heap}
def sp_needRun : SpD := fun ds M R _ => ∃ z m T, ∃ c : Nat, ds = [mD z m, Tr.d T, nI c] ∧ Zt z m.tags ∧ MacOk m ∧ CB T c ∧ R .non M
theorem h_needRun (G : Facts K mg) : Has P w K mg base CX0 "need_run" s_need_run ["machine", "tree", "c"] 6 sp_needRun := by
  refine has_plain (k := 5) G.f_need_run sc_need_run (fun _ _ _ _ ⟨_, _, _, _, e, _⟩ => by rw [e]; rfl) (fun f cdv A outer s H E hr hG => p_need_run G ((h_need G).mono (by decide)) (h_needTape G) ((h_needClock G).mono (by decide)) cdv A outer s H E hr hG) fun ds M R XR ⟨z, m, T, c, e, hz, hm, hc, q⟩ => ?_
  subst e
  obtain ⟨t1, t2, t3, t4⟩ := hc.t
  exact ⟨_, rfl, z, m, rfl, hz, hm, _, rfl, _, rfl, Tr.dat t1, by omega, Tr.is t1, _, rfl, c, rfl, hc.c1, q⟩
def sp_stand : SpD := fun ds M R _ => ∃ z m T, ∃ c k : Nat, ds = [mD z m, Tr.d T, nI c, nI k] ∧ Zt z m.tags ∧ MacOk m ∧ CB T c ∧ k ≤ 1000 ∧ R (outD (run m (ini m T c) k)) M
theorem h_stand (G : Facts K mg) : Has P w K mg base CX0 "tape_standing" s_tape_standing ["machine", "tree", "c", "many"] 7 sp_stand := by
  refine has_plain (k := 6) G.f_tape_standing sc_tape_standing (fun _ _ _ _ ⟨_, _, _, _, _, e, _⟩ => by rw [e]; rfl) (fun f cdv A outer s H E hr hG => p_tape_standing G ((h_isF G).mono (by decide)) ((h_after G).mono (by decide)) (h_needRun G) cdv A outer s H E hr hG) fun ds M R XR ⟨z, m, T, c, k, e, hz, hm, hc, hk, q⟩ => ?_
  subst e
  show t_tape_standing sp_isF sp_after sp_needRun { nx := fun _ M => R .non M, rt := R } [some (mD z m), some T.d, some (nI c), some (nI k)] M
  simp only [t_tape_standing, dSeq]
  refine ⟨_, rfl, _, rfl, _, rfl, z, m, T, c, rfl, hz, hm, hc, ?_⟩
  dsimp only
  refine es_ifB (b := false) (et_notB (x := true) (et_val fun R r => ⟨_, rfl, _, 0, rfl, by rw [decide_eq_true (by omega)]; exact r⟩)) (fun h => nomatch h) fun _ => ?_
  exact ⟨_, rfl, _, rfl, _, rfl, _, rfl, z, m, T, c, some k, rfl, hz, hm, hc, fun j e => by cases e; exact hk, q⟩
def outc (m : Mac) (T : Tr) (c : Nat) : Bool := decide ((run m (ini m T c) (T.cnt ^ c - 1)).1 = m.sts.length)
def sp_outc : SpD := fun ds M R _ => ∃ z m T, ∃ c : Nat, ds = [mD z m, Tr.d T, nI c] ∧ Zt z m.tags ∧ MacOk m ∧ CB T c ∧ R (.bl (outc m T c)) M
theorem eq_sts {ρ : DEnv} {M : Mem} {R : RK} {i : Nat} {z : D} {m : Mac} {x : St} {t : DE} (h : slot ρ i = some (mD z m)) (ht : ∀ R : RK, R (outD x) M → t ρ M R) (q : R (.bl (decide (x.1 = m.sts.length))) M) : dOp dEq (dOp dIx t (dC (.int 0))) (dCB dLen (dCons (dOp dIx (dVar i) (dC (.int 3))) dNil)) ρ M R := by
  refine ht _ ⟨0, rfl, _, L2.atI_nat (j := 0) rfl, ?_⟩
  refine ix_sts h ⟨_, rfl, ?_⟩
  refine q_eq_int.mpr ?_
  rw [List.length_map]
  have : decide (((x.1 : Nat) : Int) = ((m.sts.length : Nat) : Int)) = decide (x.1 = m.sts.length) := by
    congr 1
    exact propext Int.ofNat_inj
  rw [this]
  exact q
theorem h_outc (G : Facts K mg) : Has P w K mg base CX0 "tape_outcome" s_tape_outcome ["machine", "tree", "c"] 7 sp_outc := by
  refine has_plain (k := 6) G.f_tape_outcome sc_tape_outcome (fun _ _ _ _ ⟨_, _, _, _, e, _⟩ => by rw [e]; rfl) (fun f cdv A outer s H E hr hG => p_tape_outcome G ((h_after G).mono (by decide)) (h_needRun G) cdv A outer s H E hr hG) fun ds M R XR ⟨z, m, T, c, e, hz, hm, hc, q⟩ => ?_
  subst e
  show t_tape_outcome sp_after sp_needRun { nx := fun _ M => R .non M, rt := R } [some (mD z m), some T.d, some (nI c)] M
  simp only [t_tape_outcome, dSeq]
  refine ⟨_, rfl, _, rfl, _, rfl, z, m, T, c, rfl, hz, hm, hc, ?_⟩
  dsimp only [dRet]
  exact eq_sts (x := run m (ini m T c) (T.cnt ^ c - 1)) rfl (fun R r => ⟨_, rfl, _, rfl, _, rfl, z, m, T, c, none, rfl, hz, hm, hc, nofun, r⟩) q
/-! ### the law's cells -/
def tagv : Tr → D
  | .e => .non
  | .n s _ _ => .str s
def mapK (ws : List (List Nat)) : List Key := ws.map fun w => .inr (mkS w)
def sp_map : SpD := fun ds M R _ => ∃ T, ds = [Tr.d T] ∧ Tt T ∧ T.cnt ≤ 60 ∧ R (.dct (mapK (T.pl [])) ((T.pl []).map fun w => tagv (T.sub w))) M
theorem ris_le : ∀ (r : List Str) (p : Str), risingS p r = true → Asc (p :: r)
  | [], p, _ => List.pairwise_singleton _ _
  | x :: r, p, h => by
    have h' : (!ltCps x.cps.toList p.cps.toList && risingS x r) = true := h
    rw [Bool.and_eq_true] at h'
    have ih := ris_le r x h'.2
    have h1 : ¬ x.cps.toList < p.cps.toList := fun e => by
      have := h'.1
      rw [ltCps_eq, decide_eq_true e] at this
      cases this
    refine List.pairwise_cons.mpr ⟨fun y hy => ?_, ih⟩
    rcases List.mem_cons.mp hy with rfl | hy
    · exact h1
    · have h2 := (List.pairwise_cons.mp ih).1 y hy
      exact List.not_lt.mpr (List.le_trans (List.not_lt.mp h1) (List.not_lt.mp h2))
theorem asc_of {ys : List Str} (h : sortedS ys = true) : Asc ys := by
  cases ys with
  | nil => exact List.Pairwise.nil
  | cons x r => exact ris_le r x h
theorem pl_nodup {T : Tr} : (T.pl []).Nodup := Tr.asc.imp fun {a b} h e => by subst e; exact List.lt_irrefl _ h
theorem mkS_inj {a b : List Nat} (h : mkS a = mkS b) : a = b := by
  have := congrArg (fun s : Str => s.cps.toList) h
  exact this
theorem put_new {ks : List Key} {ds : List D} {k : Key} {d : D} (h : k ∉ ks) : dputK ks k = ks ++ [k] ∧ dputD ks ds k d = ds ++ [d] := by
  have e : ks.any (fun x => decide (x = k)) = false := by
    rw [List.any_eq_false]
    intro x hx hd
    exact h (of_decide_eq_true hd ▸ hx)
  unfold dputK dputD
  rw [e]
  exact ⟨rfl, rfl⟩
theorem key_notin {ws : List (List Nat)} {a : List Nat} (h : a ∉ ws) : (Sum.inr (mkS a) : Key) ∉ mapK ws := fun hm => by
  obtain ⟨b, hb, e⟩ := List.mem_map.mp hm
  have := mkS_inj (Sum.inr.inj e)
  exact h (this ▸ hb)
theorem dget_map {f : List Nat → D} : ∀ {ws : List (List Nat)} {a : List Nat}, a ∈ ws → dget (mapK ws) (ws.map f) (.inr (mkS a)) = some (f a)
  | [], a, h => nomatch h
  | b :: ws, a, h => by
    show (if (Sum.inr (mkS b) : Key) = .inr (mkS a) then some (f b) else dget (mapK ws) (ws.map f) (.inr (mkS a))) = _
    by_cases e : b = a
    · subst e; rw [if_pos rfl]
    · rw [if_neg fun h' => e (mkS_inj (Sum.inr.inj h'))]
      rcases List.mem_cons.mp h with rfl | h
      · exact absurd rfl e
      · exact dget_map h
end
end Yk57

set_option Elab.async false
set_option linter.all false
set_option maxHeartbeats 4000000
set_option maxRecDepth 100000
namespace Yk57
open PySem PySem.Spec PyProof.Rows L2 DL
theorem sub_snoc : ∀ {t : Tr} {w : List Nat} {c : Nat}, t.walk w = true → t.sub (w ++ [c]) = (t.sub w).sub [c]
  | t, [], c, _ => by cases t <;> rfl
  | .e, x :: w, c, h => by cases h
  | .n s l r, x :: w, c, h => by
    show (if x = 108 then l.sub (w ++ [c]) else r.sub (w ++ [c])) = (if x = 108 then l.sub w else r.sub w).sub [c]
    have h' : (if x = 108 then l.walk w else if x = 114 then r.walk w else false) = true := h
    by_cases e : x = 108
    · rw [if_pos e] at h' ⊢
      rw [if_pos e]
      exact sub_snoc h'
    · rw [if_neg e] at h' ⊢
      rw [if_neg e]
      by_cases e2 : x = 114
      · rw [if_pos e2] at h'
        exact sub_snoc h'
      · rw [if_neg e2] at h'
        cases h'
theorem walk_snoc {t : Tr} {w : List Nat} {s : Str} {l r : Tr} (h : t.walk w = true) (e : t.sub w = .n s l r) : (t.walk (w ++ [108]) = true ∧ t.sub (w ++ [108]) = l) ∧ t.walk (w ++ [114]) = true ∧ t.sub (w ++ [114]) = r := by
  refine ⟨⟨by rw [← walk_sub h, e]; cases l <;> rfl, by rw [sub_snoc h, e]; cases l <;> rfl⟩, by rw [← walk_sub h, e]; cases r <;> rfl, by rw [sub_snoc h, e]; cases r <;> rfl⟩
/-- what stands, in the loop over a tree -/
structure MInv (T : Tr) (ws : List (List Nat)) (st : List (List Nat × Tr)) : Prop where
  perm : (ws ++ st.flatMap fun p => p.2.pl p.1).Perm (T.pl [])
  hst : ∀ p ∈ st, T.walk p.1 = true ∧ T.sub p.1 = p.2
  cnt : ws.length + sumc st = T.cnt
theorem MInv.fresh {T : Tr} {ws : List (List Nat)} {st : List (List Nat × Tr)} {a : List Nat} {t : Tr} (h : MInv T ws (st ++ [(a, t)])) : a ∉ ws := fun hm => by
  have nd := (h.perm.nodup_iff).mpr pl_nodup
  rw [List.nodup_append] at nd
  refine nd.2.2 a hm a ?_ rfl
  rw [List.flatMap_append]
  refine List.mem_append_right _ ?_
  have : a ∈ t.pl a := by cases t <;> exact List.mem_cons_self
  simpa using this
theorem sumc_snoc {st : List (List Nat × Tr)} {p : List Nat × Tr} : sumc (st ++ [p]) = sumc st + p.2.cnt := by
  rw [sumc_app]
  show sumc st + (p.2.cnt + 0) = _
  omega
theorem MInv.e {T : Tr} {ws : List (List Nat)} {st : List (List Nat × Tr)} {a : List Nat} (h : MInv T ws (st ++ [(a, .e)])) : MInv T (ws ++ [a]) st := by
  refine ⟨?_, fun p hp => h.hst p (by simp [hp]), ?_⟩
  · refine List.Perm.trans ?_ h.perm
    rw [List.flatMap_append, List.append_assoc]
    refine List.Perm.append_left _ ?_
    have e : ([(a, Tr.e)] : List (List Nat × Tr)).flatMap (fun p => p.2.pl p.1) = [a] := rfl
    rw [e]
    exact List.perm_append_comm
  · have := h.cnt
    rw [sumc_snoc] at this
    rw [List.length_append]
    show ws.length + 1 + _ = _
    have e : (Tr.e).cnt = 1 := rfl
    simp only [e] at this
    omega
theorem MInv.n {T : Tr} {ws : List (List Nat)} {st : List (List Nat × Tr)} {a : List Nat} {s : Str} {l r : Tr} (h : MInv T ws (st ++ [(a, .n s l r)])) : MInv T (ws ++ [a]) (st ++ [(a ++ [108], l), (a ++ [114], r)]) := by
  obtain ⟨hw, hs⟩ := h.hst (a, .n s l r) (by simp)
  obtain ⟨⟨w1, w2⟩, w3, w4⟩ := walk_snoc hw hs
  refine ⟨?_, fun p hp => ?_, ?_⟩
  · refine List.Perm.trans ?_ h.perm
    rw [List.flatMap_append, List.flatMap_append, List.append_assoc]
    refine List.Perm.append_left _ ?_
    have e1 : ([(a, Tr.n s l r)] : List (List Nat × Tr)).flatMap (fun p => p.2.pl p.1) = a :: (l.pl (a ++ [108]) ++ r.pl (a ++ [114])) := by
      show (a :: (l.pl (a ++ [108]) ++ r.pl (a ++ [114]))) ++ [] = _
      rw [List.append_nil]
    have e2 : ([(a ++ [108], l), (a ++ [114], r)] : List (List Nat × Tr)).flatMap (fun p => p.2.pl p.1) = l.pl (a ++ [108]) ++ r.pl (a ++ [114]) := by
      show l.pl (a ++ [108]) ++ (r.pl (a ++ [114]) ++ []) = _
      rw [List.append_nil]
    rw [e1, e2]
    rw [List.singleton_append]
    exact List.perm_middle.symm
  · rcases List.mem_append.mp hp with hp | hp
    · exact h.hst p (by simp [hp])
    · simp at hp
      rcases hp with rfl | rfl
      · exact ⟨w1, w2⟩
      · exact ⟨w3, w4⟩
  · have := h.cnt
    rw [sumc_snoc] at this
    rw [sumc_app, List.length_append]
    have e : (Tr.n s l r).cnt = 1 + l.cnt + r.cnt := rfl
    simp only [e] at this
    show ws.length + 1 + (sumc st + (l.cnt + (r.cnt + 0))) = _
    omega
section
variable {P : Program} {w : World} {K : PySem.W.Frag} {mg : Str → Option Value} {base : Heap}
def valsOf (T : Tr) (ws : List (List Nat)) : List D := ws.map fun w => tagv (T.sub w)
theorem mapK_app {a b : List (List Nat)} : mapK (a ++ b) = mapK a ++ mapK b := List.map_append ..
def mpA : DS := (dSeq (dAsg (dMeth0 "list" dPop (dVar 2)) (gTp 2 (gsCons (gNm 3) (gsCons (gNm 4) gsNil)))) (dSeq (dDPut (dVar 1) (dVar 3) (dIf (dTest (dOp dIsN (dVar 4) (dC .non))) (dC .non) (dOp dIx (dVar 4) (dC (.int 0))))) (dDrop (dMeth "list" dExtendL (dVar 2) (dCons (dIf (dTest (dOp dNotN (dVar 4) (dC .non))) (dLst (dCons (dTup (dCons (dOp dAdd (dVar 3) (dC (.str "l"))) (dCons (dOp dIx (dVar 4) (dC (.int 1))) dNil))) (dCons (dTup (dCons (dOp dAdd (dVar 3) (dC (.str "r"))) (dCons (dOp dIx (dVar 4) (dC (.int 2))) dNil))) dNil))) (dLst dNil)) dNil)))))
theorem map_eq : t__law_map = (dSeq (dPar 1 2 (dCons dDict0M (dCons (dLstM (dCons (dTup (dCons (dC (.str "")) (dCons (dVar 0) dNil))) dNil)) dNil))) (dSeq (dWhile (dTest (dOp dNeL (dVar 2) (dLst dNil))) mpA) (dSeq (dSet 5 dDict0M) (dSeq (dFor (dVal (dCB dSortedK (dCons (dVar 1) dNil))) (gNm 3) (dDPut (dVar 5) (dVar 3) (dDGet (dVar 1) (dVar 3)))) (dRet (dVar 5)))))) := rfl
abbrev ME (T : Tr) (p p2 : Addr) (s3 s4 s5 : Option D) : DEnv := [some (Tr.d T), some (.ref p), some (.ref p2), s3, s4, s5]
theorem mpA_go {D0 : EndsD} {M : Mem} {T : Tr} {p p2 : Addr} {s3 s4 s5 : Option D} {ws : List (List Nat)} {st : List (List Nat × Tr)} {a : List Nat} {t : Tr} (ne : p ≠ p2) (h : MInv T ws (st ++ [(a, t)])) (hT : Tt T) (hc : T.cnt ≤ 60) (h1 : M p = some (.dct (mapK ws) (valsOf T ws))) (h2 : M p2 = some (.lst ((st ++ [(a, t)]).map pr)))
    (q : ∀ ws' st' M2 s3 s4, MInv T ws' st' → sumc st' < sumc (st ++ [(a, t)]) → M2 p = some (.dct (mapK ws') (valsOf T ws')) → M2 p2 = some (.lst (st'.map pr)) → (∀ c, c ≠ p → c ≠ p2 → M2 c = M c) → D0.nx (ME T p p2 s3 s4 s5) M2) : mpA D0 (ME T p p2 s3 s4 s5) M := by
  have hfr := h.fresh
  obtain ⟨hw, hs⟩ := h.hst (a, t) (by simp)
  have hcn := h.cnt
  rw [sumc_snoc] at hcn
  have hsl := sumc_len (xs := st)
  have hal : a.length ≤ 60 := Nat.le_trans (walk_dep hw) hT.2.2.1
  rw [List.map_append, List.map_cons, List.map_nil] at h2
  unfold mpA
  simp only [dSeq]
  refine ⟨_, rfl, tyM_l h2, pop_end h2 ⟨_, rfl, rfl, _, _, rfl, _, _, rfl, rfl, ?_⟩⟩
  simp only [gNm, put]
  have k1 : (mset M p2 (.lst (st.map pr))) p = some (.dct (mapK ws) (valsOf T ws)) := by rw [mset_ne ne]; exact h1
  have k2 : (mset M p2 (.lst (st.map pr))) p2 = some (.lst (st.map pr)) := mset_same
  have k3 : ∀ c, c ≠ p → c ≠ p2 → (mset M p2 (.lst (st.map pr))) c = M c := fun c _ hc => mset_ne hc
  generalize mset M p2 (.lst (st.map pr)) = M1 at k1 k2 k3
  have hput : ∀ {D1 : EndsD} {tv : DE}, (∀ R : RK, R (tagv t) M1 → tv (ME T p p2 (some (.str (mkS a))) (some t.d) s5) M1 R) → (∀ M2, M2 p = some (.dct (mapK (ws ++ [a])) (valsOf T (ws ++ [a]))) → M2 p2 = some (.lst (st.map pr)) → (∀ c, c ≠ p → c ≠ p2 → M2 c = M c) → D1.nx (ME T p p2 (some (.str (mkS a))) (some t.d) s5) M2) → dDPut (dVar 1) (dVar 3) tv D1 (ME T p p2 (some (.str (mkS a))) (some t.d) s5) M1 := fun {D1 tv} hv k => by
    obtain ⟨e1, e2⟩ := put_new (ds := valsOf T ws) (d := tagv t) (key_notin hfr)
    refine hv _ ⟨_, rfl, _, rfl, _, p, _, _, rfl, rfl, k1, by unfold valsOf; rw [List.length_map, sizeLine_eq]; omega, ?_⟩
    rw [e1, e2]
    have e3 : mapK ws ++ [Sum.inr (mkS a)] = mapK (ws ++ [a]) := by rw [mapK_app]; rfl
    have e4 : valsOf T ws ++ [tagv t] = valsOf T (ws ++ [a]) := by unfold valsOf; rw [List.map_append]; show _ = _ ++ [tagv (T.sub a)]; rw [show T.sub a = t from hs]
    rw [e3, e4]
    refine k _ mset_same (by rw [mset_ne ne.symm]; exact k2) fun c c1 c2 => by rw [mset_ne c1]; exact k3 c c1 c2
  cases t with
  | e =>
    refine hput (fun R r => ?_) fun M2 m1 m2 m3 => ?_
    · refine et_val (b := true) (fun R r => ⟨_, rfl, rfl, r⟩) _ fun b hb => ?_
      subst hb
      rw [if_pos rfl]
      exact r
    · refine ⟨_, rfl, tyM_l m2, ?_⟩
      refine et_val (b := false) (fun R r => ⟨_, rfl, rfl, r⟩) _ fun b hb => ?_
      subst hb
      rw [if_neg (by decide)]
      refine ⟨q_z0, p2, _, _, [], rfl, rfl, m2, .inl rfl, by rw [List.length_map, sizeLine_eq]; simp; omega, ?_⟩
      rw [List.append_nil, mset_self m2]
      refine q _ _ _ _ _ h.e (by rw [sumc_snoc]; show _ < _ + 1; omega) m1 m2 m3
  | n s l r =>
    have hd : (Tr.n s l r).d = .tup [.str s, l.d, r.d] := rfl
    refine hput (fun R r => ?_) fun M2 m1 m2 m3 => ?_
    · refine et_val (b := false) (fun R r => ⟨_, rfl, rfl, r⟩) _ fun b hb => ?_
      subst hb
      rw [if_neg (by decide)]
      exact ⟨_, rfl, 0, rfl, _, L2.atI_nat (j := 0) rfl, r⟩
    · refine ⟨_, rfl, tyM_l m2, ?_⟩
      refine et_val (b := true) (fun R r => ⟨_, rfl, rfl, r⟩) _ fun b hb => ?_
      subst hb
      rw [if_pos rfl]
      have hl : (mkS a).length ≤ 60 := by rw [mkS_len]; exact hal
      refine ⟨_, rfl, ⟨(show (mkS a).length + 1 ≤ sizeLine by rw [sizeLine_eq]; omega), _, rfl, 1, rfl, _, L2.atI_nat (j := 1) rfl, q_z2, ⟨_, rfl, (show (mkS a).length + 1 ≤ sizeLine by rw [sizeLine_eq]; omega), _, rfl, 2, rfl, _, L2.atI_nat (j := 2) rfl, q_z2, q_z2, ?_⟩⟩⟩
      refine ⟨p2, _, _, _, rfl, rfl, m2, .inl rfl, by rw [List.length_map, sizeLine_eq]; simp; omega, ?_⟩
      rw [mkS_l, mkS_r]
      have e : st.map pr ++ [D.tup [.str (mkS (a ++ [108])), l.d], D.tup [.str (mkS (a ++ [114])), r.d]] = (st ++ [(a ++ [108], l), (a ++ [114], r)]).map pr := by rw [List.map_append]; rfl
      rw [e]
      have hcn2 : (Tr.n s l r).cnt = 1 + l.cnt + r.cnt := rfl
      refine q _ _ _ _ _ h.n ?_ (by rw [mset_ne ne]; exact m1) mset_same fun c c1 c2 => by rw [mset_ne c2]; exact m3 c c1 c2
      rw [sumc_snoc, sumc_app]
      show sumc st + (l.cnt + (r.cnt + 0)) < sumc st + (Tr.n s l r).cnt
      omega
end
end Yk57

set_option Elab.async false
set_option linter.all false
set_option maxHeartbeats 4000000
set_option maxRecDepth 100000
namespace Yk57
open PySem PySem.Spec PyProof.Rows L2 DL
theorem ends_frzD {K : PySem.W.Frag} {M M2 : Mem} {R : RK} {p : Addr} {ks : List Key} {ds : List D} (X : ExtO M M2) (h0 : M p = none) (hp : M2 p = some (.dct ks ds)) (q : R (.dct ks ds) M) : (endsOf K R).rt (.ref p) M2 := by
  have x2 : ExtO M (mdel M2 p) := fun c => by
    by_cases e : c = p
    · subst e
      exact .inl (by rw [mdel_same, h0])
    · rw [mdel_ne e]
      exact X c
  refine .inr ⟨_, M, (View.dct hp).trans (View.mem x2.view fun c n => ?_), q⟩
  rcases x2 c with e | ⟨e, _⟩
  · rw [← e]; exact n
  · exact e
section
variable {P : Program} {w : World} {K : PySem.W.Frag} {mg : Str → Option Value} {base : Heap}
theorem h_map (G : Facts K mg) : Has P w K mg base CX0 "_law_map" s__law_map ["tree"] 1 sp_map := by
  refine has_view (k := 0) G.f__law_map sc__law_map (fun _ _ _ _ ⟨_, e, _⟩ => by rw [e]; rfl) (fun f cdv A outer s H E hr hG => p__law_map G cdv A outer s H E hr hG) fun ds M R XR ⟨T, e, hT, hc, q⟩ => ?_
  subst e
  show t__law_map (endsOf K R) [some T.d, none, none, none, none, none] M
  rw [map_eq]
  simp only [dSeq]
  refine (show dPar 1 2 _ _ _ M from ?_)
  simp only [dPar, dDict0M, dLstM, dTup, dCons, dNil, dVar, dC, slot, Option.some.injEq, exists_eq_left']
  refine fun p hp => ⟨q_z2, q_z1, fun p2 hp2 => ⟨_, _, rfl, ?_⟩⟩
  simp only [put]
  have ne : p ≠ p2 := fun e => by rw [← e, mset_same] at hp2; cases hp2
  have X0 : ExtO M (mset M p (.dct [] [])) := ExtO.refl.updD hp
  have hM2 : M p2 = none := X0.nn hp2
  have X1 : ExtO M (mset (mset M p (.dct [] [])) p2 (.lst [.tup [.str "", T.d]])) := X0.updL hM2
  have k1 : (mset (mset M p (.dct [] [])) p2 (.lst [.tup [.str "", T.d]])) p = some (.dct [] []) := by rw [mset_ne ne, mset_same]
  have k2 : (mset (mset M p (.dct [] [])) p2 (.lst [.tup [.str "", T.d]])) p2 = some (.lst [.tup [.str "", T.d]]) := mset_same
  generalize mset (mset M p (.dct [] [])) p2 (.lst [.tup [.str "", T.d]]) = M1 at X1 k1 k2
  have upX : ∀ {M2 M3 : Mem} {ks ds xs}, ExtO M M2 → M3 p = some (.dct ks ds) → M3 p2 = some (.lst xs) → (∀ c, c ≠ p → c ≠ p2 → M3 c = M2 c) → ExtO M M3 := fun {M2 M3 ks ds xs} X h1 h2 h3 c => by
    by_cases e : c = p
    · subst e; exact .inr ⟨hp, _, h1, trivial⟩
    · by_cases e2 : c = p2
      · subst e2; exact .inr ⟨hM2, _, h2, trivial⟩
      · rw [h3 c e e2]; exact X c
  refine ⟨fun m ρ2 M2 => (∃ s3 s4, ρ2 = ME T p p2 s3 s4 none) ∧ ExtO M M2 ∧ ∃ (ws : List (List Nat)) (st : List (List Nat × Tr)), MInv T ws st ∧ M2 p = some (.dct (mapK ws) (valsOf T ws)) ∧ M2 p2 = some (.lst (st.map pr)) ∧ m = sumc st,
    ⟨_, ⟨_, _, rfl⟩, X1, [], [([], T)], ⟨by simp, fun p hp => by simp at hp; subst hp; exact ⟨by cases T <;> rfl, by cases T <;> rfl⟩, by simp [sumc]⟩, k1, k2, rfl⟩, fun m ρ2 M2 ⟨⟨s3, s4, e⟩, X2, ws, st, inv, y1, y2, y3⟩ => ?_⟩
  subst e
  simp only [dTest, dOp, dLst, dNil, dVar, slot, Option.some.injEq, exists_eq_left']
  refine ⟨q_z0, _, .inr ⟨p2, rfl, y2⟩, rfl, _, rfl, ?_⟩
  rcases List.eq_nil_or_concat st with e | ⟨rest, x, e⟩
  · subst e
    simp only [List.map_nil, List.isEmpty_nil, Bool.not_true, Bool.false_eq_true, if_false]
    have hperm : ws.Perm (T.pl []) := by simpa using inv.perm
    refine fun p5 hp5 => ?_
    simp only [put]
    have ne5 : p ≠ p5 := fun e => by rw [← e, y1] at hp5; cases hp5
    have hM5 : M p5 = none := X2.nn hp5
    have key : (mset M2 p5 (.dct [] [])) p = some (.dct ((ws.map mkS).map .inr) (valsOf T ws)) := by
      rw [mset_ne ne5, y1]
      unfold mapK
      rw [List.map_map]
      rfl
    have hwl : ws.length = T.cnt := by rw [hperm.length_eq, Tr.pl_len]
    refine ⟨_, rfl, .ref p, ws.map mkS, valsOf T ws, rfl, .inr ⟨p, rfl, key⟩, by rw [List.length_map]; omega, fun ys hy1 hy2 => ?_⟩
    obtain rfl := sorted_plc (hy1.trans (hperm.map mkS)) (asc_of hy2)
    refine ⟨_, _, ⟨rfl, rfl⟩, fun i ρ3 M3 => (∃ s3 s4, ρ3 = ME T p p2 s3 s4 (some (.ref p5))) ∧ M3 = mset M2 p5 (.dct (mapK ((T.pl []).take i)) (valsOf T ((T.pl []).take i))), ⟨⟨_, _, rfl⟩, rfl⟩, fun i d ρ3 M3 hi ⟨⟨s3, s4, e1⟩, e2⟩ => ?_, fun ρ3 M3 ⟨⟨s3, s4, e1⟩, e2⟩ => ?_⟩
    · subst e1 e2
      refine ⟨trivial, ?_⟩
      unfold Tr.plc at hi
      rw [List.map_map, List.getElem?_map] at hi
      cases hw : (T.pl [])[i]? with
      | none => rw [hw] at hi; cases hi
      | some u =>
      rw [hw] at hi
      cases hi
      simp only [gNm, put]
      have hmem : u ∈ ws := hperm.mem_iff.mpr (List.mem_of_getElem? hw)
      have hil := (List.getElem?_eq_some_iff.mp hw).1
      rw [Tr.pl_len] at hil
      have hnot : u ∉ (T.pl []).take i := fun hm => by
        have nd := pl_nodup (T := T)
        have e : T.pl [] = (T.pl []).take i ++ (T.pl []).drop i := (List.take_append_drop i _).symm
        rw [e, List.nodup_append] at nd
        refine nd.2.2 u hm u ?_ rfl
        rw [List.mem_iff_getElem?]
        exact ⟨0, by rw [List.getElem?_drop]; simpa using hw⟩
      obtain ⟨e1, e2⟩ := put_new (ds := valsOf T ((T.pl []).take i)) (d := tagv (T.sub u)) (key_notin hnot)
      refine ⟨_, rfl, _, rfl, _, rfl, _, _, tagv (T.sub u), by rw [mset_ne ne5]; exact y1, dget_map (f := fun w => tagv (T.sub w)) hmem, ?_⟩
      refine ⟨_, rfl, _, rfl, _, p5, _, _, rfl, rfl, mset_same, by unfold valsOf; rw [List.length_map, List.length_take, sizeLine_eq]; omega, ?_⟩
      rw [mset_mset, e1, e2]
      refine ⟨⟨_, _, rfl⟩, ?_⟩
      have et : (T.pl []).take (i + 1) = (T.pl []).take i ++ [u] := by rw [List.take_add_one, hw]; rfl
      rw [et, mapK_app]
      unfold valsOf
      rw [List.map_append]
      rfl
    · subst e1 e2
      refine ⟨trivial, ?_⟩
      have el : ((T.plc []).map D.str).length = (T.pl []).length := by unfold Tr.plc; rw [List.length_map, List.length_map]
      rw [el, List.take_length]
      refine ⟨_, rfl, ends_frzD (X2.updD hM5) hM5 mset_same q⟩
  · rw [List.concat_eq_append] at e
    subst e
    obtain ⟨a, t⟩ := x
    have hne2 : ((rest ++ [(a, t)]).map pr).isEmpty = false := by simp
    rw [hne2]
    simp only [Bool.not_false, if_true]
    refine mpA_go ne inv hT hc y1 y2 fun ws' st' M3 s3 s4 i1 i2 i3 i4 i5 => ?_
    exact ⟨_, by rw [y3]; exact i2, ⟨_, _, rfl⟩, upX X2 i3 i4 i5, ws', st', i1, i3, i4, rfl⟩
def sp_pow : SpD := fun ds M R _ => ∃ b c : Nat, ds = [nI b, nI c] ∧ c ≤ 3 ∧ 1 ≤ b ∧ b ^ c ≤ 700 ∧ R (nI (b ^ c)) M
theorem h_pow (G : Facts K mg) : Has P w K mg base CX0 "_law_power" s__law_power ["base", "many"] 1 sp_pow := by
  refine has_plain (k := 0) G.f__law_power sc__law_power (fun _ _ _ _ ⟨_, _, e, _⟩ => by rw [e]; rfl) (fun f cdv A outer s H E hr hG => p__law_power G cdv A outer s H E hr hG) fun ds M R XR ⟨b, c, e, hc, hb, hl, q⟩ => ?_
  subst e
  show t__law_power { nx := fun _ M => R .non M, rt := R } [some (nI b), some (nI c), none, none] M
  simp only [t__law_power, dSeq]
  simp only [dSet, dC, put]
  refine go_for (G := fun _ => True) (fun i ρ2 M2 => M2 = M ∧ ∃ s3, ρ2 = [some (nI b), some (nI c), some (nI (b ^ i)), s3]) (it_rng (te := dVar 1) (m := c) (by omega) fun R h => ⟨_, rfl, h⟩) ⟨rfl, _, rfl⟩ (fun i d ρ2 M2 hi ⟨e1, s3, e2⟩ => ?_) (fun ρ2 M2 ⟨e1, s3, e2⟩ => ?_)
  · subst e1 e2
    obtain ⟨hi4, rfl⟩ := rng_at hi
    have hp : b ^ i ≤ 700 := Nat.le_trans (Nat.pow_le_pow_right hb (by omega)) hl
    refine ⟨trivial, _, rfl, _, rfl, ?_⟩
    refine q_op_ml.mpr ⟨cmul_l (by omega) (by omega), rfl, some (nI i), ?_⟩
    have : nI (b ^ (i + 1)) = .int (((b ^ i : Nat) : Int) * ((b : Nat) : Int)) := by
      rw [Nat.pow_succ]
      simp [nI]
    rw [this]
    rfl
  · subst e1 e2
    rw [List.length_map, List.length_range]
    exact ⟨trivial, _, rfl, q⟩
end
end Yk57

set_option Elab.async false
set_option linter.all false
set_option maxHeartbeats 4000000
set_option maxRecDepth 100000
namespace Yk57
open PySem PySem.Spec PyProof.Rows L2 DL
section
variable {P : Program} {w : World} {K : PySem.W.Frag} {mg : Str → Option Value} {base : Heap}
abbrev CE (z : D) (m : Mac) (T : Tr) (c : Nat) (p : Addr) (s9 s10 : Option D) : DEnv := [some (mD z m), some (Tr.d T), some (nI c), some (.str "tape"), some z, some (nI m.n), some (.tup (m.sts.map stD)), some (.dct (mapK (T.pl [])) (valsOf T (T.pl []))), some (.ref p), s9, s10]
/-- the sign of one place -/
theorem sign_go {ρ : DEnv} {M : Mem} {R : RK} {z : D} {tags : List Str} {i j : Nat} {t : Tr} (hi : slot ρ i = some (tagv t)) (hj : slot ρ j = some z) (hz : Zt z tags) (q : R (nI (signN tags t)) M) :
    dIf (dTest (dOp dIsN (dVar i) (dC .non))) (dC (.int 0)) (dIf (dTest (dOp dIn (dVar i) (dZv (dVar j)))) (dOp dAdd (dIndexZ (dVar j) (dCons (dVar i) dNil)) (dC (.int 1))) (dOp dAdd (dCB dLen (dCons (dZv (dVar j)) dNil)) (dC (.int 1)))) ρ M R := by
  cases t with
  | e =>
    refine et_val (b := true) (fun R r => ⟨_, hi, rfl, r⟩) _ fun b hb => ?_
    subst hb
    rw [if_pos rfl]
    exact q
  | n s l r =>
    refine et_val (b := false) (fun R r => ⟨_, hi, rfl, r⟩) _ fun b hb => ?_
    subst hb
    rw [if_neg (by decide)]
    have e0 : ∀ R : RK, R (.str s) M → dVar i ρ M R := fun R r => ⟨_, hi, r⟩
    have q' : R (.int ((if s ∈ tags then tags.idxOf s + 1 else tags.length + 1 : Nat) : Int)) M := q
    refine (show dIf _ _ _ ρ M R from ?_)
    refine et_val (b := decide (s ∈ tags)) (fun R r => in_tags e0 hj hz r) _ fun b hb => ?_
    subst hb
    by_cases h : s ∈ tags
    · rw [if_pos h] at q'
      rw [decide_eq_true h, if_pos rfl]
      exact idx_tags e0 hj hz h q'
    · rw [if_neg h] at q'
      rw [decide_eq_false h, if_neg (by decide)]
      exact len_tags hj hz q'
theorem h_lcells (G : Facts K mg) : Has P w K mg base CX0 "_law_cells" s__law_cells ["machine", "tree", "c"] 2 sp_cells := by
  refine has_view (k := 1) G.f__law_cells sc__law_cells (fun _ _ _ _ ⟨_, _, _, _, e, _⟩ => by rw [e]; rfl) (fun f cdv A outer s H E hr hG => p__law_cells G (h_map G) (h_pow G) cdv A outer s H E hr hG) fun ds M R XR ⟨z, m, T, c, e, hz, hm, hc, q⟩ => ?_
  subst e
  have hcnt := hc.cnt
  have hl := hc.l
  have hc1 := cnt_pos (t := T)
  have hk := hc.k
  have hL : (cellsL m T).length = T.cnt := cells_len
  show t__law_cells sp_map sp_pow (endsOf K R) [some (mD z m), some T.d, some (nI c), none, none, none, none, none, none, none, none] M
  simp only [t__law_cells, dSeq]
  refine ⟨_, rfl, _, rfl, rfl, _, _, rfl, _, _, rfl, _, _, rfl, _, _, rfl, rfl, ?_⟩
  simp only [gNm, put]
  refine ⟨_, rfl, T, rfl, hc.t, hk, q_z0, fun p hp => ⟨_, _, rfl, ?_⟩⟩
  simp only [put]
  have X0 : ∀ xs, ExtO M (mset M p (.lst xs)) := fun xs => ExtO.refl.updL hp
  refine ⟨mapK (T.pl []), valsOf T (T.pl []), rfl, fun i ρ2 M2 => (∃ s9 s10, ρ2 = CE z m T c p s9 s10) ∧ M2 = mset M p (.lst (((cellsL m T).take i).map nI)), ⟨⟨_, _, rfl⟩, rfl⟩, fun i d ρ2 M2 hi ⟨⟨s9, s10, e1⟩, e2⟩ => ?_, fun ρ2 M2 ⟨⟨s9, s10, e1⟩, e2⟩ => ?_⟩
  · subst e1 e2
    unfold mapK at hi
    rw [List.map_map, List.getElem?_map] at hi
    cases hw : (T.pl [])[i]? with
    | none => rw [hw] at hi; cases hi
    | some u =>
    rw [hw] at hi
    cases hi
    have hil := (List.getElem?_eq_some_iff.mp hw).1
    rw [Tr.pl_len] at hil
    simp only [gNm, put]
    refine ⟨_, rfl, _, rfl, _, rfl, tagv (T.sub u), dget_map (f := fun w => tagv (T.sub w)) (List.mem_of_getElem? hw), ?_⟩
    simp only [put]
    refine ⟨_, rfl, tyM_l mset_same, ?_⟩
    refine sign_go (t := T.sub u) rfl rfl hz ?_
    refine ⟨p, _, _, rfl, rfl, mset_same, by rw [List.length_map, List.length_take, sizeLine_eq]; omega, ?_⟩
    rw [mset_mset]
    refine ⟨⟨_, _, rfl⟩, ?_⟩
    have e : (cellsL m T)[i]? = some (signN m.tags (T.sub u)) := by unfold cellsL; rw [List.getElem?_map, hw]; rfl
    rw [List.take_add_one, e, List.map_append]
    rfl
  · subst e1 e2
    have el : (mapK (T.pl [])).length = (cellsL m T).length := by unfold mapK cellsL; rw [List.length_map, List.length_map]
    rw [el, List.take_length]
    dsimp only [dRet]
    refine pad_go (x := .ref p) (xs := cellsL m T) (fun R r => ⟨_, rfl, r⟩) (.inr ⟨p, rfl, mset_same⟩) hL hcnt hl (fun M2 R kp r => ⟨_, rfl, ?_⟩) (fun M2 R kp r => ⟨_, rfl, ?_⟩) fun p2 M3 h1 h2 X => .inl (q p2 M3 ((X0 _).nn h1) h2 ((X0 _).trans X))
    · refine ⟨_, rfl, _, kp p _ mset_same, _, rfl, T.cnt, c, ?_, hc.c3, hc1, hl, r⟩
      rw [List.length_map, hL]
    · refine ⟨_, rfl, _, kp p _ mset_same, ?_⟩
      rw [List.length_map, hL]
      exact r
abbrev LE (z : D) (m : Mac) (T : Tr) (c k : Nat) (p : Addr) (x : St) (s7 s8 s9 s10 : Option D) : DEnv := [some (mD z m), some (Tr.d T), some (nI c), some (nI k), some (.ref p), some (nI x.1), some (nI x.2.1), s7, s8, s9, s10]
theorem h_lstand (G : Facts K mg) : Has P w K mg base CX0 "_law_standing" s__law_standing ["machine", "tree", "c", "many"] 3 sp_stand := by
  refine has_view (k := 2) G.f__law_standing sc__law_standing (fun _ _ _ _ ⟨_, _, _, _, _, e, _⟩ => by rw [e]; rfl) (fun f cdv A outer s H E hr hG => p__law_standing G (h_lcells G) cdv A outer s H E hr hG) fun ds M R XR ⟨z, m, T, c, Kn, e, hz, hm, hc, hK, q⟩ => ?_
  subst e
  have hN := hc.l
  have hpos : 0 < T.cnt ^ c := Nat.pow_pos (cnt_pos (t := T))
  have hfl := full_len (m := m) hc
  have g0 := gd_ini hm hc
  show t__law_standing sp_cells (endsOf K R) [some (mD z m), some T.d, some (nI c), some (nI Kn), none, none, none, none, none, none, none] M
  simp only [t__law_standing, dSeq]
  refine ⟨_, rfl, _, rfl, _, rfl, z, m, T, c, rfl, hz, hm, hc, fun p M1 hp0 hp X => ⟨_, _, _, rfl, ?_⟩⟩
  simp only [put]
  have upd : ∀ x : St, ExtO M (mset M1 p (.lst (x.2.2.map nI))) := fun x => X.updL hp0
  have e0 : mset M1 p (.lst ((ini m T c).2.2.map nI)) = M1 := mset_self hp
  refine go_for (G := fun _ => True) (fun i ρ2 M2 => ∃ s7 s8 s9 s10, M2 = mset M1 p (.lst ((run m (ini m T c) i).2.2.map nI)) ∧ ρ2 = LE z m T c Kn p (run m (ini m T c) i) s7 s8 s9 s10) (it_rng (m := Kn) (by omega) fun R h => ⟨_, rfl, h⟩) ⟨_, _, _, _, e0.symm, rfl⟩ (fun i d ρ2 M2 hi ⟨s7, s8, s9, s10, e1, e2⟩ => ?_) (fun ρ2 M2 ⟨s7, s8, s9, s10, e1, e2⟩ => ?_)
  · subst e1 e2
    obtain ⟨hi4, rfl⟩ := rng_at hi
    have g := gd_run hm g0 i
    refine ⟨trivial, ?_⟩
    simp only [gNm, put]
    have e4 : run m (ini m T c) (i + 1) = stp m (run m (ini m T c) i) := rfl
    rw [e4]
    generalize hx : run m (ini m T c) i = x at g
    refine es_ifB (b := decide (x.1 < m.sts.length)) (et_val fun R r => ⟨_, rfl, ix_sts (m := m) (z := z) rfl ⟨_, rfl, ?_⟩⟩) (fun h => ?_) fun h => ?_
    · refine q_op_lt.mpr ?_
      rw [List.length_map]
      have : decide (((x.1 : Nat) : Int) < ((m.sts.length : Nat) : Int)) = decide (x.1 < m.sts.length) := by
        congr 1
        exact propext Int.ofNat_lt
      rw [this]
      exact r
    · have h := of_decide_eq_true h
      obtain ⟨row, v, r, wr⟩ := row_of hm g h
      refine (show dSeq _ _ _ _ _ from ?_)
      simp only [dSeq]
      refine rule_go (p := p) wr (fun R r => ix_sts (m := m) (z := z) rfl r) (fun R r => ⟨_, rfl, r⟩) (fun R r => ⟨_, rfl, r⟩) (fun R r => ⟨_, rfl, r⟩) mset_same ⟨_, rfl, rfl, _, _, rfl, _, _, rfl, _, _, rfl, rfl, ?_⟩
      simp only [gNm, put]
      refine ⟨_, rfl, _, rfl, _, rfl, p, _, _, x.2.1, rfl, rfl, mset_same, ixN_nat (by rw [List.length_map, g.l]; exact g.h), ?_⟩
      rw [mset_mset]
      refine ⟨_, rfl, _, rfl, _, mset_same, _, 1, rfl, rfl, ?_⟩
      refine ⟨_, rfl, _, rfl, _, _, rfl, _, _, rfl, ?_⟩
      rw [List.length_set, List.length_map, g.l, clamp_b (by omega)]
      refine ⟨_, rfl, _, _, rfl, ?_⟩
      have e3 : (List.map nI x.2.2).set x.2.1 (nI r.2.1) = (stp m x).2.2.map nI := by
        rw [wr.e, List.map_set]
      refine ⟨some (nI i), some (nI r.1), some (nI r.2.1), some (.int r.2.2), ?_, ?_⟩
      · rw [← e3]
      · rw [wr.e]
        rfl
    · have h := of_decide_eq_false h
      rw [stp_stop (by omega)]
      exact ⟨_, _, _, _, rfl, rfl⟩
  · subst e1 e2
    refine ⟨trivial, ?_⟩
    rw [List.length_map, List.length_range]
    refine ⟨_, rfl, _, rfl, _, rfl, _, _, rfl, .inr (.inr ⟨p, rfl, mset_same⟩), q_z3, (upd _).ends ?_⟩
    exact q
theorem h_loutc (G : Facts K mg) : Has P w K mg base CX0 "_law_outcome" s__law_outcome ["machine", "tree", "c"] 4 sp_outc := by
  refine has_view (k := 3) G.f__law_outcome sc__law_outcome (fun _ _ _ _ ⟨_, _, _, _, e, _⟩ => by rw [e]; rfl) (fun f cdv A outer s H E hr hG => p__law_outcome G ((h_lcells G).mono (by decide)) (h_lstand G) cdv A outer s H E hr hG) fun ds M R XR ⟨z, m, T, c, e, hz, hm, hc, q⟩ => ?_
  subst e
  have hN := hc.l
  have hpos : 0 < T.cnt ^ c := Nat.pow_pos (cnt_pos (t := T))
  have hfl := full_len (m := m) hc
  show t__law_outcome sp_cells sp_stand (endsOf K R) [some (mD z m), some T.d, some (nI c), none] M
  simp only [t__law_outcome, dSeq]
  refine ⟨_, rfl, _, rfl, _, rfl, z, m, T, c, rfl, hz, hm, hc, fun p M1 hp0 hp X => ⟨_, rfl, _, hp, ?_⟩⟩
  rw [List.length_map, hfl]
  simp only [put]
  dsimp only [dRet]
  refine eq_sts (x := run m (ini m T c) (T.cnt ^ c - 1)) (z := z) (m := m) rfl (fun R r => ⟨_, rfl, _, rfl, _, rfl, _, rfl, _, 1, rfl, rfl, z, m, T, c, T.cnt ^ c - 1, ?_, hz, hm, hc, by omega, r⟩) (X.ends q)
  have : ((((T.cnt ^ c : Nat) : Int)) - 1) = ((T.cnt ^ c - 1 : Nat) : Int) := by omega
  show [mD z m, T.d, nI c, D.int ((((T.cnt ^ c : Nat) : Int)) - 1)] = _
  rw [this]
end
end Yk57

set_option Elab.async false
set_option linter.all false
set_option maxHeartbeats 4000000
set_option maxRecDepth 100000
namespace Yk57
open PySem PySem.Spec PyProof.Rows L2 DL
/-! ### tags drawn -/
theorem join_p (p : Nat → Bool) : ∀ (ys : List Str), (∀ y ∈ ys, y.cps.toList.all p = true ∧ y.length = 1) → (Str.join ⟨#[]⟩ ys).cps.toList.all p = true ∧ (Str.join ⟨#[]⟩ ys).length = ys.length
  | [], _ => ⟨rfl, rfl⟩
  | y :: ys, h => by
    obtain ⟨a1, a2⟩ := h y (by simp)
    obtain ⟨b1, b2⟩ := join_p p ys fun z hz => h z (by simp [hz])
    rw [PyProof.Rows.join_nil_cons, Str.length_append, a2, b2]
    refine ⟨?_, by simp; omega⟩
    rw [Str.cps_append, Array.toList_append, List.all_append, a1, b1]
    rfl
theorem tag_of {t : Str} (h1 : 1 ≤ t.length) (h2 : t.length ≤ 8) (h3 : t.cps.toList.all (fun c => signIn c small) = true) : isTag (.str t) = true := by
  show (decide (1 ≤ (t.length : Int)) && decide ((t.length : Int) ≤ 8) && t.cps.toList.all fun c => signIn c small) = true
  rw [decide_eq_true (by omega), decide_eq_true (by omega), h3]
  rfl
def four : List Str := ["yes", "top", "fun", "zz"]
theorem four_ok : ∀ s ∈ four, isTag (.str s) = true := by decide +kernel
theorem four_nd : four.Nodup := by decide +kernel
theorem sub_len : ∀ (a b : List Str), a.Nodup → a ⊆ b → a.length ≤ b.length
  | [], b, _, _ => Nat.zero_le _
  | x :: a, b, hn, hs => by
    obtain ⟨h1, h2⟩ := List.nodup_cons.mp hn
    have hx : x ∈ b := hs (by simp)
    have ih := sub_len a (b.erase x) h2 fun y hy => (List.mem_erase_of_ne (a := y) (b := x) (fun e => h1 (by rw [← e]; exact hy))).mpr (hs (by simp [hy]))
    have := List.length_erase_of_mem hx
    have := List.length_pos_of_mem hx
    rw [List.length_cons]
    omega
theorem spare_some {tag : Str} {tags : List Str} (h : tags.length ≤ 3) : ∃ x, ((tag :: four).filter fun s => !decide (s ∈ tags)).head? = some x ∧ x ∈ tag :: four ∧ x ∉ tags := by
  cases e : (tag :: four).filter fun s => !decide (s ∈ tags) with
  | cons x r =>
    have hm : x ∈ (tag :: four).filter fun s => !decide (s ∈ tags) := by rw [e]; simp
    obtain ⟨h1, h2⟩ := List.mem_filter.mp hm
    exact ⟨x, rfl, h1, by simpa using h2⟩
  | nil =>
    exfalso
    rw [List.filter_eq_nil_iff] at e
    have hs : four ⊆ tags := fun s hs => by simpa using e s (List.mem_cons_of_mem _ hs)
    have := sub_len four tags four_nd hs
    have e4 : four.length = 4 := rfl
    omega
theorem notIn_tags {M : Mem} {R : RK} {x : Str} {p : Addr} {tags : List Str} (hm : M p = some (.lst (tags.map .str))) (q : R (.bl (!decide (x ∈ tags))) M) : dNotIn (.str x) (.ref p) M R := ⟨_, ⟨rfl, _, .inr (.inr ⟨p, rfl, hm⟩), flat_strs, rfl⟩, by rw [inF_strs]; exact q⟩
theorem lets_small : ∀ c ∈ ("abcdefghijklmnopqrstuvwxyz" : Str).cps.toList, signIn c small = true := by decide +kernel
theorem strs_of {acc : List D} (hC : ∀ y ∈ acc, ∃ c : Nat, signIn c small = true ∧ y = .str ⟨#[c]⟩) : ∃ ys : List Str, acc = ys.map .str ∧ ∀ y ∈ ys, y.cps.toList.all (fun c => signIn c small) = true ∧ y.length = 1 := by
  induction acc with
  | nil => exact ⟨[], rfl, by simp⟩
  | cons x acc ih =>
    obtain ⟨ys, e, h⟩ := ih fun y hy => hC y (by simp [hy])
    obtain ⟨c, hc, rfl⟩ := hC x (by simp)
    refine ⟨⟨#[c]⟩ :: ys, by rw [e]; rfl, fun y hy => ?_⟩
    rcases List.mem_cons.mp hy with rfl | hy
    · exact ⟨by simp [hc], rfl⟩
    · exact h y hy
theorem sum_ones {ys : List Str} (h : ∀ y ∈ ys, y.length = 1) : (ys.map (·.length)).sum ≤ ys.length := by
  induction ys with
  | nil => simp
  | cons y ys ih =>
    have := h y (by simp)
    have := ih fun z hz => h z (by simp [hz])
    simp
    omega
section
variable {P : Program} {w : World} {K : PySem.W.Frag} {mg : Str → Option Value} {base : Heap}
def sp_tags : SpD := fun ds M R _ => ∃ a, ∃ k : Nat, ds = [.ref a, nI k] ∧ Deck M a ∧ k ≤ 3 ∧ ∀ z tags, Zt z tags → TagsOk tags → tags.length = k → R z M
theorem h_tags (G : Facts K mg) : Has P w K mg base CX0 "_law_tags" s__law_tags ["deck", "many"] 3 sp_tags := by
  refine has_view (k := 2) G.f__law_tags sc__law_tags (fun _ _ _ _ ⟨_, _, e, _⟩ => by rw [e]; rfl) (fun f cdv A outer s H E hr hG => p__law_tags G (h_pick G) cdv A outer s H E hr hG) fun ds M R XR ⟨a, k, e, hd, hk, q⟩ => ?_
  subst e
  show t__law_tags sp_pick (endsOf K R) [some (.ref a), some (nI k), none, none, none, none, none, none, none] M
  simp only [t__law_tags, dSeq]
  refine ⟨q_z0, fun p hp => ?_⟩
  simp only [put]
  have X : ∀ tags, ExtO M (mset M p (.lst (List.map D.str tags))) := fun tags => ExtO.refl.updL hp
  refine go_for (G := fun _ => True) (fun i ρ2 M2 => ∃ s3 s4 s5 s6, ρ2 = [some (.ref a), some (nI k), some (.ref p), s3, s4, s5, s6, none, none] ∧ ∃ tags, M2 = mset M p (.lst (List.map D.str tags)) ∧ tags.length = i ∧ TagsOk tags) (it_rng (te := dVar 1) (m := k) (by omega) fun R h => ⟨_, rfl, h⟩) ⟨_, _, _, _, rfl, [], rfl, rfl, by simp, by simp, by simp⟩ (fun i d ρ2 M2 hi ⟨s3, s4, s5, s6, e1, tags, e2, hl, hg⟩ => ?_) (fun ρ2 M2 ⟨s3, s4, s5, s6, e1, tags, e2, hl, hg⟩ => ?_)
  · subst e1 e2
    obtain ⟨hi4, rfl⟩ := rng_at hi
    refine ⟨trivial, ?_⟩
    simp only [gNm, put]
    have hd2 := (X tags).deck hd
    refine es_set (P := fun d => ∃ n : Nat, d = nI n ∧ 1 ≤ n ∧ n ≤ 8) (ev_pick hd2 rfl (ea_cons (ev_c ⟨1, rfl, by decide⟩) (ea_cons (ev_c ⟨2, rfl, by decide⟩) (ea_cons (ev_c ⟨1, rfl, by decide⟩) (ea_cons (ev_c ⟨8, rfl, by decide⟩) (ea_cons (ev_c ⟨4, rfl, by decide⟩) ea_nil)))))) fun d ⟨n, e, n1, n8⟩ => ?_
    subst e
    simp only [put]
    refine ⟨.inl ⟨rfl, _, rfl⟩, ?_⟩
    refine go_some (items := (List.range n).map fun i => nI i) (G := fun _ => True) (fun y => ∃ c : Nat, signIn c small = true ∧ y = .str ⟨#[c]⟩) (it_rng (te := dVar 4) (m := n) (by omega) fun R h => ⟨_, rfl, h⟩) (by simp [sizeLine_eq]; omega) trivial (fun d hd' Rt h => ?_) (fun acc hacc hC => ?_)
    · exact ⟨_, rfl, a, _, rfl, hd2, .inr ⟨_, rfl, by decide, by decide, fun c hc => h _ ⟨c, lets_small c hc, rfl⟩⟩⟩
    · obtain ⟨ys, rfl, hys⟩ := strs_of hC
      have hyl : ys.length = n := by simpa using hacc
      obtain ⟨j1, j2⟩ := join_p (fun c => signIn c small) ys hys
      refine ⟨"", _, ys, rfl, rfl, .inl (.inl rfl), ?_, ?_⟩
      · have := sum_ones fun y hy => (hys y hy).2
        have e0 : ("" : Str).length = 0 := rfl
        rw [e0]
        omega
      · have ej : Txt.join "" ys = Str.join ⟨#[]⟩ ys := TL.join_eq _ _
        rw [← ej] at j1 j2
        generalize Txt.join ("" : Str) ys = tag at j1 j2
        have htag := tag_of (t := tag) (by omega) (by omega) j1
        simp only [put, dSeq, dSet]
        refine go_lc (items := (tag :: four).map .str) (G := fun _ => True) (fun d => match d with | .str s => !decide (s ∈ tags) | _ => false) id (fun Q h => it_val (d := .tup ((tag :: four).map .str)) (fun R h => ⟨_, rfl, q_z5, h⟩) ⟨rfl, rfl⟩ h) (show 5 ≤ sizeLine from q_z5) trivial (fun d hd' Rt Rf h h' => ?_) ?_
        · obtain ⟨s, hs, rfl⟩ := List.mem_map.mp hd'
          refine ⟨_, rfl, _, rfl, notIn_tags mset_same ⟨_, rfl, ?_⟩⟩
          by_cases e : s ∈ tags
          · rw [decide_eq_true e]
            exact h' (by show (!decide (s ∈ tags)) = false; rw [decide_eq_true e]; rfl)
          · rw [decide_eq_false e]
            exact ⟨_, rfl, h (by show (!decide (s ∈ tags)) = true; rw [decide_eq_false e]; rfl)⟩
        · rw [List.map_id]
          obtain ⟨x, hx, hm, hn⟩ := spare_some (tag := tag) (tags := tags) (by omega)
          have ef : ((tag :: four).map D.str).filter (fun d => match d with | .str s => !decide (s ∈ tags) | _ => false) = ((tag :: four).filter fun s => !decide (s ∈ tags)).map .str := by
            rw [List.filter_map]
            rfl
          rw [ef]
          have hxt : isTag (.str x) = true := by
            rcases List.mem_cons.mp hm with rfl | h
            · exact htag
            · exact four_ok x h
          refine ⟨_, rfl, tyM_l mset_same, _, rfl, 0, rfl, .str x, L2.atI_nat (j := 0) (by rw [List.getElem?_map, ← List.head?_eq_getElem?, hx]; rfl), ?_⟩
          refine ⟨p, _, _, rfl, rfl, mset_same, by rw [List.length_map, sizeLine_eq]; omega, ?_⟩
          rw [mset_mset]
          refine ⟨_, _, _, _, rfl, tags ++ [x], by rw [List.map_append]; rfl, by rw [List.length_append, hl]; rfl, fun t ht => ?_, ?_, by rw [List.length_append]; show tags.length + 1 ≤ 10; omega⟩
          · rcases List.mem_append.mp ht with h | h
            · exact hg.t t h
            · simp at h
              subst h
              exact hxt
          · rw [List.nodup_append]
            exact ⟨hg.nd, by simp, fun a ha b hb e => by simp at hb; subst hb e; exact hn ha⟩
  · subst e1 e2
    refine ⟨trivial, ?_⟩
    rw [List.length_map, List.length_range] at hl
    exact ⟨_, rfl, _, _, rfl, .inr ⟨p, rfl, mset_same⟩, fun b o vs ho => (X tags).ends (q _ tags ⟨b, o, vs, rfl, ho⟩ hg hl)⟩
end
end Yk57

set_option Elab.async false
set_option linter.all false
set_option maxHeartbeats 4000000
set_option maxRecDepth 100000
namespace Yk57
open PySem PySem.Spec PyProof.Rows L2 DL
section
variable {ρ : DEnv} {M : Mem}
theorem et_eqI {i : Nat} {x j : Int} (e : slot ρ i = some (.int x)) : EvT (dTest (dOp dEq (dVar i) (dC (.int j)))) ρ M (· = decide (x = j)) := et_val fun R r => ⟨_, e, q_eq_int.mpr r⟩
theorem ev_drawV {a : Addr} {i : Nat} {k : Nat} (hd : Deck M a) {z : Nat} (e : slot ρ z = some (.ref a)) (h : slot ρ i = some (.int ((k : Nat) : Int))) (h0 : 0 < k) (h1 : k ≤ 1000) : Ev (dCall sp_draw (dCons (dVar z) (dCons (dVar i) dNil))) ρ M fun d => ∃ j : Nat, d = .int ((j : Nat) : Int) ∧ j < k := fun R r =>
  ⟨_, e, _, h, draw_go hd (by omega) (by omega) fun i i0 i1 => by
    obtain ⟨j, rfl⟩ := Int.eq_ofNat_of_zero_le i0
    exact r _ ⟨j, rfl, by omega⟩⟩
theorem ev_drawN {a : Addr} {k : Nat} (hd : Deck M a) {z : Nat} (e : slot ρ z = some (.ref a)) (h0 : 0 < k := by decide) (h1 : k ≤ 1000 := by decide) : Ev (dCall sp_draw (dCons (dVar z) (dCons (dC (.int ((k : Nat) : Int))) dNil))) ρ M fun d => ∃ j : Nat, d = .int ((j : Nat) : Int) ∧ j < k := fun R r =>
  ⟨_, e, draw_go hd (by omega) (by omega) fun i i0 i1 => by
    obtain ⟨j, rfl⟩ := Int.eq_ofNat_of_zero_le i0
    exact r _ ⟨j, rfl, by omega⟩⟩
end
section
variable {P : Program} {w : World} {K : PySem.W.Frag} {mg : Str → Option Value} {base : Heap}
/-! ### trees drawn -/
structure Dr (k : Nat) (t : Tr) : Prop where
  ok : t.ok = true
  c : t.cnt = 2 * k + 1
  d : t.dep ≤ k
  w : wt t.d ≤ 11 * k
def sp_ltree (n : Nat) : SpD := fun ds M R _ => ∃ a, ∃ k : Nat, ∃ tags : List Str, ds = [.ref a, nI k, .tup (tags.map .str)] ∧ Deck M a ∧ k ≤ n ∧ n ≤ 100 ∧ tags ≠ [] ∧ tags.length ≤ 100 ∧ (∀ t ∈ tags, isTag (.str t) = true) ∧ ∀ t, Dr k t → R t.d M
theorem tag_len {t : Str} (h : isTag (.str t) = true) : t.length ≤ 8 := by
  have h' : (decide (1 ≤ (t.length : Int)) && decide ((t.length : Int) ≤ 8) && t.cps.toList.all fun c => signIn c small) = true := h
  rw [Bool.and_eq_true, Bool.and_eq_true, decide_eq_true_eq, decide_eq_true_eq] at h'
  omega
theorem dr_n {s : Str} {l r : Tr} {i j k : Nat} (hs : isTag (.str s) = true) (h1 : Dr i l) (h2 : Dr j r) (e : k = i + j + 1) : Dr k (.n s l r) := by
  have := h1.c
  have := h2.c
  have := h1.d
  have := h2.d
  have := h1.w
  have := h2.w
  have := tag_len hs
  subst e
  refine ⟨?_, ?_, ?_, ?_⟩
  · show (isTag (.str s) && l.ok && r.ok) = true
    rw [hs, h1.ok, h2.ok]
    rfl
  · show 1 + l.cnt + r.cnt = _
    omega
  · show max l.dep r.dep + 1 ≤ _
    omega
  · show (s.length + 1) + ((wt l.d + 1) + ((wt r.d + 1) + 0)) ≤ _
    omega
theorem rd_ltree {sp : SpD} {M : Mem} {R : RK} {a : Addr} {k : Nat} {tags : List Str} (hd : Deck M a) (hk : k ≤ 100) (h0 : tags ≠ []) (hl : tags.length ≤ 100) (ht : ∀ t ∈ tags, isTag (.str t) = true) (q : ∀ t, Dr k t → R t.d M)
    (hS : ∀ (j : Nat) (R : RK), j < k → (∀ t, Dr j t → R t.d M) → sp [.ref a, nI j, .tup (tags.map .str)] M R noX) : t__law_tree sp_draw sp_pick sp { nx := fun _ M => R .non M, rt := R } [some (.ref a), some (nI k), some (.tup (tags.map .str)), none] M := by
  simp only [t__law_tree, dSeq]
  refine es_ifB (et_eqI rfl) (fun h => ?_) fun h => ?_
  · have h := of_decide_eq_true h
    exact q .e ⟨rfl, by show 1 = _; omega, by show 0 ≤ _; omega, by show 0 ≤ _; omega⟩
  · have h := of_decide_eq_false h
    simp only [dNext]
    refine es_set (ev_drawV hd rfl rfl (by omega) (by omega)) fun d ⟨j, e, hj⟩ => ?_
    subst e
    simp only [put]
    refine ⟨_, rfl, _, rfl, a, _, rfl, hd, .inl ⟨tags.map .str, .inr (.inl rfl), by simpa using h0, by rw [List.length_map]; omega, fun d hdm => ?_⟩⟩
    obtain ⟨s, hs, rfl⟩ := List.mem_map.mp hdm
    refine ⟨_, rfl, _, rfl, _, rfl, hS j _ hj fun l hl' => ?_⟩
    refine ⟨_, rfl, _, rfl, ⟨_, 1, rfl, rfl, _, rfl, _, _, rfl, rfl, _, rfl, ?_⟩⟩
    have e : (((k : Nat) : Int) - 1 - ((j : Nat) : Int)) = ((k - 1 - j : Nat) : Int) := by omega
    dsimp only
    rw [e]
    refine hS (k - 1 - j) _ (by omega) fun r hr => ⟨q_z3, ?_⟩
    exact q (.n s l r) (dr_n (ht s hs) hl' hr (by omega))
theorem h_ltree (G : Facts K mg) : ∀ n : Nat, Has P w K mg base CX0 "_law_tree" s__law_tree ["deck", "nodes", "tags"] (3 + n) (sp_ltree n)
  | 0 => by
    have no : Has P w K mg base CX0 "_law_tree" s__law_tree ["deck", "nodes", "tags"] 1 (fun _ _ _ _ => False) :=
      has_plain G.f__law_tree sc__law_tree (fun _ _ _ _ h => h.elim) (fun f cdv A outer s H E hr hG => db_cons ds_never (db_cons ds_never (db_one ds_never))) fun ds M R XR h => h.elim
    refine has_plain (k := 2) G.f__law_tree sc__law_tree (fun _ _ _ _ ⟨_, _, _, e, _⟩ => by rw [e]; rfl) (fun f cdv A outer s H E hr hG => p__law_tree G ((h_draw G).mono (by decide)) (h_pick G) (no.mono (by decide)) cdv A outer s H E hr hG) fun ds M R XR ⟨a, k, tags, e, hd, hk, hn, h0, hl, ht, q⟩ => ?_
    subst e
    exact rd_ltree hd (by omega) h0 hl ht q fun j R hj => absurd hj (by omega)
  | n + 1 => by
    refine has_plain (k := 3 + n) G.f__law_tree sc__law_tree (fun _ _ _ _ ⟨_, _, _, e, _⟩ => by rw [e]; rfl) (fun f cdv A outer s H E hr hG => p__law_tree G ((h_draw G).mono (by omega)) ((h_pick G).mono (by omega)) (h_ltree G n) cdv A outer s H E hr hG) fun ds M R XR ⟨a, k, tags, e, hd, hk, hn, h0, hl, ht, q⟩ => ?_
    subst e
    exact rd_ltree hd (by omega) h0 hl ht q fun j R hj qj => ⟨a, j, tags, rfl, hd, by omega, by omega, h0, hl, ht, qj⟩
/-! ### machines with accepting and refusing exchanged -/
def exR (k : Nat) (r : Rule) : Rule := (if k ≤ r.1 then 2 * k + 1 - r.1 else r.1, r.2.1, r.2.2)
def exch (m : Mac) : Mac := ⟨m.tags, m.n, m.sts.map fun s => s.map (exR m.sts.length)⟩
theorem exch_ok {m : Mac} (h : MacOk m) : MacOk (exch m) := by
  have el : (exch m).sts.length = m.sts.length := List.length_map ..
  refine ⟨h.t, h.n2, h.n5, by rw [el]; exact h.s1, by rw [el]; exact h.s4, fun s hs => ?_⟩
  obtain ⟨s0, hs0, rfl⟩ := List.mem_map.mp hs
  obtain ⟨h1, h2⟩ := h.s s0 hs0
  refine ⟨by rw [List.length_map]; exact h1, fun r hr => ?_⟩
  obtain ⟨r0, hr0, rfl⟩ := List.mem_map.mp hr
  obtain ⟨a, b, c⟩ := h2 r0 hr0
  rw [el]
  refine ⟨?_, b, c⟩
  show (if m.sts.length ≤ r0.1 then 2 * m.sts.length + 1 - r0.1 else r0.1) ≤ m.sts.length + 1
  split <;> omega
def sp_exch : SpD := fun ds M R _ => ∃ z m, ds = [mD z m] ∧ MacOk m ∧ R (mD z (exch m)) M
theorem h_exch (G : Facts K mg) : Has P w K mg base CX0 "_law_exchanged" s__law_exchanged ["machine"] 1 sp_exch := by
  refine has_view (k := 0) G.f__law_exchanged sc__law_exchanged (fun _ _ _ _ ⟨_, _, e, _⟩ => by rw [e]; rfl) (fun f cdv A outer s H E hr hG => p__law_exchanged G cdv A outer s H E hr hG) fun ds M R XR ⟨z, m, e, hm, q⟩ => ?_
  subst e
  have hs4 := hm.s4
  show t__law_exchanged (endsOf K R) [some (mD z m), none, none, none, none, none, none, none, none, none, none] M
  simp only [t__law_exchanged, dSeq]
  refine ⟨_, rfl, _, rfl, rfl, _, _, rfl, _, _, rfl, _, _, rfl, _, _, rfl, rfl, ?_⟩
  simp only [gNm, put]
  refine ⟨_, rfl, _, rfl, q_z0, fun p hp => ⟨q_z2, _, rfl, rfl, _, _, rfl, _, _, rfl, rfl, ?_⟩⟩
  simp only [gNm, put]
  have X : ∀ xs, ExtO M (mset M p (.lst xs)) := fun xs => ExtO.refl.updL hp
  rw [List.length_map]
  refine go_for (items := m.sts.map stD) (G := fun _ => True) (fun i ρ2 M2 => ∃ s7, ρ2 = [some (mD z m), some (.str "tape"), some z, some (nI m.n), some (.tup (m.sts.map stD)), some (nI m.sts.length), some (.ref p), s7, none, none, none] ∧ M2 = mset M p (.lst (((m.sts.take i).map fun s => s.map (exR m.sts.length)).map stD))) (fun Q h => it_val (d := .tup (m.sts.map stD)) (fun R h => ⟨_, rfl, h⟩) ⟨rfl, rfl⟩ h) ⟨_, rfl, rfl⟩ (fun i d ρ2 M2 hi ⟨s7, e1, e2⟩ => ?_) (fun ρ2 M2 ⟨s7, e1, e2⟩ => ?_)
  · subst e1 e2
    refine ⟨trivial, ?_⟩
    rw [List.getElem?_map] at hi
    cases hs : m.sts[i]? with
    | none => rw [hs] at hi; cases hi
    | some s =>
    rw [hs] at hi
    cases hi
    obtain ⟨h1, h2⟩ := hm.s s (List.mem_of_getElem? hs)
    have hil := (List.getElem?_eq_some_iff.mp hs).1
    simp only [gNm, put]
    refine ⟨_, rfl, tyM_l mset_same, ?_⟩
    simp only [dCB, dCons, dNil]
    refine go_map (items := s.map ruleD) (G := fun _ => True) (fun d => match d with | .tup [.int x, y, v] => .tup [.int (if ((m.sts.length : Nat) : Int) ≤ x then 2 * ((m.sts.length : Nat) : Int) + 1 - x else x), y, v] | d => d) (fun Q h => it_val (d := stD s) (fun R h => ⟨_, rfl, h⟩) ⟨rfl, rfl⟩ h) (by rw [List.length_map, h1, sizeLine_eq]; have := hm.n5; omega) trivial (fun d hd Rt h => ?_) ?_
    · obtain ⟨r, hr, rfl⟩ := List.mem_map.mp hd
      have h' : Rt (.tup [.int (if ((m.sts.length : Nat) : Int) ≤ ((r.1 : Nat) : Int) then 2 * ((m.sts.length : Nat) : Int) + 1 - ((r.1 : Nat) : Int) else ((r.1 : Nat) : Int)), .int ((r.2.1 : Nat) : Int), .int r.2.2]) _ := h
      refine ⟨_, rfl, rfl, _, _, rfl, _, _, rfl, _, _, rfl, rfl, ?_⟩
      simp only [gNm, put, dwipe, List.set]
      refine et_val (b := decide (((m.sts.length : Nat) : Int) ≤ ((r.1 : Nat) : Int))) (fun R r => ⟨_, rfl, _, rfl, q_op_ge.mpr r⟩) _ fun b hb => ?_
      subst hb
      by_cases hc : ((m.sts.length : Nat) : Int) ≤ ((r.1 : Nat) : Int)
      · rw [if_pos hc] at h'
        rw [decide_eq_true hc, if_pos rfl]
        refine ⟨_, rfl, ?_⟩
        refine q_op_ml.mpr ⟨cmul_l (by decide) (by decide), _, rfl, ⟨_, _, rfl, rfl, ?_⟩⟩
        exact ⟨_, rfl, _, rfl, q_z3, h'⟩
      · rw [if_neg hc] at h'
        rw [decide_eq_false hc, if_neg (by decide)]
        exact ⟨_, rfl, _, rfl, _, rfl, q_z3, h'⟩
    · refine ⟨_, _, rfl, .inr (.inl rfl), ?_⟩
      refine ⟨p, _, _, rfl, rfl, mset_same, by rw [List.length_map, List.length_map, List.length_take, sizeLine_eq]; omega, ?_⟩
      rw [mset_mset]
      refine ⟨_, rfl, ?_⟩
      have e : (s.map ruleD).map (fun d => match d with | .tup [.int x, y, v] => D.tup [.int (if ((m.sts.length : Nat) : Int) ≤ x then 2 * ((m.sts.length : Nat) : Int) + 1 - x else x), y, v] | d => d) = (s.map (exR m.sts.length)).map ruleD := by
        rw [List.map_map, List.map_map]
        refine List.map_congr_left fun r hr => ?_
        obtain ⟨a, b, c⟩ := h2 r hr
        have e2 : (if ((m.sts.length : Nat) : Int) ≤ ((r.1 : Nat) : Int) then 2 * ((m.sts.length : Nat) : Int) + 1 - ((r.1 : Nat) : Int) else ((r.1 : Nat) : Int)) = (((if m.sts.length ≤ r.1 then 2 * m.sts.length + 1 - r.1 else r.1 : Nat)) : Int) := by
          split <;> split <;> omega
        show D.tup [.int (if ((m.sts.length : Nat) : Int) ≤ ((r.1 : Nat) : Int) then 2 * ((m.sts.length : Nat) : Int) + 1 - ((r.1 : Nat) : Int) else ((r.1 : Nat) : Int)), .int ((r.2.1 : Nat) : Int), .int r.2.2] = _
        rw [e2]
        rfl
      rw [e, List.take_add_one, hs, List.map_append, List.map_append]
      rfl
  · subst e1 e2
    refine ⟨trivial, ?_⟩
    rw [List.length_map, List.take_length]
    refine ⟨_, rfl, _, rfl, _, rfl, _, rfl, _, _, rfl, .inr (.inr ⟨p, rfl, mset_same⟩), (show 4 ≤ sizeLine by rw [sizeLine_eq]; decide), (X _).ends ?_⟩
    exact q
end
end Yk57

set_option Elab.async false
set_option linter.all false
set_option maxHeartbeats 4000000
set_option maxRecDepth 100000
namespace Yk57
open PySem PySem.Spec PyProof.Rows L2 DL
section
variable {P : Program} {w : World} {K : PySem.W.Frag} {mg : Str → Option Value} {base : Heap}
/-! ### machines drawn -/
def sp_tape : SpD := fun ds M R _ => ∃ a, ds = [.ref a, nI 4] ∧ Deck M a ∧ ∀ z m, Zt z m.tags → MacOk m → R (mD z m) M
abbrev TE (a : Addr) (z : D) (n k : Nat) (p : Addr) (s6 s7 s8 s9 : Option D) : DEnv := [some (.ref a), some (nI 4), some z, some (nI n), some (nI k), some (.ref p), s6, s7, s8, s9]
def tpI : DS := (dSeq (dSet 9 (dCall sp_pick (dCons (dVar 0) (dCons (dLst (dCons (dCall sp_draw (dCons (dVar 0) (dCons (dOp dAdd (dVar 4) (dC (.int 2))) dNil))) (dCons (dVar 6) (dCons (dVar 4) (dCons (dCall sp_draw (dCons (dVar 0) (dCons (dVar 4) dNil))) dNil))))) dNil)))) (dDrop (dMeth "list" dAppend (dVar 7) (dCons (dTup (dCons (dVar 9) (dCons (dCall sp_pick (dCons (dVar 0) (dCons (dLst (dCons (dVar 8) (dCons (dCall sp_draw (dCons (dVar 0) (dCons (dVar 3) dNil))) dNil))) dNil))) (dCons (dCall sp_pick (dCons (dVar 0) (dCons (dLst (dCons (dC (.int 1)) (dCons (dC (.int 1)) (dCons (dUn dNeg (dC (.int 1))) (dCons (dC (.int 0)) (dCons (dC (.int 1)) dNil)))))) dNil))) dNil)))) dNil))))
def tpO : DS := (dSeq (dSet 7 (dLstM dNil)) (dSeq (dFor (dRng1 (dCons (dVar 3) dNil)) (gNm 8) tpI) (dDrop (dMeth "list" dAppend (dVar 5) (dCons (dCB dTuple (dCons (dVar 7) dNil)) dNil)))))
theorem tape_eq : t__law_tape sp_draw sp_pick sp_tags = (dSeq (dSet 2 (dCall sp_tags (dCons (dVar 0) (dCons (dCall sp_pick (dCons (dVar 0) (dCons (dLst (dCons (dC (.int 1)) (dCons (dC (.int 2)) (dCons (dC (.int 0)) (dCons (dC (.int 3)) dNil))))) dNil))) dNil)))) (dSeq (dSet 3 (dCB dMin2 (dCons (dC (.int 5)) (dCons (dOp dAdd (dOp dAdd (dCB dLen (dCons (dZv (dVar 2)) dNil)) (dC (.int 2))) (dCall sp_draw (dCons (dVar 0) (dCons (dC (.int 2)) dNil)))) dNil)))) (dSeq (dPar 4 5 (dCons (dOp dAdd (dC (.int 1)) (dCall sp_draw (dCons (dVar 0) (dCons (dVar 1) dNil)))) (dCons (dLstM dNil) dNil))) (dSeq (dFor (dRng1 (dCons (dVar 4) dNil)) (gNm 6) tpO) (dRet (dTup (dCons (dC (.str "tape")) (dCons (dVar 2) (dCons (dVar 3) (dCons (dCB dTuple (dCons (dVar 5) dNil)) dNil)))))))))) := rfl
theorem tpI_go {D0 : EndsD} {M : Mem} {a : Addr} {z : D} {n k i j : Nat} {p p7 : Addr} {s9 : Option D} {rules : List Rule} (hd : Deck M a) (hn : n ≤ 20) (hk : k ≤ 20) (hi : i < k) (hj : j < n) (h7 : M p7 = some (.lst (rules.map ruleD))) (hl : rules.length ≤ 100)
    (q : ∀ r s9, RuleOk n k r → D0.nx (TE a z n k p (some (nI i)) (some (.ref p7)) (some (nI j)) s9) (mset M p7 (.lst ((rules ++ [r]).map ruleD)))) : tpI D0 (TE a z n k p (some (nI i)) (some (.ref p7)) (some (nI j)) s9) M := by
  unfold tpI
  simp only [dSeq]
  refine es_set (P := fun d => ∃ x : Nat, d = nI x ∧ x ≤ k + 1) (ev_pick hd rfl (ea_cons (fun R r => ⟨_, rfl, _, rfl, ?_⟩) (ea_cons (ev_var rfl ⟨i, rfl, by omega⟩) (ea_cons (ev_var rfl ⟨k, rfl, by omega⟩) (ea_cons ((ev_drawV hd rfl rfl (by omega) (by omega)).mono fun d ⟨x, e, h⟩ => ⟨x, e, by omega⟩) ea_nil))))) fun d ⟨x, e, hx⟩ => ?_
  · refine ⟨a, (((k : Nat) : Int) + 2), rfl, hd, by omega, by omega, fun y y0 y1 => ?_⟩
    obtain ⟨x, rfl⟩ := Int.eq_ofNat_of_zero_le y0
    exact r _ ⟨x, rfl, by omega⟩
  subst e
  simp only [put]
  refine es_app rfl h7 (by rw [List.length_map]; omega) (P := fun d => ∃ r, d = ruleD r ∧ RuleOk n k r) (fun R r => ⟨_, rfl, ?_⟩) fun d ⟨r, e, hr⟩ => ?_
  · refine (ev_pick hd rfl (n := 2) (P := fun d => ∃ y : Nat, d = nI y ∧ y < n) (ea_cons (ev_var rfl ⟨j, rfl, hj⟩) (ea_cons (ev_drawV hd rfl rfl (by omega) (by omega)) ea_nil))) _ fun d ⟨y, e, hy⟩ => ?_
    subst e
    refine (ev_pick hd rfl (n := 5) (P := fun d => ∃ v : Int, d = .int v ∧ (v = -1 ∨ v = 0 ∨ v = 1)) (ea_cons (ev_c ⟨1, rfl, by decide⟩) (ea_cons (ev_c ⟨1, rfl, by decide⟩) (ea_cons (ev_neg ⟨-1, rfl, by decide⟩) (ea_cons (ev_c ⟨0, rfl, by decide⟩) (ea_cons (ev_c ⟨1, rfl, by decide⟩) ea_nil)))))) _ fun d ⟨v, e, hv⟩ => ?_
    subst e
    exact ⟨q_z3, r _ ⟨(x, y, v), rfl, hx, hy, hv⟩⟩
  · subst e
    have := q r (some (nI x)) hr
    rw [List.map_append] at this
    exact this
theorem h_tape (G : Facts K mg) : Has P w K mg base CX0 "_law_tape" s__law_tape ["deck", "most"] 4 sp_tape := by
  refine has_view (k := 3) G.f__law_tape sc__law_tape (fun _ _ _ _ ⟨_, e, _⟩ => by rw [e]; rfl) (fun f cdv A outer s H E hr hG => p__law_tape G ((h_draw G).mono (by decide)) ((h_pick G).mono (by decide)) (h_tags G) cdv A outer s H E hr hG) fun ds M R XR ⟨a, e, hd, q⟩ => ?_
  subst e
  show t__law_tape sp_draw sp_pick sp_tags (endsOf K R) [some (.ref a), some (nI 4), none, none, none, none, none, none, none, none] M
  rw [tape_eq]
  simp only [dSeq]
  refine es_set (P := fun d => ∃ tags, Zt d tags ∧ TagsOk tags ∧ tags.length ≤ 3) (fun R r => ⟨_, rfl, ?_⟩) fun z ⟨tags, hz, ht, hl⟩ => ?_
  · refine (ev_pick hd rfl (P := fun d => ∃ x : Nat, d = nI x ∧ x ≤ 3) (ea_cons (ev_c ⟨1, rfl, by decide⟩) (ea_cons (ev_c ⟨2, rfl, by decide⟩) (ea_cons (ev_c ⟨0, rfl, by decide⟩) (ea_cons (ev_c ⟨3, rfl, by decide⟩) ea_nil))))) _ fun d ⟨x, e, hx⟩ => ?_
    subst e
    exact ⟨a, x, rfl, hd, hx, fun z tags h1 h2 h3 => r _ ⟨tags, h1, h2, by omega⟩⟩
  simp only [put]
  refine es_set (P := fun d => ∃ n : Nat, d = nI n ∧ tags.length + 2 ≤ n ∧ n ≤ 5) (fun R r => ?_) fun d ⟨n, e, hn2, hn5⟩ => ?_
  · obtain ⟨b, o, vs, rfl, ho⟩ := hz
    refine ⟨_, rfl, b, o, vs, _, rfl, _, rfl, ?_⟩
    refine (ev_drawN (k := 2) hd rfl) _ fun d ⟨x, e, hx⟩ => ?_
    subst e
    refine ⟨_, _, rfl, ?_⟩
    rw [List.length_map]
    refine r _ ⟨min 5 (tags.length + 2 + x), ?_, by omega, by omega⟩
    split <;> (congr 1; omega)
  subst e
  simp only [put]
  refine (show dPar 4 5 _ _ _ M from ?_)
  refine (ev_drawV (k := 4) (i := 1) hd rfl rfl (by decide) (by decide)) _ fun d ⟨x, e, hx⟩ => ?_
  subst e
  refine ⟨q_z0, fun p hp => ⟨_, _, rfl, ?_⟩⟩
  simp only [put]
  have ek : D.int (1 + ((x : Nat) : Int)) = nI (x + 1) := by show D.int _ = D.int _; congr 1; omega
  rw [ek]
  have X : ∀ xs, ExtO M (mset M p (.lst xs)) := fun xs => ExtO.refl.updL hp
  refine go_for (G := fun _ => True) (fun i ρ2 M2 => ∃ s6 s7 s8 s9, ρ2 = TE a z n (x + 1) p s6 s7 s8 s9 ∧ ExtO M M2 ∧ ∃ sts : List (List Rule), M2 p = some (.lst (sts.map stD)) ∧ sts.length = i ∧ ∀ s ∈ sts, s.length = n ∧ ∀ r ∈ s, RuleOk n (x + 1) r) (it_rng (te := dVar 4) (m := x + 1) (by omega) fun R h => ⟨_, rfl, h⟩) ⟨_, _, _, _, rfl, X _, [], mset_same, rfl, by simp⟩ (fun i d ρ2 M2 hi ⟨s6, s7, s8, s9, e1, X2, sts, e2, e3, e4⟩ => ?_) (fun ρ2 M2 ⟨s6, s7, s8, s9, e1, X2, sts, e2, e3, e4⟩ => ?_)
  · subst e1
    obtain ⟨hi4, rfl⟩ := rng_at hi
    refine ⟨trivial, ?_⟩
    simp only [gNm, put]
    unfold tpO
    simp only [dSeq]
    refine ⟨q_z0, fun p7 hp7 => ?_⟩
    simp only [put]
    have ne : p ≠ p7 := fun e => by rw [← e, e2] at hp7; cases hp7
    have hM7 : M p7 = none := X2.nn hp7
    have X3 : ∀ xs, ExtO M (mset M2 p7 (.lst xs)) := fun xs => X2.updL hM7
    refine go_for (G := fun _ => True) (fun j ρ3 M3 => ∃ s8 s9, ρ3 = TE a z n (x + 1) p (some (nI i)) (some (.ref p7)) s8 s9 ∧ ∃ rules : List Rule, M3 = mset M2 p7 (.lst (rules.map ruleD)) ∧ rules.length = j ∧ ∀ r ∈ rules, RuleOk n (x + 1) r) (it_rng (te := dVar 3) (m := n) (by omega) fun R h => ⟨_, rfl, h⟩) ⟨_, _, rfl, [], rfl, rfl, by simp⟩ (fun j d ρ3 M3 hj ⟨s8, s9, f1, rules, f2, f3, f4⟩ => ?_) (fun ρ3 M3 ⟨s8, s9, f1, rules, f2, f3, f4⟩ => ?_)
    · subst f1 f2
      obtain ⟨hj4, rfl⟩ := rng_at hj
      refine ⟨trivial, ?_⟩
      simp only [gNm, put]
      refine tpI_go ((X3 _).deck hd) (by omega) (by omega) hi4 hj4 mset_same (by omega) fun r s9 hr => ?_
      rw [mset_mset]
      refine ⟨_, _, rfl, rules ++ [r], rfl, by rw [List.length_append, f3]; rfl, fun y hy => ?_⟩
      rcases List.mem_append.mp hy with h | h
      · exact f4 y h
      · simp at h; subst h; exact hr
    · subst f1 f2
      refine ⟨trivial, ?_⟩
      rw [List.length_map, List.length_range] at f3
      have e2' : (mset M2 p7 (.lst (rules.map ruleD))) p = some (.lst (sts.map stD)) := by rw [mset_ne ne]; exact e2
      refine ⟨_, rfl, tyM_l e2', _, rfl, _, _, rfl, .inr (.inr ⟨p7, rfl, mset_same⟩), ?_⟩
      refine ⟨p, _, _, rfl, rfl, e2', by rw [List.length_map, sizeLine_eq]; omega, ?_⟩
      refine ⟨_, _, _, _, rfl, (X3 _).updL hp, sts ++ [rules], by rw [mset_same, List.map_append]; rfl, by rw [List.length_append, e3]; rfl, fun s hs => ?_⟩
      rcases List.mem_append.mp hs with h | h
      · exact e4 s h
      · simp at h; subst h; exact ⟨f3, f4⟩
  · subst e1
    refine ⟨trivial, ?_⟩
    rw [List.length_map, List.length_range] at e3
    refine ⟨_, rfl, _, rfl, _, rfl, _, _, rfl, .inr (.inr ⟨p, rfl, e2⟩), (show 4 ≤ sizeLine by rw [sizeLine_eq]; decide), X2.ends ?_⟩
    exact q z ⟨tags, n, sts⟩ hz ⟨ht, hn2, by show n ≤ 20; omega, by show 1 ≤ sts.length; omega, by show sts.length ≤ 20; omega, fun s hs => by rw [show (Mac.mk tags n sts).sts.length = x + 1 from e3]; exact e4 s hs⟩
/-! ### machines that seek a sign -/
structure Seek (m : Mac) (v : Nat) : Prop where
  l : m.sts.length = 1
  hv : v < m.n
  r : ∀ u, u < m.n → ∃ row r, m.sts[0]? = some row ∧ row[u]? = some r ∧ (u = v → r = (1, u, 0)) ∧ (u ≠ v → r.1 = 0 ∧ r.2.2 = 1)
def sp_seek : SpD := fun ds M R _ => ∃ a, ds = [.ref a] ∧ Deck M a ∧ ∀ z m v, Zt z m.tags → MacOk m → Seek m v → R (.tup [mD z m, nI v]) M
theorem h_seek (G : Facts K mg) : Has P w K mg base CX0 "_law_seeker" s__law_seeker ["deck"] 4 sp_seek := by
  refine has_view (k := 3) G.f__law_seeker sc__law_seeker (fun _ _ _ _ ⟨_, e, _⟩ => by rw [e]; rfl) (fun f cdv A outer s H E hr hG => p__law_seeker G ((h_draw G).mono (by decide)) (h_tags G) cdv A outer s H E hr hG) fun ds M R XR ⟨a, e, hd, q⟩ => ?_
  subst e
  show t__law_seeker sp_draw sp_tags (endsOf K R) [some (.ref a), none, none, none, none, none] M
  simp only [t__law_seeker, dSeq]
  refine es_set (P := fun d => ∃ tags, Zt d tags ∧ TagsOk tags ∧ tags.length ≤ 3) (fun R r => ⟨_, rfl, ?_⟩) fun z ⟨tags, hz, ht, hl⟩ => ?_
  · refine (ev_drawN (k := 3) hd rfl) _ fun d ⟨x, e, hx⟩ => ?_
    subst e
    have ek : D.int (1 + ((x : Nat) : Int)) = nI (x + 1) := by show D.int _ = D.int _; congr 1; omega
    refine (show sp_tags [.ref a, D.int (1 + ((x : Nat) : Int))] M _ noX from ?_)
    rw [ek]
    exact ⟨a, x + 1, rfl, hd, by omega, fun z tags h1 h2 h3 => r _ ⟨tags, h1, h2, by omega⟩⟩
  simp only [put]
  refine es_set (P := (· = nI (tags.length + 2))) (fun R r => ?_) fun d e => ?_
  · obtain ⟨b, o, vs, rfl, ho⟩ := hz
    refine ⟨_, rfl, b, o, vs, _, rfl, _, rfl, ?_⟩
    show R (.int ((((tags.map D.str).length : Nat) : Int) + 2)) M
    rw [List.length_map]
    exact r _ rfl
  subst e
  simp only [put]
  refine (show dPar 3 4 _ _ _ M from ?_)
  refine (ev_drawV (k := tags.length + 2) (i := 2) hd rfl rfl (by omega) (by omega)) _ fun d ⟨v, e, hv⟩ => ?_
  subst e
  refine ⟨q_z0, fun p hp => ⟨_, _, rfl, ?_⟩⟩
  simp only [put]
  have X : ∀ xs, ExtO M (mset M p (.lst xs)) := fun xs => ExtO.refl.updL hp
  refine go_for (G := fun _ => True) (fun i ρ2 M2 => ∃ s5, ρ2 = [some (.ref a), some z, some (nI (tags.length + 2)), some (nI v), some (.ref p), s5] ∧ ∃ rules : List Rule, M2 = mset M p (.lst (rules.map ruleD)) ∧ rules.length = i ∧ ∀ u r, rules[u]? = some r → (u = v → r = (1, u, 0)) ∧ (u ≠ v → r.1 = 0 ∧ r.2.1 < tags.length + 2 ∧ r.2.2 = 1)) (it_rng (te := dVar 2) (m := tags.length + 2) (by omega) fun R h => ⟨_, rfl, h⟩) ⟨_, rfl, [], rfl, rfl, by simp⟩ (fun i d ρ2 M2 hi ⟨s5, e1, rules, e2, e3, e4⟩ => ?_) (fun ρ2 M2 ⟨s5, e1, rules, e2, e3, e4⟩ => ?_)
  · subst e1 e2
    obtain ⟨hi4, rfl⟩ := rng_at hi
    refine ⟨trivial, ?_⟩
    simp only [gNm, put]
    refine es_app rfl mset_same (by rw [List.length_map]; omega) (P := fun d => ∃ r, d = ruleD r ∧ (i = v → r = (1, i, 0)) ∧ (i ≠ v → r.1 = 0 ∧ r.2.1 < tags.length + 2 ∧ r.2.2 = 1)) (fun R r => ?_) fun d ⟨r, e, h1, h2⟩ => ?_
    · refine et_val (b := decide (((i : Nat) : Int) = ((v : Nat) : Int))) (fun R r => ⟨_, rfl, _, rfl, q_eq_int.mpr r⟩) _ fun b hb => ?_
      subst hb
      by_cases h : i = v
      · rw [decide_eq_true (by omega), if_pos rfl]
        exact ⟨_, rfl, q_z3, r _ ⟨(1, i, 0), rfl, fun _ => rfl, fun h' => absurd h h'⟩⟩
      · rw [decide_eq_false (by omega), if_neg (by decide)]
        refine (ev_drawV (k := tags.length + 2) (i := 2) ((X _).deck hd) rfl rfl (by omega) (by omega)) _ fun d ⟨u, e, hu⟩ => ?_
        subst e
        exact ⟨q_z3, r _ ⟨(0, u, 1), rfl, fun h' => absurd h' h, fun _ => ⟨rfl, hu, rfl⟩⟩⟩
    · subst e
      rw [mset_mset]
      refine ⟨_, rfl, rules ++ [r], by rw [List.map_append]; rfl, by rw [List.length_append, e3]; rfl, fun u r' hu => ?_⟩
      by_cases hul : u < rules.length
      · rw [List.getElem?_append_left hul] at hu
        exact e4 u r' hu
      · rw [List.getElem?_append_right (by omega)] at hu
        have h0 : u - rules.length = 0 := by
          have := (List.getElem?_eq_some_iff.mp hu).1
          simpa using this
        rw [h0] at hu
        cases hu
        have : u = i := by omega
        subst this
        exact ⟨h1, h2⟩
  · subst e1 e2
    refine ⟨trivial, ?_⟩
    rw [List.length_map, List.length_range] at e3
    refine ⟨_, rfl, _, rfl, _, rfl, _, _, rfl, .inr (.inr ⟨p, rfl, mset_same⟩), q_z1, (show 4 ≤ sizeLine by rw [sizeLine_eq]; decide), _, rfl, q_z2, (X _).ends ?_⟩
    refine q z ⟨tags, tags.length + 2, [rules]⟩ v hz ⟨ht, Nat.le_refl _, (show tags.length + 2 ≤ 20 by omega), (show 1 ≤ 1 by decide), (show 1 ≤ 20 by decide), fun s hs => ?_⟩ ⟨rfl, hv, fun u hu => ?_⟩
    · simp at hs
      subst hs
      refine ⟨e3, fun r hr => ?_⟩
      obtain ⟨u, hu⟩ := List.getElem?_of_mem hr
      obtain ⟨h1, h2⟩ := e4 u r hu
      have hul := (List.getElem?_eq_some_iff.mp hu).1
      by_cases h : u = v
      · rw [h1 h]
        exact ⟨by show 1 ≤ 1 + 1; decide, by show u < tags.length + 2; omega, .inr (.inl rfl)⟩
      · obtain ⟨a1, a2, a3⟩ := h2 h
        exact ⟨by rw [a1]; exact Nat.zero_le _, a2, .inr (.inr a3)⟩
    · have hul : u < rules.length := by rw [e3]; exact hu
      refine ⟨rules, rules[u], rfl, List.getElem?_eq_getElem hul, ?_, fun h => ?_⟩
      · exact (e4 u _ (List.getElem?_eq_getElem hul)).1
      · have := (e4 u _ (List.getElem?_eq_getElem hul)).2 h
        exact ⟨this.1, this.2.2⟩
end
end Yk57

set_option Elab.async false
set_option linter.all false
set_option maxHeartbeats 4000000
set_option maxRecDepth 100000
namespace Yk57
open PySem PySem.Spec PyProof.Rows L2 DL
/-! ### the plain laws -/
def exS (k s : Nat) : Nat := if k ≤ s then 2 * k + 1 - s else s
theorem full_ex {m : Mac} {T : Tr} {c : Nat} : full (exch m) T c = full m T c := rfl
theorem run_ex {m : Mac} {T : Tr} {c : Nat} (hm : MacOk m) (h : CB T c) : ∀ i, run (exch m) (ini (exch m) T c) i = (exS m.sts.length (run m (ini m T c) i).1, (run m (ini m T c) i).2)
  | 0 => by
    have h1 := hm.s1
    show ((0, 0, full m T c) : St) = (exS m.sts.length 0, 0, full m T c)
    unfold exS
    rw [if_neg (by omega)]
  | i + 1 => by
    have ih := run_ex hm h i
    have g := gd_run hm (gd_ini hm h) i
    show stp (exch m) (run (exch m) (ini (exch m) T c) i) = (exS m.sts.length (stp m (run m (ini m T c) i)).1, (stp m (run m (ini m T c) i)).2)
    rw [ih]
    generalize run m (ini m T c) i = x at g
    have el : (exch m).sts.length = m.sts.length := List.length_map ..
    have gs := g.s
    by_cases hs : m.sts.length ≤ x.1
    · have h2 : (exch m).sts.length ≤ (exS m.sts.length x.1, x.2).1 := by
        rw [el]
        show m.sts.length ≤ exS _ _
        unfold exS
        rw [if_pos hs]
        omega
      rw [stp_stop h2, stp_stop hs]
    · obtain ⟨row, v, r, w⟩ := row_of hm g (by omega)
      have e1 : exS m.sts.length x.1 = x.1 := by unfold exS; rw [if_neg hs]
      have g2 : Gd (exch m) (T.cnt ^ c) (exS m.sts.length x.1, x.2) := ⟨g.l, g.h, g.v, by rw [el]; show exS _ _ ≤ _; rw [e1]; exact g.s⟩
      obtain ⟨row2, v2, r2, w2⟩ := row_of (exch_ok hm) g2 (by rw [el]; show exS _ _ < _; rw [e1]; omega)
      have a1 : (exch m).sts[x.1]? = some (row.map (exR m.sts.length)) := by
        show (m.sts.map fun s => s.map (exR m.sts.length))[x.1]? = _
        rw [List.getElem?_map, w.hrow]
        rfl
      have a2 : (exch m).sts[x.1]? = some row2 := by
        have := w2.hrow
        simp only [e1] at this
        exact this
      have er : row2 = row.map (exR m.sts.length) := by
        rw [a1] at a2
        exact (Option.some.inj a2).symm
      have ev : v2 = v := by
        have h2 : x.2.2[x.2.1]? = some v2 := w2.hv
        rw [w.hv] at h2
        exact (Option.some.inj h2).symm
      have err : r2 = exR m.sts.length r := by
        have h2 := w2.hr
        rw [er, ev, List.getElem?_map, w.hr] at h2
        exact (Option.some.inj h2).symm
      rw [w2.e, w.e, err]
      rfl
theorem outc_ex {m : Mac} {T : Tr} {c : Nat} (hm : MacOk m) (h : CB T c) : (outc m T c && outc (exch m) T c) = false := by
  unfold outc
  have el : (exch m).sts.length = m.sts.length := List.length_map ..
  rw [run_ex hm h, el]
  by_cases e : (run m (ini m T c) (T.cnt ^ c - 1)).1 = m.sts.length
  · have : exS m.sts.length (run m (ini m T c) (T.cnt ^ c - 1)).1 ≠ m.sts.length := by
      unfold exS
      rw [e, if_pos (Nat.le_refl _)]
      omega
    rw [decide_eq_false this, Bool.and_false]
  · rw [decide_eq_false e]
    rfl
theorem seek_run {m : Mac} {T : Tr} {c v : Nat} (hm : MacOk m) (h : CB T c) (hs : Seek m v) : ∀ i, i ≤ T.cnt ^ c - 1 →
    (v ∉ (full m T c).take i ∧ ∃ cells, run m (ini m T c) i = (0, i, cells) ∧ ∀ j, i ≤ j → cells[j]? = (full m T c)[j]?) ∨ (v ∈ (full m T c).take i ∧ (run m (ini m T c) i).1 = 1)
  | 0, _ => .inl ⟨by simp, full m T c, rfl, fun _ _ => rfl⟩
  | i + 1, hi => by
    have hl := full_len (m := m) h
    rcases seek_run hm h hs i (by omega) with ⟨h1, cells, h2, h3⟩ | ⟨h1, h2⟩
    · have hil : i < (full m T c).length := by omega
      have e1 : (full m T c)[i]? = some (full m T c)[i] := List.getElem?_eq_getElem hil
      generalize hu : (full m T c)[i] = u at e1
      have hun : u < m.n := full_lt hm u (hu ▸ List.getElem_mem hil)
      have g := gd_run hm (gd_ini hm h) i
      have est : run m (ini m T c) (i + 1) = stp m (run m (ini m T c) i) := rfl
      rw [h2] at g est
      obtain ⟨row, w0, r, w⟩ := row_of hm g (by rw [hs.l]; exact Nat.zero_lt_one)
      obtain ⟨row', r', a1, a2, a3, a4⟩ := hs.r u hun
      have erow : row = row' := by
        have := w.hrow
        rw [show ((0, i, cells) : St).1 = 0 from rfl, a1] at this
        exact (Option.some.inj this).symm
      have ew : w0 = u := by
        have h4 : cells[i]? = some w0 := w.hv
        rw [h3 i (Nat.le_refl _), e1] at h4
        exact (Option.some.inj h4).symm
      have err : r = r' := by
        have h4 := w.hr
        rw [erow, ew, a2] at h4
        exact (Option.some.inj h4).symm
      rw [est, w.e, err]
      have et : (full m T c).take (i + 1) = (full m T c).take i ++ [u] := by rw [List.take_add_one, e1]; rfl
      rw [et]
      by_cases huv : u = v
      · refine .inr ⟨by rw [huv]; simp, ?_⟩
        rw [a3 huv]
      · obtain ⟨b1, b2⟩ := a4 huv
        refine .inl ⟨fun hm' => ?_, cells.set i r'.2.1, ?_, fun j hj => ?_⟩
        · rcases List.mem_append.mp hm' with h | h
          · exact h1 h
          · simp at h; exact huv h.symm
        · have ec : clampN (((i : Nat) : Int) + 1) (((T.cnt ^ c : Nat) : Int) - 1) = i + 1 := by
            unfold clampN
            omega
          show (r'.1, clampN (((i : Nat) : Int) + r'.2.2) (((T.cnt ^ c : Nat) : Int) - 1), cells.set i r'.2.1) = _
          rw [b1, b2, ec]
        · rw [List.getElem?_set_ne (by omega), h3 j (by omega)]
    · refine .inr ⟨?_, ?_⟩
      · rw [List.take_add_one]
        exact List.mem_append_left _ h1
      · show (stp m (run m (ini m T c) i)).1 = 1
        rw [stp_stop (by rw [hs.l, h2]; exact Nat.le_refl _)]
        exact h2
theorem seek_outc {m : Mac} {T : Tr} {c v : Nat} (hm : MacOk m) (h : CB T c) (hs : Seek m v) : outc m T c = decide (v ∈ (full m T c).dropLast) := by
  have hl := full_len (m := m) h
  rw [List.dropLast_eq_take, hl]
  unfold outc
  rw [hs.l]
  rcases seek_run hm h hs _ (Nat.le_refl _) with ⟨h1, cells, h2, h3⟩ | ⟨h1, h2⟩
  · rw [decide_eq_false h1, h2]
    rfl
  · rw [decide_eq_true h1, h2]
    rfl
/-! ### values -/
theorem cut_last {xs : List D} : DL.cutD xs none (some (-1)) = xs.dropLast := by
  unfold DL.cutD
  rw [HT.sIx_none, List.dropLast_eq_take, List.drop_zero, Nat.sub_zero]
  have e : HT.sIx xs.length xs.length (some (-1)) = xs.length - 1 := by
    show (if (-1 : Int) < 0 then ((-1 : Int) + (xs.length : Int)).toNat else min (-1 : Int).toNat xs.length) = xs.length - 1
    rw [if_pos (by decide)]
    omega
  rw [e]
theorem inF_ints {v : Nat} {xs : List Nat} : inF (nI v) (xs.map nI) = decide (v ∈ xs) := by
  unfold inF
  rw [List.any_map]
  induction xs with
  | nil => rfl
  | cons t ts ih =>
    rw [List.any_cons, ih]
    have e : ((fun y => eqF y (nI v)) ∘ nI) t = decide (v = t) := by
      show (((t : Nat) : Int) == ((v : Nat) : Int)) = _
      by_cases h : v = t
      · subst h; simp
      · rw [decide_eq_false h]
        exact beq_eq_false_iff_ne.mpr fun e => h (by omega)
    rw [e, ← Bool.decide_or]
    simp
theorem flat_ints {xs : List Nat} : (xs.map nI).all flatD = true := by
  rw [List.all_map]
  exact List.all_eq_true.mpr fun _ _ => rfl
theorem q_ne_bl {M : Mem} {R : RK} {a b : Bool} (q : R (.bl (!(a == b))) M) : dNe (.bl a) (.bl b) M R := ⟨_, ⟨.bool a, .bool b, rfl, rfl, by cases a <;> decide +kernel, by cases b <;> decide +kernel, rfl⟩, q⟩
theorem wts_ints : ∀ xs : List Nat, wts (xs.map nI) = xs.length
  | [] => rfl
  | x :: xs => by
    show 0 + 1 + wts (xs.map nI) = _
    rw [wts_ints xs, List.length_cons]
    omega
theorem dps_ints : ∀ xs : List Nat, dps (xs.map nI) = 0
  | [] => rfl
  | x :: xs => by
    show max 0 (dps (xs.map nI)) = 0
    rw [dps_ints xs]
    rfl
structure Fine (d : D) : Prop where
  g : gx 1000 d = true
  w : wt d ≤ 2000
  d : dp d ≤ 10
theorem fine_out {m : Mac} {N : Nat} {x : St} (hm : MacOk m) (g : Gd m N x) (hN : N ≤ 700) : Fine (outD x) := by
  have h1 := g.h
  have h2 := g.s
  have h3 := hm.s4
  have h4 := hm.n5
  have gi : ∀ k : Nat, k ≤ 1000 → gx 1000 (nI k) = true := fun k hk => gx_int.mpr (by show ((k : Nat) : Int).natAbs < _; omega)
  have hl := g.l
  have gt : gx 1000 (.tup (x.2.2.map nI)) = true := gx_tup.mpr ⟨by rw [List.length_map]; omega, fun d hd => by
    obtain ⟨v, hv, rfl⟩ := List.mem_map.mp hd
    exact gi v (by have := g.v v hv; omega)⟩
  refine ⟨gx_tup.mpr ⟨(show 3 ≤ 1000 by decide), fun d hd => ?_⟩, ?_, ?_⟩
  · simp only [List.mem_cons, List.not_mem_nil, or_false] at hd
    rcases hd with rfl | rfl | rfl
    · exact gi _ (by omega)
    · exact gi _ (by omega)
    · exact gt
  · show 0 + 1 + (0 + 1 + (wts (x.2.2.map nI) + 1 + 0)) ≤ 2000
    rw [wts_ints]
    omega
  · show max 0 (max 0 (max (dps (x.2.2.map nI) + 1) 0)) + 1 ≤ 10
    rw [dps_ints]
    decide
theorem Fine.rp {d : D} (h : Fine d) : ∃ t, Rp d t := (rp_gx h.g (by have := h.w; omega) (by have := h.d; omega)).imp fun _ h => h.1
theorem Fine.two {d : D} (h : Fine d) : ∃ t, Rp (.lst [d, d]) t := by
  have := h.w
  have := h.d
  refine (rp_gx (d := .lst [d, d]) (gx_lst.mpr ⟨(show 2 ≤ 1000 by decide), fun e he => ?_⟩) ?_ ?_).imp fun _ h => h.1
  · simp at he
    subst he
    exact h.g
  · show wt d + 1 + (wt d + 1 + 0) ≤ 80000
    omega
  · show max (dp d) (max (dp d) 0) + 1 ≤ 58
    omega
theorem rp_bl (b : Bool) : ∃ t, Rp (.bl b) t := (rp_gx (d := .bl b) rfl (by show 0 ≤ _; omega) (by show 0 ≤ _; omega)).imp fun _ h => h.1
end Yk57

set_option Elab.async false
set_option linter.all false
set_option maxHeartbeats 4000000
set_option maxRecDepth 100000
namespace Yk57
open PySem PySem.Spec PyProof.Rows L2 DL
def h1_1 : DS := (dSet 2 (dCall sp_pick (dCons (dVar 0) (dCons (dLst (dCons (dC (.int 1)) (dCons (dC (.int 1)) (dCons (dC (.int 2)) dNil)))) dNil))))
def h1_2 : DS := (dAsg (dIf (dTest (dOp dEq (dVar 1) (dC (.int 0)))) (dCall sp_seek (dCons (dVar 0) dNil)) (dTup (dCons (dCall sp_tape (dCons (dVar 0) (dCons (dC (.int 4)) dNil))) (dCons (dC (.int 0)) dNil)))) (gTp 2 (gsCons (gNm 3) (gsCons (gNm 4) gsNil))))
def h1_3 : DS := (dSet 5 (dCall (sp_ltree 12) (dCons (dVar 0) (dCons (dIf (dTest (dOp dEq (dVar 2) (dC (.int 1)))) (dCall sp_draw (dCons (dVar 0) (dCons (dC (.int 13)) dNil))) (dCall sp_draw (dCons (dVar 0) (dCons (dC (.int 4)) dNil)))) (dCons (dOp dAdd (dZv (dOp dIx (dVar 3) (dC (.int 1)))) (dZv (dCall sp_tags (dCons (dVar 0) (dCons (dC (.int 2)) dNil))))) dNil)))))
def h1_4 : DS := (dSet 6 (dCall sp_cells (dCons (dVar 3) (dCons (dVar 5) (dCons (dVar 2) dNil)))))
def h1_5 : DS := (dPar 7 8 (dCons (dCall sp_outc (dCons (dVar 3) (dCons (dVar 5) (dCons (dVar 2) dNil)))) (dCons (dCall sp_outc (dCons (dVar 3) (dCons (dVar 5) (dCons (dVar 2) dNil)))) dNil)))
def h1_6 : DS := (dPar 9 10 (dCons (dCall sp_outc (dCons (dCall sp_exch (dCons (dVar 3) dNil)) (dCons (dVar 5) (dCons (dVar 2) dNil)))) (dCons (dCall sp_stand (dCons (dVar 3) (dCons (dVar 5) (dCons (dVar 2) (dCons (dOp dSub (dCB dLen (dCons (dVar 6) dNil)) (dC (.int 1))) dNil))))) dNil)))
def h1_7 : DS := (dIfS (dOr (dAnd (dTest (dOp dEq (dVar 1) (dC (.int 0)))) (dTest (dOp dNe (dVar 8) (dOp dIn (dVar 4) (dSl (dVar 6) dNoPart (dPart (dUn dNeg (dC (.int 1))))))))) (dAnd (dTest (dVar 8)) (dTest (dVar 9)))) (dRet (dC (.bl false))) dNext)
def h1_8 : DS := (dIfS (dOr (dNot (dTest (dCall sp_isTupZ (dCons (dVar 10) (dCons (dC (.int 3)) dNil))))) (dTest (dOp dNe (dOp dEq (dOp dIx (dVar 10) (dC (.int 0))) (dCB dLen (dCons (dOp dIx (dVar 3) (dC (.int 3))) dNil))) (dVar 8)))) (dRet (dC (.bl false))) dNext)
def h1_9 : DS := (dIfS (dOr (dTest (dOp dNe (dCB dRepr (dCons (dVar 8) dNil)) (dCB dRepr (dCons (dVar 7) dNil)))) (dTest (dOp dNe (dCB dRepr (dCons (dCallK sp_outc 0 3 [2, 1, 0] dNil (dCons (dVar 2) (dCons (dVar 5) (dCons (dVar 3) dNil)))) dNil)) (dCB dRepr (dCons (dVar 7) dNil))))) (dRet (dC (.bl false))) dNext)
def h1_10 : DS := (dIfS (dTest (dOp dNe (dCB dRepr (dCons (dVar 10) dNil)) (dCB dRepr (dCons (dCall sp_stand (dCons (dVar 3) (dCons (dVar 5) (dCons (dVar 2) (dCons (dOp dSub (dCB dLen (dCons (dVar 6) dNil)) (dC (.int 1))) dNil))))) dNil)))) (dRet (dC (.bl false))) dNext)
def h1_11 : DS := (dIfS (dTest (dOp dNe (dCB dRepr (dCons (dVar 9) dNil)) (dCB dRepr (dCons (dCall sp_outc (dCons (dCall sp_exch (dCons (dVar 3) dNil)) (dCons (dVar 5) (dCons (dVar 2) dNil)))) dNil)))) (dRet (dC (.bl false))) dNext)
def h1b : DS := dSeq h1_1 (dSeq h1_2 (dSeq h1_3 (dSeq h1_4 (dSeq h1_5 (dSeq h1_6 (dSeq h1_7 (dSeq h1_8 (dSeq h1_9 (dSeq h1_10 h1_11)))))))))
def h1 : DS := dFor (dRng1 (dCons (dC (.int 3)) dNil)) (gNm 1) h1b
def h2 : DS := (dRet (dC (.bl true)))
theorem heq : t__law_ahead sp_stand sp_outc sp_draw sp_pick sp_isTupZ sp_tags (sp_ltree 12) sp_tape sp_cells sp_stand sp_outc sp_seek sp_exch = dSeq h1 h2 := rfl
def g1 : DS := (dSet 1 (dCall sp_pick (dCons (dVar 0) (dCons (dLst (dCons (dC (.int 1)) (dCons (dC (.int 1)) (dCons (dC (.int 2)) dNil)))) dNil))))
def g2 : DS := (dSet 2 (dIf (dTest (dOp dEq (dCall sp_draw (dCons (dVar 0) (dCons (dC (.int 4)) dNil))) (dC (.int 0)))) (dOp dIx (dCall sp_seek (dCons (dVar 0) dNil)) (dC (.int 0))) (dCall sp_tape (dCons (dVar 0) (dCons (dC (.int 4)) dNil)))))
def g3 : DS := (dSet 3 (dCall (sp_ltree 12) (dCons (dVar 0) (dCons (dIf (dTest (dOp dEq (dVar 1) (dC (.int 1)))) (dCall sp_draw (dCons (dVar 0) (dCons (dC (.int 13)) dNil))) (dCall sp_draw (dCons (dVar 0) (dCons (dC (.int 4)) dNil)))) (dCons (dOp dAdd (dZv (dOp dIx (dVar 2) (dC (.int 1)))) (dZv (dCall sp_tags (dCons (dVar 0) (dCons (dC (.int 2)) dNil))))) dNil)))))
def g4 : DS := (dSet 4 (dCB dLen (dCons (dCall sp_cells (dCons (dVar 2) (dCons (dVar 3) (dCons (dVar 1) dNil)))) dNil)))
def g5 : DS := (dSet 5 (dCall sp_draw (dCons (dVar 0) (dCons (dOp dAdd (dVar 4) (dC (.int 40))) dNil))))
def g6_1 : DS := (dSet 7 (dCall sp_stand (dCons (dVar 2) (dCons (dVar 3) (dCons (dVar 1) (dCons (dVar 6) dNil))))))
def g6_2 : DS := (dSet 8 (dLst (dCons (dCall sp_stand (dCons (dVar 2) (dCons (dVar 3) (dCons (dVar 1) (dCons (dVar 6) dNil))))) (dCons (dCallK sp_stand 0 4 [3, 2, 1, 0] dNil (dCons (dVar 6) (dCons (dVar 1) (dCons (dVar 3) (dCons (dVar 2) dNil))))) dNil))))
def g6_3 : DS := (dIfS (dTest (dOp dNe (dCB dRepr (dCons (dVar 8) dNil)) (dCB dRepr (dCons (dLst (dCons (dVar 7) (dCons (dVar 7) dNil))) dNil)))) (dRet (dC (.bl false))) dNext)
def g6_4 : DS := (dIfS (dAnd (dTest (dOp dGe (dOp dIx (dVar 7) (dC (.int 0))) (dCB dLen (dCons (dOp dIx (dVar 2) (dC (.int 3))) dNil)))) (dTest (dOp dNe (dCB dRepr (dCons (dCall sp_stand (dCons (dVar 2) (dCons (dVar 3) (dCons (dVar 1) (dCons (dOp dAdd (dVar 6) (dC (.int 1))) dNil))))) dNil)) (dCB dRepr (dCons (dVar 7) dNil))))) (dRet (dC (.bl false))) dNext)
def g6b : DS := dSeq g6_1 (dSeq g6_2 (dSeq g6_3 g6_4))
def g6 : DS := dFor (dVal (dTup (dCons (dC (.int 0)) (dCons (dVar 5) (dCons (dOp dAdd (dVar 5) (dC (.int 1))) (dCons (dCall sp_draw (dCons (dVar 0) (dCons (dOp dAdd (dVar 4) (dC (.int 1))) dNil))) dNil)))))) (gNm 6) g6b
def g7 : DS := (dRet (dC (.bl true)))
theorem geq : t__law_are_steps_right sp_stand sp_draw sp_pick sp_tags (sp_ltree 12) sp_tape sp_cells sp_stand sp_seek = dSeq g1 (dSeq g2 (dSeq g3 (dSeq g4 (dSeq g5 (dSeq g6 g7))))) := rfl
theorem cb_of {T : Tr} {c k : Nat} (h : Dr k T) (hc : c = 1 ∧ k ≤ 12 ∨ c = 2 ∧ k ≤ 3) : CB T c := by
  have h1 := h.c
  have h2 := h.d
  have h3 := h.w
  have hk : k ≤ 12 := by omega
  refine ⟨⟨h.ok, by omega, by omega, by omega⟩, by omega, by omega, ?_, by omega⟩
  rcases hc with ⟨rfl, hk⟩ | ⟨rfl, hk⟩
  · rw [Nat.pow_one]
    omega
  · rw [Nat.pow_two]
    have : T.cnt ≤ 7 := by omega
    exact Nat.le_trans (Nat.mul_le_mul this this) (by decide)
section
variable {ρ : DEnv} {M : Mem} {a : Addr} {z : D} {m : Mac} {c i j : Nat}
theorem ev_tree (hd : Deck M a) (h0 : slot ρ 0 = some (.ref a)) (hc : slot ρ i = some (nI c)) (c12 : c = 1 ∨ c = 2) (hm : slot ρ j = some (mD z m)) (hz : Zt z m.tags) (hok : MacOk m) :
    Ev (dCall (sp_ltree 12) (dCons (dVar 0) (dCons (dIf (dTest (dOp dEq (dVar i) (dC (.int 1)))) (dCall sp_draw (dCons (dVar 0) (dCons (dC (.int 13)) dNil))) (dCall sp_draw (dCons (dVar 0) (dCons (dC (.int 4)) dNil)))) (dCons (dOp dAdd (dZv (dOp dIx (dVar j) (dC (.int 1)))) (dZv (dCall sp_tags (dCons (dVar 0) (dCons (dC (.int 2)) dNil))))) dNil)))) ρ M fun d => ∃ T, d = Tr.d T ∧ CB T c := fun R r => by
  have fin : ∀ k : Nat, (c = 1 ∧ k ≤ 12 ∨ c = 2 ∧ k ≤ 3) → dCons (dOp dAdd (dZv (dOp dIx (dVar j) (dC (.int 1)))) (dZv (dCall sp_tags (dCons (dVar 0) (dCons (dC (.int 2)) dNil))))) dNil ρ M (fun xs M2 => sp_ltree 12 (.ref a :: nI k :: xs) M2 R noX) := fun k hk => by
    obtain ⟨b, o, vs, rfl, ho⟩ := hz
    refine (show dOp dIx (dVar j) (dC (.int 1)) ρ M _ from ix_tags hm ⟨b, o, vs, _, rfl, _, h0, a, 2, rfl, hd, by decide, fun z2 tags2 hz2 ht2 hl2 => ?_⟩)
    obtain ⟨b2, o2, vs2, rfl, ho2⟩ := hz2
    have l1 := hok.t.l
    refine ⟨b2, o2, vs2, _, rfl, (show (m.tags.map D.str).length + (tags2.map D.str).length ≤ sizeLine by rw [List.length_map, List.length_map, sizeLine_eq]; omega), a, k, m.tags ++ tags2, by rw [List.map_append], hd, by omega, by decide, ?_, by rw [List.length_append]; omega, fun t ht => ?_, fun T hT => r _ ⟨T, rfl, cb_of hT hk⟩⟩
    · intro e
      have := congrArg List.length e
      rw [List.length_append, List.length_nil] at this
      omega
    · rcases List.mem_append.mp ht with h | h
      · exact hok.t.t t h
      · exact ht2.t t h
  refine ⟨_, h0, ?_⟩
  refine (show dIf _ _ _ ρ M _ from ?_)
  refine et_eqI hc _ fun b hb => ?_
  subst hb
  rcases c12 with rfl | rfl
  · rw [decide_eq_true (by rfl), if_pos rfl]
    refine (ev_drawN (k := 13) hd h0) _ fun d ⟨k, e, hk⟩ => ?_
    subst e
    exact fin k (.inl ⟨rfl, by omega⟩)
  · rw [decide_eq_false (by decide), if_neg (by decide)]
    refine (ev_drawN (k := 4) hd h0) _ fun d ⟨k, e, hk⟩ => ?_
    subst e
    exact fin k (.inr ⟨rfl, by omega⟩)
end
section
variable {M : Mem} {D0 : EndsD} {a : Addr} {k : Nat} {s2 s3 s4 s5 s6 s7 s8 s9 s10 : Option D}
abbrev HE (a : Addr) (k : Nat) (s2 s3 s4 s5 s6 s7 s8 s9 s10 : Option D) : DEnv := [some (.ref a), some (nI k), s2, s3, s4, s5, s6, s7, s8, s9, s10]
theorem ahead_go (hd : Deck M a) (q : ∀ M2 s2 s3 s4 s5 s6 s7 s8 s9 s10, ExtO M M2 → D0.nx (HE a k s2 s3 s4 s5 s6 s7 s8 s9 s10) M2) : h1b D0 (HE a k s2 s3 s4 s5 s6 s7 s8 s9 s10) M := by
  unfold h1b
  simp only [dSeq]
  refine (show h1_1 _ _ _ from es_set (P := fun d => ∃ c : Nat, d = nI c ∧ (c = 1 ∨ c = 2)) (ev_pick hd rfl (ea_cons (ev_c ⟨1, rfl, .inl rfl⟩) (ea_cons (ev_c ⟨1, rfl, .inl rfl⟩) (ea_cons (ev_c ⟨2, rfl, .inr rfl⟩) ea_nil)))) fun d ⟨c, e, c12⟩ => ?_)
  subst e
  simp only [put]
  have two : ∀ {ρ : DEnv} {R : RK}, slot ρ 0 = some (.ref a) → slot ρ 1 = some (nI k) → (∀ z m v, Zt z m.tags → MacOk m → (k = 0 → Seek m v) → R (.tup [mD z m, nI v]) M) → dIf (dTest (dOp dEq (dVar 1) (dC (.int 0)))) (dCall sp_seek (dCons (dVar 0) dNil)) (dTup (dCons (dCall sp_tape (dCons (dVar 0) (dCons (dC (.int 4)) dNil))) (dCons (dC (.int 0)) dNil))) ρ M R := fun {ρ R} h0 h1 r => by
    refine et_eqI h1 _ fun b hb => ?_
    subst hb
    by_cases h : k = 0
    · rw [decide_eq_true (by omega), if_pos rfl]
      exact ⟨_, h0, a, rfl, hd, fun z m v hz hm hs => r z m v hz hm fun _ => hs⟩
    · rw [decide_eq_false (by omega), if_neg (by decide)]
      exact ⟨_, h0, a, rfl, hd, fun z m hz hm => ⟨q_z2, r z m 0 hz hm fun h' => absurd h' h⟩⟩
  refine (show h1_2 _ _ _ from two rfl rfl fun z m v hz hm hs => ⟨_, rfl, rfl, _, _, rfl, _, _, rfl, rfl, ?_⟩)
  simp only [gNm, put]
  refine (show h1_3 _ _ _ from es_set (ev_tree (i := 2) (j := 3) hd rfl rfl c12 rfl hz hm) fun d ⟨T, e, hc⟩ => ?_)
  subst e
  simp only [put]
  have hfl := full_len (m := m) hc
  have hN := hc.l
  have hpos : 0 < T.cnt ^ c := Nat.pow_pos (cnt_pos (t := T))
  refine (show h1_4 _ _ _ from ⟨_, rfl, _, rfl, _, rfl, z, m, T, c, rfl, hz, hm, hc, fun p M1 hp0 hp X => ?_⟩)
  simp only [put]
  have oc : ∀ {ρ : DEnv} {R : RK}, slot ρ 3 = some (mD z m) → slot ρ 5 = some T.d → slot ρ 2 = some (nI c) → R (.bl (outc m T c)) M1 → dCall sp_outc (dCons (dVar 3) (dCons (dVar 5) (dCons (dVar 2) dNil))) ρ M1 R := fun h3 h5 h2 r => ⟨_, h3, _, h5, _, h2, z, m, T, c, rfl, hz, hm, hc, r⟩
  have ocx : ∀ {ρ : DEnv} {R : RK}, slot ρ 3 = some (mD z m) → slot ρ 5 = some T.d → slot ρ 2 = some (nI c) → R (.bl (outc (exch m) T c)) M1 → dCall sp_outc (dCons (dCall sp_exch (dCons (dVar 3) dNil)) (dCons (dVar 5) (dCons (dVar 2) dNil))) ρ M1 R := fun h3 h5 h2 r => ⟨_, h3, z, m, rfl, hm, _, h5, _, h2, z, exch m, T, c, rfl, hz, exch_ok hm, hc, r⟩
  have std : ∀ {ρ : DEnv} {R : RK}, slot ρ 3 = some (mD z m) → slot ρ 5 = some T.d → slot ρ 2 = some (nI c) → slot ρ 6 = some (.ref p) → R (outD (run m (ini m T c) (T.cnt ^ c - 1))) M1 → dCall sp_stand (dCons (dVar 3) (dCons (dVar 5) (dCons (dVar 2) (dCons (dOp dSub (dCB dLen (dCons (dVar 6) dNil)) (dC (.int 1))) dNil)))) ρ M1 R := fun {ρ R} h3 h5 h2 h6 r => by
    refine ⟨_, h3, _, h5, _, h2, _, h6, _, rfl, _, hp, _, 1, rfl, rfl, z, m, T, c, T.cnt ^ c - 1, ?_, hz, hm, hc, by omega, r⟩
    rw [List.length_map, hfl]
    have : ((((T.cnt ^ c : Nat) : Int)) - 1) = ((T.cnt ^ c - 1 : Nat) : Int) := by omega
    show [mD z m, T.d, nI c, D.int ((((T.cnt ^ c : Nat) : Int)) - 1)] = _
    rw [this]
  refine (show h1_5 _ _ _ from oc rfl rfl rfl (oc rfl rfl rfl ⟨_, _, rfl, ?_⟩))
  simp only [put]
  refine (show h1_6 _ _ _ from ocx rfl rfl rfl (std rfl rfl rfl rfl ⟨_, _, rfl, ?_⟩))
  simp only [put]
  refine (show h1_7 _ _ _ from es_ifB (b := false) (et_orB (x := false) (y := false) (et_is (et_andB (x := decide (((k : Nat) : Int) = 0)) (y := false) (et_eqI rfl) fun h => et_val fun R r => ?_) (by cases decide (((k : Nat) : Int) = 0) <;> rfl)) fun _ => et_is (et_andB (x := outc m T c) (y := outc (exch m) T c) (et_val fun R r => ⟨_, rfl, r⟩) fun _ => et_val fun R r => ⟨_, rfl, r⟩) (outc_ex hm hc)) (fun h => nomatch h) fun _ => ?_)
  · have hk : k = 0 := by have := of_decide_eq_true h; omega
    have so := seek_outc hm hc (hs hk)
    refine ⟨_, rfl, _, rfl, _, rfl, _, rfl, _, rfl, _, hp, ?_⟩
    refine ⟨_, ⟨rfl, _, .inr (.inl rfl), ?_, rfl⟩, ?_⟩
    · rw [cut_last, ← List.map_dropLast]
      exact flat_ints
    · rw [cut_last, ← List.map_dropLast, inF_ints, so]
      refine q_ne_bl ?_
      rw [beq_self_eq_true]
      exact r
  simp only [dNext]
  refine (show h1_8 _ _ _ from es_ifB (b := false) (et_orB (x := false) (y := false) (et_notB (x := true) (et_val fun R r => ⟨_, rfl, _, 3, rfl, r⟩)) fun _ => et_val fun R r => ?_) (fun h => nomatch h) fun _ => ?_)
  · refine eq_sts (z := z) (m := m) (x := run m (ini m T c) (T.cnt ^ c - 1)) rfl (fun R r => ⟨_, rfl, r⟩) ⟨_, rfl, ?_⟩
    refine q_ne_bl ?_
    rw [show outc m T c = decide ((run m (ini m T c) (T.cnt ^ c - 1)).1 = m.sts.length) from rfl, beq_self_eq_true]
    exact r
  simp only [dNext]
  obtain ⟨t1, ht1⟩ := rp_bl (outc m T c)
  obtain ⟨t2, ht2⟩ := rp_bl (outc (exch m) T c)
  obtain ⟨t3, ht3⟩ := (fine_out hm (gd_run hm (gd_ini hm hc) (T.cnt ^ c - 1)) hN).rp
  refine (show h1_9 _ _ _ from es_ifB (b := false) (et_orB (x := false) (y := false) (fun R r => ne_same ht1 (fun R r => ⟨_, rfl, r⟩) (fun R r => ⟨_, rfl, r⟩) (r _ rfl)) fun _ => fun R r => ne_same ht1 (fun R r => ⟨_, rfl, _, rfl, _, rfl, rfl, rfl, z, m, T, c, rfl, hz, hm, hc, r⟩) (fun R r => ⟨_, rfl, r⟩) (r _ rfl)) (fun h => nomatch h) fun _ => ?_)
  simp only [dNext]
  refine (show h1_10 _ _ _ from es_ifB (b := false) (fun R r => ne_same ht3 (fun R r => ⟨_, rfl, r⟩) (fun R r => std rfl rfl rfl rfl r) (r _ rfl)) (fun h => nomatch h) fun _ => ?_)
  simp only [dNext]
  refine (show h1_11 _ _ _ from es_ifB (b := false) (fun R r => ne_same ht2 (fun R r => ⟨_, rfl, r⟩) (fun R r => ocx rfl rfl rfl r) (r _ rfl)) (fun h => nomatch h) fun _ => ?_)
  exact q _ _ _ _ _ _ _ _ _ _ X
end
def sp_part : SpD := fun ds M R _ => ∃ a, ds = [.ref a] ∧ Deck M a ∧ R (.bl true) M
section
variable {P : Program} {w : World} {K : PySem.W.Frag} {mg : Str → Option Value} {base : Heap}
theorem h_ahead (G : Facts K mg) : Has P w K mg base CX0 "_law_ahead" s__law_ahead ["deck"] 16 sp_part := by
  refine has_view (k := 15) G.f__law_ahead sc__law_ahead (fun _ _ _ _ ⟨_, e, _⟩ => by rw [e]; rfl) (fun f cdv A outer s H E hr hG => p__law_ahead G ((h_stand G).mono (by decide)) ((h_outc G).mono (by decide)) ((h_draw G).mono (by decide)) ((h_pick G).mono (by decide)) ((h_lisTupZ G).mono (by decide)) ((h_tags G).mono (by decide)) (h_ltree G 12) ((h_tape G).mono (by decide)) ((h_lcells G).mono (by decide)) ((h_lstand G).mono (by decide)) ((h_loutc G).mono (by decide)) ((h_seek G).mono (by decide)) ((h_exch G).mono (by decide)) cdv A outer s H E hr hG) fun ds M R XR ⟨a, e, hd, q⟩ => ?_
  subst e
  show t__law_ahead sp_stand sp_outc sp_draw sp_pick sp_isTupZ sp_tags (sp_ltree 12) sp_tape sp_cells sp_stand sp_outc sp_seek sp_exch (endsOf K R) [some (.ref a), none, none, none, none, none, none, none, none, none, none] M
  rw [heq]
  simp only [dSeq]
  refine (show h1 _ _ _ from ?_)
  refine go_for (G := fun _ => True) (fun i ρ2 M2 => ExtO M M2 ∧ ∃ s1 s2 s3 s4 s5 s6 s7 s8 s9 s10, ρ2 = [some (.ref a), s1, s2, s3, s4, s5, s6, s7, s8, s9, s10]) (it_rng (te := dC (.int 3)) (m := 3) (by decide) fun R h => h) ⟨ExtO.refl, _, _, _, _, _, _, _, _, _, _, rfl⟩ (fun i d ρ2 M2 hi ⟨X, s1, s2, s3, s4, s5, s6, s7, s8, s9, s10, e⟩ => ?_) (fun ρ2 M2 ⟨X, s1, s2, s3, s4, s5, s6, s7, s8, s9, s10, e⟩ => ?_)
  · subst e
    obtain ⟨hi4, rfl⟩ := rng_at hi
    refine ⟨trivial, ?_⟩
    simp only [gNm, put]
    exact ahead_go (X.deck hd) fun M3 _ _ _ _ _ _ _ _ _ Y => ⟨X.trans Y, _, _, _, _, _, _, _, _, _, _, rfl⟩
  · subst e
    exact ⟨trivial, X.ends q⟩
theorem h_steps (G : Facts K mg) : Has P w K mg base CX0 "_law_are_steps_right" s__law_are_steps_right ["deck"] 16 sp_part := by
  refine has_view (k := 15) G.f__law_are_steps_right sc__law_are_steps_right (fun _ _ _ _ ⟨_, e, _⟩ => by rw [e]; rfl) (fun f cdv A outer s H E hr hG => p__law_are_steps_right G ((h_stand G).mono (by decide)) ((h_draw G).mono (by decide)) ((h_pick G).mono (by decide)) ((h_tags G).mono (by decide)) (h_ltree G 12) ((h_tape G).mono (by decide)) ((h_lcells G).mono (by decide)) ((h_lstand G).mono (by decide)) ((h_seek G).mono (by decide)) cdv A outer s H E hr hG) fun ds M R XR ⟨a, e, hd, q⟩ => ?_
  subst e
  show t__law_are_steps_right sp_stand sp_draw sp_pick sp_tags (sp_ltree 12) sp_tape sp_cells sp_stand sp_seek (endsOf K R) [some (.ref a), none, none, none, none, none, none, none, none] M
  rw [geq]
  simp only [dSeq]
  refine (show g1 _ _ _ from es_set (P := fun d => ∃ c : Nat, d = nI c ∧ (c = 1 ∨ c = 2)) (ev_pick hd rfl (ea_cons (ev_c ⟨1, rfl, .inl rfl⟩) (ea_cons (ev_c ⟨1, rfl, .inl rfl⟩) (ea_cons (ev_c ⟨2, rfl, .inr rfl⟩) ea_nil)))) fun d ⟨c, e, c12⟩ => ?_)
  subst e
  simp only [put]
  refine (show g2 _ _ _ from es_set (P := fun d => ∃ z m, d = mD z m ∧ Zt z m.tags ∧ MacOk m) (ev_if (et_eq ((ev_draw (m := 4) hd rfl).mono fun d ⟨i, e, _⟩ => ⟨i, e⟩)) (fun R r => ⟨_, rfl, a, rfl, hd, fun z m v hz hm _ => ⟨0, rfl, _, L2.atI_nat (j := 0) rfl, r _ ⟨z, m, rfl, hz, hm⟩⟩⟩) (fun R r => ⟨_, rfl, a, rfl, hd, fun z m hz hm => r _ ⟨z, m, rfl, hz, hm⟩⟩)) fun d ⟨z, m, e, hz, hm⟩ => ?_)
  subst e
  simp only [put]
  refine (show g3 _ _ _ from es_set (ev_tree (i := 1) (j := 2) hd rfl rfl c12 rfl hz hm) fun d ⟨T, e, hc⟩ => ?_)
  subst e
  simp only [put]
  have hfl := full_len (m := m) hc
  have hN := hc.l
  have hpos : 0 < T.cnt ^ c := Nat.pow_pos (cnt_pos (t := T))
  refine (show g4 _ _ _ from ⟨_, rfl, _, rfl, _, rfl, z, m, T, c, rfl, hz, hm, hc, fun p M1 hp0 hp X => ⟨_, rfl, _, hp, ?_⟩⟩)
  rw [List.length_map, hfl]
  simp only [put]
  have hd1 := X.deck hd
  refine (show g5 _ _ _ from es_set (P := fun d => ∃ j : Nat, d = nI j ∧ j ≤ 750) (fun R r => ⟨_, rfl, _, rfl, ?_⟩) fun d ⟨j, e, hj⟩ => ?_)
  · refine ⟨a, (((T.cnt ^ c : Nat) : Int) + 40), rfl, hd1, by omega, by omega, fun y y0 y1 => ?_⟩
    obtain ⟨x, rfl⟩ := Int.eq_ofNat_of_zero_le y0
    exact r _ ⟨x, rfl, by omega⟩
  subst e
  simp only [put]
  refine (show g6 _ _ _ from ?_)
  refine (show dVal _ _ M1 _ from ?_)
  refine ⟨_, rfl, _, rfl, _, rfl, _, rfl, a, (((T.cnt ^ c : Nat) : Int) + 1), rfl, hd1, by omega, by omega, fun y y0 y1 => ⟨(show 4 ≤ sizeLine by rw [sizeLine_eq]; decide), _, _, ⟨rfl, rfl⟩, ?_⟩⟩
  obtain ⟨x, rfl⟩ := Int.eq_ofNat_of_zero_le y0
  refine ⟨fun i ρ2 M2 => M2 = M1 ∧ ∃ s6 s7 s8, ρ2 = [some (.ref a), some (nI c), some (mD z m), some T.d, some (nI (T.cnt ^ c)), some (nI j), s6, s7, s8], ⟨rfl, _, _, _, rfl⟩, fun i d ρ2 M2 hi ⟨e1, s6, s7, s8, e2⟩ => ?_, fun ρ2 M2 ⟨e1, s6, s7, s8, e2⟩ => ?_⟩
  · subst e1 e2
    refine ⟨trivial, ?_⟩
    obtain ⟨n, rfl, hn⟩ : ∃ n : Nat, d = nI n ∧ n ≤ 900 := by
      match i, hi with
      | 0, hi => cases hi; exact ⟨0, rfl, by decide⟩
      | 1, hi => cases hi; exact ⟨j, rfl, by omega⟩
      | 2, hi => cases hi; exact ⟨j + 1, by show D.int _ = D.int _; congr 1, by omega⟩
      | 3, hi => cases hi; exact ⟨x, rfl, by omega⟩
      | i + 4, hi => simp at hi
    simp only [gNm, put]
    unfold g6b
    simp only [dSeq]
    have g := gd_run hm (gd_ini hm hc) n
    have F := fine_out hm g hN
    obtain ⟨t1, ht1⟩ := F.rp
    obtain ⟨t2, ht2⟩ := F.two
    refine (show g6_1 _ _ _ from ⟨_, rfl, _, rfl, _, rfl, _, rfl, z, m, T, c, n, rfl, hz, hm, hc, by omega, ?_⟩)
    simp only [put]
    refine (show g6_2 _ _ _ from ⟨_, rfl, _, rfl, _, rfl, _, rfl, z, m, T, c, n, rfl, hz, hm, hc, by omega, _, rfl, _, rfl, _, rfl, _, rfl, rfl, rfl, z, m, T, c, n, rfl, hz, hm, hc, by omega, q_z2, ?_⟩)
    simp only [put]
    refine (show g6_3 _ _ _ from es_ifB (b := false) (fun R r => ne_same ht2 (fun R r => ⟨_, rfl, r⟩) (fun R r => ⟨_, rfl, _, rfl, q_z2, r⟩) (r _ rfl)) (fun h => nomatch h) fun _ => ?_)
    simp only [dNext]
    refine (show g6_4 _ _ _ from es_ifB (b := false) (et_is (et_andB (x := decide (((m.sts.length : Nat) : Int) ≤ (((run m (ini m T c) n).1 : Nat) : Int))) (y := false) (et_val fun R r => ⟨_, rfl, 0, rfl, _, L2.atI_nat (j := 0) rfl, ix_sts (z := z) (m := m) rfl ⟨_, rfl, ?_⟩⟩) fun h => fun R r => ne_same ht1 (fun R r => ?_) (fun R r => ⟨_, rfl, r⟩) (r _ rfl)) (by cases decide (((m.sts.length : Nat) : Int) ≤ (((run m (ini m T c) n).1 : Nat) : Int)) <;> rfl)) (fun h => nomatch h) fun _ => ?_)
    · refine q_op_ge.mpr ?_
      rw [List.length_map]
      exact r
    · have hs : m.sts.length ≤ (run m (ini m T c) n).1 := by have := of_decide_eq_true h; omega
      refine ⟨_, rfl, _, rfl, _, rfl, _, rfl, z, m, T, c, n + 1, rfl, hz, hm, hc, by omega, ?_⟩
      rw [run_stop hs 1]
      exact r
    · exact ⟨rfl, _, _, _, rfl⟩
  · subst e1 e2
    exact ⟨trivial, X.ends q⟩
def sp_law : SpD := fun ds M R _ => ∃ ns : List Int, ds = [.lst (ns.map .int)] ∧ ns.length ≤ 63 ∧ ∀ M2, R (.bl true) M2
theorem h_law (G : Facts K mg) : Has P w K mg base CX0 "law" s_law ["script"] 17 sp_law := by
  refine has_view (k := 16) G.f_law sc_law (fun _ _ _ _ ⟨_, e, _⟩ => by rw [e]; rfl) (fun f cdv A outer s H E hr hG => p_law G ((h_deck G).mono (by decide)) (h_ahead G) (h_steps G) cdv A outer s H E hr hG) fun ds M R XR ⟨ns, e, hl, q⟩ => ?_
  subst e
  show t_law sp_deck sp_part sp_part (endsOf K R) [some (.lst (ns.map .int)), none] M
  simp only [t_law, dSeq]
  refine ⟨_, rfl, ns, rfl, hl, fun p M1 hd _ => ?_⟩
  simp only [put]
  exact ⟨_, rfl, p, rfl, hd, _, rfl, _, rfl, p, rfl, hd, .inl (q _)⟩
end
end Yk57

set_option Elab.async false
set_option linter.all false
set_option maxHeartbeats 8000000
set_option maxRecDepth 100000
open PySem PySem.W PyProof.Rows DL Yk57
set_option maxHeartbeats 0 in
theorem PySem.Challenge.cw_eyesforever_k57_outcomes_and_clocks_holds : PySem.Challenge.rw_eyesforever_k57_outcomes_and_clocks.Holds := by
  w_on; o_law; k_head; (case hw => w_witness2)
  k_fill
  refine DL.walkD (l := PySem.Challenge.rw_eyesforever_k57_outcomes_and_clocks) (n := 63) (k := 17) (x := "script") (sp := Yk57.sp_law) (st := Yk57.s_law) rfl (by decide) rfl ⟨rfl, by decide, by decide⟩ (fun w h Y => PySem.W.kIn_of Y) Yk57.B_law ?F (fun ns hl => ⟨ns, rfl, hl, fun _ => rfl⟩)
  case F =>
    intro w mg base KX G
    refine' Yk57.h_law (Yk57.facts_mk KX G ?a0 ?l0 ?c0 ?k0 ?a1 ?l1 ?c1 ?k1 ?a2 ?l2 ?c2 ?k2 ?a3 ?l3 ?c3 ?k3 ?a4 ?l4 ?c4 ?k4 ?a5 ?l5 ?c5 ?k5 ?a6 ?l6 ?c6 ?k6 ?a7 ?l7 ?c7 ?k7 ?a8 ?l8 ?c8 ?k8 ?a9 ?l9 ?c9 ?k9 ?a10 ?l10 ?c10 ?k10 ?a11 ?l11 ?c11 ?k11 ?a12 ?l12 ?c12 ?k12 ?a13 ?l13 ?c13 ?k13 ?a14 ?l14 ?c14 ?k14 ?a15 ?l15 ?c15 ?k15 ?a16 ?l16 ?c16 ?k16 ?a17 ?l17 ?c17 ?k17 ?a18 ?l18 ?c18 ?k18 ?a19 ?l19 ?c19 ?k19 ?a20 ?l20 ?c20 ?k20 ?a21 ?l21 ?c21 ?k21 ?a22 ?l22 ?c22 ?k22 ?a23 ?l23 ?c23 ?k23 ?a24 ?l24 ?c24 ?k24 ?a25 ?l25 ?c25 ?k25 ?a26 ?l26 ?c26 ?k26 ?a27 ?l27 ?c27 ?k27 ?a28 ?l28 ?c28 ?k28 ?a29 ?l29 ?c29 ?k29 ?a30 ?l30 ?c30 ?k30 ?a31 ?l31 ?c31 ?k31 ?a32 ?l32 ?c32 ?k32 ?a33 ?l33 ?c33 ?k33 ?a34 ?l34 ?c34 ?k34 ?a35 ?l35 ?c35 ?k35 ?a36 ?l36 ?c36 ?k36 ?z_all ?z_bool ?z_int ?z_isinstance ?z_len ?z_list ?z_max ?z_min ?z_range ?z_repr ?z_set ?z_sorted ?z_str ?z_tuple ?e_LONGEST_TAG ?e_MOVES ?o_MOVES ?e_SMALL ?gC_BadTree ?gC_EyesError ?gC_BadNumber ?gC_BadMachine ?xL_BadTree ?sa_BadTree ?ga_BadTree ?gg_BadTree ?no_BadTree ?i_BadTree ?t_BadTree ?l_BadTree ?c_BadTree ?k_BadTree ?e_BadTree ?ty_BadTree ?h_BadTree ?ac_BadTree ?mo_BadTree ?xL_BadNumber ?sa_BadNumber ?ga_BadNumber ?gg_BadNumber ?no_BadNumber ?i_BadNumber ?t_BadNumber ?l_BadNumber ?c_BadNumber ?k_BadNumber ?e_BadNumber ?ty_BadNumber ?h_BadNumber ?ac_BadNumber ?mo_BadNumber ?xL_BadMachine ?sa_BadMachine ?ga_BadMachine ?gg_BadMachine ?no_BadMachine ?i_BadMachine ?t_BadMachine ?l_BadMachine ?c_BadMachine ?k_BadMachine ?e_BadMachine ?ty_BadMachine ?h_BadMachine ?ac_BadMachine ?mo_BadMachine)
    (case a0 => k_is); (case l0 => k_is); (case c0 => k_is); (case k0 => k_is); (case a1 => k_is); (case l1 => k_is); (case c1 => k_is); (case k1 => k_is); (case a2 => k_is); (case l2 => k_is); (case c2 => k_is); (case k2 => k_is); (case a3 => k_is); (case l3 => k_is); (case c3 => k_is); (case k3 => k_is); (case a4 => k_is); (case l4 => k_is); (case c4 => k_is); (case k4 => k_is); (case a5 => k_is); (case l5 => k_is); (case c5 => k_is); (case k5 => k_is); (case a6 => k_is); (case l6 => k_is); (case c6 => k_is); (case k6 => k_is); (case a7 => k_is); (case l7 => k_is); (case c7 => k_is); (case k7 => k_is); (case a8 => k_is); (case l8 => k_is); (case c8 => k_is); (case k8 => k_is); (case a9 => k_is); (case l9 => k_is); (case c9 => k_is); (case k9 => k_is); (case a10 => k_is); (case l10 => k_is); (case c10 => k_is); (case k10 => k_is); (case a11 => k_is); (case l11 => k_is); (case c11 => k_is); (case k11 => k_is); (case a12 => k_is); (case l12 => k_is); (case c12 => k_is); (case k12 => k_is); (case a13 => k_is); (case l13 => k_is); (case c13 => k_is); (case k13 => k_is); (case a14 => k_is); (case l14 => k_is); (case c14 => k_is); (case k14 => k_is); (case a15 => k_is); (case l15 => k_is); (case c15 => k_is); (case k15 => k_is); (case a16 => k_is); (case l16 => k_is); (case c16 => k_is); (case k16 => k_is); (case a17 => k_is); (case l17 => k_is); (case c17 => k_is); (case k17 => k_is); (case a18 => k_is); (case l18 => k_is); (case c18 => k_is); (case k18 => k_is); (case a19 => k_is); (case l19 => k_is); (case c19 => k_is); (case k19 => k_is); (case a20 => k_is); (case l20 => k_is); (case c20 => k_is); (case k20 => k_is); (case a21 => k_is); (case l21 => k_is); (case c21 => k_is); (case k21 => k_is); (case a22 => k_is); (case l22 => k_is); (case c22 => k_is); (case k22 => k_is); (case a23 => k_is); (case l23 => k_is); (case c23 => k_is); (case k23 => k_is); (case a24 => k_is); (case l24 => k_is); (case c24 => k_is); (case k24 => k_is); (case a25 => k_is); (case l25 => k_is); (case c25 => k_is); (case k25 => k_is); (case a26 => k_is); (case l26 => k_is); (case c26 => k_is); (case k26 => k_is); (case a27 => k_is); (case l27 => k_is); (case c27 => k_is); (case k27 => k_is); (case a28 => k_is); (case l28 => k_is); (case c28 => k_is); (case k28 => k_is); (case a29 => k_is); (case l29 => k_is); (case c29 => k_is); (case k29 => k_is); (case a30 => k_is); (case l30 => k_is); (case c30 => k_is); (case k30 => k_is); (case a31 => k_is); (case l31 => k_is); (case c31 => k_is); (case k31 => k_is); (case a32 => k_is); (case l32 => k_is); (case c32 => k_is); (case k32 => k_is); (case a33 => k_is); (case l33 => k_is); (case c33 => k_is); (case k33 => k_is); (case a34 => k_is); (case l34 => k_is); (case c34 => k_is); (case k34 => k_is); (case a35 => k_is); (case l35 => k_is); (case c35 => k_is); (case k35 => k_is); (case a36 => k_is); (case l36 => k_is); (case c36 => k_is); (case k36 => k_is); (case z_all => k_is); (case z_bool => k_is); (case z_int => k_is); (case z_isinstance => k_is); (case z_len => k_is); (case z_list => k_is); (case z_max => k_is); (case z_min => k_is); (case z_range => k_is); (case z_repr => k_is); (case z_set => k_is); (case z_sorted => k_is); (case z_str => k_is); (case z_tuple => k_is); (case e_LONGEST_TAG => first | k_is | rfl | kernel_rfl | decide +kernel); (case e_MOVES => first | k_is | rfl | kernel_rfl | decide +kernel); (case o_MOVES => k_is); (case e_SMALL => first | k_is | rfl | kernel_rfl | decide +kernel); (case gC_BadTree => k_is); (case gC_EyesError => k_is); (case gC_BadNumber => k_is); (case gC_BadMachine => k_is); (case xL_BadTree => first | k_is | rfl | kernel_rfl | decide +kernel); (case sa_BadTree => first | k_is | rfl | kernel_rfl | decide +kernel); (case ga_BadTree => first | k_is | rfl | kernel_rfl | decide +kernel); (case gg_BadTree => first | k_is | rfl | kernel_rfl | decide +kernel); (case no_BadTree => first | k_is | rfl | kernel_rfl | decide +kernel); (case i_BadTree => first | k_is | rfl | kernel_rfl | decide +kernel); (case t_BadTree => first | k_is | rfl | kernel_rfl | decide +kernel); (case l_BadTree => first | k_is | rfl | kernel_rfl | decide +kernel); (case c_BadTree => first | k_is | rfl | kernel_rfl | decide +kernel); (case k_BadTree => first | k_is | rfl | kernel_rfl | decide +kernel); (case e_BadTree => first | k_is | rfl | kernel_rfl | decide +kernel); (case ty_BadTree => first | k_is | rfl | kernel_rfl | decide +kernel); (case h_BadTree => first | k_is | rfl | kernel_rfl | decide +kernel); (case ac_BadTree => first | k_is | rfl | kernel_rfl | decide +kernel); (case mo_BadTree => first | k_is | rfl | kernel_rfl | decide +kernel); (case xL_BadNumber => first | k_is | rfl | kernel_rfl | decide +kernel); (case sa_BadNumber => first | k_is | rfl | kernel_rfl | decide +kernel); (case ga_BadNumber => first | k_is | rfl | kernel_rfl | decide +kernel); (case gg_BadNumber => first | k_is | rfl | kernel_rfl | decide +kernel); (case no_BadNumber => first | k_is | rfl | kernel_rfl | decide +kernel); (case i_BadNumber => first | k_is | rfl | kernel_rfl | decide +kernel); (case t_BadNumber => first | k_is | rfl | kernel_rfl | decide +kernel); (case l_BadNumber => first | k_is | rfl | kernel_rfl | decide +kernel); (case c_BadNumber => first | k_is | rfl | kernel_rfl | decide +kernel); (case k_BadNumber => first | k_is | rfl | kernel_rfl | decide +kernel); (case e_BadNumber => first | k_is | rfl | kernel_rfl | decide +kernel); (case ty_BadNumber => first | k_is | rfl | kernel_rfl | decide +kernel); (case h_BadNumber => first | k_is | rfl | kernel_rfl | decide +kernel); (case ac_BadNumber => first | k_is | rfl | kernel_rfl | decide +kernel); (case mo_BadNumber => first | k_is | rfl | kernel_rfl | decide +kernel); (case xL_BadMachine => first | k_is | rfl | kernel_rfl | decide +kernel); (case sa_BadMachine => first | k_is | rfl | kernel_rfl | decide +kernel); (case ga_BadMachine => first | k_is | rfl | kernel_rfl | decide +kernel); (case gg_BadMachine => first | k_is | rfl | kernel_rfl | decide +kernel); (case no_BadMachine => first | k_is | rfl | kernel_rfl | decide +kernel); (case i_BadMachine => first | k_is | rfl | kernel_rfl | decide +kernel); (case t_BadMachine => first | k_is | rfl | kernel_rfl | decide +kernel); (case l_BadMachine => first | k_is | rfl | kernel_rfl | decide +kernel); (case c_BadMachine => first | k_is | rfl | kernel_rfl | decide +kernel); (case k_BadMachine => first | k_is | rfl | kernel_rfl | decide +kernel); (case e_BadMachine => first | k_is | rfl | kernel_rfl | decide +kernel); (case ty_BadMachine => first | k_is | rfl | kernel_rfl | decide +kernel); (case h_BadMachine => first | k_is | rfl | kernel_rfl | decide +kernel); (case ac_BadMachine => first | k_is | rfl | kernel_rfl | decide +kernel); (case mo_BadMachine => first | k_is | rfl | kernel_rfl | decide +kernel)

