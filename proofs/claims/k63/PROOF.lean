import PyProof.Rows.All
import Wide.All
import OpenK.AllK
import Wide.FinOn
import HandS.ForMost
import HandS.TupAny
import HandS.IsInst
import HandS.Conv
import HandS.DictComp
import HandS.Flow
import KE.KDictKeyed
import KE.KDictLaw
import HandS.Deep
import KE.SortKeyHeap
import HandS.SortKw
import KE.GoesEnum
import HandS.Iter
import HandS.Exc
import HandS.WordsExc
import HandS.ExcIs
import HandS.Small
import PySem.Challenge.RW_looporpile_k63_nodes_counted
set_option Elab.async false
set_option linter.all false
set_option maxRecDepth 100000
set_option maxHeartbeats 2000000
/-! A layer of data over the hand layer: what a slot holds is told as data D; lists, dicts, instances of one's own stand in a ledger. -/
namespace DL
open PySem L2

/-- data: what a value is, through all that it reaches. lst, dk, ins: read only (fz: a list that may be known to the object). ref: an object of the ledger -/
inductive D where
  | non | bl (b : Bool) | int (i : Int) | str (s : Str) | ref (a : Addr)
  | tup (ds : List D) | lst (ds : List D) | fz (ds : List D) | dk (ks : List Key) (ds : List D) | ins (C : Addr) (fs : List Str) (ds : List D)

def Ext (H H' : Hp) : Prop := ∀ a o, H a = some o → H' a = some o
theorem Ext.refl (H : Hp) : Ext H H := fun _ _ h => h
theorem Ext.trans {H H1 H2 : Hp} (a : Ext H H1) (b : Ext H1 H2) : Ext H H2 := fun x o h => b x o (a x o h)
theorem Ext.new {H : Hp} {p : Addr} {o : HO} (h : H p = none) : Ext H (upd H p o) := fun a u e => by
  rw [upd_ne (ne_of_none e h)]; exact e
theorem Ext.free {H H' : Hp} (e : Ext H H') {p : Addr} (h : H' p = none) : H p = none := by
  cases q : H p with
  | none => rfl
  | some o => rw [e p o q] at h; cases h
/-- tuples stay -/
def Tx (H H' : Hp) : Prop := ∀ a xs, Rd H a (.tup xs) → Rd H' a (.tup xs)
theorem Ext.tx {H H' : Hp} (e : Ext H H') : Tx H H' := fun a xs h => by
  rcases h with h | ⟨o, h⟩
  · exact .inl (e _ _ h)
  · exact .inr ⟨o, e _ _ h⟩
theorem Tx.refl (H : Hp) : Tx H H := fun _ _ h => h
theorem Tx.trans {H H1 H2 : Hp} (a : Tx H H1) (b : Tx H1 H2) : Tx H H2 := fun x o h => b x o (a x o h)
theorem Ext.rd {H H' : Hp} (e : Ext H H') {a : Addr} {u : HO} (h : Rd H a u) : Rd H' a u := by
  rcases h with h | ⟨o, h⟩
  · exact .inl (e _ _ h)
  · exact .inr ⟨o, e _ _ h⟩
theorem Ext.sql {K : PySem.W.Frag} {H H' : Hp} (e : Ext H H') {a : Addr} {xs : List V} (h : SqL K H a xs) : SqL K H' a xs := by
  rcases h with h | h
  · exact .inl (e.rd h)
  · exact .inr h
theorem Tx.sqt {K : PySem.W.Frag} {H H' : Hp} (e : Tx H H') {a : Addr} {xs : List V} (h : SqT K H a xs) : SqT K H' a xs := by
  rcases h with h | h
  · exact .inl (e _ _ h)
  · exact .inr h

mutual
inductive Is (K : PySem.W.Frag) (B H : Hp) : V → D → Prop
  | non : Is K B H .non .non
  | bl (b : Bool) : Is K B H (.bl b) (.bl b)
  | int (i : Int) : Is K B H (.int i) (.int i)
  | str (s : Str) : Is K B H (.str s) (.str s)
  | ref (a : Addr) : Is K B H (.ref a) (.ref a)
  | tup {a : Addr} {xs : List V} {ds : List D} : SqT K H a xs → IsL K B H xs ds → Is K B H (.ref a) (.tup ds)
  | lst {a : Addr} {xs : List V} {ds : List D} : B a = some (.lst xs) → IsL K B H xs ds → Is K B H (.ref a) (.lst ds)
  | fz {a : Addr} {xs : List V} {ds : List D} : SqL K B a xs → IsL K B H xs ds → Is K B H (.ref a) (.fz ds)
  | dk {a : Addr} {ws : List (Key × V)} {ks : List Key} {ds : List D} : B a = some (.dK ws) → ws.map (·.1) = ks → IsL K B H (ws.map (·.2)) ds → Is K B H (.ref a) (.dk ks ds)
  | ins {a C dx : Addr} {ws : List (Str × V)} {fs : List Str} {ds : List D} : B a = some (.ins C dx ws) → ws.map (·.1) = fs → IsL K B H (ws.map (·.2)) ds → Is K B H (.ref a) (.ins C fs ds)
inductive IsL (K : PySem.W.Frag) (B H : Hp) : List V → List D → Prop
  | nil : IsL K B H [] []
  | cons {v : V} {d : D} {vs : List V} {ds : List D} : Is K B H v d → IsL K B H vs ds → IsL K B H (v :: vs) (d :: ds)
end

section
variable {K : PySem.W.Frag} {B B' H H' : Hp}
mutual
theorem Is.mono (b : Ext B B') (t : Tx H H') : ∀ {v : V} {d : D}, Is K B H v d → Is K B' H' v d
  | _, _, .non => .non
  | _, _, .bl b => .bl b
  | _, _, .int i => .int i
  | _, _, .str s => .str s
  | _, _, .ref a => .ref a
  | _, _, .tup h l => .tup (t.sqt h) (IsL.mono b t l)
  | _, _, .lst h l => .lst (b _ _ h) (IsL.mono b t l)
  | _, _, .fz h l => .fz (b.sql h) (IsL.mono b t l)
  | _, _, .dk h e l => .dk (b _ _ h) e (IsL.mono b t l)
  | _, _, .ins h e l => .ins (b _ _ h) e (IsL.mono b t l)
theorem IsL.mono (b : Ext B B') (t : Tx H H') : ∀ {vs : List V} {ds : List D}, IsL K B H vs ds → IsL K B' H' vs ds
  | _, _, .nil => .nil
  | _, _, .cons h l => .cons (Is.mono b t h) (IsL.mono b t l)
end
theorem IsL.length : ∀ {vs : List V} {ds : List D}, IsL K B H vs ds → vs.length = ds.length
  | _, _, .nil => rfl
  | _, _, .cons _ l => by simp [IsL.length l]
theorem IsL.get : ∀ {vs : List V} {ds : List D} {i : Nat} {d : D}, IsL K B H vs ds → ds[i]? = some d → ∃ v, vs[i]? = some v ∧ Is K B H v d
  | _, _, _, _, .nil, e => by simp at e
  | _, _, 0, _, .cons h _, e => by simp at e; subst e; exact ⟨_, rfl, h⟩
  | _, _, i + 1, d, .cons _ l, e => by
    obtain ⟨v, h1, h2⟩ := IsL.get (i := i) (d := d) l (by simpa using e)
    exact ⟨v, by simpa using h1, h2⟩
theorem IsL.getV : ∀ {vs : List V} {ds : List D} {i : Nat} {v : V}, IsL K B H vs ds → vs[i]? = some v → ∃ d, ds[i]? = some d ∧ Is K B H v d
  | _, _, _, _, .nil, e => by simp at e
  | _, _, 0, _, .cons h _, e => by simp at e; subst e; exact ⟨_, rfl, h⟩
  | _, _, i + 1, d, .cons _ l, e => by
    obtain ⟨v, h1, h2⟩ := IsL.getV (i := i) (v := d) l (by simpa using e)
    exact ⟨v, by simpa using h1, h2⟩
theorem IsL.append : ∀ {vs ws : List V} {ds es : List D}, IsL K B H vs ds → IsL K B H ws es → IsL K B H (vs ++ ws) (ds ++ es)
  | _, _, _, _, .nil, s => s
  | _, _, _, _, .cons r t, s => .cons r (IsL.append t s)
theorem IsL.set {v : V} {d : D} (r : Is K B H v d) : ∀ {vs : List V} {ds : List D} (i : Nat), IsL K B H vs ds → IsL K B H (vs.set i v) (ds.set i d)
  | _, _, _, .nil => .nil
  | _, _, 0, .cons _ t => .cons r t
  | _, _, i + 1, .cons q t => .cons q (IsL.set r i t)
theorem IsL.take : ∀ {vs : List V} {ds : List D} (n : Nat), IsL K B H vs ds → IsL K B H (vs.take n) (ds.take n)
  | _, _, 0, _ => by simpa using IsL.nil
  | _, _, _ + 1, .nil => .nil
  | _, _, n + 1, .cons r t => .cons r (IsL.take n t)
theorem IsL.drop : ∀ {vs : List V} {ds : List D} (n : Nat), IsL K B H vs ds → IsL K B H (vs.drop n) (ds.drop n)
  | _, _, 0, r => r
  | _, _, _ + 1, .nil => .nil
  | _, _, n + 1, .cons _ t => IsL.drop n t
theorem IsL.ints : ∀ (ns : List Int), IsL K B H (ns.map V.int) (ns.map D.int)
  | [] => .nil
  | _ :: r => .cons (.int _) (IsL.ints r)
theorem IsL.strs : ∀ (ns : List Str), IsL K B H (ns.map V.str) (ns.map D.str)
  | [] => .nil
  | _ :: r => .cons (.str _) (IsL.strs r)
theorem IsL.refs : ∀ (ns : List Addr), IsL K B H (ns.map V.ref) (ns.map D.ref)
  | [] => .nil
  | _ :: r => .cons (.ref _) (IsL.refs r)
theorem IsL.of_ints : ∀ {vs : List V} {ns : List Int}, IsL K B H vs (ns.map D.int) → vs = ns.map V.int
  | _, [], .nil => rfl
  | _, n :: r, .cons (.int _) t => by rw [IsL.of_ints t]; rfl
theorem IsL.of_strs : ∀ {vs : List V} {ns : List Str}, IsL K B H vs (ns.map D.str) → vs = ns.map V.str
  | _, [], .nil => rfl
  | _, n :: r, .cons (.str _) t => by rw [IsL.of_strs t]; rfl
theorem IsL.of_bls : ∀ {vs : List V} {ns : List Bool}, IsL K B H vs (ns.map D.bl) → vs = ns.map V.bl
  | _, [], .nil => rfl
  | _, n :: r, .cons (.bl _) t => by rw [IsL.of_bls t]; rfl
theorem IsL.of_refs : ∀ {vs : List V} {ns : List Addr}, IsL K B H vs (ns.map D.ref) → vs = ns.map V.ref
  | _, [], .nil => rfl
  | _, n :: r, .cons (.ref _) t => by rw [IsL.of_refs t]; rfl
end

/-! ### keys of dicts -/
mutual
def nkD : D → NestedKey
  | .int i => .num i
  | .str s => .text s
  | .bl b => .num (if b = true then 1 else 0)
  | .tup ds => .tup (nkDs ds)
  | _ => .none
def nkDs : List D → List NestedKey
  | [] => []
  | d :: ds => nkD d :: nkDs ds
end
mutual
def nkOk : D → Bool
  | .int _ => true
  | .str _ => true
  | .bl _ => true
  | .non => true
  | .tup ds => nkOks ds
  | _ => false
def nkOks : List D → Bool
  | [] => true
  | d :: ds => nkOk d && nkOks ds
end
/-- a dict at a, with the entries xs -/
def DnO (w : World) (a : Addr) (xs : List (NestedKey × Addr × Value)) : HO := .ext fun h => (a == sysModules) = false ∧ (xs.map (·.1)).Nodup ∧ ∃ o es ep, h.get? a = some o ∧ o.ExactDict ∧ o.data = .dict es ep ∧ es.toList = xs.map (fun e => ⟨e.1.hash w, .ref e.2.1, e.2.2⟩)
/-- an entry: its key, its value -/
def EntIs (K : PySem.W.Frag) (B H : Hp) (p : D × D) (q : NestedKey × Addr × Value) : Prop := nkOk p.1 = true ∧ (nkD p.1).depth ≤ 8 ∧ q.1 = nkD p.1 ∧ Is K B H (.ref q.2.1) p.1 ∧ ∃ v, RelV v q.2.2 ∧ Is K B H v p.2
theorem EntIs.mono {K : PySem.W.Frag} {B B' H H' : Hp} {p : D × D} {q : NestedKey × Addr × Value} (b : Ext B B') (t : Tx H H') (h : EntIs K B H p q) : EntIs K B' H' p q := by
  obtain ⟨h1, h2, h3, h4, v, h5, h6⟩ := h
  exact ⟨h1, h2, h3, h4.mono b t, v, h5, h6.mono b t⟩
/-! ### the ledger -/
inductive MO where
  | lst (ds : List D) | dk (ks : List Key) (ds : List D) | ins (C : Addr) (fs : List Str) (ds : List D)
  /-- a list of lists of one's own -/
  | ll (qs : List Addr) (dss : List (List D))
  /-- a dict whose keys are tuples -/
  | dn (w : World) (kvs : List (D × D))
  /-- what is known of something that is read only -/
  | kn (d : D)
abbrev Led := List (Addr × MO)
def fp1 (e : Addr × MO) : List Addr := match e.2 with
  | .ll qs _ => e.1 :: qs
  | .kn _ => []
  | _ => [e.1]
def fps (Γ : Led) : List Addr := Γ.flatMap fp1
/-- a list at a of the data ds -/
def LAt (K : PySem.W.Frag) (B H : Hp) (a : Addr) (ds : List D) : Prop := ∃ xs, H a = some (.lst xs) ∧ IsL K B H xs ds
def MIs (K : PySem.W.Frag) (B H : Hp) (a : Addr) : MO → Prop
  | .dn w kvs => ∃ xs, H a = some (DnO w a xs) ∧ Paired (EntIs K B H) kvs xs
  | .kn d => Is K B H (.ref a) d
  | .lst ds => LAt K B H a ds
  | .dk ks ds => ∃ ws, H a = some (.dK ws) ∧ ws.map (·.1) = ks ∧ IsL K B H (ws.map (·.2)) ds
  | .ins C fs ds => ∃ dx ws, H a = some (.ins C dx ws) ∧ ws.map (·.1) = fs ∧ IsL K B H (ws.map (·.2)) ds
  | .ll qs dss => H a = some (.lst (qs.map V.ref)) ∧ qs.length = dss.length ∧ ∀ (i : Nat) q ds, qs[i]? = some q → dss[i]? = some ds → LAt K B H q ds

section
variable {K : PySem.W.Frag} {B B' H H' : Hp}
theorem LAt.mono {a : Addr} {ds : List D} (b : Ext B B') (t : Tx H H') (k : ∀ o, H a = some o → H' a = some o) (h : LAt K B H a ds) : LAt K B' H' a ds := by
  obtain ⟨xs, e, l⟩ := h
  exact ⟨xs, k _ e, l.mono b t⟩
theorem MIs.mono {a : Addr} {m : MO} (b : Ext B B') (t : Tx H H') (k : ∀ x ∈ fp1 (a, m), ∀ o, H x = some o → H' x = some o) (h : MIs K B H a m) : MIs K B' H' a m := by
  cases m with
  | dn w kvs => obtain ⟨xs, e, l⟩ := h; exact ⟨xs, k a (by simp [fp1]) _ e, Paired.mapP l fun _ _ z => z.mono b t⟩
  | kn d => exact Is.mono b t h
  | lst ds => exact LAt.mono b t (k a (by simp [fp1])) h
  | dk ks ds => obtain ⟨ws, e, f, l⟩ := h; exact ⟨ws, k a (by simp [fp1]) _ e, f, l.mono b t⟩
  | ins C fs ds => obtain ⟨dx, ws, e, f, l⟩ := h; exact ⟨dx, ws, k a (by simp [fp1]) _ e, f, l.mono b t⟩
  | ll qs dss =>
    obtain ⟨e, z, l⟩ := h
    refine ⟨k a (by simp [fp1]) _ e, z, fun i q ds h1 h2 => (l i q ds h1 h2).mono b t (k q ?_)⟩
    simp only [fp1, List.mem_cons]
    exact .inr (List.mem_of_getElem? h1)
theorem MIs.there {a : Addr} {m : MO} (h : MIs K B H a m) : ∀ x ∈ fp1 (a, m), ∃ o, H x = some o ∧ Mut (some o) := by
  intro x hx
  cases m with
  | dn w kvs => obtain ⟨xs, e, _⟩ := h; simp [fp1] at hx; subst hx; exact ⟨_, e, trivial⟩
  | kn d => simp [fp1] at hx
  | lst ds => obtain ⟨xs, e, _⟩ := h; simp [fp1] at hx; subst hx; exact ⟨_, e, trivial⟩
  | dk ks ds => obtain ⟨xs, e, _⟩ := h; simp [fp1] at hx; subst hx; exact ⟨_, e, trivial⟩
  | ins C fs ds => obtain ⟨dx, xs, e, _⟩ := h; simp [fp1] at hx; subst hx; exact ⟨_, e, trivial⟩
  | ll qs dss =>
    obtain ⟨e, z, l⟩ := h
    simp only [fp1, List.mem_cons] at hx
    rcases hx with rfl | hx
    · exact ⟨_, e, trivial⟩
    · obtain ⟨i, hi⟩ := List.mem_iff_getElem?.mp hx
      obtain ⟨hlt, _⟩ := List.getElem?_eq_some_iff.mp hi
      obtain ⟨xs, e2, _⟩ := l i x _ hi (List.getElem?_eq_getElem (by omega : i < dss.length))
      exact ⟨_, e2, trivial⟩
end

/-- the state: R what stands through the def, Z the part of it that is read only, B what is read only now, H the heap -/
structure W1 (K : PySem.W.Frag) (R Z B H : Hp) (σ : L2.St) (E : List (Option D)) (Γ : Led) : Prop where
  rh : Ext R H
  bh : Ext B H
  b0 : Ext Z B
  rb : ∀ a o, B a = some o → Z a = some o ∨ R a = none
  len : σ.length = E.length
  env : ∀ (i : Nat) (d : D), E[i]? = some (some d) → ∃ v, σ[i]? = some (some v) ∧ Is K B H v d
  obj : ∀ e ∈ Γ, MIs K B H e.1 e.2
  nd : (fps Γ).Nodup
  fr : ∀ a ∈ fps Γ, R a = none ∧ B a = none

section
variable {K : PySem.W.Frag} {R Z B B' H H' : Hp} {σ : L2.St} {E : List (Option D)} {Γ : Led}
theorem mem_fps {Γ : Led} {a : Addr} (h : a ∈ fps Γ) : ∃ e ∈ Γ, a ∈ fp1 e := List.mem_flatMap.mp h
theorem W1.there (w : W1 K R Z B H σ E Γ) {a : Addr} (h : a ∈ fps Γ) : ∃ o, H a = some o ∧ Mut (some o) := by
  obtain ⟨e, he, ha⟩ := mem_fps h
  exact (w.obj e he).there a ha
/-- the heap grows -/
theorem W1.grow (w : W1 K R Z B H σ E Γ) (x : Ext H H') : W1 K R Z B H' σ E Γ :=
  ⟨w.rh.trans x, w.bh.trans x, w.b0, w.rb, w.len, fun i d e => let ⟨v, h1, h2⟩ := w.env i d e; ⟨v, h1, h2.mono (Ext.refl _) x.tx⟩,
    fun e he => (w.obj e he).mono (Ext.refl _) x.tx fun _ _ o => x _ o, w.nd, w.fr⟩
/-- a new object, read only from then on -/
theorem W1.frz {p : Addr} {o : HO} (w : W1 K R Z B H σ E Γ) (hp : H p = none) : W1 K R Z (upd B p o) (upd H p o) σ E Γ := by
  have x : Ext H (upd H p o) := Ext.new hp
  have hB : B p = none := w.bh.free hp
  have hR : R p = none := w.rh.free hp
  have b : Ext B (upd B p o) := Ext.new hB
  refine ⟨w.rh.trans x, fun a u e => ?_, w.b0.trans b, fun a u e => ?_, w.len, fun i d e => let ⟨v, h1, h2⟩ := w.env i d e; ⟨v, h1, h2.mono b x.tx⟩,
    fun e he => (w.obj e he).mono b x.tx fun _ _ o => x _ o, w.nd, fun a ha => ?_⟩
  · by_cases h : a = p
    · subst h; rw [upd_same] at e ⊢; exact e
    · rw [upd_ne h] at e; rw [upd_ne h]; exact w.bh _ _ e
  · by_cases h : a = p
    · subst h; exact .inr hR
    · rw [upd_ne h] at e; exact w.rb _ _ e
  · obtain ⟨u, hu, _⟩ := w.there ha
    have : a ≠ p := ne_of_none hu hp
    rw [upd_ne this]
    exact w.fr a ha
/-- a new object of one's own -/
theorem W1.own {p : Addr} {m : MO} (w : W1 K R Z B H σ E Γ) (x : Ext H H') (hp : H p = none) (hf : fp1 (p, m) = [p]) (h : MIs K B H' p m) : W1 K R Z B H' σ E ((p, m) :: Γ) := by
  have w' := w.grow x
  have hn : p ∉ fps Γ := fun z => by obtain ⟨o, e, _⟩ := w.there z; rw [hp] at e; cases e
  refine ⟨w'.rh, w'.bh, w'.b0, w'.rb, w'.len, w'.env, fun e he => ?_, ?_, fun a ha => ?_⟩
  · rcases List.mem_cons.mp he with rfl | he
    · exact h
    · exact w'.obj e he
  · show (fp1 (p, m) ++ fps Γ).Nodup
    rw [hf]
    exact List.nodup_cons.mpr ⟨hn, w.nd⟩
  · have ha : a ∈ fp1 (p, m) ++ fps Γ := ha
    rw [hf] at ha
    rcases List.mem_cons.mp ha with rfl | ha
    · exact ⟨w.rh.free hp, w.bh.free hp⟩
    · exact w.fr a ha
theorem tx_upd {p : Addr} {o : HO} (h : Mut (H p)) : Tx H (upd H p o) := fun a xs r => by
  have ne : a ≠ p := by
    intro z; subst z
    rcases r with r | ⟨u, r⟩
    · rw [r] at h; exact h
    · rw [r] at h; exact h
  rcases r with r | ⟨u, r⟩
  · exact .inl (by rw [upd_ne ne]; exact r)
  · exact .inr ⟨u, by rw [upd_ne ne]; exact r⟩
theorem fps_cons (e : Addr × MO) (Γ : Led) : fps (e :: Γ) = fp1 e ++ fps Γ := rfl
theorem mem_fps_of {Γ : Led} {e : Addr × MO} (he : e ∈ Γ) {a : Addr} (ha : a ∈ fp1 e) : a ∈ fps Γ := List.mem_flatMap.mpr ⟨e, he, ha⟩
theorem fps_set : ∀ {Γ : Led} {n : Nat} {e e' : Addr × MO}, Γ[n]? = some e → fp1 e' = fp1 e → fps (Γ.set n e') = fps Γ
  | [], n, e, e', h, _ => by simp at h
  | x :: Γ, 0, e, e', h, hf => by
    simp at h; subst h
    show fp1 e' ++ fps Γ = fp1 x ++ fps Γ
    rw [hf]
  | x :: Γ, n + 1, e, e', h, hf => by
    show fp1 x ++ fps (Γ.set n e') = fp1 x ++ fps Γ
    rw [fps_set (by simpa using h) hf]
theorem nd_other : ∀ {Γ : Led} {n m : Nat} {e f : Addr × MO} {a : Addr}, (fps Γ).Nodup → Γ[n]? = some e → Γ[m]? = some f → a ∈ fp1 e → a ∈ fp1 f → n = m
  | [], n, m, e, f, a, _, h, _, _, _ => by simp at h
  | x :: Γ, 0, 0, e, f, a, _, _, _, _, _ => rfl
  | x :: Γ, 0, m + 1, e, f, a, hn, h1, h2, ha, hb => by
    simp at h1; subst h1
    exact absurd (mem_fps_of (List.mem_of_getElem? (by simpa using h2)) hb) (fun z => (List.nodup_append.mp hn).2.2 a ha a z rfl)
  | x :: Γ, n + 1, 0, e, f, a, hn, h1, h2, ha, hb => by
    simp at h2; subst h2
    exact absurd (mem_fps_of (List.mem_of_getElem? (by simpa using h1)) ha) (fun z => (List.nodup_append.mp hn).2.2 a hb a z rfl)
  | x :: Γ, n + 1, m + 1, e, f, a, hn, h1, h2, ha, hb => by
    exact congrArg Nat.succ (nd_other (Γ := Γ) (n := n) (m := m) (List.nodup_append.mp hn).2.1 (by simpa using h1) (by simpa using h2) ha hb)
/-- something known is noted -/
theorem W1.know {e : Addr × MO} (w : W1 K R Z B H σ E Γ) (hf : fp1 e = []) (h : MIs K B H e.1 e.2) : W1 K R Z B H σ E (e :: Γ) :=
  ⟨w.rh, w.bh, w.b0, w.rb, w.len, w.env, fun x hx => (List.mem_cons.mp hx).elim (fun z => z ▸ h) (w.obj x), by rw [fps_cons, hf]; exact w.nd, fun a ha => by rw [fps_cons, hf] at ha; exact w.fr a ha⟩
/-- an object of one's own is written -/
theorem W1.mut {n : Nat} {a p : Addr} {m m' : MO} {o : HO} (w : W1 K R Z B H σ E Γ) (hn : Γ[n]? = some (a, m)) (hp : p ∈ fp1 (a, m)) (hf : fp1 (a, m') = fp1 (a, m)) (h : MIs K B (upd H p o) a m') : W1 K R Z B (upd H p o) σ E (Γ.set n (a, m')) := by
  have hpm : p ∈ fps Γ := mem_fps_of (List.mem_of_getElem? hn) hp
  obtain ⟨fR, fB⟩ := w.fr p hpm
  obtain ⟨u, hu, mu⟩ := w.there hpm
  have t : Tx H (upd H p o) := tx_upd (by rw [hu]; exact mu)
  have k : ∀ {X : Hp}, X p = none → ∀ a o', X a = some o' → a ≠ p := fun hx a o' e z => by subst z; rw [hx] at e; cases e
  refine ⟨fun a u e => by rw [upd_ne (k fR a u e)]; exact w.rh _ _ e, fun a u e => by rw [upd_ne (k fB a u e)]; exact w.bh _ _ e, w.b0, w.rb, w.len, fun i d e => let ⟨v, h1, h2⟩ := w.env i d e; ⟨v, h1, h2.mono (Ext.refl _) t⟩, fun e he => ?_, ?_, fun x hx => ?_⟩
  · obtain ⟨j, hj⟩ := List.mem_iff_getElem?.mp he
    by_cases hjn : j = n
    · subst hjn
      rw [List.getElem?_set_self (List.getElem?_eq_some_iff.mp hn).1] at hj
      cases hj
      exact h
    · rw [List.getElem?_set_ne (Ne.symm hjn)] at hj
      refine (w.obj e (List.mem_of_getElem? hj)).mono (Ext.refl _) t fun x hx o' hxo => ?_
      rw [upd_ne]
      · exact hxo
      · rintro rfl
        exact hjn (nd_other w.nd hj hn hx hp)
  · rw [fps_set hn hf]; exact w.nd
  · rw [fps_set hn hf] at hx; exact w.fr x hx
/-- a slot is stored -/
theorem W1.store {i : Nat} {v : V} {d : D} (w : W1 K R Z B H σ E Γ) (h : Is K B H v d) : W1 K R Z B H (σ.set i (some v)) (E.set i (some d)) Γ :=
  ⟨w.rh, w.bh, w.b0, w.rb, by simp [w.len], fun j d' e => by
    by_cases hj : j = i
    · subst hj
      by_cases hl : j < E.length
      · rw [List.getElem?_set_self hl] at e
        cases e
        exact ⟨v, List.getElem?_set_self (by rw [w.len]; exact hl), h⟩
      · rw [List.getElem?_eq_none (by simpa using hl)] at e; cases e
    · rw [List.getElem?_set_ne (Ne.symm hj)] at e
      obtain ⟨u, h1, h2⟩ := w.env j d' e
      exact ⟨u, by rw [List.getElem?_set_ne (Ne.symm hj)]; exact h1, h2⟩, w.obj, w.nd, w.fr⟩
/-- less is known -/
def Weak (E E' : List (Option D)) : Prop := E.length = E'.length ∧ ∀ (i : Nat) (d : D), E'[i]? = some (some d) → E[i]? = some (some d)
theorem W1.weak {E' : List (Option D)} (w : W1 K R Z B H σ E Γ) (h : Weak E E') : W1 K R Z B H σ E' Γ :=
  ⟨w.rh, w.bh, w.b0, w.rb, w.len.trans h.1, fun i d e => w.env i d (h.2 i d e), w.obj, w.nd, w.fr⟩
theorem Weak.refl (E : List (Option D)) : Weak E E := ⟨rfl, fun _ _ h => h⟩
theorem Weak.nil : Weak [] [] := Weak.refl _
theorem Weak.same {x : Option D} {E E' : List (Option D)} (h : Weak E E') : Weak (x :: E) (x :: E') :=
  ⟨by simp [h.1], fun i d e => by
    cases i with
    | zero => exact e
    | succ i => exact h.2 i d e⟩
theorem Weak.drop {x : Option D} {E E' : List (Option D)} (h : Weak E E') : Weak (x :: E) (none :: E') :=
  ⟨by simp [h.1], fun i d e => by
    cases i with
    | zero => simp at e
    | succ i => exact h.2 i d e⟩
/-- objects may be let go, and stand in any order -/
theorem W1.led {Γ' : Led} (w : W1 K R Z B H σ E Γ) (h : ∀ e ∈ Γ', e ∈ Γ) (nd : (fps Γ').Nodup) : W1 K R Z B H σ E Γ' :=
  ⟨w.rh, w.bh, w.b0, w.rb, w.len, w.env, fun e he => w.obj e (h e he), nd, fun a ha => by
    obtain ⟨e, he, ha⟩ := mem_fps ha
    exact w.fr a (mem_fps_of (h e he) ha)⟩
theorem fps_sub {Γ Γ' : Led} (h : Γ'.Sublist Γ) : (fps Γ').Sublist (fps Γ) := by
  induction h with
  | slnil => exact List.Sublist.refl _
  | cons a _ ih => exact ih.trans (List.sublist_append_right _ _)
  | cons_cons a _ ih => exact List.Sublist.append (List.Sublist.refl _) ih
theorem W1.sub {Γ' : Led} (w : W1 K R Z B H σ E Γ) (h : Γ'.Sublist Γ) : W1 K R Z B H σ E Γ' :=
  w.led (fun e he => h.subset he) (w.nd.sublist (fps_sub h))
end
end DL
set_option Elab.async false
set_option linter.all false
set_option maxRecDepth 100000
set_option maxHeartbeats 2000000
/-! What expressions evaluate to, by data. -/
namespace DL
open PySem L2
section defs
variable (K : PySem.W.Frag) (R Z : Hp) (E : List (Option D)) (Γ : Led)
def EvD (te : TE) (d : D) : Prop := ∀ B H σ, W1 K R Z B H σ E Γ → ∀ Q : VK, (∀ v B' H', Ext B B' → Ext H H' → W1 K R Z B' H' σ E Γ → Is K B' H' v d → Q v H') → te σ H Q
/-- a new object of one's own -/
def EvN (te : TE) (m : MO) : Prop := ∀ B H σ, W1 K R Z B H σ E Γ → ∀ Q : VK, (∀ p B' H', Ext B B' → Ext H H' → fp1 (p, m) = [p] → W1 K R Z B' H' σ E ((p, m) :: Γ) → Q (.ref p) H') → te σ H Q
def EvT (tt : TT) (b : Bool) : Prop := ∀ B H σ, W1 K R Z B H σ E Γ → ∀ Q : Bool → Hp → Prop, (∀ B' H', Ext B B' → Ext H H' → W1 K R Z B' H' σ E Γ → Q b H') → tt σ H Q
def EvA (ta : TA) (ds : List D) : Prop := ∀ B H σ, W1 K R Z B H σ E Γ → ∀ Q : List V → Hp → Prop, (∀ vs B' H', Ext B B' → Ext H H' → W1 K R Z B' H' σ E Γ → IsL K B' H' vs ds → Q vs H') → ta σ H Q
def EvO (to : TO) (o : Option Int) : Prop := ∀ B H σ, W1 K R Z B H σ E Γ → ∀ Q : Option Int → Hp → Prop, (∀ B' H', Ext B B' → Ext H H' → W1 K R Z B' H' σ E Γ → Q o H') → to σ H Q
/-- operations on values -/
def RV (r : R2) (x y z : D) : Prop := ∀ B H σ vx vy, W1 K R Z B H σ E Γ → Is K B H vx x → Is K B H vy y → ∀ Q : VK, (∀ v B' H', Ext B B' → Ext H H' → W1 K R Z B' H' σ E Γ → Is K B' H' v z → Q v H') → r vx vy H Q
def RN (r : R2) (x y : D) (m : MO) : Prop := ∀ B H σ vx vy, W1 K R Z B H σ E Γ → Is K B H vx x → Is K B H vy y → ∀ Q : VK, (∀ p B' H', Ext B B' → Ext H H' → fp1 (p, m) = [p] → W1 K R Z B' H' σ E ((p, m) :: Γ) → Q (.ref p) H') → r vx vy H Q
def RC (r : List V → Hp → VK → Prop) (xs : List D) (z : D) : Prop := ∀ B H σ vs, W1 K R Z B H σ E Γ → IsL K B H vs xs → ∀ Q : VK, (∀ v B' H', Ext B B' → Ext H H' → W1 K R Z B' H' σ E Γ → Is K B' H' v z → Q v H') → r vs H Q
def RCN (r : List V → Hp → VK → Prop) (xs : List D) (m : MO) : Prop := ∀ B H σ vs, W1 K R Z B H σ E Γ → IsL K B H vs xs → ∀ Q : VK, (∀ p B' H', Ext B B' → Ext H H' → fp1 (p, m) = [p] → W1 K R Z B' H' σ E ((p, m) :: Γ) → Q (.ref p) H') → r vs H Q
end defs
section
variable {K : PySem.W.Frag} {R Z : Hp} {E : List (Option D)} {Γ : Led} {ta tb te tc : TE} {x y z d : D} {r : R2} {t u : TT}
theorem ev_var {i : Nat} (h : E[i]? = some (some d)) : EvD K R Z E Γ (tVar i) d := fun B H σ w Q q =>
  let ⟨v, h1, h2⟩ := w.env i d h
  ⟨v, h1, q v B H (Ext.refl _) (Ext.refl _) w h2⟩
theorem ev_int {i : Int} : EvD K R Z E Γ (tC (.int i)) (.int i) := fun B H σ w Q q => q _ B H (Ext.refl _) (Ext.refl _) w (.int i)
theorem ev_bl {i : Bool} : EvD K R Z E Γ (tC (.bl i)) (.bl i) := fun B H σ w Q q => q _ B H (Ext.refl _) (Ext.refl _) w (.bl i)
theorem ev_str {i : Str} : EvD K R Z E Γ (tC (.str i)) (.str i) := fun B H σ w Q q => q _ B H (Ext.refl _) (Ext.refl _) w (.str i)
theorem ev_non : EvD K R Z E Γ (tC .non) .non := fun B H σ w Q q => q _ B H (Ext.refl _) (Ext.refl _) w .non
theorem ev_is (h : EvD K R Z E Γ te x) (e : x = y) : EvD K R Z E Γ te y := e ▸ h
theorem et_is {a b : Bool} (h : EvT K R Z E Γ t a) (e : a = b) : EvT K R Z E Γ t b := e ▸ h
theorem ev_op (ha : EvD K R Z E Γ ta x) (hb : EvD K R Z E Γ tb y) (hr : RV K R Z E Γ r x y z) : EvD K R Z E Γ (tOp r ta tb) z := fun B H σ w Q q =>
  ha B H σ w _ fun v B1 H1 b1 h1 w1 i1 => hb B1 H1 σ w1 _ fun u B2 H2 b2 h2 w2 i2 =>
    hr B2 H2 σ v u w2 (i1.mono b2 h2.tx) i2 Q fun v' B3 H3 b3 h3 w3 i3 => q v' B3 H3 ((b1.trans b2).trans b3) ((h1.trans h2).trans h3) w3 i3
theorem en_op {m : MO} (ha : EvD K R Z E Γ ta x) (hb : EvD K R Z E Γ tb y) (hr : RN K R Z E Γ r x y m) : EvN K R Z E Γ (tOp r ta tb) m := fun B H σ w Q q =>
  ha B H σ w _ fun v B1 H1 b1 h1 w1 i1 => hb B1 H1 σ w1 _ fun u B2 H2 b2 h2 w2 i2 =>
    hr B2 H2 σ v u w2 (i1.mono b2 h2.tx) i2 Q fun v' B3 H3 b3 h3 f3 w3 => q v' B3 H3 ((b1.trans b2).trans b3) ((h1.trans h2).trans h3) f3 w3
theorem ev_un {r : V → Hp → VK → Prop} (ha : EvD K R Z E Γ ta x) (hr : ∀ B H σ vx, W1 K R Z B H σ E Γ → Is K B H vx x → ∀ Q : VK, (∀ v, Is K B H v z → Q v H) → r vx H Q) : EvD K R Z E Γ (tUn r ta) z := fun B H σ w Q q =>
  ha B H σ w _ fun v B1 H1 b1 h1 w1 i1 => hr B1 H1 σ v w1 i1 Q fun v' i2 => q v' B1 H1 b1 h1 w1 i2
theorem ev_neg {i : Int} (ha : EvD K R Z E Γ ta (.int i)) : EvD K R Z E Γ (tUn (rU fun i => .int (-i)) ta) (.int (-i)) := ev_un ha fun B H σ vx w h Q q => by
  cases h; exact ⟨i, rfl, q _ (.int _)⟩
/-- what a new object is as data -/
def mD : MO → D
  | .lst ds => .lst ds
  | .dk ks ds => .dk ks ds
  | .ins C fs ds => .ins C fs ds
  | .ll qs dss => .lst (dss.map .lst)
  | .kn d => d
  | .dn _ _ => .ref 0
theorem isl_refs {K : PySem.W.Frag} {B B' H : Hp} (b : Ext B B') : ∀ {qs : List Addr} {dss : List (List D)}, qs.length = dss.length → (∀ (i : Nat) q ds, qs[i]? = some q → dss[i]? = some ds → LAt K B H q ds) → (∀ q ∈ qs, ∀ o, H q = some o → B' q = some o) →
    IsL K B' H (qs.map V.ref) (dss.map D.lst)
  | [], [], _, _, _ => .nil
  | [], _ :: _, h, _, _ => by simp at h
  | _ :: _, [], h, _, _ => by simp at h
  | q :: qs, ds :: dss, h, l, k => by
    obtain ⟨xs, e, i⟩ := l 0 q ds rfl rfl
    exact .cons (.lst (k q (by simp) _ e) (i.mono b (Tx.refl _))) (isl_refs b (by simpa using h) (fun i q ds h1 h2 => l (i + 1) q ds (by simpa using h1) (by simpa using h2)) fun q hq => k q (by simp [hq]))
/-- an object of one's own is let go: from now on it is read only -/
theorem W1.freeze {B H : Hp} {σ : L2.St} {p : Addr} {m : MO} (w : W1 K R Z B H σ E ((p, m) :: Γ)) (hd : ∀ w kvs, m ≠ .dn w kvs := by intro _ _ z; cases z) : ∃ B', Ext B B' ∧ W1 K R Z B' H σ E Γ ∧ Is K B' H (.ref p) (mD m) := by
  let B' : Hp := fun a => if a ∈ fp1 (p, m) then H a else B a
  have nd : (fp1 (p, m) ++ fps Γ).Nodup := w.nd
  have hb : Ext B B' := fun a o e => by
    show (if a ∈ fp1 (p, m) then H a else B a) = some o
    by_cases h : a ∈ fp1 (p, m)
    · rw [if_pos h]; exact w.bh _ _ e
    · rw [if_neg h]; exact e
  have hB : ∀ a ∈ fp1 (p, m), ∀ o, H a = some o → B' a = some o := fun a ha o e => by
    show (if a ∈ fp1 (p, m) then H a else B a) = some o
    rw [if_pos ha]; exact e
  refine ⟨B', hb, ⟨w.rh, fun a o e => ?_, w.b0.trans hb, fun a o e => ?_, w.len, fun i d e => let ⟨v, h1, h2⟩ := w.env i d e; ⟨v, h1, h2.mono hb (Tx.refl _)⟩,
    fun e he => (w.obj e (List.mem_cons_of_mem _ he)).mono hb (Tx.refl _) fun _ _ _ h => h, (List.nodup_append.mp nd).2.1, fun a ha => ?_⟩, ?_⟩
  · have e : (if a ∈ fp1 (p, m) then H a else B a) = some o := e
    by_cases h : a ∈ fp1 (p, m)
    · rw [if_pos h] at e; exact e
    · rw [if_neg h] at e; exact w.bh _ _ e
  · have e : (if a ∈ fp1 (p, m) then H a else B a) = some o := e
    by_cases h : a ∈ fp1 (p, m)
    · exact .inr (w.fr a (List.mem_append_left _ h)).1
    · rw [if_neg h] at e; exact w.rb _ _ e
  · have z := w.fr a (List.mem_append_right _ ha)
    refine ⟨z.1, ?_⟩
    show (if a ∈ fp1 (p, m) then H a else B a) = none
    rw [if_neg fun h => (List.nodup_append.mp nd).2.2 a h a ha rfl]
    exact z.2
  · have o := w.obj (p, m) (List.mem_cons_self)
    cases m with
    | dn w2 kvs => exact absurd rfl (hd w2 kvs)
    | kn d => exact Is.mono hb (Tx.refl _) o
    | lst ds => obtain ⟨xs, e, l⟩ := o; exact .lst (hB p (by simp [fp1]) _ e) (l.mono hb (Tx.refl _))
    | dk ks ds => obtain ⟨xs, e, f, l⟩ := o; exact .dk (hB p (by simp [fp1]) _ e) f (l.mono hb (Tx.refl _))
    | ins C fs ds => obtain ⟨dx, xs, e, f, l⟩ := o; exact .ins (hB p (by simp [fp1]) _ e) f (l.mono hb (Tx.refl _))
    | ll qs dss =>
      obtain ⟨e, z, l⟩ := o
      exact .lst (hB p (by simp [fp1]) _ e) (isl_refs hb z l fun q hq o h => hB q (by simp [fp1, hq]) o h)
theorem ev_frz {m : MO} (h : EvN K R Z E Γ te m) (hd : ∀ w kvs, m ≠ .dn w kvs := by intro _ _ z; cases z) : EvD K R Z E Γ te (mD m) := fun B H σ w Q q => h B H σ w Q fun p B1 H1 b1 h1 _ w1 => by
  obtain ⟨B2, b2, w2, i⟩ := w1.freeze hd
  exact q _ B2 H1 (b1.trans b2) h1 w2 i
theorem ev_frzL {ds : List D} (h : EvN K R Z E Γ te (.lst ds)) : EvD K R Z E Γ te (.lst ds) := ev_frz h
/-! arguments -/
theorem ea_nil : EvA K R Z E Γ tNil [] := fun B H σ w Q q => q [] B H (Ext.refl _) (Ext.refl _) w .nil
theorem ea_cons {tr : TA} {ds : List D} (h : EvD K R Z E Γ te d) (hr : EvA K R Z E Γ tr ds) : EvA K R Z E Γ (tCons te tr) (d :: ds) := fun B H σ w Q q =>
  h B H σ w _ fun v B1 H1 b1 h1 w1 i1 => hr B1 H1 σ w1 _ fun vs B2 H2 b2 h2 w2 i2 => q _ B2 H2 (b1.trans b2) (h1.trans h2) w2 (.cons (i1.mono b2 h2.tx) i2)
theorem ev_tup {tr : TA} {ds : List D} (h : EvA K R Z E Γ tr ds) (hl : ds.length ≤ sizeLine := by decide) : EvD K R Z E Γ (tTup tr) (.tup ds) := fun B H σ w Q q =>
  h B H σ w _ fun vs B1 H1 b1 h1 w1 i1 => ⟨by rw [i1.length]; exact hl, fun p hp =>
    q _ B1 _ b1 (h1.trans (Ext.new hp)) (w1.grow (Ext.new hp)) (.tup (.inl (.inl upd_same)) (i1.mono (Ext.refl _) (Ext.new hp).tx))⟩
theorem en_lst {tr : TA} {ds : List D} (h : EvA K R Z E Γ tr ds) (hl : ds.length ≤ sizeLine := by decide) : EvN K R Z E Γ (tLst tr) (.lst ds) := fun B H σ w Q q =>
  h B H σ w _ fun vs B1 H1 b1 h1 w1 i1 => ⟨by rw [i1.length]; exact hl, fun p hp =>
    q p B1 _ b1 (h1.trans (Ext.new hp)) rfl (w1.own (Ext.new hp) hp rfl ⟨vs, upd_same, i1.mono (Ext.refl _) (Ext.new hp).tx⟩)⟩
theorem en_dk : EvN K R Z E Γ tDNewK (.dk [] []) := fun B H σ w Q q p hp =>
    q p B _ (Ext.refl _) (Ext.new hp) rfl (w.own (Ext.new hp) hp rfl ⟨[], upd_same, rfl, .nil⟩)
/-! ints -/
theorem rv_II {g : Int → Int → Int} {i j : Int} : RV K R Z E Γ (rI0 fun i j => .int (g i j)) (.int i) (.int j) (.int (g i j)) := fun B H σ vx vy w ix iy Q q => by
  cases ix; cases iy; exact ⟨i, j, rfl, rfl, q _ B H (Ext.refl _) (Ext.refl _) w (.int _)⟩
theorem rv_IB {g : Int → Int → Bool} {i j : Int} : RV K R Z E Γ (rI0 fun i j => .bl (g i j)) (.int i) (.int j) (.bl (g i j)) := fun B H σ vx vy w ix iy Q q => by
  cases ix; cases iy; exact ⟨i, j, rfl, rfl, q _ B H (Ext.refl _) (Ext.refl _) w (.bl _)⟩
theorem rv_IC {C : Int → Int → Prop} {g : Int → Int → Int} {i j : Int} (hc : C i j) : RV K R Z E Γ (rI C fun i j => .int (g i j)) (.int i) (.int j) (.int (g i j)) := fun B H σ vx vy w ix iy Q q => by
  cases ix; cases iy; exact ⟨i, j, rfl, rfl, hc, q _ B H (Ext.refl _) (Ext.refl _) w (.int _)⟩
theorem rv_val {b : V → V → V} {C : V → V → Prop} {x y z : D} {r : R2} (h : ∀ B H vx vy, Is K B H vx x → Is K B H vy y → ∃ v, Is K B H v z ∧ ∀ Q : VK, Q v H → r vx vy H Q) : RV K R Z E Γ r x y z := fun B H σ vx vy w ix iy Q q => by
  obtain ⟨v, i, k⟩ := h B H vx vy ix iy
  exact k Q (q v B H (Ext.refl _) (Ext.refl _) w i)
theorem rv_eqI {i j : Int} : RV K R Z E Γ rEq (.int i) (.int j) (.bl (decide (i = j))) := fun B H σ vx vy w ix iy Q q => by
  cases ix; cases iy
  refine ⟨rfl, ?_⟩
  have e : decide (V.int i = V.int j) = decide (i = j) := by simp
  rw [e]
  exact q _ B H (Ext.refl _) (Ext.refl _) w (.bl _)
theorem rv_neI {i j : Int} : RV K R Z E Γ rNe (.int i) (.int j) (.bl (!decide (i = j))) := fun B H σ vx vy w ix iy Q q => by
  cases ix; cases iy
  refine ⟨rfl, ?_⟩
  have e : decide (V.int i = V.int j) = decide (i = j) := by simp
  rw [e]
  exact q _ B H (Ext.refl _) (Ext.refl _) w (.bl _)
theorem rv_eqS {i j : Str} : RV K R Z E Γ rEq (.str i) (.str j) (.bl (decide (i = j))) := fun B H σ vx vy w ix iy Q q => by
  cases ix; cases iy
  refine ⟨rfl, ?_⟩
  have e : decide (V.str i = V.str j) = decide (i = j) := by simp
  rw [e]
  exact q _ B H (Ext.refl _) (Ext.refl _) w (.bl _)
theorem rv_neS {i j : Str} : RV K R Z E Γ rNe (.str i) (.str j) (.bl (!decide (i = j))) := fun B H σ vx vy w ix iy Q q => by
  cases ix; cases iy
  refine ⟨rfl, ?_⟩
  have e : decide (V.str i = V.str j) = decide (i = j) := by simp
  rw [e]
  exact q _ B H (Ext.refl _) (Ext.refl _) w (.bl _)
/-- text + text -/
def rAddS2 : R2 := fun x y H Q => ∃ i j, x = .str i ∧ y = .str j ∧ i.length + j.length ≤ sizeLine ∧ Q (.str (i ++ j)) H
theorem op_addS2 {X : Cx} : OpR X (binaryOp .Add) rAddS2 := op_add_str
theorem rv_addS {i j : Str} (h : i.length + j.length ≤ sizeLine) : RV K R Z E Γ rAddS2 (.str i) (.str j) (.str (i ++ j)) := fun B H σ vx vy w ix iy Q q => by
  cases ix; cases iy; exact ⟨i, j, rfl, rfl, h, q _ B H (Ext.refl _) (Ext.refl _) w (.str _)⟩
/-- a + b, of ints, texts, tuples, lists -/
def rAddI : R2 := rI0 fun i j => .int (i + j)
def rAddU (K : PySem.W.Frag) : R2 := fun x y H Q => rAddI x y H Q ∨ (rAddS2 x y H Q ∨ (rCatA K x y H Q ∨ rCat x y H Q))
theorem op_addU {X : Cx} : OpR X (binaryOp .Add) (rAddU X.K) := OpR.or (r := rAddI) op_add (OpR.or op_addS2 (OpR.or op_catA op_cat))
theorem ru_addI {i j : Int} : RV K R Z E Γ (rAddU K) (.int i) (.int j) (.int (i + j)) := fun B H σ vx vy w ix iy Q q => .inl (rv_II (g := fun i j => i + j) B H σ vx vy w ix iy Q q)
theorem ru_addS {i j : Str} (h : i.length + j.length ≤ sizeLine) : RV K R Z E Γ (rAddU K) (.str i) (.str j) (.str (i ++ j)) := fun B H σ vx vy w ix iy Q q => .inr (.inl (rv_addS h B H σ vx vy w ix iy Q q))
theorem ru_addT {i j : List D} (h : i.length + j.length ≤ sizeLine) : RV K R Z E Γ (rAddU K) (.tup i) (.tup j) (.tup (i ++ j)) := fun B H σ vx vy w ix iy Q q => by
  refine .inr (.inr (.inl ?_))
  cases ix with
  | tup h1 l1 =>
    cases iy with
    | tup h2 l2 =>
      refine ⟨_, _, _, _, rfl, rfl, h1, h2, by rw [l1.length, l2.length]; exact h, fun e => ?_, fun _ e => ?_, fun _ _ p hp => ?_⟩
      · subst e
        cases l1
        exact q _ B H (Ext.refl _) (Ext.refl _) w (.tup h2 (by simpa using l2))
      · subst e
        cases l2
        exact q _ B H (Ext.refl _) (Ext.refl _) w (.tup h1 (by simpa using l1))
      · exact q _ B _ (Ext.refl _) (Ext.new hp) (w.grow (Ext.new hp)) (.tup (.inl (.inl upd_same)) ((l1.append l2).mono (Ext.refl _) (Ext.new hp).tx))
theorem rn_addL {i j : List D} (h : i.length + j.length ≤ sizeLine) : RN K R Z E Γ (rAddU K) (.lst i) (.lst j) (.lst (i ++ j)) := fun B H σ vx vy w ix iy Q q => by
  refine .inr (.inr (.inr ?_))
  cases ix with
  | lst h1 l1 =>
    cases iy with
    | lst h2 l2 =>
      exact ⟨_, _, _, _, rfl, rfl, w.bh _ _ h1, w.bh _ _ h2, by rw [l1.length, l2.length]; exact h, fun p hp => 
        q p B _ (Ext.refl _) (Ext.new hp) rfl (w.own (Ext.new hp) hp rfl ⟨_, upd_same, (l1.append l2).mono (Ext.refl _) (Ext.new hp).tx⟩)⟩
/-! places -/
theorem isl_at {B H : Hp} {xs : List V} {ds : List D} {i : Int} (l : IsL K B H xs ds) (h : atI ds i = some d) : ∃ v, atI xs i = some v ∧ Is K B H v d := by
  unfold atI at h ⊢
  rw [l.length]
  cases e : ixN ds.length i with
  | none => rw [e] at h; cases h
  | some j =>
    rw [e] at h
    exact l.get (i := j) h
theorem rv_ixT {ds : List D} {i : Int} (h : atI ds i = some d) : RV K R Z E Γ (rIx K) (.tup ds) (.int i) d := fun B H σ vx vy w ix iy Q q => by
  cases iy
  cases ix with
  | tup h1 l1 =>
    obtain ⟨v, e, iv⟩ := isl_at l1 h
    exact .inr (.inl ⟨_, _, i, v, rfl, rfl, h1, e, q v B H (Ext.refl _) (Ext.refl _) w iv⟩)
theorem rv_ixL {ds : List D} {i : Int} (h : atI ds i = some d) : RV K R Z E Γ (rIx K) (.lst ds) (.int i) d := fun B H σ vx vy w ix iy Q q => by
  cases iy
  cases ix with
  | lst h1 l1 =>
    obtain ⟨v, e, iv⟩ := isl_at l1 h
    exact .inl ⟨_, _, i, v, rfl, rfl, .of (w.bh _ _ h1), e, q v B H (Ext.refl _) (Ext.refl _) w iv⟩
theorem rv_ixF {ds : List D} {i : Int} (h : atI ds i = some d) : RV K R Z E Γ (rIx K) (.fz ds) (.int i) d := fun B H σ vx vy w ix iy Q q => by
  cases iy
  cases ix with
  | fz h1 l1 =>
    obtain ⟨v, e, iv⟩ := isl_at l1 h
    exact .inl ⟨_, _, i, v, rfl, rfl, w.bh.sql h1, e, q v B H (Ext.refl _) (Ext.refl _) w iv⟩
theorem rv_ixS {s : Str} {i : Int} {c : Nat} (hl : s.length ≤ sizeLine) (h : atI s.cps.toList i = some c) : RV K R Z E Γ (rIx K) (.str s) (.int i) (.str ⟨#[c]⟩) := fun B H σ vx vy w ix iy Q q => by
  cases iy; cases ix
  exact .inr (.inr ⟨s, i, c, rfl, rfl, hl, h, q _ B H (Ext.refl _) (Ext.refl _) w (.str _)⟩)
/-- of an own list -/
theorem rv_ixO {n : Nat} {a : Addr} {ds : List D} {i : Int} (hn : Γ[n]? = some (a, .lst ds)) (h : atI ds i = some d) : RV K R Z E Γ (rIx K) (.ref a) (.int i) d := fun B H σ vx vy w ix iy Q q => by
  cases iy; cases ix
  obtain ⟨xs, e1, l1⟩ := w.obj _ (List.mem_of_getElem? hn)
  obtain ⟨v, e, iv⟩ := isl_at l1 h
  exact .inl ⟨_, _, i, v, rfl, rfl, .of e1, e, q v B H (Ext.refl _) (Ext.refl _) w iv⟩
/-! lengths -/
def DLen : D → Nat → Prop
  | .str s, n => s.length ≤ sizeLine ∧ n = s.length
  | .tup ds, n => n = ds.length
  | .lst ds, n => n = ds.length
  | .fz ds, n => n = ds.length
  | _, _ => False
def rLen1 (K : PySem.W.Frag) : List V → Hp → VK → Prop := fun xs H Q => ∃ x n, xs = [x] ∧ LenV K x H n ∧ Q (.int n) H
def rLenDk : List V → Hp → VK → Prop := fun xs H Q => ∃ d kvs, xs = [.ref d] ∧ H d = some (.dK kvs) ∧ Q (.int (kvs.length : Nat)) H
def rLenU (K : PySem.W.Frag) : List V → Hp → VK → Prop := fun xs H Q => rLen1 K xs H Q ∨ rLenDk xs H Q
theorem CallR.or' {X : Cx} {f : Value} {r r' : List V → Hp → VK → Prop} (h : CallR X f r) (h' : CallR X f r') : CallR X f (fun xs H Q => r xs H Q ∨ r' xs H Q) := by
  intro pins s σ H xs us Q I rr q
  rcases q with q | q
  · exact h pins s σ H xs us Q I rr q
  · exact h' pins s σ H xs us Q I rr q
theorem call_lenU {X : Cx} : CallR X (.builtin "len") (rLenU X.K) := CallR.or' (r := rLen1 X.K) (r' := rLenDk) call_len call_lenD
theorem rc_len {x : D} {n : Nat} (h : DLen x n) : RC K R Z E Γ (rLenU K) [x] (.int (n : Int)) := fun B H σ vs w l Q q => by
  cases l with
  | cons i1 l1 =>
    cases l1
    refine .inl ⟨_, n, rfl, ?_, q _ B H (Ext.refl _) (Ext.refl _) w (.int _)⟩
    cases i1 with
    | str s => exact h
    | tup h1 l1 => exact .inr ⟨_, h1, by rw [l1.length]; exact h⟩
    | lst h1 l1 => exact .inl ⟨_, .of (w.bh _ _ h1), by rw [l1.length]; exact h⟩
    | fz h1 l1 => exact .inl ⟨_, w.bh.sql h1, by rw [l1.length]; exact h⟩
    | _ => exact h.elim
theorem rc_lenO {a : Addr} {n : Nat} {ds : List D} (hn : Γ[n]? = some (a, .lst ds)) : RC K R Z E Γ (rLenU K) [.ref a] (.int (ds.length : Int)) := fun B H σ vs w l Q q => by
  cases l with
  | cons i1 l1 =>
    cases l1
    cases i1
    obtain ⟨xs, e1, l1⟩ := w.obj _ (List.mem_of_getElem? hn)
    refine .inl ⟨_, xs.length, rfl, .inl ⟨_, .of e1, rfl⟩, ?_⟩
    rw [l1.length]
    exact q _ B H (Ext.refl _) (Ext.refl _) w (.int _)
theorem rc_lenK {ks : List Key} {ds : List D} : RC K R Z E Γ (rLenU K) [.dk ks ds] (.int (ks.length : Int)) := fun B H σ vs w l Q q => by
  cases l with
  | cons i1 l1 =>
    cases l1
    cases i1 with
    | dk h1 e1 l1 =>
      refine .inr ⟨_, _, rfl, w.bh _ _ h1, ?_⟩
      subst e1
      rw [← List.length_map (f := (·.1))]
      exact q _ B H (Ext.refl _) (Ext.refl _) w (.int _)
theorem rc_lenOK {a : Addr} {n : Nat} {ks : List Key} {ds : List D} (hn : Γ[n]? = some (a, .dk ks ds)) : RC K R Z E Γ (rLenU K) [.ref a] (.int (ks.length : Int)) := fun B H σ vs w l Q q => by
  cases l with
  | cons i1 l1 =>
    cases l1
    cases i1
    obtain ⟨ws, e1, f1, l1⟩ := w.obj _ (List.mem_of_getElem? hn)
    refine .inr ⟨_, _, rfl, e1, ?_⟩
    subst f1
    rw [← List.length_map (f := (·.1))]
    exact q _ B H (Ext.refl _) (Ext.refl _) w (.int _)
theorem ev_cb {r : List V → Hp → VK → Prop} {tr : TA} {ds : List D} (h : EvA K R Z E Γ tr ds) (hr : RC K R Z E Γ r ds z) : EvD K R Z E Γ (tCB r tr) z := fun B H σ w Q q =>
  h B H σ w _ fun vs B1 H1 b1 h1 w1 i1 => hr B1 H1 σ vs w1 i1 Q fun v B2 H2 b2 h2 w2 i2 => q v B2 H2 (b1.trans b2) (h1.trans h2) w2 i2
theorem en_cb {r : List V → Hp → VK → Prop} {tr : TA} {ds : List D} {m : MO} (h : EvA K R Z E Γ tr ds) (hr : RCN K R Z E Γ r ds m) : EvN K R Z E Γ (tCB r tr) m := fun B H σ w Q q =>
  h B H σ w _ fun vs B1 H1 b1 h1 w1 i1 => hr B1 H1 σ vs w1 i1 Q fun v B2 H2 b2 h2 w2 i2 => q v B2 H2 (b1.trans b2) (h1.trans h2) w2 i2
theorem rc_simple {r : List V → Hp → VK → Prop} {xs : List D} (h : ∀ B H vs, IsL K B H vs xs → ∃ v, Is K B H v z ∧ ∀ Q : VK, Q v H → r vs H Q) : RC K R Z E Γ r xs z := fun B H σ vs w l Q q => by
  obtain ⟨v, i, k⟩ := h B H vs l
  exact k Q (q v B H (Ext.refl _) (Ext.refl _) w i)
def rMax2 : List V → Hp → VK → Prop := fun xs H Q => ∃ i j, xs = [.int i, .int j] ∧ Q (.int (if j > i then j else i)) H
def rMin2 : List V → Hp → VK → Prop := fun xs H Q => ∃ i j, xs = [.int i, .int j] ∧ Q (.int (if j < i then j else i)) H
theorem call_max22 {X : Cx} (hc : X.calm = true) : CallR X (.builtin "max") rMax2 := call_max2 hc
theorem call_min22 {X : Cx} (hc : X.calm = true) : CallR X (.builtin "min") rMin2 := call_min2 hc
theorem rc_max2 {i j : Int} : RC K R Z E Γ rMax2 [.int i, .int j] (.int (if j > i then j else i)) := rc_simple fun B H vs l => by
  cases l with | cons a l => cases l with | cons b l => cases l; cases a; cases b; exact ⟨_, .int _, fun Q q => ⟨_, _, rfl, q⟩⟩
theorem rc_min2 {i j : Int} : RC K R Z E Γ rMin2 [.int i, .int j] (.int (if j < i then j else i)) := rc_simple fun B H vs l => by
  cases l with | cons a l => cases l with | cons b l => cases l; cases a; cases b; exact ⟨_, .int _, fun Q q => ⟨_, _, rfl, q⟩⟩
def rInt1 : List V → Hp → VK → Prop := fun xs H Q => (∃ i, xs = [.int i] ∧ Q (.int i) H) ∨ ∃ k, xs = [.bl k] ∧ Q (.int (if k then 1 else 0)) H
theorem call_int11 {X : Cx} : CallR X (.type "int") rInt1 := call_int1
theorem rc_int {i : Int} : RC K R Z E Γ rInt1 [.int i] (.int i) := rc_simple fun B H vs l => by
  cases l with | cons a l => cases l; cases a; exact ⟨_, .int _, fun Q q => .inl ⟨_, rfl, q⟩⟩
theorem rc_intb {k : Bool} : RC K R Z E Γ rInt1 [.bl k] (.int (if k then 1 else 0)) := rc_simple fun B H vs l => by
  cases l with | cons a l => cases l; cases a; exact ⟨_, .int _, fun Q q => .inr ⟨_, rfl, q⟩⟩
/-- tuple(xs), list(xs) -/
def rTupOf (K : PySem.W.Frag) : List V → Hp → VK → Prop := fun xs H Q => ∃ p ys, xs = [.ref p] ∧ ((SqL K H p ys ∧ ∀ l, H l = none → Q (.ref l) (upd H l (.tup ys))) ∨ (SqT K H p ys ∧ Q (.ref p) H))
theorem call_tupOf {X : Cx} : CallR X (.type "tuple") (rTupOf X.K) := call_tuple_of
theorem rc_tupL {ds : List D} : RC K R Z E Γ (rTupOf K) [.lst ds] (.tup ds) := fun B H σ vs w l Q q => by
  cases l with
  | cons i1 l1 =>
    cases l1
    cases i1 with
    | lst h1 l1 =>
      exact ⟨_, _, rfl, .inl ⟨.of (w.bh _ _ h1), fun p hp => q _ B _ (Ext.refl _) (Ext.new hp) (w.grow (Ext.new hp)) (.tup (.inl (.inl upd_same)) (l1.mono (Ext.refl _) (Ext.new hp).tx))⟩⟩
theorem rc_tupT {ds : List D} : RC K R Z E Γ (rTupOf K) [.tup ds] (.tup ds) := fun B H σ vs w l Q q => by
  cases l with
  | cons i1 l1 =>
    cases l1
    cases i1 with
    | tup h1 l1 => exact ⟨_, _, rfl, .inr ⟨h1, q _ B _ (Ext.refl _) (Ext.refl _) w (.tup h1 l1)⟩⟩
theorem rc_tupO {a : Addr} {n : Nat} {ds : List D} (hn : Γ[n]? = some (a, .lst ds)) : RC K R Z E Γ (rTupOf K) [.ref a] (.tup ds) := fun B H σ vs w l Q q => by
  cases l with
  | cons i1 l1 =>
    cases l1
    cases i1
    obtain ⟨xs, e1, l1⟩ := w.obj _ (List.mem_of_getElem? hn)
    exact ⟨_, _, rfl, .inl ⟨.of e1, fun p hp => q _ B _ (Ext.refl _) (Ext.new hp) (w.grow (Ext.new hp)) (.tup (.inl (.inl upd_same)) (l1.mono (Ext.refl _) (Ext.new hp).tx))⟩⟩
def rLstOf (K : PySem.W.Frag) : List V → Hp → VK → Prop := fun xs H Q => ∃ p ys, xs = [.ref p] ∧ (SqL K H p ys ∨ SqT K H p ys) ∧ ∀ l, H l = none → Q (.ref l) (upd H l (.lst ys))
def rLstU (K : PySem.W.Frag) : List V → Hp → VK → Prop := fun xs H Q => rLstOf K xs H Q ∨ rListD xs H Q
theorem call_lstU {X : Cx} (hc : X.calm = true) : CallR X (.type "list") (rLstU X.K) := CallR.or' (r := rLstOf X.K) (r' := rListD) call_list_of (call_list_dK hc)
theorem rn_new {B H : Hp} {σ : L2.St} {xs : List V} {ds : List D} (w : W1 K R Z B H σ E Γ) (l : IsL K B H xs ds) {Q : VK} (q : ∀ p B' H', Ext B B' → Ext H H' → fp1 (p, MO.lst ds) = [p] → W1 K R Z B' H' σ E ((p, .lst ds) :: Γ) → Q (.ref p) H') :
    ∀ p, H p = none → Q (.ref p) (upd H p (.lst xs)) := fun p hp => q p B _ (Ext.refl _) (Ext.new hp) rfl (w.own (Ext.new hp) hp rfl ⟨_, upd_same, l.mono (Ext.refl _) (Ext.new hp).tx⟩)
theorem rcn_listL {ds : List D} : RCN K R Z E Γ (rLstU K) [.lst ds] (.lst ds) := fun B H σ vs w l Q q => by
  cases l with | cons i1 l1 => cases l1; cases i1 with
    | lst h1 l1 => exact .inl ⟨_, _, rfl, .inl (.of (w.bh _ _ h1)), rn_new w l1 q⟩
theorem rcn_listT {ds : List D} : RCN K R Z E Γ (rLstU K) [.tup ds] (.lst ds) := fun B H σ vs w l Q q => by
  cases l with | cons i1 l1 => cases l1; cases i1 with
    | tup h1 l1 => exact .inl ⟨_, _, rfl, .inr h1, rn_new w l1 q⟩
theorem rcn_listO {a : Addr} {n : Nat} {ds : List D} (hn : Γ[n]? = some (a, .lst ds)) : RCN K R Z E Γ (rLstU K) [.ref a] (.lst ds) := fun B H σ vs w l Q q => by
  cases l with | cons i1 l1 =>
    cases l1; cases i1
    obtain ⟨xs, e1, l1⟩ := w.obj _ (List.mem_of_getElem? hn)
    exact .inl ⟨_, _, rfl, .inl (.of e1), rn_new w l1 q⟩
def kD : Key → D
  | .inl i => .int i
  | .inr s => .str s
theorem isl_keys {B H : Hp} : ∀ ws : List (Key × V), IsL K B H (ws.map fun kv => kV kv.1) ((ws.map (·.1)).map kD)
  | [] => .nil
  | (.inl i, v) :: r => .cons (.int i) (isl_keys r)
  | (.inr i, v) :: r => .cons (.str i) (isl_keys r)
theorem rcn_listK {a : Addr} {n : Nat} {ks : List Key} {ds : List D} (hn : Γ[n]? = some (a, .dk ks ds)) : RCN K R Z E Γ (rLstU K) [.ref a] (.lst (ks.map kD)) := fun B H σ vs w l Q q => by
  cases l with | cons i1 l1 =>
    cases l1; cases i1
    obtain ⟨ws, e1, f1, l1⟩ := w.obj _ (List.mem_of_getElem? hn)
    subst f1
    exact .inr ⟨_, _, rfl, e1, rn_new w (isl_keys ws) q⟩
/-! tests -/
theorem et_test {b : Bool} (h : EvD K R Z E Γ te (.bl b)) : EvT K R Z E Γ (tTest te) b := fun B H σ w Q q => h B H σ w _ fun v B1 H1 b1 h1 w1 i => by
  cases i; exact ⟨b, rfl, q B1 H1 b1 h1 w1⟩
theorem et_B {b : Bool} (h : EvD K R Z E Γ te (.bl b)) : EvT K R Z E Γ (tB te) b := fun B H σ w Q q => h B H σ w _ fun v B1 H1 b1 h1 w1 i => by
  cases i; exact ⟨b, rfl, q B1 H1 b1 h1 w1⟩
theorem et_and {a b : Bool} (h1 : EvT K R Z E Γ t a) (h2 : a = true → EvT K R Z E Γ u b) : EvT K R Z E Γ (tAnd t u) (a && b) := fun B H σ w Q q => h1 B H σ w _ fun B1 H1 b1 x1 w1 => by
  cases a with
  | true => exact h2 rfl B1 H1 σ w1 Q fun B2 H2 b2 x2 w2 => q B2 H2 (b1.trans b2) (x1.trans x2) w2
  | false => exact q B1 H1 b1 x1 w1
theorem et_or {a b : Bool} (h1 : EvT K R Z E Γ t a) (h2 : a = false → EvT K R Z E Γ u b) : EvT K R Z E Γ (tOr t u) (a || b) := fun B H σ w Q q => h1 B H σ w _ fun B1 H1 b1 x1 w1 => by
  cases a with
  | false => exact h2 rfl B1 H1 σ w1 Q fun B2 H2 b2 x2 w2 => q B2 H2 (b1.trans b2) (x1.trans x2) w2
  | true => exact q B1 H1 b1 x1 w1
theorem et_not {a : Bool} (h : EvT K R Z E Γ t a) : EvT K R Z E Γ (tNot t) (!a) := fun B H σ w Q q => h B H σ w _ q
theorem ev_andV {a b : Bool} (h1 : EvD K R Z E Γ ta (.bl a)) (h2 : a = true → EvD K R Z E Γ tb (.bl b)) : EvD K R Z E Γ (tAndV ta tb) (.bl (a && b)) := fun B H σ w Q q => h1 B H σ w _ fun v B1 H1 b1 x1 w1 i => by
  cases i
  refine ⟨a, rfl, ?_⟩
  cases a with
  | true => exact h2 rfl B1 H1 σ w1 Q fun v B2 H2 b2 x2 w2 i2 => q v B2 H2 (b1.trans b2) (x1.trans x2) w2 i2
  | false => exact q _ B1 H1 b1 x1 w1 (.bl _)
theorem ev_orV {a b : Bool} (h1 : EvD K R Z E Γ ta (.bl a)) (h2 : a = false → EvD K R Z E Γ tb (.bl b)) : EvD K R Z E Γ (tOrV ta tb) (.bl (a || b)) := fun B H σ w Q q => h1 B H σ w _ fun v B1 H1 b1 x1 w1 i => by
  cases i
  refine ⟨a, rfl, ?_⟩
  cases a with
  | false => exact h2 rfl B1 H1 σ w1 Q fun v B2 H2 b2 x2 w2 i2 => q v B2 H2 (b1.trans b2) (x1.trans x2) w2 i2
  | true => exact q _ B1 H1 b1 x1 w1 (.bl _)
theorem ev_notV {a : Bool} (h1 : EvD K R Z E Γ ta (.bl a)) : EvD K R Z E Γ (tNotV ta) (.bl (!a)) := fun B H σ w Q q => h1 B H σ w _ fun v B1 H1 b1 x1 w1 i => by
  cases i
  exact ⟨a, rfl, q _ B1 H1 b1 x1 w1 (.bl _)⟩
theorem ev_if {b : Bool} (h : EvT K R Z E Γ t b) (h1 : b = true → EvD K R Z E Γ ta d) (h2 : b = false → EvD K R Z E Γ tb d) : EvD K R Z E Γ (tIf t ta tb) d := fun B H σ w Q q => h B H σ w _ fun B1 H1 b1 x1 w1 => by
  cases b with
  | true => exact h1 rfl B1 H1 σ w1 Q fun v B2 H2 b2 x2 w2 i2 => q v B2 H2 (b1.trans b2) (x1.trans x2) w2 i2
  | false => exact h2 rfl B1 H1 σ w1 Q fun v B2 H2 b2 x2 w2 i2 => q v B2 H2 (b1.trans b2) (x1.trans x2) w2 i2
/-! slices -/
theorem eo_none : EvO K R Z E Γ tNoPart none := fun B H σ w Q q => q B H (Ext.refl _) (Ext.refl _) w
theorem eo_some {i : Int} (h : EvD K R Z E Γ te (.int i)) : EvO K R Z E Γ (tPart te) (some i) := fun B H σ w Q q => h B H σ w _ fun v B1 H1 b1 x1 w1 iv => by
  cases iv; exact ⟨i, rfl, q B1 H1 b1 x1 w1⟩
end
end DL
set_option Elab.async false
set_option linter.all false
set_option maxRecDepth 100000
set_option maxHeartbeats 2000000
/-! Statements, loops, comprehensions, calls, by data. -/
namespace DL
open PySem L2
section defs
variable (K : PySem.W.Frag) (R Z : Hp)
/-- from every state of that form k holds -/
def Cont (k : L2.St → Hp → Prop) (E : List (Option D)) (Γ : Led) : Prop := ∀ B H σ, W1 K R Z B H σ E Γ → k σ H
def NX (P : List (Option D) → Led → Prop) : L2.St → Hp → Prop := fun σ H => ∃ B E Γ, P E Γ ∧ W1 K R Z B H σ E Γ
/-- what may be handed back -/
def RtOk (rt : VK) (P : D → Led → Prop) : Prop := ∀ d Γ v B H, P d Γ → W1 K R Z B H [] [] Γ → Is K B H v d → rt v H
/-- a target stores -/
def TgD (g : TG) (x : D) (E E' : List (Option D)) : Prop := ∀ B H σ Γ v, W1 K R Z B H σ E Γ → Is K B H v x → ∀ Q : L2.St → Hp → Prop, (∀ σ', W1 K R Z B H σ' E' Γ → Q σ' H) → g v σ H Q
def TgsD (g : TGs) (xs : List D) (E E' : List (Option D)) : Prop := ∀ B H σ Γ vs, W1 K R Z B H σ E Γ → IsL K B H vs xs → ∀ Q : L2.St → Hp → Prop, (∀ σ', W1 K R Z B H σ' E' Γ → Q σ' H) → g vs σ H Q
/-- what an iterator gives, as long as e stands in the ledger -/
def ItD (e : Addr × MO) (J : It) (ds : List D) : Prop := ∀ B H σ E Γ, e ∈ Γ → W1 K R Z B H σ E Γ → (∀ i, i < ds.length → J.go i H) ∧ J.stop ds.length H ∧
  ∀ i x H' d, ds[i]? = some d → J.yld i H x H' → Ext H H' ∧ ∃ B', Ext B B' ∧ W1 K R Z B' H' σ E Γ ∧ Is K B' H' x d
def EvI (E : List (Option D)) (Γ : Led) (wi : TI) (ds : List D) : Prop := ∀ B H σ, W1 K R Z B H σ E Γ → ∀ Rr : It → Hp → Prop,
  (∀ e J B' H', Ext B B' → Ext H H' → W1 K R Z B' H' σ E Γ → fp1 e = [] → MIs K B' H' e.1 e.2 → ItD K R Z e J ds → Rr J H') → wi σ H Rr
end defs
section
variable {K : PySem.W.Frag} {R Z : Hp} {E E' : List (Option D)} {Γ Γ' : Led} {D : Ends} {te ta tb : TE} {d x y : DL.D} {t u : TS} {k : L2.St → Hp → Prop}
theorem Cont.weak (h : Cont K R Z k E' Γ) (e : Weak E E') : Cont K R Z k E Γ := fun B H σ w => h B H σ (w.weak e)
theorem Cont.sub (h : Cont K R Z k E Γ') (e : Γ'.Sublist Γ) : Cont K R Z k E Γ := fun B H σ w => h B H σ (w.sub e)
theorem Cont.led (h : Cont K R Z k E Γ') (e : ∀ x ∈ Γ', x ∈ Γ) (nd : (fps Γ).Nodup → (fps Γ').Nodup) : Cont K R Z k E Γ := fun B H σ w => h B H σ (w.led e (nd w.nd))
theorem c_nx {P : List (Option DL.D) → Led → Prop} (h : P E Γ) : Cont K R Z (NX K R Z P) E Γ := fun B H σ w => ⟨B, E, Γ, h, w⟩
theorem c_nxw {P : List (Option DL.D) → Led → Prop} (e : Weak E E') (g : Γ'.Sublist Γ) (h : P E' Γ') : Cont K R Z (NX K R Z P) E Γ := ((c_nx h).sub g).weak e
theorem c_seq (h : Cont K R Z (t { D with nx := u D }) E Γ) : Cont K R Z (tSeq t u D) E Γ := h
theorem c_next (h : Cont K R Z D.nx E Γ) : Cont K R Z (tNext D) E Γ := h
theorem c_break (h : Cont K R Z D.bk E Γ) : Cont K R Z (tBreak D) E Γ := h
theorem c_cont (h : Cont K R Z D.ct E Γ) : Cont K R Z (tCont D) E Γ := h
theorem c_set {i : Nat} (h : EvD K R Z E Γ te d) (q : Cont K R Z D.nx (E.set i (some d)) Γ) : Cont K R Z (tAsg te (gName i) D) E Γ := fun B H σ w => h B H σ w _ fun v B1 H1 b1 h1 w1 i1 => q B1 H1 _ (w1.store i1)
theorem c_asg {g : TG} (h : EvD K R Z E Γ te d) (hg : TgD K R Z g d E E') (q : Cont K R Z D.nx E' Γ) : Cont K R Z (tAsg te g D) E Γ := fun B H σ w => h B H σ w _ fun v B1 H1 b1 h1 w1 i1 => hg B1 H1 σ Γ v w1 i1 _ fun σ' w' => q B1 H1 σ' w'
theorem c_setN {i : Nat} {m : MO} (h : EvN K R Z E Γ te m) (q : ∀ p, fp1 (p, m) = [p] → Cont K R Z D.nx (E.set i (some (.ref p))) ((p, m) :: Γ)) : Cont K R Z (tAsg te (gName i) D) E Γ := fun B H σ w => h B H σ w _ fun p B1 H1 b1 h1 hf w1 => q p hf B1 H1 _ (w1.store (.ref p))
theorem c_drop (h : EvD K R Z E Γ te d) (q : Cont K R Z D.nx E Γ) : Cont K R Z (tDrop te D) E Γ := fun B H σ w => h B H σ w _ fun v B1 H1 b1 h1 w1 i1 => q B1 H1 _ w1
theorem W1.nos {B H : Hp} {σ : L2.St} (w : W1 K R Z B H σ E Γ) : W1 K R Z B H [] [] Γ := ⟨w.rh, w.bh, w.b0, w.rb, rfl, fun i d e => by simp at e, w.obj, w.nd, w.fr⟩
theorem c_ret {P : DL.D → Led → Prop} (hr : RtOk K R Z D.rt P) (h : EvD K R Z E Γ te d) (p : P d Γ) : Cont K R Z (tRet te D) E Γ := fun B H σ w => h B H σ w _ fun v B1 H1 b1 h1 w1 i1 => hr d Γ v B1 H1 p w1.nos i1
theorem c_retN {P : DL.D → Led → Prop} {m : MO} (hr : RtOk K R Z D.rt P) (h : EvN K R Z E Γ te m) (p : ∀ p, P (.ref p) ((p, m) :: Γ)) : Cont K R Z (tRet te D) E Γ := fun B H σ w => h B H σ w _ fun q B1 H1 b1 h1 hf w1 => hr _ _ _ B1 H1 (p q) w1.nos (.ref q)
theorem c_ret0 {P : DL.D → Led → Prop} (hr : RtOk K R Z D.rt P) (p : P .non Γ) : Cont K R Z (tRetN D) E Γ := fun B H σ w => hr _ Γ _ B H p w.nos .non
theorem c_if {c : TT} {b : Bool} (h : EvT K R Z E Γ c b) (h1 : b = true → Cont K R Z (t D) E Γ) (h2 : b = false → Cont K R Z (u D) E Γ) : Cont K R Z (tIfS c t u D) E Γ := fun B H σ w => h B H σ w _ fun B1 H1 b1 x1 w1 => by
  cases b with
  | true => exact h1 rfl B1 H1 σ w1
  | false => exact h2 rfl B1 H1 σ w1
/-! targets -/
theorem tg_name {i : Nat} : TgD K R Z (gName i) x E (E.set i (some x)) := fun B H σ Γ v w iv Q q => q _ (w.store iv)
theorem tgs_nil : TgsD K R Z gNil [] E E := fun B H σ Γ vs w iv Q q => by cases iv; exact ⟨rfl, q σ w⟩
theorem tgs_cons {g : TG} {gs : TGs} {xs : List DL.D} {E1 E2 : List (Option DL.D)} (h : TgD K R Z g x E E1) (hs : TgsD K R Z gs xs E1 E2) : TgsD K R Z (gCons g gs) (x :: xs) E E2 := fun B H σ Γ vs w iv Q q => by
  cases iv with
  | cons a l => exact ⟨_, _, rfl, h B H σ Γ _ w a _ fun σ' w' => hs B H σ' Γ _ w' l Q q⟩
theorem tg_tup {n : Nat} {gs : TGs} {xs : List DL.D} (h : TgsD K R Z gs xs E E') (hn : xs.length = n := by rfl) : TgD K R Z (gTup K n gs) (.tup xs) E E' := fun B H σ Γ v w iv Q q => by
  cases iv with
  | tup h1 l1 => exact ⟨_, _, rfl, h1, by rw [l1.length]; exact hn, h B H σ Γ _ w l1 Q q⟩
/-! what is walked -/
def iSeq (K : PySem.W.Frag) (tl : TE) : TI := fun σ H R => tl σ H fun x H1 => (∃ a, x = .ref a ∧ (((∃ xs, SqL K H1 a xs) ∧ R (Itl K a) H1) ∨ ((∃ xs, SqT K H1 a xs) ∧ R (Itt K a) H1))) ∨ ∃ z, x = .str z ∧ R (Its z) H1
end
end DL
set_option Elab.async false
set_option linter.all false
set_option maxRecDepth 100000
set_option maxHeartbeats 2000000
/-! Loops, comprehensions, calls. -/
namespace DL
open PySem L2
theorem pi_seq {X : Cx} {tg l : Expr} {tl : TE} (hl : PE X l tl) : PI X tg l (iSeq X.K tl) := by
  refine ⟨fun pins s σ H R I h => ?_⟩
  refine thn (hl.run pins s σ H _ I h) fun v s1 ⟨x, H1, I1, r1, q1⟩ => ?_
  rcases q1 with ⟨a, e, ⟨⟨xs, hq⟩, q⟩ | ⟨⟨xs, hq⟩, q⟩⟩ | ⟨z, e, q⟩
  · subst e
    cases r1
    obtain ⟨its, rv, p, hz⟩ := I1.list hq
    refine wpAny_pyIter_list p.isList ?_
    refine ⟨s1.heap.objs.size, [s1.heap.objs.size], _, _, H1, rfl, I1.kept (t' := s1.toks) fun b o e => Heap.get?_push_of_some _ e, turn_list a _, ⟨_, Heap.get?_push_size _ rfl, rfl, rfl⟩, fun b hb => ?_, q⟩
    have e : b = s1.heap.objs.size := by simpa using hb
    subst e
    exact I1.fpOk (Nat.le_refl _) (I1.hok.fresh (Nat.le_refl _))
  · subst e
    cases r1
    obtain ⟨its, rv, p, hz⟩ := I1.tuple hq
    refine wpAny_pyIter_tuple (show s1.heap.IsTuple a its.toArray from p) ?_
    refine ⟨s1.heap.objs.size, [s1.heap.objs.size], _, _, H1, rfl, I1.kept (t' := s1.toks) fun b o e => Heap.get?_push_of_some _ e, turn_tuple a _, ⟨_, Heap.get?_push_size _ rfl, rfl, rfl⟩, fun b hb => ?_, q⟩
    have e : b = s1.heap.objs.size := by simpa using hb
    subst e
    exact I1.fpOk (Nat.le_refl _) (I1.hok.fresh (Nat.le_refl _))
  · subst e
    obtain ⟨t, rfl⟩ := r1
    cases ha : z.cps.all (· < 128)
    · exact wpAny_pyIter_wide ha (pi_one (tk := s1.toks) I1 _ (turn_str _ z t "str_iterator" (.inr rfl)) ⟨_, Heap.get?_push_size _ rfl, rfl, rfl⟩ q)
    · exact wpAny_pyIter_ascii ha (pi_one (tk := s1.toks) I1 _ (turn_str _ z t "str_ascii_iterator" (.inl rfl)) ⟨_, Heap.get?_push_size _ rfl, rfl, rfl⟩ q)
section
variable {K : PySem.W.Frag} {R Z : Hp} {E E' : List (Option D)} {Γ Γ' : Led} {De : Ends} {te ta tb tl : TE} {d x y : D} {t u : TS} {k : L2.St → Hp → Prop}
/-- the items of data that is walked -/
def DSeq : D → List D → Prop
  | .tup ds, xs => xs = ds
  | .lst ds, xs => xs = ds
  | .fz ds, xs => xs = ds
  | .str s, xs => xs = s.cps.toList.map fun c => D.str ⟨#[c]⟩
  | _, _ => False
theorem it_tup {a : Addr} {ds : List D} : ItD K R Z (a, .kn (.tup ds)) (Itt K a) ds := fun B H σ E Γ hm w => by
  cases w.obj _ hm with
  | tup h1 l1 =>
    refine ⟨fun i hi => ?_, ⟨_, h1, Nat.le_of_eq l1.length⟩, fun i x H' d hd y => ?_⟩
    · obtain ⟨v, e, _⟩ := l1.get (List.getElem?_eq_getElem hi)
      exact ⟨_, v, h1, e⟩
    · obtain ⟨rfl, y⟩ := y
      obtain ⟨v, e, i⟩ := l1.get hd
      have := y _ h1
      rw [e] at this; cases this
      exact ⟨Ext.refl _, B, Ext.refl _, w, i⟩
theorem it_lst {a : Addr} {ds : List D} : ItD K R Z (a, .kn (.lst ds)) (Itl K a) ds := fun B H σ E Γ hm w => by
  cases w.obj _ hm with
  | lst h1 l1 =>
    have h1 := SqL.of (K := K) (w.bh _ _ h1)
    refine ⟨fun i hi => ?_, ⟨_, h1, Nat.le_of_eq l1.length⟩, fun i x H' d hd y => ?_⟩
    · obtain ⟨v, e, _⟩ := l1.get (List.getElem?_eq_getElem hi)
      exact ⟨_, v, h1, e⟩
    · obtain ⟨rfl, y⟩ := y
      obtain ⟨v, e, i⟩ := l1.get hd
      have := y _ h1
      rw [e] at this; cases this
      exact ⟨Ext.refl _, B, Ext.refl _, w, i⟩
theorem it_fz {a : Addr} {ds : List D} : ItD K R Z (a, .kn (.fz ds)) (Itl K a) ds := fun B H σ E Γ hm w => by
  cases w.obj _ hm with
  | fz h1 l1 =>
    have h1 := w.bh.sql h1
    refine ⟨fun i hi => ?_, ⟨_, h1, Nat.le_of_eq l1.length⟩, fun i x H' d hd y => ?_⟩
    · obtain ⟨v, e, _⟩ := l1.get (List.getElem?_eq_getElem hi)
      exact ⟨_, v, h1, e⟩
    · obtain ⟨rfl, y⟩ := y
      obtain ⟨v, e, i⟩ := l1.get hd
      have := y _ h1
      rw [e] at this; cases this
      exact ⟨Ext.refl _, B, Ext.refl _, w, i⟩
def nul : Addr × MO := (0, .kn (.ref 0))
theorem it_str {s : Str} : ItD K R Z nul (Its s) (s.cps.toList.map fun c => D.str ⟨#[c]⟩) := fun B H σ E Γ hm w => by
  have hz : (s.cps.toList.map fun c => D.str ⟨#[c]⟩).length = s.cps.size := by simp
  refine ⟨fun i hi => by rw [hz] at hi; exact hi, by show s.cps.size ≤ _; rw [hz]; exact Nat.le_refl _, fun i x H' d hd y => ?_⟩
  obtain ⟨rfl, c, hc, rfl⟩ := y
  have hd' : (s.cps.toList[i]?).map (fun c => D.str ⟨#[c]⟩) = some d := by simpa using hd
  have hc' : s.cps.toList[i]? = some c := by simpa using hc
  rw [hc'] at hd'
  cases hd'
  exact ⟨Ext.refl _, B, Ext.refl _, w, .str _⟩
theorem ei_seq {ds : List D} (h : EvD K R Z E Γ tl d) (hs : DSeq d ds) : EvI K R Z E Γ (iSeq K tl) ds := fun B H σ w Rr q => h B H σ w _ fun v B1 H1 b1 h1 w1 i1 => by
  cases i1 with
  | tup g l =>
    cases hs
    exact .inl ⟨_, rfl, .inr ⟨⟨_, g⟩, q (_, .kn (.tup ds)) _ B1 H1 b1 h1 w1 rfl (.tup g l) it_tup⟩⟩
  | lst g l =>
    cases hs
    exact .inl ⟨_, rfl, .inl ⟨⟨_, .of (w1.bh _ _ g)⟩, q (_, .kn (.lst ds)) _ B1 H1 b1 h1 w1 rfl (.lst g l) it_lst⟩⟩
  | fz g l =>
    cases hs
    exact .inl ⟨_, rfl, .inl ⟨⟨_, w1.bh.sql g⟩, q (_, .kn (.fz ds)) _ B1 H1 b1 h1 w1 rfl (.fz g l) it_fz⟩⟩
  | str s =>
    cases hs
    exact .inr ⟨_, rfl, q nul _ B1 H1 b1 h1 w1 rfl (.ref 0) it_str⟩
  | _ => exact hs.elim
theorem it_rng {lo : Int} {n : Nat} : ItD K R Z nul (Itr lo n) ((List.range n).map fun i => D.int (lo + (i : Nat))) := fun B H σ E Γ hm w => by
  refine ⟨fun i hi => by show i < n; simpa using hi, by show n ≤ _; simp, fun i x H' d hd y => ?_⟩
  obtain ⟨rfl, rfl⟩ := y
  have : i < n := by have := (List.getElem?_eq_some_iff.mp hd).1; simpa using this
  simp [this] at hd
  subst hd
  exact ⟨Ext.refl _, B, Ext.refl _, w, .int _⟩
def rngD (n : Nat) : List D := (List.range n).map fun i => D.int (i : Nat)
theorem rngD_length (n : Nat) : (rngD n).length = n := by simp [rngD]
theorem rngD_get {n i : Nat} {d : D} (h : (rngD n)[i]? = some d) : d = .int (i : Nat) ∧ i < n := by
  have : i < n := by have := (List.getElem?_eq_some_iff.mp h).1; simpa [rngD] using this
  simp [rngD, this] at h
  exact ⟨h.symm, this⟩
theorem ei_range {ta : TA} {j : Int} (h : EvA K R Z E Γ ta [.int j]) (h1 : -(2 ^ 62) ≤ j) (h2 : j < 2 ^ 62) : EvI K R Z E Γ (iRng1 ta) (rngD j.toNat) := fun B H σ w Rr q => h B H σ w _ fun vs B1 H1 b1 x1 w1 i1 => by
  cases i1 with
  | cons a l =>
    cases l; cases a
    refine ⟨j, rfl, h1, h2, q nul _ B1 H1 b1 x1 w1 rfl (.ref 0) ?_⟩
    have e : rngD j.toNat = (List.range j.toNat).map fun i => D.int (0 + (i : Nat)) := by simp [rngD]
    rw [e]; exact it_rng
theorem ei_range2 {ta : TA} {i j : Int} (h : EvA K R Z E Γ ta [.int i, .int j]) (h1 : -(2 ^ 62) ≤ i ∧ i < 2 ^ 62 ∧ -(2 ^ 62) ≤ j ∧ j < 2 ^ 62) : EvI K R Z E Γ (iRng2 ta) ((List.range (j - i).toNat).map fun n => D.int (i + (n : Nat))) := fun B H σ w Rr q => h B H σ w _ fun vs B1 H1 b1 x1 w1 i1 => by
  cases i1 with
  | cons a l =>
    cases l with
    | cons b l =>
      cases l; cases a; cases b
      exact ⟨i, j, rfl, h1, q nul _ B1 H1 b1 x1 w1 rfl (.ref 0) it_rng⟩
theorem it_rngc {lo c : Int} {n : Nat} : ItD K R Z nul (Itc lo c n) ((List.range n).map fun i => D.int (lo + (i : Nat) * c)) := fun B H σ E Γ hm w => by
  refine ⟨fun i hi => by show i < n; simpa using hi, by show n ≤ _; simp, fun i x H' d hd y => ?_⟩
  obtain ⟨rfl, rfl⟩ := y
  have : i < n := by have := (List.getElem?_eq_some_iff.mp hd).1; simpa using this
  simp [this] at hd
  subst hd
  exact ⟨Ext.refl _, B, Ext.refl _, w, .int _⟩
theorem ei_range3 {ta : TA} {i j c : Int} {n : Nat} (h : EvA K R Z E Γ ta [.int i, .int j, .int c]) (h1 : RgC i j c n) : EvI K R Z E Γ (iRng3 ta) ((List.range n).map fun k => D.int (i + (k : Nat) * c)) := fun B H σ w Rr q => h B H σ w _ fun vs B1 H1 b1 x1 w1 i1 => by
  cases i1 with
  | cons a l =>
    cases l with
    | cons b l =>
      cases l with
      | cons e l =>
        cases l; cases a; cases b; cases e
        exact ⟨i, j, c, n, rfl, h1, q nul _ B1 H1 b1 x1 w1 rfl (.ref 0) it_rngc⟩
/-- THE LOOP -/
theorem c_for {wi : TI} {g : TG} {ts : TS} {ds : List D} (Inv : Nat → List (Option D) → Led → Prop) (Brk : List (Option D) → Led → Prop) (hi : EvI K R Z E Γ wi ds) (h0 : Inv 0 E Γ)
    (hs : ∀ (nx : Nat → L2.St → Hp → Prop) (e : Addr × MO), fp1 e = [] → (∀ i E Γ, Inv i E Γ → Cont K R Z (nx i) E (e :: Γ)) → (∀ E Γ, Brk E Γ → Cont K R Z De.nx E (e :: Γ)) → ∀ (i : Nat) d E Γ, ds[i]? = some d → Inv i E Γ →
      ∃ E', TgD K R Z g d E E' ∧ Cont K R Z (ts { De with nx := nx (i + 1), ct := nx (i + 1), bk := De.nx }) E' (e :: Γ))
    (hb : ∀ E Γ, Brk E Γ → Cont K R Z De.nx E Γ) (hd : ∀ E Γ, Inv ds.length E Γ → Cont K R Z De.nx E Γ) : Cont K R Z (tFor wi g ts De) E Γ := fun B H σ w => hi B H σ w _ fun e J B1 H1 b1 x1 w1 hf hm J0 => by
  refine ⟨fun i m σ H => m = ds.length - i ∧ i ≤ ds.length ∧ ∃ B E Γ, Inv i E Γ ∧ W1 K R Z B H σ E (e :: Γ), ⟨ds.length, by simp, Nat.zero_le _, B1, E, Γ, h0, w1.know hf hm⟩, ?_⟩
  rintro i m σ2 H2 ⟨rfl, hi, B2, E2, Γ2, p, w2⟩
  obtain ⟨j1, j2, j3⟩ := J0 B2 H2 σ2 E2 (e :: Γ2) (List.mem_cons_self) w2
  by_cases hlt : i < ds.length
  · refine .inr ⟨j1 i hlt, fun σ' H' => ∃ B E Γ, Inv (i + 1) E Γ ∧ W1 K R Z B H' σ' E (e :: Γ), fun σ' H' p' => ⟨ds.length - (i + 1), by omega, rfl, hlt, p'⟩, fun x H' y => ?_⟩
    obtain ⟨x3, B3, b3, w3, iv⟩ := j3 i x H' _ (List.getElem?_eq_getElem hlt) y
    obtain ⟨E', tg, c⟩ := hs (fun i σ' H' => ∃ B E Γ, Inv i E Γ ∧ W1 K R Z B H' σ' E (e :: Γ)) e hf (fun i E Γ p B H σ w => ⟨B, E, Γ, p, w⟩) (fun E Γ p => (hb E Γ p).sub (List.sublist_cons_self _ _)) i _ E2 Γ2 (List.getElem?_eq_getElem hlt) p
    exact tg B3 H' σ2 (e :: Γ2) x w3 iv _ fun σ' w' => c B3 H' σ' w'
  · have e : i = ds.length := by omega
    subst e
    exact .inl ⟨j2, hd E2 Γ2 p B2 H2 σ2 (w2.sub (List.sublist_cons_self _ _))⟩
/-- without a break -/
theorem c_for' {wi : TI} {g : TG} {ts : TS} {ds : List D} (Inv : Nat → List (Option D) → Led → Prop) (hi : EvI K R Z E Γ wi ds) (h0 : Inv 0 E Γ)
    (hs : ∀ (nx : Nat → L2.St → Hp → Prop) (e : Addr × MO), fp1 e = [] → (∀ i E Γ, Inv i E Γ → Cont K R Z (nx i) E (e :: Γ)) → ∀ (i : Nat) d E Γ, ds[i]? = some d → Inv i E Γ →
      ∃ E', TgD K R Z g d E E' ∧ Cont K R Z (ts { De with nx := nx (i + 1), ct := nx (i + 1), bk := De.nx }) E' (e :: Γ))
    (hd : ∀ E Γ, Inv ds.length E Γ → Cont K R Z De.nx E Γ) : Cont K R Z (tFor wi g ts De) E Γ :=
  c_for Inv (fun _ _ => False) hi h0 (fun nx e hf hn _ i d E Γ hd p => hs nx e hf hn i d E Γ hd p) (fun _ _ z => z.elim) hd
/-- while -/
theorem c_while {c : TT} {ts : TS} (Inv : Nat → List (Option D) → Led → Prop) (m0 : Nat) (h0 : Inv m0 E Γ)
    (hs : ∀ (nx : L2.St → Hp → Prop) m E Γ, (∀ m' E' Γ', m' < m → Inv m' E' Γ' → Cont K R Z nx E' Γ') → Inv m E Γ → ∃ b, EvT K R Z E Γ c b ∧ (b = true → Cont K R Z (ts { De with nx := nx, ct := nx, bk := De.nx }) E Γ) ∧ (b = false → Cont K R Z De.nx E Γ)) :
    Cont K R Z (tWhile c ts De) E Γ := fun B H σ w => by
  refine ⟨fun m σ H => ∃ B E Γ, Inv m E Γ ∧ W1 K R Z B H σ E Γ, ⟨m0, B, E, Γ, h0, w⟩, ?_⟩
  rintro m σ2 H2 ⟨B2, E2, Γ2, p, w2⟩
  obtain ⟨b, hc, h1, h2⟩ := hs (fun σ H => ∃ m', m' < m ∧ ∃ B E Γ, Inv m' E Γ ∧ W1 K R Z B H σ E Γ) m E2 Γ2 (fun m' E' Γ' hm p' B H σ w => ⟨m', hm, B, E', Γ', p', w⟩) p
  refine hc B2 H2 σ2 w2 _ fun B3 H3 b3 x3 w3 => ?_
  cases b with
  | true => exact ⟨_, fun _ _ z => z, h1 rfl B3 H3 σ2 w3⟩
  | false => exact h2 rfl B3 H3 σ2 w3
/-! comprehensions -/
def wipeE (E : List (Option D)) : List Nat → List (Option D)
  | [] => E
  | v :: vs => (wipeE E vs).set v none
theorem wipe_len (σ : L2.St) : ∀ vs : List Nat, (wipe σ vs).length = σ.length := wipe_length σ
theorem wipeE_len (E : List (Option D)) : ∀ vs : List Nat, (wipeE E vs).length = E.length
  | [] => rfl
  | v :: vs => by unfold wipeE; rw [List.length_set, wipeE_len E vs]
theorem W1.forget {B H : Hp} {σ : L2.St} {i : Nat} (w : W1 K R Z B H σ E Γ) : W1 K R Z B H (σ.set i none) (E.set i none) Γ :=
  ⟨w.rh, w.bh, w.b0, w.rb, by simp [w.len], fun j d' e => by
    by_cases hj : j = i
    · subst hj
      by_cases hl : j < E.length
      · rw [List.getElem?_set_self hl] at e; cases e
      · rw [List.getElem?_eq_none (by simpa using hl)] at e; cases e
    · rw [List.getElem?_set_ne (Ne.symm hj)] at e
      obtain ⟨u, h1, h2⟩ := w.env j d' e
      exact ⟨u, by rw [List.getElem?_set_ne (Ne.symm hj)]; exact h1, h2⟩, w.obj, w.nd, w.fr⟩
theorem W1.wipe {B H : Hp} {σ : L2.St} (w : W1 K R Z B H σ E Γ) : ∀ vs : List Nat, W1 K R Z B H (L2.wipe σ vs) (wipeE E vs) Γ
  | [] => w
  | v :: vs => (w.wipe vs).forget
/-- the target of a comprehension: only its own names are stored -/
def TgC (K : PySem.W.Frag) (R Z : Hp) (g : TG) (x : D) (vs : List Nat) (E E' : List (Option D)) : Prop := ∀ B H σ Γ v, W1 K R Z B H (L2.wipe σ vs) (wipeE E vs) Γ → Is K B H v x → ∀ Q : L2.St → Hp → Prop, (∀ σ', L2.wipe σ' vs = L2.wipe σ vs → W1 K R Z B H σ' E' Γ → Q σ' H) → g v (L2.wipe σ vs) H Q
theorem set_wipe1 (σ : L2.St) (i : Nat) (v : Option V) : (L2.wipe (σ.set i v) [i]) = L2.wipe σ [i] := by
  show (σ.set i v).set i none = σ.set i none
  rw [List.set_set]
theorem tc_name {i : Nat} : TgC K R Z (gName i) x [i] E ((wipeE E [i]).set i (some x)) := fun B H σ Γ v w iv Q q => by
  refine q _ ?_ (w.store iv)
  show ((σ.set i none).set i (some v)).set i none = σ.set i none
  rw [List.set_set, List.set_set]
theorem set_cm (σ : L2.St) {i j : Nat} (h : i ≠ j) (a b : Option V) : (σ.set i a).set j b = (σ.set j b).set i a := List.set_comm a b h
theorem tc_two {i j : Nat} (hij : i ≠ j) {y : D} : TgC K R Z (gTup K 2 (gCons (gName i) (gCons (gName j) gNil))) (.tup [x, y]) [i, j] E (((wipeE E [i, j]).set i (some x)).set j (some y)) := fun B H σ Γ v w iv Q q => by
  cases iv with
  | tup h1 l1 =>
    cases l1 with
    | cons a l =>
      cases l with
      | cons b l =>
        cases l
        refine ⟨_, _, rfl, h1, rfl, _, _, rfl, _, _, rfl, rfl, q _ ?_ ((w.store a).store b)⟩
        show (((((σ.set j none).set i none).set i (some _)).set j (some _)).set j none).set i none = (σ.set j none).set i none
        rw [List.set_set, List.set_set, set_cm _ hij, List.set_set, List.set_set]
theorem W1.back {B B2 H H2 : Hp} {σ σ2 : L2.St} {E2 : List (Option D)} {Γ2 : Led} (w : W1 K R Z B H σ E Γ) (w2 : W1 K R Z B2 H2 σ2 E2 Γ2) (b : Ext B B2) (x : Tx H H2) : W1 K R Z B2 H2 σ E Γ2 :=
  ⟨w2.rh, w2.bh, w2.b0, w2.rb, w.len, fun i d e => let ⟨v, h1, h2⟩ := w.env i d e; ⟨v, h1, h2.mono b x⟩, w2.obj, w2.nd, w2.fr⟩
theorem Ext.mut {H H' : Hp} {p : Addr} {o : HO} (e : Ext H H') (h : H p = none) : Ext H (upd H' p o) := fun a u ha => by
  rw [upd_ne (ne_of_none ha h)]
  exact e a u ha
/-- [e for x in .. if p]: the items of the new list -/
theorem en_lc {wi : TI} {g : TG} {tt : TT} {vs : List Nat} {ds : List D} (p : D → Bool) (f : D → D) (E1 : D → List (Option D)) (hi : EvI K R Z E Γ wi ds) (hz : ds.length ≤ sizeLine)
    (hg : ∀ d, d ∈ ds → TgC K R Z g d vs E (E1 d))
    (hp : ∀ d, d ∈ ds → ∀ e l, fp1 e = [] → EvT K R Z (E1 d) (l :: e :: Γ) tt (p d))
    (he : ∀ d, d ∈ ds → p d = true → ∀ e l, fp1 e = [] → EvD K R Z (E1 d) (l :: e :: Γ) te (f d)) : EvN K R Z E Γ (tLc wi g tt te vs) (.lst ((ds.filter p).map f)) := fun B H σ w Q q => hi B H σ w _ fun e J B1 H1 b1 x1 w1 hf hm J0 => by
  intro D0 hD
  let fl : Nat → List D := fun i => ((ds.take i).filter p).map f
  let Pv : Nat → Hp → Prop := fun i H => i ≤ ds.length ∧ ∃ B', Ext B1 B' ∧ Ext H1 H ∧ W1 K R Z B' H (L2.wipe σ vs) (wipeE E vs) ((D0, .lst (fl i)) :: e :: Γ)
  refine ⟨fun i m H => m = ds.length - i ∧ Pv i H, ⟨ds.length, by simp, Nat.zero_le _, B1, Ext.refl _, Ext.new hD, ?_⟩, ?_⟩
  · exact ((w1.know hf hm).wipe vs).own (Ext.new hD) hD rfl ⟨[], upd_same, by simpa [fl] using IsL.nil⟩
  rintro i m H2 ⟨rfl, hi, B2, b2, x2, w2⟩
  obtain ⟨j1, j2, j3⟩ := J0 B2 H2 _ _ _ (List.mem_cons_of_mem _ List.mem_cons_self) w2
  by_cases hlt : i < ds.length
  · have hd := List.getElem?_eq_getElem hlt
    have hmem : ds[i] ∈ ds := List.getElem_mem hlt
    have tk : ds.take (i + 1) = ds.take i ++ [ds[i]] := by rw [List.take_succ, hd]; rfl
    refine .inr ⟨j1 i hlt, Pv (i + 1), fun H' p' => ⟨ds.length - (i + 1), by omega, rfl, p'⟩, fun x H3 y => ?_⟩
    obtain ⟨x3, B3, b3, w3, iv⟩ := j3 i x H3 _ hd y
    refine hg _ hmem B3 H3 σ _ x w3 iv _ fun σ' hw w4 => ⟨hw, ?_⟩
    refine hp _ hmem e _ hf B3 H3 σ' w4 _ fun B4 H4 b4 x4 w5 => ?_
    cases hpd : p ds[i] with
    | true =>
      refine he _ hmem hpd e _ hf B4 H4 σ' w5 _ fun yv B5 H5 b5 x5 w6 iy => ?_
      obtain ⟨acc, ha, la⟩ := w6.obj _ List.mem_cons_self
      have hzl : acc.length < sizeLine := by
        rw [la.length]
        have h1 : (fl i).length ≤ i := by
          show (((ds.take i).filter p).map f).length ≤ i
          rw [List.length_map]
          exact Nat.le_trans (List.length_filter_le _ _) (by rw [List.length_take]; omega)
        omega
      refine ⟨acc, ha, hzl, hlt, B5, ((b2.trans b3).trans b4).trans b5, (((x2.trans x3).trans x4).trans x5).mut hD, ?_⟩
      have e1 : fl (i + 1) = fl i ++ [f ds[i]] := by
        show ((ds.take (i + 1)).filter p).map f = ((ds.take i).filter p).map f ++ [f ds[i]]
        rw [tk, List.filter_append, List.map_append]
        simp [hpd]
      have t6 : Tx H5 (upd H5 D0 (.lst (acc ++ [yv]))) := tx_upd (by rw [ha]; trivial)
      have w7 := w6.mut (n := 0) (m' := .lst (fl (i + 1))) (o := .lst (acc ++ [yv])) rfl (by simp [fp1]) rfl ⟨_, upd_same, by
        rw [e1]
        exact (la.append (.cons iy .nil)).mono (Ext.refl _) t6⟩
      exact w3.back w7 (b4.trans b5) ((x4.trans x5).tx.trans t6)
    | false =>
      have e1 : fl (i + 1) = fl i := by
        show ((ds.take (i + 1)).filter p).map f = ((ds.take i).filter p).map f
        rw [tk, List.filter_append, List.map_append]
        simp [hpd]
      refine ⟨hlt, B4, (b2.trans b3).trans b4, (x2.trans x3).trans x4, ?_⟩
      rw [e1]
      exact w3.back w5 b4 x4.tx
  · have e' : i = ds.length := by omega
    subst e'
    refine .inl ⟨j2, ?_⟩
    have ef : fl ds.length = (ds.filter p).map f := by show ((ds.take ds.length).filter p).map f = _; rw [List.take_length]
    rw [ef] at w2
    have w3 := w1.back w2 b2 x2.tx
    refine q D0 B2 H2 (b1.trans b2) (x1.trans x2) rfl (w3.sub ?_)
    exact (List.sublist_cons_self e Γ).cons_cons _
theorem filter_true {α : Type} (l : List α) : l.filter (fun _ => true) = l := by simp
/-- without a test -/
theorem en_lcm {wi : TI} {g : TG} {vs : List Nat} {ds : List D} (f : D → D) (E1 : D → List (Option D)) (hi : EvI K R Z E Γ wi ds) (hz : ds.length ≤ sizeLine)
    (hg : ∀ d, d ∈ ds → TgC K R Z g d vs E (E1 d))
    (he : ∀ d, d ∈ ds → ∀ e l, fp1 e = [] → EvD K R Z (E1 d) (l :: e :: Γ) te (f d)) : EvN K R Z E Γ (tLc wi g tYes te vs) (.lst (ds.map f)) := by
  have h := en_lc (fun _ => true) f E1 hi hz hg (tt := tYes) (fun d _ e l _ B H σ w Q q => q B H (Ext.refl _) (Ext.refl _) w) (fun d hd _ => he d hd)
  rwa [filter_true] at h
/-! ### calls -/
/-- a def's promise by data: c arguments ledger (what follows of the answer and the ledger) -/
def SpG (K : PySem.W.Frag) (c : List D → Led → (D → Led → Prop) → Prop) : Sp := fun vs H Q _ => ∃ R Z ds Γ P, W1 K R Z Z H [] [] Γ ∧ IsL K Z H vs ds ∧ c ds Γ P ∧ ∀ d Γ' v B' H', P d Γ' → W1 K R Z B' H' [] [] Γ' → Is K B' H' v d → Q v H'
/-- the state at a def's entry, and what is wanted at its end -/
theorem entry {c : List D → Led → (D → Led → Prop) → Prop} {vs : List V} {H : Hp} {Q : VK} {X : XK} {N : List Str} {t : TS} (h : SpG K c vs H Q X)
    (k : ∀ R Z ds Γ P, vs.length = ds.length → c ds Γ P → RtOk K R Z Q P → Cont K R Z (t { nx := fun _ H' => Q .non H', rt := Q }) (ds.map some ++ List.replicate (N.length - ds.length) none) Γ) :
    t { nx := fun _ H' => Q .non H', rt := Q } (L2.start N vs) H := by
  obtain ⟨R, Z, ds, Γ, P, w, l, hc, q⟩ := h
  refine k R Z ds Γ P l.length hc (fun d Γ v B H p w i => q d Γ v B H p w i) Z H _ ?_
  refine ⟨w.rh, w.bh, w.b0, w.rb, by simp [L2.start, l.length], fun i d e => ?_, w.obj, w.nd, w.fr⟩
  unfold L2.start
  by_cases hi : i < ds.length
  · rw [List.getElem?_append_left (by simpa using hi)] at e
    rw [List.getElem?_append_left (by rw [List.length_map, l.length]; exact hi)]
    have e' : ds[i]? = some d := by
      rw [List.getElem?_map] at e
      cases hh : ds[i]? with
      | none => rw [hh] at e; cases e
      | some x => rw [hh] at e; cases e; rfl
    obtain ⟨v, h1, h2⟩ := l.get e'
    exact ⟨v, by rw [List.getElem?_map, h1]; rfl, h2⟩
  · rw [List.getElem?_append_right (by simpa using hi)] at e
    have := List.mem_of_getElem? e
    rw [List.mem_replicate] at this
    cases this.2
theorem RtOk.end0 {rt : VK} {P : D → Led → Prop} (hr : RtOk K R Z rt P) (p : P .non Γ) : Cont K R Z (fun _ H' => rt .non H') E Γ := fun B H σ w => hr _ Γ _ B H p w.nos .non
theorem fps_append (Γ Γ' : Led) : fps (Γ ++ Γ') = fps Γ ++ fps Γ' := by simp [fps]
/-- at a call: the callee is handed the part Γ of the ledger -/
theorem call_core {c : List D → Led → (D → Led → Prop) → Prop} {B H : Hp} {σ : L2.St} {Γr : Led} {vs : List V} {ds : List D} {P : D → Led → Prop} {Q : VK} {X : XK} (w : W1 K R Z B H σ E (Γ ++ Γr)) (l : IsL K B H vs ds) (hc : c ds Γ P)
    (q : ∀ d Γ' v B' H', P d Γ' → Ext B B' → (∀ a o, a ∉ fps Γ → H a = some o → H' a = some o) → W1 K R Z B' H' σ E (Γ' ++ Γr) → Is K B' H' v d → Q v H') : SpG K c vs H Q X := by
  let Rc : Hp := fun a => if a ∈ fps Γ then none else H a
  have nd : (fps Γ ++ fps Γr).Nodup := by rw [← fps_append]; exact w.nd
  have fr : ∀ a, a ∈ fps Γ ∨ a ∈ fps Γr → R a = none ∧ B a = none := fun a ha => w.fr a (by rw [fps_append]; exact List.mem_append.mpr ha)
  have rc : ∀ {a}, a ∉ fps Γ → Rc a = H a := fun {a} ha => by show (if a ∈ fps Γ then none else H a) = H a; rw [if_neg ha]
  have rc0 : ∀ {a}, a ∈ fps Γ → Rc a = none := fun {a} ha => by show (if a ∈ fps Γ then none else H a) = none; rw [if_pos ha]
  have rR : Ext R Rc := fun a o e => by
    rw [rc fun z => by rw [(fr a (.inl z)).1] at e; cases e]; exact w.rh _ _ e
  have rB : Ext B Rc := fun a o e => by
    rw [rc fun z => by rw [(fr a (.inl z)).2] at e; cases e]; exact w.bh _ _ e
  refine ⟨Rc, B, ds, Γ, P, ⟨fun a o e => ?_, w.bh, Ext.refl _, fun a o e => .inl e, rfl, fun i d e => by simp at e, fun e he => w.obj e (List.mem_append_left _ he), (List.nodup_append.mp nd).1, fun a ha => ⟨rc0 ha, (fr a (.inl ha)).2⟩⟩, l, hc, fun d Γ' v B' H' p w' i => ?_⟩
  · by_cases ha : a ∈ fps Γ
    · rw [rc0 ha] at e; cases e
    · rw [rc ha] at e; exact e
  · have tx : Tx H H' := fun a xs r => by
      have na : a ∉ fps Γ := fun z => by
        obtain ⟨o, e, m⟩ := w.there (by rw [fps_append]; exact List.mem_append_left _ z)
        rcases r with r | ⟨u, r⟩
        · rw [e] at r; cases r; exact m
        · rw [e] at r; cases r; exact m
      rcases r with r | ⟨u, r⟩
      · exact .inl (w'.rh _ _ (by rw [rc na]; exact r))
      · exact .inr ⟨u, w'.rh _ _ (by rw [rc na]; exact r)⟩
    have keepr : ∀ a ∈ fps Γr, ∀ o, H a = some o → Rc a = some o := fun a ha o e => by
      rw [rc fun z => (List.nodup_append.mp nd).2.2 a z a ha rfl]; exact e
    refine q d Γ' v B' H' p w'.b0 (fun a o ha e => w'.rh _ _ (by rw [rc ha]; exact e)) ⟨rR.trans w'.rh, w'.bh, w.b0.trans w'.b0, fun a o e => ?_, w.len, fun i d e => let ⟨v, h1, h2⟩ := w.env i d e; ⟨v, h1, h2.mono w'.b0 tx⟩, fun e he => ?_, ?_, fun a ha => ?_⟩ i
    · rcases w'.rb a o e with z | z
      · exact w.rb a o z
      · refine .inr ?_
        cases hr : R a with
        | none => rfl
        | some u => rw [rR a u hr] at z; cases z
    · rcases List.mem_append.mp he with he | he
      · exact w'.obj e he
      · exact (w.obj e (List.mem_append_right _ he)).mono w'.b0 tx fun x hx o ho => w'.rh _ _ (keepr x (mem_fps_of he hx) o ho)
    · rw [fps_append]
      refine List.nodup_append.mpr ⟨w'.nd, (List.nodup_append.mp nd).2.1, fun a ha b hb z => ?_⟩
      subst z
      obtain ⟨o, ho, _⟩ := w.there (by rw [fps_append]; exact List.mem_append_right _ hb)
      have := (w'.fr a ha).1
      rw [keepr a hb o ho] at this; cases this
    · rw [fps_append] at ha
      rcases List.mem_append.mp ha with ha | ha
      · have z := w'.fr a ha
        refine ⟨?_, z.2⟩
        cases hr : R a with
        | none => rfl
        | some u => rw [rR a u hr] at z; cases z.1
      · refine ⟨(fr a (.inr ha)).1, ?_⟩
        cases hb : B' a with
        | none => rfl
        | some u =>
          obtain ⟨o, ho, _⟩ := w.there (by rw [fps_append]; exact List.mem_append_right _ ha)
          rcases w'.rb a u hb with z | z
          · rw [(fr a (.inr ha)).2] at z; cases z
          · rw [keepr a ha o ho] at z; cases z
/-- x = f(..) -/
theorem c_setCall {i : Nat} {c : List D → Led → (D → Led → Prop) → Prop} {ta : TA} {X : XK} {ds : List D} {Γr : Led} (Γc : Led) (h : EvA K R Z E (Γc ++ Γr) ta ds)
    (hc : c ds Γc fun d Γ' => Cont K R Z De.nx (E.set i (some d)) (Γ' ++ Γr)) : Cont K R Z (tAsg (tCall (SpG K c) [] X ta) (gName i) De) E (Γc ++ Γr) := fun B H σ w => h B H σ w _ fun vs B1 H1 b1 x1 w1 i1 => by
  rw [List.append_nil]
  exact call_core w1 i1 hc fun d Γ' v B' H' p b x w' iv => p B' H' _ (w'.store iv)
/-- f(..) as a statement -/
theorem c_dropCall {c : List D → Led → (D → Led → Prop) → Prop} {ta : TA} {X : XK} {ds : List D} {Γr : Led} (Γc : Led) (h : EvA K R Z E (Γc ++ Γr) ta ds)
    (hc : c ds Γc fun d Γ' => Cont K R Z De.nx E (Γ' ++ Γr)) : Cont K R Z (tDrop (tCall (SpG K c) [] X ta) De) E (Γc ++ Γr) := fun B H σ w => h B H σ w _ fun vs B1 H1 b1 x1 w1 i1 => by
  rw [List.append_nil]
  exact call_core w1 i1 hc fun d Γ' v B' H' p b x w' iv => p B' H' _ w'
/-- return f(..) -/
theorem c_retCall {c : List D → Led → (D → Led → Prop) → Prop} {ta : TA} {X : XK} {ds : List D} {Γr : Led} {P : D → Led → Prop} (hr : RtOk K R Z De.rt P) (Γc : Led) (h : EvA K R Z E (Γc ++ Γr) ta ds)
    (hc : c ds Γc fun d Γ' => P d (Γ' ++ Γr)) : Cont K R Z (tRet (tCall (SpG K c) [] X ta) De) E (Γc ++ Γr) := fun B H σ w => h B H σ w _ fun vs B1 H1 b1 x1 w1 i1 => by
  rw [List.append_nil]
  exact call_core w1 i1 hc fun d Γ' v B' H' p b x w' iv => hr d _ v B' H' p w'.nos iv
/-- a call within an expression, of a def that changes nothing: its answer known -/
theorem ev_call {c : List D → Led → (D → Led → Prop) → Prop} {ta : TA} {X : XK} {ds : List D} (h : EvA K R Z E Γ ta ds) (hc : c ds [] fun d' Γ' => d' = d ∧ Γ' = []) : EvD K R Z E Γ (tCall (SpG K c) [] X ta) d := fun B H σ w Q q => h B H σ w _ fun vs B1 H1 b1 x1 w1 i1 => by
  rw [List.append_nil]
  refine call_core (Γ := []) (Γr := Γ) w1 i1 hc fun d' Γ' v B' H' p b x w' iv => ?_
  obtain ⟨rfl, rfl⟩ := p
  exact q v B' H' (b1.trans b) (x1.trans fun a o e => x a o (by simp [fps]) e) w' iv
/-- a call that makes a new object of one's own -/
theorem en_call {c : List D → Led → (D → Led → Prop) → Prop} {ta : TA} {X : XK} {ds : List D} {m : MO} (h : EvA K R Z E Γ ta ds) (hm : ∀ p, fp1 (p, m) = [p]) (hc : c ds [] fun d' Γ' => ∃ p, d' = .ref p ∧ Γ' = [(p, m)]) : EvN K R Z E Γ (tCall (SpG K c) [] X ta) m := fun B H σ w Q q => h B H σ w _ fun vs B1 H1 b1 x1 w1 i1 => by
  rw [List.append_nil]
  refine call_core (Γ := []) (Γr := Γ) w1 i1 hc fun d' Γ' v B' H' p b x w' iv => ?_
  obtain ⟨p, rfl, rfl⟩ := p
  cases iv
  exact q p B' H' (b1.trans b) (x1.trans fun a o e => x a o (by simp [fps]) e) (hm p) w'
end
end DL
set_option Elab.async false
set_option linter.all false
set_option maxRecDepth 100000
set_option maxHeartbeats 2000000
/-! Defs of the text, their calls. -/
namespace DL
open PySem PySem.Spec PyProof.Rows L2
/-- the def st stands at the module's name x -/
structure Def (K : PySem.W.Frag) (mg : Str → Option Value) (x : Str) (st : Stmt) : Prop where
  ex : ∃ f fd, Fun K x x st f fd ∧ mg x = some (.ref f)
/-- the module's name x is a def that keeps the promise sp -/
structure Cal (P : Program) (w : World) (K : PySem.W.Frag) (mg : Str → Option Value) (base : Heap) (x : Str) (k : Nat) (ps : List Str) (sp : Sp) : Prop where
  ex : ∃ f fd, FnOk P w K mg base CX0 k f fd ps sp ∧ mg x = some (.ref f) ∧ PySem.W.keepIn K (.ref f) = true ∧ Binds K fd ps []
section
variable {X : Cx} {x : Str} {k j : Nat} {ps : List Str} {sp : Sp} {e : Expr} {es : List Expr} {p pos : Pos} {t : TA}
theorem pe_cal (C : Cal X.prog X.w X.K X.mg X.base x j ps sp) (hr : Room k X.A) (ha : PA X (e :: es) t) (hj : j ≤ k := by decide) (hg : Gl X x := by rfl) (hdb : (x == ("__debug__" : Str)) = false := by decide)
    (he : starEach (e :: es) X.env = (false, eval e X.env) :: starEach es X.env := by rfl) (hpl : (backTo pos (starEach es X.env)).any (·.1) = false := by rfl) : PE X (.Call (.Name x p) (e :: es) [] pos) (tCall sp [] E0 t) := by
  obtain ⟨f, fd, F, hm, hk, hb⟩ := C.ex
  exact pe_call F (hr.mono hj) hg hm hk hb .nil pass0 ha hdb he hpl
theorem pe_cal0 (C : Cal X.prog X.w X.K X.mg X.base x j ps sp) (hr : Room k X.A) (hj : j ≤ k := by decide) (hg : Gl X x := by rfl) (hdb : (x == ("__debug__" : Str)) = false := by decide) : PE X (.Call (.Name x p) [] [] pos) (tCall sp [] E0 tNil) := by
  obtain ⟨f, fd, F, hm, hk, hb⟩ := C.ex
  exact pe_call0 F (hr.mono hj) hg hm hk hb .nil pass0 hdb
end
section
variable {P : Program} {w : World} {K : PySem.W.Frag} {mg : Str → Option Value} {base : Heap}
/-- THE RULE for a def whose errors are none -/
theorem Def.cal {x : Str} {st : Stmt} {N ps : List Str} {k : Nat} {c : List D → Led → (D → Led → Prop) → Prop} (F : Def K mg x st) (S : FnScope N ps (defScope st))
    (hb : ∀ (kV doc pm : Value) (an : Option Addr) (cdv ct : Value) (us : List Value), us.length = ps.length → bindArgs (PySem.W.fnOf x x (defArgs st) (defBody st) (defScope st) .none kV doc pm an cdv ct) ⟨us, []⟩ = pure (ps.zip us))
    (len : ∀ ds Γ P, c ds Γ P → ds.length = ps.length)
    (hbody : ∀ (f : Addr) (cdv : Value) (A : Around) (outer : List Env) (s : Shared) (H : Hp) (E : XK), Room k (A.deeper (envOfC x (defScope st) s.heap.objs.size f cdv)) →
      ∃ t, PSs (cxOf CX0 P w K mg base N x (defScope st) f cdv A outer s H E).nox (defBody st) t ∧
        ∀ R Z ds Γ P Q, c ds Γ P → RtOk K R Z Q P → Cont K R Z (t { nx := fun _ H' => Q .non H', rt := Q }) (ds.map some ++ List.replicate (N.length - ds.length) none) Γ) : Cal P w K mg base x (k + 1) ps (SpG K c) := by
  obtain ⟨f, fd, F, hm⟩ := F.ex
  refine ⟨f, fd, F.ok S (fun vs H Q E h => ?_) (fun cdv A outer s H vs Q E hr h => ?_), hm, F.kp, F.binds hb⟩
  · obtain ⟨R, Z, ds, Γ, P, w, l, hc, _⟩ := h
    exact l.length.trans (len ds Γ P hc)
  · obtain ⟨t, ht, q⟩ := hbody f cdv A outer s H E hr
    exact ⟨t, ht, entry h fun R Z ds Γ P _ hc hq => q R Z ds Γ P Q hc hq⟩
end
end DL
set_option Elab.async false
set_option linter.all false
set_option maxRecDepth 100000
set_option maxHeartbeats 2000000
/-! More operations: joined rules, dicts, fields, methods of lists. -/
namespace DL
open PySem PySem.Spec PyProof.Rows L2
section
variable {K : PySem.W.Frag} {R Z : Hp} {E E' : List (Option D)} {Γ Γ' : Led} {De : Ends} {te ta tb tl td ty tv : TE} {d x y z : D} {t u : TS} {k : L2.St → Hp → Prop}
/-! * -/
def rMulS : R2 := fun x y H Q => ∃ (s : Str) (n : Int), x = .str s ∧ y = .int n ∧ -(2 ^ 63) ≤ n ∧ n ≤ 16 ∧ s.length ≤ 1048576 ∧ Q (.str (PySem.Txt.mul s n)) H
def rMulL : R2 := fun x y H Q => ∃ (s : Str) (n : Int), x = .str s ∧ y = .int n ∧ -(2 ^ 63) ≤ n ∧ n ≤ 1048576 ∧ s.length ≤ 16 ∧ Q (.str (PySem.Txt.mul s n)) H
theorem op_mulL {X : Cx} : OpR X (binaryOp .Mult) rMulL := by
  intro pins s σ H x y v u Q I rx ry h
  obtain ⟨z, n, rfl, rfl, hn, hn2, hl, q⟩ := h
  obtain ⟨t, rfl⟩ := rx
  obtain ⟨t', rfl⟩ := ry
  exact PySem.SB.mul (PyProof.Rows.mulOk_of 16 1048576 hl (by omega) (by omega) (by decide) (by decide)) fun t' k => ⟨.str _, H, I.tok k, ⟨_, rfl⟩, q⟩
def rMulI : R2 := rI CMul fun i j => .int (i * j)
def rMulU : R2 := fun x y H Q => rMulI x y H Q ∨ rMulL x y H Q
theorem op_mulU {X : Cx} : OpR X (binaryOp .Mult) rMulU := OpR.or (r := rMulI) op_mul op_mulL
theorem ru_mulI {i j : Int} (h : CMul i j) : RV K R Z E Γ rMulU (.int i) (.int j) (.int (i * j)) := fun B H σ vx vy w ix iy Q q => .inl (rv_IC (g := fun i j => i * j) h B H σ vx vy w ix iy Q q)
theorem ru_mulS {s : Str} {n : Int} (h1 : -(2 ^ 63) ≤ n) (h2 : n ≤ 1048576) (h3 : s.length ≤ 16) : RV K R Z E Γ rMulU (.str s) (.int n) (.str (PySem.Txt.mul s n)) := fun B H σ vx vy w ix iy Q q => by
  cases ix; cases iy
  exact .inr ⟨s, n, rfl, rfl, h1, h2, h3, q _ B H (Ext.refl _) (Ext.refl _) w (.str _)⟩
/-! == -/
def rEqU (K : PySem.W.Frag) : R2 := fun x y H Q => rEq x y H Q ∨ rEqD K x y H Q
def rNeU (K : PySem.W.Frag) : R2 := fun x y H Q => rNe x y H Q ∨ rNeD K x y H Q
theorem op_eqU {X : Cx} (hu : X.A.units + 64 < cLine) : OpR X (compareOp .Eq) (rEqU X.K) := OpR.or op_eq (op_eqD hu)
theorem op_neU {X : Cx} (hu : X.A.units + 64 < cLine) : OpR X (compareOp .NotEq) (rNeU X.K) := OpR.or op_ne (op_neD hu)
theorem ru_eqI {i j : Int} : RV K R Z E Γ (rEqU K) (.int i) (.int j) (.bl (decide (i = j))) := fun B H σ vx vy w ix iy Q q => .inl (rv_eqI B H σ vx vy w ix iy Q q)
theorem ru_neI {i j : Int} : RV K R Z E Γ (rNeU K) (.int i) (.int j) (.bl (!decide (i = j))) := fun B H σ vx vy w ix iy Q q => .inl (rv_neI B H σ vx vy w ix iy Q q)
theorem ru_eqS {i j : Str} : RV K R Z E Γ (rEqU K) (.str i) (.str j) (.bl (decide (i = j))) := fun B H σ vx vy w ix iy Q q => .inl (rv_eqS B H σ vx vy w ix iy Q q)
theorem ru_neS {i j : Str} : RV K R Z E Γ (rNeU K) (.str i) (.str j) (.bl (!decide (i = j))) := fun B H σ vx vy w ix iy Q q => .inl (rv_neS B H σ vx vy w ix iy Q q)
/-! in -/
def rInT (neg : Bool) : R2 := fun x y H Q => ∃ i j, x = .str i ∧ y = .str j ∧ Q (.bl (if neg then !(!(Builtin.Str.occurrences j i 0 j.length 1).isEmpty) else !(Builtin.Str.occurrences j i 0 j.length 1).isEmpty)) H
def rInU (K : PySem.W.Frag) : R2 := fun x y H Q => rIn K false x y H Q ∨ rInD K x y H Q
def rNotInU (K : PySem.W.Frag) : R2 := fun x y H Q => rIn K true x y H Q ∨ rNotInD K x y H Q
/-! slices -/
def rSlU (K : PySem.W.Frag) : V → Option Int → Option Int → Hp → VK → Prop := fun x lo hi H Q => rSlL K x lo hi H Q ∨ (rSlA K x lo hi H Q ∨ rSlS x lo hi H Q)
theorem sl_U {X : Cx} : SlR X (rSlU X.K) := SlR.or sl_list (SlR.or sl_tupA sl_str)
def cutD {α : Type} (xs : List α) (lo hi : Option Int) : List α := (xs.drop (HT.sIx xs.length 0 lo)).take (HT.sIx xs.length xs.length hi - HT.sIx xs.length 0 lo)
theorem isl_cut {B H : Hp} {xs : List V} {ds : List D} (l : IsL K B H xs ds) (lo hi : Option Int) : IsL K B H (cutV xs lo hi) (cutD ds lo hi) := by
  unfold cutV cutD
  rw [l.length]
  exact (l.drop _).take _
theorem ev_slS {lo hi : TO} {l h : Option Int} {s : Str} (ha : EvD K R Z E Γ ta (.str s)) (h1 : EvO K R Z E Γ lo l) (h2 : EvO K R Z E Γ hi h) (hl : s.length ≤ sizeLine) : EvD K R Z E Γ (tSl (rSlU K) ta lo hi) (.str (cutS s l h)) := fun B H σ w Q q =>
  ha B H σ w _ fun v B1 H1 b1 x1 w1 i1 => h1 B1 H1 σ w1 _ fun B2 H2 b2 x2 w2 => h2 B2 H2 σ w2 _ fun B3 H3 b3 x3 w3 => by
    cases i1
    exact .inr (.inr ⟨s, rfl, hl, q _ B3 H3 ((b1.trans b2).trans b3) ((x1.trans x2).trans x3) w3 (.str _)⟩)
theorem ev_slT {lo hi : TO} {l h : Option Int} {ds : List D} (ha : EvD K R Z E Γ ta (.tup ds)) (h1 : EvO K R Z E Γ lo l) (h2 : EvO K R Z E Γ hi h) : EvD K R Z E Γ (tSl (rSlU K) ta lo hi) (.tup (cutD ds l h)) := fun B H σ w Q q =>
  ha B H σ w _ fun v B1 H1 b1 x1 w1 i1 => h1 B1 H1 σ w1 _ fun B2 H2 b2 x2 w2 => h2 B2 H2 σ w2 _ fun B3 H3 b3 x3 w3 => by
    cases i1 with
    | tup g1 l1 =>
      have l3 := (l1.mono b2 x2.tx).mono b3 x3.tx
      have g3 := x3.tx.sqt (x2.tx.sqt g1)
      refine .inr (.inl ⟨_, _, rfl, g3, fun e => ?_, fun e p hp => ?_⟩)
      · have e2 : cutD ds l h = ds := by
          unfold cutD
          rw [← l3.length, e.1, e.2]
          simp [l3.length]
        rw [e2] at q
        exact q _ B3 H3 ((b1.trans b2).trans b3) ((x1.trans x2).trans x3) w3 (.tup g3 l3)
      · exact q _ B3 _ ((b1.trans b2).trans b3) (((x1.trans x2).trans x3).trans (Ext.new hp)) (w3.grow (Ext.new hp)) (.tup (.inl (.inl upd_same)) ((isl_cut l3 l h).mono (Ext.refl _) (Ext.new hp).tx))
theorem en_slL {lo hi : TO} {l h : Option Int} {ds : List D} (ha : EvD K R Z E Γ ta (.lst ds)) (h1 : EvO K R Z E Γ lo l) (h2 : EvO K R Z E Γ hi h) : EvN K R Z E Γ (tSl (rSlU K) ta lo hi) (.lst (cutD ds l h)) := fun B H σ w Q q =>
  ha B H σ w _ fun v B1 H1 b1 x1 w1 i1 => h1 B1 H1 σ w1 _ fun B2 H2 b2 x2 w2 => h2 B2 H2 σ w2 _ fun B3 H3 b3 x3 w3 => by
    cases i1 with
    | lst g1 l1 =>
      have l3 := (l1.mono b2 x2.tx).mono b3 x3.tx
      exact .inl ⟨_, _, rfl, .of (w3.bh _ _ (b3 _ _ (b2 _ _ g1))), rn_new w3 (isl_cut l3 l h) fun p B' H' b' x' hf w' => q p B' H' (((b1.trans b2).trans b3).trans b') (((x1.trans x2).trans x3).trans x') hf w'⟩
theorem en_slO {lo hi : TO} {l h : Option Int} {a : Addr} {n : Nat} {ds : List D} (hn : Γ[n]? = some (a, .lst ds)) (ha : EvD K R Z E Γ ta (.ref a)) (h1 : EvO K R Z E Γ lo l) (h2 : EvO K R Z E Γ hi h) : EvN K R Z E Γ (tSl (rSlU K) ta lo hi) (.lst (cutD ds l h)) := fun B H σ w Q q =>
  ha B H σ w _ fun v B1 H1 b1 x1 w1 i1 => h1 B1 H1 σ w1 _ fun B2 H2 b2 x2 w2 => h2 B2 H2 σ w2 _ fun B3 H3 b3 x3 w3 => by
    cases i1
    obtain ⟨xs, e1, l1⟩ := w3.obj _ (List.mem_of_getElem? hn)
    exact .inl ⟨_, _, rfl, .of e1, rn_new w3 (isl_cut l1 l h) fun p B' H' b' x' hf w' => q p B' H' (((b1.trans b2).trans b3).trans b') (((x1.trans x2).trans x3).trans x') hf w'⟩
/-! all, any -/
def rAll2 (K : PySem.W.Frag) : List V → Hp → VK → Prop := rAll K
theorem call_all2 {X : Cx} (hc : X.calm = true) : CallR X (.builtin "all") (rAll2 X.K) := cr_all hc
theorem call_any2 {X : Cx} (hc : X.calm = true) : CallR X (.builtin "any") (rAny X.K) := cr_any hc
theorem rc_all {bs : List Bool} : RC K R Z E Γ (rAll2 K) [.lst (bs.map .bl)] (.bl (bs.all id)) := fun B H σ vs w l Q q => by
  cases l with | cons a l =>
    cases l
    cases a with
    | lst h1 l1 =>
      rw [l1.of_bls] at h1
      exact ⟨_, bs, rfl, .of (w.bh _ _ h1), q _ B H (Ext.refl _) (Ext.refl _) w (.bl _)⟩
theorem rc_any {bs : List Bool} : RC K R Z E Γ (rAny K) [.lst (bs.map .bl)] (.bl (bs.any id)) := fun B H σ vs w l Q q => by
  cases l with | cons a l =>
    cases l
    cases a with
    | lst h1 l1 =>
      rw [l1.of_bls] at h1
      exact ⟨_, bs, rfl, .of (w.bh _ _ h1), q _ B H (Ext.refl _) (Ext.refl _) w (.bl _)⟩
/-! lengths -/
theorem rc_lenT {ds : List D} : RC K R Z E Γ (rLenU K) [.tup ds] (.int (ds.length : Int)) := rc_len (n := ds.length) (show DLen (.tup ds) _ from rfl)
theorem rc_lenL {ds : List D} : RC K R Z E Γ (rLenU K) [.lst ds] (.int (ds.length : Int)) := rc_len (n := ds.length) (show DLen (.lst ds) _ from rfl)
theorem rc_lenF {ds : List D} : RC K R Z E Γ (rLenU K) [.fz ds] (.int (ds.length : Int)) := rc_len (n := ds.length) (show DLen (.fz ds) _ from rfl)
theorem rc_lenS {s : Str} (h : s.length ≤ sizeLine) : RC K R Z E Γ (rLenU K) [.str s] (.int (s.length : Int)) := rc_len (n := s.length) (show DLen (.str s) _ from ⟨h, rfl⟩)
/-! truth -/
def tTru (K : PySem.W.Frag) (ta : TE) : TT := fun σ H Q => ta σ H fun x H' => ∃ k, TruV K x H' k ∧ Q k H'
theorem pt_tru {X : Cx} {a : Expr} {ta : TE} (ha : PE X a ta) (he : ∀ whole, isTrue a X.env whole = (do let v ← whole; standAt a.pos; holding [v] (truthy v)) := by intro _; rfl) : PT X a (tTru X.K ta) := pt_truth ha he
def DTru : D → Bool → Prop
  | .non, k => k = false
  | .bl b, k => k = b
  | .int i, k => k = (i != 0)
  | .tup ds, k => k = !ds.isEmpty
  | .lst ds, k => k = !ds.isEmpty
  | .fz ds, k => k = !ds.isEmpty
  | _, _ => False
theorem isl_empty {B H : Hp} {xs : List V} {ds : List D} (l : IsL K B H xs ds) : xs.isEmpty = ds.isEmpty := by cases l <;> rfl
theorem et_tru {b : Bool} (ha : EvD K R Z E Γ ta x) (h : DTru x b) : EvT K R Z E Γ (tTru K ta) b := fun B H σ w Q q => ha B H σ w _ fun v B1 H1 b1 x1 w1 i1 => by
  refine ⟨b, ?_, q B1 H1 b1 x1 w1⟩
  cases i1 with
  | non => exact h
  | bl c => exact h
  | int i => exact h
  | tup g l => exact .inr (.inl ⟨_, g, by rw [isl_empty l]; exact h⟩)
  | lst g l => exact .inl ⟨_, .of (w1.bh _ _ g), by rw [isl_empty l]; exact h⟩
  | fz g l => exact .inl ⟨_, w1.bh.sql g, by rw [isl_empty l]; exact h⟩
  | _ => exact h.elim
theorem et_truO {n : Nat} {a : Addr} {ds : List D} (hn : Γ[n]? = some (a, .lst ds)) (ha : EvD K R Z E Γ ta (.ref a)) : EvT K R Z E Γ (tTru K ta) (!ds.isEmpty) := fun B H σ w Q q => ha B H σ w _ fun v B1 H1 b1 x1 w1 i1 => by
  cases i1
  obtain ⟨xs, e1, l1⟩ := w1.obj _ (List.mem_of_getElem? hn)
  exact ⟨_, .inl ⟨_, .of e1, by rw [isl_empty l1]⟩, q B1 H1 b1 x1 w1⟩
/-! methods of lists of one's own -/
theorem tyV_list {B H : Hp} {σ : L2.St} {n : Nat} {a : Addr} {ds : List D} (w : W1 K R Z B H σ E Γ) (hn : Γ[n]? = some (a, .lst ds)) : tyV K "list" (.ref a) H := by
  obtain ⟨xs, e1, l1⟩ := w.obj _ (List.mem_of_getElem? hn)
  exact .inl ⟨rfl, _, .of e1⟩
theorem c_append (n : Nat) {to : TE} {a : Addr} {ds : List D} (hn : Γ[n]? = some (a, .lst ds)) (ha : EvD K R Z E Γ to (.ref a)) (hx : EvD K R Z E Γ te x) (hl : ds.length < sizeLine)
    (q : Cont K R Z De.nx E (Γ.set n (a, .lst (ds ++ [x])))) : Cont K R Z (tDrop (tBM K "list" rAppend to (tCons te tNil)) De) E Γ := fun B H σ w => ha B H σ w _ fun v B1 H1 b1 x1 w1 i1 => by
  cases i1
  refine ⟨tyV_list w1 hn, hx B1 H1 σ w1 _ fun v B2 H2 b2 x2 w2 i2 => ?_⟩
  obtain ⟨xs, e1, l1⟩ := w2.obj _ (List.mem_of_getElem? hn)
  refine ⟨a, xs, v, rfl, rfl, e1, by rw [l1.length]; exact hl, q B2 _ σ (w2.mut (p := a) hn (by simp [fp1]) rfl ⟨_, upd_same, ?_⟩)⟩
  exact (l1.append (.cons i2 .nil)).mono (Ext.refl _) (tx_upd (by rw [e1]; trivial))
theorem fp1_nodup : ∀ {Γ : Led} {n : Nat} {e : Addr × MO}, (fps Γ).Nodup → Γ[n]? = some e → (fp1 e).Nodup
  | [], _, _, _, h => by simp at h
  | x :: Γ, 0, e, nd, h => by simp at h; subst h; exact (List.nodup_append.mp nd).1
  | x :: Γ, n + 1, e, nd, h => fp1_nodup (List.nodup_append.mp nd).2.1 (by simpa using h)
/-- xs.append([..]): the new list goes into a list of lists -/
theorem W1.mutll {B H : Hp} {σ : L2.St} {n : Nat} {a p : Addr} {qs : List Addr} {dss : List (List D)} {ds : List D} (w : W1 K R Z B H σ E ((p, .lst ds) :: Γ)) (hn : Γ[n]? = some (a, .ll qs dss)) :
    W1 K R Z B (upd H a (.lst ((qs ++ [p]).map V.ref))) σ E (Γ.set n (a, .ll (qs ++ [p]) (dss ++ [ds]))) := by
  have nd : (p :: fps Γ).Nodup := w.nd
  have hp : p ∉ fps Γ := (List.nodup_cons.mp nd).1
  have ha : a ∈ fps Γ := mem_fps_of (List.mem_of_getElem? hn) (by simp [fp1])
  obtain ⟨e1, z1, l1⟩ := w.obj _ (List.mem_cons_of_mem _ (List.mem_of_getElem? hn))
  have ap : a ≠ p := fun z => hp (z ▸ ha)
  obtain ⟨xs, e2, l2⟩ := w.obj _ List.mem_cons_self
  have fa := w.fr a (List.mem_cons_of_mem _ ha)
  have t : Tx H (upd H a (.lst ((qs ++ [p]).map V.ref))) := tx_upd (by rw [e1]; trivial)
  have k : ∀ {X : Hp}, X a = none → ∀ c o', X c = some o' → c ≠ a := fun hx c o' e z => by subst z; rw [hx] at e; cases e
  have nq : ∀ q ∈ qs, q ≠ a := fun q hq z => by
    subst z
    have : (fp1 (q, MO.ll qs dss)).Nodup := fp1_nodup (List.nodup_cons.mp nd).2 hn
    exact (List.nodup_cons.mp this).1 hq
  have perm : (fps (Γ.set n (a, .ll (qs ++ [p]) (dss ++ [ds])))).Perm (p :: fps Γ) := by
    clear w e1 z1 l1 e2 l2 fa t nq ap ha hp nd
    induction Γ generalizing n with
    | nil => simp at hn
    | cons e Γ ih =>
      cases n with
      | zero =>
        simp at hn; subst hn
        show (a :: (qs ++ [p]) ++ fps Γ).Perm (p :: (a :: qs ++ fps Γ))
        have : (a :: (qs ++ [p]) ++ fps Γ) = (a :: qs) ++ (p :: fps Γ) := by simp
        rw [this]
        exact List.perm_middle
      | succ n =>
        show (fp1 e ++ fps (Γ.set n _)).Perm (p :: (fp1 e ++ fps Γ))
        exact ((ih (by simpa using hn)).append_left (fp1 e)).trans List.perm_middle
  refine ⟨fun c o e => by rw [upd_ne (k fa.1 c o e)]; exact w.rh _ _ e, fun c o e => by rw [upd_ne (k fa.2 c o e)]; exact w.bh _ _ e, w.b0, w.rb, w.len, fun i d e => let ⟨v, h1, h2⟩ := w.env i d e; ⟨v, h1, h2.mono (Ext.refl _) t⟩, fun e he => ?_, perm.nodup_iff.mpr nd, fun c hc => w.fr c (perm.mem_iff.mp hc)⟩
  obtain ⟨j, hj⟩ := List.mem_iff_getElem?.mp he
  by_cases hjn : j = n
  · subst hjn
    rw [List.getElem?_set_self (List.getElem?_eq_some_iff.mp hn).1] at hj
    cases hj
    refine ⟨upd_same, by simp [z1], fun i q es h1 h2 => ?_⟩
    by_cases hi : i < qs.length
    · rw [List.getElem?_append_left hi] at h1
      rw [List.getElem?_append_left (by omega)] at h2
      exact (l1 i q es h1 h2).mono (Ext.refl _) t fun o ho => by rw [upd_ne (nq q (List.mem_of_getElem? h1))]; exact ho
    · rw [List.getElem?_append_right (by omega)] at h1
      rw [List.getElem?_append_right (by omega)] at h2
      have hi0 : i - qs.length = 0 := by
        have := (List.getElem?_eq_some_iff.mp h1).1
        simp at this; omega
      rw [hi0] at h1
      rw [show i - dss.length = 0 by omega] at h2
      simp at h1 h2
      subst h1 h2
      exact ⟨xs, by rw [upd_ne ap.symm]; exact e2, l2.mono (Ext.refl _) t⟩
  · rw [List.getElem?_set_ne (Ne.symm hjn)] at hj
    refine (w.obj e (List.mem_cons_of_mem _ (List.mem_of_getElem? hj))).mono (Ext.refl _) t fun x hx o' hxo => ?_
    rw [upd_ne]
    · exact hxo
    · rintro rfl
      exact hjn (nd_other (List.nodup_cons.mp nd).2 hj hn hx (by simp [fp1]))
end
end DL
set_option Elab.async false
set_option linter.all false
set_option maxRecDepth 100000
set_option maxHeartbeats 2000000
/-! Freezing, dicts, fields, list methods. -/
namespace DL
open PySem PySem.Spec PyProof.Rows L2
instance decMemKey (j : Key) (ks : List Key) : Decidable (j ∈ ks) := decidable_of_iff (ks.any (fun k => decide (k = j)) = true) (by simp [List.any_eq_true])
section
variable {K : PySem.W.Frag} {R Z : Hp} {E E' : List (Option D)} {Γ Γ' : Led} {De : Ends} {te ta tb tl td ty tv to : TE} {d x y z : D} {t u : TS} {k : L2.St → Hp → Prop}
/-- an object of one's own is read only from now on -/
theorem c_frz (i : Nat) {p : Addr} {m : MO} (hi : E[i]? = some (some (.ref p))) (q : Cont K R Z k (E.set i (some (mD m))) Γ) (hd : ∀ w kvs, m ≠ .dn w kvs := by intro _ _ z; cases z) : Cont K R Z k E ((p, m) :: Γ) := fun B H σ w => by
  obtain ⟨B', b, w', iv⟩ := w.freeze hd
  obtain ⟨v, h1, h2⟩ := w.env i _ hi
  cases h2
  have h := q B' H (σ.set i (some (.ref p))) (w'.store iv)
  have e : σ.set i (some (V.ref p)) = σ := by
    apply List.ext_getElem?
    intro j
    by_cases hj : j = i
    · subst hj
      rw [List.getElem?_set_self (List.getElem?_eq_some_iff.mp h1).1, h1]
    · rw [List.getElem?_set_ne (Ne.symm hj)]
  rwa [e] at h
/-- the order of the ledger does not matter -/
theorem fps_perm {Γ Γ' : Led} (h : Γ.Perm Γ') : (fps Γ).Perm (fps Γ') := h.flatMap_right _
theorem c_perm (h : Γ.Perm Γ') (q : Cont K R Z k E Γ') : Cont K R Z k E Γ := q.led (fun x hx => h.mem_iff.mpr hx) fun nd => (fps_perm h).nodup_iff.mp nd
/-! dicts -/
def kGet : List Key → List D → Key → Option D
  | k :: ks, d :: ds, j => if k = j then some d else kGet ks ds j
  | _, _, _ => none
def kPutK (ks : List Key) (j : Key) : List Key := if j ∈ ks then ks else ks ++ [j]
def kPutV : List Key → List D → Key → D → List D
  | k :: ks, d :: ds, j, x => if k = j then x :: kMap ks ds j x else d :: kPutV ks ds j x
  | _, _, _, x => [x]
where kMap : List Key → List D → Key → D → List D
  | k :: ks, d :: ds, j, x => (if k = j then x else d) :: kMap ks ds j x
  | _, _, _, _ => []
theorem valV_rel {B H : Hp} (j : Key) : ∀ {ws : List (Key × V)} {ds : List D}, IsL K B H (ws.map (·.2)) ds → (valV ws j = none ∧ kGet (ws.map (·.1)) ds j = none) ∨ ∃ v d, valV ws j = some v ∧ kGet (ws.map (·.1)) ds j = some d ∧ Is K B H v d
  | [], [], .nil => .inl ⟨rfl, rfl⟩
  | (k, v) :: ws, d :: ds, .cons h l => by
    by_cases e : k = j
    · exact .inr ⟨v, d, valV_pos (p := (k, v)) e, by simp [kGet, e], h⟩
    · rcases valV_rel j l with ⟨h1, h2⟩ | ⟨v', d', h1, h2, h3⟩
      · exact .inl ⟨by rw [valV_neg (p := (k, v)) e]; exact h1, by simp [kGet, e, h2]⟩
      · exact .inr ⟨v', d', by rw [valV_neg (p := (k, v)) e]; exact h1, by simp [kGet, e, h2], h3⟩
theorem kGet_some (j : Key) : ∀ (ks : List Key) (ds : List D), ks.length = ds.length → (kGet ks ds j).isSome = decide (j ∈ ks)
  | [], [], _ => by simp [kGet]
  | k :: ks, d :: ds, h => by
    by_cases e : k = j
    · subst e; simp [kGet]
    · have := kGet_some j ks ds (by simpa using h)
      have e' : ¬ j = k := fun z => e z.symm
      simp [kGet, e, e', this]
  | [], _ :: _, h => by simp at h
  | _ :: _, [], h => by simp at h
theorem map_rel {B H : Hp} {j : Key} {x : V} {dx : D} (hx : Is K B H x dx) : ∀ {ws : List (Key × V)} {ds : List D}, IsL K B H (ws.map (·.2)) ds → IsL K B H ((ws.map fun kv => if kv.1 = j then (kv.1, x) else kv).map (·.2)) (kPutV.kMap (ws.map (·.1)) ds j dx)
  | [], [], .nil => .nil
  | (k, v) :: ws, d :: ds, .cons h l => by
    have ih := map_rel (j := j) hx l
    by_cases e : k = j
    · simp only [List.map_cons, kPutV.kMap, e, if_true]; exact .cons hx ih
    · simp only [List.map_cons, kPutV.kMap, e, if_false]; exact .cons h ih
theorem map_keys (j : Key) (x : V) (ws : List (Key × V)) : (ws.map fun kv => if kv.1 = j then (kv.1, x) else kv).map (·.1) = ws.map (·.1) := by
  rw [List.map_map]
  apply List.map_congr_left
  intro a _
  simp only [Function.comp]
  split <;> rfl
theorem put_any (j : Key) (ws : List (Key × V)) : (ws.any fun kv => decide (kv.1 = j)) = decide (j ∈ ws.map (·.1)) := by
  rw [Bool.eq_iff_iff]
  simp [List.any_eq_true]
theorem kPutV_in {j : Key} {x : D} : ∀ {ks : List Key} {ds : List D}, ks.length = ds.length → j ∈ ks → kPutV ks ds j x = kPutV.kMap ks ds j x
  | [], _, _, h => by simp at h
  | k :: ks, [], h, _ => by simp at h
  | k :: ks, d :: ds, hl, h => by
    by_cases e : k = j
    · simp [kPutV, kPutV.kMap, e]
    · have : j ∈ ks := by
        rcases List.mem_cons.mp h with z | z
        · exact absurd z.symm e
        · exact z
      simp [kPutV, kPutV.kMap, e, kPutV_in (by simpa using hl) this]
theorem kPutV_out {j : Key} {x : D} : ∀ {ks : List Key} {ds : List D}, ks.length = ds.length → j ∉ ks → kPutV ks ds j x = ds ++ [x]
  | [], [], _, _ => by simp [kPutV]
  | [], _ :: _, h, _ => by simp at h
  | k :: ks, [], h, _ => by simp at h
  | k :: ks, d :: ds, hl, h => by
    have e : ¬ k = j := fun z => h (by simp [z])
    have ih := kPutV_out (j := j) (x := x) (ks := ks) (ds := ds) (by simpa using hl) (fun z => h (List.mem_cons_of_mem _ z))
    simp [kPutV, e, ih]
theorem put_rel {B H : Hp} {j : Key} {x : V} {dx : D} (hx : Is K B H x dx) {ws : List (Key × V)} {ds : List D} (l : IsL K B H (ws.map (·.2)) ds) : (putK ws j x).map (·.1) = kPutK (ws.map (·.1)) j ∧ IsL K B H ((putK ws j x).map (·.2)) (kPutV (ws.map (·.1)) ds j dx) := by
  have hl : (ws.map (·.1)).length = ds.length := by have := l.length; simpa using this
  unfold putK kPutK
  rw [put_any]
  by_cases h : j ∈ ws.map (·.1)
  · rw [if_pos (by simpa using h), if_pos h]
    exact ⟨map_keys j x ws, by rw [kPutV_in hl h]; exact map_rel hx l⟩
  · rw [if_neg (by simpa using h), if_neg h]
    exact ⟨by simp, by rw [kPutV_out hl h, List.map_append]; exact l.append (.cons hx .nil)⟩
/-- the key that data is -/
def DKey : D → Key → Prop
  | .int i, k => k = .inl i
  | .str s, k => k = .inr s
  | _, _ => False
theorem key_of {B H : Hp} {v : V} {k : Key} (i : Is K B H v x) (h : DKey x k) : v = kV k := by
  cases i with
  | int i => cases h; rfl
  | str i => cases h; rfl
  | _ => exact h.elim
/-- what stands in a dict -/
def DkAt (K : PySem.W.Frag) (B H : Hp) (a : Addr) (ks : List Key) (ds : List D) : Prop := ∃ ws, H a = some (.dK ws) ∧ ws.map (·.1) = ks ∧ IsL K B H (ws.map (·.2)) ds
theorem et_in (n : Nat) {a : Addr} {ks : List Key} {ds : List D} {j : Key} (hn : Γ[n]? = some (a, .dk ks ds)) (hx : EvD K R Z E Γ ty x) (hd : EvD K R Z E Γ td (.ref a)) (hk : DKey x j) : EvD K R Z E Γ (tDIn ty td) (.bl (decide (j ∈ ks))) := fun B H σ w Q q => hx B H σ w _ fun v B1 H1 b1 x1 w1 i1 => hd B1 H1 σ w1 _ fun u B2 H2 b2 x2 w2 i2 => by
  cases i2
  obtain ⟨ws, e1, f1, l1⟩ := w2.obj _ (List.mem_of_getElem? hn)
  have hl : (ws.map (·.1)).length = ds.length := by have := l1.length; simpa using this
  rw [key_of i1 hk]
  refine ⟨a, valV ws j, rfl, DGet.k e1, ?_⟩
  have : (valV ws j).isSome = decide (j ∈ ks) := by
    subst f1
    rw [← kGet_some j _ ds hl]
    rcases valV_rel j l1 with ⟨h1, h2⟩ | ⟨v', d', h1, h2, _⟩ <;> simp [h1, h2]
  rw [this]
  exact q _ B2 H2 (b1.trans b2) (x1.trans x2) w2 (.bl _)
theorem et_notin (n : Nat) {a : Addr} {ks : List Key} {ds : List D} {j : Key} (hn : Γ[n]? = some (a, .dk ks ds)) (hx : EvD K R Z E Γ ty x) (hd : EvD K R Z E Γ td (.ref a)) (hk : DKey x j) : EvD K R Z E Γ (tDNotIn ty td) (.bl (!decide (j ∈ ks))) := fun B H σ w Q q => hx B H σ w _ fun v B1 H1 b1 x1 w1 i1 => hd B1 H1 σ w1 _ fun u B2 H2 b2 x2 w2 i2 => by
  cases i2
  obtain ⟨ws, e1, f1, l1⟩ := w2.obj _ (List.mem_of_getElem? hn)
  have hl : (ws.map (·.1)).length = ds.length := by have := l1.length; simpa using this
  rw [key_of i1 hk]
  refine ⟨a, valV ws j, rfl, DGet.k e1, ?_⟩
  have : (valV ws j).isSome = decide (j ∈ ks) := by
    subst f1
    rw [← kGet_some j _ ds hl]
    rcases valV_rel j l1 with ⟨h1, h2⟩ | ⟨v', d', h1, h2, _⟩ <;> simp [h1, h2]
  rw [this]
  exact q _ B2 H2 (b1.trans b2) (x1.trans x2) w2 (.bl _)
theorem ev_dget (n : Nat) {a : Addr} {ks : List Key} {ds : List D} {j : Key} (hn : Γ[n]? = some (a, .dk ks ds)) (hd : EvD K R Z E Γ td (.ref a)) (hx : EvD K R Z E Γ ty x) (hk : DKey x j) (hg : kGet ks ds j = some d) : EvD K R Z E Γ (tDGet td ty) d := fun B H σ w Q q => hd B H σ w _ fun v B1 H1 b1 x1 w1 i1 => hx B1 H1 σ w1 _ fun u B2 H2 b2 x2 w2 i2 => by
  cases i1
  obtain ⟨ws, e1, f1, l1⟩ := w2.obj _ (List.mem_of_getElem? hn)
  rw [key_of i2 hk]
  subst f1
  rcases valV_rel j l1 with ⟨h1, h2⟩ | ⟨v', d', h1, h2, h3⟩
  · rw [hg] at h2; cases h2
  · rw [hg] at h2; cases h2
    exact ⟨a, v', rfl, by rw [← h1]; exact DGet.k e1, q _ B2 H2 (b1.trans b2) (x1.trans x2) w2 h3⟩
/-- of a dict that is read only -/
theorem ev_dgetD {ks : List Key} {ds : List D} {j : Key} (hd : EvD K R Z E Γ td (.dk ks ds)) (hx : EvD K R Z E Γ ty x) (hk : DKey x j) (hg : kGet ks ds j = some d) : EvD K R Z E Γ (tDGet td ty) d := fun B H σ w Q q => hd B H σ w _ fun v B1 H1 b1 x1 w1 i1 => hx B1 H1 σ w1 _ fun u B2 H2 b2 x2 w2 i2 => by
  cases i1.mono b2 x2.tx with
  | dk e1 f1 l1 =>
    rw [key_of i2 hk]
    subst f1
    rcases valV_rel j l1 with ⟨h1, h2⟩ | ⟨v', d', h1, h2, h3⟩
    · rw [hg] at h2; cases h2
    · rw [hg] at h2; cases h2
      exact ⟨_, v', rfl, by rw [← h1]; exact DGet.k (w2.bh _ _ e1), q _ B2 H2 (b1.trans b2) (x1.trans x2) w2 h3⟩
theorem c_dput (n : Nat) {a : Addr} {ks : List Key} {ds : List D} {j : Key} (hn : Γ[n]? = some (a, .dk ks ds)) (hv : EvD K R Z E Γ tv y) (hd : EvD K R Z E Γ td (.ref a)) (hx : EvD K R Z E Γ ty x) (hk : DKey x j) (hl : ks.length < sizeLine)
    (q : Cont K R Z De.nx E (Γ.set n (a, .dk (kPutK ks j) (kPutV ks ds j y)))) : Cont K R Z (sDPut td ty tv De) E Γ := fun B H σ w => hv B H σ w _ fun v B1 H1 b1 x1 w1 i1 => hd B1 H1 σ w1 _ fun u B2 H2 b2 x2 w2 i2 => hx B2 H2 σ w2 _ fun u3 B3 H3 b3 x3 w3 i3 => by
  cases i2
  obtain ⟨ws, e1, f1, l1⟩ := w3.obj _ (List.mem_of_getElem? hn)
  rw [key_of i3 hk]
  have hz : ws.length < sizeLine := by rw [← f1] at hl; simpa using hl
  refine ⟨a, _, rfl, DPut.k e1 hz, q B3 _ σ (w3.mut (p := a) hn (by simp [fp1]) rfl ?_)⟩
  subst f1
  have iv := (i1.mono b2 x2.tx).mono b3 x3.tx
  obtain ⟨p1, p2⟩ := put_rel (j := j) iv l1
  exact ⟨_, upd_same, p1, p2.mono (Ext.refl _) (tx_upd (by rw [e1]; trivial))⟩
/-! fields -/
def fGet : List Str → List D → Str → Option D
  | k :: ks, d :: ds, j => if j = k then some d else fGet ks ds j
  | _, _, _ => none
def fPutK : List Str → Str → List Str
  | [], j => [j]
  | k :: ks, j => if k = j then k :: ks else k :: fPutK ks j
def fPutV : List Str → List D → Str → D → List D
  | k :: ks, d :: ds, j, x => if k = j then x :: ds else d :: fPutV ks ds j x
  | _, _, _, x => [x]
theorem fld_rel {B H : Hp} {j : Str} : ∀ {ws : List (Str × V)} {ds : List D} {d : D}, IsL K B H (ws.map (·.2)) ds → fGet (ws.map (·.1)) ds j = some d → ∃ v, ws.lookup j = some v ∧ Is K B H v d
  | [], [], d, .nil, h => by simp [fGet] at h
  | (k, v) :: ws, e :: ds, d, .cons i l, h => by
    by_cases e1 : j = k
    · have hb : (j == k) = true := beq_iff_eq.mpr e1
      simp only [List.map_cons, fGet, e1, if_true] at h
      cases h
      exact ⟨v, by simp only [List.lookup, hb], i⟩
    · have hb : (j == k) = false := beq_eq_false_iff_ne.mpr e1
      simp only [List.map_cons, fGet, e1, if_false] at h
      obtain ⟨v', h1, h2⟩ := fld_rel l h
      exact ⟨v', by simp only [List.lookup, hb]; exact h1, h2⟩
theorem fput_rel {B H : Hp} {j : Str} {x : V} {dx : D} (hx : Is K B H x dx) : ∀ {ws : List (Str × V)} {ds : List D}, IsL K B H (ws.map (·.2)) ds → (putF j x ws).map (·.1) = fPutK (ws.map (·.1)) j ∧ IsL K B H ((putF j x ws).map (·.2)) (fPutV (ws.map (·.1)) ds j dx)
  | [], [], .nil => ⟨rfl, .cons hx .nil⟩
  | (k, v) :: ws, e :: ds, .cons i l => by
    by_cases e1 : k = j
    · subst e1
      have : putF k x ((k, v) :: ws) = (k, x) :: ws := by simp [putF]
      rw [this]
      exact ⟨by simp [fPutK], by simp only [List.map_cons, fPutV, if_true]; exact .cons hx l⟩
    · obtain ⟨h1, h2⟩ := fput_rel (j := j) hx l
      have : putF j x ((k, v) :: ws) = (k, v) :: putF j x ws := by simp [putF, e1]
      rw [this]
      exact ⟨by simp [fPutK, e1, h1], by simp only [List.map_cons, fPutV, e1, if_false]; exact .cons i h2⟩
theorem ev_fld {C : Addr} {fs : List Str} {ds : List D} {f : Str} (ha : EvD K R Z E Γ ta (.ins C fs ds)) (hc : Cls K C) (hn : NoAttr K C f) (hd : fGet fs ds f = some d) : EvD K R Z E Γ (tFld K ta f) d := fun B H σ w Q q => ha B H σ w _ fun v B1 H1 b1 x1 w1 i1 => by
  cases i1 with
  | ins e1 f1 l1 =>
    subst f1
    obtain ⟨v, h1, h2⟩ := fld_rel l1 hd
    exact ⟨_, _, _, _, v, rfl, w1.bh _ _ e1, hc, hn, h1, q v B1 H1 b1 x1 w1 h2⟩
theorem ev_fldO (n : Nat) {a C : Addr} {fs : List Str} {ds : List D} {f : Str} (hg : Γ[n]? = some (a, .ins C fs ds)) (ha : EvD K R Z E Γ ta (.ref a)) (hc : Cls K C) (hn : NoAttr K C f) (hd : fGet fs ds f = some d) : EvD K R Z E Γ (tFld K ta f) d := fun B H σ w Q q => ha B H σ w _ fun v B1 H1 b1 x1 w1 i1 => by
  cases i1
  obtain ⟨dx, ws, e1, f1, l1⟩ := w1.obj _ (List.mem_of_getElem? hg)
  subst f1
  obtain ⟨v, h1, h2⟩ := fld_rel l1 hd
  exact ⟨_, _, _, _, v, rfl, e1, hc, hn, h1, q v B1 H1 b1 x1 w1 h2⟩
theorem c_fld (n : Nat) {a C : Addr} {fs : List Str} {ds : List D} {f : Str} (hg : Γ[n]? = some (a, .ins C fs ds)) (hv : EvD K R Z E Γ tv y) (ha : EvD K R Z E Γ ta (.ref a)) (hc : Cls K C) (hn : NoAttr K C f) (hl : fs.length < 1000)
    (q : Cont K R Z De.nx E (Γ.set n (a, .ins C (fPutK fs f) (fPutV fs ds f y)))) : Cont K R Z (sFld K ta tv f De) E Γ := fun B H σ w => hv B H σ w _ fun v B1 H1 b1 x1 w1 i1 => ha B1 H1 σ w1 _ fun u B2 H2 b2 x2 w2 i2 => by
  cases i2
  obtain ⟨dx, ws, e1, f1, l1⟩ := w2.obj _ (List.mem_of_getElem? hg)
  subst f1
  obtain ⟨p1, p2⟩ := fput_rel (j := f) (i1.mono b2 x2.tx) l1
  refine ⟨_, _, _, _, rfl, e1, hc, hn, by simpa using hl, q B2 _ σ (w2.mut (p := a) hg (by simp [fp1]) rfl ⟨_, _, upd_same, p1, p2.mono (Ext.refl _) (tx_upd (by rw [e1]; trivial))⟩)⟩
/-! xs[i] = v, xs.pop(), xs.extend(ys) -/
theorem ixN_map {n : Nat} {i : Int} {j : Nat} (h : ixN n i = some j) : j < n := (ixN_seq h).2.1
theorem c_setL (n : Nat) {ti : TE} {a : Addr} {ds : List D} {i : Int} {j : Nat} (hn : Γ[n]? = some (a, .lst ds)) (hv : EvD K R Z E Γ tv y) (ha : EvD K R Z E Γ to (.ref a)) (hi : EvD K R Z E Γ ti (.int i)) (hj : ixN ds.length i = some j)
    (q : Cont K R Z De.nx E (Γ.set n (a, .lst (ds.set j y)))) : Cont K R Z (tAsg tv (gSub to ti rSetL) De) E Γ := fun B H σ w => hv B H σ w _ fun v B1 H1 b1 x1 w1 i1 => ha B1 H1 σ w1 _ fun u B2 H2 b2 x2 w2 i2 => hi B2 H2 σ w2 _ fun u3 B3 H3 b3 x3 w3 i3 => by
  cases i2; cases i3
  obtain ⟨xs, e1, l1⟩ := w3.obj _ (List.mem_of_getElem? hn)
  refine ⟨a, xs, i, j, rfl, rfl, e1, by rw [l1.length]; exact hj, q B3 _ σ (w3.mut (p := a) hn (by simp [fp1]) rfl ⟨_, upd_same, ?_⟩)⟩
  exact (IsL.set ((i1.mono b2 x2.tx).mono b3 x3.tx) j l1).mono (Ext.refl _) (tx_upd (by rw [e1]; trivial))
theorem IsL.dropLast : ∀ {vs : List V} {ds : List D} {B H : Hp}, IsL K B H vs ds → IsL K B H vs.dropLast ds.dropLast
  | _, _, _, _, .nil => .nil
  | _, _, _, _, .cons a .nil => .nil
  | _, _, _, _, .cons a (.cons b l) => .cons a (IsL.dropLast (.cons b l))
/-- y = xs.pop() as an expression's statement -/
theorem c_pop (n : Nat) {a : Addr} {ds : List D} (hn : Γ[n]? = some (a, .lst ds)) (ha : EvD K R Z E Γ to (.ref a)) (hz : ds[ds.length - 1]? = some d) (q : Cont K R Z De.nx E (Γ.set n (a, .lst ds.dropLast))) : Cont K R Z (tDrop (tBM0 K "list" rPop to) De) E Γ := fun B H σ w => ha B H σ w _ fun v B1 H1 b1 x1 w1 i1 => by
  cases i1
  refine ⟨tyV_list w1 hn, ?_⟩
  obtain ⟨xs, e1, l1⟩ := w1.obj _ (List.mem_of_getElem? hn)
  obtain ⟨v, h1, h2⟩ := l1.get hz
  refine ⟨a, xs, v, rfl, rfl, e1, by rw [l1.length]; exact h1, q B1 _ σ (w1.mut (p := a) hn (by simp [fp1]) rfl ⟨_, upd_same, (IsL.dropLast l1).mono (Ext.refl _) (tx_upd (by rw [e1]; trivial))⟩)⟩
theorem c_setPop (n : Nat) {i : Nat} {a : Addr} {ds : List D} (hn : Γ[n]? = some (a, .lst ds)) (ha : EvD K R Z E Γ to (.ref a)) (hz : ds[ds.length - 1]? = some d) (q : Cont K R Z De.nx (E.set i (some d)) (Γ.set n (a, .lst ds.dropLast))) : Cont K R Z (tAsg (tBM0 K "list" rPop to) (gName i) De) E Γ := fun B H σ w => ha B H σ w _ fun v B1 H1 b1 x1 w1 i1 => by
  cases i1
  refine ⟨tyV_list w1 hn, ?_⟩
  obtain ⟨xs, e1, l1⟩ := w1.obj _ (List.mem_of_getElem? hn)
  obtain ⟨v, h1, h2⟩ := l1.get hz
  have t := tx_upd (H := H1) (p := a) (o := .lst xs.dropLast) (by rw [e1]; trivial)
  refine ⟨a, xs, v, rfl, rfl, e1, by rw [l1.length]; exact h1, q B1 _ _ ((w1.mut (p := a) (m' := .lst ds.dropLast) (o := .lst xs.dropLast) hn (by simp [fp1]) rfl ⟨_, upd_same, (IsL.dropLast l1).mono (Ext.refl _) t⟩).store (h2.mono (Ext.refl _) t))⟩
end
end DL
set_option Elab.async false
set_option linter.all false
set_option maxRecDepth 100000
set_option maxHeartbeats 2000000
/-! Dicts whose keys are tuples. -/
namespace DL
open PySem PySem.Spec PyProof.Rows L2
section
variable {X : Cx} {pins : List (Addr × Obj)} {σ : L2.St} {H : Hp} {s : Shared} {B : Hp}
mutual
theorem nk_is (I : Inv X pins σ H s) : ∀ {v : V} {d : D} {u : Value}, Is X.K B H v d → nkOk d = true → RelV v u → NestedIs s.heap (nkD d) u
  | _, _, u, .non, _, r => by cases r; exact .none
  | _, _, u, .bl b, _, r => by cases r; exact .bool rfl
  | _, _, u, .int i, _, r => by obtain ⟨t, rfl⟩ := r; exact .int i t
  | _, _, u, .str i, _, r => by obtain ⟨t, rfl⟩ := r; exact .text i t
  | _, _, u, .tup h l, ok, r => by
    cases r
    obtain ⟨its, rv, ⟨o, e, c, n, dd⟩, _⟩ := I.tuple h
    simp only [nkOk] at ok
    exact .tup e c dd (nks_is I l ok rv)
  | _, _, u, .ref a, ok, r => by simp [nkOk] at ok
  | _, _, u, .lst h l, ok, r => by simp [nkOk] at ok
  | _, _, u, .fz h l, ok, r => by simp [nkOk] at ok
  | _, _, u, .dk h e l, ok, r => by simp [nkOk] at ok
  | _, _, u, .ins h e l, ok, r => by simp [nkOk] at ok
theorem nks_is (I : Inv X pins σ H s) : ∀ {vs : List V} {ds : List D} {us : List Value}, IsL X.K B H vs ds → nkOks ds = true → Vals vs us → NestedAll s.heap (nkDs ds) us
  | _, _, _, .nil, _, .nil => .nil
  | _, _, _, .cons h l, ok, .cons r rs => by
    simp only [nkOks, Bool.and_eq_true] at ok
    exact .cons (nk_is I h ok.1 r) (nks_is I l ok.2 rs)
end
theorem key_is (I : Inv X pins σ H s) {a : Addr} {d : D} (h : Is X.K B H (.ref a) d) (ok : nkOk d = true) (hd : (nkD d).depth ≤ 8) : (nestedKind X.prog X.w).is s.heap (nkD d) a := ⟨nk_is I h ok rfl, hd⟩
theorem dn_rd (I : Inv X pins σ H s) {a : Addr} {kvs : List (D × D)} {xs : List (NestedKey × Addr × Value)} (e : H a = some (DnO X.w a xs)) (r : Paired (EntIs X.K B H) kvs xs) : (a == sysModules) = false ∧ s.heap.DictOfH (nestedKind X.prog X.w) a xs := by
  have z := I.hok a _ e
  obtain ⟨⟨h1, h2, o, es, ep, h3, h4, h5, h6⟩, _⟩ := z
  refine ⟨h1, o, es, ep, h3, h4, h5, h6, fun x hx => ?_, h2⟩
  have all : ∀ {l : List (D × D)} {m : List (NestedKey × Addr × Value)}, Paired (EntIs X.K B H) l m → ∀ x ∈ m, (nestedKind X.prog X.w).is s.heap x.1 x.2.1 := by
    intro l m q
    induction q with
    | nil => intro x hx; exact nomatch hx
    | @cons p q ps qs hq t ih =>
      intro x hx
      rcases List.mem_cons.mp hx with e | hx
      · subst e
        rw [hq.2.2.1]
        exact key_is I hq.2.2.2.1 hq.1 hq.2.1
      · exact ih x hx
  exact all r x hx
/-- what a dict gives -/
def dnGet : List (D × D) → D → Option D
  | [], _ => none
  | p :: r, d => if nkD p.1 = nkD d then some p.2 else dnGet r d
theorem dn_val {K : PySem.W.Frag} {d : D} : ∀ {kvs : List (D × D)} {xs : List (NestedKey × Addr × Value)}, Paired (EntIs K B H) kvs xs → (atKey xs (nkD d) = none ∧ dnGet kvs d = none) ∨ ∃ p v x, atKey xs (nkD d) = some p ∧ dnGet kvs d = some x ∧ RelV v p.2 ∧ Is K B H v x
  | _, _, .nil => .inl ⟨rfl, rfl⟩
  | p :: r, q :: m, .cons h t => by
    obtain ⟨h1, h2, h3, h4, v, h5, h6⟩ := h
    by_cases e : nkD p.1 = nkD d
    · refine .inr ⟨q.2, v, p.2, ?_, by simp [dnGet, e], h5, h6⟩
      simp [atKey, List.find?_cons, h3, e]
    · have e' : ¬ q.1 = nkD d := fun z => e (h3.symm.trans z)
      have b : atKey (q :: m) (nkD d) = atKey m (nkD d) := by simp [atKey, List.find?_cons, e']
      rcases dn_val (d := d) t with ⟨a1, a2⟩ | ⟨p', v', x', a1, a2, a3, a4⟩
      · exact .inl ⟨by rw [b]; exact a1, by simp [dnGet, e, a2]⟩
      · exact .inr ⟨p', v', x', by rw [b]; exact a1, by simp [dnGet, e, a2], a3, a4⟩
/-- behind a store of a key that is not there -/
theorem dn_new {K : PySem.W.Frag} {d x : D} {a : Addr} {u : Value} {v : V} {kvs : List (D × D)} {xs : List (NestedKey × Addr × Value)} (r : Paired (EntIs K B H) kvs xs) (hn : dnGet kvs d = none) (h : Is K B H (.ref a) d) (ok : nkOk d = true) (hd : (nkD d).depth ≤ 8)
    (rv : RelV v u) (iv : Is K B H v x) : storedH xs (nkD d) a u = xs ++ [(nkD d, a, u)] ∧ Paired (EntIs K B H) (kvs ++ [(d, x)]) (xs ++ [(nkD d, a, u)]) := by
  rcases dn_val (d := d) r with ⟨a1, a2⟩ | ⟨p', v', x', a1, a2, a3, a4⟩
  · exact ⟨storedH_new a1 a u, Paired.snoc r ⟨ok, hd, rfl, h, v, rv, iv⟩⟩
  · rw [hn] at a2; cases a2
/-- reading: the key's data and the dict's entries -/
def DnGet (K : PySem.W.Frag) (w : World) (H : Hp) (x y : V) (k : Option V → Prop) : Prop := ∃ a b B kvs xs d, x = .ref a ∧ y = .ref b ∧ H a = some (DnO w a xs) ∧ Paired (EntIs K B H) kvs xs ∧ Is K B H (.ref b) d ∧ nkOk d = true ∧ (nkD d).depth ≤ 8 ∧
  (dnGet kvs d = none → k none) ∧ ∀ v z, dnGet kvs d = some z → Is K B H v z → k (some v)
def tNIn (K : PySem.W.Frag) (w : World) (ty td : TE) : TE := fun σ H Q => ty σ H fun y H1 => td σ H1 fun x H2 => DnGet K w H2 x y fun o => Q (.bl o.isSome) H2
def tNNotIn (K : PySem.W.Frag) (w : World) (ty td : TE) : TE := fun σ H Q => ty σ H fun y H1 => td σ H1 fun x H2 => DnGet K w H2 x y fun o => Q (.bl (!o.isSome)) H2
def tNGet (K : PySem.W.Frag) (w : World) (td ty : TE) : TE := fun σ H Q => td σ H fun x H1 => ty σ H1 fun y H2 => DnGet K w H2 x y fun o => ∃ v, o = some v ∧ Q v H2
variable {i o value : Expr} {td ty tv : TE} {pos : Pos}
theorem nroom {A : Around} (hu : A.units + 64 < cLine) : (nestedKind X.prog X.w).room A.in1 := by show A.units + 1 + 8 < cLine; omega
theorem pc_nin (hu : X.A.units + 64 < cLine) (hi : PE X i ty) (ho : PE X o td) : PC X .In i o (tNIn X.K X.w ty td) := by
  refine ⟨fun pins s σ H Q I h => ?_⟩
  refine thn (hi.run pins s σ H _ I h) fun iv s1 ⟨y, H1, I1, ry, q1⟩ => thn (ho.run pins s1 σ H1 _ I1 q1) fun u s2 ⟨x, H2, I2, rx, a, b, B, kvs, xs, d, ex, ey, e, r, id, ok, hd, q2, q3⟩ => ?_
  subst ex ey
  obtain rfl : u = Value.ref a := rx
  obtain rfl : iv = Value.ref b := ry
  obtain ⟨hs, dd⟩ := dn_rd I2 e r
  refine wpAny_in_heap (nroom hu) (key_is I2 id ok hd) hs dd ?_
  rcases dn_val (d := d) r with ⟨a1, a2⟩ | ⟨p', v', x', a1, a2, a3, a4⟩
  · rw [a1]; exact ⟨.bl _, H2, I2.tok _, rfl, q2 a2⟩
  · rw [a1]; exact ⟨.bl _, H2, I2.tok _, rfl, q3 v' x' a2 a4⟩
theorem pc_nnotin (hu : X.A.units + 64 < cLine) (hi : PE X i ty) (ho : PE X o td) : PC X .NotIn i o (tNNotIn X.K X.w ty td) := by
  refine ⟨fun pins s σ H Q I h => ?_⟩
  refine thn (hi.run pins s σ H _ I h) fun iv s1 ⟨y, H1, I1, ry, q1⟩ => thn (ho.run pins s1 σ H1 _ I1 q1) fun u s2 ⟨x, H2, I2, rx, a, b, B, kvs, xs, d, ex, ey, e, r, id, ok, hd, q2, q3⟩ => ?_
  subst ex ey
  obtain rfl : u = Value.ref a := rx
  obtain rfl : iv = Value.ref b := ry
  obtain ⟨hs, dd⟩ := dn_rd I2 e r
  refine wpAny_notIn_heap (nroom hu) (key_is I2 id ok hd) hs dd ?_
  rcases dn_val (d := d) r with ⟨a1, a2⟩ | ⟨p', v', x', a1, a2, a3, a4⟩
  · rw [a1]; exact ⟨.bl _, H2, I2.tok _, rfl, q2 a2⟩
  · rw [a1]; exact ⟨.bl _, H2, I2.tok _, rfl, q3 v' x' a2 a4⟩
theorem pe_nget (hu : X.A.units + 64 < cLine) (ho : PE X o td) (hi : PE X i ty) (hs : NoSl i) : PE X (.Subscript o i pos) (tNGet X.K X.w td ty) := by
  refine ⟨fun pins s σ H Q I h => ?_⟩
  refine subD_of PySem.F.slot_dict_getitem.lookup hs (thn (ho.run pins s σ H _ I h) fun u s1 ⟨x, H1, I1, rx, q1⟩ => thn (hi.run pins s1 σ H1 _ I1 q1) fun iv s2 ⟨y, H2, I2, ry, a, b, B, kvs, xs, d, ex, ey, e, r, id, ok, hd, q2, q3⟩ => ?_)
  subst ex ey
  obtain rfl : u = Value.ref a := rx
  obtain rfl : iv = Value.ref b := ry
  obtain ⟨hs, dd⟩ := dn_rd I2 e r
  refine ⟨dd.typeIs, ?_⟩
  rcases dn_val (d := d) r with ⟨a1, a2⟩ | ⟨p', v', x', a1, a2, a3, a4⟩
  · obtain ⟨v, z, _⟩ := q2 a2; cases z
  · obtain ⟨v, z, q⟩ := q3 v' x' a2 a4
    cases z
    exact wpAny_getItem_heap (nroom hu) (key_is I2 id ok hd) dd a1 ⟨v', H2, I2.tok _, a3, q⟩
/-- d[k] = v of a key that is not there -/
def sNPut (K : PySem.W.Frag) (w : World) (td ty tv : TE) : TS := fun D σ H => tv σ H fun v H1 => td σ H1 fun x H2 => ty σ H2 fun y H3 => ∃ a b B kvs xs d, x = .ref a ∧ y = .ref b ∧ H3 a = some (DnO w a xs) ∧ Paired (EntIs K B H3) kvs xs ∧ Is K B H3 (.ref b) d ∧ nkOk d = true ∧ (nkD d).depth ≤ 8 ∧
  dnGet kvs d = none ∧ xs.length < sizeLine ∧ ∀ u, RelV v u → D.nx σ (upd H3 a (DnO w a (xs ++ [(nkD d, b, u)])))
theorem ps_nput {pos' : Pos} (hu : X.A.units + 64 < cLine) (ho : PE X o td) (hi : PE X i ty) (hv : PE X value tv) (hs : swapsWith value (some (.Subscript o i pos')) pos.line X.env = pure false) :
    PS X (.Assign [.Subscript o i pos'] value pos) (sNPut X.K X.w td ty tv) := by
  refine ⟨fun pins s σ H De I h => ?_⟩
  refine wpAny_Assign_Subscript (thn (hv.run pins s σ H _ I h) fun r s1 ⟨v, H1, I1, rv, q1⟩ => thn (ho.run pins s1 σ H1 _ I1 q1) fun u s2 ⟨x, H2, I2, rx, q2⟩ => thn (hi.run pins s2 σ H2 _ I2 q2) fun iv s3 ⟨y, H3, I3, ry, a, b, B, kvs, xs, d, ex, ey, e, rp, id, ok, hd, hn, hz, q3⟩ => ?_) hs
  subst ex ey
  obtain rfl : u = Value.ref a := rx
  obtain rfl : iv = Value.ref b := ry
  obtain ⟨hsm, dd⟩ := dn_rd I3 e rp
  refine wpAny_setItem_heap (hsz := Nat.le_of_lt hz) (nroom hu) (key_is I3 id ok hd) dd fun h' dd' hs => ?_
  have es : storedH xs (nkD d) b r = xs ++ [(nkD d, b, r)] := by
    rcases dn_val (d := d) rp with ⟨a1, a2⟩ | ⟨p', v', x', a1, a2, a3, a4⟩
    · exact storedH_new a1 b r
    · rw [hn] at a2; cases a2
  rw [es] at dd'
  obtain ⟨q, es', ep, hq, h2, h3, h4, h5, h6⟩ := dd'
  refine ⟨σ, _, d_write I3 (by rw [e]; exact True.intro) hs ⟨q, hq⟩ ?_, q3 r rv⟩
  refine ⟨⟨hsm, h6, q, es', ep, hq, h2, h3, h4⟩, ⟨q, hq⟩, fun h1 h2 ⟨z1, z2, o, es, ep, y1, y2⟩ k => ⟨z1, z2, o, es, ep, k o y1, y2⟩⟩
/-- {}, its keys will be tuples -/
def tNNew (w : World) : TE := fun _ H Q => ∀ p, H p = none → Q (.ref p) (upd H p (DnO w p []))
theorem pe_dnewN : PE X (.Dict [] [] pos) (tNNew X.w) := ⟨fun pins s σ H Q I h =>
  wpAny_Dict_empty ⟨.ref s.heap.objs.size, _, I.laid (a := s.heap.objs.size) (o := DnO X.w s.heap.objs.size []) (t' := s.toks) (fun _ _ q => Heap.get?_push_of_some _ q) (Nat.le_refl _)
    ⟨⟨beq_eq_false_iff_ne.mpr (Ne.symm (Nat.ne_of_lt I.big)), List.nodup_nil, _, #[], 0, Heap.get?_push_size _ rfl, ⟨rfl, rfl, rfl⟩, rfl, rfl⟩, ⟨_, Heap.get?_push_size _ rfl⟩, fun h1 h2 ⟨z1, z2, o, es, ep, y1, y2⟩ k => ⟨z1, z2, o, es, ep, k o y1, y2⟩⟩, rfl, h _ (I.hok.fresh (Nat.le_refl _))⟩⟩
end
section
variable {K : PySem.W.Frag} {R Z : Hp} {E E' : List (Option D)} {Γ Γ' : Led} {De : Ends} {te ta tb tl td ty tv to : TE} {d x y z : D} {wd : World}
theorem en_dn : EvN K R Z E Γ (tNNew wd) (.dn wd []) := fun B H σ w Q q p hp =>
  q p B _ (Ext.refl _) (Ext.new hp) rfl (w.own (Ext.new hp) hp rfl ⟨[], upd_same, .nil⟩)
theorem dn_get {B H : Hp} {σ : L2.St} {n : Nat} {a b : Addr} {kvs : List (D × D)} (w : W1 K R Z B H σ E Γ) (hn : Γ[n]? = some (a, .dn wd kvs)) (hx : Is K B H (.ref b) d) (ok : nkOk d = true) (hd : (nkD d).depth ≤ 8) {k : Option V → Prop}
    (q2 : dnGet kvs d = none → k none) (q3 : ∀ v z, dnGet kvs d = some z → Is K B H v z → k (some v)) : DnGet K wd H (.ref a) (.ref b) k := by
  obtain ⟨xs, e1, l1⟩ := w.obj _ (List.mem_of_getElem? hn)
  exact ⟨a, b, B, kvs, xs, d, rfl, rfl, e1, l1, hx, ok, hd, q2, q3⟩
def isTup : D → Bool
  | .tup _ => true
  | _ => false
theorem tup_ref {B H : Hp} {v : V} (h : Is K B H v d) (t : isTup d = true) : ∃ b, v = .ref b := by
  cases h <;> first | exact ⟨_, rfl⟩ | (simp [isTup] at t)
theorem ev_nin (n : Nat) {a : Addr} {kvs : List (D × D)} (hn : Γ[n]? = some (a, .dn wd kvs)) (hx : EvD K R Z E Γ ty x) (hd : EvD K R Z E Γ td (.ref a)) (ht : isTup x = true) (ok : nkOk x = true) (dp : (nkD x).depth ≤ 8) : EvD K R Z E Γ (tNIn K wd ty td) (.bl (dnGet kvs x).isSome) := fun B H σ w Q q => hx B H σ w _ fun v B1 H1 b1 x1 w1 i1 => hd B1 H1 σ w1 _ fun u B2 H2 b2 x2 w2 i2 => by
  cases i2
  have i3 := i1.mono b2 x2.tx
  obtain ⟨b, rfl⟩ := tup_ref i3 ht
  refine dn_get w2 hn i3 ok dp (fun e => ?_) fun v z e i => ?_
  · rw [e] at q; exact q _ B2 H2 (b1.trans b2) (x1.trans x2) w2 (.bl _)
  · rw [e] at q; exact q _ B2 H2 (b1.trans b2) (x1.trans x2) w2 (.bl _)
theorem ev_nnotin (n : Nat) {a : Addr} {kvs : List (D × D)} (hn : Γ[n]? = some (a, .dn wd kvs)) (hx : EvD K R Z E Γ ty x) (hd : EvD K R Z E Γ td (.ref a)) (ht : isTup x = true) (ok : nkOk x = true) (dp : (nkD x).depth ≤ 8) : EvD K R Z E Γ (tNNotIn K wd ty td) (.bl (!(dnGet kvs x).isSome)) := fun B H σ w Q q => hx B H σ w _ fun v B1 H1 b1 x1 w1 i1 => hd B1 H1 σ w1 _ fun u B2 H2 b2 x2 w2 i2 => by
  cases i2
  have i3 := i1.mono b2 x2.tx
  obtain ⟨b, rfl⟩ := tup_ref i3 ht
  refine dn_get w2 hn i3 ok dp (fun e => ?_) fun v z e i => ?_
  · rw [e] at q; exact q _ B2 H2 (b1.trans b2) (x1.trans x2) w2 (.bl _)
  · rw [e] at q; exact q _ B2 H2 (b1.trans b2) (x1.trans x2) w2 (.bl _)
theorem ev_nget (n : Nat) {a : Addr} {kvs : List (D × D)} (hn : Γ[n]? = some (a, .dn wd kvs)) (hd : EvD K R Z E Γ td (.ref a)) (hx : EvD K R Z E Γ ty x) (ht : isTup x = true) (ok : nkOk x = true) (dp : (nkD x).depth ≤ 8) (hg : dnGet kvs x = some d) : EvD K R Z E Γ (tNGet K wd td ty) d := fun B H σ w Q q => hd B H σ w _ fun v B1 H1 b1 x1 w1 i1 => hx B1 H1 σ w1 _ fun u B2 H2 b2 x2 w2 i2 => by
  cases i1
  obtain ⟨b, rfl⟩ := tup_ref i2 ht
  refine dn_get w2 hn i2 ok dp (fun e => ?_) fun v z e i => ?_
  · rw [hg] at e; cases e
  · rw [hg] at e; cases e
    exact ⟨v, rfl, q v B2 H2 (b1.trans b2) (x1.trans x2) w2 i⟩
theorem c_nput (n : Nat) {a : Addr} {kvs : List (D × D)} (hn : Γ[n]? = some (a, .dn wd kvs)) (hv : EvD K R Z E Γ tv y) (hd : EvD K R Z E Γ td (.ref a)) (hx : EvD K R Z E Γ ty x) (ht : isTup x = true) (ok : nkOk x = true) (dp : (nkD x).depth ≤ 8) (hg : dnGet kvs x = none) (hl : kvs.length < sizeLine)
    (q : Cont K R Z De.nx E (Γ.set n (a, .dn wd (kvs ++ [(x, y)])))) : Cont K R Z (sNPut K wd td ty tv De) E Γ := fun B H σ w => hv B H σ w _ fun v B1 H1 b1 x1 w1 i1 => hd B1 H1 σ w1 _ fun u B2 H2 b2 x2 w2 i2 => hx B2 H2 σ w2 _ fun u3 B3 H3 b3 x3 w3 i3 => by
  cases i2
  obtain ⟨b, rfl⟩ := tup_ref i3 ht
  obtain ⟨xs, e1, l1⟩ := w3.obj _ (List.mem_of_getElem? hn)
  refine ⟨a, b, B3, kvs, xs, x, rfl, rfl, e1, l1, i3, ok, dp, hg, by rw [← Paired.length l1]; exact hl, fun u ru => q B3 _ σ (w3.mut (p := a) hn (by simp [fp1]) rfl ⟨_, upd_same, ?_⟩)⟩
  have iv := (i1.mono b2 x2.tx).mono b3 x3.tx
  exact Paired.mapP (dn_new l1 hg i3 ok dp ru iv).2 fun _ _ z => z.mono (Ext.refl _) (tx_upd (by rw [e1]; trivial))
end
end DL
set_option Elab.async false
set_option linter.all false
set_option maxRecDepth 100000
set_option maxHeartbeats 2000000
/-! Small forms for the steps. -/
namespace DL
open PySem PySem.Spec PyProof.Rows L2
section
variable {Γ : Led} {e a b c d f g : Addr × MO}
theorem look0 : (e :: Γ)[0]? = some e := rfl
theorem look1 : (a :: e :: Γ)[1]? = some e := rfl
theorem look2 : (a :: b :: e :: Γ)[2]? = some e := rfl
theorem look3 : (a :: b :: c :: e :: Γ)[3]? = some e := rfl
theorem look4 : (a :: b :: c :: d :: e :: Γ)[4]? = some e := rfl
theorem look5 : (a :: b :: c :: d :: f :: e :: Γ)[5]? = some e := rfl
theorem look6 : (a :: b :: c :: d :: f :: g :: e :: Γ)[6]? = some e := rfl
theorem look7 {h : Addr × MO} : (a :: b :: c :: d :: f :: g :: h :: e :: Γ)[7]? = some e := rfl
theorem look8 {h i : Addr × MO} : (a :: b :: c :: d :: f :: g :: h :: i :: e :: Γ)[8]? = some e := rfl
theorem look9 {h i j : Addr × MO} : (a :: b :: c :: d :: f :: g :: h :: i :: j :: e :: Γ)[9]? = some e := rfl
theorem look10 {h i j k : Addr × MO} : (a :: b :: c :: d :: f :: g :: h :: i :: j :: k :: e :: Γ)[10]? = some e := rfl
end
theorem dkI {i : Int} : DKey (.int i) (.inl i) := rfl
theorem dkS {i : Str} : DKey (.str i) (.inr i) := rfl
theorem cdiv {i j : Int} (h1 : 0 < j) (h2 : j < 1073741824) : CDiv i j := ⟨h1, h2⟩
theorem cmulL {i j : Int} (h1 : -(2 ^ 64) < i) (h2 : i < 2 ^ 64) : CMul i j := .inl ⟨h1, h2⟩
theorem cmulR {i j : Int} (h1 : -(2 ^ 64) < j) (h2 : j < 2 ^ 64) : CMul i j := .inr ⟨h1, h2⟩
theorem cpow {i j : Int} (h1 : 0 ≤ j) (h2 : j ≤ 1000000) (h3 : i.natAbs < 2 ^ 64) : CPow i j := ⟨h1, h2, h3⟩
theorem small_sz {n : Nat} (h : n ≤ 1000000) : n ≤ sizeLine := Nat.le_trans h (by decide)
theorem small_lt {n : Nat} (h : n ≤ 1000000) : n < sizeLine := Nat.lt_of_le_of_lt h (by decide)
theorem atI_of {α : Type} {xs : List α} {i : Int} {j : Nat} {v : α} (h : xs[j]? = some v) (e : i = j) : atI xs i = some v := e ▸ atI_nat h
theorem atI_lt {α : Type} {xs : List α} {i : Int} (h0 : 0 ≤ i) (h : i < xs.length) : ∃ v, atI xs i = some v ∧ xs[i.toNat]? = some v := by
  have hl : i.toNat < xs.length := by omega
  exact ⟨xs[i.toNat], atI_of (List.getElem?_eq_getElem hl) (by omega), List.getElem?_eq_getElem hl⟩
theorem ixN_of {n : Nat} {i : Int} (h0 : 0 ≤ i) (h : i < n) : ixN n i = some i.toNat := by unfold ixN; rw [if_pos h0, if_pos h]
theorem atI_m1 {α : Type} {xs : List α} {v : α} (h : xs[xs.length - 1]? = some v) : atI xs (-1) = some v := by
  have hl := (List.getElem?_eq_some_iff.mp h).1
  unfold atI
  have e : ixN xs.length (-1) = some (xs.length - 1) := by
    unfold ixN
    rw [if_neg (by decide), if_pos (by omega)]
    congr 1
    omega
  rw [e]; exact h
theorem atI0 {α : Type} {a : α} {l : List α} : atI (a :: l) 0 = some a := atI_nat (j := 0) rfl
theorem atI1 {α : Type} {a b : α} {l : List α} : atI (a :: b :: l) 1 = some b := atI_nat (j := 1) rfl
theorem atI2 {α : Type} {a b c : α} {l : List α} : atI (a :: b :: c :: l) 2 = some c := atI_nat (j := 2) rfl
theorem atI3 {α : Type} {a b c d : α} {l : List α} : atI (a :: b :: c :: d :: l) 3 = some d := atI_nat (j := 3) rfl
section
variable {K : PySem.W.Frag} {R Z : Hp} {E E' : List (Option D)} {Γ Γ' : Led} {De : Ends} {te ta tb tl td ty tv to : TE} {d x y z : D}
theorem ei_tup {ds : List D} (h : EvD K R Z E Γ tl (.tup ds)) : EvI K R Z E Γ (iSeq K tl) ds := ei_seq h (show DSeq (.tup ds) ds from rfl)
theorem ei_lst {ds : List D} (h : EvD K R Z E Γ tl (.lst ds)) : EvI K R Z E Γ (iSeq K tl) ds := ei_seq h (show DSeq (.lst ds) ds from rfl)
theorem ei_fz {ds : List D} (h : EvD K R Z E Γ tl (.fz ds)) : EvI K R Z E Γ (iSeq K tl) ds := ei_seq h (show DSeq (.fz ds) ds from rfl)
end
end DL
set_option Elab.async false
set_option linter.all false
set_option maxRecDepth 100000
set_option maxHeartbeats 2000000
/-! Lists of lists of one's own. -/
namespace DL
open PySem PySem.Spec PyProof.Rows L2
section
variable {K : PySem.W.Frag} {R Z : Hp} {E E' : List (Option D)} {Γ Γ' : Led} {De : Ends} {te ta tb tl td ty tv to : TE} {d x y z : D}
theorem W1.mutIn {B H : Hp} {σ : L2.St} {n j : Nat} {a q : Addr} {qs : List Addr} {dss : List (List D)} {ds' : List D} {xs' : List V} (w : W1 K R Z B H σ E Γ) (hn : Γ[n]? = some (a, .ll qs dss)) (hq : qs[j]? = some q) (hl : IsL K B H xs' ds') :
    W1 K R Z B (upd H q (.lst xs')) σ E (Γ.set n (a, .ll qs (dss.set j ds'))) := by
  obtain ⟨e1, z1, l1⟩ := w.obj _ (List.mem_of_getElem? hn)
  have nd := fp1_nodup w.nd hn
  have hqm : q ∈ qs := List.mem_of_getElem? hq
  have aq : a ≠ q := fun z => (List.nodup_cons.mp nd).1 (z ▸ hqm)
  have hj : j < dss.length := by rw [← z1]; exact (List.getElem?_eq_some_iff.mp hq).1
  obtain ⟨ys, e2, _⟩ := l1 j q _ hq (List.getElem?_eq_getElem hj)
  have t : Tx H (upd H q (.lst xs')) := tx_upd (by rw [e2]; trivial)
  refine w.mut (p := q) hn (by simp [fp1, hqm]) rfl ⟨by rw [upd_ne aq]; exact e1, by simp [z1], fun i r ds h1 h2 => ?_⟩
  by_cases hi : i = j
  · subst hi
    rw [hq] at h1; cases h1
    rw [List.getElem?_set_self hj] at h2; cases h2
    exact ⟨xs', upd_same, hl.mono (Ext.refl _) t⟩
  · rw [List.getElem?_set_ne (Ne.symm hi)] at h2
    have rq : r ≠ q := fun z => hi (nd_ix (List.nodup_cons.mp nd).2 (z ▸ h1) hq)
    exact (l1 i r ds h1 h2).mono (Ext.refl _) t fun o ho => by rw [upd_ne rq]; exact ho
/-- x = [[..]] -/
theorem c_setLL1 {i : Nat} {tr : TA} {ds : List D} (h : EvA K R Z E Γ tr ds) (hz : ds.length ≤ sizeLine) (k : ∀ p q, Cont K R Z De.nx (E.set i (some (.ref p))) ((p, .ll [q] [ds]) :: Γ)) : Cont K R Z (tAsg (tLst (tCons (tLst tr) tNil)) (gName i) De) E Γ := fun B H σ w => by
  refine h B H σ w _ fun vs B1 H1 b1 x1 w1 i1 => ⟨by rw [i1.length]; exact hz, fun q hq => ?_⟩
  refine ⟨small_sz (by simp), fun p hp => ?_⟩
  have w2 := w1.own (m := .lst ds) (Ext.new (o := .lst vs) hq) hq rfl ⟨vs, upd_same, i1.mono (Ext.refl _) (Ext.new hq).tx⟩
  have w3 := w2.own (m := .ll [] []) (Ext.new (o := .lst []) hp) hp rfl ⟨upd_same, rfl, fun i q ds h1 _ => by simp at h1⟩
  have w4 : W1 K R Z B1 (upd (upd H1 q (.lst vs)) p (.lst [])) σ E ((q, .lst ds) :: (p, .ll [] []) :: Γ) := w3.led (fun x hx => by
    simp only [List.mem_cons] at hx ⊢
    rcases hx with h | h | h
    · exact .inr (.inl h)
    · exact .inl h
    · exact .inr (.inr h)) ((fps_perm (List.Perm.swap (q, .lst ds) (p, .ll [] []) Γ)).nodup_iff.mp w3.nd)
  have w5 := w4.mutll (n := 0) rfl
  have e : upd (upd (upd H1 q (.lst vs)) p (.lst [])) p (.lst (([] ++ [q]).map V.ref)) = upd (upd H1 q (.lst vs)) p (.lst [V.ref q]) := upd_upd
  rw [e] at w5
  exact k p q B1 _ _ (w5.store (.ref p))
theorem et_truLL {n : Nat} {a : Addr} {qs : List Addr} {dss : List (List D)} (hn : Γ[n]? = some (a, .ll qs dss)) (ha : EvD K R Z E Γ ta (.ref a)) : EvT K R Z E Γ (tTru K ta) (!dss.isEmpty) := fun B H σ w Q q => ha B H σ w _ fun v B1 H1 b1 x1 w1 i1 => by
  cases i1
  obtain ⟨e1, z1, l1⟩ := w1.obj _ (List.mem_of_getElem? hn)
  refine ⟨_, .inl ⟨_, .of e1, ?_⟩, q B1 H1 b1 x1 w1⟩
  cases qs <;> cases dss <;> first | rfl | (simp at z1)
theorem atI_map {α β : Type} (f : α → β) {xs : List α} {i : Int} {v : α} (h : atI xs i = some v) : atI (xs.map f) i = some (f v) := by
  unfold atI at h ⊢
  rw [List.length_map]
  cases e : ixN xs.length i with
  | none => rw [e] at h; cases h
  | some j =>
    rw [e] at h
    show (xs.map f)[j]? = some (f v)
    rw [List.getElem?_map, show xs[j]? = some v from h]; rfl
theorem rv_ixLL {n : Nat} {a q : Addr} {qs : List Addr} {dss : List (List D)} {i : Int} (hn : Γ[n]? = some (a, .ll qs dss)) (h : atI qs i = some q) : RV K R Z E Γ (rIx K) (.ref a) (.int i) (.ref q) := fun B H σ vx vy w ix iy Q k => by
  cases ix; cases iy
  obtain ⟨e1, z1, l1⟩ := w.obj _ (List.mem_of_getElem? hn)
  exact .inl ⟨_, _, i, .ref q, rfl, rfl, .of e1, atI_map V.ref h, k _ B H (Ext.refl _) (Ext.refl _) w (.ref q)⟩
theorem rv_ixIn {n j : Nat} {a q : Addr} {qs : List Addr} {dss : List (List D)} {ds : List D} {i : Int} (hn : Γ[n]? = some (a, .ll qs dss)) (hq : qs[j]? = some q) (hd : dss[j]? = some ds) (h : atI ds i = some d) : RV K R Z E Γ (rIx K) (.ref q) (.int i) d := fun B H σ vx vy w ix iy Q k => by
  cases ix; cases iy
  obtain ⟨e1, z1, l1⟩ := w.obj _ (List.mem_of_getElem? hn)
  obtain ⟨xs, e2, l2⟩ := l1 j q ds hq hd
  obtain ⟨v, e, iv⟩ := isl_at l2 h
  exact .inl ⟨_, _, i, v, rfl, rfl, .of e2, e, k v B H (Ext.refl _) (Ext.refl _) w iv⟩
/-- q[i] = v, q in a list of lists -/
theorem c_setIn (n : Nat) {ti : TE} {a q : Addr} {j m : Nat} {qs : List Addr} {dss : List (List D)} {ds : List D} {i : Int} (hn : Γ[n]? = some (a, .ll qs dss)) (hq : qs[j]? = some q) (hd : dss[j]? = some ds) (hv : EvD K R Z E Γ tv y) (ha : EvD K R Z E Γ to (.ref q)) (hi : EvD K R Z E Γ ti (.int i)) (hm : ixN ds.length i = some m)
    (k : Cont K R Z De.nx E (Γ.set n (a, .ll qs (dss.set j (ds.set m y))))) : Cont K R Z (tAsg tv (gSub to ti rSetL) De) E Γ := fun B H σ w => hv B H σ w _ fun v B1 H1 b1 x1 w1 i1 => ha B1 H1 σ w1 _ fun u B2 H2 b2 x2 w2 i2 => hi B2 H2 σ w2 _ fun u3 B3 H3 b3 x3 w3 i3 => by
  cases i2; cases i3
  obtain ⟨e1, z1, l1⟩ := w3.obj _ (List.mem_of_getElem? hn)
  obtain ⟨xs, e2, l2⟩ := l1 j q ds hq hd
  exact ⟨q, xs, i, m, rfl, rfl, e2, by rw [l2.length]; exact hm, k B3 _ σ (w3.mutIn hn hq (IsL.set ((i1.mono b2 x2.tx).mono b3 x3.tx) m l2))⟩
/-- q.append(v), q in a list of lists -/
theorem c_appIn (n : Nat) {a q : Addr} {j : Nat} {qs : List Addr} {dss : List (List D)} {ds : List D} (hn : Γ[n]? = some (a, .ll qs dss)) (hq : qs[j]? = some q) (hd : dss[j]? = some ds) (ha : EvD K R Z E Γ to (.ref q)) (hx : EvD K R Z E Γ te x) (hl : ds.length < sizeLine)
    (k : Cont K R Z De.nx E (Γ.set n (a, .ll qs (dss.set j (ds ++ [x]))))) : Cont K R Z (tDrop (tBM K "list" rAppend to (tCons te tNil)) De) E Γ := fun B H σ w => ha B H σ w _ fun v B1 H1 b1 x1 w1 i1 => by
  cases i1
  obtain ⟨e1, z1, l1⟩ := w1.obj _ (List.mem_of_getElem? hn)
  obtain ⟨xs, e2, l2⟩ := l1 j q ds hq hd
  refine ⟨.inl ⟨rfl, _, .of e2⟩, hx B1 H1 σ w1 _ fun v B2 H2 b2 x2 w2 i2 => ?_⟩
  obtain ⟨e3, z3, l3⟩ := w2.obj _ (List.mem_of_getElem? hn)
  obtain ⟨xs, e4, l4⟩ := l3 j q ds hq hd
  exact ⟨q, xs, v, rfl, rfl, e4, by rw [l4.length]; exact hl, k B2 _ σ (w2.mutIn hn hq (l4.append (.cons i2 .nil)))⟩
/-- a.append([..]) -/
theorem c_appLL (n : Nat) {a : Addr} {qs : List Addr} {dss : List (List D)} {ds : List D} (hn : Γ[n]? = some (a, .ll qs dss)) (ha : EvD K R Z E Γ to (.ref a)) (hx : EvN K R Z E Γ te (.lst ds)) (hl : dss.length < sizeLine)
    (k : ∀ q, Cont K R Z De.nx E (Γ.set n (a, .ll (qs ++ [q]) (dss ++ [ds])))) : Cont K R Z (tDrop (tBM K "list" rAppend to (tCons te tNil)) De) E Γ := fun B H σ w => ha B H σ w _ fun v B1 H1 b1 x1 w1 i1 => by
  cases i1
  obtain ⟨e1, z1, l1⟩ := w1.obj _ (List.mem_of_getElem? hn)
  refine ⟨.inl ⟨rfl, _, .of e1⟩, hx B1 H1 σ w1 _ fun q B2 H2 b2 x2 _ w2 => ?_⟩
  obtain ⟨e3, z3, l3⟩ := w2.obj _ (List.mem_cons_of_mem _ (List.mem_of_getElem? hn))
  refine ⟨a, qs.map V.ref, .ref q, rfl, rfl, e3, by rw [List.length_map, z3]; exact hl, ?_⟩
  have w3 := w2.mutll hn
  rw [List.map_append] at w3
  exact k q B2 _ σ w3
/-- a.pop() as a statement -/
theorem c_popLL (n : Nat) {a : Addr} {qs : List Addr} {dss : List (List D)} (hn : Γ[n]? = some (a, .ll qs dss)) (ha : EvD K R Z E Γ to (.ref a)) (hz : dss ≠ [])
    (k : Cont K R Z De.nx E (Γ.set n (a, .ll qs.dropLast dss.dropLast))) : Cont K R Z (tDrop (tBM0 K "list" rPop to) De) E Γ := fun B H σ w => ha B H σ w _ fun v B1 H1 b1 x1 w1 i1 => by
  cases i1
  obtain ⟨e1, z1, l1⟩ := w1.obj _ (List.mem_of_getElem? hn)
  have hq : 0 < qs.length := by
    rw [z1]; cases dss with
    | nil => exact absurd rfl hz
    | cons _ _ => simp
  refine ⟨.inl ⟨rfl, _, .of e1⟩, a, qs.map V.ref, .ref (qs[qs.length - 1]), rfl, rfl, e1, by rw [List.length_map, List.getElem?_map, List.getElem?_eq_getElem (by omega)]; rfl, ?_⟩
  have nd := fp1_nodup w1.nd hn
  have t : Tx H1 (upd H1 a (.lst (qs.map V.ref).dropLast)) := tx_upd (by rw [e1]; trivial)
  have keep : ∀ (m : Nat) e, Γ[m]? = some e → ∀ c ∈ fp1 e, c = a → m = n := fun m e hm c hc hca => nd_other w1.nd hm hn hc (by rw [hca]; simp [fp1])
  have ham : a ∈ fps Γ := mem_fps_of (List.mem_of_getElem? hn) (by simp [fp1])
  obtain ⟨fR, fB⟩ := w1.fr a ham
  have kk : ∀ {X : Hp}, X a = none → ∀ c o', X c = some o' → c ≠ a := fun hx c o' e z => by subst z; rw [hx] at e; cases e
  have subl : (fp1 (a, MO.ll qs.dropLast dss.dropLast)).Sublist (fp1 (a, MO.ll qs dss)) := by
    show (a :: qs.dropLast).Sublist (a :: qs)
    exact (List.dropLast_sublist qs).cons_cons a
  have fsub : (fps (Γ.set n (a, .ll qs.dropLast dss.dropLast))).Sublist (fps Γ) := by
    clear nd keep ham l1 w1 k ha w
    induction Γ generalizing n with
    | nil => simp at hn
    | cons e Γ ih =>
      cases n with
      | zero =>
        simp at hn; subst hn
        exact List.Sublist.append subl (List.Sublist.refl _)
      | succ n =>
        exact List.Sublist.append (List.Sublist.refl _) (ih n (by simpa using hn))
  refine k B1 _ σ ⟨fun c o e => by rw [upd_ne (kk fR c o e)]; exact w1.rh _ _ e, fun c o e => by rw [upd_ne (kk fB c o e)]; exact w1.bh _ _ e, w1.b0, w1.rb, w1.len, fun i d e => let ⟨v, h1, h2⟩ := w1.env i d e; ⟨v, h1, h2.mono (Ext.refl _) t⟩, fun e he => ?_, w1.nd.sublist fsub, fun c hc => w1.fr c (fsub.subset hc)⟩
  obtain ⟨m, hm⟩ := List.mem_iff_getElem?.mp he
  by_cases hmn : m = n
  · subst hmn
    rw [List.getElem?_set_self (List.getElem?_eq_some_iff.mp hn).1] at hm
    cases hm
    refine ⟨by rw [upd_same, List.map_dropLast], by simp [z1], fun i q ds h1 h2 => ?_⟩
    have h1' : qs[i]? = some q := by rw [List.getElem?_dropLast] at h1; split at h1 <;> first | exact h1 | cases h1
    have h2' : dss[i]? = some ds := by rw [List.getElem?_dropLast] at h2; split at h2 <;> first | exact h2 | cases h2
    have qa : q ≠ a := fun z => (List.nodup_cons.mp nd).1 (z ▸ List.mem_of_getElem? h1')
    exact (l1 i q ds h1' h2').mono (Ext.refl _) t fun o ho => by rw [upd_ne qa]; exact ho
  · rw [List.getElem?_set_ne (Ne.symm hmn)] at hm
    refine (w1.obj e (List.mem_of_getElem? hm)).mono (Ext.refl _) t fun c hc o ho => ?_
    rw [upd_ne]
    · exact ho
    · intro z
      exact hmn (keep m e hm c hc z)
end
end DL
set_option Elab.async false
set_option linter.all false
set_option maxRecDepth 100000
set_option maxHeartbeats 2000000
/-! Loops over what a call hands back. -/
namespace DL
open PySem PySem.Spec PyProof.Rows L2
section
variable {K : PySem.W.Frag} {R Z : Hp} {E E' : List (Option D)} {Γ Γ' : Led} {De : Ends} {te ta tb tl td ty tv to : TE} {d x y z : D}
def ForB (K : PySem.W.Frag) (R Z : Hp) (De : Ends) (g : TG) (ts : TS) (ds : List D) (E : List (Option D)) (Γ : Led) : Prop := ∃ (Inv : Nat → List (Option D) → Led → Prop) (Brk : List (Option D) → Led → Prop), Inv 0 E Γ ∧
    (∀ (nx : Nat → L2.St → Hp → Prop) (e : Addr × MO), fp1 e = [] → (∀ i E Γ, Inv i E Γ → Cont K R Z (nx i) E (e :: Γ)) → (∀ E Γ, Brk E Γ → Cont K R Z De.nx E (e :: Γ)) → ∀ (i : Nat) d E Γ, ds[i]? = some d → Inv i E Γ →
      ∃ E', TgD K R Z g d E E' ∧ Cont K R Z (ts { De with nx := nx (i + 1), ct := nx (i + 1), bk := De.nx }) E' (e :: Γ)) ∧
    (∀ E Γ, Brk E Γ → Cont K R Z De.nx E Γ) ∧ (∀ E Γ, Inv ds.length E Γ → Cont K R Z De.nx E Γ)
theorem for_core {g : TG} {ts : TS} {ds : List D} {e : Addr × MO} {J : It} {B1 H1 : Hp} {σ : L2.St} (F : ForB K R Z De g ts ds E Γ) (w1 : W1 K R Z B1 H1 σ E Γ) (hf : fp1 e = []) (hm : MIs K B1 H1 e.1 e.2) (J0 : ItD K R Z e J ds) :
    ∃ W : Nat → Nat → L2.St → Hp → Prop, (∃ m, W 0 m σ H1) ∧ ∀ i m σ H, W i m σ H →
      (J.stop i H ∧ De.nx σ H) ∨ (J.go i H ∧ ∃ N : L2.St → Hp → Prop, (∀ σ' H', N σ' H' → ∃ m', m' < m ∧ W (i + 1) m' σ' H') ∧ ∀ x H', J.yld i H x H' → g x σ H' fun σ2 H2 => ts { De with nx := N, ct := N, bk := De.nx } σ2 H2) := by
  obtain ⟨Inv, Brk, h0, hs, hb, hd⟩ := F
  refine ⟨fun i m σ H => m = ds.length - i ∧ i ≤ ds.length ∧ ∃ B E Γ, Inv i E Γ ∧ W1 K R Z B H σ E (e :: Γ), ⟨ds.length, by simp, Nat.zero_le _, B1, E, Γ, h0, w1.know hf hm⟩, ?_⟩
  rintro i m σ2 H2 ⟨rfl, hi, B2, E2, Γ2, p, w2⟩
  obtain ⟨j1, j2, j3⟩ := J0 B2 H2 σ2 E2 (e :: Γ2) (List.mem_cons_self) w2
  by_cases hlt : i < ds.length
  · refine .inr ⟨j1 i hlt, fun σ' H' => ∃ B E Γ, Inv (i + 1) E Γ ∧ W1 K R Z B H' σ' E (e :: Γ), fun σ' H' p' => ⟨ds.length - (i + 1), by omega, rfl, hlt, p'⟩, fun x H' y => ?_⟩
    obtain ⟨x3, B3, b3, w3, iv⟩ := j3 i x H' _ (List.getElem?_eq_getElem hlt) y
    obtain ⟨E', tg, c⟩ := hs (fun i σ' H' => ∃ B E Γ, Inv i E Γ ∧ W1 K R Z B H' σ' E (e :: Γ)) e hf (fun i E Γ p B H σ w => ⟨B, E, Γ, p, w⟩) (fun E Γ p => (hb E Γ p).sub (List.sublist_cons_self _ _)) i _ E2 Γ2 (List.getElem?_eq_getElem hlt) p
    exact tg B3 H' σ2 (e :: Γ2) x w3 iv _ fun σ' w' => c B3 H' σ' w'
  · have e : i = ds.length := by omega
    subst e
    exact .inl ⟨j2, hd E2 Γ2 p B2 H2 σ2 (w2.sub (List.sublist_cons_self _ _))⟩
/-- for x in f(..), f a def that hands back a new list -/
theorem c_forCall {g : TG} {ts : TS} {c : List D → Led → (D → Led → Prop) → Prop} {ta : TA} {X : XK} {ds : List D} {Γr : Led} (Γc : Led) (h : EvA K R Z E (Γc ++ Γr) ta ds)
    (hc : c ds Γc fun d Γ' => ∃ p es Γ3, d = .ref p ∧ Γ' = (p, .lst es) :: Γ3 ∧ ForB K R Z De g ts es E (Γ3 ++ Γr)) : Cont K R Z (tFor (iSeq K (tCall (SpG K c) [] X ta)) g ts De) E (Γc ++ Γr) := fun B H σ w => h B H σ w _ fun vs B1 H1 b1 x1 w1 i1 => by
  rw [List.append_nil]
  refine call_core w1 i1 hc fun d Γ' v B' H' p b x w' iv => ?_
  obtain ⟨p, es, Γ3, rfl, rfl, F⟩ := p
  cases iv
  have w2 : W1 K R Z B' H' σ E ((p, .lst es) :: (Γ3 ++ Γr)) := w'
  obtain ⟨B2, b2, w3, i3⟩ := w2.freeze
  have i3 : Is K B2 H' (.ref p) (.lst es) := i3
  cases i3 with
  | lst g l =>
    refine .inl ⟨p, rfl, .inl ⟨⟨_, .of (w3.bh _ _ g)⟩, ?_⟩⟩
    exact for_core F w3 (e := (p, .kn (.lst es))) rfl (.lst g l) it_lst
/-- x = [..] with a call's answer, and the like: an expression whose answer is told by what holds of it -/
theorem c_setOf {i : Nat} {Ψ : D → Prop} (h : ∀ B H σ, W1 K R Z B H σ E Γ → ∀ Q : VK, (∀ d v B' H', Ψ d → Ext B B' → Ext H H' → W1 K R Z B' H' σ E Γ → Is K B' H' v d → Q v H') → te σ H Q) (q : ∀ d, Ψ d → Cont K R Z De.nx (E.set i (some d)) Γ) : Cont K R Z (tAsg te (gName i) De) E Γ := fun B H σ w => h B H σ w _ fun d v B1 H1 p b1 h1 w1 i1 => q d p B1 H1 _ (w1.store i1)
theorem c_retS {P : D → Led → Prop} (Γ' : Led) (hr : RtOk K R Z De.rt P) (h : EvD K R Z E Γ te d) (g : Γ'.Sublist Γ) (p : P d Γ') : Cont K R Z (tRet te De) E Γ := fun B H σ w => h B H σ w _ fun v B1 H1 b1 h1 w1 i1 => hr d Γ' v B1 H1 p (w1.nos.sub g) i1
/-- xs.append(f(..)), f changes a part of the ledger -/
theorem c_appCall {c : List D → Led → (D → Led → Prop) → Prop} {ta : TA} {X : XK} {ds : List D} {Γr : Led} {a : Addr} (n0 : Nat) {ds0 : List D} (Γc : Led) (ha : EvD K R Z E (Γc ++ Γr) to (.ref a)) (h0 : (Γc ++ Γr)[n0]? = some (a, .lst ds0)) (h : EvA K R Z E (Γc ++ Γr) ta ds)
    (hc : c ds Γc fun d Γ' => ∃ n ds', (Γ' ++ Γr)[n]? = some (a, .lst ds') ∧ ds'.length < sizeLine ∧ Cont K R Z De.nx E ((Γ' ++ Γr).set n (a, .lst (ds' ++ [d])))) : Cont K R Z (tDrop (tBM K "list" rAppend to (tCons (tCall (SpG K c) [] X ta) tNil)) De) E (Γc ++ Γr) := fun B H σ w => ha B H σ w _ fun v B0 H0 b0 x0 w0 i0 => by
  cases i0
  refine ⟨tyV_list w0 h0, h B0 H0 σ w0 _ fun vs B1 H1 b1 x1 w1 i1 => ?_⟩
  rw [List.append_nil]
  refine call_core w1 i1 hc fun d Γ' v B' H' p b x w' iv => ?_
  obtain ⟨n, ds', hn, hl, q⟩ := p
  obtain ⟨xs, e1, l1⟩ := w'.obj _ (List.mem_of_getElem? hn)
  refine ⟨a, xs, v, rfl, rfl, e1, by rw [l1.length]; exact hl, q B' _ σ (w'.mut (p := a) hn (by simp [fp1]) rfl ⟨_, upd_same, ?_⟩)⟩
  exact (l1.append (.cons iv .nil)).mono (Ext.refl _) (tx_upd (by rw [e1]; trivial))
/-- return f(..), a part of the ledger let go -/
theorem c_retCallS {c : List D → Led → (D → Led → Prop) → Prop} {ta : TA} {X : XK} {ds : List D} {Γr : Led} {P : D → Led → Prop} (hr : RtOk K R Z De.rt P) (Γc : Led) (h : EvA K R Z E (Γc ++ Γr) ta ds)
    (hc : c ds Γc fun d Γ' => ∃ Γ'', List.Sublist Γ'' (Γ' ++ Γr) ∧ P d Γ'') : Cont K R Z (tRet (tCall (SpG K c) [] X ta) De) E (Γc ++ Γr) := fun B H σ w => h B H σ w _ fun vs B1 H1 b1 x1 w1 i1 => by
  rw [List.append_nil]
  exact call_core w1 i1 hc fun d Γ' v B' H' ⟨Γ'', g, p⟩ b x w' iv => hr d _ v B' H' p (w'.nos.sub g) iv
theorem cutD_take {α : Type} (xs : List α) (j : Nat) : cutD xs none (some (j : Int)) = xs.take j := by
  unfold cutD
  rw [HT.sIx_none, show HT.sIx xs.length xs.length (some (j : Int)) = min j xs.length from HT.sIx_nat xs.length xs.length j]
  simp
end
end DL
set_option Elab.async false
set_option linter.all false
set_option maxRecDepth 100000
set_option maxHeartbeats 2000000
/-! A key's call, by hand: def f(path): return (len(path), path). -/
namespace DL
open PySem PySem.Spec PyProof.Rows L2 PySem.W
section
variable {prog : Program} {w : World} {A : Around} {K : PySem.W.Frag} {mg : Str → Option Value} {base : Heap} {s : Shared} {f : Addr} {fd : FuncData}
theorem key_run {nm y : Str} {st : Stmt} {k : Nat} {p1 p2 p3 p4 p5 p6 : Pos} (F : Fun K nm nm st f fd) (hbody : defBody st = [.Return (some (.Tuple [.Call (.Name "len" p1) [.Name y p2] [] p3, .Name y p4] k p5)) p6])
    (hsc : (defScope st).kind = .function ∧ (defScope st).isCoroutine = false ∧ (defScope st).isGenerator = false ∧ (defScope st).names.lookup y = some .local)
    (hbind : ∀ (kV doc pm : Value) (an : Option Addr) (cdv ct v : Value), bindArgs (PySem.W.fnOf nm nm (defArgs st) (defBody st) (defScope st) .none kV doc pm an cdv ct) ⟨[v], []⟩ = pure [(y, v)])
    (hk1 : ∀ L a cd, (envOfC nm (defScope st) L a cd).kindOf y = some .local) (hk2 : ∀ L a cd, (envOfC nm (defScope st) L a cd).kindOf "len" = some .globalImplicit) (hyd : (y == ("__debug__" : Str)) = false)
    (M : Mod K mg base) (hl : mg "len" = none) (bk : ∀ b o, base.get? b = some o → s.heap.get? b = some o) (hroom : A.depth < recursionLimit) {x : Str} {t : Tok} (hx : x.length ≤ sizeLine) :
    wpAny (model prog w) A (call (.ref f) [.str x t]) (KeyPure (.tuple [.int x.length, .str x]) s) (fun _ _ => False) s := by
  obtain ⟨oc, od, kV, doc, pm, an, cdv, ct, osl, rfl, ho, hcd⟩ := F.ex
  have X : K.In s.heap := M.kin.keeps bk
  have lim : s.heap.NoLimit := M.nolimit.keeps bk
  refine wpAny_call ?_
  refine Att.call_fn (binds := [(y, .str x t)]) X lim ho hcd hroom (BindsTo.of_eq (hbind kV doc pm an cdv ct _)) (by simp [hsc.2.2.2]) (fun s₁ IC => ?_) hsc.2.1 hsc.2.2.1 hsc.1
  obtain ⟨h₁, tk₁, rfl⟩ := IC.toInCall.same
  have kk : ∀ b o, s.heap.get? b = some o → h₁.get? b = some o := IC.toInCall.keep
  have hn := IC.toInCall.ns
  have hnx : ∀ L a cd, bindL (envOfC nm (defScope st) L a cd).kindOf [(y, Value.str x t)] (fun _ => none) y = some (Value.str x t) := fun L a cd => by
    simp [bindL, hk1]
  show wpAny _ _ (execs (defBody st) _) _ _ _
  rw [hbody]
  obtain ⟨mb, hb1, hb2⟩ := M.blt
  refine wpAny_execs_cons (wpAny_Return_some (wpAny_Tuple_spliced ?_))
  show wpAny _ _ (spliced ((false, _) :: (false, _) :: [])) _ _ _
  refine Calls.spliced_cons (wpAny_Call_Name_kw (Calls.Name_function_global hsc.1 (hk2 _ _ _) (Calls.loadGlobal_builtin (M.glob.keeps fun b o e => kk b o (bk b o e)) hl (hb1.keeps fun b o e => kk b o (bk b o e)) ((hb2 "len" (by decide)).trans rfl) ?_)))
  have ld : ∀ (tk : Tok) (p : Pos) (E : Value → Shared → Prop) (Q : Value → Shared → Prop) (A' : Around) (g : Heap), (∀ b o, h₁.get? b = some o → g.get? b = some o) → Q (.str x t) { s with heap := g, toks := tk } →
      wpAny (model prog w) A' (eval (.Name y p) (envOfC nm (defScope st) s.heap.objs.size f cdv)) Q E { s with heap := g, toks := tk } := fun tk p E Q A' g hg hQ =>
    wpAny_Name (wpAny_loadName_local hsc.1 (hk1 _ _ _) (hn.keeps hg) (hnx _ _ _) hQ) hyd
  refine PyProof.Rows.callWith_builtin1 ?_ rfl rfl
  show wpAny _ _ (spliced ((false, _) :: [])) _ _ _
  refine Calls.spliced_cons (ld _ _ _ _ _ _ (fun _ _ e => e) (Calls.spliced_nil ?_))
  have hl63 := line63
  refine P.len_str (by omega) ?_
  refine Calls.spliced_cons (ld _ _ _ _ _ _ (fun _ _ e => e) (Calls.spliced_nil ?_))
  refine ⟨by show 2 ≤ sizeLine; rw [sizeLine_eq]; decide, ?_⟩
  refine ⟨_, _, rfl, fun b o e => Heap.get?_push_of_some _ (kk b o e), ?_⟩
  exact Reads.tuple (Heap.get?_push_size _ rfl) rfl rfl (ReadsAll.cons (as := []) (bs := []) (Reads.int _ _) (ReadsAll.cons (as := []) (bs := []) (Reads.str _ _) ReadsAll.nil))
/-! sorted(xs, key=f), xs a list of texts -/
def KeyFn (prog : Program) (w : World) (mg : Str → Option Value) (K : PySem.W.Frag) (base : Heap) (f : Addr) : Prop := ∀ (s : Shared) (x : Str) (t : Tok) (A : Around), A.depth < recursionLimit → Mod K mg base → (∀ b o, base.get? b = some o → s.heap.get? b = some o) → x.length ≤ sizeLine →
    wpAny (model prog w) A (call (.ref f) [.str x t]) (KeyPure (.tuple [.int x.length, .str x]) s) (fun _ _ => False) s
def pkey (x : Str) : PyData := .tuple [.int x.length, .str x]
def rSortKey (K : PySem.W.Frag) (f : Addr) : List V → List V → Hp → VK → Prop := fun vs zs H Q => ∃ (a : Addr) (xs : List Str), vs = [V.ref a] ∧ zs = [.ref f] ∧ SqL K H a (xs.map V.str) ∧ (∀ x ∈ xs, x.length ≤ sizeLine) ∧
  ∀ (p : Addr), H p = none → Q (.ref p) (upd H p (.lst ((xs.mergeSort (dataLe false pkey)).map V.str)))
theorem strs_each : ∀ {xs : List Str} {us : List Value}, Vals (xs.map V.str) us → EachIs (fun v x => ∃ t, v = Value.str x t) us xs
  | [], _, .nil => .nil
  | x :: xs, _, .cons r h => .cons r (strs_each h)
theorem each_strs : ∀ {xs : List Str} {us : List Value}, EachIs (fun v x => ∃ t, v = Value.str x t) us xs → Vals (xs.map V.str) us
  | [], _, .nil => .nil
  | x :: xs, _, .cons r h => .cons r (each_strs h)
section
variable {X : Cx}
theorem cr_sortKey {f : Addr} {k : Nat} (hr : Room k X.A) (hf : KeyFn X.prog X.w X.mg X.K X.base f) : CallRK X (.builtin "sorted") [Str.ofString "key"] (rSortKey X.K f) := by
  intro pins s σ H vs zs us ws Q I r rz h
  obtain ⟨a, xs, rfl, rfl, hs, hx, q⟩ := h
  obtain rfl := Vals.ref1 r
  obtain ⟨w1, rfl, e1⟩ := vals1 rz
  obtain rfl : w1 = Value.ref f := e1
  obtain ⟨its, rv, hl, hz⟩ := I.list hs
  have hlen : xs.length ≤ sizeLine := by simpa using hz
  refine sorted_key_data (b := false) pkey hl.isList (strs_each rv) (AllAlike.of fun _ _ => by simp [alike, alikeAll, pkey]) (Sortable.tuples fun _ => ⟨_, _, rfl⟩) hlen (fun x _ => ?_) (ksk_s1 _ _) (fun _ => ksk_l1 _ _) (fun _ => ksk_t1 _ _)
    (fun v x ⟨t, hv⟩ hm h tk kp => ?_) fun out c h' tk kp hfr hD hol eo => ?_
  · have hd : (pkey x).depth = 1 := by simp [pkey, PyData.depth, PyData.depthAll]
    have := hr.un
    omega
  · subst hv
    have := hr.dp
    exact hf _ x t _ (by show X.A.depth < _; omega) I.mod (fun b o e => kp b o (I.bk b o e)) (hx x hm)
  · have ev := each_strs eo
    refine ⟨.ref _, upd H (s.heap.objs.size + 1) (.lst ((xs.mergeSort (dataLe false pkey)).map V.str)), I.laid (t' := tk) kp (Nat.le_succ _) ⟨?_, out, c, ev, hD⟩, rfl, q _ (I.hok.fresh (Nat.le_succ _))⟩
    rw [List.length_map, List.length_mergeSort]
    exact hlen
end
end
end DL
set_option Elab.async false
set_option linter.all false
set_option maxRecDepth 100000
set_option maxHeartbeats 2000000
/-! enumerate over a tuple. -/
namespace PySem
open Sem (wp)
set_option maxHeartbeats 1000000 in
theorem meets_enumerate_newB1 {v : Value} {o : Obj} {H : Heap → Prop} (B : Begins v o H) :
    Meets (Builtin.«enumerate.__new__» ⟨[.type "enumerate", v], []⟩) (fun _ R s => H s.heap ∧
      R (.ok (.ret (.ref (s.heap.push o).objs.size))) { s with heap := (s.heap.push o).push { cls := .type "enumerate", data := .fields #[.none, .bool false, .ref s.heap.objs.size, rawInt 0, .none, .none] } }) :=
  .of_wp fun prog w A R s h => by
    obtain ⟨hp, g, d, tk, os⟩ := s; obtain ⟨h1, h⟩ := h
    have hsub := sub_enumerate
    have q1 : ∀ {A' : Around} {E : Value → Shared → Prop} {Q : Value → Shared → Prop}, Q (.ref hp.objs.size) ⟨hp.push o, g, d, tk, os⟩ → wpAny (model prog w) A' (pyIter v) Q E ⟨hp, g, d, tk, os⟩ :=
      fun q => B.iter prog w _ _ ⟨hp, g, d, tk, os⟩ _ h1 q
    wp_walk using q1
    refine wpAny_stack_any fun st => wpAny_pure ?_
    split
    · rename_i c _ _ _ _ _
      cases (c == Value.type "enumerate")
      · wp_walk using q1
        exact ⟨_, rfl, h⟩
      · wp_walk using q1
        exact ⟨_, rfl, h⟩
    · wp_walk using q1
      exact ⟨_, rfl, h⟩
section
variable {prog : Program} {w : World} {A : Around} {E : Value → Shared → Prop} {s : Shared}
theorem enum_begins1 {v : Value} {o : Obj} {H : Heap → Prop} {Q : Value → Shared → Prop} (B : Begins v o H) (h1 : H s.heap)
    (h : ∀ h', IsEnum h' (s.heap.objs.size + 1) s.heap.objs.size 0 .none → h'.get? s.heap.objs.size = some o → h'.objs.size = s.heap.objs.size + 2 →
      (∀ b o, s.heap.get? b = some o → h'.get? b = some o) → Q (.ref (s.heap.objs.size + 1)) { s with heap := h' }) :
    wpAny (model prog w) A (call (.type "enumerate") [v]) Q E s := by
  refine callType_new F.called_enumerate (by decide) (F.typeCall_enumerate_1 _) (F.newCall_enumerate_1 _) (fun obj => F.args_object_init_2 obj _) F.entry_enumerate_new
    (meets_enumerate_newB1 B) ⟨h1, ?_⟩
  have hz : (s.heap.push o).objs.size = s.heap.objs.size + 1 := Heap.size_push ..
  show _ ∧ _
  rw [hz]
  have he : IsEnum ((s.heap.push o).push { cls := .type "enumerate", data := .fields #[.none, .bool false, .ref s.heap.objs.size, rawInt 0, .none, .none] }) (s.heap.objs.size + 1) s.heap.objs.size 0 .none := by
    have := Heap.get?_push_size (s.heap.push o) (o := { cls := .type "enumerate", data := .fields #[.none, .bool false, .ref s.heap.objs.size, rawInt 0, .none, .none] }) rfl
    rw [hz] at this; exact this
  refine ⟨⟨_, he, rfl⟩, h _ he (Heap.get?_push_of_some _ (Heap.get?_push_size _ B.free)) (by rw [Heap.size_push, hz]) fun b o x => Heap.get?_push_of_some _ (Heap.get?_push_of_some _ x)⟩
end
end PySem
namespace DL
open PySem PySem.Spec PyProof.Rows L2
/-- the tuple at a, each item in a new pair -/
def Iet (K : PySem.W.Frag) (a : Addr) : It :=
  ⟨fun i H => ∃ (xs : List V) (x : V), SqT K H a xs ∧ xs[i]? = some x, fun i H v H' => ∃ T x, v = .ref T ∧ H T = none ∧ H' = upd H T (.tup [.int (i : Nat), x]) ∧ ∀ xs, SqT K H a xs → xs[i]? = some x, fun i H => ∃ xs : List V, SqT K H a xs ∧ xs.length ≤ i⟩
theorem turn_enumT {P : Program} {w : World} {K : PySem.W.Frag} {elts : List Expr} {kk : Nat} {tpos : Pos} (a e it : Addr) :
    Turn P w K (.Tuple elts kk tpos) (Iet K a) [e, it] e (fun i h => (∃ old, IsEnum h e it ((i : Nat) : Int) old) ∧ h.IsTupleIter it a i ∧ e ≠ it) where
  mem := by simp
  obj := fun i h st b hb => by
    obtain ⟨⟨old, he⟩, ⟨o, ho, hc, hd⟩, _⟩ := st
    have e' : b = e ∨ b = it := by simpa using hb
    rcases e' with z | z
    · rw [z]; exact ⟨_, he, fun v q => nomatch q⟩
    · rw [z]; exact ⟨o, ho, fun v q => by rw [hd] at q; cases q⟩
  keep := fun i h h' st k => let ⟨⟨old, he⟩, hi, hne⟩ := st; ⟨⟨old, k e (by simp) _ he⟩, hi.at fun o q => k it (by simp) o q, hne⟩
  item := by
    intro X hP hw hK hc i pins s σ H E I hf st hg
    subst hP hw hK
    obtain ⟨⟨old, he⟩, hit, hne⟩ := st
    obtain ⟨xs, x, hq, hx⟩ := hg
    obtain ⟨its, rv, p, hz⟩ := I.tuple hq
    obtain ⟨u, hu, ru⟩ := rv.get hx
    have hel : e < s.heap.objs.size := Heap.lt_size he
    have hil : it < s.heap.objs.size := by obtain ⟨_, q, _⟩ := hit; exact Heap.lt_size q
    have hpt : s.heap.IsTuple a its.toArray := p
    have hai : a ≠ it := fun z => by
      obtain ⟨o, q, c, _⟩ := hit
      obtain ⟨o2, q2, c2, _⟩ := hpt
      rw [← z, q2] at q; cases q
      rw [c2] at c
      exact absurd c (by decide)
    have hae : a ≠ e := fun z => by
      obtain ⟨o2, q2, c2, _⟩ := hpt
      rw [z] at q2
      have := he.symm.trans q2
      cases this
      have c3 : Value.type "enumerate" = Value.type "tuple" := c2
      exact absurd c3 (by decide)
    have hlt : i < its.toArray.size := by
      have := (List.getElem?_eq_some_iff.mp hu).1
      simpa using this
    refine wpAny_pyNext_enum_itemC (Draws.tuple (prog := X.prog) (w := X.w) (A := X.A.in1) (show X.A.in1.handled = none from I.ok.hd hc) it a hai its.toArray) he ⟨hit, hpt⟩ hlt hne (by simp [hne, Ne.symm hae]) fun x' h' tk hx' ho hst' hT hsz hk => ?_
    obtain ⟨hit', _⟩ := hst'
    have ex : x' = u := by
      have : its[i]? = some x' := by simpa using hx'
      rw [hu] at this; cases this; rfl
    subst ex
    refine ⟨_, rfl, wpAny_letOwnedTupleGo_enum (s := { s with heap := h', toks := tk + 1 }) ho fun h'' he' sb => ?_⟩
    have hT2 : h''.get? s.heap.objs.size = some { cls := .type "tuple", data := .seq #[.int i tk, x'] } := (sb.2 _ (Nat.ne_of_gt hel)).trans hT
    have new : ObjOk X.prog X.w (upd H s.heap.objs.size (.tup [.int (i : Nat), x])) h'' s.heap.objs.size (.tup [.int (i : Nat), x]) :=
      ⟨by show 2 ≤ sizeLine; decide, [.int i tk, x'], .cons ⟨_, rfl⟩ (.cons ru .nil), ⟨_, hT2, rfl, _, rfl⟩⟩
    have I1 : Inv X pins σ (upd H s.heap.objs.size (.tup [.int (i : Nat), x])) { s with heap := h'', toks := tk + 1 } :=
      I.turnedNew (ch := [e, it]) (fun b ob hb q => (sb.2 b (fun z => hb (by simp [z]))).trans (hk b ob (fun z => hb (by simp [z])) (fun z => hb (by simp [z])) q)) hf (Nat.le_refl _) new
    refine ⟨.ref s.heap.objs.size, _, I1, rfl, ⟨_, x, rfl, I.hok.fresh (Nat.le_refl _), rfl, fun ys hy => by rw [I.tuple_inj hy hq]; exact hx⟩, ⟨⟨x', ?_⟩, hit'.at fun o q => (sb.2 it (Ne.symm hne)).trans q, hne⟩, fun b hb => ?_⟩
    · have e1 : ((i + 1 : Nat) : Int) = (i : Int) + 1 := by omega
      rw [e1]; exact he'
    · have hb' : b < s.heap.objs.size := by
        have e' : b = e ∨ b = it := by simpa using hb
        rcases e' with z | z
        · rw [z]; exact hel
        · rw [z]; exact hil
      rw [upd_ne (Nat.ne_of_lt hb')]
      exact (hf b hb).1
  done := by
    intro X hP hw hK hc i pins s σ H E I hf st hg
    subst hP hw hK
    obtain ⟨⟨old, he⟩, hit, hne⟩ := st
    obtain ⟨xs, hq, hx⟩ := hg
    obtain ⟨its, rv, p, hz⟩ := I.tuple hq
    obtain ⟨f0, f1, f2, f3, f4, f5⟩ := hf it (by simp)
    have hl := rv.length
    have hpt : s.heap.IsTuple a its.toArray := p
    have hT : s.TypeIs (.ref e) "enumerate" := ⟨_, he, rfl⟩
    unfold pyNext
    refine wpAny_bind (wpAny_attempt (wpAny_callSpecial?_slot (name := Str.ofString "__next__") hT F.slot_enumerate_next
      (wpAny_call_entry F.slot_enumerate_next hT F.entry_enumerate_next ?_ (F.args_enumerate_next_1 _))))
    show wpAny _ _ (field (.ref e) 2 >>= _) _ _ _
    refine wpAny_bind (wpAny_field he rfl (x := .ref it) rfl ?_)
    refine wpAny_bind (wpAny_nextOf_tuple_end (show X.A.in1.handled = none from I.ok.hd hc) hit hpt (by simp; omega) fun h' x he' hx' => ?_)
    obtain ⟨o, ho, hcc⟩ := hx'
    refine wpAny_bind (wpAny_isInstance (T := "StopIteration") (b := true) ⟨o, ho, hcc⟩ isSubtype_stop ?_)
    exact wpAny_pure ⟨rfl, I.turned (t' := s.toks) (fun b o hb q => he' b o hb q) f0 f1 f3 f4 f5⟩
  self := fun A i s Q E st h => let ⟨⟨_, he⟩, _⟩ := st; wpAny_pyIter_enum he h
def iEnumU (K : PySem.W.Frag) (ta : TA) : TI := fun σ H R => ta σ H fun vs H1 => ∃ a xs, vs = [.ref a] ∧ ((SqL K H1 a xs ∧ R (Ite K a) H1) ∨ (SqT K H1 a xs ∧ R (Iet K a) H1))
theorem pi_enumU {X : Cx} {e : Expr} {ta : TA} {p pos tpos : Pos} {elts : List Expr} {kk : Nat} (hg : Gl X "enumerate") (hm : X.mg "enumerate" = none) (ha : PA X [e] ta) (hs : starEach [e] X.env = [(false, eval e X.env)] := by rfl) :
    PI X (.Tuple elts kk tpos) (.Call (.Name "enumerate" p) [e] [] pos) (iEnumU X.K ta) := by
  refine ⟨fun pins s σ H R I h => ?_⟩
  refine Call_ (ld_blt I hg hm boot_enumerate (PyProof.Rows.callWith_type1 (thn (ha.run pos pins s σ H _ I h) fun us s1 ⟨vs, H1, I1, r1, q1⟩ => ?_) hs rfl))
  obtain ⟨a, xs, ex, q⟩ := q1
  subst ex
  cases r1 with
  | cons r rr =>
    cases rr
    cases r
    have fin : ∀ b, b ∈ [s1.heap.objs.size + 1, s1.heap.objs.size] → FpOk X pins H1 b := fun b hb => by
      have e' : b = s1.heap.objs.size + 1 ∨ b = s1.heap.objs.size := by simpa using hb
      have hle : s1.heap.objs.size ≤ b := by
        rcases e' with z | z
        · rw [z]; exact Nat.le_add_right _ _
        · rw [z]; exact Nat.le_refl _
      exact I1.fpOk hle (I1.hok.fresh hle)
    rcases q with ⟨hq, q⟩ | ⟨hq, q⟩
    · obtain ⟨its, rv, p', hz⟩ := I1.list hq
      refine call_enumerate_list p'.isList fun h' he hit hsz hk => wpAny_pyIter_enum he ?_
      have I2 : Inv X pins σ H1 { s1 with heap := h' } := I1.kept (t' := s1.toks) hk
      exact ⟨s1.heap.objs.size + 1, [s1.heap.objs.size + 1, s1.heap.objs.size], _, _, H1, rfl, I2, turn_enum a (s1.heap.objs.size + 1) s1.heap.objs.size, ⟨⟨.none, he⟩, hit, Nat.succ_ne_self _⟩, fin, q⟩
    · obtain ⟨its, rv, p', hz⟩ := I1.tuple hq
      refine enum_begins1 (begins_tuple a its.toArray) (show s1.heap.IsTuple a its.toArray from p') fun h' he hit hsz hk => wpAny_pyIter_enum he ?_
      have I2 : Inv X pins σ H1 { s1 with heap := h' } := I1.kept (t' := s1.toks) hk
      exact ⟨s1.heap.objs.size + 1, [s1.heap.objs.size + 1, s1.heap.objs.size], _, _, H1, rfl, I2, turn_enumT a (s1.heap.objs.size + 1) s1.heap.objs.size, ⟨⟨.none, he⟩, ⟨_, hit, rfl, rfl⟩, Nat.succ_ne_self _⟩, fin, q⟩
section
variable {K : PySem.W.Frag} {R Z : Hp} {E : List (Option D)} {Γ : Led} {te : TE}
def enD : Nat → List D → List D
  | _, [] => []
  | n, d :: ds => .tup [.int (n : Nat), d] :: enD (n + 1) ds
theorem enD_length : ∀ (n : Nat) (ds : List D), (enD n ds).length = ds.length
  | _, [] => rfl
  | n, d :: ds => by simp [enD, enD_length]
theorem enD_get : ∀ (n : Nat) (ds : List D) (i : Nat), (enD n ds)[i]? = ds[i]?.map fun d => .tup [.int ((n + i : Nat) : Int), d]
  | _, [], i => by simp [enD]
  | n, d :: ds, 0 => by simp [enD]
  | n, d :: ds, i + 1 => by
    have := enD_get (n + 1) ds i
    simp only [enD, List.getElem?_cons_succ, this]
    congr 1
    funext d
    congr 4
    omega
theorem enD_at {ds : List D} {i : Nat} {d : D} (h : (enD 0 ds)[i]? = some d) : ∃ y, ds[i]? = some y ∧ d = .tup [.int (i : Nat), y] := by
  rw [enD_get, Nat.zero_add] at h
  cases e : ds[i]? with
  | none => rw [e] at h; cases h
  | some y => rw [e] at h; cases h; exact ⟨y, rfl, rfl⟩
theorem it_enL {a : Addr} {m : D} {ds : List D} (hs : ∀ B H σ E Γ, (a, MO.kn m) ∈ Γ → W1 K R Z B H σ E Γ → ∃ xs, SqL K H a xs ∧ IsL K B H xs ds) : ItD K R Z (a, .kn m) (Ite K a) (enD 0 ds) := fun B H σ E Γ hm w => by
  obtain ⟨xs, h1, l1⟩ := hs B H σ E Γ hm w
  refine ⟨fun i hi => ?_, ⟨_, h1, by rw [enD_length, l1.length]; exact Nat.le_refl _⟩, fun i x H' d hd y => ?_⟩
  · rw [enD_length] at hi
    obtain ⟨v, e, _⟩ := l1.get (List.getElem?_eq_getElem hi)
    exact ⟨_, v, h1, e⟩
  · obtain ⟨T, z, rfl, hT, rfl, y⟩ := y
    obtain ⟨d', hd', rfl⟩ := enD_at hd
    obtain ⟨v, e, i⟩ := l1.get hd'
    have := y _ h1
    rw [e] at this; cases this
    exact ⟨Ext.new hT, B, Ext.refl _, w.grow (Ext.new hT), .tup (.inl (.inl upd_same)) (.cons (.int _) (.cons (i.mono (Ext.refl _) (Ext.new hT).tx) .nil))⟩
theorem it_enT {a : Addr} {m : D} {ds : List D} (hs : ∀ B H σ E Γ, (a, MO.kn m) ∈ Γ → W1 K R Z B H σ E Γ → ∃ xs, SqT K H a xs ∧ IsL K B H xs ds) : ItD K R Z (a, .kn m) (Iet K a) (enD 0 ds) := fun B H σ E Γ hm w => by
  obtain ⟨xs, h1, l1⟩ := hs B H σ E Γ hm w
  refine ⟨fun i hi => ?_, ⟨_, h1, by rw [enD_length, l1.length]; exact Nat.le_refl _⟩, fun i x H' d hd y => ?_⟩
  · rw [enD_length] at hi
    obtain ⟨v, e, _⟩ := l1.get (List.getElem?_eq_getElem hi)
    exact ⟨_, v, h1, e⟩
  · obtain ⟨T, z, rfl, hT, rfl, y⟩ := y
    obtain ⟨d', hd', rfl⟩ := enD_at hd
    obtain ⟨v, e, i⟩ := l1.get hd'
    have := y _ h1
    rw [e] at this; cases this
    exact ⟨Ext.new hT, B, Ext.refl _, w.grow (Ext.new hT), .tup (.inl (.inl upd_same)) (.cons (.int _) (.cons (i.mono (Ext.refl _) (Ext.new hT).tx) .nil))⟩
theorem ei_enum {tr : TA} {d : D} {ds : List D} (h : EvA K R Z E Γ tr [d]) (hs : DSeq d ds) (hd : ∀ s, d ≠ .str s := by intro _ z; cases z) : EvI K R Z E Γ (iEnumU K tr) (enD 0 ds) := fun B H σ w Rr q => h B H σ w _ fun vs B1 H1 b1 h1 w1 i1 => by
  cases i1 with | cons i1 l0 =>
  cases l0
  cases i1 with
  | @tup a xs _ g l =>
    cases hs
    exact ⟨a, xs, rfl, .inr ⟨g, q (a, .kn (.tup ds)) _ B1 H1 b1 h1 w1 rfl (.tup g l) (it_enT fun B H σ E Γ hm w => by
      cases w.obj _ hm with
      | tup g l => exact ⟨_, g, l⟩)⟩⟩
  | @lst a xs _ g l =>
    cases hs
    exact ⟨a, xs, rfl, .inl ⟨.of (w1.bh _ _ g), q (a, .kn (.lst ds)) _ B1 H1 b1 h1 w1 rfl (.lst g l) (it_enL fun B H σ E Γ hm w => by
      cases w.obj _ hm with
      | lst g l => exact ⟨_, .of (w.bh _ _ g), l⟩)⟩⟩
  | @fz a xs _ g l =>
    cases hs
    exact ⟨a, xs, rfl, .inl ⟨w1.bh.sql g, q (a, .kn (.fz ds)) _ B1 H1 b1 h1 w1 rfl (.fz g l) (it_enL fun B H σ E Γ hm w => by
      cases w.obj _ hm with
      | fz g l => exact ⟨_, w.bh.sql g, l⟩)⟩⟩
  | str s => exact absurd rfl (hd s)
  | _ => cases hs
end
end DL
set_option Elab.async false
set_option linter.all false
set_option maxRecDepth 100000
set_option maxHeartbeats 2000000
/-! sorted by a key, dict comprehensions, isinstance. -/
namespace DL
open PySem PySem.Spec PyProof.Rows L2 PySem.W
section
variable {K : PySem.W.Frag} {R Z : Hp} {E E' : List (Option D)} {Γ Γ' : Led} {De : Ends} {te ta tb tl td ty tv to : TE} {d x y z : D}
theorem ev_refC {a : Addr} : EvD K R Z E Γ (tC (.ref a)) (.ref a) := fun B H σ w Q q => q _ B H (Ext.refl _) (Ext.refl _) w (.ref a)
theorem en_sortKey {f : Addr} {xs : List Str} {ta tk : TA} (ha : EvA K R Z E Γ ta [.lst (xs.map .str)]) (hk : EvA K R Z E Γ tk [.ref f]) (hx : ∀ x ∈ xs, x.length ≤ sizeLine) : EvN K R Z E Γ (tCKw (rSortKey K f) ta tk) (.lst ((xs.mergeSort (dataLe false pkey)).map .str)) :=
  fun B H σ w Q q => ha B H σ w _ fun vs B1 H1 b1 x1 w1 l1 => hk B1 H1 σ w1 _ fun zs B2 H2 b2 x2 w2 l2 => by
  cases l2 with | cons i2 l0 =>
  cases l0; cases i2
  have l1' := l1.mono b2 x2.tx
  cases l1' with | cons i1 l0 =>
  cases l0
  cases i1 with
  | lst g l =>
    have e := IsL.of_strs l
    subst e
    exact ⟨_, xs, rfl, rfl, .of (w2.bh _ _ g), hx, rn_new w2 (IsL.strs _) fun p B' H' b x hf w => q p B' H' ((b1.trans b2).trans b) ((x1.trans x2).trans x) hf w⟩
def dcF (ps : List (Key × D)) : List Key × List D := ps.foldl (fun a p => (kPutK a.1 p.1, kPutV a.1 a.2 p.1 p.2)) ([], [])
theorem dcF_snoc (ps : List (Key × D)) (p : Key × D) : dcF (ps ++ [p]) = (kPutK (dcF ps).1 p.1, kPutV (dcF ps).1 (dcF ps).2 p.1 p.2) := by unfold dcF; rw [List.foldl_append]; rfl
theorem dcF_len (ps : List (Key × D)) : (dcF ps).1.length ≤ ps.length := by
  suffices h : ∀ (n : Nat) (ps : List (Key × D)), ps.length = n → (dcF ps).1.length ≤ ps.length from h _ ps rfl
  intro n
  induction n with
  | zero => intro ps h; rw [List.length_eq_zero_iff.mp h]; exact Nat.le_refl _
  | succ n ih =>
    intro ps h
    obtain ⟨p, x, rfl⟩ : ∃ p x, ps = p ++ [x] := ⟨ps.dropLast, ps.getLast (by intro z; rw [z] at h; cases h), (List.dropLast_concat_getLast _).symm⟩
    have hl : p.length = n := by simpa using h
    have := ih p hl
    rw [dcF_snoc]
    show (kPutK _ _).length ≤ _
    unfold kPutK
    split <;> simp <;> omega
theorem en_dc {wi : TI} {g : TG} {tk : TE} {vs : List Nat} {ds : List D} (kd fv : D → D) (key : D → Key) (E1 : D → List (Option D)) (hi : EvI K R Z E Γ wi ds) (hz : ds.length ≤ sizeLine)
    (hg : ∀ d, d ∈ ds → TgC K R Z g d vs E (E1 d))
    (hk : ∀ d, d ∈ ds → ∀ e l, fp1 e = [] → EvD K R Z (E1 d) (l :: e :: Γ) tk (kd d)) (hkk : ∀ d, d ∈ ds → DKey (kd d) (key d))
    (hv : ∀ d, d ∈ ds → ∀ e l, fp1 e = [] → EvD K R Z (E1 d) (l :: e :: Γ) tv (fv d)) :
    EvN K R Z E Γ (tDc wi g tYes tk tv vs) (.dk (dcF (ds.map fun d => (key d, fv d))).1 (dcF (ds.map fun d => (key d, fv d))).2) := fun B H σ w Q q => hi B H σ w _ fun e J B1 H1 b1 x1 w1 hf hm J0 => by
  intro D0 hD
  let fl : Nat → List Key × List D := fun i => dcF ((ds.take i).map fun d => (key d, fv d))
  let Pv : Nat → Hp → Prop := fun i H => i ≤ ds.length ∧ ∃ B', Ext B1 B' ∧ Ext H1 H ∧ W1 K R Z B' H (L2.wipe σ vs) (wipeE E vs) ((D0, .dk (fl i).1 (fl i).2) :: e :: Γ)
  refine ⟨fun i m H => m = ds.length - i ∧ Pv i H, ⟨ds.length, by simp, Nat.zero_le _, B1, Ext.refl _, Ext.new hD, ?_⟩, ?_⟩
  · exact ((w1.know hf hm).wipe vs).own (Ext.new hD) hD rfl ⟨[], upd_same, rfl, IsL.nil⟩
  rintro i m H2 ⟨rfl, hi, B2, b2, x2, w2⟩
  obtain ⟨j1, j2, j3⟩ := J0 B2 H2 _ _ _ (List.mem_cons_of_mem _ List.mem_cons_self) w2
  by_cases hlt : i < ds.length
  · have hd := List.getElem?_eq_getElem hlt
    have hmem : ds[i] ∈ ds := List.getElem_mem hlt
    have tk' : ds.take (i + 1) = ds.take i ++ [ds[i]] := by rw [List.take_succ, hd]; rfl
    refine .inr ⟨j1 i hlt, Pv (i + 1), fun H' p' => ⟨ds.length - (i + 1), by omega, rfl, p'⟩, fun x H3 y => ?_⟩
    obtain ⟨x3, B3, b3, w3, iv⟩ := j3 i x H3 _ hd y
    refine hg _ hmem B3 H3 σ _ x w3 iv _ fun σ' hw w4 => ⟨hw, ?_⟩
    simp only [tYes, if_true]
    refine hk _ hmem e _ hf B3 H3 σ' w4 _ fun yk B4 H4 b4 x4 w5 iyk => ?_
    refine hv _ hmem e _ hf B4 H4 σ' w5 _ fun yv B5 H5 b5 x5 w6 iy => ?_
    obtain ⟨acc, ha, fa, la⟩ := w6.obj _ List.mem_cons_self
    have hzl : acc.length < sizeLine := by
      have h1 := dcF_len ((ds.take i).map fun d => (key d, fv d))
      rw [← show acc.map (·.1) = (dcF ((ds.take i).map fun d => (key d, fv d))).1 from fa] at h1
      simp at h1
      omega
    have e1 : fl (i + 1) = (kPutK (fl i).1 (key ds[i]), kPutV (fl i).1 (fl i).2 (key ds[i]) (fv ds[i])) := by
      show dcF ((ds.take (i + 1)).map fun d => (key d, fv d)) = _
      rw [tk', List.map_append]
      exact dcF_snoc _ _
    refine ⟨acc, key ds[i], key_of iyk (hkk _ hmem), ha, hzl, hlt, B5, ((b2.trans b3).trans b4).trans b5, (((x2.trans x3).trans x4).trans x5).mut hD, ?_⟩
    have t6 : Tx H5 (upd H5 D0 (.dK (putK acc (key ds[i]) yv))) := tx_upd (by rw [ha]; trivial)
    obtain ⟨p1, p2⟩ := put_rel (j := key ds[i]) iy la
    rw [show acc.map (·.1) = (fl i).1 from fa] at p1 p2
    have w7 := w6.mut (n := 0) (m' := .dk (fl (i + 1)).1 (fl (i + 1)).2) (o := .dK (putK acc (key ds[i]) yv)) rfl (by simp [fp1]) rfl ⟨_, upd_same, by rw [e1]; exact p1, by
      rw [e1]
      exact p2.mono (Ext.refl _) t6⟩
    exact w3.back w7 (b4.trans b5) ((x4.trans x5).tx.trans t6)
  · have e' : i = ds.length := by omega
    subst e'
    refine .inl ⟨j2, ?_⟩
    have ef : fl ds.length = dcF (ds.map fun d => (key d, fv d)) := by show dcF ((ds.take ds.length).map _) = _; rw [List.take_length]
    rw [ef] at w2
    have w3 := w1.back w2 b2 x2.tx
    refine q D0 B2 H2 (b1.trans b2) (x1.trans x2) rfl (w3.sub ?_)
    exact (List.sublist_cons_self e Γ).cons_cons _
/-! isinstance(x, T), T a built-in class -/
def tyD : D → Option String
  | .int _ => some "int"
  | .str _ => some "str"
  | .bl _ => some "bool"
  | _ => none
theorem tyD_is {B H : Hp} {v : V} {n : String} (i : Is K B H v d) (h : tyD d = some n) : TyX K H v (.type n) := by
  cases i with
  | int i => cases h; exact .base (.int _)
  | str i => cases h; exact .base (.str _)
  | bl i => cases h; exact .base (.bl _)
  | _ => cases h
theorem ev_isi {n c : String} {b : Bool} (h : EvD K R Z E Γ te d) (hd : tyD d = some n) (hb : kitB n c = some b) : EvD K R Z E Γ (tCB (rIsi K) (tCons te (tCons (tC (.ty c)) tNil))) (.bl b) := fun B H σ w Q q => h B H σ w _ fun v B1 H1 b1 x1 w1 i1 =>
  ⟨v, .ty c, .type n, .type c, b, rfl, .ty c, tyD_is i1 hd, kit_ty hb, q _ B1 H1 b1 x1 w1 (.bl b)⟩
end
section
variable {X : Cx}
theorem ps_setDc {i : Nat} {y : Str} {py : Pos} {kx vx tg iter : Expr} {ifs : List Expr} {scope : Scope} {own : List (Str × Nat)} {pos spos : Pos} {wi : TI} {g : TG} {tt : TT} {tk tv : TE} (hc : X.calm = true) (hN : X.N.Nodup) (hy : X.N[i]? = some y) (hyl : X.env.scope.names.lookup y = some .local)
    (hsw : swapsWith (.DictComp kx vx [⟨tg, iter, ifs, 0⟩] scope pos) (some (.Name y py)) spos.line X.env = pure true) (hi : PI X tg iter wi) (ok : BlkOk X.N X.env.scope scope own)
    (hg : ∀ (s : Shared) (H : Hp) (C : Addr) (cl : List (Str × Addr)) (fp : List Addr), PG (X.blk s H scope (compEnvC scope cl C X.env) fp) tg g) (ht : ∀ (s : Shared) (H : Hp) (C : Addr) (cl : List (Str × Addr)) (fp : List Addr), PTs (X.blk s H scope (compEnvC scope cl C X.env) fp) ifs tt)
    (hk : ∀ (s : Shared) (H : Hp) (C : Addr) (cl : List (Str × Addr)) (fp : List Addr), PE (X.blk s H scope (compEnvC scope cl C X.env) fp) kx tk)
    (he : ∀ (s : Shared) (H : Hp) (C : Addr) (cl : List (Str × Addr)) (fp : List Addr), PE (X.blk s H scope (compEnvC scope cl C X.env) fp) vx tv) (hs : ∀ x, foldedSetIterable iter X.env x = pure x := by intro _; rfl) :
    PS X (.Assign [.Name y py] (.DictComp kx vx [⟨tg, iter, ifs, 0⟩] scope pos) spos) (tAsg (tDc wi g tt tk tv (own.map (·.2))) (gName i)) := by
  refine ⟨fun pins s σ H D I h => ?_⟩
  rw [exec_Assign_Name_used _ _ _ _ hsw]
  refine wpAny_bind (wpAny_standAt (wpAny_bind ?_))
  show wpAny _ X.A (do let _ ← comprehension (.DictComp kx vx [⟨tg, iter, ifs, 0⟩] scope pos) scope X.env (firstIterPos [⟨tg, iter, ifs, 0⟩] pos) newDict false (eval iter X.env) (some (assign (.Name y py) X.env))) _ _ s
  have h : tDc wi g tt tk tv (own.map (·.2)) σ H (fun x H1 => gName i x σ H1 D.nx) := h
  refine wpAny_bind (thn (dc_core (Qf := fun _ s' => SP X pins D .next s') hc hN I hi ok hg ht hk he hs h fun L C s' m H' I' q hn f => ?_) fun _ s' hq => wpAny_pure (wpAny_pure hq))
  show wpAny _ _ (assign (.Name y py) X.env (.ref L)) _ _ _
  refine wpAny_assign_Name (store_ok2 (v := V.ref L) I' hN hy (.inl hyl) rfl (fun s2 I2 ⟨a, sb, ha⟩ => ?_) (.inr hyl))
  obtain ⟨f0, f1, f2, f3, f4, f5⟩ := f
  have haC : C ≠ a := by
    rcases ha with z | z
    · rw [z]; exact f1
    · exact fun e => f4 y a z e.symm
  refine ⟨m, hn.sameBut sb haC, fun h3 sb3 => ?_⟩
  exact ⟨_, H', I2.turned (t' := s2.toks) (fun b o hb e => (sb3.2 b hb).trans e) f0 f1 f3 f4 f5, q⟩
theorem swD_true {kx vx : Expr} {gs : List Comprehension} {scope : Scope} {pos py : Pos} {y : Str} {l : Nat} {env : Env} (hk : env.scope.kind = .function) (hy : env.scope.names.lookup y = some .local) (hl : (py.line == pos.line) = true)
    (ha : (scope.names.any fun (n, k) => n == y && (k == .local || k == .cell)) = false) : swapsWith (.DictComp kx vx gs scope pos) (some (.Name y py)) l env = pure true := by
  have ky : env.kindOf y = some .local := hy
  have hb : env.blockKind = .function := by unfold Env.blockKind; rw [hk]; rfl
  unfold swapsWith
  simp only [hb, ky, ha, Expr.pos, hl]
  rfl
end
end DL
set_option Elab.async false
set_option linter.all false
set_option maxRecDepth 100000
set_option maxHeartbeats 2000000
/-! lists of new lists by a comprehension. -/
namespace DL
open PySem PySem.Spec PyProof.Rows L2 PySem.W
section
variable {K : PySem.W.Frag} {R Z : Hp} {E E' : List (Option D)} {Γ Γ' : Led} {De : Ends} {te ta tb tl td ty tv to : TE} {d x y z : D}
theorem c_setLcLL {i0 : Nat} {wi : TI} {g : TG} {vs : List Nat} {ds : List D} (f : D → List D) (E1 : D → List (Option D)) (hi : EvI K R Z E Γ wi ds) (hz : ds.length ≤ sizeLine)
    (hg : ∀ d, d ∈ ds → TgC K R Z g d vs E (E1 d))
    (he : ∀ d, d ∈ ds → ∀ e l, fp1 e = [] → EvN K R Z (E1 d) (l :: e :: Γ) te (.lst (f d)))
    (k : ∀ p qs, qs.length = ds.length → Cont K R Z De.nx (E.set i0 (some (.ref p))) ((p, .ll qs (ds.map f)) :: Γ)) :
    Cont K R Z (tAsg (tLc wi g tYes te vs) (gName i0) De) E Γ := fun B H σ w => hi B H σ w _ fun e J B1 H1 b1 x1 w1 hf hm J0 => by
  intro D0 hD
  let fl : Nat → List (List D) := fun i => (ds.take i).map f
  let Pv : Nat → Hp → Prop := fun i H => i ≤ ds.length ∧ ∃ B' qs, qs.length = i ∧ Ext B1 B' ∧ Ext H1 H ∧ W1 K R Z B' H (L2.wipe σ vs) (wipeE E vs) ((D0, .ll qs (fl i)) :: e :: Γ)
  refine ⟨fun i m H => m = ds.length - i ∧ Pv i H, ⟨ds.length, by simp, Nat.zero_le _, B1, [], rfl, Ext.refl _, Ext.new hD, ?_⟩, ?_⟩
  · exact ((w1.know hf hm).wipe vs).own (Ext.new hD) hD rfl ⟨upd_same, rfl, fun i q ds h => by simp at h⟩
  rintro i m H2 ⟨rfl, hi, B2, qs, hqs, b2, x2, w2⟩
  obtain ⟨j1, j2, j3⟩ := J0 B2 H2 _ _ _ (List.mem_cons_of_mem _ List.mem_cons_self) w2
  by_cases hlt : i < ds.length
  · have hd := List.getElem?_eq_getElem hlt
    have hmem : ds[i] ∈ ds := List.getElem_mem hlt
    have tk' : ds.take (i + 1) = ds.take i ++ [ds[i]] := by rw [List.take_succ, hd]; rfl
    refine .inr ⟨j1 i hlt, Pv (i + 1), fun H' p' => ⟨ds.length - (i + 1), by omega, rfl, p'⟩, fun x H3 y => ?_⟩
    obtain ⟨x3, B3, b3, w3, iv⟩ := j3 i x H3 _ hd y
    refine hg _ hmem B3 H3 σ _ x w3 iv _ fun σ' hw w4 => ⟨hw, ?_⟩
    simp only [tYes, if_true]
    refine he _ hmem e _ hf B3 H3 σ' w4 _ fun q B5 H5 b5 x5 hq w6 => ?_
    obtain ⟨e3, z3, l3⟩ := w6.obj _ (List.mem_cons_of_mem _ List.mem_cons_self)
    refine ⟨qs.map V.ref, e3, by rw [List.length_map, hqs]; omega, hlt, B5, qs ++ [q], by simp [hqs], (b2.trans b3).trans b5, ((x2.trans x3).trans x5).mut hD, ?_⟩
    have t6 : Tx H5 (upd H5 D0 (.lst (qs.map V.ref ++ [.ref q]))) := tx_upd (by rw [e3]; trivial)
    have w7 := w6.mutll (n := 0) rfl
    rw [List.map_append] at w7
    have e1 : fl (i + 1) = fl i ++ [f ds[i]] := by show (ds.take (i + 1)).map f = _; rw [tk', List.map_append]; rfl
    rw [e1]
    exact w3.back w7 b5 (x5.tx.trans t6)
  · have e' : i = ds.length := by omega
    subst e'
    refine .inl ⟨j2, ?_⟩
    have ef : fl ds.length = ds.map f := by show (ds.take ds.length).map f = _; rw [List.take_length]
    rw [ef] at w2
    have w3 := w1.back w2 b2 x2.tx
    have w4 : W1 K R Z B2 H2 σ E ((D0, .ll qs (ds.map f)) :: Γ) := w3.sub ((List.sublist_cons_self e Γ).cons_cons _)
    exact k D0 qs hqs B2 H2 _ (w4.store (.ref D0))
end
end DL
set_option Elab.async false
set_option linter.all false
set_option maxRecDepth 100000
set_option maxHeartbeats 2000000
/-! Values that come with a ledger, objects made, errors of own classes. -/
namespace DL
open PySem PySem.Spec PyProof.Rows L2 PySem.W
section
variable {X : Cx}
theorem pmk_own0 {C : Addr} {bmB : List Value} {B newId initId : String} {x : Str} {p pos : Pos} (F : ExcBaseFacts B newId initId bmB) (q : PySem.W.excIn X.K C bmB newId = true) (gC : X.mg x = some (.ref C))
    (kC : PySem.W.keepIn X.K (.ref C) = true) (r : Raises X (.ref C)) (hg : Gl X x) (hdb : (x == ("__debug__" : Str)) = false := by decide) :
    PMk X (.Call (.Name x p) [] [] pos) (fun _ H Q => Q (.ref C) none H) := by
  intro pins s σ H Q I h
  refine wpAny_Call_Name_kw (ld_glob I hg gC ?_ hdb)
  refine PySem.W.callWith_K0 I.kIn kC ?_
  show wpAny _ _ (call (.ref C) []) _ _ _
  obtain ⟨bm, N, nm, qn, bs, hdct, sn, sub, ab, col, dd, k0, k1, k2, k3, k5, mN, hC, hN, hni, T⟩ := exc_obj I.kIn q
  refine wpAny_call_exc_subT F T hC hN hni (fun h' e hm => ?_) (Nat.zero_le _)
  exact mk_of I hm r h (I.hok.gone hm.new)
end
section
variable {K : PySem.W.Frag} {R Z : Hp} {E E' : List (Option D)} {Γ Γ' : Led} {De : Ends} {te ta tb tl td ty tv to : TE} {d x y z : D}
/-- a value that comes with a new ledger -/
def EvX (K : PySem.W.Frag) (R Z : Hp) (E : List (Option D)) (Γ : Led) (te : TE) (Ψ : D → Led → Prop) : Prop := ∀ B H σ, W1 K R Z B H σ E Γ → ∀ Q : VK, (∀ d Γ' v B' H', Ψ d Γ' → W1 K R Z B' H' σ E Γ' → Is K B' H' v d → Q v H') → te σ H Q
theorem EvX.imp {Ψ Ψ' : D → Led → Prop} (h : EvX K R Z E Γ te Ψ) (f : ∀ d Γ, Ψ d Γ → Ψ' d Γ) : EvX K R Z E Γ te Ψ' := fun B H σ w Q q => h B H σ w Q fun d Γ' v B' H' p => q d Γ' v B' H' (f d Γ' p)
theorem evx_of (h : EvD K R Z E Γ te d) : EvX K R Z E Γ te fun d' Γ' => d' = d ∧ Γ' = Γ := fun B H σ w Q q => h B H σ w Q fun v B1 H1 _ _ w1 i1 => q d Γ v B1 H1 ⟨rfl, rfl⟩ w1 i1
theorem evx_new {m : MO} (h : EvN K R Z E Γ te m) : EvX K R Z E Γ te fun d Γ' => ∃ p, fp1 (p, m) = [p] ∧ d = .ref p ∧ Γ' = (p, m) :: Γ := fun B H σ w Q q => h B H σ w Q fun p B1 H1 _ _ hf w1 => q _ _ _ B1 H1 ⟨p, hf, rfl, rfl⟩ w1 (.ref p)
theorem evx_call {c : List D → Led → (D → Led → Prop) → Prop} {ta : TA} {X : XK} {ds : List D} {Γr : Led} {Ψ : D → Led → Prop} (Γc : Led) (h : EvA K R Z E (Γc ++ Γr) ta ds) (hc : c ds Γc fun d Γ' => Ψ d (Γ' ++ Γr)) : EvX K R Z E (Γc ++ Γr) (tCall (SpG K c) [] X ta) Ψ :=
  fun B H σ w Q q => h B H σ w _ fun vs B1 H1 b1 x1 w1 i1 => by
  rw [List.append_nil]
  exact call_core w1 i1 hc fun d Γ' v B' H' p b x w' iv => q d _ v B' H' p w' iv
/-- C(..), C an own class with __init__ -/
theorem make_core {c : List D → Led → (D → Led → Prop) → Prop} {C : Addr} {B H : Hp} {σ : L2.St} {Γc Γr : Led} {vs : List V} {ds : List D} {Ψ : D → Led → Prop} {Q : VK} {X : XK} (w : W1 K R Z B H σ E (Γc ++ Γr)) (l : IsL K B H vs ds) (hc : ∀ x, c (.ref x :: ds) ((x, .ins C [] []) :: Γc) fun d Γ' => d = .non ∧ Ψ (.ref x) (Γ' ++ Γr))
    (q : ∀ d Γ' v B' H', Ψ d Γ' → W1 K R Z B' H' σ E Γ' → Is K B' H' v d → Q v H') {x dx : Addr} (hx : H x = none) (hdx : H dx = none) (hne : dx ≠ x) :
    SpG K c (.ref x :: vs) (upd (upd H dx (.own x)) x (.ins C dx [])) (fun v H2 => v = .non ∧ Q (.ref x) H2) X := by
  have e1 : Ext H (upd (upd H dx (.own x)) x (.ins C dx [])) := (Ext.new hdx).trans (Ext.new (by rw [upd_ne (Ne.symm hne)]; exact hx))
  have w1 : W1 K R Z B (upd (upd H dx (.own x)) x (.ins C dx [])) σ E (((x, .ins C [] []) :: Γc) ++ Γr) := w.own e1 hx rfl ⟨dx, [], upd_same, rfl, .nil⟩
  exact call_core w1 (.cons (.ref x) (l.mono (Ext.refl _) e1.tx)) (hc x) fun d Γ' v B' H' ⟨e, p⟩ b xx w' iv => by
    subst e
    cases iv
    exact ⟨rfl, q _ _ _ B' H' p w' (.ref x)⟩
theorem evx_make {c : List D → Led → (D → Led → Prop) → Prop} {C : Addr} {ta : TA} {X : XK} {ds : List D} {Γr : Led} {Ψ : D → Led → Prop} (Γc : Led) (h : EvA K R Z E (Γc ++ Γr) ta ds) (hc : ∀ x, c (.ref x :: ds) ((x, .ins C [] []) :: Γc) fun d Γ' => d = .non ∧ Ψ (.ref x) (Γ' ++ Γr)) :
    EvX K R Z E (Γc ++ Γr) (tMake C (SpG K c) [] X ta) Ψ := fun B H σ w Q q => h B H σ w _ fun vs B1 H1 b1 x1 w1 i1 => by
  intro x dx hx hdx hne
  rw [List.append_nil]
  exact make_core w1 i1 hc q hx hdx hne
theorem evx_fld {f : Str} {Ψ : D → Led → Prop} (h : EvX K R Z E Γ te fun d Γ' => ∃ (n : Nat) (a C : Addr) (fs : List Str) (ds : List D) (d' : D), d = .ref a ∧ Γ'[n]? = some (a, .ins C fs ds) ∧ Cls K C ∧ NoAttr K C f ∧ fGet fs ds f = some d' ∧ Ψ d' Γ') : EvX K R Z E Γ (tFld K te f) Ψ := fun B H σ w Q q =>
  h B H σ w _ fun d Γ' v B1 H1 p w1 i1 => by
  obtain ⟨n, a, C, fs, ds, d', rfl, hg, hc, hn, hd, p⟩ := p
  cases i1
  obtain ⟨dx, ws, e1, f1, l1⟩ := w1.obj _ (List.mem_of_getElem? hg)
  subst f1
  obtain ⟨v, h1, h2⟩ := fld_rel l1 hd
  exact ⟨_, _, _, _, v, rfl, e1, hc, hn, h1, q _ _ v B1 H1 p w1 h2⟩
theorem c_setX {i : Nat} {Ψ : D → Led → Prop} (h : EvX K R Z E Γ te Ψ) (q : ∀ d Γ', Ψ d Γ' → Cont K R Z De.nx (E.set i (some d)) Γ') : Cont K R Z (tAsg te (gName i) De) E Γ := fun B H σ w => h B H σ w _ fun d Γ' v B1 H1 p w1 i1 => q d Γ' p B1 H1 _ (w1.store i1)
theorem c_dropX {Ψ : D → Led → Prop} (h : EvX K R Z E Γ te Ψ) (q : ∀ d Γ', Ψ d Γ' → Cont K R Z De.nx E Γ') : Cont K R Z (tDrop te De) E Γ := fun B H σ w => h B H σ w _ fun d Γ' v B1 H1 p w1 i1 => q d Γ' p B1 H1 _ w1
theorem c_retX {P : D → Led → Prop} {Ψ : D → Led → Prop} (hr : RtOk K R Z De.rt P) (h : EvX K R Z E Γ te Ψ) (q : ∀ d Γ', Ψ d Γ' → ∃ Γ'', List.Sublist Γ'' Γ' ∧ P d Γ'') : Cont K R Z (tRet te De) E Γ := fun B H σ w => h B H σ w _ fun d Γ' v B1 H1 p w1 i1 => by
  obtain ⟨Γ'', s, p⟩ := q d Γ' p
  exact hr d _ v B1 H1 p (w1.nos.sub s) i1
theorem c_fldX {f : Str} {Ψ : D → Led → Prop} (hv : EvX K R Z E Γ tv Ψ) (hq : ∀ d Γ', Ψ d Γ' → ∃ (n : Nat) (a C : Addr) (fs : List Str) (ds : List D), Γ'[n]? = some (a, .ins C fs ds) ∧ EvD K R Z E Γ' ta (.ref a) ∧ Cls K C ∧ NoAttr K C f ∧ fs.length < 1000 ∧
    Cont K R Z De.nx E (Γ'.set n (a, .ins C (fPutK fs f) (fPutV fs ds f d)))) : Cont K R Z (sFld K ta tv f De) E Γ := fun B H σ w => hv B H σ w _ fun d Γ' v B1 H1 p w1 i1 => by
  obtain ⟨n, a, C, fs, ds, hg, ha, hc, hn, hl, q⟩ := hq d Γ' p
  refine ha B1 H1 σ w1 _ fun u B2 H2 b2 x2 w2 i2 => ?_
  cases i2
  obtain ⟨dx, ws, e1, f1, l1⟩ := w2.obj _ (List.mem_of_getElem? hg)
  subst f1
  obtain ⟨p1, p2⟩ := fput_rel (j := f) (i1.mono b2 x2.tx) l1
  exact ⟨_, _, _, _, rfl, e1, hc, hn, by simpa using hl, q B2 _ σ (w2.mut (p := a) hg (by simp [fp1]) rfl ⟨_, _, upd_same, p1, p2.mono (Ext.refl _) (tx_upd (by rw [e1]; trivial))⟩)⟩
/-- {k: v} -/
theorem en_disp1 {tk : TE} {j : Key} (hk : ∀ l, EvD K R Z E (l :: Γ) tk x) (hj : DKey x j) (hv : ∀ l, EvD K R Z E (l :: Γ) tv d) : EvN K R Z E Γ (tDisp [(tk, tv)]) (.dk [j] [d]) := fun B H σ w Q q => by
  intro p hp
  have w1 : W1 K R Z B (upd H p (.dK [])) σ E ((p, .dk [] []) :: Γ) := w.own (Ext.new hp) hp rfl ⟨[], upd_same, rfl, .nil⟩
  refine hk _ B _ σ w1 _ fun kv B1 H1 b1 x1 w2 ik => hv _ B1 H1 σ w2 _ fun v B2 H2 b2 x2 w3 iv => ?_
  obtain ⟨ws, e1, f1, l1⟩ := w3.obj _ List.mem_cons_self
  have : ws = [] := List.map_eq_nil_iff.mp f1
  subst this
  refine ⟨e1, [(j, v)], by rw [key_of ik hj]; rfl, by simp, ?_⟩
  have t : Tx H2 (upd H2 p (.dK (mergeK [] [(j, v)]))) := tx_upd (by rw [e1]; trivial)
  have w4 := w3.mut (n := 0) (m' := .dk [j] [d]) (o := .dK (mergeK [] [(j, v)])) rfl (by simp [fp1]) rfl ⟨[(j, v)], upd_same, rfl, .cons (iv.mono (Ext.refl _) t) .nil⟩
  exact q p B2 _ (b1.trans b2) (((Ext.new hp).trans (x1.trans x2)).mut hp) rfl w4
theorem kMap_len {j : Key} {x : D} : ∀ {ks : List Key} {ds : List D}, ks.length = ds.length → (kPutV.kMap ks ds j x).length = ks.length
  | [], [], _ => rfl
  | k :: ks, d :: ds, h => by simp [kPutV.kMap, kMap_len (ks := ks) (ds := ds) (by simpa using h)]
  | [], _ :: _, h => by simp at h
  | _ :: _, [], h => by simp at h
theorem kPut_len {j : Key} {x : D} {ks : List Key} {ds : List D} (h : ks.length = ds.length) : (kPutK ks j).length = (kPutV ks ds j x).length := by
  by_cases hm : j ∈ ks
  · rw [kPutV_in h hm, kMap_len h]
    unfold kPutK
    rw [if_pos hm]
  · rw [kPutV_out h hm]
    unfold kPutK
    rw [if_neg hm]
    simp [h]
/-! errors -/
/-- a promise of a def that may raise C: b tells when -/
def SpE (K : PySem.W.Frag) (c : List D → Led → (D → Led → Prop) → Prop) (b : List D → Led → Prop) (C : Addr) : Sp := fun vs H Q E => SpG K c vs H Q E ∨ (SpG K (fun ds Γ _ => b ds Γ) vs H Q E ∧ ∀ H', E (.ref C) none H')
theorem evx_callE {c : List D → Led → (D → Led → Prop) → Prop} {b : List D → Led → Prop} {C : Addr} {ta : TA} {X : XK} {ds : List D} {Γr : Led} {Ψ : D → Led → Prop} (Γc : Led) (h : EvA K R Z E (Γc ++ Γr) ta ds) (hc : c ds Γc fun d Γ' => Ψ d (Γ' ++ Γr)) : EvX K R Z E (Γc ++ Γr) (tCall (SpE K c b C) [] X ta) Ψ :=
  fun B H σ w Q q => h B H σ w _ fun vs B1 H1 b1 x1 w1 i1 => by
  rw [List.append_nil]
  exact .inl (call_core w1 i1 hc fun d Γ' v B' H' p b x w' iv => q d _ v B' H' p w' iv)
theorem evx_makeE {c : List D → Led → (D → Led → Prop) → Prop} {b : List D → Led → Prop} {Cx : Addr} {C : Addr} {ta : TA} {X : XK} {ds : List D} {Γr : Led} {Ψ : D → Led → Prop} (Γc : Led) (h : EvA K R Z E (Γc ++ Γr) ta ds) (hc : ∀ x, c (.ref x :: ds) ((x, .ins C [] []) :: Γc) fun d Γ' => d = .non ∧ Ψ (.ref x) (Γ' ++ Γr)) :
    EvX K R Z E (Γc ++ Γr) (tMake C (SpE K c b Cx) [] X ta) Ψ := fun B H σ w Q q => h B H σ w _ fun vs B1 H1 b1 x1 w1 i1 => by
  intro x dx hx hdx hne
  rw [List.append_nil]
  exact .inl (make_core w1 i1 hc q hx hdx hne)
/-- the call raises -/
theorem evx_callB {c : List D → Led → (D → Led → Prop) → Prop} {b : List D → Led → Prop} {C : Addr} {ta : TA} {X : XK} {ds : List D} {Γr : Led} {Ψ : D → Led → Prop} (Γc : Led) (h : EvA K R Z E (Γc ++ Γr) ta ds) (hb : b ds Γc) (hX : ∀ H', X (.ref C) none H') : EvX K R Z E (Γc ++ Γr) (tCall (SpE K c b C) [] X ta) Ψ :=
  fun B H σ w Q q => h B H σ w _ fun vs B1 H1 b1 x1 w1 i1 => by
  rw [List.append_nil]
  exact .inr ⟨call_core (c := fun ds Γ _ => b ds Γ) (P := fun _ _ => False) w1 i1 hb fun d Γ' v B' H' p => p.elim, hX⟩
theorem evx_makeB {c : List D → Led → (D → Led → Prop) → Prop} {b : List D → Led → Prop} {Cx : Addr} {C : Addr} {ta : TA} {X : XK} {ds : List D} {Γr : Led} {Ψ : D → Led → Prop} (Γc : Led) (h : EvA K R Z E (Γc ++ Γr) ta ds) (hb : ∀ x, b (.ref x :: ds) ((x, .ins C [] []) :: Γc)) (hX : ∀ H', X (.ref Cx) none H') :
    EvX K R Z E (Γc ++ Γr) (tMake C (SpE K c b Cx) [] X ta) Ψ := fun B H σ w Q q => h B H σ w _ fun vs B1 H1 b1 x1 w1 i1 => by
  intro x dx hx hdx hne
  rw [List.append_nil]
  have e1 : Ext H1 (upd (upd H1 dx (.own x)) x (.ins C dx [])) := (Ext.new hdx).trans (Ext.new (by rw [upd_ne (Ne.symm hne)]; exact hx))
  have w2 : W1 K R Z B1 (upd (upd H1 dx (.own x)) x (.ins C dx [])) σ E (((x, .ins C [] []) :: Γc) ++ Γr) := w1.own e1 hx rfl ⟨dx, [], upd_same, rfl, .nil⟩
  exact .inr ⟨call_core (c := fun ds Γ _ => b ds Γ) (P := fun _ _ => False) w2 (.cons (.ref x) (i1.mono (Ext.refl _) e1.tx)) (hb x) fun d Γ' v B' H' p => p.elim, hX⟩
end
theorem pe_fldK {X : Cx} {K : PySem.W.Frag} {e : Expr} {f : Str} {pos : Pos} {ta : TE} (he : PE X e ta) (hb : attributeBase e f X.env (eval e X.env) = eval e X.env) (hK : X.K = K := by rfl) : PE X (.Attribute e f pos) (tFld K ta f) := hK ▸ pe_fld he hb
theorem ix_seqK {X : Cx} {K : PySem.W.Frag} (hK : X.K = K := by rfl) : IxR X (rIx K) := hK ▸ ix_seq
theorem call_isi2 {X : Cx} {K : PySem.W.Frag} (hK : X.K = K := by rfl) : CallR X (.builtin "isinstance") (rIsi K) := hK ▸ call_isi
section
variable {X : Cx} {K : PySem.W.Frag}
theorem op_eqUK (hu : X.A.units + 64 < cLine) (hK : X.K = K := by rfl) : OpR X (compareOp .Eq) (rEqU K) := hK ▸ op_eqU hu
theorem op_neUK (hu : X.A.units + 64 < cLine) (hK : X.K = K := by rfl) : OpR X (compareOp .NotEq) (rNeU K) := hK ▸ op_neU hu
theorem op_addUK (hK : X.K = K := by rfl) : OpR X (binaryOp .Add) (rAddU K) := hK ▸ op_addU
theorem sl_UK (hK : X.K = K := by rfl) : SlR X (rSlU K) := hK ▸ sl_U
theorem call_lenUK (hK : X.K = K := by rfl) : CallR X (.builtin "len") (rLenU K) := hK ▸ call_lenU
theorem call_tupOfK (hK : X.K = K := by rfl) : CallR X (.type "tuple") (rTupOf K) := hK ▸ call_tupOf
theorem call_lstUK (hc : X.calm = true) (hK : X.K = K := by rfl) : CallR X (.type "list") (rLstU K) := hK ▸ call_lstU hc
theorem pg_tupK {es : List Expr} {k : Nat} {t : TGs} {n : Nat} {pos : Pos} (hc : X.calm = true) (h : PGs X es t) (hK : X.K = K := by rfl)
    (hn : (assignEach es X.env).length = n := by rfl) (hst : (assignEach es X.env).findIdx? (·.1) = none := by rfl) : PG X (.Tuple es k pos) (gTup K n t) := hK ▸ pg_tup hc h hn hst
theorem pt_truK {a : Expr} {ta : TE} (ha : PE X a ta) (hK : X.K = K := by rfl) (he : ∀ whole, isTrue a X.env whole = (do let v ← whole; standAt a.pos; holding [v] (truthy v)) := by intro _; rfl) : PT X a (tTru K ta) := hK ▸ pt_tru ha he
end
theorem ps_nox {X : Cx} {st : Stmt} {t : TS} (h : PS X.nox st t) : PS X st t := ⟨fun pins s σ H D I hw =>
  wpAny_mono (h.run pins s σ H D (I.wish _) hw) (fun _ _ q => q.unwish) fun _ _ z => False.elim z⟩
/-! defs that may raise -/
structure CalX (P : Program) (w : World) (K : PySem.W.Frag) (mg : Str → Option Value) (base : Heap) (x : Str) (k : Nat) (ps : List Str) (sp : Sp) : Prop where
  ex : ∃ f fd, FnOk P w K mg base (L2.CX P w) k f fd ps sp ∧ mg x = some (.ref f) ∧ PySem.W.keepIn K (.ref f) = true ∧ Binds K fd ps []
/-- a method's def -/
structure DefM (K : PySem.W.Frag) (C : Addr) (x qual : Str) (st : Stmt) : Prop where
  ex : ∃ f fd, Fun K x qual st f fd ∧ Mk K C f
/-- a class by its __init__'s promise -/
structure CalM (P : Program) (w : World) (K : PySem.W.Frag) (mg : Str → Option Value) (base : Heap) (C : Addr) (k : Nat) (ps : List Str) (sp : Sp) : Prop where
  ex : ∃ f fd, FnOk P w K mg base (L2.CX P w) k f fd ps sp ∧ Mk K C f ∧ Binds K fd ps []
section
variable {X : Cx} {x : Str} {C : Addr} {k j : Nat} {ps : List Str} {sp : Sp} {E : XK} {e : Expr} {es : List Expr} {p pos : Pos} {t : TA}
theorem pe_calX (C : CalX X.prog X.w X.K X.mg X.base x j ps sp) (hr : Room k X.A) (hx : Passes (L2.CX X.prog X.w) X E) (ha : PA X (e :: es) t) (hj : j ≤ k := by decide) (hg : Gl X x := by rfl) (hdb : (x == ("__debug__" : Str)) = false := by decide)
    (he : starEach (e :: es) X.env = (false, eval e X.env) :: starEach es X.env := by rfl) (hpl : (backTo pos (starEach es X.env)).any (·.1) = false := by rfl) : PE X (.Call (.Name x p) (e :: es) [] pos) (tCall sp [] E t) := by
  obtain ⟨f, fd, F, hm, hk, hb⟩ := C.ex
  exact pe_call F (hr.mono hj) hg hm hk hb .nil hx ha hdb he hpl
theorem pe_makeX (M : CalM X.prog X.w X.K X.mg X.base C j ps sp) (hr : Room k X.A) (hm : X.mg x = some (.ref C)) (hx : Passes (L2.CX X.prog X.w) X E) (ha : PA X (e :: es) t) (hj : j + 1 ≤ k := by decide) (hg : Gl X x := by rfl) (hdb : (x == ("__debug__" : Str)) = false := by decide)
    (he : starEach (e :: es) X.env = (false, eval e X.env) :: starEach es X.env := by rfl) (hpl : (backTo pos (starEach es X.env)).any (·.1) = false := by rfl) : PE X (.Call (.Name x p) (e :: es) [] pos) (tMake C sp [] E t) := by
  obtain ⟨f, fd, F, hk, hb⟩ := M.ex
  exact pe_make hk F (hr.mono hj) hg hm hb .nil hx ha hdb he hpl
end
section
variable {P : Program} {w : World} {K : PySem.W.Frag} {mg : Str → Option Value} {base : Heap}
/-- what a def's body must show: the end by c, the error by b -/
def BodyE (P : Program) (w : World) (K : PySem.W.Frag) (mg : Str → Option Value) (base : Heap) (N ps : List Str) (qual : Str) (st : Stmt) (k : Nat) (c : List D → Led → (D → Led → Prop) → Prop) (b : List D → Led → Prop) (C : Addr) : Prop :=
  ∀ (f : Addr) (cdv : Value) (A : Around) (outer : List Env) (s : Shared) (H : Hp) (E : XK), Room k (A.deeper (envOfC qual (defScope st) s.heap.objs.size f cdv)) →
    ∃ t, PSs (cxOf (L2.CX P w) P w K mg base N qual (defScope st) f cdv A outer s H E) (defBody st) t ∧
      (∀ R Z ds Γ P Q, c ds Γ P → RtOk K R Z Q P → Cont K R Z (t { nx := fun _ H' => Q .non H', rt := Q }) (ds.map some ++ List.replicate (N.length - ds.length) none) Γ) ∧
      (∀ R Z ds Γ Q, b ds Γ → (∀ H', E (.ref C) none H') → Cont K R Z (t { nx := fun _ H' => Q .non H', rt := Q }) (ds.map some ++ List.replicate (N.length - ds.length) none) Γ)
theorem fn_E {x qual : Str} {st : Stmt} {f : Addr} {fd : FuncData} {N ps : List Str} {k : Nat} {c : List D → Led → (D → Led → Prop) → Prop} {b : List D → Led → Prop} {C : Addr} (F : Fun K x qual st f fd) (S : FnScope N ps (defScope st))
    (len : ∀ ds Γ P, c ds Γ P → ds.length = ps.length) (lenb : ∀ ds Γ, b ds Γ → ds.length = ps.length) (hbody : BodyE P w K mg base N ps qual st k c b C) : FnOk P w K mg base (L2.CX P w) (k + 1) f fd ps (SpE K c b C) := by
  refine F.okX S (fun vs H Q E h => ?_) (fun cdv A outer s H vs Q E hr h => ?_)
  · rcases h with ⟨R, Z, ds, Γ, P, w, l, hc, _⟩ | ⟨⟨R, Z, ds, Γ, P, w, l, hc, _⟩, _⟩
    · exact l.length.trans (len ds Γ P hc)
    · exact l.length.trans (lenb ds Γ hc)
  · obtain ⟨t, ht, q1, q2⟩ := hbody f cdv A outer s H E hr
    refine ⟨t, ht, ?_⟩
    rcases h with h | ⟨h, hE⟩
    · exact entry h fun R Z ds Γ P _ hc hq => q1 R Z ds Γ P Q hc hq
    · exact entry h fun R Z ds Γ P _ hc hq => q2 R Z ds Γ Q hc hE
theorem Def.calE {x : Str} {st : Stmt} {N ps : List Str} {k : Nat} {c : List D → Led → (D → Led → Prop) → Prop} {b : List D → Led → Prop} {C : Addr} (F : Def K mg x st) (S : FnScope N ps (defScope st))
    (hb : ∀ (kV doc pm : Value) (an : Option Addr) (cdv ct : Value) (us : List Value), us.length = ps.length → bindArgs (PySem.W.fnOf x x (defArgs st) (defBody st) (defScope st) .none kV doc pm an cdv ct) ⟨us, []⟩ = pure (ps.zip us))
    (len : ∀ ds Γ P, c ds Γ P → ds.length = ps.length) (lenb : ∀ ds Γ, b ds Γ → ds.length = ps.length) (hbody : BodyE P w K mg base N ps x st k c b C) : CalX P w K mg base x (k + 1) ps (SpE K c b C) := by
  obtain ⟨f, fd, F, hm⟩ := F.ex
  exact ⟨f, fd, fn_E F S len lenb hbody, hm, F.kp, F.binds hb⟩
theorem DefM.calM {x qual : Str} {st : Stmt} {N ps : List Str} {k : Nat} {c : List D → Led → (D → Led → Prop) → Prop} {b : List D → Led → Prop} {C C' : Addr} (F : DefM K C' x qual st) (S : FnScope N ps (defScope st))
    (hb : ∀ (kV doc pm : Value) (an : Option Addr) (cdv ct : Value) (us : List Value), us.length = ps.length → bindArgs (PySem.W.fnOf x qual (defArgs st) (defBody st) (defScope st) .none kV doc pm an cdv ct) ⟨us, []⟩ = pure (ps.zip us))
    (len : ∀ ds Γ P, c ds Γ P → ds.length = ps.length) (lenb : ∀ ds Γ, b ds Γ → ds.length = ps.length) (hbody : BodyE P w K mg base N ps qual st k c b C) : CalM P w K mg base C' (k + 1) ps (SpE K c b C) := by
  obtain ⟨f, fd, F, hm⟩ := F.ex
  exact ⟨f, fd, fn_E F S len lenb hbody, hm, F.binds hb⟩
end
/-! a try around a call that raises -/
section
variable {X : Cx} {x : Str} {k j : Nat} {ps : List Str} {sp : Sp} {W : WX} {e : Expr} {es : List Expr} {p pos : Pos} {t : TA}
theorem pe_calXS (C : CalX X.prog X.w X.K X.mg X.base x j ps sp) (hr : Room k X.A) (tk : Takes X W) (ha : PA X (e :: es) t) (hj : j ≤ k := by decide) (hg : Gl X x := by rfl) (hdb : (x == ("__debug__" : Str)) = false := by decide)
    (he : starEach (e :: es) X.env = (false, eval e X.env) :: starEach es X.env := by rfl) (hpl : (backTo pos (starEach es X.env)).any (·.1) = false := by rfl) : PE X (.Call (.Name x p) (e :: es) [] pos) (tCallS sp (WE W) t) := by
  obtain ⟨f, fd, F, hm, hk, hb⟩ := C.ex
  exact pe_callS F (hr.mono hj) hg hm hk hb (fun σ => passAt tk σ) ha hdb he hpl
theorem pss_guard {q : Prop} {ss : List Stmt} {t : TS} (h : q → PSs X ss t) : PSs X ss (fun D σ H => q ∧ t D σ H) := ⟨fun pins s σ H D I z => (h z.1).run pins s σ H D I z.2⟩
end
section
variable {K : PySem.W.Frag} {R Z : Hp} {E E' : List (Option D)} {Γ Γ' : Led} {De : Ends} {te ta tb tl td ty tv to : TE} {d x y z : D}
theorem ev_callE {c : List D → Led → (D → Led → Prop) → Prop} {b : List D → Led → Prop} {C : Addr} {ta : TA} {X : XK} {ds : List D} (h : EvA K R Z E Γ ta ds) (hc : c ds [] fun d' Γ' => d' = d ∧ Γ' = []) : EvD K R Z E Γ (tCall (SpE K c b C) [] X ta) d := fun B H σ w Q q => h B H σ w _ fun vs B1 H1 b1 x1 w1 i1 => by
  rw [List.append_nil]
  refine .inl (call_core (Γ := []) (Γr := Γ) w1 i1 hc fun d' Γ' v B' H' p b x w' iv => ?_)
  obtain ⟨rfl, rfl⟩ := p
  exact q v B' H' (b1.trans b) (x1.trans fun a o e => x a o (by simp [fps]) e) w' iv
theorem c_dropB {c : List D → Led → (D → Led → Prop) → Prop} {b : List D → Led → Prop} {C : Addr} {ta : TA} {W : WX} {ds : List D} {Γr : Led} (Γc : Led) (h : EvA K R Z E (Γc ++ Γr) ta ds) (hb : b ds Γc) (hX : ∀ (σ : L2.St) H', σ.length = E.length → W (.ref C) none σ H') :
    Cont K R Z (tDrop (tCallS (SpE K c b C) (WE W) ta) De) E (Γc ++ Γr) := fun B H σ w => h B H σ w _ fun vs B1 H1 b1 x1 w1 i1 =>
  .inr ⟨call_core (c := fun ds Γ _ => b ds Γ) (P := fun _ _ => False) w1 i1 hb fun d Γ' v B' H' p => p.elim, fun H' => hX σ H' w.len⟩
end
/-! values known by a property -/
section
variable {K : PySem.W.Frag} {R Z : Hp} {E E' : List (Option D)} {Γ Γ' : Led} {De : Ends} {te ta tb tl td ty tv to : TE} {d x y z : D}
def EvU (K : PySem.W.Frag) (R Z : Hp) (E : List (Option D)) (Γ : Led) (te : TE) (Ψ : D → Prop) : Prop := ∀ B H σ, W1 K R Z B H σ E Γ → ∀ Q : VK, (∀ d v B' H', Ψ d → Ext B B' → Ext H H' → W1 K R Z B' H' σ E Γ → Is K B' H' v d → Q v H') → te σ H Q
def EvAU (K : PySem.W.Frag) (R Z : Hp) (E : List (Option D)) (Γ : Led) (ta : TA) (Φ : List D → Prop) : Prop := ∀ B H σ, W1 K R Z B H σ E Γ → ∀ Q : List V → Hp → Prop, (∀ ds vs B' H', Φ ds → Ext B B' → Ext H H' → W1 K R Z B' H' σ E Γ → IsL K B' H' vs ds → Q vs H') → ta σ H Q
theorem eu_of (h : EvD K R Z E Γ te d) : EvU K R Z E Γ te (· = d) := fun B H σ w Q q => h B H σ w Q fun v B1 H1 b1 x1 w1 i1 => q d v B1 H1 rfl b1 x1 w1 i1
theorem eu_call {c : List D → Led → (D → Led → Prop) → Prop} {ta : TA} {X : XK} {ds : List D} {Ψ : D → Prop} (h : EvA K R Z E Γ ta ds) (hc : c ds [] fun d' Γ' => Ψ d' ∧ Γ' = []) : EvU K R Z E Γ (tCall (SpG K c) [] X ta) Ψ := fun B H σ w Q q => h B H σ w _ fun vs B1 H1 b1 x1 w1 i1 => by
  rw [List.append_nil]
  refine call_core (Γ := []) (Γr := Γ) w1 i1 hc fun d' Γ' v B' H' p b x w' iv => ?_
  obtain ⟨p, rfl⟩ := p
  exact q d' v B' H' p (b1.trans b) (x1.trans fun a o e => x a o (by simp [fps]) e) w' iv
theorem eau_nil : EvAU K R Z E Γ tNil (· = []) := fun B H σ w Q q => q [] [] B H rfl (Ext.refl _) (Ext.refl _) w .nil
theorem eau_cons {tr : TA} {Ψ : D → Prop} {Φ : List D → Prop} (h : EvU K R Z E Γ te Ψ) (hr : EvAU K R Z E Γ tr Φ) : EvAU K R Z E Γ (tCons te tr) (fun ds => ∃ d l, ds = d :: l ∧ Ψ d ∧ Φ l) := fun B H σ w Q q =>
  h B H σ w _ fun d v B1 H1 p b1 h1 w1 i1 => hr B1 H1 σ w1 _ fun ds vs B2 H2 p2 b2 h2 w2 i2 => q (d :: ds) _ B2 H2 ⟨d, ds, rfl, p, p2⟩ (b1.trans b2) (h1.trans h2) w2 (.cons (i1.mono b2 h2.tx) i2)
theorem evx_callU {c : List D → Led → (D → Led → Prop) → Prop} {ta : TA} {X : XK} {Φ : List D → Prop} {Γr : Led} {Ψ : D → Led → Prop} (Γc : Led) (h : EvAU K R Z E (Γc ++ Γr) ta Φ) (hc : ∀ ds, Φ ds → c ds Γc fun d Γ' => Ψ d (Γ' ++ Γr)) : EvX K R Z E (Γc ++ Γr) (tCall (SpG K c) [] X ta) Ψ :=
  fun B H σ w Q q => h B H σ w _ fun ds vs B1 H1 p b1 x1 w1 i1 => by
  rw [List.append_nil]
  exact call_core w1 i1 (hc ds p) fun d Γ' v B' H' p b x w' iv => q d _ v B' H' p w' iv
end
end DL
set_option Elab.async false
set_option linter.all false
set_option maxRecDepth 100000
set_option maxHeartbeats 4000000
namespace W63
open PySem PySem.Spec PyProof.Rows L2 DL
/-! steps of the walk by data -/
local macro_rules | `(tactic| walk_at "side") => `(tactic| first | (with_reducible show D) | (with_reducible show Int) | (with_reducible show Nat) | (with_reducible show List _) | (with_reducible show Bool) | (with_reducible show Str) | (with_reducible show Option _) | (with_reducible show Addr) | (with_reducible show MO) | (with_reducible show Key) | with_reducible rfl | assumption | omega | (with_reducible exact atI0) | (with_reducible exact atI1) | (with_reducible exact atI2) | (with_reducible exact atI3) | ((with_reducible refine' cdiv ?_ ?_) <;> omega) | ((with_reducible refine' cmulR ?_ ?_) <;> omega) | ((with_reducible refine' cmulL ?_ ?_) <;> omega) | ((with_reducible refine' cpow ?_ ?_ ?_) <;> decide) | ((with_reducible refine' small_sz ?_) <;> first | assumption | omega | decide | (simp only [List.length_map, List.length_append, List.length_cons, List.length_nil, List.length_set] <;> omega)) | ((with_reducible refine' small_lt ?_) <;> first | assumption | omega | decide | (simp only [List.length_map, List.length_append, List.length_cons, List.length_nil, List.length_set] <;> omega)) | (show (0 : Int) < _; omega) | decide | skip)
local macro_rules | `(tactic| walk_at "look") => `(tactic| first | (with_reducible exact look0) | (with_reducible exact look1) | (with_reducible exact look2) | (with_reducible exact look3) | (with_reducible exact look4) | (with_reducible exact look5) | (with_reducible exact look6) | (with_reducible exact look7) | (with_reducible exact look8) | (with_reducible exact look9) | (with_reducible exact look10))
local macro_rules | `(tactic| walk_at "ev") => `(tactic| first
  | (with_reducible show D) | (with_reducible show Int) | (with_reducible show Nat) | (with_reducible show List _) | (with_reducible show Bool) | (with_reducible show Str) | (with_reducible show Option _) | (with_reducible show Addr) | (with_reducible show MO) | (with_reducible show Key)
  | ((with_reducible refine' ev_var ?_) <;> first | (with_reducible show D) | rfl)
  | (with_reducible exact ev_int)
  | (with_reducible exact ev_str)
  | (with_reducible exact ev_bl)
  | (with_reducible exact ev_non)
  | ((with_reducible refine' ev_op ?_ ?_ ?_) <;> walk_at "ev")
  | ((with_reducible refine' en_op ?_ ?_ ?_) <;> walk_at "ev")
  | ((with_reducible refine' ev_tup ?_ ?_) <;> walk_at "ev")
  | ((with_reducible refine' en_lst ?_ ?_) <;> walk_at "ev")
  | (with_reducible exact en_dk)
  | (with_reducible exact en_dn)
  | ((with_reducible refine' ev_cb ?_ ?_) <;> walk_at "ev")
  | ((with_reducible refine' en_cb ?_ ?_) <;> walk_at "ev")
  | (with_reducible exact ea_nil)
  | ((with_reducible refine' ea_cons ?_ ?_) <;> walk_at "ev")
  | ((with_reducible refine' ev_neg ?_) <;> walk_at "ev")
  | ((with_reducible refine' ev_slS ?_ ?_ ?_ ?_) <;> walk_at "ev")
  | ((with_reducible refine' ev_slT ?_ ?_ ?_) <;> walk_at "ev")
  | ((with_reducible refine' en_slL ?_ ?_ ?_) <;> walk_at "ev")
  | ((with_reducible refine' en_slO ?hn ?ha ?hl ?hh); (case ha => walk_at "ev"); (case hn => walk_at "look"); (case hl => walk_at "ev"); (case hh => walk_at "ev"))
  | (with_reducible exact eo_none)
  | ((with_reducible refine' eo_some ?_) <;> walk_at "ev")
  | ((with_reducible refine' et_test ?_) <;> walk_at "ev")
  | ((with_reducible refine' et_B ?_) <;> walk_at "ev")
  | ((with_reducible refine' et_not ?_) <;> walk_at "ev")
  | (with_reducible exact rv_II)
  | (with_reducible exact rv_IB)
  | (with_reducible exact ru_addI)
  | (with_reducible exact ru_eqI)
  | (with_reducible exact ru_neI)
  | (with_reducible exact ru_eqS)
  | (with_reducible exact ru_neS)
  | ((with_reducible refine' rv_IC ?_) <;> walk_at "side")
  | ((with_reducible refine' ru_mulI ?_) <;> walk_at "side")
  | ((with_reducible refine' ru_mulS ?_ ?_ ?_) <;> walk_at "side")
  | ((with_reducible refine' ru_addS ?_) <;> walk_at "side")
  | ((with_reducible refine' ru_addT ?_) <;> walk_at "side")
  | ((with_reducible refine' rv_ixT ?_) <;> walk_at "side")
  | ((with_reducible refine' rv_ixL ?_) <;> walk_at "side")
  | ((with_reducible refine' rv_ixF ?_) <;> walk_at "side")
  | ((with_reducible refine' rv_ixS ?_ ?_) <;> walk_at "side")
  | ((with_reducible refine' rv_ixO ?hn ?ha); (case hn => walk_at "look"); (case ha => walk_at "side"))
  | (with_reducible exact rc_int)
  | (with_reducible exact rc_intb)
  | (with_reducible exact rc_max2)
  | (with_reducible exact rc_min2)
  | (with_reducible exact rc_tupL)
  | (with_reducible exact rc_tupT)
  | (with_reducible exact rc_lenK)
  | (with_reducible exact rc_lenT)
  | (with_reducible exact rc_lenL)
  | (with_reducible exact rc_lenF)
  | (with_reducible exact rcn_listL)
  | (with_reducible exact rcn_listT)
  | ((with_reducible refine' rc_lenS ?_) <;> walk_at "side")
  | ((with_reducible refine' rc_lenO ?hn); (case hn => walk_at "look"))
  | ((with_reducible refine' rc_lenOK ?hn); (case hn => walk_at "look"))
  | ((with_reducible refine' rc_tupO ?hn); (case hn => walk_at "look"))
  | ((with_reducible refine' rcn_listO ?hn); (case hn => walk_at "look"))
  | ((with_reducible refine' rcn_listK ?hn); (case hn => walk_at "look"))
  | ((with_reducible refine' rv_ixIn ?hn ?hq ?hd ?ha); (case hn => walk_at "look"); (case hq => assumption); (case hd => assumption); (case ha => walk_at "side"))
  | ((with_reducible refine' rv_ixLL ?hn ?ha); (case hn => walk_at "look"); (case ha => walk_at "side"))
  | ((with_reducible refine' et_truLL ?hn ?ha); (case ha => walk_at "ev"); (case hn => walk_at "look"))
  | ((with_reducible refine' et_truO ?hn ?ha); (case ha => walk_at "ev"); (case hn => walk_at "look"))
  | ((with_reducible refine' et_in _ ?hn ?hx ?hd ?hk); (case hd => walk_at "ev"); (case hx => walk_at "ev"); (case hn => walk_at "look"); (case hk => first | exact dkI | exact dkS))
  | ((with_reducible refine' et_notin _ ?hn ?hx ?hd ?hk); (case hd => walk_at "ev"); (case hx => walk_at "ev"); (case hn => walk_at "look"); (case hk => first | exact dkI | exact dkS))
  | ((with_reducible refine' ev_dget _ ?hn ?hd ?hx ?hk ?hg); (case hd => walk_at "ev"); (case hx => walk_at "ev"); (case hn => walk_at "look"); (case hk => first | exact dkI | exact dkS); (case hg => walk_at "side"))
  | ((with_reducible refine' ev_frzL ?_) <;> walk_at "ev")
  | walk_at "side")
local macro_rules | `(tactic| walk_at "sq") => `(tactic| ((try (refine c_next ?_)); (try (refine c_seq ?_)); try dsimp only [List.set]))
local macro_rules | `(tactic| walk_at "set") => `(tactic| ((refine' c_set ?h1 ?h2); (case h1 => walk_at "ev")))
local macro_rules | `(tactic| walk_at "app") => `(tactic| ((refine' c_append _ ?hn ?ha ?hx ?hl ?hq); (case ha => walk_at "ev"); (case hx => walk_at "ev"); (case hn => walk_at "look"); (case hl => walk_at "side")))
local macro_rules | `(tactic| walk_at "fld") => `(tactic| ((refine' c_fld _ ?hn ?hv ?ha ?hc ?hf ?hl ?hq); (case ha => walk_at "ev"); (case hv => walk_at "ev"); (case hn => walk_at "look"); (case hc => assumption); (case hf => assumption); (case hl => decide)))
local macro_rules | `(tactic| walk_at "it") => `(tactic| first
  | (refine' ei_tup ?h1; (case h1 => walk_at "ev"))
  | (refine' ei_lst ?h1; (case h1 => walk_at "ev"))
  | (refine' ei_fz ?h1; (case h1 => walk_at "ev"))
  | (refine' ei_range ?h1 ?h2 ?h3; (case h1 => walk_at "ev"); (case h2 => first | omega | (simp <;> omega)); (case h3 => first | omega | (simp <;> omega))))
local macro_rules | `(tactic| walk_at "if") => `(tactic| ((refine' c_if ?hc ?ht ?he); (case hc => walk_at "ev")))
local macro_rules | `(tactic| walk_at "ret") => `(tactic| ((try (refine c_next ?_)); (try dsimp only [List.set]); (refine' c_ret (by assumption) ?h1 ?h2); (case h1 => walk_at "ev")))
local macro_rules | `(tactic| walk_at "dput") => `(tactic| ((refine' c_dput _ ?hn ?hv ?hd ?hx ?hk ?hl ?hq); (case hd => walk_at "ev"); (case hv => walk_at "ev"); (case hx => walk_at "ev"); (case hn => walk_at "look"); (case hk => first | exact dkI | exact dkS); (case hl => walk_at "side")))
local macro_rules | `(tactic| walk_at "popLL") => `(tactic| ((refine' c_popLL _ ?hn ?ha ?hz ?hq); (case ha => walk_at "ev"); (case hn => walk_at "look"); (case hz => walk_at "side")))
local macro_rules | `(tactic| walk_at "evt") => `(tactic| ((refine' et_is ?h1 ?h2); (case h1 => walk_at "ev"); (case h2 => first | rfl | decide | (simp <;> omega) | assumption)))

def topS (i : Nat) : Stmt := PySem.Challenge.pw_looporpile_k63_nodes_counted.main.body.getD i (.Pass ⟨0, 0, 0, 0⟩)
structure Txt (mg : Str → Option Value) : Prop where
  b_len : mg "len" = none
  b_int : mg "int" = none
  b_range : mg "range" = none
  b_tuple : mg "tuple" = none
  b_list : mg "list" = none
  b_max : mg "max" = none
  b_bool : mg "bool" = none
  b_str : mg "str" = none
  b_sorted : mg "sorted" = none
  b_all : mg "all" = none
  b_isinstance : mg "isinstance" = none
  b_enumerate : mg "enumerate" = none
/-- rs: digits below szs -/
def Dig (szs rs : List Int) : Prop := rs.length = szs.length ∧ ∀ (i : Nat) s r, szs[i]? = some s → rs[i]? = some r → 0 ≤ r ∧ r < s
theorem Dig.snoc {szs rs : List Int} {i : Nat} {s r : Int} (h : Dig (szs.take i) rs) (hs : szs[i]? = some s) (h0 : 0 ≤ r) (h1 : r < s) : Dig (szs.take (i + 1)) (rs ++ [r]) := by
  have hi : i < szs.length := (List.getElem?_eq_some_iff.mp hs).1
  obtain ⟨hl, hd⟩ := h
  have hl2 : (szs.take i).length = i := by rw [List.length_take]; omega
  refine ⟨by simp [hl, List.length_take]; omega, fun j s' r' h1' h2' => ?_⟩
  rw [List.getElem?_take] at h1'
  by_cases hj : j < i
  · rw [List.getElem?_append_left (by omega)] at h2'
    refine hd j s' r' ?_ h2'
    rw [List.getElem?_take]
    simp [hj]
    split at h1'
    · exact h1'
    · cases h1'
  · have hj1 : j = i := by split at h1' <;> first | omega | cases h1'
    subst hj1
    rw [List.getElem?_append_right (by omega), hl, hl2] at h2'
    simp at h2'
    subst h2'
    simp [hs] at h1'
    subst h1'
    exact ⟨h0, h1⟩
abbrev s_l_cell : Stmt := topS 14
abbrev n_l_cell : List Str := ["script", "k", "seed", "cell"]
theorem sc_l_cell : FnScope n_l_cell ["script", "k"] (defScope s_l_cell) := ⟨rfl, rfl, rfl, by decide +kernel, rfl, by decide +kernel, by decide +kernel⟩
abbrev s_l_digits : Stmt := topS 15
abbrev n_l_digits : List Str := ["cell", "sizes", "row", "rest", "size", "seed", "k", "twice"]
theorem sc_l_digits : FnScope n_l_digits ["cell", "sizes"] (defScope s_l_digits) := ⟨rfl, rfl, rfl, by decide +kernel, rfl, by decide +kernel, by decide +kernel⟩
def c_cell : List D → Led → (D → Led → Prop) → Prop := fun ds Γ P => ∃ (ns : List Int) (k : Int), ds = [.fz (ns.map .int), .int k] ∧ Γ = [] ∧ 0 ≤ k ∧ k < 1000 ∧ ns.length ≤ 63 ∧ ∀ z, P (.int z) []
def c_digits : List D → Led → (D → Led → Prop) → Prop := fun ds Γ P => ∃ (z : Int) (szs : List Int), ds = [.int z, .lst (szs.map .int)] ∧ Γ = [] ∧ szs.length ≤ 1000 ∧ (∀ s ∈ szs, 0 < s ∧ s < 1000000) ∧ ∀ p rs, Dig szs rs → P (.ref p) [(p, .lst (rs.map .int))]
theorem mem_map_int {ns : List Int} {i : Nat} {d : D} (h : (ns.map D.int)[i]? = some d) : ∃ z, d = .int z ∧ ns[i]? = some z := by
  rw [List.getElem?_map] at h
  cases q : ns[i]? with
  | none => rw [q] at h; cases h
  | some z => rw [q] at h; cases h; exact ⟨z, rfl, rfl⟩
section
variable {P : Program} {w : World} {K : PySem.W.Frag} {mg : Str → Option Value} {base : Heap}
theorem ok_cell (F : Def K mg "_law_cell" s_l_cell) (T : Txt mg) : Cal P w K mg base "_law_cell" 1 ["script", "k"] (SpG K c_cell) := by
  refine F.cal sc_l_cell (fun _ _ _ _ _ _ us hl => match us, hl with | [_, _], _ => rfl) (fun ds Γ P h => ?_) (fun f cdv A outer s H E hr => ?_)
  · obtain ⟨_, _, rfl, _⟩ := h; rfl
  refine ⟨_, (pss_cons (ps_if (pt_cmpR op_lt (pv 1) (pe_callB call_lenU rfl T.b_len (by decide +kernel) (pa_cons (pv 0) pa_nil)) (nomark _)) (pss_one (ps_ret (pe_ix ix_seq (pv 0) (pv 1) (fun _ _ => rfl)))) pss_nil)
 (pss_cons (ps_set (i := 2) sc_l_cell.nd rfl (by first | exact .inl rfl | exact .inr rfl) pe_int)
 (pss_cons (ps_for PassesOwn.never rfl (pi_seq (pv 0)) (pg_name (i := 3) sc_l_cell.nd rfl (by first | exact .inl rfl | exact .inr rfl)) (pss_one (ps_set (i := 2) sc_l_cell.nd rfl (by first | exact .inl rfl | exact .inr rfl) (pe_op op_mod (pe_callTy call_int11 rfl T.b_int (by decide +kernel) (pa_cons (pe_op op_addU (pe_op op_mulU (pv 2) pe_int) (pe_op op_mod (pe_callTy call_int11 rfl T.b_int (by decide +kernel) (pa_cons (pv 3) pa_nil)) pe_int)) pa_nil)) pe_int))))
 (pss_one (ps_ret (pe_op op_mod (pe_callTy call_int11 rfl T.b_int (by decide +kernel) (pa_cons (pe_op op_mulU (pe_op op_mulU (pe_op op_addU (pv 2) pe_int) (pe_op op_addU (pv 1) pe_int)) pe_int) pa_nil)) pe_int))))))
, ?_⟩
  try dsimp only [cxOf, Cx.nox, Cx.wish]
  rintro R Z _ _ P Q ⟨ns, k, rfl, rfl, h0, h1, hl, hP⟩ hq
  show Cont K R Z _ [some (.fz (ns.map .int)), some (.int k), none, none] []
  refine c_seq (c_if (b := decide (k < (ns.map D.int).length)) ?_ (fun hb => ?_) (fun hb => ?_))
  · walk_at "ev"
  · have hk : k.toNat < ns.length := by simp at hb; omega
    have hk2 : atI (ns.map D.int) k = some (.int (ns[k.toNat])) := by
      have := atI_nat (xs := ns.map D.int) (j := k.toNat) (v := .int (ns[k.toNat])) (by simp [hk])
      rwa [show ((k.toNat : Nat) : Int) = k by omega] at this
    refine c_ret hq (d := .int ns[k.toNat]) ?_ (hP _)
    walk_at "ev"
  · walk_at "sq"
    walk_at "set"
    walk_at "sq"
    refine c_for' (fun i E Γ => ∃ sd o, E = [some (.fz (ns.map .int)), some (.int k), some (.int sd), o] ∧ Γ = [] ∧ 0 ≤ sd ∧ sd < 1000003) (by walk_at "it") ⟨17, none, rfl, rfl, by decide, by decide⟩ ?_ ?_
    · rintro nx e hf hn i d _ _ hd ⟨sd, o, rfl, rfl, hs1, hs2⟩
      obtain ⟨z, rfl, _⟩ := mem_map_int hd
      refine ⟨_, tg_name, ?_⟩
      walk_at "set"
      exact hn _ _ _ ⟨_, _, rfl, rfl, by omega, by omega⟩
    · rintro _ _ ⟨sd, o, rfl, rfl, hs1, hs2⟩
      walk_at "ret"
      exact hP _
theorem ok_digits (F : Def K mg "_law_digits" s_l_digits) (T : Txt mg) : Cal P w K mg base "_law_digits" 1 ["cell", "sizes"] (SpG K c_digits) := by
  refine F.cal sc_l_digits (fun _ _ _ _ _ _ us hl => match us, hl with | [_, _], _ => rfl) (fun ds Γ P h => ?_) (fun f cdv A outer s H E hr => ?_)
  · obtain ⟨_, _, rfl, _⟩ := h; rfl
  refine ⟨_, (pss_cons (ps_set (i := 2) sc_l_digits.nd rfl (by first | exact .inl rfl | exact .inr rfl) (pe_lst pa_nil))
 (pss_cons (ps_set (i := 3) sc_l_digits.nd rfl (by first | exact .inl rfl | exact .inr rfl) (pe_callTy call_int11 rfl T.b_int (by decide +kernel) (pa_cons (pv 0) pa_nil)))
 (pss_cons (ps_if (pt_cmpR op_ge (pv 3) (pe_op op_pow pe_int pe_int) (nomark _)) (pss_cons (ps_set (i := 3) sc_l_digits.nd rfl (by first | exact .inl rfl | exact .inr rfl) (pe_op op_sub (pv 3) (pe_op op_pow pe_int pe_int)))
 (pss_cons (ps_for PassesOwn.never rfl (pi_seq (pv 1)) (pg_name (i := 4) sc_l_digits.nd rfl (by first | exact .inl rfl | exact .inr rfl)) (pss_cons (ps_expr (pe_bm PySem.F.plainAttrs_list PySem.F.slot_list_append PySem.F.type_list_append mt_append (pv 2) (pa_cons (pe_op op_mod (pe_callTy call_int11 rfl T.b_int (by decide +kernel) (pa_cons (pv 3) pa_nil)) (pv 4)) pa_nil)))
 (pss_one (ps_set (i := 3) sc_l_digits.nd rfl (by first | exact .inl rfl | exact .inr rfl) (pe_op op_fdiv (pe_callTy call_int11 rfl T.b_int (by decide +kernel) (pa_cons (pv 3) pa_nil)) (pv 4))))))
 (pss_one (ps_ret (pv 2))))) pss_nil)
 (pss_cons (ps_set (i := 5) sc_l_digits.nd rfl (by first | exact .inl rfl | exact .inr rfl) (pe_op op_mod (pe_callTy call_int11 rfl T.b_int (by decide +kernel) (pa_cons (pv 3) pa_nil)) pe_int))
 (pss_cons (ps_for PassesOwn.never rfl (pi_range1 rfl T.b_range (pa_cons (pe_callB call_lenU rfl T.b_len (by decide +kernel) (pa_cons (pv 1) pa_nil)) pa_nil)) (pg_name (i := 6) sc_l_digits.nd rfl (by first | exact .inl rfl | exact .inr rfl)) (pss_cons (ps_set (i := 5) sc_l_digits.nd rfl (by first | exact .inl rfl | exact .inr rfl) (pe_op op_mod (pe_callTy call_int11 rfl T.b_int (by decide +kernel) (pa_cons (pe_op op_addU (pe_op op_addU (pe_op op_mulU (pv 5) pe_int) (pe_op op_mulU pe_int (pv 6))) pe_int) pa_nil)) pe_int))
 (pss_cons (ps_set (i := 7) sc_l_digits.nd rfl (by first | exact .inl rfl | exact .inr rfl) (pe_op op_mod (pe_callTy call_int11 rfl T.b_int (by decide +kernel) (pa_cons (pe_op op_mulU (pv 5) (pe_op op_addU (pe_op op_fdiv (pv 5) pe_int) pe_int)) pa_nil)) pe_int))
 (pss_one (ps_expr (pe_bm PySem.F.plainAttrs_list PySem.F.slot_list_append PySem.F.type_list_append mt_append (pv 2) (pa_cons (pe_op op_mod (pe_op op_fdiv (pv 7) pe_int) (pe_ix ix_seq (pv 1) (pv 6) (fun _ _ => rfl))) pa_nil)))))))
 (pss_one (ps_ret (pv 2))))))))
, ?_⟩
  try dsimp only [cxOf, Cx.nox, Cx.wish]
  rintro R Z _ _ P Q ⟨z, szs, rfl, rfl, h0, hz, hP⟩ hq
  show Cont K R Z _ [some (.int z), some (.lst (szs.map .int)), none, none, none, none, none, none] []
  walk_at "sq"
  refine c_setN (m := .lst []) ?_ fun p hp => ?_
  · walk_at "ev"
  walk_at "sq"
  walk_at "set"
  walk_at "sq"
  refine' c_if ?hc (fun hb => ?_) (fun hb => ?_)
  case hc => walk_at "ev"
  · walk_at "sq"
    walk_at "set"
    walk_at "sq"
    refine c_for' (fun i E Γ => ∃ y o rs, E = [some (.int z), some (.lst (szs.map .int)), some (.ref p), some (.int y), o, none, none, none] ∧ Γ = [(p, .lst (rs.map .int))] ∧ Dig (szs.take i) rs) (by walk_at "it") ⟨_, none, [], rfl, rfl, rfl, fun i s r _ h => by simp at h⟩ ?_ ?_
    · rintro nx e hf hn i d _ _ hd ⟨y, o, rs, rfl, rfl, hg⟩
      obtain ⟨s, rfl, hs⟩ := mem_map_int hd
      have hs1 := hz s (List.mem_of_getElem? hs)
      have hl := hg.1
      rw [List.length_take] at hl
      refine ⟨_, tg_name, ?_⟩
      walk_at "sq"
      walk_at "app"
      walk_at "sq"
      walk_at "set"
      refine hn _ _ _ ⟨_, _, rs ++ [y % s], rfl, by rw [List.map_append]; rfl, hg.snoc hs ?_ ?_⟩
      · exact Int.emod_nonneg _ (by omega)
      · exact Int.emod_lt_of_pos _ (by omega)
    · rintro _ _ ⟨y, o, rs, rfl, rfl, hg⟩
      simp only [List.length_map, List.take_length] at hg
      walk_at "ret"
      exact hP p rs hg
  · walk_at "sq"
    walk_at "set"
    walk_at "sq"
    refine c_for' (fun i E Γ => ∃ y o1 o2 rs, E = [some (.int z), some (.lst (szs.map .int)), some (.ref p), some (.int z), none, some (.int y), o1, o2] ∧ Γ = [(p, .lst (rs.map .int))] ∧ 0 ≤ y ∧ y < 2147483647 ∧ Dig (szs.take i) rs) (by walk_at "it") ⟨_, none, none, [], rfl, rfl, Int.emod_nonneg _ (by decide), Int.lt_trans (Int.emod_lt_of_pos _ (by decide)) (by decide), rfl, fun i s r _ h => by simp at h⟩ ?_ ?_
    · rintro nx e hf hn i d _ _ hd ⟨y, o1, o2, rs, rfl, rfl, hy1, hy2, hg⟩
      obtain ⟨rfl, hi⟩ := rngD_get hd
      simp only [List.length_map, Int.toNat_natCast] at hi
      have hs := List.getElem?_eq_getElem hi
      have hs1 := hz _ (List.getElem_mem hi)
      have hat : atI (szs.map D.int) (i : Nat) = some (.int szs[i]) := atI_nat (by simp [hi])
      have hl := hg.1
      rw [List.length_take] at hl
      refine ⟨_, tg_name, ?_⟩
      walk_at "sq"
      walk_at "set"
      walk_at "sq"
      walk_at "set"
      walk_at "sq"
      walk_at "app"
      refine hn _ _ _ ⟨_, _, _, rs ++ [_], rfl, by rw [List.map_append]; rfl, by omega, by omega, hg.snoc hs ?_ ?_⟩
      · exact Int.emod_nonneg _ (by omega)
      · exact Int.emod_lt_of_pos _ (by omega)
    · rintro _ _ ⟨y, o1, o2, rs, rfl, rfl, _, _, hg⟩
      simp only [rngD_length, List.length_map, Int.toNat_natCast, List.take_length] at hg
      walk_at "ret"
      exact hP p rs hg
end
end W63
set_option Elab.async false
set_option linter.all false
/-! The plain side: rows of a sheet, the store of the law. -/
namespace W63
open PySem L2 DL
inductive Row where
  | thing (p : Str) | deed (n : Str) (ks : List Nat)
def Row.d : Row → D
  | .thing p => .tup [.str "thing", .str p]
  | .deed n ks => .tup [.str "deed", .str n, .tup (ks.map fun k => D.int (k : Nat))]
def Row.ks : Row → List Nat
  | .thing _ => []
  | .deed _ ks => ks
theorem nkDs_ints : ∀ ks : List Nat, nkDs (ks.map fun k => D.int (k : Nat)) = ks.map fun k => NestedKey.num (k : Nat)
  | [] => rfl
  | k :: ks => by simp [nkDs, nkD, nkDs_ints ks]
theorem nkOks_ints : ∀ ks : List Nat, nkOks (ks.map fun k => D.int (k : Nat)) = true
  | [] => rfl
  | k :: ks => by simp [nkOks, nkOk, nkOks_ints ks]
theorem depth_ints : ∀ ks : List Nat, NestedKey.depthAll (ks.map fun k => NestedKey.num (k : Nat)) = 0
  | [] => rfl
  | k :: ks => by simp [NestedKey.depthAll, NestedKey.depth, depth_ints ks]
theorem Row.tup (r : Row) : isTup r.d = true := by cases r <;> rfl
theorem Row.ok (r : Row) : nkOk r.d = true := by
  cases r with
  | thing p => rfl
  | deed n ks => simp [Row.d, nkOk, nkOks, nkOks_ints]
theorem Row.dep (r : Row) : (nkD r.d).depth ≤ 8 := by
  cases r with
  | thing p => simp [Row.d, nkD, nkDs, NestedKey.depth, NestedKey.depthAll]
  | deed n ks => simp [Row.d, nkD, nkDs, NestedKey.depth, NestedKey.depthAll, nkDs_ints, depth_ints]
theorem map_num_inj : ∀ {a b : List Nat}, (a.map fun k => NestedKey.num (k : Nat)) = b.map (fun k => NestedKey.num (k : Nat)) → a = b
  | [], [], _ => rfl
  | [], _ :: _, h => by simp at h
  | _ :: _, [], h => by simp at h
  | x :: a, y :: b, h => by
    simp only [List.map_cons, List.cons.injEq, NestedKey.num.injEq] at h
    rw [map_num_inj h.2]
    congr 1
    omega
theorem Row.inj {a b : Row} (h : nkD a.d = nkD b.d) : a = b := by
  cases a with
  | thing p =>
    cases b with
    | thing q => simp [Row.d, nkD, nkDs] at h; rw [h]
    | deed m js => simp [Row.d, nkD, nkDs] at h
  | deed n ks =>
    cases b with
    | thing q => simp [Row.d, nkD, nkDs] at h
    | deed m js =>
      simp [Row.d, nkD, nkDs, nkDs_ints] at h
      rw [h.1, map_num_inj h.2]
/-- the store's dict -/
def kvF : Nat → List Row → List (D × D)
  | _, [] => []
  | n, r :: rs => (r.d, .int (n : Nat)) :: kvF (n + 1) rs
theorem kvF_length : ∀ (n : Nat) (rs : List Row), (kvF n rs).length = rs.length
  | _, [] => rfl
  | n, r :: rs => by simp [kvF, kvF_length]
theorem kvF_snoc (x : Row) : ∀ (n : Nat) (rs : List Row), kvF n (rs ++ [x]) = kvF n rs ++ [(x.d, .int ((n + rs.length : Nat) : Int))]
  | n, [] => by simp [kvF]
  | n, r :: rs => by
    rw [List.cons_append, kvF, kvF_snoc x (n + 1) rs, kvF, List.cons_append]
    congr 4
    simp; omega
theorem dn_kv (x : Row) : ∀ (n : Nat) (rs : List Row), (dnGet (kvF n rs) x.d = none ∧ x ∉ rs) ∨ ∃ j, dnGet (kvF n rs) x.d = some (.int ((n + j : Nat) : Int)) ∧ rs[j]? = some x
  | n, [] => .inl ⟨rfl, by simp⟩
  | n, r :: rs => by
    by_cases e : nkD r.d = nkD x.d
    · have := Row.inj e
      subst this
      exact .inr ⟨0, by simp [kvF, dnGet], rfl⟩
    · have hne : x ≠ r := fun z => e (by rw [z])
      rcases dn_kv x (n + 1) rs with ⟨h1, h2⟩ | ⟨j, h1, h2⟩
      · exact .inl ⟨by simp [kvF, dnGet, e, h1], by simp [hne, h2]⟩
      · refine .inr ⟨j + 1, ?_, by simpa using h2⟩
        simp only [kvF, dnGet, e, if_false, h1]
        congr 3; omega
/-- rows lead to earlier rows alone -/
def Wf (rs : List Row) : Prop := ∀ (i : Nat) r, rs[i]? = some r → ∀ k ∈ r.ks, k < i
def Few (rs : List Row) : Prop := ∀ r ∈ rs, r.ks.length ≤ 3
theorem Wf.snoc {rs : List Row} {r : Row} (h : Wf rs) (hr : ∀ k ∈ r.ks, k < rs.length) : Wf (rs ++ [r]) := fun i x hi k hk => by
  by_cases hl : i < rs.length
  · rw [List.getElem?_append_left hl] at hi; exact h i x hi k hk
  · rw [List.getElem?_append_right (by omega)] at hi
    have : i - rs.length = 0 := by
      have := (List.getElem?_eq_some_iff.mp hi).1
      simp at this; omega
    rw [this] at hi
    simp at hi; subst hi
    have := hr k hk
    omega
end W63
set_option Elab.async false
set_option linter.all false
/-! The walk of the law's _law_within, plainly. -/
namespace W63
open PySem L2 DL
theorem nodup_lt : ∀ (n : Nat) (l : List Nat), l.Nodup → (∀ x ∈ l, x < n) → l.length ≤ n
  | 0, l, _, h => by
    cases l with
    | nil => simp
    | cons x l => exact absurd (h x (by simp)) (by omega)
  | n + 1, l, hn, h => by
    by_cases hm : n ∈ l
    · have := nodup_lt n (l.erase n) (hn.erase n) (fun x hx => by
        have h1 := h x (List.mem_of_mem_erase hx)
        have h2 : x ≠ n := fun z => by subst z; exact (List.Nodup.mem_erase_iff hn).mp hx |>.1 rfl
        omega)
      rw [List.length_erase_of_mem hm] at this
      omega
    · have := nodup_lt n l hn (fun x hx => by
        have h1 := h x hx
        have h2 : x ≠ n := fun z => hm (z ▸ hx)
        omega)
      omega
def kids (rs : List Row) (x : Nat) : List Nat := match rs[x]? with
  | some r => r.ks
  | none => []
theorem kids_lt {rs : List Row} (h : Wf rs) {x k : Nat} (hk : k ∈ kids rs x) : k < x := by
  unfold kids at hk
  cases e : rs[x]? with
  | none => rw [e] at hk; simp at hk
  | some r => rw [e] at hk; exact h x r e k hk
def Post (rs : List Row) (o : List Nat) : Prop := ∀ (j x : Nat), o[j]? = some x → x < rs.length ∧ ∀ k ∈ kids rs x, k ∈ o.take j
def sumTo (f : Nat → Nat) : Nat → Nat
  | 0 => 0
  | n + 1 => sumTo f n + f n
theorem sumTo_upd (f : Nat → Nat) (x v : Nat) : ∀ n, x < n → sumTo (fun y => if y = x then v else f y) n + f x = sumTo f n + v
  | 0, h => by omega
  | n + 1, h => by
    by_cases e : x = n
    · subst e
      have : sumTo (fun y => if y = x then v else f y) x = sumTo f x := by
        have : ∀ m, m ≤ x → sumTo (fun y => if y = x then v else f y) m = sumTo f m := by
          intro m
          induction m with
          | zero => intro _; rfl
          | succ m ih => intro hm; simp only [sumTo]; rw [ih (by omega), if_neg (by omega)]
        exact this x (Nat.le_refl _)
      simp only [sumTo, this, if_true]; omega
    · have := sumTo_upd f x v n (by omega)
      simp only [sumTo]
      rw [if_neg (fun z => e z.symm)]
      omega
theorem sumTo_le (f : Nat → Nat) (c : Nat) (h : ∀ x, f x ≤ c) : ∀ n, sumTo f n ≤ c * n
  | 0 => by simp [sumTo]
  | n + 1 => by
    have := sumTo_le f c h n
    have := h n
    simp only [sumTo, Nat.mul_add, Nat.mul_one]; omega
/-- the lower rows of the pile -/
def Low (rs : List Row) (o : List Nat) : Nat → List (Nat × Nat) → Prop
  | _, [] => True
  | y, (x, i) :: S => ∃ i', i = i' + 1 ∧ (kids rs x)[i']? = some y ∧ (∀ m k, m < i' → (kids rs x)[m]? = some k → k ∈ o) ∧ x < rs.length ∧ x ∉ o ∧ Low rs o x S
structure WInv (rs : List Row) (root t : Nat) (o : List Nat) (S : List (Nat × Nat)) : Prop where
  post : Post rs o
  nd : o.Nodup
  top : ∀ x i S', S = (x, i) :: S' → x < rs.length ∧ (∀ m k, m < i → (kids rs x)[m]? = some k → k ∈ o) ∧ i ≤ (kids rs x).length ∧ Low rs o x S'
  bot : (S = [] → o.getLast? = some root) ∧ (S ≠ [] → S.getLast?.map (·.1) = some root ∧ root ∉ o)
  pot : ∃ rem : Nat → Nat, 2 * sumTo rem rs.length + S.length + t ≤ 6 * rs.length + 1 ∧ ∀ x, x < rs.length → x ∉ o → (∀ i, (x, i) ∈ S → (kids rs x).length ≤ rem x + i) ∧ ((∀ i, (x, i) ∉ S) → (kids rs x).length ≤ rem x)
theorem low_gt {rs : List Row} (hw : Wf rs) {o : List Nat} : ∀ {S : List (Nat × Nat)} {y : Nat}, Low rs o y S → ∀ p ∈ S, y < p.1
  | [], _, _, p, hp => by simp at hp
  | (x, i) :: S, y, h, p, hp => by
    obtain ⟨i', _, h2, _, _, _, h4⟩ := h
    have hy : y < x := kids_lt hw (List.mem_of_getElem? h2)
    rcases List.mem_cons.mp hp with rfl | hp
    · exact hy
    · exact Nat.lt_trans hy (low_gt hw h4 p hp)
theorem low_notin {rs : List Row} {o : List Nat} : ∀ {S : List (Nat × Nat)} {y : Nat}, Low rs o y S → ∀ p ∈ S, p.1 ∉ o
  | [], _, _, p, hp => by simp at hp
  | (x, i) :: S, y, h, p, hp => by
    obtain ⟨i', _, _, _, _, h3, h4⟩ := h
    rcases List.mem_cons.mp hp with rfl | hp
    · exact h3
    · exact low_notin h4 p hp
theorem low_more {rs : List Row} (hw : Wf rs) {o : List Nat} {z : Nat} : ∀ {S : List (Nat × Nat)} {y : Nat}, Low rs o y S → z ≤ y → Low rs (o ++ [z]) y S
  | [], _, _, _ => trivial
  | (x, i) :: S, y, h, hz => by
    obtain ⟨i', h1, h2, h3, h4, h5, h6⟩ := h
    have hy : y < x := kids_lt hw (List.mem_of_getElem? h2)
    refine ⟨i', h1, h2, fun m k hm hk => List.mem_append_left _ (h3 m k hm hk), h4, ?_, low_more hw h6 (by omega)⟩
    simp only [List.mem_append, List.mem_singleton, not_or]
    exact ⟨h5, by omega⟩
theorem WInv.start {rs : List Row} (hf : Few rs) {root : Nat} (hr : root < rs.length) : WInv rs root 0 [] [(root, 0)] := by
  have hk : ∀ x, (kids rs x).length ≤ 3 := fun x => by
    unfold kids
    cases e : rs[x]? with
    | none => simp
    | some r => exact hf r (List.mem_of_getElem? e)
  refine ⟨fun j x h => by simp at h, List.nodup_nil, ?_, ⟨by simp, fun _ => ⟨rfl, by simp⟩⟩, fun x => (kids rs x).length, ?_, fun x _ _ => ⟨fun i _ => Nat.le_add_right _ _, fun _ => Nat.le_refl _⟩⟩
  · intro x i S' h
    simp at h
    obtain ⟨⟨rfl, rfl⟩, rfl⟩ := h
    exact ⟨hr, fun m k hm => by omega, Nat.zero_le _, trivial⟩
  · have := sumTo_le (fun x => (kids rs x).length) 3 hk rs.length
    simp only [List.length_singleton]
    omega
section
variable {rs : List Row} {root t x i : Nat} {o : List Nat} {S : List (Nat × Nat)}
theorem low_mem_ne (hw : Wf rs) (h : Low rs o x S) (j : Nat) : (x, j) ∉ S := fun hm => by
  have := low_gt hw h _ hm
  simp at this
/-- the top is done already -/
theorem WInv.pop (hw : Wf rs) (h : WInv rs root t o ((x, i) :: S)) (hx : x ∈ o) : WInv rs root (t + 1) o S := by
  obtain ⟨t1, t2, t3, t4⟩ := h.top x i S rfl
  obtain ⟨rem, p1, p2⟩ := h.pot
  have hb := h.bot.2 (by simp)
  have hS : S ≠ [] := by
    intro z; subst z
    simp at hb
    exact hb.2 (hb.1 ▸ hx)
  refine ⟨h.post, h.nd, ?_, ⟨fun z => absurd z hS, fun _ => ⟨?_, hb.2⟩⟩, rem, by simp only [List.length_cons] at p1; omega, fun y hy ho => ?_⟩
  · intro y j S' e
    subst e
    obtain ⟨i', h1, h2, h3, h4, h5, h6⟩ := t4
    refine ⟨h4, fun m k hm hk => ?_, ?_, h6⟩
    · by_cases hm' : m < i'
      · exact h3 m k hm' hk
      · have : m = i' := by omega
        subst this
        rw [h2] at hk; cases hk
        exact hx
    · have := (List.getElem?_eq_some_iff.mp h2).1
      omega
  · rw [List.getLast?_cons_of_ne_nil hS] at hb
    exact hb.1
  · obtain ⟨q1, q2⟩ := p2 y hy ho
    refine ⟨fun j hj => q1 j (List.mem_cons_of_mem _ hj), fun hn => ?_⟩
    by_cases hyx : y = x
    · subst hyx; exact absurd hx ho
    · exact q2 fun j hj => by
        rcases List.mem_cons.mp hj with e | hj
        · exact hyx (by cases e; rfl)
        · exact hn j hj
/-- the top is finished -/
theorem WInv.fin (hw : Wf rs) (h : WInv rs root t o ((x, i) :: S)) (hx : x ∉ o) (hi : i = (kids rs x).length) : WInv rs root (t + 1) (o ++ [x]) S := by
  obtain ⟨t1, t2, t3, t4⟩ := h.top x i S rfl
  obtain ⟨rem, p1, p2⟩ := h.pot
  have hb := h.bot.2 (by simp)
  refine ⟨?_, ?_, ?_, ⟨fun z => ?_, fun hS => ?_⟩, rem, by simp only [List.length_cons] at p1; omega, fun y hy ho => ?_⟩
  · intro j y hj
    by_cases hl : j < o.length
    · rw [List.getElem?_append_left hl] at hj
      obtain ⟨a, b⟩ := h.post j y hj
      refine ⟨a, fun k hk => ?_⟩
      rw [List.take_append_of_le_length (by omega)]
      exact b k hk
    · rw [List.getElem?_append_right (by omega)] at hj
      have hj0 : j - o.length = 0 := by
        have := (List.getElem?_eq_some_iff.mp hj).1
        simp at this; omega
      rw [hj0] at hj
      simp at hj; subst hj
      have : j = o.length := by omega
      subst this
      refine ⟨t1, fun k hk => ?_⟩
      rw [List.take_append_of_le_length (Nat.le_refl _), List.take_length]
      obtain ⟨m, hm⟩ := List.mem_iff_getElem?.mp hk
      exact t2 m k (by have := (List.getElem?_eq_some_iff.mp hm).1; omega) hm
  · exact List.nodup_append.mpr ⟨h.nd, by simp, fun a ha b hb z => by simp at hb; subst hb; subst z; exact hx ha⟩
  · intro y j S' e
    subst e
    have l2 := low_more hw t4 (Nat.le_refl x)
    obtain ⟨i', h1, h2, h3, h4, h5, h6⟩ := l2
    refine ⟨h4, fun m k hm hk => ?_, ?_, h6⟩
    · by_cases hm' : m < i'
      · exact h3 m k hm' hk
      · have : m = i' := by omega
        subst this
        rw [h2] at hk; cases hk
        simp
    · have := (List.getElem?_eq_some_iff.mp h2).1
      omega
  · subst z
    simp at hb
    simp [hb.1]
  · rw [List.getLast?_cons_of_ne_nil hS] at hb
    refine ⟨hb.1, ?_⟩
    have : x ≠ root := by
      intro z
      cases hl : S.getLast? with
      | none => rw [hl] at hb; simp at hb
      | some p =>
        rw [hl] at hb
        simp at hb
        have := low_gt hw t4 p (List.mem_of_getLast? hl)
        omega
    simp only [List.mem_append, List.mem_singleton, not_or]
    exact ⟨hb.2, fun z => this z.symm⟩
  · simp only [List.mem_append, List.mem_singleton, not_or] at ho
    obtain ⟨q1, q2⟩ := p2 y hy ho.1
    refine ⟨fun j hj => q1 j (List.mem_cons_of_mem _ hj), fun hn => q2 fun j hj => ?_⟩
    rcases List.mem_cons.mp hj with e | hj
    · exact ho.2 (by cases e; rfl)
    · exact hn j hj
/-- the next child comes up -/
theorem WInv.push (hw : Wf rs) {y : Nat} (h : WInv rs root t o ((x, i) :: S)) (hx : x ∉ o) (hy : (kids rs x)[i]? = some y) : WInv rs root (t + 1) o ((y, 0) :: (x, i + 1) :: S) := by
  obtain ⟨t1, t2, t3, t4⟩ := h.top x i S rfl
  obtain ⟨rem, p1, p2⟩ := h.pot
  have hb := h.bot.2 (by simp)
  have hyx : y < x := kids_lt hw (List.mem_of_getElem? hy)
  have hil := (List.getElem?_eq_some_iff.mp hy).1
  have hrx : 0 < rem x := by
    have := (p2 x t1 hx).1 i (by simp)
    omega
  refine ⟨h.post, h.nd, ?_, ⟨by simp, fun _ => ⟨?_, hb.2⟩⟩, fun z => if z = x then rem x - 1 else rem z, ?_, fun z hz ho => ?_⟩
  · intro a b S' e
    cases e
    exact ⟨by omega, fun m k hm => by omega, Nat.zero_le _, i, rfl, hy, t2, t1, hx, t4⟩
  · rw [List.getLast?_cons_of_ne_nil (by simp)]
    have := hb.1
    cases hS : S with
    | nil => rw [hS] at this; simpa using this
    | cons p S' =>
      rw [hS] at this
      rw [List.getLast?_cons_of_ne_nil (by simp)] at this ⊢
      exact this
  · have := sumTo_upd rem x (rem x - 1) rs.length t1
    simp only [List.length_cons] at p1 ⊢
    omega
  · obtain ⟨q1, q2⟩ := p2 z hz ho
    by_cases hzx : z = x
    · subst hzx
      dsimp only
      rw [if_pos rfl]
      refine ⟨fun j hj => ?_, fun hn => absurd (by simp) (hn (i + 1))⟩
      have h0 := q1 i (by simp)
      rcases List.mem_cons.mp hj with e | hj
      · cases e; omega
      · rcases List.mem_cons.mp hj with e | hj
        · cases e; omega
        · exact absurd hj (low_mem_ne hw t4 j)
    · dsimp only
      rw [if_neg hzx]
      refine ⟨fun j hj => ?_, fun hn => q2 fun j hj => ?_⟩
      · rcases List.mem_cons.mp hj with e | hj
        · obtain ⟨rfl, rfl⟩ : z = y ∧ j = 0 := by simpa using e
          by_cases hm : ∃ j, (z, j) ∈ (x, i) :: S
          · obtain ⟨j, hj⟩ := hm
            rcases List.mem_cons.mp hj with e | hj
            · cases e; exact absurd rfl hzx
            · have := low_gt hw t4 _ hj
              simp at this; omega
          · exact q2 fun j hj => hm ⟨j, hj⟩
        · rcases List.mem_cons.mp hj with e | hj
          · cases e; exact absurd rfl hzx
          · exact q1 j (List.mem_cons_of_mem _ hj)
      · rcases List.mem_cons.mp hj with e | hj
        · cases e; exact absurd rfl hzx
        · exact hn j (List.mem_cons_of_mem _ (List.mem_cons_of_mem _ hj))
theorem WInv.over (h : WInv rs root t o S) (ht : 6 * rs.length + 2 ≤ t) : False := by
  obtain ⟨rem, p1, _⟩ := h.pot
  omega
end
end W63
set_option Elab.async false
set_option linter.all false
set_option maxRecDepth 100000
set_option maxHeartbeats 4000000
namespace W63
open PySem PySem.Spec PyProof.Rows L2 DL
/-! steps of the walk by data -/
local macro_rules | `(tactic| walk_at "side") => `(tactic| first | (with_reducible show D) | (with_reducible show Int) | (with_reducible show Nat) | (with_reducible show List _) | (with_reducible show Bool) | (with_reducible show Str) | (with_reducible show Option _) | (with_reducible show Addr) | (with_reducible show MO) | (with_reducible show Key) | with_reducible rfl | assumption | omega | (with_reducible exact atI0) | (with_reducible exact atI1) | (with_reducible exact atI2) | (with_reducible exact atI3) | ((with_reducible refine' cdiv ?_ ?_) <;> omega) | ((with_reducible refine' cmulR ?_ ?_) <;> omega) | ((with_reducible refine' cmulL ?_ ?_) <;> omega) | ((with_reducible refine' cpow ?_ ?_ ?_) <;> decide) | ((with_reducible refine' small_sz ?_) <;> first | assumption | omega | decide | (simp only [List.length_map, List.length_append, List.length_cons, List.length_nil, List.length_set] <;> omega)) | ((with_reducible refine' small_lt ?_) <;> first | assumption | omega | decide | (simp only [List.length_map, List.length_append, List.length_cons, List.length_nil, List.length_set] <;> omega)) | (show (0 : Int) < _; omega) | decide | skip)
local macro_rules | `(tactic| walk_at "look") => `(tactic| first | (with_reducible exact look0) | (with_reducible exact look1) | (with_reducible exact look2) | (with_reducible exact look3) | (with_reducible exact look4) | (with_reducible exact look5) | (with_reducible exact look6) | (with_reducible exact look7) | (with_reducible exact look8) | (with_reducible exact look9) | (with_reducible exact look10))
local macro_rules | `(tactic| walk_at "ev") => `(tactic| first
  | (with_reducible show D) | (with_reducible show Int) | (with_reducible show Nat) | (with_reducible show List _) | (with_reducible show Bool) | (with_reducible show Str) | (with_reducible show Option _) | (with_reducible show Addr) | (with_reducible show MO) | (with_reducible show Key)
  | ((with_reducible refine' ev_var ?_) <;> first | (with_reducible show D) | rfl)
  | (with_reducible exact ev_int)
  | (with_reducible exact ev_str)
  | (with_reducible exact ev_bl)
  | (with_reducible exact ev_non)
  | ((with_reducible refine' ev_op ?_ ?_ ?_) <;> walk_at "ev")
  | ((with_reducible refine' en_op ?_ ?_ ?_) <;> walk_at "ev")
  | ((with_reducible refine' ev_tup ?_ ?_) <;> walk_at "ev")
  | ((with_reducible refine' en_lst ?_ ?_) <;> walk_at "ev")
  | (with_reducible exact en_dk)
  | (with_reducible exact en_dn)
  | ((with_reducible refine' ev_cb ?_ ?_) <;> walk_at "ev")
  | ((with_reducible refine' en_cb ?_ ?_) <;> walk_at "ev")
  | (with_reducible exact ea_nil)
  | ((with_reducible refine' ea_cons ?_ ?_) <;> walk_at "ev")
  | ((with_reducible refine' ev_neg ?_) <;> walk_at "ev")
  | ((with_reducible refine' ev_slS ?_ ?_ ?_ ?_) <;> walk_at "ev")
  | ((with_reducible refine' ev_slT ?_ ?_ ?_) <;> walk_at "ev")
  | ((with_reducible refine' en_slL ?_ ?_ ?_) <;> walk_at "ev")
  | ((with_reducible refine' en_slO ?hn ?ha ?hl ?hh); (case ha => walk_at "ev"); (case hn => walk_at "look"); (case hl => walk_at "ev"); (case hh => walk_at "ev"))
  | (with_reducible exact eo_none)
  | ((with_reducible refine' eo_some ?_) <;> walk_at "ev")
  | ((with_reducible refine' et_test ?_) <;> walk_at "ev")
  | ((with_reducible refine' et_B ?_) <;> walk_at "ev")
  | ((with_reducible refine' et_not ?_) <;> walk_at "ev")
  | (with_reducible exact rv_II)
  | (with_reducible exact rv_IB)
  | (with_reducible exact ru_addI)
  | (with_reducible exact ru_eqI)
  | (with_reducible exact ru_neI)
  | (with_reducible exact ru_eqS)
  | (with_reducible exact ru_neS)
  | ((with_reducible refine' rv_IC ?_) <;> walk_at "side")
  | ((with_reducible refine' ru_mulI ?_) <;> walk_at "side")
  | ((with_reducible refine' ru_mulS ?_ ?_ ?_) <;> walk_at "side")
  | ((with_reducible refine' ru_addS ?_) <;> walk_at "side")
  | ((with_reducible refine' ru_addT ?_) <;> walk_at "side")
  | ((with_reducible refine' rv_ixT ?_) <;> walk_at "side")
  | ((with_reducible refine' rv_ixL ?_) <;> walk_at "side")
  | ((with_reducible refine' rv_ixF ?_) <;> walk_at "side")
  | ((with_reducible refine' rv_ixS ?_ ?_) <;> walk_at "side")
  | ((with_reducible refine' rv_ixO ?hn ?ha); (case hn => walk_at "look"); (case ha => walk_at "side"))
  | (with_reducible exact rc_int)
  | (with_reducible exact rc_intb)
  | (with_reducible exact rc_max2)
  | (with_reducible exact rc_min2)
  | (with_reducible exact rc_tupL)
  | (with_reducible exact rc_tupT)
  | (with_reducible exact rc_lenK)
  | (with_reducible exact rc_lenT)
  | (with_reducible exact rc_lenL)
  | (with_reducible exact rc_lenF)
  | (with_reducible exact rcn_listL)
  | (with_reducible exact rcn_listT)
  | ((with_reducible refine' rc_lenS ?_) <;> walk_at "side")
  | ((with_reducible refine' rc_lenO ?hn); (case hn => walk_at "look"))
  | ((with_reducible refine' rc_lenOK ?hn); (case hn => walk_at "look"))
  | ((with_reducible refine' rc_tupO ?hn); (case hn => walk_at "look"))
  | ((with_reducible refine' rcn_listO ?hn); (case hn => walk_at "look"))
  | ((with_reducible refine' rcn_listK ?hn); (case hn => walk_at "look"))
  | ((with_reducible refine' rv_ixIn ?hn ?hq ?hd ?ha); (case hn => walk_at "look"); (case hq => assumption); (case hd => assumption); (case ha => walk_at "side"))
  | ((with_reducible refine' rv_ixLL ?hn ?ha); (case hn => walk_at "look"); (case ha => walk_at "side"))
  | ((with_reducible refine' et_truLL ?hn ?ha); (case ha => walk_at "ev"); (case hn => walk_at "look"))
  | ((with_reducible refine' et_truO ?hn ?ha); (case ha => walk_at "ev"); (case hn => walk_at "look"))
  | ((with_reducible refine' et_in _ ?hn ?hx ?hd ?hk); (case hd => walk_at "ev"); (case hx => walk_at "ev"); (case hn => walk_at "look"); (case hk => first | exact dkI | exact dkS))
  | ((with_reducible refine' et_notin _ ?hn ?hx ?hd ?hk); (case hd => walk_at "ev"); (case hx => walk_at "ev"); (case hn => walk_at "look"); (case hk => first | exact dkI | exact dkS))
  | ((with_reducible refine' ev_dget _ ?hn ?hd ?hx ?hk ?hg); (case hd => walk_at "ev"); (case hx => walk_at "ev"); (case hn => walk_at "look"); (case hk => first | exact dkI | exact dkS); (case hg => walk_at "side"))
  | ((with_reducible refine' ev_frzL ?_) <;> walk_at "ev")
  | walk_at "side")
local macro_rules | `(tactic| walk_at "sq") => `(tactic| ((try (refine c_next ?_)); (try (refine c_seq ?_)); try dsimp only [List.set]))
local macro_rules | `(tactic| walk_at "set") => `(tactic| ((refine' c_set ?h1 ?h2); (case h1 => walk_at "ev")))
local macro_rules | `(tactic| walk_at "app") => `(tactic| ((refine' c_append _ ?hn ?ha ?hx ?hl ?hq); (case ha => walk_at "ev"); (case hx => walk_at "ev"); (case hn => walk_at "look"); (case hl => walk_at "side")))
local macro_rules | `(tactic| walk_at "fld") => `(tactic| ((refine' c_fld _ ?hn ?hv ?ha ?hc ?hf ?hl ?hq); (case ha => walk_at "ev"); (case hv => walk_at "ev"); (case hn => walk_at "look"); (case hc => assumption); (case hf => assumption); (case hl => decide)))
local macro_rules | `(tactic| walk_at "it") => `(tactic| first
  | (refine' ei_tup ?h1; (case h1 => walk_at "ev"))
  | (refine' ei_lst ?h1; (case h1 => walk_at "ev"))
  | (refine' ei_fz ?h1; (case h1 => walk_at "ev"))
  | (refine' ei_range ?h1 ?h2 ?h3; (case h1 => walk_at "ev"); (case h2 => first | omega | (simp <;> omega)); (case h3 => first | omega | (simp <;> omega))))
local macro_rules | `(tactic| walk_at "if") => `(tactic| ((refine' c_if ?hc ?ht ?he); (case hc => walk_at "ev")))
local macro_rules | `(tactic| walk_at "ret") => `(tactic| ((try (refine c_next ?_)); (try dsimp only [List.set]); (refine' c_ret (by assumption) ?h1 ?h2); (case h1 => walk_at "ev")))
local macro_rules | `(tactic| walk_at "dput") => `(tactic| ((refine' c_dput _ ?hn ?hv ?hd ?hx ?hk ?hl ?hq); (case hd => walk_at "ev"); (case hv => walk_at "ev"); (case hx => walk_at "ev"); (case hn => walk_at "look"); (case hk => first | exact dkI | exact dkS); (case hl => walk_at "side")))
local macro_rules | `(tactic| walk_at "popLL") => `(tactic| ((refine' c_popLL _ ?hn ?ha ?hz ?hq); (case ha => walk_at "ev"); (case hn => walk_at "look"); (case hz => walk_at "side")))
local macro_rules | `(tactic| walk_at "evt") => `(tactic| ((refine' et_is ?h1 ?h2); (case h1 => walk_at "ev"); (case h2 => first | rfl | decide | (simp <;> omega) | assumption)))

abbrev s_l_store : Stmt := topS 16
abbrev n_l_store : List Str := []
theorem sc_l_store : FnScope n_l_store [] (defScope s_l_store) := ⟨rfl, rfl, rfl, by decide +kernel, rfl, by decide +kernel, by decide +kernel⟩
abbrev s_l_put : Stmt := topS 17
abbrev n_l_put : List Str := ["store", "row", "height", "numbers"]
theorem sc_l_put : FnScope n_l_put ["store", "row", "height"] (defScope s_l_put) := ⟨rfl, rfl, rfl, by decide +kernel, rfl, by decide +kernel, by decide +kernel⟩
abbrev s_l_thing : Stmt := topS 18
abbrev n_l_thing : List Str := ["store", "thing"]
theorem sc_l_thing : FnScope n_l_thing ["store", "thing"] (defScope s_l_thing) := ⟨rfl, rfl, rfl, by decide +kernel, rfl, by decide +kernel, by decide +kernel⟩
abbrev s_l_deed : Stmt := topS 19
abbrev n_l_deed : List Str := ["store", "name", "parts", "high", "part"]
theorem sc_l_deed : FnScope n_l_deed ["store", "name", "parts"] (defScope s_l_deed) := ⟨rfl, rfl, rfl, by decide +kernel, rfl, by decide +kernel, by decide +kernel⟩
def StoreL (w : World) (s r d h : Addr) (rs : List Row) (hs : List Int) : Led := [(s, .lst [.ref r, .ref d, .ref h]), (r, .lst (rs.map Row.d)), (d, .dn w (kvF 0 rs)), (h, .lst (hs.map .int))]
def Put (rs : List Row) (row : Row) (n : Nat) (rs' : List Row) : Prop := rs'[n]? = some row ∧ (rs' = rs ∨ (row ∉ rs ∧ rs' = rs ++ [row]))
def c_store (w : World) : List D → Led → (D → Led → Prop) → Prop := fun ds Γ P => ds = [] ∧ Γ = [] ∧ ∀ s r d h, P (.ref s) (StoreL w s r d h [] [])
def c_put (w : World) : List D → Led → (D → Led → Prop) → Prop := fun ds Γ P => ∃ s r d h rs hs row z, ds = [.ref s, Row.d row, .int z] ∧ Γ = StoreL w s r d h rs hs ∧ hs.length = rs.length ∧ rs.length ≤ 1000 ∧
  ∀ (n : Nat) rs' hs', Put rs row n rs' → hs'.length = rs'.length → P (.int (n : Nat)) (StoreL w s r d h rs' hs')
def c_thing (w : World) : List D → Led → (D → Led → Prop) → Prop := fun ds Γ P => ∃ s r d h rs hs p, ds = [.ref s, .str p] ∧ Γ = StoreL w s r d h rs hs ∧ hs.length = rs.length ∧ rs.length ≤ 1000 ∧
  ∀ (n : Nat) rs' hs', Put rs (.thing p) n rs' → hs'.length = rs'.length → P (.int (n : Nat)) (StoreL w s r d h rs' hs')
def c_deed (w : World) : List D → Led → (D → Led → Prop) → Prop := fun ds Γ P => ∃ s r d h rs hs n ks, ds = [.ref s, .str n, .lst (ks.map fun k => D.int (k : Nat))] ∧ Γ = StoreL w s r d h rs hs ∧ hs.length = rs.length ∧ rs.length ≤ 1000 ∧ ks.length ≤ 1000 ∧ (∀ k ∈ ks, k < rs.length) ∧
  ∀ (m : Nat) rs' hs', Put rs (.deed n ks) m rs' → hs'.length = rs'.length → P (.int (m : Nat)) (StoreL w s r d h rs' hs')
section
variable {P : Program} {w : World} {K : PySem.W.Frag} {mg : Str → Option Value} {base : Heap}
theorem ok_put (F : Def K mg "_law_put" s_l_put) (T : Txt mg) : Cal P w K mg base "_law_put" 1 ["store", "row", "height"] (SpG K (c_put w)) := by
  refine F.cal sc_l_put (fun _ _ _ _ _ _ us hl => match us, hl with | [_, _, _], _ => rfl) (fun ds Γ P h => ?_) (fun f cdv A outer s H E hr => ?_)
  · obtain ⟨_, _, _, _, _, _, _, _, rfl, _⟩ := h; rfl
  refine ⟨_, (pss_cons (ps_if (pt_cmp (pc_nnotin hr.units (pv 1) (pe_ix ix_seq (pv 0) pe_int (fun _ _ => rfl)))) (pss_cons (ps_set (i := 3) sc_l_put.nd rfl (by first | exact .inl rfl | exact .inr rfl) (pe_ix ix_seq (pv 0) pe_int (fun _ _ => rfl)))
 (pss_cons (ps_nput hr.units (pv 3) (pv 1) (pe_callB call_lenU rfl T.b_len (by decide +kernel) (pa_cons (pe_ix ix_seq (pv 0) pe_int (fun _ _ => rfl)) pa_nil)) rfl)
 (pss_cons (ps_expr (pe_bm PySem.F.plainAttrs_list PySem.F.slot_list_append PySem.F.type_list_append mt_append (pe_ix ix_seq (pv 0) pe_int (fun _ _ => rfl)) (pa_cons (pv 1) pa_nil)))
 (pss_one (ps_expr (pe_bm PySem.F.plainAttrs_list PySem.F.slot_list_append PySem.F.type_list_append mt_append (pe_ix ix_seq (pv 0) pe_int (fun _ _ => rfl)) (pa_cons (pv 2) pa_nil))))))) pss_nil)
 (pss_one (ps_ret (pe_nget hr.units (pe_ix ix_seq (pv 0) pe_int (fun _ _ => rfl)) (pv 1) (fun _ _ => rfl)))))
, ?_⟩
  try dsimp only [cxOf, Cx.nox, Cx.wish]
  rintro R Z _ _ P Q ⟨s, r, d, h, rs, hs, row, z, rfl, rfl, hl, hz, hP⟩ hq
  show Cont K R Z _ [some (.ref s), some row.d, some (.int z), none] [(s, .lst [.ref r, .ref d, .ref h]), (r, .lst (rs.map Row.d)), (d, .dn w (kvF 0 rs)), (h, .lst (hs.map .int))]
  have g0 : atI [D.ref r, .ref d, .ref h] 0 = some (.ref r) := rfl
  have g1 : atI [D.ref r, .ref d, .ref h] 1 = some (.ref d) := rfl
  have g2 : atI [D.ref r, .ref d, .ref h] 2 = some (.ref h) := rfl
  walk_at "sq"
  refine' c_if (b := !(dnGet (kvF 0 rs) row.d).isSome) ?hc (fun hb => ?_) (fun hb => ?_)
  case hc =>
    refine' et_B (ev_nnotin _ ?hn ?h1 ?h2 row.tup row.ok row.dep)
    case h1 => walk_at "ev"
    case h2 => walk_at "ev"
    case hn => walk_at "look"
  · have hn : dnGet (kvF 0 rs) row.d = none ∧ row ∉ rs := by
      rcases dn_kv row 0 rs with q | ⟨j, q, _⟩
      · exact q
      · rw [q] at hb; simp at hb
    walk_at "sq"
    walk_at "set"
    walk_at "sq"
    refine' c_nput _ ?hn ?hv ?hd ?hx row.tup row.ok row.dep hn.1 ?hl ?hq
    case hd => walk_at "ev"
    case hv => walk_at "ev"
    case hx => walk_at "ev"
    case hn => walk_at "look"
    case hl => rw [kvF_length]; exact small_lt (by omega)
    walk_at "sq"
    walk_at "app"
    walk_at "sq"
    walk_at "app"
    have hP' := hP rs.length (rs ++ [row]) (hs ++ [z]) ⟨by simp, .inr ⟨hn.2, rfl⟩⟩ (by simp [hl])
    walk_at "sq"
    refine' c_ret hq (d := .int (rs.length : Nat)) ?h1 ?h2
    case h1 =>
      refine' ev_nget _ ?bn ?b1 ?b2 row.tup row.ok row.dep ?b3
      case b1 => walk_at "ev"
      case b2 => walk_at "ev"
      case bn => walk_at "look"
      case b3 =>
        have e := kvF_snoc row 0 rs
        simp only [List.length_map, Nat.zero_add] at e ⊢
        rw [← e]
        rcases dn_kv row 0 (rs ++ [row]) with ⟨_, q⟩ | ⟨j, q, q2⟩
        · simp at q
        · rw [q, Nat.zero_add]
          have : j = rs.length := by
            by_cases hj : j < rs.length
            · rw [List.getElem?_append_left hj] at q2
              exact absurd (List.mem_of_getElem? q2) hn.2
            · have := (List.getElem?_eq_some_iff.mp q2).1
              simp at this; omega
          rw [this]
    have e := kvF_snoc row 0 rs
    simp only [List.length_map, Nat.zero_add] at e ⊢
    simpa [StoreL, e] using hP'
  · walk_at "sq"
    rcases dn_kv row 0 rs with ⟨q, _⟩ | ⟨j, q, q2⟩
    · rw [q] at hb; simp at hb
    rw [Nat.zero_add] at q
    refine' c_ret hq (d := .int (j : Nat)) ?h1 (hP j rs hs ⟨q2, .inl rfl⟩ hl)
    refine' ev_nget _ ?bn ?b1 ?b2 row.tup row.ok row.dep q
    case b1 => walk_at "ev"
    case b2 => walk_at "ev"
    case bn => walk_at "look"
theorem ok_thing (F : Def K mg "_law_thing" s_l_thing) (T : Txt mg) (C__law_put : Cal P w K mg base "_law_put" 1 ["store", "row", "height"] (SpG K (c_put w))) : Cal P w K mg base "_law_thing" 2 ["store", "thing"] (SpG K (c_thing w)) := by
  refine F.cal sc_l_thing (fun _ _ _ _ _ _ us hl => match us, hl with | [_, _], _ => rfl) (fun ds Γ P h => ?_) (fun f cdv A outer s H E hr => ?_)
  · obtain ⟨_, _, _, _, _, _, _, rfl, _⟩ := h; rfl
  refine ⟨_, (pss_one (ps_ret (pe_cal C__law_put hr (pa_cons (pv 0) (pa_cons (pe_tup (pa_cons pe_str (pa_cons (pv 1) pa_nil))) (pa_cons pe_int pa_nil))))))
, ?_⟩
  try dsimp only [cxOf, Cx.nox, Cx.wish]
  rintro R Z _ _ P Q ⟨s, r, d, h, rs, hs, p, rfl, rfl, hl, hz, hP⟩ hq
  show Cont K R Z _ [some (.ref s), some (.str p)] (StoreL w s r d h rs hs ++ [])
  refine' c_retCall (ds := [.ref s, .tup [.str "thing", .str p], .int 0]) hq _ ?b1 ⟨s, r, d, h, rs, hs, .thing p, 0, rfl, rfl, hl, hz, fun n rs' hs' h1 h2 => ?_⟩
  case b1 => walk_at "ev"
  show P _ (StoreL w s r d h rs' hs' ++ [])
  rw [List.append_nil]
  exact hP n rs' hs' h1 h2
theorem ok_store (F : Def K mg "_law_store" s_l_store) (T : Txt mg) : Cal P w K mg base "_law_store" 1 [] (SpG K (c_store w)) := by
  refine F.cal sc_l_store (fun _ _ _ _ _ _ us hl => match us, hl with | [], _ => rfl) (fun ds Γ P h => ?_) (fun f cdv A outer s H E hr => ?_)
  · obtain ⟨rfl, _⟩ := h; rfl
  refine ⟨_, (pss_one (ps_ret (pe_lst (pa_cons (pe_lst pa_nil) (pa_cons pe_dnewN (pa_cons (pe_lst pa_nil) pa_nil))))))
, ?_⟩
  try dsimp only [cxOf, Cx.nox, Cx.wish]
  rintro R Z _ _ P Q ⟨rfl, rfl, hP⟩ hq
  show Cont K R Z _ [] []
  intro B H σ w1
  refine ⟨by decide, fun r hr => ?_⟩
  have w2 := w1.own (m := .lst []) (Ext.new hr) hr rfl ⟨[], upd_same, .nil⟩
  intro d hd
  have w3 := w2.own (m := .dn w []) (Ext.new hd) hd rfl ⟨[], upd_same, .nil⟩
  refine ⟨by decide, fun h hh => ?_⟩
  have w4 := w3.own (m := .lst []) (Ext.new hh) hh rfl ⟨[], upd_same, .nil⟩
  refine ⟨small_sz (by simp), fun s hs => ?_⟩
  have w5 := w4.own (m := .lst [.ref r, .ref d, .ref h]) (Ext.new hs) hs rfl ⟨[.ref r, .ref d, .ref h], upd_same, .cons (.ref _) (.cons (.ref _) (.cons (.ref _) .nil))⟩
  refine hq _ _ _ B _ (hP s r d h) (w5.led (fun x hx => ?_) ?_).nos (.ref s)
  · simp only [StoreL, List.map_nil, kvF, List.mem_cons, List.not_mem_nil, or_false] at hx
    rcases hx with rfl | rfl | rfl | rfl <;> simp
  · refine (fps_perm ?_).nodup_iff.mp w5.nd
    show List.Perm [_, _, _, _] [_, _, _, _]
    refine List.Perm.cons _ ?_
    refine (List.Perm.swap _ _ _).trans ?_
    refine ((List.Perm.swap _ _ _).cons _).trans ?_
    exact List.Perm.swap _ _ _
theorem ok_deed (F : Def K mg "_law_deed" s_l_deed) (T : Txt mg) (C__law_put : Cal P w K mg base "_law_put" 1 ["store", "row", "height"] (SpG K (c_put w))) : Cal P w K mg base "_law_deed" 2 ["store", "name", "parts"] (SpG K (c_deed w)) := by
  refine F.cal sc_l_deed (fun _ _ _ _ _ _ us hl => match us, hl with | [_, _, _], _ => rfl) (fun ds Γ P h => ?_) (fun f cdv A outer s H E hr => ?_)
  · obtain ⟨_, _, _, _, _, _, _, _, rfl, _⟩ := h; rfl
  refine ⟨_, (pss_cons (ps_set (i := 3) sc_l_deed.nd rfl (by first | exact .inl rfl | exact .inr rfl) pe_int)
 (pss_cons (ps_for PassesOwn.never rfl (pi_seq (pv 2)) (pg_name (i := 4) sc_l_deed.nd rfl (by first | exact .inl rfl | exact .inr rfl)) (pss_one (ps_set (i := 3) sc_l_deed.nd rfl (by first | exact .inl rfl | exact .inr rfl) (pe_callB (call_max22 rfl) rfl T.b_max (by decide +kernel) (pa_cons (pv 3) (pa_cons (pe_op op_addU (pe_ix ix_seq (pe_ix ix_seq (pv 0) pe_int (fun _ _ => rfl)) (pv 4) (fun _ _ => rfl)) pe_int) pa_nil))))))
 (pss_one (ps_ret (pe_cal C__law_put hr (pa_cons (pv 0) (pa_cons (pe_tup (pa_cons pe_str (pa_cons (pv 1) (pa_cons (pe_callTy call_tupOf rfl T.b_tuple (by decide +kernel) (pa_cons (pv 2) pa_nil)) pa_nil)))) (pa_cons (pv 3) pa_nil))))))))
, ?_⟩
  try dsimp only [cxOf, Cx.nox, Cx.wish]
  rintro R Z _ _ P Q ⟨s, r, d, h, rs, hs, n, ks, rfl, rfl, hl, hz, hk, hk2, hP⟩ hq
  show Cont K R Z _ [some (.ref s), some (.str n), some (.lst (ks.map fun k => D.int (k : Nat))), none, none] (StoreL w s r d h rs hs)
  have g2 : atI [D.ref r, .ref d, .ref h] 2 = some (.ref h) := rfl
  walk_at "sq"
  walk_at "set"
  walk_at "sq"
  refine c_for' (fun i E Γ => ∃ (z : Int) (o : Option D), E = [some (.ref s), some (.str n), some (.lst (ks.map fun k => D.int (k : Nat))), some (.int z), o] ∧ Γ = StoreL w s r d h rs hs) (by walk_at "it") ⟨0, none, rfl, rfl⟩ ?_ ?_
  · rintro nx e hf hn i x _ _ hd ⟨z, o, rfl, rfl⟩
    obtain ⟨k, rfl, hks⟩ : ∃ k : Nat, x = .int k ∧ k ∈ ks := by
      have := List.mem_of_getElem? hd
      simp at this
      obtain ⟨k, h1, rfl⟩ := this
      exact ⟨k, rfl, h1⟩
    have hkr := hk2 k hks
    have ha : atI (hs.map D.int) (k : Nat) = some (.int hs[k]) := atI_nat (by rw [List.getElem?_map, List.getElem?_eq_getElem (by omega)]; rfl)
    refine ⟨_, tg_name, ?_⟩
    unfold StoreL
    walk_at "set"
    exact hn _ _ _ ⟨_, _, rfl, rfl⟩
  · rintro _ _ ⟨z, o, rfl, rfl⟩
    walk_at "sq"
    have e0 : StoreL w s r d h rs hs = StoreL w s r d h rs hs ++ [] := by simp
    rw [e0]
    refine' c_retCall (ds := [.ref s, .tup [.str "deed", .str n, .tup (ks.map fun k => D.int (k : Nat))], .int z]) hq _ ?b1 ⟨s, r, d, h, rs, hs, .deed n ks, z, rfl, rfl, hl, hz, fun n rs' hs' h1 h2 => ?_⟩
    case b1 => walk_at "ev"
    show P _ (StoreL w s r d h rs' hs' ++ [])
    rw [List.append_nil]
    exact hP n rs' hs' h1 h2
end
end W63
set_option Elab.async false
set_option linter.all false
set_option maxRecDepth 100000
set_option maxHeartbeats 4000000
namespace W63
open PySem PySem.Spec PyProof.Rows L2 DL
/-! steps of the walk by data -/
local macro_rules | `(tactic| walk_at "side") => `(tactic| first | (with_reducible show D) | (with_reducible show Int) | (with_reducible show Nat) | (with_reducible show List _) | (with_reducible show Bool) | (with_reducible show Str) | (with_reducible show Option _) | (with_reducible show Addr) | (with_reducible show MO) | (with_reducible show Key) | with_reducible rfl | assumption | omega | (with_reducible exact atI0) | (with_reducible exact atI1) | (with_reducible exact atI2) | (with_reducible exact atI3) | ((with_reducible refine' cdiv ?_ ?_) <;> omega) | ((with_reducible refine' cmulR ?_ ?_) <;> omega) | ((with_reducible refine' cmulL ?_ ?_) <;> omega) | ((with_reducible refine' cpow ?_ ?_ ?_) <;> decide) | ((with_reducible refine' small_sz ?_) <;> first | assumption | omega | decide | (simp only [List.length_map, List.length_append, List.length_cons, List.length_nil, List.length_set] <;> omega)) | ((with_reducible refine' small_lt ?_) <;> first | assumption | omega | decide | (simp only [List.length_map, List.length_append, List.length_cons, List.length_nil, List.length_set] <;> omega)) | (show (0 : Int) < _; omega) | decide | skip)
local macro_rules | `(tactic| walk_at "look") => `(tactic| first | (with_reducible exact look0) | (with_reducible exact look1) | (with_reducible exact look2) | (with_reducible exact look3) | (with_reducible exact look4) | (with_reducible exact look5) | (with_reducible exact look6) | (with_reducible exact look7) | (with_reducible exact look8) | (with_reducible exact look9) | (with_reducible exact look10))
local macro_rules | `(tactic| walk_at "ev") => `(tactic| first
  | (with_reducible show D) | (with_reducible show Int) | (with_reducible show Nat) | (with_reducible show List _) | (with_reducible show Bool) | (with_reducible show Str) | (with_reducible show Option _) | (with_reducible show Addr) | (with_reducible show MO) | (with_reducible show Key)
  | ((with_reducible refine' ev_var ?_) <;> first | (with_reducible show D) | rfl)
  | (with_reducible exact ev_int)
  | (with_reducible exact ev_str)
  | (with_reducible exact ev_bl)
  | (with_reducible exact ev_non)
  | ((with_reducible refine' ev_op ?_ ?_ ?_) <;> walk_at "ev")
  | ((with_reducible refine' en_op ?_ ?_ ?_) <;> walk_at "ev")
  | ((with_reducible refine' ev_tup ?_ ?_) <;> walk_at "ev")
  | ((with_reducible refine' en_lst ?_ ?_) <;> walk_at "ev")
  | (with_reducible exact en_dk)
  | (with_reducible exact en_dn)
  | ((with_reducible refine' ev_cb ?_ ?_) <;> walk_at "ev")
  | ((with_reducible refine' en_cb ?_ ?_) <;> walk_at "ev")
  | (with_reducible exact ea_nil)
  | ((with_reducible refine' ea_cons ?_ ?_) <;> walk_at "ev")
  | ((with_reducible refine' ev_neg ?_) <;> walk_at "ev")
  | ((with_reducible refine' ev_slS ?_ ?_ ?_ ?_) <;> walk_at "ev")
  | ((with_reducible refine' ev_slT ?_ ?_ ?_) <;> walk_at "ev")
  | ((with_reducible refine' en_slL ?_ ?_ ?_) <;> walk_at "ev")
  | ((with_reducible refine' en_slO ?hn ?ha ?hl ?hh); (case ha => walk_at "ev"); (case hn => walk_at "look"); (case hl => walk_at "ev"); (case hh => walk_at "ev"))
  | (with_reducible exact eo_none)
  | ((with_reducible refine' eo_some ?_) <;> walk_at "ev")
  | ((with_reducible refine' et_test ?_) <;> walk_at "ev")
  | ((with_reducible refine' et_B ?_) <;> walk_at "ev")
  | ((with_reducible refine' et_not ?_) <;> walk_at "ev")
  | (with_reducible exact rv_II)
  | (with_reducible exact rv_IB)
  | (with_reducible exact ru_addI)
  | (with_reducible exact ru_eqI)
  | (with_reducible exact ru_neI)
  | (with_reducible exact ru_eqS)
  | (with_reducible exact ru_neS)
  | ((with_reducible refine' rv_IC ?_) <;> walk_at "side")
  | ((with_reducible refine' ru_mulI ?_) <;> walk_at "side")
  | ((with_reducible refine' ru_mulS ?_ ?_ ?_) <;> walk_at "side")
  | ((with_reducible refine' ru_addS ?_) <;> walk_at "side")
  | ((with_reducible refine' ru_addT ?_) <;> walk_at "side")
  | ((with_reducible refine' rv_ixT ?_) <;> walk_at "side")
  | ((with_reducible refine' rv_ixL ?_) <;> walk_at "side")
  | ((with_reducible refine' rv_ixF ?_) <;> walk_at "side")
  | ((with_reducible refine' rv_ixS ?_ ?_) <;> walk_at "side")
  | ((with_reducible refine' rv_ixO ?hn ?ha); (case hn => walk_at "look"); (case ha => walk_at "side"))
  | (with_reducible exact rc_int)
  | (with_reducible exact rc_intb)
  | (with_reducible exact rc_max2)
  | (with_reducible exact rc_min2)
  | (with_reducible exact rc_tupL)
  | (with_reducible exact rc_tupT)
  | (with_reducible exact rc_lenK)
  | (with_reducible exact rc_lenT)
  | (with_reducible exact rc_lenL)
  | (with_reducible exact rc_lenF)
  | (with_reducible exact rcn_listL)
  | (with_reducible exact rcn_listT)
  | ((with_reducible refine' rc_lenS ?_) <;> walk_at "side")
  | ((with_reducible refine' rc_lenO ?hn); (case hn => walk_at "look"))
  | ((with_reducible refine' rc_lenOK ?hn); (case hn => walk_at "look"))
  | ((with_reducible refine' rc_tupO ?hn); (case hn => walk_at "look"))
  | ((with_reducible refine' rcn_listO ?hn); (case hn => walk_at "look"))
  | ((with_reducible refine' rcn_listK ?hn); (case hn => walk_at "look"))
  | ((with_reducible refine' rv_ixIn ?hn ?hq ?hd ?ha); (case hn => walk_at "look"); (case hq => assumption); (case hd => assumption); (case ha => walk_at "side"))
  | ((with_reducible refine' rv_ixLL ?hn ?ha); (case hn => walk_at "look"); (case ha => walk_at "side"))
  | ((with_reducible refine' et_truLL ?hn ?ha); (case ha => walk_at "ev"); (case hn => walk_at "look"))
  | ((with_reducible refine' et_truO ?hn ?ha); (case ha => walk_at "ev"); (case hn => walk_at "look"))
  | ((with_reducible refine' et_in _ ?hn ?hx ?hd ?hk); (case hd => walk_at "ev"); (case hx => walk_at "ev"); (case hn => walk_at "look"); (case hk => first | exact dkI | exact dkS))
  | ((with_reducible refine' et_notin _ ?hn ?hx ?hd ?hk); (case hd => walk_at "ev"); (case hx => walk_at "ev"); (case hn => walk_at "look"); (case hk => first | exact dkI | exact dkS))
  | ((with_reducible refine' ev_dget _ ?hn ?hd ?hx ?hk ?hg); (case hd => walk_at "ev"); (case hx => walk_at "ev"); (case hn => walk_at "look"); (case hk => first | exact dkI | exact dkS); (case hg => walk_at "side"))
  | ((with_reducible refine' ev_frzL ?_) <;> walk_at "ev")
  | walk_at "side")
local macro_rules | `(tactic| walk_at "sq") => `(tactic| ((try (refine c_next ?_)); (try (refine c_seq ?_)); try dsimp only [List.set]))
local macro_rules | `(tactic| walk_at "set") => `(tactic| ((refine' c_set ?h1 ?h2); (case h1 => walk_at "ev")))
local macro_rules | `(tactic| walk_at "app") => `(tactic| ((refine' c_append _ ?hn ?ha ?hx ?hl ?hq); (case ha => walk_at "ev"); (case hx => walk_at "ev"); (case hn => walk_at "look"); (case hl => walk_at "side")))
local macro_rules | `(tactic| walk_at "fld") => `(tactic| ((refine' c_fld _ ?hn ?hv ?ha ?hc ?hf ?hl ?hq); (case ha => walk_at "ev"); (case hv => walk_at "ev"); (case hn => walk_at "look"); (case hc => assumption); (case hf => assumption); (case hl => decide)))
local macro_rules | `(tactic| walk_at "it") => `(tactic| first
  | (refine' ei_tup ?h1; (case h1 => walk_at "ev"))
  | (refine' ei_lst ?h1; (case h1 => walk_at "ev"))
  | (refine' ei_fz ?h1; (case h1 => walk_at "ev"))
  | (refine' ei_range ?h1 ?h2 ?h3; (case h1 => walk_at "ev"); (case h2 => first | omega | (simp <;> omega)); (case h3 => first | omega | (simp <;> omega))))
local macro_rules | `(tactic| walk_at "if") => `(tactic| ((refine' c_if ?hc ?ht ?he); (case hc => walk_at "ev")))
local macro_rules | `(tactic| walk_at "ret") => `(tactic| ((try (refine c_next ?_)); (try dsimp only [List.set]); (refine' c_ret (by assumption) ?h1 ?h2); (case h1 => walk_at "ev")))
local macro_rules | `(tactic| walk_at "dput") => `(tactic| ((refine' c_dput _ ?hn ?hv ?hd ?hx ?hk ?hl ?hq); (case hd => walk_at "ev"); (case hv => walk_at "ev"); (case hx => walk_at "ev"); (case hn => walk_at "look"); (case hk => first | exact dkI | exact dkS); (case hl => walk_at "side")))
local macro_rules | `(tactic| walk_at "popLL") => `(tactic| ((refine' c_popLL _ ?hn ?ha ?hz ?hq); (case ha => walk_at "ev"); (case hn => walk_at "look"); (case hz => walk_at "side")))
local macro_rules | `(tactic| walk_at "evt") => `(tactic| ((refine' et_is ?h1 ?h2); (case h1 => walk_at "ev"); (case h2 => first | rfl | decide | (simp <;> omega) | assumption)))

abbrev s_l_within : Stmt := topS 20
abbrev n_l_within : List Str := ["store", "number", "order", "done", "waiting", "turn", "top", "row"]
theorem sc_l_within : FnScope n_l_within ["store", "number"] (defScope s_l_within) := ⟨rfl, rfl, rfl, by decide +kernel, rfl, by decide +kernel, by decide +kernel⟩
/-- the pile, its top behind -/
def pileD (S : List (Nat × Nat)) : List (List D) := S.reverse.map fun p => [D.int (p.1 : Nat), D.int (p.2 : Nat)]
def keysN (o : List Nat) : List Key := o.map fun k => .inl (k : Nat)
def ones (o : List Nat) : List D := o.map fun _ => D.bl true
theorem mem_keysN {o : List Nat} {k : Nat} : (Sum.inl (k : Int) : Key) ∈ keysN o ↔ k ∈ o := by
  unfold keysN
  rw [List.mem_map]
  refine ⟨fun ⟨a, h, e⟩ => ?_, fun h => ⟨k, h, rfl⟩⟩
  have : (a : Int) = k := Sum.inl.inj e
  have : a = k := by omega
  exact this ▸ h
theorem pile_last (x i : Nat) (S : List (Nat × Nat)) : pileD ((x, i) :: S) = pileD S ++ [[D.int (x : Nat), D.int (i : Nat)]] := by simp [pileD]
theorem pile_drop (x i : Nat) (S : List (Nat × Nat)) : (pileD ((x, i) :: S)).dropLast = pileD S := by rw [pile_last, List.dropLast_concat]
theorem pile_len (S : List (Nat × Nat)) : (pileD S).length = S.length := by simp [pileD]
theorem keys_snoc {o : List Nat} {x : Nat} (h : x ∉ o) : kPutK (keysN o) (.inl (x : Nat)) = keysN (o ++ [x]) := by
  unfold kPutK
  rw [if_neg (fun z => h (mem_keysN.mp z))]
  simp [keysN]
theorem ones_snoc {o : List Nat} {x : Nat} (h : x ∉ o) : kPutV (keysN o) (ones o) (.inl (x : Nat)) (.bl true) = ones (o ++ [x]) := by
  rw [kPutV_out (by simp [keysN, ones]) (fun z => h (mem_keysN.mp z))]
  simp [ones]
def c_within (w : World) : List D → Led → (D → Led → Prop) → Prop := fun ds Γ P => ∃ s r d h rs hs, ∃ k : Nat, ds = [.ref s, .int (k : Nat)] ∧ Γ = StoreL w s r d h rs hs ∧ Wf rs ∧ Few rs ∧ rs.length ≤ 1000 ∧ k < rs.length ∧
  ∀ p (o : List Nat), Post rs o → o.Nodup → o.getLast? = some k → P (.ref p) ((p, .lst (o.map fun k => D.int (k : Nat))) :: StoreL w s r d h rs hs)
section
variable {P : Program} {w : World} {K : PySem.W.Frag} {mg : Str → Option Value} {base : Heap}
theorem ok_within (F : Def K mg "_law_within" s_l_within) (T : Txt mg) : Cal P w K mg base "_law_within" 1 ["store", "number"] (SpG K (c_within w)) := by
  refine F.cal sc_l_within (fun _ _ _ _ _ _ us hl => match us, hl with | [_, _], _ => rfl) (fun ds Γ P h => ?_) (fun f cdv A outer s H E hr => ?_)
  · obtain ⟨_, _, _, _, _, _, _, rfl, _⟩ := h; rfl
  have hu := hu_of hr
  refine ⟨_, (pss_cons (ps_set (i := 2) sc_l_within.nd rfl (by first | exact .inl rfl | exact .inr rfl) (pe_lst pa_nil))
 (pss_cons (ps_set (i := 3) sc_l_within.nd rfl (by first | exact .inl rfl | exact .inr rfl) pe_dnewK)
 (pss_cons (ps_set (i := 4) sc_l_within.nd rfl (by first | exact .inl rfl | exact .inr rfl) (pe_lst (pa_cons (pe_lst (pa_cons (pv 1) (pa_cons pe_int pa_nil))) pa_nil)))
 (pss_cons (ps_for PassesOwn.never rfl (pi_range1 rfl T.b_range (pa_cons (pe_op op_addU (pe_op op_mulU pe_int (pe_callB call_lenU rfl T.b_len (by decide +kernel) (pa_cons (pe_ix ix_seq (pv 0) pe_int (fun _ _ => rfl)) pa_nil))) pe_int) pa_nil)) (pg_name (i := 5) sc_l_within.nd rfl (by first | exact .inl rfl | exact .inr rfl)) (pss_cons (ps_if (pt_not (pt_tru (pv 4))) (pss_one ps_break) pss_nil)
 (pss_cons (ps_set (i := 6) sc_l_within.nd rfl (by first | exact .inl rfl | exact .inr rfl) (pe_ix ix_seq (pv 4) (pe_un un_neg pe_int) (fun _ _ => rfl)))
 (pss_cons (ps_set (i := 7) sc_l_within.nd rfl (by first | exact .inl rfl | exact .inr rfl) (pe_ix ix_seq (pe_ix ix_seq (pv 0) pe_int (fun _ _ => rfl)) (pe_ix ix_seq (pv 6) pe_int (fun _ _ => rfl)) (fun _ _ => rfl)))
 (pss_one (ps_if (pt_cmp (pc_din hu (pe_ix ix_seq (pv 6) pe_int (fun _ _ => rfl)) (pv 3))) (pss_one (ps_expr (pe_bm0 PySem.F.plainAttrs_list PySem.F.slot_list_pop PySem.F.type_list_pop mt_pop (pv 4)))) (pss_one (ps_if (PW.pt (pw_or (pt_cmpR (op_eqU hr.units) (pe_ix ix_seq (pv 7) pe_int (fun _ _ => rfl)) pe_str (nomark _)) (pw_or1 (pt_cmpR (op_eqU hr.units) (pe_ix ix_seq (pv 6) pe_int (fun _ _ => rfl)) (pe_callB call_lenU rfl T.b_len (by decide +kernel) (pa_cons (pe_ix ix_seq (pv 7) pe_int (fun _ _ => rfl)) pa_nil)) (nomark _))))) (pss_cons (ps_dput hu (pv 3) (pe_ix ix_seq (pv 6) pe_int (fun _ _ => rfl)) pe_bl rfl)
 (pss_cons (ps_expr (pe_bm PySem.F.plainAttrs_list PySem.F.slot_list_append PySem.F.type_list_append mt_append (pv 2) (pa_cons (pe_ix ix_seq (pv 6) pe_int (fun _ _ => rfl)) pa_nil)))
 (pss_one (ps_expr (pe_bm0 PySem.F.plainAttrs_list PySem.F.slot_list_pop PySem.F.type_list_pop mt_pop (pv 4)))))) (pss_cons (ps_asg (pe_op op_addU (pe_ix ix_seq (pv 6) pe_int (fun _ _ => rfl)) pe_int) (pg_sub (pv 6) pe_int set_list))
 (pss_one (ps_expr (pe_bm PySem.F.plainAttrs_list PySem.F.slot_list_append PySem.F.type_list_append mt_append (pv 4) (pa_cons (pe_lst (pa_cons (pe_ix ix_seq (pe_ix ix_seq (pv 7) pe_int (fun _ _ => rfl)) (pe_op op_sub (pe_ix ix_seq (pv 6) pe_int (fun _ _ => rfl)) pe_int) (fun _ _ => rfl)) (pa_cons pe_int pa_nil))) pa_nil)))))))))))))
 (pss_one (ps_ret (pv 2)))))))
, ?_⟩
  try dsimp only [cxOf, Cx.nox, Cx.wish]
  rintro R Z _ _ P Q ⟨s, r, d, h, rs, hs, k, rfl, rfl, hw, hf, hz, hk, hP⟩ hq
  show Cont K R Z _ [some (.ref s), some (.int (k : Nat)), none, none, none, none, none, none] _
  unfold StoreL
  have g0 : atI [D.ref r, .ref d, .ref h] 0 = some (.ref r) := rfl
  walk_at "sq"
  refine c_setN (m := .lst []) (by walk_at "ev") fun po _ => ?_
  walk_at "sq"
  refine c_setN (m := .dk [] []) (by walk_at "ev") fun pd _ => ?_
  walk_at "sq"
  refine c_setLL1 (ds := [.int (k : Nat), .int 0]) (by walk_at "ev") (small_sz (by simp)) fun pw qw => ?_
  walk_at "sq"
  refine c_for (fun t E Γ => ∃ o S qs x5 x6 x7, E = [some (.ref s), some (.int (k : Nat)), some (.ref po), some (.ref pd), some (.ref pw), x5, x6, x7] ∧ qs.length = S.length ∧
      Γ = [(pw, .ll qs (pileD S)), (pd, .dk (keysN o) (ones o)), (po, .lst (o.map fun k => D.int (k : Nat))), (s, .lst [.ref r, .ref d, .ref h]), (r, .lst (rs.map Row.d)), (d, .dn w (kvF 0 rs)), (h, .lst (hs.map .int))] ∧ WInv rs k t o S ∧ o.length ≤ 1000)
    (fun E Γ => ∃ o S qs x5 x6 x7, E = [some (.ref s), some (.int (k : Nat)), some (.ref po), some (.ref pd), some (.ref pw), x5, x6, x7] ∧ qs.length = S.length ∧
      Γ = [(pw, .ll qs (pileD S)), (pd, .dk (keysN o) (ones o)), (po, .lst (o.map fun k => D.int (k : Nat))), (s, .lst [.ref r, .ref d, .ref h]), (r, .lst (rs.map Row.d)), (d, .dn w (kvF 0 rs)), (h, .lst (hs.map .int))] ∧ Post rs o ∧ o.Nodup ∧ o.getLast? = some k)
    (by walk_at "it") ⟨[], [(k, 0)], [qw], none, none, none, rfl, rfl, rfl, WInv.start hf hk, Nat.zero_le _⟩ ?_ ?_ ?_
  · rintro nx e he hn hb t x _ _ hd ⟨o, S, qs, x5, x6, x7, rfl, hql, rfl, I, ho⟩
    obtain ⟨rfl, ht⟩ := rngD_get hd
    refine ⟨_, tg_name, ?_⟩
    walk_at "sq"
    walk_at "if"
    · intro h0
      have hS : S = [] := by
        cases S with
        | nil => rfl
        | cons p S => simp [pileD] at h0
      subst hS
      walk_at "sq"
      exact hb _ _ ⟨o, [], qs, _, x6, x7, rfl, hql, rfl, I.post, I.nd, I.bot.1 rfl⟩
    · intro h0
      obtain ⟨⟨x, i⟩, S, rfl⟩ : ∃ p S', S = p :: S' := by
        cases S with
        | nil => simp [pileD] at h0
        | cons p S => exact ⟨p, S, rfl⟩
      obtain ⟨hx, t2, t3, t4⟩ := I.top x i S rfl
      obtain ⟨q0, q, rfl⟩ : ∃ q0 q, qs = q0 ++ [q] := by
        rcases List.eq_nil_or_concat qs with e | ⟨a, b, e⟩
        · subst e; simp at hql
        · exact ⟨a, b, by rw [e]; simp⟩
      have hq0 : q0.length = S.length := by simpa using hql
      have hl1 : atI (q0 ++ [q]) (-1) = some q := atI_last _ _
      have hq1 : (q0 ++ [q])[S.length]? = some q := by rw [List.getElem?_append_right (by omega)]; simp [hq0]
      have hd1 : (pileD S ++ [[D.int (x : Nat), D.int (i : Nat)]])[S.length]? = some [D.int (x : Nat), D.int (i : Nat)] := by rw [List.getElem?_append_right (by rw [pile_len]; omega)]; simp [pile_len]
      have hrx := List.getElem?_eq_getElem hx
      have hrow : atI (rs.map Row.d) (x : Nat) = some rs[x].d := atI_nat (by rw [List.getElem?_map, hrx]; rfl)
      have hkids : kids rs x = rs[x].ks := by unfold kids; rw [hrx]
      rw [pile_last]
      have hne : pileD S ++ [[D.int (x : Nat), D.int (i : Nat)]] ≠ [] := by simp
      walk_at "sq"
      walk_at "sq"
      walk_at "set"
      walk_at "sq"
      walk_at "set"
      walk_at "sq"
      walk_at "if"
      · intro h1
        have hxo : x ∈ o := by simpa [mem_keysN] using h1
        walk_at "popLL"
        refine hn _ _ _ ⟨o, S, q0, _, _, _, rfl, hq0, by simp [List.dropLast_concat], I.pop hw hxo, ho⟩
      · intro h1
        have hxo : x ∉ o := by simpa [mem_keysN] using h1
        have hol : o.length + 1 ≤ 1000 := by
          have h1 : (x :: o).Nodup := List.nodup_cons.mpr ⟨hxo, I.nd⟩
          have h2 := nodup_lt rs.length (x :: o) h1 fun y hy => by
            rcases List.mem_cons.mp hy with rfl | hy
            · exact hx
            · obtain ⟨j, hj⟩ := List.mem_iff_getElem?.mp hy
              exact (I.post j y hj).1
          simp only [List.length_cons] at h2
          omega
        have hok : (keysN o).length < sizeLine := by simp only [keysN, List.length_map]; exact small_lt (by omega)
        cases hrs : rs[x] with
        | thing pth =>
          have hki : i = (kids rs x).length := by rw [hkids, hrs] at t3 ⊢; simpa [Row.ks] using t3
          simp only [Row.d]
          walk_at "sq"
          refine' c_if (b := true) ?hc (fun _ => ?_) (fun z => by cases z)
          case hc => exact et_is (et_or (a := true) (b := true) (by walk_at "evt") (fun z => by cases z)) rfl
          walk_at "sq"
          walk_at "dput"
          walk_at "sq"
          walk_at "app"
          walk_at "sq"
          walk_at "popLL"
          walk_at "sq"
          rw [keys_snoc hxo, ones_snoc hxo]
          refine hn _ _ _ ⟨o ++ [x], S, q0, _, _, _, rfl, hq0, by simp [List.dropLast_concat], I.fin hw hxo hki, by simpa using hol⟩
        | deed nm ks =>
          rw [hkids, hrs] at t3
          simp only [Row.ks] at t3
          simp only [Row.d]
          walk_at "sq"
          by_cases hki : i = ks.length
          · refine' c_if (b := true) ?hc (fun _ => ?_) (fun z => by cases z)
            case hc => exact et_is (et_or (a := false) (b := true) (by walk_at "evt") (fun _ => by walk_at "evt")) rfl
            walk_at "sq"
            walk_at "dput"
            walk_at "sq"
            walk_at "app"
            walk_at "sq"
            walk_at "popLL"
            walk_at "sq"
            rw [keys_snoc hxo, ones_snoc hxo]
            refine hn _ _ _ ⟨o ++ [x], S, q0, _, _, _, rfl, hq0, by simp [List.dropLast_concat], I.fin hw hxo (by rw [hkids, hrs]; exact hki), by simpa using hol⟩
          · refine' c_if (b := false) ?hc (fun z => by cases z) (fun _ => ?_)
            case hc => exact et_is (et_or (a := false) (b := false) (by walk_at "evt") (fun _ => by walk_at "evt")) rfl
            have hil : i < ks.length := by omega
            have hy : (kids rs x)[i]? = some ks[i] := by rw [hkids, hrs]; exact List.getElem?_eq_getElem hil
            have hax : atI (ks.map fun k => D.int (k : Nat)) ((i : Int) + 1 - 1) = some (.int (ks[i] : Nat)) := atI_of (j := i) (by rw [List.getElem?_map, List.getElem?_eq_getElem hil]; rfl) (by omega)
            have es : (pileD S ++ [[D.int (x : Nat), D.int (i : Nat)]]).set S.length ([D.int (x : Nat), D.int (i : Nat)].set 1 (D.int ((i : Int) + 1))) = pileD S ++ [[D.int (x : Nat), D.int ((i : Int) + 1)]] := by
              rw [List.set_append_right _ _ (by rw [pile_len]; omega), pile_len]
              simp
            have hd2 : (pileD S ++ [[D.int (x : Nat), D.int ((i : Int) + 1)]])[S.length]? = some [D.int (x : Nat), D.int ((i : Int) + 1)] := by rw [List.getElem?_append_right (by rw [pile_len]; omega)]; simp [pile_len]
            walk_at "sq"
            walk_at "sq"
            refine' c_setIn _ ?hn hq1 hd1 ?hv ?ha ?hi (show ixN 2 (1 : Int) = some 1 from by decide) ?hk
            case ha => walk_at "ev"
            case hv => walk_at "ev"
            case hi => walk_at "ev"
            case hn => walk_at "look"
            rw [es]
            walk_at "sq"
            refine' c_appLL _ ?bn ?ba ?bx ?bl ?bk
            case ba => walk_at "ev"
            case bx => walk_at "ev"
            case bn => walk_at "look"
            case bl =>
              have hS := I.pot
              obtain ⟨rem, p1, _⟩ := hS
              simp only [List.length_cons] at p1
              simp only [List.length_append, pile_len, List.length_singleton]
              exact small_lt (by omega)
            intro q2
            refine hn _ _ _ ⟨o, (ks[i], 0) :: (x, i + 1) :: S, q0 ++ [q] ++ [q2], _, _, _, rfl, by simp [hq0], ?_, I.push hw hxo hy, ho⟩
            simp [pileD]
  · rintro _ _ ⟨o, S, qs, x5, x6, x7, rfl, hql, rfl, hp, hnd, hlast⟩
    refine Cont.sub (Γ' := (po, .lst (o.map fun k => D.int (k : Nat))) :: StoreL w s r d h rs hs) ?_ (((List.Sublist.refl _).cons _).cons _)
    walk_at "ret"
    exact hP po o hp hnd hlast
  · rintro _ _ ⟨o, S, qs, x5, x6, x7, rfl, hql, rfl, I, ho⟩
    exfalso
    refine I.over ?_
    rw [rngD_length]
    simp
    omega
end
end W63
set_option Elab.async false
set_option linter.all false
set_option maxRecDepth 100000
set_option maxHeartbeats 4000000
namespace W63
open PySem PySem.Spec PyProof.Rows L2 DL
/-! steps of the walk by data -/
local macro_rules | `(tactic| walk_at "side") => `(tactic| first | (with_reducible show D) | (with_reducible show Int) | (with_reducible show Nat) | (with_reducible show List _) | (with_reducible show Bool) | (with_reducible show Str) | (with_reducible show Option _) | (with_reducible show Addr) | (with_reducible show MO) | (with_reducible show Key) | with_reducible rfl | assumption | omega | (with_reducible exact atI0) | (with_reducible exact atI1) | (with_reducible exact atI2) | (with_reducible exact atI3) | ((with_reducible refine' cdiv ?_ ?_) <;> omega) | ((with_reducible refine' cmulR ?_ ?_) <;> omega) | ((with_reducible refine' cmulL ?_ ?_) <;> omega) | ((with_reducible refine' cpow ?_ ?_ ?_) <;> decide) | ((with_reducible refine' small_sz ?_) <;> first | assumption | omega | decide | (simp only [List.length_map, List.length_append, List.length_cons, List.length_nil, List.length_set] <;> omega)) | ((with_reducible refine' small_lt ?_) <;> first | assumption | omega | decide | (simp only [List.length_map, List.length_append, List.length_cons, List.length_nil, List.length_set] <;> omega)) | (show (0 : Int) < _; omega) | decide | skip)
local macro_rules | `(tactic| walk_at "look") => `(tactic| first | (with_reducible exact look0) | (with_reducible exact look1) | (with_reducible exact look2) | (with_reducible exact look3) | (with_reducible exact look4) | (with_reducible exact look5) | (with_reducible exact look6) | (with_reducible exact look7) | (with_reducible exact look8) | (with_reducible exact look9) | (with_reducible exact look10))
local macro_rules | `(tactic| walk_at "ev") => `(tactic| first
  | (with_reducible show D) | (with_reducible show Int) | (with_reducible show Nat) | (with_reducible show List _) | (with_reducible show Bool) | (with_reducible show Str) | (with_reducible show Option _) | (with_reducible show Addr) | (with_reducible show MO) | (with_reducible show Key)
  | ((with_reducible refine' ev_var ?_) <;> first | (with_reducible show D) | rfl)
  | (with_reducible exact ev_int)
  | (with_reducible exact ev_str)
  | (with_reducible exact ev_bl)
  | (with_reducible exact ev_non)
  | ((with_reducible refine' ev_op ?_ ?_ ?_) <;> walk_at "ev")
  | ((with_reducible refine' en_op ?_ ?_ ?_) <;> walk_at "ev")
  | ((with_reducible refine' ev_tup ?_ ?_) <;> walk_at "ev")
  | ((with_reducible refine' en_lst ?_ ?_) <;> walk_at "ev")
  | (with_reducible exact en_dk)
  | (with_reducible exact en_dn)
  | ((with_reducible refine' ev_cb ?_ ?_) <;> walk_at "ev")
  | ((with_reducible refine' en_cb ?_ ?_) <;> walk_at "ev")
  | (with_reducible exact ea_nil)
  | ((with_reducible refine' ea_cons ?_ ?_) <;> walk_at "ev")
  | ((with_reducible refine' ev_neg ?_) <;> walk_at "ev")
  | ((with_reducible refine' ev_slS ?_ ?_ ?_ ?_) <;> walk_at "ev")
  | ((with_reducible refine' ev_slT ?_ ?_ ?_) <;> walk_at "ev")
  | ((with_reducible refine' en_slL ?_ ?_ ?_) <;> walk_at "ev")
  | ((with_reducible refine' en_slO ?hn ?ha ?hl ?hh); (case ha => walk_at "ev"); (case hn => walk_at "look"); (case hl => walk_at "ev"); (case hh => walk_at "ev"))
  | (with_reducible exact eo_none)
  | ((with_reducible refine' eo_some ?_) <;> walk_at "ev")
  | ((with_reducible refine' et_test ?_) <;> walk_at "ev")
  | ((with_reducible refine' et_B ?_) <;> walk_at "ev")
  | ((with_reducible refine' et_not ?_) <;> walk_at "ev")
  | (with_reducible exact rv_II)
  | (with_reducible exact rv_IB)
  | (with_reducible exact ru_addI)
  | (with_reducible exact ru_eqI)
  | (with_reducible exact ru_neI)
  | (with_reducible exact ru_eqS)
  | (with_reducible exact ru_neS)
  | ((with_reducible refine' rv_IC ?_) <;> walk_at "side")
  | ((with_reducible refine' ru_mulI ?_) <;> walk_at "side")
  | ((with_reducible refine' ru_mulS ?_ ?_ ?_) <;> walk_at "side")
  | ((with_reducible refine' ru_addS ?_) <;> walk_at "side")
  | ((with_reducible refine' ru_addT ?_) <;> walk_at "side")
  | ((with_reducible refine' rv_ixT ?_) <;> walk_at "side")
  | ((with_reducible refine' rv_ixL ?_) <;> walk_at "side")
  | ((with_reducible refine' rv_ixF ?_) <;> walk_at "side")
  | ((with_reducible refine' rv_ixS ?_ ?_) <;> walk_at "side")
  | ((with_reducible refine' rv_ixO ?hn ?ha); (case hn => walk_at "look"); (case ha => walk_at "side"))
  | (with_reducible exact rc_int)
  | (with_reducible exact rc_intb)
  | (with_reducible exact rc_max2)
  | (with_reducible exact rc_min2)
  | (with_reducible exact rc_tupL)
  | (with_reducible exact rc_tupT)
  | (with_reducible exact rc_lenK)
  | (with_reducible exact rc_lenT)
  | (with_reducible exact rc_lenL)
  | (with_reducible exact rc_lenF)
  | (with_reducible exact rcn_listL)
  | (with_reducible exact rcn_listT)
  | ((with_reducible refine' rc_lenS ?_) <;> walk_at "side")
  | ((with_reducible refine' rc_lenO ?hn); (case hn => walk_at "look"))
  | ((with_reducible refine' rc_lenOK ?hn); (case hn => walk_at "look"))
  | ((with_reducible refine' rc_tupO ?hn); (case hn => walk_at "look"))
  | ((with_reducible refine' rcn_listO ?hn); (case hn => walk_at "look"))
  | ((with_reducible refine' rcn_listK ?hn); (case hn => walk_at "look"))
  | ((with_reducible refine' rv_ixIn ?hn ?hq ?hd ?ha); (case hn => walk_at "look"); (case hq => assumption); (case hd => assumption); (case ha => walk_at "side"))
  | ((with_reducible refine' rv_ixLL ?hn ?ha); (case hn => walk_at "look"); (case ha => walk_at "side"))
  | ((with_reducible refine' et_truLL ?hn ?ha); (case ha => walk_at "ev"); (case hn => walk_at "look"))
  | ((with_reducible refine' et_truO ?hn ?ha); (case ha => walk_at "ev"); (case hn => walk_at "look"))
  | ((with_reducible refine' et_in _ ?hn ?hx ?hd ?hk); (case hd => walk_at "ev"); (case hx => walk_at "ev"); (case hn => walk_at "look"); (case hk => first | exact dkI | exact dkS))
  | ((with_reducible refine' et_notin _ ?hn ?hx ?hd ?hk); (case hd => walk_at "ev"); (case hx => walk_at "ev"); (case hn => walk_at "look"); (case hk => first | exact dkI | exact dkS))
  | ((with_reducible refine' ev_dget _ ?hn ?hd ?hx ?hk ?hg); (case hd => walk_at "ev"); (case hx => walk_at "ev"); (case hn => walk_at "look"); (case hk => first | exact dkI | exact dkS); (case hg => walk_at "side"))
  | ((with_reducible refine' ev_frzL ?_) <;> walk_at "ev")
  | walk_at "side")
local macro_rules | `(tactic| walk_at "sq") => `(tactic| ((try (refine c_next ?_)); (try (refine c_seq ?_)); try dsimp only [List.set]))
local macro_rules | `(tactic| walk_at "set") => `(tactic| ((refine' c_set ?h1 ?h2); (case h1 => walk_at "ev")))
local macro_rules | `(tactic| walk_at "app") => `(tactic| ((refine' c_append _ ?hn ?ha ?hx ?hl ?hq); (case ha => walk_at "ev"); (case hx => walk_at "ev"); (case hn => walk_at "look"); (case hl => walk_at "side")))
local macro_rules | `(tactic| walk_at "fld") => `(tactic| ((refine' c_fld _ ?hn ?hv ?ha ?hc ?hf ?hl ?hq); (case ha => walk_at "ev"); (case hv => walk_at "ev"); (case hn => walk_at "look"); (case hc => assumption); (case hf => assumption); (case hl => decide)))
local macro_rules | `(tactic| walk_at "it") => `(tactic| first
  | (refine' ei_tup ?h1; (case h1 => walk_at "ev"))
  | (refine' ei_lst ?h1; (case h1 => walk_at "ev"))
  | (refine' ei_fz ?h1; (case h1 => walk_at "ev"))
  | (refine' ei_range ?h1 ?h2 ?h3; (case h1 => walk_at "ev"); (case h2 => first | omega | (simp <;> omega)); (case h3 => first | omega | (simp <;> omega))))
local macro_rules | `(tactic| walk_at "if") => `(tactic| ((refine' c_if ?hc ?ht ?he); (case hc => walk_at "ev")))
local macro_rules | `(tactic| walk_at "ret") => `(tactic| ((try (refine c_next ?_)); (try dsimp only [List.set]); (refine' c_ret (by assumption) ?h1 ?h2); (case h1 => walk_at "ev")))
local macro_rules | `(tactic| walk_at "dput") => `(tactic| ((refine' c_dput _ ?hn ?hv ?hd ?hx ?hk ?hl ?hq); (case hd => walk_at "ev"); (case hv => walk_at "ev"); (case hx => walk_at "ev"); (case hn => walk_at "look"); (case hk => first | exact dkI | exact dkS); (case hl => walk_at "side")))
local macro_rules | `(tactic| walk_at "popLL") => `(tactic| ((refine' c_popLL _ ?hn ?ha ?hz ?hq); (case ha => walk_at "ev"); (case hn => walk_at "look"); (case hz => walk_at "side")))
local macro_rules | `(tactic| walk_at "evt") => `(tactic| ((refine' et_is ?h1 ?h2); (case h1 => walk_at "ev"); (case h2 => first | rfl | decide | (simp <;> omega) | assumption)))

abbrev s_l_sheet : Stmt := topS 21
abbrev n_l_sheet : List Str := ["store", "number", "places", "told", "part", "row", "inner"]
theorem sc_l_sheet : FnScope n_l_sheet ["store", "number"] (defScope s_l_sheet) := ⟨rfl, rfl, rfl, by decide +kernel, rfl, by decide +kernel, by decide +kernel⟩
def Row.re (f : Nat → Nat) : Row → Row
  | .thing p => .thing p
  | .deed n ks => .deed n (ks.map f)
def rowAt (rs : List Row) (x : Nat) : Row := (rs[x]?).getD (.thing Str.empty)
def sheetOf (rs : List Row) (o : List Nat) : List Row := o.map fun x => (rowAt rs x).re fun k => o.idxOf k
theorem re_ks (f : Nat → Nat) (r : Row) : (r.re f).ks = r.ks.map f := by cases r <;> rfl
theorem rowAt_ks (rs : List Row) (x : Nat) : (rowAt rs x).ks = kids rs x := by
  unfold rowAt kids
  cases rs[x]? <;> rfl
theorem idx_le {k : Nat} : ∀ {o : List Nat} {j : Nat}, o[j]? = some k → o.idxOf k ≤ j
  | [], j, h => by simp at h
  | a :: o, 0, h => by simp at h; subst h; simp [List.idxOf_cons]
  | a :: o, j + 1, h => by
    have := idx_le (o := o) (j := j) (by simpa using h)
    rw [List.idxOf_cons]
    cases (a == k) <;> simp <;> omega
theorem idx_lt {o : List Nat} (k : Nat) {i : Nat} (h : k ∈ o.take i) : o.idxOf k < i := by
  obtain ⟨j, hj⟩ := List.mem_iff_getElem?.mp h
  rw [List.getElem?_take] at hj
  split at hj
  · rename_i hji
    have := idx_le hj
    omega
  · cases hj
theorem sheet_wf {rs : List Row} {o : List Nat} (h : Post rs o) : Wf (sheetOf rs o) := by
  intro i r hr k hk
  unfold sheetOf at hr
  rw [List.getElem?_map] at hr
  cases e : o[i]? with
  | none => rw [e] at hr; cases hr
  | some x =>
    rw [e] at hr
    cases hr
    rw [re_ks, rowAt_ks] at hk
    obtain ⟨k', hk', rfl⟩ := List.mem_map.mp hk
    exact idx_lt k' ((h i x e).2 k' hk')
def nats (n : Nat) : List D := (List.range n).map fun j => D.int (j : Nat)
theorem nats_len (n : Nat) : (nats n).length = n := by simp [nats]
theorem nats_succ (n : Nat) : nats (n + 1) = nats n ++ [.int (n : Nat)] := by simp [nats, List.range_succ]
theorem kGet_app {j : Key} : ∀ {ks ks' : List Key} {ds ds' : List D}, ks.length = ds.length → kGet (ks ++ ks') (ds ++ ds') j = match kGet ks ds j with | some d => some d | none => kGet ks' ds' j
  | [], ks', [], ds', _ => by simp [kGet]
  | [], _, _ :: _, _, h => by simp at h
  | _ :: _, _, [], _, h => by simp at h
  | k :: ks, ks', d :: ds, ds', h => by
    by_cases e : k = j
    · simp [kGet, e]
    · simp [kGet, e, kGet_app (ks := ks) (ds := ds) (ks' := ks') (ds' := ds') (by simpa using h)]
theorem kGet_none {j : Key} : ∀ {ks : List Key} {ds : List D}, j ∉ ks → kGet ks ds j = none
  | [], _, _ => by simp [kGet]
  | _ :: _, [], _ => by simp [kGet]
  | k :: ks, d :: ds, h => by
    simp only [List.mem_cons, not_or] at h
    have e : ¬ k = j := fun z => h.1 z.symm
    simp [kGet, e, kGet_none h.2]
theorem kGet_nats {o : List Nat} (hn : o.Nodup) {k : Nat} : ∀ i, i ≤ o.length → k ∈ o.take i → kGet (keysN (o.take i)) (nats i) (.inl (k : Nat)) = some (.int (o.idxOf k : Nat))
  | 0, _, h => by simp at h
  | i + 1, hi, h => by
    have hio : i < o.length := by omega
    have tk : o.take (i + 1) = o.take i ++ [o[i]] := by rw [List.take_succ, List.getElem?_eq_getElem hio]; rfl
    have e1 : keysN (o.take (i + 1)) = keysN (o.take i) ++ [.inl ((o[i] : Nat) : Int)] := by rw [tk]; unfold keysN; rw [List.map_append]; rfl
    rw [e1, nats_succ, kGet_app (by simp [keysN, nats_len]; omega)]
    by_cases hk : k ∈ o.take i
    · rw [kGet_nats hn i (by omega) hk]
    · rw [kGet_none (fun z => hk (mem_keysN.mp z))]
      rw [tk, List.mem_append] at h
      have : k = o[i] := by simpa using h.resolve_left hk
      subst this
      rw [List.Nodup.idxOf_getElem hn i hio]
      simp [kGet]
def c_sheet (w : World) : List D → Led → (D → Led → Prop) → Prop := fun ds Γ P => ∃ s r d h rs hs, ∃ k : Nat, ds = [.ref s, .int (k : Nat)] ∧ Γ = StoreL w s r d h rs hs ∧ Wf rs ∧ Few rs ∧ rs.length ≤ 1000 ∧ k < rs.length ∧
  ∀ (o : List Nat), Post rs o → o.Nodup → o.getLast? = some k → P (.tup ((sheetOf rs o).map Row.d)) (StoreL w s r d h rs hs)
section
variable {P : Program} {w : World} {K : PySem.W.Frag} {mg : Str → Option Value} {base : Heap}
theorem ok_sheet (F : Def K mg "_law_sheet" s_l_sheet) (T : Txt mg) (C__law_within : Cal P w K mg base "_law_within" 1 ["store", "number"] (SpG K (c_within w))) : Cal P w K mg base "_law_sheet" 2 ["store", "number"] (SpG K (c_sheet w)) := by
  refine F.cal sc_l_sheet (fun _ _ _ _ _ _ us hl => match us, hl with | [_, _], _ => rfl) (fun ds Γ P h => ?_) (fun f cdv A outer s H E hr => ?_)
  · obtain ⟨_, _, _, _, _, _, _, rfl, _⟩ := h; rfl
  have hu := hu_of hr
  refine ⟨_, (pss_cons (ps_set (i := 2) sc_l_sheet.nd rfl (by first | exact .inl rfl | exact .inr rfl) pe_dnewK)
 (pss_cons (ps_set (i := 3) sc_l_sheet.nd rfl (by first | exact .inl rfl | exact .inr rfl) (pe_lst pa_nil))
 (pss_cons (ps_for PassesOwn.never rfl (pi_seq (pe_cal C__law_within hr (pa_cons (pv 0) (pa_cons (pv 1) pa_nil)))) (pg_name (i := 4) sc_l_sheet.nd rfl (by first | exact .inl rfl | exact .inr rfl)) (pss_cons (ps_set (i := 5) sc_l_sheet.nd rfl (by first | exact .inl rfl | exact .inr rfl) (pe_ix ix_seq (pe_ix ix_seq (pv 0) pe_int (fun _ _ => rfl)) (pv 4) (fun _ _ => rfl)))
 (pss_cons (ps_if (pt_cmpR (op_eqU hr.units) (pe_ix ix_seq (pv 5) pe_int (fun _ _ => rfl)) pe_str (nomark _)) (pss_one (ps_set (i := 5) sc_l_sheet.nd rfl (by first | exact .inl rfl | exact .inr rfl) (pe_tup (pa_cons pe_str (pa_cons (pe_ix ix_seq (pv 5) pe_int (fun _ _ => rfl)) (pa_cons (pe_callTy call_tupOf rfl T.b_tuple (by decide +kernel) (pa_cons (pe_lc (own := [("inner", 6)]) rfl sc_l_sheet.nd (pi_seq (pe_ix ix_seq (pv 5) pe_int (fun _ _ => rfl))) (blkOk_by (own := [("inner", 6)]) (N := n_l_sheet) (sc := defScope s_l_sheet) (by decide +kernel)) (fun _ _ _ _ _ => (pg_name (i := 6) sc_l_sheet.nd rfl (by first | exact .inl rfl | exact .inr rfl))) (fun _ _ _ _ _ => pts_nil) (fun _ _ _ _ _ => (pe_dget hu (pv 2) (pv 6) (fun _ _ => rfl)))) pa_nil)) pa_nil)))))) pss_nil)
 (pss_cons (ps_dput hu (pv 2) (pv 4) (pe_callB call_lenU rfl T.b_len (by decide +kernel) (pa_cons (pv 3) pa_nil)) rfl)
 (pss_one (ps_expr (pe_bm PySem.F.plainAttrs_list PySem.F.slot_list_append PySem.F.type_list_append mt_append (pv 3) (pa_cons (pv 5) pa_nil))))))))
 (pss_one (ps_ret (pe_callTy call_tupOf rfl T.b_tuple (by decide +kernel) (pa_cons (pv 3) pa_nil)))))))
, ?_⟩
  try dsimp only [cxOf, Cx.nox, Cx.wish]
  rintro R Z _ _ P Q ⟨s, r, d, h, rs, hs, k, rfl, rfl, hw, hf, hz, hk, hP⟩ hq
  show Cont K R Z _ [some (.ref s), some (.int (k : Nat)), none, none, none, none, none] _
  have g0 : atI [D.ref r, .ref d, .ref h] 0 = some (.ref r) := rfl
  walk_at "sq"
  refine c_setN (m := .dk [] []) (by walk_at "ev") fun pp _ => ?_
  walk_at "sq"
  refine c_setN (m := .lst []) (by walk_at "ev") fun pt _ => ?_
  walk_at "sq"
  refine c_perm (Γ' := StoreL w s r d h rs hs ++ [(pt, .lst []), (pp, .dk [] [])]) (List.perm_append_comm (l₁ := ([(pt, .lst []), (pp, .dk [] [])] : Led))) ?_
  refine' c_forCall (ds := [.ref s, .int (k : Nat)]) _ ?b1 ⟨s, r, d, h, rs, hs, k, rfl, rfl, hw, hf, hz, hk, fun p o hp hnd hl => ⟨p, _, _, rfl, rfl, ?_⟩⟩
  case b1 => walk_at "ev"
  have ho : o.length ≤ 1000 := Nat.le_trans (nodup_lt rs.length o hnd fun x hx => by
    obtain ⟨j, hj⟩ := List.mem_iff_getElem?.mp hx
    exact (hp j x hj).1) hz
  refine ⟨fun i E Γ => ∃ x4 x5 x6, E = [some (.ref s), some (.int (k : Nat)), some (.ref pp), some (.ref pt), x4, x5, x6] ∧
      Γ = [(s, .lst [.ref r, .ref d, .ref h]), (r, .lst (rs.map Row.d)), (d, .dn w (kvF 0 rs)), (h, .lst (hs.map .int)), (pt, .lst ((sheetOf rs o).take i |>.map Row.d)), (pp, .dk (keysN (o.take i)) (nats i))], fun _ _ => False, ⟨none, none, none, rfl, rfl⟩, ?_, fun _ _ z => z.elim, ?_⟩
  · rintro nx e he hn hb i x _ _ hd ⟨x4, x5, x6, rfl, rfl⟩
    rw [List.getElem?_map] at hd
    cases hoi : o[i]? with
    | none => rw [hoi] at hd; cases hd
    | some y =>
      rw [hoi] at hd
      cases hd
      have hio := (List.getElem?_eq_some_iff.mp hoi).1
      obtain ⟨hy, hpk⟩ := hp i y hoi
      have hry := List.getElem?_eq_getElem hy
      have hrow : atI (rs.map Row.d) (y : Nat) = some rs[y].d := atI_nat (by rw [List.getElem?_map, hry]; rfl)
      have hkids : kids rs y = rs[y].ks := by unfold kids; rw [hry]
      have hat : rowAt rs y = rs[y] := by unfold rowAt; rw [hry]; rfl
      have tk : o.take (i + 1) = o.take i ++ [y] := by rw [List.take_succ, hoi]; rfl
      have hyn : y ∉ o.take i := fun z => by
        have h1 := idx_lt y z
        have h2 := List.Nodup.idxOf_getElem hnd i hio
        rw [List.getElem?_eq_getElem hio] at hoi
        cases hoi
        omega
      have sk : (sheetOf rs o).take (i + 1) = (sheetOf rs o).take i ++ [rs[y].re fun k => o.idxOf k] := by
        rw [List.take_succ]
        congr 1
        unfold sheetOf
        rw [List.getElem?_map, hoi, ← hat]; rfl
      have ekey : kPutK (keysN (o.take i)) (.inl (y : Nat)) = keysN (o.take (i + 1)) := by rw [keys_snoc hyn, tk]
      have eval : kPutV (keysN (o.take i)) (nats i) (.inl (y : Nat)) (.int ((((sheetOf rs o).take i).map Row.d).length : Nat)) = nats (i + 1) := by
        rw [kPutV_out (by simp [keysN, nats_len]; omega) (fun z => hyn (mem_keysN.mp z)), nats_succ]
        simp [sheetOf]
        omega
      have hkl : (keysN (o.take i)).length < sizeLine := by simp only [keysN, List.length_map, List.length_take]; exact small_lt (by omega)
      have hsl : (((sheetOf rs o).take i).map Row.d).length < sizeLine := by simp only [sheetOf, List.length_map, List.length_take]; exact small_lt (by omega)
      refine ⟨_, tg_name, ?_⟩
      walk_at "sq"
      walk_at "set"
      walk_at "sq"
      cases hrs : rs[y] with
      | thing pth =>
        simp only [Row.d]
        refine' c_if (b := false) ?hc (fun z => by cases z) (fun _ => ?_)
        case hc => walk_at "evt"
        walk_at "sq"
        walk_at "sq"
        walk_at "dput"
        walk_at "sq"
        walk_at "app"
        walk_at "sq"
        rw [ekey, eval]
        refine hn _ _ _ ⟨_, _, _, rfl, ?_⟩
        rw [sk, hrs, List.map_append]; rfl
      | deed nm ks =>
        have hkk : kids rs y = ks := by rw [hkids, hrs]; rfl
        have hks3 : ks.length ≤ 3 := by rw [← hkk, hkids]; exact hf _ (List.getElem_mem hy)
        simp only [Row.d]
        refine' c_if (b := true) ?hc (fun _ => ?_) (fun z => by cases z)
        case hc => walk_at "evt"
        walk_at "sq"
        let f : D → D := fun d => match d with | .int k => .int (o.idxOf k.toNat : Nat) | _ => .non
        refine' c_set (d := .tup [.str "deed", .str nm, .tup ((ks.map fun k => D.int (k : Nat)).map f)]) ?y1 ?y2
        case y1 =>
          refine ev_tup (ea_cons (by walk_at "ev") (ea_cons (by walk_at "ev") (ea_cons (ev_cb (ea_cons (ev_frzL ?lc) ea_nil) rc_tupL) ea_nil))) (small_sz (by simp))
          refine en_lcm f _ (by walk_at "it") (small_sz (by simp; omega)) (fun d _ => tc_name) (fun d hd e l he => ?_)
          obtain ⟨k', hk', rfl⟩ := List.mem_map.mp hd
          have hg := kGet_nats hnd i (by omega) (hpk k' (hkk ▸ hk'))
          show EvD K R Z _ _ _ (.int (o.idxOf (k' : Int).toNat : Nat))
          rw [Int.toNat_natCast]
          walk_at "ev"
        walk_at "sq"
        walk_at "sq"
        walk_at "dput"
        walk_at "sq"
        walk_at "app"
        walk_at "sq"
        rw [ekey, eval]
        refine hn _ _ _ ⟨_, _, _, rfl, ?_⟩
        rw [sk, hrs, List.map_append]
        simp [Row.re, Row.d, f, Function.comp_def]
  · rintro _ _ ⟨x4, x5, x6, rfl, rfl⟩
    simp only [List.length_map]
    have e1 : (sheetOf rs o).take o.length = sheetOf rs o := by rw [show o.length = (sheetOf rs o).length by simp [sheetOf], List.take_length]
    rw [e1]
    walk_at "sq"
    refine' c_retS (StoreL w s r d h rs hs) hq (d := .tup ((sheetOf rs o).map Row.d)) ?z1 ?z2 (hP o hp hnd hl)
    case z1 => walk_at "ev"
    case z2 => exact ((((List.nil_sublist _).cons_cons _).cons_cons _).cons_cons _).cons_cons _
end
end W63
set_option Elab.async false
set_option linter.all false
set_option maxRecDepth 100000
set_option maxHeartbeats 4000000
namespace W63
open PySem PySem.Spec PyProof.Rows L2 DL
/-! steps of the walk by data -/
local macro_rules | `(tactic| walk_at "side") => `(tactic| first | (with_reducible show D) | (with_reducible show Int) | (with_reducible show Nat) | (with_reducible show List _) | (with_reducible show Bool) | (with_reducible show Str) | (with_reducible show Option _) | (with_reducible show Addr) | (with_reducible show MO) | (with_reducible show Key) | with_reducible rfl | assumption | omega | (with_reducible exact atI0) | (with_reducible exact atI1) | (with_reducible exact atI2) | (with_reducible exact atI3) | ((with_reducible refine' cdiv ?_ ?_) <;> omega) | ((with_reducible refine' cmulR ?_ ?_) <;> omega) | ((with_reducible refine' cmulL ?_ ?_) <;> omega) | ((with_reducible refine' cpow ?_ ?_ ?_) <;> decide) | ((with_reducible refine' small_sz ?_) <;> first | assumption | omega | decide | (simp only [List.length_map, List.length_append, List.length_cons, List.length_nil, List.length_set] <;> omega)) | ((with_reducible refine' small_lt ?_) <;> first | assumption | omega | decide | (simp only [List.length_map, List.length_append, List.length_cons, List.length_nil, List.length_set] <;> omega)) | (show (0 : Int) < _; omega) | decide | skip)
local macro_rules | `(tactic| walk_at "look") => `(tactic| first | (with_reducible exact look0) | (with_reducible exact look1) | (with_reducible exact look2) | (with_reducible exact look3) | (with_reducible exact look4) | (with_reducible exact look5) | (with_reducible exact look6) | (with_reducible exact look7) | (with_reducible exact look8) | (with_reducible exact look9) | (with_reducible exact look10))
local macro_rules | `(tactic| walk_at "ev") => `(tactic| first
  | (with_reducible show D) | (with_reducible show Int) | (with_reducible show Nat) | (with_reducible show List _) | (with_reducible show Bool) | (with_reducible show Str) | (with_reducible show Option _) | (with_reducible show Addr) | (with_reducible show MO) | (with_reducible show Key)
  | ((with_reducible refine' ev_var ?_) <;> first | (with_reducible show D) | rfl)
  | (with_reducible exact ev_int)
  | (with_reducible exact ev_str)
  | (with_reducible exact ev_bl)
  | (with_reducible exact ev_non)
  | ((with_reducible refine' ev_op ?_ ?_ ?_) <;> walk_at "ev")
  | ((with_reducible refine' en_op ?_ ?_ ?_) <;> walk_at "ev")
  | ((with_reducible refine' ev_tup ?_ ?_) <;> walk_at "ev")
  | ((with_reducible refine' en_lst ?_ ?_) <;> walk_at "ev")
  | (with_reducible exact en_dk)
  | (with_reducible exact en_dn)
  | ((with_reducible refine' ev_cb ?_ ?_) <;> walk_at "ev")
  | ((with_reducible refine' en_cb ?_ ?_) <;> walk_at "ev")
  | (with_reducible exact ea_nil)
  | ((with_reducible refine' ea_cons ?_ ?_) <;> walk_at "ev")
  | ((with_reducible refine' ev_neg ?_) <;> walk_at "ev")
  | ((with_reducible refine' ev_slS ?_ ?_ ?_ ?_) <;> walk_at "ev")
  | ((with_reducible refine' ev_slT ?_ ?_ ?_) <;> walk_at "ev")
  | ((with_reducible refine' en_slL ?_ ?_ ?_) <;> walk_at "ev")
  | ((with_reducible refine' en_slO ?hn ?ha ?hl ?hh); (case ha => walk_at "ev"); (case hn => walk_at "look"); (case hl => walk_at "ev"); (case hh => walk_at "ev"))
  | (with_reducible exact eo_none)
  | ((with_reducible refine' eo_some ?_) <;> walk_at "ev")
  | ((with_reducible refine' et_test ?_) <;> walk_at "ev")
  | ((with_reducible refine' et_B ?_) <;> walk_at "ev")
  | ((with_reducible refine' et_not ?_) <;> walk_at "ev")
  | (with_reducible exact rv_II)
  | (with_reducible exact rv_IB)
  | (with_reducible exact ru_addI)
  | (with_reducible exact ru_eqI)
  | (with_reducible exact ru_neI)
  | (with_reducible exact ru_eqS)
  | (with_reducible exact ru_neS)
  | ((with_reducible refine' rv_IC ?_) <;> walk_at "side")
  | ((with_reducible refine' ru_mulI ?_) <;> walk_at "side")
  | ((with_reducible refine' ru_mulS ?_ ?_ ?_) <;> walk_at "side")
  | ((with_reducible refine' ru_addS ?_) <;> walk_at "side")
  | ((with_reducible refine' ru_addT ?_) <;> walk_at "side")
  | ((with_reducible refine' rv_ixT ?_) <;> walk_at "side")
  | ((with_reducible refine' rv_ixL ?_) <;> walk_at "side")
  | ((with_reducible refine' rv_ixF ?_) <;> walk_at "side")
  | ((with_reducible refine' rv_ixS ?_ ?_) <;> walk_at "side")
  | ((with_reducible refine' rv_ixO ?hn ?ha); (case hn => walk_at "look"); (case ha => walk_at "side"))
  | (with_reducible exact rc_int)
  | (with_reducible exact rc_intb)
  | (with_reducible exact rc_max2)
  | (with_reducible exact rc_min2)
  | (with_reducible exact rc_tupL)
  | (with_reducible exact rc_tupT)
  | (with_reducible exact rc_lenK)
  | (with_reducible exact rc_lenT)
  | (with_reducible exact rc_lenL)
  | (with_reducible exact rc_lenF)
  | (with_reducible exact rcn_listL)
  | (with_reducible exact rcn_listT)
  | ((with_reducible refine' rc_lenS ?_) <;> walk_at "side")
  | ((with_reducible refine' rc_lenO ?hn); (case hn => walk_at "look"))
  | ((with_reducible refine' rc_lenOK ?hn); (case hn => walk_at "look"))
  | ((with_reducible refine' rc_tupO ?hn); (case hn => walk_at "look"))
  | ((with_reducible refine' rcn_listO ?hn); (case hn => walk_at "look"))
  | ((with_reducible refine' rcn_listK ?hn); (case hn => walk_at "look"))
  | ((with_reducible refine' rv_ixIn ?hn ?hq ?hd ?ha); (case hn => walk_at "look"); (case hq => assumption); (case hd => assumption); (case ha => walk_at "side"))
  | ((with_reducible refine' rv_ixLL ?hn ?ha); (case hn => walk_at "look"); (case ha => walk_at "side"))
  | ((with_reducible refine' et_truLL ?hn ?ha); (case ha => walk_at "ev"); (case hn => walk_at "look"))
  | ((with_reducible refine' et_truO ?hn ?ha); (case ha => walk_at "ev"); (case hn => walk_at "look"))
  | ((with_reducible refine' et_in _ ?hn ?hx ?hd ?hk); (case hd => walk_at "ev"); (case hx => walk_at "ev"); (case hn => walk_at "look"); (case hk => first | exact dkI | exact dkS))
  | ((with_reducible refine' et_notin _ ?hn ?hx ?hd ?hk); (case hd => walk_at "ev"); (case hx => walk_at "ev"); (case hn => walk_at "look"); (case hk => first | exact dkI | exact dkS))
  | ((with_reducible refine' ev_dget _ ?hn ?hd ?hx ?hk ?hg); (case hd => walk_at "ev"); (case hx => walk_at "ev"); (case hn => walk_at "look"); (case hk => first | exact dkI | exact dkS); (case hg => walk_at "side"))
  | ((with_reducible refine' ev_frzL ?_) <;> walk_at "ev")
  | walk_at "side")
local macro_rules | `(tactic| walk_at "sq") => `(tactic| ((try (refine c_next ?_)); (try (refine c_seq ?_)); try dsimp only [List.set]))
local macro_rules | `(tactic| walk_at "set") => `(tactic| ((refine' c_set ?h1 ?h2); (case h1 => walk_at "ev")))
local macro_rules | `(tactic| walk_at "app") => `(tactic| ((refine' c_append _ ?hn ?ha ?hx ?hl ?hq); (case ha => walk_at "ev"); (case hx => walk_at "ev"); (case hn => walk_at "look"); (case hl => walk_at "side")))
local macro_rules | `(tactic| walk_at "fld") => `(tactic| ((refine' c_fld _ ?hn ?hv ?ha ?hc ?hf ?hl ?hq); (case ha => walk_at "ev"); (case hv => walk_at "ev"); (case hn => walk_at "look"); (case hc => assumption); (case hf => assumption); (case hl => decide)))
local macro_rules | `(tactic| walk_at "it") => `(tactic| first
  | (refine' ei_tup ?h1; (case h1 => walk_at "ev"))
  | (refine' ei_lst ?h1; (case h1 => walk_at "ev"))
  | (refine' ei_fz ?h1; (case h1 => walk_at "ev"))
  | (refine' ei_range ?h1 ?h2 ?h3; (case h1 => walk_at "ev"); (case h2 => first | omega | (simp <;> omega)); (case h3 => first | omega | (simp <;> omega))))
local macro_rules | `(tactic| walk_at "if") => `(tactic| ((refine' c_if ?hc ?ht ?he); (case hc => walk_at "ev")))
local macro_rules | `(tactic| walk_at "ret") => `(tactic| ((try (refine c_next ?_)); (try dsimp only [List.set]); (refine' c_ret (by assumption) ?h1 ?h2); (case h1 => walk_at "ev")))
local macro_rules | `(tactic| walk_at "dput") => `(tactic| ((refine' c_dput _ ?hn ?hv ?hd ?hx ?hk ?hl ?hq); (case hd => walk_at "ev"); (case hv => walk_at "ev"); (case hx => walk_at "ev"); (case hn => walk_at "look"); (case hk => first | exact dkI | exact dkS); (case hl => walk_at "side")))
local macro_rules | `(tactic| walk_at "popLL") => `(tactic| ((refine' c_popLL _ ?hn ?ha ?hz ?hq); (case ha => walk_at "ev"); (case hn => walk_at "look"); (case hz => walk_at "side")))
local macro_rules | `(tactic| walk_at "evt") => `(tactic| ((refine' et_is ?h1 ?h2); (case h1 => walk_at "ev"); (case h2 => first | rfl | decide | (simp <;> omega) | assumption)))

abbrev s_l_small_answer : Stmt := topS 22
abbrev n_l_small_answer : List Str := ["row", "things", "deeds", "store", "parts", "k", "draw", "other", "mine", "top"]
theorem sc_l_small_answer : FnScope n_l_small_answer ["row", "things", "deeds"] (defScope s_l_small_answer) := ⟨rfl, rfl, rfl, by decide +kernel, rfl, by decide +kernel, by decide +kernel⟩
def paths10 : List Str := ["", "a", "b", "aa", "ab", "ba", "bb", "aab", "bab", "abb"]
def RowOk : Row → Prop
  | .thing p => p ∈ paths10
  | .deed n ks => n ∈ (["e", "f", "h", "m"] : List Str) ∧ ks.length ≤ 3
/-- what the law's own answer is drawn from -/
structure Drawn (m : Nat) (rs : List Row) (o : List Nat) : Prop where
  wf : Wf rs
  ok : ∀ r ∈ rs, RowOk r
  nd : rs.Nodup
  len : rs.length ≤ m
  post : Post rs o
  ndo : o.Nodup
  top : ∃ k a b, o.getLast? = some k ∧ rs[k]? = some (.deed "h" [a, b])
def c_small (w : World) : List D → Led → (D → Led → Prop) → Prop := fun ds Γ P => ∃ (xs : List Int) (th dd : Nat), ds = [.lst (xs.map .int), .int (th : Nat), .int (dd : Nat)] ∧ Γ = [] ∧ xs.length = 30 ∧ (∀ x ∈ xs, 0 ≤ x ∧ x < 60) ∧ 1 ≤ th ∧ th ≤ 100 ∧ dd ≤ 100 ∧
  ∀ rs o, Drawn (th + dd + 1) rs o → P (.tup ((sheetOf rs o).map Row.d)) []
theorem digit {xs : List Int} (hl : xs.length = 30) (hx : ∀ x ∈ xs, 0 ≤ x ∧ x < 60) {i : Int} (h0 : 0 ≤ i) (h1 : i < 30) : ∃ z : Nat, atI (xs.map D.int) i = some (.int (z : Nat)) ∧ z < 60 := by
  have hi : i.toNat < xs.length := by omega
  have h := hx _ (List.getElem_mem hi)
  refine ⟨xs[i.toNat].toNat, atI_of (j := i.toNat) ?_ (by omega), by omega⟩
  rw [List.getElem?_map, List.getElem?_eq_getElem hi, show ((xs[i.toNat].toNat : Nat) : Int) = xs[i.toNat] by omega]
  rfl
theorem put_nd {rs rs' : List Row} {row : Row} {n : Nat} (h : Put rs row n rs') (hn : rs.Nodup) : rs'.Nodup := by
  rcases h.2 with e | ⟨h1, e⟩
  · rw [e]; exact hn
  · rw [e]; exact List.nodup_append.mpr ⟨hn, by simp, fun a ha b hb z => by simp at hb; subst hb; subst z; exact h1 ha⟩
theorem put_wf {rs rs' : List Row} {row : Row} {n : Nat} (h : Put rs row n rs') (hw : Wf rs) (hk : ∀ k ∈ row.ks, k < rs.length) : Wf rs' := by
  rcases h.2 with e | ⟨h1, e⟩
  · rw [e]; exact hw
  · rw [e]; exact hw.snoc hk
theorem put_ok {rs rs' : List Row} {row : Row} {n : Nat} (h : Put rs row n rs') (ho : ∀ r ∈ rs, RowOk r) (hr : RowOk row) : ∀ r ∈ rs', RowOk r := by
  rcases h.2 with e | ⟨h1, e⟩
  · rw [e]; exact ho
  · rw [e]; intro r hr'
    rcases List.mem_append.mp hr' with z | z
    · exact ho r z
    · simp at z; subst z; exact hr
theorem put_len {rs rs' : List Row} {row : Row} {n : Nat} (h : Put rs row n rs') : rs.length ≤ rs'.length ∧ rs'.length ≤ rs.length + 1 ∧ n < rs'.length := by
  have hn := (List.getElem?_eq_some_iff.mp h.1).1
  rcases h.2 with e | ⟨h1, e⟩ <;> rw [e] at hn ⊢ <;> simp at hn ⊢ <;> omega
theorem few_ok {rs : List Row} (ho : ∀ r ∈ rs, RowOk r) : Few rs := fun r hr => by
  have := ho r hr
  cases r with
  | thing p => simp [Row.ks]
  | deed n ks => exact this.2
theorem prot {e : Addr × MO} (S : Led) (a : Addr × MO) : (e :: (S ++ [a])).Perm (S ++ [a, e]) := by
  have h := List.perm_append_comm (l₁ := [e]) (l₂ := S ++ [a])
  simpa using h
theorem lookS4 {w : World} {s r d h : Addr} {rs : List Row} {hs : List Int} {x : Addr × MO} {l : Led} : (StoreL w s r d h rs hs ++ x :: l)[4]? = some x := rfl
local macro_rules | `(tactic| walk_at "look") => `(tactic| (with_reducible exact lookS4))
section
variable {P : Program} {w : World} {K : PySem.W.Frag} {mg : Str → Option Value} {base : Heap}
theorem ok_small (F : Def K mg "_law_small_answer" s_l_small_answer) (T : Txt mg) (C__law_store : Cal P w K mg base "_law_store" 1 [] (SpG K (c_store w))) (C__law_thing : Cal P w K mg base "_law_thing" 2 ["store", "thing"] (SpG K (c_thing w)))
    (C__law_deed : Cal P w K mg base "_law_deed" 2 ["store", "name", "parts"] (SpG K (c_deed w))) (C__law_sheet : Cal P w K mg base "_law_sheet" 2 ["store", "number"] (SpG K (c_sheet w))) : Cal P w K mg base "_law_small_answer" 3 ["row", "things", "deeds"] (SpG K (c_small w)) := by
  refine F.cal sc_l_small_answer (fun _ _ _ _ _ _ us hl => match us, hl with | [_, _, _], _ => rfl) (fun ds Γ P h => ?_) (fun f cdv A outer s H E hr => ?_)
  · obtain ⟨_, _, _, rfl, _⟩ := h; rfl
  have hu := hu_of hr
  refine ⟨_, (pss_cons (ps_set (i := 3) sc_l_small_answer.nd rfl (by first | exact .inl rfl | exact .inr rfl) (pe_cal0 C__law_store hr))
 (pss_cons (ps_set (i := 4) sc_l_small_answer.nd rfl (by first | exact .inl rfl | exact .inr rfl) (pe_lst pa_nil))
 (pss_cons (ps_for PassesOwn.never rfl (pi_range1 rfl T.b_range (pa_cons (pv 1) pa_nil)) (pg_name (i := 5) sc_l_small_answer.nd rfl (by first | exact .inl rfl | exact .inr rfl)) (pss_cons (ps_set (i := 6) sc_l_small_answer.nd rfl (by first | exact .inl rfl | exact .inr rfl) (pe_callTy call_int11 rfl T.b_int (by decide +kernel) (pa_cons (pe_ix ix_seq (pv 0) (pe_op op_mod (pe_callTy call_int11 rfl T.b_int (by decide +kernel) (pa_cons (pv 5) pa_nil)) pe_int) (fun _ _ => rfl)) pa_nil)))
 (pss_one (ps_expr (pe_bm PySem.F.plainAttrs_list PySem.F.slot_list_append PySem.F.type_list_append mt_append (pv 4) (pa_cons (pe_cal C__law_thing hr (pa_cons (pv 3) (pa_cons (pe_ix ix_seq (pe_lst (pa_cons pe_str (pa_cons pe_str (pa_cons pe_str (pa_cons pe_str (pa_cons pe_str (pa_cons pe_str (pa_cons pe_str (pa_cons pe_str (pa_cons pe_str (pa_cons pe_str pa_nil))))))))))) (pe_op op_mod (pe_callTy call_int11 rfl T.b_int (by decide +kernel) (pa_cons (pv 6) pa_nil)) pe_int) (fun _ _ => rfl)) pa_nil))) pa_nil))))))
 (pss_cons (ps_for PassesOwn.never rfl (pi_range1 rfl T.b_range (pa_cons (pv 2) pa_nil)) (pg_name (i := 5) sc_l_small_answer.nd rfl (by first | exact .inl rfl | exact .inr rfl)) (pss_cons (ps_set (i := 6) sc_l_small_answer.nd rfl (by first | exact .inl rfl | exact .inr rfl) (pe_callTy call_int11 rfl T.b_int (by decide +kernel) (pa_cons (pe_ix ix_seq (pv 0) (pe_op op_mod (pe_callTy call_int11 rfl T.b_int (by decide +kernel) (pa_cons (pe_op op_addU pe_int (pe_op op_mulU pe_int (pv 5))) pa_nil)) pe_int) (fun _ _ => rfl)) pa_nil)))
 (pss_cons (ps_set (i := 7) sc_l_small_answer.nd rfl (by first | exact .inl rfl | exact .inr rfl) (pe_callTy call_int11 rfl T.b_int (by decide +kernel) (pa_cons (pe_ix ix_seq (pv 0) (pe_op op_mod (pe_callTy call_int11 rfl T.b_int (by decide +kernel) (pa_cons (pe_op op_addU pe_int (pe_op op_mulU pe_int (pv 5))) pa_nil)) pe_int) (fun _ _ => rfl)) pa_nil)))
 (pss_cons (ps_set (i := 8) sc_l_small_answer.nd rfl (by first | exact .inl rfl | exact .inr rfl) (pe_lst (pa_cons (pe_ix ix_seq (pv 4) (pe_op op_mod (pe_callTy call_int11 rfl T.b_int (by decide +kernel) (pa_cons (pe_op op_fdiv (pv 6) pe_int) pa_nil)) (pe_callB call_lenU rfl T.b_len (by decide +kernel) (pa_cons (pv 4) pa_nil))) (fun _ _ => rfl)) (pa_cons (pe_ix ix_seq (pv 4) (pe_op op_mod (pe_callTy call_int11 rfl T.b_int (by decide +kernel) (pa_cons (pv 7) pa_nil)) (pe_callB call_lenU rfl T.b_len (by decide +kernel) (pa_cons (pv 4) pa_nil))) (fun _ _ => rfl)) (pa_cons (pe_ix ix_seq (pv 4) (pe_op op_mod (pe_callTy call_int11 rfl T.b_int (by decide +kernel) (pa_cons (pe_op op_fdiv (pv 7) pe_int) pa_nil)) (pe_callB call_lenU rfl T.b_len (by decide +kernel) (pa_cons (pv 4) pa_nil))) (fun _ _ => rfl)) pa_nil)))))
 (pss_one (ps_expr (pe_bm PySem.F.plainAttrs_list PySem.F.slot_list_append PySem.F.type_list_append mt_append (pv 4) (pa_cons (pe_cal C__law_deed hr (pa_cons (pv 3) (pa_cons (pe_ix ix_seq pe_str (pe_op op_mod (pe_callTy call_int11 rfl T.b_int (by decide +kernel) (pa_cons (pv 6) pa_nil)) pe_int) (fun _ _ => rfl)) (pa_cons (pe_slice sl_U (pv 8) po_none (po_some (pe_op op_mod (pe_callTy call_int11 rfl T.b_int (by decide +kernel) (pa_cons (pv 6) pa_nil)) pe_int))) pa_nil)))) pa_nil))))))))
 (pss_cons (ps_set (i := 9) sc_l_small_answer.nd rfl (by first | exact .inl rfl | exact .inr rfl) (pe_cal C__law_deed hr (pa_cons (pv 3) (pa_cons pe_str (pa_cons (pe_lst (pa_cons (pe_ix ix_seq (pv 4) (pe_un un_neg pe_int) (fun _ _ => rfl)) (pa_cons (pe_ix ix_seq (pv 4) (pe_op op_mod (pe_callTy call_int11 rfl T.b_int (by decide +kernel) (pa_cons (pe_ix ix_seq (pv 0) pe_int (fun _ _ => rfl)) pa_nil)) (pe_callB call_lenU rfl T.b_len (by decide +kernel) (pa_cons (pv 4) pa_nil))) (fun _ _ => rfl)) pa_nil))) pa_nil)))))
 (pss_one (ps_ret (pe_cal C__law_sheet hr (pa_cons (pv 3) (pa_cons (pv 9) pa_nil))))))))))
, ?_⟩
  try dsimp only [cxOf, Cx.nox, Cx.wish]
  rintro R Z _ _ P Q ⟨xs, th, dd, rfl, rfl, hl, hx, ht1, ht2, hd2, hP⟩ hq
  show Cont K R Z _ [some (.lst (xs.map .int)), some (.int (th : Nat)), some (.int (dd : Nat)), none, none, none, none, none, none, none] ([] ++ [])
  walk_at "sq"
  refine' c_setCall (ds := []) _ ea_nil ⟨rfl, rfl, fun s r d h => ?_⟩
  walk_at "sq"
  refine c_setN (m := .lst []) (by walk_at "ev") fun pp _ => ?_
  walk_at "sq"
  refine c_perm (Γ' := StoreL w s r d h [] [] ++ [(pp, .lst (([] : List Nat).map fun k => D.int (k : Nat)))]) (by simpa using List.perm_append_comm (l₁ := [(pp, MO.lst [])]) (l₂ := StoreL w s r d h [] [])) ?_
  refine c_for' (fun i E Γ => ∃ (rs : List Row) (hs : List Int) (ps : List Nat) (x5 x6 : Option D), E = [some (.lst (xs.map .int)), some (.int (th : Nat)), some (.int (dd : Nat)), some (.ref s), some (.ref pp), x5, x6, none, none, none] ∧
     Γ = StoreL w s r d h rs hs ++ [(pp, .lst (ps.map fun k => D.int (k : Nat)))] ∧ hs.length = rs.length ∧ Wf rs ∧ (∀ r ∈ rs, RowOk r) ∧ rs.Nodup ∧ rs.length ≤ i ∧ ps.length = i ∧ ∀ k ∈ ps, k < rs.length) (by walk_at "it") ?_ ?_ ?_
  · exact ⟨[], [], [], none, none, rfl, rfl, rfl, fun i r h => by simp at h, by simp, List.nodup_nil, Nat.zero_le _, rfl, by simp⟩
  · rintro nx e he hn i x _ _ hd ⟨rs, hs, ps, x5, x6, rfl, rfl, h1, h2, h3, h4, h5, h6, h7⟩
    obtain ⟨rfl, hi⟩ := rngD_get hd
    obtain ⟨z, hz, hz2⟩ := digit hl hx (i := (i : Nat) % 30) (by omega) (by omega)
    obtain ⟨q, hq10, hq2⟩ : ∃ q, atI (paths10.map D.str) ((z : Int) % 10) = some (.str q) ∧ q ∈ paths10 := by
      have hz10 : z % 10 < paths10.length := by have : paths10.length = 10 := rfl; omega
      exact ⟨paths10[z % 10], atI_of (j := z % 10) (by rw [List.getElem?_map, List.getElem?_eq_getElem hz10]; rfl) (by omega), List.getElem_mem hz10⟩
    refine ⟨_, tg_name, ?_⟩
    walk_at "sq"
    walk_at "set"
    walk_at "sq"
    refine c_perm (Γ' := StoreL w s r d h rs hs ++ [(pp, .lst (ps.map fun k => D.int (k : Nat))), e]) (prot _ _) ?_
    refine' c_appCall (ds := [.ref s, .str q]) 4 _ ?b0 rfl ?b1 ⟨s, r, d, h, rs, hs, q, rfl, rfl, h1, by omega, fun n rs' hs' hp hl' => ⟨4, _, rfl, ?b2, ?b3⟩⟩
    case b0 => walk_at "ev"
    case b1 =>
      refine' ea_cons (by walk_at "ev") (ea_cons (ev_op (x := .lst (paths10.map D.str)) (y := .int ((z : Int) % 10)) (ev_frzL ?c1) ?c2 ?c3) ea_nil)
      case c1 => unfold paths10; simp only [List.map_cons, List.map_nil]; walk_at "ev"
      case c2 => walk_at "ev"
      case c3 => exact rv_ixL hq10
    case b2 => rw [List.length_map]; exact small_lt (by omega)
    case b3 =>
    walk_at "sq"
    obtain ⟨l1, l2, l3⟩ := put_len hp
    refine c_perm ?_ (hn _ _ _ ⟨rs', hs', ps ++ [n], _, _, rfl, rfl, hl', put_wf hp h2 (by simp [Row.ks]), put_ok hp h3 hq2, put_nd hp h4, by omega, by simp; omega, fun k hk => ?_⟩)
    · rw [List.map_append]
      exact (prot (StoreL w s r d h rs' hs') (pp, .lst ((ps.map fun k => D.int (k : Nat)) ++ [.int (n : Nat)]))).symm
    · rcases List.mem_append.mp hk with z | z
      · have := h7 k z; omega
      · simp at z; omega
  · rintro _ _ ⟨rs, hs, ps, x5, x6, rfl, rfl, h1, h2, h3, h4, h5, h6, h7⟩
    have el : (rngD (th : Int).toNat).length = th := by simp [rngD]
    rw [el] at h5 h6
    walk_at "sq"
    refine c_for' (fun i E Γ => ∃ (rs : List Row) (hs : List Int) (ps : List Nat) (x5 x6 x7 x8 : Option D), E = [some (.lst (xs.map .int)), some (.int (th : Nat)), some (.int (dd : Nat)), some (.ref s), some (.ref pp), x5, x6, x7, x8, none] ∧
     Γ = StoreL w s r d h rs hs ++ [(pp, .lst (ps.map fun k => D.int (k : Nat)))] ∧ hs.length = rs.length ∧ Wf rs ∧ (∀ r ∈ rs, RowOk r) ∧ rs.Nodup ∧ rs.length ≤ th + i ∧ ps.length = th + i ∧ ∀ k ∈ ps, k < rs.length) (by walk_at "it") ?_ ?_ ?_
    · exact ⟨rs, hs, ps, x5, x6, none, none, rfl, rfl, h1, h2, h3, h4, h5, h6, h7⟩
    · clear h1 h2 h3 h4 h5 h6 h7 x5 x6
      clear rs hs ps
      rintro nx e he hn i x _ _ hd ⟨rs, hs, ps, x5, x6, x7, x8, rfl, rfl, h1, h2, h3, h4, h5, h6, h7⟩
      obtain ⟨rfl, hi⟩ := rngD_get hd
      obtain ⟨z, hz, hz2⟩ := digit hl hx (i := (4 + 2 * (i : Nat)) % 30) (by omega) (by omega)
      obtain ⟨y, hy, hy2⟩ := digit hl hx (i := (5 + 2 * (i : Nat)) % 30) (by omega) (by omega)
      have pos : (0 : Int) < ((ps.map fun k => D.int (k : Nat)).length : Nat) := by rw [List.length_map]; omega
      have pick : ∀ v : Int, ∃ q : Nat, atI (ps.map fun k => D.int (k : Nat)) (v % ((ps.map fun k => D.int (k : Nat)).length : Nat)) = some (.int (q : Nat)) ∧ q ∈ ps := fun v => by
        rw [List.length_map]
        have a0 := Int.emod_nonneg v (b := (ps.length : Nat)) (by omega)
        have a1 := Int.emod_lt_of_pos v (b := (ps.length : Nat)) (by omega)
        have hj : (v % (ps.length : Nat)).toNat < ps.length := by omega
        exact ⟨ps[(v % (ps.length : Nat)).toNat], atI_of (j := (v % (ps.length : Nat)).toNat) (by rw [List.getElem?_map, List.getElem?_eq_getElem hj]; rfl) (by omega), List.getElem_mem hj⟩
      refine ⟨_, tg_name, ?_⟩
      walk_at "sq"
      walk_at "set"
      walk_at "sq"
      walk_at "set"
      walk_at "sq"
      obtain ⟨q1, p1, m1⟩ := pick ((z : Int) / 4)
      obtain ⟨q2, p2, m2⟩ := pick (y : Int)
      obtain ⟨q3, p3, m3⟩ := pick ((y : Int) / 7)
      refine c_perm (Γ' := StoreL w s r d h rs hs ++ [(pp, .lst (ps.map fun k => D.int (k : Nat))), e]) (prot _ _) ?_
      obtain ⟨n, hn4, hn2⟩ : ∃ n, (∃ c, atI (⟨#[101, 102, 104, 109]⟩ : Str).cps.toList ((z : Int) % 4) = some c ∧ n = ⟨#[c]⟩) ∧ n ∈ (["e", "f", "h", "m"] : List Str) := by
        have : z % 4 = 0 ∨ z % 4 = 1 ∨ z % 4 = 2 ∨ z % 4 = 3 := by omega
        rcases this with e | e | e | e
        · exact ⟨"e", ⟨101, atI_of (j := 0) rfl (by omega), rfl⟩, by simp⟩
        · exact ⟨"f", ⟨102, atI_of (j := 1) rfl (by omega), rfl⟩, by simp⟩
        · exact ⟨"h", ⟨104, atI_of (j := 2) rfl (by omega), rfl⟩, by simp⟩
        · exact ⟨"m", ⟨109, atI_of (j := 3) rfl (by omega), rfl⟩, by simp⟩
      obtain ⟨c4, hc4, rfl⟩ := hn4
      refine' c_set (d := .lst [.int (q1 : Nat), .int (q2 : Nat), .int (q3 : Nat)]) (ev_frzL ?c1) ?c2
      case c1 => walk_at "ev"
      case c2 =>
      walk_at "sq"
      refine' c_appCall (ds := [.ref s, .str ⟨#[c4]⟩, .lst (([q1, q2, q3].take (z % 4)).map fun k => D.int (k : Nat))]) 4 _ ?b0 rfl ?b1 ⟨s, r, d, h, rs, hs, _, [q1, q2, q3].take (z % 4), rfl, rfl, h1, by omega, ?b4, ?b5, fun n rs' hs' hp hl' => ⟨4, _, rfl, ?b2, ?b3⟩⟩
      case b0 => walk_at "ev"
      case b1 =>
        refine' ea_cons (by walk_at "ev") (ea_cons ?d1 (ea_cons ?d2 ea_nil))
        case d1 => walk_at "ev"
        case d2 =>
          have e1 : (([q1, q2, q3].take (z % 4)).map fun k => D.int (k : Nat)) = cutD ([q1, q2, q3].map fun k => D.int (k : Nat)) none (some ((z : Int) % 4)) := by
            rw [show ((z : Int) % 4) = ((z % 4 : Nat) : Int) by omega, cutD_take, List.map_take]
          rw [e1]
          walk_at "ev"
      case b4 => simp; omega
      case b5 =>
        intro k hk
        have := List.mem_of_mem_take hk
        simp at this
        rcases this with rfl | rfl | rfl
        · exact h7 _ m1
        · exact h7 _ m2
        · exact h7 _ m3
      case b2 => rw [List.length_map]; exact small_lt (by omega)
      case b3 =>
      walk_at "sq"
      obtain ⟨l1, l2, l3⟩ := put_len hp
      refine c_perm ?_ (hn _ _ _ ⟨rs', hs', ps ++ [n], _, _, _, _, rfl, rfl, hl', put_wf hp h2 ?_, put_ok hp h3 ⟨hn2, by simp; omega⟩, put_nd hp h4, by omega, by simp; omega, fun k hk => ?_⟩)
      · rw [List.map_append]
        exact (prot (StoreL w s r d h rs' hs') (pp, .lst ((ps.map fun k => D.int (k : Nat)) ++ [.int (n : Nat)]))).symm
      · intro k hk
        have := List.mem_of_mem_take hk
        simp at this
        rcases this with rfl | rfl | rfl
        · exact h7 _ m1
        · exact h7 _ m2
        · exact h7 _ m3
      · rcases List.mem_append.mp hk with z | z
        · have := h7 k z; omega
        · simp at z; omega
    · clear h1 h2 h3 h4 h5 h6 h7 x5 x6
      clear rs hs ps
      rintro _ _ ⟨rs, hs, ps, x5, x6, x7, x8, rfl, rfl, h1, h2, h3, h4, h5, h6, h7⟩
      have el : (rngD (dd : Int).toNat).length = dd := by simp [rngD]
      rw [el] at h5 h6
      obtain ⟨z, hz, hz2⟩ := digit hl hx (i := 20) (by omega) (by omega)
      have pos : (0 : Int) < ((ps.map fun k => D.int (k : Nat)).length : Nat) := by rw [List.length_map]; omega
      have pick : ∀ v : Int, ∃ q : Nat, atI (ps.map fun k => D.int (k : Nat)) (v % ((ps.map fun k => D.int (k : Nat)).length : Nat)) = some (.int (q : Nat)) ∧ q ∈ ps := fun v => by
        rw [List.length_map]
        have a0 := Int.emod_nonneg v (b := (ps.length : Nat)) (by omega)
        have a1 := Int.emod_lt_of_pos v (b := (ps.length : Nat)) (by omega)
        have hj : (v % (ps.length : Nat)).toNat < ps.length := by omega
        exact ⟨ps[(v % (ps.length : Nat)).toNat], atI_of (j := (v % (ps.length : Nat)).toNat) (by rw [List.getElem?_map, List.getElem?_eq_getElem hj]; rfl) (by omega), List.getElem_mem hj⟩
      obtain ⟨q1, p1, m1⟩ : ∃ q : Nat, atI (ps.map fun k => D.int (k : Nat)) (-1) = some (.int (q : Nat)) ∧ q ∈ ps := by
        have hj : ps.length - 1 < ps.length := by omega
        exact ⟨ps[ps.length - 1], by
          refine atI_m1 ?_
          rw [List.length_map, List.getElem?_map, List.getElem?_eq_getElem hj]
          rfl, List.getElem_mem hj⟩
      obtain ⟨q2, p2, m2⟩ := pick (z : Int)
      walk_at "sq"
      refine' c_setCall (ds := [.ref s, .str "h", .lst ([q1, q2].map fun k => D.int (k : Nat))]) _ ?b1 ⟨s, r, d, h, rs, hs, "h", [q1, q2], rfl, rfl, h1, by omega, by simp, ?b4, fun n rs' hs' hp hl' => ?b3⟩
      case b1 =>
        refine' ea_cons (by walk_at "ev") (ea_cons (by walk_at "ev") (ea_cons (ev_frzL ?d2) ea_nil))
        show EvN K R Z _ _ _ (.lst [.int (q1 : Nat), .int (q2 : Nat)])
        walk_at "ev"
      case b4 =>
        intro k hk
        simp at hk
        rcases hk with rfl | rfl
        · exact h7 _ m1
        · exact h7 _ m2
      case b3 =>
      walk_at "sq"
      obtain ⟨l1, l2, l3⟩ := put_len hp
      have hw' : Wf rs' := put_wf hp h2 (by
        intro k hk
        simp [Row.ks] at hk
        rcases hk with rfl | rfl
        · exact h7 _ m1
        · exact h7 _ m2)
      have ho' : ∀ r ∈ rs', RowOk r := put_ok hp h3 ⟨by simp, by simp⟩
      refine' c_retCallS (ds := [.ref s, .int (n : Nat)]) hq _ ?b5 ⟨s, r, d, h, rs', hs', n, rfl, rfl, hw', few_ok ho', by omega, l3, fun o hp2 hnd hla => ⟨[], List.nil_sublist _, ?b6⟩⟩
      case b5 => walk_at "ev"
      case b6 => exact hP rs' o ⟨hw', ho', put_nd hp h4, by omega, hp2, hnd, n, q1, q2, hla, hp.1⟩
end
end W63
set_option Elab.async false
set_option linter.all false
/-! The plain side: prefixes of texts, dict keys. -/
namespace W63
open PySem L2 DL
def pre (s : Str) (n : Nat) : Str := ⟨(s.cps.toList.take n).toArray⟩
def IsPre (y x : Str) : Prop := y.cps.toList <+: x.cps.toList
theorem cutS_pre (s : Str) (n : Nat) : cutS s none (some (n : Int)) = pre s n := by
  unfold cutS pre
  rw [HT.sIx_none, show HT.sIx s.length s.length (some (n : Int)) = min n s.length from HT.sIx_nat s.length s.length n]
  congr 1
  have : s.length = s.cps.toList.length := by simp [Str.length]
  simp [this]
theorem str_ext {a b : Str} (h : a.cps.toList = b.cps.toList) : a = b := by
  cases a; cases b
  congr 1
  exact Array.toList_inj.mp h
theorem pre_is (s : Str) (n : Nat) : IsPre (pre s n) s := by unfold IsPre pre; simp; exact List.take_prefix _ _
theorem IsPre.eq {y x : Str} (h : IsPre y x) : y = pre x y.length := by
  apply str_ext
  unfold pre
  have e : y.length = y.cps.toList.length := by simp [Str.length]
  rw [e]
  simp only [List.toList_toArray]
  obtain ⟨t, ht⟩ := h
  rw [← ht]; simp
theorem IsPre.len {y x : Str} (h : IsPre y x) : y.length ≤ x.length := by
  have := h.length_le
  simpa [Str.length] using this
theorem IsPre.trans {a b c : Str} (h : IsPre a b) (k : IsPre b c) : IsPre a c := List.IsPrefix.trans h k
theorem IsPre.refl (a : Str) : IsPre a a := List.prefix_rfl
theorem pre_len (s : Str) (n : Nat) : (pre s n).length = min n s.length := by unfold pre Str.length; simp
theorem pre_pre (s : Str) {m n : Nat} (h : m ≤ n) : IsPre (pre s m) (pre s n) := by unfold IsPre pre; simp; exact List.take_prefix_take_left h
theorem pre_all (s : Str) {n : Nat} (h : s.length ≤ n) : pre s n = s := by
  apply str_ext
  unfold pre
  simp only [List.toList_toArray]
  rw [List.take_of_length_le]
  simpa [Str.length] using h
theorem nil_pre (s : Str) : IsPre "" s := by
  unfold IsPre
  have : (("" : Str).cps.toList) = [] := rfl
  rw [this]
  exact List.nil_prefix
/-! keys -/
theorem kPutK_mem {ks : List Key} {j k : Key} : k ∈ kPutK ks j ↔ k ∈ ks ∨ k = j := by
  unfold kPutK
  split
  · rename_i h
    exact ⟨.inl, fun z => z.elim id fun e => e ▸ h⟩
  · simp
theorem kPutK_nd {ks : List Key} {j : Key} (h : ks.Nodup) : (kPutK ks j).Nodup := by
  unfold kPutK
  split
  · exact h
  · rename_i hn
    exact List.nodup_append.mpr ⟨h, by simp, fun a ha b hb e => by simp at hb; subst hb; subst e; exact hn ha⟩
theorem dcF_facts : ∀ (n : Nat) (ps : List (Key × D)), ps.length = n → (dcF ps).1.Nodup ∧ ∀ k, k ∈ (dcF ps).1 ↔ k ∈ ps.map (·.1)
  | 0, ps, h => by rw [List.length_eq_zero_iff.mp h]; simp [dcF]
  | n + 1, ps, h => by
    obtain ⟨p, x, rfl⟩ : ∃ p x, ps = p ++ [x] := ⟨ps.dropLast, ps.getLast (by intro z; rw [z] at h; cases h), (List.dropLast_concat_getLast _).symm⟩
    obtain ⟨h1, h2⟩ := dcF_facts n p (by simpa using h)
    rw [dcF_snoc]
    refine ⟨kPutK_nd h1, fun k => ?_⟩
    show k ∈ kPutK _ _ ↔ _
    rw [kPutK_mem, h2]
    simp
/-- the texts among keys -/
def strsK (ks : List Key) : List Str := ks.filterMap fun k => match k with | .inr s => some s | .inl _ => none
theorem strsK_eq : ∀ {ks : List Key}, (∀ k ∈ ks, ∃ s, k = .inr s) → ks = (strsK ks).map .inr
  | [], _ => rfl
  | k :: ks, h => by
    obtain ⟨s, rfl⟩ := h k List.mem_cons_self
    have := strsK_eq (ks := ks) fun k hk => h k (List.mem_cons_of_mem _ hk)
    show Sum.inr s :: ks = Sum.inr s :: (strsK ks).map .inr
    rw [← this]
theorem kD_inr (zs : List Str) : (zs.map (Sum.inr : Str → Key)).map kD = zs.map D.str := by simp [Function.comp_def, kD]
theorem inr_nd {zs : List Str} (h : (zs.map (Sum.inr : Str → Key)).Nodup) : zs.Nodup := by
  rw [List.nodup_iff_pairwise_ne] at *
  exact (List.pairwise_map.mp h).imp fun hne e => hne (by rw [e])
/-- texts in order, each once -/
def ordS (xs : List Str) : List Str := (strsK (dcF (xs.map fun x => ((Sum.inr x : Key), D.bl true))).1).mergeSort (PySem.W.dataLe false pkey)
theorem ddS_facts (xs : List Str) : (dcF (xs.map fun x => ((Sum.inr x : Key), D.bl true))).1 = (strsK (dcF (xs.map fun x => ((Sum.inr x : Key), D.bl true))).1).map .inr ∧ (strsK (dcF (xs.map fun x => ((Sum.inr x : Key), D.bl true))).1).Nodup ∧
    ∀ y, y ∈ strsK (dcF (xs.map fun x => ((Sum.inr x : Key), D.bl true))).1 ↔ y ∈ xs := by
  obtain ⟨h1, h2⟩ := dcF_facts _ (xs.map fun x => ((Sum.inr x : Key), D.bl true)) rfl
  have e := strsK_eq (ks := (dcF (xs.map fun x => ((Sum.inr x : Key), D.bl true))).1) fun k hk => by
    have := (h2 k).mp hk
    simp at this
    obtain ⟨s, _, rfl⟩ := this
    exact ⟨s, rfl⟩
  refine ⟨e, inr_nd (e ▸ h1), fun y => ?_⟩
  have h3 := h2 (.inr y)
  rw [e] at h3
  simpa using h3
theorem ordS_nd (xs : List Str) : (ordS xs).Nodup := (List.mergeSort_perm _ _).nodup_iff.mpr (ddS_facts xs).2.1
theorem ordS_mem (xs : List Str) (y : Str) : y ∈ ordS xs ↔ y ∈ xs := ((List.mergeSort_perm _ _).mem_iff).trans ((ddS_facts xs).2.2 y)
theorem ordS_len (xs : List Str) : (ordS xs).length ≤ xs.length := by
  unfold ordS
  rw [List.length_mergeSort]
  have h1 := dcF_len (xs.map fun x => ((Sum.inr x : Key), D.bl true))
  rw [(ddS_facts xs).1, List.length_map, List.length_map] at h1
  exact h1
end W63
set_option Elab.async false
set_option linter.all false
set_option maxRecDepth 100000
set_option maxHeartbeats 4000000
namespace W63
open PySem PySem.Spec PyProof.Rows L2 DL
/-! steps of the walk by data -/
local macro_rules | `(tactic| walk_at "side") => `(tactic| first | (with_reducible show D) | (with_reducible show Int) | (with_reducible show Nat) | (with_reducible show List _) | (with_reducible show Bool) | (with_reducible show Str) | (with_reducible show Option _) | (with_reducible show Addr) | (with_reducible show MO) | (with_reducible show Key) | with_reducible rfl | assumption | omega | (with_reducible exact atI0) | (with_reducible exact atI1) | (with_reducible exact atI2) | (with_reducible exact atI3) | ((with_reducible refine' cdiv ?_ ?_) <;> omega) | ((with_reducible refine' cmulR ?_ ?_) <;> omega) | ((with_reducible refine' cmulL ?_ ?_) <;> omega) | ((with_reducible refine' cpow ?_ ?_ ?_) <;> decide) | ((with_reducible refine' small_sz ?_) <;> first | assumption | omega | decide | (simp only [List.length_map, List.length_append, List.length_cons, List.length_nil, List.length_set] <;> omega)) | ((with_reducible refine' small_lt ?_) <;> first | assumption | omega | decide | (simp only [List.length_map, List.length_append, List.length_cons, List.length_nil, List.length_set] <;> omega)) | (show (0 : Int) < _; omega) | decide | skip)
local macro_rules | `(tactic| walk_at "look") => `(tactic| first | (with_reducible exact look0) | (with_reducible exact look1) | (with_reducible exact look2) | (with_reducible exact look3) | (with_reducible exact look4) | (with_reducible exact look5) | (with_reducible exact look6) | (with_reducible exact look7) | (with_reducible exact look8) | (with_reducible exact look9) | (with_reducible exact look10))
local macro_rules | `(tactic| walk_at "ev") => `(tactic| first
  | (with_reducible show D) | (with_reducible show Int) | (with_reducible show Nat) | (with_reducible show List _) | (with_reducible show Bool) | (with_reducible show Str) | (with_reducible show Option _) | (with_reducible show Addr) | (with_reducible show MO) | (with_reducible show Key)
  | ((with_reducible refine' ev_var ?_) <;> first | (with_reducible show D) | rfl)
  | (with_reducible exact ev_int)
  | (with_reducible exact ev_str)
  | (with_reducible exact ev_bl)
  | (with_reducible exact ev_non)
  | ((with_reducible refine' ev_op ?_ ?_ ?_) <;> walk_at "ev")
  | ((with_reducible refine' en_op ?_ ?_ ?_) <;> walk_at "ev")
  | ((with_reducible refine' ev_tup ?_ ?_) <;> walk_at "ev")
  | ((with_reducible refine' en_lst ?_ ?_) <;> walk_at "ev")
  | (with_reducible exact en_dk)
  | (with_reducible exact en_dn)
  | ((with_reducible refine' ev_cb ?_ ?_) <;> walk_at "ev")
  | ((with_reducible refine' en_cb ?_ ?_) <;> walk_at "ev")
  | (with_reducible exact ea_nil)
  | ((with_reducible refine' ea_cons ?_ ?_) <;> walk_at "ev")
  | ((with_reducible refine' ev_neg ?_) <;> walk_at "ev")
  | ((with_reducible refine' ev_slS ?_ ?_ ?_ ?_) <;> walk_at "ev")
  | ((with_reducible refine' ev_slT ?_ ?_ ?_) <;> walk_at "ev")
  | ((with_reducible refine' en_slL ?_ ?_ ?_) <;> walk_at "ev")
  | ((with_reducible refine' en_slO ?hn ?ha ?hl ?hh); (case ha => walk_at "ev"); (case hn => walk_at "look"); (case hl => walk_at "ev"); (case hh => walk_at "ev"))
  | (with_reducible exact eo_none)
  | ((with_reducible refine' eo_some ?_) <;> walk_at "ev")
  | ((with_reducible refine' et_test ?_) <;> walk_at "ev")
  | ((with_reducible refine' et_B ?_) <;> walk_at "ev")
  | ((with_reducible refine' et_not ?_) <;> walk_at "ev")
  | (with_reducible exact rv_II)
  | (with_reducible exact rv_IB)
  | (with_reducible exact ru_addI)
  | (with_reducible exact ru_eqI)
  | (with_reducible exact ru_neI)
  | (with_reducible exact ru_eqS)
  | (with_reducible exact ru_neS)
  | ((with_reducible refine' rv_IC ?_) <;> walk_at "side")
  | ((with_reducible refine' ru_mulI ?_) <;> walk_at "side")
  | ((with_reducible refine' ru_mulS ?_ ?_ ?_) <;> walk_at "side")
  | ((with_reducible refine' ru_addS ?_) <;> walk_at "side")
  | ((with_reducible refine' ru_addT ?_) <;> walk_at "side")
  | ((with_reducible refine' rv_ixT ?_) <;> walk_at "side")
  | ((with_reducible refine' rv_ixL ?_) <;> walk_at "side")
  | ((with_reducible refine' rv_ixF ?_) <;> walk_at "side")
  | ((with_reducible refine' rv_ixS ?_ ?_) <;> walk_at "side")
  | ((with_reducible refine' rv_ixO ?hn ?ha); (case hn => walk_at "look"); (case ha => walk_at "side"))
  | (with_reducible exact rc_int)
  | (with_reducible exact rc_intb)
  | (with_reducible exact rc_max2)
  | (with_reducible exact rc_min2)
  | (with_reducible exact rc_tupL)
  | (with_reducible exact rc_tupT)
  | (with_reducible exact rc_lenK)
  | (with_reducible exact rc_lenT)
  | (with_reducible exact rc_lenL)
  | (with_reducible exact rc_lenF)
  | (with_reducible exact rcn_listL)
  | (with_reducible exact rcn_listT)
  | ((with_reducible refine' rc_lenS ?_) <;> walk_at "side")
  | ((with_reducible refine' rc_lenO ?hn); (case hn => walk_at "look"))
  | ((with_reducible refine' rc_lenOK ?hn); (case hn => walk_at "look"))
  | ((with_reducible refine' rc_tupO ?hn); (case hn => walk_at "look"))
  | ((with_reducible refine' rcn_listO ?hn); (case hn => walk_at "look"))
  | ((with_reducible refine' rcn_listK ?hn); (case hn => walk_at "look"))
  | ((with_reducible refine' rv_ixIn ?hn ?hq ?hd ?ha); (case hn => walk_at "look"); (case hq => assumption); (case hd => assumption); (case ha => walk_at "side"))
  | ((with_reducible refine' rv_ixLL ?hn ?ha); (case hn => walk_at "look"); (case ha => walk_at "side"))
  | ((with_reducible refine' et_truLL ?hn ?ha); (case ha => walk_at "ev"); (case hn => walk_at "look"))
  | ((with_reducible refine' et_truO ?hn ?ha); (case ha => walk_at "ev"); (case hn => walk_at "look"))
  | ((with_reducible refine' et_in _ ?hn ?hx ?hd ?hk); (case hd => walk_at "ev"); (case hx => walk_at "ev"); (case hn => walk_at "look"); (case hk => first | exact dkI | exact dkS))
  | ((with_reducible refine' et_notin _ ?hn ?hx ?hd ?hk); (case hd => walk_at "ev"); (case hx => walk_at "ev"); (case hn => walk_at "look"); (case hk => first | exact dkI | exact dkS))
  | ((with_reducible refine' ev_dget _ ?hn ?hd ?hx ?hk ?hg); (case hd => walk_at "ev"); (case hx => walk_at "ev"); (case hn => walk_at "look"); (case hk => first | exact dkI | exact dkS); (case hg => walk_at "side"))
  | ((with_reducible refine' ev_frzL ?_) <;> walk_at "ev")
  | walk_at "side")
local macro_rules | `(tactic| walk_at "sq") => `(tactic| ((try (refine c_next ?_)); (try (refine c_seq ?_)); try dsimp only [List.set]))
local macro_rules | `(tactic| walk_at "set") => `(tactic| ((refine' c_set ?h1 ?h2); (case h1 => walk_at "ev")))
local macro_rules | `(tactic| walk_at "app") => `(tactic| ((refine' c_append _ ?hn ?ha ?hx ?hl ?hq); (case ha => walk_at "ev"); (case hx => walk_at "ev"); (case hn => walk_at "look"); (case hl => walk_at "side")))
local macro_rules | `(tactic| walk_at "fld") => `(tactic| ((refine' c_fld _ ?hn ?hv ?ha ?hc ?hf ?hl ?hq); (case ha => walk_at "ev"); (case hv => walk_at "ev"); (case hn => walk_at "look"); (case hc => assumption); (case hf => assumption); (case hl => decide)))
local macro_rules | `(tactic| walk_at "it") => `(tactic| first
  | (refine' ei_tup ?h1; (case h1 => walk_at "ev"))
  | (refine' ei_lst ?h1; (case h1 => walk_at "ev"))
  | (refine' ei_fz ?h1; (case h1 => walk_at "ev"))
  | (refine' ei_range ?h1 ?h2 ?h3; (case h1 => walk_at "ev"); (case h2 => first | omega | (simp <;> omega)); (case h3 => first | omega | (simp <;> omega))))
local macro_rules | `(tactic| walk_at "if") => `(tactic| ((refine' c_if ?hc ?ht ?he); (case hc => walk_at "ev")))
local macro_rules | `(tactic| walk_at "ret") => `(tactic| ((try (refine c_next ?_)); (try dsimp only [List.set]); (refine' c_ret (by assumption) ?h1 ?h2); (case h1 => walk_at "ev")))
local macro_rules | `(tactic| walk_at "dput") => `(tactic| ((refine' c_dput _ ?hn ?hv ?hd ?hx ?hk ?hl ?hq); (case hd => walk_at "ev"); (case hv => walk_at "ev"); (case hx => walk_at "ev"); (case hn => walk_at "look"); (case hk => first | exact dkI | exact dkS); (case hl => walk_at "side")))
local macro_rules | `(tactic| walk_at "popLL") => `(tactic| ((refine' c_popLL _ ?hn ?ha ?hz ?hq); (case ha => walk_at "ev"); (case hn => walk_at "look"); (case hz => walk_at "side")))
local macro_rules | `(tactic| walk_at "evt") => `(tactic| ((refine' et_is ?h1 ?h2); (case h1 => walk_at "ev"); (case h2 => first | rfl | decide | (simp <;> omega) | assumption)))

abbrev s_path_key : Stmt := topS 4
abbrev n_path_key : List Str := ["path"]
theorem sc_path_key : FnScope n_path_key ["path"] (defScope s_path_key) := ⟨rfl, rfl, rfl, by decide +kernel, rfl, by decide +kernel, by decide +kernel⟩
abbrev s_in_order : Stmt := topS 5
abbrev n_in_order : List Str := ["paths", "seen", "path"]
theorem sc_in_order : FnScope n_in_order ["paths"] (defScope s_in_order) := ⟨rfl, rfl, rfl, by decide +kernel, rfl, by decide +kernel, by decide +kernel⟩
abbrev s_closed : Stmt := topS 6
abbrev n_closed : List Str := ["paths", "seen", "path", "count"]
theorem sc_closed : FnScope n_closed ["paths"] (defScope s_closed) := ⟨rfl, rfl, rfl, by decide +kernel, rfl, by decide +kernel, by decide +kernel⟩
def c_order : List D → Led → (D → Led → Prop) → Prop := fun ds Γ P => ∃ xs : List Str, ds = [.lst (xs.map .str)] ∧ Γ = [] ∧ (∀ x ∈ xs, x.length ≤ 1000) ∧ xs.length ≤ 1000000 ∧ P (.tup ((ordS xs).map .str)) []
def c_closed : List D → Led → (D → Led → Prop) → Prop := fun ds Γ P => ∃ xs : List Str, ds = [.lst (xs.map .str)] ∧ Γ = [] ∧ (∀ x ∈ xs, x.length ≤ 1000) ∧ xs.length ≤ 100 ∧
  ∀ ks : List Str, ks.Nodup → (∀ y, y ∈ ks ↔ ∃ x ∈ xs, IsPre y x) → ks.length ≤ 100100 → P (.tup ((ordS ks).map .str)) []
section
variable {P : Program} {w : World} {K : PySem.W.Frag} {mg : Str → Option Value} {base : Heap}
theorem key_fn (F : Def K mg "path_key" s_path_key) (T : Txt mg) : ∃ f, KeyFn P w mg K base f ∧ mg "path_key" = some (.ref f) := by
  obtain ⟨f, fd, F, hm⟩ := F.ex
  exact ⟨f, fun s x t A hd M bk hx => key_run F rfl ⟨rfl, rfl, rfl, rfl⟩ (fun _ _ _ _ _ _ _ => rfl) (fun _ _ _ => rfl) (fun _ _ _ => rfl) (by decide) M T.b_len bk hd hx, hm⟩
theorem ok_order (F : Def K mg "in_order" s_in_order) (T : Txt mg) (Fk : Def K mg "path_key" s_path_key) : Cal P w K mg base "in_order" 1 ["paths"] (SpG K c_order) := by
  obtain ⟨f_path_key, N_path_key, g_path_key⟩ := key_fn (P := P) (w := w) (base := base) Fk T
  refine F.cal sc_in_order (fun _ _ _ _ _ _ us hl => match us, hl with | [_], _ => rfl) (fun ds Γ P h => ?_) (fun f cdv A outer s H E hr => ?_)
  · obtain ⟨_, rfl, _⟩ := h; rfl
  have hu := hu_of hr
  refine ⟨_, (pss_cons (ps_setDc (i := 1) (own := [("path", 2)]) rfl sc_in_order.nd rfl rfl (swD_true rfl rfl rfl (by decide +kernel)) (pi_seq (pv 0)) (blkOk_by (own := [("path", 2)]) (N := n_in_order) (sc := defScope s_in_order) (by decide +kernel)) (fun _ _ _ _ _ => (pg_name (i := 2) sc_in_order.nd rfl (by first | exact .inl rfl | exact .inr rfl))) (fun _ _ _ _ _ => pts_nil) (fun _ _ _ _ _ => (pv 2)) (fun _ _ _ _ _ => pe_bl))
 (pss_one (ps_ret (pe_callTy (call_tupOfK (K := K)) rfl T.b_tuple (by decide +kernel) (pa_cons (pe_callBK (cr_sortKey hr N_path_key) rfl T.b_sorted (by decide +kernel) (pa_cons (pe_callTy (call_lstUK (K := K) rfl) rfl T.b_list (by decide +kernel) (pa_cons (pv 1) pa_nil)) pa_nil) (pk_cons (pe_glob (v := .ref f_path_key) rfl g_path_key rfl) pk_nil)) pa_nil)))))
, ?_⟩
  try dsimp only [cxOf, Cx.nox, Cx.wish]
  rintro R Z _ _ P Q ⟨xs, rfl, rfl, hx, hl, hP⟩ hq
  show Cont K R Z _ [some (.lst (xs.map .str)), none, none] []
  walk_at "sq"
  refine c_setN (m := .dk (dcF ((xs.map D.str).map fun d => (((match d with | .str s => .inr s | _ => .inl 0) : Key), D.bl true))).1 (dcF ((xs.map D.str).map fun d => (((match d with | .str s => .inr s | _ => .inl 0) : Key), D.bl true))).2) (en_dc id (fun _ => .bl true) (fun d => match d with | .str s => .inr s | _ => .inl 0) _ (by walk_at "it") (small_sz (by simpa using hl)) (fun d _ => tc_name) (fun d hd e l he => ?_) (fun d hd => ?_) (fun d hd e l he => ?_)) fun pp _ => ?_
  · walk_at "ev"
  · obtain ⟨s, _, rfl⟩ := List.mem_map.mp hd; rfl
  · walk_at "ev"
  walk_at "sq"
  have e0 : (dcF ((xs.map D.str).map fun d => (((match d with | .str s => .inr s | _ => .inl 0) : Key), D.bl true))).1 = (strsK (dcF (xs.map fun x => ((Sum.inr x : Key), D.bl true))).1).map .inr := by
    rw [List.map_map]; exact (ddS_facts xs).1
  rw [e0]
  refine' c_retS [] hq (d := .tup ((ordS xs).map D.str)) (ev_cb (ea_cons (ev_frzL (en_sortKey (ea_cons (ev_frzL (en_cb ?h1 ?h2)) ea_nil) ?h3 ?h4)) ea_nil) rc_tupL) (List.nil_sublist _) hP
  case h1 => walk_at "ev"
  case h2 =>
    rw [← kD_inr (strsK (dcF (xs.map fun x => ((Sum.inr x : Key), D.bl true))).1)]
    exact rcn_listK (n := 0) rfl
  case h3 => exact ea_cons ev_refC ea_nil
  case h4 => intro x h; exact small_sz (Nat.le_trans (hx x (((ddS_facts xs).2.2 x).mp h)) (by decide))
theorem ok_closed (F : Def K mg "closed" s_closed) (T : Txt mg) (C_in_order : Cal P w K mg base "in_order" 1 ["paths"] (SpG K c_order)) : Cal P w K mg base "closed" 2 ["paths"] (SpG K c_closed) := by
  refine F.cal sc_closed (fun _ _ _ _ _ _ us hl => match us, hl with | [_], _ => rfl) (fun ds Γ P h => ?_) (fun f cdv A outer s H E hr => ?_)
  · obtain ⟨_, rfl, _⟩ := h; rfl
  have hu := hu_of hr
  refine ⟨_, (pss_cons (ps_set (i := 1) sc_closed.nd rfl (by first | exact .inl rfl | exact .inr rfl) pe_dnewK)
 (pss_cons (ps_for PassesOwn.never rfl (pi_seq (pv 0)) (pg_name (i := 2) sc_closed.nd rfl (by first | exact .inl rfl | exact .inr rfl)) (pss_one (ps_for PassesOwn.never rfl (pi_range3 rfl T.b_range (pa_cons (pe_callB (call_lenUK (K := K)) rfl T.b_len (by decide +kernel) (pa_cons (pv 2) pa_nil)) (pa_cons (pe_un un_neg pe_int) (pa_cons (pe_un un_neg pe_int) pa_nil)))) (pg_name (i := 3) sc_closed.nd rfl (by first | exact .inl rfl | exact .inr rfl)) (pss_cons (ps_if (pt_cmp (pc_din hu (pe_slice (sl_UK (K := K)) (pv 2) po_none (po_some (pv 3))) (pv 1))) (pss_one ps_break) pss_nil)
 (pss_one (ps_dput hu (pv 1) (pe_slice (sl_UK (K := K)) (pv 2) po_none (po_some (pv 3))) pe_bl rfl))))))
 (pss_one (ps_ret (pe_cal C_in_order hr (pa_cons (pe_callTy (call_lstUK (K := K) rfl) rfl T.b_list (by decide +kernel) (pa_cons (pv 1) pa_nil)) pa_nil))))))
, ?_⟩
  try dsimp only [cxOf, Cx.nox, Cx.wish]
  rintro R Z _ _ P Q ⟨xs, rfl, rfl, hx, hl, hP⟩ hq
  show Cont K R Z _ [some (.lst (xs.map .str)), none, none, none] []
  walk_at "sq"
  refine c_setN (m := .dk [] []) (by walk_at "ev") fun pp _ => ?_
  walk_at "sq"
  refine c_for' (fun i E Γ => ∃ (ks : List Str) (vs : List D) (x2 x3 : Option D), E = [some (.lst (xs.map .str)), some (.ref pp), x2, x3] ∧ Γ = [(pp, .dk (ks.map .inr) vs)] ∧ ks.length = vs.length ∧ ks.Nodup ∧ ks.length ≤ i * 1001 ∧ ∀ y, y ∈ ks ↔ ∃ x ∈ xs.take i, IsPre y x) (by walk_at "it") ?_ ?_ ?_
  · exact ⟨[], [], none, none, rfl, rfl, rfl, List.nodup_nil, Nat.zero_le _, by simp⟩
  · rintro nx e he hn i x _ _ hd ⟨ks, vs, x2, x3, rfl, rfl, h1, h2, h3, h4⟩
    rw [List.getElem?_map] at hd
    cases hxi : xs[i]? with
    | none => rw [hxi] at hd; cases hd
    | some p =>
    rw [hxi] at hd
    cases hd
    have hi := (List.getElem?_eq_some_iff.mp hxi).1
    have hpl : p.length ≤ 1000 := hx p (List.mem_of_getElem? hxi)
    have tk : xs.take (i + 1) = xs.take i ++ [p] := by rw [List.take_succ, hxi]; rfl
    refine ⟨_, tg_name, ?_⟩
    walk_at "sq"
    have hrg : RgC (p.length : Nat) (-1) (-1) (p.length + 1) := by
      have := RgC.neg (i := (p.length : Nat)) (j := -1) (by omega) (by omega) (by omega) (by omega)
      rwa [show ((p.length : Int) - -1).toNat = p.length + 1 by omega] at this
    refine c_for (fun j E Γ => ∃ (ks : List Str) (vs : List D) (x3 : Option D), E = [some (.lst (xs.map .str)), some (.ref pp), some (.str p), x3] ∧ Γ = [e, (pp, .dk (ks.map .inr) vs)] ∧ ks.length = vs.length ∧ ks.Nodup ∧ ks.length ≤ i * 1001 + j ∧
        ∀ y, y ∈ ks ↔ (∃ x ∈ xs.take i, IsPre y x) ∨ ∃ c : Nat, p.length < c + j ∧ c ≤ p.length ∧ y = pre p c)
      (fun E Γ => ∃ (ks : List Str) (vs : List D) (x3 : Option D), E = [some (.lst (xs.map .str)), some (.ref pp), some (.str p), x3] ∧ Γ = [e, (pp, .dk (ks.map .inr) vs)] ∧ ks.length = vs.length ∧ ks.Nodup ∧ ks.length ≤ (i + 1) * 1001 ∧
        ∀ y, y ∈ ks ↔ ∃ x ∈ xs.take (i + 1), IsPre y x) (ei_range3 (i := (p.length : Nat)) (j := -1) (c := -1) (n := p.length + 1) ?_ hrg) ?_ ?_ ?_ ?_
    · walk_at "ev"
    · exact ⟨ks, vs, x3, rfl, rfl, h1, h2, h3, fun y => ⟨fun z => .inl ((h4 y).mp z), fun z => z.elim (h4 y).mpr fun ⟨c, a, b, _⟩ => by omega⟩⟩
    · clear h1 h2 h3 h4
      clear ks vs x3 x2
      rintro nx2 e2 he2 hn2 hb2 j x _ _ hd ⟨ks, vs, x3, rfl, rfl, h1, h2, h3, h4⟩
      have hj : j < p.length + 1 := by have := (List.getElem?_eq_some_iff.mp hd).1; simpa using this
      have ex : x = .int ((p.length - j : Nat) : Int) := by
        simp [hj] at hd
        rw [← hd]
        congr 1
        omega
      subst ex
      refine ⟨_, tg_name, ?_⟩
      walk_at "sq"
      have ecut : cutS p none (some ((p.length - j : Nat) : Int)) = pre p (p.length - j) := cutS_pre _ _
      refine' c_if (b := decide (((.inr (pre p (p.length - j)) : Key)) ∈ (ks.map .inr : List Key))) ?hc (fun hb => ?_) (fun hb => ?_)
      case hc =>
        rw [← ecut]
        walk_at "ev"
      · have hb : pre p (p.length - j) ∈ ks := by simpa using hb
        walk_at "sq"
        refine hb2 _ _ ⟨ks, vs, _, rfl, rfl, h1, h2, by omega, fun y => ?_⟩
        have key : ∃ x ∈ xs.take i, IsPre (pre p (p.length - j)) x := by
          rcases (h4 _).mp hb with z | ⟨c, c1, c2, c3⟩
          · exact z
          · have a1 := pre_len p (p.length - j)
            have a2 := pre_len p c
            rw [c3] at a1
            omega
        rw [h4, tk]
        obtain ⟨x0, hx0, hp0⟩ := key
        constructor
        · rintro (⟨x, hx1, hx2⟩ | ⟨c, c1, c2, rfl⟩)
          · exact ⟨x, List.mem_append_left _ hx1, hx2⟩
          · exact ⟨p, by simp, pre_is p c⟩
        · rintro ⟨x, hx1, hx2⟩
          rcases List.mem_append.mp hx1 with z | z
          · exact .inl ⟨x, z, hx2⟩
          · simp at z; rw [z] at hx2
            by_cases hc : p.length < y.length + j
            · exact .inr ⟨y.length, hc, hx2.len, hx2.eq⟩
            · refine .inl ⟨x0, hx0, IsPre.trans ?_ hp0⟩
              rw [hx2.eq]
              exact pre_pre p (by omega)
      · have hb : pre p (p.length - j) ∉ ks := by simpa using hb
        walk_at "sq"
        have hkl : (ks.map (.inr : Str → Key)).length < sizeLine := by rw [List.length_map]; exact small_lt (by omega)
        have hbk : (.inr (pre p (p.length - j)) : Key) ∉ (ks.map .inr : List Key) := by simpa using hb
        rw [← ecut] at hbk hb
        walk_at "dput"
        walk_at "sq"
        rw [show kPutK (ks.map .inr) (.inr (cutS p none (some ((p.length - j : Nat) : Int)))) = (ks ++ [pre p (p.length - j)]).map .inr by unfold kPutK; rw [if_neg hbk, List.map_append, ← ecut]; rfl, kPutV_out (by rw [List.length_map]; exact h1) hbk]
        rw [ecut] at hb
        refine hn2 _ _ _ ⟨ks ++ [pre p (p.length - j)], vs ++ [.bl true], _, rfl, rfl, by simp [h1], ?_, by simp; omega, fun y => ?_⟩
        · exact List.nodup_append.mpr ⟨h2, by simp, fun a ha b hb' z => by simp at hb'; subst hb'; subst z; exact hb ha⟩
        · rw [List.mem_append, h4]
          constructor
          · rintro ((z | ⟨c, c1, c2, c3⟩) | z)
            · exact .inl z
            · exact .inr ⟨c, by omega, c2, c3⟩
            · simp at z
              exact .inr ⟨p.length - j, by omega, by omega, z⟩
          · rintro (z | ⟨c, c1, c2, c3⟩)
            · exact .inl (.inl z)
            · by_cases hc : c = p.length - j
              · subst hc; exact .inr (by simp [c3])
              · exact .inl (.inr ⟨c, by omega, c2, c3⟩)
    · rintro E Γ ⟨ks, vs, x3, rfl, rfl, h1, h2, h3, h4⟩
      exact hn _ _ _ ⟨ks, vs, _, _, rfl, rfl, h1, h2, h3, h4⟩
    · rintro E Γ ⟨ks, vs, x3, rfl, rfl, h1, h2, h3, h4⟩
      simp only [List.length_map, List.length_range] at h3 h4
      refine hn _ _ _ ⟨ks, vs, _, _, rfl, rfl, h1, h2, by omega, fun y => ?_⟩
      rw [h4, tk]
      constructor
      · rintro (⟨x, hx1, hx2⟩ | ⟨c, c1, c2, rfl⟩)
        · exact ⟨x, List.mem_append_left _ hx1, hx2⟩
        · exact ⟨p, by simp, pre_is p c⟩
      · rintro ⟨x, hx1, hx2⟩
        rcases List.mem_append.mp hx1 with z | z
        · exact .inl ⟨x, z, hx2⟩
        · simp at z; rw [z] at hx2
          exact .inr ⟨y.length, by omega, hx2.len, hx2.eq⟩
  · rintro E Γ ⟨ks, vs, x2, x3, rfl, rfl, h1, h2, h3, h4⟩
    simp only [List.length_map, List.take_length] at h3 h4
    walk_at "sq"
    refine' c_retCallS (ds := [.lst (ks.map .str)]) hq [] ?b5 ⟨ks, rfl, rfl, fun y hy => ?_, by omega, [], List.nil_sublist _, hP ks h2 h4 (by omega)⟩
    case b5 =>
      refine ea_cons (ev_frzL (en_cb (ea_cons (by walk_at "ev") ea_nil) ?_)) ea_nil
      rw [← kD_inr ks]
      exact rcn_listK (n := 0) rfl
    · obtain ⟨x, hx1, hx2⟩ := (h4 y).mp hy
      exact Nat.le_trans hx2.len (hx x hx1)
end
end W63
set_option Elab.async false
set_option linter.all false
/-! The plain side: the sheet as the program sees it. -/
namespace W63
open PySem L2 DL
def seqD (b : Bool) (ds : List D) : D := if b then .lst ds else .tup ds
def Row.cells : Row → List D
  | .thing p => [.str "thing", .str p]
  | .deed n ks => [.str "deed", .str n, .tup (ks.map fun k => D.int (k : Nat))]
def shD (b : Bool) (rs : List Row) : D := seqD b (rs.map fun r => seqD b r.cells)
theorem Row.d_cells (r : Row) : r.d = .tup r.cells := by cases r <;> rfl
theorem shD_tup (rs : List Row) : shD false rs = .tup (rs.map Row.d) := by
  unfold shD seqD
  simp [Row.d_cells]
theorem seqD_seq (b : Bool) (ds : List D) : DSeq (seqD b ds) ds := by cases b <;> rfl
theorem seqD_nstr (b : Bool) (ds : List D) (s : Str) : seqD b ds ≠ .str s := by cases b <;> intro z <;> cases z
section
variable {K : PySem.W.Frag} {R Z : Hp} {E : List (Option D)} {Γ : Led} {d : D}
theorem rv_ixQ {b : Bool} {ds : List D} {i : Int} (h : atI ds i = some d) : RV K R Z E Γ (rIx K) (seqD b ds) (.int i) d := by
  cases b
  · exact rv_ixT h
  · exact rv_ixL h
theorem ei_Q {tl : TE} {b : Bool} {ds : List D} (h : EvD K R Z E Γ tl (seqD b ds)) : EvI K R Z E Γ (iSeq K tl) ds := ei_seq h (seqD_seq b ds)
end
/-- kids lead to rows -/
def Near (rs : List Row) : Prop := ∀ r ∈ rs, ∀ k ∈ r.ks, k < rs.length
theorem Wf.near {rs : List Row} (h : Wf rs) : Near rs := fun r hr k hk => by
  obtain ⟨i, hi⟩ := List.mem_iff_getElem?.mp hr
  have := h i r hi k hk
  have := (List.getElem?_eq_some_iff.mp hi).1
  omega
end W63
set_option Elab.async false
set_option linter.all false
/-! The plain side: dicts of numbers. -/
namespace W63
open PySem L2 DL
theorem dcF_nd : ∀ (n : Nat) (ps : List (Key × D)), ps.length = n → (ps.map (·.1)).Nodup → dcF ps = (ps.map (·.1), ps.map (·.2))
  | 0, ps, h, _ => by rw [List.length_eq_zero_iff.mp h]; rfl
  | n + 1, ps, h, hn => by
    obtain ⟨p, x, rfl⟩ : ∃ p x, ps = p ++ [x] := ⟨ps.dropLast, ps.getLast (by intro z; rw [z] at h; cases h), (List.dropLast_concat_getLast _).symm⟩
    rw [List.map_append] at hn
    obtain ⟨h1, _, h3⟩ := List.nodup_append.mp hn
    have hx : x.1 ∉ p.map (·.1) := fun z => h3 _ z _ (by simp) rfl
    rw [dcF_snoc, dcF_nd n p (by simpa using h) h1]
    show (kPutK _ _, kPutV _ _ _ _) = _
    rw [kPutV_out (by simp) hx]
    unfold kPutK
    rw [if_neg hx]
    simp
theorem kGet_at : ∀ {ks : List Key} {ds : List D} {i : Nat} {j : Key} {d : D}, ks.Nodup → ks[i]? = some j → ds[i]? = some d → kGet ks ds j = some d
  | [], _, _, _, _, _, h, _ => by simp at h
  | _ :: _, [], _, _, _, _, _, h => by simp at h
  | k :: ks, d :: ds, 0, j, e, hn, h1, h2 => by
    simp at h1 h2
    subst h1 h2
    simp [kGet]
  | k :: ks, d :: ds, i + 1, j, e, hn, h1, h2 => by
    have hn' := List.nodup_cons.mp hn
    have h1' : ks[i]? = some j := by simpa using h1
    have hne : k ≠ j := fun z => hn'.1 (z ▸ List.mem_of_getElem? h1')
    simp only [kGet, hne, if_false]
    exact kGet_at hn'.2 h1' (by simpa using h2)
def numsD (n : Nat) : List D := (List.range n).map fun i => D.int (i : Nat)
theorem numsD_get {n i : Nat} (h : i < n) : (numsD n)[i]? = some (.int (i : Nat)) := by simp [numsD, h]
theorem inr_nodup {zs : List Str} (h : zs.Nodup) : (zs.map (Sum.inr : Str → Key)).Nodup := by
  rw [List.nodup_iff_pairwise_ne] at *
  exact List.pairwise_map.mpr (h.imp fun hne e => hne (Sum.inr.inj e))
/-- a path's number -/
theorem num_of {paths : List Str} (hn : paths.Nodup) {p : Str} (hp : p ∈ paths) : ∃ i, i < paths.length ∧ paths[i]? = some p ∧ kGet (paths.map .inr) (numsD paths.length) (.inr p) = some (.int (i : Nat)) := by
  obtain ⟨i, hi⟩ := List.mem_iff_getElem?.mp hp
  have hl := (List.getElem?_eq_some_iff.mp hi).1
  exact ⟨i, hl, hi, kGet_at (inr_nodup hn) (by rw [List.getElem?_map, hi]; rfl) (numsD_get hl)⟩
end W63
set_option Elab.async false
set_option linter.all false
set_option maxRecDepth 100000
set_option maxHeartbeats 4000000
namespace W63
open PySem PySem.Spec PyProof.Rows L2 DL
/-! steps of the walk by data -/
local macro_rules | `(tactic| walk_at "side") => `(tactic| first | (with_reducible show D) | (with_reducible show Int) | (with_reducible show Nat) | (with_reducible show List _) | (with_reducible show Bool) | (with_reducible show Str) | (with_reducible show Option _) | (with_reducible show Addr) | (with_reducible show MO) | (with_reducible show Key) | with_reducible rfl | assumption | omega | (with_reducible exact atI0) | (with_reducible exact atI1) | (with_reducible exact atI2) | (with_reducible exact atI3) | ((with_reducible refine' cdiv ?_ ?_) <;> omega) | ((with_reducible refine' cmulR ?_ ?_) <;> omega) | ((with_reducible refine' cmulL ?_ ?_) <;> omega) | ((with_reducible refine' cpow ?_ ?_ ?_) <;> decide) | ((with_reducible refine' small_sz ?_) <;> first | assumption | omega | decide | (simp only [List.length_map, List.length_append, List.length_cons, List.length_nil, List.length_set] <;> omega)) | ((with_reducible refine' small_lt ?_) <;> first | assumption | omega | decide | (simp only [List.length_map, List.length_append, List.length_cons, List.length_nil, List.length_set] <;> omega)) | (show (0 : Int) < _; omega) | decide | skip)
local macro_rules | `(tactic| walk_at "look") => `(tactic| first | (with_reducible exact look0) | (with_reducible exact look1) | (with_reducible exact look2) | (with_reducible exact look3) | (with_reducible exact look4) | (with_reducible exact look5) | (with_reducible exact look6) | (with_reducible exact look7) | (with_reducible exact look8) | (with_reducible exact look9) | (with_reducible exact look10))
local macro_rules | `(tactic| walk_at "ev") => `(tactic| first
  | (with_reducible show D) | (with_reducible show Int) | (with_reducible show Nat) | (with_reducible show List _) | (with_reducible show Bool) | (with_reducible show Str) | (with_reducible show Option _) | (with_reducible show Addr) | (with_reducible show MO) | (with_reducible show Key)
  | ((with_reducible refine' ev_var ?_) <;> first | (with_reducible show D) | rfl)
  | (with_reducible exact ev_int)
  | (with_reducible exact ev_str)
  | (with_reducible exact ev_bl)
  | (with_reducible exact ev_non)
  | ((with_reducible refine' ev_op ?_ ?_ ?_) <;> walk_at "ev")
  | ((with_reducible refine' en_op ?_ ?_ ?_) <;> walk_at "ev")
  | ((with_reducible refine' ev_tup ?_ ?_) <;> walk_at "ev")
  | ((with_reducible refine' en_lst ?_ ?_) <;> walk_at "ev")
  | (with_reducible exact en_dk)
  | (with_reducible exact en_dn)
  | ((with_reducible refine' ev_cb ?_ ?_) <;> walk_at "ev")
  | ((with_reducible refine' en_cb ?_ ?_) <;> walk_at "ev")
  | (with_reducible exact ea_nil)
  | ((with_reducible refine' ea_cons ?_ ?_) <;> walk_at "ev")
  | ((with_reducible refine' ev_neg ?_) <;> walk_at "ev")
  | ((with_reducible refine' ev_slS ?_ ?_ ?_ ?_) <;> walk_at "ev")
  | ((with_reducible refine' ev_slT ?_ ?_ ?_) <;> walk_at "ev")
  | ((with_reducible refine' en_slL ?_ ?_ ?_) <;> walk_at "ev")
  | ((with_reducible refine' en_slO ?hn ?ha ?hl ?hh); (case ha => walk_at "ev"); (case hn => walk_at "look"); (case hl => walk_at "ev"); (case hh => walk_at "ev"))
  | (with_reducible exact eo_none)
  | ((with_reducible refine' eo_some ?_) <;> walk_at "ev")
  | ((with_reducible refine' et_test ?_) <;> walk_at "ev")
  | ((with_reducible refine' et_B ?_) <;> walk_at "ev")
  | ((with_reducible refine' et_not ?_) <;> walk_at "ev")
  | (with_reducible exact rv_II)
  | (with_reducible exact rv_IB)
  | (with_reducible exact ru_addI)
  | (with_reducible exact ru_eqI)
  | (with_reducible exact ru_neI)
  | (with_reducible exact ru_eqS)
  | (with_reducible exact ru_neS)
  | ((with_reducible refine' rv_IC ?_) <;> walk_at "side")
  | ((with_reducible refine' ru_mulI ?_) <;> walk_at "side")
  | ((with_reducible refine' ru_mulS ?_ ?_ ?_) <;> walk_at "side")
  | ((with_reducible refine' ru_addS ?_) <;> walk_at "side")
  | ((with_reducible refine' ru_addT ?_) <;> walk_at "side")
  | ((with_reducible refine' rv_ixT ?_) <;> walk_at "side")
  | ((with_reducible refine' rv_ixL ?_) <;> walk_at "side")
  | ((with_reducible refine' rv_ixF ?_) <;> walk_at "side")
  | ((with_reducible refine' rv_ixS ?_ ?_) <;> walk_at "side")
  | ((with_reducible refine' rv_ixO ?hn ?ha); (case hn => walk_at "look"); (case ha => walk_at "side"))
  | (with_reducible exact rc_int)
  | (with_reducible exact rc_intb)
  | (with_reducible exact rc_max2)
  | (with_reducible exact rc_min2)
  | (with_reducible exact rc_tupL)
  | (with_reducible exact rc_tupT)
  | (with_reducible exact rc_lenK)
  | (with_reducible exact rc_lenT)
  | (with_reducible exact rc_lenL)
  | (with_reducible exact rc_lenF)
  | (with_reducible exact rcn_listL)
  | (with_reducible exact rcn_listT)
  | ((with_reducible refine' rc_lenS ?_) <;> walk_at "side")
  | ((with_reducible refine' rc_lenO ?hn); (case hn => walk_at "look"))
  | ((with_reducible refine' rc_lenOK ?hn); (case hn => walk_at "look"))
  | ((with_reducible refine' rc_tupO ?hn); (case hn => walk_at "look"))
  | ((with_reducible refine' rcn_listO ?hn); (case hn => walk_at "look"))
  | ((with_reducible refine' rcn_listK ?hn); (case hn => walk_at "look"))
  | ((with_reducible refine' rv_ixIn ?hn ?hq ?hd ?ha); (case hn => walk_at "look"); (case hq => assumption); (case hd => assumption); (case ha => walk_at "side"))
  | ((with_reducible refine' rv_ixLL ?hn ?ha); (case hn => walk_at "look"); (case ha => walk_at "side"))
  | ((with_reducible refine' et_truLL ?hn ?ha); (case ha => walk_at "ev"); (case hn => walk_at "look"))
  | ((with_reducible refine' et_truO ?hn ?ha); (case ha => walk_at "ev"); (case hn => walk_at "look"))
  | ((with_reducible refine' et_in _ ?hn ?hx ?hd ?hk); (case hd => walk_at "ev"); (case hx => walk_at "ev"); (case hn => walk_at "look"); (case hk => first | exact dkI | exact dkS))
  | ((with_reducible refine' et_notin _ ?hn ?hx ?hd ?hk); (case hd => walk_at "ev"); (case hx => walk_at "ev"); (case hn => walk_at "look"); (case hk => first | exact dkI | exact dkS))
  | ((with_reducible refine' ev_dget _ ?hn ?hd ?hx ?hk ?hg); (case hd => walk_at "ev"); (case hx => walk_at "ev"); (case hn => walk_at "look"); (case hk => first | exact dkI | exact dkS); (case hg => walk_at "side"))
  | ((with_reducible refine' ev_frzL ?_) <;> walk_at "ev")
  | walk_at "side")
local macro_rules | `(tactic| walk_at "sq") => `(tactic| ((try (refine c_next ?_)); (try (refine c_seq ?_)); try dsimp only [List.set]))
local macro_rules | `(tactic| walk_at "set") => `(tactic| ((refine' c_set ?h1 ?h2); (case h1 => walk_at "ev")))
local macro_rules | `(tactic| walk_at "app") => `(tactic| ((refine' c_append _ ?hn ?ha ?hx ?hl ?hq); (case ha => walk_at "ev"); (case hx => walk_at "ev"); (case hn => walk_at "look"); (case hl => walk_at "side")))
local macro_rules | `(tactic| walk_at "fld") => `(tactic| ((refine' c_fld _ ?hn ?hv ?ha ?hc ?hf ?hl ?hq); (case ha => walk_at "ev"); (case hv => walk_at "ev"); (case hn => walk_at "look"); (case hc => assumption); (case hf => assumption); (case hl => decide)))
local macro_rules | `(tactic| walk_at "it") => `(tactic| first
  | (refine' ei_tup ?h1; (case h1 => walk_at "ev"))
  | (refine' ei_lst ?h1; (case h1 => walk_at "ev"))
  | (refine' ei_fz ?h1; (case h1 => walk_at "ev"))
  | (refine' ei_range ?h1 ?h2 ?h3; (case h1 => walk_at "ev"); (case h2 => first | omega | (simp <;> omega)); (case h3 => first | omega | (simp <;> omega))))
local macro_rules | `(tactic| walk_at "if") => `(tactic| ((refine' c_if ?hc ?ht ?he); (case hc => walk_at "ev")))
local macro_rules | `(tactic| walk_at "ret") => `(tactic| ((try (refine c_next ?_)); (try dsimp only [List.set]); (refine' c_ret (by assumption) ?h1 ?h2); (case h1 => walk_at "ev")))
local macro_rules | `(tactic| walk_at "dput") => `(tactic| ((refine' c_dput _ ?hn ?hv ?hd ?hx ?hk ?hl ?hq); (case hd => walk_at "ev"); (case hv => walk_at "ev"); (case hx => walk_at "ev"); (case hn => walk_at "look"); (case hk => first | exact dkI | exact dkS); (case hl => walk_at "side")))
local macro_rules | `(tactic| walk_at "popLL") => `(tactic| ((refine' c_popLL _ ?hn ?ha ?hz ?hq); (case ha => walk_at "ev"); (case hn => walk_at "look"); (case hz => walk_at "side")))
local macro_rules | `(tactic| walk_at "evt") => `(tactic| ((refine' et_is ?h1 ?h2); (case h1 => walk_at "ev"); (case h2 => first | rfl | decide | (simp <;> omega) | assumption)))

abbrev s_node_ways : Stmt := topS 9
abbrev n_node_ways : List Str := ["nodes", "ways", "number", "path", "before", "at", "part", "inner"]
theorem sc_node_ways : FnScope n_node_ways ["nodes"] (defScope s_node_ways) := ⟨rfl, rfl, rfl, by decide +kernel, rfl, by decide +kernel, by decide +kernel⟩
/-- what is written of the class Nodes -/
structure NodesTxt (K : PySem.W.Frag) (C : Addr) : Prop where
  cls : Cls K C
  n1 : NoAttr K C "sheet"
  n2 : NoAttr K C "paths"
  n3 : NoAttr K C "numbers"
  n4 : NoAttr K C "count"
  n5 : NoAttr K C "places"
  n6 : NoAttr K C "deeds"
  n7 : NoAttr K C "goal"
  n8 : NoAttr K C "ways"
structure NodesOk (rs : List Row) (paths : List Str) (places : List Nat) (deeds : List Nat) (count : Nat) : Prop where
  nd : paths.Nodup
  small : ∀ p ∈ paths, p.length ≤ 1000
  shut : ∀ p ∈ paths, pre p (p.length - 1) ∈ paths
  cl : paths.length ≤ count
  cz : count ≤ 400000
  pl : places.length = rs.length
  pc : ∀ k ∈ places, k < count
  dd : ∀ a ∈ deeds, ∃ n ks, rs[a]? = some (.deed n ks)
  near : Near rs
  dz : deeds.length ≤ 1000
  kz : ∀ r ∈ rs, r.ks.length ≤ 1000
def flds7 : List Str := ["sheet", "paths", "numbers", "count", "places", "deeds", "goal"]
def vals7 (b : Bool) (rs : List Row) (paths : List Str) (places : List Nat) (deeds : List Nat) (count goal : Nat) : List D :=
  [shD b rs, .tup (paths.map .str), .dk (paths.map .inr) (numsD paths.length), .int (count : Nat), .tup (places.map fun k => D.int (k : Nat)), .lst (deeds.map fun k => D.int (k : Nat)), .int (goal : Nat)]
def c_ways (C : Addr) : List D → Led → (D → Led → Prop) → Prop := fun ds Γ P => ∃ x b rs paths places deeds count goal, ds = [.ref x] ∧ Γ = [(x, .ins C flds7 (vals7 b rs paths places deeds count goal))] ∧ NodesOk rs paths places deeds count ∧
  ∀ dss : List (List D), P (.lst (dss.map .lst)) Γ
theorem cutS_m1 {s : Str} (h : s.length ≠ 0) : cutS s none (some (-1)) = pre s (s.length - 1) := by
  unfold cutS pre
  have e : s.length = s.cps.toList.length := by simp [Str.length]
  have h1 : HT.sIx s.length s.length (some (-1)) = s.length - 1 := by
    show (if (-1 : Int) < 0 then ((-1 : Int) + (s.length : Int)).toNat else min (-1 : Int).toNat s.length) = _
    rw [if_pos (by omega)]; omega
  rw [HT.sIx_none, h1]
  simp
theorem atI_last {s : Str} (h : s.length ≠ 0) : ∃ c, atI s.cps.toList (-1) = some c := by
  have e : s.length = s.cps.toList.length := by simp [Str.length]
  have hl : s.cps.toList.length - 1 < s.cps.toList.length := by omega
  exact ⟨s.cps.toList[s.cps.toList.length - 1], atI_m1 (List.getElem?_eq_getElem hl)⟩
theorem str_ne {s : Str} (h : s ≠ "") : s.length ≠ 0 := fun z => h (by
  apply str_ext
  have e : s.length = s.cps.toList.length := by simp [Str.length]
  have : s.cps.toList = [] := List.length_eq_zero_iff.mp (by omega)
  rw [this]; rfl)
local macro_rules | `(tactic| walk_at "fldv") => `(tactic| ((refine' ev_fldO _ ?hn ?ha ?hc ?hf ?hd); (case ha => walk_at "ev"); (case hn => walk_at "look"); (case hc => assumption); (case hf => assumption); (case hd => rfl)))
section
variable {P : Program} {w : World} {K : PySem.W.Frag} {mg : Str → Option Value} {base : Heap}
theorem ok_ways {C : Addr} (F : Def K mg "node_ways" s_node_ways) (T : Txt mg) (N : NodesTxt K C) : Cal P w K mg base "node_ways" 1 ["nodes"] (SpG K (c_ways C)) := by
  refine F.cal sc_node_ways (fun _ _ _ _ _ _ us hl => match us, hl with | [_], _ => rfl) (fun ds Γ P h => ?_) (fun f cdv A outer s H E hr => ?_)
  · obtain ⟨_, _, _, _, _, _, _, _, rfl, _⟩ := h; rfl
  have hu := hu_of hr
  refine ⟨_, (pss_cons (ps_setLc (i := 1) (own := [("number", 2)]) rfl sc_node_ways.nd rfl rfl (sw_true rfl rfl rfl (by decide +kernel)) (pi_range1 rfl T.b_range (pa_cons (pe_fldK (K := K) (pv 0) rfl) pa_nil)) (blkOk_by (own := [("number", 2)]) (N := n_node_ways) (sc := defScope s_node_ways) (by decide +kernel)) (fun _ _ _ _ _ => (pg_name (i := 2) sc_node_ways.nd rfl (by first | exact .inl rfl | exact .inr rfl))) (fun _ _ _ _ _ => pts_nil) (fun _ _ _ _ _ => (pe_lst pa_nil)))
 (pss_cons (ps_for PassesOwn.never rfl (pi_enumU rfl T.b_enumerate (pa_cons (pe_fldK (K := K) (pv 0) rfl) pa_nil)) (pg_tupK (K := K) (n := 2) rfl (pgs_cons (pg_name (i := 2) sc_node_ways.nd rfl (by first | exact .inl rfl | exact .inr rfl)) (pgs_cons (pg_name (i := 3) sc_node_ways.nd rfl (by first | exact .inl rfl | exact .inr rfl)) pgs_nil))) (pss_one (ps_if (pt_cmpR (op_neUK (K := K) hr.units) (pv 3) pe_str (nomark _)) (pss_cons (ps_set (i := 4) sc_node_ways.nd rfl (by first | exact .inl rfl | exact .inr rfl) (pe_dget hu (pe_fldK (K := K) (pv 0) rfl) (pe_slice (sl_UK (K := K)) (pv 3) po_none (po_some (pe_un un_neg pe_int))) (fun _ _ => rfl)))
 (pss_cons (ps_expr (pe_bm PySem.F.plainAttrs_list PySem.F.slot_list_append PySem.F.type_list_append mt_append (pe_ix (ix_seqK (K := K)) (pv 1) (pv 2) (fun _ _ => rfl)) (pa_cons (pe_tup (pa_cons (pe_tup (pa_cons pe_str (pa_cons (pe_ix (ix_seqK (K := K)) (pv 3) (pe_un un_neg pe_int) (fun _ _ => rfl)) pa_nil))) (pa_cons (pe_tup (pa_cons (pv 4) pa_nil)) pa_nil))) pa_nil)))
 (pss_one (ps_expr (pe_bm PySem.F.plainAttrs_list PySem.F.slot_list_append PySem.F.type_list_append mt_append (pe_ix (ix_seqK (K := K)) (pv 1) (pv 4) (fun _ _ => rfl)) (pa_cons (pe_tup (pa_cons (pe_tup (pa_cons pe_str (pa_cons (pe_ix (ix_seqK (K := K)) (pv 3) (pe_un un_neg pe_int) (fun _ _ => rfl)) pa_nil))) (pa_cons (pe_tup (pa_cons (pv 2) pa_nil)) pa_nil))) pa_nil)))))) pss_nil)))
 (pss_cons (ps_for PassesOwn.never rfl (pi_seq (pe_fldK (K := K) (pv 0) rfl)) (pg_name (i := 5) sc_node_ways.nd rfl (by first | exact .inl rfl | exact .inr rfl)) (pss_cons (ps_set (i := 6) sc_node_ways.nd rfl (by first | exact .inl rfl | exact .inr rfl) (pe_ix (ix_seqK (K := K)) (pe_fldK (K := K) (pv 0) rfl) (pv 5) (fun _ _ => rfl)))
 (pss_one (ps_expr (pe_bm PySem.F.plainAttrs_list PySem.F.slot_list_append PySem.F.type_list_append mt_append (pe_ix (ix_seqK (K := K)) (pv 1) (pe_ix (ix_seqK (K := K)) (pe_fldK (K := K) (pv 0) rfl) (pv 5) (fun _ _ => rfl)) (fun _ _ => rfl)) (pa_cons (pe_tup (pa_cons (pe_tup (pa_cons pe_str (pa_cons (pe_ix (ix_seqK (K := K)) (pv 6) pe_int (fun _ _ => rfl)) pa_nil))) (pa_cons (pe_callTy (call_tupOfK (K := K)) rfl T.b_tuple (by decide +kernel) (pa_cons (pe_lc (own := [("inner", 7)]) rfl sc_node_ways.nd (pi_seq (pe_ix (ix_seqK (K := K)) (pv 6) pe_int (fun _ _ => rfl))) (blkOk_by (own := [("inner", 7)]) (N := n_node_ways) (sc := defScope s_node_ways) (by decide +kernel)) (fun _ _ _ _ _ => (pg_name (i := 7) sc_node_ways.nd rfl (by first | exact .inl rfl | exact .inr rfl))) (fun _ _ _ _ _ => pts_nil) (fun _ _ _ _ _ => (pe_ix (ix_seqK (K := K)) (pe_fldK (K := K) (pv 0) rfl) (pv 7) (fun _ _ => rfl)))) pa_nil)) pa_nil))) pa_nil))))))
 (pss_one (ps_ret (pv 1))))))
, ?_⟩
  try dsimp only [cxOf, Cx.nox, Cx.wish]
  rintro R Z _ _ P Q ⟨x, b, rs, paths, places, deeds, count, goal, rfl, rfl, O, hP⟩ hq
  obtain ⟨hcl, h1, h2, h3, h4, h5, h6, h7, h8⟩ := N
  show Cont K R Z _ [some (.ref x), none, none, none, none, none, none, none] _
  walk_at "sq"
  refine c_setLcLL (fun _ => []) _ (ei_range (j := (count : Nat)) (ea_cons (by walk_at "fldv") ea_nil) (by have := O.cz; omega) (by have := O.cz; omega)) ?_ (fun d _ => tc_name) (fun d _ e l _ => en_lst ea_nil) fun pw qs hqs => ?_
  · have := O.cz
    exact small_sz (by simp [rngD]; omega)
  have hqc : qs.length = count := by rw [hqs]; simp [rngD]
  walk_at "sq"
  refine c_for' (fun i E Γ => ∃ (dss : List (List D)) (x2 x3 x4 : Option D), E = [some (.ref x), some (.ref pw), x2, x3, x4, none, none, none] ∧ Γ = [(pw, .ll qs dss), (x, .ins C flds7 (vals7 b rs paths places deeds count goal))] ∧ dss.length = count ∧ ∀ ds ∈ dss, ds.length ≤ 2 * i) (ei_enum (d := .tup (paths.map .str)) (ds := paths.map .str) (ea_cons (by walk_at "fldv") ea_nil) rfl) ?_ ?_ ?_
  · refine ⟨_, none, none, none, rfl, rfl, by simp [rngD], fun ds hds => ?_⟩
    obtain ⟨_, _, rfl⟩ := List.mem_map.mp hds
    simp
  · rintro nx e he hn i d _ _ hd ⟨dss, x2, x3, x4, rfl, rfl, g1, g2⟩
    obtain ⟨y, hy, rfl⟩ := enD_at hd
    rw [List.getElem?_map] at hy
    cases hpi : paths[i]? with
    | none => rw [hpi] at hy; cases hy
    | some p =>
    rw [hpi] at hy
    cases hy
    have hmem := List.mem_of_getElem? hpi
    have hi := (List.getElem?_eq_some_iff.mp hpi).1
    have hpl : p.length ≤ 1000 := O.small p hmem
    refine ⟨_, tg_tup (tgs_cons tg_name (tgs_cons tg_name tgs_nil)), ?_⟩
    walk_at "sq"
    have hc := O.cl
    have hcz := O.cz
    refine' c_if (b := !decide (p = "")) ?hc (fun hb => ?_) (fun hb => ?_)
    case hc => walk_at "ev"
    · have hne : p ≠ "" := by simpa using hb
      have hl0 := str_ne hne
      obtain ⟨j, hj1, hj2, hj3⟩ := num_of O.nd (O.shut p hmem)
      rw [← cutS_m1 hl0] at hj3
      obtain ⟨c, hc1⟩ := atI_last hl0
      walk_at "sq"
      refine' c_set (d := .int (j : Nat)) ?s1 ?s2
      case s1 =>
        refine ev_dgetD (by walk_at "fldv") (by walk_at "ev") dkS hj3
      case s2 =>
      walk_at "sq"
      have qi : qs[i]? = some qs[i] := List.getElem?_eq_getElem (by omega)
      have di : dss[i]? = some dss[i] := List.getElem?_eq_getElem (by omega)
      have li := g2 _ (List.mem_of_getElem? di)
      refine' c_appIn 1 (q := qs[i]) (j := i) rfl qi di ?a1 (x := .tup [.tup [.str "step", .str ⟨#[c]⟩], .tup [.int (j : Nat)]]) ?a2 (small_lt (by omega)) ?a3
      case a1 => exact ev_op (by walk_at "ev") (by walk_at "ev") (rv_ixLL (n := 1) rfl (atI_nat qi))
      case a2 => walk_at "ev"
      case a3 =>
      walk_at "sq"
      have qj : qs[j]? = some qs[j] := List.getElem?_eq_getElem (by omega)
      have dj : (dss.set i (dss[i] ++ [.tup [.tup [.str "step", .str ⟨#[c]⟩], .tup [.int (j : Nat)]]]))[j]? = some ((dss.set i (dss[i] ++ [.tup [.tup [.str "step", .str ⟨#[c]⟩], .tup [.int (j : Nat)]]]))[j]'(by simp; omega)) := List.getElem?_eq_getElem (by simp; omega)
      have bnd : ∀ ds ∈ dss.set i (dss[i] ++ [.tup [.tup [.str "step", .str ⟨#[c]⟩], .tup [.int (j : Nat)]]]), ds.length ≤ 2 * i + 1 := fun ds hds => by
        rcases List.mem_or_eq_of_mem_set hds with z | rfl
        · have := g2 ds z; omega
        · simp; omega
      have lj := bnd _ (List.mem_of_getElem? dj)
      refine' c_appIn 1 (q := qs[j]) (j := j) rfl qj dj ?a4 (x := .tup [.tup [.str "back", .str ⟨#[c]⟩], .tup [.int (i : Nat)]]) ?a5 (small_lt (by omega)) ?a6
      case a4 => exact ev_op (by walk_at "ev") (by walk_at "ev") (rv_ixLL (n := 1) rfl (atI_nat qj))
      case a5 => walk_at "ev"
      case a6 =>
      walk_at "sq"
      refine hn _ _ _ ⟨_, _, _, _, rfl, rfl, by simp [g1], fun ds hds => ?_⟩
      rcases List.mem_or_eq_of_mem_set hds with z | rfl
      · have := bnd ds z; omega
      · simp at lj ⊢; omega
    · walk_at "sq"
      refine hn _ _ _ ⟨_, _, _, _, rfl, rfl, g1, fun ds hds => ?_⟩
      have := g2 ds hds; omega
  · rintro _ _ ⟨dss, x2, x3, x4, rfl, rfl, g1, g2⟩
    walk_at "sq"
    have g3 : ∀ ds ∈ dss, ds.length ≤ 2 * paths.length := fun ds hds => by
      have := g2 ds hds
      rwa [enD_length, List.length_map] at this
    have hc := O.cl
    have hcz := O.cz
    refine c_for' (fun i E Γ => ∃ (dss : List (List D)) (x2 x3 x4 x5 x6 : Option D), E = [some (.ref x), some (.ref pw), x2, x3, x4, x5, x6, none] ∧ Γ = [(pw, .ll qs dss), (x, .ins C flds7 (vals7 b rs paths places deeds count goal))] ∧ dss.length = count ∧ ∀ ds ∈ dss, ds.length ≤ 2 * paths.length + i) (ei_lst (ds := deeds.map fun k => D.int (k : Nat)) (by walk_at "fldv")) ?_ ?_ ?_
    · exact ⟨dss, x2, x3, x4, none, none, rfl, rfl, g1, g3⟩
    · clear g1 g2 g3
      clear dss x2 x3 x4
      rintro nx e he hn i d _ _ hd ⟨dss, x2, x3, x4, x5, x6, rfl, rfl, g1, g2⟩
      rw [List.getElem?_map] at hd
      cases hai : deeds[i]? with
      | none => rw [hai] at hd; cases hd
      | some a =>
      rw [hai] at hd
      cases hd
      have hid := (List.getElem?_eq_some_iff.mp hai).1
      have hdz := O.dz
      obtain ⟨n, ks, hra⟩ := O.dd a (List.mem_of_getElem? hai)
      have hal := (List.getElem?_eq_some_iff.mp hra).1
      refine ⟨_, tg_name, ?_⟩
      walk_at "sq"
      have hrow : atI (rs.map fun r => seqD b r.cells) (a : Nat) = some (seqD b [.str "deed", .str n, .tup (ks.map fun k => D.int (k : Nat))]) := atI_nat (by rw [List.getElem?_map, hra]; rfl)
      refine' c_set (d := seqD b [.str "deed", .str n, .tup (ks.map fun k => D.int (k : Nat))]) ?s1 ?s2
      case s1 => exact ev_op (x := shD b rs) (by walk_at "fldv") (by walk_at "ev") (rv_ixQ hrow)
      case s2 =>
      walk_at "sq"
      have hpl : a < places.length := by rw [O.pl]; exact hal
      have hpa : places[a]? = some places[a] := List.getElem?_eq_getElem hpl
      have hpc := O.pc _ (List.mem_of_getElem? hpa)
      have hqs2 : qs[places[a]]? = some qs[places[a]] := List.getElem?_eq_getElem (by omega)
      have hds2 : dss[places[a]]? = some dss[places[a]] := List.getElem?_eq_getElem (by omega)
      have hlen := g2 _ (List.mem_of_getElem? hds2)
      have hkz : ks.length ≤ 1000 := O.kz _ (List.mem_of_getElem? hra)
      have hnear : ∀ k ∈ ks, k < places.length := fun k hk => by rw [O.pl]; exact O.near _ (List.mem_of_getElem? hra) k hk
      let f : D → D := fun d => match d with | .int k => (places.map fun k => D.int (k : Nat))[k.toNat]?.getD .non | _ => .non
      refine' c_appIn 1 (q := qs[places[a]]) (j := places[a]) rfl hqs2 hds2 ?a1 (x := .tup [.tup [.str "deed", .str n], .tup ((ks.map fun k => D.int (k : Nat)).map f)]) ?a2 (small_lt (by omega)) ?a3
      case a1 =>
        refine ev_op (by walk_at "ev") (ev_op (x := .tup (places.map fun k => D.int (k : Nat))) (y := .int (a : Nat)) (z := .int (places[a] : Nat)) (by walk_at "fldv") (by walk_at "ev") (rv_ixT (atI_nat (by rw [List.getElem?_map, hpa]; rfl)))) (rv_ixLL (n := 1) rfl (atI_nat hqs2))
      case a2 =>
        refine ev_tup (ea_cons (ev_tup (ea_cons (by walk_at "ev") (ea_cons (ev_op (x := seqD b [.str "deed", .str n, .tup (ks.map fun k => D.int (k : Nat))]) (y := .int 1) (by walk_at "ev") (by walk_at "ev") (rv_ixQ (d := .str n) atI1)) ea_nil)) (small_sz (by simp))) (ea_cons (ev_cb (ea_cons (ev_frzL ?lc) ea_nil) rc_tupL) ea_nil)) (small_sz (by simp))
        refine en_lcm f _ (ei_tup (ev_op (x := seqD b [.str "deed", .str n, .tup (ks.map fun k => D.int (k : Nat))]) (y := .int 2) (z := .tup (ks.map fun k => D.int (k : Nat))) (by walk_at "ev") (by walk_at "ev") (rv_ixQ atI2))) (small_sz (by simp; omega)) (fun d _ => tc_name) (fun d hd e l he => ?_)
        obtain ⟨k, hk, rfl⟩ := List.mem_map.mp hd
        have hkl := hnear k hk
        have hpk : places[k]? = some places[k] := List.getElem?_eq_getElem hkl
        refine ev_is (x := .int (places[k] : Nat)) ?_ (by simp [f, hpk])
        exact ev_op (x := .tup (places.map fun k => D.int (k : Nat))) (y := .int (k : Nat)) (z := .int (places[k] : Nat)) (by walk_at "fldv") (by walk_at "ev") (rv_ixT (atI_nat (by rw [List.getElem?_map, hpk]; rfl)))
      case a3 =>
      walk_at "sq"
      refine hn _ _ _ ⟨_, _, _, _, _, _, rfl, rfl, by simp [g1], fun ds hds => ?_⟩
      rcases List.mem_or_eq_of_mem_set hds with z | rfl
      · have := g2 ds z; omega
      · simp; omega
    · clear g1 g2 g3
      clear dss x2 x3 x4
      rintro _ _ ⟨dss, x2, x3, x4, x5, x6, rfl, rfl, g1, g2⟩
      walk_at "sq"
      refine c_frz 1 rfl ?_
      exact c_ret hq (ev_var rfl) (hP dss)
end
end W63
set_option Elab.async false
set_option linter.all false
/-! The plain side: what a sheet holds. -/
namespace W63
open PySem L2 DL
def thingsOf : List Row → List Str
  | [] => []
  | .thing p :: r => p :: thingsOf r
  | .deed _ _ :: r => thingsOf r
def dN : List Row → Nat
  | [] => 0
  | .thing _ :: r => dN r
  | .deed _ _ :: r => dN r + 1
theorem dN_snoc : ∀ (rs : List Row) (r : Row), dN (rs ++ [r]) = dN rs + (match r with | .thing _ => 0 | .deed _ _ => 1)
  | [], r => by cases r <;> rfl
  | .thing p :: rs, r => by simp [dN, dN_snoc rs r]
  | .deed n ks :: rs, r => by simp [dN, dN_snoc rs r]; omega
theorem dN_le : ∀ rs : List Row, dN rs ≤ rs.length
  | [] => Nat.le_refl _
  | .thing p :: rs => by have := dN_le rs; simp [dN]; omega
  | .deed n ks :: rs => by have := dN_le rs; simp [dN]; omega
theorem thingsOf_len : ∀ rs : List Row, (thingsOf rs).length ≤ rs.length
  | [] => Nat.le_refl _
  | .thing p :: rs => by have := thingsOf_len rs; simp [thingsOf]; omega
  | .deed n ks :: rs => by have := thingsOf_len rs; simp [thingsOf]; omega
theorem thingsOf_mem : ∀ {rs : List Row} {p : Str}, p ∈ thingsOf rs ↔ .thing p ∈ rs
  | [], p => by simp [thingsOf]
  | .thing q :: rs, p => by simp [thingsOf, thingsOf_mem (rs := rs)]
  | .deed n ks :: rs, p => by simp [thingsOf, thingsOf_mem (rs := rs)]
def hd0 : D → D
  | .tup (x :: _) => x
  | .lst (x :: _) => x
  | _ => .non
def sn0 : D → D
  | .tup (_ :: x :: _) => x
  | .lst (_ :: x :: _) => x
  | _ => .non
def strOf : D → Str
  | .str s => s
  | _ => ""
def isThing (d : D) : Bool := decide (strOf (hd0 d) = "thing")
def isDeed (d : D) : Bool := decide (strOf (hd0 d) = "deed")
theorem hd0_seq (b : Bool) (x : D) (l : List D) : hd0 (seqD b (x :: l)) = x := by cases b <;> rfl
theorem sn0_seq (b : Bool) (x y : D) (l : List D) : sn0 (seqD b (x :: y :: l)) = y := by cases b <;> rfl
theorem things_eq (b : Bool) : ∀ rs : List Row, ((rs.map fun r => seqD b r.cells).filter isThing).map sn0 = (thingsOf rs).map D.str
  | [] => rfl
  | .thing p :: rs => by
    have h : isThing (seqD b (Row.thing p).cells) = true := by simp [isThing, Row.cells, hd0_seq, strOf]
    rw [List.map_cons, List.filter_cons_of_pos (by simpa using h), List.map_cons, things_eq b rs]
    show sn0 (seqD b [_, _]) :: _ = _
    rw [sn0_seq]; rfl
  | .deed n ks :: rs => by
    have h : isThing (seqD b (Row.deed n ks).cells) = false := by simp [isThing, Row.cells, hd0_seq, strOf]; decide
    simp [h, thingsOf, things_eq b rs]
theorem nats_of {Pr : Nat → Prop} : ∀ {l : List D}, (∀ d ∈ l, ∃ a : Nat, d = .int (a : Nat) ∧ Pr a) → ∃ as : List Nat, l = as.map (fun k => D.int (k : Nat)) ∧ (∀ a ∈ as, Pr a) ∧ as.length = l.length
  | [], _ => ⟨[], rfl, by simp, rfl⟩
  | d :: l, h => by
    obtain ⟨a, rfl, pa⟩ := h d List.mem_cons_self
    obtain ⟨as, e, q, z⟩ := nats_of (l := l) fun d hd => h d (List.mem_cons_of_mem _ hd)
    refine ⟨a :: as, by rw [e]; rfl, fun x hx => ?_, by simp [z]⟩
    rcases List.mem_cons.mp hx with rfl | hx
    · exact pa
    · exact q x hx
theorem deeds_eq (b : Bool) (rs : List Row) : ∃ as : List Nat, ((enD 0 (rs.map fun r => seqD b r.cells)).filter fun d => isDeed (sn0 d)).map hd0 = as.map (fun k => D.int (k : Nat)) ∧ (∀ a ∈ as, ∃ n ks, rs[a]? = some (.deed n ks)) ∧ as.length ≤ rs.length := by
  obtain ⟨as, e, q, z⟩ := nats_of (Pr := fun a => ∃ n ks, rs[a]? = some (.deed n ks)) (l := ((enD 0 (rs.map fun r => seqD b r.cells)).filter fun d => isDeed (sn0 d)).map hd0) fun d hd => by
    obtain ⟨x, hx, rfl⟩ := List.mem_map.mp hd
    obtain ⟨h1, h2⟩ := List.mem_filter.mp hx
    obtain ⟨i, hi⟩ := List.mem_iff_getElem?.mp h1
    obtain ⟨y, hy, rfl⟩ := enD_at hi
    rw [List.getElem?_map] at hy
    cases hr : rs[i]? with
    | none => rw [hr] at hy; cases hy
    | some r =>
      rw [hr] at hy
      cases hy
      refine ⟨i, rfl, ?_⟩
      have h2 : isDeed (seqD b r.cells) = true := h2
      cases r with
      | thing p =>
        have : isDeed (seqD b (Row.thing p).cells) = false := by simp [isDeed, Row.cells, hd0_seq, strOf]; decide
        rw [this] at h2; cases h2
      | deed n ks => exact ⟨n, ks, hr⟩
  refine ⟨as, e, q, ?_⟩
  rw [z, List.length_map]
  refine Nat.le_trans (List.length_filter_le _ _) ?_
  rw [enD_length, List.length_map]
  exact Nat.le_refl _
theorem row_cases {b : Bool} {rs : List Row} {d : D} (h : d ∈ rs.map fun r => seqD b r.cells) : ∃ s y l, d = seqD b (.str s :: y :: l) := by
  obtain ⟨r, _, rfl⟩ := List.mem_map.mp h
  cases r with
  | thing p => exact ⟨_, _, _, rfl⟩
  | deed n ks => exact ⟨_, _, _, rfl⟩
theorem isThing_seq (b : Bool) (s : Str) (l : List D) : isThing (seqD b (.str s :: l)) = decide (s = "thing") := by unfold isThing; rw [hd0_seq]; rfl
theorem isDeed_seq (b : Bool) (s : Str) (l : List D) : isDeed (seqD b (.str s :: l)) = decide (s = "deed") := by unfold isDeed; rw [hd0_seq]; rfl
theorem numbers_eq {paths : List Str} (hn : paths.Nodup) : dcF ((enD 0 (paths.map D.str)).map fun d => (((Sum.inr (strOf (sn0 d))) : Key), hd0 d)) = (paths.map .inr, numsD paths.length) := by
  have e1 : ((enD 0 (paths.map D.str)).map fun d => (((Sum.inr (strOf (sn0 d))) : Key), hd0 d)).map (·.1) = paths.map .inr := by
    apply List.ext_getElem?
    intro i
    rw [List.map_map, List.getElem?_map, enD_get, List.getElem?_map, List.getElem?_map]
    cases paths[i]? <;> rfl
  have e2 : ((enD 0 (paths.map D.str)).map fun d => (((Sum.inr (strOf (sn0 d))) : Key), hd0 d)).map (·.2) = numsD paths.length := by
    apply List.ext_getElem?
    intro i
    rw [List.map_map, List.getElem?_map, enD_get, List.getElem?_map]
    by_cases hi : i < paths.length
    · rw [numsD_get hi, List.getElem?_eq_getElem hi, Nat.zero_add]; rfl
    · rw [List.getElem?_eq_none (by omega : paths.length ≤ i), List.getElem?_eq_none (by simp [numsD]; omega)]; rfl
  rw [dcF_nd _ _ rfl (by rw [e1]; exact inr_nodup hn), e1, e2]
end W63
set_option Elab.async false
set_option linter.all false
set_option maxRecDepth 100000
set_option maxHeartbeats 4000000
namespace W63
open PySem PySem.Spec PyProof.Rows L2 DL
/-! steps of the walk by data -/
local macro_rules | `(tactic| walk_at "side") => `(tactic| first | (with_reducible show D) | (with_reducible show Int) | (with_reducible show Nat) | (with_reducible show List _) | (with_reducible show Bool) | (with_reducible show Str) | (with_reducible show Option _) | (with_reducible show Addr) | (with_reducible show MO) | (with_reducible show Key) | with_reducible rfl | assumption | omega | (with_reducible exact atI0) | (with_reducible exact atI1) | (with_reducible exact atI2) | (with_reducible exact atI3) | ((with_reducible refine' cdiv ?_ ?_) <;> omega) | ((with_reducible refine' cmulR ?_ ?_) <;> omega) | ((with_reducible refine' cmulL ?_ ?_) <;> omega) | ((with_reducible refine' cpow ?_ ?_ ?_) <;> decide) | ((with_reducible refine' small_sz ?_) <;> first | assumption | omega | decide | (simp only [List.length_map, List.length_append, List.length_cons, List.length_nil, List.length_set] <;> omega)) | ((with_reducible refine' small_lt ?_) <;> first | assumption | omega | decide | (simp only [List.length_map, List.length_append, List.length_cons, List.length_nil, List.length_set] <;> omega)) | (show (0 : Int) < _; omega) | decide | skip)
local macro_rules | `(tactic| walk_at "look") => `(tactic| first | (with_reducible exact look0) | (with_reducible exact look1) | (with_reducible exact look2) | (with_reducible exact look3) | (with_reducible exact look4) | (with_reducible exact look5) | (with_reducible exact look6) | (with_reducible exact look7) | (with_reducible exact look8) | (with_reducible exact look9) | (with_reducible exact look10))
local macro_rules | `(tactic| walk_at "ev") => `(tactic| first
  | (with_reducible show D) | (with_reducible show Int) | (with_reducible show Nat) | (with_reducible show List _) | (with_reducible show Bool) | (with_reducible show Str) | (with_reducible show Option _) | (with_reducible show Addr) | (with_reducible show MO) | (with_reducible show Key)
  | ((with_reducible refine' ev_var ?_) <;> first | (with_reducible show D) | rfl)
  | (with_reducible exact ev_int)
  | (with_reducible exact ev_str)
  | (with_reducible exact ev_bl)
  | (with_reducible exact ev_non)
  | ((with_reducible refine' ev_op ?_ ?_ ?_) <;> walk_at "ev")
  | ((with_reducible refine' en_op ?_ ?_ ?_) <;> walk_at "ev")
  | ((with_reducible refine' ev_tup ?_ ?_) <;> walk_at "ev")
  | ((with_reducible refine' en_lst ?_ ?_) <;> walk_at "ev")
  | (with_reducible exact en_dk)
  | (with_reducible exact en_dn)
  | ((with_reducible refine' ev_cb ?_ ?_) <;> walk_at "ev")
  | ((with_reducible refine' en_cb ?_ ?_) <;> walk_at "ev")
  | (with_reducible exact ea_nil)
  | ((with_reducible refine' ea_cons ?_ ?_) <;> walk_at "ev")
  | ((with_reducible refine' ev_neg ?_) <;> walk_at "ev")
  | ((with_reducible refine' ev_slS ?_ ?_ ?_ ?_) <;> walk_at "ev")
  | ((with_reducible refine' ev_slT ?_ ?_ ?_) <;> walk_at "ev")
  | ((with_reducible refine' en_slL ?_ ?_ ?_) <;> walk_at "ev")
  | ((with_reducible refine' en_slO ?hn ?ha ?hl ?hh); (case ha => walk_at "ev"); (case hn => walk_at "look"); (case hl => walk_at "ev"); (case hh => walk_at "ev"))
  | (with_reducible exact eo_none)
  | ((with_reducible refine' eo_some ?_) <;> walk_at "ev")
  | ((with_reducible refine' et_test ?_) <;> walk_at "ev")
  | ((with_reducible refine' et_B ?_) <;> walk_at "ev")
  | ((with_reducible refine' et_not ?_) <;> walk_at "ev")
  | (with_reducible exact rv_II)
  | (with_reducible exact rv_IB)
  | (with_reducible exact ru_addI)
  | (with_reducible exact ru_eqI)
  | (with_reducible exact ru_neI)
  | (with_reducible exact ru_eqS)
  | (with_reducible exact ru_neS)
  | ((with_reducible refine' rv_IC ?_) <;> walk_at "side")
  | ((with_reducible refine' ru_mulI ?_) <;> walk_at "side")
  | ((with_reducible refine' ru_mulS ?_ ?_ ?_) <;> walk_at "side")
  | ((with_reducible refine' ru_addS ?_) <;> walk_at "side")
  | ((with_reducible refine' ru_addT ?_) <;> walk_at "side")
  | ((with_reducible refine' rv_ixT ?_) <;> walk_at "side")
  | ((with_reducible refine' rv_ixL ?_) <;> walk_at "side")
  | ((with_reducible refine' rv_ixF ?_) <;> walk_at "side")
  | ((with_reducible refine' rv_ixS ?_ ?_) <;> walk_at "side")
  | ((with_reducible refine' rv_ixO ?hn ?ha); (case hn => walk_at "look"); (case ha => walk_at "side"))
  | (with_reducible exact rc_int)
  | (with_reducible exact rc_intb)
  | (with_reducible exact rc_max2)
  | (with_reducible exact rc_min2)
  | (with_reducible exact rc_tupL)
  | (with_reducible exact rc_tupT)
  | (with_reducible exact rc_lenK)
  | (with_reducible exact rc_lenT)
  | (with_reducible exact rc_lenL)
  | (with_reducible exact rc_lenF)
  | (with_reducible exact rcn_listL)
  | (with_reducible exact rcn_listT)
  | ((with_reducible refine' rc_lenS ?_) <;> walk_at "side")
  | ((with_reducible refine' rc_lenO ?hn); (case hn => walk_at "look"))
  | ((with_reducible refine' rc_lenOK ?hn); (case hn => walk_at "look"))
  | ((with_reducible refine' rc_tupO ?hn); (case hn => walk_at "look"))
  | ((with_reducible refine' rcn_listO ?hn); (case hn => walk_at "look"))
  | ((with_reducible refine' rcn_listK ?hn); (case hn => walk_at "look"))
  | ((with_reducible refine' rv_ixIn ?hn ?hq ?hd ?ha); (case hn => walk_at "look"); (case hq => assumption); (case hd => assumption); (case ha => walk_at "side"))
  | ((with_reducible refine' rv_ixLL ?hn ?ha); (case hn => walk_at "look"); (case ha => walk_at "side"))
  | ((with_reducible refine' et_truLL ?hn ?ha); (case ha => walk_at "ev"); (case hn => walk_at "look"))
  | ((with_reducible refine' et_truO ?hn ?ha); (case ha => walk_at "ev"); (case hn => walk_at "look"))
  | ((with_reducible refine' et_in _ ?hn ?hx ?hd ?hk); (case hd => walk_at "ev"); (case hx => walk_at "ev"); (case hn => walk_at "look"); (case hk => first | exact dkI | exact dkS))
  | ((with_reducible refine' et_notin _ ?hn ?hx ?hd ?hk); (case hd => walk_at "ev"); (case hx => walk_at "ev"); (case hn => walk_at "look"); (case hk => first | exact dkI | exact dkS))
  | ((with_reducible refine' ev_dget _ ?hn ?hd ?hx ?hk ?hg); (case hd => walk_at "ev"); (case hx => walk_at "ev"); (case hn => walk_at "look"); (case hk => first | exact dkI | exact dkS); (case hg => walk_at "side"))
  | ((with_reducible refine' ev_frzL ?_) <;> walk_at "ev")
  | walk_at "side")
local macro_rules | `(tactic| walk_at "sq") => `(tactic| ((try (refine c_next ?_)); (try (refine c_seq ?_)); try dsimp only [List.set]))
local macro_rules | `(tactic| walk_at "set") => `(tactic| ((refine' c_set ?h1 ?h2); (case h1 => walk_at "ev")))
local macro_rules | `(tactic| walk_at "app") => `(tactic| ((refine' c_append _ ?hn ?ha ?hx ?hl ?hq); (case ha => walk_at "ev"); (case hx => walk_at "ev"); (case hn => walk_at "look"); (case hl => walk_at "side")))
local macro_rules | `(tactic| walk_at "fld") => `(tactic| ((refine' c_fld _ ?hn ?hv ?ha ?hc ?hf ?hl ?hq); (case ha => walk_at "ev"); (case hv => walk_at "ev"); (case hn => walk_at "look"); (case hc => assumption); (case hf => assumption); (case hl => decide)))
local macro_rules | `(tactic| walk_at "it") => `(tactic| first
  | (refine' ei_tup ?h1; (case h1 => walk_at "ev"))
  | (refine' ei_lst ?h1; (case h1 => walk_at "ev"))
  | (refine' ei_fz ?h1; (case h1 => walk_at "ev"))
  | (refine' ei_range ?h1 ?h2 ?h3; (case h1 => walk_at "ev"); (case h2 => first | omega | (simp <;> omega)); (case h3 => first | omega | (simp <;> omega))))
local macro_rules | `(tactic| walk_at "if") => `(tactic| ((refine' c_if ?hc ?ht ?he); (case hc => walk_at "ev")))
local macro_rules | `(tactic| walk_at "ret") => `(tactic| ((try (refine c_next ?_)); (try dsimp only [List.set]); (refine' c_ret (by assumption) ?h1 ?h2); (case h1 => walk_at "ev")))
local macro_rules | `(tactic| walk_at "dput") => `(tactic| ((refine' c_dput _ ?hn ?hv ?hd ?hx ?hk ?hl ?hq); (case hd => walk_at "ev"); (case hv => walk_at "ev"); (case hx => walk_at "ev"); (case hn => walk_at "look"); (case hk => first | exact dkI | exact dkS); (case hl => walk_at "side")))
local macro_rules | `(tactic| walk_at "popLL") => `(tactic| ((refine' c_popLL _ ?hn ?ha ?hz ?hq); (case ha => walk_at "ev"); (case hn => walk_at "look"); (case hz => walk_at "side")))
local macro_rules | `(tactic| walk_at "evt") => `(tactic| ((refine' et_is ?h1 ?h2); (case h1 => walk_at "ev"); (case h2 => first | rfl | decide | (simp <;> omega) | assumption)))

abbrev s_Nodes_init : Stmt := inClass (topS 8) 0
abbrev n_Nodes_init : List Str := ["self", "sheet", "things", "places", "part", "thing", "at", "path"]
theorem sc_Nodes_init : FnScope n_Nodes_init ["self", "sheet"] (defScope s_Nodes_init) := ⟨rfl, rfl, rfl, by decide +kernel, rfl, by decide +kernel, by decide +kernel⟩
/-- what is written of the error -/
structure ExcTxt (K : PySem.W.Frag) (mg : Str → Option Value) (nm : Str) (C : Addr) : Prop where
  x : PySem.W.excIn K C [.type "ValueError", .type "Exception", .type "BaseException", .type "object"] "ValueError.__new__" = true
  g : mg nm = some (.ref C)
  k : PySem.W.keepIn K (.ref C) = true
  b : PySem.W.subIn K (.ref C) (.type "BaseException") = some true
  t : PySem.W.typeIn K (.ref C) = some (.type "type")
def flds8 : List Str := ["sheet", "paths", "numbers", "count", "places", "deeds", "goal", "ways"]
structure SheetOk (rs : List Row) : Prop where
  ne : rs ≠ []
  len : rs.length ≤ 99
  near : Near rs
  small : ∀ p ∈ thingsOf rs, p.length ≤ 1000
  kz : ∀ r ∈ rs, r.ks.length ≤ 1000
def IsPaths (rs : List Row) (paths : List Str) : Prop := paths.Nodup ∧ ∀ y, y ∈ paths ↔ ∃ x ∈ ("" : Str) :: thingsOf rs, IsPre y x
def c_init (C : Addr) : List D → Led → (D → Led → Prop) → Prop := fun ds Γ P => ∃ x b rs, ds = [.ref x, shD b rs] ∧ Γ = [(x, .ins C [] [])] ∧ SheetOk rs ∧
  ∀ (paths : List Str) (vs : List D), IsPaths rs paths → fGet flds8 vs "count" = some (.int ((paths.length + dN rs : Nat) : Int)) → P .non [(x, .ins C flds8 vs)]
/-- a thing that is no text -/
def b_init (C : Addr) : List D → Led → Prop := fun ds Γ => ∃ x z n ks, ds = [.ref x, .tup [.tup [.str "thing", .int z], .tup [.str "deed", n, ks]]] ∧ Γ = [(x, .ins C [] [])]
local macro_rules | `(tactic| walk_at "fldv") => `(tactic| ((refine' ev_fldO _ ?hn ?ha ?hc ?hf ?hd); (case ha => walk_at "ev"); (case hn => walk_at "look"); (case hc => assumption); (case hf => assumption); (case hd => rfl)))
section
variable {P : Program} {w : World} {K : PySem.W.Frag} {mg : Str → Option Value} {base : Heap}
theorem ok_init {C CB : Addr} (F : DefM K C "__init__" "Nodes.__init__" s_Nodes_init) (T : Txt mg) (N : NodesTxt K C) (X_BadSheet : ExcTxt K mg "BadSheet" CB) (C_closed : Cal P w K mg base "closed" 2 ["paths"] (SpG K c_closed))
    (C_node_ways : Cal P w K mg base "node_ways" 1 ["nodes"] (SpG K (c_ways C))) : CalM P w K mg base C 3 ["self", "sheet"] (SpE K (c_init C) (b_init C) CB) := by
  refine F.calM sc_Nodes_init (fun _ _ _ _ _ _ us hl => match us, hl with | [_, _], _ => rfl) (fun ds Γ P h => ?_) (fun ds Γ h => ?_) (fun f cdv A outer s H E hr => ?_)
  · obtain ⟨_, _, _, rfl, _⟩ := h; rfl
  · obtain ⟨_, _, _, _, rfl, _⟩ := h; rfl
  have hu := hu_of hr
  refine ⟨_, (pss_cons (ps_setLc (i := 2) (own := [("part", 4)]) rfl sc_Nodes_init.nd rfl rfl (sw_true rfl rfl rfl (by decide +kernel)) (pi_seq (pv 1)) (blkOk_by (own := [("part", 4)]) (N := n_Nodes_init) (sc := defScope s_Nodes_init) (by decide +kernel)) (fun _ _ _ _ _ => (pg_name (i := 4) sc_Nodes_init.nd rfl (by first | exact .inl rfl | exact .inr rfl))) (fun _ _ _ _ _ => (pts_one (pt_cmpR (op_eqUK (K := K) hr.units) (pe_ix (ix_seqK (K := K)) (pv 4) pe_int (fun _ _ => rfl)) pe_str (nomark _)))) (fun _ _ _ _ _ => (pe_ix (ix_seqK (K := K)) (pv 4) pe_int (fun _ _ => rfl))))
 (pss_cons (ps_if (pt_not (pt_val (pe_callB (call_all2 rfl) rfl T.b_all (by decide +kernel) (pa_cons (pe_lc (own := [("thing", 5)]) rfl sc_Nodes_init.nd (pi_seq (pv 2)) (blkOk_by (own := [("thing", 5)]) (N := n_Nodes_init) (sc := defScope s_Nodes_init) (by decide +kernel)) (fun _ _ _ _ _ => (pg_name (i := 5) sc_Nodes_init.nd rfl (by first | exact .inl rfl | exact .inr rfl))) (fun _ _ _ _ _ => pts_nil) (fun _ _ _ _ _ => (pe_callB (call_isi2 (K := K)) rfl T.b_isinstance (by decide +kernel) (pa_cons (pv 5) (pa_cons (pe_bltn (v := .ty "str") rfl T.b_str (by decide +kernel) rfl) pa_nil))))) pa_nil)))) (pss_one (ps_raise rfl (takes_of rfl rfl rfl rfl) (pmk_own0 PySem.F.excBase_ValueError X_BadSheet.x X_BadSheet.g X_BadSheet.k (raises_own X_BadSheet.b X_BadSheet.t) rfl))) pss_nil)
 (pss_cons (ps_fld (pv 0) (pv 1) rfl)
 (pss_cons (ps_fld (pv 0) (pe_cal C_closed hr (pa_cons (pe_op (op_addUK (K := K)) (pe_lst (pa_cons pe_str pa_nil)) (pv 2)) pa_nil)) rfl)
 (pss_cons (ps_fld (pv 0) (pe_dc (own := [("at", 6), ("path", 7)]) rfl sc_Nodes_init.nd (pi_enumU rfl T.b_enumerate (pa_cons (pe_fldK (K := K) (pv 0) rfl) pa_nil)) (blkOk_by (own := [("at", 6), ("path", 7)]) (N := n_Nodes_init) (sc := defScope s_Nodes_init) (by decide +kernel)) (fun _ _ _ _ _ => (pg_tupK (K := K) (n := 2) rfl (pgs_cons (pg_name (i := 6) sc_Nodes_init.nd rfl (by first | exact .inl rfl | exact .inr rfl)) (pgs_cons (pg_name (i := 7) sc_Nodes_init.nd rfl (by first | exact .inl rfl | exact .inr rfl)) pgs_nil)))) (fun _ _ _ _ _ => pts_nil) (fun _ _ _ _ _ => (pv 7)) (fun _ _ _ _ _ => (pv 6))) rfl)
 (pss_cons (ps_fld (pv 0) (pe_callB (call_lenUK (K := K)) rfl T.b_len (by decide +kernel) (pa_cons (pe_fldK (K := K) (pv 0) rfl) pa_nil)) rfl)
 (pss_cons (ps_set (i := 3) sc_Nodes_init.nd rfl (by first | exact .inl rfl | exact .inr rfl) (pe_lst pa_nil))
 (pss_cons (ps_nox (ps_for PassesOwn.never rfl (pi_seq (pv 1)) (pg_name (i := 4) sc_Nodes_init.nd rfl (by first | exact .inl rfl | exact .inr rfl)) (pss_one (ps_if (pt_cmpR (op_eqUK (K := K) hr.units) (pe_ix (ix_seqK (K := K)) (pv 4) pe_int (fun _ _ => rfl)) pe_str (nomark _)) (pss_one (ps_expr (pe_bm PySem.F.plainAttrs_list PySem.F.slot_list_append PySem.F.type_list_append mt_append (pv 3) (pa_cons (pe_dget hu (pe_fldK (K := K) (pv 0) rfl) (pe_ix (ix_seqK (K := K)) (pv 4) pe_int (fun _ _ => rfl)) (fun _ _ => rfl)) pa_nil)))) (pss_cons (ps_expr (pe_bm PySem.F.plainAttrs_list PySem.F.slot_list_append PySem.F.type_list_append mt_append (pv 3) (pa_cons (pe_fldK (K := K) (pv 0) rfl) pa_nil)))
 (pss_one (ps_fld (pv 0) (pe_op (op_addUK (K := K)) (pe_fldK (K := K) (pv 0) rfl) pe_int) rfl)))))))
 (pss_cons (ps_fld (pv 0) (pe_callTy (call_tupOfK (K := K)) rfl T.b_tuple (by decide +kernel) (pa_cons (pv 3) pa_nil)) rfl)
 (pss_cons (ps_fld (pv 0) (pe_lc (own := [("at", 6), ("part", 4)]) rfl sc_Nodes_init.nd (pi_enumU rfl T.b_enumerate (pa_cons (pv 1) pa_nil)) (blkOk_by (own := [("at", 6), ("part", 4)]) (N := n_Nodes_init) (sc := defScope s_Nodes_init) (by decide +kernel)) (fun _ _ _ _ _ => (pg_tupK (K := K) (n := 2) rfl (pgs_cons (pg_name (i := 6) sc_Nodes_init.nd rfl (by first | exact .inl rfl | exact .inr rfl)) (pgs_cons (pg_name (i := 4) sc_Nodes_init.nd rfl (by first | exact .inl rfl | exact .inr rfl)) pgs_nil)))) (fun _ _ _ _ _ => (pts_one (pt_cmpR (op_eqUK (K := K) hr.units) (pe_ix (ix_seqK (K := K)) (pv 4) pe_int (fun _ _ => rfl)) pe_str (nomark _)))) (fun _ _ _ _ _ => (pv 6))) rfl)
 (pss_cons (ps_fld (pv 0) (pe_ix (ix_seqK (K := K)) (pe_fldK (K := K) (pv 0) rfl) (pe_un un_neg pe_int) (fun _ _ => rfl)) rfl)
 (pss_one (ps_fld (pv 0) (pe_cal C_node_ways hr (pa_cons (pv 0) pa_nil)) rfl)))))))))))))
, ?_, ?_⟩ <;> try dsimp only [cxOf, Cx.nox, Cx.wish]
  · rintro R Z _ _ P Q ⟨x, b, rs, rfl, rfl, O, hP⟩ hq
    obtain ⟨hcl, h1, h2, h3, h4, h5, h6, h7, h8⟩ := N
    show Cont K R Z _ [some (.ref x), some (shD b rs), none, none, none, none, none, none] _
    walk_at "sq"
    have hne := O.ne
    have hlen := O.len
    have hrs : (rs.map fun r => seqD b r.cells).length ≤ 99 := by simpa using hlen
    have htl := thingsOf_len rs
    refine c_set (d := .lst ((thingsOf rs).map .str)) (ev_frzL ?_) ?_
    · rw [← things_eq b rs]
      refine en_lc isThing sn0 _ (ei_Q (b := b) (ev_var rfl)) (small_sz (by omega)) (fun d _ => tc_name) (fun d hd e l he => ?_) (fun d hd hp e l he => ?_)
      · obtain ⟨s, y, l', rfl⟩ := row_cases hd
        rw [isThing_seq]
        exact et_test (ev_op (ev_op (ev_var rfl) ev_int (rv_ixQ atI0)) ev_str ru_eqS)
      · obtain ⟨s, y, l', rfl⟩ := row_cases hd
        rw [sn0_seq]
        exact ev_op (ev_var rfl) ev_int (rv_ixQ atI1)
    walk_at "sq"
    refine c_if (b := false) ?_ (fun z => by cases z) (fun _ => ?_)
    · refine et_is (et_not (et_B (b := ((thingsOf rs).map fun _ => true).all id) (ev_cb (ea_cons (ev_is (x := .lst (((thingsOf rs).map D.str).map fun _ => D.bl true)) (ev_frzL (en_lcm (fun _ => .bl true) _ (ei_lst (ev_var rfl)) (small_sz (by simp; omega)) (fun d _ => tc_name) (fun d hd e l he => ?_))) (by simp [Function.comp_def])) ea_nil) rc_all))) ?_
      · obtain ⟨t, _, rfl⟩ := List.mem_map.mp hd
        exact ev_isi (n := "str") (ev_var rfl) rfl (by decide +kernel)
      · simp
    walk_at "sq"
    walk_at "sq"
    refine c_fld 0 rfl (ev_var rfl) (ev_var rfl) hcl h1 (by decide) ?_
    show Cont K R Z _ _ [(x, .ins C ["sheet"] [shD b rs])]
    walk_at "sq"
    refine c_fldX (Ψ := fun d Γ' => ∃ ks : List Str, d = .tup ((ordS ks).map .str) ∧ Γ' = [(x, .ins C ["sheet"] [shD b rs])] ∧ ks.Nodup ∧ (∀ y, y ∈ ks ↔ ∃ x ∈ ("" : Str) :: thingsOf rs, IsPre y x) ∧ ks.length ≤ 100100)
      (evx_call (Γc := []) (ds := [.lst ((("" : Str) :: thingsOf rs).map .str)]) (ea_cons (ev_frzL (en_op (x := .lst [.str ""]) (y := .lst ((thingsOf rs).map .str)) (ev_frzL (en_lst (ea_cons ev_str ea_nil))) (ev_var rfl) (rn_addL (small_sz (by simp; omega))))) ea_nil)
        ⟨("" : Str) :: thingsOf rs, rfl, rfl, fun p hp => ?_, by simp; omega, fun ks k1 k2 k3 => ⟨ks, rfl, rfl, k1, k2, k3⟩⟩) ?_
    · rcases List.mem_cons.mp hp with rfl | z
      · decide
      · exact O.small p z
    rintro _ _ ⟨ks, rfl, rfl, k1, k2, k3⟩
    refine ⟨0, x, C, _, _, rfl, ev_var rfl, hcl, h2, by decide, ?_⟩
    obtain ⟨paths, hpe⟩ : ∃ paths, paths = ordS ks := ⟨_, rfl⟩
    have hpn : paths.Nodup := hpe ▸ ordS_nd ks
    have hpm : ∀ y, y ∈ paths ↔ ∃ x ∈ ("" : Str) :: thingsOf rs, IsPre y x := fun y => by rw [hpe, ordS_mem]; exact k2 y
    rw [← hpe]
    have hps : ∀ p ∈ paths, p.length ≤ 1000 := fun p hp => by
      obtain ⟨y, hy, hpy⟩ := (hpm p).mp hp
      refine Nat.le_trans hpy.len ?_
      rcases List.mem_cons.mp hy with rfl | z
      · decide
      · exact O.small y z
    have hpz : paths.length ≤ 100100 := Nat.le_trans (hpe ▸ ordS_len ks) k3
    show Cont K R Z _ _ [(x, .ins C ["sheet", "paths"] [shD b rs, .tup (paths.map .str)])]
    walk_at "sq"
    refine c_fld 0 rfl (y := .dk (paths.map .inr) (numsD paths.length)) ?_ (ev_var rfl) hcl h3 (by decide) ?_
    · have e := numbers_eq hpn
      refine ev_is (ev_frz (en_dc (fun d => sn0 d) hd0 (fun d => .inr (strOf (sn0 d))) (fun d => (((wipeE [some (.ref x), some (shD b rs), some (.lst ((thingsOf rs).map .str)), none, none, none, none, none] [6, 7]).set 6 (some (hd0 d))).set 7 (some (sn0 d)))) (ei_enum (d := .tup (paths.map .str)) (ds := paths.map .str) (ea_cons (by walk_at "fldv") ea_nil) rfl) (small_sz (by rw [enD_length, List.length_map]; omega)) (fun d hd => ?_) (fun d hd e l he => ?_) (fun d hd => ?_) (fun d hd e l he => ?_))) ?_
      · obtain ⟨i, hi⟩ := List.mem_iff_getElem?.mp hd
        obtain ⟨y, hy, rfl⟩ := enD_at hi
        exact tc_two (by decide)
      · exact ev_var rfl
      · obtain ⟨i, hi⟩ := List.mem_iff_getElem?.mp hd
        obtain ⟨y, hy, rfl⟩ := enD_at hi
        rw [List.getElem?_map] at hy
        cases hpi : paths[i]? with
        | none => rw [hpi] at hy; cases hy
        | some p => rw [hpi] at hy; cases hy; rfl
      · exact ev_var rfl
      · show D.dk _ _ = _
        rw [e]
    show Cont K R Z _ _ [(x, .ins C ["sheet", "paths", "numbers"] [shD b rs, .tup (paths.map .str), .dk (paths.map .inr) (numsD paths.length)])]
    walk_at "sq"
    refine c_fld 0 rfl (y := .int (paths.length : Nat)) (ev_is (ev_cb (ea_cons (d := .tup (paths.map .str)) (by walk_at "fldv") ea_nil) rc_lenT) (by simp)) (ev_var rfl) hcl h4 (by decide) ?_
    show Cont K R Z _ _ [(x, .ins C ["sheet", "paths", "numbers", "count"] [shD b rs, .tup (paths.map .str), .dk (paths.map .inr) (numsD paths.length), .int (paths.length : Nat)])]
    walk_at "sq"
    refine c_setN (m := .lst []) (by walk_at "ev") fun pp _ => ?_
    walk_at "sq"
    let vals4 : Nat → List D := fun c => [shD b rs, .tup (paths.map .str), .dk (paths.map .inr) (numsD paths.length), .int (c : Nat)]
    refine c_for' (fun i E Γ => ∃ (pl : List Nat) (x4 : Option D), E = [some (.ref x), some (shD b rs), some (.lst ((thingsOf rs).map .str)), some (.ref pp), x4, none, none, none] ∧
      Γ = [(pp, .lst (pl.map fun k => D.int (k : Nat))), (x, .ins C ["sheet", "paths", "numbers", "count"] (vals4 (paths.length + dN (rs.take i))))] ∧ pl.length = i ∧ ∀ k ∈ pl, k < paths.length + dN (rs.take i)) (ei_Q (b := b) (ev_var rfl)) ?_ ?_ ?_
    · exact ⟨[], none, rfl, by simp [vals4, dN], rfl, by simp⟩
    · rintro nx e he hn i d _ _ hd ⟨pl, x4, rfl, rfl, p1, p2⟩
      rw [List.getElem?_map] at hd
      cases hri : rs[i]? with
      | none => rw [hri] at hd; cases hd
      | some r =>
      rw [hri] at hd
      cases hd
      have hi := (List.getElem?_eq_some_iff.mp hri).1
      have tk : rs.take (i + 1) = rs.take i ++ [r] := by rw [List.take_succ, hri]; rfl
      have dl := dN_le (rs.take i)
      rw [List.length_take] at dl
      refine ⟨_, tg_name, ?_⟩
      walk_at "sq"
      cases r with
      | thing p =>
        have hpp : p ∈ paths := (hpm p).mpr ⟨p, List.mem_cons_of_mem _ (thingsOf_mem.mpr (List.mem_of_getElem? hri)), IsPre.refl p⟩
        obtain ⟨j, hj1, hj2, hj3⟩ := num_of hpn hpp
        refine c_if (b := true) (et_is (et_test (ev_op (ev_op (ev_var rfl) ev_int (rv_ixQ (b := b) atI0)) ev_str ru_eqS)) rfl) (fun _ => ?_) (fun z => by cases z)
        walk_at "sq"
        walk_at "sq"
        refine c_append 1 rfl (ev_var rfl) (x := .int (j : Nat)) ?_ (by rw [List.length_map]; exact small_lt (by omega)) ?_
        · exact ev_dgetD (ks := paths.map .inr) (ds := numsD paths.length) (by walk_at "fldv") (ev_op (ev_var rfl) ev_int (rv_ixQ (b := b) atI1)) dkS hj3
        walk_at "sq"
        refine hn _ _ _ ⟨pl ++ [j], _, rfl, ?_, by simp [p1], fun k hk => ?_⟩
        · rw [tk, dN_snoc, List.map_append]; rfl
        · rw [tk, dN_snoc]
          rcases List.mem_append.mp hk with z | z
          · exact p2 k z
          · simp at z; show k < _ + (_ + 0); omega
      | deed n ks =>
        refine c_if (b := false) (et_is (et_test (ev_op (ev_op (ev_var rfl) ev_int (rv_ixQ (b := b) atI0)) ev_str ru_eqS)) (by decide)) (fun z => by cases z) (fun _ => ?_)
        walk_at "sq"
        walk_at "sq"
        refine c_append 1 rfl (ev_var rfl) (x := .int ((paths.length + dN (rs.take i) : Nat) : Int)) (by walk_at "fldv") (by rw [List.length_map]; exact small_lt (by omega)) ?_
        walk_at "sq"
        refine c_fld 2 rfl (y := .int (((paths.length + dN (rs.take i) : Nat) : Int) + 1)) (ev_op (x := .int ((paths.length + dN (rs.take i) : Nat) : Int)) (by walk_at "fldv") ev_int ru_addI) (ev_var rfl) hcl h4 (by decide) ?_
        walk_at "sq"
        refine hn _ _ _ ⟨pl ++ [paths.length + dN (rs.take i)], _, rfl, ?_, by simp [p1], fun k hk => ?_⟩
        · rw [tk, dN_snoc, List.map_append]; rfl
        · rw [tk, dN_snoc]
          rcases List.mem_append.mp hk with z | z
          · have := p2 k z; show k < _ + (_ + 1); omega
          · simp at z; show k < _ + (_ + 1); omega
    · rintro _ _ ⟨pl, x4, rfl, rfl, p1, p2⟩
      simp only [List.length_map] at p1 p2
      rw [List.length_map, List.take_length] at *
      have dl := dN_le rs
      walk_at "sq"
      have hpl0 : pl.length ≠ 0 := fun z => hne (List.length_eq_zero_iff.mp (by omega))
      refine c_fld 1 rfl (y := .tup (pl.map fun k => D.int (k : Nat))) (ev_cb (ea_cons (ev_var rfl) ea_nil) (rc_tupO (n := 0) rfl)) (ev_var rfl) hcl h5 (by decide) ?_
      show Cont K R Z _ _ [(pp, .lst (pl.map fun k => D.int (k : Nat))), (x, .ins C ["sheet", "paths", "numbers", "count", "places"] (vals4 (paths.length + dN rs) ++ [.tup (pl.map fun k => D.int (k : Nat))]))]
      walk_at "sq"
      obtain ⟨ds, hds, hdp, hdl⟩ := deeds_eq b rs
      refine c_fld 1 rfl (y := .lst (ds.map fun k => D.int (k : Nat))) ?_ (ev_var rfl) hcl h6 (by decide) ?_
      · rw [← hds]
        refine ev_frzL (en_lc (fun d => isDeed (sn0 d)) hd0 (fun d => (((wipeE [some (.ref x), some (shD b rs), some (.lst ((thingsOf rs).map .str)), some (.ref pp), x4, none, none, none] [6, 4]).set 6 (some (hd0 d))).set 4 (some (sn0 d)))) (ei_enum (d := shD b rs) (ea_cons (ev_var rfl) ea_nil) (seqD_seq b _) (seqD_nstr b _)) (small_sz (by rw [enD_length, List.length_map]; omega)) (fun d hd => ?_) (fun d hd e l he => ?_) (fun d hd hp e l he => ?_))
        · obtain ⟨i, hi⟩ := List.mem_iff_getElem?.mp hd
          obtain ⟨y, hy, rfl⟩ := enD_at hi
          exact tc_two (by decide)
        · obtain ⟨i, hi⟩ := List.mem_iff_getElem?.mp hd
          obtain ⟨y, hy, rfl⟩ := enD_at hi
          obtain ⟨s, z, l', rfl⟩ := row_cases (List.mem_of_getElem? hy)
          show EvT K R Z _ _ _ (isDeed (seqD b (.str s :: z :: l')))
          rw [isDeed_seq]
          exact et_test (ev_op (ev_op (ev_var rfl) ev_int (rv_ixQ (b := b) atI0)) ev_str ru_eqS)
        · obtain ⟨i, hi⟩ := List.mem_iff_getElem?.mp hd
          obtain ⟨y, hy, rfl⟩ := enD_at hi
          exact ev_var rfl
      show Cont K R Z _ _ [(pp, .lst (pl.map fun k => D.int (k : Nat))), (x, .ins C ["sheet", "paths", "numbers", "count", "places", "deeds"] (vals4 (paths.length + dN rs) ++ [.tup (pl.map fun k => D.int (k : Nat)), .lst (ds.map fun k => D.int (k : Nat))]))]
      walk_at "sq"
      have hgl : pl[pl.length - 1]? = some pl[pl.length - 1] := List.getElem?_eq_getElem (by omega)
      refine c_fld 1 rfl (y := .int (pl[pl.length - 1] : Nat)) (ev_op (x := .tup (pl.map fun k => D.int (k : Nat))) (y := .int (-1)) (by walk_at "fldv") (by walk_at "ev") (rv_ixT (atI_m1 (by rw [List.length_map, List.getElem?_map, hgl]; rfl)))) (ev_var rfl) hcl h7 (by decide) ?_
      show Cont K R Z _ _ ([(pp, .lst (pl.map fun k => D.int (k : Nat)))] ++ [(x, .ins C flds7 (vals7 b rs paths pl ds (paths.length + dN rs) pl[pl.length - 1]))])
      walk_at "sq"
      refine c_perm (List.perm_append_comm (l₁ := ([(pp, .lst (pl.map fun k => D.int (k : Nat)))] : Led))) ?_
      refine c_fldX (Ψ := fun d Γ' => Γ' = [(x, .ins C flds7 (vals7 b rs paths pl ds (paths.length + dN rs) pl[pl.length - 1])), (pp, .lst (pl.map fun k => D.int (k : Nat)))])
        (evx_call (Γc := [(x, .ins C flds7 (vals7 b rs paths pl ds (paths.length + dN rs) pl[pl.length - 1]))]) (ds := [.ref x]) (ea_cons (ev_var rfl) ea_nil)
          ⟨x, b, rs, paths, pl, ds, paths.length + dN rs, pl[pl.length - 1], rfl, rfl, ⟨hpn, hps, fun p hp => ?_, by omega, by omega, p1, p2, hdp, O.near, by omega, O.kz⟩, fun dss => rfl⟩) ?_
      · obtain ⟨y, hy, hpy⟩ := (hpm p).mp hp
        exact (hpm _).mpr ⟨y, hy, IsPre.trans (pre_is p _) hpy⟩
      rintro d _ rfl
      refine ⟨0, x, C, _, _, rfl, ev_var rfl, hcl, h8, by decide, ?_⟩
      show Cont K R Z _ _ [(x, .ins C flds8 (vals7 b rs paths pl ds (paths.length + dN rs) pl[pl.length - 1] ++ [d])), (pp, .lst (pl.map fun k => D.int (k : Nat)))]
      have hend := hP paths (vals7 b rs paths pl ds (paths.length + dN rs) pl[pl.length - 1] ++ [d]) ⟨hpn, hpm⟩ rfl
      exact (RtOk.end0 hq hend).sub ((List.nil_sublist _).cons_cons _)
  · rintro R Z _ _ Q ⟨x, z, n, ks, rfl, rfl⟩ hE
    show Cont K R Z _ [some (.ref x), some (.tup [.tup [.str "thing", .int z], .tup [.str "deed", n, ks]]), none, none, none, none, none, none] _
    walk_at "sq"
    refine c_set (d := .lst [.int z]) (ev_frzL ?_) ?_
    · have e : (([.tup [.str "thing", .int z], .tup [.str "deed", n, ks]] : List D).filter isThing).map sn0 = [.int z] := by
        have h1 : isThing (.tup [.str "thing", .int z]) = true := by simp [isThing, hd0, strOf]
        have h2 : isThing (.tup [.str "deed", n, ks]) = false := show decide (("deed" : Str) = "thing") = false by decide
        rw [List.filter_cons_of_pos h1, List.filter_cons_of_neg (by rw [h2]; simp)]
        rfl
      rw [← e]
      refine en_lc isThing sn0 _ (ei_tup (ev_var rfl)) (small_sz (by simp)) (fun d _ => tc_name) (fun d hd e l he => ?_) (fun d hd hp e l he => ?_)
      · have : ∃ s y l, d = .tup (.str s :: y :: l) := by
          simp at hd
          rcases hd with rfl | rfl
          · exact ⟨_, _, _, rfl⟩
          · exact ⟨_, _, _, rfl⟩
        obtain ⟨s, y, l', rfl⟩ := this
        rw [show isThing (.tup (.str s :: y :: l')) = decide (s = "thing") from rfl]
        exact et_test (ev_op (ev_op (ev_var rfl) ev_int (rv_ixT atI0)) ev_str ru_eqS)
      · have : ∃ s y l, d = .tup (.str s :: y :: l) := by
          simp at hd
          rcases hd with rfl | rfl
          · exact ⟨_, _, _, rfl⟩
          · exact ⟨_, _, _, rfl⟩
        obtain ⟨s, y, l', rfl⟩ := this
        exact ev_op (ev_var rfl) ev_int (rv_ixT atI1)
    walk_at "sq"
    refine c_if (b := true) ?_ (fun _ => ?_) (fun z => by cases z)
    · refine et_is (et_not (et_B (b := ([false] : List Bool).all id) (ev_cb (ea_cons (ev_frzL (en_lcm (fun _ => .bl false) (ds := [.int z]) _ (ei_lst (ev_var rfl)) (small_sz (by simp)) (fun d _ => tc_name) (fun d hd e l he => ?_))) ea_nil) (rc_all (bs := [false]))))) rfl
      simp at hd
      subst hd
      exact ev_isi (n := "int") (ev_var rfl) rfl (by decide +kernel)
    walk_at "sq"
    exact fun B H σ w => hE H
end
end W63
set_option Elab.async false
set_option linter.all false
set_option maxRecDepth 100000
set_option maxHeartbeats 4000000
namespace W63
open PySem PySem.Spec PyProof.Rows L2 DL
/-! steps of the walk by data -/
local macro_rules | `(tactic| walk_at "side") => `(tactic| first | (with_reducible show D) | (with_reducible show Int) | (with_reducible show Nat) | (with_reducible show List _) | (with_reducible show Bool) | (with_reducible show Str) | (with_reducible show Option _) | (with_reducible show Addr) | (with_reducible show MO) | (with_reducible show Key) | with_reducible rfl | assumption | omega | (with_reducible exact atI0) | (with_reducible exact atI1) | (with_reducible exact atI2) | (with_reducible exact atI3) | ((with_reducible refine' cdiv ?_ ?_) <;> omega) | ((with_reducible refine' cmulR ?_ ?_) <;> omega) | ((with_reducible refine' cmulL ?_ ?_) <;> omega) | ((with_reducible refine' cpow ?_ ?_ ?_) <;> decide) | ((with_reducible refine' small_sz ?_) <;> first | assumption | omega | decide | (simp only [List.length_map, List.length_append, List.length_cons, List.length_nil, List.length_set] <;> omega)) | ((with_reducible refine' small_lt ?_) <;> first | assumption | omega | decide | (simp only [List.length_map, List.length_append, List.length_cons, List.length_nil, List.length_set] <;> omega)) | (show (0 : Int) < _; omega) | decide | skip)
local macro_rules | `(tactic| walk_at "look") => `(tactic| first | (with_reducible exact look0) | (with_reducible exact look1) | (with_reducible exact look2) | (with_reducible exact look3) | (with_reducible exact look4) | (with_reducible exact look5) | (with_reducible exact look6) | (with_reducible exact look7) | (with_reducible exact look8) | (with_reducible exact look9) | (with_reducible exact look10))
local macro_rules | `(tactic| walk_at "ev") => `(tactic| first
  | (with_reducible show D) | (with_reducible show Int) | (with_reducible show Nat) | (with_reducible show List _) | (with_reducible show Bool) | (with_reducible show Str) | (with_reducible show Option _) | (with_reducible show Addr) | (with_reducible show MO) | (with_reducible show Key)
  | ((with_reducible refine' ev_var ?_) <;> first | (with_reducible show D) | rfl)
  | (with_reducible exact ev_int)
  | (with_reducible exact ev_str)
  | (with_reducible exact ev_bl)
  | (with_reducible exact ev_non)
  | ((with_reducible refine' ev_op ?_ ?_ ?_) <;> walk_at "ev")
  | ((with_reducible refine' en_op ?_ ?_ ?_) <;> walk_at "ev")
  | ((with_reducible refine' ev_tup ?_ ?_) <;> walk_at "ev")
  | ((with_reducible refine' en_lst ?_ ?_) <;> walk_at "ev")
  | (with_reducible exact en_dk)
  | (with_reducible exact en_dn)
  | ((with_reducible refine' ev_cb ?_ ?_) <;> walk_at "ev")
  | ((with_reducible refine' en_cb ?_ ?_) <;> walk_at "ev")
  | (with_reducible exact ea_nil)
  | ((with_reducible refine' ea_cons ?_ ?_) <;> walk_at "ev")
  | ((with_reducible refine' ev_neg ?_) <;> walk_at "ev")
  | ((with_reducible refine' ev_slS ?_ ?_ ?_ ?_) <;> walk_at "ev")
  | ((with_reducible refine' ev_slT ?_ ?_ ?_) <;> walk_at "ev")
  | ((with_reducible refine' en_slL ?_ ?_ ?_) <;> walk_at "ev")
  | ((with_reducible refine' en_slO ?hn ?ha ?hl ?hh); (case ha => walk_at "ev"); (case hn => walk_at "look"); (case hl => walk_at "ev"); (case hh => walk_at "ev"))
  | (with_reducible exact eo_none)
  | ((with_reducible refine' eo_some ?_) <;> walk_at "ev")
  | ((with_reducible refine' et_test ?_) <;> walk_at "ev")
  | ((with_reducible refine' et_B ?_) <;> walk_at "ev")
  | ((with_reducible refine' et_not ?_) <;> walk_at "ev")
  | (with_reducible exact rv_II)
  | (with_reducible exact rv_IB)
  | (with_reducible exact ru_addI)
  | (with_reducible exact ru_eqI)
  | (with_reducible exact ru_neI)
  | (with_reducible exact ru_eqS)
  | (with_reducible exact ru_neS)
  | ((with_reducible refine' rv_IC ?_) <;> walk_at "side")
  | ((with_reducible refine' ru_mulI ?_) <;> walk_at "side")
  | ((with_reducible refine' ru_mulS ?_ ?_ ?_) <;> walk_at "side")
  | ((with_reducible refine' ru_addS ?_) <;> walk_at "side")
  | ((with_reducible refine' ru_addT ?_) <;> walk_at "side")
  | ((with_reducible refine' rv_ixT ?_) <;> walk_at "side")
  | ((with_reducible refine' rv_ixL ?_) <;> walk_at "side")
  | ((with_reducible refine' rv_ixF ?_) <;> walk_at "side")
  | ((with_reducible refine' rv_ixS ?_ ?_) <;> walk_at "side")
  | ((with_reducible refine' rv_ixO ?hn ?ha); (case hn => walk_at "look"); (case ha => walk_at "side"))
  | (with_reducible exact rc_int)
  | (with_reducible exact rc_intb)
  | (with_reducible exact rc_max2)
  | (with_reducible exact rc_min2)
  | (with_reducible exact rc_tupL)
  | (with_reducible exact rc_tupT)
  | (with_reducible exact rc_lenK)
  | (with_reducible exact rc_lenT)
  | (with_reducible exact rc_lenL)
  | (with_reducible exact rc_lenF)
  | (with_reducible exact rcn_listL)
  | (with_reducible exact rcn_listT)
  | ((with_reducible refine' rc_lenS ?_) <;> walk_at "side")
  | ((with_reducible refine' rc_lenO ?hn); (case hn => walk_at "look"))
  | ((with_reducible refine' rc_lenOK ?hn); (case hn => walk_at "look"))
  | ((with_reducible refine' rc_tupO ?hn); (case hn => walk_at "look"))
  | ((with_reducible refine' rcn_listO ?hn); (case hn => walk_at "look"))
  | ((with_reducible refine' rcn_listK ?hn); (case hn => walk_at "look"))
  | ((with_reducible refine' rv_ixIn ?hn ?hq ?hd ?ha); (case hn => walk_at "look"); (case hq => assumption); (case hd => assumption); (case ha => walk_at "side"))
  | ((with_reducible refine' rv_ixLL ?hn ?ha); (case hn => walk_at "look"); (case ha => walk_at "side"))
  | ((with_reducible refine' et_truLL ?hn ?ha); (case ha => walk_at "ev"); (case hn => walk_at "look"))
  | ((with_reducible refine' et_truO ?hn ?ha); (case ha => walk_at "ev"); (case hn => walk_at "look"))
  | ((with_reducible refine' et_in _ ?hn ?hx ?hd ?hk); (case hd => walk_at "ev"); (case hx => walk_at "ev"); (case hn => walk_at "look"); (case hk => first | exact dkI | exact dkS))
  | ((with_reducible refine' et_notin _ ?hn ?hx ?hd ?hk); (case hd => walk_at "ev"); (case hx => walk_at "ev"); (case hn => walk_at "look"); (case hk => first | exact dkI | exact dkS))
  | ((with_reducible refine' ev_dget _ ?hn ?hd ?hx ?hk ?hg); (case hd => walk_at "ev"); (case hx => walk_at "ev"); (case hn => walk_at "look"); (case hk => first | exact dkI | exact dkS); (case hg => walk_at "side"))
  | ((with_reducible refine' ev_frzL ?_) <;> walk_at "ev")
  | walk_at "side")
local macro_rules | `(tactic| walk_at "sq") => `(tactic| ((try (refine c_next ?_)); (try (refine c_seq ?_)); try dsimp only [List.set]))
local macro_rules | `(tactic| walk_at "set") => `(tactic| ((refine' c_set ?h1 ?h2); (case h1 => walk_at "ev")))
local macro_rules | `(tactic| walk_at "app") => `(tactic| ((refine' c_append _ ?hn ?ha ?hx ?hl ?hq); (case ha => walk_at "ev"); (case hx => walk_at "ev"); (case hn => walk_at "look"); (case hl => walk_at "side")))
local macro_rules | `(tactic| walk_at "fld") => `(tactic| ((refine' c_fld _ ?hn ?hv ?ha ?hc ?hf ?hl ?hq); (case ha => walk_at "ev"); (case hv => walk_at "ev"); (case hn => walk_at "look"); (case hc => assumption); (case hf => assumption); (case hl => decide)))
local macro_rules | `(tactic| walk_at "it") => `(tactic| first
  | (refine' ei_tup ?h1; (case h1 => walk_at "ev"))
  | (refine' ei_lst ?h1; (case h1 => walk_at "ev"))
  | (refine' ei_fz ?h1; (case h1 => walk_at "ev"))
  | (refine' ei_range ?h1 ?h2 ?h3; (case h1 => walk_at "ev"); (case h2 => first | omega | (simp <;> omega)); (case h3 => first | omega | (simp <;> omega))))
local macro_rules | `(tactic| walk_at "if") => `(tactic| ((refine' c_if ?hc ?ht ?he); (case hc => walk_at "ev")))
local macro_rules | `(tactic| walk_at "ret") => `(tactic| ((try (refine c_next ?_)); (try dsimp only [List.set]); (refine' c_ret (by assumption) ?h1 ?h2); (case h1 => walk_at "ev")))
local macro_rules | `(tactic| walk_at "dput") => `(tactic| ((refine' c_dput _ ?hn ?hv ?hd ?hx ?hk ?hl ?hq); (case hd => walk_at "ev"); (case hv => walk_at "ev"); (case hx => walk_at "ev"); (case hn => walk_at "look"); (case hk => first | exact dkI | exact dkS); (case hl => walk_at "side")))
local macro_rules | `(tactic| walk_at "popLL") => `(tactic| ((refine' c_popLL _ ?hn ?ha ?hz ?hq); (case ha => walk_at "ev"); (case hn => walk_at "look"); (case hz => walk_at "side")))
local macro_rules | `(tactic| walk_at "evt") => `(tactic| ((refine' et_is ?h1 ?h2); (case h1 => walk_at "ev"); (case h2 => first | rfl | decide | (simp <;> omega) | assumption)))

abbrev s_node_count : Stmt := topS 10
abbrev n_node_count : List Str := ["sheet"]
theorem sc_node_count : FnScope n_node_count ["sheet"] (defScope s_node_count) := ⟨rfl, rfl, rfl, by decide +kernel, rfl, by decide +kernel, by decide +kernel⟩
abbrev s_l_due : Stmt := topS 12
abbrev n_l_due : List Str := ["sheet", "paths", "deeds", "part", "count"]
theorem sc_l_due : FnScope n_l_due ["sheet"] (defScope s_l_due) := ⟨rfl, rfl, rfl, by decide +kernel, rfl, by decide +kernel, by decide +kernel⟩
abbrev s_l_whole : Stmt := topS 13
abbrev n_l_whole : List Str := ["value"]
theorem sc_l_whole : FnScope n_l_whole ["value"] (defScope s_l_whole) := ⟨rfl, rfl, rfl, by decide +kernel, rfl, by decide +kernel, by decide +kernel⟩
def IsCount (rs : List Row) (n : Nat) : Prop := ∃ paths, IsPaths rs paths ∧ n = paths.length + dN rs
theorem IsCount.uniq {rs : List Row} {m n : Nat} (h : IsCount rs m) (k : IsCount rs n) : m = n := by
  obtain ⟨p, ⟨p1, p2⟩, rfl⟩ := h
  obtain ⟨q, ⟨q1, q2⟩, rfl⟩ := k
  have : p.Perm q := (List.perm_ext_iff_of_nodup p1 q1).mpr fun y => (p2 y).trans (q2 y).symm
  rw [this.length_eq]
def c_count : List D → Led → (D → Led → Prop) → Prop := fun ds Γ P => ∃ b rs, ds = [shD b rs] ∧ Γ = [] ∧ SheetOk rs ∧ ∀ n : Nat, IsCount rs n → P (.int (n : Nat)) []
def b_count : List D → Led → Prop := fun ds Γ => ∃ z n ks, ds = [.tup [.tup [.str "thing", .int z], .tup [.str "deed", n, ks]]] ∧ Γ = []
def c_whole : List D → Led → (D → Led → Prop) → Prop := fun ds Γ P => ∃ n : Int, ds = [.int n] ∧ Γ = [] ∧ P (.bl true) []
section
variable {P : Program} {w : World} {K : PySem.W.Frag} {mg : Str → Option Value} {base : Heap}
theorem ok_count {C CB : Addr} (F : Def K mg "node_count" s_node_count) (T : Txt mg) (N : NodesTxt K C) (g_Nodes : mg "Nodes" = some (.ref C)) (M_Nodes : CalM P w K mg base C 3 ["self", "sheet"] (SpE K (c_init C) (b_init C) CB)) : CalX P w K mg base "node_count" 5 ["sheet"] (SpE K c_count b_count CB) := by
  refine F.calE sc_node_count (fun _ _ _ _ _ _ us hl => match us, hl with | [_], _ => rfl) (fun ds Γ P h => ?_) (fun ds Γ h => ?_) (fun f cdv A outer s H E hr => ?_)
  · obtain ⟨_, _, rfl, _⟩ := h; rfl
  · obtain ⟨_, _, _, rfl, _⟩ := h; rfl
  refine ⟨_, (pss_one (ps_ret (pe_fldK (K := K) (pe_makeX M_Nodes hr g_Nodes (passes_call (takes_of rfl rfl rfl rfl) (fun _ _ _ _ h => h)) (pa_cons (pv 0) pa_nil)) rfl)))
, ?_, ?_⟩ <;> try dsimp only [cxOf, Cx.nox, Cx.wish]
  · rintro R Z _ _ P Q ⟨b, rs, rfl, rfl, O, hP⟩ hq
    show Cont K R Z _ [some (shD b rs)] []
    refine c_retX (Ψ := fun d Γ' => ∃ n : Nat, IsCount rs n ∧ d = .int (n : Nat)) hq (evx_fld (evx_makeE (Γc := []) (ds := [shD b rs]) (ea_cons (ev_var rfl) ea_nil) fun x => ⟨x, b, rs, rfl, rfl, O, fun paths vs h1 h2 => ⟨rfl, 0, x, C, flds8, vs, _, rfl, rfl, N.cls, N.n4, h2, _, ⟨paths, h1, rfl⟩, rfl⟩⟩)) ?_
    rintro _ Γ' ⟨n, hn, rfl⟩
    exact ⟨[], List.nil_sublist _, hP n hn⟩
  · rintro R Z _ _ Q ⟨z, n, ks, rfl, rfl⟩ hE
    show Cont K R Z _ [some (.tup [.tup [.str "thing", .int z], .tup [.str "deed", n, ks]])] []
    refine c_retX (Ψ := fun d Γ' => False) (P := fun _ _ => False) (fun _ _ _ _ _ h => h.elim) (evx_fld (evx_makeB (Γc := []) (ds := [.tup [.tup [.str "thing", .int z], .tup [.str "deed", n, ks]]]) (ea_cons (ev_var rfl) ea_nil) (fun x => ⟨x, z, n, ks, rfl, rfl⟩) hE)) (fun _ _ h => h.elim)
theorem ok_whole (F : Def K mg "_law_whole" s_l_whole) (T : Txt mg) : Cal P w K mg base "_law_whole" 1 ["value"] (SpG K c_whole) := by
  refine F.cal sc_l_whole (fun _ _ _ _ _ _ us hl => match us, hl with | [_], _ => rfl) (fun ds Γ P h => ?_) (fun f cdv A outer s H E hr => ?_)
  · obtain ⟨_, rfl, _⟩ := h; rfl
  refine ⟨_, (pss_one (ps_ret (pe_and (pe_callB (call_isi2 (K := K)) rfl T.b_isinstance (by decide +kernel) (pa_cons (pv 0) (pa_cons (pe_bltn (v := .ty "int") rfl T.b_int (by decide +kernel) rfl) pa_nil))) (pe_one (pe_not (pe_callB (call_isi2 (K := K)) rfl T.b_isinstance (by decide +kernel) (pa_cons (pv 0) (pa_cons (pe_bltn (v := .ty "bool") rfl T.b_bool (by decide +kernel) rfl) pa_nil))))))))
, ?_⟩
  try dsimp only [cxOf, Cx.nox, Cx.wish]
  rintro R Z _ _ P Q ⟨n, rfl, rfl, hP⟩ hq
  show Cont K R Z _ [some (.int n)] []
  refine c_ret hq (ev_is (ev_andV (a := true) (b := true) (ev_isi (n := "int") (ev_var rfl) rfl (by decide +kernel)) fun _ => ev_is (ev_notV (a := false) (ev_isi (n := "int") (ev_var rfl) rfl (by decide +kernel))) rfl) rfl) hP
theorem ok_due (F : Def K mg "_law_due" s_l_due) (T : Txt mg) : Cal P w K mg base "_law_due" 1 ["sheet"] (SpG K c_count) := by
  refine F.cal sc_l_due (fun _ _ _ _ _ _ us hl => match us, hl with | [_], _ => rfl) (fun ds Γ P h => ?_) (fun f cdv A outer s H E hr => ?_)
  · obtain ⟨_, _, rfl, _⟩ := h; rfl
  have hu := hu_of hr
  refine ⟨_, (pss_cons (ps_set (i := 1) sc_l_due.nd rfl (by first | exact .inl rfl | exact .inr rfl) (pe_disp (pps_cons pe_str pe_bl pps_nil) (by rfl) (by rfl) (fun z => by cases z) (by decide)))
 (pss_cons (ps_set (i := 2) sc_l_due.nd rfl (by first | exact .inl rfl | exact .inr rfl) pe_int)
 (pss_cons (ps_for PassesOwn.never rfl (pi_seq (pv 0)) (pg_name (i := 3) sc_l_due.nd rfl (by first | exact .inl rfl | exact .inr rfl)) (pss_one (ps_if (pt_cmpR (op_eqUK (K := K) hr.units) (pe_ix (ix_seqK (K := K)) (pv 3) pe_int (fun _ _ => rfl)) pe_str (nomark _)) (pss_one (ps_for PassesOwn.never rfl (pi_range1 rfl T.b_range (pa_cons (pe_callB (call_lenUK (K := K)) rfl T.b_len (by decide +kernel) (pa_cons (pe_ix (ix_seqK (K := K)) (pv 3) pe_int (fun _ _ => rfl)) pa_nil)) pa_nil)) (pg_name (i := 4) sc_l_due.nd rfl (by first | exact .inl rfl | exact .inr rfl)) (pss_one (ps_dput hu (pv 1) (pe_slice (sl_UK (K := K)) (pe_ix (ix_seqK (K := K)) (pv 3) pe_int (fun _ _ => rfl)) po_none (po_some (pe_op (op_addUK (K := K)) (pv 4) pe_int))) pe_bl rfl)))) (pss_one (ps_set (i := 2) sc_l_due.nd rfl (by first | exact .inl rfl | exact .inr rfl) (pe_op (op_addUK (K := K)) (pv 2) pe_int))))))
 (pss_one (ps_ret (pe_op (op_addUK (K := K)) (pe_callB (call_lenUK (K := K)) rfl T.b_len (by decide +kernel) (pa_cons (pv 1) pa_nil)) (pv 2)))))))
, ?_⟩
  try dsimp only [cxOf, Cx.nox, Cx.wish]
  rintro R Z _ _ P Q ⟨b, rs, rfl, rfl, O, hP⟩ hq
  have hlen := O.len
  show Cont K R Z _ [some (shD b rs), none, none, none, none] []
  walk_at "sq"
  refine c_setN (m := .dk [.inr ""] [.bl true]) (en_disp1 (fun _ => ev_str) rfl (fun _ => ev_bl)) fun pp _ => ?_
  walk_at "sq"
  walk_at "set"
  walk_at "sq"
  refine c_for' (fun i E Γ => ∃ (ks : List Str) (vs : List D) (x3 x4 : Option D), E = [some (shD b rs), some (.ref pp), some (.int (dN (rs.take i) : Nat)), x3, x4] ∧ Γ = [(pp, .dk (ks.map .inr) vs)] ∧ (ks.map (.inr : Str → Key)).length = vs.length ∧ ks.Nodup ∧ ks.length ≤ i * 1000 + 1 ∧
    ∀ y, y ∈ ks ↔ ∃ x ∈ ("" : Str) :: thingsOf (rs.take i), IsPre y x) (ei_Q (b := b) (ev_var rfl)) ?_ ?_ ?_
  · refine ⟨[""], [.bl true], none, none, rfl, rfl, rfl, by simp, by simp, fun y => ?_⟩
    simp only [List.take_zero, thingsOf, List.mem_singleton]
    constructor
    · rintro rfl; exact ⟨"", rfl, IsPre.refl _⟩
    · rintro ⟨_, rfl, h⟩
      have := h.len
      by_cases hy : y = ""
      · exact hy
      · have := str_ne hy
        have e : ("" : Str).length = 0 := rfl
        omega
  · rintro nx e he hn i d _ _ hd ⟨ks, vs, x3, x4, rfl, rfl, g1, g2, g3, g4⟩
    rw [List.getElem?_map] at hd
    cases hri : rs[i]? with
    | none => rw [hri] at hd; cases hd
    | some r =>
    rw [hri] at hd
    cases hd
    have hi := (List.getElem?_eq_some_iff.mp hri).1
    have tk : rs.take (i + 1) = rs.take i ++ [r] := by rw [List.take_succ, hri]; rfl
    have tapp : ∀ l : List Row, ∀ r, thingsOf (l ++ [r]) = thingsOf l ++ thingsOf [r] := fun l r => by
      induction l with
      | nil => rfl
      | cons a l ih => cases a <;> simp [thingsOf, ih]
    refine ⟨_, tg_name, ?_⟩
    walk_at "sq"
    cases r with
    | thing p =>
      have hpl : p.length ≤ 1000 := O.small p (thingsOf_mem.mpr (List.mem_of_getElem? hri))
      refine c_if (b := true) (et_is (et_test (ev_op (ev_op (ev_var rfl) ev_int (rv_ixQ (b := b) atI0)) ev_str ru_eqS)) rfl) (fun _ => ?_) (fun z => by cases z)
      walk_at "sq"
      walk_at "sq"
      have hq1 : ∀ {E : List (Option D)} {Γ : Led}, E[3]? = some (some (seqD b [.str "thing", .str p])) → EvD K R Z E Γ (tOp (rIx K) (tVar 3) (tC (V.int 1))) (.str p) := fun hE => ev_op (ev_var hE) ev_int (rv_ixQ (b := b) atI1)
      refine c_for' (fun j E Γ => ∃ (ks : List Str) (vs : List D) (x4 : Option D), E = [some (shD b rs), some (.ref pp), some (.int (dN (rs.take i) : Nat)), some (seqD b [.str "thing", .str p]), x4] ∧ Γ = [e, (pp, .dk (ks.map .inr) vs)] ∧ (ks.map (.inr : Str → Key)).length = vs.length ∧ ks.Nodup ∧ ks.length ≤ i * 1000 + 1 + j ∧
        ∀ y, y ∈ ks ↔ (∃ x ∈ ("" : Str) :: thingsOf (rs.take i), IsPre y x) ∨ ∃ c : Nat, 1 ≤ c ∧ c ≤ j ∧ y = pre p c) (ei_range (j := (p.length : Nat)) (ea_cons (ev_cb (ea_cons (hq1 rfl) ea_nil) (rc_lenS (small_sz (by omega)))) ea_nil) (by omega) (by omega)) ?_ ?_ ?_
      · exact ⟨ks, vs, x4, rfl, rfl, g1, g2, by omega, fun y => ⟨fun z => .inl ((g4 y).mp z), fun z => z.elim (g4 y).mpr fun ⟨c, a, b, _⟩ => by omega⟩⟩
      · clear g1 g2 g3 g4
        clear ks vs x3 x4
        rintro nx2 e2 he2 hn2 j d _ _ hd ⟨ks, vs, x4, rfl, rfl, g1, g2, g3, g4⟩
        obtain ⟨rfl, hj⟩ := rngD_get hd
        have hj' : j < p.length := by simpa using hj
        refine ⟨_, tg_name, ?_⟩
        walk_at "sq"
        have hcut : EvD K R Z [some (shD b rs), some (.ref pp), some (.int (dN (rs.take i) : Nat)), some (seqD b [.str "thing", .str p]), some (.int (j : Nat))] [e2, e, (pp, .dk (ks.map .inr) vs)] (tSl (rSlU K) (tOp (rIx K) (tVar 3) (tC (V.int 1))) tNoPart (tPart (tOp (rAddU K) (tVar 4) (tC (V.int 1))))) (.str (pre p (j + 1))) := by
          rw [← cutS_pre]
          refine ev_slS (hq1 rfl) eo_none (eo_some ?_) (small_sz (by omega))
          exact ev_is (ev_op (ev_var rfl) ev_int ru_addI) (by congr 1)
        refine c_dput 2 rfl ev_bl (ev_var rfl) hcut dkS (by rw [List.length_map]; exact small_lt (by omega)) ?_
        have hkl := kPut_len (j := (.inr (pre p (j + 1)) : Key)) (x := .bl true) g1
        by_cases hm : pre p (j + 1) ∈ ks
        · have hk : kPutK (ks.map .inr) (.inr (pre p (j + 1)) : Key) = ks.map .inr := by unfold kPutK; rw [if_pos (by simpa using hm)]
          rw [hk] at hkl ⊢
          refine hn2 _ _ _ ⟨ks, _, _, rfl, rfl, hkl, g2, by omega, fun y => ?_⟩
          rw [g4]
          constructor
          · rintro (z | ⟨c, c1, c2, c3⟩)
            · exact .inl z
            · exact .inr ⟨c, c1, by omega, c3⟩
          · rintro (z | ⟨c, c1, c2, c3⟩)
            · exact .inl z
            · by_cases hc : c = j + 1
              · subst hc; rw [← g4, c3]; exact hm
              · exact .inr ⟨c, c1, by omega, c3⟩
        · have hk : kPutK (ks.map .inr) (.inr (pre p (j + 1)) : Key) = (ks ++ [pre p (j + 1)]).map .inr := by unfold kPutK; rw [if_neg (by simpa using hm), List.map_append]; rfl
          rw [hk] at hkl ⊢
          refine hn2 _ _ _ ⟨ks ++ [pre p (j + 1)], _, _, rfl, rfl, hkl, ?_, by simp; omega, fun y => ?_⟩
          · exact List.nodup_append.mpr ⟨g2, by simp, fun a ha b hb' z => by simp at hb'; subst hb'; subst z; exact hm ha⟩
          · rw [List.mem_append, g4]
            constructor
            · rintro ((z | ⟨c, c1, c2, c3⟩) | z)
              · exact .inl z
              · exact .inr ⟨c, c1, by omega, c3⟩
              · simp at z; exact .inr ⟨j + 1, by omega, by omega, z⟩
            · rintro (z | ⟨c, c1, c2, c3⟩)
              · exact .inl (.inl z)
              · by_cases hc : c = j + 1
                · subst hc; exact .inr (by simp [c3])
                · exact .inl (.inr ⟨c, c1, by omega, c3⟩)
      · clear g1 g2 g3 g4
        clear ks vs x3 x4
        rintro _ _ ⟨ks, vs, x4, rfl, rfl, g1, g2, g3, g4⟩
        have el : (rngD (p.length : Int).toNat).length = p.length := by simp [rngD]
        rw [el] at g3 g4
        refine hn _ _ _ ⟨ks, vs, some (seqD b [.str "thing", .str p]), x4, by rw [tk, dN_snoc]; rfl, rfl, g1, g2, by omega, fun y => ?_⟩
        · rw [g4, tk, tapp]
          constructor
          · rintro (⟨x, hx, hy⟩ | ⟨c, c1, c2, rfl⟩)
            · refine ⟨x, ?_, hy⟩
              rcases List.mem_cons.mp hx with rfl | z
              · exact List.mem_cons_self
              · exact List.mem_cons_of_mem _ (List.mem_append_left _ z)
            · exact ⟨p, List.mem_cons_of_mem _ (List.mem_append_right _ (by simp [thingsOf])), pre_is p c⟩
          · rintro ⟨x, hx, hy⟩
            rcases List.mem_cons.mp hx with rfl | z
            · exact .inl ⟨_, List.mem_cons_self, hy⟩
            · rcases List.mem_append.mp z with z | z
              · exact .inl ⟨x, List.mem_cons_of_mem _ z, hy⟩
              · simp [thingsOf] at z
                subst z
                by_cases h0 : y.length = 0
                · refine .inl ⟨"", List.mem_cons_self, ?_⟩
                  have : y = "" := Classical.byContradiction fun h => str_ne h h0
                  rw [this]; exact IsPre.refl _
                · exact .inr ⟨y.length, by omega, hy.len, hy.eq⟩
    | deed n ks' =>
      refine c_if (b := false) (et_is (et_test (ev_op (ev_op (ev_var rfl) ev_int (rv_ixQ (b := b) atI0)) ev_str ru_eqS)) (by decide)) (fun z => by cases z) (fun _ => ?_)
      walk_at "sq"
      walk_at "sq"
      refine c_set (ev_op (ev_var rfl) ev_int ru_addI) ?_
      refine hn _ _ _ ⟨ks, vs, some (seqD b (Row.deed n ks').cells), x4, by rw [tk, dN_snoc]; rfl, rfl, g1, g2, by omega, fun y => ?_⟩
      · rw [g4, tk, tapp]; simp [thingsOf]
  · rintro _ _ ⟨ks, vs, x3, x4, rfl, rfl, g1, g2, g3, g4⟩
    simp only [List.length_map, List.take_length] at g3 g4
    rw [List.length_map, List.take_length] at *
    walk_at "sq"
    refine c_retS [] hq (d := .int ((ks.length + dN rs : Nat) : Int)) ?_ (List.nil_sublist _) (hP _ ⟨ks, ⟨g2, g4⟩, rfl⟩)
    refine ev_is (ev_op (ev_cb (ea_cons (ev_var rfl) ea_nil) (rc_lenOK (n := 0) rfl)) (ev_var rfl) ru_addI) ?_
    rw [List.length_map]
    rfl
end
end W63
set_option Elab.async false
set_option linter.all false
set_option maxRecDepth 100000
set_option maxHeartbeats 4000000
namespace W63
open PySem PySem.Spec PyProof.Rows L2 DL
/-! steps of the walk by data -/
local macro_rules | `(tactic| walk_at "side") => `(tactic| first | (with_reducible show D) | (with_reducible show Int) | (with_reducible show Nat) | (with_reducible show List _) | (with_reducible show Bool) | (with_reducible show Str) | (with_reducible show Option _) | (with_reducible show Addr) | (with_reducible show MO) | (with_reducible show Key) | with_reducible rfl | assumption | omega | (with_reducible exact atI0) | (with_reducible exact atI1) | (with_reducible exact atI2) | (with_reducible exact atI3) | ((with_reducible refine' cdiv ?_ ?_) <;> omega) | ((with_reducible refine' cmulR ?_ ?_) <;> omega) | ((with_reducible refine' cmulL ?_ ?_) <;> omega) | ((with_reducible refine' cpow ?_ ?_ ?_) <;> decide) | ((with_reducible refine' small_sz ?_) <;> first | assumption | omega | decide | (simp only [List.length_map, List.length_append, List.length_cons, List.length_nil, List.length_set] <;> omega)) | ((with_reducible refine' small_lt ?_) <;> first | assumption | omega | decide | (simp only [List.length_map, List.length_append, List.length_cons, List.length_nil, List.length_set] <;> omega)) | (show (0 : Int) < _; omega) | decide | skip)
local macro_rules | `(tactic| walk_at "look") => `(tactic| first | (with_reducible exact look0) | (with_reducible exact look1) | (with_reducible exact look2) | (with_reducible exact look3) | (with_reducible exact look4) | (with_reducible exact look5) | (with_reducible exact look6) | (with_reducible exact look7) | (with_reducible exact look8) | (with_reducible exact look9) | (with_reducible exact look10))
local macro_rules | `(tactic| walk_at "ev") => `(tactic| first
  | (with_reducible show D) | (with_reducible show Int) | (with_reducible show Nat) | (with_reducible show List _) | (with_reducible show Bool) | (with_reducible show Str) | (with_reducible show Option _) | (with_reducible show Addr) | (with_reducible show MO) | (with_reducible show Key)
  | ((with_reducible refine' ev_var ?_) <;> first | (with_reducible show D) | rfl)
  | (with_reducible exact ev_int)
  | (with_reducible exact ev_str)
  | (with_reducible exact ev_bl)
  | (with_reducible exact ev_non)
  | ((with_reducible refine' ev_op ?_ ?_ ?_) <;> walk_at "ev")
  | ((with_reducible refine' en_op ?_ ?_ ?_) <;> walk_at "ev")
  | ((with_reducible refine' ev_tup ?_ ?_) <;> walk_at "ev")
  | ((with_reducible refine' en_lst ?_ ?_) <;> walk_at "ev")
  | (with_reducible exact en_dk)
  | (with_reducible exact en_dn)
  | ((with_reducible refine' ev_cb ?_ ?_) <;> walk_at "ev")
  | ((with_reducible refine' en_cb ?_ ?_) <;> walk_at "ev")
  | (with_reducible exact ea_nil)
  | ((with_reducible refine' ea_cons ?_ ?_) <;> walk_at "ev")
  | ((with_reducible refine' ev_neg ?_) <;> walk_at "ev")
  | ((with_reducible refine' ev_slS ?_ ?_ ?_ ?_) <;> walk_at "ev")
  | ((with_reducible refine' ev_slT ?_ ?_ ?_) <;> walk_at "ev")
  | ((with_reducible refine' en_slL ?_ ?_ ?_) <;> walk_at "ev")
  | ((with_reducible refine' en_slO ?hn ?ha ?hl ?hh); (case ha => walk_at "ev"); (case hn => walk_at "look"); (case hl => walk_at "ev"); (case hh => walk_at "ev"))
  | (with_reducible exact eo_none)
  | ((with_reducible refine' eo_some ?_) <;> walk_at "ev")
  | ((with_reducible refine' et_test ?_) <;> walk_at "ev")
  | ((with_reducible refine' et_B ?_) <;> walk_at "ev")
  | ((with_reducible refine' et_not ?_) <;> walk_at "ev")
  | (with_reducible exact rv_II)
  | (with_reducible exact rv_IB)
  | (with_reducible exact ru_addI)
  | (with_reducible exact ru_eqI)
  | (with_reducible exact ru_neI)
  | (with_reducible exact ru_eqS)
  | (with_reducible exact ru_neS)
  | ((with_reducible refine' rv_IC ?_) <;> walk_at "side")
  | ((with_reducible refine' ru_mulI ?_) <;> walk_at "side")
  | ((with_reducible refine' ru_mulS ?_ ?_ ?_) <;> walk_at "side")
  | ((with_reducible refine' ru_addS ?_) <;> walk_at "side")
  | ((with_reducible refine' ru_addT ?_) <;> walk_at "side")
  | ((with_reducible refine' rv_ixT ?_) <;> walk_at "side")
  | ((with_reducible refine' rv_ixL ?_) <;> walk_at "side")
  | ((with_reducible refine' rv_ixF ?_) <;> walk_at "side")
  | ((with_reducible refine' rv_ixS ?_ ?_) <;> walk_at "side")
  | ((with_reducible refine' rv_ixO ?hn ?ha); (case hn => walk_at "look"); (case ha => walk_at "side"))
  | (with_reducible exact rc_int)
  | (with_reducible exact rc_intb)
  | (with_reducible exact rc_max2)
  | (with_reducible exact rc_min2)
  | (with_reducible exact rc_tupL)
  | (with_reducible exact rc_tupT)
  | (with_reducible exact rc_lenK)
  | (with_reducible exact rc_lenT)
  | (with_reducible exact rc_lenL)
  | (with_reducible exact rc_lenF)
  | (with_reducible exact rcn_listL)
  | (with_reducible exact rcn_listT)
  | ((with_reducible refine' rc_lenS ?_) <;> walk_at "side")
  | ((with_reducible refine' rc_lenO ?hn); (case hn => walk_at "look"))
  | ((with_reducible refine' rc_lenOK ?hn); (case hn => walk_at "look"))
  | ((with_reducible refine' rc_tupO ?hn); (case hn => walk_at "look"))
  | ((with_reducible refine' rcn_listO ?hn); (case hn => walk_at "look"))
  | ((with_reducible refine' rcn_listK ?hn); (case hn => walk_at "look"))
  | ((with_reducible refine' rv_ixIn ?hn ?hq ?hd ?ha); (case hn => walk_at "look"); (case hq => assumption); (case hd => assumption); (case ha => walk_at "side"))
  | ((with_reducible refine' rv_ixLL ?hn ?ha); (case hn => walk_at "look"); (case ha => walk_at "side"))
  | ((with_reducible refine' et_truLL ?hn ?ha); (case ha => walk_at "ev"); (case hn => walk_at "look"))
  | ((with_reducible refine' et_truO ?hn ?ha); (case ha => walk_at "ev"); (case hn => walk_at "look"))
  | ((with_reducible refine' et_in _ ?hn ?hx ?hd ?hk); (case hd => walk_at "ev"); (case hx => walk_at "ev"); (case hn => walk_at "look"); (case hk => first | exact dkI | exact dkS))
  | ((with_reducible refine' et_notin _ ?hn ?hx ?hd ?hk); (case hd => walk_at "ev"); (case hx => walk_at "ev"); (case hn => walk_at "look"); (case hk => first | exact dkI | exact dkS))
  | ((with_reducible refine' ev_dget _ ?hn ?hd ?hx ?hk ?hg); (case hd => walk_at "ev"); (case hx => walk_at "ev"); (case hn => walk_at "look"); (case hk => first | exact dkI | exact dkS); (case hg => walk_at "side"))
  | ((with_reducible refine' ev_frzL ?_) <;> walk_at "ev")
  | walk_at "side")
local macro_rules | `(tactic| walk_at "sq") => `(tactic| ((try (refine c_next ?_)); (try (refine c_seq ?_)); try dsimp only [List.set]))
local macro_rules | `(tactic| walk_at "set") => `(tactic| ((refine' c_set ?h1 ?h2); (case h1 => walk_at "ev")))
local macro_rules | `(tactic| walk_at "app") => `(tactic| ((refine' c_append _ ?hn ?ha ?hx ?hl ?hq); (case ha => walk_at "ev"); (case hx => walk_at "ev"); (case hn => walk_at "look"); (case hl => walk_at "side")))
local macro_rules | `(tactic| walk_at "fld") => `(tactic| ((refine' c_fld _ ?hn ?hv ?ha ?hc ?hf ?hl ?hq); (case ha => walk_at "ev"); (case hv => walk_at "ev"); (case hn => walk_at "look"); (case hc => assumption); (case hf => assumption); (case hl => decide)))
local macro_rules | `(tactic| walk_at "it") => `(tactic| first
  | (refine' ei_tup ?h1; (case h1 => walk_at "ev"))
  | (refine' ei_lst ?h1; (case h1 => walk_at "ev"))
  | (refine' ei_fz ?h1; (case h1 => walk_at "ev"))
  | (refine' ei_range ?h1 ?h2 ?h3; (case h1 => walk_at "ev"); (case h2 => first | omega | (simp <;> omega)); (case h3 => first | omega | (simp <;> omega))))
local macro_rules | `(tactic| walk_at "if") => `(tactic| ((refine' c_if ?hc ?ht ?he); (case hc => walk_at "ev")))
local macro_rules | `(tactic| walk_at "ret") => `(tactic| ((try (refine c_next ?_)); (try dsimp only [List.set]); (refine' c_ret (by assumption) ?h1 ?h2); (case h1 => walk_at "ev")))
local macro_rules | `(tactic| walk_at "dput") => `(tactic| ((refine' c_dput _ ?hn ?hv ?hd ?hx ?hk ?hl ?hq); (case hd => walk_at "ev"); (case hv => walk_at "ev"); (case hx => walk_at "ev"); (case hn => walk_at "look"); (case hk => first | exact dkI | exact dkS); (case hl => walk_at "side")))
local macro_rules | `(tactic| walk_at "popLL") => `(tactic| ((refine' c_popLL _ ?hn ?ha ?hz ?hq); (case ha => walk_at "ev"); (case hn => walk_at "look"); (case hz => walk_at "side")))
local macro_rules | `(tactic| walk_at "evt") => `(tactic| ((refine' et_is ?h1 ?h2); (case h1 => walk_at "ev"); (case h2 => first | rfl | decide | (simp <;> omega) | assumption)))

abbrev s_law : Stmt := topS 23
abbrev n_law : List Str := ["script", "row", "sheet", "told", "far", "near", "wide", "bad", "e", "k", "part"]
theorem sc_law : FnScope n_law ["script"] (defScope s_law) := ⟨rfl, rfl, rfl, by decide +kernel, rfl, by decide +kernel, by decide +kernel⟩
def c_law : List D → Led → (D → Led → Prop) → Prop := fun ds Γ P => ∃ ns : List Int, ds = [.fz (ns.map .int)] ∧ Γ = [] ∧ ns.length ≤ 63 ∧ P = fun d _ => d = .bl true
def spLaw (K : PySem.W.Frag) : Sp := fun vs H Q _ => ∃ (a : Addr) (ns : List Int), vs = [.ref a] ∧ SqL K H a (ns.map V.int) ∧ ns.length ≤ 63 ∧ ∀ H', Q (.bl true) H'
/-- every sheet has a count -/
theorem count_ex (rs : List Row) : ∃ n, IsCount rs n := by
  let L : List Str := (("" : Str) :: thingsOf rs).flatMap fun x => (List.range (x.length + 1)).map (pre x)
  obtain ⟨_, h1, h2⟩ := ddS_facts L
  refine ⟨_, _, ⟨h1, fun y => ?_⟩, rfl⟩
  rw [h2]
  simp only [L, List.mem_flatMap, List.mem_map, List.mem_range]
  constructor
  · rintro ⟨x, hx, n, _, rfl⟩; exact ⟨x, hx, pre_is x n⟩
  · rintro ⟨x, hx, h⟩; exact ⟨x, hx, y.length, by have := h.len; omega, h.eq.symm⟩
theorem count_e : IsCount [.deed "e" []] 2 := by
  refine ⟨[""], ⟨by simp, fun y => ?_⟩, rfl⟩
  simp only [thingsOf, List.mem_singleton]
  constructor
  · rintro rfl; exact ⟨"", rfl, IsPre.refl _⟩
  · rintro ⟨_, rfl, h⟩
    have := h.len
    by_cases hy : y = ""
    · exact hy
    · have := str_ne hy
      have e : ("" : Str).length = 0 := rfl
      omega
theorem drawn_ok {m : Nat} {rs : List Row} {o : List Nat} (h : Drawn m rs o) (hm : m ≤ 99) : SheetOk (sheetOf rs o) := by
  have hol : o.length ≤ rs.length := nodup_lt rs.length o h.ndo fun x hx => by
    obtain ⟨j, hj⟩ := List.mem_iff_getElem?.mp hx
    exact (h.post j x hj).1
  have hmem : ∀ r ∈ sheetOf rs o, ∃ r0 ∈ rs, ∃ f, r = Row.re f r0 := fun r hr => by
    obtain ⟨x, hx, rfl⟩ := List.mem_map.mp hr
    obtain ⟨j, hj⟩ := List.mem_iff_getElem?.mp hx
    have hlt := (h.post j x hj).1
    refine ⟨rs[x], List.getElem_mem hlt, fun k => o.idxOf k, ?_⟩
    unfold rowAt
    rw [List.getElem?_eq_getElem hlt]
    rfl
  refine ⟨?_, ?_, (sheet_wf h.post).near, fun p hp => ?_, fun r hr => ?_⟩
  · obtain ⟨k, a, b, hl, _⟩ := h.top
    intro z
    have : o = [] := List.map_eq_nil_iff.mp z
    rw [this] at hl
    simp at hl
  · have := h.len
    unfold sheetOf
    rw [List.length_map]
    omega
  · obtain ⟨r0, hr0, f, e⟩ := hmem _ (thingsOf_mem.mp hp)
    have hk := h.ok r0 hr0
    cases r0 with
    | deed n ks => cases e
    | thing q =>
      cases e
      have hq : p ∈ paths10 := hk
      unfold paths10 at hq
      simp only [List.mem_cons, List.not_mem_nil, or_false] at hq
      rcases hq with rfl | rfl | rfl | rfl | rfl | rfl | rfl | rfl | rfl | rfl <;> decide
  · obtain ⟨r0, hr0, f, rfl⟩ := hmem r hr
    have hk := h.ok r0 hr0
    rw [re_ks, List.length_map]
    cases r0 with
    | thing q => simp [Row.ks]
    | deed n ks => exact Nat.le_trans hk.2 (by decide)
def wideOf (far near : Str) : List Row := [.thing far, .thing (near ++ "c"), .deed "h" [0, 1, 0], .deed "e" [], .deed "k" [2, 3]]
theorem wide_ok {far near : Str} (h1 : far.length ≤ 500) (h2 : (near ++ ("c" : Str)).length ≤ 500) : SheetOk (wideOf far near) := by
  refine ⟨by simp [wideOf], by simp [wideOf], fun r hr k hk => ?_, fun p hp => ?_, fun r hr => ?_⟩
  · simp only [wideOf, List.mem_cons, List.not_mem_nil, or_false] at hr
    have e : (wideOf far near).length = 5 := rfl
    rw [e]
    rcases hr with rfl | rfl | rfl | rfl | rfl <;> simp [Row.ks] at hk <;> omega
  · simp only [wideOf, thingsOf, List.mem_cons, List.not_mem_nil, or_false] at hp
    rcases hp with rfl | rfl <;> omega
  · simp only [wideOf, List.mem_cons, List.not_mem_nil, or_false] at hr
    rcases hr with rfl | rfl | rfl | rfl | rfl <;> simp [Row.ks]
theorem e_ok : SheetOk [.deed "e" []] := ⟨by simp, by simp, fun r hr k hk => by simp at hr; subst hr; simp [Row.ks] at hk, fun p hp => by simp [thingsOf] at hp, fun r hr => by simp at hr; subst hr; simp [Row.ks]⟩
section
variable {P : Program} {w : World} {K : PySem.W.Frag} {mg : Str → Option Value} {base : Heap}
theorem ok_law {CE CL : Addr} {f : Addr} {fd : FuncData} (F : Fun K "law" "law" s_law f fd) (T : Txt mg) (EC : ExcC K CE) (g_BadSheet : mg "BadSheet" = some (.ref CE)) (g_LoopError : mg "LoopError" = some (.ref CL)) (ex1 : PySem.W.exmOne K (.ref CE) (.ref CL) = some true) (ki : PySem.W.kitOne K (.ref CE) (.ref CE) = some true)
    (C__law_cell : Cal P w K mg base "_law_cell" 1 ["script", "k"] (SpG K c_cell)) (C__law_digits : Cal P w K mg base "_law_digits" 1 ["cell", "sizes"] (SpG K c_digits)) (C__law_small_answer : Cal P w K mg base "_law_small_answer" 3 ["row", "things", "deeds"] (SpG K (c_small w)))
    (C__law_due : Cal P w K mg base "_law_due" 1 ["sheet"] (SpG K c_count)) (C__law_whole : Cal P w K mg base "_law_whole" 1 ["value"] (SpG K c_whole)) (C_node_count : CalX P w K mg base "node_count" 5 ["sheet"] (SpE K c_count b_count CE)) : FnOk P w K mg base CX0 6 f fd ["script"] (spLaw K) := by
  obtain ⟨f_BadSheet, hfb⟩ : ∃ x, x = CE := ⟨_, rfl⟩
  rw [← hfb] at g_BadSheet
  refine F.ok sc_law (fun vs H Q E h => ?_) (fun cdv A outer s H vs Q E hr h => ?_)
  · obtain ⟨a, ns, rfl, _⟩ := h; rfl
  have hu := hu_of hr
  refine ⟨_, (pss_cons (ps_set (i := 1) sc_law.nd rfl (by first | exact .inl rfl | exact .inr rfl) (pe_cal C__law_digits hr (pa_cons (pe_cal C__law_cell hr (pa_cons (pv 0) (pa_cons pe_int pa_nil))) (pa_cons (pe_lc (own := [("k", 9)]) rfl sc_law.nd (pi_range1 rfl T.b_range (pa_cons pe_int pa_nil)) (blkOk_by (own := [("k", 9)]) (N := n_law) (sc := defScope s_law) (by decide +kernel)) (fun _ _ _ _ _ => (pg_name (i := 9) sc_law.nd rfl (by first | exact .inl rfl | exact .inr rfl))) (fun _ _ _ _ _ => pts_nil) (fun _ _ _ _ _ => pe_int)) pa_nil))))
 (pss_cons (ps_set (i := 2) sc_law.nd rfl (by first | exact .inl rfl | exact .inr rfl) (pe_cal C__law_small_answer hr (pa_cons (pv 1) (pa_cons (pe_op (op_addUK (K := K)) pe_int (pe_op op_mod (pe_callTy call_int11 rfl T.b_int (by decide +kernel) (pa_cons (pe_ix (ix_seqK (K := K)) (pv 1) pe_int (fun _ _ => rfl)) pa_nil)) pe_int)) (pa_cons (pe_op (op_addUK (K := K)) pe_int (pe_op op_mod (pe_callTy call_int11 rfl T.b_int (by decide +kernel) (pa_cons (pe_ix (ix_seqK (K := K)) (pv 1) pe_int (fun _ _ => rfl)) pa_nil)) pe_int)) pa_nil)))))
 (pss_cons (ps_set (i := 3) sc_law.nd rfl (by first | exact .inl rfl | exact .inr rfl) (pe_calX C_node_count hr passL (pa_cons (pv 2) pa_nil)))
 (pss_cons (ps_if (PW.pt (pw_or (pt_not (pt_val (pe_cal C__law_whole hr (pa_cons (pv 3) pa_nil)))) (pw_or1 (pt_cmpR (op_neUK (K := K) hr.units) (pv 3) (pe_cal C__law_due hr (pa_cons (pv 2) pa_nil)) (nomark _))))) (pss_one (ps_ret pe_bl)) pss_nil)
 (pss_cons (ps_if (pt_cmpR (op_neUK (K := K) hr.units) (pe_calX C_node_count hr passL (pa_cons (pe_lc (own := [("part", 10)]) rfl sc_law.nd (pi_seq (pv 2)) (blkOk_by (own := [("part", 10)]) (N := n_law) (sc := defScope s_law) (by decide +kernel)) (fun _ _ _ _ _ => (pg_name (i := 10) sc_law.nd rfl (by first | exact .inl rfl | exact .inr rfl))) (fun _ _ _ _ _ => pts_nil) (fun _ _ _ _ _ => (pe_callTy (call_lstUK (K := K) rfl) rfl T.b_list (by decide +kernel) (pa_cons (pv 10) pa_nil)))) pa_nil)) (pv 3) (nomark _)) (pss_one (ps_ret pe_bl)) pss_nil)
 (pss_cons (ps_set (i := 4) sc_law.nd rfl (by first | exact .inl rfl | exact .inr rfl) (pe_op (op_addUK (K := K)) (pe_op op_mulU pe_str (pe_op op_mod (pe_callTy call_int11 rfl T.b_int (by decide +kernel) (pa_cons (pe_ix (ix_seqK (K := K)) (pv 1) pe_int (fun _ _ => rfl)) pa_nil)) pe_int)) (pe_op op_mulU pe_str (pe_op op_mod (pe_callTy call_int11 rfl T.b_int (by decide +kernel) (pa_cons (pe_ix (ix_seqK (K := K)) (pv 1) pe_int (fun _ _ => rfl)) pa_nil)) pe_int))))
 (pss_cons (ps_set (i := 5) sc_law.nd rfl (by first | exact .inl rfl | exact .inr rfl) (pe_op op_mulU pe_str (pe_op op_mod (pe_callTy call_int11 rfl T.b_int (by decide +kernel) (pa_cons (pe_ix (ix_seqK (K := K)) (pv 1) pe_int (fun _ _ => rfl)) pa_nil)) pe_int)))
 (pss_cons (ps_set (i := 6) sc_law.nd rfl (by first | exact .inl rfl | exact .inr rfl) (pe_tup (pa_cons (pe_tup (pa_cons pe_str (pa_cons (pv 4) pa_nil))) (pa_cons (pe_tup (pa_cons pe_str (pa_cons (pe_op (op_addUK (K := K)) (pv 5) pe_str) pa_nil))) (pa_cons (pe_tup (pa_cons pe_str (pa_cons pe_str (pa_cons (pe_tup (pa_cons pe_int (pa_cons pe_int (pa_cons pe_int pa_nil)))) pa_nil)))) (pa_cons (pe_tup (pa_cons pe_str (pa_cons pe_str (pa_cons (pe_tup pa_nil) pa_nil)))) (pa_cons (pe_tup (pa_cons pe_str (pa_cons pe_str (pa_cons (pe_tup (pa_cons pe_int (pa_cons pe_int pa_nil))) pa_nil)))) pa_nil)))))))
 (pss_cons (ps_if (PW.pt (pw_or (pt_cmpR (op_neUK (K := K) hr.units) (pe_calX C_node_count hr passL (pa_cons (pv 6) pa_nil)) (pe_cal C__law_due hr (pa_cons (pv 6) pa_nil)) (nomark _)) (pw_or1 (pt_cmpR (op_neUK (K := K) hr.units) (pe_calX C_node_count hr passL (pa_cons (pe_tup (pa_cons (pe_tup (pa_cons pe_str (pa_cons pe_str (pa_cons (pe_tup pa_nil) pa_nil)))) pa_nil)) pa_nil)) pe_int (nomark _))))) (pss_one (ps_ret pe_bl)) pss_nil)
 (pss_cons (ps_set (i := 7) sc_law.nd rfl (by first | exact .inl rfl | exact .inr rfl) (pe_tup (pa_cons (pe_tup (pa_cons pe_str (pa_cons (pe_callTy call_int11 rfl T.b_int (by decide +kernel) (pa_cons (pe_ix (ix_seqK (K := K)) (pv 1) pe_int (fun _ _ => rfl)) pa_nil)) pa_nil))) (pa_cons (pe_tup (pa_cons pe_str (pa_cons pe_str (pa_cons (pe_tup (pa_cons pe_int pa_nil)) pa_nil)))) pa_nil))))
 (pss_cons (ps_try_as (i := 8) rfl rfl sc_law.nd rfl rfl ⟨rfl, by decide, .inl g_LoopError⟩ takes0 (fun W pn xe tk _ => (pss_one (ps_expr (pe_calXS C_node_count hr tk (pa_cons (pv 7) pa_nil))))) (fun a oe cls d pn hz hf => pss_guard (q := cls = .ref CE ∧ d = none) (fun h => by obtain ⟨rfl, rfl⟩ := h; exact (pss_one (ps_ret (pe_callB (call_isE EC hz hf) rfl T.b_isinstance (by decide +kernel) (pa_cons (pv 8) (pa_cons (pe_glob (v := .ref f_BadSheet) rfl g_BadSheet rfl) pa_nil))))))))
 (pss_one (ps_ret pe_bl)))))))))))))
, ?_⟩
  try dsimp only [cxOf, Cx.nox, Cx.wish]
  obtain ⟨a, ns, rfl, hS, hl, hQ⟩ := h
  refine entry (c := c_law) (X := E) ⟨H, H, [.fz (ns.map .int)], [], _, ⟨Ext.refl _, Ext.refl _, Ext.refl _, fun a o e => .inl e, rfl, fun i d e => by simp at e, fun e he => by simp at he, List.nodup_nil, fun a ha => by simp [fps] at ha⟩, .cons (.fz hS (IsL.ints ns)) .nil, ⟨ns, rfl, rfl, hl, rfl⟩, fun d Γ' v B' H' p _ i => ?_⟩ ?_
  · subst p; cases i; exact hQ H'
  clear hS hl
  clear ns
  rintro R Z _ _ P _ ⟨ns, rfl, rfl, hl, rfl⟩ hq
  show Cont K R Z _ [some (.fz (ns.map .int)), none, none, none, none, none, none, none, none, none, none] []
  walk_at "sq"
  refine c_setX (Ψ := fun d Γ' => ∃ p rs, d = .ref p ∧ Γ' = [(p, .lst (rs.map .int))] ∧ Dig (List.replicate 30 60) rs) (evx_callU (Γc := []) (eau_cons (eu_call (Ψ := fun d => ∃ z : Int, d = .int z) (ea_cons (ev_var rfl) (ea_cons ev_int ea_nil)) ⟨ns, 0, rfl, rfl, by omega, by omega, hl, fun z => ⟨⟨z, rfl⟩, rfl⟩⟩)
      (eau_cons (eu_of (d := .lst ((List.replicate 30 (60 : Int)).map .int)) (ev_is (x := .lst ((rngD 30).map fun _ => D.int 60)) (ev_frzL (en_lcm (fun _ => .int 60) _ (ei_range (j := 30) (ea_cons ev_int ea_nil) (by omega) (by omega)) (small_sz (by simp [rngD])) (fun d _ => tc_name) (fun d _ e l _ => ev_int))) rfl)) eau_nil)) ?_) ?_
  · rintro ds ⟨d, l, rfl, ⟨z, rfl⟩, d2, l2, rfl, rfl, rfl⟩
    exact ⟨z, List.replicate 30 60, rfl, rfl, by simp, fun s hs => by rw [(List.mem_replicate.mp hs).2]; omega, fun p rs hD => ⟨p, rs, rfl, rfl, hD⟩⟩
  rintro _ _ ⟨p, xs, rfl, rfl, hD⟩
  have hxl : xs.length = 30 := by rw [hD.1]; simp
  have hxb : ∀ x ∈ xs, 0 ≤ x ∧ x < 60 := fun x hx => by
    obtain ⟨i, hi⟩ := List.mem_iff_getElem?.mp hx
    have hlt := (List.getElem?_eq_some_iff.mp hi).1
    exact hD.2 i 60 x (by rw [List.getElem?_replicate, if_pos (by omega)]) hi
  refine c_frz 1 rfl ?_
  show Cont K R Z _ [some (.fz (ns.map .int)), some (.lst (xs.map .int)), none, none, none, none, none, none, none, none, none] []
  obtain ⟨z1, hz1, bz1⟩ := digit hxl hxb (i := 21) (by omega) (by omega)
  obtain ⟨z2, hz2, bz2⟩ := digit hxl hxb (i := 22) (by omega) (by omega)
  obtain ⟨z3, hz3, bz3⟩ := digit hxl hxb (i := 23) (by omega) (by omega)
  obtain ⟨z4, hz4, bz4⟩ := digit hxl hxb (i := 24) (by omega) (by omega)
  obtain ⟨z5, hz5, bz5⟩ := digit hxl hxb (i := 25) (by omega) (by omega)
  obtain ⟨z6, hz6, bz6⟩ := digit hxl hxb (i := 26) (by omega) (by omega)
  have rd : ∀ {E : List (Option D)} {Γ : Led} {i : Int} {z : Nat}, E[1]? = some (some (.lst (xs.map .int))) → atI (xs.map D.int) i = some (.int (z : Nat)) → EvD K R Z E Γ (tCB rInt1 (tCons (tOp (rIx K) (tVar 1) (tC (.int i))) tNil)) (.int (z : Nat)) := fun hE hz =>
    ev_cb (ea_cons (ev_op (ev_var hE) ev_int (rv_ixL hz)) ea_nil) rc_int
  have md : ∀ {E : List (Option D)} {Γ : Led} {i m : Int} {z : Nat}, 0 < m → E[1]? = some (some (.lst (xs.map .int))) → atI (xs.map D.int) i = some (.int (z : Nat)) → EvD K R Z E Γ (tOp (rI (fun x j => 0 < j) fun i j => .int (i % j)) (tCB rInt1 (tCons (tOp (rIx K) (tVar 1) (tC (.int i))) tNil)) (tC (.int m))) (.int ((z : Int) % m)) := fun hm hE hz =>
    ev_op (rd hE hz) ev_int (rv_IC hm)
  walk_at "sq"
  refine c_setX (Ψ := fun d Γ' => ∃ rs o, Drawn ((1 + z1 % 4) + (1 + z2 % 5) + 1) rs o ∧ d = shD false (sheetOf rs o) ∧ Γ' = []) (evx_call (Γc := []) (ds := [.lst (xs.map .int), .int ((1 + z1 % 4 : Nat) : Int), .int ((1 + z2 % 5 : Nat) : Int)])
    (ea_cons (ev_var rfl) (ea_cons (ev_is (ev_op ev_int (md (by omega) rfl hz1) ru_addI) (by congr 1)) (ea_cons (ev_is (ev_op ev_int (md (by omega) rfl hz2) ru_addI) (by congr 1)) ea_nil)))
    ⟨xs, 1 + z1 % 4, 1 + z2 % 5, rfl, rfl, hxl, hxb, by omega, by omega, by omega, fun rs o hd => ⟨rs, o, hd, by rw [shD_tup], rfl⟩⟩) ?_
  rintro _ _ ⟨rs, o, hd, rfl, rfl⟩
  have hok := drawn_ok hd (by omega)
  generalize sheetOf rs o = sh at hok
  walk_at "sq"
  refine c_setX (Ψ := fun d Γ' => ∃ n : Nat, IsCount sh n ∧ d = .int (n : Nat) ∧ Γ' = []) (evx_callE (Γc := []) (ds := [shD false sh]) (ea_cons (ev_var rfl) ea_nil) ⟨false, sh, rfl, rfl, hok, fun n hn => ⟨n, hn, rfl, rfl⟩⟩) ?_
  rintro _ _ ⟨n, hn, rfl, rfl⟩
  walk_at "sq"
  refine c_if (b := false) (et_is (et_or (a := false) (et_is (et_not (et_B (b := true) (ev_call (ds := [.int (n : Nat)]) (ea_cons (ev_var rfl) ea_nil) ⟨n, rfl, rfl, rfl, rfl⟩))) rfl) fun _ => et_test (b := false) (ev_is (ev_op (x := .int (n : Nat)) (y := .int (n : Nat)) (ev_var rfl) (ev_call (ds := [shD false sh]) (ea_cons (ev_var rfl) ea_nil) ⟨false, sh, rfl, rfl, hok, fun m hm => ⟨by rw [hm.uniq hn], rfl⟩⟩) ru_neI) (by simp))) rfl) (fun z => by cases z) (fun _ => ?_)
  walk_at "sq"
  walk_at "sq"
  refine c_if (b := false) (et_test (ev_is (ev_op (x := .int (n : Nat)) (y := .int (n : Nat)) (ev_callE (ds := [shD true sh]) (ea_cons ?_ ea_nil) ⟨true, sh, rfl, rfl, hok, fun m hm => ⟨by rw [hm.uniq hn], rfl⟩⟩) (ev_var rfl) ru_neI) (by simp))) (fun z => by cases z) (fun _ => ?_)
  · let fL : D → D := fun d => match d with | .tup ds => .lst ds | d => d
    have e : shD true sh = .lst ((sh.map fun r => seqD false r.cells).map fL) := by
      show D.lst _ = _
      rw [List.map_map]
      congr 1
    rw [e]
    refine ev_frzL (en_lcm fL _ (ei_Q (b := false) (ds := sh.map fun r => seqD false r.cells) (ev_var rfl)) (small_sz (by have := hok.len; simp; omega)) (fun d _ => tc_name) (fun d hd e l he => ?_))
    obtain ⟨r, _, rfl⟩ := List.mem_map.mp hd
    exact ev_frzL (en_cb (ea_cons (ev_var rfl) ea_nil) (rcn_listT (ds := r.cells)))
  walk_at "sq"
  walk_at "sq"
  have la : ∀ {m : Nat}, m ≤ 60 → (PySem.Txt.mul "a" (m : Int)).length ≤ 60 := fun {m} hm => PyProof.Rows.len_mul_one (c := 97) rfl (by omega)
  have lb : ∀ {m : Nat}, m ≤ 60 → (PySem.Txt.mul "b" (m : Int)).length ≤ 60 := fun {m} hm => PyProof.Rows.len_mul_one (c := 98) rfl (by omega)
  have lap : ∀ a b : Str, (a ++ b).length = a.length + b.length := fun a b => by
    show (a.cps ++ b.cps).size = _
    simp [Str.length]
  have mulE : ∀ {E : List (Option D)} {Γ : Led} {i m : Int} {z : Nat} {s : Str}, 0 < m → m ≤ 60 → s.length ≤ 16 → E[1]? = some (some (.lst (xs.map .int))) → atI (xs.map D.int) i = some (.int (z : Nat)) →
      EvD K R Z E Γ (tOp rMulU (tC (.str s)) (tOp (rI (fun x j => 0 < j) fun i j => .int (i % j)) (tCB rInt1 (tCons (tOp (rIx K) (tVar 1) (tC (.int i))) tNil)) (tC (.int m)))) (.str (PySem.Txt.mul s ((z : Int) % m))) := fun {E Γ i m z s} h0 h1 hs hE hz => by
    have b0 := Int.emod_nonneg (z : Int) (b := m) (by omega)
    have b1 := Int.emod_lt_of_pos (z : Int) h0
    exact ev_op ev_str (md h0 hE hz) (ru_mulS (by omega) (by omega) hs)
  obtain ⟨far, hfar, lfar⟩ : ∃ far : Str, far = PySem.Txt.mul "a" ((z3 : Int) % 60) ++ PySem.Txt.mul "b" ((z4 : Int) % 3) ∧ far.length ≤ 120 := by
    refine ⟨_, rfl, ?_⟩
    rw [lap, show ((z3 : Int) % 60) = ((z3 % 60 : Nat) : Int) by omega, show ((z4 : Int) % 3) = ((z4 % 3 : Nat) : Int) by omega]
    have := la (m := z3 % 60) (by omega)
    have := lb (m := z4 % 3) (by omega)
    omega
  obtain ⟨near, hnear, lnear⟩ : ∃ near : Str, near = PySem.Txt.mul "a" ((z5 : Int) % 60) ∧ near.length ≤ 60 := by
    refine ⟨_, rfl, ?_⟩
    rw [show ((z5 : Int) % 60) = ((z5 % 60 : Nat) : Int) by omega]
    exact la (m := z5 % 60) (by omega)
  refine c_set (d := .str far) ?_ ?_
  · rw [hfar]
    refine ev_op (mulE (by omega) (by omega) (by decide) rfl hz3) (mulE (by omega) (by omega) (by decide) rfl hz4) (ru_addS ?_)
    rw [← lap, ← hfar]
    exact small_sz (by omega)
  walk_at "sq"
  refine c_set (d := .str near) ?_ ?_
  · rw [hnear]
    exact mulE (by omega) (by omega) (by decide) rfl hz5
  walk_at "sq"
  have lnc : (near ++ ("c" : Str)).length ≤ 61 := by rw [lap]; have : ("c" : Str).length = 1 := rfl; omega
  refine c_set (d := .tup [.tup [.str "thing", .str far], .tup [.str "thing", .str (near ++ "c")], .tup [.str "deed", .str "h", .tup [.int 0, .int 1, .int 0]], .tup [.str "deed", .str "e", .tup []], .tup [.str "deed", .str "k", .tup [.int 2, .int 3]]]) ?_ ?_
  · have zz : ∀ {ds : List D}, ds.length ≤ 10 → ds.length ≤ sizeLine := fun h => small_sz (by omega)
    refine ev_tup (ea_cons (ev_tup (ea_cons ev_str (ea_cons (ev_var rfl) ea_nil)) (zz (by simp))) (ea_cons (ev_tup (ea_cons ev_str (ea_cons (ev_op (ev_var rfl) ev_str (ru_addS ?_)) ea_nil)) (zz (by simp))) (ea_cons ?_ (ea_cons ?_ (ea_cons ?_ ea_nil))))) (zz (by simp))
    · rw [← lap]; exact small_sz (by omega)
    · walk_at "ev"
    · walk_at "ev"
    · walk_at "ev"
  have hwok := wide_ok (far := far) (near := near) (by omega) (by omega)
  obtain ⟨m, hm⟩ := count_ex (wideOf far near)
  show Cont K R Z _ [some (.fz (ns.map .int)), some (.lst (xs.map .int)), some (shD false sh), some (.int (n : Nat)), some (.str far), some (.str near), some (shD false (wideOf far near)), none, none, none, none] []
  walk_at "sq"
  refine c_if (b := false) (et_is (et_or (a := false) (et_test (b := false) (ev_is (ev_op (x := .int (m : Nat)) (y := .int (m : Nat)) (ev_callE (ds := [shD false (wideOf far near)]) (ea_cons (ev_var rfl) ea_nil) ⟨false, wideOf far near, rfl, rfl, hwok, fun k hk => ⟨by rw [hk.uniq hm], rfl⟩⟩) (ev_call (ds := [shD false (wideOf far near)]) (ea_cons (ev_var rfl) ea_nil) ⟨false, wideOf far near, rfl, rfl, hwok, fun k hk => ⟨by rw [hk.uniq hm], rfl⟩⟩) ru_neI) (by simp))) fun _ =>
    et_test (b := false) (ev_is (ev_op (x := .int 2) (y := .int 2) (ev_callE (ds := [.tup [.tup [.str "deed", .str "e", .tup []]]]) (ea_cons (by walk_at "ev") ea_nil) ⟨false, [.deed "e" []], rfl, rfl, e_ok, fun k hk => ⟨by rw [hk.uniq count_e]; rfl, rfl⟩⟩) ev_int ru_neI) (by simp))) rfl) (fun z => by cases z) (fun _ => ?_)
  walk_at "sq"
  walk_at "sq"
  refine c_set (d := .tup [.tup [.str "thing", .int (z6 : Nat)], .tup [.str "deed", .str "e", .tup [.int 0]]]) ?_ ?_
  · have zz : ∀ {ds : List D}, ds.length ≤ 10 → ds.length ≤ sizeLine := fun h => small_sz (by omega)
    exact ev_tup (ea_cons (ev_tup (ea_cons ev_str (ea_cons (rd rfl hz6) ea_nil)) (zz (by simp))) (ea_cons (by walk_at "ev") ea_nil)) (zz (by simp))
  walk_at "sq"
  refine c_dropB (Γc := []) (Γr := []) (ds := [.tup [.tup [.str "thing", .int (z6 : Nat)], .tup [.str "deed", .str "e", .tup [.int 0]]]]) (ea_cons (ev_var rfl) ea_nil) ⟨z6, .str "e", .tup [.int 0], rfl, rfl⟩ fun σ H' hσ => ?_
  refine ⟨true, ex1, fun _ a ha => ⟨⟨rfl, rfl⟩, ?_⟩, fun z => by cases z⟩
  have h8 : (σ.set 8 (some (V.ref a)))[8]? = some (some (V.ref a)) := by
    rw [List.getElem?_set_self]
    rw [hσ]; simp
  exact ⟨_, h8, .ref f_BadSheet, .ref f_BadSheet, true, rfl, fun u h => h, by rw [hfb]; exact ki, hQ _⟩
end
end W63
set_option Elab.async false
set_option linter.all false
set_option maxRecDepth 100000
set_option maxHeartbeats 4000000
namespace W63
open PySem PySem.Spec PyProof.Rows L2 DL
theorem def_mk {K : PySem.W.Frag} {h : Heap} {mg : Str → Option Value} {x : Str} {st : Stmt} {f : Addr} {oc : Value} {od an : Option Addr} {osl : Array (Option Value)} {kV doc pm cdv ct : Value} (X : K.In h) (G : h.Ns mainGlobals mg) (a : PySem.W.nsIn K mainGlobals x = some (some (.ref f)))
    (l : K.lookup f = some ⟨oc, od, .func (PySem.W.fnOf x x (defArgs st) (defBody st) (defScope st) .none kV doc pm an cdv ct), osl⟩) (c : PySem.W.codeIn K cdv x = true) (k : PySem.W.keepIn K (.ref f) = true) : Def K mg x st := ⟨f, _, fun_mk l c k, PySem.W.mg_of X G a⟩
theorem init_mk {K : PySem.W.Frag} {C f : Addr} {x q : Str} {st : Stmt} {oc : Value} {od an : Option Addr} {osl : Array (Option Value)} {kV doc pm cdv ct : Value} (i : PySem.W.findIn K (.ref C) "__init__" = some (some (.ref f))) (fn : PySem.W.isFn K (.ref f) = true)
    (l : K.lookup f = some ⟨oc, od, .func (PySem.W.fnOf x q (defArgs st) (defBody st) (defScope st) .none kV doc pm an cdv ct), osl⟩) (c : PySem.W.codeIn K cdv q = true) (k : PySem.W.keepIn K (.ref f) = true) (mk : PySem.W.makesIn K C = true) (kc : PySem.W.keepIn K (.ref C) = true) : DefM K C x q st :=
  ⟨f, _, fun_mk l c k, ⟨mk, i, fn, kc⟩⟩
theorem exm_two {K : PySem.W.Frag} {S L : Addr} (h1 : PySem.W.subIn K (.ref L) (.type "BaseException") = some true) (h2 : PySem.W.isClsIn K L = true) (h3 : PySem.W.typeIn K (.ref L) = some (.type "type")) (h4 : PySem.W.subIn K (.ref S) (.ref L) = some true) :
    PySem.W.exmOne K (.ref S) (.ref L) = some true := by
  have e1 : (PySem.W.subIn K (.ref L) (.type "BaseException") == some true) = true := by rw [h1] <;> rfl
  have e2 : ((PySem.W.clsIn K L).isSome && PySem.W.typeIn K (.ref L) == some (.type "type")) = true := by
    have h2' : (PySem.W.clsIn K L).isSome = true := h2
    rw [h2', h3] <;> rfl
  unfold PySem.W.exmOne
  rw [if_pos e1]
  unfold PySem.W.kitCls
  dsimp only
  rw [if_pos e2]
  exact h4
theorem kit_self {K : PySem.W.Frag} {S : Addr} : PySem.W.kitOne K (.ref S) (.ref S) = some true := by
  unfold PySem.W.kitOne
  rw [if_pos (by simp)]
theorem all_mk {l : PySem.W.OpenLaw} {w : World} {K : PySem.W.Frag} {h : Heap} {mg : Str → Option Value} {fa C CE CL : Addr} (X : K.In h) (G : h.Ns mainGlobals mg) (hfa : mg "law" = some (.ref fa))
    (d1 : Def K mg "path_key" s_path_key) (d2 : Def K mg "in_order" s_in_order) (d3 : Def K mg "closed" s_closed) (d4 : Def K mg "node_ways" s_node_ways) (d5 : Def K mg "node_count" s_node_count)
    (d6 : Def K mg "_law_due" s_l_due) (d7 : Def K mg "_law_whole" s_l_whole) (d8 : Def K mg "_law_cell" s_l_cell) (d9 : Def K mg "_law_digits" s_l_digits) (d10 : Def K mg "_law_store" s_l_store) (d11 : Def K mg "_law_put" s_l_put)
    (d12 : Def K mg "_law_thing" s_l_thing) (d13 : Def K mg "_law_deed" s_l_deed) (d14 : Def K mg "_law_within" s_l_within) (d15 : Def K mg "_law_sheet" s_l_sheet) (d16 : Def K mg "_law_small_answer" s_l_small_answer) (d17 : Def K mg "law" s_law)
    (aN : PySem.W.nsIn K mainGlobals "Nodes" = some (some (.ref C))) (dI : DefM K C "__init__" "Nodes.__init__" s_Nodes_init)
    (pg : PySem.W.plainGet K C Str.empty = true) (hd : PySem.W.hasDictIn K C = true) (po : PySem.W.plainOver K C = true) (sa : PySem.W.findIn K (.ref C) "__setattr__" = some (some (.builtin "object.__setattr__")))
    (n1 : PySem.W.findIn K (.ref C) "sheet" = some none) (n2 : PySem.W.findIn K (.ref C) "paths" = some none) (n3 : PySem.W.findIn K (.ref C) "numbers" = some none) (n4 : PySem.W.findIn K (.ref C) "count" = some none) (n5 : PySem.W.findIn K (.ref C) "places" = some none) (n6 : PySem.W.findIn K (.ref C) "deeds" = some none) (n7 : PySem.W.findIn K (.ref C) "goal" = some none) (n8 : PySem.W.findIn K (.ref C) "ways" = some none)
    (aE : PySem.W.nsIn K mainGlobals "BadSheet" = some (some (.ref CE))) (aL : PySem.W.nsIn K mainGlobals "LoopError" = some (some (.ref CL)))
    (xE : PySem.W.excIn K CE [.type "ValueError", .type "Exception", .type "BaseException", .type "object"] "ValueError.__new__" = true) (kE : PySem.W.keepIn K (.ref CE) = true) (bE : PySem.W.subIn K (.ref CE) (.type "BaseException") = some true) (tE : PySem.W.typeIn K (.ref CE) = some (.type "type"))
    (iL : PySem.W.isClsIn K CL = true) (tL : PySem.W.typeIn K (.ref CL) = some (.type "type")) (bL : PySem.W.subIn K (.ref CL) (.type "BaseException") = some true) (sEL : PySem.W.subIn K (.ref CE) (.ref CL) = some true) (EC : ExcC K CE)
    (z1 : PySem.W.nsIn K mainGlobals "len" = some none) (z2 : PySem.W.nsIn K mainGlobals "int" = some none) (z3 : PySem.W.nsIn K mainGlobals "range" = some none) (z4 : PySem.W.nsIn K mainGlobals "tuple" = some none) (z5 : PySem.W.nsIn K mainGlobals "list" = some none) (z6 : PySem.W.nsIn K mainGlobals "max" = some none)
    (z7 : PySem.W.nsIn K mainGlobals "bool" = some none) (z8 : PySem.W.nsIn K mainGlobals "str" = some none) (z9 : PySem.W.nsIn K mainGlobals "sorted" = some none) (z10 : PySem.W.nsIn K mainGlobals "all" = some none) (z11 : PySem.W.nsIn K mainGlobals "isinstance" = some none) (z12 : PySem.W.nsIn K mainGlobals "enumerate" = some none) :
    ∃ fd : FuncData, (∀ (s : Shared) (v : Value), BindsTo s fd ⟨[v], []⟩ [("script", v)]) ∧ ∀ base : Heap, K.In base → base.Ns mainGlobals mg → FnOk l.prog w K mg base CX0 6 fa fd ["script"] (spLaw K) := by
  have no : ∀ {x : Str}, PySem.W.nsIn K mainGlobals x = some none → mg x = none := fun z => PySem.W.mg_none_of X G z
  have T : Txt mg := ⟨no z1, no z2, no z3, no z4, no z5, no z6, no z7, no z8, no z9, no z10, no z11, no z12⟩
  have N : NodesTxt K C := ⟨⟨pg, hd, po, sa⟩, n1, n2, n3, n4, n5, n6, n7, n8⟩
  have gE := PySem.W.mg_of X G aE
  have gL := PySem.W.mg_of X G aL
  have gN := PySem.W.mg_of X G aN
  have XB : ExcTxt K mg "BadSheet" CE := ⟨xE, gE, kE, bE, tE⟩
  obtain ⟨f, fd, F, hf⟩ := d17.ex
  have e := hfa.symm.trans hf
  cases e
  refine ⟨fd, ?_, fun base _ _ => ?_⟩
  · obtain ⟨oc, od, kV, doc, pm, an, cdv, ct, osl, rfl, lk, hcd⟩ := F.ex
    exact fun s v => .of_eq rfl
  · have c8 := ok_cell (P := l.prog) (w := w) (base := base) d8 T
    have c9 := ok_digits (P := l.prog) (w := w) (base := base) d9 T
    have c10 := ok_store (P := l.prog) (w := w) (base := base) d10 T
    have c11 := ok_put (P := l.prog) (w := w) (base := base) d11 T
    have c12 := ok_thing (P := l.prog) (w := w) (base := base) d12 T c11
    have c13 := ok_deed (P := l.prog) (w := w) (base := base) d13 T c11
    have c14 := ok_within (P := l.prog) (w := w) (base := base) d14 T
    have c15 := ok_sheet (P := l.prog) (w := w) (base := base) d15 T c14
    have c16 := ok_small (P := l.prog) (w := w) (base := base) d16 T c10 c12 c13 c15
    have c2 := ok_order (P := l.prog) (w := w) (base := base) d2 T d1
    have c3 := ok_closed (P := l.prog) (w := w) (base := base) d3 T c2
    have c4 := ok_ways (P := l.prog) (w := w) (base := base) d4 T N
    have cI := ok_init (P := l.prog) (w := w) (base := base) dI T N XB c3 c4
    have c5 := ok_count (P := l.prog) (w := w) (base := base) d5 T N gN cI
    have c6 := ok_due (P := l.prog) (w := w) (base := base) d6 T
    have c7 := ok_whole (P := l.prog) (w := w) (base := base) d7 T
    exact ok_law F T EC gE gL (exm_two bL iL tL sEL) kit_self c8 c9 c16 c6 c7 c5
theorem walk {l : PySem.W.OpenLaw} {q : Program} {loose : List Str} {XP : (Str → Option Value) → Heap → Prop} {YP : World → Heap → Prop} {d : DefRec} {K : Params → PySem.W.Frag} (hn : l.most = some 63) (hdf : d.params.defaults = [])
    (hY : ∀ (w : World) (h : Heap), YP w h → (K w.params).In h)
    (F : ∀ (w : World) (mg : Str → Option Value) (fa : Addr) (h : Heap), (K w.params).In h → h.Ns mainGlobals mg → mg d.name = some (.ref fa) →
      ∃ fd : FuncData, (∀ (s : Shared) (u : Value), BindsTo s fd ⟨[u], []⟩ [("script", u)]) ∧ ∀ base : Heap, (K w.params).In base → base.Ns mainGlobals mg → FnOk l.prog w (K w.params) mg base CX0 6 fa fd ["script"] (spLaw (K w.params))) :
    PySem.W.WalkO q loose XP YP l.row.toRowW d [] (fun f vs => PySem.call f vs) :=
  L2.walk_of (n := 63) (k := 6) (x := "script") (CX := fun _ => CX0) (sp := fun w => spLaw (K w.params)) hn (by decide) hdf ⟨rfl, by decide, by decide⟩ hY F (fun _ _ a ns hl _ hS => ⟨a, ns, rfl, hS, hl, fun _ => rfl⟩) fun _ _ _ _ _ z => z
end W63
open PySem PySem.W PyProof.Rows
set_option maxRecDepth 100000 in
set_option maxHeartbeats 0 in
theorem PySem.Challenge.cw_looporpile_k63_nodes_counted_holds : PySem.Challenge.rw_looporpile_k63_nodes_counted.Holds := by
  w_on; o_law; k_head; (case hw => w_witness2)
  k_fill
  refine W63.walk (l := PySem.Challenge.rw_looporpile_k63_nodes_counted) rfl rfl (fun w h Y => PySem.W.kIn_of Y) ?F
  case F =>
    intro w mg fa h KX G hmg
    refine' W63.all_mk KX G hmg ?d1 ?d2 ?d3 ?d4 ?d5 ?d6 ?d7 ?d8 ?d9 ?d10 ?d11 ?d12 ?d13 ?d14 ?d15 ?d16 ?d17 ?aN ?dI ?pg ?hd ?po ?sa ?n1 ?n2 ?n3 ?n4 ?n5 ?n6 ?n7 ?n8 ?aE ?aL ?xE ?kE ?bE ?tE ?iL ?tL ?bL ?sEL ?EC ?z1 ?z2 ?z3 ?z4 ?z5 ?z6 ?z7 ?z8 ?z9 ?z10 ?z11 ?z12
    (case d1 => refine' W63.def_mk KX G ?a ?l ?c ?k; (case a => k_is); (case l => k_is); (case c => k_is); (case k => k_is))
    (case d2 => refine' W63.def_mk KX G ?a ?l ?c ?k; (case a => k_is); (case l => k_is); (case c => k_is); (case k => k_is))
    (case d3 => refine' W63.def_mk KX G ?a ?l ?c ?k; (case a => k_is); (case l => k_is); (case c => k_is); (case k => k_is))
    (case d4 => refine' W63.def_mk KX G ?a ?l ?c ?k; (case a => k_is); (case l => k_is); (case c => k_is); (case k => k_is))
    (case d5 => refine' W63.def_mk KX G ?a ?l ?c ?k; (case a => k_is); (case l => k_is); (case c => k_is); (case k => k_is))
    (case d6 => refine' W63.def_mk KX G ?a ?l ?c ?k; (case a => k_is); (case l => k_is); (case c => k_is); (case k => k_is))
    (case d7 => refine' W63.def_mk KX G ?a ?l ?c ?k; (case a => k_is); (case l => k_is); (case c => k_is); (case k => k_is))
    (case d8 => refine' W63.def_mk KX G ?a ?l ?c ?k; (case a => k_is); (case l => k_is); (case c => k_is); (case k => k_is))
    (case d9 => refine' W63.def_mk KX G ?a ?l ?c ?k; (case a => k_is); (case l => k_is); (case c => k_is); (case k => k_is))
    (case d10 => refine' W63.def_mk KX G ?a ?l ?c ?k; (case a => k_is); (case l => k_is); (case c => k_is); (case k => k_is))
    (case d11 => refine' W63.def_mk KX G ?a ?l ?c ?k; (case a => k_is); (case l => k_is); (case c => k_is); (case k => k_is))
    (case d12 => refine' W63.def_mk KX G ?a ?l ?c ?k; (case a => k_is); (case l => k_is); (case c => k_is); (case k => k_is))
    (case d13 => refine' W63.def_mk KX G ?a ?l ?c ?k; (case a => k_is); (case l => k_is); (case c => k_is); (case k => k_is))
    (case d14 => refine' W63.def_mk KX G ?a ?l ?c ?k; (case a => k_is); (case l => k_is); (case c => k_is); (case k => k_is))
    (case d15 => refine' W63.def_mk KX G ?a ?l ?c ?k; (case a => k_is); (case l => k_is); (case c => k_is); (case k => k_is))
    (case d16 => refine' W63.def_mk KX G ?a ?l ?c ?k; (case a => k_is); (case l => k_is); (case c => k_is); (case k => k_is))
    (case d17 => refine' W63.def_mk KX G ?a ?l ?c ?k; (case a => k_is); (case l => k_is); (case c => k_is); (case k => k_is))
    (case aN => k_is)
    (case dI => refine' W63.init_mk ?i ?fn ?l ?c ?k ?mk ?kc; (case i => k_is); (case fn => k_is); (case l => k_is); (case c => k_is); (case k => k_is); (case mk => k_is); (case kc => k_is))
    (case pg => k_is); (case hd => k_is); (case po => k_is); (case sa => k_is)
    (case n1 => k_is); (case n2 => k_is); (case n3 => k_is); (case n4 => k_is); (case n5 => k_is); (case n6 => k_is); (case n7 => k_is); (case n8 => k_is)
    (case aE => k_is); (case aL => k_is)
    (case xE => k_exc); (case kE => k_is); (case bE => k_is); (case tE => k_is); (case iL => k_is); (case tL => k_is); (case bL => k_is); (case sEL => k_is)
    (case EC => refine' ⟨?e1, ?e2, ?e3, ?e4, ?e5, ?e6, ?e7, ?e8⟩; (case e1 => k_is); (case e2 => k_is); (case e3 => k_is); (case e4 => k_is); (case e5 => k_is); (case e6 => k_is); (case e7 => k_is); (case e8 => k_is))
    (case z1 => k_is); (case z2 => k_is); (case z3 => k_is); (case z4 => k_is); (case z5 => k_is); (case z6 => k_is); (case z7 => k_is); (case z8 => k_is); (case z9 => k_is); (case z10 => k_is); (case z11 => k_is); (case z12 => k_is)
#print axioms PySem.Challenge.cw_looporpile_k63_nodes_counted_holds
