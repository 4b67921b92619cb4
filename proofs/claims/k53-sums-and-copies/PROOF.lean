import PyProof.Rows.All
import Wide.All
import OpenK.AllK
import Wide.FinOn
import PyProof.EqAt
import PyProof.EqKinds
import PyProof.TupleCall
import HandS.ForMost
import HandS.Exc
import HandS.ExcOwn
import HandS.CallSlots
import HandS.TryMany
import HandS.Wide
import HandS.TupAny
import HandS.Text
import HandS.TupLe
import HandS.Property
import HandS.IsInst
import HandS.Conv
import HandS.WordsExc
import HandS.Style
import HandS.TryOnly
import HandS.Rev
import HandS.Zip
import HandS.Comp
import KE.KOpsOwn
import KE.KUnpackStar
import PySem.Challenge.RW_framejoins_k53_whole_sums_and_copies
set_option Elab.async false
set_option linter.all false
set_option maxRecDepth 100000
set_option maxHeartbeats 2000000
/-! Mi0: data D, cells, results, how an abstract heap bears them, what a step may change. -/
namespace Mi
open PySem PySem.Spec PyProof.Rows L2

/-- a value, with what hangs on it; ref n: the n-th mutable cell -/
inductive D where
  | non | bl (b : Bool) | int (i : Int) | str (s : Str)
  | tup (ds : List D) | lst (ds : List D) | scr (ds : List D) | dic (kvs : List (Key × D))
  | obj (c : Nat) (ds : List D) | ref (n : Nat)
inductive Cell where
  | lst (ds : List D) | dic (kvs : List (Key × D)) | ins (c : Nat) (ds : List D)
abbrev MH := List Cell
/-- an own exception: its class by number, its one field -/
structure Xn where
  c : Nat
  d : D
inductive R (α : Type) where
  | ok (a : α) (h : MH) | exc (x : Xn) (h : MH) | stk
def R.bind {α β : Type} (r : R α) (k : α → MH → R β) : R β := match r with
  | .ok a h => k a h
  | .exc x h => .exc x h
  | .stk => .stk
@[simp] theorem R.bind_ok {α β : Type} (a : α) (h : MH) (k : α → MH → R β) : (R.ok a h).bind k = k a h := rfl
@[simp] theorem R.bind_exc {α β : Type} (x : Xn) (h : MH) (k : α → MH → R β) : (R.exc x h : R α).bind k = .exc x h := rfl
@[simp] theorem R.bind_stk {α β : Type} (k : α → MH → R β) : (R.stk : R α).bind k = .stk := rfl

/-- the text's classes by number: where they stand, their fields in the order of __init__; an error's field -/
structure Gm where
  K : PySem.W.Frag
  cls : Nat → Addr
  flds : Nat → List Str

section
variable (Γ : Gm) (G : Hp) (ρ : List Addr)
mutual
inductive DAt : V → D → Prop
  | non : DAt .non .non
  | bl (b : Bool) : DAt (.bl b) (.bl b)
  | int (i : Int) : DAt (.int i) (.int i)
  | str (x : Str) : DAt (.str x) (.str x)
  | tup {a : Addr} {vs : List V} {ds : List D} : SqT Γ.K G a vs → DsAt vs ds → DAt (.ref a) (.tup ds)
  | lst {a : Addr} {vs : List V} {ds : List D} : G a = some (.lst vs) → DsAt vs ds → DAt (.ref a) (.lst ds)
  | scr {a : Addr} {vs : List V} {ds : List D} : SqL Γ.K G a vs → DsAt vs ds → DAt (.ref a) (.scr ds)
  | dic {a : Addr} {kvs : List (Key × V)} {kds : List (Key × D)} : G a = some (.dK kvs) → KvAt kvs kds → DAt (.ref a) (.dic kds)
  | obj {a dx : Addr} {c : Nat} {vs : List V} {ds : List D} : G a = some (.ins (Γ.cls c) dx ((Γ.flds c).zip vs)) → vs.length ≤ (Γ.flds c).length → DsAt vs ds → DAt (.ref a) (.obj c ds)
  | ref {a : Addr} {n : Nat} : ρ[n]? = some a → DAt (.ref a) (.ref n)
inductive DsAt : List V → List D → Prop
  | nil : DsAt [] []
  | cons {v : V} {vs : List V} {d : D} {ds : List D} : DAt v d → DsAt vs ds → DsAt (v :: vs) (d :: ds)
inductive KvAt : List (Key × V) → List (Key × D) → Prop
  | nil : KvAt [] []
  | cons {k : Key} {v : V} {kvs : List (Key × V)} {d : D} {kds : List (Key × D)} : DAt v d → KvAt kvs kds → KvAt ((k, v) :: kvs) ((k, d) :: kds)
end
end

theorem same_rd {G G' : Hp} {a : Addr} {u : HO} (e : Same G G') (h : Rd G a u) : Rd G' a u := by
  rcases h with h | ⟨o, h⟩
  · exact .inl (e a _ h)
  · exact .inr ⟨o, e a _ h⟩
theorem same_l {K : PySem.W.Frag} {G G' : Hp} {a : Addr} {xs : List V} (e : Same G G') (h : SqL K G a xs) : SqL K G' a xs := by
  rcases h with h | h
  · exact .inl (same_rd e h)
  · exact .inr h
theorem same_t {K : PySem.W.Frag} {G G' : Hp} {a : Addr} {xs : List V} (e : Same G G') (h : SqT K G a xs) : SqT K G' a xs := by
  rcases h with h | h
  · exact .inl (same_rd e h)
  · exact .inr h

section
variable {Γ : Gm} {G G' : Hp} {ρ ρ' : List Addr}
mutual
theorem DAt.mono (eg : Same G G') (er : ∀ (n : Nat) (a : Addr), ρ[n]? = some a → ρ'[n]? = some a) : ∀ {v : V} {d : D}, DAt Γ G ρ v d → DAt Γ G' ρ' v d
  | _, _, .non => .non
  | _, _, .bl b => .bl b
  | _, _, .int i => .int i
  | _, _, .str x => .str x
  | _, _, .tup h hs => .tup (same_t eg h) (DsAt.mono eg er hs)
  | _, _, .lst h hs => .lst (eg _ _ h) (DsAt.mono eg er hs)
  | _, _, .scr h hs => .scr (same_l eg h) (DsAt.mono eg er hs)
  | _, _, .dic h hs => .dic (eg _ _ h) (KvAt.mono eg er hs)
  | _, _, .obj h hl hs => .obj (eg _ _ h) hl (DsAt.mono eg er hs)
  | _, _, .ref h => .ref (er _ _ h)
theorem DsAt.mono (eg : Same G G') (er : ∀ (n : Nat) (a : Addr), ρ[n]? = some a → ρ'[n]? = some a) : ∀ {vs : List V} {ds : List D}, DsAt Γ G ρ vs ds → DsAt Γ G' ρ' vs ds
  | _, _, .nil => .nil
  | _, _, .cons h hs => .cons (DAt.mono eg er h) (DsAt.mono eg er hs)
theorem KvAt.mono (eg : Same G G') (er : ∀ (n : Nat) (a : Addr), ρ[n]? = some a → ρ'[n]? = some a) : ∀ {kvs : List (Key × V)} {kds : List (Key × D)}, KvAt Γ G ρ kvs kds → KvAt Γ G' ρ' kvs kds
  | _, _, .nil => .nil
  | _, _, .cons h hs => .cons (DAt.mono eg er h) (KvAt.mono eg er hs)
end
theorem DsAt.length : ∀ {vs : List V} {ds : List D}, DsAt Γ G ρ vs ds → vs.length = ds.length
  | _, _, .nil => rfl
  | _, _, .cons _ h => congrArg (· + 1) h.length
theorem DsAt.get : ∀ {vs : List V} {ds : List D} {i : Nat} {d : D}, DsAt Γ G ρ vs ds → ds[i]? = some d → ∃ v, vs[i]? = some v ∧ DAt Γ G ρ v d
  | _, _, _, _, .nil, e => by simp at e
  | _, _, 0, _, .cons h _, e => by simp at e; subst e; exact ⟨_, rfl, h⟩
  | _, _, i + 1, d, .cons _ hs, e => by
    obtain ⟨v, h1, h2⟩ := DsAt.get (i := i) (d := d) hs (by simpa using e)
    exact ⟨v, by simpa using h1, h2⟩
theorem DsAt.getV : ∀ {vs : List V} {ds : List D} {i : Nat} {v : V}, DsAt Γ G ρ vs ds → vs[i]? = some v → ∃ d, ds[i]? = some d ∧ DAt Γ G ρ v d
  | _, _, _, _, .nil, e => by simp at e
  | _, _, 0, _, .cons h _, e => by simp at e; subst e; exact ⟨_, rfl, h⟩
  | _, _, i + 1, d, .cons _ hs, e => by
    obtain ⟨v, h1, h2⟩ := DsAt.getV (i := i) (v := d) hs (by simpa using e)
    exact ⟨v, by simpa using h1, h2⟩
theorem DsAt.append : ∀ {vs ws : List V} {ds es : List D}, DsAt Γ G ρ vs ds → DsAt Γ G ρ ws es → DsAt Γ G ρ (vs ++ ws) (ds ++ es)
  | _, _, _, _, .nil, h => h
  | _, _, _, _, .cons h hs, g => .cons h (DsAt.append hs g)
theorem DsAt.take : ∀ {vs : List V} {ds : List D} (n : Nat), DsAt Γ G ρ vs ds → DsAt Γ G ρ (vs.take n) (ds.take n)
  | _, _, 0, _ => .nil
  | _, _, _ + 1, .nil => .nil
  | _, _, n + 1, .cons h hs => .cons h (DsAt.take n hs)
theorem DsAt.drop : ∀ {vs : List V} {ds : List D} (n : Nat), DsAt Γ G ρ vs ds → DsAt Γ G ρ (vs.drop n) (ds.drop n)
  | _, _, 0, h => h
  | _, _, _ + 1, .nil => .nil
  | _, _, n + 1, .cons _ hs => DsAt.drop n hs
theorem DsAt.set {v : V} {d : D} (r : DAt Γ G ρ v d) : ∀ {vs : List V} {ds : List D} (i : Nat), DsAt Γ G ρ vs ds → DsAt Γ G ρ (vs.set i v) (ds.set i d)
  | _, _, _, .nil => .nil
  | _, _, 0, .cons _ hs => .cons r hs
  | _, _, i + 1, .cons h hs => .cons h (DsAt.set r i hs)
theorem DsAt.reverse {vs : List V} {ds : List D} (h : DsAt Γ G ρ vs ds) : DsAt Γ G ρ vs.reverse ds.reverse := by
  induction vs generalizing ds with
  | nil => cases h; exact .nil
  | cons v vs ih =>
    cases h with
    | cons h1 h2 =>
      rw [List.reverse_cons, List.reverse_cons]
      exact (ih h2).append (.cons h1 .nil)
end

/-- how the n-th cell stands -/
def CellAt (Γ : Gm) (G : Hp) (ρ : List Addr) (H : Hp) (a : Addr) : Cell → Prop
  | .lst ds => ∃ vs, H a = some (.lst vs) ∧ DsAt Γ G ρ vs ds
  | .dic kds => ∃ kvs, H a = some (.dK kvs) ∧ KvAt Γ G ρ kvs kds
  | .ins c ds => ∃ dx vs, H a = some (.ins (Γ.cls c) dx ((Γ.flds c).zip vs)) ∧ vs.length ≤ (Γ.flds c).length ∧ DsAt Γ G ρ vs ds

/-- G: what is known and never changes; ρ: the cells' places; h: the cells -/
structure Rl (Γ : Gm) (G : Hp) (ρ : List Addr) (h : MH) (H : Hp) : Prop where
  sub : Same G H
  len : ρ.length = h.length
  nd : ρ.Nodup
  new : ∀ a ∈ ρ, G a = none
  cell : ∀ (n : Nat) (c : Cell) (a : Addr), h[n]? = some c → ρ[n]? = some a → CellAt Γ G ρ H a c
theorem CellAt.there {Γ : Gm} {G : Hp} {ρ : List Addr} {H : Hp} {a : Addr} {c : Cell} (h : CellAt Γ G ρ H a c) : ∃ o, H a = some o := by
  cases c with
  | lst ds => obtain ⟨vs, e, _⟩ := h; exact ⟨_, e⟩
  | dic kds => obtain ⟨vs, e, _⟩ := h; exact ⟨_, e⟩
  | ins c ds => obtain ⟨dx, vs, e, _⟩ := h; exact ⟨_, e⟩
theorem Rl.there {Γ : Gm} {G : Hp} {ρ : List Addr} {h : MH} {H : Hp} (r : Rl Γ G ρ h H) {a : Addr} (ha : a ∈ ρ) : ∃ o, H a = some o := by
  obtain ⟨n, hn⟩ := List.mem_iff_getElem?.mp ha
  have hl : n < h.length := by rw [← r.len]; exact (List.getElem?_eq_some_iff.mp hn).1
  exact (r.cell n h[n] a (by simp [hl]) hn).there

/-- what a step may change -/
structure Ext (G : Hp) (ρ : List Addr) (H : Hp) (G' : Hp) (ρ' : List Addr) (H' : Hp) : Prop where
  g : Same G G'
  r : ∀ (n : Nat) (a : Addr), ρ[n]? = some a → ρ'[n]? = some a
  off : ∀ a o, H a = some o → a ∉ ρ → H' a = some o
  st : ∀ a o, H a = some o → ∃ o', H' a = some o'
  gn : ∀ a o, G' a = some o → G a = some o ∨ H a = none
  rn : ∀ a, a ∈ ρ' → a ∈ ρ ∨ H a = none
theorem Ext.refl (G : Hp) (ρ : List Addr) (H : Hp) : Ext G ρ H G ρ H := ⟨Same.refl G, fun _ _ h => h, fun _ _ h _ => h, fun _ o h => ⟨o, h⟩, fun _ _ h => .inl h, fun _ h => .inl h⟩
section
variable {G G1 G2 : Hp} {ρ ρ1 ρ2 : List Addr} {H H1 H2 : Hp}
theorem Ext.none (e : Ext G ρ H G1 ρ1 H1) {a : Addr} (h : H1 a = none) : H a = none := by
  cases q : H a with
  | none => rfl
  | some o =>
    obtain ⟨o', z⟩ := e.st a o q
    rw [h] at z
    cases z
theorem Ext.mem (e : Ext G ρ H G1 ρ1 H1) {a : Addr} (h : a ∈ ρ) : a ∈ ρ1 := by
  obtain ⟨n, hn⟩ := List.mem_iff_getElem?.mp h
  exact List.mem_iff_getElem?.mpr ⟨n, e.r n a hn⟩
theorem Ext.trans (e : Ext G ρ H G1 ρ1 H1) (f : Ext G1 ρ1 H1 G2 ρ2 H2) : Ext G ρ H G2 ρ2 H2 where
  g := e.g.trans f.g
  r := fun n a h => f.r n a (e.r n a h)
  off := fun a o h na => f.off a o (e.off a o h na) fun hm => by
    rcases e.rn a hm with z | z
    · exact na z
    · rw [z] at h; cases h
  st := fun a o h => by
    obtain ⟨o', h'⟩ := e.st a o h
    exact f.st a o' h'
  gn := fun a o h => by
    rcases f.gn a o h with z | z
    · exact e.gn a o z
    · exact .inr (e.none z)
  rn := fun a h => by
    rcases f.rn a h with z | z
    · exact e.rn a z
    · exact .inr (e.none z)
end

section
variable {Γ : Gm} {G : Hp} {ρ : List Addr} {h : MH} {H : Hp}
theorem Rl.notIn (r : Rl Γ G ρ h H) {p : Addr} (hp : H p = none) : p ∉ ρ := fun hm => by
  obtain ⟨o, e⟩ := r.there hm
  rw [hp] at e
  cases e
theorem Rl.gnone (r : Rl Γ G ρ h H) {p : Addr} (hp : H p = none) : G p = none := by
  cases e : G p with
  | none => rfl
  | some o =>
    have := r.sub p o e
    rw [hp] at this
    cases this
theorem same_upd {G : Hp} {p : Addr} {o : HO} (hp : G p = none) : Same G (upd G p o) := fun a u e => by
  rw [upd_ne (ne_of_none e hp)]
  exact e
theorem CellAt.mono {G' H' : Hp} {ρ' : List Addr} {a : Addr} {c : Cell} (eg : Same G G') (er : ∀ (n : Nat) (a : Addr), ρ[n]? = some a → ρ'[n]? = some a) (eh : ∀ o, H a = some o → H' a = some o) (x : CellAt Γ G ρ H a c) : CellAt Γ G' ρ' H' a c := by
  cases c with
  | lst ds => obtain ⟨vs, e, q⟩ := x; exact ⟨vs, eh _ e, q.mono eg er⟩
  | dic kds => obtain ⟨vs, e, q⟩ := x; exact ⟨vs, eh _ e, q.mono eg er⟩
  | ins c ds => obtain ⟨dx, vs, e, l, q⟩ := x; exact ⟨dx, vs, eh _ e, l, q.mono eg er⟩
/-- a new object that never changes -/
theorem Rl.grow (r : Rl Γ G ρ h H) {p : Addr} {o : HO} (hp : H p = none) : Rl Γ (upd G p o) ρ h (upd H p o) ∧ Ext G ρ H (upd G p o) ρ (upd H p o) := by
  have gp := r.gnone hp
  have np := r.notIn hp
  refine ⟨⟨fun a u e => ?_, r.len, r.nd, fun a ha => ?_, fun n c a h1 h2 => (r.cell n c a h1 h2).mono (same_upd gp) (fun _ _ z => z) fun u e => ?_⟩, ⟨same_upd gp, fun _ _ z => z, fun a u e _ => ?_, fun a u e => ⟨u, ?_⟩, fun a u e => ?_, fun _ z => .inl z⟩⟩
  · by_cases hb : a = p
    · subst hb; rw [upd_same] at e ⊢; exact e
    · rw [upd_ne hb] at e ⊢; exact r.sub a u e
  · have hne : a ≠ p := fun z => by subst z; exact np ha
    rw [upd_ne hne]; exact r.new a ha
  · rw [upd_ne (ne_of_none e hp)]; exact e
  · rw [upd_ne (ne_of_none e hp)]; exact e
  · rw [upd_ne (ne_of_none e hp)]; exact e
  · by_cases hb : a = p
    · subst hb; exact .inr hp
    · rw [upd_ne hb] at e; exact .inl e
/-- an object of no account -/
theorem Rl.junk (r : Rl Γ G ρ h H) {p : Addr} {o : HO} (hp : H p = none) : Rl Γ G ρ h (upd H p o) ∧ Ext G ρ H G ρ (upd H p o) := by
  have gp := r.gnone hp
  have np := r.notIn hp
  refine ⟨⟨fun a u e => ?_, r.len, r.nd, r.new, fun n c a h1 h2 => (r.cell n c a h1 h2).mono (Same.refl G) (fun _ _ z => z) fun u e => ?_⟩, ⟨Same.refl G, fun _ _ z => z, fun a u e _ => ?_, fun a u e => ⟨u, ?_⟩, fun a u e => .inl e, fun _ z => .inl z⟩⟩
  · rw [upd_ne (ne_of_none e gp)]; exact r.sub a u e
  · rw [upd_ne (ne_of_none e hp)]; exact e
  · rw [upd_ne (ne_of_none e hp)]; exact e
  · rw [upd_ne (ne_of_none e hp)]; exact e
/-- a cell is written -/
theorem Rl.set (r : Rl Γ G ρ h H) {n : Nat} {a : Addr} {c : Cell} {o : HO} (hn : ρ[n]? = some a) (new : CellAt Γ G ρ (upd H a o) a c) : Rl Γ G ρ (h.set n c) (upd H a o) ∧ Ext G ρ H G ρ (upd H a o) := by
  have hm : a ∈ ρ := List.mem_iff_getElem?.mpr ⟨n, hn⟩
  have ga := r.new a hm
  refine ⟨⟨fun b u e => ?_, by rw [List.length_set]; exact r.len, r.nd, r.new, fun m d b h1 h2 => ?_⟩, ⟨Same.refl G, fun _ _ z => z, fun b u e nb => ?_, fun b u e => ?_, fun _ _ e => .inl e, fun _ z => .inl z⟩⟩
  · rw [upd_ne (ne_of_none e ga)]; exact r.sub b u e
  · by_cases hmn : n = m
    · subst hmn
      rw [hn] at h2
      cases h2
      have hl : n < h.length := by rw [← r.len]; exact (List.getElem?_eq_some_iff.mp hn).1
      rw [List.getElem?_set_self hl] at h1
      cases h1
      exact new
    · rw [List.getElem?_set_ne hmn] at h1
      refine (r.cell m d b h1 h2).mono (Same.refl G) (fun _ _ z => z) fun u e => ?_
      rw [upd_ne]
      · exact e
      · intro z
        subst z
        exact hmn (nd_ix r.nd hn h2)
  · have hne : b ≠ a := fun z => by subst z; exact nb hm
    rw [upd_ne hne]; exact e
  · by_cases hb : b = a
    · subst hb; exact ⟨_, upd_same⟩
    · exact ⟨u, by rw [upd_ne hb]; exact e⟩
/-- a new cell -/
theorem Rl.alloc (r : Rl Γ G ρ h H) {p : Addr} {c : Cell} {o : HO} (hp : H p = none) (new : CellAt Γ G (ρ ++ [p]) (upd H p o) p c) : Rl Γ G (ρ ++ [p]) (h ++ [c]) (upd H p o) ∧ Ext G ρ H G (ρ ++ [p]) (upd H p o) := by
  have gp := r.gnone hp
  have np := r.notIn hp
  have er : ∀ (n : Nat) (a : Addr), ρ[n]? = some a → (ρ ++ [p])[n]? = some a := fun n a e => by
    rw [List.getElem?_append_left (List.getElem?_eq_some_iff.mp e).1]; exact e
  refine ⟨⟨fun a u e => ?_, by simp [r.len], ?_, fun a ha => ?_, fun m d b h1 h2 => ?_⟩, ⟨Same.refl G, er, fun a u e _ => ?_, fun a u e => ⟨u, ?_⟩, fun _ _ e => .inl e, fun a ha => ?_⟩⟩
  · rw [upd_ne (ne_of_none e gp)]; exact r.sub a u e
  · rw [List.nodup_append]
    exact ⟨r.nd, by simp, fun a ha b hb => by simp at hb; subst hb; exact fun z => np (z ▸ ha)⟩
  · rcases List.mem_append.mp ha with z | z
    · exact r.new a z
    · simp at z; subst z; exact gp
  · by_cases hm : m < h.length
    · rw [List.getElem?_append_left hm] at h1
      rw [List.getElem?_append_left (by rw [r.len]; exact hm)] at h2
      refine (r.cell m d b h1 h2).mono (Same.refl G) er fun u e => ?_
      rw [upd_ne (ne_of_none e hp)]; exact e
    · have hm2 : m = h.length := by
        have := (List.getElem?_eq_some_iff.mp h1).1
        simp at this
        omega
      subst hm2
      rw [List.getElem?_append_right (Nat.le_refl _)] at h1
      rw [← r.len, List.getElem?_append_right (Nat.le_refl _)] at h2
      simp at h1 h2
      subst h1
      subst h2
      exact new
  · rw [upd_ne (ne_of_none e hp)]; exact e
  · rw [upd_ne (ne_of_none e hp)]; exact e
  · rcases List.mem_append.mp ha with z | z
    · exact .inl z
    · simp at z; subst z; exact .inr hp
end
end Mi

set_option Elab.async false
set_option linter.all false
set_option maxRecDepth 100000
set_option maxHeartbeats 2000000
/-! Mi1: meanings, canonical readings; names, constants, operators, comparisons, tests, displays, subscripts. -/
namespace Mi
open PySem PySem.Spec PyProof.Rows L2

inductive Sv where
  | d (d : D) | own (ds : List D) | ownD (kds : List (Key × D))
abbrev S := List (Option Sv)
abbrev EF := S → MH → R D
abbrev TF := S → MH → R Bool
abbrev AF := S → MH → R (List D)
abbrev FF := List D → MH → R D

/-- the error's own dict, at dA, holds its one field -/
def XAt (Γ : Gm) (G : Hp) (ρ : List Addr) (H : Hp) (x : Xn) (dA : Addr) : Prop := ∃ v f, Γ.flds x.c = [f] ∧ H dA = some (.xd [(f, v)]) ∧ DAt Γ G ρ v x.d
def Post (Γ : Gm) (W : WX) (σV : L2.St) (G : Hp) (ρ : List Addr) (H : Hp) {α : Type} (r : R α) (P : α → MH → Hp → List Addr → Hp → Prop) : Prop := match r with
  | .ok a h' => ∀ G' ρ' H', Ext G ρ H G' ρ' H' → Rl Γ G' ρ' h' H' → P a h' G' ρ' H'
  | .exc x h' => ∀ G' ρ' H' dA, Ext G ρ H G' ρ' H' → Rl Γ G' ρ' h' H' → XAt Γ G' ρ' H' x dA → W (.ref (Γ.cls x.c)) (some dA) σV H'
  | .stk => False
section
variable {Γ : Gm} {W : WX} {σV : L2.St} {G G1 : Hp} {ρ ρ1 : List Addr} {H H1 : Hp} {α β : Type}
theorem Post.ext {r : R α} {P : α → MH → Hp → List Addr → Hp → Prop} (p : Post Γ W σV G ρ H r P) (e : Ext G ρ H G1 ρ1 H1) : Post Γ W σV G1 ρ1 H1 r P := by
  cases r with
  | ok a h => exact fun G' ρ' H' e' rl => p G' ρ' H' (e.trans e') rl
  | exc x h => exact fun G' ρ' H' dA e' rl xa => p G' ρ' H' dA (e.trans e') rl xa
  | stk => exact p
theorem Post.mono {r : R α} {P P' : α → MH → Hp → List Addr → Hp → Prop} (p : Post Γ W σV G ρ H r P)
    (k : ∀ a h' G' ρ' H', Ext G ρ H G' ρ' H' → Rl Γ G' ρ' h' H' → P a h' G' ρ' H' → P' a h' G' ρ' H') : Post Γ W σV G ρ H r P' := by
  cases r with
  | ok a h => exact fun G' ρ' H' e' rl => k _ _ _ _ _ e' rl (p G' ρ' H' e' rl)
  | exc x h => exact p
  | stk => exact p
theorem Post.bind {r : R α} {k : α → MH → R β} {P : β → MH → Hp → List Addr → Hp → Prop} (p : Post Γ W σV G ρ H (r.bind k) P) :
    Post Γ W σV G ρ H r (fun a h1 G1 ρ1 H1 => Post Γ W σV G1 ρ1 H1 (k a h1) P) := by
  cases r with
  | ok a h => exact fun G' ρ' H' e' rl => Post.ext (show Post Γ W σV G ρ H (k a h) P from p) e'
  | exc x h => exact p
  | stk => exact p
/-- at once -/
theorem Post.now {a : α} {h : MH} {P : α → MH → Hp → List Addr → Hp → Prop} (p : Post Γ W σV G ρ H (.ok a h) P) (rl : Rl Γ G ρ h H) : P a h G ρ H := p G ρ H (Ext.refl _ _ _) rl
end

structure StD (Γ : Gm) (G : Hp) (ρ : List Addr) (σV : L2.St) (σ : S) : Prop where
  len : σV.length = σ.length
  d : ∀ (i : Nat) (d : D), σ[i]? = some (some (.d d)) → ∃ v, σV[i]? = some (some v) ∧ DAt Γ G ρ v d
theorem StD.ext {Γ : Gm} {G G' : Hp} {ρ ρ' : List Addr} {H H' : Hp} {σV : L2.St} {σ : S} (s : StD Γ G ρ σV σ) (e : Ext G ρ H G' ρ' H') : StD Γ G' ρ' σV σ :=
  ⟨s.len, fun i d h => let ⟨v, h1, h2⟩ := s.d i d h; ⟨v, h1, h2.mono e.g e.r⟩⟩
/-- the canonical readings of meanings -/
def Can (Γ : Gm) (W : WX) (f : EF) : TE := fun σV H Q => ∃ G ρ σ h, Rl Γ G ρ h H ∧ StD Γ G ρ σV σ ∧ Post Γ W σV G ρ H (f σ h) (fun d _ G' ρ' H' => ∀ v, DAt Γ G' ρ' v d → Q v H')
def CanT (Γ : Gm) (W : WX) (f : TF) : TT := fun σV H Q => ∃ G ρ σ h, Rl Γ G ρ h H ∧ StD Γ G ρ σV σ ∧ Post Γ W σV G ρ H (f σ h) (fun b _ _ _ H' => Q b H')
def CanA (Γ : Gm) (W : WX) (f : AF) : TA := fun σV H Q => ∃ G ρ σ h, Rl Γ G ρ h H ∧ StD Γ G ρ σV σ ∧ Post Γ W σV G ρ H (f σ h) (fun ds _ G' ρ' H' => ∀ vs, DsAt Γ G' ρ' vs ds → Q vs H')

section
variable {X : Cx} {e : Expr} {es : List Expr}
theorem pe_weak {t t' : TE} (h : PE X e t) (w : ∀ σ H Q, t' σ H Q → t σ H Q) : PE X e t' := ⟨fun pins s σ H Q I q => h.run pins s σ H Q I (w σ H Q q)⟩
theorem pt_weak {t t' : TT} (h : PT X e t) (w : ∀ σ H Q, t' σ H Q → t σ H Q) : PT X e t' := ⟨fun pins s σ H Q I q => h.run pins s σ H Q I (w σ H Q q)⟩
theorem pw_weak {t t' : TT} (h : PW X e t) (w : ∀ σ H Q, t' σ H Q → t σ H Q) : PW X e t' := ⟨fun wh pins s σ H Q I q => h.run wh pins s σ H Q I (w σ H Q q)⟩
theorem pa_weak {t t' : TA} (h : PA X es t) (w : ∀ σ H Q, t' σ H Q → t σ H Q) : PA X es t' := ⟨fun pos pins s σ H Q I q => h.run pos pins s σ H Q I (w σ H Q q)⟩
end

/-- what a derivation stands on -/
structure Bn (Γ : Gm) (k : Nat) (X : Cx) (W : WX) : Prop where
  hK : X.K = Γ.K
  nd : X.N.Nodup
  calm : X.calm = true
  room : Room k X.A
  tk : Takes X W
  po : PassesOwn (model X.prog X.w) X.A X.env X.xe

/-! ### names, constants -/
def eVar (i : Nat) (σ : S) (h : MH) : R D := match σ[i]? with
  | some (some (.d d)) => .ok d h
  | _ => .stk
def eC (d : D) (_ : S) (h : MH) : R D := .ok d h
section
variable {Γ : Gm} {k : Nat} {X : Cx} {W : WX} {pos : Pos}
theorem de_var (i : Nat) {x : Str} (hN : X.N[i]? = some x := by rfl) (hv : Vis X.env.scope x := by first | exact Or.inl rfl | exact Or.inr (Or.inl rfl) | exact Or.inr (Or.inr rfl)) (hd : (x == ("__debug__" : Str)) = false := by decide)
    (hcd : (x == ("__classdict__" : Str)) = false := by decide) : PE X (.Name x pos) (Can Γ W (eVar i)) :=
  pe_weak (pe_var hN hv hd hcd) fun σV H Q ⟨G, ρ, σ, h, rl, st, po⟩ => by
    unfold eVar at po
    split at po
    · rename_i d e
      obtain ⟨v, h1, h2⟩ := st.d i d e
      exact ⟨v, h1, po.now rl v h2⟩
    · exact po.elim
theorem de_c {v : V} {d : D} {e : Expr} (h : PE X e (tC v)) (hv : ∀ G ρ, DAt Γ G ρ v d) : PE X e (Can Γ W (eC d)) :=
  pe_weak h fun σV H Q ⟨G, ρ, σ, h, rl, st, po⟩ => po.now rl v (hv G ρ)
theorem de_int {i : Int} {j} : PE X (.Constant (.int i) j pos) (Can Γ W (eC (.int i))) := de_c pe_int fun _ _ => .int i
theorem de_bl {b : Bool} {j} : PE X (.Constant (.bool b) j pos) (Can Γ W (eC (.bl b))) := de_c pe_bl fun _ _ => .bl b
theorem de_non {j} : PE X (.Constant .none j pos) (Can Γ W (eC .non)) := de_c pe_non fun _ _ => .non
theorem de_str {x : Str} {j} : PE X (.Constant (.str x) j pos) (Can Γ W (eC (.str x))) := de_c pe_str fun _ _ => .str x
/-- a module's constant: an int, a text -/
theorem de_gint {x : Str} {i : Int} {t : Tok} (hm : X.mg x = some (.int i t)) (hg : Gl X x := by rfl) (hd : (x == ("__debug__" : Str)) = false := by decide) : PE X (.Name x pos) (Can Γ W (eC (.int i))) := de_c (pe_glob (v := .int i) hg hm ⟨t, rfl⟩ hd) fun _ _ => .int i
theorem de_gstr {x : Str} {i : Str} {t : Tok} (hm : X.mg x = some (.str i t)) (hg : Gl X x := by rfl) (hd : (x == ("__debug__" : Str)) = false := by decide) : PE X (.Name x pos) (Can Γ W (eC (.str i))) := de_c (pe_glob (v := .str i) hg hm ⟨t, rfl⟩ hd) fun _ _ => .str i
end

/-! ### operators on values -/
abbrev GF := MH → D → D → R D
/-- r serves g -/
def V2 (Γ : Gm) (r : R2) (g : GF) : Prop := ∀ {W : WX} {σV : L2.St} {H : Hp} {Q : VK} {G : Hp} {ρ : List Addr} {h : MH} {x y : V} {dx dy : D}, Rl Γ G ρ h H → DAt Γ G ρ x dx → DAt Γ G ρ y dy →
  Post Γ W σV G ρ H (g h dx dy) (fun d _ G' ρ' H' => ∀ v, DAt Γ G' ρ' v d → Q v H') → r x y H Q
def eB (g : GF) (a b : EF) (σ : S) (h : MH) : R D := (a σ h).bind fun x h1 => (b σ h1).bind fun y h2 => g h2 x y
section
variable {Γ : Gm} {k : Nat} {X : Cx} {W : WX} {pos : Pos} {a b : Expr} {fa fb : EF} {g : GF} {r : R2}
theorem can_op (v : V2 Γ r g) {σV : L2.St} {H : Hp} {Q : VK} (hq : Can Γ W (eB g fa fb) σV H Q) : tOp r (Can Γ W fa) (Can Γ W fb) σV H Q := by
  obtain ⟨G, ρ, σ, h, rl, st, po⟩ := hq
  exact ⟨G, ρ, σ, h, rl, st, po.bind.mono fun d1 h1 G1 ρ1 H1 e1 rl1 po1 v1 dv1 =>
    ⟨G1, ρ1, σ, h1, rl1, st.ext e1, po1.bind.mono fun d2 h2 G2 ρ2 H2 e2 rl2 po2 v2 dv2 => v rl2 (dv1.mono e2.g e2.r) dv2 po2⟩⟩
theorem de_bin {op : Operator} (ho : OpR X (binaryOp op) r) (v : V2 Γ r g) (ha : PE X a (Can Γ W fa)) (hb : PE X b (Can Γ W fb)) : PE X (.BinOp a op b pos) (Can Γ W (eB g fa fb)) :=
  pe_weak (pe_op ho ha hb) fun _ _ _ => can_op v
theorem de_cmp {op : CmpOp} (ho : OpR X (compareOp op) r) (v : V2 Γ r g) (ha : PE X a (Can Γ W fa)) (hb : PE X b (Can Γ W fb)) (hm : behindInMarks op b = false) : PE X (.Compare a [op] [b] pos) (Can Γ W (eB g fa fb)) :=
  pe_weak (pe_cmpR ho ha hb hm) fun _ _ _ => can_op v
end
/-- a value as a test's answer -/
def toB (r : R D) : R Bool := r.bind fun d h => match d with
  | .bl b => .ok b h
  | _ => .stk
section
variable {Γ : Gm} {k : Nat} {X : Cx} {W : WX} {pos : Pos} {a b : Expr} {fa fb : EF} {g : GF} {r : R2}
theorem can_toB {t : TE} {f : EF} {σV : L2.St} {H : Hp} {Q : Bool → Hp → Prop} (hw : ∀ Q', Can Γ W f σV H Q' → t σV H Q') (hq : CanT Γ W (fun σ h => toB (f σ h)) σV H Q) : t σV H (fun x H' => ∃ k, x = .bl k ∧ Q k H') := by
  obtain ⟨G, ρ, σ, h, rl, st, po⟩ := hq
  refine hw _ ⟨G, ρ, σ, h, rl, st, po.bind.mono fun d1 h1 G1 ρ1 H1 e1 rl1 po1 v1 dv1 => ?_⟩
  cases d1 <;> first | exact (show False from po1).elim | skip
  cases dv1
  exact ⟨_, rfl, po1.now rl1⟩
theorem dt_cmp {op : CmpOp} (ho : OpR X (compareOp op) r) (v : V2 Γ r g) (ha : PE X a (Can Γ W fa)) (hb : PE X b (Can Γ W fb)) (hm : behindInMarks op b = false) : PT X (.Compare a [op] [b] pos) (CanT Γ W (fun σ h => toB (eB g fa fb σ h))) :=
  pt_weak (pt_cmpR ho ha hb hm) fun _ _ _ => can_toB fun _ q => can_op v q
/-- an expression of another form, its value a bool -/
theorem dt_val {e : Expr} {f : EF} (h : PE X e (Can Γ W f)) (he : ∀ whole, isTrue e X.env whole = (do let v ← whole; standAt e.pos; holding [v] (truthy v)) := by intro _; rfl) : PT X e (CanT Γ W (fun σ h => toB (f σ h))) :=
  pt_weak (pt_val h he) fun _ _ _ => can_toB fun _ q => q
end

/-! ### ints, texts, tuples, lists: + - * // % ** -/
def dAdd (h : MH) (x y : D) : R D := match x, y with
  | .int i, .int j => .ok (.int (i + j)) h
  | .str a, .str b => if a.length + b.length ≤ 1000000 then .ok (.str (a ++ b)) h else .stk
  | .tup a, .tup b => if a.length + b.length ≤ 1000000 then .ok (.tup (a ++ b)) h else .stk
  | .lst a, .lst b => if a.length + b.length ≤ 1000000 then .ok (.lst (a ++ b)) h else .stk
  | _, _ => .stk
def dSub (h : MH) (x y : D) : R D := match x, y with
  | .int i, .int j => .ok (.int (i - j)) h
  | _, _ => .stk
/-- few digits enough -/
def mulOk (i j : Int) : Prop := ((-(2 ^ 64) < i ∧ i < 2 ^ 64) ∨ (-(2 ^ 64) < j ∧ j < 2 ^ 64)) ∨ (i.natAbs < 2 ^ 4000 ∧ j.natAbs < 2 ^ 4000)
instance (i j : Int) : Decidable (mulOk i j) := by unfold mulOk; infer_instance
def repD (n : Nat) (ds : List D) : List D := (List.replicate n ds).flatten
def dMul (h : MH) (x y : D) : R D := match x, y with
  | .int i, .int j => if mulOk i j then .ok (.int (i * j)) h else .stk
  | .lst a, .int j => if a.length * j.toNat ≤ 1000000 ∧ -(2 ^ 63) ≤ j ∧ j < 2 ^ 63 then .ok (.lst (repD j.toNat a)) h else .stk
  | _, _ => .stk
def divOk (j : Int) : Prop := 0 < j ∧ j.natAbs < 2 ^ 8000
instance (j : Int) : Decidable (divOk j) := by unfold divOk; infer_instance
def dDiv (h : MH) (x y : D) : R D := match x, y with
  | .int i, .int j => if divOk j then .ok (.int (i / j)) h else .stk
  | _, _ => .stk
def dMod (h : MH) (x y : D) : R D := match x, y with
  | .int i, .int j => if 0 < j then .ok (.int (i % j)) h else .stk
  | _, _ => .stk
def dPow (h : MH) (x y : D) : R D := match x, y with
  | .int i, .int j => if 0 ≤ j ∧ j ≤ 1000 ∧ i.natAbs < 2 ^ 64 then .ok (.int (i ^ j.toNat)) h else .stk
  | _, _ => .stk
theorem mil {n : Nat} (h : n ≤ 1000000) : n ≤ sizeLine := Nat.le_trans h (by rw [sizeLine_eq]; decide)
theorem mil' {n : Nat} (h : n < 1000000) : n < sizeLine := Nat.lt_of_lt_of_le h (by rw [sizeLine_eq]; decide)
section
variable {Γ : Gm}
theorem none_ext {G G' : Hp} {ρ ρ' : List Addr} {h : MH} {H : Hp} (rl : Rl Γ G ρ h H) : True := trivial
/-- a new frozen object as the answer -/
theorem Post.fresh {W : WX} {σV : L2.St} {G : Hp} {ρ : List Addr} {H : Hp} {h : MH} {Q : VK} {d : D} {p : Addr} {o : HO} (po : Post Γ W σV G ρ H (.ok d h) (fun d _ G' ρ' H' => ∀ v, DAt Γ G' ρ' v d → Q v H')) (rl : Rl Γ G ρ h H)
    (hp : H p = none) (new : ∀ G' , Same G G' → G' p = some o → DAt Γ G' ρ (.ref p) d) : Q (.ref p) (upd H p o) := by
  obtain ⟨rl1, e1⟩ := rl.grow (o := o) hp
  exact po _ _ _ e1 rl1 _ (new _ (same_upd (rl.gnone hp)) upd_same)
theorem Post.cond {W : WX} {σV : L2.St} {G : Hp} {ρ : List Addr} {H : Hp} {α : Type} {c : Prop} [Decidable c] {r : R α} {P : α → MH → Hp → List Addr → Hp → Prop} (p : Post Γ W σV G ρ H (if c then r else .stk) P) : c ∧ Post Γ W σV G ρ H r P := by
  by_cases hc : c
  · rw [if_pos hc] at p; exact ⟨hc, p⟩
  · rw [if_neg hc] at p; exact p.elim
def rAdd (K : PySem.W.Frag) : R2 := fun x y H Q => rI0 (fun i j => .int (i + j)) x y H Q ∨ (∃ i j, x = .str i ∧ y = .str j ∧ i.length + j.length ≤ sizeLine ∧ Q (.str (i ++ j)) H) ∨ rCatA K x y H Q ∨ rCat x y H Q
theorem o_add {X : Cx} (hK : X.K = Γ.K) : OpR X (binaryOp .Add) (rAdd Γ.K) := by
  rw [← hK]
  exact op_add.or (op_add_str.or (op_catA.or op_cat))
theorem v_add : V2 Γ (rAdd Γ.K) dAdd := by
  intro W σV H Q G ρ h x y dx dy rl hx hy po
  cases hx <;> cases hy <;> first | exact (show False from po).elim | skip
  · exact .inl ⟨_, _, rfl, rfl, po.now rl _ (.int _)⟩
  · obtain ⟨hz, po⟩ := Post.cond po
    exact .inr (.inl ⟨_, _, rfl, rfl, mil hz, po.now rl _ (.str _)⟩)
  · rename_i a vs ds h1 hs1 b ws es h2 hs2
    obtain ⟨hz, po⟩ := Post.cond po
    refine .inr (.inr (.inl ⟨a, b, vs, ws, rfl, rfl, same_t rl.sub h1, same_t rl.sub h2, by rw [hs1.length, hs2.length]; exact mil hz, fun e => ?_, fun _ e => ?_, fun _ _ p hp => ?_⟩))
    · subst e
      cases hs1
      exact po.now rl _ (.tup h2 hs2)
    · subst e
      cases hs2
      rw [List.append_nil] at po
      exact po.now rl _ (.tup h1 hs1)
    · exact po.fresh rl hp fun G' eg e => .tup (.inl (.inl e)) ((hs1.append hs2).mono eg fun _ _ z => z)
  · rename_i a vs ds h1 hs1 b ws es h2 hs2
    obtain ⟨hz, po⟩ := Post.cond po
    refine .inr (.inr (.inr ⟨a, b, vs, ws, rfl, rfl, rl.sub _ _ h1, rl.sub _ _ h2, by rw [hs1.length, hs2.length]; exact mil hz, fun p hp => ?_⟩))
    exact po.fresh rl hp fun G' eg e => .lst e ((hs1.append hs2).mono eg fun _ _ z => z)
def rSubI : R2 := rI0 fun i j => .int (i - j)
theorem v_sub : V2 Γ rSubI dSub := by
  intro W σV H Q G ρ h x y dx dy rl hx hy po
  cases hx <;> cases hy <;> first | exact (show False from po).elim | skip
  exact ⟨_, _, rfl, rfl, po.now rl _ (.int _)⟩
theorem DsAt.rep {G : Hp} {ρ : List Addr} {vs : List V} {ds : List D} (h : DsAt Γ G ρ vs ds) : ∀ n : Nat, DsAt Γ G ρ (List.replicate n vs).flatten (repD n ds)
  | 0 => .nil
  | n + 1 => by
    unfold repD
    rw [List.replicate_succ, List.flatten_cons, List.replicate_succ, List.flatten_cons]
    exact h.append (DsAt.rep h n)
def rMulD : R2 := fun x y H Q => rI CMul (fun i j => .int (i * j)) x y H Q ∨ rI CMulW (fun i j => .int (i * j)) x y H Q ∨ rRep x y H Q
theorem o_mul {X : Cx} : OpR X (binaryOp .Mult) rMulD := op_mul.or (op_mulW.or op_rep)
theorem v_mul : V2 Γ rMulD dMul := by
  intro W σV H Q G ρ h x y dx dy rl hx hy po
  cases hx <;> cases hy <;> first | exact (show False from po).elim | skip
  · obtain ⟨hz, po⟩ := Post.cond po
    rcases hz with hz | ⟨h1, h2⟩
    · exact .inl ⟨_, _, rfl, rfl, hz, po.now rl _ (.int _)⟩
    · exact .inr (.inl ⟨_, _, rfl, rfl, wide_mul h1 h2 (by decide) (by decide) (by decide), po.now rl _ (.int _)⟩)
  · rename_i a vs ds h1 hs1 j
    obtain ⟨⟨hz, l1, l2⟩, po⟩ := Post.cond po
    refine .inr (.inr ⟨a, j, vs, rfl, rfl, rl.sub _ _ h1, l1, l2, by rw [hs1.length]; exact mil hz, fun p hp => ?_⟩)
    exact po.fresh rl hp fun G' eg e => .lst e ((hs1.rep _).mono eg fun _ _ z => z)
theorem v_div : V2 Γ (rI CDivW fun i j => .int (i / j)) dDiv := by
  intro W σV H Q G ρ h x y dx dy rl hx hy po
  cases hx <;> cases hy <;> first | exact (show False from po).elim | skip
  obtain ⟨hz, po⟩ := Post.cond po
  exact ⟨_, _, rfl, rfl, wide_div hz.1 hz.2 (by decide) (by decide), po.now rl _ (.int _)⟩
theorem v_mod : V2 Γ (rI (fun _ j => 0 < j) fun i j => .int (i % j)) dMod := by
  intro W σV H Q G ρ h x y dx dy rl hx hy po
  cases hx <;> cases hy <;> first | exact (show False from po).elim | skip
  obtain ⟨hz, po⟩ := Post.cond po
  exact ⟨_, _, rfl, rfl, hz, po.now rl _ (.int _)⟩
theorem v_pow : V2 Γ (rI CPow fun i j => .int (i ^ j.toNat)) dPow := by
  intro W σV H Q G ρ h x y dx dy rl hx hy po
  cases hx <;> cases hy <;> first | exact (show False from po).elim | skip
  obtain ⟨⟨h0, h1, h2⟩, po⟩ := Post.cond po
  exact ⟨_, _, rfl, rfl, ⟨h0, by omega, h2⟩, po.now rl _ (.int _)⟩
end
section
variable {Γ : Gm} {k : Nat} {X : Cx} {W : WX} {pos : Pos} {a b : Expr} {fa fb : EF}
theorem de_add (B : Bn Γ k X W) (ha : PE X a (Can Γ W fa)) (hb : PE X b (Can Γ W fb)) : PE X (.BinOp a .Add b pos) (Can Γ W (eB dAdd fa fb)) := de_bin (o_add B.hK) v_add ha hb
theorem de_sub (B : Bn Γ k X W) (ha : PE X a (Can Γ W fa)) (hb : PE X b (Can Γ W fb)) : PE X (.BinOp a .Sub b pos) (Can Γ W (eB dSub fa fb)) := de_bin op_sub v_sub ha hb
theorem de_mul (B : Bn Γ k X W) (ha : PE X a (Can Γ W fa)) (hb : PE X b (Can Γ W fb)) : PE X (.BinOp a .Mult b pos) (Can Γ W (eB dMul fa fb)) := de_bin o_mul v_mul ha hb
theorem de_div (B : Bn Γ k X W) (ha : PE X a (Can Γ W fa)) (hb : PE X b (Can Γ W fb)) : PE X (.BinOp a .FloorDiv b pos) (Can Γ W (eB dDiv fa fb)) := de_bin op_fdivW v_div ha hb
theorem de_mod (B : Bn Γ k X W) (ha : PE X a (Can Γ W fa)) (hb : PE X b (Can Γ W fb)) : PE X (.BinOp a .Mod b pos) (Can Γ W (eB dMod fa fb)) := de_bin op_mod v_mod ha hb
theorem de_pow (B : Bn Γ k X W) (ha : PE X a (Can Γ W fa)) (hb : PE X b (Can Γ W fb)) : PE X (.BinOp a .Pow b pos) (Can Γ W (eB dPow fa fb)) := de_bin op_pow v_pow ha hb
end
end Mi

set_option Elab.async false
set_option linter.all false
set_option maxRecDepth 100000
set_option maxHeartbeats 2000000
/-! Mi2: comparisons, in, is; and, or, not; conditional expressions; tuples, lists; subscripts, slices. -/
namespace Mi
open PySem PySem.Spec PyProof.Rows L2

mutual
def toP : D → Option PyData
  | .non => some .none
  | .bl b => some (.bool b)
  | .int i => some (.int i)
  | .str x => some (.str x)
  | .tup ds => (toPs ds).map .tuple
  | .lst ds => (toPs ds).map .list
  | _ => none
def toPs : List D → Option (List PyData)
  | [] => some []
  | d :: ds => (toP d).bind fun p => (toPs ds).map fun ps => p :: ps
end
section
variable {Γ : Gm} {G : Hp} {ρ : List Addr}
mutual
theorem toP_dp {H : Hp} (sub : Same G H) : ∀ {v : V} {d : D} {p : PyData}, DAt Γ G ρ v d → toP d = some p → Dp Γ.K H v p
  | _, _, _, .non, e => by simp [toP] at e; subst e; exact .non
  | _, _, _, .bl b, e => by simp [toP] at e; subst e; exact .bl b
  | _, _, _, .int i, e => by simp [toP] at e; subst e; exact .int i
  | _, _, _, .str x, e => by simp [toP] at e; subst e; exact .str x
  | _, _, _, .tup h hs, e => by
    simp only [toP, Option.map_eq_some_iff] at e
    obtain ⟨ps, e1, e2⟩ := e
    subst e2
    exact .tup (same_t sub h) (toPs_dp sub hs e1)
  | _, _, _, .lst h hs, e => by
    simp only [toP, Option.map_eq_some_iff] at e
    obtain ⟨ps, e1, e2⟩ := e
    subst e2
    exact .lst (.inl (.inl (sub _ _ h))) (toPs_dp sub hs e1)
  | _, _, _, .scr _ _, e => by simp [toP] at e
  | _, _, _, .dic _ _, e => by simp [toP] at e
  | _, _, _, .obj _ _ _, e => by simp [toP] at e
  | _, _, _, .ref _, e => by simp [toP] at e
theorem toPs_dp {H : Hp} (sub : Same G H) : ∀ {vs : List V} {ds : List D} {ps : List PyData}, DsAt Γ G ρ vs ds → toPs ds = some ps → DpAll Γ.K H vs ps
  | _, _, _, .nil, e => by simp [toPs] at e; subst e; exact .nil
  | _, _, _, .cons h hs, e => by
    simp only [toPs, Option.bind_eq_some_iff, Option.map_eq_some_iff] at e
    obtain ⟨p, e1, ps, e2, e3⟩ := e
    subst e3
    exact .cons (toP_dp sub h e1) (toPs_dp sub hs e2)
end
end
/-! ### == != -/
def eqR (h : MH) (x y : D) : R Bool := match x, y with
  | .int i, .int j => .ok (decide (i = j)) h
  | .str a, .str b => .ok (decide (a = b)) h
  | x, y => match toP x, toP y with
    | some p, some q => if SeqAt.shaped p = true ∧ SeqAt.shaped q = true then .ok (PyData.eqv p q) h else .stk
    | _, _ => .stk
def dEq (h : MH) (x y : D) : R D := (eqR h x y).bind fun b h => .ok (.bl b) h
def dNe (h : MH) (x y : D) : R D := (eqR h x y).bind fun b h => .ok (.bl (!b)) h
def rEq' (K : PySem.W.Frag) : R2 := fun x y H Q => rEq x y H Q ∨ rEqD K x y H Q
def rNe' (K : PySem.W.Frag) : R2 := fun x y H Q => rNe x y H Q ∨ rNeD K x y H Q
section
variable {Γ : Gm}
theorem eqR_cases {W : WX} {σV : L2.St} {G : Hp} {ρ : List Addr} {H : Hp} {h : MH} {x y : V} {dx dy : D} {f : Bool → D} {Q : VK} (rl : Rl Γ G ρ h H) (hx : DAt Γ G ρ x dx) (hy : DAt Γ G ρ y dy)
    (po : Post Γ W σV G ρ H ((eqR h dx dy).bind fun b h => .ok (f b) h) (fun d _ G' ρ' H' => ∀ v, DAt Γ G' ρ' v d → Q v H')) :
    (scal x y = true ∧ ∀ v, DAt Γ G ρ v (f (decide (x = y))) → Q v H) ∨ ∃ d e, Dp Γ.K H x d ∧ Dp Γ.K H y e ∧ SeqAt.shaped d = true ∧ SeqAt.shaped e = true ∧ ∀ v, DAt Γ G ρ v (f (PyData.eqv d e)) → Q v H := by
  unfold eqR at po
  split at po
  · cases hx; cases hy
    refine .inl ⟨rfl, fun v hv => po.now rl v ?_⟩
    simpa using hv
  · cases hx; cases hy
    refine .inl ⟨rfl, fun v hv => po.now rl v ?_⟩
    simpa using hv
  · split at po
    · rename_i p q e1 e2
      by_cases hs : SeqAt.shaped p = true ∧ SeqAt.shaped q = true
      · rw [if_pos hs] at po
        exact .inr ⟨p, q, toP_dp rl.sub hx e1, toP_dp rl.sub hy e2, hs.1, hs.2, fun v hv => po.now rl v hv⟩
      · rw [if_neg hs] at po
        exact po.elim
    · exact po.elim
theorem v_eq : V2 Γ (rEq' Γ.K) dEq := by
  intro W σV H Q G ρ h x y dx dy rl hx hy po
  rcases eqR_cases (f := .bl) rl hx hy po with ⟨hs, q⟩ | ⟨d, e, h1, h2, h3, h4, q⟩
  · exact .inl ⟨hs, q _ (.bl _)⟩
  · exact .inr ⟨d, e, h1, h2, h3, h4, q _ (.bl _)⟩
theorem v_ne : V2 Γ (rNe' Γ.K) dNe := by
  intro W σV H Q G ρ h x y dx dy rl hx hy po
  rcases eqR_cases (f := fun b => .bl (!b)) rl hx hy po with ⟨hs, q⟩ | ⟨d, e, h1, h2, h3, h4, q⟩
  · exact .inl ⟨hs, q _ (.bl _)⟩
  · exact .inr ⟨d, e, h1, h2, h3, h4, q _ (.bl _)⟩
end
/-! ### < <= > >= of ints -/
def dLt (h : MH) (x y : D) : R D := match x, y with
  | .int i, .int j => .ok (.bl (decide (i < j))) h
  | _, _ => .stk
def dLe (h : MH) (x y : D) : R D := match x, y with
  | .int i, .int j => .ok (.bl (decide (i ≤ j))) h
  | _, _ => .stk
def dGt (h : MH) (x y : D) : R D := match x, y with
  | .int i, .int j => .ok (.bl (decide (j < i))) h
  | _, _ => .stk
def dGe (h : MH) (x y : D) : R D := match x, y with
  | .int i, .int j => .ok (.bl (decide (j ≤ i))) h
  | _, _ => .stk
/-! ### is, in -/
def dIs (h : MH) (x y : D) : R D := match x, y with
  | .non, .non => .ok (.bl true) h
  | _, .non => .ok (.bl false) h
  | .bl a, .bl b => .ok (.bl (decide (a = b))) h
  | _, _ => .stk
def dIsNot (h : MH) (x y : D) : R D := match x, y with
  | .non, .non => .ok (.bl false) h
  | _, .non => .ok (.bl true) h
  | .bl a, .bl b => .ok (.bl (!decide (a = b))) h
  | _, _ => .stk
def flatD : D → Bool
  | .int _ | .str _ => true
  | _ => false
def eqFlat : D → D → Bool
  | .int i, .int j => decide (i = j)
  | .str a, .str b => decide (a = b)
  | _, _ => false
def keyD : D → Option Key
  | .int i => some (.inl i)
  | .str x => some (.inr x)
  | _ => none
def getK (kds : List (Key × D)) (k : Key) : Option D := (kds.find? fun kv => decide (kv.1 = k)).map (·.2)
def inR (h : MH) (x y : D) : R Bool := match x, y with
  | .str a, .str b => if a.length = 1 then .ok (decide (a.cps[0]! ∈ b.cps.toList)) h else .stk
  | x, .tup ds => if flatD x = true ∧ ds.all flatD = true then .ok (ds.any fun d => eqFlat d x) h else .stk
  | x, .lst ds => if flatD x = true ∧ ds.all flatD = true then .ok (ds.any fun d => eqFlat d x) h else .stk
  | x, .dic kds => match keyD x with
    | some k => .ok (getK kds k).isSome h
    | none => .stk
  | x, .ref n => match h[n]? with
    | some (.dic kds) => match keyD x with
      | some k => .ok (getK kds k).isSome h
      | none => .stk
    | _ => .stk
  | _, _ => .stk
def dIn (h : MH) (x y : D) : R D := (inR h x y).bind fun b h => .ok (.bl b) h
def dNotIn (h : MH) (x y : D) : R D := (inR h x y).bind fun b h => .ok (.bl (!b)) h
def rInD (neg : Bool) : R2 := fun y x H Q => ∃ a o, x = .ref a ∧ DGet H a y o ∧ Q (.bl (if neg then !o.isSome else o.isSome)) H
def rInS (neg : Bool) : R2 := fun x y H Q => ∃ (c : Nat) (z : Str), x = .str ⟨#[c]⟩ ∧ y = .str z ∧ Q (.bl (if neg then !decide (c ∈ z.cps.toList) else decide (c ∈ z.cps.toList))) H
section
variable {Γ : Gm} {X : Cx}
theorem v_lt : V2 Γ (rI0 fun i j => .bl (decide (i < j))) dLt := by
  intro W σV H Q G ρ h x y dx dy rl hx hy po
  cases hx <;> cases hy <;> first | exact (show False from po).elim | exact ⟨_, _, rfl, rfl, po.now rl _ (.bl _)⟩
theorem v_le : V2 Γ (rI0 fun i j => .bl (decide (i ≤ j))) dLe := by
  intro W σV H Q G ρ h x y dx dy rl hx hy po
  cases hx <;> cases hy <;> first | exact (show False from po).elim | exact ⟨_, _, rfl, rfl, po.now rl _ (.bl _)⟩
theorem v_gt : V2 Γ (rI0 fun i j => .bl (decide (j < i))) dGt := by
  intro W σV H Q G ρ h x y dx dy rl hx hy po
  cases hx <;> cases hy <;> first | exact (show False from po).elim | exact ⟨_, _, rfl, rfl, po.now rl _ (.bl _)⟩
theorem v_ge : V2 Γ (rI0 fun i j => .bl (decide (j ≤ i))) dGe := by
  intro W σV H Q G ρ h x y dx dy rl hx hy po
  cases hx <;> cases hy <;> first | exact (show False from po).elim | exact ⟨_, _, rfl, rfl, po.now rl _ (.bl _)⟩
def rIs : R2 := fun x y H Q => (y = .non ∧ Q (.bl (decide (x = .non))) H) ∨ ∃ a b, x = .bl a ∧ y = .bl b ∧ Q (.bl (decide (a = b))) H
def rIsNot : R2 := fun x y H Q => (y = .non ∧ Q (.bl (!decide (x = .non))) H) ∨ ∃ a b, x = .bl a ∧ y = .bl b ∧ Q (.bl (!decide (a = b))) H
theorem v_is : V2 Γ rIs dIs := by
  intro W σV H Q G ρ h x y dx dy rl hx hy po
  cases hy <;> cases hx <;> first | exact (show False from po).elim | exact .inl ⟨rfl, by simpa using po.now rl _ (.bl _)⟩ | exact .inr ⟨_, _, rfl, rfl, po.now rl _ (.bl _)⟩
theorem v_isnot : V2 Γ rIsNot dIsNot := by
  intro W σV H Q G ρ h x y dx dy rl hx hy po
  cases hy <;> cases hx <;> first | exact (show False from po).elim | exact .inl ⟨rfl, by simpa using po.now rl _ (.bl _)⟩ | exact .inr ⟨_, _, rfl, rfl, po.now rl _ (.bl _)⟩
theorem o_inD (hu : X.A.units + 1 < cLine) : OpR X (compareOp .In) (rInD false) := by
  intro pins s σ H x y v u Q I rx ry h
  obtain ⟨a, o, rfl, g, q⟩ := h
  cases ry
  exact d_in hu I g rx fun s1 I1 => ⟨.bl o.isSome, H, I1, rfl, q⟩
theorem o_notInD (hu : X.A.units + 1 < cLine) : OpR X (compareOp .NotIn) (rInD true) := by
  intro pins s σ H x y v u Q I rx ry h
  obtain ⟨a, o, rfl, g, q⟩ := h
  cases ry
  exact d_notIn hu I g rx fun s1 I1 => ⟨.bl (!o.isSome), H, I1, rfl, q⟩
def rInA (K : PySem.W.Frag) (neg : Bool) : R2 := fun x y H Q => rInS neg x y H Q ∨ rIn K neg x y H Q ∨ rInD neg x y H Q
theorem o_in (hK : X.K = Γ.K) (hu : X.A.units + 1 < cLine) : OpR X (compareOp .In) (rInA Γ.K false) := by
  rw [← hK]
  refine OpR.or ?_ (op_in_seq.or (o_inD hu))
  intro pins s σ H x y v u Q I rx ry h
  exact op_in_sign pins s σ H x y v u Q I rx ry h
theorem o_notIn (hK : X.K = Γ.K) (hu : X.A.units + 1 < cLine) : OpR X (compareOp .NotIn) (rInA Γ.K true) := by
  rw [← hK]
  refine OpR.or ?_ (op_notIn_seq.or (o_notInD hu))
  intro pins s σ H x y v u Q I rx ry h
  exact op_notIn_sign pins s σ H x y v u Q I rx ry h
theorem flat_at' {G : Hp} {ρ : List Addr} {v : V} {d : D} (h : DAt Γ G ρ v d) (f : flatD d = true) : flatV v = true := by
  cases h <;> first | rfl | exact absurd f (by simp [flatD])
theorem flats_at {G : Hp} {ρ : List Addr} : ∀ {vs : List V} {ds : List D}, DsAt Γ G ρ vs ds → ds.all flatD = true → vs.all flatV = true
  | _, _, .nil, _ => rfl
  | _, _, .cons h hs, f => by
    simp only [List.all_cons, Bool.and_eq_true] at f ⊢
    exact ⟨flat_at' h f.1, flats_at hs f.2⟩
theorem eqFlat_at {G : Hp} {ρ : List Addr} {v w : V} {d e : D} (h : DAt Γ G ρ v d) (g : DAt Γ G ρ w e) (f : flatD d = true) (f' : flatD e = true) : eqV v w = eqFlat d e := by
  cases h <;> cases g <;> simp [flatD, eqFlat, eqV, Bool.beq_eq_decide_eq] at f f' ⊢
theorem any_at {G : Hp} {ρ : List Addr} {w : V} {e : D} (g : DAt Γ G ρ w e) (f' : flatD e = true) : ∀ {vs : List V} {ds : List D}, DsAt Γ G ρ vs ds → ds.all flatD = true → inV w vs = ds.any fun d => eqFlat d e
  | _, _, .nil, _ => rfl
  | _, _, .cons h hs, f => by
    simp only [List.all_cons, Bool.and_eq_true] at f
    have ih := any_at g f' hs f.2
    unfold inV at ih ⊢
    rw [List.any_cons, List.any_cons, ih, eqFlat_at h g f.1 f']
theorem KvAt.val {G : Hp} {ρ : List Addr} (k : Key) : ∀ {kvs : List (Key × V)} {kds : List (Key × D)}, KvAt Γ G ρ kvs kds →
    (valV kvs k = none ∧ getK kds k = none) ∨ ∃ v d, valV kvs k = some v ∧ getK kds k = some d ∧ DAt Γ G ρ v d
  | _, _, .nil => .inl ⟨rfl, rfl⟩
  | _, _, .cons (k := j) (v := v) (d := d) h hs => by
    by_cases e : j = k
    · refine .inr ⟨v, d, valV_pos e, ?_, h⟩
      simp [getK, List.find?_cons, e]
    · have e2 : ∀ kds : List (Key × D), getK ((j, d) :: kds) k = getK kds k := fun kds => by simp [getK, List.find?_cons, e]
      rw [valV_neg (p := (j, v)) e, e2]
      exact KvAt.val k hs
theorem keyD_at {G : Hp} {ρ : List Addr} {v : V} {d : D} {k : Key} (h : DAt Γ G ρ v d) (e : keyD d = some k) : v = kV k := by
  cases h <;> simp [keyD] at e <;> subst e <;> rfl
theorem inR_cases {W : WX} {σV : L2.St} {G : Hp} {ρ : List Addr} {H : Hp} {h : MH} {x y : V} {dx dy : D} {neg : Bool} {Q : VK} (rl : Rl Γ G ρ h H) (hx : DAt Γ G ρ x dx) (hy : DAt Γ G ρ y dy)
    (po : Post Γ W σV G ρ H ((inR h dx dy).bind fun b h => .ok (.bl (if neg then !b else b)) h) (fun d _ G' ρ' H' => ∀ v, DAt Γ G' ρ' v d → Q v H')) : rInA Γ.K neg x y H Q := by
  unfold inR at po
  split at po
  · rename_i a b
    cases hx; cases hy
    by_cases hl : a.length = 1
    · rw [if_pos hl] at po
      obtain ⟨cs⟩ := a
      obtain ⟨c, rfl⟩ : ∃ c, cs = #[c] := by
        have : cs.size = 1 := hl
        exact ⟨cs[0], by
          apply Array.ext
          · simp [this]
          · intro i h1 h2
            have : i = 0 := by omega
            subst this
            simp⟩
      exact .inl ⟨c, b, rfl, rfl, po.now rl _ (.bl _)⟩
    · rw [if_neg hl] at po
      exact po.elim
  · rename_i ds
    cases hy with
    | tup hq hs =>
      by_cases hf : flatD dx = true ∧ ds.all flatD = true
      · rw [if_pos hf] at po
        refine .inr (.inl ⟨_, _, rfl, .inr (same_t rl.sub hq), flat_at' hx hf.1, flats_at hs hf.2, ?_⟩)
        rw [any_at hx hf.1 hs hf.2]
        exact po.now rl _ (.bl _)
      · rw [if_neg hf] at po
        exact po.elim
  · rename_i ds
    cases hy with
    | lst hq hs =>
      by_cases hf : flatD dx = true ∧ ds.all flatD = true
      · rw [if_pos hf] at po
        refine .inr (.inl ⟨_, _, rfl, .inl (.inl (.inl (rl.sub _ _ hq))), flat_at' hx hf.1, flats_at hs hf.2, ?_⟩)
        rw [any_at hx hf.1 hs hf.2]
        exact po.now rl _ (.bl _)
      · rw [if_neg hf] at po
        exact po.elim
  · rename_i kds
    cases hy with
    | dic hq hs =>
      split at po
      · rename_i k hk
        have hv := keyD_at hx hk
        subst hv
        refine .inr (.inr ⟨_, _, rfl, DGet.k (rl.sub _ _ hq), ?_⟩)
        rcases hs.val k with ⟨e1, e2⟩ | ⟨v, d, e1, e2, _⟩
        · rw [e2] at po; rw [e1]; exact po.now rl _ (.bl _)
        · rw [e2] at po; rw [e1]; exact po.now rl _ (.bl _)
      · exact po.elim
  · rename_i n
    cases hy with
    | ref hn =>
      split at po
      · rename_i kds hc
        obtain ⟨kvs, hq, hs⟩ := rl.cell _ _ _ hc hn
        split at po
        · rename_i k hk
          have hv := keyD_at hx hk
          subst hv
          refine .inr (.inr ⟨_, _, rfl, DGet.k hq, ?_⟩)
          rcases hs.val k with ⟨e1, e2⟩ | ⟨v, d, e1, e2, _⟩
          · rw [e2] at po; rw [e1]; exact po.now rl _ (.bl _)
          · rw [e2] at po; rw [e1]; exact po.now rl _ (.bl _)
        · exact po.elim
      · exact po.elim
  · exact po.elim
theorem v_in : V2 Γ (rInA Γ.K false) dIn := fun rl hx hy po => inR_cases (neg := false) rl hx hy po
theorem v_notIn : V2 Γ (rInA Γ.K true) dNotIn := fun rl hx hy po => inR_cases (neg := true) rl hx hy po
end
section
variable {Γ : Gm} {k : Nat} {X : Cx} {W : WX} {pos : Pos} {a b c : Expr} {fa fb fc : EF}
theorem Bn.u1 (B : Bn Γ k X W) : X.A.units + 1 < cLine := hu_of B.room
theorem Bn.u64 (B : Bn Γ k X W) : X.A.units + 64 < cLine := B.room.units
theorem o_eq (B : Bn Γ k X W) : OpR X (compareOp .Eq) (rEq' Γ.K) := by
  rw [← B.hK]; exact op_eq.or (op_eqD B.u64)
theorem o_ne (B : Bn Γ k X W) : OpR X (compareOp .NotEq) (rNe' Γ.K) := by
  rw [← B.hK]; exact op_ne.or (op_neD B.u64)
theorem o_is : OpR X (compareOp .Is) rIs := op_isN.or op_is_bl
theorem o_isnot : OpR X (compareOp .IsNot) rIsNot := op_notN.or op_isnot_bl
/-- a comparison's operator, its meaning -/
structure CmpS (Γ : Gm) (X : Cx) (op : CmpOp) (g : GF) : Prop where
  ex : ∃ r, OpR X (compareOp op) r ∧ V2 Γ r g
theorem c_eq (B : Bn Γ k X W) : CmpS Γ X .Eq dEq := ⟨_, o_eq B, v_eq⟩
theorem c_ne (B : Bn Γ k X W) : CmpS Γ X .NotEq dNe := ⟨_, o_ne B, v_ne⟩
theorem c_lt (B : Bn Γ k X W) : CmpS Γ X .Lt dLt := ⟨_, op_lt, v_lt⟩
theorem c_le (B : Bn Γ k X W) : CmpS Γ X .LtE dLe := ⟨_, op_le, v_le⟩
theorem c_gt (B : Bn Γ k X W) : CmpS Γ X .Gt dGt := ⟨_, op_gt, v_gt⟩
theorem c_ge (B : Bn Γ k X W) : CmpS Γ X .GtE dGe := ⟨_, op_ge, v_ge⟩
theorem c_is (B : Bn Γ k X W) : CmpS Γ X .Is dIs := ⟨_, o_is, v_is⟩
theorem c_isnot (B : Bn Γ k X W) : CmpS Γ X .IsNot dIsNot := ⟨_, o_isnot, v_isnot⟩
theorem c_in (B : Bn Γ k X W) : CmpS Γ X .In dIn := ⟨_, o_in B.hK B.u1, v_in⟩
theorem c_notIn (B : Bn Γ k X W) : CmpS Γ X .NotIn dNotIn := ⟨_, o_notIn B.hK B.u1, v_notIn⟩
theorem de_cmp1 {op : CmpOp} {g : GF} (cs : CmpS Γ X op g) (ha : PE X a (Can Γ W fa)) (hb : PE X b (Can Γ W fb)) (hm : behindInMarks op b = false := by with_unfolding_all rfl) : PE X (.Compare a [op] [b] pos) (Can Γ W (eB g fa fb)) := by
  obtain ⟨r, ho, v⟩ := cs.ex
  exact de_cmp ho v ha hb hm
theorem dt_cmp1 {op : CmpOp} {g : GF} (cs : CmpS Γ X op g) (ha : PE X a (Can Γ W fa)) (hb : PE X b (Can Γ W fb)) (hm : behindInMarks op b = false := by with_unfolding_all rfl) : PT X (.Compare a [op] [b] pos) (CanT Γ W (fun σ h => toB (eB g fa fb σ h))) := by
  obtain ⟨r, ho, v⟩ := cs.ex
  exact dt_cmp ho v ha hb hm
/-- a op b op' c -/
def eChain (g g' : GF) (a b c : EF) (σ : S) (h : MH) : R D := (a σ h).bind fun x h1 => (b σ h1).bind fun y h2 => (g h2 x y).bind fun z h3 => match z with
  | .bl true => (c σ h3).bind fun w h4 => g' h4 y w
  | .bl false => .ok (.bl false) h3
  | _ => .stk
theorem can_chain {g g' : GF} {r r' : R2} (v : V2 Γ r g) (v' : V2 Γ r' g') {σV : L2.St} {H : Hp} {Q : VK} (hq : Can Γ W (eChain g g' fa fb fc) σV H Q) : tChain r r' (Can Γ W fa) (Can Γ W fb) (Can Γ W fc) σV H Q := by
  obtain ⟨G, ρ, σ, h, rl, st, po⟩ := hq
  refine ⟨G, ρ, σ, h, rl, st, po.bind.mono fun d1 h1 G1 ρ1 H1 e1 rl1 po1 v1 dv1 => ?_⟩
  refine ⟨G1, ρ1, σ, h1, rl1, st.ext e1, po1.bind.mono fun d2 h2 G2 ρ2 H2 e2 rl2 po2 v2 dv2 => ?_⟩
  refine v rl2 (dv1.mono e2.g e2.r) dv2 (po2.bind.mono fun d3 h3 G3 ρ3 H3 e3 rl3 po3 v3 dv3 => ?_)
  cases dv3 <;> first | exact (show False from po3).elim | skip
  rename_i b
  refine ⟨b, rfl, ?_⟩
  cases b with
  | false => exact iteF (po3.now rl3 _ (.bl _))
  | true =>
    refine iteT ⟨G3, ρ3, σ, h3, rl3, ((st.ext e1).ext e2).ext e3, ?_⟩
    have po3 : Post Γ W σV G3 ρ3 H3 ((fc σ h3).bind fun w h4 => g' h4 d2 w) _ := po3
    exact po3.bind.mono fun d4 h4 G4 ρ4 H4 e4 rl4 po4 v4 dv4 => v' rl4 ((dv2.mono e3.g e3.r).mono e4.g e4.r) dv4 po4
theorem de_chain {op op' : CmpOp} {g g' : GF} (cs : CmpS Γ X op g) (cs' : CmpS Γ X op' g') (ha : PE X a (Can Γ W fa)) (hb : PE X b (Can Γ W fb)) (hc : PE X c (Can Γ W fc)) (hm : lastMarks [op, op'] [b, c] = false := by with_unfolding_all rfl) :
    PE X (.Compare a [op, op'] [b, c] pos) (Can Γ W (eChain g g' fa fb fc)) := by
  obtain ⟨r, ho, v⟩ := cs.ex
  obtain ⟨r', ho', v'⟩ := cs'.ex
  exact pe_weak (pe_chain ho ho' ha hb hc hm) fun _ _ _ => can_chain v v'
theorem dt_chain {op op' : CmpOp} {g g' : GF} (cs : CmpS Γ X op g) (cs' : CmpS Γ X op' g') (ha : PE X a (Can Γ W fa)) (hb : PE X b (Can Γ W fb)) (hc : PE X c (Can Γ W fc)) (hm : lastMarks [op, op'] [b, c] = false := by with_unfolding_all rfl) :
    PT X (.Compare a [op, op'] [b, c] pos) (CanT Γ W (fun σ h => toB (eChain g g' fa fb fc σ h))) := by
  obtain ⟨r, ho, v⟩ := cs.ex
  obtain ⟨r', ho', v'⟩ := cs'.ex
  exact pt_weak (pt_chain ho ho' ha hb hc hm) fun _ _ _ => can_toB fun _ => can_chain v v'
end

/-! ### and, or, not, if else -/
def eAnd (a b : EF) (σ : S) (h : MH) : R D := (a σ h).bind fun x h1 => match x with
  | .bl true => b σ h1
  | .bl false => .ok (.bl false) h1
  | _ => .stk
def eOr (a b : EF) (σ : S) (h : MH) : R D := (a σ h).bind fun x h1 => match x with
  | .bl true => .ok (.bl true) h1
  | .bl false => b σ h1
  | _ => .stk
def eNot (a : EF) (σ : S) (h : MH) : R D := (a σ h).bind fun x h1 => match x with
  | .bl b => .ok (.bl (!b)) h1
  | _ => .stk
def fAnd (a b : TF) (σ : S) (h : MH) : R Bool := (a σ h).bind fun x h1 => if x = true then b σ h1 else .ok false h1
def fOr (a b : TF) (σ : S) (h : MH) : R Bool := (a σ h).bind fun x h1 => if x = true then .ok true h1 else b σ h1
def fNot (a : TF) (σ : S) (h : MH) : R Bool := (a σ h).bind fun x h1 => .ok (!x) h1
def eIf (t : TF) (a b : EF) (σ : S) (h : MH) : R D := (t σ h).bind fun x h1 => if x = true then a σ h1 else b σ h1
section
variable {Γ : Gm} {k : Nat} {X : Cx} {W : WX} {pos : Pos} {a b c : Expr} {fa fb : EF} {ta tb : TF} {rest : List Expr}
theorem de_one {op} (h : PE X a (Can Γ W fa)) : PE X (.BoolOp op [a] pos) (Can Γ W fa) := pe_one h
theorem de_and (ha : PE X a (Can Γ W fa)) (hb : PE X (.BoolOp .And (b :: rest) pos) (Can Γ W fb)) : PE X (.BoolOp .And (a :: b :: rest) pos) (Can Γ W (eAnd fa fb)) :=
  pe_weak (pe_and ha hb) fun σV H Q ⟨G, ρ, σ, h, rl, st, po⟩ => ⟨G, ρ, σ, h, rl, st, po.bind.mono fun d1 h1 G1 ρ1 H1 e1 rl1 po1 v1 dv1 => by
    cases dv1 <;> first | exact (show False from po1).elim | skip
    rename_i b
    refine ⟨b, rfl, ?_⟩
    cases b with
    | true => exact iteT ⟨G1, ρ1, σ, h1, rl1, st.ext e1, po1⟩
    | false => exact iteF (po1.now rl1 _ (.bl _))⟩
theorem de_or (ha : PE X a (Can Γ W fa)) (hb : PE X (.BoolOp .Or (b :: rest) pos) (Can Γ W fb)) : PE X (.BoolOp .Or (a :: b :: rest) pos) (Can Γ W (eOr fa fb)) :=
  pe_weak (pe_or ha hb) fun σV H Q ⟨G, ρ, σ, h, rl, st, po⟩ => ⟨G, ρ, σ, h, rl, st, po.bind.mono fun d1 h1 G1 ρ1 H1 e1 rl1 po1 v1 dv1 => by
    cases dv1 <;> first | exact (show False from po1).elim | skip
    rename_i b
    refine ⟨b, rfl, ?_⟩
    cases b with
    | true => exact iteT (po1.now rl1 _ (.bl _))
    | false => exact iteF ⟨G1, ρ1, σ, h1, rl1, st.ext e1, po1⟩⟩
theorem de_not (ha : PE X a (Can Γ W fa)) : PE X (.UnaryOp .Not a pos) (Can Γ W (eNot fa)) :=
  pe_weak (pe_not ha) fun σV H Q ⟨G, ρ, σ, h, rl, st, po⟩ => ⟨G, ρ, σ, h, rl, st, po.bind.mono fun d1 h1 G1 ρ1 H1 e1 rl1 po1 v1 dv1 => by
    cases dv1 <;> first | exact (show False from po1).elim | skip
    exact ⟨_, rfl, po1.now rl1 _ (.bl _)⟩⟩
theorem dw_one (h : PT X a (CanT Γ W ta)) : PW X (.BoolOp .And [a] pos) (CanT Γ W ta) := pw_and1 h
theorem dw_one' (h : PT X a (CanT Γ W ta)) : PW X (.BoolOp .Or [a] pos) (CanT Γ W ta) := pw_or1 h
theorem dw_and (ha : PT X a (CanT Γ W ta)) (hb : PW X (.BoolOp .And (b :: rest) pos) (CanT Γ W tb)) : PW X (.BoolOp .And (a :: b :: rest) pos) (CanT Γ W (fAnd ta tb)) :=
  pw_weak (pw_and ha hb) fun σV H Q ⟨G, ρ, σ, h, rl, st, po⟩ => ⟨G, ρ, σ, h, rl, st, po.bind.mono fun d1 h1 G1 ρ1 H1 e1 rl1 po1 => by
    cases d1 with
    | true => exact iteT ⟨G1, ρ1, σ, h1, rl1, st.ext e1, po1⟩
    | false => exact iteF (po1.now rl1)⟩
theorem dw_or (ha : PT X a (CanT Γ W ta)) (hb : PW X (.BoolOp .Or (b :: rest) pos) (CanT Γ W tb)) : PW X (.BoolOp .Or (a :: b :: rest) pos) (CanT Γ W (fOr ta tb)) :=
  pw_weak (pw_or ha hb) fun σV H Q ⟨G, ρ, σ, h, rl, st, po⟩ => ⟨G, ρ, σ, h, rl, st, po.bind.mono fun d1 h1 G1 ρ1 H1 e1 rl1 po1 => by
    cases d1 with
    | true => exact iteT (po1.now rl1)
    | false => exact iteF ⟨G1, ρ1, σ, h1, rl1, st.ext e1, po1⟩⟩
theorem dt_not (ha : PT X a (CanT Γ W ta)) : PT X (.UnaryOp .Not a pos) (CanT Γ W (fNot ta)) :=
  pt_weak (pt_not ha) fun σV H Q ⟨G, ρ, σ, h, rl, st, po⟩ => ⟨G, ρ, σ, h, rl, st, po.bind.mono fun d1 h1 G1 ρ1 H1 e1 rl1 po1 => po1.now rl1⟩
theorem de_if (hc : PT X c (CanT Γ W ta)) (ha : PE X a (Can Γ W fa)) (hb : PE X b (Can Γ W fb)) : PE X (.IfExp c a b pos) (Can Γ W (eIf ta fa fb)) :=
  pe_weak (pe_ifExp hc ha hb) fun σV H Q ⟨G, ρ, σ, h, rl, st, po⟩ => ⟨G, ρ, σ, h, rl, st, po.bind.mono fun d1 h1 G1 ρ1 H1 e1 rl1 po1 => by
    cases d1 with
    | true => exact iteT ⟨G1, ρ1, σ, h1, rl1, st.ext e1, po1⟩
    | false => exact iteF ⟨G1, ρ1, σ, h1, rl1, st.ext e1, po1⟩⟩
end
end Mi

set_option Elab.async false
set_option linter.all false
set_option maxRecDepth 100000
set_option maxHeartbeats 2000000
/-! Mi3: displays, subscripts, slices, attributes, calls of the text's own defs. -/
namespace Mi
open PySem PySem.Spec PyProof.Rows L2

/-! ### argument lists, displays -/
def aNil (_ : S) (h : MH) : R (List D) := .ok [] h
def aCons (a : EF) (r : AF) (σ : S) (h : MH) : R (List D) := (a σ h).bind fun x h1 => (r σ h1).bind fun xs h2 => .ok (x :: xs) h2
def eTup (a : AF) (σ : S) (h : MH) : R D := (a σ h).bind fun xs h1 => if xs.length ≤ 1000000 then .ok (.tup xs) h1 else .stk
/-- a list that nobody changes any more -/
def eLst (a : AF) (σ : S) (h : MH) : R D := (a σ h).bind fun xs h1 => if xs.length ≤ 1000000 then .ok (.lst xs) h1 else .stk
/-- a list as a cell -/
def eNewL (a : AF) (σ : S) (h : MH) : R D := (a σ h).bind fun xs h1 => if xs.length ≤ 1000000 then .ok (.ref h1.length) (h1 ++ [.lst xs]) else .stk
section
variable {Γ : Gm} {k : Nat} {X : Cx} {W : WX} {pos : Pos} {e : Expr} {es : List Expr} {fe : EF} {fa : AF}
theorem da_nil : PA X [] (CanA Γ W aNil) := pa_weak pa_nil fun σV H Q ⟨G, ρ, σ, h, rl, st, po⟩ => po.now rl [] .nil
theorem da_cons (ha : PE X e (Can Γ W fe)) (hr : PA X es (CanA Γ W fa)) (hs : starEach (e :: es) X.env = (false, eval e X.env) :: starEach es X.env := by rfl) : PA X (e :: es) (CanA Γ W (aCons fe fa)) :=
  pa_weak (pa_cons ha hr hs) fun σV H Q ⟨G, ρ, σ, h, rl, st, po⟩ => ⟨G, ρ, σ, h, rl, st, po.bind.mono fun d1 h1 G1 ρ1 H1 e1 rl1 po1 v1 dv1 =>
    ⟨G1, ρ1, σ, h1, rl1, st.ext e1, po1.bind.mono fun ds h2 G2 ρ2 H2 e2 rl2 po2 vs dvs => po2.now rl2 _ (.cons (dv1.mono e2.g e2.r) dvs)⟩⟩
theorem de_tup {x1} (h : PA X es (CanA Γ W fa)) : PE X (.Tuple es x1 pos) (Can Γ W (eTup fa)) :=
  pe_weak (pe_tup h) fun σV H Q ⟨G, ρ, σ, h, rl, st, po⟩ => ⟨G, ρ, σ, h, rl, st, po.bind.mono fun ds h1 G1 ρ1 H1 e1 rl1 po1 vs dvs => by
    obtain ⟨hz, po1⟩ := Post.cond po1
    exact ⟨by rw [dvs.length]; exact mil hz, fun p hp => po1.fresh rl1 hp fun G' eg e => .tup (.inl (.inl e)) (dvs.mono eg fun _ _ z => z)⟩⟩
theorem de_lst (h : PA X es (CanA Γ W fa)) : PE X (.List es pos) (Can Γ W (eLst fa)) :=
  pe_weak (pe_lst h) fun σV H Q ⟨G, ρ, σ, h, rl, st, po⟩ => ⟨G, ρ, σ, h, rl, st, po.bind.mono fun ds h1 G1 ρ1 H1 e1 rl1 po1 vs dvs => by
    obtain ⟨hz, po1⟩ := Post.cond po1
    exact ⟨by rw [dvs.length]; exact mil hz, fun p hp => po1.fresh rl1 hp fun G' eg e => .lst e (dvs.mono eg fun _ _ z => z)⟩⟩
theorem er_app {ρ : List Addr} {p : Addr} (n : Nat) (a : Addr) (e : ρ[n]? = some a) : (ρ ++ [p])[n]? = some a := by
  rw [List.getElem?_append_left (List.getElem?_eq_some_iff.mp e).1]; exact e
theorem Post.cell {σV : L2.St} {G : Hp} {ρ : List Addr} {H : Hp} {h : MH} {Q : VK} {c : Cell} {p : Addr} {o : HO} (po : Post Γ W σV G ρ H (.ok (.ref h.length) (h ++ [c])) (fun d _ G' ρ' H' => ∀ v, DAt Γ G' ρ' v d → Q v H')) (rl : Rl Γ G ρ h H)
    (hp : H p = none) (new : CellAt Γ G (ρ ++ [p]) (upd H p o) p c) : Q (.ref p) (upd H p o) := by
  obtain ⟨rl1, e1⟩ := rl.alloc hp new
  exact po _ _ _ e1 rl1 _ (.ref (by rw [← rl.len]; simp))
theorem de_newL (h : PA X es (CanA Γ W fa)) : PE X (.List es pos) (Can Γ W (eNewL fa)) :=
  pe_weak (pe_lst h) fun σV H Q ⟨G, ρ, σ, h, rl, st, po⟩ => ⟨G, ρ, σ, h, rl, st, po.bind.mono fun ds h1 G1 ρ1 H1 e1 rl1 po1 vs dvs => by
    obtain ⟨hz, po1⟩ := Post.cond po1
    exact ⟨by rw [dvs.length]; exact mil hz, fun p hp => po1.cell rl1 hp ⟨vs, upd_same, dvs.mono (Same.refl _) er_app⟩⟩⟩
end

/-! ### a[i] -/
def signD (c : Nat) : D := .str ⟨#[c]⟩
def optR {α : Type} (h : MH) : Option α → R α
  | some a => .ok a h
  | none => .stk
def dIx (h : MH) (x y : D) : R D := match x, y with
  | .tup ds, .int i => optR h (atI ds i)
  | .lst ds, .int i => optR h (atI ds i)
  | .scr ds, .int i => optR h (atI ds i)
  | .str s, .int i => if s.length ≤ 1000000 then optR h ((atI s.cps.toList i).map signD) else .stk
  | .dic kds, y => optR h ((keyD y).bind (getK kds))
  | .ref n, y => match h[n]? with
    | some (.lst ds) => match y with
      | .int i => optR h (atI ds i)
      | _ => .stk
    | some (.dic kds) => optR h ((keyD y).bind (getK kds))
    | _ => .stk
  | _, _ => .stk
def rIxD : R2 := fun x y H Q => ∃ a v, x = .ref a ∧ DGet H a y (some v) ∧ Q v H
def rIxA (K : PySem.W.Frag) : R2 := fun x y H Q => rIx K x y H Q ∨ rIxD x y H Q
theorem ix_dict {X : Cx} (hu : X.A.units + 1 < cLine) : IxR X rIxD := by
  intro value slice pins s σ H x y v u Q I rx ry h hs
  obtain ⟨a, z, rfl, g, q⟩ := h
  cases rx
  exact tail_any (dict_typeIs I g) PySem.F.slot_dict_getitem.lookup (d_getItem hu I g ry fun w' s3 I3 rw' => ⟨z, H, I3, rw', q⟩) hs
section
variable {Γ : Gm}
theorem atI_at {G : Hp} {ρ : List Addr} {vs : List V} {ds : List D} {i : Int} {d : D} (h : DsAt Γ G ρ vs ds) (e : atI ds i = some d) : ∃ v, atI vs i = some v ∧ DAt Γ G ρ v d := by
  unfold atI at e ⊢
  rw [h.length]
  cases q : ixN ds.length i with
  | none => rw [q] at e; cases e
  | some j =>
    rw [q] at e
    obtain ⟨v, h1, h2⟩ := h.get (i := j) (d := d) e
    exact ⟨v, h1, h2⟩
theorem optR_post {W : WX} {σV : L2.St} {G : Hp} {ρ : List Addr} {H : Hp} {α : Type} {h : MH} {o : Option α} {P : α → MH → Hp → List Addr → Hp → Prop} (po : Post Γ W σV G ρ H (optR h o) P) (rl : Rl Γ G ρ h H) : ∃ a, o = some a ∧ P a h G ρ H := by
  cases o with
  | some a => exact ⟨a, rfl, Post.now (show Post Γ W σV G ρ H (.ok a h) P from po) rl⟩
  | none => exact (show False from po).elim
theorem v_ix : V2 Γ (rIxA Γ.K) dIx := by
  intro W σV H Q G ρ h x y dx dy rl hx hy po
  unfold dIx at po
  split at po
  · cases hy
    cases hx with
    | tup hq hs =>
      obtain ⟨d, e, p⟩ := optR_post po rl
      obtain ⟨v, e1, hv⟩ := atI_at hs e
      exact .inl (.inr (.inl ⟨_, _, _, v, rfl, rfl, same_t rl.sub hq, e1, p v hv⟩))
  · cases hy
    cases hx with
    | lst hq hs =>
      obtain ⟨d, e, p⟩ := optR_post po rl
      obtain ⟨v, e1, hv⟩ := atI_at hs e
      exact .inl (.inl ⟨_, _, _, v, rfl, rfl, .inl (.inl (rl.sub _ _ hq)), e1, p v hv⟩)
  · cases hy
    cases hx with
    | scr hq hs =>
      obtain ⟨d, e, p⟩ := optR_post po rl
      obtain ⟨v, e1, hv⟩ := atI_at hs e
      exact .inl (.inl ⟨_, _, _, v, rfl, rfl, same_l rl.sub hq, e1, p v hv⟩)
  · cases hy; cases hx
    obtain ⟨hz, po⟩ := Post.cond po
    obtain ⟨d, e, p⟩ := optR_post po rl
    obtain ⟨c, e1, e2⟩ := Option.map_eq_some_iff.mp e
    subst e2
    exact .inl (.inr (.inr ⟨_, _, c, rfl, rfl, mil hz, e1, p _ (.str _)⟩))
  · cases hx with
    | dic hq hs =>
      obtain ⟨d, e, p⟩ := optR_post po rl
      obtain ⟨k, e1, e2⟩ := Option.bind_eq_some_iff.mp e
      have hv := keyD_at hy e1
      subst hv
      rcases hs.val k with ⟨_, z⟩ | ⟨v, d', e3, e4, hd⟩
      · rw [z] at e2; cases e2
      · rw [e4] at e2; cases e2
        exact .inr ⟨_, v, rfl, by rw [← e3]; exact DGet.k (rl.sub _ _ hq), p v hd⟩
  · cases hx with
    | ref hn =>
      split at po
      · rename_i ds hc
        obtain ⟨vs, hq, hs⟩ := rl.cell _ _ _ hc hn
        split at po
        · cases hy
          obtain ⟨d, e, p⟩ := optR_post po rl
          obtain ⟨v, e1, hv⟩ := atI_at hs e
          exact .inl (.inl ⟨_, _, _, v, rfl, rfl, .inl (.inl hq), e1, p v hv⟩)
        · exact po.elim
      · rename_i kds hc
        obtain ⟨kvs, hq, hs⟩ := rl.cell _ _ _ hc hn
        obtain ⟨d, e, p⟩ := optR_post po rl
        obtain ⟨k, e1, e2⟩ := Option.bind_eq_some_iff.mp e
        have hv := keyD_at hy e1
        subst hv
        rcases hs.val k with ⟨_, z⟩ | ⟨v, d', e3, e4, hd⟩
        · rw [z] at e2; cases e2
        · rw [e4] at e2; cases e2
          exact .inr ⟨_, v, rfl, by rw [← e3]; exact DGet.k hq, p v hd⟩
      · exact po.elim
  · exact po.elim
end
/-! ### a[lo:hi] -/
def cutD (ds : List D) (lo hi : Option Int) : List D := (ds.drop (HT.sIx ds.length 0 lo)).take (HT.sIx ds.length ds.length hi - HT.sIx ds.length 0 lo)
def dSl (h : MH) (x : D) (lo hi : Option Int) : R D := match x with
  | .tup ds => .ok (.tup (cutD ds lo hi)) h
  | .lst ds => .ok (.lst (cutD ds lo hi)) h
  | .scr ds => .ok (.lst (cutD ds lo hi)) h
  | .str s => if s.length ≤ 1000000 then .ok (.str (cutS s lo hi)) h else .stk
  | .ref n => match h[n]? with
    | some (.lst ds) => .ok (.lst (cutD ds lo hi)) h
    | _ => .stk
  | _ => .stk
abbrev OF := S → MH → R (Option Int)
def oNo (_ : S) (h : MH) : R (Option Int) := .ok none h
def oInt (a : EF) (σ : S) (h : MH) : R (Option Int) := (a σ h).bind fun x h1 => match x with
  | .int i => .ok (some i) h1
  | _ => .stk
def eSl (a : EF) (lo hi : OF) (σ : S) (h : MH) : R D := (a σ h).bind fun x h1 => (lo σ h1).bind fun l h2 => (hi σ h2).bind fun u h3 => dSl h3 x l u
def CanO (Γ : Gm) (W : WX) (f : OF) : TO := fun σV H Q => ∃ G ρ σ h, Rl Γ G ρ h H ∧ StD Γ G ρ σV σ ∧ Post Γ W σV G ρ H (f σ h) (fun o _ G' ρ' H' => Q o H')
theorem po_weak {X : Cx} {e : Option Expr} {t t' : TO} (h : PO X e t) (w : ∀ σ H Q, t' σ H Q → t σ H Q) : PO X e t' := ⟨fun pins s σ H Q I q => h.run pins s σ H Q I (w σ H Q q)⟩
def rSlD (K : PySem.W.Frag) : V → Option Int → Option Int → Hp → VK → Prop := fun x lo hi H Q => rSlA K x lo hi H Q ∨ rSlL K x lo hi H Q ∨ rSlS x lo hi H Q
section
variable {Γ : Gm} {k : Nat} {X : Cx} {W : WX} {pos p2 : Pos} {a b e : Expr} {fa fb fe : EF} {lo hi : Option Expr} {fl fh : OF}
theorem de_ix (B : Bn Γ k X W) (ha : PE X a (Can Γ W fa)) (hb : PE X b (Can Γ W fb)) (hs : PlainIx b := by intro _ _; rfl) : PE X (.Subscript a b pos) (Can Γ W (eB dIx fa fb)) := by
  have hr : IxR X (rIxA Γ.K) := by
    rw [← B.hK]
    exact ix_seq.or (ix_dict B.u1)
  exact pe_weak (pe_ix hr ha hb hs) fun _ _ _ => can_op v_ix
theorem do_no : PO X none (CanO Γ W oNo) := po_weak po_none fun σV H Q ⟨G, ρ, σ, h, rl, st, po⟩ => po.now rl
theorem do_int (ha : PE X a (Can Γ W fa)) : PO X (some a) (CanO Γ W (oInt fa)) := po_weak (po_some ha) fun σV H Q ⟨G, ρ, σ, h, rl, st, po⟩ => ⟨G, ρ, σ, h, rl, st, po.bind.mono fun d1 h1 G1 ρ1 H1 e1 rl1 po1 v1 dv1 => by
  cases dv1 <;> first | exact (show False from po1).elim | skip
  exact ⟨_, rfl, po1.now rl1⟩⟩
theorem cutV_at {G : Hp} {ρ : List Addr} {vs : List V} {ds : List D} (h : DsAt Γ G ρ vs ds) (lo hi : Option Int) : DsAt Γ G ρ (cutV vs lo hi) (cutD ds lo hi) := by
  unfold cutV cutD
  rw [h.length]
  exact (h.drop _).take _
theorem cutD_whole {ds : List D} {lo hi : Option Int} (h : HT.sIx ds.length 0 lo = 0 ∧ HT.sIx ds.length ds.length hi = ds.length) : cutD ds lo hi = ds := by
  unfold cutD
  rw [h.1, h.2]
  simp
theorem sl_at {σV : L2.St} {G : Hp} {ρ : List Addr} {H : Hp} {h : MH} {x : V} {dx : D} {lo hi : Option Int} {Q : VK} (rl : Rl Γ G ρ h H) (hx : DAt Γ G ρ x dx)
    (po : Post Γ W σV G ρ H (dSl h dx lo hi) (fun d _ G' ρ' H' => ∀ v, DAt Γ G' ρ' v d → Q v H')) : rSlD Γ.K x lo hi H Q := by
  have viaL : ∀ {a : Addr} {vs : List V} {ds : List D}, SqL Γ.K H a vs → DsAt Γ G ρ vs ds → Post Γ W σV G ρ H (.ok (.lst (cutD ds lo hi)) h) (fun d _ G' ρ' H' => ∀ v, DAt Γ G' ρ' v d → Q v H') → rSlD Γ.K (.ref a) lo hi H Q :=
    fun hq hs po => .inr (.inl ⟨_, _, rfl, hq, fun p hp => po.fresh rl hp fun G' eg e => .lst e ((cutV_at hs lo hi).mono eg fun _ _ z => z)⟩)
  unfold dSl at po
  split at po
  · cases hx with
    | tup hq hs =>
      refine .inl ⟨_, _, rfl, same_t rl.sub hq, fun hw => ?_, fun _ p hp => po.fresh rl hp fun G' eg e => .tup (.inl (.inl e)) ((cutV_at hs lo hi).mono eg fun _ _ z => z)⟩
      rw [hs.length] at hw
      rw [cutD_whole hw] at po
      exact po.now rl _ (.tup hq hs)
  · cases hx with
    | lst hq hs => exact viaL (.inl (.inl (rl.sub _ _ hq))) hs po
  · cases hx with
    | scr hq hs => exact viaL (same_l rl.sub hq) hs po
  · cases hx
    obtain ⟨hz, po⟩ := Post.cond po
    exact .inr (.inr ⟨_, rfl, mil hz, po.now rl _ (.str _)⟩)
  · cases hx with
    | ref hn =>
      split at po
      · rename_i ds hc
        obtain ⟨vs, hq, hs⟩ := rl.cell _ _ _ hc hn
        exact viaL (.inl (.inl hq)) hs po
      · exact po.elim
  · exact po.elim
theorem de_slice (B : Bn Γ k X W) (he : PE X e (Can Γ W fe)) (hl : PO X lo (CanO Γ W fl)) (hu : PO X hi (CanO Γ W fh)) : PE X (.Subscript e (.Slice lo hi none p2) pos) (Can Γ W (eSl fe fl fh)) := by
  have hr : SlR X (rSlD Γ.K) := by
    rw [← B.hK]
    exact sl_tupA.or (sl_list.or sl_str)
  exact pe_weak (pe_slice hr he hl hu) fun σV H Q ⟨G, ρ, σ, h, rl, st, po⟩ => ⟨G, ρ, σ, h, rl, st, po.bind.mono fun d1 h1 G1 ρ1 H1 e1 rl1 po1 v1 dv1 =>
    ⟨G1, ρ1, σ, h1, rl1, st.ext e1, po1.bind.mono fun o1 h2 G2 ρ2 H2 e2 rl2 po2 => ⟨G2, ρ2, σ, h2, rl2, (st.ext e1).ext e2, po2.bind.mono fun o2 h3 G3 ρ3 H3 e3 rl3 po3 =>
      sl_at rl3 ((dv1.mono e2.g e2.r).mono e3.g e3.r) po3⟩⟩⟩
/-! ### -a -/
def eNeg (a : EF) (σ : S) (h : MH) : R D := (a σ h).bind fun x h1 => match x with
  | .int i => .ok (.int (-i)) h1
  | _ => .stk
theorem de_neg (ha : PE X a (Can Γ W fa)) : PE X (.UnaryOp .USub a pos) (Can Γ W (eNeg fa)) :=
  pe_weak (pe_un un_neg ha) fun σV H Q ⟨G, ρ, σ, h, rl, st, po⟩ => ⟨G, ρ, σ, h, rl, st, po.bind.mono fun d1 h1 G1 ρ1 H1 e1 rl1 po1 v1 dv1 => by
    cases dv1 <;> first | exact (show False from po1).elim | skip
    exact ⟨_, rfl, po1.now rl1 _ (.int _)⟩⟩
end
/-! ### a.f, a field of an own class's instance -/
structure ClsF (Γ : Gm) (c : Nat) : Prop where
  cl : Cls Γ.K (Γ.cls c)
  nd : (Γ.flds c).Nodup
  no : ∀ f ∈ Γ.flds c, NoAttr Γ.K (Γ.cls c) f
  few : (Γ.flds c).length < 900
/-- the fields of an instance of class c -/
def objD (h : MH) (c : Nat) (x : D) : Option (List D) := match x with
  | .obj c' ds => if c' = c then some ds else none
  | .ref n => match h[n]? with
    | some (.ins c' ds) => if c' = c then some ds else none
    | _ => none
  | _ => none
def eAttr (c i : Nat) (a : EF) (σ : S) (h : MH) : R D := (a σ h).bind fun x h1 => optR h1 ((objD h1 c x).bind fun ds => ds[i]?)
theorem lookup_zip {f : Str} : ∀ {fs : List Str} {vs : List V} {i : Nat} {v : V}, fs.Nodup → fs[i]? = some f → vs[i]? = some v → (fs.zip vs).lookup f = some v
  | [], _, _, _, _, h, _ => by simp at h
  | _ :: _, [], _, _, _, _, h => by simp at h
  | g :: fs, w :: vs, 0, v, nd, h1, h2 => by
    simp at h1 h2
    subst h1; subst h2
    simp [List.zip_cons_cons, List.lookup]
  | g :: fs, w :: vs, i + 1, v, nd, h1, h2 => by
    have hne : f ≠ g := fun e => (List.nodup_cons.mp nd).1 (e ▸ List.mem_of_getElem? (by simpa using h1))
    have e : (f == g) = false := by simpa using hne
    simp only [List.zip_cons_cons, List.lookup, e]
    exact lookup_zip (List.nodup_cons.mp nd).2 (by simpa using h1) (by simpa using h2)
theorem lookup_zip_none {f : Str} : ∀ {fs : List Str} {vs : List V}, f ∉ fs → (fs.zip vs).lookup f = none
  | [], _, _ => by simp [List.zip_nil_left]
  | _ :: _, [], _ => by simp
  | g :: fs, w :: vs, h => by
    have hne : f ≠ g := fun e => h (by simp [e])
    have e : (f == g) = false := by simpa using hne
    simp only [List.zip_cons_cons, List.lookup, e]
    exact lookup_zip_none fun z => h (by simp [z])
section
variable {Γ : Gm} {k : Nat} {X : Cx} {W : WX} {pos : Pos} {e : Expr} {fe : EF} {f : Str}
theorem objD_at {G : Hp} {ρ : List Addr} {h : MH} {H : Hp} {c : Nat} {x : V} {dx : D} {ds : List D} (rl : Rl Γ G ρ h H) (hx : DAt Γ G ρ x dx) (e : objD h c dx = some ds) :
    ∃ a dA vs, x = .ref a ∧ H a = some (.ins (Γ.cls c) dA ((Γ.flds c).zip vs)) ∧ vs.length ≤ (Γ.flds c).length ∧ DsAt Γ G ρ vs ds := by
  unfold objD at e
  split at e
  · rename_i c' es
    by_cases hc : c' = c
    · subst hc
      rw [if_pos rfl] at e
      cases e
      cases hx with
      | obj hq hl hs => exact ⟨_, _, _, rfl, rl.sub _ _ hq, hl, hs⟩
    · rw [if_neg hc] at e; cases e
  · rename_i n
    split at e
    · rename_i c' es hcell
      by_cases hc : c' = c
      · subst hc
        rw [if_pos rfl] at e
        cases e
        cases hx with
        | ref hn =>
          obtain ⟨dA, vs, hq, hl, hs⟩ := rl.cell _ _ _ hcell hn
          exact ⟨_, dA, vs, rfl, hq, hl, hs⟩
      · rw [if_neg hc] at e; cases e
    · cases e
  · cases e
theorem de_attr (B : Bn Γ k X W) {c i : Nat} (hc : ClsF Γ c) (he : PE X e (Can Γ W fe)) (hf : (Γ.flds c)[i]? = some f) (hb : attributeBase e f X.env (eval e X.env) = eval e X.env := by rfl) : PE X (.Attribute e f pos) (Can Γ W (eAttr c i fe)) :=
  pe_weak (pe_fld he hb) fun σV H Q ⟨G, ρ, σ, h, rl, st, po⟩ => ⟨G, ρ, σ, h, rl, st, po.bind.mono fun d1 h1 G1 ρ1 H1 e1 rl1 po1 v1 dv1 => by
    obtain ⟨d, e, p⟩ := optR_post po1 rl1
    obtain ⟨ds, e2, e3⟩ := Option.bind_eq_some_iff.mp e
    obtain ⟨a, dA, vs, rfl, hq, hl, hs⟩ := objD_at rl1 dv1 e2
    obtain ⟨v, e4, hv⟩ := hs.get e3
    exact ⟨a, _, dA, _, v, rfl, hq, by rw [B.hK]; exact hc.cl, by rw [B.hK]; exact hc.no f (List.mem_of_getElem? hf), lookup_zip hc.nd hf e4, p v hv⟩⟩
end

/-! ### calls of the text's own defs -/
/-- the promise that a meaning is -/
def spOf (Γ : Gm) (n : Nat) (m : FF) : Sp := fun vs H Q E => vs.length = n ∧ ∃ G ρ h ds, Rl Γ G ρ h H ∧ DsAt Γ G ρ vs ds ∧
  Post Γ (fun cls d _ H' => E cls d H') [] G ρ H (m ds h) (fun d _ G' ρ' H' => ∀ v, DAt Γ G' ρ' v d → Q v H')
def eCall (m : FF) (a : AF) (σ : S) (h : MH) : R D := (a σ h).bind fun ds h1 => m ds h1
section
variable {Γ : Gm} {k j n : Nat} {X : Cx} {W : WX} {pos p apos : Pos} {e o : Expr} {es : List Expr} {fa : AF} {fo : EF} {m : FF} {x : Str} {f : Addr} {fd : FuncData} {ps : List Str}
theorem Post.wish {W' : WX} {σV σV' : L2.St} {G : Hp} {ρ : List Addr} {H : Hp} {α : Type} {r : R α} {P : α → MH → Hp → List Addr → Hp → Prop} (p : Post Γ W σV G ρ H r P) (hw : ∀ c d H', W c d σV H' → W' c d σV' H') : Post Γ W' σV' G ρ H r P := by
  cases r with
  | ok a h => exact p
  | exc x h => exact fun G' ρ' H' dA e rl xa => hw _ _ _ (p G' ρ' H' dA e rl xa)
  | stk => exact p
theorem sp_call {σV : L2.St} {G : Hp} {ρ : List Addr} {H : Hp} {h : MH} {ds : List D} {vs : List V} {Q : VK} (hn : ds.length = n) (rl : Rl Γ G ρ h H) (hs : DsAt Γ G ρ vs ds)
    (po : Post Γ W σV G ρ H (m ds h) (fun d _ G' ρ' H' => ∀ v, DAt Γ G' ρ' v d → Q v H')) : spOf Γ n m vs H Q (WE W σV) :=
  ⟨by rw [hs.length]; exact hn, G, ρ, h, ds, rl, hs, po.wish fun _ _ _ z => z⟩
/-- how many arguments: the meaning's own test -/
def cnt (n : Nat) (m : FF) (ds : List D) (h : MH) : R D := if ds.length = n then m ds h else .stk
theorem de_call (B : Bn Γ k X W) (F : FnOk X.prog X.w X.K X.mg X.base (L2.CX X.prog X.w) j f fd ps (spOf Γ n (cnt n m))) (hj : j ≤ k) (hm : X.mg x = some (.ref f)) (hk : PySem.W.keepIn X.K (.ref f) = true) (hb : Binds X.K fd ps [])
    (ha : PA X (e :: es) (CanA Γ W fa)) (hg : Gl X x := by rfl) (hdb : (x == ("__debug__" : Str)) = false := by decide) (he : starEach (e :: es) X.env = (false, eval e X.env) :: starEach es X.env := by rfl) (hpl : (backTo pos (starEach es X.env)).any (·.1) = false := by rfl) :
    PE X (.Call (.Name x p) (e :: es) [] pos) (Can Γ W (eCall (cnt n m) fa)) :=
  pe_weak (pe_callS F (B.room.mono hj) hg hm hk hb (fun σ => passAt B.tk σ) ha hdb he hpl) fun σV H Q ⟨G, ρ, σ, h, rl, st, po⟩ => ⟨G, ρ, σ, h, rl, st, po.bind.mono fun ds h1 G1 ρ1 H1 e1 rl1 po1 vs dvs => by
    obtain ⟨hn, po2⟩ := Post.cond po1
    exact sp_call hn rl1 dvs po1⟩
end
end Mi

set_option Elab.async false
set_option linter.all false
set_option maxRecDepth 100000
set_option maxHeartbeats 2000000
/-! Mi4: methods, static methods, properties, new instances; built-in functions by their names. -/
namespace Mi
open PySem PySem.Spec PyProof.Rows L2

section
variable {Γ : Gm} {k j n : Nat} {X : Cx} {W : WX} {pos p apos : Pos} {e o : Expr} {es : List Expr} {fa : AF} {fo : EF} {m : FF} {x mn : Str} {f : Addr} {fd : FuncData} {ps : List Str}
/-! ### o.m(..) -/
def eMeth (c : Nat) (m : FF) (o : EF) (a : AF) (σ : S) (h : MH) : R D := (o σ h).bind fun x h1 => if (objD h1 c x).isSome = true then (a σ h1).bind fun ds h2 => m (x :: ds) h2 else .stk
/-- the reading of a method's call, what is raised wished for at the slots -/
def tMethW (C : Addr) (mn : Str) (sp : Sp) (E : L2.St → XK) (ta : TE) (t : TA) : TE := fun σ H Q => ta σ H fun x H1 => ∃ a dx fs, x = .ref a ∧ H1 a = some (.ins C dx fs) ∧ fs.lookup mn = none ∧ t σ H1 fun vs H2 => sp (x :: vs) H2 Q (E σ)
theorem pe_methW {pl : Sem Bool} {C : Addr} {sp : Sp} {E : L2.St → XK} {ta : TE} {t : TA} (he : PE X o ta) (c : Cls X.K C) (hm : Meth X.K C mn f) (F : FnOk X.prog X.w X.K X.mg X.base (L2.CX X.prog X.w) j f fd ps sp) (hr : Room j X.A) (hb : Binds X.K fd ps [])
    (hx : ∀ σ, PassesAt (L2.CX X.prog X.w) X σ (E σ)) (ha : PA X (e :: es) t) (hst : starEach (e :: es) X.env = (false, eval e X.env) :: starEach es X.env) (hpl : (backTo pos (starEach es X.env)).any (·.1) = false)
    (ht : eval (.Call (.Attribute o mn apos) (e :: es) [] pos) X.env = (do
      let ov ← eval o X.env
      standAt apos.atName
      let (f, first) ← holding [ov] (getMethod ov mn pl)
      callWith pos f first (backTo pos (starEach (e :: es) X.env)) (backToKw pos (keywordEach [] X.env)))) : PE X (.Call (.Attribute o mn apos) (e :: es) [] pos) (tMethW C mn sp E ta t) := by
  refine ⟨fun pins s σ H Q I h => PySem.W.methodCall_KW (pl := pl) (thn (he.run pins s σ H _ I h) fun u s1 ⟨x, H1, I1, rx, a, dx, fs, ex, ea, l, q⟩ => ?_) ht⟩
  subst ex
  obtain rfl : u = Value.ref a := rx
  refine getmeth_ok I1 ea c hm l (PySem.W.callWith_K (first := [.ref a]) (h₀ := X.base) I.ok.mod.kin hm.kp (thn (ha.run pos pins s1 σ H1 _ I1 q) fun us s2 ⟨vs, H2, I2, r, q2⟩ => ⟨I2.kIn, ?_⟩) hst hpl)
  exact run_fnS (us := .ref a :: us) (vs := .ref a :: vs) F hr hb (hx σ) I2 (.cons rfl r) q2
theorem pe_methW0 {pl : Sem Bool} {C : Addr} {sp : Sp} {E : L2.St → XK} {ta : TE} (he : PE X o ta) (c : Cls X.K C) (hm : Meth X.K C mn f) (F : FnOk X.prog X.w X.K X.mg X.base (L2.CX X.prog X.w) j f fd ps sp) (hr : Room j X.A) (hb : Binds X.K fd ps [])
    (hx : ∀ σ, PassesAt (L2.CX X.prog X.w) X σ (E σ))
    (ht : eval (.Call (.Attribute o mn apos) [] [] pos) X.env = (do
      let ov ← eval o X.env
      standAt apos.atName
      let (f, first) ← holding [ov] (getMethod ov mn pl)
      callWith pos f first (backTo pos (starEach [] X.env)) (backToKw pos (keywordEach [] X.env)))) : PE X (.Call (.Attribute o mn apos) [] [] pos) (tMethW C mn sp E ta tNil) := by
  refine ⟨fun pins s σ H Q I h => PySem.W.methodCall_KW (pl := pl) (thn (he.run pins s σ H _ I h) fun u s1 ⟨x, H1, I1, rx, a, dx, fs, ex, ea, l, q⟩ => ?_) ht⟩
  subst ex
  obtain rfl : u = Value.ref a := rx
  exact getmeth_ok I1 ea c hm l (PySem.W.callWith_K0 (first := [.ref a]) I1.kIn hm.kp (run_fnS (us := [.ref a]) (vs := [.ref a]) F hr hb (hx σ) I1 (.cons rfl .nil) q))
theorem can_meth {c : Nat} (nf : mn ∉ Γ.flds c) {σV : L2.St} {H : Hp} {Q : VK} (hq : Can Γ W (eMeth c (cnt n m) fo fa) σV H Q) : tMethW (Γ.cls c) mn (spOf Γ n (cnt n m)) (fun σ => WE W σ) (Can Γ W fo) (CanA Γ W fa) σV H Q := by
  obtain ⟨G, ρ, σ, h, rl, st, po⟩ := hq
  refine ⟨G, ρ, σ, h, rl, st, po.bind.mono fun d1 h1 G1 ρ1 H1 e1 rl1 po1 v1 dv1 => ?_⟩
  obtain ⟨hs, po1⟩ := Post.cond po1
  obtain ⟨ds, hd⟩ := Option.isSome_iff_exists.mp hs
  obtain ⟨a, dA, vs, rfl, hq, hl, _⟩ := objD_at rl1 dv1 hd
  refine ⟨a, dA, _, rfl, hq, lookup_zip_none nf, G1, ρ1, σ, h1, rl1, st.ext e1, po1.bind.mono fun ds2 h2 G2 ρ2 H2 e2 rl2 po2 vs2 dvs2 => ?_⟩
  obtain ⟨hn, _⟩ := Post.cond po2
  exact sp_call hn rl2 (.cons (dv1.mono e2.g e2.r) dvs2) po2
theorem de_meth (B : Bn Γ k X W) {c : Nat} (hc : ClsF Γ c) (hm : Meth Γ.K (Γ.cls c) mn f) (nf : mn ∉ Γ.flds c) (F : FnOk X.prog X.w X.K X.mg X.base (L2.CX X.prog X.w) j f fd ps (spOf Γ n (cnt n m))) (hj : j ≤ k) (hb : Binds X.K fd ps [])
    (ho : PE X o (Can Γ W fo)) (ha : PA X (e :: es) (CanA Γ W fa)) {pl : Sem Bool} (hst : starEach (e :: es) X.env = (false, eval e X.env) :: starEach es X.env := by rfl) (hpl : (backTo pos (starEach es X.env)).any (·.1) = false := by rfl)
    (ht : eval (.Call (.Attribute o mn apos) (e :: es) [] pos) X.env = (do
      let ov ← eval o X.env
      standAt apos.atName
      let (f, first) ← holding [ov] (getMethod ov mn pl)
      callWith pos f first (backTo pos (starEach (e :: es) X.env)) (backToKw pos (keywordEach [] X.env))) := by rfl) : PE X (.Call (.Attribute o mn apos) (e :: es) [] pos) (Can Γ W (eMeth c (cnt n m) fo fa)) :=
  pe_weak (pe_methW (pl := pl) ho (by rw [B.hK]; exact hc.cl) (by rw [B.hK]; exact hm) F (B.room.mono hj) hb (fun σ => passAt B.tk σ) ha hst hpl ht) fun _ _ _ => can_meth nf
theorem de_meth0 (B : Bn Γ k X W) {c : Nat} (hc : ClsF Γ c) (hm : Meth Γ.K (Γ.cls c) mn f) (nf : mn ∉ Γ.flds c) (F : FnOk X.prog X.w X.K X.mg X.base (L2.CX X.prog X.w) j f fd ps (spOf Γ n (cnt n m))) (hj : j ≤ k) (hb : Binds X.K fd ps [])
    (ho : PE X o (Can Γ W fo)) {pl : Sem Bool}
    (ht : eval (.Call (.Attribute o mn apos) [] [] pos) X.env = (do
      let ov ← eval o X.env
      standAt apos.atName
      let (f, first) ← holding [ov] (getMethod ov mn pl)
      callWith pos f first (backTo pos (starEach [] X.env)) (backToKw pos (keywordEach [] X.env))) := by rfl) : PE X (.Call (.Attribute o mn apos) [] [] pos) (Can Γ W (eMeth c (cnt n m) fo aNil)) :=
  pe_weak (pe_methW0 (pl := pl) ho (by rw [B.hK]; exact hc.cl) (by rw [B.hK]; exact hm) F (B.room.mono hj) hb (fun σ => passAt B.tk σ) ht) fun σV H Q hq => by
    obtain ⟨G, ρ, σ, h, rl, st, po⟩ := can_meth nf hq
    refine ⟨G, ρ, σ, h, rl, st, po.mono fun d1 h1 G1 ρ1 H1 e1 rl1 po1 v1 dv1 => ?_⟩
    obtain ⟨a, dx, fs, ex, ea, l, G2, ρ2, σ2, h2, rl2, st2, po2⟩ := po1 v1 dv1
    exact ⟨a, dx, fs, ex, ea, l, po2.now rl2 [] .nil⟩
/-! ### C.m(..), a static method -/
structure StatM (K : PySem.W.Frag) (C : Addr) (m : Str) (f : Addr) : Prop where
  ex : ∃ (mc : Value) (p : Addr) (rest : List Value), PySem.W.typeIn K (.ref C) = some mc ∧ PySem.W.readsIn K C mc = true ∧ PySem.W.findCls K (.ref C) mc m = some (.get (.builtin "staticmethod.__get__") (.ref p) .none (.ref C)) ∧ PySem.W.recIn K p "staticmethod" = some (.ref f :: rest)
  ga : PySem.W.specialIn K (.ref C) "__getattribute__" = some (some (.builtin "type.__getattribute__"))
  kp : PySem.W.keepIn K (.ref f) = true
theorem getstat_ok {C : Addr} {pins : List (Addr × Obj)} {σ : L2.St} {H : Hp} {s : Shared} {A : Around} {E : Value → Shared → Prop} {pl : Sem Bool} {Q : Value × List Value → Shared → Prop} (I : Inv X pins σ H s) (S : StatM X.K C mn f)
    (h : ∀ s', Inv X pins σ H s' → Q (.ref f, []) s') : wpAny (model X.prog X.w) A (getMethod (.ref C) mn pl) Q E s := by
  obtain ⟨mc, p, rest, h1, h2, h3, h4⟩ := S.ex
  obtain ⟨mm, fr⟩ := I.fr
  exact PySem.W.method_of_cls fr I.ok.mod.kin S.ga (PySem.W.cls_sm fr I.ok.mod.kin h1 h2 h3 h4 rfl (h _ (I.tok _)))
def tStatW (sp : Sp) (E : L2.St → XK) (t : TA) : TE := fun σ H Q => t σ H fun vs H1 => sp vs H1 Q (E σ)
theorem de_stat (B : Bn Γ k X W) {C : Addr} {cn : Str} {cp : Pos} (hm : X.mg cn = some (.ref C)) (S : StatM Γ.K C mn f) (F : FnOk X.prog X.w X.K X.mg X.base (L2.CX X.prog X.w) j f fd ps (spOf Γ n (cnt n m))) (hj : j ≤ k) (hb : Binds X.K fd ps [])
    (ha : PA X (e :: es) (CanA Γ W fa)) {pl : Sem Bool} (hg : Gl X cn := by rfl) (hdb : (cn == ("__debug__" : Str)) = false := by decide) (hst : starEach (e :: es) X.env = (false, eval e X.env) :: starEach es X.env := by rfl) (hpl : (backTo pos (starEach es X.env)).any (·.1) = false := by rfl)
    (ht : eval (.Call (.Attribute (.Name cn cp) mn apos) (e :: es) [] pos) X.env = (do
      let ov ← eval (.Name cn cp) X.env
      standAt apos.atName
      let (f, first) ← holding [ov] (getMethod ov mn pl)
      callWith pos f first (backTo pos (starEach (e :: es) X.env)) (backToKw pos (keywordEach [] X.env))) := by rfl) : PE X (.Call (.Attribute (.Name cn cp) mn apos) (e :: es) [] pos) (Can Γ W (eCall (cnt n m) fa)) := by
  have S' : StatM X.K C mn f := by rw [B.hK]; exact S
  have pe : PE X (.Call (.Attribute (.Name cn cp) mn apos) (e :: es) [] pos) (tStatW (spOf Γ n (cnt n m)) (fun σ => WE W σ) (CanA Γ W fa)) := by
    refine ⟨fun pins s σ H Q I h => PySem.W.methodCall_KW (pl := pl) (ld_glob I hg hm ?_ hdb) ht⟩
    refine getstat_ok I S' fun s1 I1 => PySem.W.callWith_K (first := []) (h₀ := X.base) I.ok.mod.kin S'.kp (thn (ha.run pos pins s1 σ H _ I1 h) fun us s2 ⟨vs, H2, I2, r, q2⟩ => ⟨I2.kIn, ?_⟩) hst hpl
    exact run_fnS F (B.room.mono hj) hb (passAt B.tk σ) I2 r q2
  exact pe_weak pe fun σV H Q ⟨G, ρ, σ, h, rl, st, po⟩ => ⟨G, ρ, σ, h, rl, st, po.bind.mono fun ds h1 G1 ρ1 H1 e1 rl1 po1 vs dvs => by
    obtain ⟨hn, _⟩ := Post.cond po1
    exact sp_call hn rl1 dvs po1⟩
/-! ### o.f, a property -/
def noX {α : Type} (r : R α) : R α := match r with
  | .exc _ _ => .stk
  | r => r
def eProp (c : Nat) (m : FF) (o : EF) (σ : S) (h : MH) : R D := (o σ h).bind fun x h1 => if (objD h1 c x).isSome = true then noX (m [x] h1) else .stk
theorem de_prop (B : Bn Γ k X W) {c : Nat} {q : Addr} (hc : ClsF Γ c) (hp : PropOf Γ.K (Γ.cls c) mn q f) (F : FnOk X.prog X.w X.K X.mg X.base (L2.CX X.prog X.w) j f fd ps (spOf Γ 1 (cnt 1 m))) (hj : j + 1 ≤ k) (hb : Binds X.K fd ps [])
    (ho : PE X o (Can Γ W fo)) (hab : attributeBase o mn X.env (eval o X.env) = eval o X.env := by rfl) : PE X (.Attribute o mn pos) (Can Γ W (eProp c (cnt 1 m) fo)) :=
  pe_weak (pe_prop (E := E0) (dvs := []) ho (by rw [B.hK]; exact hc.cl) (by rw [B.hK]; exact hp) F (B.room.mono hj) hb .nil passL hab) fun σV H Q ⟨G, ρ, σ, h, rl, st, po⟩ => ⟨G, ρ, σ, h, rl, st, po.bind.mono fun d1 h1 G1 ρ1 H1 e1 rl1 po1 v1 dv1 => by
    obtain ⟨hs, po1⟩ := Post.cond po1
    obtain ⟨ds, hd⟩ := Option.isSome_iff_exists.mp hs
    obtain ⟨a, dA, vs, rfl, hq, hl, _⟩ := objD_at rl1 dv1 hd
    refine ⟨a, dA, _, rfl, hq, rfl, G1, ρ1, h1, [d1], rl1, .cons dv1 .nil, ?_⟩
    show Post Γ _ [] G1 ρ1 H1 (cnt 1 m [d1] h1) _
    cases hr : cnt 1 m [d1] h1 with
    | ok a h' => rw [hr] at po1; exact po1
    | exc x h' => rw [hr] at po1; exact (show False from po1).elim
    | stk => rw [hr] at po1; exact (show False from po1).elim⟩
end

/-! ### C(..): a new instance -/
def eMake (c : Nat) (m : FF) (a : AF) (σ : S) (h : MH) : R D := (a σ h).bind fun ds h1 => (m (.ref h1.length :: ds) (h1 ++ [.ins c []])).bind fun r h2 => match r with
  | .non => .ok (.ref h1.length) h2
  | _ => .stk
section
variable {Γ : Gm} {k j n : Nat} {X : Cx} {W : WX} {pos p apos : Pos} {e : Expr} {es : List Expr} {fa : AF} {m : FF} {x : Str} {f C : Addr} {fd : FuncData} {ps : List Str}
def tMakeW (C : Addr) (sp : Sp) (dvs : List V) (E : L2.St → XK) (t : TA) : TE := fun σ H Q => t σ H fun vs H1 => ∀ x dx, H1 x = none → H1 dx = none → dx ≠ x →
  sp (.ref x :: (vs ++ dvs)) (upd (upd H1 dx (.own x)) x (.ins C dx [])) (fun v H2 => v = .non ∧ Q (.ref x) H2) (E σ)
theorem run_makeW {pins : List (Addr × Obj)} {σ : L2.St} {H : Hp} {s : Shared} {Q : VK} {us ds : List Value} {vs dvs : List V} {sp : Sp} {E : XK} (M : Mk X.K C f) (F : FnOk X.prog X.w X.K X.mg X.base (L2.CX X.prog X.w) j f fd ps sp) (hr : Room (j + 1) X.A) (hb : Binds X.K fd ps ds) (hd : Vals dvs ds)
    (hx : PassesAt (L2.CX X.prog X.w) X σ E) (I : Inv X pins σ H s) (r : Vals vs us)
    (h : ∀ x dx, H x = none → H dx = none → dx ≠ x → sp (.ref x :: (vs ++ dvs)) (upd (upd H dx (.own x)) x (.ins C dx [])) (fun v H2 => v = .non ∧ Q (.ref x) H2) E) :
    wpAny (model X.prog X.w) X.A (call (.ref C) us) (EP X pins σ Q) X.xe s := by
  have hq := h (s.heap.objs.size + 1) s.heap.objs.size (I.hok.fresh (Nat.le_succ _)) (I.hok.fresh (Nat.le_refl _)) (Nat.ne_of_lt (Nat.lt_succ_self _))
  have I2 := Inv.made (C := C) I
  have r2 : Vals (V.ref (s.heap.objs.size + 1) :: (vs ++ dvs)) (Value.ref (s.heap.objs.size + 1) :: (us ++ ds)) := .cons rfl (r.append hd)
  have hl : (Value.ref (s.heap.objs.size + 1) :: us ++ ds).length = ps.length := (r2.length.symm.trans (F.len _ _ _ _ hq))
  refine wpAny_call (make_map (f := f) I.kIn M.makes M.init (beq_iff_eq.mp M.fn) (codeAny_mono (F.run _ X.stack _ _ ⟨Value.ref (s.heap.objs.size + 1) :: us, []⟩ (Value.ref (s.heap.objs.size + 1) :: (us ++ ds)) _ _ E (hr.make C us [])
    (I2.env0.make C us []) (hb _ (Value.ref (s.heap.objs.size + 1) :: us) I2.kIn hl) r2 hq) fun r s' hq' => ?_))
  cases r with
  | error er => exact hx pins _ _ er s' I2 hq'
  | ok fl =>
    cases fl with
    | ret u =>
      obtain ⟨v, H', I3, rv, ev, q3⟩ := I2.after hq'
      subst ev
      exact ⟨rv, V.ref (s.heap.objs.size + 1), H', I3, rfl, q3⟩
    | next => exact False.elim hq'
    | brk => exact False.elim hq'
    | cont => exact False.elim hq'
theorem pe_makeW {ds : List Value} {dvs : List V} {sp : Sp} {E : L2.St → XK} {t : TA} (M : Mk X.K C f) (F : FnOk X.prog X.w X.K X.mg X.base (L2.CX X.prog X.w) j f fd ps sp) (hr : Room (j + 1) X.A) (hg : Gl X x) (hm : X.mg x = some (.ref C)) (hb : Binds X.K fd ps ds) (hd : Vals dvs ds)
    (hx : ∀ σ, PassesAt (L2.CX X.prog X.w) X σ (E σ)) (ha : PA X (e :: es) t) (hdb : (x == ("__debug__" : Str)) = false) (he : starEach (e :: es) X.env = (false, eval e X.env) :: starEach es X.env) (hpl : (backTo pos (starEach es X.env)).any (·.1) = false) :
    PE X (.Call (.Name x p) (e :: es) [] pos) (tMakeW C sp dvs E t) :=
  ⟨fun pins s σ H Q I h => wpAny_Call_Name_kw (ld_glob I hg hm (PySem.W.callWith_K (h₀ := X.base) I.ok.mod.kin M.kp (thn (ha.run pos pins s σ H _ I h) fun us s1 ⟨vs, H1, I1, r, q⟩ => ⟨I1.kIn, run_makeW M F hr hb hd (hx σ) I1 r q⟩) he hpl) hdb)⟩
theorem pe_makeW0 {ds : List Value} {dvs : List V} {sp : Sp} {E : L2.St → XK} (M : Mk X.K C f) (F : FnOk X.prog X.w X.K X.mg X.base (L2.CX X.prog X.w) j f fd ps sp) (hr : Room (j + 1) X.A) (hg : Gl X x) (hm : X.mg x = some (.ref C)) (hb : Binds X.K fd ps ds) (hd : Vals dvs ds)
    (hx : ∀ σ, PassesAt (L2.CX X.prog X.w) X σ (E σ)) (hdb : (x == ("__debug__" : Str)) = false) : PE X (.Call (.Name x p) [] [] pos) (tMakeW C sp dvs E tNil) :=
  ⟨fun pins s σ H Q I h => wpAny_Call_Name_kw (ld_glob I hg hm (PySem.W.callWith_K0 I.kIn M.kp (run_makeW (us := []) M F hr hb hd (hx σ) I .nil h)) hdb)⟩
theorem ins_nil {Γ : Gm} {c : Nat} {C dx : Addr} : HO.ins C dx [] = HO.ins C dx ((Γ.flds c).zip ([] : List V)) := by rw [List.zip_nil_right]
theorem can_make {c : Nat} {σV : L2.St} {H : Hp} {Q : VK} (hq : Can Γ W (eMake c (cnt n m) fa) σV H Q) : tMakeW (Γ.cls c) (spOf Γ n (cnt n m)) [] (fun σ => WE W σ) (CanA Γ W fa) σV H Q := by
  obtain ⟨G, ρ, σ, h, rl, st, po⟩ := hq
  refine ⟨G, ρ, σ, h, rl, st, po.bind.mono fun ds h1 G1 ρ1 H1 e1 rl1 po1 vs dvs x dx hx hdx hne => ?_⟩
  rw [List.append_nil]
  obtain ⟨rl2, e2⟩ := rl1.junk (o := .own x) hdx
  have hx2 : upd H1 dx (.own x) x = none := by rw [upd_ne (Ne.symm hne)]; exact hx
  obtain ⟨rl3, e3⟩ := rl2.alloc (c := .ins c []) (o := .ins (Γ.cls c) dx []) hx2 ⟨dx, [], by rw [upd_same, List.zip_nil_right], Nat.zero_le _, .nil⟩
  have po2 := (po1.ext (e2.trans e3)).bind
  have hl : ρ1.length = h1.length := rl1.len
  have dself : DAt Γ G1 (ρ1 ++ [x]) (.ref x) (.ref h1.length) := .ref (by rw [← hl]; simp)
  by_cases hn : (D.ref h1.length :: ds).length = n
  · refine sp_call (W := W) (σV := σV) hn rl3 (.cons dself (dvs.mono (Same.refl _) er_app)) (po2.mono fun r h4 G4 ρ4 H4 e4 rl4 po4 v dv => ?_)
    cases dv <;> first | exact (show False from po4).elim | skip
    exact ⟨rfl, po4.now rl4 _ (dself.mono e4.g e4.r)⟩
  · unfold cnt at po2
    rw [if_neg hn] at po2
    exact (show False from po2).elim
theorem de_make (B : Bn Γ k X W) {c : Nat} (hC : Γ.cls c = C) (M : Mk Γ.K C f) (F : FnOk X.prog X.w X.K X.mg X.base (L2.CX X.prog X.w) j f fd ps (spOf Γ n (cnt n m))) (hj : j + 1 ≤ k) (hm : X.mg x = some (.ref C)) (hb : Binds X.K fd ps [])
    (ha : PA X (e :: es) (CanA Γ W fa)) (hg : Gl X x := by rfl) (hdb : (x == ("__debug__" : Str)) = false := by decide) (he : starEach (e :: es) X.env = (false, eval e X.env) :: starEach es X.env := by rfl) (hpl : (backTo pos (starEach es X.env)).any (·.1) = false := by rfl) :
    PE X (.Call (.Name x p) (e :: es) [] pos) (Can Γ W (eMake c (cnt n m) fa)) := by
  subst hC
  exact pe_weak (pe_makeW (by rw [B.hK]; exact M) F (B.room.mono hj) hg hm hb .nil (fun σ => passAt B.tk σ) ha hdb he hpl) fun _ _ _ => can_make
end
/-! ### an instance that stays as its __init__ left it -/
mutual
def below (n : Nat) : D → Bool
  | .ref m => decide (m < n)
  | .tup ds => belows n ds
  | .lst ds => belows n ds
  | .scr ds => belows n ds
  | .dic kds => belowK n kds
  | .obj _ ds => belows n ds
  | _ => true
def belows (n : Nat) : List D → Bool
  | [] => true
  | d :: ds => below n d && belows n ds
def belowK (n : Nat) : List (Key × D) → Bool
  | [] => true
  | (_, d) :: ds => below n d && belowK n ds
end
section
variable {Γ : Gm} {G G' : Hp} {ρ ρ' : List Addr}
mutual
theorem below_of : ∀ {v : V} {d : D}, DAt Γ G ρ v d → below ρ.length d = true
  | _, _, .non => by simp [below]
  | _, _, .bl b => by simp [below]
  | _, _, .int i => by simp [below]
  | _, _, .str x => by simp [below]
  | _, _, .tup h hs => by rw [below]; exact belows_of hs
  | _, _, .lst h hs => by rw [below]; exact belows_of hs
  | _, _, .scr h hs => by rw [below]; exact belows_of hs
  | _, _, .dic h hs => by rw [below]; exact belowK_of hs
  | _, _, .obj h hl hs => by rw [below]; exact belows_of hs
  | _, _, .ref h => by rw [below]; exact decide_eq_true (List.getElem?_eq_some_iff.mp h).1
theorem belows_of : ∀ {vs : List V} {ds : List D}, DsAt Γ G ρ vs ds → belows ρ.length ds = true
  | _, _, .nil => by simp [belows]
  | _, _, .cons h hs => by rw [belows, below_of h, belows_of hs]; rfl
theorem belowK_of : ∀ {kvs : List (Key × V)} {kds : List (Key × D)}, KvAt Γ G ρ kvs kds → belowK ρ.length kds = true
  | _, _, .nil => by simp [belowK]
  | _, _, .cons h hs => by rw [belowK, below_of h, belowK_of hs]; rfl
end
mutual
/-- the places of the refs that are in use are enough -/
theorem DAt.back (n : Nat) (er : ∀ (m : Nat) (a : Addr), m < n → ρ'[m]? = some a → ρ[m]? = some a) : ∀ {v : V} {d : D}, DAt Γ G ρ' v d → below n d = true → DAt Γ G ρ v d
  | _, _, .non, _ => .non
  | _, _, .bl b, _ => .bl b
  | _, _, .int i, _ => .int i
  | _, _, .str x, _ => .str x
  | _, _, .tup h hs, e => .tup h (DsAt.back n er hs (by rw [below] at e; exact e))
  | _, _, .lst h hs, e => .lst h (DsAt.back n er hs (by rw [below] at e; exact e))
  | _, _, .scr h hs, e => .scr h (DsAt.back n er hs (by rw [below] at e; exact e))
  | _, _, .dic h hs, e => .dic h (KvAt.back n er hs (by rw [below] at e; exact e))
  | _, _, .obj h hl hs, e => .obj h hl (DsAt.back n er hs (by rw [below] at e; exact e))
  | _, _, .ref h, e => .ref (er _ _ (by rw [below] at e; exact of_decide_eq_true e) h)
theorem DsAt.back (n : Nat) (er : ∀ (m : Nat) (a : Addr), m < n → ρ'[m]? = some a → ρ[m]? = some a) : ∀ {vs : List V} {ds : List D}, DsAt Γ G ρ' vs ds → belows n ds = true → DsAt Γ G ρ vs ds
  | _, _, .nil, _ => .nil
  | _, _, .cons h hs, e => by
    rw [belows, Bool.and_eq_true] at e
    exact .cons (DAt.back n er h e.1) (DsAt.back n er hs e.2)
theorem KvAt.back (n : Nat) (er : ∀ (m : Nat) (a : Addr), m < n → ρ'[m]? = some a → ρ[m]? = some a) : ∀ {kvs : List (Key × V)} {kds : List (Key × D)}, KvAt Γ G ρ' kvs kds → belowK n kds = true → KvAt Γ G ρ kvs kds
  | _, _, .nil, _ => .nil
  | _, _, .cons h hs, e => by
    rw [belowK, Bool.and_eq_true] at e
    exact .cons (DAt.back n er h e.1) (KvAt.back n er hs e.2)
end
def belowC (n : Nat) : Cell → Bool
  | .lst ds => belows n ds
  | .dic kds => belowK n kds
  | .ins _ ds => belows n ds
theorem CellAt.below {H : Hp} {a : Addr} {c : Cell} (x : CellAt Γ G ρ H a c) : belowC ρ.length c = true := by
  cases c with
  | lst ds => obtain ⟨vs, _, q⟩ := x; exact belows_of q
  | dic kds => obtain ⟨vs, _, q⟩ := x; exact belowK_of q
  | ins c ds => obtain ⟨dx, vs, _, _, q⟩ := x; exact belows_of q
theorem CellAt.back {H : Hp} {a : Addr} {c : Cell} (n : Nat) (er : ∀ (m : Nat) (a : Addr), m < n → ρ'[m]? = some a → ρ[m]? = some a) (x : CellAt Γ G ρ' H a c) (b : belowC n c = true) : CellAt Γ G ρ H a c := by
  cases c with
  | lst ds => obtain ⟨vs, e, q⟩ := x; exact ⟨vs, e, q.back n er b⟩
  | dic kds => obtain ⟨vs, e, q⟩ := x; exact ⟨vs, e, q.back n er b⟩
  | ins c ds => obtain ⟨dx, vs, e, l, q⟩ := x; exact ⟨dx, vs, e, l, q.back n er b⟩
end
open Classical in
noncomputable def frzMk (c : Nat) (h1 : MH) (r : R D) : R D := r.bind fun d h2 => match d with
  | .non => match h2.getLast? with
    | some (.ins c' ds) => if c' = c ∧ h2 = h1 ++ [.ins c ds] ∧ belows h1.length ds = true then .ok (.obj c ds) h1 else .stk
    | _ => .stk
  | _ => .stk
noncomputable def eMakeF (c : Nat) (m : FF) (a : AF) (σ : S) (h : MH) : R D := (a σ h).bind fun ds h1 => frzMk c h1 (m (.ref h1.length :: ds) (h1 ++ [.ins c []]))
section
variable {Γ : Gm} {k j n : Nat} {X : Cx} {W : WX} {pos p apos : Pos} {e : Expr} {es : List Expr} {fa : AF} {m : FF} {x : Str} {f C : Addr} {fd : FuncData} {ps : List Str}
theorem can_makeF {c : Nat} {σV : L2.St} {H : Hp} {Q : VK} (hq : Can Γ W (eMakeF c (cnt n m) fa) σV H Q) : tMakeW (Γ.cls c) (spOf Γ n (cnt n m)) [] (fun σ => WE W σ) (CanA Γ W fa) σV H Q := by
  obtain ⟨G, ρ, σ, h, rl, st, po⟩ := hq
  refine ⟨G, ρ, σ, h, rl, st, po.bind.mono fun ds h1 G1 ρ1 H1 e1 rl1 po1 vs dvs x dx hx hdx hne => ?_⟩
  rw [List.append_nil]
  obtain ⟨rl2, e2⟩ := rl1.junk (o := .own x) hdx
  have hx2 : upd H1 dx (.own x) x = none := by rw [upd_ne (Ne.symm hne)]; exact hx
  obtain ⟨rl3, e3⟩ := rl2.alloc (c := .ins c []) (o := .ins (Γ.cls c) dx []) hx2 ⟨dx, [], by rw [upd_same, List.zip_nil_right], Nat.zero_le _, .nil⟩
  have hl : ρ1.length = h1.length := rl1.len
  have dself : DAt Γ G1 (ρ1 ++ [x]) (.ref x) (.ref h1.length) := .ref (by rw [← hl]; simp)
  have po2 : Post Γ W σV G1 ρ1 H1 (cnt n m (.ref h1.length :: ds) (h1 ++ [.ins c []])) _ := Post.bind (show Post Γ W σV G1 ρ1 H1 (frzMk c h1 _) _ from po1)
  by_cases hn : (D.ref h1.length :: ds).length = n
  · refine sp_call (W := W) (σV := σV) hn rl3 (.cons dself (dvs.mono (Same.refl _) er_app)) ?_
    have po3 := po2.ext (e2.trans e3)
    -- the end, seen from before the instance
    cases hr : cnt n m (.ref h1.length :: ds) (h1 ++ [.ins c []]) with
    | stk => rw [hr] at po3; exact (show False from po3).elim
    | exc xx hh => rw [hr] at po3; exact po3
    | ok d h4 =>
      rw [hr] at po2
      intro G4 ρ4 H4 e4 rl4 v dv
      have po4 := po2 G4 ρ4 H4 ((e2.trans e3).trans e4) rl4
      cases dv <;> first | exact (show False from po4).elim | skip
      refine ⟨rfl, ?_⟩
      cases hg : h4.getLast? with
      | none => rw [hg] at po4; exact (show False from po4).elim
      | some cell =>
        rw [hg] at po4
        cases cell with
        | lst _ => exact (show False from po4).elim
        | dic _ => exact (show False from po4).elim
        | ins c' fs =>
          dsimp only at po4
          have hcond : c' = c ∧ h4 = h1 ++ [Cell.ins c fs] ∧ belows h1.length fs = true := by
            refine Classical.byContradiction fun hno => ?_
            rw [if_neg hno] at po4
            exact po4
          obtain ⟨hc, h4e, hb⟩ := hcond
          subst hc
          subst h4e
          -- the instance's cell
          have hlen4 : ρ4.length = h1.length + 1 := by rw [rl4.len]; simp
          have hx4 : ρ4[h1.length]? = some x := e4.r _ _ (by rw [← hl]; simp)
          obtain ⟨dA, ws, hH4, hwl, hws⟩ := rl4.cell h1.length (.ins c' fs) x (by simp) hx4
          have er1 : ∀ (m : Nat) (a : Addr), ρ1[m]? = some a → ρ4[m]? = some a := fun m a q => e4.r m a (er_app m a q)
          have back : ∀ (m : Nat) (a : Addr), m < h1.length → ρ4[m]? = some a → ρ1[m]? = some a := fun m a hm q => by
            have hm' : m < ρ1.length := by rw [hl]; exact hm
            have z := er1 m ρ1[m] (by simp [hm'])
            rw [z] at q
            cases q
            simp [hm']
          have gx : G4 x = none := rl4.new x (List.mem_iff_getElem?.mpr ⟨_, hx4⟩)
          have sg := same_upd (o := .ins (Γ.cls c') dA ((Γ.flds c').zip ws)) gx
          have xn : x ∉ ρ1 := rl1.notIn hx
          have cells1 : ∀ (m : Nat) (cc : Cell) (a : Addr), h1[m]? = some cc → ρ1[m]? = some a → CellAt Γ (upd G4 x (.ins (Γ.cls c') dA ((Γ.flds c').zip ws))) ρ1 H4 a cc := fun m cc a q1 q2 => by
            have hm : m < h1.length := (List.getElem?_eq_some_iff.mp q1).1
            have c4 := rl4.cell m cc a (by rw [List.getElem?_append_left hm]; exact q1) (er1 m a q2)
            have b1 := (rl1.cell m cc a q1 q2).below
            rw [hl] at b1
            exact (c4.back h1.length back b1).mono sg (fun _ _ z => z) fun _ z => z
          have rl5 : Rl Γ (upd G4 x (.ins (Γ.cls c') dA ((Γ.flds c').zip ws))) ρ1 h1 H4 := by
            refine ⟨fun a o q => ?_, hl, rl1.nd, fun a ha => ?_, cells1⟩
            · by_cases hb : a = x
              · subst hb; rw [upd_same] at q; cases q; exact hH4
              · rw [upd_ne hb] at q; exact rl4.sub a o q
            · have hne2 : a ≠ x := fun z => by subst z; exact xn ha
              rw [upd_ne hne2]
              exact rl4.new a (by
                obtain ⟨m, hm⟩ := List.mem_iff_getElem?.mp ha
                exact List.mem_iff_getElem?.mpr ⟨m, er1 m a hm⟩)
          have e14 := (e2.trans e3).trans e4
          have e15 : Ext G1 ρ1 H1 (upd G4 x (.ins (Γ.cls c') dA ((Γ.flds c').zip ws))) ρ1 H4 := by
            refine ⟨e14.g.trans sg, fun _ _ z => z, e14.off, e14.st, fun a o q => ?_, fun _ z => .inl z⟩
            by_cases hb : a = x
            · subst hb; exact .inr hx
            · rw [upd_ne hb] at q; exact e14.gn a o q
          -- told once more, from before
          have po5 : Post Γ W σV G1 ρ1 H1 (.ok (.obj c' fs) h1) (fun d _ G' ρ' H' => ∀ v, DAt Γ G' ρ' v d → Q v H') := by
            have q : frzMk c' h1 (cnt n m (.ref h1.length :: ds) (h1 ++ [.ins c' []])) = .ok (.obj c' fs) h1 := by
              rw [hr]
              show (match (h1 ++ [Cell.ins c' fs]).getLast? with | some (.ins c'' es) => _ | _ => _) = _
              rw [hg]
              exact if_pos ⟨rfl, rfl, hb⟩
            rw [← q]
            exact po1
          exact po5 _ _ _ e15 rl5 _ (.obj upd_same hwl ((hws.back h1.length back hb).mono sg fun _ _ z => z))
  · unfold cnt at po2
    rw [if_neg hn] at po2
    exact (show False from po2).elim
theorem de_makeF (B : Bn Γ k X W) {c : Nat} (hC : Γ.cls c = C) (M : Mk Γ.K C f) (F : FnOk X.prog X.w X.K X.mg X.base (L2.CX X.prog X.w) j f fd ps (spOf Γ n (cnt n m))) (hj : j + 1 ≤ k) (hm : X.mg x = some (.ref C)) (hb : Binds X.K fd ps [])
    (ha : PA X (e :: es) (CanA Γ W fa)) (hg : Gl X x := by rfl) (hdb : (x == ("__debug__" : Str)) = false := by decide) (he : starEach (e :: es) X.env = (false, eval e X.env) :: starEach es X.env := by rfl) (hpl : (backTo pos (starEach es X.env)).any (·.1) = false := by rfl) :
    PE X (.Call (.Name x p) (e :: es) [] pos) (Can Γ W (eMakeF c (cnt n m) fa)) := by
  subst hC
  exact pe_weak (pe_makeW (by rw [B.hK]; exact M) F (B.room.mono hj) hg hm hb .nil (fun σ => passAt B.tk σ) ha hdb he hpl) fun _ _ _ => can_makeF
end
end Mi

set_option Elab.async false
set_option linter.all false
set_option maxRecDepth 100000
set_option maxHeartbeats 2000000
/-! Mi5: built-in functions and classes, called by their names. -/
namespace Mi
open PySem PySem.Spec PyProof.Rows L2

abbrev GA := MH → List D → R D
/-- r serves g -/
def VF (Γ : Gm) (r : List V → Hp → VK → Prop) (g : GA) : Prop := ∀ {W : WX} {σV : L2.St} {H : Hp} {Q : VK} {G : Hp} {ρ : List Addr} {h : MH} {vs : List V} {ds : List D}, Rl Γ G ρ h H → DsAt Γ G ρ vs ds →
  Post Γ W σV G ρ H (g h ds) (fun d _ G' ρ' H' => ∀ v, DAt Γ G' ρ' v d → Q v H') → r vs H Q
def eFun (g : GA) (a : AF) (σ : S) (h : MH) : R D := (a σ h).bind fun ds h1 => g h1 ds
section
variable {Γ : Gm} {k : Nat} {X : Cx} {W : WX} {pos p : Pos} {e : Expr} {es : List Expr} {fa : AF} {g : GA} {r : List V → Hp → VK → Prop} {x : Str} {id T : String}
theorem can_fun (v : VF Γ r g) {σV : L2.St} {H : Hp} {Q : VK} (hq : Can Γ W (eFun g fa) σV H Q) : tCB r (CanA Γ W fa) σV H Q := by
  obtain ⟨G, ρ, σ, h, rl, st, po⟩ := hq
  exact ⟨G, ρ, σ, h, rl, st, po.bind.mono fun ds h1 G1 ρ1 H1 e1 rl1 po1 vs dvs => v rl1 dvs po1⟩
/-- a built-in function; a built-in class -/
theorem de_fun (hc : CallR X (.builtin id) r) (v : VF Γ r g) (hm : X.mg x = none) (hv : bootBuiltins x = some (.builtin id)) (ha : PA X (e :: es) (CanA Γ W fa)) (hg : Gl X x := by rfl) (hn : x ≠ "__name__" := by decide) (hdb : (x == ("__debug__" : Str)) = false := by decide)
    (he : starEach (e :: es) X.env = (false, eval e X.env) :: starEach es X.env := by rfl) (hpl : (backTo pos (starEach es X.env)).any (·.1) = false := by rfl) : PE X (.Call (.Name x p) (e :: es) [] pos) (Can Γ W (eFun g fa)) :=
  pe_weak (pe_callB hc hg hm hv ha hn hdb he hpl) fun _ _ _ => can_fun v
theorem de_cls (hc : CallR X (.type T) r) (v : VF Γ r g) (hm : X.mg x = none) (hv : bootBuiltins x = some (.type T)) (ha : PA X (e :: es) (CanA Γ W fa)) (hg : Gl X x := by rfl) (hn : x ≠ "__name__" := by decide) (hdb : (x == ("__debug__" : Str)) = false := by decide)
    (he : starEach (e :: es) X.env = (false, eval e X.env) :: starEach es X.env := by rfl) (hpl : (backTo pos (starEach es X.env)).any (·.1) = false := by rfl) : PE X (.Call (.Name x p) (e :: es) [] pos) (Can Γ W (eFun g fa)) :=
  pe_weak (pe_callTy hc hg hm hv ha hn hdb he hpl) fun _ _ _ => can_fun v
end
/-! ### len, sum, max, min, abs, int, str -/
def dLen (h : MH) (x : D) : R D := match x with
  | .tup ds => .ok (.int ds.length) h
  | .lst ds => .ok (.int ds.length) h
  | .scr ds => .ok (.int ds.length) h
  | .str s => if s.length ≤ 1000000 then .ok (.int s.length) h else .stk
  | .ref n => match h[n]? with
    | some (.lst ds) => .ok (.int ds.length) h
    | _ => .stk
  | _ => .stk
def gLen (h : MH) (ds : List D) : R D := match ds with
  | [x] => dLen h x
  | _ => .stk
def intsD : List D → Option (List Int)
  | [] => some []
  | .int i :: ds => (intsD ds).map fun is => i :: is
  | _ :: _ => none
def gSum (h : MH) (ds : List D) : R D := match ds with
  | [.lst xs] => match intsD xs with
    | some is => .ok (.int is.sum) h
    | none => .stk
  | _ => .stk
def gMax (h : MH) (ds : List D) : R D := match ds with
  | [.int i, .int j] => .ok (.int (if j > i then j else i)) h
  | _ => .stk
def gMin (h : MH) (ds : List D) : R D := match ds with
  | [.int i, .int j] => .ok (.int (if j < i then j else i)) h
  | _ => .stk
def gAbs (h : MH) (ds : List D) : R D := match ds with
  | [.int i] => .ok (.int (if i < 0 then -i else i)) h
  | _ => .stk
def gInt (h : MH) (ds : List D) : R D := match ds with
  | [.int i] => .ok (.int i) h
  | [.bl b] => .ok (.int (if b then 1 else 0)) h
  | [.str s] => match PySem.intText? s with
    | some n => if s.length ≤ 640 then .ok (.int n) h else .stk
    | none => .stk
  | _ => .stk
def gStr (h : MH) (ds : List D) : R D := match ds with
  | [.int i] => if i.natAbs.log2 < 1920 then .ok (.str (toString i)) h else .stk
  | _ => .stk
def gTuple (h : MH) (ds : List D) : R D := match ds with
  | [.tup xs] => .ok (.tup xs) h
  | [.lst xs] => .ok (.tup xs) h
  | [.ref n] => match h[n]? with
    | some (.lst xs) => .ok (.tup xs) h
    | _ => .stk
  | _ => .stk
def keyOfD : Key → D
  | .inl i => .int i
  | .inr x => .str x
def gList (h : MH) (ds : List D) : R D := match ds with
  | [.tup xs] => .ok (.lst xs) h
  | [.lst xs] => .ok (.lst xs) h
  | [.dic kds] => .ok (.lst (kds.map fun kd => keyOfD kd.1)) h
  | [.ref n] => match h[n]? with
    | some (.lst xs) => .ok (.lst xs) h
    | some (.dic kds) => .ok (.lst (kds.map fun kd => keyOfD kd.1)) h
    | _ => .stk
  | _ => .stk
/-- a list as a new cell -/
def gListC (h : MH) (ds : List D) : R D := (gList h ds).bind fun d h1 => match d with
  | .lst xs => .ok (.ref h1.length) (h1 ++ [.lst xs])
  | _ => .stk
def blsD : List D → Option (List Bool)
  | [] => some []
  | .bl b :: ds => (blsD ds).map fun bs => b :: bs
  | _ :: _ => none
def gAll (h : MH) (ds : List D) : R D := match ds with
  | [.lst xs] => match blsD xs with
    | some bs => .ok (.bl (bs.all id)) h
    | none => .stk
  | _ => .stk
def strsD : List D → Option (List Str)
  | [] => some []
  | .str s :: ds => (strsD ds).map fun ss => s :: ss
  | _ :: _ => none
/-- insertion by code points -/
def insS (x : Str) : List Str → List Str
  | [] => [x]
  | y :: ys => if y.cps.toList < x.cps.toList then y :: insS x ys else x :: y :: ys
def sortS : List Str → List Str
  | [] => []
  | x :: xs => insS x (sortS xs)
def gSorted (h : MH) (ds : List D) : R D := match ds with
  | [.lst xs] => match strsD xs with
    | some ss => if ss.length < 64 then .ok (.lst ((sortS ss).map .str)) h else .stk
    | none => .stk
  | _ => .stk
section
variable {Γ : Gm}
theorem ds1 {G : Hp} {ρ : List Addr} {vs : List V} {d : D} (h : DsAt Γ G ρ vs [d]) : ∃ v, vs = [v] ∧ DAt Γ G ρ v d := by
  cases h with
  | cons h1 h2 => cases h2; exact ⟨_, rfl, h1⟩
theorem ds2 {G : Hp} {ρ : List Addr} {vs : List V} {d e : D} (h : DsAt Γ G ρ vs [d, e]) : ∃ v w, vs = [v, w] ∧ DAt Γ G ρ v d ∧ DAt Γ G ρ w e := by
  cases h with
  | cons h1 h2 =>
    obtain ⟨w, rfl, h3⟩ := ds1 h2
    exact ⟨_, w, rfl, h1, h3⟩
theorem v_len : VF Γ (fun xs H Q => ∃ x n, xs = [x] ∧ LenV Γ.K x H n ∧ Q (.int n) H) gLen := by
  intro W σV H Q G ρ h vs ds rl hs po
  unfold gLen at po
  split at po
  · obtain ⟨v, rfl, hv⟩ := ds1 hs
    unfold dLen at po
    split at po
    · cases hv with
      | tup hq hx => exact ⟨_, _, rfl, .inr ⟨_, same_t rl.sub hq, hx.length.symm⟩, po.now rl _ (.int _)⟩
    · cases hv with
      | lst hq hx => exact ⟨_, _, rfl, .inl ⟨_, .inl (.inl (rl.sub _ _ hq)), hx.length.symm⟩, po.now rl _ (.int _)⟩
    · cases hv with
      | scr hq hx => exact ⟨_, _, rfl, .inl ⟨_, same_l rl.sub hq, hx.length.symm⟩, po.now rl _ (.int _)⟩
    · cases hv
      obtain ⟨hz, po⟩ := Post.cond po
      exact ⟨_, _, rfl, ⟨mil hz, rfl⟩, po.now rl _ (.int _)⟩
    · split at po
      · rename_i xs hc
        cases hv with
        | ref hn =>
          obtain ⟨ws, hq, hx⟩ := rl.cell _ _ _ hc hn
          exact ⟨_, _, rfl, .inl ⟨_, .inl (.inl hq), hx.length.symm⟩, po.now rl _ (.int _)⟩
      · exact po.elim
    · exact po.elim
  · exact po.elim
theorem ints_at {G : Hp} {ρ : List Addr} : ∀ {vs : List V} {ds : List D} {is : List Int}, DsAt Γ G ρ vs ds → intsD ds = some is → vs = is.map V.int
  | _, _, _, .nil, e => by simp [intsD] at e; subst e; rfl
  | _, _, _, .cons (d := d) h hs, e => by
    cases h <;> simp only [intsD, Option.map_eq_some_iff] at e <;> first | (cases e; done) | skip
    obtain ⟨js, e1, e2⟩ := e
    subst e2
    rw [ints_at hs e1]
    rfl
theorem bls_at {G : Hp} {ρ : List Addr} : ∀ {vs : List V} {ds : List D} {is : List Bool}, DsAt Γ G ρ vs ds → blsD ds = some is → vs = is.map V.bl
  | _, _, _, .nil, e => by simp [blsD] at e; subst e; rfl
  | _, _, _, .cons (d := d) h hs, e => by
    cases h <;> simp only [blsD, Option.map_eq_some_iff] at e <;> first | (cases e; done) | skip
    obtain ⟨js, e1, e2⟩ := e
    subst e2
    rw [bls_at hs e1]
    rfl
theorem strs_at {G : Hp} {ρ : List Addr} : ∀ {vs : List V} {ds : List D} {is : List Str}, DsAt Γ G ρ vs ds → strsD ds = some is → vs = is.map V.str
  | _, _, _, .nil, e => by simp [strsD] at e; subst e; rfl
  | _, _, _, .cons (d := d) h hs, e => by
    cases h <;> simp only [strsD, Option.map_eq_some_iff] at e <;> first | (cases e; done) | skip
    obtain ⟨js, e1, e2⟩ := e
    subst e2
    rw [strs_at hs e1]
    rfl
theorem at_strs {G : Hp} {ρ : List Addr} : ∀ ss : List Str, DsAt Γ G ρ (ss.map V.str) (ss.map .str)
  | [] => .nil
  | s :: ss => .cons (.str s) (at_strs ss)
theorem v_sum : VF Γ (rSum Γ.K) gSum := by
  intro W σV H Q G ρ h vs ds rl hs po
  unfold gSum at po
  split at po
  · obtain ⟨v, rfl, hv⟩ := ds1 hs
    split at po
    · rename_i is he
      cases hv with
      | lst hq hx =>
        have := ints_at hx he
        subst this
        exact ⟨_, is, rfl, .inl (.inl (rl.sub _ _ hq)), po.now rl _ (.int _)⟩
    · exact po.elim
  · exact po.elim
theorem v_max : VF Γ (fun xs H Q => ∃ i j, xs = [.int i, .int j] ∧ Q (.int (if j > i then j else i)) H) gMax := by
  intro W σV H Q G ρ h vs ds rl hs po
  unfold gMax at po
  split at po
  · obtain ⟨v, w, rfl, hv, hw⟩ := ds2 hs
    cases hv; cases hw
    exact ⟨_, _, rfl, po.now rl _ (.int _)⟩
  · exact po.elim
theorem v_min : VF Γ (fun xs H Q => ∃ i j, xs = [.int i, .int j] ∧ Q (.int (if j < i then j else i)) H) gMin := by
  intro W σV H Q G ρ h vs ds rl hs po
  unfold gMin at po
  split at po
  · obtain ⟨v, w, rfl, hv, hw⟩ := ds2 hs
    cases hv; cases hw
    exact ⟨_, _, rfl, po.now rl _ (.int _)⟩
  · exact po.elim
theorem v_abs : VF Γ (fun xs H Q => ∃ i, xs = [.int i] ∧ Q (.int (if i < 0 then -i else i)) H) gAbs := by
  intro W σV H Q G ρ h vs ds rl hs po
  unfold gAbs at po
  split at po
  · obtain ⟨v, rfl, hv⟩ := ds1 hs
    cases hv
    exact ⟨_, rfl, po.now rl _ (.int _)⟩
  · exact po.elim
def rInt : List V → Hp → VK → Prop := fun xs H Q => ((∃ i, xs = [.int i] ∧ Q (.int i) H) ∨ ∃ k, xs = [.bl k] ∧ Q (.int (if k then 1 else 0)) H) ∨ ∃ a n, xs = [.str a] ∧ PySem.intText? a = some n ∧ a.length ≤ 640 ∧ Q (.int n) H
theorem v_int : VF Γ rInt gInt := by
  intro W σV H Q G ρ h vs ds rl hs po
  unfold gInt at po
  split at po
  · obtain ⟨v, rfl, hv⟩ := ds1 hs
    cases hv
    exact .inl (.inl ⟨_, rfl, po.now rl _ (.int _)⟩)
  · obtain ⟨v, rfl, hv⟩ := ds1 hs
    cases hv
    exact .inl (.inr ⟨_, rfl, po.now rl _ (.int _)⟩)
  · obtain ⟨v, rfl, hv⟩ := ds1 hs
    cases hv
    split at po
    · rename_i n he
      obtain ⟨hz, po⟩ := Post.cond po
      exact .inr ⟨_, n, rfl, he, hz, po.now rl _ (.int _)⟩
    · exact po.elim
  · exact po.elim
theorem v_str : VF Γ (fun xs H Q => ∃ i, xs = [.int i] ∧ i.natAbs.log2 < 1920 ∧ Q (.str (toString i)) H) gStr := by
  intro W σV H Q G ρ h vs ds rl hs po
  unfold gStr at po
  split at po
  · obtain ⟨v, rfl, hv⟩ := ds1 hs
    cases hv
    obtain ⟨hz, po⟩ := Post.cond po
    exact ⟨_, rfl, hz, po.now rl _ (.str _)⟩
  · exact po.elim
def rTuple (K : PySem.W.Frag) : List V → Hp → VK → Prop := fun xs H Q => ∃ p ys, xs = [.ref p] ∧ ((SqL K H p ys ∧ ∀ l, H l = none → Q (.ref l) (upd H l (.tup ys))) ∨ (SqT K H p ys ∧ Q (.ref p) H))
theorem v_tuple : VF Γ (rTuple Γ.K) gTuple := by
  intro W σV H Q G ρ h vs ds rl hs po
  unfold gTuple at po
  split at po
  · obtain ⟨v, rfl, hv⟩ := ds1 hs
    cases hv with
    | tup hq hx => exact ⟨_, _, rfl, .inr ⟨same_t rl.sub hq, po.now rl _ (.tup hq hx)⟩⟩
  · obtain ⟨v, rfl, hv⟩ := ds1 hs
    cases hv with
    | lst hq hx => exact ⟨_, _, rfl, .inl ⟨.inl (.inl (rl.sub _ _ hq)), fun l hl => po.fresh rl hl fun G' eg e => .tup (.inl (.inl e)) (hx.mono eg fun _ _ z => z)⟩⟩
  · obtain ⟨v, rfl, hv⟩ := ds1 hs
    split at po
    · rename_i xs hc
      cases hv with
      | ref hn =>
        obtain ⟨ws, hq, hx⟩ := rl.cell _ _ _ hc hn
        exact ⟨_, _, rfl, .inl ⟨.inl (.inl hq), fun l hl => po.fresh rl hl fun G' eg e => .tup (.inl (.inl e)) (hx.mono eg fun _ _ z => z)⟩⟩
    · exact po.elim
  · exact po.elim
theorem keys_at {G : Hp} {ρ : List Addr} : ∀ {kvs : List (Key × V)} {kds : List (Key × D)}, KvAt Γ G ρ kvs kds → DsAt Γ G ρ (kvs.map fun kv => kV kv.1) (kds.map fun kd => keyOfD kd.1)
  | _, _, .nil => .nil
  | _, _, .cons (k := k) h hs => .cons (by cases k <;> constructor) (keys_at hs)
def rList (K : PySem.W.Frag) : List V → Hp → VK → Prop := fun xs H Q => (∃ p ys, xs = [.ref p] ∧ (SqL K H p ys ∨ SqT K H p ys) ∧ ∀ l, H l = none → Q (.ref l) (upd H l (.lst ys))) ∨ rListD xs H Q
theorem v_list : VF Γ (rList Γ.K) gList := by
  intro W σV H Q G ρ h vs ds rl hs po
  unfold gList at po
  split at po
  · obtain ⟨v, rfl, hv⟩ := ds1 hs
    cases hv with
    | tup hq hx => exact .inl ⟨_, _, rfl, .inr (same_t rl.sub hq), fun l hl => po.fresh rl hl fun G' eg e => .lst e (hx.mono eg fun _ _ z => z)⟩
  · obtain ⟨v, rfl, hv⟩ := ds1 hs
    cases hv with
    | lst hq hx => exact .inl ⟨_, _, rfl, .inl (.inl (.inl (rl.sub _ _ hq))), fun l hl => po.fresh rl hl fun G' eg e => .lst e (hx.mono eg fun _ _ z => z)⟩
  · obtain ⟨v, rfl, hv⟩ := ds1 hs
    cases hv with
    | dic hq hx => exact .inr ⟨_, _, rfl, rl.sub _ _ hq, fun l hl => po.fresh rl hl fun G' eg e => .lst e ((keys_at hx).mono eg fun _ _ z => z)⟩
  · obtain ⟨v, rfl, hv⟩ := ds1 hs
    cases hv with
    | ref hn =>
      split at po
      · rename_i xs hc
        obtain ⟨ws, hq, hx⟩ := rl.cell _ _ _ hc hn
        exact .inl ⟨_, _, rfl, .inl (.inl (.inl hq)), fun l hl => po.fresh rl hl fun G' eg e => .lst e (hx.mono eg fun _ _ z => z)⟩
      · rename_i xs hc
        obtain ⟨ws, hq, hx⟩ := rl.cell _ _ _ hc hn
        exact .inr ⟨_, _, rfl, hq, fun l hl => po.fresh rl hl fun G' eg e => .lst e ((keys_at hx).mono eg fun _ _ z => z)⟩
      · exact po.elim
  · exact po.elim
theorem v_listC : VF Γ (rList Γ.K) gListC := by
  intro W σV H Q G ρ h vs ds rl hs po
  have new : ∀ {xs : List D} {ws : List V}, DsAt Γ G ρ ws xs → Post Γ W σV G ρ H (.ok (.ref h.length) (h ++ [.lst xs])) (fun d _ G' ρ' H' => ∀ v, DAt Γ G' ρ' v d → Q v H') → ∀ l, H l = none → Q (.ref l) (upd H l (.lst ws)) :=
    fun hx po l hl => po.cell rl hl ⟨_, upd_same, hx.mono (Same.refl _) er_app⟩
  unfold gListC gList at po
  split at po
  · obtain ⟨v, rfl, hv⟩ := ds1 hs
    cases hv with
    | tup hq hx => exact .inl ⟨_, _, rfl, .inr (same_t rl.sub hq), new hx po⟩
  · obtain ⟨v, rfl, hv⟩ := ds1 hs
    cases hv with
    | lst hq hx => exact .inl ⟨_, _, rfl, .inl (.inl (.inl (rl.sub _ _ hq))), new hx po⟩
  · obtain ⟨v, rfl, hv⟩ := ds1 hs
    cases hv with
    | dic hq hx => exact .inr ⟨_, _, rfl, rl.sub _ _ hq, new (keys_at hx) po⟩
  · obtain ⟨v, rfl, hv⟩ := ds1 hs
    cases hv with
    | ref hn =>
      split at po
      · rename_i xs hc
        obtain ⟨ws, hq, hx⟩ := rl.cell _ _ _ hc hn
        exact .inl ⟨_, _, rfl, .inl (.inl (.inl hq)), new hx po⟩
      · rename_i xs hc
        obtain ⟨ws, hq, hx⟩ := rl.cell _ _ _ hc hn
        exact .inr ⟨_, _, rfl, hq, new (keys_at hx) po⟩
      · exact po.elim
  · exact po.elim
theorem v_all : VF Γ (rAll Γ.K) gAll := by
  intro W σV H Q G ρ h vs ds rl hs po
  unfold gAll at po
  split at po
  · obtain ⟨v, rfl, hv⟩ := ds1 hs
    split at po
    · rename_i is he
      cases hv with
      | lst hq hx =>
        have := bls_at hx he
        subst this
        exact ⟨_, is, rfl, .inl (.inl (rl.sub _ _ hq)), po.now rl _ (.bl _)⟩
    · exact po.elim
  · exact po.elim
end
section
variable {Γ : Gm} {k : Nat} {X : Cx} {W : WX} {pos p : Pos} {e e2 : Expr} {fa : AF}
theorem de_len (B : Bn Γ k X W) (hm : X.mg "len" = none) (ha : PA X [e] (CanA Γ W fa)) (hg : Gl X "len" := by rfl) (he : starEach [e] X.env = (false, eval e X.env) :: starEach [] X.env := by rfl) : PE X (.Call (.Name "len" p) [e] [] pos) (Can Γ W (eFun gLen fa)) :=
  de_fun (by rw [← B.hK]; exact call_len) v_len hm PySem.boot_len ha hg (by decide) (by decide) he
theorem de_sum (B : Bn Γ k X W) (hm : X.mg "sum" = none) (ha : PA X [e] (CanA Γ W fa)) (hg : Gl X "sum" := by rfl) (he : starEach [e] X.env = (false, eval e X.env) :: starEach [] X.env := by rfl) : PE X (.Call (.Name "sum" p) [e] [] pos) (Can Γ W (eFun gSum fa)) :=
  de_fun (by rw [← B.hK]; exact cr_sum B.calm) v_sum hm (by decide +kernel) ha hg (by decide) (by decide) he
theorem de_max (B : Bn Γ k X W) (hm : X.mg "max" = none) (ha : PA X [e, e2] (CanA Γ W fa)) (hg : Gl X "max" := by rfl) (he : starEach [e, e2] X.env = (false, eval e X.env) :: starEach [e2] X.env := by rfl) (hpl : (backTo pos (starEach [e2] X.env)).any (·.1) = false := by rfl) : PE X (.Call (.Name "max" p) [e, e2] [] pos) (Can Γ W (eFun gMax fa)) :=
  de_fun (call_max2 B.calm) v_max hm (by decide +kernel) ha hg (by decide) (by decide) he hpl
theorem de_min (B : Bn Γ k X W) (hm : X.mg "min" = none) (ha : PA X [e, e2] (CanA Γ W fa)) (hg : Gl X "min" := by rfl) (he : starEach [e, e2] X.env = (false, eval e X.env) :: starEach [e2] X.env := by rfl) (hpl : (backTo pos (starEach [e2] X.env)).any (·.1) = false := by rfl) : PE X (.Call (.Name "min" p) [e, e2] [] pos) (Can Γ W (eFun gMin fa)) :=
  de_fun (call_min2 B.calm) v_min hm (by decide +kernel) ha hg (by decide) (by decide) he hpl
theorem de_abs (B : Bn Γ k X W) (hm : X.mg "abs" = none) (ha : PA X [e] (CanA Γ W fa)) (hg : Gl X "abs" := by rfl) (he : starEach [e] X.env = (false, eval e X.env) :: starEach [] X.env := by rfl) : PE X (.Call (.Name "abs" p) [e] [] pos) (Can Γ W (eFun gAbs fa)) :=
  de_fun call_abs v_abs hm (by decide +kernel) ha hg (by decide) (by decide) he
theorem de_all (B : Bn Γ k X W) (hm : X.mg "all" = none) (ha : PA X [e] (CanA Γ W fa)) (hg : Gl X "all" := by rfl) (he : starEach [e] X.env = (false, eval e X.env) :: starEach [] X.env := by rfl) : PE X (.Call (.Name "all" p) [e] [] pos) (Can Γ W (eFun gAll fa)) :=
  de_fun (by rw [← B.hK]; exact cr_all B.calm) v_all hm (by decide +kernel) ha hg (by decide) (by decide) he
theorem de_toInt (B : Bn Γ k X W) (hm : X.mg "int" = none) (ha : PA X [e] (CanA Γ W fa)) (hg : Gl X "int" := by rfl) (he : starEach [e] X.env = (false, eval e X.env) :: starEach [] X.env := by rfl) : PE X (.Call (.Name "int" p) [e] [] pos) (Can Γ W (eFun gInt fa)) :=
  de_cls (call_int1.or call_int_str) v_int hm (by decide +kernel) ha hg (by decide) (by decide) he
theorem de_toStr (B : Bn Γ k X W) (hm : X.mg "str" = none) (ha : PA X [e] (CanA Γ W fa)) (hg : Gl X "str" := by rfl) (he : starEach [e] X.env = (false, eval e X.env) :: starEach [] X.env := by rfl) : PE X (.Call (.Name "str" p) [e] [] pos) (Can Γ W (eFun gStr fa)) :=
  de_cls call_str_int v_str hm (by decide +kernel) ha hg (by decide) (by decide) he
theorem de_tuple (B : Bn Γ k X W) (hm : X.mg "tuple" = none) (ha : PA X [e] (CanA Γ W fa)) (hg : Gl X "tuple" := by rfl) (he : starEach [e] X.env = (false, eval e X.env) :: starEach [] X.env := by rfl) : PE X (.Call (.Name "tuple" p) [e] [] pos) (Can Γ W (eFun gTuple fa)) :=
  de_cls (by rw [← B.hK]; exact call_tuple_of) v_tuple hm (by decide +kernel) ha hg (by decide) (by decide) he
theorem o_list (B : Bn Γ k X W) : CallR X (.type "list") (rList Γ.K) := by
  rw [← B.hK]; exact call_list_of.or (call_list_dK B.calm)
theorem de_list (B : Bn Γ k X W) (hm : X.mg "list" = none) (ha : PA X [e] (CanA Γ W fa)) (hg : Gl X "list" := by rfl) (he : starEach [e] X.env = (false, eval e X.env) :: starEach [] X.env := by rfl) : PE X (.Call (.Name "list" p) [e] [] pos) (Can Γ W (eFun gList fa)) :=
  de_cls (o_list B) v_list hm (by decide +kernel) ha hg (by decide) (by decide) he
theorem de_listC (B : Bn Γ k X W) (hm : X.mg "list" = none) (ha : PA X [e] (CanA Γ W fa)) (hg : Gl X "list" := by rfl) (he : starEach [e] X.env = (false, eval e X.env) :: starEach [] X.env := by rfl) : PE X (.Call (.Name "list" p) [e] [] pos) (Can Γ W (eFun gListC fa)) :=
  de_cls (o_list B) v_listC hm (by decide +kernel) ha hg (by decide) (by decide) he
end
end Mi

set_option Elab.async false
set_option linter.all false
set_option maxRecDepth 100000
set_option maxHeartbeats 2000000
/-! Mi6: statements: blocks, stores, tests, return; own lists and dicts in slots; cells written. -/
namespace Mi
open PySem PySem.Spec PyProof.Rows L2

inductive Fl where
  | nx | bk | ct | rt (d : D)
inductive RS where
  | ok (fl : Fl) (σ : S) (h : MH) | exc (x : Xn) (σ : S) (h : MH) | stk
abbrev SF := S → MH → RS
def sBind {α : Type} (σ : S) (r : R α) (k : α → MH → RS) : RS := match r with
  | .ok a h => k a h
  | .exc x h => .exc x σ h
  | .stk => .stk
@[simp] theorem sBind_ok {α : Type} (σ : S) (a : α) (h : MH) (k : α → MH → RS) : sBind σ (.ok a h) k = k a h := rfl
@[simp] theorem sBind_exc {α : Type} (σ : S) (x : Xn) (h : MH) (k : α → MH → RS) : sBind σ (.exc x h : R α) k = .exc x σ h := rfl
@[simp] theorem sBind_stk {α : Type} (σ : S) (k : α → MH → RS) : sBind σ (.stk : R α) k = .stk := rfl

/-- slot i holds an own list or dict -/
def IsOwn (σ : S) (i : Nat) : Prop := (∃ ds, σ[i]? = some (some (.own ds))) ∨ ∃ kds, σ[i]? = some (some (.ownD kds))
structure StR (Γ : Gm) (H0 G : Hp) (ρ : List Addr) (H : Hp) (σV : L2.St) (σ : S) : Prop where
  len : σV.length = σ.length
  d : ∀ (i : Nat) (d : D), σ[i]? = some (some (.d d)) → ∃ v, σV[i]? = some (some v) ∧ DAt Γ G ρ v d
  own : ∀ (i : Nat) (ds : List D), σ[i]? = some (some (.own ds)) → ∃ a vs, σV[i]? = some (some (.ref a)) ∧ H a = some (.lst vs) ∧ DsAt Γ G ρ vs ds ∧ G a = none ∧ a ∉ ρ ∧ H0 a = none
  ownD : ∀ (i : Nat) (kds : List (Key × D)), σ[i]? = some (some (.ownD kds)) → ∃ a kvs, σV[i]? = some (some (.ref a)) ∧ H a = some (.dK kvs) ∧ KvAt Γ G ρ kvs kds ∧ G a = none ∧ a ∉ ρ ∧ H0 a = none
  inj : ∀ (i j : Nat) (a : Addr), IsOwn σ i → IsOwn σ j → σV[i]? = some (some (.ref a)) → σV[j]? = some (some (.ref a)) → i = j
section
variable {Γ : Gm} {H0 G G' : Hp} {ρ ρ' : List Addr} {H H' : Hp} {σV : L2.St} {σ : S}
theorem StR.toD (s : StR Γ H0 G ρ H σV σ) : StD Γ G ρ σV σ := ⟨s.len, s.d⟩
theorem Ext.gnone (e : Ext G ρ H G' ρ' H') {a : Addr} {o : HO} (g : G a = Option.none) (h : H a = some o) : G' a = Option.none := by
  cases q : G' a with
  | none => rfl
  | some u =>
    rcases e.gn a u q with z | z
    · rw [g] at z; cases z
    · rw [h] at z; cases z
theorem Ext.notIn (e : Ext G ρ H G' ρ' H') {a : Addr} {o : HO} (n : a ∉ ρ) (h : H a = some o) : a ∉ ρ' := fun z => by
  rcases e.rn a z with q | q
  · exact n q
  · rw [h] at q; cases q
theorem StR.ext (s : StR Γ H0 G ρ H σV σ) (e : Ext G ρ H G' ρ' H') : StR Γ H0 G' ρ' H' σV σ where
  len := s.len
  d := fun i d h => let ⟨v, h1, h2⟩ := s.d i d h; ⟨v, h1, h2.mono e.g e.r⟩
  own := fun i ds h => let ⟨a, vs, h1, h2, h3, h4, h5, h6⟩ := s.own i ds h; ⟨a, vs, h1, e.off a _ h2 h5, h3.mono e.g e.r, e.gnone h4 h2, e.notIn h5 h2, h6⟩
  ownD := fun i ds h => let ⟨a, vs, h1, h2, h3, h4, h5, h6⟩ := s.ownD i ds h; ⟨a, vs, h1, e.off a _ h2 h5, h3.mono e.g e.r, e.gnone h4 h2, e.notIn h5 h2, h6⟩
  inj := s.inj
theorem own_there (s : StR Γ H0 G ρ H σV σ) {i : Nat} (o : IsOwn σ i) : ∃ a u, σV[i]? = some (some (.ref a)) ∧ H a = some u ∧ G a = none ∧ a ∉ ρ ∧ H0 a = none := by
  rcases o with ⟨ds, h⟩ | ⟨kds, h⟩
  · obtain ⟨a, vs, h1, h2, _, h4, h5, h6⟩ := s.own i ds h; exact ⟨a, _, h1, h2, h4, h5, h6⟩
  · obtain ⟨a, vs, h1, h2, _, h4, h5, h6⟩ := s.ownD i kds h; exact ⟨a, _, h1, h2, h4, h5, h6⟩
theorem set_at {α : Type} {l : List α} {i j : Nat} {x y : α} (h : (l.set i x)[j]? = some y) : (i = j ∧ x = y) ∨ (i ≠ j ∧ l[j]? = some y) := by
  by_cases e : i = j
  · subst e
    by_cases hl : i < l.length
    · rw [List.getElem?_set_self hl] at h; cases h; exact .inl ⟨rfl, rfl⟩
    · rw [List.getElem?_eq_none (by simpa using hl)] at h; cases h
  · rw [List.getElem?_set_ne e] at h; exact .inr ⟨e, h⟩
theorem isOwn_set {i j : Nat} {x : Option Sv} (hx : ∀ ds, x ≠ some (.own ds)) (hx' : ∀ ds, x ≠ some (.ownD ds)) (o : IsOwn (σ.set i x) j) : i ≠ j ∧ IsOwn σ j := by
  rcases o with ⟨ds, h⟩ | ⟨ds, h⟩ <;> rcases set_at h with ⟨_, e⟩ | ⟨n, e⟩
  · exact absurd e (hx ds)
  · exact ⟨n, .inl ⟨ds, e⟩⟩
  · exact absurd e (hx' ds)
  · exact ⟨n, .inr ⟨ds, e⟩⟩
theorem StR.setD (s : StR Γ H0 G ρ H σV σ) {i : Nat} {v : V} {d : D} (h : DAt Γ G ρ v d) : StR Γ H0 G ρ H (σV.set i (some v)) (σ.set i (some (.d d))) where
  len := by rw [List.length_set, List.length_set]; exact s.len
  d := fun j e q => by
    rcases set_at q with ⟨rfl, z⟩ | ⟨n, z⟩
    · cases z
      have hl : i < σV.length := by rw [s.len]; have := (List.getElem?_eq_some_iff.mp q).1; simpa using this
      exact ⟨v, List.getElem?_set_self hl, h⟩
    · obtain ⟨w, h1, h2⟩ := s.d j e z
      exact ⟨w, by rw [List.getElem?_set_ne n]; exact h1, h2⟩
  own := fun j ds q => by
    rcases set_at q with ⟨rfl, z⟩ | ⟨n, z⟩
    · cases z
    · obtain ⟨a, vs, h1, r⟩ := s.own j ds z
      exact ⟨a, vs, by rw [List.getElem?_set_ne n]; exact h1, r⟩
  ownD := fun j ds q => by
    rcases set_at q with ⟨rfl, z⟩ | ⟨n, z⟩
    · cases z
    · obtain ⟨a, vs, h1, r⟩ := s.ownD j ds z
      exact ⟨a, vs, by rw [List.getElem?_set_ne n]; exact h1, r⟩
  inj := fun j l a o1 o2 q1 q2 => by
    obtain ⟨n1, o1⟩ := isOwn_set (fun _ z => by cases z) (fun _ z => by cases z) o1
    obtain ⟨n2, o2⟩ := isOwn_set (fun _ z => by cases z) (fun _ z => by cases z) o2
    rw [List.getElem?_set_ne n1] at q1
    rw [List.getElem?_set_ne n2] at q2
    exact s.inj j l a o1 o2 q1 q2
theorem StR.setNone (s : StR Γ H0 G ρ H σV σ) {i : Nat} {x : Option V} : StR Γ H0 G ρ H (σV.set i x) (σ.set i none) where
  len := by rw [List.length_set, List.length_set]; exact s.len
  d := fun j e q => by
    rcases set_at q with ⟨rfl, z⟩ | ⟨n, z⟩
    · cases z
    · obtain ⟨w, h1, h2⟩ := s.d j e z
      exact ⟨w, by rw [List.getElem?_set_ne n]; exact h1, h2⟩
  own := fun j ds q => by
    rcases set_at q with ⟨rfl, z⟩ | ⟨n, z⟩
    · cases z
    · obtain ⟨a, vs, h1, r⟩ := s.own j ds z
      exact ⟨a, vs, by rw [List.getElem?_set_ne n]; exact h1, r⟩
  ownD := fun j ds q => by
    rcases set_at q with ⟨rfl, z⟩ | ⟨n, z⟩
    · cases z
    · obtain ⟨a, vs, h1, r⟩ := s.ownD j ds z
      exact ⟨a, vs, by rw [List.getElem?_set_ne n]; exact h1, r⟩
  inj := fun j l a o1 o2 q1 q2 => by
    obtain ⟨n1, o1⟩ := isOwn_set (fun _ z => by cases z) (fun _ z => by cases z) o1
    obtain ⟨n2, o2⟩ := isOwn_set (fun _ z => by cases z) (fun _ z => by cases z) o2
    rw [List.getElem?_set_ne n1] at q1
    rw [List.getElem?_set_ne n2] at q2
    exact s.inj j l a o1 o2 q1 q2
/-- the object of slot i, at a, has now the content o; all else stands -/
theorem StR.reown (s : StR Γ H0 G ρ H σV σ) {i : Nat} {a : Addr} {o : HO} {x : Sv} (hi : IsOwn σ i) (ha : σV[i]? = some (some (.ref a)))
    (new : (∃ vs ds, x = .own ds ∧ o = .lst vs ∧ DsAt Γ G ρ vs ds) ∨ ∃ kvs kds, x = .ownD kds ∧ o = .dK kvs ∧ KvAt Γ G ρ kvs kds) : StR Γ H0 G ρ (upd H a o) σV (σ.set i (some x)) := by
  obtain ⟨a', u, e1, e2, e3, e4, e5⟩ := own_there s hi
  rw [ha] at e1
  cases e1
  have other : ∀ j b, i ≠ j → IsOwn σ j → σV[j]? = some (some (.ref b)) → b ≠ a := fun j b n oj hb z => by
    subst z
    exact n (s.inj i j _ hi oj ha hb)
  refine ⟨by rw [List.length_set]; exact s.len, fun j d q => ?_, fun j ds q => ?_, fun j ds q => ?_, fun j l b o1 o2 q1 q2 => ?_⟩
  · rcases set_at q with ⟨rfl, z⟩ | ⟨n, z⟩
    · rcases new with ⟨vs, ds, rfl, _⟩ | ⟨kvs, kds, rfl, _⟩ <;> cases z
    · exact s.d j d z
  · rcases set_at q with ⟨rfl, z⟩ | ⟨n, z⟩
    · rcases new with ⟨vs, ds', rfl, rfl, hn⟩ | ⟨kvs, kds, rfl, _⟩
      · cases z; exact ⟨a, vs, ha, upd_same, hn, e3, e4, e5⟩
      · cases z
    · obtain ⟨b, vs, h1, h2, r⟩ := s.own j ds z
      exact ⟨b, vs, h1, by rw [upd_ne (other j b n (.inl ⟨ds, z⟩) h1)]; exact h2, r⟩
  · rcases set_at q with ⟨rfl, z⟩ | ⟨n, z⟩
    · rcases new with ⟨vs, ds', rfl, _⟩ | ⟨kvs, kds, rfl, rfl, hn⟩
      · cases z
      · cases z; exact ⟨a, kvs, ha, upd_same, hn, e3, e4, e5⟩
    · obtain ⟨b, vs, h1, h2, r⟩ := s.ownD j ds z
      exact ⟨b, vs, h1, by rw [upd_ne (other j b n (.inr ⟨ds, z⟩) h1)]; exact h2, r⟩
  · have back : ∀ m, IsOwn (σ.set i (some x)) m → IsOwn σ m := fun m om => by
      rcases om with ⟨ds, h⟩ | ⟨ds, h⟩ <;> rcases set_at h with ⟨rfl, _⟩ | ⟨n, e⟩
      · exact hi
      · exact .inl ⟨ds, e⟩
      · exact hi
      · exact .inr ⟨ds, e⟩
    exact s.inj j l b (back j o1) (back l o2) q1 q2
/-- a new object at p for slot i -/
theorem StR.newown (s : StR Γ H0 G ρ H σV σ) {i : Nat} {p : Addr} {o : HO} {x : Sv} (hp : H p = none) (gp : G p = none) (np : p ∉ ρ) (h0 : H0 p = none)
    (new : (∃ vs ds, x = .own ds ∧ o = .lst vs ∧ DsAt Γ G ρ vs ds) ∨ ∃ kvs kds, x = .ownD kds ∧ o = .dK kvs ∧ KvAt Γ G ρ kvs kds) : StR Γ H0 G ρ (upd H p o) (σV.set i (some (.ref p))) (σ.set i (some x)) := by
  have slot : ∀ {y : Option Sv}, (σ.set i (some x))[i]? = some y → (σV.set i (some (.ref p)))[i]? = some (some (.ref p)) := fun q => by
    have hl : i < σV.length := by rw [s.len]; have := (List.getElem?_eq_some_iff.mp q).1; simpa using this
    exact List.getElem?_set_self hl
  have other : ∀ b u, H b = some u → b ≠ p := fun b u hb z => by subst z; rw [hp] at hb; cases hb
  refine ⟨by rw [List.length_set, List.length_set]; exact s.len, fun j d q => ?_, fun j ds q => ?_, fun j ds q => ?_, fun j l b o1 o2 q1 q2 => ?_⟩
  · rcases set_at q with ⟨rfl, z⟩ | ⟨n, z⟩
    · rcases new with ⟨vs, ds, rfl, _⟩ | ⟨kvs, kds, rfl, _⟩ <;> cases z
    · obtain ⟨w, h1, h2⟩ := s.d j d z
      exact ⟨w, by rw [List.getElem?_set_ne n]; exact h1, h2⟩
  · rcases set_at q with ⟨rfl, z⟩ | ⟨n, z⟩
    · rcases new with ⟨vs, ds', rfl, rfl, hn⟩ | ⟨kvs, kds, rfl, _⟩
      · cases z; exact ⟨p, vs, slot q, upd_same, hn, gp, np, h0⟩
      · cases z
    · obtain ⟨b, vs, h1, h2, r⟩ := s.own j ds z
      exact ⟨b, vs, by rw [List.getElem?_set_ne n]; exact h1, by rw [upd_ne (other b _ h2)]; exact h2, r⟩
  · rcases set_at q with ⟨rfl, z⟩ | ⟨n, z⟩
    · rcases new with ⟨vs, ds', rfl, _⟩ | ⟨kvs, kds, rfl, rfl, hn⟩
      · cases z
      · cases z; exact ⟨p, kvs, slot q, upd_same, hn, gp, np, h0⟩
    · obtain ⟨b, vs, h1, h2, r⟩ := s.ownD j ds z
      exact ⟨b, vs, by rw [List.getElem?_set_ne n]; exact h1, by rw [upd_ne (other b _ h2)]; exact h2, r⟩
  · have key : ∀ m, IsOwn (σ.set i (some x)) m → (m = i ∧ ∃ y, (σ.set i (some x))[i]? = some y) ∨ (i ≠ m ∧ IsOwn σ m) := fun m om => by
      rcases om with ⟨ds, h⟩ | ⟨ds, h⟩ <;> rcases set_at h with ⟨rfl, _⟩ | ⟨n, e⟩
      · exact .inl ⟨rfl, _, h⟩
      · exact .inr ⟨n, .inl ⟨ds, e⟩⟩
      · exact .inl ⟨rfl, _, h⟩
      · exact .inr ⟨n, .inr ⟨ds, e⟩⟩
    have clash : ∀ m, i ≠ m → IsOwn σ m → (σV.set i (some (V.ref p)))[m]? = some (some (.ref p)) → False := fun m n om q => by
      rw [List.getElem?_set_ne n] at q
      obtain ⟨a, u, e1, e2, _⟩ := own_there s om
      rw [q] at e1
      cases e1
      exact other _ _ e2 rfl
    rcases key j o1 with ⟨rfl, y1, e1⟩ | ⟨n1, o1'⟩ <;> rcases key l o2 with ⟨rfl, y2, e2⟩ | ⟨n2, o2'⟩
    · rfl
    · rw [slot e1] at q1; cases q1; exact (clash l n2 o2' q2).elim
    · rw [slot e2] at q2; cases q2; exact (clash j n1 o1' q1).elim
    · rw [List.getElem?_set_ne n1] at q1
      rw [List.getElem?_set_ne n2] at q2
      exact s.inj j l b o1' o2' q1 q2
end

/-- the def's entry -/
structure Fr0 where
  G : Hp
  ρ : List Addr
  H : Hp
def PostS (Γ : Gm) (W : WX) (F : Fr0) (E : Ends) (r : RS) : Prop := match r with
  | .ok fl σ' h' => ∀ G' ρ' H' σV', Ext F.G F.ρ F.H G' ρ' H' → Rl Γ G' ρ' h' H' → StR Γ F.H G' ρ' H' σV' σ' → match fl with
    | .nx => E.nx σV' H'
    | .bk => E.bk σV' H'
    | .ct => E.ct σV' H'
    | .rt d => ∀ v, DAt Γ G' ρ' v d → E.rt v H'
  | .exc x σ' h' => ∀ G' ρ' H' σV' dA, Ext F.G F.ρ F.H G' ρ' H' → Rl Γ G' ρ' h' H' → StR Γ F.H G' ρ' H' σV' σ' → XAt Γ G' ρ' H' x dA → W (.ref (Γ.cls x.c)) (some dA) σV' H'
  | .stk => False
/-- where a statement starts -/
structure At (Γ : Gm) (F : Fr0) (σV : L2.St) (H : Hp) (G : Hp) (ρ : List Addr) (σ : S) (h : MH) : Prop where
  rl : Rl Γ G ρ h H
  fr : Ext F.G F.ρ F.H G ρ H
  st : StR Γ F.H G ρ H σV σ
def CanS (Γ : Gm) (W : WX) (f : SF) : TS := fun E σV H => ∃ F G ρ σ h, At Γ F σV H G ρ σ h ∧ PostS Γ W F E (f σ h)
section
variable {Γ : Gm} {W : WX} {F : Fr0} {E : Ends} {σV : L2.St} {H : Hp} {G : Hp} {ρ : List Addr} {σ : S} {h : MH}
theorem PostS.bind {α : Type} {r : R α} {k : α → MH → RS} (a : At Γ F σV H G ρ σ h) (p : PostS Γ W F E (sBind σ r k)) : Post Γ W σV G ρ H r (fun d h1 G1 ρ1 H1 => PostS Γ W F E (k d h1) ∧ At Γ F σV H1 G1 ρ1 σ h1) := by
  cases r with
  | ok d h1 => exact fun G' ρ' H' e rl => ⟨p, rl, a.fr.trans e, a.st.ext e⟩
  | exc x h1 => exact fun G' ρ' H' dA e rl xa => p G' ρ' H' σV dA (a.fr.trans e) rl (a.st.ext e) xa
  | stk => exact p
theorem At.nx {σ' : S} (p : PostS Γ W F E (.ok .nx σ' h)) {σV' : L2.St} (a : At Γ F σV' H G ρ σ' h) : E.nx σV' H := p G ρ H σV' a.fr a.rl a.st
theorem At.setD (a : At Γ F σV H G ρ σ h) {i : Nat} {v : V} {d : D} (hv : DAt Γ G ρ v d) : At Γ F (σV.set i (some v)) H G ρ (σ.set i (some (.d d))) h := ⟨a.rl, a.fr, a.st.setD hv⟩
theorem ps_weak {X : Cx} {st : Stmt} {t t' : TS} (hs : PS X st t) (w : ∀ E σ H, t' E σ H → t E σ H) : PS X st t' := ⟨fun pins s σ H E I q => hs.run pins s σ H E I (w E σ H q)⟩
theorem pss_weak {X : Cx} {st : List Stmt} {t t' : TS} (hs : PSs X st t) (w : ∀ E σ H, t' E σ H → t E σ H) : PSs X st t' := ⟨fun pins s σ H E I q => hs.run pins s σ H E I (w E σ H q)⟩
/-- a value is wanted, then more -/
theorem At.run {f : EF} {k : D → MH → RS} {Q : VK} (a : At Γ F σV H G ρ σ h) (p : PostS Γ W F E (sBind σ (f σ h) k))
    (q : ∀ d h1 G1 ρ1 H1 v, PostS Γ W F E (k d h1) → At Γ F σV H1 G1 ρ1 σ h1 → Ext G ρ H G1 ρ1 H1 → DAt Γ G1 ρ1 v d → Q v H1) : Can Γ W f σV H Q :=
  ⟨G, ρ, σ, h, a.rl, a.st.toD, (p.bind a).mono fun d h1 G1 ρ1 H1 e rl ⟨p1, a1⟩ v hv => q d h1 G1 ρ1 H1 v p1 a1 e hv⟩
theorem At.runA {f : AF} {k : List D → MH → RS} {Q : List V → Hp → Prop} (a : At Γ F σV H G ρ σ h) (p : PostS Γ W F E (sBind σ (f σ h) k))
    (q : ∀ d h1 G1 ρ1 H1 v, PostS Γ W F E (k d h1) → At Γ F σV H1 G1 ρ1 σ h1 → Ext G ρ H G1 ρ1 H1 → DsAt Γ G1 ρ1 v d → Q v H1) : CanA Γ W f σV H Q :=
  ⟨G, ρ, σ, h, a.rl, a.st.toD, (p.bind a).mono fun d h1 G1 ρ1 H1 e rl ⟨p1, a1⟩ v hv => q d h1 G1 ρ1 H1 v p1 a1 e hv⟩
theorem At.runT {f : TF} {k : Bool → MH → RS} {Q : Bool → Hp → Prop} (a : At Γ F σV H G ρ σ h) (p : PostS Γ W F E (sBind σ (f σ h) k))
    (q : ∀ b h1 G1 ρ1 H1, PostS Γ W F E (k b h1) → At Γ F σV H1 G1 ρ1 σ h1 → Q b H1) : CanT Γ W f σV H Q :=
  ⟨G, ρ, σ, h, a.rl, a.st.toD, (p.bind a).mono fun d h1 G1 ρ1 H1 e rl ⟨p1, a1⟩ => q d h1 G1 ρ1 H1 p1 a1⟩
theorem PostS.cond {c : Prop} [Decidable c] {r : RS} (p : PostS Γ W F E (if c then r else .stk)) : c ∧ PostS Γ W F E r := by
  by_cases hc : c
  · rw [if_pos hc] at p; exact ⟨hc, p⟩
  · rw [if_neg hc] at p; exact p.elim
end

/-! ### blocks and small statements -/
def sNil (σ : S) (h : MH) : RS := .ok .nx σ h
def sSeq (f g : SF) (σ : S) (h : MH) : RS := match f σ h with
  | .ok .nx σ' h' => g σ' h'
  | r => r
def sBk (σ : S) (h : MH) : RS := .ok .bk σ h
def sCt (σ : S) (h : MH) : RS := .ok .ct σ h
def sExp (e : EF) (σ : S) (h : MH) : RS := sBind σ (e σ h) fun _ h1 => .ok .nx σ h1
def sRet (e : EF) (σ : S) (h : MH) : RS := sBind σ (e σ h) fun d h1 => .ok (.rt d) σ h1
def sRetN (σ : S) (h : MH) : RS := .ok (.rt .non) σ h
def sIf (t : TF) (f g : SF) (σ : S) (h : MH) : RS := sBind σ (t σ h) fun b h1 => if b = true then f σ h1 else g σ h1
/-- x = e -/
def sAsg (i : Nat) (e : EF) (σ : S) (h : MH) : RS := sBind σ (e σ h) fun d h1 => .ok .nx (σ.set i (some (.d d))) h1
def sStk (_ : S) (_ : MH) : RS := .stk
section
variable {Γ : Gm} {k : Nat} {X : Cx} {W : WX} {F : Fr0} {pos p' : Pos} {e c : Expr} {st : Stmt} {rest a b : List Stmt} {fe : EF} {f g : SF} {ft : TF} {x : Str}
theorem ds_nil : PSs X [] (CanS Γ W sNil) := pss_weak pss_nil fun E σV H ⟨F, G, ρ, σ, h, a, po⟩ => a.nx po
theorem ds_cons (h1 : PS X st (CanS Γ W f)) (h2 : PSs X rest (CanS Γ W g)) : PSs X (st :: rest) (CanS Γ W (sSeq f g)) :=
  pss_weak (pss_cons h1 h2) fun E σV H ⟨F, G, ρ, σ, h, a, po⟩ => ⟨F, G, ρ, σ, h, a, by
    unfold sSeq at po
    cases q : f σ h with
    | ok fl σ' h' =>
      rw [q] at po
      cases fl with
      | nx => exact fun G' ρ' H' σV' e rl st => ⟨F, G', ρ', σ', h', ⟨rl, e, st⟩, po⟩
      | bk => exact po
      | ct => exact po
      | rt d => exact po
    | exc x σ' h' => rw [q] at po; exact po
    | stk => rw [q] at po; exact po⟩
theorem ds_one (h1 : PS X st (CanS Γ W f)) : PSs X [st] (CanS Γ W f) := pss_one h1
theorem ds_pass : PS X (.Pass pos) (CanS Γ W sNil) := ps_weak ps_pass fun E σV H ⟨F, G, ρ, σ, h, a, po⟩ => a.nx po
theorem ds_break : PS X (.Break pos) (CanS Γ W sBk) := ps_weak ps_break fun E σV H ⟨F, G, ρ, σ, h, a, po⟩ => po G ρ H σV a.fr a.rl a.st
theorem ds_continue : PS X (.Continue pos) (CanS Γ W sCt) := ps_weak ps_continue fun E σV H ⟨F, G, ρ, σ, h, a, po⟩ => po G ρ H σV a.fr a.rl a.st
theorem ds_never : PS X st (CanS Γ W sStk) := ps_weak ps_never fun E σV H ⟨F, G, ρ, σ, h, a, po⟩ => po
theorem dss_never : PSs X rest (CanS Γ W sStk) := pss_weak pss_never fun E σV H ⟨F, G, ρ, σ, h, a, po⟩ => po
theorem ds_expr (he : PE X e (Can Γ W fe)) (hs : swapsWith e none pos.line X.env = pure false := by rfl) : PS X (.Expr e pos) (CanS Γ W (sExp fe)) :=
  ps_weak (ps_expr he hs) fun E σV H ⟨F, G, ρ, σ, h, a, po⟩ => a.run po fun d h1 G1 ρ1 H1 v p1 a1 _ hv => a1.nx p1
theorem ds_ret (he : PE X e (Can Γ W fe)) : PS X (.Return (some e) pos) (CanS Γ W (sRet fe)) :=
  ps_weak (ps_ret he) fun E σV H ⟨F, G, ρ, σ, h, a, po⟩ => a.run po fun d h1 G1 ρ1 H1 v p1 a1 _ hv => p1 G1 ρ1 H1 σV a1.fr a1.rl a1.st v hv
theorem ds_retN : PS X (.Return none pos) (CanS Γ W sRetN) := ps_weak ps_retN fun E σV H ⟨F, G, ρ, σ, h, a, po⟩ => po G ρ H σV a.fr a.rl a.st _ .non
theorem ds_if (hc : PT X c (CanT Γ W ft)) (ha : PSs X a (CanS Γ W f)) (hb : PSs X b (CanS Γ W g)) : PS X (.If c a b pos) (CanS Γ W (sIf ft f g)) :=
  ps_weak (ps_if hc ha hb) fun E σV H ⟨F, G, ρ, σ, h, a, po⟩ => a.runT po fun d h1 G1 ρ1 H1 p1 a1 => by
    cases d with
    | true => exact iteT ⟨F, G1, ρ1, σ, h1, a1, p1⟩
    | false => exact iteF ⟨F, G1, ρ1, σ, h1, a1, p1⟩
theorem ds_set (i : Nat) (B : Bn Γ k X W) (he : PE X e (Can Γ W fe)) (hi : X.N[i]? = some x := by rfl) (hx : Loc X.env.scope x := by first | exact Or.inl rfl | exact Or.inr rfl) (hs : swapsWith e (some (.Name x p')) pos.line X.env = pure false := by rfl)
    (hf : X.fn x = true ∨ X.env.scope.names.lookup x = some .local := by first | exact .inl rfl | exact .inr rfl) : PS X (.Assign [.Name x p'] e pos) (CanS Γ W (sAsg i fe)) :=
  ps_weak (ps_set B.nd hi hx he hs hf) fun E σV H ⟨F, G, ρ, σ, h, a, po⟩ => a.run po fun d h1 G1 ρ1 H1 v p1 a1 _ hv => (a1.setD hv).nx p1
/-! ### an own list, an own dict -/
/-- x = [..], x a list that this def alone holds -/
def sOwnL (i : Nat) (a : AF) (σ : S) (h : MH) : RS := sBind σ (a σ h) fun ds h1 => if ds.length ≤ 1000000 then .ok .nx (σ.set i (some (.own ds))) h1 else .stk
def sOwnD (i : Nat) (σ : S) (h : MH) : RS := .ok .nx (σ.set i (some (.ownD []))) h
theorem At.f0 {σV : L2.St} {H : Hp} {G : Hp} {ρ : List Addr} {σ : S} {h : MH} (a : At Γ F σV H G ρ σ h) {p : Addr} (hp : H p = none) : F.H p = none := a.fr.none hp
theorem At.newown {σV : L2.St} {H : Hp} {G : Hp} {ρ : List Addr} {σ : S} {h : MH} (a : At Γ F σV H G ρ σ h) {i : Nat} {p : Addr} {o : HO} {x : Sv} (hp : H p = none)
    (new : (∃ vs ds, x = .own ds ∧ o = .lst vs ∧ DsAt Γ G ρ vs ds) ∨ ∃ kvs kds, x = .ownD kds ∧ o = .dK kvs ∧ KvAt Γ G ρ kvs kds) : At Γ F (σV.set i (some (.ref p))) (upd H p o) G ρ (σ.set i (some x)) h := by
  obtain ⟨rl, e⟩ := a.rl.junk (o := o) hp
  exact ⟨rl, a.fr.trans e, a.st.newown hp (a.rl.gnone hp) (a.rl.notIn hp) (a.f0 hp) new⟩
theorem ds_ownL (i : Nat) (B : Bn Γ k X W) {es : List Expr} {lp : Pos} {fa : AF} (ha : PA X es (CanA Γ W fa)) (hi : X.N[i]? = some x := by rfl) (hx : Loc X.env.scope x := by first | exact Or.inl rfl | exact Or.inr rfl) (hs : swapsWith (.List es lp) (some (.Name x p')) pos.line X.env = pure false := by rfl)
    (hf : X.fn x = true ∨ X.env.scope.names.lookup x = some .local := by first | exact .inl rfl | exact .inr rfl) : PS X (.Assign [.Name x p'] (.List es lp) pos) (CanS Γ W (sOwnL i fa)) :=
  ps_weak (ps_set B.nd hi hx (pe_lst ha) hs hf) fun E σV H ⟨F, G, ρ, σ, h, a, po⟩ => a.runA po fun d h1 G1 ρ1 H1 v p1 a1 _ hv => by
    obtain ⟨hz, p1⟩ := PostS.cond p1
    exact ⟨by rw [hv.length]; exact mil hz, fun p hp => (a1.newown hp (.inl ⟨v, d, rfl, rfl, hv⟩)).nx p1⟩
theorem ds_ownD (i : Nat) (B : Bn Γ k X W) {lp : Pos} (hi : X.N[i]? = some x := by rfl) (hx : Loc X.env.scope x := by first | exact Or.inl rfl | exact Or.inr rfl) (hs : swapsWith (.Dict [] [] lp) (some (.Name x p')) pos.line X.env = pure false := by rfl)
    (hf : X.fn x = true ∨ X.env.scope.names.lookup x = some .local := by first | exact .inl rfl | exact .inr rfl) : PS X (.Assign [.Name x p'] (.Dict [] [] lp) pos) (CanS Γ W (sOwnD i)) :=
  ps_weak (ps_set B.nd hi hx pe_dnewK hs hf) fun E σV H ⟨F, G, ρ, σ, h, a, po⟩ => fun p hp => (a.newown hp (.inr ⟨[], [], rfl, rfl, .nil⟩)).nx po
/-- from here on nobody changes it -/
def frzAt (σ : S) (i : Nat) : S := match σ[i]? with
  | some (some (.own ds)) => σ.set i (some (.d (.lst ds)))
  | some (some (.ownD kds)) => σ.set i (some (.d (.dic kds)))
  | _ => σ
def sFrz (i : Nat) (f : SF) (σ : S) (h : MH) : RS := f (frzAt σ i) h
theorem At.frz {σV : L2.St} {H : Hp} {G : Hp} {ρ : List Addr} {σ : S} {h : MH} (a : At Γ F σV H G ρ σ h) (i : Nat) : ∃ G', At Γ F σV H G' ρ (frzAt σ i) h := by
  have main : ∀ (ad : Addr) (o : HO) (d : D), IsOwn σ i → σV[i]? = some (some (.ref ad)) → H ad = some o → G ad = none → ad ∉ ρ → F.H ad = none → (∀ G', Same G G' → G' ad = some o → DAt Γ G' ρ (.ref ad) d) → At Γ F σV H (upd G ad o) ρ (σ.set i (some (.d d))) h := by
    intro ad o d hi ha ho hg hn h0 hd
    have sg := same_upd (o := o) hg
    have nown : ∀ j b, i ≠ j → IsOwn σ j → σV[j]? = some (some (.ref b)) → b ≠ ad := fun j b n oj hb z => by
      subst z
      exact n (a.st.inj i j _ hi oj ha hb)
    refine ⟨⟨fun b u q => ?_, a.rl.len, a.rl.nd, fun b hb => ?_, fun n c b q1 q2 => (a.rl.cell n c b q1 q2).mono sg (fun _ _ z => z) fun _ z => z⟩, ⟨a.fr.g.trans sg, a.fr.r, a.fr.off, a.fr.st, fun b u q => ?_, a.fr.rn⟩, ⟨by rw [List.length_set]; exact a.st.len, fun j e q => ?_, fun j ds q => ?_, fun j ds q => ?_, fun j l b o1 o2 q1 q2 => ?_⟩⟩
    · by_cases hb : b = ad
      · subst hb; rw [upd_same] at q; cases q; exact ho
      · rw [upd_ne hb] at q; exact a.rl.sub b u q
    · have hne : b ≠ ad := fun z => by subst z; exact hn hb
      rw [upd_ne hne]; exact a.rl.new b hb
    · by_cases hb : b = ad
      · subst hb; exact .inr h0
      · rw [upd_ne hb] at q; exact a.fr.gn b u q
    · rcases set_at q with ⟨rfl, z⟩ | ⟨n, z⟩
      · cases z; exact ⟨_, ha, hd _ sg upd_same⟩
      · obtain ⟨w, h1, h2⟩ := a.st.d j e z
        exact ⟨w, h1, h2.mono sg fun _ _ z => z⟩
    · rcases set_at q with ⟨rfl, z⟩ | ⟨n, z⟩
      · cases z
      · obtain ⟨b, vs, h1, h2, h3, h4, r⟩ := a.st.own j ds z
        exact ⟨b, vs, h1, h2, h3.mono sg (fun _ _ z => z), by rw [upd_ne (nown j b n (.inl ⟨ds, z⟩) h1)]; exact h4, r⟩
    · rcases set_at q with ⟨rfl, z⟩ | ⟨n, z⟩
      · cases z
      · obtain ⟨b, vs, h1, h2, h3, h4, r⟩ := a.st.ownD j ds z
        exact ⟨b, vs, h1, h2, h3.mono sg (fun _ _ z => z), by rw [upd_ne (nown j b n (.inr ⟨ds, z⟩) h1)]; exact h4, r⟩
    · obtain ⟨n1, o1⟩ := isOwn_set (fun _ z => by cases z) (fun _ z => by cases z) o1
      obtain ⟨n2, o2⟩ := isOwn_set (fun _ z => by cases z) (fun _ z => by cases z) o2
      exact a.st.inj j l b o1 o2 q1 q2
  unfold frzAt
  split
  · rename_i ds e
    obtain ⟨ad, vs, h1, h2, h3, h4, h5, h6⟩ := a.st.own i ds e
    exact ⟨_, main ad _ _ (.inl ⟨ds, e⟩) h1 h2 h4 h5 h6 fun G' eg e' => .lst e' (h3.mono eg fun _ _ z => z)⟩
  · rename_i ds e
    obtain ⟨ad, vs, h1, h2, h3, h4, h5, h6⟩ := a.st.ownD i ds e
    exact ⟨_, main ad _ _ (.inr ⟨ds, e⟩) h1 h2 h4 h5 h6 fun G' eg e' => .dic e' (h3.mono eg fun _ _ z => z)⟩
  · exact ⟨G, a⟩
theorem ds_frz (i : Nat) (hs : PS X st (CanS Γ W f)) : PS X st (CanS Γ W (sFrz i f)) := ps_weak hs fun E σV H ⟨F, G, ρ, σ, h, a, po⟩ =>
  let ⟨G', a'⟩ := a.frz i
  ⟨F, G', ρ, frzAt σ i, h, a', po⟩
end
/-! ### what is written -/
/-- x.append(e), x an own list | a cell -/
def sApp (i : Nat) (e : EF) (σ : S) (h : MH) : RS := match σ[i]? with
  | some (some (.own ds)) => sBind σ (e σ h) fun d h1 => if ds.length < 1000000 then .ok .nx (σ.set i (some (.own (ds ++ [d])))) h1 else .stk
  | some (some (.d (.ref n))) => match h[n]? with
    | some (.lst _) => sBind σ (e σ h) fun d h1 => match h1[n]? with
      | some (.lst ds) => if ds.length < 1000000 then .ok .nx σ (h1.set n (.lst (ds ++ [d]))) else .stk
      | _ => .stk
    | _ => .stk
  | _ => .stk
def sExt (i : Nat) (e : EF) (σ : S) (h : MH) : RS := match σ[i]? with
  | some (some (.own ds)) => sBind σ (e σ h) fun d h1 => match d with
    | .lst es => if ds.length + es.length ≤ 1000000 then .ok .nx (σ.set i (some (.own (ds ++ es)))) h1 else .stk
    | _ => .stk
  | _ => .stk
/-- o[j] = e, o a cell -/
def sSetL (o j e : EF) (σ : S) (h : MH) : RS := sBind σ (e σ h) fun d h1 => sBind σ (o σ h1) fun x h2 => sBind σ (j σ h2) fun y h3 => match x, y with
  | .ref n, .int i => match h3[n]? with
    | some (.lst ds) => match ixN ds.length i with
      | some m => .ok .nx σ (h3.set n (.lst (ds.set m d)))
      | none => .stk
    | _ => .stk
  | _, _ => .stk
/-- in its place, or at the end -/
def putD (kds : List (Key × D)) (k : Key) (d : D) : List (Key × D) :=
  if (kds.any fun kd => decide (kd.1 = k)) = true then kds.map (fun kd => if kd.1 = k then (kd.1, d) else kd) else kds ++ [(k, d)]
def sSetK (o j e : EF) (σ : S) (h : MH) : RS := sBind σ (e σ h) fun d h1 => sBind σ (o σ h1) fun x h2 => sBind σ (j σ h2) fun y h3 => match x, keyD y with
  | .ref n, some k => match h3[n]? with
    | some (.dic kds) => if kds.length < 1000000 then .ok .nx σ (h3.set n (.dic (putD kds k d))) else .stk
    | _ => .stk
  | _, _ => .stk
/-- x[j] = e, x an own dict -/
def sSetO (i : Nat) (j e : EF) (σ : S) (h : MH) : RS := sBind σ (e σ h) fun d h1 => match σ[i]? with
  | some (some (.ownD kds)) => sBind σ (j σ h1) fun y h3 => match keyD y with
    | some k => if kds.length < 1000000 then .ok .nx (σ.set i (some (.ownD (putD kds k d)))) h3 else .stk
    | none => .stk
  | _ => .stk
/-- o.f = e, o an instance that is a cell -/
def setFD (ds : List D) (i : Nat) (d : D) : Option (List D) := if i < ds.length then some (ds.set i d) else if i = ds.length then some (ds ++ [d]) else none
def sSetF (c i : Nat) (o e : EF) (σ : S) (h : MH) : RS := sBind σ (e σ h) fun d h1 => sBind σ (o σ h1) fun x h2 => match x with
  | .ref n => match h2[n]? with
    | some (.ins c' ds) => if c' = c then match setFD ds i d with
        | some ds' => .ok .nx σ (h2.set n (.ins c ds'))
        | none => .stk
      else .stk
    | _ => .stk
  | _ => .stk
section
variable {Γ : Gm}
theorem KvAt.any {G : Hp} {ρ : List Addr} (k : Key) : ∀ {kvs : List (Key × V)} {kds : List (Key × D)}, KvAt Γ G ρ kvs kds → (kvs.any fun kv => decide (kv.1 = k)) = kds.any fun kv => decide (kv.1 = k)
  | _, _, .nil => rfl
  | _, _, .cons h hs => by rw [List.any_cons, List.any_cons, KvAt.any k hs]
theorem KvAt.map {G : Hp} {ρ : List Addr} {v : V} {d : D} (k : Key) (hv : DAt Γ G ρ v d) : ∀ {kvs : List (Key × V)} {kds : List (Key × D)}, KvAt Γ G ρ kvs kds →
    KvAt Γ G ρ (kvs.map fun kv => if kv.1 = k then (kv.1, v) else kv) (kds.map fun kd => if kd.1 = k then (kd.1, d) else kd)
  | _, _, .nil => .nil
  | _, _, .cons (k := j) h hs => by
    rw [List.map_cons, List.map_cons]
    by_cases e : j = k
    · rw [if_pos e, if_pos e]; exact .cons hv (KvAt.map k hv hs)
    · rw [if_neg e, if_neg e]; exact .cons h (KvAt.map k hv hs)
theorem KvAt.snoc {G : Hp} {ρ : List Addr} {v : V} {d : D} (k : Key) (hv : DAt Γ G ρ v d) : ∀ {kvs : List (Key × V)} {kds : List (Key × D)}, KvAt Γ G ρ kvs kds → KvAt Γ G ρ (kvs ++ [(k, v)]) (kds ++ [(k, d)])
  | _, _, .nil => .cons hv .nil
  | _, _, .cons h hs => .cons h (KvAt.snoc k hv hs)
theorem KvAt.put {G : Hp} {ρ : List Addr} {v : V} {d : D} {k : Key} {kvs : List (Key × V)} {kds : List (Key × D)} (h : KvAt Γ G ρ kvs kds) (hv : DAt Γ G ρ v d) : KvAt Γ G ρ (putK kvs k v) (putD kds k d) := by
  unfold putK putD
  rw [h.any k]
  by_cases e : (kds.any fun kd => decide (kd.1 = k)) = true
  · rw [if_pos e, if_pos e]; exact h.map k hv
  · rw [if_neg e, if_neg e]; exact h.snoc k hv
theorem KvAt.length {G : Hp} {ρ : List Addr} : ∀ {kvs : List (Key × V)} {kds : List (Key × D)}, KvAt Γ G ρ kvs kds → kvs.length = kds.length
  | _, _, .nil => rfl
  | _, _, .cons _ h => congrArg (· + 1) h.length
theorem putF_zip {f : Str} {y : V} : ∀ {fs : List Str} {vs : List V} {i : Nat}, fs.Nodup → fs[i]? = some f → i < vs.length → putF f y (fs.zip vs) = fs.zip (vs.set i y)
  | [], _, _, _, h, _ => by simp at h
  | _ :: _, [], _, _, _, h => by simp at h
  | g :: fs, w :: vs, 0, nd, h1, _ => by
    simp at h1
    subst h1
    simp [putF]
  | g :: fs, w :: vs, i + 1, nd, h1, h2 => by
    have hne : ¬ g = f := fun e => (List.nodup_cons.mp nd).1 (by rw [e]; exact List.mem_of_getElem? (by simpa using h1))
    show (if g = f then _ else (g, w) :: putF f y (fs.zip vs)) = _
    rw [if_neg hne, putF_zip (i := i) (List.nodup_cons.mp nd).2 (by simpa using h1) (by simpa using h2)]
    rfl
theorem putF_zip_new {f : Str} {y : V} : ∀ {fs : List Str} {vs : List V}, fs.Nodup → fs[vs.length]? = some f → putF f y (fs.zip vs) = fs.zip (vs ++ [y])
  | [], _, _, h => by simp at h
  | g :: fs, [], nd, h => by
    simp at h
    subst h
    simp [putF]
  | g :: fs, w :: vs, nd, h => by
    have hne : ¬ g = f := fun e => (List.nodup_cons.mp nd).1 (by rw [e]; exact List.mem_of_getElem? (by simpa using h))
    show (if g = f then _ else (g, w) :: putF f y (fs.zip vs)) = _
    rw [if_neg hne, putF_zip_new (List.nodup_cons.mp nd).2 (by simpa using h)]
    rfl
end
section
variable {Γ : Gm} {k : Nat} {X : Cx} {W : WX} {F : Fr0} {pos p' p1 p2 p3 : Pos} {e o j : Expr} {fe fo fj : EF} {x f : Str}
theorem At.own {σV : L2.St} {H : Hp} {G : Hp} {ρ : List Addr} {σ : S} {h : MH} (a : At Γ F σV H G ρ σ h) {i : Nat} {ad : Addr} {ob : HO} {sv : Sv} (hi : IsOwn σ i) (ha : σV[i]? = some (some (.ref ad)))
    (new : (∃ vs ds, sv = .own ds ∧ ob = .lst vs ∧ DsAt Γ G ρ vs ds) ∨ ∃ kvs kds, sv = .ownD kds ∧ ob = .dK kvs ∧ KvAt Γ G ρ kvs kds) : At Γ F σV (upd H ad ob) G ρ (σ.set i (some sv)) h := by
  obtain ⟨ad', u, e1, e2, e3, e4, e5⟩ := own_there a.st hi
  rw [ha] at e1
  cases e1
  refine ⟨⟨fun b o q => ?_, a.rl.len, a.rl.nd, a.rl.new, fun n c b q1 q2 => (a.rl.cell n c b q1 q2).mono (Same.refl _) (fun _ _ z => z) fun o z => ?_⟩, ⟨a.fr.g, a.fr.r, fun b o q1 q2 => ?_, fun b o q => ?_, a.fr.gn, a.fr.rn⟩, a.st.reown hi ha new⟩
  · rw [upd_ne (ne_of_none q e3)]; exact a.rl.sub b o q
  · have hne : b ≠ ad := fun z2 => by subst z2; exact e4 (List.mem_iff_getElem?.mpr ⟨n, q2⟩)
    rw [upd_ne hne]; exact z
  · rw [upd_ne (ne_of_none q1 e5)]; exact a.fr.off b o q1 q2
  · obtain ⟨o', z⟩ := a.fr.st b o q
    by_cases hb : b = ad
    · subst hb; exact ⟨_, upd_same⟩
    · exact ⟨o', by rw [upd_ne hb]; exact z⟩
theorem At.cell {σV : L2.St} {H : Hp} {G : Hp} {ρ : List Addr} {σ : S} {h : MH} (a : At Γ F σV H G ρ σ h) {n : Nat} {ad : Addr} {c : Cell} {ob : HO} (hn : ρ[n]? = some ad) (new : CellAt Γ G ρ (upd H ad ob) ad c) : At Γ F σV (upd H ad ob) G ρ σ (h.set n c) := by
  obtain ⟨rl, e⟩ := a.rl.set hn new
  exact ⟨rl, a.fr.trans e, a.st.ext e⟩
theorem ds_app (i : Nat) (hp : PE X (.Call (.Attribute (.Name x p1) "append" p2) [e] [] p3) (tBM X.K "list" rAppend (tVar i) (tCons (Can Γ W fe) tNil)))
    (hs : swapsWith (.Call (.Attribute (.Name x p1) "append" p2) [e] [] p3) none pos.line X.env = pure false := by rfl) : PS X (.Expr (.Call (.Attribute (.Name x p1) "append" p2) [e] [] p3) pos) (CanS Γ W (sApp i fe)) :=
  ps_weak (ps_expr hp hs) fun E σV H ⟨F, G, ρ, σ, h, a, po⟩ => by
    unfold sApp at po
    split at po
    · rename_i ds q
      obtain ⟨ad, vs, h1, h2, h3, h4, h5, h6⟩ := a.st.own i ds q
      refine ⟨_, h1, .inl ⟨rfl, _, .inl (.inl h2)⟩, a.run po fun d hh G1 ρ1 H1 v p1 a1 e1 hv => ?_⟩
      obtain ⟨hz, p1⟩ := PostS.cond p1
      obtain ⟨ad', ws, g1, g2, g3, _⟩ := a1.st.own i ds q
      rw [h1] at g1
      cases g1
      exact ⟨ad, ws, v, rfl, rfl, g2, by rw [g3.length]; exact mil' hz, (a1.own (.inl ⟨ds, q⟩) h1 (.inl ⟨ws ++ [v], ds ++ [d], rfl, rfl, g3.append (.cons hv .nil)⟩)).nx p1⟩
    · rename_i n q
      obtain ⟨w, h1, hw⟩ := a.st.d i _ q
      cases hw with
      | @ref ad _ hn =>
        split at po
        · rename_i ds0 hc0
          obtain ⟨ws0, g0, _⟩ := a.rl.cell n _ ad hc0 hn
          refine ⟨_, h1, .inl ⟨rfl, _, .inl (.inl g0)⟩, a.run po fun d hh G1 ρ1 H1 v p1 a1 e1 hv => ?_⟩
          split at p1
          · rename_i ds hc
            obtain ⟨hz, p1⟩ := PostS.cond p1
            have hn1 := e1.r _ _ hn
            obtain ⟨ws, g2, g3⟩ := a1.rl.cell n _ ad hc hn1
            exact ⟨ad, ws, v, rfl, rfl, g2, by rw [g3.length]; exact mil' hz, (a1.cell (c := .lst (ds ++ [d])) (ob := .lst (ws ++ [v])) hn1 ⟨ws ++ [v], upd_same, g3.append (.cons hv .nil)⟩).nx p1⟩
          · exact p1.elim
        · exact po.elim
    · exact po.elim
end
end Mi

set_option Elab.async false
set_option linter.all false
set_option maxRecDepth 100000
set_option maxHeartbeats 2000000
/-! Mi7: lists, dicts and fields written; x op= e; targets of several names. -/
namespace Mi
open PySem PySem.Spec PyProof.Rows L2

/-- x += e (ints, texts); the operator's meaning g -/
def sAug (i : Nat) (g : GF) (e : EF) (σ : S) (h : MH) : RS := match σ[i]? with
  | some (some (.d x)) => sBind σ (e σ h) fun d h1 => sBind σ (g h1 x d) fun z h2 => .ok .nx (σ.set i (some (.d z))) h2
  | _ => .stk
/-- o.f += e -/
def sAugF (c i : Nat) (g : GF) (o e : EF) (σ : S) (h : MH) : RS := sBind σ (o σ h) fun x h1 => match x with
  | .ref n => match h1[n]? with
    | some (.ins c' ds) => if c' = c then match ds[i]? with
        | some y => sBind σ (e σ h1) fun d h2 => sBind σ (g h2 y d) fun z h3 => match h3[n]? with
          | some (.ins c'' ds') => if c'' = c ∧ i < ds'.length then .ok .nx σ (h3.set n (.ins c (ds'.set i z))) else .stk
          | _ => .stk
        | none => .stk
      else .stk
    | _ => .stk
  | _ => .stk
section
variable {Γ : Gm} {k : Nat} {X : Cx} {W : WX} {F : Fr0} {pos p' p1 p2 p3 : Pos} {e o j : Expr} {fe fo fj : EF} {x f : Str} {g : GF}
theorem ds_ext (i : Nat) (hp : PE X (.Call (.Attribute (.Name x p1) "extend" p2) [e] [] p3) (tBM X.K "list" rExtend (tVar i) (tCons (Can Γ W fe) tNil)))
    (hs : swapsWith (.Call (.Attribute (.Name x p1) "extend" p2) [e] [] p3) none pos.line X.env = pure false := by rfl) : PS X (.Expr (.Call (.Attribute (.Name x p1) "extend" p2) [e] [] p3) pos) (CanS Γ W (sExt i fe)) :=
  ps_weak (ps_expr hp hs) fun E σV H ⟨F, G, ρ, σ, h, a, po⟩ => by
    unfold sExt at po
    split at po
    · rename_i ds q
      obtain ⟨ad, vs, h1, h2, h3, h4, h5, h6⟩ := a.st.own i ds q
      refine ⟨_, h1, .inl ⟨rfl, _, .inl (.inl h2)⟩, a.run po fun d hh G1 ρ1 H1 v p1 a1 e1 hv => ?_⟩
      cases hv <;> first | exact (show False from p1).elim | skip
      rename_i b ws es hb hws
      obtain ⟨hz, p1⟩ := PostS.cond p1
      obtain ⟨ad', us, g1, g2, g3, _⟩ := a1.st.own i ds q
      rw [h1] at g1
      cases g1
      exact ⟨ad, b, us, ws, rfl, rfl, g2, a1.rl.sub _ _ hb, by rw [g3.length, hws.length]; exact mil hz, (a1.own (.inl ⟨ds, q⟩) h1 (.inl ⟨us ++ ws, ds ++ es, rfl, rfl, g3.append hws⟩)).nx p1⟩
    · exact po.elim
theorem ds_setL (he : PE X e (Can Γ W fe)) (ho : PE X o (Can Γ W fo)) (hj : PE X j (Can Γ W fj))
    (ha : ∀ v, assign (.Subscript o j p1) X.env v = (do
      let ov ← holding [v] (eval o X.env)
      let iv ← holding [v, ov] (eval j X.env)
      standAt p1
      holding [v, ov, iv] (setItem ov iv v)
      release [v, ov, iv] []) := by intro _; rfl) (hs : swapsWithSole [.Subscript o j p1] e pos.line X.env = pure false := by rfl) (hw : swappedStores [.Subscript o j p1] e X.env = pure none := by rfl)
    (h1 : (assignEach [.Subscript o j p1] X.env).map (·.2) = [assign (.Subscript o j p1) X.env] := by rfl) : PS X (.Assign [.Subscript o j p1] e pos) (CanS Γ W (sSetL fo fj fe)) :=
  ps_weak (ps_asg he (pg_sub ho hj set_list ha) hs hw h1) fun E σV H ⟨F, G, ρ, σ, h, a, po⟩ => a.run po fun d hh G1 ρ1 H1 v p1 a1 e1 hv => a1.run p1 fun d2 hh2 G2 ρ2 H2 v2 p2 a2 e2 hv2 => a2.run p2 fun d3 hh3 G3 ρ3 H3 v3 p3 a3 e3 hv3 => by
    have hv' := (hv.mono e2.g e2.r).mono e3.g e3.r
    have hv2' := hv2.mono e3.g e3.r
    split at p3
    · rename_i n i
      cases hv3
      cases hv2' with
      | @ref ad _ hn =>
        split at p3
        · rename_i ds hc
          obtain ⟨ws, g2, g3⟩ := a3.rl.cell n _ ad hc hn
          split at p3
          · rename_i m hm
            exact ⟨ad, ws, i, m, rfl, rfl, g2, by rw [g3.length]; exact hm, (a3.cell (c := .lst (ds.set m d)) (ob := .lst (ws.set m v)) hn ⟨ws.set m v, upd_same, g3.set hv' m⟩).nx p3⟩
          · exact p3.elim
        · exact p3.elim
    · exact p3.elim
theorem ds_setK (B : Bn Γ k X W) (he : PE X e (Can Γ W fe)) (ho : PE X o (Can Γ W fo)) (hj : PE X j (Can Γ W fj)) (hs : swapsWith e (some (.Subscript o j p1)) pos.line X.env = pure false := by rfl) : PS X (.Assign [.Subscript o j p1] e pos) (CanS Γ W (sSetK fo fj fe)) :=
  ps_weak (ps_dput B.u1 ho hj he hs) fun E σV H ⟨F, G, ρ, σ, h, a, po⟩ => a.run po fun d hh G1 ρ1 H1 v p1 a1 e1 hv => a1.run p1 fun d2 hh2 G2 ρ2 H2 v2 p2 a2 e2 hv2 => a2.run p2 fun d3 hh3 G3 ρ3 H3 v3 p3 a3 e3 hv3 => by
    have hv' := (hv.mono e2.g e2.r).mono e3.g e3.r
    have hv2' := hv2.mono e3.g e3.r
    split at p3
    · rename_i n kk hk
      have := keyD_at hv3 hk
      subst this
      cases hv2' with
      | @ref ad _ hn =>
        split at p3
        · rename_i kds hc
          obtain ⟨ws, g2, g3⟩ := a3.rl.cell n _ ad hc hn
          obtain ⟨hz, p3⟩ := PostS.cond p3
          exact ⟨ad, _, rfl, DPut.k g2 (by rw [g3.length]; exact mil' hz), (a3.cell (c := .dic (putD kds kk d)) (ob := .dK (putK ws kk v)) hn ⟨putK ws kk v, upd_same, g3.put hv'⟩).nx p3⟩
        · exact p3.elim
    · exact p3.elim
/-- x[j] = e, x an own dict -/
theorem ds_setO (i : Nat) (B : Bn Γ k X W) (he : PE X e (Can Γ W fe)) (hx : PE X (.Name x p2) (tVar i)) (hj : PE X j (Can Γ W fj)) (hs : swapsWith e (some (.Subscript (.Name x p2) j p1)) pos.line X.env = pure false := by rfl) :
    PS X (.Assign [.Subscript (.Name x p2) j p1] e pos) (CanS Γ W (sSetO i fj fe)) :=
  ps_weak (ps_dput B.u1 hx hj he hs) fun E σV H ⟨F, G, ρ, σ, h, a, po⟩ => a.run po fun d hh G1 ρ1 H1 v p1 a1 e1 hv => by
    split at p1
    · rename_i kds q
      obtain ⟨ad, ws, h1, _⟩ := a1.st.ownD i kds q
      refine ⟨_, h1, a1.run p1 fun d3 hh3 G3 ρ3 H3 v3 p3 a3 e3 hv3 => ?_⟩
      split at p3
      · rename_i kk hk
        have := keyD_at hv3 hk
        subst this
        obtain ⟨hz, p3⟩ := PostS.cond p3
        obtain ⟨ad', us, g1, g2, g3, _⟩ := a3.st.ownD i kds q
        rw [h1] at g1
        cases g1
        exact ⟨ad, _, rfl, DPut.k g2 (by rw [g3.length]; exact mil' hz), (a3.own (.inr ⟨kds, q⟩) h1 (.inr ⟨_, _, rfl, rfl, g3.put (hv.mono e3.g e3.r)⟩)).nx p3⟩
      · exact p3.elim
    · exact p1.elim
theorem ins_set {c i : Nat} (hc : ClsF Γ c) (hf : (Γ.flds c)[i]? = some f) {G : Hp} {ρ : List Addr} {vs : List V} {ds ds' : List D} {v : V} {d : D} (hl : vs.length ≤ (Γ.flds c).length) (h : DsAt Γ G ρ vs ds) (hv : DAt Γ G ρ v d) (e : setFD ds i d = some ds') :
    ∃ vs', putF f v ((Γ.flds c).zip vs) = (Γ.flds c).zip vs' ∧ vs'.length ≤ (Γ.flds c).length ∧ DsAt Γ G ρ vs' ds' := by
  unfold setFD at e
  by_cases h1 : i < ds.length
  · rw [if_pos h1] at e
    cases e
    exact ⟨vs.set i v, putF_zip hc.nd hf (by rw [h.length]; exact h1), by rw [List.length_set]; exact hl, h.set hv i⟩
  · rw [if_neg h1] at e
    by_cases h2 : i = ds.length
    · rw [if_pos h2] at e
      cases e
      subst h2
      rw [← h.length] at hf
      have hlt := (List.getElem?_eq_some_iff.mp hf).1
      exact ⟨vs ++ [v], putF_zip_new hc.nd hf, by rw [List.length_append]; exact hlt, h.append (.cons hv .nil)⟩
    · rw [if_neg h2] at e; cases e
theorem ds_setF (B : Bn Γ k X W) {c i : Nat} (hc : ClsF Γ c) (he : PE X e (Can Γ W fe)) (ho : PE X o (Can Γ W fo)) (hf : (Γ.flds c)[i]? = some f) (hs : swapsWith e (some (.Attribute o f p')) pos.line X.env = pure false := by rfl) :
    PS X (.Assign [.Attribute o f p'] e pos) (CanS Γ W (sSetF c i fo fe)) :=
  ps_weak (ps_fld ho he hs) fun E σV H ⟨F, G, ρ, σ, h, a, po⟩ => a.run po fun d hh G1 ρ1 H1 v p1 a1 e1 hv => a1.run p1 fun d2 hh2 G2 ρ2 H2 v2 p2 a2 e2 hv2 => by
    have hv' := hv.mono e2.g e2.r
    split at p2
    · rename_i n
      cases hv2 with
      | @ref ad _ hn =>
        split at p2
        · rename_i c' ds hcell
          by_cases hcc : c' = c
          · subst hcc
            rw [if_pos rfl] at p2
            obtain ⟨dx, ws, g2, gl, g3⟩ := a2.rl.cell n _ ad hcell hn
            split at p2
            · rename_i ds' hs'
              obtain ⟨vs', z1, z2, z3⟩ := ins_set hc hf gl g3 hv' hs'
              refine ⟨ad, _, dx, _, rfl, g2, by rw [B.hK]; exact hc.cl, by rw [B.hK]; exact hc.no f (List.mem_of_getElem? hf), ?_, ?_⟩
              · rw [List.length_zip]
                have := hc.few
                omega
              · rw [z1]
                exact (a2.cell (c := .ins c' ds') (ob := .ins (Γ.cls c') dx ((Γ.flds c').zip vs')) hn ⟨dx, vs', upd_same, z2, z3⟩).nx p2
            · exact p2.elim
          · rw [if_neg hcc] at p2; exact p2.elim
        · exact p2.elim
    · exact p2.elim
def tIpOf (r : R2) : TIp := fun x y H Q => r x y H Q
theorem ds_aug (i : Nat) (B : Bn Γ k X W) {op : Operator} {r : R2} (ho : OpR X (inplaceOp op) r) (v : V2 Γ r g) (he : PE X e (Can Γ W fe)) (hi : X.N[i]? = some x := by rfl) (hx : Loc X.env.scope x := by first | exact Or.inl rfl | exact Or.inr rfl)
    (hf : X.fn x = true ∨ X.env.scope.names.lookup x = some .local := by first | exact .inl rfl | exact .inr rfl) : PS X (.AugAssign (.Name x p') op e pos) (CanS Γ W (sAug i g fe)) :=
  ps_weak (ps_aug (ti := tIpOf r) B.nd hi hx he (fun pins s σ H x y v u Q I rx ry h => ho pins s σ H x y v u Q I rx ry h) hf) fun E σV H ⟨F, G, ρ, σ, h, a, po⟩ => by
    unfold sAug at po
    split at po
    · rename_i dx q
      obtain ⟨w, h1, hw⟩ := a.st.d i dx q
      refine ⟨w, h1, a.run po fun d hh G1 ρ1 H1 u p1 a1 e1 hu => ?_⟩
      exact v a1.rl (hw.mono e1.g e1.r) hu ((p1.bind a1).mono fun z h2 G2 ρ2 H2 e2 rl2 ⟨p2, a2⟩ y hy => (a2.setD hy).nx p2)
    · exact po.elim
def dAddI (h : MH) (x y : D) : R D := match x, y with
  | .int i, .int j => .ok (.int (i + j)) h
  | .str a, .str b => if a.length + b.length ≤ 1000000 then .ok (.str (a ++ b)) h else .stk
  | _, _ => .stk
theorem v_addI : V2 Γ (fun x y H Q => rI0 (fun i j => .int (i + j)) x y H Q ∨ ∃ i j, x = .str i ∧ y = .str j ∧ i.length + j.length ≤ sizeLine ∧ Q (.str (i ++ j)) H) dAddI := by
  intro W σV H Q G ρ h x y dx dy rl hx hy po
  cases hx <;> cases hy <;> first | exact (show False from po).elim | skip
  · exact .inl ⟨_, _, rfl, rfl, po.now rl _ (.int _)⟩
  · obtain ⟨hz, po⟩ := Post.cond po
    exact .inr ⟨_, _, rfl, rfl, mil hz, po.now rl _ (.str _)⟩
def dAddN (h : MH) (x y : D) : R D := match x, y with
  | .int i, .int j => .ok (.int (i + j)) h
  | _, _ => .stk
theorem v_inAdd : V2 Γ L2.rAdd dAddN := by
  intro W σV H Q G ρ h x y dx dy rl hx hy po
  cases hx <;> cases hy <;> first | exact (show False from po).elim | skip
  exact ⟨_, _, rfl, rfl, po.now rl _ (.int _)⟩
theorem ds_augAdd (i : Nat) (B : Bn Γ k X W) (he : PE X e (Can Γ W fe)) (hi : X.N[i]? = some x := by rfl) (hx : Loc X.env.scope x := by first | exact Or.inl rfl | exact Or.inr rfl)
    (hf : X.fn x = true ∨ X.env.scope.names.lookup x = some .local := by first | exact .inl rfl | exact .inr rfl) : PS X (.AugAssign (.Name x p') .Add e pos) (CanS Γ W (sAug i dAddI fe)) :=
  ds_aug i B (iop_add.or iop_add_str) v_addI he hi hx hf
theorem ds_augSub (i : Nat) (B : Bn Γ k X W) (he : PE X e (Can Γ W fe)) (hi : X.N[i]? = some x := by rfl) (hx : Loc X.env.scope x := by first | exact Or.inl rfl | exact Or.inr rfl)
    (hf : X.fn x = true ∨ X.env.scope.names.lookup x = some .local := by first | exact .inl rfl | exact .inr rfl) : PS X (.AugAssign (.Name x p') .Sub e pos) (CanS Γ W (sAug i dSub fe)) :=
  ds_aug i B iop_sub v_sub he hi hx hf
theorem ds_augF (B : Bn Γ k X W) {c i : Nat} (hc : ClsF Γ c) {op : Operator} {rd : V → V → Hp → VK → Prop} (hop : InOp X op rd) (v : V2 Γ rd g) (he : PE X e (Can Γ W fe)) (ho : PE X o (Can Γ W fo)) (hf : (Γ.flds c)[i]? = some f) :
    PS X (.AugAssign (.Attribute o f p') op e pos) (CanS Γ W (sAugF c i g fo fe)) :=
  ps_weak (ps_fldaug ho he hop) fun E σV H ⟨F, G, ρ, σ, h, a, po⟩ => a.run po fun d hh G1 ρ1 H1 w p1 a1 e1 hw => by
    split at p1
    · rename_i n
      cases hw with
      | @ref ad _ hn =>
        split at p1
        · rename_i c' ds hcell
          by_cases hcc : c' = c
          · subst hcc
            rw [if_pos rfl] at p1
            obtain ⟨dx, ws, g2, gl, g3⟩ := a1.rl.cell n _ ad hcell hn
            split at p1
            · rename_i y hy
              obtain ⟨u, hu, du⟩ := g3.get hy
              refine ⟨ad, _, dx, _, u, rfl, g2, by rw [B.hK]; exact hc.cl, by rw [B.hK]; exact hc.no f (List.mem_of_getElem? hf), lookup_zip hc.nd hf hu, a1.run p1 fun d2 hh2 G2 ρ2 H2 v2 p2 a2 e2 hv2 => ?_⟩
              refine v a2.rl (du.mono e2.g e2.r) hv2 ((p2.bind a2).mono fun z h3 G3 ρ3 H3 e3 rl3 ⟨p3, a3⟩ zv hz => ?_)
              have hn3 := e3.r _ _ (e2.r _ _ hn)
              split at p3
              · rename_i c2 ds2 hcell2
                by_cases hc2 : c2 = c' ∧ i < ds2.length
                · rw [if_pos hc2] at p3
                  obtain ⟨hc2, hlt⟩ := hc2
                  subst hc2
                  obtain ⟨dx2, ws2, k2, kl, k3⟩ := a3.rl.cell n _ ad hcell2 hn3
                  refine ⟨dx2, _, k2, ?_, ?_⟩
                  · rw [List.length_zip]
                    have := hc.few
                    omega
                  · rw [putF_zip hc.nd hf (by rw [k3.length]; exact hlt)]
                    exact (a3.cell (c := .ins c2 (ds2.set i z)) (ob := .ins (Γ.cls c2) dx2 ((Γ.flds c2).zip (ws2.set i zv))) hn3 ⟨dx2, ws2.set i zv, upd_same, by rw [List.length_set]; exact kl, k3.set hz i⟩).nx p3
                · rw [if_neg hc2] at p3; exact p3.elim
              · exact p3.elim
            · exact p1.elim
          · rw [if_neg hcc] at p1; exact p1.elim
        · exact p1.elim
    · exact p1.elim
end

/-! ### targets -/
/-- what a target does with a value -/
abbrev GT := D → S → Option S
def tgName (i : Nat) (d : D) (σ : S) : Option S := some (σ.set i (some (.d d)))
abbrev GTs := List D → S → Option S
def tgNil (ds : List D) (σ : S) : Option S := match ds with
  | [] => some σ
  | _ => none
def tgCons (t : GT) (r : GTs) (ds : List D) (σ : S) : Option S := match ds with
  | d :: ds => (t d σ).bind (r ds)
  | [] => none
def tgTup (r : GTs) (d : D) (σ : S) : Option S := match d with
  | .tup ds => r ds σ
  | _ => none
def tgLst (r : GTs) (d : D) (σ : S) : Option S := match d with
  | .lst ds => r ds σ
  | _ => none
def CanG (Γ : Gm) (is : List Nat) (g : GT) : TG := fun v σV H Q => ∃ F G ρ σ h d, At Γ F σV H G ρ σ h ∧ DAt Γ G ρ v d ∧ ∃ σ', g d σ = some σ' ∧ ∀ σV' G' H', Ext G ρ H G' ρ H' → At Γ F σV' H' G' ρ σ' h → (σV'.length = σV.length ∧ ∀ j, j ∉ is → σV'[j]? = σV[j]?) → Q σV' H'
def CanGs (Γ : Gm) (is : List Nat) (g : GTs) : TGs := fun vs σV H Q => ∃ F G ρ σ h ds, At Γ F σV H G ρ σ h ∧ DsAt Γ G ρ vs ds ∧ ∃ σ', g ds σ = some σ' ∧ ∀ σV' G' H', Ext G ρ H G' ρ H' → At Γ F σV' H' G' ρ σ' h → (σV'.length = σV.length ∧ ∀ j, j ∉ is → σV'[j]? = σV[j]?) → Q σV' H'
/-- e is stored to a target -/
def sTo (t : GT) (e : EF) (σ : S) (h : MH) : RS := sBind σ (e σ h) fun d h1 => match t d σ with
  | some σ' => .ok .nx σ' h1
  | none => .stk
/-- x, y = a, b -/
def sPar (is : List Nat) (a : AF) (σ : S) (h : MH) : RS := sBind σ (a σ h) fun ds h1 => if ds.length = is.length then .ok .nx ((is.zip ds).foldl (fun σ p => σ.set p.1 (some (.d p.2))) σ) h1 else .stk
section
variable {Γ : Gm} {k n : Nat} {X : Cx} {W : WX} {F : Fr0} {pos p' p1 p2 p3 pt px py pz : Pos} {e : Expr} {es : List Expr} {fe : EF} {fa : AF} {x y z : Str} {t : GT} {r : GTs}
theorem pg_weak {tg : Expr} {g g' : TG} (h : PG X tg g) (w : ∀ v σ H Q, g' v σ H Q → g v σ H Q) : PG X tg g' := ⟨fun pins s σ H v u Q I r q => h.run pins s σ H v u Q I r (w v σ H Q q)⟩
theorem pgs_weak {tg : List Expr} {g g' : TGs} (h : PGs X tg g) (w : ∀ v σ H Q, g' v σ H Q → g v σ H Q) : PGs X tg g' := ⟨fun pins s σ H v u Q I r q => h.run pins s σ H v u Q I r (w v σ H Q q)⟩
theorem dg_name (i : Nat) (B : Bn Γ k X W) (hi : X.N[i]? = some x := by rfl) (hx : Loc X.env.scope x := by first | exact Or.inl rfl | exact Or.inr rfl) (hf : X.fn x = true ∨ X.env.scope.names.lookup x = some .local := by first | exact .inl rfl | exact .inr rfl) : PG X (.Name x pos) (CanG Γ [i] (tgName i)) :=
  pg_weak (pg_name B.nd hi hx hf) fun v σV H Q ⟨F, G, ρ, σ, h, d, a, hv, σ', e, q⟩ => by
    cases e
    exact q _ G H (Ext.refl _ _ _) (a.setD hv) ⟨List.length_set, fun j hj => List.getElem?_set_ne fun z => hj (by simp [z])⟩
theorem dgs_nil : PGs X [] (CanGs Γ [] tgNil) := pgs_weak pgs_nil fun vs σV H Q ⟨F, G, ρ, σ, h, ds, a, hv, σ', e, q⟩ => by
  unfold tgNil at e
  split at e
  · cases e; cases hv; exact ⟨rfl, q _ G H (Ext.refl _ _ _) a ⟨rfl, fun _ _ => rfl⟩⟩
  · cases e
theorem dgs_cons {is js : List Nat} (h1 : PG X e (CanG Γ is t)) (h2 : PGs X es (CanGs Γ js r)) (hs : (assignEach (e :: es) X.env).map (·.2) = assign e X.env :: (assignEach es X.env).map (·.2) := by rfl) : PGs X (e :: es) (CanGs Γ (is ++ js) (tgCons t r)) :=
  pgs_weak (pgs_cons h1 h2 hs) fun vs σV H Q ⟨F, G, ρ, σ, h, ds, a, hv, σ', e, q⟩ => by
    unfold tgCons at e
    cases hv with
    | nil => cases e
    | cons hd hr =>
      obtain ⟨σ1, e1, e2⟩ := Option.bind_eq_some_iff.mp e
      exact ⟨_, _, rfl, F, G, ρ, σ, h, _, a, hd, σ1, e1, fun σV1 G1 H1 x1 a1 k1 => ⟨F, G1, ρ, σ1, h, _, a1, hr.mono x1.g x1.r, σ', e2, fun σV2 G2 H2 x2 a2 k2 => q σV2 G2 H2 (x1.trans x2) a2 ⟨k2.1.trans k1.1, fun j hj => (k2.2 j fun z => hj (List.mem_append_right _ z)).trans (k1.2 j fun z => hj (List.mem_append_left _ z))⟩⟩⟩
theorem dg_tup (B : Bn Γ k X W) {kk : Nat} {is : List Nat} (h : PGs X es (CanGs Γ is r)) (hl : ∀ ds σ σ', r ds σ = some σ' → ds.length = n) (hn : (assignEach es X.env).length = n := by rfl) (hst : (assignEach es X.env).findIdx? (·.1) = none := by rfl) : PG X (.Tuple es kk pos) (CanG Γ is (tgTup r)) :=
  pg_weak (pg_tup B.calm h hn hst) fun v σV H Q ⟨F, G, ρ, σ, h, d, a, hv, σ', e, q⟩ => by
    unfold tgTup at e
    split at e
    · cases hv with
      | tup hq hs => exact ⟨_, _, rfl, by rw [B.hK]; exact same_t a.rl.sub hq, by rw [hs.length]; exact hl _ _ _ e, F, G, ρ, σ, h, _, a, hs, σ', e, q⟩
    · cases e
theorem dg_lst (B : Bn Γ k X W) {kk : Nat} {is : List Nat} (h : PGs X es (CanGs Γ is r)) (hl : ∀ ds σ σ', r ds σ = some σ' → ds.length = n) (hn : (assignEach es X.env).length = n := by rfl) (hst : (assignEach es X.env).findIdx? (·.1) = none := by rfl) : PG X (.Tuple es kk pos) (CanG Γ is (tgLst r)) :=
  pg_weak (pg_lst B.calm h hn hst) fun v σV H Q ⟨F, G, ρ, σ, h, d, a, hv, σ', e, q⟩ => by
    unfold tgLst at e
    split at e
    · cases hv with
      | lst hq hs => exact ⟨_, _, rfl, .inl (.inl (a.rl.sub _ _ hq)), by rw [hs.length]; exact hl _ _ _ e, F, G, ρ, σ, h, _, a, hs, σ', e, q⟩
    · cases e
theorem tgl_nil : ∀ ds σ σ', tgNil ds σ = some σ' → ds.length = 0 := fun ds σ σ' e => by
  unfold tgNil at e
  split at e
  · rfl
  · cases e
theorem tgl_cons (hl : ∀ ds σ σ', r ds σ = some σ' → ds.length = n) : ∀ ds σ σ', tgCons t r ds σ = some σ' → ds.length = n + 1 := fun ds σ σ' e => by
  unfold tgCons at e
  split at e
  · obtain ⟨σ1, e1, e2⟩ := Option.bind_eq_some_iff.mp e
    rw [List.length_cons, hl _ _ _ e2]
  · cases e
theorem ds_to {tg : Expr} {is : List Nat} (he : PE X e (Can Γ W fe)) (hg : PG X tg (CanG Γ is t)) (hs : swapsWithSole [tg] e pos.line X.env = pure false := by rfl) (hw : swappedStores [tg] e X.env = pure none := by rfl)
    (h1 : (assignEach [tg] X.env).map (·.2) = [assign tg X.env] := by rfl) : PS X (.Assign [tg] e pos) (CanS Γ W (sTo t fe)) :=
  ps_weak (ps_asg he hg hs hw h1) fun E σV H ⟨F, G, ρ, σ, h, a, po⟩ => a.run po fun d hh G1 ρ1 H1 v p1 a1 e1 hv => by
    cases q : t d σ with
    | none => rw [q] at p1; exact (show False from p1).elim
    | some σ' => rw [q] at p1; exact ⟨F, G1, ρ1, σ, hh, d, a1, hv, σ', q, fun σV' _ _ _ a2 _ => a2.nx p1⟩
theorem ds_par2 {i j : Nat} (B : Bn Γ k X W) {a b : Expr} {kt k2 pt2} (ha : PA X [a, b] (CanA Γ W fa)) (hij : i ≠ j := by decide) (hi : X.N[i]? = some x := by rfl) (hj : X.N[j]? = some y := by rfl)
    (hx : X.env.scope.names.lookup x = some .local := by rfl) (hy : X.env.scope.names.lookup y = some .local := by rfl)
    (hw : swappedStores [.Tuple [.Name x px, .Name y py] kt pt] (.Tuple [a, b] k2 pt2) X.env = pure (some [x, y]) := by rfl) (hs : swapsWithSole [.Tuple [.Name x px, .Name y py] kt pt] (.Tuple [a, b] k2 pt2) pos.line X.env = pure false := by rfl) :
    PS X (.Assign [.Tuple [.Name x px, .Name y py] kt pt] (.Tuple [a, b] k2 pt2) pos) (CanS Γ W (sPar [i, j] fa)) :=
  ps_weak (ps_par B.calm B.nd hi hj hij hx hy ha hw hs) fun E σV H ⟨F, G, ρ, σ, h, a, po⟩ => a.runA po fun ds hh G1 ρ1 H1 vs p1 a1 e1 hv => by
    obtain ⟨hl, p1⟩ := PostS.cond p1
    match ds, vs, hv, hl with
    | [d1, d2], _, .cons h1 (.cons h2 .nil), _ => exact ⟨_, _, rfl, ((a1.setD h1).setD h2).nx p1⟩
theorem ds_par3 {i j l : Nat} (B : Bn Γ k X W) {a b c : Expr} {kt k2 pt2} (ha : PA X [a, b, c] (CanA Γ W fa)) (hij : i ≠ j := by decide) (hil : i ≠ l := by decide) (hjl : j ≠ l := by decide) (hi : X.N[i]? = some x := by rfl) (hj : X.N[j]? = some y := by rfl) (hk : X.N[l]? = some z := by rfl)
    (hx : X.env.scope.names.lookup x = some .local := by rfl) (hy : X.env.scope.names.lookup y = some .local := by rfl) (hz : X.env.scope.names.lookup z = some .local := by rfl)
    (hw : swappedStores [.Tuple [.Name x px, .Name y py, .Name z pz] kt pt] (.Tuple [a, b, c] k2 pt2) X.env = pure (some [x, y, z]) := by rfl) (hs : swapsWithSole [.Tuple [.Name x px, .Name y py, .Name z pz] kt pt] (.Tuple [a, b, c] k2 pt2) pos.line X.env = pure false := by rfl) :
    PS X (.Assign [.Tuple [.Name x px, .Name y py, .Name z pz] kt pt] (.Tuple [a, b, c] k2 pt2) pos) (CanS Γ W (sPar [i, j, l] fa)) :=
  ps_weak (ps_par3 B.calm B.nd hi hj hk hij hil hjl hx hy hz ha hw hs) fun E σV H ⟨F, G, ρ, σ, h, a, po⟩ => a.runA po fun ds hh G1 ρ1 H1 vs p1 a1 e1 hv => by
    obtain ⟨hl, p1⟩ := PostS.cond p1
    match ds, vs, hv, hl with
    | [d1, d2, d3], _, .cons h1 (.cons h2 (.cons h3 .nil)), _ => exact ⟨_, _, _, rfl, (((a1.setD h1).setD h2).setD h3).nx p1⟩
end
end Mi

set_option Elab.async false
set_option linter.all false
set_option maxRecDepth 100000
set_option maxHeartbeats 2000000
/-! Mi8: what a loop walks; for, while. -/
namespace Mi
open PySem PySem.Spec PyProof.Rows L2

/-- J serves ds, whatever comes behind G0, ρ0 -/
def ItOk (Γ : Gm) (J : It) (ds : List D) (G0 : Hp) (ρ0 : List Addr) : Prop := ∀ (i : Nat) (H G : Hp) (ρ : List Addr) (h : MH), Rl Γ G ρ h H → Same G0 G → (∀ (n : Nat) (a : Addr), ρ0[n]? = some a → ρ[n]? = some a) →
  (i < ds.length → J.go i H ∧ ∀ x H', J.yld i H x H' → ∃ G' d, ds[i]? = some d ∧ Rl Γ G' ρ h H' ∧ Ext G ρ H G' ρ H' ∧ DAt Γ G' ρ x d) ∧ (ds.length ≤ i → J.stop i H)
/-- the canonical reading of what yields ds -/
def CanI (Γ : Gm) (W : WX) (f : AF) : TI := fun σV H R => ∃ G ρ σ h, Rl Γ G ρ h H ∧ StD Γ G ρ σV σ ∧ Post Γ W σV G ρ H (f σ h) (fun ds _ G' ρ' H' => ∀ J, ItOk Γ J ds G' ρ' → R J H')
section
variable {Γ : Gm} {k : Nat} {X : Cx} {W : WX} {pos p : Pos} {tg e e2 : Expr} {fe fe2 : EF} {fa : AF}
theorem pi_weak {t t' : TI} (h : PI X tg e t) (w : ∀ σ H Q, t' σ H Q → t σ H Q) : PI X tg e t' := ⟨fun pins s σ H Q I q => h.run pins s σ H Q I (w σ H Q q)⟩
theorem pi_or {t t' : TI} (h : PI X tg e t) (h' : PI X tg e t') : PI X tg e (fun σ H R => t σ H R ∨ t' σ H R) := ⟨fun pins s σ H Q I q => q.elim (h.run pins s σ H Q I) (h'.run pins s σ H Q I)⟩
theorem itok_list {a : Addr} {xs : List V} {ds : List D} {G0 : Hp} {ρ0 : List Addr} (ha : SqL Γ.K G0 a xs) (hs : DsAt Γ G0 ρ0 xs ds) : ItOk Γ (Itl Γ.K a) ds G0 ρ0 := fun i H G ρ h rl eg er => by
  have hq : SqL Γ.K H a xs := same_l rl.sub (same_l eg ha)
  have hd := hs.mono eg er
  refine ⟨fun hi => ?_, fun hi => ⟨xs, hq, by rw [hd.length]; exact hi⟩⟩
  have hd1 : ds[i]? = some ds[i] := by simp [hi]
  obtain ⟨v, hv, dv⟩ := hd.get hd1
  refine ⟨⟨xs, v, hq, hv⟩, fun x H' ⟨e, y⟩ => ?_⟩
  subst e
  have := y xs hq
  rw [hv] at this
  cases this
  exact ⟨G, _, hd1, rl, Ext.refl _ _ _, dv⟩
theorem itok_tup {a : Addr} {xs : List V} {ds : List D} {G0 : Hp} {ρ0 : List Addr} (ha : SqT Γ.K G0 a xs) (hs : DsAt Γ G0 ρ0 xs ds) : ItOk Γ (Itt Γ.K a) ds G0 ρ0 := fun i H G ρ h rl eg er => by
  have hq : SqT Γ.K H a xs := same_t rl.sub (same_t eg ha)
  have hd := hs.mono eg er
  refine ⟨fun hi => ?_, fun hi => ⟨xs, hq, by rw [hd.length]; exact hi⟩⟩
  have hd1 : ds[i]? = some ds[i] := by simp [hi]
  obtain ⟨v, hv, dv⟩ := hd.get hd1
  refine ⟨⟨xs, v, hq, hv⟩, fun x H' ⟨e, y⟩ => ?_⟩
  subst e
  have := y xs hq
  rw [hv] at this
  cases this
  exact ⟨G, _, hd1, rl, Ext.refl _ _ _, dv⟩
/-- a value's items -/
def seqD : D → Option (List D)
  | .lst ds => some ds
  | .scr ds => some ds
  | .tup ds => some ds
  | .str x => some (x.cps.toList.map fun c => .str ⟨#[c]⟩)
  | _ => none
def iSeq (e : EF) (σ : S) (h : MH) : R (List D) := (e σ h).bind fun d h1 => match seqD d with
  | some ds => .ok ds h1
  | none => .stk
theorem di_seq (B : Bn Γ k X W) (he : PE X e (Can Γ W fe)) : PI X tg e (CanI Γ W (iSeq fe)) := by
  refine pi_weak (pi_or (pi_list he) (pi_or (pi_tup he) (pi_str he))) fun σV H R ⟨G, ρ, σ, h, rl, st, po⟩ => ?_
  rw [B.hK]
  cases q : fe σ h with
  | stk => unfold iSeq at po; rw [q] at po; exact po.elim
  | exc x h1 => unfold iSeq at po; rw [q] at po; exact .inl ⟨G, ρ, σ, h, rl, st, by rw [q]; exact po⟩
  | ok d h1 =>
    have po := po
    unfold iSeq at po
    rw [q] at po
    cases d <;> first | exact (show False from po).elim | skip
    · exact .inr (.inr ⟨G, ρ, σ, h, rl, st, by
        rw [q]
        exact fun G' ρ' H' e rl' v hv => by
          cases hv
          refine ⟨_, rfl, po G' ρ' H' e rl' _ fun i H2 G2 ρ2 h2 rl2 eg er => ⟨fun hi => ?_, fun hi => ?_⟩⟩
          · rw [List.length_map, Array.length_toList] at hi
            refine ⟨hi, fun y H3 ⟨e3, c, hc, ey⟩ => ?_⟩
            subst e3 ey
            refine ⟨G2, .str ⟨#[c]⟩, ?_, rl2, Ext.refl _ _ _, .str _⟩
            rw [List.getElem?_map, Array.getElem?_toList, hc]
            rfl
          · rw [List.length_map, Array.length_toList] at hi
            exact hi⟩)
    · exact .inr (.inl ⟨G, ρ, σ, h, rl, st, by
        rw [q]
        exact fun G' ρ' H' e rl' v hv => by
          cases hv with
          | @tup a vs _ h1 h2 => exact ⟨a, rfl, ⟨vs, same_t rl'.sub h1⟩, po G' ρ' H' e rl' _ (itok_tup h1 h2)⟩⟩)
    · exact .inl ⟨G, ρ, σ, h, rl, st, by
        rw [q]
        exact fun G' ρ' H' e rl' v hv => by
          cases hv with
          | @lst a vs _ h1 h2 => exact ⟨a, rfl, ⟨vs, same_l rl'.sub (.inl (.inl h1))⟩, po G' ρ' H' e rl' _ (itok_list (.inl (.inl h1)) h2)⟩⟩
    · exact .inl ⟨G, ρ, σ, h, rl, st, by
        rw [q]
        exact fun G' ρ' H' e rl' v hv => by
          cases hv with
          | @scr a vs _ h1 h2 => exact ⟨a, rfl, ⟨vs, same_l rl'.sub h1⟩, po G' ρ' H' e rl' _ (itok_list h1 h2)⟩⟩
/-! ### range -/
def inW (i : Int) : Prop := -(2 ^ 62) ≤ i ∧ i < 2 ^ 62
instance (i : Int) : Decidable (inW i) := by unfold inW; infer_instance
def rngD (i : Int) (n : Nat) : List D := (List.range n).map fun (j : Nat) => .int (i + j)
def iRg1 (a : AF) (σ : S) (h : MH) : R (List D) := (a σ h).bind fun ds h1 => match ds with
  | [.int j] => if inW j then .ok (rngD 0 j.toNat) h1 else .stk
  | _ => .stk
def iRg2 (a : AF) (σ : S) (h : MH) : R (List D) := (a σ h).bind fun ds h1 => match ds with
  | [.int i, .int j] => if inW i ∧ inW j then .ok (rngD i (j - i).toNat) h1 else .stk
  | _ => .stk
/-- range(i, j, -1) -/
def dwnD (i : Int) (n : Nat) : List D := (List.range n).map fun (j : Nat) => .int (i - j)
def iRg3 (a : AF) (σ : S) (h : MH) : R (List D) := (a σ h).bind fun ds h1 => match ds with
  | [.int i, .int j, .int c] => if inW i ∧ inW j ∧ c = -1 then .ok (dwnD i (i - j).toNat) h1 else .stk
  | _ => .stk
def enD : Nat → List D → List D
  | _, [] => []
  | n, d :: ds => .tup [.int n, d] :: enD (n + 1) ds
def iEn (a : AF) (σ : S) (h : MH) : R (List D) := (a σ h).bind fun ds h1 => match ds with
  | [.lst ds] => .ok (enD 0 ds) h1
  | [.scr ds] => .ok (enD 0 ds) h1
  | _ => .stk
def zipD : List D → List D → List D
  | a :: as, b :: bs => .tup [a, b] :: zipD as bs
  | _, _ => []
def iZp (a : AF) (σ : S) (h : MH) : R (List D) := (a σ h).bind fun ds h1 => match ds with
  | [.lst as, .lst bs] => .ok (zipD as bs) h1
  | [.tup as, .tup bs] => .ok (zipD as bs) h1
  | _ => .stk
theorem enD_get : ∀ (ds : List D) (n i : Nat), (enD n ds)[i]? = (ds[i]?).map fun d => .tup [.int ((n + i : Nat) : Int), d]
  | [], n, i => by simp [enD]
  | d :: ds, n, 0 => by simp [enD]
  | d :: ds, n, i + 1 => by
    have := enD_get ds (n + 1) i
    have e : n + 1 + i = n + (i + 1) := by omega
    simp only [enD, List.getElem?_cons_succ]
    rw [this, e]
theorem enD_length : ∀ (ds : List D) (n : Nat), (enD n ds).length = ds.length
  | [], _ => rfl
  | d :: ds, n => congrArg (· + 1) (enD_length ds (n + 1))
theorem zipD_get : ∀ (as bs : List D) (i : Nat) (a b : D), as[i]? = some a → bs[i]? = some b → (zipD as bs)[i]? = some (.tup [a, b])
  | [], _, i, a, b, h, _ => by simp at h
  | _ :: _, [], i, a, b, _, h => by simp at h
  | x :: as, y :: bs, 0, a, b, h, g => by simp at h g; simp [zipD, h, g]
  | x :: as, y :: bs, i + 1, a, b, h, g => by simpa [zipD] using zipD_get as bs i a b (by simpa using h) (by simpa using g)
theorem zipD_length : ∀ (as bs : List D), (zipD as bs).length = min as.length bs.length
  | [], _ => by simp [zipD]
  | _ :: _, [] => by simp [zipD]
  | x :: as, y :: bs => by simp [zipD, zipD_length as bs]
theorem itok_rng {i : Int} {n : Nat} {G0 : Hp} {ρ0 : List Addr} : ItOk Γ (Itr i n) (rngD i n) G0 ρ0 := fun j H G ρ h rl eg er => by
  unfold rngD
  refine ⟨fun hi => ?_, fun hi => ?_⟩
  · have hi : j < n := by simpa using hi
    refine ⟨hi, fun x H' ⟨e, y⟩ => ?_⟩
    subst e y
    exact ⟨G, .int (i + j), by rw [List.getElem?_map, List.getElem?_range hi]; rfl, rl, Ext.refl _ _ _, .int _⟩
  · have hi : n ≤ j := by simpa using hi
    exact hi
theorem itok_dwn {i : Int} {n : Nat} {G0 : Hp} {ρ0 : List Addr} : ItOk Γ (Itc i (-1) n) (dwnD i n) G0 ρ0 := fun j H G ρ h rl eg er => by
  unfold dwnD
  refine ⟨fun hi => ?_, fun hi => ?_⟩
  · have hi : j < n := by simpa using hi
    refine ⟨hi, fun x H' ⟨e, y⟩ => ?_⟩
    subst e y
    have e : i + (j : Int) * (-1) = i - j := by omega
    rw [e]
    exact ⟨G, .int (i - j), by rw [List.getElem?_map, List.getElem?_range hi]; rfl, rl, Ext.refl _ _ _, .int _⟩
  · have hi : n ≤ j := by simpa using hi
    exact hi
theorem itok_enum {a : Addr} {xs : List V} {ds : List D} {G0 : Hp} {ρ0 : List Addr} (ha : SqL Γ.K G0 a xs) (hs : DsAt Γ G0 ρ0 xs ds) : ItOk Γ (Ite Γ.K a) (enD 0 ds) G0 ρ0 := fun i H G ρ h rl eg er => by
  have hq : SqL Γ.K H a xs := same_l rl.sub (same_l eg ha)
  have hd := hs.mono eg er
  rw [enD_length]
  refine ⟨fun hi => ?_, fun hi => ⟨xs, hq, by rw [hd.length]; exact hi⟩⟩
  have hd1 : ds[i]? = some ds[i] := by simp [hi]
  obtain ⟨v, hv, dv⟩ := hd.get hd1
  refine ⟨⟨xs, v, hq, hv⟩, fun x H' ⟨T, y, ex, hT, eH, y2⟩ => ?_⟩
  subst ex eH
  have := y2 xs hq
  rw [hv] at this
  cases this
  obtain ⟨rl', e'⟩ := rl.grow (o := .tup [.int (i : Nat), v]) hT
  refine ⟨_, _, by rw [enD_get, hd1]; rfl, rl', e', ?_⟩
  have z : ((0 + i : Nat) : Int) = (i : Nat) := by simp
  rw [z]
  exact .tup (.inl (.inl upd_same)) (.cons (.int _) (.cons (dv.mono e'.g e'.r) .nil))
theorem itok_zip {J : It} {H0 : Hp} {a b : Addr} {xs ys : List V} {as bs : List D} {G0 : Hp} {ρ0 : List Addr} (hxs : DsAt Γ G0 ρ0 xs as) (hys : DsAt Γ G0 ρ0 ys bs)
    (hg : ∀ i H G, Same G0 G → Same G H → i < xs.length → i < ys.length → J.go i H) (hst : ∀ i H G, Same G0 G → Same G H → (xs.length ≤ i ∨ ys.length ≤ i) → J.stop i H)
    (hy : ∀ i H H' G v, Same G0 G → Same G H → J.yld i H v H' → ∃ T x y, v = .ref T ∧ H T = none ∧ H' = upd H T (.tup [x, y]) ∧ xs[i]? = some x ∧ ys[i]? = some y) : ItOk Γ J (zipD as bs) G0 ρ0 := fun i H G ρ h rl eg er => by
  have hd := hxs.mono eg er
  have hd2 := hys.mono eg er
  rw [zipD_length]
  refine ⟨fun hi => ⟨hg i H G eg rl.sub (by rw [hd.length]; omega) (by rw [hd2.length]; omega), fun v H' yl => ?_⟩, fun hi => hst i H G eg rl.sub (by rw [hd.length, hd2.length]; omega)⟩
  obtain ⟨T, x, y, ev, hT, eH, hx, hy2⟩ := hy i H H' G v eg rl.sub yl
  subst ev eH
  obtain ⟨d1, q1, r1⟩ := hd.getV hx
  obtain ⟨d2, q2, r2⟩ := hd2.getV hy2
  obtain ⟨rl', e'⟩ := rl.grow (o := .tup [x, y]) hT
  exact ⟨_, _, zipD_get as bs i d1 d2 q1 q2, rl', e', .tup (.inl (.inl upd_same)) (.cons (r1.mono e'.g e'.r) (.cons (r2.mono e'.g e'.r) .nil))⟩
theorem di_range1 (B : Bn Γ k X W) (ha : PA X [e] (CanA Γ W fa)) (hm : X.mg "range" = none) (hg : Gl X "range" := by rfl) (hs : starEach [e] X.env = [(false, eval e X.env)] := by rfl) : PI X tg (.Call (.Name "range" p) [e] [] pos) (CanI Γ W (iRg1 fa)) :=
  pi_weak (pi_range1 hg hm ha hs) fun σV H R ⟨G, ρ, σ, h, rl, st, po⟩ => ⟨G, ρ, σ, h, rl, st, po.bind.mono fun ds h1 G1 ρ1 H1 e1 rl1 po1 vs hv => by
    split at po1
    · rename_i j
      obtain ⟨hz, po1⟩ := Post.cond po1
      match vs, hv with
      | _, .cons h1 .nil => cases h1; exact ⟨j, rfl, hz.1, hz.2, po1.now rl1 _ itok_rng⟩
    · exact po1.elim⟩
theorem di_range2 (B : Bn Γ k X W) {e2 : Expr} (ha : PA X [e, e2] (CanA Γ W fa)) (hm : X.mg "range" = none) (hg : Gl X "range" := by rfl) (hs : starEach [e, e2] X.env = [(false, eval e X.env), (false, eval e2 X.env)] := by rfl) (hs2 : starEach [e2] X.env = [(false, eval e2 X.env)] := by rfl) : PI X tg (.Call (.Name "range" p) [e, e2] [] pos) (CanI Γ W (iRg2 fa)) :=
  pi_weak (pi_range2 hg hm ha hs hs2) fun σV H R ⟨G, ρ, σ, h, rl, st, po⟩ => ⟨G, ρ, σ, h, rl, st, po.bind.mono fun ds h1 G1 ρ1 H1 e1 rl1 po1 vs hv => by
    split at po1
    · rename_i i j
      obtain ⟨hz, po1⟩ := Post.cond po1
      match vs, hv with
      | _, .cons h1 (.cons h2 .nil) => cases h1; cases h2; exact ⟨i, j, rfl, ⟨hz.1.1, hz.1.2, hz.2.1, hz.2.2⟩, po1.now rl1 _ itok_rng⟩
    · exact po1.elim⟩
theorem di_range3 (B : Bn Γ k X W) {e2 e3 : Expr} (ha : PA X [e, e2, e3] (CanA Γ W fa)) (hm : X.mg "range" = none) (hg : Gl X "range" := by rfl)
    (hs : starEach [e, e2, e3] X.env = (false, eval e X.env) :: starEach [e2, e3] X.env := by rfl) (hpl : (backTo pos (starEach [e2, e3] X.env)).any (·.1) = false := by rfl) : PI X tg (.Call (.Name "range" p) [e, e2, e3] [] pos) (CanI Γ W (iRg3 fa)) :=
  pi_weak (pi_range3 hg hm ha hs hpl) fun σV H R ⟨G, ρ, σ, h, rl, st, po⟩ => ⟨G, ρ, σ, h, rl, st, po.bind.mono fun ds h1 G1 ρ1 H1 e1 rl1 po1 vs hv => by
    split at po1
    · rename_i i j c
      obtain ⟨⟨z1, z2, z3⟩, po2⟩ := Post.cond po1
      subst z3
      match vs, hv with
      | _, .cons q1 (.cons q2 (.cons q3 .nil)) => cases q1; cases q2; cases q3; exact ⟨i, j, -1, _, rfl, RgC.neg z1.1 z1.2 z2.1 z2.2, po2.now rl1 _ itok_dwn⟩
    · exact po1.elim⟩
theorem di_enum (B : Bn Γ k X W) {elts : List Expr} {kk : Nat} {tpos : Pos} (ha : PA X [e] (CanA Γ W fa)) (hm : X.mg "enumerate" = none) (hg : Gl X "enumerate" := by rfl) (hs : starEach [e] X.env = [(false, eval e X.env)] := by rfl) : PI X (.Tuple elts kk tpos) (.Call (.Name "enumerate" p) [e] [] pos) (CanI Γ W (iEn fa)) :=
  pi_weak (pi_enum hg hm ha hs) fun σV H R ⟨G, ρ, σ, h, rl, st, po⟩ => ⟨G, ρ, σ, h, rl, st, po.bind.mono fun ds h1 G1 ρ1 H1 e1 rl1 po1 vs hv => by
    rw [B.hK]
    split at po1
    · match vs, hv with
      | _, .cons q1 .nil =>
        cases q1 with
        | @lst a vs _ h1 h2 => exact ⟨a, vs, rfl, same_l rl1.sub (.inl (.inl h1)), po1.now rl1 _ (itok_enum (.inl (.inl h1)) h2)⟩
    · match vs, hv with
      | _, .cons q1 .nil =>
        cases q1 with
        | @scr a vs _ h1 h2 => exact ⟨a, vs, rfl, same_l rl1.sub h1, po1.now rl1 _ (itok_enum h1 h2)⟩
    · exact po1.elim⟩
theorem di_zip (B : Bn Γ k X W) {elts : List Expr} {kk : Nat} {tpos : Pos} {e2 : Expr} (ha : PA X [e, e2] (CanA Γ W fa)) (hm : X.mg "zip" = none) (hg : Gl X "zip" := by rfl)
    (hs : starEach [e, e2] X.env = (false, eval e X.env) :: starEach [e2] X.env := by rfl) (hpl : (backTo pos (starEach [e2] X.env)).any (·.1) = false := by rfl) : PI X (.Tuple elts kk tpos) (.Call (.Name "zip" p) [e, e2] [] pos) (CanI Γ W (iZp fa)) :=
  pi_weak (RZ.pi_zipA hg hm ha hs hpl) fun σV H R ⟨G, ρ, σ, h, rl, st, po⟩ => ⟨G, ρ, σ, h, rl, st, po.bind.mono fun ds h1 G1 ρ1 H1 e1 rl1 po1 vs hv => by
    rw [B.hK]
    split at po1
    · match vs, hv with
      | _, .cons q1 (.cons q2 .nil) =>
        cases q1 with
        | @lst a vs _ h1 h2 =>
          cases q2 with
          | @lst b ws _ g1 g2 =>
            have hq : ∀ {H : Hp}, Same G1 H → SqL Γ.K H a vs := fun s => .inl (.inl (s _ _ h1))
            have hq2 : ∀ {H : Hp}, Same G1 H → SqL Γ.K H b ws := fun s => .inl (.inl (s _ _ g1))
            refine ⟨a, b, vs, ws, rfl, .inl ⟨hq rl1.sub, hq2 rl1.sub, po1.now rl1 _ (itok_zip (H0 := H1) (a := a) (b := b) h2 g2 (fun i H G eg sg l1 l2 => ?_) (fun i H G eg sg hh => ?_) (fun i H H' G v eg sg yl => ?_))⟩⟩
            · exact ⟨vs, ws, vs[i], ws[i], hq (eg.trans sg), hq2 (eg.trans sg), by simp [l1], by simp [l2]⟩
            · exact ⟨vs, ws, hq (eg.trans sg), hq2 (eg.trans sg), hh⟩
            · obtain ⟨T, x, y, e1, e2, e3, e4, e5⟩ := yl
              exact ⟨T, x, y, e1, e2, e3, e4 _ (hq (eg.trans sg)), e5 _ (hq2 (eg.trans sg))⟩
    · match vs, hv with
      | _, .cons q1 (.cons q2 .nil) =>
        cases q1 with
        | @tup a vs _ h1 h2 =>
          cases q2 with
          | @tup b ws _ g1 g2 =>
            have hq : ∀ {H : Hp}, Same G1 H → SqT Γ.K H a vs := fun s => same_t s h1
            have hq2 : ∀ {H : Hp}, Same G1 H → SqT Γ.K H b ws := fun s => same_t s g1
            refine ⟨a, b, vs, ws, rfl, .inr ⟨hq rl1.sub, hq2 rl1.sub, po1.now rl1 _ (itok_zip (H0 := H1) (a := a) (b := b) h2 g2 (fun i H G eg sg l1 l2 => ?_) (fun i H G eg sg hh => ?_) (fun i H H' G v eg sg yl => ?_))⟩⟩
            · exact ⟨vs, ws, vs[i], ws[i], hq (eg.trans sg), hq2 (eg.trans sg), by simp [l1], by simp [l2]⟩
            · exact ⟨vs, ws, hq (eg.trans sg), hq2 (eg.trans sg), hh⟩
            · obtain ⟨T, x, y, e1, e2, e3, e4, e5⟩ := yl
              exact ⟨T, x, y, e1, e2, e3, e4 _ (hq (eg.trans sg)), e5 _ (hq2 (eg.trans sg))⟩
    · exact po1.elim⟩
end

/-! ### for -/
def loopS (tg : GT) (body : SF) : List D → SF
  | [] => fun σ h => .ok .nx σ h
  | d :: ds => fun σ h => match tg d σ with
    | none => .stk
    | some σ1 => match body σ1 h with
      | .ok .nx σ2 h2 => loopS tg body ds σ2 h2
      | .ok .ct σ2 h2 => loopS tg body ds σ2 h2
      | .ok .bk σ2 h2 => .ok .nx σ2 h2
      | r => r
def sFor (it : AF) (tg : GT) (body : SF) (σ : S) (h : MH) : RS := sBind σ (it σ h) fun ds h1 => loopS tg body ds σ h1
/-- the frame from here on -/
def Fr0.at (F : Fr0) (G : Hp) (ρ : List Addr) : Fr0 := ⟨G, ρ, F.H⟩
section
variable {Γ : Gm} {k : Nat} {X : Cx} {W : WX} {F : Fr0} {E : Ends} {pos p : Pos} {tg iter c : Expr} {body : List Stmt} {fi : AF} {t : GT} {f : SF} {ft : TF} {σV : L2.St} {H G : Hp} {ρ : List Addr} {σ : S} {h : MH}
theorem At.here (a : At Γ F σV H G ρ σ h) : At Γ (F.at G ρ) σV H G ρ σ h :=
  ⟨a.rl, ⟨Same.refl G, fun _ _ z => z, fun b o q n => a.fr.off b o q fun z => n (a.fr.mem z), a.fr.st, fun _ _ z => .inl z, fun _ z => .inl z⟩, a.st⟩
theorem Ext.back (e : Ext F.G F.ρ F.H G ρ H) {G' : Hp} {ρ' : List Addr} {H' : Hp} (f : Ext (F.at G ρ).G (F.at G ρ).ρ (F.at G ρ).H G' ρ' H') : Ext F.G F.ρ F.H G' ρ' H' where
  g := e.g.trans f.g
  r := fun n a z => f.r n a (e.r n a z)
  off := fun a o q n => f.off a o q fun z => by
    rcases e.rn a z with z | z
    · exact n z
    · have q : F.H a = some o := q
      rw [q] at z; cases z
  st := f.st
  gn := fun a o q => by
    rcases f.gn a o q with z | z
    · exact e.gn a o z
    · exact .inr z
  rn := fun a q => by
    rcases f.rn a q with z | z
    · exact e.rn a z
    · exact .inr z
theorem PostS.here {r : RS} (p : PostS Γ W F E r) (e : Ext F.G F.ρ F.H G ρ H) : PostS Γ W (F.at G ρ) E r := by
  cases r with
  | ok fl σ' h' =>
    cases fl with
    | nx => exact fun G' ρ' H' σV' e' rl st => p G' ρ' H' σV' (e.back e') rl st
    | bk => exact fun G' ρ' H' σV' e' rl st => p G' ρ' H' σV' (e.back e') rl st
    | ct => exact fun G' ρ' H' σV' e' rl st => p G' ρ' H' σV' (e.back e') rl st
    | rt d => exact fun G' ρ' H' σV' e' rl st => p G' ρ' H' σV' (e.back e') rl st
  | exc x σ' h' => exact fun G' ρ' H' σV' dA e' rl st xa => p G' ρ' H' σV' dA (e.back e') rl st xa
  | stk => exact p
theorem At.back (e : Ext F.G F.ρ F.H G ρ H) {σV' : L2.St} {H' G' : Hp} {ρ' : List Addr} {σ' : S} {h' : MH} (a : At Γ (F.at G ρ) σV' H' G' ρ' σ' h') : At Γ F σV' H' G' ρ' σ' h' := ⟨a.rl, e.back a.fr, a.st⟩
/-- at a turn's end -/
theorem turn_end {N : L2.St → Hp → Prop} {r : RS} {k : S → MH → RS}
    (p : PostS Γ W F E (match r with | .ok .nx σ2 h2 => k σ2 h2 | .ok .ct σ2 h2 => k σ2 h2 | .ok .bk σ2 h2 => .ok .nx σ2 h2 | r => r))
    (q : ∀ σV' H' G' ρ' σ' h', At Γ F σV' H' G' ρ' σ' h' → PostS Γ W F E (k σ' h') → N σV' H') : PostS Γ W F { E with nx := N, ct := N, bk := E.nx } r := by
  cases r with
  | ok fl σ' h' =>
    cases fl with
    | nx => exact fun G' ρ' H' σV' e rl st => q σV' H' G' ρ' σ' h' ⟨rl, e, st⟩ p
    | ct => exact fun G' ρ' H' σV' e rl st => q σV' H' G' ρ' σ' h' ⟨rl, e, st⟩ p
    | bk => exact p
    | rt d => exact p
  | exc x σ' h' => exact p
  | stk => exact p
theorem ds_for {is : List Nat} (B : Bn Γ k X W) (hi : PI X tg iter (CanI Γ W fi)) (hg : PG X tg (CanG Γ is t)) (hb : PSs X body (CanS Γ W f)) (hs : ∀ x, foldedSetIterable iter X.env x = pure x := by intro _; rfl) : PS X (.For tg iter body [] pos) (CanS Γ W (sFor fi t f)) :=
  ps_weak (ps_for B.po B.calm hi hg hb hs) fun E σV H ⟨F, G, ρ, σ, h, a, po⟩ =>
    ⟨G, ρ, σ, h, a.rl, a.st.toD, (po.bind a).mono fun ds h0 G0 ρ0 H0 e0 rl0 ⟨p0, a0⟩ J ok => by
      refine ⟨fun i m σV H => m = ds.length - i ∧ i ≤ ds.length ∧ ∃ G ρ σ h, At Γ (F.at G0 ρ0) σV H G ρ σ h ∧ PostS Γ W (F.at G0 ρ0) E (loopS t f (ds.drop i) σ h),
        ⟨ds.length, by simp, Nat.zero_le _, G0, ρ0, σ, h0, a0.here, p0.here a0.fr⟩, ?_⟩
      rintro i m σV1 H1 ⟨rfl, hle, G1, ρ1, σ1, h1, a1, p1⟩
      obtain ⟨go, stop⟩ := ok i H1 G1 ρ1 h1 a1.rl a1.fr.g a1.fr.r
      by_cases hlt : i < ds.length
      · obtain ⟨hgo, yl⟩ := go hlt
        refine .inr ⟨hgo, fun σV H => i + 1 ≤ ds.length ∧ ∃ G ρ σ h, At Γ (F.at G0 ρ0) σV H G ρ σ h ∧ PostS Γ W (F.at G0 ρ0) E (loopS t f (ds.drop (i + 1)) σ h), fun σ' H' n => ⟨ds.length - (i + 1), by omega, rfl, n⟩, fun x H2 y => ?_⟩
        obtain ⟨G2, d, hd, rl2, e2, hx⟩ := yl x H2 y
        have a2 : At Γ (F.at G0 ρ0) σV1 H2 G2 ρ1 σ1 h1 := ⟨rl2, a1.fr.trans e2, a1.st.ext e2⟩
        have ed : ds.drop i = d :: ds.drop (i + 1) := by
          rw [List.drop_eq_getElem_cons hlt]
          congr 1
          have := List.getElem?_eq_getElem hlt
          rw [hd] at this
          exact (Option.some.inj this).symm
        rw [ed] at p1
        unfold loopS at p1
        cases q : t d σ1 with
        | none => rw [q] at p1; exact (show False from p1).elim
        | some σ2 =>
          rw [q] at p1
          refine ⟨F.at G0 ρ0, G2, ρ1, σ1, h1, d, a2, hx, σ2, q, fun σV2 G3 H3 _ a3 _ => ⟨F.at G0 ρ0, G3, ρ1, σ2, h1, a3, ?_⟩⟩
          exact turn_end (k := loopS t f (ds.drop (i + 1))) p1 fun σV' H' G' ρ' σ' h' a' p' => ⟨hlt, G', ρ', σ', h', a', p'⟩
      · have ei : i = ds.length := by omega
        subst ei
        refine .inl ⟨stop (Nat.le_refl _), ?_⟩
        rw [List.drop_length] at p1
        exact a1.nx p1⟩

/-! ### while -/
def whileN (c : TF) (body : SF) : Nat → SF
  | 0 => fun _ _ => .stk
  | n + 1 => fun σ h => sBind σ (c σ h) fun b h1 => if b = true then match body σ h1 with
      | .ok .nx σ2 h2 => whileN c body n σ2 h2
      | .ok .ct σ2 h2 => whileN c body n σ2 h2
      | .ok .bk σ2 h2 => .ok .nx σ2 h2
      | r => r
    else .ok .nx σ h1
open Classical in
noncomputable def sWhile (c : TF) (body : SF) (σ : S) (h : MH) : RS := if hx : ∃ n, whileN c body n σ h ≠ .stk then whileN c body hx.choose σ h else .stk
theorem whileN_more {n : Nat} : ∀ {σ : S} {h : MH}, whileN ft f n σ h ≠ .stk → whileN ft f (n + 1) σ h = whileN ft f n σ h := by
  induction n with
  | zero => intro σ h hn; exact absurd rfl hn
  | succ n ih =>
    intro σ h hn
    show (sBind σ (ft σ h) fun b h1 => if b = true then match f σ h1 with
      | .ok .nx σ2 h2 => whileN ft f (n + 1) σ2 h2
      | .ok .ct σ2 h2 => whileN ft f (n + 1) σ2 h2
      | .ok .bk σ2 h2 => .ok .nx σ2 h2
      | r => r
    else .ok .nx σ h1) = (sBind σ (ft σ h) fun b h1 => if b = true then match f σ h1 with
      | .ok .nx σ2 h2 => whileN ft f n σ2 h2
      | .ok .ct σ2 h2 => whileN ft f n σ2 h2
      | .ok .bk σ2 h2 => .ok .nx σ2 h2
      | r => r
    else .ok .nx σ h1)
    unfold whileN at hn
    cases q : ft σ h with
    | ok b h1 =>
      rw [q] at hn
      simp only [sBind_ok] at hn ⊢
      cases b with
      | false => rfl
      | true =>
        simp only [if_true] at hn ⊢
        cases q2 : f σ h1 with
        | ok fl σ2 h2 =>
          rw [q2] at hn
          cases fl with
          | nx => exact ih hn
          | ct => exact ih hn
          | bk => rfl
          | rt d => rfl
        | exc x σ2 h2 => rfl
        | stk => rfl
    | exc x h1 => rfl
    | stk => rfl
theorem whileN_le {n m : Nat} (hm : n ≤ m) {σ : S} {h : MH} (hn : whileN ft f n σ h ≠ .stk) : whileN ft f m σ h = whileN ft f n σ h := by
  induction hm with
  | refl => rfl
  | step hm ih => rw [whileN_more (by rw [ih]; exact hn), ih]
theorem sWhile_of {n : Nat} {σ : S} {h : MH} (hn : whileN ft f n σ h ≠ .stk) : sWhile ft f σ h = whileN ft f n σ h := by
  have hx : ∃ n, whileN ft f n σ h ≠ .stk := ⟨n, hn⟩
  unfold sWhile
  rw [dif_pos hx]
  have h1 := hx.choose_spec
  rcases Nat.le_total n hx.choose with z | z
  · exact whileN_le z hn
  · exact (whileN_le z h1).symm
theorem sWhile_none {σ : S} {h : MH} (hn : ∀ n, whileN ft f n σ h = .stk) : sWhile ft f σ h = .stk := by
  unfold sWhile
  rw [dif_neg (fun ⟨n, z⟩ => z (hn n))]
theorem sWhile_eq (σ : S) (h : MH) : sWhile ft f σ h = sBind σ (ft σ h) fun b h1 => if b = true then match f σ h1 with
      | .ok .nx σ2 h2 => sWhile ft f σ2 h2
      | .ok .ct σ2 h2 => sWhile ft f σ2 h2
      | .ok .bk σ2 h2 => .ok .nx σ2 h2
      | r => r
    else .ok .nx σ h1 := by
  have again : ∀ {h1 : MH} {σ2 : S} {h2 : MH}, ft σ h = .ok true h1 → (f σ h1 = .ok .nx σ2 h2 ∨ f σ h1 = .ok .ct σ2 h2) → sWhile ft f σ h = sWhile ft f σ2 h2 := by
    intro h1 σ2 h2 q q2
    have step : ∀ n, whileN ft f (n + 1) σ h = whileN ft f n σ2 h2 := fun n => by
      unfold whileN
      rw [q]
      simp only [sBind_ok, if_true]
      rcases q2 with q2 | q2 <;> rw [q2] <;> cases n <;> rfl
    by_cases hx : ∃ n, whileN ft f n σ2 h2 ≠ .stk
    · obtain ⟨n, hn⟩ := hx
      rw [sWhile_of hn, sWhile_of (n := n + 1) (by rw [step]; exact hn), step]
    · have hn : ∀ n, whileN ft f n σ2 h2 = .stk := fun n => Classical.byContradiction fun z => hx ⟨n, z⟩
      rw [sWhile_none hn, sWhile_none]
      intro n
      cases n with
      | zero => rfl
      | succ n => rw [step, hn]
  have one : ∀ {r : RS}, whileN ft f 1 σ h = r → r ≠ .stk → sWhile ft f σ h = r := fun e z => by rw [sWhile_of (n := 1) (by rw [e]; exact z), e]
  have none1 : (∀ n, whileN ft f (n + 1) σ h = .stk) → sWhile ft f σ h = .stk := fun z => sWhile_none fun n => by
    cases n with
    | zero => rfl
    | succ n => exact z n
  cases q : ft σ h with
  | ok b h1 =>
    simp only [sBind_ok]
    cases b with
    | false =>
      rw [if_neg Bool.false_ne_true]
      exact one (by unfold whileN; rw [q]; rfl) (fun z => by cases z)
    | true =>
      rw [if_pos rfl]
      cases q2 : f σ h1 with
      | ok fl σ2 h2 =>
        cases fl with
        | nx => exact again q (.inl q2)
        | ct => exact again q (.inr q2)
        | bk => exact one (by unfold whileN; rw [q]; simp only [sBind_ok, if_true]; rw [q2]) (fun z => by cases z)
        | rt d => exact one (by unfold whileN; rw [q]; simp only [sBind_ok, if_true]; rw [q2]) (fun z => by cases z)
      | exc x σ2 h2 => exact one (by unfold whileN; rw [q]; simp only [sBind_ok, if_true]; rw [q2]) (fun z => by cases z)
      | stk => exact none1 fun n => by unfold whileN; rw [q]; simp only [sBind_ok, if_true]; rw [q2]
  | exc x h1 => exact one (by unfold whileN; rw [q]; rfl) (fun z => by cases z)
  | stk => exact none1 fun n => by unfold whileN; rw [q]; rfl
theorem ds_while (B : Bn Γ k X W) (hc : PT X c (CanT Γ W ft)) (hb : PSs X body (CanS Γ W f)) : PS X (.While c body [] pos) (CanS Γ W (sWhile ft f)) :=
  ps_weak (ps_while B.po hc hb) fun E σV H ⟨F, G, ρ, σ, h, a, po⟩ => by
    refine ⟨fun n σV H => ∃ G ρ σ h, At Γ F σV H G ρ σ h ∧ PostS Γ W F E (whileN ft f n σ h), ?_, ?_⟩
    · by_cases hx : ∃ n, whileN ft f n σ h ≠ .stk
      · obtain ⟨n, hn⟩ := hx
        rw [sWhile_of hn] at po
        exact ⟨n, G, ρ, σ, h, a, po⟩
      · rw [sWhile_none fun n => Classical.byContradiction fun z => hx ⟨n, z⟩] at po
        exact po.elim
    · rintro n σV1 H1 ⟨G1, ρ1, σ1, h1, a1, p1⟩
      cases n with
      | zero => exact (show False from p1).elim
      | succ n =>
        unfold whileN at p1
        refine a1.runT p1 fun b h2 G2 ρ2 H2 p2 a2 => ?_
        cases b with
        | false => exact iteF (a2.nx p2)
        | true => exact iteT ⟨fun σV H => ∃ G ρ σ h, At Γ F σV H G ρ σ h ∧ PostS Γ W F E (whileN ft f n σ h), fun σ' H' q => ⟨n, Nat.lt_succ_self n, q⟩, F, G2, ρ2, σ1, h2, a2, turn_end (k := whileN ft f n) p2 fun σV' H' G' ρ' σ' h' a' p' => ⟨G', ρ', σ', h', a', p'⟩⟩
end
end Mi

set_option Elab.async false
set_option linter.all false
set_option maxRecDepth 100000
set_option maxHeartbeats 2000000
/-! Mi9: list comprehensions of one clause. -/
namespace Mi
open PySem PySem.Spec PyProof.Rows L2

/-- nothing is wished -/
def W0 : WX := fun _ _ _ _ => False
/-- the plain values alone -/
def dOnly (σ : S) : S := σ.map fun o => match o with
  | some (.d d) => some (.d d)
  | _ => none
def wipeS (σ : S) : List Nat → S
  | [] => σ
  | v :: vs => (wipeS σ vs).set v none
def tTrue (_ : S) (h : MH) : R Bool := .ok true h
def compS (tg : GT) (tt : TF) (te : EF) (σ : S) : List D → MH → R (List D)
  | [] => fun h => .ok [] h
  | d :: ds => fun h => match tg d σ with
    | none => .stk
    | some σ2 => (noX (tt σ2 h)).bind fun b h1 => if b = true then (noX (te σ2 h1)).bind fun y h2 => (compS tg tt te σ ds h2).bind fun ys h3 => .ok (y :: ys) h3 else compS tg tt te σ ds h1
/-- [te for tg in it if tt] -/
def eComp (it : AF) (tg : GT) (tt : TF) (te : EF) (vs : List Nat) (σ : S) (h : MH) : R D := (it σ h).bind fun ds h1 =>
  if ds.length ≤ 1000000 then (compS tg tt te (wipeS (dOnly σ) vs) ds h1).bind fun ys h2 => .ok (.lst ys) h2 else .stk
section
variable {Γ : Gm} {k : Nat} {X : Cx} {W : WX} {F : Fr0}
theorem Bn.blk (B : Bn Γ k X W) {s : Shared} {H : Hp} {scope : Scope} {env : Env} {fp : List Addr} : Bn Γ k (X.blk s H scope env fp) W0 := ⟨B.hK, B.nd, B.calm, B.room, takes0, PassesOwn.never⟩
section
variable {H0 G : Hp} {ρ : List Addr} {H : Hp} {σV : L2.St} {σ : S}
theorem dOnly_d {i : Nat} {d : D} : (dOnly σ)[i]? = some (some (.d d)) → σ[i]? = some (some (.d d)) := fun h => by
  unfold dOnly at h
  rw [List.getElem?_map] at h
  cases e : σ[i]? with
  | none => rw [e] at h; cases h
  | some o =>
    rw [e] at h
    cases o with
    | none => cases h
    | some x =>
      cases x with
      | d d' => cases h; rfl
      | own ds => cases h
      | ownD ds => cases h
theorem dOnly_own {i : Nat} : ¬ IsOwn (dOnly σ) i := fun h => by
  unfold dOnly at h
  rcases h with ⟨ds, h⟩ | ⟨ds, h⟩ <;> rw [List.getElem?_map] at h <;>
  · cases e : σ[i]? with
    | none => rw [e] at h; cases h
    | some o =>
      rw [e] at h
      cases o with
      | none => cases h
      | some x => cases x <;> cases h
theorem StD.only (s : StD Γ G ρ σV σ) : StR Γ H0 G ρ H σV (dOnly σ) where
  len := by unfold dOnly; rw [List.length_map]; exact s.len
  d := fun i d h => s.d i d (dOnly_d h)
  own := fun i ds h => (dOnly_own (.inl ⟨ds, h⟩)).elim
  ownD := fun i ds h => (dOnly_own (.inr ⟨ds, h⟩)).elim
  inj := fun i j a h => (dOnly_own h).elim
theorem StR.wipe (s : StR Γ H0 G ρ H σV σ) : ∀ vs : List Nat, StR Γ H0 G ρ H (L2.wipe σV vs) (wipeS σ vs)
  | [] => s
  | v :: vs => (StR.wipe s vs).setNone
theorem wipe_get {σV : L2.St} : ∀ {vs : List Nat} {j : Nat}, (L2.wipe σV vs)[j]? = if j ∈ vs then (σV[j]?).map (fun _ => none) else σV[j]?
  | [], j => by simp [L2.wipe]
  | v :: vs, j => by
    unfold L2.wipe
    by_cases e : v = j
    · subst e
      by_cases hl : v < (L2.wipe σV vs).length
      · rw [List.getElem?_set_self hl]
        rw [wipe_length] at hl
        simp [hl]
      · rw [List.getElem?_eq_none (by simpa using hl)]
        rw [wipe_length] at hl
        simp [List.getElem?_eq_none (Nat.le_of_not_lt hl)]
    · rw [List.getElem?_set_ne e, wipe_get]
      have : (j ∈ v :: vs) ↔ j ∈ vs := by simp; intro z; exact absurd z.symm e
      by_cases hj : j ∈ vs
      · rw [if_pos hj, if_pos (this.mpr hj)]
      · rw [if_neg hj, if_neg (fun z => hj (this.mp z))]
theorem wipe_same {σ1 σ2 : L2.St} {vs is : List Nat} (hl : σ1.length = σ2.length) (hs : ∀ j ∈ is, j ∈ vs) (h : ∀ j, j ∉ is → σ1[j]? = σ2[j]?) : L2.wipe σ1 vs = L2.wipe σ2 vs := by
  apply List.ext_getElem?
  intro j
  rw [wipe_get, wipe_get]
  by_cases hj : j ∈ vs
  · rw [if_pos hj, if_pos hj]
    by_cases hlt : j < σ1.length
    · rw [List.getElem?_eq_getElem hlt, List.getElem?_eq_getElem (by rw [← hl]; exact hlt)]; rfl
    · rw [List.getElem?_eq_none (Nat.le_of_not_lt hlt), List.getElem?_eq_none (by rw [← hl]; exact Nat.le_of_not_lt hlt)]
  · rw [if_neg hj, if_neg hj]
    exact h j fun z => hj (hs j z)
theorem wipe_wipe {σ : L2.St} {vs : List Nat} : L2.wipe (L2.wipe σ vs) vs = L2.wipe σ vs := by
  apply List.ext_getElem?
  intro j
  rw [wipe_get, wipe_get]
  by_cases hj : j ∈ vs
  · simp only [if_pos hj]; cases σ[j]? <;> rfl
  · simp only [if_neg hj]
end
/-- an object of no account is written -/
theorem Rl.write {G : Hp} {ρ : List Addr} {h : MH} {H : Hp} (r : Rl Γ G ρ h H) {p : Addr} {o : HO} (gp : G p = none) (np : p ∉ ρ) : Rl Γ G ρ h (upd H p o) := by
  refine ⟨fun a u e => ?_, r.len, r.nd, r.new, fun n c a h1 h2 => (r.cell n c a h1 h2).mono (Same.refl G) (fun _ _ z => z) fun u e => ?_⟩
  · rw [upd_ne (ne_of_none e gp)]; exact r.sub a u e
  · rw [upd_ne (fun z => np (by subst z; exact List.mem_of_getElem? h2))]; exact e
theorem Ext.write {G G' : Hp} {ρ ρ' : List Addr} {H H' : Hp} (e : Ext G ρ H G' ρ' H') {p : Addr} {o : HO} (hp : H p = Option.none) : Ext G ρ H G' ρ' (upd H' p o) where
  g := e.g
  r := e.r
  off := fun a u q n => by rw [upd_ne (ne_of_none q hp)]; exact e.off a u q n
  st := fun a u q => by rw [upd_ne (ne_of_none q hp)]; exact e.st a u q
  gn := e.gn
  rn := e.rn
/-- an object that nobody writes any more -/
theorem Rl.know {G : Hp} {ρ : List Addr} {h : MH} {H : Hp} (r : Rl Γ G ρ h H) {p : Addr} {o : HO} (gp : G p = none) (np : p ∉ ρ) (hp : H p = some o) : Rl Γ (upd G p o) ρ h H := by
  refine ⟨fun b u q => ?_, r.len, r.nd, fun b hb => ?_, fun n c b q1 q2 => (r.cell n c b q1 q2).mono (same_upd gp) (fun _ _ z => z) fun _ z => z⟩
  · by_cases hb : b = p
    · subst hb; rw [upd_same] at q; cases q; exact hp
    · rw [upd_ne hb] at q; exact r.sub b u q
  · have hne : b ≠ p := fun z => by subst z; exact np hb
    rw [upd_ne hne]; exact r.new b hb
theorem Ext.know {G G' : Hp} {ρ ρ' : List Addr} {H H' : Hp} (e : Ext G ρ H G' ρ' H') {p : Addr} {o : HO} (gp : G' p = Option.none) (hp : H p = Option.none) : Ext G ρ H (upd G' p o) ρ' H' where
  g := e.g.trans (same_upd gp)
  r := e.r
  off := e.off
  st := e.st
  gn := fun a u q => by
    by_cases hb : a = p
    · subst hb; exact .inr hp
    · rw [upd_ne hb] at q; exact e.gn a u q
  rn := e.rn
theorem _root_.Mi.R.bind_assoc {α β γ : Type} (r : R α) (f : α → MH → R β) (g : β → MH → R γ) : (r.bind f).bind g = r.bind fun a h => (f a h).bind g := by cases r <;> rfl
theorem Post.noX {α : Type} {σV : L2.St} {G : Hp} {ρ : List Addr} {H : Hp} {r : R α} {P : α → MH → Hp → List Addr → Hp → Prop} (p : Post Γ W σV G ρ H (noX r) P) {σV' : L2.St} : Post Γ W0 σV' G ρ H r P := by
  cases r with
  | ok a h => exact p
  | exc x h => exact (show False from p).elim
  | stk => exact p
theorem lc_can {fi : AF} {t : GT} {tt : TF} {te : EF} {vs is : List Nat} (hs : ∀ j ∈ is, j ∈ vs) {σV : L2.St} {H : Hp} {Q : VK} (hq : Can Γ W (eComp fi t tt te vs) σV H Q) : tLc (CanI Γ W fi) (CanG Γ is t) (CanT Γ W0 tt) (Can Γ W0 te) vs σV H Q := by
  obtain ⟨G, ρ, σ, h, rl, st, po⟩ := hq
  refine ⟨G, ρ, σ, h, rl, st, po.bind.mono fun ds h0 G0 ρ0 H0 e0 rl0 p0 J ok Da hD => ?_⟩
  obtain ⟨hz, p0⟩ := Post.cond p0
  have st0 := st.ext e0
  obtain ⟨rlA, eA⟩ := rl0.junk (o := .lst []) hD
  have gD := rl0.gnone hD
  have nD := rl0.notIn hD
  refine ⟨fun i m H => m = ds.length - i ∧ i ≤ ds.length ∧ ∃ G ρ h acc av, Rl Γ G ρ h H ∧ Ext G0 ρ0 H0 G ρ H ∧ H Da = some (.lst av) ∧ G Da = none ∧ Da ∉ ρ ∧ DsAt Γ G ρ av acc ∧ acc.length ≤ i ∧
      Post Γ W σV G0 ρ0 H0 ((compS t tt te (wipeS (dOnly σ) vs) (ds.drop i) h).bind fun ys h2 => .ok (.lst (acc ++ ys)) h2) (fun d _ G' ρ' H' => ∀ v, DAt Γ G' ρ' v d → Q v H'),
    ⟨ds.length, by simp, Nat.zero_le _, G0, ρ0, h0, [], [], rlA, eA, upd_same, gD, nD, .nil, Nat.zero_le _, by rw [List.drop_zero]; exact p0⟩, ?_⟩
  rintro i m H1 ⟨rfl, hle, G1, ρ1, h1, acc, av, rl1, e1, h1D, g1D, n1D, dv, la, p1⟩
  obtain ⟨go, stop⟩ := ok i H1 G1 ρ1 h1 rl1 e1.g e1.r
  by_cases hlt : i < ds.length
  · obtain ⟨hgo, yl⟩ := go hlt
    refine .inr ⟨hgo, fun H => i + 1 ≤ ds.length ∧ ∃ G ρ h acc av, Rl Γ G ρ h H ∧ Ext G0 ρ0 H0 G ρ H ∧ H Da = some (.lst av) ∧ G Da = none ∧ Da ∉ ρ ∧ DsAt Γ G ρ av acc ∧ acc.length ≤ i + 1 ∧
      Post Γ W σV G0 ρ0 H0 ((compS t tt te (wipeS (dOnly σ) vs) (ds.drop (i + 1)) h).bind fun ys h2 => .ok (.lst (acc ++ ys)) h2) (fun d _ G' ρ' H' => ∀ v, DAt Γ G' ρ' v d → Q v H'),
      fun H' n => ⟨ds.length - (i + 1), by omega, rfl, n⟩, fun x H2 y => ?_⟩
    obtain ⟨G2, d, hd, rl2, e2, hx⟩ := yl x H2 y
    have e02 := e1.trans e2
    have h2D : H2 Da = some (.lst av) := e2.off _ _ h1D n1D
    have g2D := e2.gnone g1D h1D
    have n2D := n1D
    have ed : ds.drop i = d :: ds.drop (i + 1) := by
      rw [List.drop_eq_getElem_cons hlt]
      congr 1
      have := List.getElem?_eq_getElem hlt
      rw [hd] at this
      exact (Option.some.inj this).symm
    rw [ed] at p1
    unfold compS at p1
    cases q : t d (wipeS (dOnly σ) vs) with
    | none => rw [q] at p1; exact (show False from p1).elim
    | some σ2 =>
      rw [q] at p1
      have sB : At Γ (⟨G2, ρ1, H2⟩ : Fr0) (L2.wipe σV vs) H2 G2 ρ1 (wipeS (dOnly σ) vs) h1 :=
        ⟨rl2, Ext.refl _ _ _, ((st0.ext e02).only (H0 := H2)).wipe vs⟩
      refine ⟨⟨G2, ρ1, H2⟩, G2, ρ1, wipeS (dOnly σ) vs, h1, d, sB, hx, σ2, q, fun σV2 G2' H2' e2' a3 k3 => ?_⟩
      refine ⟨(wipe_same k3.1 hs k3.2).trans wipe_wipe, G2', ρ1, σ2, h1, a3.rl, a3.st.toD, ?_⟩
      have e2 := e2.trans e2'
      have e02 := e1.trans e2
      have g2D := e2'.gnone g2D h2D
      have h2D : H2' Da = some (.lst av) := e2'.off _ _ h2D n1D
      have p2 : Post Γ W σV G0 ρ0 H0 ((noX (tt σ2 h1)).bind fun b h2 => ((if b = true then (noX (te σ2 h2)).bind fun y h2 => (compS t tt te (wipeS (dOnly σ) vs) (ds.drop (i + 1)) h2).bind fun ys h3 => .ok (y :: ys) h3 else compS t tt te (wipeS (dOnly σ) vs) (ds.drop (i + 1)) h2).bind fun ys h2 => .ok (.lst (acc ++ ys)) h2)) (fun d _ G' ρ' H' => ∀ v, DAt Γ G' ρ' v d → Q v H') := by
        rw [← R.bind_assoc]; exact p1
      cases qt : tt σ2 h1 with
      | exc x h3 => rw [qt] at p2; exact (show False from p2).elim
      | stk => rw [qt] at p2; exact (show False from p2).elim
      | ok b h3 =>
        rw [qt] at p2
        have p3 : Post Γ W σV G0 ρ0 H0 ((if b = true then (noX (te σ2 h3)).bind fun y h2 => (compS t tt te (wipeS (dOnly σ) vs) (ds.drop (i + 1)) h2).bind fun ys h3 => .ok (y :: ys) h3 else compS t tt te (wipeS (dOnly σ) vs) (ds.drop (i + 1)) h3).bind fun ys h2 => .ok (.lst (acc ++ ys)) h2) (fun d _ G' ρ' H' => ∀ v, DAt Γ G' ρ' v d → Q v H') := p2
        intro G3 ρ3 H3 e3 rl3
        have e03 := e02.trans e3
        have h3D : H3 Da = some (.lst av) := e3.off _ _ h2D n2D
        have g3D := e3.gnone g2D h2D
        have n3D := e3.notIn n2D h2D
        have dv3 := (dv.mono e2.g e2.r).mono e3.g e3.r
        cases b with
        | false =>
          rw [if_neg Bool.false_ne_true] at p3
          exact iteF ⟨hlt, G3, ρ3, h3, acc, av, rl3, e03, h3D, g3D, n3D, dv3, by omega, p3⟩
        | true =>
          rw [if_pos rfl] at p3
          refine iteT ⟨G3, ρ3, σ2, h3, rl3, a3.st.toD.ext e3, ?_⟩
          cases qe : te σ2 h3 with
          | exc x h4 => rw [qe] at p3; exact (show False from p3).elim
          | stk => rw [qe] at p3; exact (show False from p3).elim
          | ok yd h4 =>
            rw [qe] at p3
            have p4 : Post Γ W σV G0 ρ0 H0 (((compS t tt te (wipeS (dOnly σ) vs) (ds.drop (i + 1)) h4).bind fun ys h3 => .ok (yd :: ys) h3).bind fun ys h2 => .ok (.lst (acc ++ ys)) h2) (fun d _ G' ρ' H' => ∀ v, DAt Γ G' ρ' v d → Q v H') := p3
            rw [R.bind_assoc] at p4
            intro G4 ρ4 H4 e4 rl4 y hy
            have e04 := e03.trans e4
            have h4D : H4 Da = some (.lst av) := e4.off _ _ h3D n3D
            have g4D := e4.gnone g3D h3D
            have n4D := e4.notIn n3D h3D
            have dv4 := dv3.mono e4.g e4.r
            refine ⟨av, h4D, by rw [dv.length]; exact mil' (by omega), hlt, G4, ρ4, h4, acc ++ [yd], av ++ [y], rl4.write g4D n4D, e04.write hD, upd_same, g4D, n4D, dv4.append (.cons hy .nil), by rw [List.length_append]; exact Nat.succ_le_succ la, ?_⟩
            have ee : (fun (ys : List D) (h2 : MH) => (R.ok (.lst (acc ++ [yd] ++ ys)) h2 : R D)) = fun ys h2 => (R.ok (yd :: ys) h2).bind fun ys h2 => .ok (.lst (acc ++ ys)) h2 := by
              funext ys h2
              simp
            rw [ee]
            exact p4
  · have ei : i = ds.length := by omega
    subst ei
    rw [List.drop_length] at p1
    refine .inl ⟨stop (Nat.le_refl _), ?_⟩
    have p1 : Post Γ W σV G0 ρ0 H0 (.ok (.lst acc) h1) (fun d _ G' ρ' H' => ∀ v, DAt Γ G' ρ' v d → Q v H') := by
      have p1 := p1
      unfold compS at p1
      simpa using p1
    exact p1 _ _ _ (e1.know g1D hD) (rl1.know g1D n1D h1D) _ (.lst upd_same (dv.mono (same_upd g1D) fun _ _ z => z))
theorem dpts_nil : PTs X [] (CanT Γ W0 tTrue) := ⟨fun pins s σ H Q I ⟨G, ρ, σ', h, rl, st, po⟩ => pts_nil.run pins s σ H Q I (po.now rl)⟩
theorem dpts_one {c : Expr} {tt : TF} (h : PT X c (CanT Γ W0 tt)) : PTs X [c] (CanT Γ W0 tt) := pts_one h
variable {elt tg iter : Expr} {ifs : List Expr} {scope : Scope} {own : List (Str × Nat)} {pos spos py : Pos} {fi : AF} {t : GT} {tt : TF} {te : EF} {is : List Nat} {y : Str} {f : SF}
theorem de_comp (own : List (Str × Nat)) (B : Bn Γ k X W) (hi : PI X tg iter (CanI Γ W fi))
    (hg : ∀ (s : Shared) (H : Hp) (C : Addr) (cl : List (Str × Addr)) (fp : List Addr), Bn Γ k (X.blk s H scope (compEnvC scope cl C X.env) fp) W0 → PG (X.blk s H scope (compEnvC scope cl C X.env) fp) tg (CanG Γ is t))
    (ht : ∀ (s : Shared) (H : Hp) (C : Addr) (cl : List (Str × Addr)) (fp : List Addr), Bn Γ k (X.blk s H scope (compEnvC scope cl C X.env) fp) W0 → PTs (X.blk s H scope (compEnvC scope cl C X.env) fp) ifs (CanT Γ W0 tt))
    (he : ∀ (s : Shared) (H : Hp) (C : Addr) (cl : List (Str × Addr)) (fp : List Addr), Bn Γ k (X.blk s H scope (compEnvC scope cl C X.env) fp) W0 → PE (X.blk s H scope (compEnvC scope cl C X.env) fp) elt (Can Γ W0 te))
    (ok : blkC X.N X.env.scope scope own = true := by decide +kernel) (hs : ∀ j ∈ is, j ∈ own.map (·.2) := by decide) (hf : ∀ x, foldedSetIterable iter X.env x = pure x := by intro _; rfl) :
    PE X (.ListComp elt [⟨tg, iter, ifs, 0⟩] scope pos) (Can Γ W (eComp fi t tt te (own.map (·.2)))) :=
  pe_weak (pe_lc B.calm B.nd hi (blkOk_by ok) (fun s H C cl fp => hg s H C cl fp B.blk) (fun s H C cl fp => ht s H C cl fp B.blk) (fun s H C cl fp => he s H C cl fp B.blk) hf) fun σV H Q q => lc_can hs q
/-- name = [..] on one line -/
theorem ds_setLc (i : Nat) (own : List (Str × Nat)) (B : Bn Γ k X W) (hi : PI X tg iter (CanI Γ W fi))
    (hg : ∀ (s : Shared) (H : Hp) (C : Addr) (cl : List (Str × Addr)) (fp : List Addr), Bn Γ k (X.blk s H scope (compEnvC scope cl C X.env) fp) W0 → PG (X.blk s H scope (compEnvC scope cl C X.env) fp) tg (CanG Γ is t))
    (ht : ∀ (s : Shared) (H : Hp) (C : Addr) (cl : List (Str × Addr)) (fp : List Addr), Bn Γ k (X.blk s H scope (compEnvC scope cl C X.env) fp) W0 → PTs (X.blk s H scope (compEnvC scope cl C X.env) fp) ifs (CanT Γ W0 tt))
    (he : ∀ (s : Shared) (H : Hp) (C : Addr) (cl : List (Str × Addr)) (fp : List Addr), Bn Γ k (X.blk s H scope (compEnvC scope cl C X.env) fp) W0 → PE (X.blk s H scope (compEnvC scope cl C X.env) fp) elt (Can Γ W0 te))
    (hy : X.N[i]? = some y := by rfl) (hyl : X.env.scope.names.lookup y = some .local := by rfl) (hsw : swapsWith (.ListComp elt [⟨tg, iter, ifs, 0⟩] scope pos) (some (.Name y py)) spos.line X.env = pure true := by rfl)
    (ok : blkC X.N X.env.scope scope own = true := by decide +kernel) (hs : ∀ j ∈ is, j ∈ own.map (·.2) := by decide) (hf : ∀ x, foldedSetIterable iter X.env x = pure x := by intro _; rfl) :
    PS X (.Assign [.Name y py] (.ListComp elt [⟨tg, iter, ifs, 0⟩] scope pos) spos) (CanS Γ W (sAsg i (eComp fi t tt te (own.map (·.2))))) :=
  ps_weak (ps_setLc B.calm B.nd hy hyl hsw hi (blkOk_by ok) (fun s H C cl fp => hg s H C cl fp B.blk) (fun s H C cl fp => ht s H C cl fp B.blk) (fun s H C cl fp => he s H C cl fp B.blk) hf) fun E σV H ⟨F, G, ρ, σ, h, a, po⟩ =>
    lc_can hs (a.run po fun d h1 G1 ρ1 H1 v p1 a1 _ hv => (a1.setD hv).nx p1)
end
end Mi

set_option Elab.async false
set_option linter.all false
set_option maxRecDepth 100000
set_option maxHeartbeats 2000000
/-! Mi10: a def by its body; isinstance. -/
namespace Mi
open PySem PySem.Spec PyProof.Rows L2

/-! ### a def -/
def startS (N : Nat) (ds : List D) : S := ds.map (fun d => some (.d d)) ++ List.replicate (N - ds.length) none
def runBody (N : Nat) (b : SF) (ds : List D) (h : MH) : R D := match b (startS N ds) h with
  | .ok .nx _ h' => .ok .non h'
  | .ok (.rt d) _ h' => .ok d h'
  | .ok _ _ _ => .stk
  | .exc x _ h' => .exc x h'
  | .stk => .stk
/-- what the written part says of a def -/
structure Fn (K : PySem.W.Frag) (x qual : Str) (st : Stmt) (f : Addr) (fd : FuncData) : Prop where
  ex : ∃ (oc : Value) (od : Option Addr) (dV kV doc pm : Value) (an : Option Addr) (cdv ct : Value) (osl : Array (Option Value)),
    fd = PySem.W.fnOf x qual (defArgs st) (defBody st) (defScope st) dV kV doc pm an cdv ct ∧ K.lookup f = some ⟨oc, od, .func fd, osl⟩ ∧ PySem.W.codeIn K cdv qual = true
abbrev Ok (P : Program) (w : World) (Γ : Gm) (mg : Str → Option Value) (base : Heap) (k : Nat) (f : Addr) (fd : FuncData) (ps : List Str) (m : FF) : Prop :=
  FnOk P w Γ.K mg base (L2.CX P w) k f fd ps (spOf Γ ps.length (cnt ps.length m))
theorem startS_d {N : Nat} {ds : List D} {i : Nat} {d : D} (h : (startS N ds)[i]? = some (some (.d d))) : ds[i]? = some d := by
  unfold startS at h
  by_cases hi : i < ds.length
  · rw [List.getElem?_append_left (by simpa using hi), List.getElem?_map] at h
    cases e : ds[i]? with
    | none => rw [e] at h; cases h
    | some x => rw [e] at h; cases h; rfl
  · rw [List.getElem?_append_right (by simpa using hi), List.getElem?_replicate] at h
    split at h <;> cases h
theorem startS_own {N : Nat} {ds : List D} {i : Nat} : ¬ IsOwn (startS N ds) i := fun h => by
  unfold startS at h
  rcases h with ⟨es, h⟩ | ⟨es, h⟩ <;>
  · by_cases hi : i < ds.length
    · rw [List.getElem?_append_left (by simpa using hi), List.getElem?_map] at h
      cases e : ds[i]? with
      | none => rw [e] at h; cases h
      | some x => rw [e] at h; cases h
    · rw [List.getElem?_append_right (by simpa using hi), List.getElem?_replicate] at h
      split at h <;> cases h
theorem str_start {Γ : Gm} {H0 G : Hp} {ρ : List Addr} {H : Hp} {N : List Str} {vs : List V} {ds : List D} (h : DsAt Γ G ρ vs ds) : StR Γ H0 G ρ H (L2.start N vs) (startS N.length ds) where
  len := by unfold L2.start startS; simp [h.length]
  d := fun i d q => by
    obtain ⟨v, h1, h2⟩ := h.get (startS_d q)
    refine ⟨v, ?_, h2⟩
    unfold L2.start
    rw [List.getElem?_append_left (by rw [List.length_map]; exact (List.getElem?_eq_some_iff.mp h1).1), List.getElem?_map, h1]
    rfl
  own := fun i ds q => (startS_own (.inl ⟨ds, q⟩)).elim
  ownD := fun i ds q => (startS_own (.inr ⟨ds, q⟩)).elim
  inj := fun i j a o => (startS_own o).elim
section
variable {P : Program} {w : World} {Γ : Gm} {mg : Str → Option Value} {base : Heap} {x qual : Str} {st : Stmt} {f : Addr} {fd : FuncData} {N ps : List Str} {k : Nat} {b : SF}
/-- THE RULE: what is shown of a body in every context of its kind -/
theorem Fn.ok (F : Fn Γ.K x qual st f fd) (S : FnScope N ps (defScope st))
    (hbody : ∀ (cdv : Value) (A : Around) (outer : List Env) (s : Shared) (H : Hp) (E : XK), Bn Γ k (cxOf (L2.CX P w) P w Γ.K mg base N qual (defScope st) f cdv A outer s H E) (fun cls d _ H => E cls d H) →
      PSs (cxOf (L2.CX P w) P w Γ.K mg base N qual (defScope st) f cdv A outer s H E) (defBody st) (CanS Γ (fun cls d _ H => E cls d H) b)) : Ok P w Γ mg base (k + 1) f fd ps (runBody N.length b) := by
  obtain ⟨oc, od, dV, kV, doc, pm, an, cdv, ct, osl, rfl, lk, hcd⟩ := F.ex
  refine fn_of lk hcd S (fun vs H Q E ⟨h, _⟩ => h) fun A outer s H vs Q E hr hsp => ?_
  refine ⟨_, hbody cdv A outer s H E ⟨rfl, S.nd, rfl, hr, takes_of rfl rfl rfl rfl, passes_of rfl⟩, ?_⟩
  obtain ⟨hl, G, ρ, h, ds, rl, hds, po⟩ := hsp
  refine ⟨⟨G, ρ, H⟩, G, ρ, startS N.length ds, h, ⟨rl, Ext.refl _ _ _, str_start hds⟩, ?_⟩
  have hn : ds.length = ps.length := by rw [← hds.length]; exact hl
  unfold cnt at po
  rw [if_pos hn] at po
  unfold runBody at po
  cases q : b (startS N.length ds) h with
  | stk => rw [q] at po; exact po.elim
  | exc xx σ' h' =>
    rw [q] at po
    exact fun G' ρ' H' σV' dA e rl' _ xa => po G' ρ' H' dA e rl' xa
  | ok fl σ' h' =>
    rw [q] at po
    cases fl with
    | nx => exact fun G' ρ' H' σV' e rl' _ => po G' ρ' H' e rl' _ .non
    | bk => exact (show False from po).elim
    | ct => exact (show False from po).elim
    | rt d => exact fun G' ρ' H' σV' e rl' _ v hv => po G' ρ' H' e rl' v hv
end

/-! ### isinstance -/
inductive Bt where
  | int | bool | str | list | tuple
def Bt.name : Bt → String
  | .int => "int"
  | .bool => "bool"
  | .str => "str"
  | .list => "list"
  | .tuple => "tuple"
def tyB : D → Option String
  | .non => some "NoneType"
  | .bl _ => some "bool"
  | .int _ => some "int"
  | .str _ => some "str"
  | .tup _ => some "tuple"
  | .lst _ => some "list"
  | .scr _ => some "list"
  | .dic _ => some "dict"
  | _ => none
/-- by kinds -/
def isB : D → Bt → Option Bool
  | .non, _ => some false
  | .bl _, .int => some true
  | .bl _, .bool => some true
  | .bl _, _ => some false
  | .int _, .int => some true
  | .int _, _ => some false
  | .str _, .str => some true
  | .str _, _ => some false
  | .tup _, .tuple => some true
  | .tup _, _ => some false
  | .lst _, .list => some true
  | .lst _, _ => some false
  | .scr _, .list => some true
  | .scr _, _ => some false
  | .dic _, _ => some false
  | _, _ => none
/-- o's value without its place: a cell by its content -/
def seen (h : MH) : D → D
  | .ref n => match h[n]? with
    | some (.lst ds) => .lst ds
    | some (.dic kds) => .dic kds
    | some (.ins c ds) => .obj c ds
    | none => .ref n
  | d => d
/-- an own class and isinstance -/
structure IsF (Γ : Gm) (c : Nat) : Prop where
  cl : ClsF Γ c
  ha : PySem.W.findIn Γ.K (.ref (Γ.cls c)) "__class__" = some (some (.builtin "object.__class__"))
  hn : PySem.W.specialIn Γ.K (.builtin "object.__class__") "__get__" = some (some (.builtin "getset_descriptor.__get__"))
  htk : PySem.W.takesIn Γ.K (.builtin "object.__class__") = some true
  hm : PySem.W.mroIn Γ.K (Γ.cls c) (.type "object") = some true
  nb : ∀ T : Bt, PySem.W.kitOne Γ.K (.ref (Γ.cls c)) (.type T.name) = some false
  bn : ∀ T ∈ ["NoneType", "bool", "int", "str", "tuple", "list", "dict"], PySem.W.kitOne Γ.K (.type T) (.ref (Γ.cls c)) = some false
def insB (cs : List Nat) (T : Bt) : D → Option Bool
  | .obj c _ => if c ∈ cs then some false else none
  | d => isB d T
/-- is it of the own class c -/
def insO (c : Nat) : D → Option Bool
  | .obj c' _ => if c' = c then some true else none
  | .ref _ => none
  | _ => some false
def eIsB (cs : List Nat) (T : Bt) (e : EF) (σ : S) (h : MH) : R D := (e σ h).bind fun d h1 => match insB cs T (seen h1 d) with
  | some b => .ok (.bl b) h1
  | none => .stk
def eIsO (c : Nat) (e : EF) (σ : S) (h : MH) : R D := (e σ h).bind fun d h1 => match insO c (seen h1 d) with
  | some b => .ok (.bl b) h1
  | none => .stk
/-- isinstance(e, (T1, T2)) -/
def eIsBB (cs : List Nat) (T T' : Bt) (e : EF) (σ : S) (h : MH) : R D := (e σ h).bind fun d h1 => match insB cs T (seen h1 d), insB cs T' (seen h1 d) with
  | some b, some b' => .ok (.bl (b || b')) h1
  | _, _ => .stk
theorem kit_bt {K : PySem.W.Frag} {s : String} {d : D} {T : Bt} {b : Bool} (hs : tyB d = some s) (h : isB d T = some b) : PySem.W.kitOne K (.type s) (.type T.name) = some b := by
  cases d <;> (try cases hs) <;> cases T <;> cases h <;> exact kit_ty (by decide +kernel)
section
variable {Γ : Gm} {k : Nat} {X : Cx} {W : WX} {pos p p2 p3 p4 pt : Pos} {e : Expr} {fe : EF}
/-- the type of what stands -/
theorem ty_at {G : Hp} {ρ : List Addr} {h : MH} {H : Hp} (rl : Rl Γ G ρ h H) {v : V} {d : D} (hv : DAt Γ G ρ v d) : (∀ s, tyB (seen h d) = some s → TyX Γ.K H v (.type s)) ∧ ∀ c ds, seen h d = .obj c ds → IsF Γ c → TyX Γ.K H v (.ref (Γ.cls c)) := by
  have sq : ∀ {a : Addr} {xs : List V}, SqL Γ.K H a xs → TyX Γ.K H (.ref a) (.type "list") := fun {a xs} q => by
    rcases q with (q | ⟨o, q⟩) | ⟨o, its, n, q, hc, _⟩
    · exact .base (.lst q)
    · exact .base (.frz q)
    · exact .kList q hc
  have st : ∀ {a : Addr} {xs : List V}, SqT Γ.K H a xs → TyX Γ.K H (.ref a) (.type "tuple") := fun {a xs} q => by
    rcases q with (q | ⟨o, q⟩) | ⟨o, its, n, q, hc, _⟩
    · exact .base (.tup q)
    · exact .fTuple q
    · exact .kTuple q hc
  have plain : ∀ {d : D} {s : String}, (∀ n, d ≠ .ref n) → tyB d = some s → TyX Γ.K H v (.type s) → (∀ s, tyB (seen h d) = some s → TyX Γ.K H v (.type s)) ∧ ∀ c ds, seen h d = .obj c ds → IsF Γ c → TyX Γ.K H v (.ref (Γ.cls c)) := fun {d s} hr hs ty => by
    have e : seen h d = d := by cases d <;> first | rfl | exact absurd rfl (hr _)
    rw [e]
    refine ⟨fun s' e' => ?_, fun c ds e' => ?_⟩
    · rw [hs] at e'; cases e'; exact ty
    · rw [e'] at hs; cases hs
  cases hv with
  | non => exact plain (fun _ z => by cases z) rfl (.base .non)
  | bl b => exact plain (fun _ z => by cases z) rfl (.base (.bl b))
  | int b => exact plain (fun _ z => by cases z) rfl (.base (.int b))
  | str b => exact plain (fun _ z => by cases z) rfl (.base (.str b))
  | tup h1 h2 => exact plain (fun _ z => by cases z) rfl (st (same_t rl.sub h1))
  | lst h1 h2 => exact plain (fun _ z => by cases z) rfl (.base (.lst (rl.sub _ _ h1)))
  | scr h1 h2 => exact plain (fun _ z => by cases z) rfl (sq (same_l rl.sub h1))
  | dic h1 h2 => exact plain (fun _ z => by cases z) rfl (.base (.dK (rl.sub _ _ h1)))
  | @obj a dx c0 vs ds0 h1 hl h2 =>
    have e : seen h (.obj c0 ds0) = .obj c0 ds0 := rfl
    rw [e]
    refine ⟨fun s e' => (by cases e'), fun c ds e' I => ?_⟩
    cases e'
    exact .base (.ins (rl.sub _ _ h1) I.cl.cl I.ha I.hn I.htk I.hm)
  | @ref a n hn =>
    cases q : h[n]? with
    | none =>
      have e : seen h (.ref n) = .ref n := by simp only [seen]; rw [q]
      rw [e]
      exact ⟨fun s e' => (by cases e'), fun c ds e' => (by cases e')⟩
    | some cell =>
      have c := rl.cell n cell a q hn
      cases cell with
      | lst ds =>
        obtain ⟨ws, g, _⟩ := c
        have e : seen h (.ref n) = .lst ds := by simp only [seen]; rw [q]
        rw [e]
        exact ⟨fun s e' => (by cases e'; exact .base (.lst g)), fun c ds e' => (by cases e')⟩
      | dic ds =>
        obtain ⟨ws, g, _⟩ := c
        have e : seen h (.ref n) = .dic ds := by simp only [seen]; rw [q]
        rw [e]
        exact ⟨fun s e' => (by cases e'; exact .base (.dK g)), fun c ds e' => (by cases e')⟩
      | ins c ds =>
        obtain ⟨dx, ws, g, _⟩ := c
        have e : seen h (.ref n) = .obj c ds := by simp only [seen]; rw [q]
        rw [e]
        refine ⟨fun s e' => (by cases e'), fun c ds e' I => ?_⟩
        cases e'
        exact .base (.ins g I.cl.cl I.ha I.hn I.htk I.hm)
theorem tyB_isB {d : D} {T : Bt} {b : Bool} (h : isB d T = some b) : ∃ s, tyB d = some s := by
  cases d <;> first | exact ⟨_, rfl⟩ | (cases T <;> cases h)
theorem kit_insB {cs : List Nat} (hI : ∀ c ∈ cs, IsF Γ c) {G : Hp} {ρ : List Addr} {h : MH} {H : Hp} (rl : Rl Γ G ρ h H) {v : V} {d : D} (hv : DAt Γ G ρ v d) {T : Bt} {b : Bool} (e : insB cs T (seen h d) = some b) :
    ∃ t, TyX Γ.K H v t ∧ ∀ (T : Bt) (b : Bool), insB cs T (seen h d) = some b → PySem.W.kitOne Γ.K t (.type T.name) = some b := by
  obtain ⟨t1, t2⟩ := ty_at rl hv
  have plain : (∀ T, insB cs T (seen h d) = isB (seen h d) T) → ∃ t, TyX Γ.K H v t ∧ ∀ (T : Bt) (b : Bool), insB cs T (seen h d) = some b → PySem.W.kitOne Γ.K t (.type T.name) = some b := fun q => by
    rw [q] at e
    obtain ⟨s, hs⟩ := tyB_isB e
    exact ⟨_, t1 s hs, fun T b e => kit_bt hs (by rw [← q]; exact e)⟩
  cases q : seen h d with
  | obj c ds =>
    rw [q] at e
    unfold insB at e
    by_cases hc : c ∈ cs
    · refine ⟨_, t2 c ds q (hI c hc), fun T b e => ?_⟩
      unfold insB at e
      simp only [hc, if_true] at e
      cases e
      exact (hI c hc).nb T
    · simp only [hc, if_false] at e
      cases e
  | _ => rw [q] at plain; exact plain fun _ => rfl
theorem kit_insO {c : Nat} (hI : IsF Γ c) {G : Hp} {ρ : List Addr} {h : MH} {H : Hp} (rl : Rl Γ G ρ h H) {v : V} {d : D} (hv : DAt Γ G ρ v d) {b : Bool} (e : insO c (seen h d) = some b) :
    ∃ t, TyX Γ.K H v t ∧ PySem.W.kitOne Γ.K t (.ref (Γ.cls c)) = some b := by
  obtain ⟨t1, t2⟩ := ty_at rl hv
  have plain : ∀ s, tyB (seen h d) = some s → b = false → s ∈ ["NoneType", "bool", "int", "str", "tuple", "list", "dict"] → ∃ t, TyX Γ.K H v t ∧ PySem.W.kitOne Γ.K t (.ref (Γ.cls c)) = some b := fun s hs hb hm => by
    subst hb
    exact ⟨_, t1 s hs, hI.bn s hm⟩
  cases q : seen h d with
  | obj c' ds =>
    rw [q] at e
    unfold insO at e
    by_cases hc : c' = c
    · subst hc
      simp only [if_true] at e
      cases e
      refine ⟨_, t2 c' ds q hI, ?_⟩
      unfold PySem.W.kitOne
      rw [if_pos (by simp)]
    · simp only [hc, if_false] at e
      cases e
  | ref n => rw [q] at e; cases e
  | _ => rw [q] at e; cases e; exact plain _ (by rw [q]; rfl) rfl (by decide)
theorem de_isB (cs : List Nat) (T : Bt) (B : Bn Γ k X W) (hI : ∀ c ∈ cs, IsF Γ c) {x : Str} (hm : X.mg "isinstance" = none) (hx : X.mg x = none) (he : PE X e (Can Γ W fe)) (hT : bootBuiltins x = some (.type T.name)) (hg : Gl X "isinstance" := by rfl) (hg2 : Gl X x := by rfl)
    (hn : x ≠ "__name__" := by decide) (hd : (x == ("__debug__" : Str)) = false := by decide) (hst : starEach (e :: [.Name x p2]) X.env = (false, eval e X.env) :: starEach [.Name x p2] X.env := by rfl) (hst2 : starEach [.Name x p2] X.env = (false, eval (.Name x p2) X.env) :: starEach [] X.env := by rfl) (hpl : (backTo pos (starEach [.Name x p2] X.env)).any (·.1) = false := by rfl) :
    PE X (.Call (.Name "isinstance" p) [e, .Name x p2] [] pos) (Can Γ W (eIsB cs T fe)) :=
  pe_weak (pe_callB (r := rIsi X.K) call_isi hg hm PyProof.Rows.boot_isinstance (pa_cons he (pa_cons (pe_bltn (v := .ty T.name) hg2 hx hT rfl hn hd) pa_nil hst2) hst) (by decide) (by decide) hst hpl) fun σV H Q ⟨G, ρ, σ, h, rl, st, po⟩ =>
    ⟨G, ρ, σ, h, rl, st, po.bind.mono fun d h1 G1 ρ1 H1 e1 rl1 p1 v hv => by
      split at p1
      · rename_i b q
        obtain ⟨t, ty, hk⟩ := kit_insB hI rl1 hv q
        rw [B.hK]
        exact ⟨v, _, t, _, b, rfl, .ty _, ty, hk T b q, p1.now rl1 _ (.bl b)⟩
      · exact p1.elim⟩
theorem de_isO (B : Bn Γ k X W) {c : Nat} (hI : IsF Γ c) {x : Str} (hm : X.mg "isinstance" = none) (hx : X.mg x = some (.ref (Γ.cls c))) (he : PE X e (Can Γ W fe)) (hg : Gl X "isinstance" := by rfl) (hg2 : Gl X x := by rfl) (hd : (x == ("__debug__" : Str)) = false := by decide)
    (hst : starEach (e :: [.Name x p2]) X.env = (false, eval e X.env) :: starEach [.Name x p2] X.env := by rfl) (hst2 : starEach [.Name x p2] X.env = (false, eval (.Name x p2) X.env) :: starEach [] X.env := by rfl) (hpl : (backTo pos (starEach [.Name x p2] X.env)).any (·.1) = false := by rfl) :
    PE X (.Call (.Name "isinstance" p) [e, .Name x p2] [] pos) (Can Γ W (eIsO c fe)) :=
  pe_weak (pe_callB (r := rIsi X.K) call_isi hg hm PyProof.Rows.boot_isinstance (pa_cons he (pa_cons (pe_glob (v := .ref (Γ.cls c)) hg2 hx rfl hd) pa_nil hst2) hst) (by decide) (by decide) hst hpl) fun σV H Q ⟨G, ρ, σ, h, rl, st, po⟩ =>
    ⟨G, ρ, σ, h, rl, st, po.bind.mono fun d h1 G1 ρ1 H1 e1 rl1 p1 v hv => by
      split at p1
      · rename_i b q
        obtain ⟨t, ty, hk⟩ := kit_insO hI rl1 hv q
        rw [B.hK]
        exact ⟨v, _, t, _, b, rfl, .own _, ty, hk, p1.now rl1 _ (.bl b)⟩
      · exact p1.elim⟩
theorem de_isBB (cs : List Nat) (T T' : Bt) (B : Bn Γ k X W) (hI : ∀ c ∈ cs, IsF Γ c) {x y : Str} {kk : Nat} (hm : X.mg "isinstance" = none) (hx : X.mg x = none) (hy : X.mg y = none) (he : PE X e (Can Γ W fe)) (hT : bootBuiltins x = some (.type T.name)) (hT' : bootBuiltins y = some (.type T'.name)) (hg : Gl X "isinstance" := by rfl) (hg2 : Gl X x := by rfl) (hg3 : Gl X y := by rfl)
    (hn : x ≠ "__name__" := by decide) (hd : (x == ("__debug__" : Str)) = false := by decide) (hn' : y ≠ "__name__" := by decide) (hd' : (y == ("__debug__" : Str)) = false := by decide)
    (hst : starEach (e :: [.Tuple [.Name x p2, .Name y p3] kk pt]) X.env = (false, eval e X.env) :: starEach [.Tuple [.Name x p2, .Name y p3] kk pt] X.env := by rfl) (hst2 : starEach [.Tuple [.Name x p2, .Name y p3] kk pt] X.env = (false, eval (.Tuple [.Name x p2, .Name y p3] kk pt) X.env) :: starEach [] X.env := by rfl) (hpl : (backTo pos (starEach [.Tuple [.Name x p2, .Name y p3] kk pt] X.env)).any (·.1) = false := by rfl)
    (ht1 : starEach [.Name x p2, .Name y p3] X.env = (false, eval (.Name x p2) X.env) :: starEach [.Name y p3] X.env := by rfl) (ht2 : starEach [.Name y p3] X.env = (false, eval (.Name y p3) X.env) :: starEach [] X.env := by rfl) :
    PE X (.Call (.Name "isinstance" p) [e, .Tuple [.Name x p2, .Name y p3] kk pt] [] pos) (Can Γ W (eIsBB cs T T' fe)) :=
  pe_weak (pe_callB (r := rIsiT X.K) call_isiT hg hm PyProof.Rows.boot_isinstance (pa_cons he (pa_cons (pe_tup (pa_cons (pe_bltn (v := .ty T.name) hg2 hx hT rfl hn hd) (pa_cons (pe_bltn (v := .ty T'.name) hg3 hy hT' rfl hn' hd') pa_nil ht2) ht1)) pa_nil hst2) hst) (by decide) (by decide) hst hpl) fun σV H Q ⟨G, ρ, σ, h, rl, st, po⟩ =>
    ⟨G, ρ, σ, h, rl, st, po.bind.mono fun d h1 G1 ρ1 H1 e1 rl1 p1 v hv => by
      split at p1
      · rename_i b b' q q'
        refine ⟨mil (n := 2) (by decide), fun tp htp => ?_⟩
        obtain ⟨rl2, e2⟩ := rl1.junk (o := .tup [.ty T.name, .ty T'.name]) htp
        have hv2 := hv.mono e2.g e2.r
        obtain ⟨t, ty, hk⟩ := kit_insB hI rl2 hv2 q
        rw [B.hK]
        refine ⟨v, tp, _, t, [.type T.name, .type T'.name], b || b', rfl, upd_same, .cons (.ty _) (.cons (.ty _) .nil), ty, kitAny_cons (hk T b q) (fun hb => ?_) (fun hb => by rw [hb]; rfl), p1 _ _ _ e2 rl2 _ (.bl _)⟩
        rw [hb]
        exact kitAny_cons (hk T' b' q') (fun hb => by rw [hb]; exact kitAny_nil) (fun hb => by rw [hb]; rfl)
      · exact p1.elim⟩
end
end Mi

set_option Elab.async false
set_option linter.all false
set_option maxRecDepth 100000
set_option maxHeartbeats 2000000
/-! Mi11: own operators. -/
namespace Mi
open PySem PySem.Spec PyProof.Rows L2

/-- x op y by x's own method; y of the same class (or, imm, a plain scalar) -/
def immD : D → Option String
  | .non => some "NoneType"
  | .bl _ => some "bool"
  | .int _ => some "int"
  | .str _ => some "str"
  | _ => none
def rightD (c : Nat) (Ts : List String) (h : MH) (y : D) : Bool := (objD h c y).isSome || (match immD y with
  | some T => decide (T ∈ Ts)
  | none => false)
def eOpO (c : Nat) (Ts : List String) (m : FF) (a b : EF) (σ : S) (h : MH) : R D := (a σ h).bind fun x h1 => (b σ h1).bind fun y h2 => if (objD h2 c x).isSome = true ∧ rightD c Ts h2 y = true then m [x, y] h2 else .stk
/-- what the written part says of a class's own operator -/
structure OpF (K : PySem.W.Frag) (C : Addr) (nm : String) (Ts : List String) (f : Addr) : Prop where
  sf : PySem.W.selfFirst K C = true
  fi : PySem.W.findIn K (.ref C) (PySem.dunder nm) = some (some (.ref f))
  fn : PySem.W.isFn K (.ref f) = true
  rf : PySem.W.findIn K (.ref C) (dunderR nm) = some none
  ty : ∀ T ∈ Ts, (∃ fo, PySem.W.findIn K (.type T) (PySem.dunder nm) = some fo) ∧ (∃ ro, PySem.W.findIn K (.type T) (dunderR nm) = some ro) ∧ PySem.W.subIn K (.type T) (.ref C) = some false
structure CmF (K : PySem.W.Frag) (C : Addr) (op : CmpOp) (Ts : List String) (f : Addr) : Prop where
  fi : PySem.W.findIn K (.ref C) (cmpInfo op).2.1 = some (some (.ref f))
  fn : PySem.W.isFn K (.ref f) = true
  nf : PySem.W.notFirst K C (.ref C) = true
  ty : ∀ T ∈ Ts, PySem.W.notFirst K C (.type T) = true
section
variable {Γ : Gm} {k j : Nat} {X : Cx} {W : WX} {pos : Pos} {a b : Expr} {fa fb : EF} {m : FF} {f : Addr} {fd : FuncData} {ps : List Str}
abbrev RS2 := L2.St → V → V → Hp → VK → Prop
def tOpS (r : RS2) (ta tb : TE) : TE := fun σ H Q => ta σ H fun x H1 => tb σ H1 fun y H2 => r σ x y H2 Q
def OpS (X : Cx) (f : Value → Value → Sem Value) (r : RS2) : Prop :=
  ∀ (pins : List (Addr × Obj)) (s : Shared) (σ : L2.St) (H : Hp) (x y : V) (v u : Value) (Q : VK), Inv X pins σ H s → RelV x v → RelV y u → r σ x y H Q → wpAny (model X.prog X.w) X.A (f v u) (EP X pins σ Q) X.xe s
theorem pe_opS {op : Operator} {r : RS2} {ta tb : TE} (ho : OpS X (binaryOp op) r) (ha : PE X a ta) (hb : PE X b tb) : PE X (.BinOp a op b pos) (tOpS r ta tb) :=
  ⟨fun pins s σ H Q I h => wpAny_BinOp (binT ha hb I h fun v u s2 x y H2 I2 rx ry q => ho pins s2 σ H2 x y v u Q I2 rx ry q)⟩
theorem pe_cmpS {op : CmpOp} {r : RS2} {ta tb : TE} (ho : OpS X (compareOp op) r) (ha : PE X a ta) (hb : PE X b tb) (hm : behindInMarks op b = false) : PE X (.Compare a [op] [b] pos) (tOpS r ta tb) :=
  ⟨fun pins s σ H Q I h => wpAny_Compare1 (binT ha hb I h fun v u s2 x y H2 I2 rx ry q => ho pins s2 σ H2 x y v u Q I2 rx ry q) hm⟩
/-- the class's own two-place method at x: y an instance, or a scalar of one of Ts -/
def rOwn (Γ : Gm) (W : WX) (c : Nat) (Ts : List String) (sp : Sp) : RS2 := fun σ x y H Q => (∃ p dx fs, x = .ref p ∧ H p = some (.ins (Γ.cls c) dx fs)) ∧ ((∃ p dx fs, y = .ref p ∧ H p = some (.ins (Γ.cls c) dx fs)) ∨ ∃ T ∈ Ts, ∀ u, RelV y u → typeOf u = pure (.type T)) ∧ sp [x, y] H Q (WE W σ)
theorem cmpBack {X : Cx} {pins : List (Addr × Obj)} {σ : L2.St} {Q : VK} {v : Value} {s' : Shared} (h : EP X pins σ Q v s') : PySem.W.CmpBack (EP X pins σ Q) v s' := by
  obtain ⟨x, H, I, r, q⟩ := id h
  cases x with
  | non => cases (show v = _ from r); exact h
  | bl b => cases (show v = _ from r); exact h
  | int i => obtain ⟨t, rfl⟩ := (show ∃ t, v = _ from r); exact h
  | str i => obtain ⟨t, rfl⟩ := (show ∃ t, v = _ from r); exact h
  | byt i => obtain ⟨t, rfl⟩ := (show ∃ t, v = _ from r); exact h
  | flt i => obtain ⟨t, rfl⟩ := (show ∃ t, v = _ from r); exact h
  | ref i => cases (show v = _ from r); exact h
  | ty i => cases (show v = _ from r); exact h
theorem own_op {op : Operator} {sp : Sp} {c : Nat} {Ts : List String} (hK : X.K = Γ.K) (O : OpF Γ.K (Γ.cls c) op.info.2 Ts f) (F : FnOk X.prog X.w X.K X.mg X.base (L2.CX X.prog X.w) j f fd ps sp) (hr : Room j X.A) (hb : Binds X.K fd ps []) (tk : Takes X W) : OpS X (binaryOp op) (rOwn Γ W c Ts sp) := by
  intro pins s σ H x y v u Q I rx ry ⟨⟨p, dx, fs, ex, hp⟩, hy, hsp⟩
  subst ex
  cases rx
  have run : wpAny (model X.prog X.w) X.A (call (.ref f) [.ref p, u]) (PySem.W.CmpBack (EP X pins σ Q)) X.xe s :=
    wpAny_mono (run_fnS (us := [.ref p, u]) (vs := [.ref p, y]) F hr hb (passAt tk σ) I (.cons rfl (.cons ry .nil)) hsp) (fun _ _ z => cmpBack z) fun _ _ z => z
  obtain ⟨mA, J, _⟩ := ins_get I.hok hp
  obtain ⟨od, J, _⟩ := J.look
  obtain ⟨mm, hF⟩ := I.fr
  rw [← hK] at O
  rcases hy with ⟨q, dy, gs, ey, hq⟩ | ⟨T, hT, hty⟩
  · subst ey
    cases ry
    obtain ⟨mB, J', _⟩ := ins_get I.hok hq
    obtain ⟨od', J', _⟩ := J'.look
    exact PySem.W.binop_K hF I.ok.mod.kin J J'.type O.sf O.fi O.fn run
  · obtain ⟨⟨fo, h1⟩, ⟨ro, h2⟩, h3⟩ := O.ty T hT
    exact PySem.W.ksp_binT hF I.ok.mod.kin J (hty u ry) O.sf O.fi O.fn O.rf (.inl rfl) h1 h2 h3 run
theorem own_cmp {op : CmpOp} {sp : Sp} {c : Nat} {Ts : List String} (hK : X.K = Γ.K) (hop : ∀ v u, compareOp op v u = richCompare op v u) (O : CmF Γ.K (Γ.cls c) op Ts f) (F : FnOk X.prog X.w X.K X.mg X.base (L2.CX X.prog X.w) j f fd ps sp) (hr : Room j X.A) (hb : Binds X.K fd ps []) (tk : Takes X W) : OpS X (compareOp op) (rOwn Γ W c Ts sp) := by
  intro pins s σ H x y v u Q I rx ry ⟨⟨p, dx, fs, ex, hp⟩, hy, hsp⟩
  subst ex
  cases rx
  have run : wpAny (model X.prog X.w) X.A (call (.ref f) [.ref p, u]) (PySem.W.CmpBack (EP X pins σ Q)) X.xe s :=
    wpAny_mono (run_fnS (us := [.ref p, u]) (vs := [.ref p, y]) F hr hb (passAt tk σ) I (.cons rfl (.cons ry .nil)) hsp) (fun _ _ z => cmpBack z) fun _ _ z => z
  obtain ⟨mA, J, _⟩ := ins_get I.hok hp
  obtain ⟨od, J, _⟩ := J.look
  obtain ⟨mm, hF⟩ := I.fr
  rw [← hK] at O
  rw [hop]
  have hu : X.A.units < cLine := by have := hr.un; omega
  rcases hy with ⟨q, dy, gs, ey, hq⟩ | ⟨T, hT, hty⟩
  · subst ey
    cases ry
    obtain ⟨mB, J', _⟩ := ins_get I.hok hq
    obtain ⟨od', J', _⟩ := J'.look
    exact PySem.W.cmp_K hu hF I.ok.mod.kin J J'.type O.nf O.fi O.fn run
  · exact PySem.W.cmp_K hu hF I.ok.mod.kin J (PySem.W.Looks.of_pure (hty u ry)) (O.ty T hT) O.fi O.fn run
theorem imm_ty {G : Hp} {ρ : List Addr} {v : V} {d : D} {T : String} (hv : DAt Γ G ρ v d) (h : immD d = some T) : ∀ u, RelV v u → typeOf u = pure (.type T) := fun u r => by
  cases hv <;> cases h
  · cases (show u = _ from r); rfl
  · cases (show u = _ from r); rfl
  · obtain ⟨t, rfl⟩ := (show ∃ t, u = _ from r); rfl
  · obtain ⟨t, rfl⟩ := (show ∃ t, u = _ from r); rfl
theorem can_own {c : Nat} {Ts : List String} {σV : L2.St} {H : Hp} {Q : VK} (hq : Can Γ W (eOpO c Ts (cnt 2 m) fa fb) σV H Q) : tOpS (rOwn Γ W c Ts (spOf Γ 2 (cnt 2 m))) (Can Γ W fa) (Can Γ W fb) σV H Q := by
  obtain ⟨G, ρ, σ, h, rl, st, po⟩ := hq
  refine ⟨G, ρ, σ, h, rl, st, po.bind.mono fun dx h1 G1 ρ1 H1 e1 rl1 po1 v1 dv1 => ⟨G1, ρ1, σ, h1, rl1, st.ext e1, po1.bind.mono fun dy h2 G2 ρ2 H2 e2 rl2 po2 v2 dv2 => ?_⟩⟩
  obtain ⟨⟨hx, hy⟩, po2⟩ := Post.cond po2
  have dv1 := dv1.mono e2.g e2.r
  obtain ⟨ds, hd⟩ := Option.isSome_iff_exists.mp hx
  obtain ⟨p, dA, vs, rfl, hp, _⟩ := objD_at rl2 dv1 hd
  refine ⟨⟨p, dA, _, rfl, hp⟩, ?_, sp_call rfl rl2 (.cons dv1 (.cons dv2 .nil)) po2⟩
  unfold rightD at hy
  rw [Bool.or_eq_true] at hy
  rcases hy with hy | hy
  · obtain ⟨es, he⟩ := Option.isSome_iff_exists.mp hy
    obtain ⟨q, dB, ws, rfl, hq, _⟩ := objD_at rl2 dv2 he
    exact .inl ⟨q, dB, _, rfl, hq⟩
  · split at hy
    · rename_i T hT
      exact .inr ⟨T, of_decide_eq_true hy, imm_ty dv2 hT⟩
    · cases hy
theorem de_own (B : Bn Γ k X W) {op : Operator} {c : Nat} {Ts : List String} (O : OpF Γ.K (Γ.cls c) op.info.2 Ts f) (F : FnOk X.prog X.w X.K X.mg X.base (L2.CX X.prog X.w) j f fd ps (spOf Γ 2 (cnt 2 m))) (hj : j ≤ k) (hb : Binds X.K fd ps [])
    (ha : PE X a (Can Γ W fa)) (hc : PE X b (Can Γ W fb)) : PE X (.BinOp a op b pos) (Can Γ W (eOpO c Ts (cnt 2 m) fa fb)) :=
  pe_weak (pe_opS (own_op B.hK O F (B.room.mono hj) hb B.tk) ha hc) fun _ _ _ => can_own
theorem de_ownEq (B : Bn Γ k X W) {c : Nat} {Ts : List String} (O : CmF Γ.K (Γ.cls c) .Eq Ts f) (F : FnOk X.prog X.w X.K X.mg X.base (L2.CX X.prog X.w) j f fd ps (spOf Γ 2 (cnt 2 m))) (hj : j ≤ k) (hb : Binds X.K fd ps [])
    (ha : PE X a (Can Γ W fa)) (hc : PE X b (Can Γ W fb)) (hm : behindInMarks .Eq b = false := by rfl) : PE X (.Compare a [.Eq] [b] pos) (Can Γ W (eOpO c Ts (cnt 2 m) fa fb)) :=
  pe_weak (pe_cmpS (own_cmp B.hK (fun _ _ => rfl) O F (B.room.mono hj) hb B.tk) ha hc hm) fun _ _ _ => can_own
theorem pt_cmpS {op : CmpOp} {r : RS2} {ta tb : TE} (ho : OpS X (compareOp op) r) (ha : PE X a ta) (hb : PE X b tb) (hm : behindInMarks op b = false) : PT X (.Compare a [op] [b] pos) (tTest (tOpS r ta tb)) := by
  refine ⟨fun pins s σ H Q I h => ?_⟩
  refine wpAny_isTrue_Compare1 (thn (ha.run pins s σ H _ I h) fun v s1 ⟨x, H1, I1, r1, q1⟩ => thn (hb.run pins s1 σ H1 _ I1 q1) fun u s2 ⟨y, H2, I2, r2, q2⟩ =>
    thn (ho pins s2 σ H2 x y v u _ I2 r1 r2 q2) fun c s3 ⟨z, H3, I3, r3, k, e, q3⟩ => ?_) hm
  subst e
  cases r3
  exact wpAny_truthy_bool ⟨H3, I3, q3⟩
theorem dt_ownEq (B : Bn Γ k X W) {c : Nat} {Ts : List String} (O : CmF Γ.K (Γ.cls c) .Eq Ts f) (F : FnOk X.prog X.w X.K X.mg X.base (L2.CX X.prog X.w) j f fd ps (spOf Γ 2 (cnt 2 m))) (hj : j ≤ k) (hb : Binds X.K fd ps [])
    (ha : PE X a (Can Γ W fa)) (hc : PE X b (Can Γ W fb)) (hm : behindInMarks .Eq b = false := by rfl) : PT X (.Compare a [.Eq] [b] pos) (CanT Γ W (fun σ h => toB (eOpO c Ts (cnt 2 m) fa fb σ h))) :=
  pt_weak (pt_cmpS (own_cmp B.hK (fun _ _ => rfl) O F (B.room.mono hj) hb B.tk) ha hc hm) fun _ _ _ => can_toB fun _ q => can_own q
end
end Mi

set_option Elab.async false
set_option linter.all false
set_option maxRecDepth 100000
set_option maxHeartbeats 2000000
/-! Mi12: a star among the targets (of a tuple). -/
namespace Mi
open PySem PySem.Spec PyProof.Rows L2

theorem star_items {prog : Program} {w : World} {A : Around} {E : Value → Shared → Prop} {s : Shared} {t : Addr} {its : Array Value} {n i : Nat} {Q : List Value → Shared → Prop} (ht : IsTup s.heap t its) (hA : A.handled = none) (hin : i < n) (hfew : n ≤ its.size + 1) (hbig : its.size ≤ sizeLine) 
    (hQ : ∀ (h' : Heap) (tk : Nat), (∀ b o, s.heap.get? b = some o → h'.get? b = some o) → Q (its.toList.take i ++ [.ref h'.objs.size] ++ (its.toList.drop i).drop (its.size + 1 - n)) { s with heap := h'.push { cls := .type "list", data := .seq ((its.toList.drop i).take (its.size + 1 - n)).toArray }, toks := tk }) :
    wpAny (model prog w) A (unpackItems (.ref t) n (some i)) Q E s := by
  have new : t ≠ s.heap.objs.size := let ⟨_, q, _⟩ := id ht; Nat.ne_of_lt (Heap.lt_size q)
  have len1 : (its.toList.take i).length = i := by rw [List.length_take, Array.length_toList]; omega
  have len2 : (its.toList.drop i).length = its.size - i := by rw [List.length_drop, Array.length_toList]
  have mid : (its.toList.drop i).length - (n - 1 - i) = its.size + 1 - n := by rw [len2]; omega
  unfold unpackItems notIterableAtAll
  refine wpAny_bind (wpAny_bind (wpAny_specialOf ht.typeIs slot_tuple_iter.lookup (wpAny_pure ?_)))
  rw [if_neg (by exact Bool.false_ne_true)]
  refine wpAny_bind (wpAny_holding (PyProof.Rows.iter_tuple ht ?_))
  refine wpAny_bind (wpAny_holding (PyProof.Rows.draw_tuple new i 0 _ _ ⟨_, Heap.get?_push_size _ rfl, rfl, rfl⟩ (ht.push _) (by omega) fun g1 it1 sb1 => ?_))
  have t1 : IsTup g1 t its := (ht.push _).extBut sb1.extBut new
  rw [Nat.zero_add] at it1
  rw [List.drop_zero, if_neg (by rw [len1]; omega)]
  obtain ⟨_, oi, _⟩ := id it1
  obtain ⟨_, ot, _⟩ := id t1
  refine wpAny_bind (wpAny_holding (PySem.W.kun_collect (s := { s with heap := g1 }) (T := "tuple_iterator") (.inr (.inr (.inr rfl))) (Walks.tuple (A := A.in1) hA s.heap.objs.size t new its) (fun j u st => st.1.typeIs) (k := i) (by omega) ⟨it1, t1⟩ (Heap.lt_size oi) (Heap.lt_size ot) (fun g2 tk kp => ?_) hbig))
  show wpAny _ _ (if (its.toList.drop i).length < n - 1 - i then _ else _) _ _ _
  rw [if_neg (by rw [len2]; omega)]
  have all : ∀ b o, s.heap.get? b = some o → g2.get? b = some o := fun b o e => by
    have ne : b ≠ s.heap.objs.size := Nat.ne_of_lt (Heap.lt_size e)
    exact kp b o ne (sb1.extBut b o ne (Heap.get?_push_of_some _ e))
  refine wpAny_bind (wpAny_newList ?_ (by rw [List.length_take, len2]; omega))
  rw [mid]
  exact wpAny_pure (hQ g2 tk all)
/-- a, *b, c = a tuple -/
def tgStar (i n : Nat) (r : GTs) (d : D) (σ : S) : Option S := match d with
  | .tup ds => if n ≤ ds.length + 1 then r (ds.take i ++ [.lst ((ds.drop i).take (ds.length + 1 - n))] ++ (ds.drop i).drop (ds.length + 1 - n)) σ else none
  | _ => none
section
variable {Γ : Gm} {k n i : Nat} {X : Cx} {W : WX} {pos : Pos} {es es' : List Expr} {r : GTs} {is : List Nat}
theorem dg_star (B : Bn Γ k X W) {kk : Nat} (h : PGs X es' (CanGs Γ is r)) (hn : (assignEach es X.env).length = n := by rfl) (hst : (assignEach es X.env).findIdx? (·.1) = some i := by rfl) (hin : i < n := by decide) (hes : (assignEach es X.env).map (·.2) = (assignEach es' X.env).map (·.2) := by rfl) :
    PG X (.Tuple es kk pos) (CanG Γ is (tgStar i n r)) := by
  refine ⟨fun pins s σV H v u Q I rv hq => ?_⟩
  obtain ⟨F, G, ρ, σ, h0, d, a, hv, σ', e, q⟩ := hq
  unfold tgStar at e
  cases hv <;> first | cases e | skip
  rename_i a0 vs ds hsq hds
  by_cases hfew : n ≤ ds.length + 1
  · simp only [hfew, if_true] at e
    have hsq' : SqT X.K H a0 vs := by rw [B.hK]; exact same_t a.rl.sub hsq
    cases (show u = Value.ref a0 from rv)
    obtain ⟨its, rvs, ht, hz⟩ := I.tuple hsq'
    have hlen : its.toArray.size = ds.length := by rw [List.size_toArray, ← rvs.length, hds.length]
    rw [assign_Tuple]
    refine wpAny_bind (wpAny_standAt ?_)
    unfold unpack
    rw [hn, hst]
    refine wpAny_bind (wpAny_holding (star_items ht (I.ok.hd B.calm) hin (by rw [hlen]; exact hfew) (by rw [hlen, ← hds.length]; exact hz) fun h' tk kp => ?_))
    rw [hes]
    -- the new list
    have hls : DsAt Γ G ρ ((vs.drop i).take (ds.length + 1 - n)) ((ds.drop i).take (ds.length + 1 - n)) := (hds.drop i).take _
    have I1 : Inv X pins σV H { s with heap := h', toks := tk } := I.kept kp
    have fr : H h'.objs.size = none := I1.hok.fresh (Nat.le_refl _)
    have I2 : Inv X pins σV (upd H h'.objs.size (.lst ((vs.drop i).take (ds.length + 1 - n)))) { s with heap := h'.push { cls := .type "list", data := .seq ((its.toArray.toList.drop i).take (its.toArray.size + 1 - n)).toArray }, toks := tk } := by
      refine I1.laid (t' := tk) (fun b ob q => Heap.get?_push_of_some _ q) (Nat.le_refl _) ⟨?_, _, 0, (rvs.drop i).take (ds.length + 1 - n), ?_⟩
      · rw [List.length_take, List.length_drop, rvs.length]
        have : its.length ≤ sizeLine := by rw [← rvs.length]; exact hz
        omega
      · show (h'.push _).get? _ = _
        rw [hlen]
        exact Heap.get?_push_size _ rfl
    obtain ⟨rl2, e2⟩ := a.rl.grow (o := .lst ((vs.drop i).take (ds.length + 1 - n))) fr
    have a2 : At Γ F σV (upd H h'.objs.size (.lst ((vs.drop i).take (ds.length + 1 - n)))) (upd G h'.objs.size (.lst ((vs.drop i).take (ds.length + 1 - n)))) ρ σ h0 := ⟨rl2, a.fr.trans e2, a.st.ext e2⟩
    have hds2 := hds.mono e2.g e2.r
    have vals : Vals (vs.take i ++ [.ref h'.objs.size] ++ (vs.drop i).drop (ds.length + 1 - n)) (its.toArray.toList.take i ++ [.ref h'.objs.size] ++ (its.toArray.toList.drop i).drop (its.toArray.size + 1 - n)) := by
      rw [hlen]
      exact ((rvs.take i).append (.cons (show RelV (.ref h'.objs.size) _ from rfl) .nil)).append ((rvs.drop i).drop _)
    have dvals : DsAt Γ (upd G h'.objs.size (.lst ((vs.drop i).take (ds.length + 1 - n)))) ρ (vs.take i ++ [.ref h'.objs.size] ++ (vs.drop i).drop (ds.length + 1 - n)) (ds.take i ++ [.lst ((ds.drop i).take (ds.length + 1 - n))] ++ (ds.drop i).drop (ds.length + 1 - n)) :=
      ((hds2.take i).append (.cons (.lst upd_same (hls.mono e2.g e2.r)) .nil)).append ((hds2.drop i).drop _)
    exact wpAny_mono (h.run pins _ σV _ _ _ _ I2 vals ⟨F, _, ρ, σ, h0, _, a2, dvals, σ', e, fun σV' G' H' x a k => q σV' G' H' (e2.trans x) a k⟩) (fun _ s' z => z) fun _ _ z => z
  · simp only [hfew, if_false] at e
    cases e
end
end Mi

set_option Elab.async false
set_option linter.all false
set_option maxRecDepth 100000
set_option maxHeartbeats 2000000
/-! Mi13: sorted(texts); d.update(e). -/
namespace Mi
open PySem PySem.Spec PyProof.Rows L2

/-! ### sorted -/
abbrev leS (a b : Str) : Prop := a.cps.toList ≤ b.cps.toList
theorem leS_anti {a b : Str} (h : leS a b) (g : leS b a) : a = b := by
  have := List.le_antisymm h g
  cases a; cases b
  congr
  exact Array.toList_inj.mp this
theorem rising_pw : ∀ {ys : List Str} {x : Str}, risingS x ys = true → (x :: ys).Pairwise leS
  | [], x, _ => by simp
  | y :: ys, x, h => by
    unfold risingS at h
    rw [Bool.and_eq_true] at h
    have h1 : leS x y := by
      have := h.1
      rw [ltCps_eq] at this
      simpa [leS] using this
    have h2 := rising_pw h.2
    refine List.pairwise_cons.mpr ⟨fun z hz => ?_, h2⟩
    rcases List.mem_cons.mp hz with e | hz
    · rw [e]; exact h1
    · exact List.le_trans h1 ((List.pairwise_cons.mp h2).1 z hz)
theorem sorted_pw {ys : List Str} (h : sortedS ys = true) : ys.Pairwise leS := by
  cases ys with
  | nil => exact .nil
  | cons y ys => exact rising_pw h
theorem insS_perm (x : Str) : ∀ ys : List Str, (insS x ys).Perm (x :: ys)
  | [] => .refl _
  | y :: ys => by
    unfold insS
    split
    · exact ((insS_perm x ys).cons y).trans (List.Perm.swap x y ys)
    · exact .refl _
theorem sortS_perm : ∀ xs : List Str, (sortS xs).Perm xs
  | [] => .refl _
  | x :: xs => (insS_perm x (sortS xs)).trans ((sortS_perm xs).cons x)
theorem insS_pw (x : Str) : ∀ {ys : List Str}, ys.Pairwise leS → (insS x ys).Pairwise leS
  | [], _ => by simp [insS]
  | y :: ys, h => by
    unfold insS
    split
    · rename_i hlt
      obtain ⟨h1, h2⟩ := List.pairwise_cons.mp h
      refine List.pairwise_cons.mpr ⟨fun z hz => ?_, insS_pw x h2⟩
      rcases List.mem_cons.mp ((insS_perm x ys).mem_iff.mp hz) with e | hz
      · rw [e]; exact List.le_of_lt hlt
      · exact h1 z hz
    · rename_i hlt
      refine List.pairwise_cons.mpr ⟨fun z hz => ?_, h⟩
      have hxy : leS x y := hlt
      rcases List.mem_cons.mp hz with e | hz
      · rw [e]; exact hxy
      · exact List.le_trans hxy ((List.pairwise_cons.mp h).1 z hz)
theorem sortS_pw : ∀ xs : List Str, (sortS xs).Pairwise leS
  | [] => .nil
  | x :: xs => insS_pw x (sortS_pw xs)
theorem sortS_is {xs ys : List Str} (p : ys.Perm xs) (h : sortedS ys = true) : ys = sortS xs :=
  List.Perm.eq_of_pairwise (fun a b _ _ => leS_anti) (sorted_pw h) (sortS_pw xs) (p.trans (sortS_perm xs).symm)
section
variable {Γ : Gm} {k : Nat} {X : Cx} {W : WX} {pos p p1 p2 p3 : Pos} {e : Expr} {fa : AF} {fe : EF} {x : Str}
theorem v_sorted : VF Γ (rSortedS Γ.K) gSorted := by
  intro W σV H Q G ρ h vs ds rl hs po
  unfold gSorted at po
  split at po
  · rename_i xs
    obtain ⟨v, rfl, hv⟩ := ds1 hs
    cases hv with
    | @lst a ws _ h1 h2 =>
      split at po
      · rename_i ss e
        obtain ⟨hz, po⟩ := Post.cond po
        have := strs_at h2 e
        subst this
        refine ⟨a, ss, rfl, .inl (.inl (rl.sub _ _ h1)), hz, fun ys p hp hs hn => ?_⟩
        rw [sortS_is hp hs]
        exact po.fresh rl hn fun G' eg e => .lst e (at_strs _)
      · exact po.elim
  · exact po.elim
theorem de_sorted (B : Bn Γ k X W) (hm : X.mg "sorted" = none) (ha : PA X [e] (CanA Γ W fa)) (hg : Gl X "sorted" := by rfl) (he : starEach [e] X.env = (false, eval e X.env) :: starEach [] X.env := by rfl) (hpl : (backTo pos (starEach [] X.env)).any (·.1) = false := by rfl) :
    PE X (.Call (.Name "sorted" p) [e] [] pos) (Can Γ W (eFun gSorted fa)) :=
  de_fun (by rw [← B.hK]; exact cr_sortedS) v_sorted hm (by decide +kernel) ha hg (by decide) (by decide) he hpl
/-! ### x.update(e), x an own dict -/
def updD (kds more : List (Key × D)) : List (Key × D) := more.foldl (fun acc kd => putD acc kd.1 kd.2) kds
theorem KvAt.merge {G : Hp} {ρ : List Addr} : ∀ {more : List (Key × V)} {moreD : List (Key × D)} {kvs : List (Key × V)} {kds : List (Key × D)}, KvAt Γ G ρ more moreD → KvAt Γ G ρ kvs kds → KvAt Γ G ρ (mergeK kvs more) (updD kds moreD)
  | _, _, _, _, .nil, h => h
  | _, _, kvs, kds, .cons (k := k) hv hr, h => by
    show KvAt Γ G ρ (mergeK (putK kvs k _) _) (updD (putD kds k _) _)
    exact KvAt.merge hr (h.put hv)
def rUpdate : V → List V → Hp → VK → Prop := fun x xs H Q => ∃ a b kvs more, x = .ref a ∧ xs = [.ref b] ∧ H a = some (.dK kvs) ∧ H b = some (.dK more) ∧ a ≠ b ∧ kvs.length + more.length ≤ sizeLine ∧ Q .non (upd H a (.dK (mergeK kvs more)))
theorem mt_update : MtR X "dict.update" rUpdate := by
  intro pins s σ H x xs v us Q I rx rxs ⟨a, b, kvs, more, ex, exs, ha, hb, hne, hz, q⟩
  subst ex exs
  cases (show v = Value.ref a from rx)
  cases rxs with
  | cons r rr =>
    cases rr
    cases (show _ = Value.ref b from r)
    obtain ⟨z, hd, vs, rel, dd⟩ := dk_of I.hok ha
    obtain ⟨z2, hd2, ws, rel2, dd2⟩ := dk_of I.hok hb
    refine call_meetsIn PySem.F.slot_dict_update dd.typeIs PySem.F.entry_dict_update (PySem.F.args_dict_update_2 _ _) (meets_dict_update (mixKind X.prog X.w) a b hne hd2)
      ⟨vs, ws, dd, dd2, (by rw [← rel.length, ← rel2.length]; exact hz), fun h' dd' _ hs => ?_⟩
    have he : ∃ q, h'.get? a = some q := let ⟨q, _, _, hq, _⟩ := dd'; ⟨q, hq⟩
    have hl : (mergeK kvs more).length ≤ sizeLine := Nat.le_trans (length_mergeK more kvs) hz
    exact ⟨.non, _, d_write (t' := s.toks) I (by rw [ha]; exact True.intro) hs he (dk_new hl hd (rel2.merge rel) dd'), rfl, q⟩
def sUpd (i : Nat) (e : EF) (σ : S) (h : MH) : RS := match σ[i]? with
  | some (some (.ownD kds)) => sBind σ (e σ h) fun d h1 => match d with
    | .dic more => if kds.length + more.length ≤ 1000000 then .ok .nx (σ.set i (some (.ownD (updD kds more)))) h1 else .stk
    | _ => .stk
  | _ => .stk
theorem ds_upd (i : Nat) (hp : PE X (.Call (.Attribute (.Name x p1) "update" p2) [e] [] p3) (tBM X.K "dict" rUpdate (tVar i) (tCons (Can Γ W fe) tNil)))
    (hs : swapsWith (.Call (.Attribute (.Name x p1) "update" p2) [e] [] p3) none pos.line X.env = pure false := by rfl) : PS X (.Expr (.Call (.Attribute (.Name x p1) "update" p2) [e] [] p3) pos) (CanS Γ W (sUpd i fe)) :=
  ps_weak (ps_expr hp hs) fun E σV H ⟨F, G, ρ, σ, h, a, po⟩ => by
    unfold sUpd at po
    split at po
    · rename_i kds q
      obtain ⟨ad, vs, h1, h2, h3, h4, h5, h6⟩ := a.st.ownD i kds q
      refine ⟨_, h1, .inr (.inr (.inl ⟨rfl, .inl ⟨_, h2⟩⟩)), a.run po fun d hh G1 ρ1 H1 v p1 a1 e1 hv => ?_⟩
      cases hv <;> first | exact (show False from p1).elim | skip
      rename_i b ws es hb hws
      obtain ⟨hz, p1⟩ := PostS.cond p1
      obtain ⟨ad', us, g1, g2, g3, g4, _⟩ := a1.st.ownD i kds q
      rw [h1] at g1
      cases g1
      have hb1 := a1.rl.sub _ _ hb
      have hne : ad ≠ b := fun z => by rw [z] at g4; rw [g4] at hb; cases hb
      exact ⟨ad, b, us, ws, rfl, rfl, g2, hb1, hne, by rw [g3.length, hws.length]; exact mil hz, (a1.own (.inr ⟨kds, q⟩) h1 (.inr ⟨mergeK us ws, updD kds es, rfl, rfl, hws.merge g3⟩)).nx p1⟩
    · exact po.elim
end
end Mi

set_option Elab.async false
set_option linter.all false
set_option maxRecDepth 100000
set_option maxHeartbeats 2000000
/-! Mi14: what the printed texts lean on; the law's promise. -/
namespace Mi
open PySem PySem.Spec PyProof.Rows L2
abbrev tB (f : EF) (σ : S) (h : MH) : R Bool := toB (f σ h)
theorem Ok.stk {P : Program} {w : World} {Γ : Gm} {mg : Str → Option Value} {base : Heap} {k : Nat} {f : Addr} {fd : FuncData} {ps : List Str} : Ok P w Γ mg base k f fd ps (fun _ _ => .stk) :=
  ⟨fun vs H Q E h => h.1, fun A outer s H args us vs Q E _ _ _ _ ⟨_, G, ρ, h, ds, _, _, po⟩ => by
    unfold cnt at po
    split at po <;> exact po.elim⟩
theorem isf_mk {Γ : Gm} {c : Nat} (cl : ClsF Γ c) (ha : PySem.W.findIn Γ.K (.ref (Γ.cls c)) "__class__" = some (some (.builtin "object.__class__"))) (hn : PySem.W.specialIn Γ.K (.builtin "object.__class__") "__get__" = some (some (.builtin "getset_descriptor.__get__")))
    (htk : PySem.W.takesIn Γ.K (.builtin "object.__class__") = some true) (hm : PySem.W.mroIn Γ.K (Γ.cls c) (.type "object") = some true) (ic : PySem.W.isClsIn Γ.K (Γ.cls c) = true) (tc : PySem.W.typeIn Γ.K (.ref (Γ.cls c)) = some (.type "type"))
    (b1 : PySem.W.subIn Γ.K (.ref (Γ.cls c)) (.type "int") = some false) (b2 : PySem.W.subIn Γ.K (.ref (Γ.cls c)) (.type "bool") = some false) (b3 : PySem.W.subIn Γ.K (.ref (Γ.cls c)) (.type "str") = some false) (b4 : PySem.W.subIn Γ.K (.ref (Γ.cls c)) (.type "list") = some false) (b5 : PySem.W.subIn Γ.K (.ref (Γ.cls c)) (.type "tuple") = some false)
    (n1 : PySem.W.subIn Γ.K (.type "NoneType") (.ref (Γ.cls c)) = some false) (n2 : PySem.W.subIn Γ.K (.type "bool") (.ref (Γ.cls c)) = some false) (n3 : PySem.W.subIn Γ.K (.type "int") (.ref (Γ.cls c)) = some false) (n4 : PySem.W.subIn Γ.K (.type "str") (.ref (Γ.cls c)) = some false)
    (n5 : PySem.W.subIn Γ.K (.type "tuple") (.ref (Γ.cls c)) = some false) (n6 : PySem.W.subIn Γ.K (.type "list") (.ref (Γ.cls c)) = some false) (n7 : PySem.W.subIn Γ.K (.type "dict") (.ref (Γ.cls c)) = some false) : IsF Γ c := by
  have toTy : ∀ T : String, PySem.W.kitMeta T = true → PySem.W.subIn Γ.K (.ref (Γ.cls c)) (.type T) = some false → PySem.W.kitOne Γ.K (.ref (Γ.cls c)) (.type T) = some false := fun T hT h => by
    unfold PySem.W.kitOne PySem.W.kitCls
    rw [if_neg (by intro z; cases beq_iff_eq.mp z)]
    show (if PySem.W.kitMeta T = true then _ else none) = _
    rw [if_pos hT]; exact h
  have toOwn : ∀ T : String, PySem.W.subIn Γ.K (.type T) (.ref (Γ.cls c)) = some false → PySem.W.kitOne Γ.K (.type T) (.ref (Γ.cls c)) = some false := fun T h => by
    unfold PySem.W.kitOne PySem.W.kitCls
    rw [if_neg (by intro z; cases beq_iff_eq.mp z)]
    have e : ((PySem.W.clsIn Γ.K (Γ.cls c)).isSome && PySem.W.typeIn Γ.K (.ref (Γ.cls c)) == some (.type "type")) = true := by
      rw [Bool.and_eq_true]
      exact ⟨ic, by rw [tc]; exact beq_self_eq_true _⟩
    show (if ((PySem.W.clsIn Γ.K (Γ.cls c)).isSome && PySem.W.typeIn Γ.K (.ref (Γ.cls c)) == some (.type "type")) = true then _ else none) = _
    rw [if_pos e]; exact h
  refine ⟨cl, ha, hn, htk, hm, fun T => ?_, fun T hT => ?_⟩
  · cases T
    · exact toTy _ (by decide +kernel) b1
    · exact toTy _ (by decide +kernel) b2
    · exact toTy _ (by decide +kernel) b3
    · exact toTy _ (by decide +kernel) b4
    · exact toTy _ (by decide +kernel) b5
  · simp only [List.mem_cons, List.not_mem_nil, or_false] at hT
    rcases hT with rfl | rfl | rfl | rfl | rfl | rfl | rfl <;> apply toOwn <;> assumption
/-- law's: a list of at most 63 ints is handed in, True comes out -/
def spLaw (K : PySem.W.Frag) : Sp := fun vs H Q _ => ∃ (a : Addr) (ns : List Int), vs = [.ref a] ∧ SqL K H a (ns.map V.int) ∧ ns.length ≤ 63 ∧ ∀ H', Q (.bl true) H'
theorem ints_at' {Γ : Gm} {G : Hp} {ρ : List Addr} : ∀ ns : List Int, DsAt Γ G ρ (ns.map V.int) (ns.map D.int)
  | [] => .nil
  | n :: ns => .cons (.int n) (ints_at' ns)
theorem law_sp {Γ : Gm} {m : FF} (hm : ∀ ns : List Int, ns.length ≤ 63 → ∃ h, m [.scr (ns.map .int)] [] = .ok (.bl true) h) {vs : List V} {H : Hp} {Q : VK} {E : XK} (h : spLaw Γ.K vs H Q E) : spOf Γ 1 (cnt 1 m) vs H Q E := by
  obtain ⟨a, ns, rfl, hs, hl, q⟩ := h
  refine ⟨rfl, H, [], [], [.scr (ns.map .int)], ⟨Same.refl H, rfl, List.nodup_nil, (fun a h => by cases h), fun n c a h => by cases h⟩, .cons (.scr hs (ints_at' ns)) .nil, ?_⟩
  obtain ⟨h', e⟩ := hm ns hl
  show Post Γ _ [] H [] H (cnt 1 m [.scr (ns.map .int)] []) _
  have e' : cnt 1 m [.scr (ns.map .int)] [] = .ok (.bl true) h' := (if_pos (show ([D.scr (ns.map D.int)] : List D).length = 1 from rfl)).trans e
  rw [e']
  intro G' ρ' H' _ _ v hv
  cases hv
  exact q H'
theorem walkX {l : PySem.W.OpenLaw} {q : Program} {loose : List Str} {XP : (Str → Option Value) → Heap → Prop} {YP : World → Heap → Prop} {d : DefRec} {K : Params → PySem.W.Frag} {k : Nat} (hn : l.most = some 63) (hdf : d.params.defaults = []) (hr : Room k callerA)
    (hY : ∀ (w : World) (h : Heap), YP w h → (K w.params).In h)
    (F : ∀ (w : World) (mg : Str → Option Value) (fa : Addr) (h : Heap), (K w.params).In h → h.Ns mainGlobals mg → mg d.name = some (.ref fa) →
      ∃ fd : FuncData, (∀ (s : Shared) (u : Value), BindsTo s fd ⟨[u], []⟩ [("script", u)]) ∧ ∀ base : Heap, (K w.params).In base → base.Ns mainGlobals mg → FnOk l.prog w (K w.params) mg base (L2.CX l.prog w) k fa fd ["script"] (spLaw (K w.params))) :
    PySem.W.WalkO q loose XP YP l.row.toRowW d [] (fun f vs => PySem.call f vs) :=
  L2.walk_of (n := 63) (k := k) (x := "script") (CX := fun w => L2.CX l.prog w) (sp := fun w => spLaw (K w.params)) hn (by decide) hdf hr hY F (fun _ _ a ns hl _ hS => ⟨a, ns, rfl, hS, hl, fun _ => rfl⟩) fun _ _ _ _ _ z => by
    obtain ⟨_, _, _, _, _, _, _, _, _, _, _, _, h⟩ := z
    exact h
end Mi

set_option Elab.async false
set_option linter.all false
set_option maxRecDepth 100000
set_option maxHeartbeats 4000000
namespace Kx
open PySem PySem.Spec PyProof.Rows L2 Mi
def top (i : Nat) : Stmt := PySem.Challenge.pw_framejoins_k53_whole_sums_and_copies.main.body.getD i (.Pass ⟨0, 0, 0, 0⟩)
abbrev s_is_integer : Stmt := top 9
abbrev N_is_integer : List Str := ["value"]
theorem sc_is_integer : FnScope N_is_integer ["value"] (defScope s_is_integer) := ⟨rfl, rfl, rfl, by decide +kernel, rfl, by decide +kernel, by decide +kernel⟩
abbrev s_is_between : Stmt := top 10
abbrev N_is_between : List Str := ["value", "least", "most"]
theorem sc_is_between : FnScope N_is_between ["value", "least", "most"] (defScope s_is_between) := ⟨rfl, rfl, rfl, by decide +kernel, rfl, by decide +kernel, by decide +kernel⟩
abbrev s_piece_length : Stmt := top 22
abbrev N_piece_length : List Str := ["piece"]
theorem sc_piece_length : FnScope N_piece_length ["piece"] (defScope s_piece_length) := ⟨rfl, rfl, rfl, by decide +kernel, rfl, by decide +kernel, by decide +kernel⟩
abbrev s_total_length : Stmt := top 23
abbrev N_total_length : List Str := ["pieces", "piece"]
theorem sc_total_length : FnScope N_total_length ["pieces"] (defScope s_total_length) := ⟨rfl, rfl, rfl, by decide +kernel, rfl, by decide +kernel, by decide +kernel⟩
abbrev s_piece_count : Stmt := top 24
abbrev N_piece_count : List Str := ["pieces", "piece"]
theorem sc_piece_count : FnScope N_piece_count ["pieces"] (defScope s_piece_count) := ⟨rfl, rfl, rfl, by decide +kernel, rfl, by decide +kernel, by decide +kernel⟩
abbrev s_Clip_ddinitdd : Stmt := inClass (top 32) 0
abbrev N_Clip_ddinitdd : List Str := ["self", "pieces"]
theorem sc_Clip_ddinitdd : FnScope N_Clip_ddinitdd ["self", "pieces"] (defScope s_Clip_ddinitdd) := ⟨rfl, rfl, rfl, by decide +kernel, rfl, by decide +kernel, by decide +kernel⟩
abbrev s_Clip_silence : Stmt := inClass (top 32) 2
abbrev N_Clip_silence : List Str := ["count"]
theorem sc_Clip_silence : FnScope N_Clip_silence ["count"] (defScope s_Clip_silence) := ⟨rfl, rfl, rfl, by decide +kernel, rfl, by decide +kernel, by decide +kernel⟩
abbrev s__law_pool : Stmt := top 34
abbrev N__law_pool : List Str := ["script", "k", "cell", "great", "seed"]
theorem sc__law_pool : FnScope N__law_pool ["script", "k"] (defScope s__law_pool) := ⟨rfl, rfl, rfl, by decide +kernel, rfl, by decide +kernel, by decide +kernel⟩
abbrev s_is_row : Stmt := top 11
abbrev N_is_row : List Str := ["value"]
theorem sc_is_row : FnScope N_is_row ["value"] (defScope s_is_row) := ⟨rfl, rfl, rfl, by decide +kernel, rfl, by decide +kernel, by decide +kernel⟩
abbrev s_require_sound : Stmt := top 13
abbrev N_require_sound : List Str := ["sound", "index", "sample"]
theorem sc_require_sound : FnScope N_require_sound ["sound"] (defScope s_require_sound) := ⟨rfl, rfl, rfl, by decide +kernel, rfl, by decide +kernel, by decide +kernel⟩
abbrev s_Clip_samples : Stmt := inClass (top 32) 3
abbrev N_Clip_samples : List Str := ["sound"]
theorem sc_Clip_samples : FnScope N_Clip_samples ["sound"] (defScope s_Clip_samples) := ⟨rfl, rfl, rfl, by decide +kernel, rfl, by decide +kernel, by decide +kernel⟩
abbrev s_is_name : Stmt := top 21
abbrev N_is_name : List Str := ["value", "sign"]
theorem sc_is_name : FnScope N_is_name ["value"] (defScope s_is_name) := ⟨rfl, rfl, rfl, by decide +kernel, rfl, by decide +kernel, by decide +kernel⟩
abbrev s_Clip_part : Stmt := inClass (top 32) 1
abbrev N_Clip_part : List Str := ["name", "start", "end", "value"]
theorem sc_Clip_part : FnScope N_Clip_part ["name", "start", "end"] (defScope s_Clip_part) := ⟨rfl, rfl, rfl, by decide +kernel, rfl, by decide +kernel, by decide +kernel⟩
abbrev s_merged : Stmt := top 25
abbrev N_merged : List Str := ["first", "second"]
theorem sc_merged : FnScope N_merged ["first", "second"] (defScope s_merged) := ⟨rfl, rfl, rfl, by decide +kernel, rfl, by decide +kernel, by decide +kernel⟩
abbrev s_both_pieces : Stmt := top 26
abbrev N_both_pieces : List Str := ["first", "second", "one"]
theorem sc_both_pieces : FnScope N_both_pieces ["first", "second"] (defScope s_both_pieces) := ⟨rfl, rfl, rfl, by decide +kernel, rfl, by decide +kernel, by decide +kernel⟩
abbrev s_Clip_ddadddd : Stmt := inClass (top 32) 11
abbrev N_Clip_ddadddd : List Str := ["self", "other"]
theorem sc_Clip_ddadddd : FnScope N_Clip_ddadddd ["self", "other"] (defScope s_Clip_ddadddd) := ⟨rfl, rfl, rfl, by decide +kernel, rfl, by decide +kernel, by decide +kernel⟩
abbrev s_repeated_pieces : Stmt := top 27
abbrev N_repeated_pieces : List Str := ["pieces", "count"]
theorem sc_repeated_pieces : FnScope N_repeated_pieces ["pieces", "count"] (defScope s_repeated_pieces) := ⟨rfl, rfl, rfl, by decide +kernel, rfl, by decide +kernel, by decide +kernel⟩
abbrev s_Clip_ddmuldd : Stmt := inClass (top 32) 12
abbrev N_Clip_ddmuldd : List Str := ["self", "other"]
theorem sc_Clip_ddmuldd : FnScope N_Clip_ddmuldd ["self", "other"] (defScope s_Clip_ddmuldd) := ⟨rfl, rfl, rfl, by decide +kernel, rfl, by decide +kernel, by decide +kernel⟩
abbrev s_gained_pieces : Stmt := top 28
abbrev N_gained_pieces : List Str := ["pieces", "gain", "found", "piece", "gains", "rest"]
theorem sc_gained_pieces : FnScope N_gained_pieces ["pieces", "gain"] (defScope s_gained_pieces) := ⟨rfl, rfl, rfl, by decide +kernel, rfl, by decide +kernel, by decide +kernel⟩
abbrev s_Clip_gained : Stmt := inClass (top 32) 9
abbrev N_Clip_gained : List Str := ["self", "top", "bottom"]
theorem sc_Clip_gained : FnScope N_Clip_gained ["self", "top", "bottom"] (defScope s_Clip_gained) := ⟨rfl, rfl, rfl, by decide +kernel, rfl, by decide +kernel, by decide +kernel⟩
abbrev s__law_made : Stmt := top 38
abbrev N__law_made : List Str := ["tree", "inner"]
theorem sc__law_made : FnScope N__law_made ["tree"] (defScope s__law_made) := ⟨rfl, rfl, rfl, by decide +kernel, rfl, by decide +kernel, by decide +kernel⟩
abbrev s__law_take : Stmt := top 35
abbrev N__law_take : List Str := ["pool", "many", "found"]
theorem sc__law_take : FnScope N__law_take ["pool", "many"] (defScope s__law_take) := ⟨rfl, rfl, rfl, by decide +kernel, rfl, by decide +kernel, by decide +kernel⟩
abbrev s__law_tree : Stmt := top 37
abbrev N__law_tree : List Str := ["pool", "depth", "most", "way", "inner", "kind", "first", "turn"]
theorem sc__law_tree : FnScope N__law_tree ["pool", "depth", "most"] (defScope s__law_tree) := ⟨rfl, rfl, rfl, by decide +kernel, rfl, by decide +kernel, by decide +kernel⟩
abbrev s_Clip_ddeqdd : Stmt := inClass (top 32) 13
abbrev N_Clip_ddeqdd : List Str := ["self", "other"]
theorem sc_Clip_ddeqdd : FnScope N_Clip_ddeqdd ["self", "other"] (defScope s_Clip_ddeqdd) := ⟨rfl, rfl, rfl, by decide +kernel, rfl, by decide +kernel, by decide +kernel⟩
abbrev s_Clip_length : Stmt := inClass (top 32) 4
abbrev N_Clip_length : List Str := ["self"]
theorem sc_Clip_length : FnScope N_Clip_length ["self"] (defScope s_Clip_length) := ⟨rfl, rfl, rfl, by decide +kernel, rfl, by decide +kernel, by decide +kernel⟩
abbrev s__law_same : Stmt := top 36
abbrev N__law_same : List Str := ["actual", "due", "one", "other"]
theorem sc__law_same : FnScope N__law_same ["actual", "due"] (defScope s__law_same) := ⟨rfl, rfl, rfl, by decide +kernel, rfl, by decide +kernel, by decide +kernel⟩
abbrev s_names_in : Stmt := top 30
abbrev N_names_in : List Str := ["pieces", "found", "piece"]
theorem sc_names_in : FnScope N_names_in ["pieces"] (defScope s_names_in) := ⟨rfl, rfl, rfl, by decide +kernel, rfl, by decide +kernel, by decide +kernel⟩
abbrev s_Clip_names : Stmt := inClass (top 32) 5
abbrev N_Clip_names : List Str := ["self"]
theorem sc_Clip_names : FnScope N_Clip_names ["self"] (defScope s_Clip_names) := ⟨rfl, rfl, rfl, by decide +kernel, rfl, by decide +kernel, by decide +kernel⟩
abbrev s_law : Stmt := top 39
abbrev N_law : List Str := ["script", "empty", "k", "pool", "many", "more", "both", "one", "two", "three", "turn", "name"]
theorem sc_law : FnScope N_law ["script"] (defScope s_law) := ⟨rfl, rfl, rfl, by decide +kernel, rfl, by decide +kernel, by decide +kernel⟩
structure Ad where
  f_is_integer : Addr
  d_is_integer : FuncData
  f_is_between : Addr
  d_is_between : FuncData
  f_piece_length : Addr
  d_piece_length : FuncData
  f_total_length : Addr
  d_total_length : FuncData
  f_piece_count : Addr
  d_piece_count : FuncData
  f_Clip_ddinitdd : Addr
  d_Clip_ddinitdd : FuncData
  f_Clip_silence : Addr
  d_Clip_silence : FuncData
  f__law_pool : Addr
  d__law_pool : FuncData
  f_is_row : Addr
  d_is_row : FuncData
  f_require_sound : Addr
  d_require_sound : FuncData
  f_Clip_samples : Addr
  d_Clip_samples : FuncData
  f_is_name : Addr
  d_is_name : FuncData
  f_Clip_part : Addr
  d_Clip_part : FuncData
  f_merged : Addr
  d_merged : FuncData
  f_both_pieces : Addr
  d_both_pieces : FuncData
  f_Clip_ddadddd : Addr
  d_Clip_ddadddd : FuncData
  f_repeated_pieces : Addr
  d_repeated_pieces : FuncData
  f_Clip_ddmuldd : Addr
  d_Clip_ddmuldd : FuncData
  f_gained_pieces : Addr
  d_gained_pieces : FuncData
  f_Clip_gained : Addr
  d_Clip_gained : FuncData
  f__law_made : Addr
  d__law_made : FuncData
  f__law_take : Addr
  d__law_take : FuncData
  f__law_tree : Addr
  d__law_tree : FuncData
  f_Clip_ddeqdd : Addr
  d_Clip_ddeqdd : FuncData
  f_Clip_length : Addr
  d_Clip_length : FuncData
  f__law_same : Addr
  d__law_same : FuncData
  f_names_in : Addr
  d_names_in : FuncData
  f_Clip_names : Addr
  d_Clip_names : FuncData
  f_law : Addr
  d_law : FuncData
  C_Clip : Addr
  q_Clip_length : Addr
abbrev Γ (K : PySem.W.Frag) (A : Ad) : Gm := ⟨K, fun c => match c with
  | 0 => A.C_Clip
  | _ => 0, fun c => match c with
  | 0 => ["own_pieces", "own_length"]
  | _ => []⟩
abbrev isCs : List Nat := []
structure Tx (K : PySem.W.Frag) (mg : Str → Option Value) (A : Ad) : Prop where
  F_is_integer : Fn K "is_integer" "is_integer" s_is_integer A.f_is_integer A.d_is_integer
  k_is_integer : PySem.W.keepIn K (.ref A.f_is_integer) = true
  b_is_integer : Binds K A.d_is_integer ["value"] []
  g_is_integer : mg "is_integer" = some (.ref A.f_is_integer)
  F_is_between : Fn K "is_between" "is_between" s_is_between A.f_is_between A.d_is_between
  k_is_between : PySem.W.keepIn K (.ref A.f_is_between) = true
  b_is_between : Binds K A.d_is_between ["value", "least", "most"] []
  g_is_between : mg "is_between" = some (.ref A.f_is_between)
  F_piece_length : Fn K "piece_length" "piece_length" s_piece_length A.f_piece_length A.d_piece_length
  k_piece_length : PySem.W.keepIn K (.ref A.f_piece_length) = true
  b_piece_length : Binds K A.d_piece_length ["piece"] []
  g_piece_length : mg "piece_length" = some (.ref A.f_piece_length)
  F_total_length : Fn K "total_length" "total_length" s_total_length A.f_total_length A.d_total_length
  k_total_length : PySem.W.keepIn K (.ref A.f_total_length) = true
  b_total_length : Binds K A.d_total_length ["pieces"] []
  g_total_length : mg "total_length" = some (.ref A.f_total_length)
  F_piece_count : Fn K "piece_count" "piece_count" s_piece_count A.f_piece_count A.d_piece_count
  k_piece_count : PySem.W.keepIn K (.ref A.f_piece_count) = true
  b_piece_count : Binds K A.d_piece_count ["pieces"] []
  g_piece_count : mg "piece_count" = some (.ref A.f_piece_count)
  F_Clip_ddinitdd : Fn K "__init__" "Clip.__init__" s_Clip_ddinitdd A.f_Clip_ddinitdd A.d_Clip_ddinitdd
  k_Clip_ddinitdd : PySem.W.keepIn K (.ref A.f_Clip_ddinitdd) = true
  b_Clip_ddinitdd : Binds K A.d_Clip_ddinitdd ["self", "pieces"] []
  F_Clip_silence : Fn K "silence" "Clip.silence" s_Clip_silence A.f_Clip_silence A.d_Clip_silence
  k_Clip_silence : PySem.W.keepIn K (.ref A.f_Clip_silence) = true
  b_Clip_silence : Binds K A.d_Clip_silence ["count"] []
  F__law_pool : Fn K "_law_pool" "_law_pool" s__law_pool A.f__law_pool A.d__law_pool
  k__law_pool : PySem.W.keepIn K (.ref A.f__law_pool) = true
  b__law_pool : Binds K A.d__law_pool ["script", "k"] []
  g__law_pool : mg "_law_pool" = some (.ref A.f__law_pool)
  F_is_row : Fn K "is_row" "is_row" s_is_row A.f_is_row A.d_is_row
  k_is_row : PySem.W.keepIn K (.ref A.f_is_row) = true
  b_is_row : Binds K A.d_is_row ["value"] []
  g_is_row : mg "is_row" = some (.ref A.f_is_row)
  F_require_sound : Fn K "require_sound" "require_sound" s_require_sound A.f_require_sound A.d_require_sound
  k_require_sound : PySem.W.keepIn K (.ref A.f_require_sound) = true
  b_require_sound : Binds K A.d_require_sound ["sound"] []
  g_require_sound : mg "require_sound" = some (.ref A.f_require_sound)
  F_Clip_samples : Fn K "samples" "Clip.samples" s_Clip_samples A.f_Clip_samples A.d_Clip_samples
  k_Clip_samples : PySem.W.keepIn K (.ref A.f_Clip_samples) = true
  b_Clip_samples : Binds K A.d_Clip_samples ["sound"] []
  F_is_name : Fn K "is_name" "is_name" s_is_name A.f_is_name A.d_is_name
  k_is_name : PySem.W.keepIn K (.ref A.f_is_name) = true
  b_is_name : Binds K A.d_is_name ["value"] []
  g_is_name : mg "is_name" = some (.ref A.f_is_name)
  F_Clip_part : Fn K "part" "Clip.part" s_Clip_part A.f_Clip_part A.d_Clip_part
  k_Clip_part : PySem.W.keepIn K (.ref A.f_Clip_part) = true
  b_Clip_part : Binds K A.d_Clip_part ["name", "start", "end"] []
  F_merged : Fn K "merged" "merged" s_merged A.f_merged A.d_merged
  k_merged : PySem.W.keepIn K (.ref A.f_merged) = true
  b_merged : Binds K A.d_merged ["first", "second"] []
  g_merged : mg "merged" = some (.ref A.f_merged)
  F_both_pieces : Fn K "both_pieces" "both_pieces" s_both_pieces A.f_both_pieces A.d_both_pieces
  k_both_pieces : PySem.W.keepIn K (.ref A.f_both_pieces) = true
  b_both_pieces : Binds K A.d_both_pieces ["first", "second"] []
  g_both_pieces : mg "both_pieces" = some (.ref A.f_both_pieces)
  F_Clip_ddadddd : Fn K "__add__" "Clip.__add__" s_Clip_ddadddd A.f_Clip_ddadddd A.d_Clip_ddadddd
  k_Clip_ddadddd : PySem.W.keepIn K (.ref A.f_Clip_ddadddd) = true
  b_Clip_ddadddd : Binds K A.d_Clip_ddadddd ["self", "other"] []
  F_repeated_pieces : Fn K "repeated_pieces" "repeated_pieces" s_repeated_pieces A.f_repeated_pieces A.d_repeated_pieces
  k_repeated_pieces : PySem.W.keepIn K (.ref A.f_repeated_pieces) = true
  b_repeated_pieces : Binds K A.d_repeated_pieces ["pieces", "count"] []
  g_repeated_pieces : mg "repeated_pieces" = some (.ref A.f_repeated_pieces)
  F_Clip_ddmuldd : Fn K "__mul__" "Clip.__mul__" s_Clip_ddmuldd A.f_Clip_ddmuldd A.d_Clip_ddmuldd
  k_Clip_ddmuldd : PySem.W.keepIn K (.ref A.f_Clip_ddmuldd) = true
  b_Clip_ddmuldd : Binds K A.d_Clip_ddmuldd ["self", "other"] []
  F_gained_pieces : Fn K "gained_pieces" "gained_pieces" s_gained_pieces A.f_gained_pieces A.d_gained_pieces
  k_gained_pieces : PySem.W.keepIn K (.ref A.f_gained_pieces) = true
  b_gained_pieces : Binds K A.d_gained_pieces ["pieces", "gain"] []
  g_gained_pieces : mg "gained_pieces" = some (.ref A.f_gained_pieces)
  F_Clip_gained : Fn K "gained" "Clip.gained" s_Clip_gained A.f_Clip_gained A.d_Clip_gained
  k_Clip_gained : PySem.W.keepIn K (.ref A.f_Clip_gained) = true
  b_Clip_gained : Binds K A.d_Clip_gained ["self", "top", "bottom"] []
  F__law_made : Fn K "_law_made" "_law_made" s__law_made A.f__law_made A.d__law_made
  k__law_made : PySem.W.keepIn K (.ref A.f__law_made) = true
  b__law_made : Binds K A.d__law_made ["tree"] []
  g__law_made : mg "_law_made" = some (.ref A.f__law_made)
  F__law_take : Fn K "_law_take" "_law_take" s__law_take A.f__law_take A.d__law_take
  k__law_take : PySem.W.keepIn K (.ref A.f__law_take) = true
  b__law_take : Binds K A.d__law_take ["pool", "many"] []
  g__law_take : mg "_law_take" = some (.ref A.f__law_take)
  F__law_tree : Fn K "_law_tree" "_law_tree" s__law_tree A.f__law_tree A.d__law_tree
  k__law_tree : PySem.W.keepIn K (.ref A.f__law_tree) = true
  b__law_tree : Binds K A.d__law_tree ["pool", "depth", "most"] []
  g__law_tree : mg "_law_tree" = some (.ref A.f__law_tree)
  F_Clip_ddeqdd : Fn K "__eq__" "Clip.__eq__" s_Clip_ddeqdd A.f_Clip_ddeqdd A.d_Clip_ddeqdd
  k_Clip_ddeqdd : PySem.W.keepIn K (.ref A.f_Clip_ddeqdd) = true
  b_Clip_ddeqdd : Binds K A.d_Clip_ddeqdd ["self", "other"] []
  F_Clip_length : Fn K "length" "Clip.length" s_Clip_length A.f_Clip_length A.d_Clip_length
  k_Clip_length : PySem.W.keepIn K (.ref A.f_Clip_length) = true
  b_Clip_length : Binds K A.d_Clip_length ["self"] []
  F__law_same : Fn K "_law_same" "_law_same" s__law_same A.f__law_same A.d__law_same
  k__law_same : PySem.W.keepIn K (.ref A.f__law_same) = true
  b__law_same : Binds K A.d__law_same ["actual", "due"] []
  g__law_same : mg "_law_same" = some (.ref A.f__law_same)
  F_names_in : Fn K "names_in" "names_in" s_names_in A.f_names_in A.d_names_in
  k_names_in : PySem.W.keepIn K (.ref A.f_names_in) = true
  b_names_in : Binds K A.d_names_in ["pieces"] []
  g_names_in : mg "names_in" = some (.ref A.f_names_in)
  F_Clip_names : Fn K "names" "Clip.names" s_Clip_names A.f_Clip_names A.d_Clip_names
  k_Clip_names : PySem.W.keepIn K (.ref A.f_Clip_names) = true
  b_Clip_names : Binds K A.d_Clip_names ["self"] []
  F_law : Fn K "law" "law" s_law A.f_law A.d_law
  k_law : PySem.W.keepIn K (.ref A.f_law) = true
  g_law : mg "law" = some (.ref A.f_law)
  g_Clip : mg "Clip" = some (.ref A.C_Clip)
  c_Clip : ClsF (Γ K A) 0
  mk_Clip : Mk K A.C_Clip A.f_Clip_ddinitdd
  s_Clip_silence : StatM K A.C_Clip "silence" A.f_Clip_silence
  s_Clip_samples : StatM K A.C_Clip "samples" A.f_Clip_samples
  s_Clip_part : StatM K A.C_Clip "part" A.f_Clip_part
  o_Clip_ddadddd : OpF K A.C_Clip "add" [] A.f_Clip_ddadddd
  o_Clip_ddmuldd : OpF K A.C_Clip "mul" ["int"] A.f_Clip_ddmuldd
  m_Clip_gained : Meth K A.C_Clip "gained" A.f_Clip_gained
  o_Clip_ddeqdd : CmF K A.C_Clip .Eq [] A.f_Clip_ddeqdd
  p_Clip_length : PropOf K A.C_Clip "length" A.q_Clip_length A.f_Clip_length
  m_Clip_names : Meth K A.C_Clip "names" A.f_Clip_names
  g_LETTERS : ∃ t, mg "LETTERS" = some (.str "abcdefghijklmnopqrstuvwxyz" t)
  g_MAX_COUNT : ∃ t, mg "MAX_COUNT" = some (.int (1000000000000000000000000000000) t)
  g_MAX_GAIN : ∃ t, mg "MAX_GAIN" = some (.int (1000) t)
  g_MAX_LENGTH : ∃ t, mg "MAX_LENGTH" = some (.int (10000000000000000000000000000000000000000) t)
  g_MAX_NAME : ∃ t, mg "MAX_NAME" = some (.int (8) t)
  g_MAX_PIECES : ∃ t, mg "MAX_PIECES" = some (.int (200) t)
  n_abs : mg "abs" = none
  n_all : mg "all" = none
  n_bool : mg "bool" = none
  n_enumerate : mg "enumerate" = none
  n_int : mg "int" = none
  n_isinstance : mg "isinstance" = none
  n_len : mg "len" = none
  n_list : mg "list" = none
  n_max : mg "max" = none
  n_min : mg "min" = none
  n_range : mg "range" = none
  n_sorted : mg "sorted" = none
  n_str : mg "str" = none
  n_sum : mg "sum" = none
  n_tuple : mg "tuple" = none
  n_zip : mg "zip" = none
  is_Clip : IsF (Γ K A) 0
  isf : ∀ c ∈ isCs, IsF (Γ K A) c
noncomputable section
def b_is_integer : SF :=
    (sRet (eAnd (eIsB isCs .int (eVar 0)) (eNot (eIsB isCs .bool (eVar 0)))))
def m_is_integer : FF := runBody 1 b_is_integer
def b_is_between : SF :=
    (sRet (eAnd (eCall (Mi.cnt 1 m_is_integer) (aCons (eVar 0) aNil)) (eChain dLe dLe (eVar 1) (eVar 0) (eVar 2))))
def m_is_between : FF := runBody 3 b_is_between
def b_piece_length (c_total_length : FF) : SF :=
    (sSeq (sIf (Mi.tB (eB dEq (eB dIx (eVar 0) (eC (.int 0))) (eC (.str "part")))) (sRet (eB dSub (eB dIx (eVar 0) (eC (.int 3))) (eB dIx (eVar 0) (eC (.int 2))))) sNil)
    (sSeq (sIf (Mi.tB (eB dEq (eB dIx (eVar 0) (eC (.int 0))) (eC (.str "silence")))) (sRet (eB dIx (eVar 0) (eC (.int 1)))) sNil)
    (sSeq (sIf (Mi.tB (eB dEq (eB dIx (eVar 0) (eC (.int 0))) (eC (.str "samples")))) (sRet (eFun gLen (aCons (eB dIx (eVar 0) (eC (.int 1))) aNil))) sNil)
    (sRet (eB dMul (eB dIx (eVar 0) (eC (.int 1))) (eCall (Mi.cnt 1 c_total_length) (aCons (eB dIx (eVar 0) (eC (.int 2))) aNil)))))))
def e_total_length_1 (c_piece_length : FF) : EF :=
    (eCall (Mi.cnt 1 c_piece_length) (aCons (eVar 1) aNil))
def b_total_length (c_piece_length : FF) : SF :=
    (sRet (eFun gSum (aCons (eComp (iSeq (eVar 0)) (tgName 1) tTrue (e_total_length_1 c_piece_length) [1]) aNil)))
mutual
def m_piece_length : Nat → FF
  | 0 => fun _ _ => .stk
  | n + 1 => runBody 1 (b_piece_length (m_total_length n))
def m_total_length : Nat → FF
  | 0 => fun _ _ => .stk
  | n + 1 => runBody 2 (b_total_length (m_piece_length n))
end
def e_piece_count_1 (c_piece_count : FF) : EF :=
    (eB dAdd (eC (.int 1)) (eIf (Mi.tB (eB dEq (eB dIx (eVar 1) (eC (.int 0))) (eC (.str "repeat")))) (eCall (Mi.cnt 1 c_piece_count) (aCons (eB dIx (eVar 1) (eC (.int 2))) aNil)) (eC (.int 0))))
def b_piece_count (c_piece_count : FF) : SF :=
    (sRet (eFun gSum (aCons (eComp (iSeq (eVar 0)) (tgName 1) tTrue (e_piece_count_1 c_piece_count) [1]) aNil)))
def m_piece_count : Nat → FF
  | 0 => fun _ _ => .stk
  | n + 1 => runBody 2 (b_piece_count (m_piece_count n))
def b_Clip_ddinitdd : SF :=
    (sSeq (sSetF 0 0 (eVar 0) (eFun gTuple (aCons (eVar 1) aNil)))
    (sSeq (sSetF 0 1 (eVar 0) (eCall (Mi.cnt 1 (m_total_length 20)) (aCons (eAttr 0 0 (eVar 0)) aNil)))
    (sSeq (sIf (Mi.tB (eB dGt (eAttr 0 1 (eVar 0)) (eC (.int (10000000000000000000000000000000000000000))))) sStk sNil)
    (sIf (Mi.tB (eB dGt (eCall (Mi.cnt 1 (m_piece_count 20)) (aCons (eAttr 0 0 (eVar 0)) aNil)) (eC (.int (200))))) sStk sNil))))
def m_Clip_ddinitdd : FF := runBody 2 b_Clip_ddinitdd
def b_Clip_silence : SF :=
    (sSeq (sIf (fNot (Mi.tB (eCall (Mi.cnt 3 m_is_between) (aCons (eVar 0) (aCons (eC (.int 0)) (aCons (eC (.int (1000000000000000000000000000000))) aNil)))))) sStk sNil)
    (sRet (eMakeF 0 (Mi.cnt 2 m_Clip_ddinitdd) (aCons (eIf (Mi.tB (eB dGt (eVar 0) (eC (.int 0)))) (eTup (aCons (eTup (aCons (eC (.str "silence")) (aCons (eVar 0) aNil))) aNil)) (eTup aNil)) aNil))))
def m_Clip_silence : FF := runBody 1 b_Clip_silence
def b__law_pool : SF :=
    (sSeq (sAsg 2 (eC (.int 0)))
    (sSeq (sIf (Mi.tB (eB dLt (eVar 1) (eFun gLen (aCons (eVar 0) aNil)))) (sAsg 2 (eFun gInt (aCons (eB dIx (eVar 0) (eVar 1)) aNil))) sNil)
    (sSeq (sAsg 3 (eFun gAbs (aCons (eVar 2) aNil)))
    (sSeq (sAsg 4 (eB dAdd (eB dAdd (eB dMod (eFun gInt (aCons (eVar 2) aNil)) (eC (.int 2147483629))) (eB dMul (eC (.int 48271)) (eVar 1))) (eC (.int 11))))
    (sRet (eNewL (aCons (eB dMul (eVar 3) (eFun gInt (aCons (eB dGe (eVar 3) (eB dPow (eC (.int 10)) (eC (.int 18)))) aNil))) (aCons (eB dMod (eFun gInt (aCons (eB dAdd (eB dMul (eB dMul (eVar 4) (eVar 4)) (eVar 4)) (eB dMul (eC (.int 39373)) (eVar 1))) aNil)) (eC (.int 2147483647))) aNil))))))))
def m__law_pool : FF := runBody 5 b__law_pool
def b_is_row : SF :=
    (sRet (eIsBB isCs .list .tuple (eVar 0)))
def m_is_row : FF := runBody 1 b_is_row
def l_require_sound_1 : SF :=
    (sIf (fNot (Mi.tB (eCall (Mi.cnt 1 m_is_integer) (aCons (eVar 2) aNil)))) sStk sNil)
def b_require_sound : SF :=
    (sSeq (sIf (fNot (Mi.tB (eCall (Mi.cnt 1 m_is_row) (aCons (eVar 0) aNil)))) sStk sNil)
    (sFor (iEn (aCons (eVar 0) aNil)) (tgTup (tgCons (tgName 1) (tgCons (tgName 2) tgNil))) l_require_sound_1))
def m_require_sound : FF := runBody 3 b_require_sound
def b_Clip_samples : SF :=
    (sSeq (sExp (eCall (Mi.cnt 1 m_require_sound) (aCons (eVar 0) aNil)))
    (sRet (eMakeF 0 (Mi.cnt 2 m_Clip_ddinitdd) (aCons (eIf (Mi.tB (eB dGt (eFun gLen (aCons (eVar 0) aNil)) (eC (.int 0)))) (eTup (aCons (eTup (aCons (eC (.str "samples")) (aCons (eFun gTuple (aCons (eVar 0) aNil)) (aCons (eTup aNil) aNil)))) aNil)) (eTup aNil)) aNil))))
def m_Clip_samples : FF := runBody 1 b_Clip_samples
def e_is_name_1 : EF :=
    (eB dIn (eVar 1) (eC (.str "abcdefghijklmnopqrstuvwxyz")))
def b_is_name : SF :=
    (sRet (eAnd (eIsB isCs .str (eVar 0)) (eAnd (eChain dLe dLe (eC (.int 1)) (eFun gLen (aCons (eVar 0) aNil)) (eC (.int (8)))) (eFun gAll (aCons (eComp (iSeq (eVar 0)) (tgName 1) tTrue e_is_name_1 [1]) aNil)))))
def m_is_name : FF := runBody 2 b_is_name
def l_Clip_part_1 : SF :=
    (sIf (fOr (fNot (Mi.tB (eCall (Mi.cnt 1 m_is_integer) (aCons (eVar 3) aNil)))) (Mi.tB (eB dLt (eVar 3) (eC (.int 0))))) sStk sNil)
def b_Clip_part : SF :=
    (sSeq (sIf (fNot (Mi.tB (eCall (Mi.cnt 1 m_is_name) (aCons (eVar 0) aNil)))) sStk sNil)
    (sSeq (sFor (iSeq (eTup (aCons (eVar 1) (aCons (eVar 2) aNil)))) (tgName 3) l_Clip_part_1)
    (sSeq (sIf (Mi.tB (eB dLt (eVar 2) (eVar 1))) sStk sNil)
    (sRet (eMakeF 0 (Mi.cnt 2 m_Clip_ddinitdd) (aCons (eIf (Mi.tB (eB dLt (eVar 1) (eVar 2))) (eTup (aCons (eTup (aCons (eC (.str "part")) (aCons (eVar 0) (aCons (eVar 1) (aCons (eVar 2) (aCons (eTup aNil) aNil)))))) aNil)) (eTup aNil)) aNil))))))
def m_Clip_part : FF := runBody 4 b_Clip_part
def b_merged : SF :=
    (sSeq (sIf (fAnd (Mi.tB (eB dEq (eB dIx (eVar 0) (eC (.int 0))) (eC (.str "silence")))) (Mi.tB (eB dEq (eB dIx (eVar 1) (eC (.int 0))) (eC (.str "silence"))))) (sRet (eTup (aCons (eC (.str "silence")) (aCons (eB dAdd (eB dIx (eVar 0) (eC (.int 1))) (eB dIx (eVar 1) (eC (.int 1)))) aNil)))) sNil)
    (sSeq (sIf (fAnd (Mi.tB (eB dEq (eB dIx (eVar 0) (eC (.int 0))) (eC (.str "part")))) (fAnd (Mi.tB (eB dEq (eB dIx (eVar 1) (eC (.int 0))) (eC (.str "part")))) (fAnd (Mi.tB (eB dEq (eB dIx (eVar 0) (eC (.int 1))) (eB dIx (eVar 1) (eC (.int 1))))) (Mi.tB (eB dEq (eB dIx (eVar 0) (eC (.int 3))) (eB dIx (eVar 1) (eC (.int 2)))))))) (sIf (Mi.tB (eB dEq (eB dIx (eVar 0) (eC (.int 4))) (eB dIx (eVar 1) (eC (.int 4))))) (sRet (eTup (aCons (eC (.str "part")) (aCons (eB dIx (eVar 0) (eC (.int 1))) (aCons (eB dIx (eVar 0) (eC (.int 2))) (aCons (eB dIx (eVar 1) (eC (.int 3))) (aCons (eB dIx (eVar 0) (eC (.int 4))) aNil))))))) sNil) sNil)
    (sRet (eC .non))))
def m_merged : FF := runBody 2 b_merged
def b_both_pieces : SF :=
    (sSeq (sAsg 2 (eIf (fAnd (Mi.tB (eB dNe (eVar 0) (eTup aNil))) (Mi.tB (eB dNe (eVar 1) (eTup aNil)))) (eCall (Mi.cnt 2 m_merged) (aCons (eB dIx (eVar 0) (eNeg (eC (.int 1)))) (aCons (eB dIx (eVar 1) (eC (.int 0))) aNil))) (eC .non)))
    (sSeq (sIf (Mi.tB (eB dIs (eVar 2) (eC .non))) (sRet (eB dAdd (eVar 0) (eVar 1))) sNil)
    (sRet (eB dAdd (eB dAdd (eSl (eVar 0) oNo (oInt (eNeg (eC (.int 1))))) (eTup (aCons (eVar 2) aNil))) (eSl (eVar 1) (oInt (eC (.int 1))) oNo)))))
def m_both_pieces : FF := runBody 3 b_both_pieces
def b_Clip_ddadddd : SF :=
    (sRet (eMakeF 0 (Mi.cnt 2 m_Clip_ddinitdd) (aCons (eCall (Mi.cnt 2 m_both_pieces) (aCons (eAttr 0 0 (eVar 0)) (aCons (eAttr 0 0 (eVar 1)) aNil))) aNil)))
def m_Clip_ddadddd : FF := runBody 2 b_Clip_ddadddd
def b_repeated_pieces : SF :=
    (sSeq (sIf (fOr (Mi.tB (eB dEq (eVar 1) (eC (.int 0)))) (Mi.tB (eB dEq (eVar 0) (eTup aNil)))) (sRet (eTup aNil)) sNil)
    (sSeq (sIf (Mi.tB (eB dEq (eVar 1) (eC (.int 1)))) (sRet (eVar 0)) sNil)
    (sSeq (sIf (fAnd (Mi.tB (eB dEq (eFun gLen (aCons (eVar 0) aNil)) (eC (.int 1)))) (Mi.tB (eB dEq (eB dIx (eB dIx (eVar 0) (eC (.int 0))) (eC (.int 0))) (eC (.str "silence"))))) (sRet (eTup (aCons (eTup (aCons (eC (.str "silence")) (aCons (eB dMul (eB dIx (eB dIx (eVar 0) (eC (.int 0))) (eC (.int 1))) (eVar 1)) aNil))) aNil))) sNil)
    (sSeq (sIf (fAnd (Mi.tB (eB dEq (eFun gLen (aCons (eVar 0) aNil)) (eC (.int 1)))) (Mi.tB (eB dEq (eB dIx (eB dIx (eVar 0) (eC (.int 0))) (eC (.int 0))) (eC (.str "repeat"))))) (sRet (eTup (aCons (eTup (aCons (eC (.str "repeat")) (aCons (eB dMul (eB dIx (eB dIx (eVar 0) (eC (.int 0))) (eC (.int 1))) (eVar 1)) (aCons (eB dIx (eB dIx (eVar 0) (eC (.int 0))) (eC (.int 2))) aNil)))) aNil))) sNil)
    (sRet (eTup (aCons (eTup (aCons (eC (.str "repeat")) (aCons (eVar 1) (aCons (eVar 0) aNil)))) aNil)))))))
def m_repeated_pieces : FF := runBody 2 b_repeated_pieces
def b_Clip_ddmuldd : SF :=
    (sSeq (sIf (fNot (Mi.tB (eCall (Mi.cnt 3 m_is_between) (aCons (eVar 1) (aCons (eC (.int 0)) (aCons (eC (.int (1000000000000000000000000000000))) aNil)))))) sStk sNil)
    (sRet (eMakeF 0 (Mi.cnt 2 m_Clip_ddinitdd) (aCons (eCall (Mi.cnt 2 m_repeated_pieces) (aCons (eAttr 0 0 (eVar 0)) (aCons (eVar 1) aNil))) aNil))))
def m_Clip_ddmuldd : FF := runBody 2 b_Clip_ddmuldd
def l_gained_pieces_1 (c_gained_pieces : FF) : SF :=
    (sIf (Mi.tB (eB dEq (eB dIx (eVar 3) (eC (.int 0))) (eC (.str "repeat")))) (sApp 2 (eTup (aCons (eC (.str "repeat")) (aCons (eB dIx (eVar 3) (eC (.int 1))) (aCons (eCall (Mi.cnt 2 c_gained_pieces) (aCons (eB dIx (eVar 3) (eC (.int 2))) (aCons (eVar 1) aNil))) aNil))))) (sIf (Mi.tB (eB dEq (eB dIx (eVar 3) (eC (.int 0))) (eC (.str "silence")))) (sApp 2 (eVar 3)) (sSeq (sTo (tgStar 0 2 (tgCons (tgName 5) (tgCons (tgName 4) tgNil))) (eVar 3))
    (sApp 2 (eB dAdd (eFun gTuple (aCons (eVar 5) aNil)) (eTup (aCons (eB dAdd (eVar 4) (eTup (aCons (eVar 1) aNil))) aNil)))))))
def b_gained_pieces (c_gained_pieces : FF) : SF :=
    (sSeq (sOwnL 2 aNil)
    (sSeq (sFor (iSeq (eVar 0)) (tgName 3) (l_gained_pieces_1 c_gained_pieces))
    (sFrz 2 (sRet (eFun gTuple (aCons (eVar 2) aNil))))))
def m_gained_pieces : Nat → FF
  | 0 => fun _ _ => .stk
  | n + 1 => runBody 6 (b_gained_pieces (m_gained_pieces n))
def b_Clip_gained : SF :=
    (sSeq (sIf (fNot (Mi.tB (eCall (Mi.cnt 3 m_is_between) (aCons (eVar 1) (aCons (eNeg (eC (.int (1000)))) (aCons (eC (.int (1000))) aNil)))))) sStk sNil)
    (sSeq (sIf (fNot (Mi.tB (eCall (Mi.cnt 3 m_is_between) (aCons (eVar 2) (aCons (eC (.int 1)) (aCons (eC (.int (1000))) aNil)))))) sStk sNil)
    (sRet (eMakeF 0 (Mi.cnt 2 m_Clip_ddinitdd) (aCons (eCall (Mi.cnt 2 (m_gained_pieces 20)) (aCons (eAttr 0 0 (eVar 0)) (aCons (eTup (aCons (eVar 1) (aCons (eVar 2) aNil))) aNil))) aNil)))))
def m_Clip_gained : FF := runBody 3 b_Clip_gained
def b__law_made (c__law_made : FF) : SF :=
    (sSeq (sIf (Mi.tB (eB dEq (eB dIx (eVar 0) (eC (.int 0))) (eC (.str "silence")))) (sRet (eCall (Mi.cnt 1 m_Clip_silence) (aCons (eB dIx (eVar 0) (eC (.int 1))) aNil))) sNil)
    (sSeq (sIf (Mi.tB (eB dEq (eB dIx (eVar 0) (eC (.int 0))) (eC (.str "samples")))) (sRet (eCall (Mi.cnt 1 m_Clip_samples) (aCons (eB dIx (eVar 0) (eC (.int 1))) aNil))) sNil)
    (sSeq (sIf (Mi.tB (eB dEq (eB dIx (eVar 0) (eC (.int 0))) (eC (.str "part")))) (sRet (eCall (Mi.cnt 3 m_Clip_part) (aCons (eB dIx (eVar 0) (eC (.int 1))) (aCons (eB dIx (eVar 0) (eC (.int 2))) (aCons (eB dIx (eVar 0) (eC (.int 3))) aNil))))) sNil)
    (sSeq (sAsg 1 (eCall (Mi.cnt 1 c__law_made) (aCons (eB dIx (eVar 0) (eC (.int 1))) aNil)))
    (sSeq (sIf (Mi.tB (eB dEq (eB dIx (eVar 0) (eC (.int 0))) (eC (.str "sum")))) (sRet (eOpO 0 [] (Mi.cnt 2 m_Clip_ddadddd) (eVar 1) (eCall (Mi.cnt 1 c__law_made) (aCons (eB dIx (eVar 0) (eC (.int 2))) aNil)))) sNil)
    (sSeq (sIf (Mi.tB (eB dEq (eB dIx (eVar 0) (eC (.int 0))) (eC (.str "times")))) (sRet (eOpO 0 ["int"] (Mi.cnt 2 m_Clip_ddmuldd) (eVar 1) (eB dIx (eVar 0) (eC (.int 2))))) sNil)
    (sRet (eMeth 0 (Mi.cnt 3 m_Clip_gained) (eVar 1) (aCons (eB dIx (eVar 0) (eC (.int 2))) (aCons (eB dIx (eVar 0) (eC (.int 3))) aNil))))))))))
def m__law_made : Nat → FF
  | 0 => fun _ _ => .stk
  | n + 1 => runBody 2 (b__law_made (m__law_made n))
def b__law_take : SF :=
    (sSeq (sIf (Mi.tB (eB dGt (eB dIx (eVar 0) (eC (.int 0))) (eC (.int 0)))) (sSeq (sAsg 2 (eB dMod (eFun gInt (aCons (eB dIx (eVar 0) (eC (.int 0))) aNil)) (eVar 1)))
    (sSeq (sSetL (eVar 0) (eC (.int 0)) (eB dDiv (eFun gInt (aCons (eB dIx (eVar 0) (eC (.int 0))) aNil)) (eVar 1)))
    (sRet (eVar 2)))) sNil)
    (sSeq (sSetL (eVar 0) (eC (.int 1)) (eB dMod (eFun gInt (aCons (eB dAdd (eB dMul (eB dIx (eVar 0) (eC (.int 1))) (eC (.int 48271))) (eC (.int 11))) aNil)) (eC (.int 2147483647))))
    (sRet (eB dMod (eB dDiv (eB dMod (eFun gInt (aCons (eB dMul (eB dIx (eVar 0) (eC (.int 1))) (eB dIx (eVar 0) (eC (.int 1)))) aNil)) (eC (.int 2147483629))) (eC (.int 64))) (eVar 1)))))
def m__law_take : FF := runBody 3 b__law_take
def e__law_tree_1 (c__law_tree : FF) : EF :=
    (eB dSub (eCall (Mi.cnt 2 m__law_take) (aCons (eVar 0) (aCons (eC (.int 19)) aNil))) (eC (.int 9)))
def b__law_tree (c__law_tree : FF) : SF :=
    (sSeq (sAsg 3 (eCall (Mi.cnt 2 m__law_take) (aCons (eVar 0) (aCons (eC (.int 10)) aNil))))
    (sSeq (sIf (fOr (Mi.tB (eB dEq (eVar 1) (eC (.int 0)))) (Mi.tB (eB dLt (eVar 3) (eC (.int 2))))) (sSeq (sAsg 5 (eCall (Mi.cnt 2 m__law_take) (aCons (eVar 0) (aCons (eC (.int 4)) aNil))))
    (sSeq (sIf (Mi.tB (eB dEq (eVar 5) (eC (.int 0)))) (sRet (eTup (aCons (eC (.str "silence")) (aCons (eCall (Mi.cnt 2 m__law_take) (aCons (eVar 0) (aCons (eC (.int 9)) aNil))) aNil)))) sNil)
    (sSeq (sIf (Mi.tB (eB dEq (eVar 5) (eC (.int 1)))) (sRet (eTup (aCons (eC (.str "samples")) (aCons (eComp (iRg1 (aCons (eCall (Mi.cnt 2 m__law_take) (aCons (eVar 0) (aCons (eC (.int 5)) aNil))) aNil)) (tgName 7) tTrue (e__law_tree_1 c__law_tree) [7]) aNil)))) sNil)
    (sSeq (sAsg 6 (eCall (Mi.cnt 2 m__law_take) (aCons (eVar 0) (aCons (eC (.int 12)) aNil))))
    (sRet (eTup (aCons (eC (.str "part")) (aCons (eB dIx (eC (.str "ab")) (eCall (Mi.cnt 2 m__law_take) (aCons (eVar 0) (aCons (eC (.int 2)) aNil)))) (aCons (eVar 6) (aCons (eB dAdd (eVar 6) (eCall (Mi.cnt 2 m__law_take) (aCons (eVar 0) (aCons (eB dSub (eC (.int 13)) (eVar 6)) aNil)))) aNil)))))))))) sNil)
    (sSeq (sAsg 4 (eCall (Mi.cnt 3 c__law_tree) (aCons (eVar 0) (aCons (eB dSub (eVar 1) (eC (.int 1))) (aCons (eVar 2) aNil)))))
    (sSeq (sIf (Mi.tB (eB dLt (eVar 3) (eC (.int 5)))) (sRet (eTup (aCons (eC (.str "sum")) (aCons (eVar 4) (aCons (eCall (Mi.cnt 3 c__law_tree) (aCons (eVar 0) (aCons (eB dSub (eVar 1) (eC (.int 1))) (aCons (eVar 2) aNil)))) aNil))))) sNil)
    (sSeq (sIf (Mi.tB (eB dLt (eVar 3) (eC (.int 8)))) (sRet (eTup (aCons (eC (.str "times")) (aCons (eVar 4) (aCons (eCall (Mi.cnt 2 m__law_take) (aCons (eVar 0) (aCons (eVar 2) aNil))) aNil))))) sNil)
    (sRet (eTup (aCons (eC (.str "gain")) (aCons (eVar 4) (aCons (eB dSub (eCall (Mi.cnt 2 m__law_take) (aCons (eVar 0) (aCons (eC (.int 9)) aNil))) (eC (.int 4))) (aCons (eB dAdd (eC (.int 1)) (eCall (Mi.cnt 2 m__law_take) (aCons (eVar 0) (aCons (eC (.int 4)) aNil)))) aNil)))))))))))
def m__law_tree : Nat → FF
  | 0 => fun _ _ => .stk
  | n + 1 => runBody 8 (b__law_tree (m__law_tree n))
def b_Clip_ddeqdd : SF :=
    (sSeq (sIf (fNot (Mi.tB (eIsO 0 (eVar 1)))) (sRet (eC (.bl false))) sNil)
    (sRet (eB dEq (eAttr 0 0 (eVar 0)) (eAttr 0 0 (eVar 1)))))
def m_Clip_ddeqdd : FF := runBody 2 b_Clip_ddeqdd
def b_Clip_length : SF :=
    (sRet (eAttr 0 1 (eVar 0)))
def m_Clip_length : FF := runBody 1 b_Clip_length
def l__law_same_1 (c__law_same : FF) : SF :=
    (sIf (fNot (Mi.tB (eCall (Mi.cnt 2 c__law_same) (aCons (eVar 2) (aCons (eVar 3) aNil))))) (sRet (eC (.bl false))) sNil)
def b__law_same (c__law_same : FF) : SF :=
    (sSeq (sIf (Mi.tB (eB dIs (eVar 1) (eC .non))) (sRet (eB dIs (eVar 0) (eC .non))) sNil)
    (sSeq (sIf (Mi.tB (eIsB isCs .bool (eVar 1))) (sRet (eAnd (eIsB isCs .bool (eVar 0)) (eB dEq (eVar 0) (eVar 1)))) sNil)
    (sSeq (sIf (Mi.tB (eIsB isCs .int (eVar 1))) (sRet (eAnd (eIsB isCs .int (eVar 0)) (eAnd (eNot (eIsB isCs .bool (eVar 0))) (eB dEq (eVar 0) (eVar 1))))) sNil)
    (sSeq (sIf (Mi.tB (eIsB isCs .str (eVar 1))) (sRet (eAnd (eIsB isCs .str (eVar 0)) (eB dEq (eVar 0) (eVar 1)))) sNil)
    (sSeq (sIf (fAnd (Mi.tB (eIsB isCs .list (eVar 1))) (fNot (Mi.tB (eIsB isCs .list (eVar 0))))) (sRet (eC (.bl false))) sNil)
    (sSeq (sIf (fAnd (Mi.tB (eIsB isCs .tuple (eVar 1))) (fNot (Mi.tB (eIsB isCs .tuple (eVar 0))))) (sRet (eC (.bl false))) sNil)
    (sSeq (sIf (Mi.tB (eB dNe (eFun gLen (aCons (eVar 0) aNil)) (eFun gLen (aCons (eVar 1) aNil)))) (sRet (eC (.bl false))) sNil)
    (sSeq (sFor (iZp (aCons (eVar 0) (aCons (eVar 1) aNil))) (tgTup (tgCons (tgName 2) (tgCons (tgName 3) tgNil))) (l__law_same_1 c__law_same))
    (sRet (eC (.bl true)))))))))))
def m__law_same : Nat → FF
  | 0 => fun _ _ => .stk
  | n + 1 => runBody 4 (b__law_same (m__law_same n))
def l_names_in_1 (c_names_in : FF) : SF :=
    (sIf (Mi.tB (eB dEq (eB dIx (eVar 2) (eC (.int 0))) (eC (.str "part")))) (sSetO 1 (eB dIx (eVar 2) (eC (.int 1))) (eC (.bl true))) (sIf (Mi.tB (eB dEq (eB dIx (eVar 2) (eC (.int 0))) (eC (.str "repeat")))) (sUpd 1 (eCall (Mi.cnt 1 c_names_in) (aCons (eB dIx (eVar 2) (eC (.int 2))) aNil))) sNil))
def b_names_in (c_names_in : FF) : SF :=
    (sSeq (sOwnD 1)
    (sSeq (sFor (iSeq (eVar 0)) (tgName 2) (l_names_in_1 c_names_in))
    (sFrz 1 (sRet (eVar 1)))))
def m_names_in : Nat → FF
  | 0 => fun _ _ => .stk
  | n + 1 => runBody 3 (b_names_in (m_names_in n))
def b_Clip_names : SF :=
    (sRet (eFun gSorted (aCons (eFun gList (aCons (eCall (Mi.cnt 1 (m_names_in 20)) (aCons (eAttr 0 0 (eVar 0)) aNil)) aNil)) aNil)))
def m_Clip_names : FF := runBody 1 b_Clip_names
def e_law_1 : EF :=
    (eCall (Mi.cnt 1 (m__law_made 20)) (aCons (eCall (Mi.cnt 3 (m__law_tree 20)) (aCons (eVar 3) (aCons (eC (.int 3)) (aCons (eC (.int 5)) aNil)))) aNil))
def t_law_2 : TF :=
    (Mi.tB (eB dIn (eVar 11) (eB dAdd (eMeth 0 (Mi.cnt 1 m_Clip_names) (eVar 7) aNil) (eMeth 0 (Mi.cnt 1 m_Clip_names) (eVar 8) aNil))))
def e_law_3 : EF :=
    (eVar 11)
def l_law_4 : SF :=
    (sSeq (sAsg 3 (eCall (Mi.cnt 2 m__law_pool) (aCons (eVar 0) (aCons (eVar 2) aNil))))
    (sSeq (sTo (tgLst (tgCons (tgName 7) (tgCons (tgName 8) (tgCons (tgName 9) tgNil)))) (eComp (iRg1 (aCons (eC (.int 3)) aNil)) (tgName 10) tTrue e_law_1 [10]))
    (sSeq (sIf (Mi.tB (eB dIsNot (eOpO 0 [] (Mi.cnt 2 m_Clip_ddeqdd) (eOpO 0 [] (Mi.cnt 2 m_Clip_ddadddd) (eOpO 0 [] (Mi.cnt 2 m_Clip_ddadddd) (eVar 7) (eVar 8)) (eVar 9)) (eOpO 0 [] (Mi.cnt 2 m_Clip_ddadddd) (eVar 7) (eOpO 0 [] (Mi.cnt 2 m_Clip_ddadddd) (eVar 8) (eVar 9)))) (eC (.bl true)))) (sRet (eC (.bl false))) sNil)
    (sSeq (sIf (fOr (Mi.tB (eB dIsNot (eOpO 0 [] (Mi.cnt 2 m_Clip_ddeqdd) (eOpO 0 [] (Mi.cnt 2 m_Clip_ddadddd) (eVar 7) (eVar 1)) (eVar 7)) (eC (.bl true)))) (Mi.tB (eB dIsNot (eOpO 0 [] (Mi.cnt 2 m_Clip_ddeqdd) (eOpO 0 [] (Mi.cnt 2 m_Clip_ddadddd) (eVar 1) (eVar 7)) (eVar 7)) (eC (.bl true))))) (sRet (eC (.bl false))) sNil)
    (sSeq (sAsg 4 (eCall (Mi.cnt 2 m__law_take) (aCons (eVar 3) (aCons (eB dIx (eLst (aCons (eC (.int 4)) (aCons (eB dPow (eC (.int 10)) (eC (.int 12))) aNil))) (eCall (Mi.cnt 2 m__law_take) (aCons (eVar 3) (aCons (eC (.int 2)) aNil)))) aNil))))
    (sSeq (sAsg 5 (eCall (Mi.cnt 2 m__law_take) (aCons (eVar 3) (aCons (eB dIx (eLst (aCons (eC (.int 4)) (aCons (eB dPow (eC (.int 10)) (eC (.int 12))) aNil))) (eCall (Mi.cnt 2 m__law_take) (aCons (eVar 3) (aCons (eC (.int 2)) aNil)))) aNil))))
    (sSeq (sIf (fOr (Mi.tB (eB dIsNot (eOpO 0 [] (Mi.cnt 2 m_Clip_ddeqdd) (eOpO 0 ["int"] (Mi.cnt 2 m_Clip_ddmuldd) (eOpO 0 ["int"] (Mi.cnt 2 m_Clip_ddmuldd) (eVar 7) (eVar 4)) (eVar 5)) (eOpO 0 ["int"] (Mi.cnt 2 m_Clip_ddmuldd) (eVar 7) (eB dMul (eVar 4) (eVar 5)))) (eC (.bl true)))) (Mi.tB (eB dIsNot (eOpO 0 [] (Mi.cnt 2 m_Clip_ddeqdd) (eOpO 0 ["int"] (Mi.cnt 2 m_Clip_ddmuldd) (eVar 7) (eC (.int 1))) (eVar 7)) (eC (.bl true))))) (sRet (eC (.bl false))) sNil)
    (sSeq (sIf (fOr (Mi.tB (eB dIsNot (eOpO 0 [] (Mi.cnt 2 m_Clip_ddeqdd) (eOpO 0 ["int"] (Mi.cnt 2 m_Clip_ddmuldd) (eVar 7) (eC (.int 0))) (eVar 1)) (eC (.bl true)))) (Mi.tB (eB dIsNot (eOpO 0 [] (Mi.cnt 2 m_Clip_ddeqdd) (eOpO 0 ["int"] (Mi.cnt 2 m_Clip_ddmuldd) (eVar 1) (eVar 4)) (eVar 1)) (eC (.bl true))))) (sRet (eC (.bl false))) sNil)
    (sSeq (sIf (fOr (Mi.tB (eB dNe (eProp 0 (Mi.cnt 1 m_Clip_length) (eOpO 0 ["int"] (Mi.cnt 2 m_Clip_ddmuldd) (eVar 7) (eVar 4))) (eB dMul (eProp 0 (Mi.cnt 1 m_Clip_length) (eVar 7)) (eVar 4)))) (Mi.tB (eB dNe (eProp 0 (Mi.cnt 1 m_Clip_length) (eOpO 0 [] (Mi.cnt 2 m_Clip_ddadddd) (eVar 7) (eVar 8))) (eB dAdd (eProp 0 (Mi.cnt 1 m_Clip_length) (eVar 7)) (eProp 0 (Mi.cnt 1 m_Clip_length) (eVar 8)))))) (sRet (eC (.bl false))) sNil)
    (sSeq (sIf (fNot (Mi.tB (eCall (Mi.cnt 2 (m__law_same 20)) (aCons (eMeth 0 (Mi.cnt 1 m_Clip_names) (eOpO 0 ["int"] (Mi.cnt 2 m_Clip_ddmuldd) (eVar 7) (eVar 4)) aNil) (aCons (eIf (Mi.tB (eB dGt (eVar 4) (eC (.int 0)))) (eMeth 0 (Mi.cnt 1 m_Clip_names) (eVar 7) aNil) (eLst aNil)) aNil))))) (sRet (eC (.bl false))) sNil)
    (sSeq (sAsg 6 (eFun gSorted (aCons (eComp (iSeq (eLst (aCons (eC (.str "a")) (aCons (eC (.str "b")) aNil)))) (tgName 11) t_law_2 e_law_3 [11]) aNil)))
    (sIf (fNot (Mi.tB (eCall (Mi.cnt 2 (m__law_same 20)) (aCons (eMeth 0 (Mi.cnt 1 m_Clip_names) (eOpO 0 [] (Mi.cnt 2 m_Clip_ddadddd) (eVar 7) (eVar 8)) aNil) (aCons (eVar 6) aNil))))) (sRet (eC (.bl false))) sNil))))))))))))
def b_law : SF :=
    (sSeq (sAsg 1 (eCall (Mi.cnt 1 m_Clip_silence) (aCons (eC (.int 0)) aNil)))
    (sSeq (sFor (iRg1 (aCons (eFun gMax (aCons (eC (.int 1)) (aCons (eFun gMin (aCons (eFun gLen (aCons (eVar 0) aNil)) (aCons (eC (.int 12)) aNil))) aNil))) aNil)) (tgName 2) l_law_4)
    (sRet (eC (.bl true)))))
def m_law : FF := runBody 12 b_law
end
end Kx

set_option Elab.async false
set_option linter.all false
set_option maxRecDepth 100000
set_option maxHeartbeats 4000000
namespace Kx
open PySem PySem.Spec PyProof.Rows L2 Mi
section
variable {P : Program} {w : World} {K : PySem.W.Frag} {mg : Str → Option Value} {base : Heap} {A : Ad}
theorem ok_is_integer (T : Tx K mg A) : Ok P w (Γ K A) mg base (1 + 1) A.f_is_integer A.d_is_integer ["value"] (m_is_integer) :=
  ((T.F_is_integer).ok (k := 1) sc_is_integer fun cdv Ar outer s H E B => by
    exact ((ds_one (ds_ret (de_and (de_isB isCs .int B T.isf T.n_isinstance T.n_int (de_var 0) (by decide +kernel)) (de_one (de_not (de_isB isCs .bool B T.isf T.n_isinstance T.n_bool (de_var 0) (by decide +kernel)))))))))
theorem ok_is_between (T : Tx K mg A) : Ok P w (Γ K A) mg base (3 + 1) A.f_is_between A.d_is_between ["value", "least", "most"] (m_is_between) :=
  ((T.F_is_between).ok (k := 3) sc_is_between fun cdv Ar outer s H E B => by
    exact ((ds_one (ds_ret (de_and (de_call B (ok_is_integer T) (by omega) T.g_is_integer T.k_is_integer T.b_is_integer (da_cons (de_var 0) da_nil)) (de_one (de_chain (c_le B) (c_le B) (de_var 1) (de_var 0) (de_var 2))))))))
theorem okS_piece_length (T : Tx K mg A) : ∀ n : Nat, Ok P w (Γ K A) mg base (1 + n) A.f_piece_length A.d_piece_length ["piece"] (m_piece_length n) ∧ Ok P w (Γ K A) mg base (1 + n) A.f_total_length A.d_total_length ["pieces"] (m_total_length n)
  | 0 => ⟨Ok.stk, Ok.stk⟩
  | n + 1 => by
    obtain ⟨h_piece_length, h_total_length⟩ := okS_piece_length T n
    exact ⟨((T.F_piece_length).ok (k := 1 + n) sc_piece_length fun cdv Ar outer s H E B => by
    exact ((ds_cons (ds_if (dt_cmp1 (c_eq B) (de_ix B (de_var 0) de_int) de_str) (ds_one (ds_ret (de_sub B (de_ix B (de_var 0) de_int) (de_ix B (de_var 0) de_int)))) ds_nil)
    (ds_cons (ds_if (dt_cmp1 (c_eq B) (de_ix B (de_var 0) de_int) de_str) (ds_one (ds_ret (de_ix B (de_var 0) de_int))) ds_nil)
    (ds_cons (ds_if (dt_cmp1 (c_eq B) (de_ix B (de_var 0) de_int) de_str) (ds_one (ds_ret (de_len B T.n_len (da_cons (de_ix B (de_var 0) de_int) da_nil)))) ds_nil)
    (ds_one (ds_ret (de_mul B (de_ix B (de_var 0) de_int) (de_call B h_total_length (by omega) T.g_total_length T.k_total_length T.b_total_length (da_cons (de_ix B (de_var 0) de_int) da_nil)))))))))),
      ((T.F_total_length).ok (k := 1 + n) sc_total_length fun cdv Ar outer s H E B => by
    exact ((ds_one (ds_ret (de_sum B T.n_sum (da_cons (de_comp [("piece", 1)] B (di_seq B (de_var 0)) (fun _ _ _ _ _ B => (dg_name 1 B)) (fun _ _ _ _ _ _ => dpts_nil) (fun _ _ _ _ _ B => (de_call B h_piece_length (by omega) T.g_piece_length T.k_piece_length T.b_piece_length (da_cons (de_var 1) da_nil))) (ok := (show blkC N_total_length (defScope s_total_length) _ [("piece", 1)] = true by decide +kernel))) da_nil))))))⟩
theorem ok_piece_length (T : Tx K mg A) (n : Nat) : Ok P w (Γ K A) mg base (1 + n) A.f_piece_length A.d_piece_length ["piece"] (m_piece_length n) := (okS_piece_length T n).1
theorem ok_total_length (T : Tx K mg A) (n : Nat) : Ok P w (Γ K A) mg base (1 + n) A.f_total_length A.d_total_length ["pieces"] (m_total_length n) := (okS_piece_length T n).2
theorem okS_piece_count (T : Tx K mg A) : ∀ n : Nat, Ok P w (Γ K A) mg base (1 + n) A.f_piece_count A.d_piece_count ["pieces"] (m_piece_count n)
  | 0 => Ok.stk
  | n + 1 => by
    obtain h_piece_count := okS_piece_count T n
    exact ((T.F_piece_count).ok (k := 1 + n) sc_piece_count fun cdv Ar outer s H E B => by
    exact ((ds_one (ds_ret (de_sum B T.n_sum (da_cons (de_comp [("piece", 1)] B (di_seq B (de_var 0)) (fun _ _ _ _ _ B => (dg_name 1 B)) (fun _ _ _ _ _ _ => dpts_nil) (fun _ _ _ _ _ B => (de_add B de_int (de_if (dt_cmp1 (c_eq B) (de_ix B (de_var 1) de_int) de_str) (de_call B h_piece_count (by omega) T.g_piece_count T.k_piece_count T.b_piece_count (da_cons (de_ix B (de_var 1) de_int) da_nil)) de_int))) (ok := (show blkC N_piece_count (defScope s_piece_count) _ [("piece", 1)] = true by decide +kernel))) da_nil))))))
theorem ok_piece_count (T : Tx K mg A) (n : Nat) : Ok P w (Γ K A) mg base (1 + n) A.f_piece_count A.d_piece_count ["pieces"] (m_piece_count n) := (okS_piece_count T n)
theorem ok_Clip_ddinitdd (T : Tx K mg A) : Ok P w (Γ K A) mg base (22 + 1) A.f_Clip_ddinitdd A.d_Clip_ddinitdd ["self", "pieces"] (m_Clip_ddinitdd) :=
  ((T.F_Clip_ddinitdd).ok (k := 22) sc_Clip_ddinitdd fun cdv Ar outer s H E B => by
    exact ((ds_cons (ds_setF B T.c_Clip (de_tuple B T.n_tuple (da_cons (de_var 1) da_nil)) (de_var 0) rfl)
    (ds_cons (ds_setF B T.c_Clip (de_call B (ok_total_length T 20) (by omega) T.g_total_length T.k_total_length T.b_total_length (da_cons (de_attr B T.c_Clip (de_var 0) rfl) da_nil)) (de_var 0) rfl)
    (ds_cons (ds_if (dt_cmp1 (c_gt B) (de_attr B T.c_Clip (de_var 0) rfl) (de_gint T.g_MAX_LENGTH.choose_spec)) (ds_one ds_never) ds_nil)
    (ds_one (ds_if (dt_cmp1 (c_gt B) (de_call B (ok_piece_count T 20) (by omega) T.g_piece_count T.k_piece_count T.b_piece_count (da_cons (de_attr B T.c_Clip (de_var 0) rfl) da_nil)) (de_gint T.g_MAX_PIECES.choose_spec)) (ds_one ds_never) ds_nil)))))))
theorem ok_Clip_silence (T : Tx K mg A) : Ok P w (Γ K A) mg base (24 + 1) A.f_Clip_silence A.d_Clip_silence ["count"] (m_Clip_silence) :=
  ((T.F_Clip_silence).ok (k := 24) sc_Clip_silence fun cdv Ar outer s H E B => by
    exact ((ds_cons (ds_if (dt_not (dt_val (de_call B (ok_is_between T) (by omega) T.g_is_between T.k_is_between T.b_is_between (da_cons (de_var 0) (da_cons de_int (da_cons (de_gint T.g_MAX_COUNT.choose_spec) da_nil)))))) (ds_one ds_never) ds_nil)
    (ds_one (ds_ret (de_makeF B rfl T.mk_Clip (ok_Clip_ddinitdd T) (by omega) T.g_Clip T.b_Clip_ddinitdd (da_cons (de_if (dt_cmp1 (c_gt B) (de_var 0) de_int) (de_tup (da_cons (de_tup (da_cons de_str (da_cons (de_var 0) da_nil))) da_nil)) (de_tup da_nil)) da_nil)))))))
theorem ok__law_pool (T : Tx K mg A) : Ok P w (Γ K A) mg base (1 + 1) A.f__law_pool A.d__law_pool ["script", "k"] (m__law_pool) :=
  ((T.F__law_pool).ok (k := 1) sc__law_pool fun cdv Ar outer s H E B => by
    exact ((ds_cons (ds_set 2 B de_int)
    (ds_cons (ds_if (dt_cmp1 (c_lt B) (de_var 1) (de_len B T.n_len (da_cons (de_var 0) da_nil))) (ds_one (ds_set 2 B (de_toInt B T.n_int (da_cons (de_ix B (de_var 0) (de_var 1)) da_nil)))) ds_nil)
    (ds_cons (ds_set 3 B (de_abs B T.n_abs (da_cons (de_var 2) da_nil)))
    (ds_cons (ds_set 4 B (de_add B (de_add B (de_mod B (de_toInt B T.n_int (da_cons (de_var 2) da_nil)) de_int) (de_mul B de_int (de_var 1))) de_int))
    (ds_one (ds_ret (de_newL (da_cons (de_mul B (de_var 3) (de_toInt B T.n_int (da_cons (de_cmp1 (c_ge B) (de_var 3) (de_pow B de_int de_int)) da_nil))) (da_cons (de_mod B (de_toInt B T.n_int (da_cons (de_add B (de_mul B (de_mul B (de_var 4) (de_var 4)) (de_var 4)) (de_mul B de_int (de_var 1))) da_nil)) de_int) da_nil)))))))))))
theorem ok_is_row (T : Tx K mg A) : Ok P w (Γ K A) mg base (1 + 1) A.f_is_row A.d_is_row ["value"] (m_is_row) :=
  ((T.F_is_row).ok (k := 1) sc_is_row fun cdv Ar outer s H E B => by
    exact ((ds_one (ds_ret (de_isBB isCs .list .tuple B T.isf T.n_isinstance T.n_list T.n_tuple (de_var 0) (by decide +kernel) (by decide +kernel))))))
theorem ok_require_sound (T : Tx K mg A) : Ok P w (Γ K A) mg base (3 + 1) A.f_require_sound A.d_require_sound ["sound"] (m_require_sound) :=
  ((T.F_require_sound).ok (k := 3) sc_require_sound fun cdv Ar outer s H E B => by
    exact ((ds_cons (ds_if (dt_not (dt_val (de_call B (ok_is_row T) (by omega) T.g_is_row T.k_is_row T.b_is_row (da_cons (de_var 0) da_nil)))) (ds_one ds_never) ds_nil)
    (ds_one (ds_for B (di_enum B (da_cons (de_var 0) da_nil) T.n_enumerate) (dg_tup B (dgs_cons (dg_name 1 B) (dgs_cons (dg_name 2 B) dgs_nil)) (tgl_cons (tgl_cons tgl_nil))) (ds_one (ds_if (dt_not (dt_val (de_call B (ok_is_integer T) (by omega) T.g_is_integer T.k_is_integer T.b_is_integer (da_cons (de_var 2) da_nil)))) (ds_one ds_never) ds_nil)))))))
theorem ok_Clip_samples (T : Tx K mg A) : Ok P w (Γ K A) mg base (24 + 1) A.f_Clip_samples A.d_Clip_samples ["sound"] (m_Clip_samples) :=
  ((T.F_Clip_samples).ok (k := 24) sc_Clip_samples fun cdv Ar outer s H E B => by
    exact ((ds_cons (ds_expr (de_call B (ok_require_sound T) (by omega) T.g_require_sound T.k_require_sound T.b_require_sound (da_cons (de_var 0) da_nil)))
    (ds_one (ds_ret (de_makeF B rfl T.mk_Clip (ok_Clip_ddinitdd T) (by omega) T.g_Clip T.b_Clip_ddinitdd (da_cons (de_if (dt_cmp1 (c_gt B) (de_len B T.n_len (da_cons (de_var 0) da_nil)) de_int) (de_tup (da_cons (de_tup (da_cons de_str (da_cons (de_tuple B T.n_tuple (da_cons (de_var 0) da_nil)) (da_cons (de_tup da_nil) da_nil)))) da_nil)) (de_tup da_nil)) da_nil)))))))
theorem ok_is_name (T : Tx K mg A) : Ok P w (Γ K A) mg base (1 + 1) A.f_is_name A.d_is_name ["value"] (m_is_name) :=
  ((T.F_is_name).ok (k := 1) sc_is_name fun cdv Ar outer s H E B => by
    exact ((ds_one (ds_ret (de_and (de_isB isCs .str B T.isf T.n_isinstance T.n_str (de_var 0) (by decide +kernel)) (de_and (de_chain (c_le B) (c_le B) de_int (de_len B T.n_len (da_cons (de_var 0) da_nil)) (de_gint T.g_MAX_NAME.choose_spec)) (de_one (de_all B T.n_all (da_cons (de_comp [("sign", 1)] B (di_seq B (de_var 0)) (fun _ _ _ _ _ B => (dg_name 1 B)) (fun _ _ _ _ _ _ => dpts_nil) (fun _ _ _ _ _ B => (de_cmp1 (c_in B) (de_var 1) (de_gstr T.g_LETTERS.choose_spec))) (ok := (show blkC N_is_name (defScope s_is_name) _ [("sign", 1)] = true by decide +kernel))) da_nil)))))))))
theorem ok_Clip_part (T : Tx K mg A) : Ok P w (Γ K A) mg base (24 + 1) A.f_Clip_part A.d_Clip_part ["name", "start", "end"] (m_Clip_part) :=
  ((T.F_Clip_part).ok (k := 24) sc_Clip_part fun cdv Ar outer s H E B => by
    exact ((ds_cons (ds_if (dt_not (dt_val (de_call B (ok_is_name T) (by omega) T.g_is_name T.k_is_name T.b_is_name (da_cons (de_var 0) da_nil)))) (ds_one ds_never) ds_nil)
    (ds_cons (ds_for B (di_seq B (de_tup (da_cons (de_var 1) (da_cons (de_var 2) da_nil)))) (dg_name 3 B) (ds_one (ds_if (PW.pt (dw_or (dt_not (dt_val (de_call B (ok_is_integer T) (by omega) T.g_is_integer T.k_is_integer T.b_is_integer (da_cons (de_var 3) da_nil)))) (dw_one' (dt_cmp1 (c_lt B) (de_var 3) de_int)))) (ds_one ds_never) ds_nil)))
    (ds_cons (ds_if (dt_cmp1 (c_lt B) (de_var 2) (de_var 1)) (ds_one ds_never) ds_nil)
    (ds_one (ds_ret (de_makeF B rfl T.mk_Clip (ok_Clip_ddinitdd T) (by omega) T.g_Clip T.b_Clip_ddinitdd (da_cons (de_if (dt_cmp1 (c_lt B) (de_var 1) (de_var 2)) (de_tup (da_cons (de_tup (da_cons de_str (da_cons (de_var 0) (da_cons (de_var 1) (da_cons (de_var 2) (da_cons (de_tup da_nil) da_nil)))))) da_nil)) (de_tup da_nil)) da_nil)))))))))
theorem ok_merged (T : Tx K mg A) : Ok P w (Γ K A) mg base (1 + 1) A.f_merged A.d_merged ["first", "second"] (m_merged) :=
  ((T.F_merged).ok (k := 1) sc_merged fun cdv Ar outer s H E B => by
    exact ((ds_cons (ds_if (PW.pt (dw_and (dt_cmp1 (c_eq B) (de_ix B (de_var 0) de_int) de_str) (dw_one (dt_cmp1 (c_eq B) (de_ix B (de_var 1) de_int) de_str)))) (ds_one (ds_ret (de_tup (da_cons de_str (da_cons (de_add B (de_ix B (de_var 0) de_int) (de_ix B (de_var 1) de_int)) da_nil))))) ds_nil)
    (ds_cons (ds_if (PW.pt (dw_and (dt_cmp1 (c_eq B) (de_ix B (de_var 0) de_int) de_str) (dw_and (dt_cmp1 (c_eq B) (de_ix B (de_var 1) de_int) de_str) (dw_and (dt_cmp1 (c_eq B) (de_ix B (de_var 0) de_int) (de_ix B (de_var 1) de_int)) (dw_one (dt_cmp1 (c_eq B) (de_ix B (de_var 0) de_int) (de_ix B (de_var 1) de_int))))))) (ds_one (ds_if (dt_cmp1 (c_eq B) (de_ix B (de_var 0) de_int) (de_ix B (de_var 1) de_int)) (ds_one (ds_ret (de_tup (da_cons de_str (da_cons (de_ix B (de_var 0) de_int) (da_cons (de_ix B (de_var 0) de_int) (da_cons (de_ix B (de_var 1) de_int) (da_cons (de_ix B (de_var 0) de_int) da_nil)))))))) ds_nil)) ds_nil)
    (ds_one (ds_ret de_non))))))
theorem ok_both_pieces (T : Tx K mg A) : Ok P w (Γ K A) mg base (3 + 1) A.f_both_pieces A.d_both_pieces ["first", "second"] (m_both_pieces) :=
  ((T.F_both_pieces).ok (k := 3) sc_both_pieces fun cdv Ar outer s H E B => by
    exact ((ds_cons (ds_set 2 B (de_if (PW.pt (dw_and (dt_cmp1 (c_ne B) (de_var 0) (de_tup da_nil)) (dw_one (dt_cmp1 (c_ne B) (de_var 1) (de_tup da_nil))))) (de_call B (ok_merged T) (by omega) T.g_merged T.k_merged T.b_merged (da_cons (de_ix B (de_var 0) (de_neg de_int)) (da_cons (de_ix B (de_var 1) de_int) da_nil))) de_non))
    (ds_cons (ds_if (dt_cmp1 (c_is B) (de_var 2) de_non) (ds_one (ds_ret (de_add B (de_var 0) (de_var 1)))) ds_nil)
    (ds_one (ds_ret (de_add B (de_add B (de_slice B (de_var 0) do_no (do_int (de_neg de_int))) (de_tup (da_cons (de_var 2) da_nil))) (de_slice B (de_var 1) (do_int de_int) do_no))))))))
theorem ok_Clip_ddadddd (T : Tx K mg A) : Ok P w (Γ K A) mg base (24 + 1) A.f_Clip_ddadddd A.d_Clip_ddadddd ["self", "other"] (m_Clip_ddadddd) :=
  ((T.F_Clip_ddadddd).ok (k := 24) sc_Clip_ddadddd fun cdv Ar outer s H E B => by
    exact ((ds_one (ds_ret (de_makeF B rfl T.mk_Clip (ok_Clip_ddinitdd T) (by omega) T.g_Clip T.b_Clip_ddinitdd (da_cons (de_call B (ok_both_pieces T) (by omega) T.g_both_pieces T.k_both_pieces T.b_both_pieces (da_cons (de_attr B T.c_Clip (de_var 0) rfl) (da_cons (de_attr B T.c_Clip (de_var 1) rfl) da_nil))) da_nil))))))
theorem ok_repeated_pieces (T : Tx K mg A) : Ok P w (Γ K A) mg base (1 + 1) A.f_repeated_pieces A.d_repeated_pieces ["pieces", "count"] (m_repeated_pieces) :=
  ((T.F_repeated_pieces).ok (k := 1) sc_repeated_pieces fun cdv Ar outer s H E B => by
    exact ((ds_cons (ds_if (PW.pt (dw_or (dt_cmp1 (c_eq B) (de_var 1) de_int) (dw_one' (dt_cmp1 (c_eq B) (de_var 0) (de_tup da_nil))))) (ds_one (ds_ret (de_tup da_nil))) ds_nil)
    (ds_cons (ds_if (dt_cmp1 (c_eq B) (de_var 1) de_int) (ds_one (ds_ret (de_var 0))) ds_nil)
    (ds_cons (ds_if (PW.pt (dw_and (dt_cmp1 (c_eq B) (de_len B T.n_len (da_cons (de_var 0) da_nil)) de_int) (dw_one (dt_cmp1 (c_eq B) (de_ix B (de_ix B (de_var 0) de_int) de_int) de_str)))) (ds_one (ds_ret (de_tup (da_cons (de_tup (da_cons de_str (da_cons (de_mul B (de_ix B (de_ix B (de_var 0) de_int) de_int) (de_var 1)) da_nil))) da_nil)))) ds_nil)
    (ds_cons (ds_if (PW.pt (dw_and (dt_cmp1 (c_eq B) (de_len B T.n_len (da_cons (de_var 0) da_nil)) de_int) (dw_one (dt_cmp1 (c_eq B) (de_ix B (de_ix B (de_var 0) de_int) de_int) de_str)))) (ds_one (ds_ret (de_tup (da_cons (de_tup (da_cons de_str (da_cons (de_mul B (de_ix B (de_ix B (de_var 0) de_int) de_int) (de_var 1)) (da_cons (de_ix B (de_ix B (de_var 0) de_int) de_int) da_nil)))) da_nil)))) ds_nil)
    (ds_one (ds_ret (de_tup (da_cons (de_tup (da_cons de_str (da_cons (de_var 1) (da_cons (de_var 0) da_nil)))) da_nil))))))))))
theorem ok_Clip_ddmuldd (T : Tx K mg A) : Ok P w (Γ K A) mg base (24 + 1) A.f_Clip_ddmuldd A.d_Clip_ddmuldd ["self", "other"] (m_Clip_ddmuldd) :=
  ((T.F_Clip_ddmuldd).ok (k := 24) sc_Clip_ddmuldd fun cdv Ar outer s H E B => by
    exact ((ds_cons (ds_if (dt_not (dt_val (de_call B (ok_is_between T) (by omega) T.g_is_between T.k_is_between T.b_is_between (da_cons (de_var 1) (da_cons de_int (da_cons (de_gint T.g_MAX_COUNT.choose_spec) da_nil)))))) (ds_one ds_never) ds_nil)
    (ds_one (ds_ret (de_makeF B rfl T.mk_Clip (ok_Clip_ddinitdd T) (by omega) T.g_Clip T.b_Clip_ddinitdd (da_cons (de_call B (ok_repeated_pieces T) (by omega) T.g_repeated_pieces T.k_repeated_pieces T.b_repeated_pieces (da_cons (de_attr B T.c_Clip (de_var 0) rfl) (da_cons (de_var 1) da_nil))) da_nil)))))))
theorem okS_gained_pieces (T : Tx K mg A) : ∀ n : Nat, Ok P w (Γ K A) mg base (1 + n) A.f_gained_pieces A.d_gained_pieces ["pieces", "gain"] (m_gained_pieces n)
  | 0 => Ok.stk
  | n + 1 => by
    obtain h_gained_pieces := okS_gained_pieces T n
    exact ((T.F_gained_pieces).ok (k := 1 + n) sc_gained_pieces fun cdv Ar outer s H E B => by
    exact ((ds_cons (ds_ownL 2 B da_nil)
    (ds_cons (ds_for B (di_seq B (de_var 0)) (dg_name 3 B) (ds_one (ds_if (dt_cmp1 (c_eq B) (de_ix B (de_var 3) de_int) de_str) (ds_one (ds_app 2 (pe_bm PySem.F.plainAttrs_list PySem.F.slot_list_append PySem.F.type_list_append mt_append (pv 2) (pa_cons (de_tup (da_cons de_str (da_cons (de_ix B (de_var 3) de_int) (da_cons (de_call B h_gained_pieces (by omega) T.g_gained_pieces T.k_gained_pieces T.b_gained_pieces (da_cons (de_ix B (de_var 3) de_int) (da_cons (de_var 1) da_nil))) da_nil)))) pa_nil)))) (ds_one (ds_if (dt_cmp1 (c_eq B) (de_ix B (de_var 3) de_int) de_str) (ds_one (ds_app 2 (pe_bm PySem.F.plainAttrs_list PySem.F.slot_list_append PySem.F.type_list_append mt_append (pv 2) (pa_cons (de_var 3) pa_nil)))) (ds_cons (ds_to (de_var 3) (dg_star B (dgs_cons (dg_name 5 B) (dgs_cons (dg_name 4 B) dgs_nil))))
    (ds_one (ds_app 2 (pe_bm PySem.F.plainAttrs_list PySem.F.slot_list_append PySem.F.type_list_append mt_append (pv 2) (pa_cons (de_add B (de_tuple B T.n_tuple (da_cons (de_var 5) da_nil)) (de_tup (da_cons (de_add B (de_var 4) (de_tup (da_cons (de_var 1) da_nil))) da_nil))) pa_nil))))))))))
    (ds_one (ds_frz 2 (ds_ret (de_tuple B T.n_tuple (da_cons (de_var 2) da_nil)))))))))
theorem ok_gained_pieces (T : Tx K mg A) (n : Nat) : Ok P w (Γ K A) mg base (1 + n) A.f_gained_pieces A.d_gained_pieces ["pieces", "gain"] (m_gained_pieces n) := (okS_gained_pieces T n)
theorem ok_Clip_gained (T : Tx K mg A) : Ok P w (Γ K A) mg base (24 + 1) A.f_Clip_gained A.d_Clip_gained ["self", "top", "bottom"] (m_Clip_gained) :=
  ((T.F_Clip_gained).ok (k := 24) sc_Clip_gained fun cdv Ar outer s H E B => by
    exact ((ds_cons (ds_if (dt_not (dt_val (de_call B (ok_is_between T) (by omega) T.g_is_between T.k_is_between T.b_is_between (da_cons (de_var 1) (da_cons (de_neg (de_gint T.g_MAX_GAIN.choose_spec)) (da_cons (de_gint T.g_MAX_GAIN.choose_spec) da_nil)))))) (ds_one ds_never) ds_nil)
    (ds_cons (ds_if (dt_not (dt_val (de_call B (ok_is_between T) (by omega) T.g_is_between T.k_is_between T.b_is_between (da_cons (de_var 2) (da_cons de_int (da_cons (de_gint T.g_MAX_GAIN.choose_spec) da_nil)))))) (ds_one ds_never) ds_nil)
    (ds_one (ds_ret (de_makeF B rfl T.mk_Clip (ok_Clip_ddinitdd T) (by omega) T.g_Clip T.b_Clip_ddinitdd (da_cons (de_call B (ok_gained_pieces T 20) (by omega) T.g_gained_pieces T.k_gained_pieces T.b_gained_pieces (da_cons (de_attr B T.c_Clip (de_var 0) rfl) (da_cons (de_tup (da_cons (de_var 1) (da_cons (de_var 2) da_nil))) da_nil))) da_nil))))))))
theorem okS__law_made (T : Tx K mg A) : ∀ n : Nat, Ok P w (Γ K A) mg base (26 + n) A.f__law_made A.d__law_made ["tree"] (m__law_made n)
  | 0 => Ok.stk
  | n + 1 => by
    obtain h__law_made := okS__law_made T n
    exact ((T.F__law_made).ok (k := 26 + n) sc__law_made fun cdv Ar outer s H E B => by
    exact ((ds_cons (ds_if (dt_cmp1 (c_eq B) (de_ix B (de_var 0) de_int) de_str) (ds_one (ds_ret (de_stat B T.g_Clip T.s_Clip_silence (ok_Clip_silence T) (by omega) T.b_Clip_silence (da_cons (de_ix B (de_var 0) de_int) da_nil)))) ds_nil)
    (ds_cons (ds_if (dt_cmp1 (c_eq B) (de_ix B (de_var 0) de_int) de_str) (ds_one (ds_ret (de_stat B T.g_Clip T.s_Clip_samples (ok_Clip_samples T) (by omega) T.b_Clip_samples (da_cons (de_ix B (de_var 0) de_int) da_nil)))) ds_nil)
    (ds_cons (ds_if (dt_cmp1 (c_eq B) (de_ix B (de_var 0) de_int) de_str) (ds_one (ds_ret (de_stat B T.g_Clip T.s_Clip_part (ok_Clip_part T) (by omega) T.b_Clip_part (da_cons (de_ix B (de_var 0) de_int) (da_cons (de_ix B (de_var 0) de_int) (da_cons (de_ix B (de_var 0) de_int) da_nil)))))) ds_nil)
    (ds_cons (ds_set 1 B (de_call B h__law_made (by omega) T.g__law_made T.k__law_made T.b__law_made (da_cons (de_ix B (de_var 0) de_int) da_nil)))
    (ds_cons (ds_if (dt_cmp1 (c_eq B) (de_ix B (de_var 0) de_int) de_str) (ds_one (ds_ret (de_own B T.o_Clip_ddadddd (ok_Clip_ddadddd T) (by omega) T.b_Clip_ddadddd (de_var 1) (de_call B h__law_made (by omega) T.g__law_made T.k__law_made T.b__law_made (da_cons (de_ix B (de_var 0) de_int) da_nil))))) ds_nil)
    (ds_cons (ds_if (dt_cmp1 (c_eq B) (de_ix B (de_var 0) de_int) de_str) (ds_one (ds_ret (de_own B T.o_Clip_ddmuldd (ok_Clip_ddmuldd T) (by omega) T.b_Clip_ddmuldd (de_var 1) (de_ix B (de_var 0) de_int)))) ds_nil)
    (ds_one (ds_ret (de_meth B T.c_Clip T.m_Clip_gained (show ("gained" : Str) ∉ (["own_pieces", "own_length"] : List Str) by decide +kernel) (ok_Clip_gained T) (by omega) T.b_Clip_gained (de_var 1) (da_cons (de_ix B (de_var 0) de_int) (da_cons (de_ix B (de_var 0) de_int) da_nil)))))))))))))
theorem ok__law_made (T : Tx K mg A) (n : Nat) : Ok P w (Γ K A) mg base (26 + n) A.f__law_made A.d__law_made ["tree"] (m__law_made n) := (okS__law_made T n)
theorem ok__law_take (T : Tx K mg A) : Ok P w (Γ K A) mg base (1 + 1) A.f__law_take A.d__law_take ["pool", "many"] (m__law_take) :=
  ((T.F__law_take).ok (k := 1) sc__law_take fun cdv Ar outer s H E B => by
    exact ((ds_cons (ds_if (dt_cmp1 (c_gt B) (de_ix B (de_var 0) de_int) de_int) (ds_cons (ds_set 2 B (de_mod B (de_toInt B T.n_int (da_cons (de_ix B (de_var 0) de_int) da_nil)) (de_var 1)))
    (ds_cons (ds_setL (de_div B (de_toInt B T.n_int (da_cons (de_ix B (de_var 0) de_int) da_nil)) (de_var 1)) (de_var 0) de_int)
    (ds_one (ds_ret (de_var 2))))) ds_nil)
    (ds_cons (ds_setL (de_mod B (de_toInt B T.n_int (da_cons (de_add B (de_mul B (de_ix B (de_var 0) de_int) de_int) de_int) da_nil)) de_int) (de_var 0) de_int)
    (ds_one (ds_ret (de_mod B (de_div B (de_mod B (de_toInt B T.n_int (da_cons (de_mul B (de_ix B (de_var 0) de_int) (de_ix B (de_var 0) de_int)) da_nil)) de_int) de_int) (de_var 1))))))))
theorem okS__law_tree (T : Tx K mg A) : ∀ n : Nat, Ok P w (Γ K A) mg base (3 + n) A.f__law_tree A.d__law_tree ["pool", "depth", "most"] (m__law_tree n)
  | 0 => Ok.stk
  | n + 1 => by
    obtain h__law_tree := okS__law_tree T n
    exact ((T.F__law_tree).ok (k := 3 + n) sc__law_tree fun cdv Ar outer s H E B => by
    exact ((ds_cons (ds_set 3 B (de_call B (ok__law_take T) (by omega) T.g__law_take T.k__law_take T.b__law_take (da_cons (de_var 0) (da_cons de_int da_nil))))
    (ds_cons (ds_if (PW.pt (dw_or (dt_cmp1 (c_eq B) (de_var 1) de_int) (dw_one' (dt_cmp1 (c_lt B) (de_var 3) de_int)))) (ds_cons (ds_set 5 B (de_call B (ok__law_take T) (by omega) T.g__law_take T.k__law_take T.b__law_take (da_cons (de_var 0) (da_cons de_int da_nil))))
    (ds_cons (ds_if (dt_cmp1 (c_eq B) (de_var 5) de_int) (ds_one (ds_ret (de_tup (da_cons de_str (da_cons (de_call B (ok__law_take T) (by omega) T.g__law_take T.k__law_take T.b__law_take (da_cons (de_var 0) (da_cons de_int da_nil))) da_nil))))) ds_nil)
    (ds_cons (ds_if (dt_cmp1 (c_eq B) (de_var 5) de_int) (ds_one (ds_ret (de_tup (da_cons de_str (da_cons (de_comp [("turn", 7)] B (di_range1 B (da_cons (de_call B (ok__law_take T) (by omega) T.g__law_take T.k__law_take T.b__law_take (da_cons (de_var 0) (da_cons de_int da_nil))) da_nil) T.n_range) (fun _ _ _ _ _ B => (dg_name 7 B)) (fun _ _ _ _ _ _ => dpts_nil) (fun _ _ _ _ _ B => (de_sub B (de_call B (ok__law_take T) (by omega) T.g__law_take T.k__law_take T.b__law_take (da_cons (de_var 0) (da_cons de_int da_nil))) de_int)) (ok := (show blkC N__law_tree (defScope s__law_tree) _ [("turn", 7)] = true by decide +kernel))) da_nil))))) ds_nil)
    (ds_cons (ds_set 6 B (de_call B (ok__law_take T) (by omega) T.g__law_take T.k__law_take T.b__law_take (da_cons (de_var 0) (da_cons de_int da_nil))))
    (ds_one (ds_ret (de_tup (da_cons de_str (da_cons (de_ix B de_str (de_call B (ok__law_take T) (by omega) T.g__law_take T.k__law_take T.b__law_take (da_cons (de_var 0) (da_cons de_int da_nil)))) (da_cons (de_var 6) (da_cons (de_add B (de_var 6) (de_call B (ok__law_take T) (by omega) T.g__law_take T.k__law_take T.b__law_take (da_cons (de_var 0) (da_cons (de_sub B de_int (de_var 6)) da_nil)))) da_nil))))))))))) ds_nil)
    (ds_cons (ds_set 4 B (de_call B h__law_tree (by omega) T.g__law_tree T.k__law_tree T.b__law_tree (da_cons (de_var 0) (da_cons (de_sub B (de_var 1) de_int) (da_cons (de_var 2) da_nil)))))
    (ds_cons (ds_if (dt_cmp1 (c_lt B) (de_var 3) de_int) (ds_one (ds_ret (de_tup (da_cons de_str (da_cons (de_var 4) (da_cons (de_call B h__law_tree (by omega) T.g__law_tree T.k__law_tree T.b__law_tree (da_cons (de_var 0) (da_cons (de_sub B (de_var 1) de_int) (da_cons (de_var 2) da_nil)))) da_nil)))))) ds_nil)
    (ds_cons (ds_if (dt_cmp1 (c_lt B) (de_var 3) de_int) (ds_one (ds_ret (de_tup (da_cons de_str (da_cons (de_var 4) (da_cons (de_call B (ok__law_take T) (by omega) T.g__law_take T.k__law_take T.b__law_take (da_cons (de_var 0) (da_cons (de_var 2) da_nil))) da_nil)))))) ds_nil)
    (ds_one (ds_ret (de_tup (da_cons de_str (da_cons (de_var 4) (da_cons (de_sub B (de_call B (ok__law_take T) (by omega) T.g__law_take T.k__law_take T.b__law_take (da_cons (de_var 0) (da_cons de_int da_nil))) de_int) (da_cons (de_add B de_int (de_call B (ok__law_take T) (by omega) T.g__law_take T.k__law_take T.b__law_take (da_cons (de_var 0) (da_cons de_int da_nil)))) da_nil))))))))))))))
theorem ok__law_tree (T : Tx K mg A) (n : Nat) : Ok P w (Γ K A) mg base (3 + n) A.f__law_tree A.d__law_tree ["pool", "depth", "most"] (m__law_tree n) := (okS__law_tree T n)
theorem ok_Clip_ddeqdd (T : Tx K mg A) : Ok P w (Γ K A) mg base (1 + 1) A.f_Clip_ddeqdd A.d_Clip_ddeqdd ["self", "other"] (m_Clip_ddeqdd) :=
  ((T.F_Clip_ddeqdd).ok (k := 1) sc_Clip_ddeqdd fun cdv Ar outer s H E B => by
    exact ((ds_cons (ds_if (dt_not (dt_val (de_isO B T.is_Clip T.n_isinstance T.g_Clip (de_var 1)))) (ds_one (ds_ret de_bl)) ds_nil)
    (ds_one (ds_ret (de_cmp1 (c_eq B) (de_attr B T.c_Clip (de_var 0) rfl) (de_attr B T.c_Clip (de_var 1) rfl)))))))
theorem ok_Clip_length (T : Tx K mg A) : Ok P w (Γ K A) mg base (1 + 1) A.f_Clip_length A.d_Clip_length ["self"] (m_Clip_length) :=
  ((T.F_Clip_length).ok (k := 1) sc_Clip_length fun cdv Ar outer s H E B => by
    exact ((ds_one (ds_ret (de_attr B T.c_Clip (de_var 0) rfl)))))
theorem okS__law_same (T : Tx K mg A) : ∀ n : Nat, Ok P w (Γ K A) mg base (1 + n) A.f__law_same A.d__law_same ["actual", "due"] (m__law_same n)
  | 0 => Ok.stk
  | n + 1 => by
    obtain h__law_same := okS__law_same T n
    exact ((T.F__law_same).ok (k := 1 + n) sc__law_same fun cdv Ar outer s H E B => by
    exact ((ds_cons (ds_if (dt_cmp1 (c_is B) (de_var 1) de_non) (ds_one (ds_ret (de_cmp1 (c_is B) (de_var 0) de_non))) ds_nil)
    (ds_cons (ds_if (dt_val (de_isB isCs .bool B T.isf T.n_isinstance T.n_bool (de_var 1) (by decide +kernel))) (ds_one (ds_ret (de_and (de_isB isCs .bool B T.isf T.n_isinstance T.n_bool (de_var 0) (by decide +kernel)) (de_one (de_cmp1 (c_eq B) (de_var 0) (de_var 1)))))) ds_nil)
    (ds_cons (ds_if (dt_val (de_isB isCs .int B T.isf T.n_isinstance T.n_int (de_var 1) (by decide +kernel))) (ds_one (ds_ret (de_and (de_isB isCs .int B T.isf T.n_isinstance T.n_int (de_var 0) (by decide +kernel)) (de_and (de_not (de_isB isCs .bool B T.isf T.n_isinstance T.n_bool (de_var 0) (by decide +kernel))) (de_one (de_cmp1 (c_eq B) (de_var 0) (de_var 1))))))) ds_nil)
    (ds_cons (ds_if (dt_val (de_isB isCs .str B T.isf T.n_isinstance T.n_str (de_var 1) (by decide +kernel))) (ds_one (ds_ret (de_and (de_isB isCs .str B T.isf T.n_isinstance T.n_str (de_var 0) (by decide +kernel)) (de_one (de_cmp1 (c_eq B) (de_var 0) (de_var 1)))))) ds_nil)
    (ds_cons (ds_if (PW.pt (dw_and (dt_val (de_isB isCs .list B T.isf T.n_isinstance T.n_list (de_var 1) (by decide +kernel))) (dw_one (dt_not (dt_val (de_isB isCs .list B T.isf T.n_isinstance T.n_list (de_var 0) (by decide +kernel))))))) (ds_one (ds_ret de_bl)) ds_nil)
    (ds_cons (ds_if (PW.pt (dw_and (dt_val (de_isB isCs .tuple B T.isf T.n_isinstance T.n_tuple (de_var 1) (by decide +kernel))) (dw_one (dt_not (dt_val (de_isB isCs .tuple B T.isf T.n_isinstance T.n_tuple (de_var 0) (by decide +kernel))))))) (ds_one (ds_ret de_bl)) ds_nil)
    (ds_cons (ds_if (dt_cmp1 (c_ne B) (de_len B T.n_len (da_cons (de_var 0) da_nil)) (de_len B T.n_len (da_cons (de_var 1) da_nil))) (ds_one (ds_ret de_bl)) ds_nil)
    (ds_cons (ds_for B (di_zip B (da_cons (de_var 0) (da_cons (de_var 1) da_nil)) T.n_zip) (dg_tup B (dgs_cons (dg_name 2 B) (dgs_cons (dg_name 3 B) dgs_nil)) (tgl_cons (tgl_cons tgl_nil))) (ds_one (ds_if (dt_not (dt_val (de_call B h__law_same (by omega) T.g__law_same T.k__law_same T.b__law_same (da_cons (de_var 2) (da_cons (de_var 3) da_nil))))) (ds_one (ds_ret de_bl)) ds_nil)))
    (ds_one (ds_ret de_bl))))))))))))
theorem ok__law_same (T : Tx K mg A) (n : Nat) : Ok P w (Γ K A) mg base (1 + n) A.f__law_same A.d__law_same ["actual", "due"] (m__law_same n) := (okS__law_same T n)
theorem okS_names_in (T : Tx K mg A) : ∀ n : Nat, Ok P w (Γ K A) mg base (1 + n) A.f_names_in A.d_names_in ["pieces"] (m_names_in n)
  | 0 => Ok.stk
  | n + 1 => by
    obtain h_names_in := okS_names_in T n
    exact ((T.F_names_in).ok (k := 1 + n) sc_names_in fun cdv Ar outer s H E B => by
    exact ((ds_cons (ds_ownD 1 B)
    (ds_cons (ds_for B (di_seq B (de_var 0)) (dg_name 2 B) (ds_one (ds_if (dt_cmp1 (c_eq B) (de_ix B (de_var 2) de_int) de_str) (ds_one (ds_setO 1 B de_bl (pv 1) (de_ix B (de_var 2) de_int))) (ds_one (ds_if (dt_cmp1 (c_eq B) (de_ix B (de_var 2) de_int) de_str) (ds_one (ds_upd 1 (pe_bm PySem.F.plainAttrs_dict PySem.F.slot_dict_update PySem.F.type_dict_update mt_update (pv 1) (pa_cons (de_call B h_names_in (by omega) T.g_names_in T.k_names_in T.b_names_in (da_cons (de_ix B (de_var 2) de_int) da_nil)) pa_nil)))) ds_nil)))))
    (ds_one (ds_frz 1 (ds_ret (de_var 1))))))))
theorem ok_names_in (T : Tx K mg A) (n : Nat) : Ok P w (Γ K A) mg base (1 + n) A.f_names_in A.d_names_in ["pieces"] (m_names_in n) := (okS_names_in T n)
theorem ok_Clip_names (T : Tx K mg A) : Ok P w (Γ K A) mg base (22 + 1) A.f_Clip_names A.d_Clip_names ["self"] (m_Clip_names) :=
  ((T.F_Clip_names).ok (k := 22) sc_Clip_names fun cdv Ar outer s H E B => by
    exact ((ds_one (ds_ret (de_sorted B T.n_sorted (da_cons (de_list B T.n_list (da_cons (de_call B (ok_names_in T 20) (by omega) T.g_names_in T.k_names_in T.b_names_in (da_cons (de_attr B T.c_Clip (de_var 0) rfl) da_nil)) da_nil)) da_nil))))))
theorem ok_law (T : Tx K mg A) : Ok P w (Γ K A) mg base (47 + 1) A.f_law A.d_law ["script"] (m_law) :=
  ((T.F_law).ok (k := 47) sc_law fun cdv Ar outer s H E B => by
    exact ((ds_cons (ds_set 1 B (de_stat B T.g_Clip T.s_Clip_silence (ok_Clip_silence T) (by omega) T.b_Clip_silence (da_cons de_int da_nil)))
    (ds_cons (ds_for B (di_range1 B (da_cons (de_max B T.n_max (da_cons de_int (da_cons (de_min B T.n_min (da_cons (de_len B T.n_len (da_cons (de_var 0) da_nil)) (da_cons de_int da_nil))) da_nil))) da_nil) T.n_range) (dg_name 2 B) (ds_cons (ds_set 3 B (de_call B (ok__law_pool T) (by omega) T.g__law_pool T.k__law_pool T.b__law_pool (da_cons (de_var 0) (da_cons (de_var 2) da_nil))))
    (ds_cons (ds_to (de_comp [("turn", 10)] B (di_range1 B (da_cons de_int da_nil) T.n_range) (fun _ _ _ _ _ B => (dg_name 10 B)) (fun _ _ _ _ _ _ => dpts_nil) (fun _ _ _ _ _ B => (de_call B (ok__law_made T 20) (by omega) T.g__law_made T.k__law_made T.b__law_made (da_cons (de_call B (ok__law_tree T 20) (by omega) T.g__law_tree T.k__law_tree T.b__law_tree (da_cons (de_var 3) (da_cons de_int (da_cons de_int da_nil)))) da_nil))) (ok := (show blkC N_law (defScope s_law) _ [("turn", 10)] = true by decide +kernel))) (dg_lst B (dgs_cons (dg_name 7 B) (dgs_cons (dg_name 8 B) (dgs_cons (dg_name 9 B) dgs_nil))) (tgl_cons (tgl_cons (tgl_cons tgl_nil)))))
    (ds_cons (ds_if (dt_cmp1 (c_isnot B) (de_ownEq B T.o_Clip_ddeqdd (ok_Clip_ddeqdd T) (by omega) T.b_Clip_ddeqdd (de_own B T.o_Clip_ddadddd (ok_Clip_ddadddd T) (by omega) T.b_Clip_ddadddd (de_own B T.o_Clip_ddadddd (ok_Clip_ddadddd T) (by omega) T.b_Clip_ddadddd (de_var 7) (de_var 8)) (de_var 9)) (de_own B T.o_Clip_ddadddd (ok_Clip_ddadddd T) (by omega) T.b_Clip_ddadddd (de_var 7) (de_own B T.o_Clip_ddadddd (ok_Clip_ddadddd T) (by omega) T.b_Clip_ddadddd (de_var 8) (de_var 9)))) de_bl) (ds_one (ds_ret de_bl)) ds_nil)
    (ds_cons (ds_if (PW.pt (dw_or (dt_cmp1 (c_isnot B) (de_ownEq B T.o_Clip_ddeqdd (ok_Clip_ddeqdd T) (by omega) T.b_Clip_ddeqdd (de_own B T.o_Clip_ddadddd (ok_Clip_ddadddd T) (by omega) T.b_Clip_ddadddd (de_var 7) (de_var 1)) (de_var 7)) de_bl) (dw_one' (dt_cmp1 (c_isnot B) (de_ownEq B T.o_Clip_ddeqdd (ok_Clip_ddeqdd T) (by omega) T.b_Clip_ddeqdd (de_own B T.o_Clip_ddadddd (ok_Clip_ddadddd T) (by omega) T.b_Clip_ddadddd (de_var 1) (de_var 7)) (de_var 7)) de_bl)))) (ds_one (ds_ret de_bl)) ds_nil)
    (ds_cons (ds_set 4 B (de_call B (ok__law_take T) (by omega) T.g__law_take T.k__law_take T.b__law_take (da_cons (de_var 3) (da_cons (de_ix B (de_lst (da_cons de_int (da_cons (de_pow B de_int de_int) da_nil))) (de_call B (ok__law_take T) (by omega) T.g__law_take T.k__law_take T.b__law_take (da_cons (de_var 3) (da_cons de_int da_nil)))) da_nil))))
    (ds_cons (ds_set 5 B (de_call B (ok__law_take T) (by omega) T.g__law_take T.k__law_take T.b__law_take (da_cons (de_var 3) (da_cons (de_ix B (de_lst (da_cons de_int (da_cons (de_pow B de_int de_int) da_nil))) (de_call B (ok__law_take T) (by omega) T.g__law_take T.k__law_take T.b__law_take (da_cons (de_var 3) (da_cons de_int da_nil)))) da_nil))))
    (ds_cons (ds_if (PW.pt (dw_or (dt_cmp1 (c_isnot B) (de_ownEq B T.o_Clip_ddeqdd (ok_Clip_ddeqdd T) (by omega) T.b_Clip_ddeqdd (de_own B T.o_Clip_ddmuldd (ok_Clip_ddmuldd T) (by omega) T.b_Clip_ddmuldd (de_own B T.o_Clip_ddmuldd (ok_Clip_ddmuldd T) (by omega) T.b_Clip_ddmuldd (de_var 7) (de_var 4)) (de_var 5)) (de_own B T.o_Clip_ddmuldd (ok_Clip_ddmuldd T) (by omega) T.b_Clip_ddmuldd (de_var 7) (de_mul B (de_var 4) (de_var 5)))) de_bl) (dw_one' (dt_cmp1 (c_isnot B) (de_ownEq B T.o_Clip_ddeqdd (ok_Clip_ddeqdd T) (by omega) T.b_Clip_ddeqdd (de_own B T.o_Clip_ddmuldd (ok_Clip_ddmuldd T) (by omega) T.b_Clip_ddmuldd (de_var 7) de_int) (de_var 7)) de_bl)))) (ds_one (ds_ret de_bl)) ds_nil)
    (ds_cons (ds_if (PW.pt (dw_or (dt_cmp1 (c_isnot B) (de_ownEq B T.o_Clip_ddeqdd (ok_Clip_ddeqdd T) (by omega) T.b_Clip_ddeqdd (de_own B T.o_Clip_ddmuldd (ok_Clip_ddmuldd T) (by omega) T.b_Clip_ddmuldd (de_var 7) de_int) (de_var 1)) de_bl) (dw_one' (dt_cmp1 (c_isnot B) (de_ownEq B T.o_Clip_ddeqdd (ok_Clip_ddeqdd T) (by omega) T.b_Clip_ddeqdd (de_own B T.o_Clip_ddmuldd (ok_Clip_ddmuldd T) (by omega) T.b_Clip_ddmuldd (de_var 1) (de_var 4)) (de_var 1)) de_bl)))) (ds_one (ds_ret de_bl)) ds_nil)
    (ds_cons (ds_if (PW.pt (dw_or (dt_cmp1 (c_ne B) (de_prop B T.c_Clip T.p_Clip_length (ok_Clip_length T) (by omega) T.b_Clip_length (de_own B T.o_Clip_ddmuldd (ok_Clip_ddmuldd T) (by omega) T.b_Clip_ddmuldd (de_var 7) (de_var 4))) (de_mul B (de_prop B T.c_Clip T.p_Clip_length (ok_Clip_length T) (by omega) T.b_Clip_length (de_var 7)) (de_var 4))) (dw_one' (dt_cmp1 (c_ne B) (de_prop B T.c_Clip T.p_Clip_length (ok_Clip_length T) (by omega) T.b_Clip_length (de_own B T.o_Clip_ddadddd (ok_Clip_ddadddd T) (by omega) T.b_Clip_ddadddd (de_var 7) (de_var 8))) (de_add B (de_prop B T.c_Clip T.p_Clip_length (ok_Clip_length T) (by omega) T.b_Clip_length (de_var 7)) (de_prop B T.c_Clip T.p_Clip_length (ok_Clip_length T) (by omega) T.b_Clip_length (de_var 8))))))) (ds_one (ds_ret de_bl)) ds_nil)
    (ds_cons (ds_if (dt_not (dt_val (de_call B (ok__law_same T 20) (by omega) T.g__law_same T.k__law_same T.b__law_same (da_cons (de_meth0 B T.c_Clip T.m_Clip_names (show ("names" : Str) ∉ (["own_pieces", "own_length"] : List Str) by decide +kernel) (ok_Clip_names T) (by omega) T.b_Clip_names (de_own B T.o_Clip_ddmuldd (ok_Clip_ddmuldd T) (by omega) T.b_Clip_ddmuldd (de_var 7) (de_var 4))) (da_cons (de_if (dt_cmp1 (c_gt B) (de_var 4) de_int) (de_meth0 B T.c_Clip T.m_Clip_names (show ("names" : Str) ∉ (["own_pieces", "own_length"] : List Str) by decide +kernel) (ok_Clip_names T) (by omega) T.b_Clip_names (de_var 7)) (de_lst da_nil)) da_nil))))) (ds_one (ds_ret de_bl)) ds_nil)
    (ds_cons (ds_set 6 B (de_sorted B T.n_sorted (da_cons (de_comp [("name", 11)] B (di_seq B (de_lst (da_cons de_str (da_cons de_str da_nil)))) (fun _ _ _ _ _ B => (dg_name 11 B)) (fun _ _ _ _ _ B => dpts_one (dt_cmp1 (c_in B) (de_var 11) (de_add B (de_meth0 B T.c_Clip T.m_Clip_names (show ("names" : Str) ∉ (["own_pieces", "own_length"] : List Str) by decide +kernel) (ok_Clip_names T) (by omega) T.b_Clip_names (de_var 7)) (de_meth0 B T.c_Clip T.m_Clip_names (show ("names" : Str) ∉ (["own_pieces", "own_length"] : List Str) by decide +kernel) (ok_Clip_names T) (by omega) T.b_Clip_names (de_var 8))))) (fun _ _ _ _ _ B => (de_var 11)) (ok := (show blkC N_law (defScope s_law) _ [("name", 11)] = true by decide +kernel))) da_nil)))
    (ds_one (ds_if (dt_not (dt_val (de_call B (ok__law_same T 20) (by omega) T.g__law_same T.k__law_same T.b__law_same (da_cons (de_meth0 B T.c_Clip T.m_Clip_names (show ("names" : Str) ∉ (["own_pieces", "own_length"] : List Str) by decide +kernel) (ok_Clip_names T) (by omega) T.b_Clip_names (de_own B T.o_Clip_ddadddd (ok_Clip_ddadddd T) (by omega) T.b_Clip_ddadddd (de_var 7) (de_var 8))) (da_cons (de_var 6) da_nil))))) (ds_one (ds_ret de_bl)) ds_nil))))))))))))))
    (ds_one (ds_ret de_bl))))))
end
end Kx

set_option Elab.async false
set_option linter.all false
set_option maxRecDepth 100000
set_option maxHeartbeats 2000000
/-! Mi15: how meanings are worked out by simp. -/
namespace Mi
open PySem PySem.Spec PyProof.Rows L2
@[simp] theorem s1_runBody : type_of% @Mi.runBody.eq_1 := @Mi.runBody.eq_1
@[simp] theorem s1_startS : type_of% @Mi.startS.eq_1 := @Mi.startS.eq_1
@[simp] theorem s1_sSeq : type_of% @Mi.sSeq.eq_1 := @Mi.sSeq.eq_1
@[simp] theorem s1_sIf : type_of% @Mi.sIf.eq_1 := @Mi.sIf.eq_1
@[simp] theorem s1_sRet : type_of% @Mi.sRet.eq_1 := @Mi.sRet.eq_1
@[simp] theorem s1_sRetN : type_of% @Mi.sRetN.eq_1 := @Mi.sRetN.eq_1
@[simp] theorem s1_sNil : type_of% @Mi.sNil.eq_1 := @Mi.sNil.eq_1
@[simp] theorem s1_sBk : type_of% @Mi.sBk.eq_1 := @Mi.sBk.eq_1
@[simp] theorem s1_sCt : type_of% @Mi.sCt.eq_1 := @Mi.sCt.eq_1
@[simp] theorem s1_sExp : type_of% @Mi.sExp.eq_1 := @Mi.sExp.eq_1
@[simp] theorem s1_sAsg : type_of% @Mi.sAsg.eq_1 := @Mi.sAsg.eq_1
@[simp] theorem s1_sStk : type_of% @Mi.sStk.eq_1 := @Mi.sStk.eq_1
@[simp] theorem s1_tB : type_of% @Mi.tB.eq_1 := @Mi.tB.eq_1
@[simp] theorem s1_toB : type_of% @Mi.toB.eq_1 := @Mi.toB.eq_1
@[simp] theorem s1_eB : type_of% @Mi.eB.eq_1 := @Mi.eB.eq_1
@[simp] theorem s1_eVar : type_of% @Mi.eVar.eq_1 := @Mi.eVar.eq_1
@[simp] theorem s1_eC : type_of% @Mi.eC.eq_1 := @Mi.eC.eq_1
@[simp] theorem s1_eCall : type_of% @Mi.eCall.eq_1 := @Mi.eCall.eq_1
@[simp] theorem s1_cnt : type_of% @Mi.cnt.eq_1 := @Mi.cnt.eq_1
@[simp] theorem s1_aNil : type_of% @Mi.aNil.eq_1 := @Mi.aNil.eq_1
@[simp] theorem s1_aCons : type_of% @Mi.aCons.eq_1 := @Mi.aCons.eq_1
@[simp] theorem s1_eAnd : type_of% @Mi.eAnd.eq_1 := @Mi.eAnd.eq_1
@[simp] theorem s1_eOr : type_of% @Mi.eOr.eq_1 := @Mi.eOr.eq_1
@[simp] theorem s1_eNot : type_of% @Mi.eNot.eq_1 := @Mi.eNot.eq_1
@[simp] theorem s1_fAnd : type_of% @Mi.fAnd.eq_1 := @Mi.fAnd.eq_1
@[simp] theorem s1_fOr : type_of% @Mi.fOr.eq_1 := @Mi.fOr.eq_1
@[simp] theorem s1_fNot : type_of% @Mi.fNot.eq_1 := @Mi.fNot.eq_1
@[simp] theorem s1_eIf : type_of% @Mi.eIf.eq_1 := @Mi.eIf.eq_1
@[simp] theorem s1_eTup : type_of% @Mi.eTup.eq_1 := @Mi.eTup.eq_1
@[simp] theorem s1_eLst : type_of% @Mi.eLst.eq_1 := @Mi.eLst.eq_1
@[simp] theorem s1_eNewL : type_of% @Mi.eNewL.eq_1 := @Mi.eNewL.eq_1
@[simp] theorem s1_eNeg : type_of% @Mi.eNeg.eq_1 := @Mi.eNeg.eq_1
@[simp] theorem s1_eAttr : type_of% @Mi.eAttr.eq_1 := @Mi.eAttr.eq_1
@[simp] theorem s1_eProp : type_of% @Mi.eProp.eq_1 := @Mi.eProp.eq_1
@[simp] theorem s1_eMeth : type_of% @Mi.eMeth.eq_1 := @Mi.eMeth.eq_1
@[simp] theorem s1_eFun : type_of% @Mi.eFun.eq_1 := @Mi.eFun.eq_1
@[simp] theorem s1_eOpO : type_of% @Mi.eOpO.eq_1 := @Mi.eOpO.eq_1
@[simp] theorem s1_eIsB : type_of% @Mi.eIsB.eq_1 := @Mi.eIsB.eq_1
@[simp] theorem s1_eIsO : type_of% @Mi.eIsO.eq_1 := @Mi.eIsO.eq_1
@[simp] theorem s1_eIsBB : type_of% @Mi.eIsBB.eq_1 := @Mi.eIsBB.eq_1
@[simp] theorem s1_sFrz : type_of% @Mi.sFrz.eq_1 := @Mi.sFrz.eq_1
@[simp] theorem s1_frzAt : type_of% @Mi.frzAt.eq_1 := @Mi.frzAt.eq_1
@[simp] theorem s1_iSeq : type_of% @Mi.iSeq.eq_1 := @Mi.iSeq.eq_1
@[simp] theorem s1_seqD : type_of% @Mi.seqD.eq_1 := @Mi.seqD.eq_1
@[simp] theorem s2_seqD : type_of% @Mi.seqD.eq_2 := @Mi.seqD.eq_2
@[simp] theorem s3_seqD : type_of% @Mi.seqD.eq_3 := @Mi.seqD.eq_3
@[simp] theorem s4_seqD : type_of% @Mi.seqD.eq_4 := @Mi.seqD.eq_4
@[simp] theorem s5_seqD : type_of% @Mi.seqD.eq_5 := @Mi.seqD.eq_5
@[simp] theorem s1_iRg1 : type_of% @Mi.iRg1.eq_1 := @Mi.iRg1.eq_1
@[simp] theorem s1_iRg2 : type_of% @Mi.iRg2.eq_1 := @Mi.iRg2.eq_1
@[simp] theorem s1_iRg3 : type_of% @Mi.iRg3.eq_1 := @Mi.iRg3.eq_1
@[simp] theorem s1_iEn : type_of% @Mi.iEn.eq_1 := @Mi.iEn.eq_1
@[simp] theorem s1_iZp : type_of% @Mi.iZp.eq_1 := @Mi.iZp.eq_1
@[simp] theorem s1_sFor : type_of% @Mi.sFor.eq_1 := @Mi.sFor.eq_1
@[simp] theorem s1_sTo : type_of% @Mi.sTo.eq_1 := @Mi.sTo.eq_1
@[simp] theorem s1_tgName : type_of% @Mi.tgName.eq_1 := @Mi.tgName.eq_1
@[simp] theorem s1_tgNil : type_of% @Mi.tgNil.eq_1 := @Mi.tgNil.eq_1
@[simp] theorem s2_tgNil : type_of% @Mi.tgNil.eq_2 := @Mi.tgNil.eq_2
@[simp] theorem s1_tgCons : type_of% @Mi.tgCons.eq_1 := @Mi.tgCons.eq_1
@[simp] theorem s2_tgCons : type_of% @Mi.tgCons.eq_2 := @Mi.tgCons.eq_2
@[simp] theorem s1_tgTup : type_of% @Mi.tgTup.eq_1 := @Mi.tgTup.eq_1
@[simp] theorem s2_tgTup : type_of% @Mi.tgTup.eq_2 := @Mi.tgTup.eq_2
@[simp] theorem s1_tgLst : type_of% @Mi.tgLst.eq_1 := @Mi.tgLst.eq_1
@[simp] theorem s2_tgLst : type_of% @Mi.tgLst.eq_2 := @Mi.tgLst.eq_2
@[simp] theorem s1_tgStar : type_of% @Mi.tgStar.eq_1 := @Mi.tgStar.eq_1
@[simp] theorem s2_tgStar : type_of% @Mi.tgStar.eq_2 := @Mi.tgStar.eq_2
@[simp] theorem s1_eChain : type_of% @Mi.eChain.eq_1 := @Mi.eChain.eq_1
@[simp] theorem s1_eSl : type_of% @Mi.eSl.eq_1 := @Mi.eSl.eq_1
@[simp] theorem s1_oNo : type_of% @Mi.oNo.eq_1 := @Mi.oNo.eq_1
@[simp] theorem s1_oInt : type_of% @Mi.oInt.eq_1 := @Mi.oInt.eq_1
@[simp] theorem s1_objD : type_of% @Mi.objD.eq_1 := @Mi.objD.eq_1
@[simp] theorem s2_objD : type_of% @Mi.objD.eq_2 := @Mi.objD.eq_2
@[simp] theorem s3_objD : type_of% @Mi.objD.eq_3 := @Mi.objD.eq_3
@[simp] theorem s1_seen : type_of% @Mi.seen.eq_1 := @Mi.seen.eq_1
@[simp] theorem s2_seen : type_of% @Mi.seen.eq_2 := @Mi.seen.eq_2
@[simp] theorem s1_insB : type_of% @Mi.insB.eq_1 := @Mi.insB.eq_1
@[simp] theorem s2_insB : type_of% @Mi.insB.eq_2 := @Mi.insB.eq_2
@[simp] theorem s1_isB : type_of% @Mi.isB.eq_1 := @Mi.isB.eq_1
@[simp] theorem s2_isB : type_of% @Mi.isB.eq_2 := @Mi.isB.eq_2
@[simp] theorem s3_isB : type_of% @Mi.isB.eq_3 := @Mi.isB.eq_3
@[simp] theorem s4_isB : type_of% @Mi.isB.eq_4 := @Mi.isB.eq_4
@[simp] theorem s5_isB : type_of% @Mi.isB.eq_5 := @Mi.isB.eq_5
@[simp] theorem s6_isB : type_of% @Mi.isB.eq_6 := @Mi.isB.eq_6
@[simp] theorem s7_isB : type_of% @Mi.isB.eq_7 := @Mi.isB.eq_7
@[simp] theorem s8_isB : type_of% @Mi.isB.eq_8 := @Mi.isB.eq_8
@[simp] theorem s9_isB : type_of% @Mi.isB.eq_9 := @Mi.isB.eq_9
@[simp] theorem s10_isB : type_of% @Mi.isB.eq_10 := @Mi.isB.eq_10
@[simp] theorem s11_isB : type_of% @Mi.isB.eq_11 := @Mi.isB.eq_11
@[simp] theorem s12_isB : type_of% @Mi.isB.eq_12 := @Mi.isB.eq_12
@[simp] theorem s13_isB : type_of% @Mi.isB.eq_13 := @Mi.isB.eq_13
@[simp] theorem s14_isB : type_of% @Mi.isB.eq_14 := @Mi.isB.eq_14
@[simp] theorem s15_isB : type_of% @Mi.isB.eq_15 := @Mi.isB.eq_15
@[simp] theorem s16_isB : type_of% @Mi.isB.eq_16 := @Mi.isB.eq_16
@[simp] theorem s1_insO : type_of% @Mi.insO.eq_1 := @Mi.insO.eq_1
@[simp] theorem s2_insO : type_of% @Mi.insO.eq_2 := @Mi.insO.eq_2
@[simp] theorem s3_insO : type_of% @Mi.insO.eq_3 := @Mi.insO.eq_3
@[simp] theorem s1_rightD : type_of% @Mi.rightD.eq_1 := @Mi.rightD.eq_1
@[simp] theorem s1_immD : type_of% @Mi.immD.eq_1 := @Mi.immD.eq_1
@[simp] theorem s2_immD : type_of% @Mi.immD.eq_2 := @Mi.immD.eq_2
@[simp] theorem s3_immD : type_of% @Mi.immD.eq_3 := @Mi.immD.eq_3
@[simp] theorem s4_immD : type_of% @Mi.immD.eq_4 := @Mi.immD.eq_4
@[simp] theorem s5_immD : type_of% @Mi.immD.eq_5 := @Mi.immD.eq_5
@[simp] theorem s1_optR : type_of% @Mi.optR.eq_1 := @Mi.optR.eq_1
@[simp] theorem s2_optR : type_of% @Mi.optR.eq_2 := @Mi.optR.eq_2
@[simp] theorem s1_noX : type_of% @Mi.noX.eq_1 := @Mi.noX.eq_1
@[simp] theorem s2_noX : type_of% @Mi.noX.eq_2 := @Mi.noX.eq_2
@[simp] theorem s1_tTrue : type_of% @Mi.tTrue.eq_1 := @Mi.tTrue.eq_1
@[simp] theorem s1_sAug : type_of% @Mi.sAug.eq_1 := @Mi.sAug.eq_1
@[simp] theorem s1_dAddI : type_of% @Mi.dAddI.eq_1 := @Mi.dAddI.eq_1
@[simp] theorem s2_dAddI : type_of% @Mi.dAddI.eq_2 := @Mi.dAddI.eq_2
@[simp] theorem s3_dAddI : type_of% @Mi.dAddI.eq_3 := @Mi.dAddI.eq_3
@[simp] theorem s1_dAddN : type_of% @Mi.dAddN.eq_1 := @Mi.dAddN.eq_1
@[simp] theorem s2_dAddN : type_of% @Mi.dAddN.eq_2 := @Mi.dAddN.eq_2
@[simp] theorem s1_sUpd : type_of% @Mi.sUpd.eq_1 := @Mi.sUpd.eq_1
@[simp] theorem s1_sSetO : type_of% @Mi.sSetO.eq_1 := @Mi.sSetO.eq_1
@[simp] theorem s1_sSetF : type_of% @Mi.sSetF.eq_1 := @Mi.sSetF.eq_1
@[simp] theorem s1_sSetL : type_of% @Mi.sSetL.eq_1 := @Mi.sSetL.eq_1
@[simp] theorem s1_setFD : type_of% @Mi.setFD.eq_1 := @Mi.setFD.eq_1
@[simp] theorem s1_sOwnL : type_of% @Mi.sOwnL.eq_1 := @Mi.sOwnL.eq_1
@[simp] theorem s1_sOwnD : type_of% @Mi.sOwnD.eq_1 := @Mi.sOwnD.eq_1
@[simp] theorem s1_sApp : type_of% @Mi.sApp.eq_1 := @Mi.sApp.eq_1
@[simp] theorem s1_sExt : type_of% @Mi.sExt.eq_1 := @Mi.sExt.eq_1
@[simp] theorem s1_sPar : type_of% @Mi.sPar.eq_1 := @Mi.sPar.eq_1
@[simp] theorem s1_gLen : type_of% @Mi.gLen.eq_1 := @Mi.gLen.eq_1
@[simp] theorem s2_gLen : type_of% @Mi.gLen.eq_2 := @Mi.gLen.eq_2
@[simp] theorem s1_dLen : type_of% @Mi.dLen.eq_1 := @Mi.dLen.eq_1
@[simp] theorem s2_dLen : type_of% @Mi.dLen.eq_2 := @Mi.dLen.eq_2
@[simp] theorem s3_dLen : type_of% @Mi.dLen.eq_3 := @Mi.dLen.eq_3
@[simp] theorem s4_dLen : type_of% @Mi.dLen.eq_4 := @Mi.dLen.eq_4
@[simp] theorem s5_dLen : type_of% @Mi.dLen.eq_5 := @Mi.dLen.eq_5
@[simp] theorem s6_dLen : type_of% @Mi.dLen.eq_6 := @Mi.dLen.eq_6
@[simp] theorem s1_gAbs : type_of% @Mi.gAbs.eq_1 := @Mi.gAbs.eq_1
@[simp] theorem s2_gAbs : type_of% @Mi.gAbs.eq_2 := @Mi.gAbs.eq_2
@[simp] theorem s1_gMax : type_of% @Mi.gMax.eq_1 := @Mi.gMax.eq_1
@[simp] theorem s2_gMax : type_of% @Mi.gMax.eq_2 := @Mi.gMax.eq_2
@[simp] theorem s1_gMin : type_of% @Mi.gMin.eq_1 := @Mi.gMin.eq_1
@[simp] theorem s2_gMin : type_of% @Mi.gMin.eq_2 := @Mi.gMin.eq_2
@[simp] theorem s1_gInt : type_of% @Mi.gInt.eq_1 := @Mi.gInt.eq_1
@[simp] theorem s2_gInt : type_of% @Mi.gInt.eq_2 := @Mi.gInt.eq_2
@[simp] theorem s3_gInt : type_of% @Mi.gInt.eq_3 := @Mi.gInt.eq_3
@[simp] theorem s4_gInt : type_of% @Mi.gInt.eq_4 := @Mi.gInt.eq_4
@[simp] theorem dAdd_int (h : MH) (i j : Int) : Mi.dAdd h (.int i) (.int j) = .ok (.int (i + j)) h := rfl
@[simp] theorem dSub_int (h : MH) (i j : Int) : Mi.dSub h (.int i) (.int j) = .ok (.int (i - j)) h := rfl
@[simp] theorem dLt_int (h : MH) (i j : Int) : Mi.dLt h (.int i) (.int j) = .ok (.bl (decide (i < j))) h := rfl
@[simp] theorem dLe_int (h : MH) (i j : Int) : Mi.dLe h (.int i) (.int j) = .ok (.bl (decide (i ≤ j))) h := rfl
@[simp] theorem dGt_int (h : MH) (i j : Int) : Mi.dGt h (.int i) (.int j) = .ok (.bl (decide (j < i))) h := rfl
@[simp] theorem dGe_int (h : MH) (i j : Int) : Mi.dGe h (.int i) (.int j) = .ok (.bl (decide (j ≤ i))) h := rfl
@[simp] theorem dEq_int (h : MH) (i j : Int) : Mi.dEq h (.int i) (.int j) = .ok (.bl (decide (i = j))) h := rfl
@[simp] theorem dEq_str (h : MH) (i j : Str) : Mi.dEq h (.str i) (.str j) = .ok (.bl (decide (i = j))) h := rfl
@[simp] theorem dNe_int (h : MH) (i j : Int) : Mi.dNe h (.int i) (.int j) = .ok (.bl (!decide (i = j))) h := rfl
@[simp] theorem dNe_str (h : MH) (i j : Str) : Mi.dNe h (.str i) (.str j) = .ok (.bl (!decide (i = j))) h := rfl
theorem dMul_int (h : MH) {i j : Int} (c : mulOk i j) : Mi.dMul h (.int i) (.int j) = .ok (.int (i * j)) h := if_pos c
theorem dDiv_int (h : MH) {i j : Int} (c : divOk j) : Mi.dDiv h (.int i) (.int j) = .ok (.int (i / j)) h := if_pos c
theorem dMod_int (h : MH) {i j : Int} (c : 0 < j) : Mi.dMod h (.int i) (.int j) = .ok (.int (i % j)) h := if_pos c
@[simp] theorem dIs_non (h : MH) (b : Bool) : Mi.dIs h (.bl b) (.bl true) = .ok (.bl (decide (b = true))) h := rfl
@[simp] theorem dIsNot_bl (h : MH) (a b : Bool) : Mi.dIsNot h (.bl a) (.bl b) = .ok (.bl (!decide (a = b))) h := rfl
/-- a place in a tuple, a list -/
theorem ixN_nat {n i : Nat} (h : i < n) : ixN n (i : Int) = some i := by
  unfold ixN
  rw [if_pos (by omega), if_pos (by omega)]
  simp
theorem ixN_back {n i : Nat} (h : i < n) : ixN n (-((i : Int) + 1)) = some (n - (i + 1)) := by
  unfold ixN
  rw [if_neg (by omega), if_pos (by omega)]
  congr 1
  omega
end Mi

set_option Elab.async false
set_option linter.all false
set_option maxRecDepth 100000
set_option maxHeartbeats 4000000
/-! Clips0: pieces in plain Lean; what they are as data. -/
namespace Kx
open PySem PySem.Spec PyProof.Rows L2 Mi

abbrev Gs := List (Int × Int)
inductive Pc where
  | sil (n : Int)
  | smp (xs : List Int) (g : Gs)
  | part (nm : Str) (a b : Int) (g : Gs)
  | rep (k : Int) (ps : List Pc)
def encG (g : Gs) : D := .tup (g.map fun p => .tup [.int p.1, .int p.2])
mutual
def enc : Pc → D
  | .sil n => .tup [.str "silence", .int n]
  | .smp xs g => .tup [.str "samples", .tup (xs.map .int), encG g]
  | .part nm a b g => .tup [.str "part", .str nm, .int a, .int b, encG g]
  | .rep k ps => .tup [.str "repeat", .int k, .tup (encs ps)]
def encs : List Pc → List D
  | [] => []
  | p :: ps => enc p :: encs ps
end
mutual
def plen : Pc → Int
  | .sil n => n
  | .smp xs _ => xs.length
  | .part _ a b _ => b - a
  | .rep k ps => k * tlen ps
def tlen : List Pc → Int
  | [] => 0
  | p :: ps => plen p + tlen ps
end
mutual
def pcnt : Pc → Int
  | .rep _ ps => 1 + tcnt ps
  | _ => 1
def tcnt : List Pc → Int
  | [] => 0
  | p :: ps => pcnt p + tcnt ps
end
mutual
def pdep : Pc → Nat
  | .rep _ ps => tdep ps + 1
  | _ => 0
def tdep : List Pc → Nat
  | [] => 0
  | p :: ps => max (pdep p) (tdep ps)
end
/-- no number too great to be multiplied -/
def small (i : Int) : Prop := i.natAbs < 2 ^ 4000
mutual
def okP : Pc → Prop
  | .rep k ps => small k ∧ small (tlen ps) ∧ ps.length ≤ 1000 ∧ okPs ps ∧ 1 ≤ k ∧ ps ≠ []
  | .sil n => 1 ≤ n
  | .smp xs _ => xs ≠ []
  | .part _ a b _ => a < b
def okPs : List Pc → Prop
  | [] => True
  | p :: ps => okP p ∧ okPs ps
end
def tupP (ps : List Pc) : D := .tup (encs ps)

/-! ### places in tuples -/
section
variable {h : MH} {a b c d e : D} {ds : List D}
@[simp] theorem ix0 : dIx h (.tup (a :: ds)) (.int 0) = .ok a h := by
  have e : atI (a :: ds) (0 : Int) = some a := atI_nat (j := 0) rfl
  show optR h (atI (a :: ds) 0) = _
  rw [e]; rfl
@[simp] theorem ix1 : dIx h (.tup (a :: b :: ds)) (.int 1) = .ok b h := by
  have e : atI (a :: b :: ds) (1 : Int) = some b := atI_nat (j := 1) rfl
  show optR h (atI (a :: b :: ds) 1) = _
  rw [e]; rfl
@[simp] theorem ix2 : dIx h (.tup (a :: b :: c :: ds)) (.int 2) = .ok c h := by
  have e : atI (a :: b :: c :: ds) (2 : Int) = some c := atI_nat (j := 2) rfl
  show optR h (atI (a :: b :: c :: ds) 2) = _
  rw [e]; rfl
@[simp] theorem ix3 : dIx h (.tup (a :: b :: c :: d :: ds)) (.int 3) = .ok d h := by
  have e : atI (a :: b :: c :: d :: ds) (3 : Int) = some d := atI_nat (j := 3) rfl
  show optR h (atI (a :: b :: c :: d :: ds) 3) = _
  rw [e]; rfl
@[simp] theorem ix4 : dIx h (.tup (a :: b :: c :: d :: e :: ds)) (.int 4) = .ok e h := by
  have q : atI (a :: b :: c :: d :: e :: ds) (4 : Int) = some e := atI_nat (j := 4) rfl
  show optR h (atI (a :: b :: c :: d :: e :: ds) 4) = _
  rw [q]; rfl
theorem ixLast : dIx h (.tup (ds ++ [a])) (.int (-1)) = .ok a h := by
  show optR h (atI (ds ++ [a]) (-1)) = _
  rw [atI_last]; rfl
end
/-! ### the words -/
@[simp] theorem w1 : ((("silence" : Str) = "part") = False) := by decide
@[simp] theorem w2 : ((("samples" : Str) = "part") = False) := by decide
@[simp] theorem w3 : ((("repeat" : Str) = "part") = False) := by decide
@[simp] theorem w4 : ((("samples" : Str) = "silence") = False) := by decide
@[simp] theorem w5 : ((("repeat" : Str) = "silence") = False) := by decide
@[simp] theorem w6 : ((("part" : Str) = "silence") = False) := by decide
@[simp] theorem w7 : ((("repeat" : Str) = "samples") = False) := by decide
@[simp] theorem w8 : ((("part" : Str) = "samples") = False) := by decide
@[simp] theorem w9 : ((("silence" : Str) = "samples") = False) := by decide
@[simp] theorem w10 : ((("silence" : Str) = "repeat") = False) := by decide
@[simp] theorem w11 : ((("samples" : Str) = "repeat") = False) := by decide
@[simp] theorem w12 : ((("part" : Str) = "repeat") = False) := by decide

/-! ### lengths -/
theorem encs_length : ∀ ps : List Pc, (encs ps).length = ps.length
  | [] => rfl
  | _ :: ps => congrArg (· + 1) (encs_length ps)
theorem encs_append : ∀ ps qs : List Pc, encs (ps ++ qs) = encs ps ++ encs qs
  | [], _ => rfl
  | p :: ps, qs => by
    show enc p :: encs (ps ++ qs) = _
    rw [encs_append ps qs]
    rfl
theorem intsD_map : ∀ is : List Int, intsD (is.map D.int) = some is
  | [] => rfl
  | i :: is => by
    show (intsD (is.map D.int)).map _ = _
    rw [intsD_map is]
    rfl
theorem sum_ints (h : MH) (is : List Int) : gSum h [.lst (is.map D.int)] = .ok (.int is.sum) h := by
  show (match intsD (is.map D.int) with | some is => R.ok (D.int is.sum) h | none => .stk) = _
  rw [intsD_map]
theorem sum_of {α : Type} (h : MH) (f : α → Int) (xs : List α) : gSum h [.lst (xs.map (D.int ∘ f))] = .ok (.int (xs.map f).sum) h := by
  rw [← List.map_map]
  exact sum_ints h _
theorem tlen_sum : ∀ ps : List Pc, tlen ps = (ps.map plen).sum
  | [] => rfl
  | p :: ps => by
    show plen p + tlen ps = _
    rw [tlen_sum ps, List.map_cons, List.sum_cons]
theorem tcnt_sum : ∀ ps : List Pc, tcnt ps = (ps.map pcnt).sum
  | [] => rfl
  | p :: ps => by
    show pcnt p + tcnt ps = _
    rw [tcnt_sum ps, List.map_cons, List.sum_cons]
theorem encs_map : ∀ ps : List Pc, encs ps = ps.map enc
  | [] => rfl
  | p :: ps => congrArg (enc p :: ·) (encs_map ps)
theorem okPs_mem : ∀ {ps : List Pc} {p : Pc}, okPs ps → p ∈ ps → okP p
  | _ :: _, _, h, hm => by
    rcases List.mem_cons.mp hm with e | hm
    · rw [e]; exact h.1
    · exact okPs_mem h.2 hm
theorem tdep_mem : ∀ {ps : List Pc} {p : Pc}, p ∈ ps → pdep p ≤ tdep ps
  | q :: ps, p, hm => by
    show pdep p ≤ max (pdep q) (tdep ps)
    rcases List.mem_cons.mp hm with e | hm
    · rw [e]; omega
    · have := tdep_mem hm; omega
/-- a comprehension of plain values -/
theorem comp_map {σ : S} {tg : GT} {te : EF} {ds es : List D} {h : MH} (f : ∀ (i : Nat) (d : D), ds[i]? = some d → ∃ σ', tg d σ = some σ' ∧ ∃ e, es[i]? = some e ∧ te σ' h = .ok e h) (hl : ds.length = es.length) : compS tg tTrue te σ ds h = .ok es h := by
  induction ds generalizing es with
  | nil =>
    cases es with
    | nil => rfl
    | cons _ _ => cases hl
  | cons d ds ih =>
    cases es with
    | nil => cases hl
    | cons e es =>
      obtain ⟨σ', e1, e', e2, e3⟩ := f 0 d rfl
      cases e2
      unfold compS
      rw [e1]
      simp only [tTrue, noX, R.bind_ok, if_true]
      rw [e3]
      simp only [noX, R.bind_ok]
      rw [ih (fun i d hd => f (i + 1) d (by simpa using hd)) (Nat.succ.inj hl)]
      rfl
/-- for p in ps, a plain list -/
theorem comp_pcs {σ : S} {i : Nat} {te : EF} {ps : List Pc} {h : MH} (f : Pc → D) (ht : ∀ p ∈ ps, te (σ.set i (some (.d (enc p)))) h = .ok (f p) h) : compS (tgName i) tTrue te σ (encs ps) h = .ok (ps.map f) h := by
  rw [encs_map]
  refine comp_map (fun j d hd => ?_) (by simp)
  rw [List.getElem?_map] at hd
  cases q : ps[j]? with
  | none => rw [q] at hd; cases hd
  | some p =>
    rw [q] at hd
    cases hd
    exact ⟨_, rfl, f p, by rw [List.getElem?_map, q]; rfl, ht p (List.mem_of_getElem? q)⟩
theorem small_mul {k n : Int} (hk : small k) (hn : small n) : mulOk k n := .inr ⟨hk, hn⟩
theorem len_ev : ∀ n : Nat, (∀ p, 2 * pdep p + 1 ≤ n → okP p → ∀ h, m_piece_length n [enc p] h = .ok (.int (plen p)) h) ∧
    (∀ ps, 2 * tdep ps + 2 ≤ n → okPs ps → ps.length ≤ 1000 → ∀ h, m_total_length n [tupP ps] h = .ok (.int (tlen ps)) h)
  | 0 => ⟨fun p hp => by omega, fun ps hp => by omega⟩
  | n + 1 => by
    obtain ⟨h1, h2⟩ := len_ev n
    refine ⟨fun p hp ok h => ?_, fun ps hp ok hl h => ?_⟩
    · cases p with
      | sil k => simp [m_piece_length, b_piece_length, enc, plen]
      | smp xs g => simp [m_piece_length, b_piece_length, enc, plen]
      | part nm a b g => simp [m_piece_length, b_piece_length, enc, plen]
      | rep k ps =>
        obtain ⟨o1, o2, o3, o4, _⟩ := ok
        have := h2 ps (by show 2 * tdep ps + 2 ≤ n; have : 2 * (tdep ps + 1) + 1 ≤ n + 1 := hp; omega) o4 o3 h
        unfold tupP at this
        simp [m_piece_length, b_piece_length, enc, plen, this, dMul_int h (small_mul o1 o2)]
    · have e : compS (tgName 1) tTrue (e_total_length_1 (m_piece_length n)) [some (.d (tupP ps)), none] (encs ps) h = .ok (ps.map fun p => .int (plen p)) h :=
        comp_pcs _ fun p hm => by
          simp [e_total_length_1, h1 p (by have := tdep_mem hm; omega) (okPs_mem ok hm) h]
      have e2 : (ps.map fun p => D.int (plen p)) = (ps.map plen).map .int := by rw [List.map_map]; rfl
      have hl' : ps.length ≤ 1000000 := by omega
      unfold tupP at e
      simp [m_total_length, b_total_length, eComp, tupP, encs_length, dOnly, wipeS, hl', e, e2, sum_of, tlen_sum]
/-! ### counts -/
theorem cnt_ev : ∀ n : Nat, ∀ ps, tdep ps + 1 ≤ n → okPs ps → ps.length ≤ 1000 → ∀ h, m_piece_count n [tupP ps] h = .ok (.int (tcnt ps)) h
  | 0 => fun ps hp => by omega
  | n + 1 => fun ps hp ok hl h => by
    have e : compS (tgName 1) tTrue (e_piece_count_1 (m_piece_count n)) [some (.d (tupP ps)), none] (encs ps) h = .ok (ps.map fun p => .int (pcnt p)) h :=
      comp_pcs _ fun p hm => by
        have hd := tdep_mem hm
        have ho := okPs_mem ok hm
        cases p with
        | sil k => simp [e_piece_count_1, enc, pcnt]
        | smp xs g => simp [e_piece_count_1, enc, pcnt]
        | part nm a b g => simp [e_piece_count_1, enc, pcnt]
        | rep k qs =>
          obtain ⟨o1, o2, o3, o4, _⟩ := ho
          have := cnt_ev n qs (by have : tdep qs + 1 ≤ tdep ps := hd; omega) o4 o3 h
          unfold tupP at this
          simp [e_piece_count_1, enc, pcnt, this]
    have hl' : ps.length ≤ 1000000 := by omega
    have e2 : (ps.map fun p => D.int (pcnt p)) = (ps.map pcnt).map .int := by rw [List.map_map]; rfl
    unfold tupP at e
    simp [m_piece_count, b_piece_count, eComp, tupP, encs_length, dOnly, wipeS, hl', e, e2, sum_of, tcnt_sum]
/-! ### Clip(pieces) -/
/-- a clip as a value -/
def clipD (ps : List Pc) : D := .obj 0 [tupP ps, .int (tlen ps)]
mutual
theorem plen_pos : ∀ p : Pc, okP p → 1 ≤ plen p
  | .sil n, h => h
  | .smp xs g, h => by
    have : xs ≠ [] := h
    have := List.length_pos_iff.mpr this
    show (1 : Int) ≤ xs.length
    omega
  | .part nm a b g, h => by
    have : a < b := h
    show 1 ≤ b - a
    omega
  | .rep k ps, ⟨_, _, _, h4, h5, h6⟩ => by
    have h1 := (tlen_pos ps h4).2 h6
    show 1 ≤ k * tlen ps
    have := Int.mul_le_mul h5 h1 (by omega) (by omega)
    omega
theorem tlen_pos : ∀ ps : List Pc, okPs ps → 0 ≤ tlen ps ∧ (ps ≠ [] → 1 ≤ tlen ps)
  | [], _ => ⟨by simp [tlen], fun h => absurd rfl h⟩
  | p :: ps, h => by
    have h1 := plen_pos p h.1
    have h2 := (tlen_pos ps h.2).1
    show 0 ≤ plen p + tlen ps ∧ (_ → 1 ≤ plen p + tlen ps)
    exact ⟨by omega, fun _ => by omega⟩
end
mutual
theorem pcnt_pos : ∀ p : Pc, 1 ≤ pcnt p
  | .sil n => by simp [pcnt]
  | .smp xs g => by simp [pcnt]
  | .part nm a b g => by simp [pcnt]
  | .rep k ps => by
    have := tcnt_pos ps
    show 1 ≤ 1 + tcnt ps
    omega
theorem tcnt_pos : ∀ ps : List Pc, (ps.length : Int) ≤ tcnt ps
  | [] => by simp [tcnt]
  | p :: ps => by
    have h1 := pcnt_pos p
    have h2 := tcnt_pos ps
    show ((ps.length + 1 : Nat) : Int) ≤ pcnt p + tcnt ps
    omega
end
/-- what may be made -/
structure Fit (ps : List Pc) : Prop where
  ok : okPs ps
  dep : tdep ps ≤ 8
  few : tcnt ps ≤ 200
  len : tlen ps ≤ 10 ^ 40
theorem Fit.sh {ps : List Pc} (F : Fit ps) : ps.length ≤ 1000 := by
  have h1 := tcnt_pos ps
  have h2 := F.few
  omega
theorem set_last {h : MH} {c : Cell} {c' : Cell} : (h ++ [c]).set h.length c' = h ++ [c'] := by
  rw [List.set_append_right _ _ (Nat.le_refl _)]
  simp
theorem get_last {h : MH} {c : Cell} : (h ++ [c])[h.length]? = some c := by simp
theorem init_ev {ps : List Pc} (F : Fit ps) (h : MH) : m_Clip_ddinitdd [.ref h.length, tupP ps] (h ++ [.ins 0 []]) = .ok .non (h ++ [.ins 0 [tupP ps, .int (tlen ps)]]) := by
  have e1 : m_total_length 20 [tupP ps] (h ++ [.ins 0 [tupP ps]]) = .ok (.int (tlen ps)) (h ++ [.ins 0 [tupP ps]]) := (len_ev 20).2 ps (by have := F.dep; omega) F.ok F.sh _
  have e2 : m_piece_count 20 [tupP ps] (h ++ [.ins 0 [tupP ps, .int (tlen ps)]]) = .ok (.int (tcnt ps)) (h ++ [.ins 0 [tupP ps, .int (tlen ps)]]) := cnt_ev 20 ps (by have := F.dep; omega) F.ok F.sh _
  have n1 : ¬ (10000000000000000000000000000000000000000 < tlen ps) := by have := F.len; omega
  have n2 : ¬ (200 < tcnt ps) := by have := F.few; omega
  unfold tupP at e1 e2
  simp [m_Clip_ddinitdd, b_Clip_ddinitdd, tupP, gTuple, e1, e2, n1, n2]
end Kx

set_option Elab.async false
set_option linter.all false
set_option maxRecDepth 100000
set_option maxHeartbeats 4000000
/-! Clips1: clips made of sounds, sums, copies, gains. -/
namespace Kx
open PySem PySem.Spec PyProof.Rows L2 Mi

/-! ### a clip stays as it is made -/
mutual
theorem below_enc (n : Nat) : ∀ p : Pc, below n (enc p) = true
  | .sil k => by simp [enc, below, belows]
  | .smp xs g => by simp [enc, below, belows, encG, below_ints, below_gs]
  | .part nm a b g => by simp [enc, below, belows, encG, below_gs]
  | .rep k ps => by simp [enc, below, belows, below_encs n ps]
theorem below_encs (n : Nat) : ∀ ps : List Pc, belows n (encs ps) = true
  | [] => by simp [encs, belows]
  | p :: ps => by simp [encs, belows, below_enc n p, below_encs n ps]
theorem below_ints {n : Nat} : ∀ xs : List Int, belows n (xs.map .int) = true
  | [] => by simp [belows]
  | x :: xs => by simp [belows, below, below_ints xs]
theorem below_gs {n : Nat} : ∀ g : Gs, belows n (g.map fun p => .tup [.int p.1, .int p.2]) = true
  | [] => by simp [belows]
  | x :: xs => by simp [belows, below, below_gs xs]
end
open Classical in
theorem make_ev {ps : List Pc} (F : Fit ps) (h : MH) : frzMk 0 h (m_Clip_ddinitdd [.ref h.length, .tup (encs ps)] (h ++ [.ins 0 []])) = .ok (clipD ps) h := by
  have e := init_ev F h
  unfold tupP at e
  rw [e]
  show (match (h ++ [Cell.ins 0 [D.tup (encs ps), D.int (tlen ps)]]).getLast? with
    | some (.ins c' ds) => if c' = 0 ∧ h ++ [Cell.ins 0 [D.tup (encs ps), D.int (tlen ps)]] = h ++ [Cell.ins 0 ds] ∧ belows h.length ds = true then R.ok (D.obj 0 ds) h else .stk
    | _ => .stk) = _
  rw [List.getLast?_append]
  exact if_pos ⟨rfl, rfl, by simp [belows, below, below_encs]⟩
@[simp] theorem s1_eMakeF : type_of% @Mi.eMakeF.eq_1 := @Mi.eMakeF.eq_1
@[simp] theorem int_ev (h : MH) (i : Int) : m_is_integer [.int i] h = .ok (.bl true) h := rfl
@[simp] theorem between_ev (h : MH) (i a b : Int) : m_is_between [.int i, .int a, .int b] h = .ok (.bl (decide (a ≤ i ∧ i ≤ b))) h := by
  simp [m_is_between, b_is_between]
  by_cases c : a ≤ i <;> simp [c]

/-! ### sounds -/
def silP (n : Int) : List Pc := if 0 < n then [.sil n] else []
theorem fit_nil : Fit [] := ⟨trivial, by decide, by decide, by decide⟩
theorem fit_sil {n : Int} (h0 : 1 ≤ n) (h : n ≤ 10 ^ 40) : Fit [.sil n] := ⟨⟨h0, trivial⟩, by simp [tdep, pdep], by simp [tcnt, pcnt], by simp only [tlen, plen]; omega⟩
theorem silence_ev {n : Int} (h0 : 0 ≤ n) (h1 : n ≤ 10 ^ 30) (h : MH) : m_Clip_silence [.int n] h = .ok (clipD (silP n)) h := by
  have h1' : n ≤ 1000000000000000000000000000000 := by omega
  unfold silP
  by_cases c : 0 < n
  · have mk := make_ev (fit_sil (n := n) (by omega) (by omega)) h
    simp only [encs, enc] at mk
    simp [m_Clip_silence, b_Clip_silence, h0, h1', c, mk]
  · have mk := make_ev fit_nil h
    simp only [encs] at mk
    simp [m_Clip_silence, b_Clip_silence, h0, h1', c, mk]

/-- a loop that only changes its slots -/
theorem loop_ok {tg : GT} {body : SF} {h : MH} (P : S → Prop) : ∀ {ds : List D}, (∀ d ∈ ds, ∀ σ, P σ → ∃ σ1 σ2, tg d σ = some σ1 ∧ body σ1 h = .ok .nx σ2 h ∧ P σ2) → ∀ σ, P σ → ∃ σ', loopS tg body ds σ h = .ok .nx σ' h ∧ P σ'
  | [], _, σ, p => ⟨σ, rfl, p⟩
  | d :: ds, hs, σ, p => by
    obtain ⟨σ1, σ2, e1, e2, p2⟩ := hs d List.mem_cons_self σ p
    obtain ⟨σ', e3, p3⟩ := loop_ok P (ds := ds) (fun d hd => hs d (List.mem_cons_of_mem _ hd)) σ2 p2
    refine ⟨σ', ?_, p3⟩
    show (match tg d σ with | none => RS.stk | some σ1 => match body σ1 h with
      | .ok .nx σ2 h2 => loopS tg body ds σ2 h2 | .ok .ct σ2 h2 => loopS tg body ds σ2 h2 | .ok .bk σ2 h2 => .ok .nx σ2 h2 | r => r) = _
    rw [e1]
    show (match body σ1 h with | .ok .nx σ2 h2 => loopS tg body ds σ2 h2 | .ok .ct σ2 h2 => loopS tg body ds σ2 h2 | .ok .bk σ2 h2 => .ok .nx σ2 h2 | r => r) = _
    rw [e2]
    exact e3
theorem enD_mem {d : D} : ∀ {ds : List D} {n : Nat}, d ∈ enD n ds → ∃ m x, d = .tup [.int m, x] ∧ x ∈ ds
  | x :: xs, n, h => by
    rcases List.mem_cons.mp h with e | h
    · exact ⟨n, x, e, List.mem_cons_self⟩
    · obtain ⟨m, y, e, hy⟩ := enD_mem h
      exact ⟨m, y, e, List.mem_cons_of_mem _ hy⟩
theorem sound_ev (xs : List Int) (h : MH) : m_require_sound [.lst (xs.map .int)] h = .ok .non h := by
  obtain ⟨σ', e, _⟩ := loop_ok (tg := tgTup (tgCons (tgName 1) (tgCons (tgName 2) tgNil))) (body := l_require_sound_1) (h := h) (fun σ => σ.length = 3) (ds := enD 0 (xs.map .int)) (fun d hd σ hl => by
    obtain ⟨m, x, e, hx⟩ := enD_mem hd
    obtain ⟨i, _, rfl⟩ := List.mem_map.mp hx
    subst e
    match σ, hl with
    | [a, b, c], _ => exact ⟨[a, some (.d (.int m)), some (.d (.int i))], [a, some (.d (.int m)), some (.d (.int i))], rfl, by simp [l_require_sound_1], rfl⟩) [some (.d (.lst (xs.map .int))), none, none] rfl
  have hr : m_is_row [.lst (xs.map .int)] h = .ok (.bl true) h := rfl
  simp [m_require_sound, b_require_sound, hr, e]
def smpP (xs : List Int) : List Pc := if xs = [] then [] else [.smp xs []]
theorem fit_smp {xs : List Int} (h0 : xs ≠ []) (h : (xs.length : Int) ≤ 10 ^ 40) : Fit [.smp xs []] := ⟨⟨h0, trivial⟩, by simp [tdep, pdep], by simp [tcnt, pcnt], by simp only [tlen, plen]; omega⟩
theorem samples_ev {xs : List Int} (hl : (xs.length : Int) ≤ 10 ^ 40) (h : MH) : m_Clip_samples [.lst (xs.map .int)] h = .ok (clipD (smpP xs)) h := by
  unfold smpP
  by_cases c : xs = []
  · subst c
    have mk := make_ev fit_nil h
    have := sound_ev [] h
    simp only [encs, List.map_nil] at mk this
    simp [m_Clip_samples, b_Clip_samples, this, mk]
  · have mk := make_ev (fit_smp c hl) h
    have := sound_ev xs h
    have hp : 0 < xs.length := List.length_pos_iff.mpr c
    simp only [encs, enc, encG, List.map_nil] at mk
    simp [m_Clip_samples, b_Clip_samples, this, mk, c, hp, gTuple]
/-! ### parts -/
def NameOk (nm : Str) : Prop := (∀ h, m_is_name [.str nm] h = .ok (.bl true) h)
theorem name_a : NameOk "a" := fun h => by rfl
theorem name_b : NameOk "b" := fun h => by rfl
def prtP (nm : Str) (a b : Int) : List Pc := if a < b then [.part nm a b []] else []
theorem fit_prt {nm : Str} {a b : Int} (h0 : a < b) (h : b - a ≤ 10 ^ 40) : Fit [.part nm a b []] := ⟨⟨h0, trivial⟩, by simp [tdep, pdep], by simp [tcnt, pcnt], by simp only [tlen, plen]; omega⟩
theorem part_ev {nm : Str} {a b : Int} (hn : NameOk nm) (h0 : 0 ≤ a) (h1 : a ≤ b) (h2 : b - a ≤ 10 ^ 40) (h : MH) : m_Clip_part [.str nm, .int a, .int b] h = .ok (clipD (prtP nm a b)) h := by
  have n := hn h
  have c1 : ¬ a < 0 := by omega
  have c2 : ¬ b < 0 := by omega
  have c3 : ¬ b < a := by omega
  unfold prtP
  by_cases c : a < b
  · have mk := make_ev (fit_prt (nm := nm) c h2) h
    simp only [encs, enc, encG, List.map_nil] at mk
    simp [m_Clip_part, b_Clip_part, l_Clip_part_1, n, loopS, c1, c2, c3, c, mk]
  · have mk := make_ev fit_nil h
    simp only [encs] at mk
    simp [m_Clip_part, b_Clip_part, l_Clip_part_1, n, loopS, c1, c2, c3, c, mk]
end Kx

set_option Elab.async false
set_option linter.all false
set_option maxRecDepth 100000
set_option maxHeartbeats 4000000
/-! Clips2: sums, copies, gains, ==. -/
namespace Kx
open PySem PySem.Spec PyProof.Rows L2 Mi

/-! ### == of gains, of tuples with () -/
def gsP (g : Gs) : List PyData := g.map fun p => .tuple [.int p.1, .int p.2]
theorem toPs_gs : ∀ g : Gs, toPs (g.map fun p => .tup [.int p.1, .int p.2]) = some (gsP g)
  | [] => rfl
  | p :: g => by
    simp only [List.map_cons, toPs, toP, Option.map_some, Option.bind_some, toPs_gs g]
    rfl
theorem toP_encG (g : Gs) : toP (encG g) = some (.tuple (gsP g)) := by
  simp only [encG, toP, toPs_gs, Option.map_some]
theorem canLay_gs : ∀ g : Gs, PyData.canLayAll0 (gsP g) = true
  | [] => by simp [gsP, PyData.canLayAll0]
  | p :: g => by
    have := canLay_gs g
    simp only [gsP] at this
    simp [gsP, PyData.canLayAll0, PyData.canLay0, this]
theorem depth_gs : ∀ g : Gs, PyData.depthAll (gsP g) ≤ 1
  | [] => by simp [gsP, PyData.depthAll]
  | p :: g => by
    have := depth_gs g
    simp only [gsP] at this
    simp [gsP, PyData.depthAll, PyData.depth, this]
theorem eqv_gs : ∀ g g' : Gs, PyData.eqvAll (gsP g) (gsP g') = decide (g = g')
  | [], [] => by simp [gsP, PyData.eqvAll]
  | [], _ :: _ => by simp [gsP, PyData.eqvAll]
  | _ :: _, [] => by simp [gsP, PyData.eqvAll]
  | p :: g, q :: g' => by
    have := eqv_gs g g'
    simp only [gsP] at this
    obtain ⟨a, b⟩ := p
    obtain ⟨c, d⟩ := q
    simp [gsP, PyData.eqvAll, PyData.eqv, this]
    rw [Bool.eq_iff_iff]
    simp
theorem shaped_gs (g : Gs) : SeqAt.shaped (.tuple (gsP g)) = true := by
  unfold SeqAt.shaped
  have h1 := canLay_gs g
  have h2 := depth_gs g
  have h3 : PyData.depth (.tuple (gsP g)) ≤ 64 := by simp only [PyData.depth]; omega
  simp only [PyData.canLay0, h1, Bool.true_and, decide_eq_true h3]
@[simp] theorem eq_gs (h : MH) (g g' : Gs) : Mi.dEq h (encG g) (encG g') = .ok (.bl (decide (g = g'))) h := by
  have e : eqR h (encG g) (encG g') = .ok (decide (g = g')) h := by
    show (match toP (encG g), toP (encG g') with
      | some p, some q => if SeqAt.shaped p = true ∧ SeqAt.shaped q = true then R.ok (PyData.eqv p q) h else .stk
      | _, _ => .stk) = _
    rw [toP_encG, toP_encG]
    show (if _ then _ else _) = _
    rw [if_pos ⟨shaped_gs g, shaped_gs g'⟩]
    simp only [PyData.eqv, eqv_gs]
  show (eqR h (encG g) (encG g')).bind _ = _
  rw [e]
  rfl
/-! ### == of tuples of pieces -/
mutual
def pP : Pc → PyData
  | .sil n => .tuple [.str "silence", .int n]
  | .smp xs g => .tuple [.str "samples", .tuple (xs.map .int), .tuple (gsP g)]
  | .part nm a b g => .tuple [.str "part", .str nm, .int a, .int b, .tuple (gsP g)]
  | .rep k ps => .tuple [.str "repeat", .int k, .tuple (pPs ps)]
def pPs : List Pc → List PyData
  | [] => []
  | p :: ps => pP p :: pPs ps
end
theorem toPs_ints : ∀ xs : List Int, toPs (xs.map D.int) = some (xs.map PyData.int)
  | [] => rfl
  | x :: xs => by
    simp only [List.map_cons, toPs, toP, Option.bind_some, toPs_ints xs]
    rfl
mutual
theorem toP_enc : ∀ p : Pc, toP (enc p) = some (pP p)
  | .sil n => by simp [enc, toP, toPs, pP]
  | .smp xs g => by
    have := toP_encG g
    simp [enc, toP, toPs, pP, toPs_ints, this]
  | .part nm a b g => by
    have := toP_encG g
    simp [enc, toP, toPs, pP, this]
  | .rep k ps => by
    have := toPs_enc ps
    simp [enc, toP, toPs, pP, this]
theorem toPs_enc : ∀ ps : List Pc, toPs (encs ps) = some (pPs ps)
  | [] => by simp [encs, toPs, pPs]
  | p :: ps => by
    have h1 := toP_enc p
    have h2 := toPs_enc ps
    simp [encs, toPs, pPs, h1, h2]
end
mutual
/-- the names are texts that may stand -/
def nmOk : Pc → Prop
  | .part nm _ _ _ => PyData.strOk nm = true
  | .rep _ ps => nmOks ps
  | _ => True
def nmOks : List Pc → Prop
  | [] => True
  | p :: ps => nmOk p ∧ nmOks ps
end
theorem so1 : PyData.strOk "silence" = true := by decide +kernel
theorem so2 : PyData.strOk "samples" = true := by decide +kernel
theorem so3 : PyData.strOk "part" = true := by decide +kernel
theorem so4 : PyData.strOk "repeat" = true := by decide +kernel
theorem canLay_ints : ∀ xs : List Int, PyData.canLayAll0 (xs.map PyData.int) = true
  | [] => by simp [PyData.canLayAll0]
  | p :: g => by simp [PyData.canLayAll0, PyData.canLay0, canLay_ints g]
theorem depth_ints : ∀ xs : List Int, PyData.depthAll (xs.map PyData.int) = 0
  | [] => by simp [PyData.depthAll]
  | p :: g => by simp [PyData.depthAll, PyData.depth, depth_ints g]
mutual
theorem canLay_enc : ∀ p : Pc, nmOk p → PyData.canLay0 (pP p) = true
  | .sil n, _ => by simp [pP, PyData.canLay0, PyData.canLayAll0, so1]
  | .smp xs g, _ => by simp [pP, PyData.canLay0, PyData.canLayAll0, canLay_ints, canLay_gs, so2]
  | .part nm a b g, h => by
    have h : PyData.strOk nm = true := h
    simp [pP, PyData.canLay0, PyData.canLayAll0, canLay_gs, h, so3]
  | .rep k ps, h => by
    have := canLay_encs ps h
    simp [pP, PyData.canLay0, PyData.canLayAll0, this, so4]
theorem canLay_encs : ∀ ps : List Pc, nmOks ps → PyData.canLayAll0 (pPs ps) = true
  | [], _ => by simp [pPs, PyData.canLayAll0]
  | p :: ps, h => by simp [pPs, PyData.canLayAll0, canLay_enc p h.1, canLay_encs ps h.2]
end
mutual
theorem depth_enc : ∀ p : Pc, PyData.depth (pP p) ≤ 2 * pdep p + 3
  | .sil n => by simp [pP, PyData.depth, PyData.depthAll]
  | .smp xs g => by
    have := depth_gs g
    simp [pP, PyData.depth, PyData.depthAll, depth_ints]
    omega
  | .part nm a b g => by
    have := depth_gs g
    simp [pP, PyData.depth, PyData.depthAll]
    omega
  | .rep k ps => by
    have := depth_encs ps
    simp [pP, PyData.depth, PyData.depthAll, pdep]
    omega
theorem depth_encs : ∀ ps : List Pc, PyData.depthAll (pPs ps) ≤ 2 * tdep ps + 3
  | [] => by simp [pPs, PyData.depthAll]
  | p :: ps => by
    have h1 := depth_enc p
    have h2 := depth_encs ps
    simp [pPs, PyData.depthAll, tdep]
    omega
end
theorem shaped_encs {ps : List Pc} (hn : nmOks ps) (hd : tdep ps ≤ 20) : SeqAt.shaped (.tuple (pPs ps)) = true := by
  unfold SeqAt.shaped
  have h1 := canLay_encs ps hn
  have h2 := depth_encs ps
  have h3 : PyData.depth (.tuple (pPs ps)) ≤ 64 := by simp only [PyData.depth]; omega
  simp only [PyData.canLay0, h1, Bool.true_and, decide_eq_true h3]
theorem eqR_pcs {ps qs : List Pc} (hp : nmOks ps) (hq : nmOks qs) (dp : tdep ps ≤ 20) (dq : tdep qs ≤ 20) (h : MH) : eqR h (.tup (encs ps)) (.tup (encs qs)) = .ok (PyData.eqvAll (pPs ps) (pPs qs)) h := by
  have e1 : toP (.tup (encs ps)) = some (.tuple (pPs ps)) := by simp only [toP, toPs_enc, Option.map_some]
  have e2 : toP (.tup (encs qs)) = some (.tuple (pPs qs)) := by simp only [toP, toPs_enc, Option.map_some]
  show (match toP (.tup (encs ps)), toP (.tup (encs qs)) with
    | some p, some q => if SeqAt.shaped p = true ∧ SeqAt.shaped q = true then R.ok (PyData.eqv p q) h else .stk
    | _, _ => .stk) = _
  rw [e1, e2]
  show (if _ then _ else _) = _
  rw [if_pos ⟨shaped_encs hp dp, shaped_encs hq dq⟩]
  simp only [PyData.eqv]
theorem eq_same {ps : List Pc} (hp : nmOks ps) (dp : tdep ps ≤ 20) (h : MH) : Mi.dEq h (.tup (encs ps)) (.tup (encs ps)) = .ok (.bl true) h := by
  have e := eqR_pcs hp hp dp dp h
  have r : PyData.eqvAll (pPs ps) (pPs ps) = true := by
    have := SeqAt.eqv_refl (.tuple (pPs ps)) (by simp only [PyData.canLay0]; exact canLay_encs ps hp)
    simpa only [PyData.eqv] using this
  show (eqR h _ _).bind _ = _
  rw [e, r]
  rfl
theorem nil_ne {ps : List Pc} (hp : nmOks ps) (dp : tdep ps ≤ 20) (h : MH) : Mi.dNe h (.tup (encs ps)) (.tup []) = .ok (.bl (decide (ps ≠ []))) h := by
  have e := eqR_pcs (qs := []) hp trivial dp (by simp [tdep]) h
  show (eqR h _ (.tup (encs []))).bind _ = _
  rw [e]
  cases ps with
  | nil => rfl
  | cons p ps => simp [pPs, PyData.eqvAll]
theorem nil_eq {ps : List Pc} (hp : nmOks ps) (dp : tdep ps ≤ 20) (h : MH) : Mi.dEq h (.tup (encs ps)) (.tup []) = .ok (.bl (decide (ps = []))) h := by
  have e := eqR_pcs (qs := []) hp trivial dp (by simp [tdep]) h
  show (eqR h _ (.tup (encs []))).bind _ = _
  rw [e]
  cases ps with
  | nil => rfl
  | cons p ps => simp [pPs, PyData.eqvAll]
/-! ### sums -/
def mrg : Pc → Pc → Option Pc
  | .sil m, .sil n => some (.sil (m + n))
  | .part nm a b g, .part nm' a' b' g' => if nm = nm' ∧ b = a' ∧ g = g' then some (.part nm a b' g) else none
  | _, _ => none
def encO : Option Pc → D
  | none => .non
  | some p => enc p
theorem merged_ev (p q : Pc) (h : MH) : m_merged [enc p, enc q] h = .ok (encO (mrg p q)) h := by
  cases p with
  | sil m => cases q <;> simp [m_merged, b_merged, enc, mrg, encO]
  | smp xs g => cases q <;> simp [m_merged, b_merged, enc, mrg, encO]
  | rep k ps => cases q <;> simp [m_merged, b_merged, enc, mrg, encO]
  | part nm a b g =>
    cases q with
    | sil m => simp [m_merged, b_merged, enc, mrg, encO]
    | smp xs g => simp [m_merged, b_merged, enc, mrg, encO]
    | rep k ps => simp [m_merged, b_merged, enc, mrg, encO]
    | part nm' a' b' g' =>
      by_cases c1 : nm = nm'
      · by_cases c2 : b = a'
        · by_cases c3 : g = g'
          · simp [m_merged, b_merged, enc, mrg, encO, c1, c2, c3]
          · simp [m_merged, b_merged, enc, mrg, encO, c1, c2, c3]
        · simp [m_merged, b_merged, enc, mrg, encO, c1, c2]
      · simp [m_merged, b_merged, enc, mrg, encO, c1]
/-! ### both_pieces -/
def bp (ps qs : List Pc) : List Pc := match ps.getLast?, qs with
  | some p, q :: qs' => match mrg p q with
    | some r => ps.dropLast ++ r :: qs'
    | none => ps ++ q :: qs'
  | _, _ => ps ++ qs
theorem cut_init (ds : List D) (d : D) : Mi.cutD (ds ++ [d]) none (some (-1)) = ds := by
  unfold Mi.cutD
  have e : HT.sIx (ds ++ [d]).length (ds ++ [d]).length (some (-1)) = ds.length := by
    show (if (-1 : Int) < 0 then ((-1 : Int) + (((ds ++ [d]).length : Nat) : Int)).toNat else min (-1 : Int).toNat (ds ++ [d]).length) = ds.length
    rw [if_pos (by decide), List.length_append]
    simp
    omega
  rw [e]
  simp [HT.sIx]
theorem cut_tail (d : D) (ds : List D) : Mi.cutD (d :: ds) (some 1) none = ds := by
  unfold Mi.cutD
  have e : HT.sIx (d :: ds).length 0 (some 1) = 1 := by
    show (if (1 : Int) < 0 then ((1 : Int) + (((d :: ds).length : Nat) : Int)).toNat else min (1 : Int).toNat (d :: ds).length) = 1
    rw [if_neg (by decide)]
    simp
  rw [e]
  simp [HT.sIx]
@[simp] theorem sl_init (h : MH) (ds : List D) (d : D) : dSl h (.tup (ds ++ [d])) none (some (-1)) = .ok (.tup ds) h := by
  show R.ok (D.tup (Mi.cutD (ds ++ [d]) none (some (-1)))) h = _
  rw [cut_init]
@[simp] theorem sl_tail (h : MH) (ds : List D) (d : D) : dSl h (.tup (d :: ds)) (some 1) none = .ok (.tup ds) h := by
  show R.ok (D.tup (Mi.cutD (d :: ds) (some 1) none)) h = _
  rw [cut_tail]
theorem add_tup (h : MH) {as bs : List D} (hl : as.length + bs.length ≤ 1000000) : Mi.dAdd h (.tup as) (.tup bs) = .ok (.tup (as ++ bs)) h := if_pos hl
@[simp] theorem ixLast' (h : MH) (ds : List D) (a : D) : dIx h (.tup (ds ++ [a])) (.int (-1)) = .ok a h := ixLast
@[simp] theorem is_non (h : MH) : Mi.dIs h .non .non = .ok (.bl true) h := rfl
@[simp] theorem is_enc (h : MH) (p : Pc) : Mi.dIs h (enc p) .non = .ok (.bl false) h := by cases p <;> rfl
theorem both_ev {ps qs : List Pc} (hp : nmOks ps) (hq : nmOks qs) (dp : tdep ps ≤ 20) (dq : tdep qs ≤ 20) (lp : ps.length ≤ 1000) (lq : qs.length ≤ 1000) (h : MH) :
    m_both_pieces [.tup (encs ps), .tup (encs qs)] h = .ok (.tup (encs (bp ps qs))) h := by
  have ep := nil_ne hp dp h
  have eq := nil_ne hq dq h
  have lp' := encs_length ps
  have lq' := encs_length qs
  have ad : Mi.dAdd h (.tup (encs ps)) (.tup (encs qs)) = .ok (.tup (encs ps ++ encs qs)) h := add_tup h (by omega)
  rcases List.eq_nil_or_concat ps with e | ⟨ps', p, e⟩
  · subst e
    have : bp [] qs = qs := by unfold bp; rfl
    rw [this]
    simp only [encs] at ad ep ⊢
    simp [m_both_pieces, b_both_pieces, ep, ad]
  · rw [List.concat_eq_append] at e
    subst e
    have gl : (ps' ++ [p]).getLast? = some p := by rw [List.getLast?_append]; simp
    have dl : (ps' ++ [p]).dropLast = ps' := by simp
    have ee : encs (ps' ++ [p]) = encs ps' ++ [enc p] := encs_append _ _
    rw [ee] at ep ad lp' ⊢
    have c1 : decide (ps' ++ [p] ≠ []) = true := by simp
    rw [c1] at ep
    cases qs with
    | nil =>
      have : bp (ps' ++ [p]) [] = ps' ++ [p] := by unfold bp; rw [gl]; simp
      rw [this, ee]
      simp only [encs, List.append_nil] at ad eq ⊢
      simp [m_both_pieces, b_both_pieces, ep, eq, ad]
    | cons q qs' =>
      have m := merged_ev p q h
      have c2 : decide (q :: qs' ≠ []) = true := by simp
      rw [c2] at eq
      have e3 : encs (q :: qs') = enc q :: encs qs' := rfl
      rw [e3] at ad eq lq' ⊢
      cases hm : mrg p q with
      | none =>
        have : bp (ps' ++ [p]) (q :: qs') = ps' ++ [p] ++ q :: qs' := by unfold bp; rw [gl]; simp only [hm]
        rw [hm] at m
        rw [this, encs_append, ee, e3]
        simp [m_both_pieces, b_both_pieces, ep, eq, ad, m, encO]
      | some r =>
        have : bp (ps' ++ [p]) (q :: qs') = ps' ++ r :: qs' := by unfold bp; rw [gl]; simp only [hm, dl]
        rw [hm] at m
        have e4 : encs (r :: qs') = enc r :: encs qs' := rfl
        rw [this, encs_append, e4]
        have l1 : ps'.length + 1 ≤ 1000 := by simpa using lp
        have l2 : qs'.length + 1 ≤ 1000 := by simpa using lq
        have l3 := encs_length ps'
        have l4 := encs_length qs'
        have a1 : Mi.dAdd h (.tup (encs ps')) (.tup [enc r]) = .ok (.tup (encs ps' ++ [enc r])) h := add_tup h (by simp; omega)
        have a2 : Mi.dAdd h (.tup (encs ps' ++ [enc r])) (.tup (encs qs')) = .ok (.tup (encs ps' ++ [enc r] ++ encs qs')) h := add_tup h (by simp; omega)
        simp [m_both_pieces, b_both_pieces, ep, eq, ad, m, encO, a1] at a2 ⊢
        simp [a2]
end Kx

set_option Elab.async false
set_option linter.all false
set_option maxRecDepth 100000
set_option maxHeartbeats 4000000
/-! Clips3: +, *, gained, ==, length of clips. -/
namespace Kx
open PySem PySem.Spec PyProof.Rows L2 Mi

structure Good (ps : List Pc) : Prop extends Fit ps where
  nm : nmOks ps
theorem add_ev {ps qs : List Pc} (hp : Good ps) (hq : Good qs) (hf : Fit (bp ps qs)) (h : MH) : m_Clip_ddadddd [clipD ps, clipD qs] h = .ok (clipD (bp ps qs)) h := by
  have b := both_ev hp.nm hq.nm (by have := hp.dep; omega) (by have := hq.dep; omega) hp.sh hq.sh h
  have mk := make_ev hf h
  simp [m_Clip_ddadddd, b_Clip_ddadddd, clipD, tupP] at b mk ⊢
  simp [b, mk]
/-! ### copies -/
def rpt (ps : List Pc) (k : Int) : List Pc :=
  if k = 0 ∨ ps = [] then [] else if k = 1 then ps else match ps with
    | [.sil n] => [.sil (n * k)]
    | [.rep c qs] => [.rep (c * k) qs]
    | _ => [.rep k ps]
theorem len_tup (h : MH) (ds : List D) : gLen h [.tup ds] = .ok (.int ds.length) h := rfl
theorem rep_ev {ps : List Pc} (hp : Good ps) {k : Int} (hk : -(2 ^ 64) < k ∧ k < 2 ^ 64 ∨ (small k ∧ ∀ n, ps = [.sil n] → small n)) (h : MH) : m_repeated_pieces [.tup (encs ps), .int k] h = .ok (.tup (encs (rpt ps k))) h := by
  have en := nil_eq hp.nm (by have := hp.dep; omega) h
  unfold rpt
  by_cases c0 : k = 0
  · simp [m_repeated_pieces, b_repeated_pieces, c0, encs]
  · by_cases c1 : ps = []
    · rw [c1] at en ⊢
      simp only [encs] at en ⊢
      simp [m_repeated_pieces, b_repeated_pieces, c0, en, encs]
    · by_cases c2 : k = 1
      · simp [m_repeated_pieces, b_repeated_pieces, c0, c1, c2, en]
      · rw [if_neg (by simp [c0, c1]), if_neg c2]
        match ps, c1, hp with
        | [.sil n], _, hp =>
          have m : Mi.dMul h (.int n) (.int k) = .ok (.int (n * k)) h := dMul_int h (by
            rcases hk with hk | ⟨h1, h2⟩
            · exact .inl (.inr hk)
            · exact .inr ⟨h2 n rfl, h1⟩)
          simp only [encs, enc] at en ⊢
          simp [m_repeated_pieces, b_repeated_pieces, c0, c2, en, m]
        | [.rep c qs], _, hp =>
          have m : Mi.dMul h (.int c) (.int k) = .ok (.int (c * k)) h := dMul_int h (by
            rcases hk with hk | ⟨h1, h2⟩
            · exact .inl (.inr hk)
            · exact .inr ⟨hp.ok.1.1, h1⟩)
          simp only [encs, enc] at en ⊢
          simp [m_repeated_pieces, b_repeated_pieces, c0, c2, en, m]
        | [.smp xs g], _, hp =>
          simp only [encs, enc] at en ⊢
          simp [m_repeated_pieces, b_repeated_pieces, c0, c2, en]
        | [.part nm a b g], _, hp =>
          simp only [encs, enc] at en ⊢
          simp [m_repeated_pieces, b_repeated_pieces, c0, c2, en]
        | p :: q :: r, _, hp =>
          have e : encs (p :: q :: r) = enc p :: enc q :: encs r := rfl
          have e2 : (match p :: q :: r with
            | [.sil n] => [.sil (n * k)]
            | [.rep c qs] => [.rep (c * k) qs]
            | _ => [.rep k (p :: q :: r)]) = [Pc.rep k (p :: q :: r)] := by
            split
            · rename_i z; simp at z
            · rename_i z; simp at z
            · rfl
          rw [e2]
          have l : (encs (p :: q :: r)).length ≠ 1 := by rw [encs_length]; simp
          have l' : ¬ (((encs (p :: q :: r)).length : Int) = 1) := by omega
          have ee : encs [Pc.rep k (p :: q :: r)] = [.tup [.str "repeat", .int k, .tup (encs (p :: q :: r))]] := by simp [encs, enc]
          rw [ee]
          have en' : Mi.dEq h (.tup (encs (p :: q :: r))) (.tup []) = .ok (.bl false) h := by rw [en]; simp
          clear e2 e ee en
          generalize encs (p :: q :: r) = A at *
          simp [m_repeated_pieces, b_repeated_pieces, c0, c2, en', l, l']
theorem mul_ev {ps : List Pc} (hp : Good ps) {k : Int} (h0 : 0 ≤ k) (h1 : k ≤ 10 ^ 30) (hf : Fit (rpt ps k)) (h : MH) : m_Clip_ddmuldd [clipD ps, .int k] h = .ok (clipD (rpt ps k)) h := by
  have b := rep_ev hp (k := k) (.inr ⟨by unfold small; omega, fun n e => by
    subst e
    have h1 := hp.len
    have h2 : 1 ≤ n := hp.ok.1
    have h3 : tlen [Pc.sil n] = n + 0 := rfl
    unfold small
    omega⟩) h
  have mk := make_ev hf h
  have h1' : k ≤ 1000000000000000000000000000000 := by omega
  simp [m_Clip_ddmuldd, b_Clip_ddmuldd, clipD, tupP, h0, h1'] at b mk ⊢
  simp [b, mk]
theorem len_clip (ps : List Pc) (h : MH) : m_Clip_length [clipD ps] h = .ok (.int (tlen ps)) h := by
  simp [m_Clip_length, b_Clip_length, clipD]
theorem eq_clip {ps : List Pc} (hp : Good ps) (h : MH) : m_Clip_ddeqdd [clipD ps, clipD ps] h = .ok (.bl true) h := by
  have e := eq_same hp.nm (by have := hp.dep; omega) h
  simp [m_Clip_ddeqdd, b_Clip_ddeqdd, clipD, tupP] at e ⊢
  simp [e]
end Kx

set_option Elab.async false
set_option linter.all false
set_option maxRecDepth 100000
set_option maxHeartbeats 4000000
/-! Clips4: gains. -/
namespace Kx
open PySem PySem.Spec PyProof.Rows L2 Mi

/-- a loop over pieces -/
theorem loop_pcs' {tg : GT} {body : SF} {h : MH} (P : List Pc → S → Prop) (all : List Pc) (hs : ∀ done p rest, all = done ++ p :: rest → ∀ σ, P done σ → ∃ σ1 σ2, tg (enc p) σ = some σ1 ∧ body σ1 h = .ok .nx σ2 h ∧ P (done ++ [p]) σ2) :
    ∀ {ps done : List Pc}, all = done ++ ps → ∀ σ, P done σ → ∃ σ', loopS tg body (encs ps) σ h = .ok .nx σ' h ∧ P all σ'
  | [], done, e, σ, p => ⟨σ, rfl, by rw [e, List.append_nil]; exact p⟩
  | d :: ds, done, e, σ, p => by
    obtain ⟨σ1, σ2, e1, e2, p2⟩ := hs done d ds e σ p
    obtain ⟨σ', e3, p3⟩ := loop_pcs' P all hs (ps := ds) (done := done ++ [d]) (by rw [e, List.append_assoc]; rfl) σ2 p2
    refine ⟨σ', ?_, p3⟩
    show (match tg (enc d) σ with | none => RS.stk | some σ1 => match body σ1 h with
      | .ok .nx σ2 h2 => loopS tg body (encs ds) σ2 h2 | .ok .ct σ2 h2 => loopS tg body (encs ds) σ2 h2 | .ok .bk σ2 h2 => .ok .nx σ2 h2 | r => r) = _
    rw [e1]
    show (match body σ1 h with | .ok .nx σ2 h2 => loopS tg body (encs ds) σ2 h2 | .ok .ct σ2 h2 => loopS tg body (encs ds) σ2 h2 | .ok .bk σ2 h2 => .ok .nx σ2 h2 | r => r) = _
    rw [e2]
    exact e3
theorem loop_pcs {tg : GT} {body : SF} {h : MH} (P : List Pc → S → Prop) {all : List Pc} (hs : ∀ done p rest, all = done ++ p :: rest → ∀ σ, P done σ → ∃ σ1 σ2, tg (enc p) σ = some σ1 ∧ body σ1 h = .ok .nx σ2 h ∧ P (done ++ [p]) σ2) (σ : S) (p : P [] σ) :
    ∃ σ', loopS tg body (encs all) σ h = .ok .nx σ' h ∧ P all σ' := loop_pcs' P all hs (done := []) rfl σ p
mutual
def gp (t : Int × Int) : Pc → Pc
  | .sil n => .sil n
  | .smp xs g => .smp xs (g ++ [t])
  | .part nm a b g => .part nm a b (g ++ [t])
  | .rep k ps => .rep k (gps t ps)
def gps (t : Int × Int) : List Pc → List Pc
  | [] => []
  | p :: ps => gp t p :: gps t ps
end
theorem gps_map (t : Int × Int) : ∀ ps : List Pc, gps t ps = ps.map (gp t)
  | [] => rfl
  | p :: ps => congrArg (gp t p :: ·) (gps_map t ps)
mutual
theorem gp_len (t : Int × Int) : ∀ p : Pc, plen (gp t p) = plen p
  | .sil n => rfl
  | .smp xs g => rfl
  | .part nm a b g => rfl
  | .rep k ps => by show k * tlen (gps t ps) = k * tlen ps; rw [gps_len t ps]
theorem gps_len (t : Int × Int) : ∀ ps : List Pc, tlen (gps t ps) = tlen ps
  | [] => rfl
  | p :: ps => by show plen (gp t p) + tlen (gps t ps) = plen p + tlen ps; rw [gp_len t p, gps_len t ps]
end
mutual
theorem gp_cnt (t : Int × Int) : ∀ p : Pc, pcnt (gp t p) = pcnt p
  | .sil n => rfl
  | .smp xs g => rfl
  | .part nm a b g => rfl
  | .rep k ps => by show 1 + tcnt (gps t ps) = 1 + tcnt ps; rw [gps_cnt t ps]
theorem gps_cnt (t : Int × Int) : ∀ ps : List Pc, tcnt (gps t ps) = tcnt ps
  | [] => rfl
  | p :: ps => by show pcnt (gp t p) + tcnt (gps t ps) = pcnt p + tcnt ps; rw [gp_cnt t p, gps_cnt t ps]
end
mutual
theorem gp_dep (t : Int × Int) : ∀ p : Pc, pdep (gp t p) = pdep p
  | .sil n => rfl
  | .smp xs g => rfl
  | .part nm a b g => rfl
  | .rep k ps => by show tdep (gps t ps) + 1 = tdep ps + 1; rw [gps_dep t ps]
theorem gps_dep (t : Int × Int) : ∀ ps : List Pc, tdep (gps t ps) = tdep ps
  | [] => rfl
  | p :: ps => by show max (pdep (gp t p)) (tdep (gps t ps)) = max (pdep p) (tdep ps); rw [gp_dep t p, gps_dep t ps]
end
theorem gps_length (t : Int × Int) (ps : List Pc) : (gps t ps).length = ps.length := by rw [gps_map, List.length_map]
mutual
theorem gp_ok (t : Int × Int) : ∀ p : Pc, okP p → okP (gp t p)
  | .sil n, h => h
  | .smp xs g, h => h
  | .part nm a b g, h => h
  | .rep k ps, ⟨h1, h2, h3, h4, h5, h6⟩ => ⟨h1, by rw [gps_len]; exact h2, by rw [gps_length]; exact h3, gps_ok t ps h4, h5, fun z => h6 (by
      have := gps_length t ps
      rw [z] at this
      exact List.length_eq_zero_iff.mp this.symm)⟩
theorem gps_ok (t : Int × Int) : ∀ ps : List Pc, okPs ps → okPs (gps t ps)
  | [], _ => trivial
  | p :: ps, h => ⟨gp_ok t p h.1, gps_ok t ps h.2⟩
end
mutual
theorem gp_nm (t : Int × Int) : ∀ p : Pc, nmOk p → nmOk (gp t p)
  | .sil n, h => h
  | .smp xs g, h => h
  | .part nm a b g, h => h
  | .rep k ps, h => gps_nm t ps h
theorem gps_nm (t : Int × Int) : ∀ ps : List Pc, nmOks ps → nmOks (gps t ps)
  | [], _ => trivial
  | p :: ps, h => ⟨gp_nm t p h.1, gps_nm t ps h.2⟩
end
theorem gps_good {ps : List Pc} (t : Int × Int) (F : Good ps) : Good (gps t ps) :=
  ⟨⟨gps_ok t ps F.ok, by rw [gps_dep]; exact F.dep, by rw [gps_cnt]; exact F.few, by rw [gps_len]; exact F.len⟩, gps_nm t ps F.nm⟩
def gD (t : Int × Int) : D := .tup [.int t.1, .int t.2]
mutual
/-- few gains -/
def gOk : Pc → Prop
  | .smp _ g => g.length ≤ 1000
  | .part _ _ _ g => g.length ≤ 1000
  | .rep _ ps => gOks ps
  | _ => True
def gOks : List Pc → Prop
  | [] => True
  | p :: ps => gOk p ∧ gOks ps
end
theorem gOks_mem : ∀ {ps : List Pc} {p : Pc}, gOks ps → p ∈ ps → gOk p
  | _ :: _, _, h, hm => by
    rcases List.mem_cons.mp hm with e | hm
    · rw [e]; exact h.1
    · exact gOks_mem h.2 hm
theorem add_gain {g : Gs} (hg : g.length ≤ 1000) (t : Int × Int) (h : MH) : Mi.dAdd h (encG g) (.tup [gD t]) = .ok (encG (g ++ [t])) h := by
  have e : encG (g ++ [t]) = .tup ((g.map fun p => .tup [.int p.1, .int p.2]) ++ [gD t]) := by simp [encG, gD]
  rw [e]
  exact add_tup h (by simp; omega)
theorem add_tup_if (h : MH) (as bs : List D) : Mi.dAdd h (.tup as) (.tup bs) = if as.length + bs.length ≤ 1000000 then .ok (.tup (as ++ bs)) h else .stk := rfl
theorem gain_ev (t : Int × Int) : ∀ n : Nat, ∀ ps, tdep ps + 1 ≤ n → gOks ps → okPs ps → ps.length ≤ 1000 → ∀ h, m_gained_pieces n [.tup (encs ps), gD t] h = .ok (.tup (encs (gps t ps))) h
  | 0 => fun ps hp => by omega
  | n + 1 => fun ps hp ho ok hl h => by
    obtain ⟨σ', e, x, y, z, e2⟩ := loop_pcs (tg := tgName 3) (h := h) (body := l_gained_pieces_1 (m_gained_pieces n)) (fun done σ => ∃ x y z, σ = [some (.d (.tup (encs ps))), some (.d (gD t)), some (.own (encs (gps t done))), x, y, z]) (all := ps)
      (fun done p rest ea σ ⟨x, y, z, eσ⟩ => by
        have hm : p ∈ ps := by rw [ea]; simp
        have hlen : done.length < 1000000 := by rw [ea] at hl; simp at hl; omega
        have ho' := gOks_mem ho hm
        have ok' := okPs_mem ok hm
        have dd := tdep_mem hm
        have few : (encs (gps t done)).length < 1000000 := by rw [encs_length, gps_length]; exact hlen
        subst eσ
        have key : ∃ x' y' z', l_gained_pieces_1 (m_gained_pieces n) [some (.d (.tup (encs ps))), some (.d (gD t)), some (.own (encs (gps t done))), some (.d (enc p)), y, z] h =
            .ok .nx [some (.d (.tup (encs ps))), some (.d (gD t)), some (.own (encs (gps t done) ++ [enc (gp t p)])), x', y', z'] h := by
          cases p with
          | sil n => simp [l_gained_pieces_1, enc, few, gp]
          | smp xs g =>
            have : g.length ≤ 1000 := ho'
            simp [l_gained_pieces_1, enc, few, gp, gTuple, add_gain this, add_tup_if]
          | part nm a b g =>
            have : g.length ≤ 1000 := ho'
            simp [l_gained_pieces_1, enc, few, gp, gTuple, add_gain this, add_tup_if]
          | rep k qs =>
            obtain ⟨o1, o2, o3, o4, _⟩ := ok'
            have := gain_ev t n qs (by have : tdep qs + 1 ≤ tdep ps := dd; omega) ho' o4 o3 h
            simp [l_gained_pieces_1, enc, few, gp, this]
        obtain ⟨x', y', z', ek⟩ := key
        exact ⟨_, _, rfl, ek, x', y', z', by rw [gps_map, gps_map, List.map_append, encs_append]; rfl⟩) _ ⟨none, none, none, rfl⟩
    subst e2
    simp [m_gained_pieces, b_gained_pieces, gps, encs] at e ⊢
    simp [e, gTuple]
theorem gained_ev {ps : List Pc} (F : Good ps) (hg : gOks ps) {x y : Int} (h1 : -1000 ≤ x) (h2 : x ≤ 1000) (h3 : 1 ≤ y) (h4 : y ≤ 1000) (h : MH) : m_Clip_gained [clipD ps, .int x, .int y] h = .ok (clipD (gps (x, y) ps)) h := by
  have g := gain_ev (x, y) 20 ps (by have := F.dep; omega) hg F.ok F.sh h
  have mk := make_ev (gps_good (x, y) F).toFit h
  simp [m_Clip_gained, b_Clip_gained, clipD, tupP, gD, h1, h2, h3, h4] at g mk ⊢
  simp [g, mk]
end Kx

set_option Elab.async false
set_option linter.all false
set_option maxRecDepth 100000
set_option maxHeartbeats 4000000
/-! Clips5: names. -/
namespace Kx
open PySem PySem.Spec PyProof.Rows L2 Mi

def toK (l : List Str) : List (Key × D) := l.map fun s => (.inr s, .bl true)
def addN (l : List Str) (s : Str) : List Str := if s ∈ l then l else l ++ [s]
theorem put_toK (l : List Str) (s : Str) : putD (toK l) (.inr s) (.bl true) = toK (addN l s) := by
  unfold putD addN
  have e : ((toK l).any fun kd => decide (kd.1 = (Sum.inr s : Key))) = decide (s ∈ l) := by
    rw [Bool.eq_iff_iff]
    simp [toK]
  rw [e]
  by_cases c : s ∈ l
  · rw [if_pos (decide_eq_true c), if_pos c]
    unfold toK
    rw [List.map_map]
    apply List.map_congr_left
    intro a ha
    simp only [Function.comp]
    split <;> rfl
  · rw [if_neg (by simpa using c), if_neg c]
    simp [toK]
theorem upd_toK : ∀ (m l : List Str), updD (toK l) (toK m) = toK (m.foldl addN l)
  | [], l => rfl
  | s :: m, l => by
    show updD (putD (toK l) (.inr s) (.bl true)) (toK m) = _
    rw [put_toK]
    exact upd_toK m _
mutual
def nmP (l : List Str) : Pc → List Str
  | .part nm _ _ _ => addN l nm
  | .rep _ ps => (nmPs [] ps).foldl addN l
  | _ => l
def nmPs (l : List Str) : List Pc → List Str
  | [] => l
  | p :: ps => nmPs (nmP l p) ps
end
theorem nmPs_append : ∀ (ps qs : List Pc) (l : List Str), nmPs l (ps ++ qs) = nmPs (nmPs l ps) qs
  | [], _, _ => rfl
  | p :: ps, qs, l => nmPs_append ps qs _
mutual
def occ (s : Str) : Pc → Prop
  | .part nm _ _ _ => s = nm
  | .rep _ ps => occs s ps
  | _ => False
def occs (s : Str) : List Pc → Prop
  | [] => False
  | p :: ps => occ s p ∨ occs s ps
end
theorem mem_addN {l : List Str} {s x : Str} : x ∈ addN l s ↔ x ∈ l ∨ x = s := by
  unfold addN
  by_cases c : s ∈ l
  · rw [if_pos c]
    constructor
    · exact .inl
    · rintro (h | rfl) <;> assumption
  · rw [if_neg c]; simp
theorem nd_addN {l : List Str} {s : Str} (h : l.Nodup) : (addN l s).Nodup := by
  unfold addN
  by_cases c : s ∈ l
  · rw [if_pos c]; exact h
  · rw [if_neg c]
    rw [List.nodup_append]
    exact ⟨h, by simp, fun a ha b hb => by simp at hb; subst hb; exact fun z => c (z ▸ ha)⟩
theorem mem_foldN : ∀ {m l : List Str} {x : Str}, x ∈ m.foldl addN l ↔ x ∈ l ∨ x ∈ m
  | [], l, x => by simp
  | s :: m, l, x => by
    rw [List.foldl_cons, mem_foldN, mem_addN, List.mem_cons, or_assoc]
theorem nd_foldN : ∀ {m l : List Str}, l.Nodup → (m.foldl addN l).Nodup
  | [], _, h => h
  | s :: m, l, h => nd_foldN (m := m) (nd_addN h)
mutual
theorem mem_nmP (x : Str) : ∀ (p : Pc) (l : List Str), x ∈ nmP l p ↔ x ∈ l ∨ occ x p
  | .sil n, l => by simp [nmP, occ]
  | .smp xs g, l => by simp [nmP, occ]
  | .part nm a b g, l => by simp [nmP, occ, mem_addN]
  | .rep k ps, l => by
    have := mem_nmPs x ps []
    simp [nmP, occ, mem_foldN, this]
theorem mem_nmPs (x : Str) : ∀ (ps : List Pc) (l : List Str), x ∈ nmPs l ps ↔ x ∈ l ∨ occs x ps
  | [], l => by simp [nmPs, occs]
  | p :: ps, l => by
    have h1 := mem_nmPs x ps (nmP l p)
    have h2 := mem_nmP x p l
    simp [nmPs, occs, h1, h2, or_assoc]
end
theorem nd_nmP : ∀ (p : Pc) (l : List Str), l.Nodup → (nmP l p).Nodup
  | .sil n, l, h => h
  | .smp xs g, l, h => h
  | .part nm a b g, l, h => nd_addN h
  | .rep k ps, l, h => nd_foldN h
theorem nd_nmPs : ∀ (ps : List Pc) (l : List Str), l.Nodup → (nmPs l ps).Nodup
  | [], l, h => h
  | p :: ps, l, h => nd_nmPs ps _ (nd_nmP p l h)
theorem toK_length (l : List Str) : (toK l).length = l.length := by simp [toK]
theorem foldN_length : ∀ (m l : List Str), (m.foldl addN l).length ≤ l.length + m.length
  | [], l => by simp
  | s :: m, l => by
    have h1 := foldN_length m (addN l s)
    have h2 : (addN l s).length ≤ l.length + 1 := by unfold addN; split <;> simp
    simp only [List.foldl_cons, List.length_cons]
    omega
mutual
theorem nmP_length : ∀ (p : Pc) (l : List Str), ((nmP l p).length : Int) ≤ l.length + pcnt p
  | .sil n, l => by simp [nmP, pcnt]; omega
  | .smp xs g, l => by simp [nmP, pcnt]; omega
  | .part nm a b g, l => by
    have h2 : (addN l nm).length ≤ l.length + 1 := by unfold addN; split <;> simp
    simp only [nmP, pcnt]
    omega
  | .rep k ps, l => by
    have h1 := nmPs_length ps []
    have h2 := foldN_length (nmPs [] ps) l
    simp only [nmP, pcnt, List.length_nil] at *
    omega
theorem nmPs_length : ∀ (ps : List Pc) (l : List Str), ((nmPs l ps).length : Int) ≤ l.length + tcnt ps
  | [], l => by simp [nmPs, tcnt]
  | p :: ps, l => by
    have h1 := nmPs_length ps (nmP l p)
    have h2 := nmP_length p l
    simp only [nmPs, tcnt]
    omega
end
theorem tcnt_append : ∀ ps qs : List Pc, tcnt (ps ++ qs) = tcnt ps + tcnt qs
  | [], qs => by simp [tcnt]
  | p :: ps, qs => by
    show pcnt p + tcnt (ps ++ qs) = pcnt p + tcnt ps + tcnt qs
    rw [tcnt_append ps qs]
    omega
theorem tlen_append : ∀ ps qs : List Pc, tlen (ps ++ qs) = tlen ps + tlen qs
  | [], qs => by simp [tlen]
  | p :: ps, qs => by
    show plen p + tlen (ps ++ qs) = plen p + tlen ps + tlen qs
    rw [tlen_append ps qs]
    omega
theorem names_ev : ∀ n : Nat, ∀ ps, tdep ps + 1 ≤ n → okPs ps → tcnt ps ≤ 1000 → ∀ h, m_names_in n [.tup (encs ps)] h = .ok (.dic (toK (nmPs [] ps))) h
  | 0 => fun ps hp => by omega
  | n + 1 => fun ps hp ok hl h => by
    obtain ⟨σ', e, x, e2⟩ := loop_pcs (tg := tgName 2) (h := h) (body := l_names_in_1 (m_names_in n)) (fun done σ => ∃ x, σ = [some (.d (.tup (encs ps))), some (.ownD (toK (nmPs [] done))), x]) (all := ps)
      (fun done p rest ea σ ⟨x, eσ⟩ => by
        have hm : p ∈ ps := by rw [ea]; simp
        have ok' := okPs_mem ok hm
        have dd := tdep_mem hm
        have c1 : tcnt ps = tcnt done + (pcnt p + tcnt rest) := by rw [ea, tcnt_append]; rfl
        have c2 := tcnt_pos rest
        have c3 := pcnt_pos p
        have c4 := nmPs_length done []
        have few : (toK (nmPs [] done)).length < 1000000 := by rw [toK_length]; simp at c4; omega
        have step : nmPs [] (done ++ [p]) = nmP (nmPs [] done) p := nmPs_append done [p] []
        subst eσ
        rw [step]
        refine ⟨[some (.d (.tup (encs ps))), some (.ownD (toK (nmPs [] done))), some (.d (enc p))], [some (.d (.tup (encs ps))), some (.ownD (toK (nmP (nmPs [] done) p))), some (.d (enc p))], rfl, ?_, _, rfl⟩
        cases p with
        | sil n => simp [l_names_in_1, enc, nmP]
        | smp xs g => simp [l_names_in_1, enc, nmP]
        | part nm a b g => simp [l_names_in_1, enc, nmP, few, keyD, put_toK]
        | rep k qs =>
          obtain ⟨o1, o2, o3, o4, _⟩ := ok'
          have c5 : pcnt (.rep k qs) = 1 + tcnt qs := rfl
          have c6 := nmPs_length qs []
          have ih := names_ev n qs (by have : tdep qs + 1 ≤ tdep ps := dd; omega) o4 (by have := tcnt_pos done; omega) h
          have few2 : (toK (nmPs [] done)).length + (toK (nmPs [] qs)).length ≤ 1000000 := by
            have := tcnt_pos done
            rw [toK_length, toK_length]; simp at c4 c6; omega
          simp [l_names_in_1, enc, nmP, ih, few2, upd_toK]) _ ⟨none, rfl⟩
    subst e2
    simp [m_names_in, b_names_in, nmPs, toK] at e ⊢
    simp [e]
theorem strs_map : ∀ ss : List Str, strsD (ss.map D.str) = some ss
  | [] => rfl
  | s :: ss => by
    show (strsD (ss.map D.str)).map _ = _
    rw [strs_map ss]
    rfl
theorem sorted_strs {ss : List Str} (hl : ss.length < 64) (h : MH) : gSorted h [.lst (ss.map D.str)] = .ok (.lst ((sortS ss).map D.str)) h := by
  show (match strsD (ss.map D.str) with | some ss => if ss.length < 64 then R.ok (D.lst ((sortS ss).map .str)) h else .stk | none => .stk) = _
  rw [strs_map]
  exact if_pos hl
theorem list_keys (l : List Str) : ((toK l).map fun kd => keyOfD kd.1) = l.map D.str := by
  unfold toK
  rw [List.map_map]
  rfl
def nms (ps : List Pc) : List Str := sortS (nmPs [] ps)
theorem clip_names {ps : List Pc} (F : Good ps) (hl : (nmPs [] ps).length < 64) (h : MH) : m_Clip_names [clipD ps] h = .ok (.lst ((nms ps).map D.str)) h := by
  have e := names_ev 20 ps (by have := F.dep; omega) F.ok (by have := F.few; omega) h
  have e2 : gList h [.dic (toK (nmPs [] ps))] = .ok (.lst ((nmPs [] ps).map D.str)) h := by
    show R.ok (D.lst ((toK (nmPs [] ps)).map fun kd => keyOfD kd.1)) h = _
    rw [list_keys]
  simp [m_Clip_names, b_Clip_names, clipD, tupP, e, e2, sorted_strs hl, nms]
/-- the same names in order -/
theorem sortS_congr {l m : List Str} (hl : l.Nodup) (hm : m.Nodup) (h : ∀ x, x ∈ l ↔ x ∈ m) : sortS l = sortS m := by
  have p : l.Perm m := (List.perm_ext_iff_of_nodup hl hm).mpr h
  exact List.Perm.eq_of_pairwise (fun a b _ _ => leS_anti) (sortS_pw l) (sortS_pw m) (((sortS_perm l).trans p).trans (sortS_perm m).symm)
theorem nms_congr {ps qs : List Pc} (h : ∀ x, occs x ps ↔ occs x qs) : nms ps = nms qs :=
  sortS_congr (nd_nmPs ps [] .nil) (nd_nmPs qs [] .nil) fun x => by rw [mem_nmPs, mem_nmPs, h]
end Kx

set_option Elab.async false
set_option linter.all false
set_option maxRecDepth 100000
set_option maxHeartbeats 4000000
/-! Clips6: the algebra of sums and copies. -/
namespace Kx
open PySem PySem.Spec PyProof.Rows L2 Mi

theorem bp_nl (qs : List Pc) : bp [] qs = qs := rfl
theorem bp_nr (ps : List Pc) : bp ps [] = ps := by
  unfold bp
  split
  · rename_i h; cases h
  · simp
theorem bp_cc (ps : List Pc) (p q : Pc) (qs : List Pc) : bp (ps ++ [p]) (q :: qs) = match mrg p q with
    | some r => ps ++ r :: qs
    | none => ps ++ [p] ++ q :: qs := by
  have gl : (ps ++ [p]).getLast? = some p := by rw [List.getLast?_append]; simp
  have dl : (ps ++ [p]).dropLast = ps := by simp
  unfold bp
  rw [gl]
  simp only [dl]
  all_goals (cases mrg p q <;> rfl)
theorem mrg_l {p q r u v : Pc} (h1 : mrg p q = some u) (h2 : mrg q r = some v) : mrg u r = mrg p v := by
  cases p <;> cases q <;> simp only [mrg] at h1 <;> first | cases h1 | skip
  · cases r <;> simp only [mrg] at h2 <;> first | cases h2 | skip
    simp only [mrg, Int.add_assoc]
  · rename_i nm a b g nm' a' b' g'
    by_cases c : nm = nm' ∧ b = a' ∧ g = g'
    · rw [if_pos c] at h1
      cases h1
      obtain ⟨rfl, rfl, rfl⟩ := c
      cases r <;> simp only [mrg] at h2 <;> first | cases h2 | skip
      rename_i nm2 a2 b2 g2
      by_cases c2 : nm = nm2 ∧ b' = a2 ∧ g = g2
      · rw [if_pos c2] at h2
        cases h2
        simp [mrg, c2]
      · rw [if_neg c2] at h2; cases h2
    · rw [if_neg c] at h1; cases h1
theorem mrg_n {p q r u : Pc} (h1 : mrg p q = some u) (h2 : mrg q r = none) : mrg u r = none := by
  cases p <;> cases q <;> simp only [mrg] at h1 <;> first | cases h1 | skip
  · cases r <;> simp only [mrg] at h2 <;> first | rfl | cases h2
  · rename_i nm a b g nm' a' b' g'
    by_cases c : nm = nm' ∧ b = a' ∧ g = g'
    · rw [if_pos c] at h1
      cases h1
      obtain ⟨rfl, rfl, rfl⟩ := c
      cases r <;> simp only [mrg] at h2 ⊢
      rename_i nm2 a2 b2 g2
      by_cases c2 : nm = nm2 ∧ b' = a2 ∧ g = g2
      · rw [if_pos c2] at h2; cases h2
      · rw [if_neg c2]
    · rw [if_neg c] at h1; cases h1
theorem mrg_m {p q r v : Pc} (h1 : mrg p q = none) (h2 : mrg q r = some v) : mrg p v = none := by
  cases q <;> cases r <;> simp only [mrg] at h2 <;> first | cases h2 | skip
  · cases p <;> simp only [mrg] at h1 ⊢ <;> first | cases h1 | rfl
  · rename_i nm' a' b' g' nm2 a2 b2 g2
    by_cases c : nm' = nm2 ∧ b' = a2 ∧ g' = g2
    · rw [if_pos c] at h2
      cases h2
      cases p <;> simp only [mrg] at h1 ⊢
      rename_i nm a b g
      by_cases c2 : nm = nm' ∧ b = a' ∧ g = g'
      · rw [if_pos c2] at h1; cases h1
      · rw [if_neg c2]
    · rw [if_neg c] at h2; cases h2
theorem bp_assoc (ps qs rs : List Pc) : bp (bp ps qs) rs = bp ps (bp qs rs) := by
  rcases List.eq_nil_or_concat ps with e | ⟨ps', p, e⟩
  · subst e; rfl
  rw [List.concat_eq_append] at e
  subst e
  cases rs with
  | nil => rw [bp_nr, bp_nr]
  | cons r rs' =>
    rcases List.eq_nil_or_concat qs with e | ⟨qs', q2, e⟩
    · subst e
      rw [bp_nr, bp_nl]
    rw [List.concat_eq_append] at e
    subst e
    cases qs' with
    | nil =>
      rw [List.nil_append, bp_cc]
      have hb : bp [q2] (r :: rs') = match mrg q2 r with | some v => [] ++ v :: rs' | none => [] ++ [q2] ++ r :: rs' := bp_cc [] q2 r rs'
      rw [hb]
      cases h1 : mrg p q2 with
      | some u =>
        cases h2 : mrg q2 r with
        | some v =>
          simp only [List.nil_append]
          rw [bp_cc, bp_cc, mrg_l h1 h2]
          cases h3 : mrg p v with
          | some w => rfl
          | none =>
            -- both merge
            exfalso
            have := mrg_l h1 h2
            rw [h3] at this
            cases p <;> cases q2 <;> simp only [mrg] at h1 <;> first | cases h1 | skip
            · cases r <;> simp only [mrg] at h2 <;> first | cases h2 | skip
              simp [mrg] at h3
            · rename_i nm a b g nm' a' b' g'
              by_cases c : nm = nm' ∧ b = a' ∧ g = g'
              · obtain ⟨rfl, rfl, rfl⟩ := c
                cases r <;> simp only [mrg] at h2 <;> first | cases h2 | skip
                rename_i nm2 a2 b2 g2
                by_cases c2 : nm = nm2 ∧ b' = a2 ∧ g = g2
                · rw [if_pos c2] at h2
                  cases h2
                  simp [mrg] at h3
                · rw [if_neg c2] at h2; cases h2
              · rw [if_neg c] at h1; cases h1
        | none =>
          simp only [List.nil_append, List.singleton_append]
          rw [bp_cc, bp_cc, mrg_n h1 h2, h1]
          simp
      | none =>
        cases h2 : mrg q2 r with
        | some v =>
          simp only [List.nil_append]
          rw [bp_cc, bp_cc, h2, mrg_m h1 h2]
        | none =>
          simp only [List.nil_append, List.singleton_append]
          rw [bp_cc, bp_cc, h2, h1]
          simp
    | cons q qs'' =>
      have e1 : q :: qs'' ++ [q2] = q :: (qs'' ++ [q2]) := rfl
      rw [e1, bp_cc]
      have e2 : bp (q :: (qs'' ++ [q2])) (r :: rs') = match mrg q2 r with | some v => (q :: qs'') ++ v :: rs' | none => (q :: qs'') ++ [q2] ++ r :: rs' := bp_cc (q :: qs'') q2 r rs'
      rw [e2]
      cases h1 : mrg p q with
      | some u =>
        have e3 : ps' ++ u :: (qs'' ++ [q2]) = (ps' ++ u :: qs'') ++ [q2] := by simp
        simp only
        rw [e3, bp_cc]
        cases h2 : mrg q2 r with
        | some v => simp only [List.cons_append]; rw [bp_cc, h1]; simp
        | none => simp only [List.cons_append]; rw [bp_cc, h1]; simp
      | none =>
        have e3 : ps' ++ [p] ++ q :: (qs'' ++ [q2]) = (ps' ++ [p] ++ q :: qs'') ++ [q2] := by simp
        simp only
        rw [e3, bp_cc]
        cases h2 : mrg q2 r with
        | some v => simp only [List.cons_append]; rw [bp_cc, h1]; simp
        | none => simp only [List.cons_append]; rw [bp_cc, h1]; simp
/-! ### what stays true of sums -/
theorem mrg_len {p q r : Pc} (h : mrg p q = some r) : plen r = plen p + plen q := by
  cases p <;> cases q <;> simp only [mrg] at h <;> first | cases h | skip
  · rfl
  · rename_i nm a b g nm' a' b' g'
    by_cases c : nm = nm' ∧ b = a' ∧ g = g'
    · rw [if_pos c] at h
      cases h
      obtain ⟨rfl, rfl, rfl⟩ := c
      show b' - a = (b - a) + (b' - b)
      omega
    · rw [if_neg c] at h; cases h
theorem mrg_cnt {p q r : Pc} (h : mrg p q = some r) : pcnt r = 1 ∧ pdep r = 0 ∧ (okP p → okP q → okP r) ∧ (nmOk p → nmOk r) ∧ (gOk p → gOk r) ∧ (∀ x, occ x r ↔ occ x p ∨ occ x q) := by
  cases p <;> cases q <;> simp only [mrg] at h <;> first | cases h | skip
  · rename_i m n
    refine ⟨rfl, rfl, fun h1 h2 => ?_, fun h => h, fun h => h, fun x => by simp [occ]⟩
    have h1 : 1 ≤ m := h1
    have h2 : 1 ≤ n := h2
    show 1 ≤ m + n
    omega
  · rename_i nm a b g nm' a' b' g'
    by_cases c : nm = nm' ∧ b = a' ∧ g = g'
    · rw [if_pos c] at h
      cases h
      obtain ⟨rfl, rfl, rfl⟩ := c
      refine ⟨rfl, rfl, fun h1 h2 => ?_, fun h => h, fun h => h, fun x => by simp [occ]⟩
      have h1 : a < b := h1
      have h2 : b < b' := h2
      show a < b'
      omega
    · rw [if_neg c] at h; cases h
theorem tdep_append : ∀ ps qs : List Pc, tdep (ps ++ qs) = max (tdep ps) (tdep qs)
  | [], qs => by simp [tdep]
  | p :: ps, qs => by
    show max (pdep p) (tdep (ps ++ qs)) = max (max (pdep p) (tdep ps)) (tdep qs)
    rw [tdep_append ps qs]
    omega
theorem okPs_append : ∀ ps qs : List Pc, okPs (ps ++ qs) ↔ okPs ps ∧ okPs qs
  | [], qs => by simp [okPs]
  | p :: ps, qs => by
    show okP p ∧ okPs (ps ++ qs) ↔ (okP p ∧ okPs ps) ∧ okPs qs
    rw [okPs_append ps qs, and_assoc]
theorem nmOks_append : ∀ ps qs : List Pc, nmOks (ps ++ qs) ↔ nmOks ps ∧ nmOks qs
  | [], qs => by simp [nmOks]
  | p :: ps, qs => by
    show nmOk p ∧ nmOks (ps ++ qs) ↔ (nmOk p ∧ nmOks ps) ∧ nmOks qs
    rw [nmOks_append ps qs, and_assoc]
theorem gOks_append : ∀ ps qs : List Pc, gOks (ps ++ qs) ↔ gOks ps ∧ gOks qs
  | [], qs => by simp [gOks]
  | p :: ps, qs => by
    show gOk p ∧ gOks (ps ++ qs) ↔ (gOk p ∧ gOks ps) ∧ gOks qs
    rw [gOks_append ps qs, and_assoc]
theorem occs_append (x : Str) : ∀ ps qs : List Pc, occs x (ps ++ qs) ↔ occs x ps ∨ occs x qs
  | [], qs => by simp [occs]
  | p :: ps, qs => by
    show occ x p ∨ occs x (ps ++ qs) ↔ (occ x p ∨ occs x ps) ∨ occs x qs
    rw [occs_append x ps qs, or_assoc]
/-- what a sum is, by its ends -/
theorem bp_ind {ps qs : List Pc} (Q : List Pc → List Pc → List Pc → Prop) (h1 : ∀ qs, Q [] qs qs) (h2 : ∀ ps, Q ps [] ps) (h3 : ∀ ps p q qs r, mrg p q = some r → Q (ps ++ [p]) (q :: qs) (ps ++ r :: qs)) (h4 : ∀ ps p q qs, mrg p q = none → Q (ps ++ [p]) (q :: qs) (ps ++ [p] ++ q :: qs)) : Q ps qs (bp ps qs) := by
  rcases List.eq_nil_or_concat ps with e | ⟨ps', p, e⟩
  · subst e; exact h1 qs
  rw [List.concat_eq_append] at e
  subst e
  cases qs with
  | nil => rw [bp_nr]; exact h2 _
  | cons q qs =>
    rw [bp_cc]
    cases h : mrg p q with
    | some r => exact h3 ps' p q qs r h
    | none => exact h4 ps' p q qs h
theorem bp_len (ps qs : List Pc) : tlen (bp ps qs) = tlen ps + tlen qs := by
  apply bp_ind (fun ps qs rs => tlen rs = tlen ps + tlen qs)
  · intro qs; simp [tlen]
  · intro ps; simp [tlen]
  · intro ps p q qs r h
    rw [tlen_append, tlen_append]
    show tlen ps + (plen r + tlen qs) = tlen ps + (plen p + 0) + (plen q + tlen qs)
    rw [mrg_len h]; omega
  · intro ps p q qs h
    rw [tlen_append]
theorem bp_cnt (ps qs : List Pc) : tcnt (bp ps qs) ≤ tcnt ps + tcnt qs := by
  apply bp_ind (fun ps qs rs => tcnt rs ≤ tcnt ps + tcnt qs)
  · intro qs; simp [tcnt]
  · intro ps; simp [tcnt]
  · intro ps p q qs r h
    rw [tcnt_append, tcnt_append]
    show tcnt ps + (pcnt r + tcnt qs) ≤ tcnt ps + (pcnt p + 0) + (pcnt q + tcnt qs)
    have := (mrg_cnt h).1
    have := pcnt_pos p
    have := pcnt_pos q
    omega
  · intro ps p q qs h
    rw [tcnt_append]
    exact Int.le_refl _
theorem bp_dep (ps qs : List Pc) : tdep (bp ps qs) ≤ max (tdep ps) (tdep qs) := by
  apply bp_ind (fun ps qs rs => tdep rs ≤ max (tdep ps) (tdep qs))
  · intro qs; simp [tdep]
  · intro ps; simp [tdep]
  · intro ps p q qs r h
    rw [tdep_append, tdep_append]
    show max (tdep ps) (max (pdep r) (tdep qs)) ≤ max (max (tdep ps) (max (pdep p) 0)) (max (pdep q) (tdep qs))
    have := (mrg_cnt h).2.1
    omega
  · intro ps p q qs h
    rw [tdep_append]
    exact Nat.le_refl _
theorem bp_ok (ps qs : List Pc) : okPs ps → okPs qs → okPs (bp ps qs) := by
  apply bp_ind (fun ps qs rs => okPs ps → okPs qs → okPs rs)
  · intro qs _ h; exact h
  · intro ps h _; exact h
  · intro ps p q qs r h h1 h2
    rw [okPs_append] at h1 ⊢
    exact ⟨h1.1, (mrg_cnt h).2.2.1 h1.2.1 h2.1, h2.2⟩
  · intro ps p q qs h h1 h2
    rw [okPs_append]
    exact ⟨h1, h2⟩
theorem bp_nm (ps qs : List Pc) : nmOks ps → nmOks qs → nmOks (bp ps qs) := by
  apply bp_ind (fun ps qs rs => nmOks ps → nmOks qs → nmOks rs)
  · intro qs _ h; exact h
  · intro ps h _; exact h
  · intro ps p q qs r h h1 h2
    rw [nmOks_append] at h1 ⊢
    exact ⟨h1.1, (mrg_cnt h).2.2.2.1 h1.2.1, h2.2⟩
  · intro ps p q qs h h1 h2
    rw [nmOks_append]
    exact ⟨h1, h2⟩
theorem bp_g (ps qs : List Pc) : gOks ps → gOks qs → gOks (bp ps qs) := by
  apply bp_ind (fun ps qs rs => gOks ps → gOks qs → gOks rs)
  · intro qs _ h; exact h
  · intro ps h _; exact h
  · intro ps p q qs r h h1 h2
    rw [gOks_append] at h1 ⊢
    exact ⟨h1.1, (mrg_cnt h).2.2.2.2.1 h1.2.1, h2.2⟩
  · intro ps p q qs h h1 h2
    rw [gOks_append]
    exact ⟨h1, h2⟩
theorem bp_occ (x : Str) (ps qs : List Pc) : occs x (bp ps qs) ↔ occs x ps ∨ occs x qs := by
  apply bp_ind (fun ps qs rs => occs x rs ↔ occs x ps ∨ occs x qs)
  · intro qs; simp [occs]
  · intro ps; simp [occs]
  · intro ps p q qs r h
    rw [occs_append, occs_append]
    have := (mrg_cnt h).2.2.2.2.2 x
    simp only [occs, this, or_false]
    constructor
    · rintro (h | (h | h) | h) <;> simp [h]
    · rintro ((h | h) | h | h) <;> simp [h]
  · intro ps p q qs h
    rw [occs_append]
/-! ### copies -/
theorem rpt_occ (x : Str) {ps : List Pc} {k : Int} (hk : 0 < k) : occs x (rpt ps k) ↔ occs x ps := by
  unfold rpt
  by_cases c : ps = []
  · rw [if_pos (.inr c), c]
  · rw [if_neg (by simp [c]; omega)]
    by_cases c2 : k = 1
    · rw [if_pos c2]
    · rw [if_neg c2]
      split <;> simp [occs, occ]
theorem rpt_len {ps : List Pc} {k : Int} : tlen (rpt ps k) = tlen ps * k := by
  unfold rpt
  by_cases c0 : k = 0
  · rw [if_pos (.inl c0), c0]; simp [tlen]
  · by_cases c : ps = []
    · rw [if_pos (.inr c), c]; simp [tlen]
    · rw [if_neg (by simp [c, c0])]
      by_cases c2 : k = 1
      · rw [if_pos c2, c2]; simp
      · rw [if_neg c2]
        split
        · simp [tlen, plen]
        · simp only [tlen, plen, Int.add_zero]
          rw [Int.mul_right_comm]
        · simp only [tlen, plen, Int.add_zero]
          rw [Int.mul_comm]
def rp1 (ps : List Pc) (k : Int) : List Pc := match ps with
  | [.sil n] => [.sil (n * k)]
  | [.rep c qs] => [.rep (c * k) qs]
  | _ => [.rep k ps]
theorem rpt_1 {ps : List Pc} {k : Int} (c : ps ≠ []) (h0 : k ≠ 0) (h1 : k ≠ 1) : rpt ps k = rp1 ps k := by
  unfold rpt rp1
  rw [if_neg (by simp [c, h0]), if_neg h1]
  all_goals
    (match ps with
    | [] => rfl
    | [.sil k] => rfl
    | [.rep c qs] => rfl
    | [.smp xs g] => rfl
    | [.part a b c d] => rfl
    | p :: q :: r => rfl)
theorem rp1_rp1 (ps : List Pc) (m n : Int) : rp1 (rp1 ps m) n = rp1 ps (m * n) := by
  match ps with
  | [] => simp [rp1, Int.mul_comm]
  | [.sil k] => simp [rp1, Int.mul_assoc]
  | [.rep c qs] => simp [rp1, Int.mul_assoc]
  | [.smp xs g] => simp [rp1]
  | [.part a b c d] => simp [rp1]
  | p :: q :: r => simp [rp1]
theorem rp1_ne (ps : List Pc) (m : Int) : rp1 ps m ≠ [] := by
  match ps with
  | [] => simp [rp1]
  | [.sil k] => simp [rp1]
  | [.rep c qs] => simp [rp1]
  | [.smp xs g] => simp [rp1]
  | [.part a b c d] => simp [rp1]
  | p :: q :: r => simp [rp1]
theorem rpt_rpt (ps : List Pc) {m n : Int} (hm : 0 ≤ m) (hn : 0 ≤ n) : rpt (rpt ps m) n = rpt ps (m * n) := by
  by_cases c : ps = []
  · subst c; simp [rpt]
  by_cases m0 : m = 0
  · subst m0; simp [rpt]
  by_cases n0 : n = 0
  · subst n0; simp [rpt]
  by_cases m1 : m = 1
  · subst m1
    have : rpt ps 1 = ps := by unfold rpt; rw [if_neg (by simp [c]), if_pos rfl]
    rw [this, Int.one_mul]
  by_cases n1 : n = 1
  · subst n1
    have : ∀ qs : List Pc, rpt qs 1 = qs := fun qs => by
      unfold rpt
      by_cases z : qs = []
      · rw [if_pos (.inr z), z]
      · rw [if_neg (by simp [z]), if_pos rfl]
    rw [this, Int.mul_one]
  have hm2 : 2 ≤ m := by omega
  have hn2 : 2 ≤ n := by omega
  have hmn : 4 ≤ m * n := by
    have := Int.mul_le_mul hm2 hn2 (by omega) (by omega)
    omega
  rw [rpt_1 c m0 m1, rpt_1 (rp1_ne ps m) n0 n1, rp1_rp1, rpt_1 c (by omega) (by omega)]
/-- what stays true of copies -/
theorem rpt_good {ps : List Pc} (F : Good ps) {k : Int} (h0 : 0 ≤ k) (h1 : k ≤ 10 ^ 60) (hd : tdep ps ≤ 7) (hc : tcnt ps ≤ 199) (hl : tlen ps * k ≤ 10 ^ 40) (hg : gOks ps) : Good (rpt ps k) ∧ tdep (rpt ps k) ≤ tdep ps + 1 ∧ tcnt (rpt ps k) ≤ tcnt ps + 1 ∧ gOks (rpt ps k) := by
  by_cases c : ps = []
  · subst c
    have : rpt [] k = [] := by simp [rpt]
    rw [this]
    exact ⟨F, by simp [tdep], by simp [tcnt], hg⟩
  by_cases k0 : k = 0
  · subst k0
    have : rpt ps 0 = [] := by simp [rpt]
    rw [this]
    exact ⟨⟨fit_nil, trivial⟩, by simp [tdep], by have := tcnt_pos ps; simp [tcnt]; omega, trivial⟩
  by_cases k1 : k = 1
  · subst k1
    have : rpt ps 1 = ps := by unfold rpt; rw [if_neg (by simp [c]), if_pos rfl]
    rw [this]
    exact ⟨F, by omega, by omega, hg⟩
  have hlen := F.len
  have hpos := (tlen_pos ps F.ok).2 c
  have lk := rpt_len (ps := ps) (k := k)
  rw [rpt_1 c k0 k1] at lk ⊢
  match ps, F, hpos with
  | [.sil n], F, hpos =>
    have hn : 1 ≤ n := F.ok.1
    have : 1 ≤ n * k := by
      have := Int.mul_le_mul hn (show 1 ≤ k by omega) (by omega) (by omega)
      omega
    exact ⟨⟨⟨⟨this, trivial⟩, by simp [rp1, tdep, pdep], by simp [rp1, tcnt, pcnt], by rw [lk]; exact hl⟩, trivial, trivial⟩, by simp [rp1, tdep, pdep], by simp [rp1, tcnt, pcnt], trivial, trivial⟩
  | [.rep c qs], F, hpos =>
    obtain ⟨⟨o1, o2, o3, o4, o5, o6⟩, _⟩ := F.ok
    have hq := (tlen_pos qs o4).2 o6
    have e1 : tlen [Pc.rep c qs] = c * tlen qs + 0 := rfl
    have cq : c ≤ c * tlen qs := by
      have := Int.mul_le_mul_of_nonneg_left hq (show 0 ≤ c by omega)
      omega
    have ck : 1 ≤ c * k := by
      have := Int.mul_le_mul o5 (show 1 ≤ k by omega) (by omega) (by omega)
      omega
    have ck2 : c * k ≤ 10 ^ 40 * 10 ^ 60 := Int.mul_le_mul (by omega) h1 h0 (by omega)
    have sm : small (c * k) := by unfold small; omega
    refine ⟨⟨⟨⟨⟨sm, o2, o3, o4, ck, o6⟩, trivial⟩, ?_, ?_, by rw [lk]; exact hl⟩, F.nm⟩, ?_, ?_, hg⟩
    · exact F.dep
    · exact F.few
    · show tdep [Pc.rep (c * k) qs] ≤ _
      simp [tdep, pdep]
    · show tcnt [Pc.rep (c * k) qs] ≤ _
      simp [tcnt, pcnt]
      omega
  | [.smp xs g], F, hpos =>
    refine ⟨⟨⟨⟨⟨by unfold small; omega, by unfold small; omega, by simp, F.ok, by omega, by simp⟩, trivial⟩, ?_, ?_, by rw [lk]; exact hl⟩, F.nm, trivial⟩, ?_, ?_, hg, trivial⟩ <;> simp [rp1, tdep, pdep, tcnt, pcnt]
  | [.part nm a b g], F, hpos =>
    refine ⟨⟨⟨⟨⟨by unfold small; omega, by unfold small; omega, by simp, F.ok, by omega, by simp⟩, trivial⟩, ?_, ?_, by rw [lk]; exact hl⟩, F.nm, trivial⟩, ?_, ?_, hg, trivial⟩ <;> simp [rp1, tdep, pdep, tcnt, pcnt]
  | p :: q :: r, F, hpos =>
    have e : rp1 (p :: q :: r) k = [.rep k (p :: q :: r)] := by simp [rp1]
    rw [e] at lk ⊢
    refine ⟨⟨⟨⟨⟨by unfold small; omega, by unfold small; omega, F.sh, F.ok, by omega, by simp⟩, trivial⟩, ?_, ?_, by rw [lk]; exact hl⟩, F.nm, trivial⟩, ?_, ?_, hg, trivial⟩
    · show max (tdep (p :: q :: r) + 1) 0 ≤ 8
      omega
    · show (1 + tcnt (p :: q :: r)) + 0 ≤ 200
      omega
    · show max (tdep (p :: q :: r) + 1) 0 ≤ _
      omega
    · show (1 + tcnt (p :: q :: r)) + 0 ≤ _
      omega
end Kx

set_option Elab.async false
set_option linter.all false
set_option maxRecDepth 100000
set_option maxHeartbeats 4000000
/-! Pool: numbers drawn from a pool. -/
namespace Kx
open PySem PySem.Spec PyProof.Rows L2 Mi

def plC (a b : Int) : Cell := .lst [.int a, .int b]
/-- a pool stands at n -/
def PoolAt (h : MH) (n : Nat) : Prop := ∃ a b, h[n]? = some (plC a b) ∧ 0 ≤ a ∧ 0 ≤ b ∧ b < 2147483647
/-- all else as it was -/
def PoolTo (h h' : MH) (n : Nat) : Prop := ∃ a b, h' = h.set n (plC a b) ∧ 0 ≤ a ∧ 0 ≤ b ∧ b < 2147483647
theorem PoolTo.at {h h' : MH} {n : Nat} (p : PoolTo h h' n) (q : PoolAt h n) : PoolAt h' n := by
  obtain ⟨a, b, rfl, ha, hb, hb'⟩ := p
  obtain ⟨c, d, e, _⟩ := q
  have hl : n < h.length := (List.getElem?_eq_some_iff.mp e).1
  exact ⟨a, b, by rw [List.getElem?_set_self hl], ha, hb, hb'⟩
theorem PoolTo.trans {h h1 h2 : MH} {n : Nat} (p : PoolTo h h1 n) (q : PoolTo h1 h2 n) : PoolTo h h2 n := by
  obtain ⟨a, b, rfl, _⟩ := p
  obtain ⟨c, d, rfl, hc, hd⟩ := q
  exact ⟨c, d, by rw [List.set_set], hc, hd⟩
theorem PoolTo.refl {h : MH} {n : Nat} (q : PoolAt h n) : PoolTo h h n := by
  obtain ⟨a, b, e, ha, hb⟩ := q
  refine ⟨a, b, ?_, ha, hb⟩
  apply List.ext_getElem?
  intro j
  by_cases hj : n = j
  · subst hj
    rw [List.getElem?_set_self (List.getElem?_eq_some_iff.mp e).1, e]
  · rw [List.getElem?_set_ne hj]
theorem ixr0 {h : MH} {n : Nat} {x : D} {xs : List D} (e : h[n]? = some (.lst (x :: xs))) : dIx h (.ref n) (.int 0) = .ok x h := by
  have q : atI (x :: xs) (0 : Int) = some x := atI_nat (j := 0) rfl
  show (match h[n]? with | some (.lst ds) => optR h (atI ds (0 : Int)) | some (.dic kds) => optR h ((keyD (.int 0)).bind (getK kds)) | _ => R.stk) = _
  rw [e]
  show optR h (atI (x :: xs) 0) = _
  rw [q]; rfl
theorem ixr1 {h : MH} {n : Nat} {x y : D} {xs : List D} (e : h[n]? = some (.lst (x :: y :: xs))) : dIx h (.ref n) (.int 1) = .ok y h := by
  have q : atI (x :: y :: xs) (1 : Int) = some y := atI_nat (j := 1) rfl
  show (match h[n]? with | some (.lst ds) => optR h (atI ds (1 : Int)) | some (.dic kds) => optR h ((keyD (.int 1)).bind (getK kds)) | _ => R.stk) = _
  rw [e]
  show optR h (atI (x :: y :: xs) 1) = _
  rw [q]; rfl
theorem take_ev {h : MH} {n : Nat} (P : PoolAt h n) {m : Int} (h0 : 0 < m) (h1 : m < 2 ^ 64) : ∃ v h', m__law_take [.ref n, .int m] h = .ok (.int v) h' ∧ 0 ≤ v ∧ v < m ∧ PoolTo h h' n := by
  obtain ⟨a, b, e, ha, hb, hb'⟩ := P
  have hl : n < h.length := (List.getElem?_eq_some_iff.mp e).1
  have e0 := ixr0 e
  have e1 := ixr1 e
  have dv : divOk m := ⟨h0, by omega⟩
  have x0 : ixN 2 0 = some 0 := rfl
  have x1 : ixN 2 1 = some 1 := rfl
  by_cases c : 0 < a
  · refine ⟨a % m, h.set n (plC (a / m) b), ?_, Int.emod_nonneg _ (by omega), Int.emod_lt_of_pos _ h0, a / m, b, rfl, Int.ediv_nonneg ha (by omega), hb, hb'⟩
    simp [m__law_take, b__law_take, e0, c, dMod_int h h0, dDiv_int h dv, e, plC, x0]
  · have g : (h.set n (plC a ((b * 48271 + 11) % 2147483647)))[n]? = some (plC a ((b * 48271 + 11) % 2147483647)) := List.getElem?_set_self hl
    have g1 := ixr1 g
    have b0 : 0 ≤ (b * 48271 + 11) % 2147483647 := Int.emod_nonneg _ (by decide)
    have b1 : (b * 48271 + 11) % 2147483647 < 2147483647 := Int.emod_lt_of_pos _ (by decide)
    generalize hb2 : (b * 48271 + 11) % 2147483647 = b2 at *
    have mo : mulOk b 48271 := .inl (.inr ⟨by decide, by decide⟩)
    have mo2 : mulOk b2 b2 := .inl (.inl ⟨by omega, by omega⟩)
    have dv64 : divOk 64 := ⟨by decide, by decide⟩
    refine ⟨b2 * b2 % 2147483629 / 64 % m, h.set n (plC a b2), ?_, Int.emod_nonneg _ (by omega), Int.emod_lt_of_pos _ h0, a, b2, rfl, ha, b0, b1⟩
    unfold plC at g1
    simp [m__law_take, b__law_take, e0, e1, c, dMul_int h mo, dMod_int h (show (0 : Int) < 2147483647 by decide), e, plC, x1, hb2, g1, dMul_int _ mo2, dMod_int _ (show (0 : Int) < 2147483629 by decide), dDiv_int _ dv64, dMod_int _ h0]
end Kx

set_option Elab.async false
set_option linter.all false
set_option maxRecDepth 100000
set_option maxHeartbeats 4000000
set_option exponentiation.threshold 20000
/-! Tree: the laws' drawn trees, and the clips made of them. -/
namespace Kx
open PySem PySem.Spec PyProof.Rows L2 Mi

inductive Tr where
  | sil (n : Int) | smp (xs : List Int) | part (nm : Str) (a b : Int) | sum (s t : Tr) | times (t : Tr) (k : Int) | gain (t : Tr) (x y : Int)
def encT : Tr → D
  | .sil n => .tup [.str "silence", .int n]
  | .smp xs => .tup [.str "samples", .lst (xs.map .int)]
  | .part nm a b => .tup [.str "part", .str nm, .int a, .int b]
  | .sum s t => .tup [.str "sum", encT s, encT t]
  | .times t k => .tup [.str "times", encT t, .int k]
  | .gain t x y => .tup [.str "gain", encT t, .int x, .int y]
def made : Tr → List Pc
  | .sil n => silP n
  | .smp xs => smpP xs
  | .part nm a b => prtP nm a b
  | .sum s t => bp (made s) (made t)
  | .times t k => rpt (made t) k
  | .gain t x y => gps (x, y) (made t)
/-- the trees that may be drawn -/
def TrOk (M : Int) : Nat → Tr → Prop
  | _, .sil n => 0 ≤ n ∧ n ≤ 8
  | _, .smp xs => xs.length ≤ 4 ∧ ∀ x ∈ xs, -9 ≤ x ∧ x ≤ 9
  | _, .part nm a b => (nm = "a" ∨ nm = "b") ∧ 0 ≤ a ∧ a ≤ b ∧ b ≤ 12
  | d + 1, .sum s t => TrOk M d s ∧ TrOk M d t
  | d + 1, .times t k => TrOk M d t ∧ 0 ≤ k ∧ k < M
  | d + 1, .gain t x y => TrOk M d t ∧ -4 ≤ x ∧ x ≤ 4 ∧ 1 ≤ y ∧ y ≤ 4
  | _, _ => False
mutual
def gmx : Pc → Nat
  | .smp _ g => g.length
  | .part _ _ _ g => g.length
  | .rep _ ps => gmxs ps
  | _ => 0
def gmxs : List Pc → Nat
  | [] => 0
  | p :: ps => max (gmx p) (gmxs ps)
end
mutual
theorem gOk_of : ∀ p : Pc, gmx p ≤ 1000 → gOk p
  | .sil n, _ => trivial
  | .smp xs g, h => h
  | .part nm a b g, h => h
  | .rep k ps, h => gOks_of ps h
theorem gOks_of : ∀ ps : List Pc, gmxs ps ≤ 1000 → gOks ps
  | [], _ => trivial
  | p :: ps, h => by
    have h : max (gmx p) (gmxs ps) ≤ 1000 := h
    exact ⟨gOk_of p (by omega), gOks_of ps (by omega)⟩
end
mutual
theorem gmx_gp (t : Int × Int) : ∀ p : Pc, gmx (gp t p) ≤ gmx p + 1
  | .sil n => by simp [gp, gmx]
  | .smp xs g => by simp [gp, gmx]
  | .part nm a b g => by simp [gp, gmx]
  | .rep k ps => gmxs_gps t ps
theorem gmxs_gps (t : Int × Int) : ∀ ps : List Pc, gmxs (gps t ps) ≤ gmxs ps + 1
  | [] => by simp [gps, gmxs]
  | p :: ps => by
    have h1 := gmx_gp t p
    have h2 := gmxs_gps t ps
    show max (gmx (gp t p)) (gmxs (gps t ps)) ≤ max (gmx p) (gmxs ps) + 1
    omega
end
theorem gmxs_append : ∀ ps qs : List Pc, gmxs (ps ++ qs) = max (gmxs ps) (gmxs qs)
  | [], qs => by simp [gmxs]
  | p :: ps, qs => by
    show max (gmx p) (gmxs (ps ++ qs)) = max (max (gmx p) (gmxs ps)) (gmxs qs)
    rw [gmxs_append ps qs]
    omega
theorem mrg_g {p q r : Pc} (h : mrg p q = some r) : gmx r ≤ gmx p := by
  cases p <;> cases q <;> simp only [mrg] at h <;> first | cases h | skip
  · exact Nat.le_refl _
  · rename_i nm a b g nm' a' b' g'
    by_cases c : nm = nm' ∧ b = a' ∧ g = g'
    · rw [if_pos c] at h
      cases h
      exact Nat.le_refl _
    · rw [if_neg c] at h; cases h
theorem gmxs_bp (ps qs : List Pc) : gmxs (bp ps qs) ≤ max (gmxs ps) (gmxs qs) := by
  apply bp_ind (fun ps qs rs => gmxs rs ≤ max (gmxs ps) (gmxs qs))
  · intro qs; simp [gmxs]
  · intro ps; simp [gmxs]
  · intro ps p q qs r h
    rw [gmxs_append, gmxs_append]
    show max (gmxs ps) (max (gmx r) (gmxs qs)) ≤ max (max (gmxs ps) (max (gmx p) 0)) (max (gmx q) (gmxs qs))
    have := mrg_g h
    omega
  · intro ps p q qs h
    rw [gmxs_append]
    exact Nat.le_refl _
theorem gmxs_rpt (ps : List Pc) (k : Int) : gmxs (rpt ps k) ≤ gmxs ps := by
  by_cases c : ps = []
  · subst c; simp [rpt, gmxs]
  by_cases k0 : k = 0
  · subst k0; simp [rpt, gmxs]
  by_cases k1 : k = 1
  · subst k1
    have : rpt ps 1 = ps := by unfold rpt; rw [if_neg (by simp [c]), if_pos rfl]
    rw [this]; exact Nat.le_refl _
  rw [rpt_1 c k0 k1]
  match ps with
  | [] => simp [rp1, gmxs, gmx]
  | [.sil k] => simp [rp1, gmxs, gmx]
  | [.rep c qs] => simp [rp1, gmxs, gmx]
  | [.smp xs g] => simp [rp1, gmxs, gmx]
  | [.part a b c d] => simp [rp1, gmxs, gmx]
  | p :: q :: r => simp [rp1, gmxs, gmx]
theorem occs_gps (x : Str) (t : Int × Int) : ∀ ps : List Pc, occs x (gps t ps) ↔ occs x ps := by
  have := @Pc.rec (fun p => occ x (gp t p) ↔ occ x p) (fun ps => occs x (gps t ps) ↔ occs x ps) (fun n => Iff.rfl) (fun xs g => Iff.rfl) (fun nm a b g => Iff.rfl) (fun k ps ih => ih) Iff.rfl (fun p ps h1 h2 => by
    show (occ x (gp t p) ∨ occs x (gps t ps)) ↔ (occ x p ∨ occs x ps)
    rw [h1, h2])
  intro ps
  induction ps with
  | nil => exact Iff.rfl
  | cons p ps ih =>
    show (occ x (gp t p) ∨ occs x (gps t ps)) ↔ (occ x p ∨ occs x ps)
    rw [this p, ih]
/-- what a made clip is like -/
structure MB (B : Int) (d : Nat) (ps : List Pc) : Prop where
  good : Good ps
  dep : tdep ps ≤ d
  cnt : tcnt ps ≤ 2 ^ d
  len : tlen ps ≤ B
  gm : gmxs ps ≤ d
  oc : ∀ x, occs x ps → x = "a" ∨ x = "b"
theorem ab_ok {x : Str} (h : x = "a" ∨ x = "b") : PyData.strOk x = true := by
  rcases h with rfl | rfl <;> decide +kernel
theorem pow2 {d : Nat} (hd : d ≤ 5) : (2 : Int) ^ d ≤ 32 ∧ (1 : Int) ≤ 2 ^ d := by
  match d, hd with
  | 0, _ => decide
  | 1, _ => decide
  | 2, _ => decide
  | 3, _ => decide
  | 4, _ => decide
  | 5, _ => decide
theorem mb_bp {B : Int} {d : Nat} {ps qs : List Pc} (hd : d ≤ 4) (hB : 2 * B ≤ 10 ^ 40) (hp : MB B d ps) (hq : MB B d qs) : MB (2 * B) (d + 1) (bp ps qs) := by
  have h1 := bp_len ps qs
  have h2 := bp_cnt ps qs
  have h3 := bp_dep ps qs
  have h4 := gmxs_bp ps qs
  have p2 := pow2 (d := d + 1) (by omega)
  have e2 : (2 : Int) ^ (d + 1) = 2 ^ d * 2 := Int.pow_succ ..
  obtain ⟨g1, g2, g3, g4, g5, g6⟩ := hp
  obtain ⟨k1, k2, k3, k4, k5, k6⟩ := hq
  exact ⟨⟨⟨bp_ok _ _ g1.ok k1.ok, by omega, by omega, by omega⟩, bp_nm _ _ g1.nm k1.nm⟩, by omega, by omega, by omega, by omega, fun x h => by
    rcases (bp_occ x ps qs).mp h with h | h
    · exact g6 x h
    · exact k6 x h⟩
theorem mb_up {B B' : Int} {d d' : Nat} {ps : List Pc} (h : MB B d ps) (hB : B ≤ B') (hd : d ≤ d') (hd' : d' ≤ 5) : MB B' d' ps :=
  ⟨h.good, by have := h.dep; omega, by
    have := h.cnt
    have : (2 : Int) ^ d ≤ 2 ^ d' := by
      have := Nat.pow_le_pow_right (show 0 < 2 by decide) hd
      exact_mod_cast this
    omega, by have := h.len; omega, by have := h.gm; omega, h.oc⟩
def lenB (M : Int) : Nat → Int
  | 0 => 12
  | d + 1 => M * lenB M d
theorem lenB_pos {M : Int} (hM : 2 ≤ M) : ∀ d, 12 ≤ lenB M d
  | 0 => by simp [lenB]
  | d + 1 => by
    have := lenB_pos hM d
    show 12 ≤ M * lenB M d
    have := Int.mul_le_mul (show 1 ≤ M by omega) this (by omega) (by omega)
    omega
theorem lenB_le {M : Int} (hM : 2 ≤ M) (hM' : M ≤ 10 ^ 9) : ∀ d, lenB M d ≤ 12 * (10 ^ 9) ^ d
  | 0 => by simp [lenB]
  | d + 1 => by
    have h1 := lenB_le hM hM' d
    have h2 := lenB_pos hM d
    show M * lenB M d ≤ _
    have := Int.mul_le_mul hM' h1 (by omega) (by omega)
    rw [Int.pow_succ]
    have e : (10 : Int) ^ 9 * (12 * (10 ^ 9) ^ d) = 12 * ((10 ^ 9) ^ d * 10 ^ 9) := by
      rw [Int.mul_comm, Int.mul_assoc]
    omega
theorem lenB_40 {M : Int} (hM : 2 ≤ M) (hM' : M ≤ 10 ^ 9) {d : Nat} (hd : d ≤ 4) : lenB M d ≤ 12 * 10 ^ 36 := by
  have h1 := lenB_le hM hM' d
  match d, hd with
  | 0, _ => exact Int.le_trans h1 (by decide)
  | 1, _ => exact Int.le_trans h1 (by decide)
  | 2, _ => exact Int.le_trans h1 (by decide)
  | 3, _ => exact Int.le_trans h1 (by decide)
  | 4, _ => exact Int.le_trans h1 (by decide)
theorem lenB_2 {M : Int} (hM : 2 ≤ M) (d : Nat) : 2 * lenB M d ≤ lenB M (d + 1) := by
  have := lenB_pos hM d
  show 2 * lenB M d ≤ M * lenB M d
  exact Int.mul_le_mul hM (Int.le_refl _) (by omega) (by omega)
theorem made_mb {M : Int} (hM : 2 ≤ M) (hM' : M ≤ 10 ^ 9) : ∀ (t : Tr) (d : Nat), d ≤ 4 → TrOk M d t → MB (lenB M d) d (made t)
  | .sil n, d, hd, h => by
    have h : 0 ≤ n ∧ n ≤ 8 := by cases d <;> exact h
    have hl := lenB_pos hM d
    have p2 := pow2 (d := d) (by omega)
    show MB _ d (silP n)
    unfold silP
    by_cases c : 0 < n
    · rw [if_pos c]
      exact ⟨⟨fit_sil (by omega) (by omega), trivial, trivial⟩, by simp [tdep, pdep], by simp [tcnt, pcnt]; omega, by simp [tlen, plen]; omega, by simp [gmxs, gmx], fun x h => by simp [occs, occ] at h⟩
    · rw [if_neg c]
      exact ⟨⟨fit_nil, trivial⟩, by simp [tdep], by simp [tcnt]; omega, by simp [tlen]; omega, by simp [gmxs], fun x h => by simp [occs] at h⟩
  | .smp xs, d, hd, h => by
    have h : xs.length ≤ 4 ∧ ∀ x ∈ xs, -9 ≤ x ∧ x ≤ 9 := by cases d <;> exact h
    have hl := lenB_pos hM d
    have p2 := pow2 (d := d) (by omega)
    show MB _ d (smpP xs)
    unfold smpP
    by_cases c : xs = []
    · rw [if_pos c]
      exact ⟨⟨fit_nil, trivial⟩, by simp [tdep], by simp [tcnt]; omega, by simp [tlen]; omega, by simp [gmxs], fun x h => by simp [occs] at h⟩
    · rw [if_neg c]
      exact ⟨⟨fit_smp c (by omega), trivial, trivial⟩, by simp [tdep, pdep], by simp [tcnt, pcnt]; omega, by simp [tlen, plen]; omega, by simp [gmxs, gmx], fun x h => by simp [occs, occ] at h⟩
  | .part nm a b, d, hd, h => by
    have h : (nm = "a" ∨ nm = "b") ∧ 0 ≤ a ∧ a ≤ b ∧ b ≤ 12 := by cases d <;> exact h
    have hl := lenB_pos hM d
    have p2 := pow2 (d := d) (by omega)
    show MB _ d (prtP nm a b)
    unfold prtP
    by_cases c : a < b
    · rw [if_pos c]
      exact ⟨⟨fit_prt c (by omega), ab_ok h.1, trivial⟩, by simp [tdep, pdep], by simp [tcnt, pcnt]; omega, by simp [tlen, plen]; omega, by simp [gmxs, gmx], fun x hx => by
        simp [occs, occ] at hx
        rw [hx]; exact h.1⟩
    · rw [if_neg c]
      exact ⟨⟨fit_nil, trivial⟩, by simp [tdep], by simp [tcnt]; omega, by simp [tlen]; omega, by simp [gmxs], fun x h => by simp [occs] at h⟩
  | .sum s t, 0, hd, h => by simp [TrOk] at h
  | .sum s t, d + 1, hd, h => by
    have h1 := made_mb hM hM' s d (by omega) h.1
    have h2 := made_mb hM hM' t d (by omega) h.2
    have l40 := lenB_40 hM hM' (d := d + 1) hd
    have l2 := lenB_2 hM d
    exact mb_up (mb_bp (by omega) (by omega) h1 h2) l2 (Nat.le_refl _) (by omega)
  | .times t k, 0, hd, h => by simp [TrOk] at h
  | .times t k, d + 1, hd, h => by
    obtain ⟨h1, h2, h3⟩ := h
    have m := made_mb hM hM' t d (by omega) h1
    have l40 := lenB_40 hM hM' (d := d + 1) hd
    have p2 := pow2 (d := d) (by omega)
    have e2 : (2 : Int) ^ (d + 1) = 2 ^ d * 2 := Int.pow_succ ..
    have t0 := (tlen_pos (made t) m.good.ok).1
    have hlen : tlen (made t) * k ≤ lenB M (d + 1) := by
      show _ ≤ M * lenB M d
      rw [Int.mul_comm]
      have := lenB_pos hM d
      exact Int.mul_le_mul (by omega) m.len t0 (by omega)
    have g := rpt_good m.good h2 (by omega) (by have := m.dep; omega) (by have := m.cnt; omega) (by omega) (gOks_of _ (by have := m.gm; omega))
    have gx := gmxs_rpt (made t) k
    have ln := rpt_len (ps := made t) (k := k)
    show MB _ _ (rpt (made t) k)
    refine ⟨g.1, by have := g.2.1; have := m.dep; omega, by have := g.2.2.1; have := m.cnt; omega, by omega, by have := m.gm; omega, fun x hx => ?_⟩
    by_cases k0 : 0 < k
    · exact m.oc x ((rpt_occ x k0).mp hx)
    · have : k = 0 := by omega
      subst this
      simp [rpt, occs] at hx
  | .gain t x y, 0, hd, h => by simp [TrOk] at h
  | .gain t x y, d + 1, hd, h => by
    obtain ⟨h1, h2⟩ := h
    have m := made_mb hM hM' t d (by omega) h1
    have l2 := lenB_2 hM d
    have l0 := lenB_pos hM d
    have p2 := pow2 (d := d) (by omega)
    have e2 : (2 : Int) ^ (d + 1) = 2 ^ d * 2 := Int.pow_succ ..
    show MB _ _ (gps (x, y) (made t))
    have gx := gmxs_gps (x, y) (made t)
    exact ⟨gps_good (x, y) m.good, by rw [gps_dep]; have := m.dep; omega, by rw [gps_cnt]; have := m.cnt; omega, by rw [gps_len]; have := m.len; omega, by have := m.gm; omega, fun z hz => m.oc z ((occs_gps z (x, y) _).mp hz)⟩
end Kx

set_option Elab.async false
set_option linter.all false
set_option maxRecDepth 100000
set_option maxHeartbeats 4000000
set_option exponentiation.threshold 20000
/-! Tree2: trees drawn, clips made. -/
namespace Kx
open PySem PySem.Spec PyProof.Rows L2 Mi

@[simp] theorem w13 : ((("sum" : Str) = "part") = False) := by decide
@[simp] theorem w14 : ((("sum" : Str) = "silence") = False) := by decide
@[simp] theorem w15 : ((("sum" : Str) = "samples") = False) := by decide
@[simp] theorem w16 : ((("times" : Str) = "part") = False) := by decide
@[simp] theorem w17 : ((("times" : Str) = "silence") = False) := by decide
@[simp] theorem w18 : ((("times" : Str) = "samples") = False) := by decide
@[simp] theorem w19 : ((("times" : Str) = "sum") = False) := by decide
@[simp] theorem w20 : ((("gain" : Str) = "part") = False) := by decide
@[simp] theorem w21 : ((("gain" : Str) = "silence") = False) := by decide
@[simp] theorem w22 : ((("gain" : Str) = "samples") = False) := by decide
@[simp] theorem w23 : ((("gain" : Str) = "sum") = False) := by decide
@[simp] theorem w24 : ((("gain" : Str) = "times") = False) := by decide
theorem name_ab {x : Str} (h : x = "a" ∨ x = "b") : NameOk x := by
  rcases h with rfl | rfl
  · exact name_a
  · exact name_b
theorem made_ev {M : Int} (hM : 2 ≤ M) (hM' : M ≤ 10 ^ 9) : ∀ (n : Nat) (t : Tr) (d : Nat), d ≤ 4 → d + 1 ≤ n → TrOk M d t → ∀ h, m__law_made n [encT t] h = .ok (clipD (made t)) h
  | 0, t, d, _, hn, _, h => by omega
  | n + 1, .sil k, d, hd, hn, ok, h => by
    have ok : 0 ≤ k ∧ k ≤ 8 := by cases d <;> exact ok
    have e := silence_ev ok.1 (by omega) h
    simp [m__law_made, b__law_made, encT, made, e]
  | n + 1, .smp xs, d, hd, hn, ok, h => by
    have ok : xs.length ≤ 4 ∧ ∀ x ∈ xs, -9 ≤ x ∧ x ≤ 9 := by cases d <;> exact ok
    have e := samples_ev (xs := xs) (by omega) h
    simp [m__law_made, b__law_made, encT, made, e]
  | n + 1, .part nm a b, d, hd, hn, ok, h => by
    have ok : (nm = "a" ∨ nm = "b") ∧ 0 ≤ a ∧ a ≤ b ∧ b ≤ 12 := by cases d <;> exact ok
    have e := part_ev (name_ab ok.1) ok.2.1 ok.2.2.1 (by omega) h
    simp [m__law_made, b__law_made, encT, made, e]
  | n + 1, .sum s t, 0, hd, hn, ok, h => by simp [TrOk] at ok
  | n + 1, .sum s t, d + 1, hd, hn, ok, h => by
    have e1 := made_ev hM hM' n s d (by omega) (by omega) ok.1 h
    have e2 := made_ev hM hM' n t d (by omega) (by omega) ok.2 h
    have m1 := made_mb hM hM' s d (by omega) ok.1
    have m2 := made_mb hM hM' t d (by omega) ok.2
    have m3 := made_mb hM hM' (.sum s t) (d + 1) hd ok
    have e3 := add_ev m1.good m2.good m3.good.toFit h
    have c1 : ∀ ps, clipD ps = .obj 0 [tupP ps, .int (tlen ps)] := fun _ => rfl
    simp [m__law_made, b__law_made, encT, made, e1, e2]
    simp only [c1] at e3 ⊢
    simp [e3]
  | n + 1, .times t k, 0, hd, hn, ok, h => by simp [TrOk] at ok
  | n + 1, .times t k, d + 1, hd, hn, ok, h => by
    have e1 := made_ev hM hM' n t d (by omega) (by omega) ok.1 h
    have m1 := made_mb hM hM' t d (by omega) ok.1
    have m3 := made_mb hM hM' (.times t k) (d + 1) hd ok
    have e3 := mul_ev m1.good ok.2.1 (by have := ok.2.2; omega) m3.good.toFit h
    have c1 : ∀ ps, clipD ps = .obj 0 [tupP ps, .int (tlen ps)] := fun _ => rfl
    simp [m__law_made, b__law_made, encT, made, e1]
    simp only [c1] at e3 ⊢
    simp [e3, immD]
  | n + 1, .gain t x y, 0, hd, hn, ok, h => by simp [TrOk] at ok
  | n + 1, .gain t x y, d + 1, hd, hn, ok, h => by
    have e1 := made_ev hM hM' n t d (by omega) (by omega) ok.1 h
    have m1 := made_mb hM hM' t d (by omega) ok.1
    obtain ⟨_, o1, o2, o3, o4⟩ := ok
    have e3 := gained_ev m1.good (gOks_of _ (by have := m1.gm; omega)) (x := x) (y := y) (by omega) (by omega) o3 (by omega) h
    have c1 : ∀ ps, clipD ps = .obj 0 [tupP ps, .int (tlen ps)] := fun _ => rfl
    simp [m__law_made, b__law_made, encT, made, e1]
    simp only [c1] at e3 ⊢
    simp [e3]
end Kx

set_option Elab.async false
set_option linter.all false
set_option maxRecDepth 100000
set_option maxHeartbeats 4000000
set_option exponentiation.threshold 20000
/-! Tree3: how a tree is drawn. -/
namespace Kx
open PySem PySem.Spec PyProof.Rows L2 Mi

/-- [take(pool, m) + c for ..] -/
theorem comp_take {n i : Nat} {te : EF} {σ : S} {lo hi : Int} (ht : ∀ (d : D) (h : MH), PoolAt h n → ∃ x h', te (σ.set i (some (.d d))) h = .ok (.int x) h' ∧ lo ≤ x ∧ x ≤ hi ∧ PoolTo h h' n) :
    ∀ (ds : List D) (h : MH), PoolAt h n → ∃ (xs : List Int) (h' : MH), compS (tgName i) tTrue te σ ds h = .ok (xs.map .int) h' ∧ xs.length = ds.length ∧ (∀ x ∈ xs, lo ≤ x ∧ x ≤ hi) ∧ PoolTo h h' n
  | [], h, P => ⟨[], h, rfl, rfl, (fun x hx => by cases hx), .refl P⟩
  | d :: ds, h, P => by
    obtain ⟨x, h1, e1, l1, u1, p1⟩ := ht d h P
    obtain ⟨xs, h2, e2, l2, r2, p2⟩ := comp_take ht ds h1 (p1.at P)
    refine ⟨x :: xs, h2, ?_, by simp [l2], fun y hy => ?_, p1.trans p2⟩
    · unfold compS
      show (match tgName i d σ with | none => R.stk | some σ2 => _) = _
      simp only [tgName, tTrue, noX, R.bind_ok, if_true]
      rw [e1]
      simp only [noX, R.bind_ok]
      rw [e2]
      rfl
    · rcases List.mem_cons.mp hy with e | hy
      · rw [e]; exact ⟨l1, u1⟩
      · exact r2 y hy
theorem ix_ab {h : MH} {v : Int} (h0 : 0 ≤ v) (h1 : v < 2) : ∃ nm : Str, dIx h (.str "ab") (.int v) = .ok (.str nm) h ∧ (nm = "a" ∨ nm = "b") := by
  have : v = 0 ∨ v = 1 := by omega
  rcases this with rfl | rfl
  · exact ⟨"a", rfl, .inl rfl⟩
  · exact ⟨"b", rfl, .inr rfl⟩
theorem tree_ev {M : Int} (hM : 2 ≤ M) (hM' : M ≤ 10 ^ 9) : ∀ (n d : Nat), d + 1 ≤ n → ∀ {h : MH} {p : Nat}, PoolAt h p → ∃ t h', m__law_tree n [.ref p, .int d, .int M] h = .ok (encT t) h' ∧ TrOk M d t ∧ PoolTo h h' p
  | 0, d, hn, h, p, P => by omega
  | n + 1, d, hn, h, p, P => by
    obtain ⟨way, h1, e1, w0, w1, p1⟩ := take_ev P (m := 10) (by decide) (by decide)
    have P1 := p1.at P
    by_cases leaf : d = 0 ∨ way < 2
    · obtain ⟨kind, h2, e2, k0, k1, p2⟩ := take_ev P1 (m := 4) (by decide) (by decide)
      have P2 := p2.at P1
      have lf : d = 0 ∨ (d ≠ 0 ∧ way < 2) := by omega
      by_cases c0 : kind = 0
      · obtain ⟨v, h3, e3, v0, v1, p3⟩ := take_ev P2 (m := 9) (by decide) (by decide)
        refine ⟨.sil v, h3, ?_, by cases d <;> exact ⟨v0, by omega⟩, (p1.trans p2).trans p3⟩
        rcases lf with cd | ⟨cd, cw⟩
        · simp [m__law_tree, b__law_tree, e1, e2, c0, e3, encT, cd]
        · simp [m__law_tree, b__law_tree, e1, e2, c0, e3, encT, cd, cw]
      · by_cases c1 : kind = 1
        · obtain ⟨v, h3, e3, v0, v1, p3⟩ := take_ev P2 (m := 5) (by decide) (by decide)
          have P3 := p3.at P2
          obtain ⟨xs, h4, e4, l4, r4, p4⟩ := comp_take (n := p) (i := 7) (te := e__law_tree_1 (m__law_tree n)) (σ := [some (.d (.ref p)), some (.d (.int d)), some (.d (.int M)), some (.d (.int way)), none, some (.d (.int kind)), none, none]) (lo := -9) (hi := 9)
            (fun x h P => by
              obtain ⟨y, h', e, y0, y1, q⟩ := take_ev P (m := 19) (by decide) (by decide)
              exact ⟨y - 9, h', by simp [e__law_tree_1, e], by omega, by omega, q⟩) (rngD 0 v.toNat) h3 P3
          have ln : (rngD 0 v.toNat).length = v.toNat := by simp [rngD]
          have inw : inW v := ⟨by omega, by omega⟩
          have l6 : v.toNat ≤ 1000000 := by omega
          have l7 : v ≤ 1000000 := by omega
          refine ⟨.smp xs, h4, ?_, by cases d <;> exact ⟨by omega, r4⟩, ((p1.trans p2).trans p3).trans p4⟩
          rw [c1] at e4 e2
          rcases lf with cd | ⟨cd, cw⟩
          · rw [cd] at e4
            simp at e4
            simp [m__law_tree, b__law_tree, e1, e2, e3, encT, eComp, inw, ln, l6, l7, dOnly, wipeS, e4, cd]
          · simp [m__law_tree, b__law_tree, e1, e2, e3, encT, eComp, inw, ln, l6, l7, dOnly, wipeS, e4, cd, cw]
        · obtain ⟨f, h3, e3, f0, f1, p3⟩ := take_ev P2 (m := 12) (by decide) (by decide)
          have P3 := p3.at P2
          obtain ⟨v, h4, e4, v0, v1, p4⟩ := take_ev P3 (m := 2) (by decide) (by decide)
          have P4 := p4.at P3
          obtain ⟨u, h5, e5, u0, u1, p5⟩ := take_ev P4 (m := 13 - f) (by omega) (by omega)
          obtain ⟨nm, en, hnm⟩ := ix_ab (h := h4) v0 v1
          refine ⟨.part nm f (f + u), h5, ?_, by cases d <;> exact ⟨hnm, f0, by omega, by omega⟩, (((p1.trans p2).trans p3).trans p4).trans p5⟩
          rcases lf with cd | ⟨cd, cw⟩
          · simp [m__law_tree, b__law_tree, e1, e2, c0, c1, e3, e4, en, e5, encT, cd]
          · simp [m__law_tree, b__law_tree, e1, e2, c0, c1, e3, e4, en, e5, encT, cd, cw]
    · have cd : d ≠ 0 := by omega
      have cw : ¬ way < 2 := by omega
      obtain ⟨d', rfl⟩ : ∃ d', d = d' + 1 := ⟨d - 1, by omega⟩
      have ed : ((d' + 1 : Nat) : Int) - 1 = (d' : Int) := by omega
      have cd2 : ¬ ((d' : Int) + 1 = 0) := by omega
      have ed2 : (d' : Int) + 1 - 1 = (d' : Int) := by omega
      obtain ⟨s, h2, e2, os, p2⟩ := tree_ev hM hM' n d' (by omega) P1
      have P2 := p2.at P1
      by_cases c5 : way < 5
      · obtain ⟨t, h3, e3, ot, p3⟩ := tree_ev hM hM' n d' (by omega) P2
        refine ⟨.sum s t, h3, ?_, ⟨os, ot⟩, (p1.trans p2).trans p3⟩
        simp [m__law_tree, b__law_tree, e1, e2, e3, encT, cd2, cw, c5, ed2]
      · by_cases c8 : way < 8
        · obtain ⟨k, h3, e3, k0, k1, p3⟩ := take_ev P2 (m := M) (by omega) (by omega)
          refine ⟨.times s k, h3, ?_, ⟨os, k0, k1⟩, (p1.trans p2).trans p3⟩
          simp [m__law_tree, b__law_tree, e1, e2, e3, encT, cd2, cw, c5, c8, ed2]
        · obtain ⟨x, h3, e3, x0, x1, p3⟩ := take_ev P2 (m := 9) (by decide) (by decide)
          have P3 := p3.at P2
          obtain ⟨y, h4, e4, y0, y1, p4⟩ := take_ev P3 (m := 4) (by decide) (by decide)
          refine ⟨.gain s (x - 4) (1 + y), h4, ?_, ⟨os, by omega, by omega, by omega, by omega⟩, ((p1.trans p2).trans p3).trans p4⟩
          simp [m__law_tree, b__law_tree, e1, e2, e3, e4, encT, cd2, cw, c5, c8, ed2]
end Kx

set_option Elab.async false
set_option linter.all false
set_option maxRecDepth 100000
set_option maxHeartbeats 4000000
set_option exponentiation.threshold 20000
/-! Ops: clips' operations as expressions; the laws' pool; _law_same. -/
namespace Kx
open PySem PySem.Spec PyProof.Rows L2 Mi

section
variable {a b : EF} {σ : S} {h h1 h2 : MH} {ps qs : List Pc} {k : Int}
theorem add_op (ea : a σ h = .ok (clipD ps) h1) (eb : b σ h1 = .ok (clipD qs) h2) (hp : Good ps) (hq : Good qs) (hf : Fit (bp ps qs)) : eOpO 0 [] (Mi.cnt 2 m_Clip_ddadddd) a b σ h = .ok (clipD (bp ps qs)) h2 := by
  have e := add_ev hp hq hf h2
  simp only [clipD] at ea eb e ⊢
  simp [ea, eb, e]
theorem mul_op (ea : a σ h = .ok (clipD ps) h1) (eb : b σ h1 = .ok (.int k) h2) (hp : Good ps) (h0 : 0 ≤ k) (hk : k ≤ 10 ^ 30) (hf : Fit (rpt ps k)) : eOpO 0 ["int"] (Mi.cnt 2 m_Clip_ddmuldd) a b σ h = .ok (clipD (rpt ps k)) h2 := by
  have e := mul_ev hp h0 hk hf h2
  simp only [clipD] at ea e ⊢
  simp [ea, eb, e, immD]
theorem eq_op (ea : a σ h = .ok (clipD ps) h1) (eb : b σ h1 = .ok (clipD ps) h2) (hp : Good ps) : eOpO 0 [] (Mi.cnt 2 m_Clip_ddeqdd) a b σ h = .ok (.bl true) h2 := by
  have e := eq_clip hp h2
  simp only [clipD] at ea eb e ⊢
  simp [ea, eb, e]
theorem len_op (ea : a σ h = .ok (clipD ps) h1) : eProp 0 (Mi.cnt 1 m_Clip_length) a σ h = .ok (.int (tlen ps)) h1 := by
  have e := len_clip ps h1
  simp only [clipD] at ea e ⊢
  simp [ea, e]
theorem names_op (ea : a σ h = .ok (clipD ps) h1) (hp : Good ps) (hl : (nmPs [] ps).length < 64) : eMeth 0 (Mi.cnt 1 m_Clip_names) a aNil σ h = .ok (.lst ((nms ps).map D.str)) h1 := by
  have e := clip_names hp hl h1
  simp only [clipD] at ea e ⊢
  simp [ea, e]
end
/-! ### the pool -/
theorem pow18 (h : MH) : Mi.dPow h (.int 10) (.int 18) = .ok (.int 1000000000000000000) h := by rfl
theorem pow12 (h : MH) : Mi.dPow h (.int 10) (.int 12) = .ok (.int 1000000000000) h := by rfl
theorem pool_at {h : MH} {a b : Int} (ha : 0 ≤ a) (hb : 0 ≤ b) (hb' : b < 2147483647) : PoolAt (h ++ [plC a b]) h.length := ⟨a, b, by simp, ha, hb, hb'⟩
theorem pool_ev (ns : List Int) (h : MH) {k : Int} (k0 : 0 ≤ k) (k1 : k < 2 ^ 20) : ∃ a b, m__law_pool [.scr (ns.map .int), .int k] h = .ok (.ref h.length) (h ++ [plC a b]) ∧ 0 ≤ a ∧ 0 ≤ b ∧ b < 2147483647 := by
  -- the cell's number
  have tail : ∀ cell : Int, ∃ g s w : Int, (if cell < 0 then -cell else cell) = g ∧ cell % 2147483629 + 48271 * k + 11 = s ∧ (if 1000000000000000000 ≤ g then 1 else 0) = w ∧ 0 ≤ g ∧ 0 ≤ w ∧ mulOk 48271 k ∧ mulOk 39373 k ∧ mulOk s s ∧ mulOk (s * s) s ∧ mulOk g w := fun cell => by
    have s0 : 0 ≤ cell % 2147483629 := Int.emod_nonneg _ (by decide)
    have s1 : cell % 2147483629 < 2147483629 := Int.emod_lt_of_pos _ (by decide)
    refine ⟨_, _, _, rfl, rfl, rfl, by split <;> omega, by split <;> omega, .inl (.inl ⟨by decide, by decide⟩), .inl (.inl ⟨by decide, by decide⟩), .inl (.inl ⟨by omega, by omega⟩), .inl (.inr ⟨by omega, by omega⟩), .inl (.inr ?_)⟩
    split <;> split <;> omega
  by_cases c : k < ns.length
  · obtain ⟨j, rfl⟩ : ∃ j : Nat, k = j := ⟨k.toNat, by omega⟩
    have hj : j < ns.length := by omega
    have ex : dIx h (.scr (ns.map .int)) (.int (j : Int)) = .ok (.int ns[j]) h := by
      have q : atI (ns.map D.int) (j : Int) = some (.int ns[j]) := atI_nat (by simp [hj])
      show optR h (atI (ns.map D.int) (j : Int)) = _
      rw [q]; rfl
    obtain ⟨g, s, w, eg, es, ew, g0, w0, m1, m2, m3, m4, m5⟩ := tail ns[j]
    refine ⟨g * w, (s * s * s + 39373 * j) % 2147483647, ?_, Int.mul_nonneg g0 w0, Int.emod_nonneg _ (by decide), Int.emod_lt_of_pos _ (by decide)⟩
    simp [m__law_pool, b__law_pool, ex, hj, dMod_int h (show (0 : Int) < 2147483629 by decide), dMul_int h m1, dMul_int h m2, eg, es, dMul_int h m3, dMul_int h m4, pow18, ew, dMul_int h m5, dMod_int h (show (0 : Int) < 2147483647 by decide), plC]
  · obtain ⟨g, s, w, eg, es, ew, g0, w0, m1, m2, m3, m4, m5⟩ := tail 0
    refine ⟨g * w, (s * s * s + 39373 * k) % 2147483647, ?_, Int.mul_nonneg g0 w0, Int.emod_nonneg _ (by decide), Int.emod_lt_of_pos _ (by decide)⟩
    have eg' : (0 : Int) = g := by simpa using eg
    have es' : 48271 * k + 11 = s := by simpa using es
    subst eg'
    simp at ew
    subst ew
    simp [m__law_pool, b__law_pool, c, dMod_int h (show (0 : Int) < 2147483629 by decide), dMul_int h m1, dMul_int h m2, es', dMul_int h m3, dMul_int h m4, pow18, dMul_int h m5, dMod_int h (show (0 : Int) < 2147483647 by decide), plC]
/-! ### clips made in a row -/
theorem comp_made {M : Int} (hM : 2 ≤ M) (hM' : M ≤ 10 ^ 9) {n d i : Nat} (hd : d ≤ 4) {te : EF} {σ : S} (ht : ∀ (x : D) (h : MH), te (σ.set i (some (.d x))) h = (m__law_tree 20 [.ref n, .int d, .int M] h).bind fun t h1 => m__law_made 20 [t] h1) :
    ∀ (ds : List D) (h : MH), PoolAt h n → ∃ (ts : List Tr) (h' : MH), compS (tgName i) tTrue te σ ds h = .ok (ts.map fun t => clipD (made t)) h' ∧ ts.length = ds.length ∧ (∀ t ∈ ts, TrOk M d t) ∧ PoolTo h h' n
  | [], h, P => ⟨[], h, rfl, rfl, (fun x hx => by cases hx), .refl P⟩
  | x :: ds, h, P => by
    obtain ⟨t, h1, e1, o1, p1⟩ := tree_ev hM hM' 20 d (by omega) P
    have e1' := made_ev hM hM' 20 t d hd (by omega) o1 h1
    obtain ⟨ts, h2, e2, l2, r2, p2⟩ := comp_made hM hM' hd ht ds h1 (p1.at P)
    refine ⟨t :: ts, h2, ?_, by simp [l2], fun y hy => ?_, p1.trans p2⟩
    · unfold compS
      show (match tgName i x σ with | none => R.stk | some σ2 => _) = _
      simp only [tgName, tTrue, noX, R.bind_ok, if_true]
      rw [ht, e1]
      simp only [R.bind_ok]
      rw [e1']
      simp only [noX, R.bind_ok]
      rw [e2]
      rfl
    · rcases List.mem_cons.mp hy with e | hy
      · rw [e]; exact o1
      · exact r2 y hy
/-! ### _law_same on lists of texts -/
theorem same_str {n : Nat} (s : Str) (h : MH) : m__law_same (n + 1) [.str s, .str s] h = .ok (.bl true) h := by
  simp [m__law_same, b__law_same, Mi.dIs]
theorem zipD_self (ds : List D) : zipD ds ds = ds.map fun d => .tup [d, d] := by
  induction ds with
  | nil => rfl
  | cons d ds ih => simp [zipD, ih]
theorem same_strs {n : Nat} (ss : List Str) (h : MH) : m__law_same (n + 2) [.lst (ss.map .str), .lst (ss.map .str)] h = .ok (.bl true) h := by
  obtain ⟨σ', e, l⟩ := loop_ok (tg := tgTup (tgCons (tgName 2) (tgCons (tgName 3) tgNil))) (body := l__law_same_1 (m__law_same (n + 1))) (h := h) (fun σ => σ.length = 4) (ds := zipD (ss.map .str) (ss.map .str)) (fun d hd σ hl => by
    rw [zipD_self] at hd
    obtain ⟨x, hx, rfl⟩ := List.mem_map.mp hd
    obtain ⟨s, _, rfl⟩ := List.mem_map.mp hx
    match σ, hl with
    | [a, b, c, d], _ =>
      refine ⟨[a, b, some (.d (.str s)), some (.d (.str s))], [a, b, some (.d (.str s)), some (.d (.str s))], rfl, ?_, rfl⟩
      simp [l__law_same_1, same_str]) [some (.d (.lst (ss.map .str))), some (.d (.lst (ss.map .str))), none, none] rfl
  show runBody 4 (b__law_same (m__law_same (n + 1))) [.lst (ss.map .str), .lst (ss.map .str)] h = _
  generalize m__law_same (n + 1) = f at e ⊢
  simp [b__law_same, Mi.dIs, e]
end Kx

set_option Elab.async false
set_option linter.all false
set_option maxRecDepth 100000
set_option maxHeartbeats 8000000
set_option exponentiation.threshold 20000
/-! K53L: the law of sums and copies. -/
namespace Kx
open PySem PySem.Spec PyProof.Rows L2 Mi

theorem few_names {ps : List Pc} (h : ∀ x, occs x ps → x = "a" ∨ x = "b") : (nmPs [] ps).length < 64 := by
  have nd := nd_nmPs ps [] .nil
  have sub : ∀ x ∈ nmPs [] ps, x ∈ (["a", "b"] : List Str) := fun x hx => by
    rcases (mem_nmPs x ps []).mp hx with h' | h'
    · cases h'
    · have := h x h'; simp; exact this
  have := List.Nodup.length_le_of_subset nd sub
  simp at this
  omega
section
variable {f g : SF} {t u : TF} {a b : EF} {σ σ1 : S} {h h1 h2 : MH} {Q : S → MH → Prop} {ps qs : List Pc}
theorem seq_go (e : f σ h = .ok .nx σ1 h1) (k : ∃ σ' h', g σ1 h1 = .ok .nx σ' h' ∧ Q σ' h') : ∃ σ' h', sSeq f g σ h = .ok .nx σ' h' ∧ Q σ' h' := by
  simpa [e] using k
theorem if_no (e : t σ h = .ok false h1) : sIf t f sNil σ h = .ok .nx σ h1 := by simp [e]
theorem or_no (e : t σ h = .ok false h1) (e2 : u σ h1 = .ok false h2) : fOr t u σ h = .ok false h2 := by simp [e, e2]
theorem not_no (e : t σ h = .ok true h1) : fNot t σ h = .ok false h1 := by simp [e]
theorem isnot_true (e : a σ h = .ok (.bl true) h1) : Mi.tB (eB Mi.dIsNot a (eC (.bl true))) σ h = .ok false h1 := by simp [e]
theorem eq_op' (ea : a σ h = .ok (clipD ps) h1) (eb : b σ h1 = .ok (clipD qs) h2) (e : qs = ps) (hp : Good ps) : eOpO 0 [] (Mi.cnt 2 m_Clip_ddeqdd) a b σ h = .ok (.bl true) h2 := by
  subst e
  exact eq_op ea eb hp
theorem ne_int {i j : Int} (ea : a σ h = .ok (.int i) h1) (eb : b σ h1 = .ok (.int j) h2) (e : i = j) : Mi.tB (eB Mi.dNe a b) σ h = .ok false h2 := by simp [ea, eb, e]
theorem set_go {i : Nat} {d : D} (e : a σ h = .ok d h1) : sAsg i a σ h = .ok .nx (σ.set i (some (.d d))) h1 := by simp [e]
end
section
variable {f g : SF} {t u : TF} {a b : EF} {σ σ1 : S} {h h1 h2 : MH} {i j : Int} {X Y : List Str}
theorem mulI_op (ea : a σ h = .ok (.int i) h1) (eb : b σ h1 = .ok (.int j) h2) (c : mulOk i j) : eB Mi.dMul a b σ h = .ok (.int (i * j)) h2 := by simp [ea, eb, dMul_int _ c]
theorem addI_op (ea : a σ h = .ok (.int i) h1) (eb : b σ h1 = .ok (.int j) h2) : eB Mi.dAdd a b σ h = .ok (.int (i + j)) h2 := by simp [ea, eb]
theorem same_op (ea : a σ h = .ok (.lst (X.map .str)) h1) (eb : b σ h1 = .ok (.lst (Y.map .str)) h2) (e : X = Y) : Mi.tB (eCall (Mi.cnt 2 (m__law_same 20)) (aCons a (aCons b aNil))) σ h = .ok true h2 := by
  subst e
  simp [ea, eb, same_strs (n := 18)]
end
theorem comp_filter {σ : S} {i : Nat} {tt : TF} {te : EF} {h : MH} (P : Str → Bool) : ∀ (ss : List Str), (∀ s ∈ ss, tt (σ.set i (some (.d (.str s)))) h = .ok (P s) h ∧ te (σ.set i (some (.d (.str s)))) h = .ok (.str s) h) → compS (tgName i) tt te σ (ss.map .str) h = .ok ((ss.filter P).map .str) h
  | [], _ => rfl
  | s :: ss, ht => by
    obtain ⟨e1, e2⟩ := ht s List.mem_cons_self
    have ih := comp_filter P ss fun x hx => ht x (List.mem_cons_of_mem _ hx)
    rw [List.map_cons]
    unfold compS
    show (match tgName i (.str s) σ with | none => R.stk | some σ2 => _) = _
    simp only [tgName]
    rw [e1]
    simp only [noX, R.bind_ok]
    cases c : P s with
    | true =>
      rw [if_pos rfl, e2]
      simp only [noX, R.bind_ok]
      rw [ih]
      simp [c]
    | false =>
      rw [if_neg Bool.false_ne_true, ih]
      simp [c]
theorem mem_nms {x : Str} {ps : List Pc} : x ∈ nms ps ↔ occs x ps := by
  unfold nms
  rw [(sortS_perm _).mem_iff, mem_nmPs]
  simp
theorem take_op {σ : S} {h h1 : MH} {p : Nat} {a b : EF} {m : Int} (ea : a σ h = .ok (.ref p) h) (eb : b σ h = .ok (.int m) h1) (P : PoolAt h1 p) (m0 : 0 < m) (m1 : m < 2 ^ 64) : ∃ v h', eCall (Mi.cnt 2 m__law_take) (aCons a (aCons b aNil)) σ h = .ok (.int v) h' ∧ 0 ≤ v ∧ v < m ∧ PoolTo h1 h' p := by
  obtain ⟨v, h', e, v0, v1, p1⟩ := take_ev P m0 m1
  exact ⟨v, h', by simp [ea, eb, e], v0, v1, p1⟩
/-- [4, 10 ** 12][take(pool, 2)] -/
theorem pick_op {σ : S} {h : MH} {p : Nat} (e3 : σ[3]? = some (some (.d (.ref p)))) (P : PoolAt h p) : ∃ m h', eB dIx (eLst (aCons (eC (.int 4)) (aCons (eB Mi.dPow (eC (.int 10)) (eC (.int 12))) aNil))) (eCall (Mi.cnt 2 m__law_take) (aCons (eVar 3) (aCons (eC (.int 2)) aNil))) σ h = .ok (.int m) h' ∧ (m = 4 ∨ m = 1000000000000) ∧ PoolTo h h' p := by
  obtain ⟨v, h', e, v0, v1, p1⟩ := take_ev P (m := 2) (by decide) (by decide)
  have : v = 0 ∨ v = 1 := by omega
  have x0 : ∀ h, dIx h (.lst [.int 4, .int 1000000000000]) (.int 0) = .ok (.int 4) h := fun h => rfl
  have x1 : ∀ h, dIx h (.lst [.int 4, .int 1000000000000]) (.int 1) = .ok (.int 1000000000000) h := fun h => rfl
  rcases this with rfl | rfl
  · exact ⟨4, h', by simp [e3, pow12, e, x0], .inl rfl, p1⟩
  · exact ⟨1000000000000, h', by simp [e3, pow12, e, x1], .inr rfl, p1⟩
theorem fit_rpt {ps : List Pc} {B : Int} (m : MB B 3 ps) (hB : B ≤ 10 ^ 10) {k : Int} (h0 : 0 ≤ k) (h1 : k ≤ 10 ^ 24) : Good (rpt ps k) ∧ tdep (rpt ps k) ≤ 4 ∧ tcnt (rpt ps k) ≤ 9 ∧ gOks (rpt ps k) := by
  have t0 := (tlen_pos ps m.good.ok).1
  have hl : tlen ps * k ≤ 10 ^ 10 * 10 ^ 24 := Int.mul_le_mul (by have := m.len; omega) h1 h0 (by omega)
  have hc := m.cnt
  have hd := m.dep
  have g := rpt_good m.good h0 (by omega) (by omega) (by omega) (by omega) (gOks_of _ (by have := m.gm; omega))
  exact ⟨g.1, by omega, by omega, g.2.2.2⟩
theorem k53_turn {ns : List Int} {j : Nat} (hj : (j : Int) < 2 ^ 20) (h : MH) (σ : S) (hl : σ.length = 12) (e0 : σ[0]? = some (some (.d (.scr (ns.map .int))))) (e1 : σ[1]? = some (some (.d (clipD [])))) (e2 : σ[2]? = some (some (.d (.int j)))) :
    ∃ σ' h', l_law_4 σ h = .ok .nx σ' h' ∧ σ'.length = 12 ∧ σ'[0]? = some (some (.d (.scr (ns.map .int)))) ∧ σ'[1]? = some (some (.d (clipD []))) := by
  match σ, hl with
  | [s0, s1, s2, s3, s4, s5, s6, s7, s8, s9, s10, s11], _ =>
    simp at e0 e1 e2
    subst e0 e1 e2
    obtain ⟨pa, pb, ep, pa0, pb0, pb1⟩ := pool_ev ns h (k := (j : Int)) (by omega) hj
    have P0 := pool_at (h := h) pa0 pb0 pb1
    generalize hp : h.length = p at *
    generalize hh0 : h ++ [plC pa pb] = h0 at *
    obtain ⟨ts, h1, ec, lt, ok, p1⟩ := comp_made (M := 5) (by decide) (by decide) (n := p) (d := 3) (i := 10) (by decide) (te := e_law_1) (σ := wipeS (dOnly [some (.d (.scr (ns.map .int))), some (.d (clipD [])), some (.d (.int j)), some (.d (.ref p)), s4, s5, s6, s7, s8, s9, s10, s11]) [10])
      (fun x h => by
        simp [e_law_1, dOnly, wipeS]
        cases m__law_tree 20 [.ref p, .int 3, .int 5] h <;> simp) (rngD 0 3) h0 P0
    match ts, lt with
    | [t1, t2, t3], _ =>
      have P1 := p1.at P0
      have m1 := made_mb (M := 5) (by decide) (by decide) t1 3 (by decide) (ok t1 (by simp))
      have m2 := made_mb (M := 5) (by decide) (by decide) t2 3 (by decide) (ok t2 (by simp))
      have m3 := made_mb (M := 5) (by decide) (by decide) t3 3 (by decide) (ok t3 (by simp))
      simp only [List.map_cons, List.map_nil] at ec
      generalize made t1 = one at *
      generalize made t2 = two at *
      generalize made t3 = three at *
      have l5 : lenB 5 3 = 1500 := rfl
      rw [l5] at m1 m2 m3
      have m12 := mb_bp (by decide) (by decide) m1 m2
      have m23 := mb_bp (by decide) (by decide) m2 m3
      have m123 := mb_bp (d := 4) (by decide) (by decide) m12 (mb_up m3 (by decide) (by decide) (by decide))
      have m123' : Fit (bp one (bp two three)) := by rw [← bp_assoc]; exact m123.good.toFit
      obtain ⟨many0, h2, em0, hm0, p2⟩ := pick_op (σ := [some (.d (.scr (ns.map .int))), some (.d (clipD [])), some (.d (.int j)), some (.d (.ref p)), s4, s5, s6, some (.d (clipD one)), some (.d (clipD two)), some (.d (clipD three)), s10, s11]) rfl P1
      have P2 := p2.at P1
      unfold l_law_4
      refine seq_go (σ1 := [some (.d (.scr (ns.map .int))), some (.d (clipD [])), some (.d (.int j)), some (.d (.ref p)), s4, s5, s6, s7, s8, s9, s10, s11]) (h1 := h0) (by simp [ep]) ?_
      refine seq_go (σ1 := [some (.d (.scr (ns.map .int))), some (.d (clipD [])), some (.d (.int j)), some (.d (.ref p)), s4, s5, s6, some (.d (clipD one)), some (.d (clipD two)), some (.d (clipD three)), s10, s11]) (h1 := h1) ?_ ?_
      · have e3 : rngD 0 (Int.toNat 3) = rngD 0 3 := rfl
        have i3 : inW 3 := ⟨by decide, by decide⟩
        have l3 : (rngD 0 3).length = 3 := rfl
        simp [eComp, e3, i3, l3, ec]
      -- brackets
      refine seq_go (if_no (isnot_true (eq_op' (add_op (add_op rfl rfl m1.good m2.good m12.good.toFit) rfl m12.good m3.good m123.good.toFit) (add_op rfl (add_op rfl rfl m2.good m3.good m23.good.toFit) m1.good m23.good m123') (bp_assoc one two three).symm m123.good))) ?_
      -- the empty clip
      have gn : Good ([] : List Pc) := ⟨fit_nil, trivial⟩
      refine seq_go (if_no (or_no (isnot_true (eq_op' (add_op rfl rfl m1.good gn (by rw [bp_nr]; exact m1.good.toFit)) rfl (bp_nr one).symm (by rw [bp_nr]; exact m1.good))) (isnot_true (eq_op' (add_op rfl rfl gn m1.good m1.good.toFit) rfl rfl m1.good)))) ?_
      -- many, more
      obtain ⟨many, h3, em, hm, hm', p3⟩ := take_op (σ := [some (.d (.scr (ns.map .int))), some (.d (clipD [])), some (.d (.int j)), some (.d (.ref p)), s4, s5, s6, some (.d (clipD one)), some (.d (clipD two)), some (.d (clipD three)), s10, s11]) (a := eVar 3) rfl em0 P2 (by omega) (by omega)
      have P3 := p3.at P2
      refine seq_go (set_go em) ?_
      obtain ⟨more0, h4, eo0, ho0, p4⟩ := pick_op (σ := [some (.d (.scr (ns.map .int))), some (.d (clipD [])), some (.d (.int j)), some (.d (.ref p)), some (.d (.int many)), s5, s6, some (.d (clipD one)), some (.d (clipD two)), some (.d (clipD three)), s10, s11]) rfl P3
      have P4 := p4.at P3
      obtain ⟨more, h5, eo, ho, ho', p5⟩ := take_op (σ := [some (.d (.scr (ns.map .int))), some (.d (clipD [])), some (.d (.int j)), some (.d (.ref p)), some (.d (.int many)), s5, s6, some (.d (clipD one)), some (.d (clipD two)), some (.d (clipD three)), s10, s11]) (a := eVar 3) rfl eo0 P4 (by omega) (by omega)
      refine seq_go (set_go eo) ?_
      have hmm : many ≤ 10 ^ 12 := by omega
      have hoo : more ≤ 10 ^ 12 := by omega
      have hmo : many * more ≤ 10 ^ 12 * 10 ^ 12 := Int.mul_le_mul hmm hoo ho (by decide)
      have hmo0 : 0 ≤ many * more := Int.mul_nonneg hm ho
      have r1 := fit_rpt m1 (by decide) hm (by omega)
      have r2 := fit_rpt m1 (by decide) hmo0 (by omega)
      have r3 := fit_rpt m1 (by decide) (k := 1) (by decide) (by decide)
      have r4 := fit_rpt m1 (by decide) (k := 0) (by decide) (by decide)
      have mm : mulOk many more := .inl (.inl ⟨by omega, by omega⟩)
      have e1 : rpt one 1 = one := by
        unfold rpt
        by_cases c : one = []
        · rw [if_pos (.inr c), c]
        · rw [if_neg (by simp [c]), if_pos rfl]
      have e0 : rpt one 0 = [] := by simp [rpt]
      have en : ∀ k, rpt [] k = [] := fun k => by simp [rpt]
      -- copies of copies
      refine seq_go (if_no (or_no (isnot_true (eq_op' (mul_op (mul_op rfl rfl m1.good hm (by omega) r1.1.toFit) rfl r1.1 ho (by omega) (by rw [rpt_rpt one hm ho]; exact r2.1.toFit)) (mul_op (k := many * more) rfl (mulI_op rfl rfl mm) m1.good hmo0 (by omega) r2.1.toFit) (rpt_rpt one hm ho).symm (by rw [rpt_rpt one hm ho]; exact r2.1))) (isnot_true (eq_op' (mul_op rfl rfl m1.good (by decide) (by decide) r3.1.toFit) rfl e1.symm r3.1)))) ?_
      refine seq_go (if_no (or_no (isnot_true (eq_op' (mul_op rfl rfl m1.good (by decide) (by decide) r4.1.toFit) rfl e0.symm r4.1)) (isnot_true (eq_op' (mul_op rfl rfl gn hm (by omega) (by rw [en]; exact fit_nil)) rfl (en many).symm (by rw [en]; exact gn))))) ?_
      -- lengths
      have ml : mulOk (tlen one) many := .inl (.inr ⟨by omega, by omega⟩)
      refine seq_go (if_no (or_no (ne_int (len_op (mul_op rfl rfl m1.good hm (by omega) r1.1.toFit)) (mulI_op (len_op rfl) rfl ml) rpt_len) (ne_int (len_op (add_op rfl rfl m1.good m2.good m12.good.toFit)) (addI_op (len_op rfl) (len_op rfl)) (bp_len one two)))) ?_
      -- names
      have oc1 : ∀ x, occs x (rpt one many) → x = "a" ∨ x = "b" := fun x hx => by
        by_cases c : 0 < many
        · exact m1.oc x ((rpt_occ x c).mp hx)
        · have : many = 0 := by omega
          subst this
          rw [e0] at hx
          exact hx.elim
      have nm1 : nms (rpt one many) = if 0 < many then nms one else [] := by
        by_cases c : 0 < many
        · rw [if_pos c]
          exact nms_congr fun x => rpt_occ x c
        · rw [if_neg c]
          have : many = 0 := by omega
          subst this
          rw [e0]
          rfl
      refine seq_go (h1 := h5) (if_no (not_no (same_op (Y := if 0 < many then nms one else []) (names_op (mul_op rfl rfl m1.good hm (by omega) r1.1.toFit) r1.1 (few_names oc1)) ?_ nm1))) ?_
      · have e7 : ∀ (σ : S), eVar 7 σ h5 = .ok (clipD one) h5 → eMeth 0 (Mi.cnt 1 m_Clip_names) (eVar 7) aNil σ h5 = .ok (.lst ((nms one).map .str)) h5 := fun σ e => names_op e m1.good (few_names m1.oc)
        by_cases c : 0 < many
        · simp [-s1_eMeth, c]
          exact e7 _ rfl
        · simp [c]
      -- the names of both
      have oc12 : ∀ x, occs x (bp one two) → x = "a" ∨ x = "b" := fun x hx => by
        rcases (bp_occ x one two).mp hx with h' | h'
        · exact m1.oc x h'
        · exact m2.oc x h'
      have k1 : ∀ {σ : S}, eVar 7 σ h5 = .ok (clipD one) h5 → eMeth 0 (Mi.cnt 1 m_Clip_names) (eVar 7) aNil σ h5 = .ok (.lst ((nms one).map .str)) h5 := fun e => names_op e m1.good (few_names m1.oc)
      have k2 : ∀ {σ : S}, eVar 8 σ h5 = .ok (clipD two) h5 → eMeth 0 (Mi.cnt 1 m_Clip_names) (eVar 8) aNil σ h5 = .ok (.lst ((nms two).map .str)) h5 := fun e => names_op e m2.good (few_names m2.oc)
      have fl : ∀ ss : List Str, (ss.map D.str).all flatD = true := fun ss => by simp [flatD]
      have inn : ∀ (x : Str), Mi.dIn h5 (.str x) (.lst ((nms one).map .str ++ (nms two).map .str)) = .ok (.bl (decide (x ∈ nms one ∨ x ∈ nms two))) h5 := fun x => by
        have e : ((nms one).map D.str ++ (nms two).map D.str).any (fun d => eqFlat d (.str x)) = decide (x ∈ nms one ∨ x ∈ nms two) := by
          rw [Bool.eq_iff_iff]
          simp [eqFlat]
        have f2 : ((nms one).map D.str ++ (nms two).map D.str).all flatD = true := by rw [List.all_append, fl, fl]; rfl
        show (inR h5 (.str x) (.lst _)).bind _ = _
        show ((if flatD (.str x) = true ∧ ((nms one).map D.str ++ (nms two).map D.str).all flatD = true then R.ok (((nms one).map D.str ++ (nms two).map D.str).any fun d => eqFlat d (.str x)) h5 else .stk).bind _) = _
        rw [if_pos ⟨rfl, f2⟩, e]
        rfl
      have nm2 : nms (bp one two) = sortS ((["a", "b"] : List Str).filter fun x => decide (x ∈ nms one ∨ x ∈ nms two)) := by
        refine sortS_congr (nd_nmPs _ [] .nil) (List.Pairwise.filter _ (show ((["a", "b"] : List Str).Nodup) by decide)) fun x => ?_
        rw [mem_nmPs, bp_occ, List.mem_filter, decide_eq_true_eq, mem_nms, mem_nms]
        constructor
        · rintro (h' | h')
          · cases h'
          · exact ⟨by
              have := oc12 x ((bp_occ x one two).mpr h')
              simpa using this, h'⟩
        · rintro ⟨_, h'⟩
          exact .inr h'
      have l64 : ((["a", "b"] : List Str).filter fun x => decide (x ∈ nms one ∨ x ∈ nms two)).length < 64 := Nat.lt_of_le_of_lt (List.length_filter_le _ _) (by decide)
      have ladd : (nms one).length + (nms two).length ≤ 1000000 := by
        have h1 := few_names m1.oc
        have h2 := few_names m2.oc
        have h3 : (nms one).length = (nmPs [] one).length := (sortS_perm _).length_eq
        have h4 : (nms two).length = (nmPs [] two).length := (sortS_perm _).length_eq
        omega
      have cf := comp_filter (σ := wipeS (dOnly [some (.d (.scr (ns.map .int))), some (.d (clipD [])), some (.d (.int j)), some (.d (.ref p)), some (.d (.int many)), some (.d (.int more)), s6, some (.d (clipD one)), some (.d (clipD two)), some (.d (clipD three)), s10, s11]) [11]) (i := 11) (tt := t_law_2) (te := e_law_3) (h := h5) (fun x => decide (x ∈ nms one ∨ x ∈ nms two)) ["a", "b"] (fun s _ => by
        constructor
        · have ad : Mi.dAdd h5 (.lst ((nms one).map .str)) (.lst ((nms two).map .str)) = .ok (.lst ((nms one).map .str ++ (nms two).map .str)) h5 := if_pos (by simpa using ladd)
          simp [t_law_2, dOnly, wipeS, -s1_eMeth, k1, k2, ad, inn]
        · simp [e_law_3, dOnly, wipeS])
      refine seq_go (σ1 := [some (.d (.scr (ns.map .int))), some (.d (clipD [])), some (.d (.int j)), some (.d (.ref p)), some (.d (.int many)), some (.d (.int more)), some (.d (.lst ((sortS ((["a", "b"] : List Str).filter fun x => decide (x ∈ nms one ∨ x ∈ nms two))).map .str))), some (.d (clipD one)), some (.d (clipD two)), some (.d (clipD three)), s10, s11]) (h1 := h5) ?_ ?_
      · simp only [List.map_cons, List.map_nil] at cf
        generalize (["a", "b"] : List Str).filter (fun x => decide (x ∈ nms one ∨ x ∈ nms two)) = FL at *
        simp [eComp, cf, sorted_strs l64]
      refine ⟨_, h5, if_no (not_no (same_op (names_op (add_op rfl rfl m1.good m2.good m12.good.toFit) m12.good (few_names oc12)) rfl nm2)), rfl, rfl, rfl⟩
/-! ### the law -/
theorem loop_idx {tg : GT} {body : SF} {n : Nat} (P : S → Prop) (hs : ∀ (j : Nat), j < n → ∀ σ h, P σ → ∃ σ1, tg (.int j) σ = some σ1 ∧ ∃ σ2 h2, body σ1 h = .ok .nx σ2 h2 ∧ P σ2) : ∀ (m i : Nat), i + m = n → ∀ σ h, P σ → ∃ σ' h', loopS tg body ((List.range' i m).map fun (j : Nat) => .int (j : Int)) σ h = .ok .nx σ' h' ∧ P σ'
  | 0, i, e, σ, h, p => ⟨σ, h, rfl, p⟩
  | m + 1, i, e, σ, h, p => by
    obtain ⟨σ1, e1, σ2, h2, e2, p2⟩ := hs i (by omega) σ h p
    obtain ⟨σ', h', e3, p3⟩ := loop_idx P hs m (i + 1) (by omega) σ2 h2 p2
    refine ⟨σ', h', ?_, p3⟩
    rw [List.range'_succ, List.map_cons]
    show (match tg (.int (i : Int)) σ with | none => RS.stk | some σ1 => match body σ1 h with
      | .ok .nx σ2 h2 => loopS tg body _ σ2 h2 | .ok .ct σ2 h2 => loopS tg body _ σ2 h2 | .ok .bk σ2 h2 => .ok .nx σ2 h2 | r => r) = _
    rw [e1]
    show (match body σ1 h with | .ok .nx σ2 h2 => loopS tg body _ σ2 h2 | .ok .ct σ2 h2 => loopS tg body _ σ2 h2 | .ok .bk σ2 h2 => .ok .nx σ2 h2 | r => r) = _
    rw [e2]
    exact e3
theorem rngD_eq (n : Nat) : rngD 0 n = (List.range' 0 n).map fun (j : Nat) => .int (j : Int) := by
  unfold rngD
  rw [List.range_eq_range']
  simp
theorem law_true : ∀ ns : List Int, ns.length ≤ 63 → ∃ h, m_law [.scr (ns.map .int)] [] = .ok (.bl true) h := by
  intro ns hl
  have es := silence_ev (n := 0) (by decide) (by decide) ([] : MH)
  have e0 : silP 0 = [] := rfl
  rw [e0] at es
  obtain ⟨i, hi⟩ : ∃ i : Int, (if 1 < (if (12 : Int) < ns.length then (12 : Int) else ns.length) then (if (12 : Int) < ns.length then (12 : Int) else ns.length) else 1) = i := ⟨_, rfl⟩
  have hi1 : 1 ≤ i ∧ i ≤ 12 := by rw [← hi]; split <;> split <;> omega
  have inw : inW i := ⟨by omega, by omega⟩
  obtain ⟨σ', h', e, p1, p2, p3⟩ := loop_idx (tg := tgName 2) (body := l_law_4) (n := i.toNat) (fun σ => σ.length = 12 ∧ σ[0]? = some (some (.d (.scr (ns.map .int)))) ∧ σ[1]? = some (some (.d (clipD []))))
    (fun j hj σ h ⟨q1, q2, q3⟩ => ⟨_, rfl, by
      obtain ⟨σ2, h2, e2, r1, r2, r3⟩ := k53_turn (ns := ns) (j := j) (by omega) h (σ.set 2 (some (.d (.int j)))) (by simpa using q1) (by rw [List.getElem?_set_ne (by decide)]; exact q2) (by rw [List.getElem?_set_ne (by decide)]; exact q3) (by rw [List.getElem?_set_self (by omega)])
      exact ⟨σ2, h2, e2, r1, r2, r3⟩⟩) i.toNat 0 (by omega) [some (.d (.scr (ns.map .int))), some (.d (clipD [])), none, none, none, none, none, none, none, none, none, none] [] ⟨rfl, rfl, rfl⟩
  rw [← rngD_eq] at e
  refine ⟨h', ?_⟩
  simp [m_law, b_law, es, hi, inw, e]
end Kx

set_option Elab.async false
set_option linter.all false
set_option maxRecDepth 100000
set_option maxHeartbeats 4000000
namespace Kx
open PySem PySem.Spec PyProof.Rows L2 Mi
theorem all_mk {P : Program} {w : World} {K : PySem.W.Frag} {h : Heap} {mg : Str → Option Value} {fa : Addr} (X : K.In h) (G : h.Ns mainGlobals mg) (hfa : mg "law" = some (.ref fa))
    {oc_is_integer kV_is_integer dc_is_integer pm_is_integer cd_is_integer ct_is_integer : Value} {od_is_integer an_is_integer : Option Addr} {sl_is_integer : Array (Option Value)} {f_is_integer : Addr}
    {oc_is_between kV_is_between dc_is_between pm_is_between cd_is_between ct_is_between : Value} {od_is_between an_is_between : Option Addr} {sl_is_between : Array (Option Value)} {f_is_between : Addr}
    {oc_piece_length kV_piece_length dc_piece_length pm_piece_length cd_piece_length ct_piece_length : Value} {od_piece_length an_piece_length : Option Addr} {sl_piece_length : Array (Option Value)} {f_piece_length : Addr}
    {oc_total_length kV_total_length dc_total_length pm_total_length cd_total_length ct_total_length : Value} {od_total_length an_total_length : Option Addr} {sl_total_length : Array (Option Value)} {f_total_length : Addr}
    {oc_piece_count kV_piece_count dc_piece_count pm_piece_count cd_piece_count ct_piece_count : Value} {od_piece_count an_piece_count : Option Addr} {sl_piece_count : Array (Option Value)} {f_piece_count : Addr}
    {T_Clip_ddinitdd : Addr} {cT_Clip_ddinitdd : Value} {dT_Clip_ddinitdd : Option Addr} {nT_Clip_ddinitdd : Nat} {sT_Clip_ddinitdd : Array (Option Value)} {v0_Clip_ddinitdd : Value}
    {oc_Clip_ddinitdd kV_Clip_ddinitdd dc_Clip_ddinitdd pm_Clip_ddinitdd cd_Clip_ddinitdd ct_Clip_ddinitdd : Value} {od_Clip_ddinitdd an_Clip_ddinitdd : Option Addr} {sl_Clip_ddinitdd : Array (Option Value)} {f_Clip_ddinitdd : Addr}
    {oc_Clip_silence kV_Clip_silence dc_Clip_silence pm_Clip_silence cd_Clip_silence ct_Clip_silence : Value} {od_Clip_silence an_Clip_silence : Option Addr} {sl_Clip_silence : Array (Option Value)} {f_Clip_silence : Addr}
    {oc__law_pool kV__law_pool dc__law_pool pm__law_pool cd__law_pool ct__law_pool : Value} {od__law_pool an__law_pool : Option Addr} {sl__law_pool : Array (Option Value)} {f__law_pool : Addr}
    {oc_is_row kV_is_row dc_is_row pm_is_row cd_is_row ct_is_row : Value} {od_is_row an_is_row : Option Addr} {sl_is_row : Array (Option Value)} {f_is_row : Addr}
    {oc_require_sound kV_require_sound dc_require_sound pm_require_sound cd_require_sound ct_require_sound : Value} {od_require_sound an_require_sound : Option Addr} {sl_require_sound : Array (Option Value)} {f_require_sound : Addr}
    {oc_Clip_samples kV_Clip_samples dc_Clip_samples pm_Clip_samples cd_Clip_samples ct_Clip_samples : Value} {od_Clip_samples an_Clip_samples : Option Addr} {sl_Clip_samples : Array (Option Value)} {f_Clip_samples : Addr}
    {oc_is_name kV_is_name dc_is_name pm_is_name cd_is_name ct_is_name : Value} {od_is_name an_is_name : Option Addr} {sl_is_name : Array (Option Value)} {f_is_name : Addr}
    {oc_Clip_part kV_Clip_part dc_Clip_part pm_Clip_part cd_Clip_part ct_Clip_part : Value} {od_Clip_part an_Clip_part : Option Addr} {sl_Clip_part : Array (Option Value)} {f_Clip_part : Addr}
    {oc_merged kV_merged dc_merged pm_merged cd_merged ct_merged : Value} {od_merged an_merged : Option Addr} {sl_merged : Array (Option Value)} {f_merged : Addr}
    {oc_both_pieces kV_both_pieces dc_both_pieces pm_both_pieces cd_both_pieces ct_both_pieces : Value} {od_both_pieces an_both_pieces : Option Addr} {sl_both_pieces : Array (Option Value)} {f_both_pieces : Addr}
    {oc_Clip_ddadddd kV_Clip_ddadddd dc_Clip_ddadddd pm_Clip_ddadddd cd_Clip_ddadddd ct_Clip_ddadddd : Value} {od_Clip_ddadddd an_Clip_ddadddd : Option Addr} {sl_Clip_ddadddd : Array (Option Value)} {f_Clip_ddadddd : Addr}
    {oc_repeated_pieces kV_repeated_pieces dc_repeated_pieces pm_repeated_pieces cd_repeated_pieces ct_repeated_pieces : Value} {od_repeated_pieces an_repeated_pieces : Option Addr} {sl_repeated_pieces : Array (Option Value)} {f_repeated_pieces : Addr}
    {oc_Clip_ddmuldd kV_Clip_ddmuldd dc_Clip_ddmuldd pm_Clip_ddmuldd cd_Clip_ddmuldd ct_Clip_ddmuldd : Value} {od_Clip_ddmuldd an_Clip_ddmuldd : Option Addr} {sl_Clip_ddmuldd : Array (Option Value)} {f_Clip_ddmuldd : Addr}
    {oc_gained_pieces kV_gained_pieces dc_gained_pieces pm_gained_pieces cd_gained_pieces ct_gained_pieces : Value} {od_gained_pieces an_gained_pieces : Option Addr} {sl_gained_pieces : Array (Option Value)} {f_gained_pieces : Addr}
    {oc_Clip_gained kV_Clip_gained dc_Clip_gained pm_Clip_gained cd_Clip_gained ct_Clip_gained : Value} {od_Clip_gained an_Clip_gained : Option Addr} {sl_Clip_gained : Array (Option Value)} {f_Clip_gained : Addr}
    {oc__law_made kV__law_made dc__law_made pm__law_made cd__law_made ct__law_made : Value} {od__law_made an__law_made : Option Addr} {sl__law_made : Array (Option Value)} {f__law_made : Addr}
    {oc__law_take kV__law_take dc__law_take pm__law_take cd__law_take ct__law_take : Value} {od__law_take an__law_take : Option Addr} {sl__law_take : Array (Option Value)} {f__law_take : Addr}
    {oc__law_tree kV__law_tree dc__law_tree pm__law_tree cd__law_tree ct__law_tree : Value} {od__law_tree an__law_tree : Option Addr} {sl__law_tree : Array (Option Value)} {f__law_tree : Addr}
    {oc_Clip_ddeqdd kV_Clip_ddeqdd dc_Clip_ddeqdd pm_Clip_ddeqdd cd_Clip_ddeqdd ct_Clip_ddeqdd : Value} {od_Clip_ddeqdd an_Clip_ddeqdd : Option Addr} {sl_Clip_ddeqdd : Array (Option Value)} {f_Clip_ddeqdd : Addr}
    {oc_Clip_length kV_Clip_length dc_Clip_length pm_Clip_length cd_Clip_length ct_Clip_length : Value} {od_Clip_length an_Clip_length : Option Addr} {sl_Clip_length : Array (Option Value)} {f_Clip_length : Addr}
    {oc__law_same kV__law_same dc__law_same pm__law_same cd__law_same ct__law_same : Value} {od__law_same an__law_same : Option Addr} {sl__law_same : Array (Option Value)} {f__law_same : Addr}
    {oc_names_in kV_names_in dc_names_in pm_names_in cd_names_in ct_names_in : Value} {od_names_in an_names_in : Option Addr} {sl_names_in : Array (Option Value)} {f_names_in : Addr}
    {oc_Clip_names kV_Clip_names dc_Clip_names pm_Clip_names cd_Clip_names ct_Clip_names : Value} {od_Clip_names an_Clip_names : Option Addr} {sl_Clip_names : Array (Option Value)} {f_Clip_names : Addr}
    {oc_law kV_law dc_law pm_law cd_law ct_law : Value} {od_law an_law : Option Addr} {sl_law : Array (Option Value)} {f_law : Addr}
    {C_Clip : Addr}
    {p_Clip_silence : Addr} {r_Clip_silence : List Value}
    {p_Clip_samples : Addr} {r_Clip_samples : List Value}
    {p_Clip_part : Addr} {r_Clip_part : List Value}
    {fo_Clip_ddmuldd_int ro_Clip_ddmuldd_int : Option Value}
    {q_Clip_length : Addr} {r_Clip_length : List Value}
    {t_LETTERS : Tok}
    {t_MAX_COUNT : Tok}
    {t_MAX_GAIN : Tok}
    {t_MAX_LENGTH : Tok}
    {t_MAX_NAME : Tok}
    {t_MAX_PIECES : Tok}
    (g_Clip : PySem.W.nsIn K mainGlobals "Clip" = some (some (.ref C_Clip)))
    (g_law : PySem.W.nsIn K mainGlobals "law" = some (some (.ref f_law)))
    (g_names_in : PySem.W.nsIn K mainGlobals "names_in" = some (some (.ref f_names_in)))
    (g__law_same : PySem.W.nsIn K mainGlobals "_law_same" = some (some (.ref f__law_same)))
    (g__law_tree : PySem.W.nsIn K mainGlobals "_law_tree" = some (some (.ref f__law_tree)))
    (g__law_take : PySem.W.nsIn K mainGlobals "_law_take" = some (some (.ref f__law_take)))
    (g__law_made : PySem.W.nsIn K mainGlobals "_law_made" = some (some (.ref f__law_made)))
    (g_gained_pieces : PySem.W.nsIn K mainGlobals "gained_pieces" = some (some (.ref f_gained_pieces)))
    (g_repeated_pieces : PySem.W.nsIn K mainGlobals "repeated_pieces" = some (some (.ref f_repeated_pieces)))
    (g_both_pieces : PySem.W.nsIn K mainGlobals "both_pieces" = some (some (.ref f_both_pieces)))
    (g_merged : PySem.W.nsIn K mainGlobals "merged" = some (some (.ref f_merged)))
    (g_is_name : PySem.W.nsIn K mainGlobals "is_name" = some (some (.ref f_is_name)))
    (g_require_sound : PySem.W.nsIn K mainGlobals "require_sound" = some (some (.ref f_require_sound)))
    (g_is_row : PySem.W.nsIn K mainGlobals "is_row" = some (some (.ref f_is_row)))
    (g__law_pool : PySem.W.nsIn K mainGlobals "_law_pool" = some (some (.ref f__law_pool)))
    (g_piece_count : PySem.W.nsIn K mainGlobals "piece_count" = some (some (.ref f_piece_count)))
    (g_total_length : PySem.W.nsIn K mainGlobals "total_length" = some (some (.ref f_total_length)))
    (g_piece_length : PySem.W.nsIn K mainGlobals "piece_length" = some (some (.ref f_piece_length)))
    (g_is_between : PySem.W.nsIn K mainGlobals "is_between" = some (some (.ref f_is_between)))
    (g_is_integer : PySem.W.nsIn K mainGlobals "is_integer" = some (some (.ref f_is_integer)))
    (l_is_integer : K.lookup f_is_integer = some ⟨oc_is_integer, od_is_integer, .func (PySem.W.fnOf "is_integer" "is_integer" (defArgs s_is_integer) (defBody s_is_integer) (defScope s_is_integer) .none kV_is_integer dc_is_integer pm_is_integer an_is_integer cd_is_integer ct_is_integer), sl_is_integer⟩)
    (e_is_integer : PySem.W.codeIn K cd_is_integer "is_integer" = true)
    (k_is_integer : PySem.W.keepIn K (.ref f_is_integer) = true)
    (l_is_between : K.lookup f_is_between = some ⟨oc_is_between, od_is_between, .func (PySem.W.fnOf "is_between" "is_between" (defArgs s_is_between) (defBody s_is_between) (defScope s_is_between) .none kV_is_between dc_is_between pm_is_between an_is_between cd_is_between ct_is_between), sl_is_between⟩)
    (e_is_between : PySem.W.codeIn K cd_is_between "is_between" = true)
    (k_is_between : PySem.W.keepIn K (.ref f_is_between) = true)
    (l_piece_length : K.lookup f_piece_length = some ⟨oc_piece_length, od_piece_length, .func (PySem.W.fnOf "piece_length" "piece_length" (defArgs s_piece_length) (defBody s_piece_length) (defScope s_piece_length) .none kV_piece_length dc_piece_length pm_piece_length an_piece_length cd_piece_length ct_piece_length), sl_piece_length⟩)
    (e_piece_length : PySem.W.codeIn K cd_piece_length "piece_length" = true)
    (k_piece_length : PySem.W.keepIn K (.ref f_piece_length) = true)
    (l_total_length : K.lookup f_total_length = some ⟨oc_total_length, od_total_length, .func (PySem.W.fnOf "total_length" "total_length" (defArgs s_total_length) (defBody s_total_length) (defScope s_total_length) .none kV_total_length dc_total_length pm_total_length an_total_length cd_total_length ct_total_length), sl_total_length⟩)
    (e_total_length : PySem.W.codeIn K cd_total_length "total_length" = true)
    (k_total_length : PySem.W.keepIn K (.ref f_total_length) = true)
    (l_piece_count : K.lookup f_piece_count = some ⟨oc_piece_count, od_piece_count, .func (PySem.W.fnOf "piece_count" "piece_count" (defArgs s_piece_count) (defBody s_piece_count) (defScope s_piece_count) .none kV_piece_count dc_piece_count pm_piece_count an_piece_count cd_piece_count ct_piece_count), sl_piece_count⟩)
    (e_piece_count : PySem.W.codeIn K cd_piece_count "piece_count" = true)
    (k_piece_count : PySem.W.keepIn K (.ref f_piece_count) = true)
    (l_Clip_ddinitdd : K.lookup f_Clip_ddinitdd = some ⟨oc_Clip_ddinitdd, od_Clip_ddinitdd, .func (PySem.W.fnOf "__init__" "Clip.__init__" (defArgs s_Clip_ddinitdd) (defBody s_Clip_ddinitdd) (defScope s_Clip_ddinitdd) (.ref T_Clip_ddinitdd) kV_Clip_ddinitdd dc_Clip_ddinitdd pm_Clip_ddinitdd an_Clip_ddinitdd cd_Clip_ddinitdd ct_Clip_ddinitdd), sl_Clip_ddinitdd⟩)
    (e_Clip_ddinitdd : PySem.W.codeIn K cd_Clip_ddinitdd "Clip.__init__" = true)
    (k_Clip_ddinitdd : PySem.W.keepIn K (.ref f_Clip_ddinitdd) = true)
    (z_Clip_ddinitdd : K.lookup T_Clip_ddinitdd = some ⟨cT_Clip_ddinitdd, dT_Clip_ddinitdd, .seq #[v0_Clip_ddinitdd] nT_Clip_ddinitdd, sT_Clip_ddinitdd⟩)
    (l_Clip_silence : K.lookup f_Clip_silence = some ⟨oc_Clip_silence, od_Clip_silence, .func (PySem.W.fnOf "silence" "Clip.silence" (defArgs s_Clip_silence) (defBody s_Clip_silence) (defScope s_Clip_silence) .none kV_Clip_silence dc_Clip_silence pm_Clip_silence an_Clip_silence cd_Clip_silence ct_Clip_silence), sl_Clip_silence⟩)
    (e_Clip_silence : PySem.W.codeIn K cd_Clip_silence "Clip.silence" = true)
    (k_Clip_silence : PySem.W.keepIn K (.ref f_Clip_silence) = true)
    (l__law_pool : K.lookup f__law_pool = some ⟨oc__law_pool, od__law_pool, .func (PySem.W.fnOf "_law_pool" "_law_pool" (defArgs s__law_pool) (defBody s__law_pool) (defScope s__law_pool) .none kV__law_pool dc__law_pool pm__law_pool an__law_pool cd__law_pool ct__law_pool), sl__law_pool⟩)
    (e__law_pool : PySem.W.codeIn K cd__law_pool "_law_pool" = true)
    (k__law_pool : PySem.W.keepIn K (.ref f__law_pool) = true)
    (l_is_row : K.lookup f_is_row = some ⟨oc_is_row, od_is_row, .func (PySem.W.fnOf "is_row" "is_row" (defArgs s_is_row) (defBody s_is_row) (defScope s_is_row) .none kV_is_row dc_is_row pm_is_row an_is_row cd_is_row ct_is_row), sl_is_row⟩)
    (e_is_row : PySem.W.codeIn K cd_is_row "is_row" = true)
    (k_is_row : PySem.W.keepIn K (.ref f_is_row) = true)
    (l_require_sound : K.lookup f_require_sound = some ⟨oc_require_sound, od_require_sound, .func (PySem.W.fnOf "require_sound" "require_sound" (defArgs s_require_sound) (defBody s_require_sound) (defScope s_require_sound) .none kV_require_sound dc_require_sound pm_require_sound an_require_sound cd_require_sound ct_require_sound), sl_require_sound⟩)
    (e_require_sound : PySem.W.codeIn K cd_require_sound "require_sound" = true)
    (k_require_sound : PySem.W.keepIn K (.ref f_require_sound) = true)
    (l_Clip_samples : K.lookup f_Clip_samples = some ⟨oc_Clip_samples, od_Clip_samples, .func (PySem.W.fnOf "samples" "Clip.samples" (defArgs s_Clip_samples) (defBody s_Clip_samples) (defScope s_Clip_samples) .none kV_Clip_samples dc_Clip_samples pm_Clip_samples an_Clip_samples cd_Clip_samples ct_Clip_samples), sl_Clip_samples⟩)
    (e_Clip_samples : PySem.W.codeIn K cd_Clip_samples "Clip.samples" = true)
    (k_Clip_samples : PySem.W.keepIn K (.ref f_Clip_samples) = true)
    (l_is_name : K.lookup f_is_name = some ⟨oc_is_name, od_is_name, .func (PySem.W.fnOf "is_name" "is_name" (defArgs s_is_name) (defBody s_is_name) (defScope s_is_name) .none kV_is_name dc_is_name pm_is_name an_is_name cd_is_name ct_is_name), sl_is_name⟩)
    (e_is_name : PySem.W.codeIn K cd_is_name "is_name" = true)
    (k_is_name : PySem.W.keepIn K (.ref f_is_name) = true)
    (l_Clip_part : K.lookup f_Clip_part = some ⟨oc_Clip_part, od_Clip_part, .func (PySem.W.fnOf "part" "Clip.part" (defArgs s_Clip_part) (defBody s_Clip_part) (defScope s_Clip_part) .none kV_Clip_part dc_Clip_part pm_Clip_part an_Clip_part cd_Clip_part ct_Clip_part), sl_Clip_part⟩)
    (e_Clip_part : PySem.W.codeIn K cd_Clip_part "Clip.part" = true)
    (k_Clip_part : PySem.W.keepIn K (.ref f_Clip_part) = true)
    (l_merged : K.lookup f_merged = some ⟨oc_merged, od_merged, .func (PySem.W.fnOf "merged" "merged" (defArgs s_merged) (defBody s_merged) (defScope s_merged) .none kV_merged dc_merged pm_merged an_merged cd_merged ct_merged), sl_merged⟩)
    (e_merged : PySem.W.codeIn K cd_merged "merged" = true)
    (k_merged : PySem.W.keepIn K (.ref f_merged) = true)
    (l_both_pieces : K.lookup f_both_pieces = some ⟨oc_both_pieces, od_both_pieces, .func (PySem.W.fnOf "both_pieces" "both_pieces" (defArgs s_both_pieces) (defBody s_both_pieces) (defScope s_both_pieces) .none kV_both_pieces dc_both_pieces pm_both_pieces an_both_pieces cd_both_pieces ct_both_pieces), sl_both_pieces⟩)
    (e_both_pieces : PySem.W.codeIn K cd_both_pieces "both_pieces" = true)
    (k_both_pieces : PySem.W.keepIn K (.ref f_both_pieces) = true)
    (l_Clip_ddadddd : K.lookup f_Clip_ddadddd = some ⟨oc_Clip_ddadddd, od_Clip_ddadddd, .func (PySem.W.fnOf "__add__" "Clip.__add__" (defArgs s_Clip_ddadddd) (defBody s_Clip_ddadddd) (defScope s_Clip_ddadddd) .none kV_Clip_ddadddd dc_Clip_ddadddd pm_Clip_ddadddd an_Clip_ddadddd cd_Clip_ddadddd ct_Clip_ddadddd), sl_Clip_ddadddd⟩)
    (e_Clip_ddadddd : PySem.W.codeIn K cd_Clip_ddadddd "Clip.__add__" = true)
    (k_Clip_ddadddd : PySem.W.keepIn K (.ref f_Clip_ddadddd) = true)
    (l_repeated_pieces : K.lookup f_repeated_pieces = some ⟨oc_repeated_pieces, od_repeated_pieces, .func (PySem.W.fnOf "repeated_pieces" "repeated_pieces" (defArgs s_repeated_pieces) (defBody s_repeated_pieces) (defScope s_repeated_pieces) .none kV_repeated_pieces dc_repeated_pieces pm_repeated_pieces an_repeated_pieces cd_repeated_pieces ct_repeated_pieces), sl_repeated_pieces⟩)
    (e_repeated_pieces : PySem.W.codeIn K cd_repeated_pieces "repeated_pieces" = true)
    (k_repeated_pieces : PySem.W.keepIn K (.ref f_repeated_pieces) = true)
    (l_Clip_ddmuldd : K.lookup f_Clip_ddmuldd = some ⟨oc_Clip_ddmuldd, od_Clip_ddmuldd, .func (PySem.W.fnOf "__mul__" "Clip.__mul__" (defArgs s_Clip_ddmuldd) (defBody s_Clip_ddmuldd) (defScope s_Clip_ddmuldd) .none kV_Clip_ddmuldd dc_Clip_ddmuldd pm_Clip_ddmuldd an_Clip_ddmuldd cd_Clip_ddmuldd ct_Clip_ddmuldd), sl_Clip_ddmuldd⟩)
    (e_Clip_ddmuldd : PySem.W.codeIn K cd_Clip_ddmuldd "Clip.__mul__" = true)
    (k_Clip_ddmuldd : PySem.W.keepIn K (.ref f_Clip_ddmuldd) = true)
    (l_gained_pieces : K.lookup f_gained_pieces = some ⟨oc_gained_pieces, od_gained_pieces, .func (PySem.W.fnOf "gained_pieces" "gained_pieces" (defArgs s_gained_pieces) (defBody s_gained_pieces) (defScope s_gained_pieces) .none kV_gained_pieces dc_gained_pieces pm_gained_pieces an_gained_pieces cd_gained_pieces ct_gained_pieces), sl_gained_pieces⟩)
    (e_gained_pieces : PySem.W.codeIn K cd_gained_pieces "gained_pieces" = true)
    (k_gained_pieces : PySem.W.keepIn K (.ref f_gained_pieces) = true)
    (l_Clip_gained : K.lookup f_Clip_gained = some ⟨oc_Clip_gained, od_Clip_gained, .func (PySem.W.fnOf "gained" "Clip.gained" (defArgs s_Clip_gained) (defBody s_Clip_gained) (defScope s_Clip_gained) .none kV_Clip_gained dc_Clip_gained pm_Clip_gained an_Clip_gained cd_Clip_gained ct_Clip_gained), sl_Clip_gained⟩)
    (e_Clip_gained : PySem.W.codeIn K cd_Clip_gained "Clip.gained" = true)
    (k_Clip_gained : PySem.W.keepIn K (.ref f_Clip_gained) = true)
    (l__law_made : K.lookup f__law_made = some ⟨oc__law_made, od__law_made, .func (PySem.W.fnOf "_law_made" "_law_made" (defArgs s__law_made) (defBody s__law_made) (defScope s__law_made) .none kV__law_made dc__law_made pm__law_made an__law_made cd__law_made ct__law_made), sl__law_made⟩)
    (e__law_made : PySem.W.codeIn K cd__law_made "_law_made" = true)
    (k__law_made : PySem.W.keepIn K (.ref f__law_made) = true)
    (l__law_take : K.lookup f__law_take = some ⟨oc__law_take, od__law_take, .func (PySem.W.fnOf "_law_take" "_law_take" (defArgs s__law_take) (defBody s__law_take) (defScope s__law_take) .none kV__law_take dc__law_take pm__law_take an__law_take cd__law_take ct__law_take), sl__law_take⟩)
    (e__law_take : PySem.W.codeIn K cd__law_take "_law_take" = true)
    (k__law_take : PySem.W.keepIn K (.ref f__law_take) = true)
    (l__law_tree : K.lookup f__law_tree = some ⟨oc__law_tree, od__law_tree, .func (PySem.W.fnOf "_law_tree" "_law_tree" (defArgs s__law_tree) (defBody s__law_tree) (defScope s__law_tree) .none kV__law_tree dc__law_tree pm__law_tree an__law_tree cd__law_tree ct__law_tree), sl__law_tree⟩)
    (e__law_tree : PySem.W.codeIn K cd__law_tree "_law_tree" = true)
    (k__law_tree : PySem.W.keepIn K (.ref f__law_tree) = true)
    (l_Clip_ddeqdd : K.lookup f_Clip_ddeqdd = some ⟨oc_Clip_ddeqdd, od_Clip_ddeqdd, .func (PySem.W.fnOf "__eq__" "Clip.__eq__" (defArgs s_Clip_ddeqdd) (defBody s_Clip_ddeqdd) (defScope s_Clip_ddeqdd) .none kV_Clip_ddeqdd dc_Clip_ddeqdd pm_Clip_ddeqdd an_Clip_ddeqdd cd_Clip_ddeqdd ct_Clip_ddeqdd), sl_Clip_ddeqdd⟩)
    (e_Clip_ddeqdd : PySem.W.codeIn K cd_Clip_ddeqdd "Clip.__eq__" = true)
    (k_Clip_ddeqdd : PySem.W.keepIn K (.ref f_Clip_ddeqdd) = true)
    (l_Clip_length : K.lookup f_Clip_length = some ⟨oc_Clip_length, od_Clip_length, .func (PySem.W.fnOf "length" "Clip.length" (defArgs s_Clip_length) (defBody s_Clip_length) (defScope s_Clip_length) .none kV_Clip_length dc_Clip_length pm_Clip_length an_Clip_length cd_Clip_length ct_Clip_length), sl_Clip_length⟩)
    (e_Clip_length : PySem.W.codeIn K cd_Clip_length "Clip.length" = true)
    (k_Clip_length : PySem.W.keepIn K (.ref f_Clip_length) = true)
    (l__law_same : K.lookup f__law_same = some ⟨oc__law_same, od__law_same, .func (PySem.W.fnOf "_law_same" "_law_same" (defArgs s__law_same) (defBody s__law_same) (defScope s__law_same) .none kV__law_same dc__law_same pm__law_same an__law_same cd__law_same ct__law_same), sl__law_same⟩)
    (e__law_same : PySem.W.codeIn K cd__law_same "_law_same" = true)
    (k__law_same : PySem.W.keepIn K (.ref f__law_same) = true)
    (l_names_in : K.lookup f_names_in = some ⟨oc_names_in, od_names_in, .func (PySem.W.fnOf "names_in" "names_in" (defArgs s_names_in) (defBody s_names_in) (defScope s_names_in) .none kV_names_in dc_names_in pm_names_in an_names_in cd_names_in ct_names_in), sl_names_in⟩)
    (e_names_in : PySem.W.codeIn K cd_names_in "names_in" = true)
    (k_names_in : PySem.W.keepIn K (.ref f_names_in) = true)
    (l_Clip_names : K.lookup f_Clip_names = some ⟨oc_Clip_names, od_Clip_names, .func (PySem.W.fnOf "names" "Clip.names" (defArgs s_Clip_names) (defBody s_Clip_names) (defScope s_Clip_names) .none kV_Clip_names dc_Clip_names pm_Clip_names an_Clip_names cd_Clip_names ct_Clip_names), sl_Clip_names⟩)
    (e_Clip_names : PySem.W.codeIn K cd_Clip_names "Clip.names" = true)
    (k_Clip_names : PySem.W.keepIn K (.ref f_Clip_names) = true)
    (l_law : K.lookup f_law = some ⟨oc_law, od_law, .func (PySem.W.fnOf "law" "law" (defArgs s_law) (defBody s_law) (defScope s_law) .none kV_law dc_law pm_law an_law cd_law ct_law), sl_law⟩)
    (e_law : PySem.W.codeIn K cd_law "law" = true)
    (k_law : PySem.W.keepIn K (.ref f_law) = true)
    (pg_Clip : PySem.W.plainGet K C_Clip Str.empty = true)
    (hd_Clip : PySem.W.hasDictIn K C_Clip = true)
    (po_Clip : PySem.W.plainOver K C_Clip = true)
    (sa_Clip : PySem.W.findIn K (.ref C_Clip) "__setattr__" = some (some (.builtin "object.__setattr__")))
    (nf_Clip_own_pieces : PySem.W.findIn K (.ref C_Clip) "own_pieces" = some none)
    (nf_Clip_own_length : PySem.W.findIn K (.ref C_Clip) "own_length" = some none)
    (in_Clip_ddinitdd : PySem.W.findIn K (.ref C_Clip) "__init__" = some (some (.ref f_Clip_ddinitdd)))
    (fn_Clip_ddinitdd : PySem.W.isFn K (.ref f_Clip_ddinitdd) = true)
    (mk_Clip : PySem.W.makesIn K C_Clip = true)
    (kc_Clip : PySem.W.keepIn K (.ref C_Clip) = true)
    (ty_Clip_silence : PySem.W.typeIn K (.ref C_Clip) = some (.type "type"))
    (rd_Clip_silence : PySem.W.readsIn K C_Clip (.type "type") = true)
    (fc_Clip_silence : PySem.W.findCls K (.ref C_Clip) (.type "type") "silence" = some (.get (.builtin "staticmethod.__get__") (.ref p_Clip_silence) .none (.ref C_Clip)))
    (rc_Clip_silence : PySem.W.recIn K p_Clip_silence "staticmethod" = some (.ref f_Clip_silence :: r_Clip_silence))
    (ga_Clip_silence : PySem.W.specialIn K (.ref C_Clip) "__getattribute__" = some (some (.builtin "type.__getattribute__")))
    (ty_Clip_samples : PySem.W.typeIn K (.ref C_Clip) = some (.type "type"))
    (rd_Clip_samples : PySem.W.readsIn K C_Clip (.type "type") = true)
    (fc_Clip_samples : PySem.W.findCls K (.ref C_Clip) (.type "type") "samples" = some (.get (.builtin "staticmethod.__get__") (.ref p_Clip_samples) .none (.ref C_Clip)))
    (rc_Clip_samples : PySem.W.recIn K p_Clip_samples "staticmethod" = some (.ref f_Clip_samples :: r_Clip_samples))
    (ga_Clip_samples : PySem.W.specialIn K (.ref C_Clip) "__getattribute__" = some (some (.builtin "type.__getattribute__")))
    (ty_Clip_part : PySem.W.typeIn K (.ref C_Clip) = some (.type "type"))
    (rd_Clip_part : PySem.W.readsIn K C_Clip (.type "type") = true)
    (fc_Clip_part : PySem.W.findCls K (.ref C_Clip) (.type "type") "part" = some (.get (.builtin "staticmethod.__get__") (.ref p_Clip_part) .none (.ref C_Clip)))
    (rc_Clip_part : PySem.W.recIn K p_Clip_part "staticmethod" = some (.ref f_Clip_part :: r_Clip_part))
    (ga_Clip_part : PySem.W.specialIn K (.ref C_Clip) "__getattribute__" = some (some (.builtin "type.__getattribute__")))
    (in_Clip_ddadddd : PySem.W.findIn K (.ref C_Clip) "__add__" = some (some (.ref f_Clip_ddadddd)))
    (fn_Clip_ddadddd : PySem.W.isFn K (.ref f_Clip_ddadddd) = true)
    (sf_Clip_ddadddd : PySem.W.selfFirst K C_Clip = true)
    (rf_Clip_ddadddd : PySem.W.findIn K (.ref C_Clip) "__radd__" = some none)
    (in_Clip_ddmuldd : PySem.W.findIn K (.ref C_Clip) "__mul__" = some (some (.ref f_Clip_ddmuldd)))
    (fn_Clip_ddmuldd : PySem.W.isFn K (.ref f_Clip_ddmuldd) = true)
    (sf_Clip_ddmuldd : PySem.W.selfFirst K C_Clip = true)
    (rf_Clip_ddmuldd : PySem.W.findIn K (.ref C_Clip) "__rmul__" = some none)
    (fp_Clip_ddmuldd_int : PySem.W.findIn K (.type "int") "__mul__" = some fo_Clip_ddmuldd_int)
    (rp_Clip_ddmuldd_int : PySem.W.findIn K (.type "int") "__rmul__" = some ro_Clip_ddmuldd_int)
    (sb_Clip_ddmuldd_int : PySem.W.subIn K (.type "int") (.ref C_Clip) = some false)
    (at_Clip_gained : PySem.W.findIn K (.ref C_Clip) "gained" = some (some (.ref f_Clip_gained)))
    (if_Clip_gained : PySem.W.isFn K (.ref f_Clip_gained) = true)
    (in_Clip_ddeqdd : PySem.W.findIn K (.ref C_Clip) "__eq__" = some (some (.ref f_Clip_ddeqdd)))
    (fn_Clip_ddeqdd : PySem.W.isFn K (.ref f_Clip_ddeqdd) = true)
    (nq_Clip_ddeqdd : PySem.W.notFirst K C_Clip (.ref C_Clip) = true)
    (at_Clip_length : PySem.W.findIn K (.ref C_Clip) "length" = some (some (.ref q_Clip_length)))
    (gt_Clip_length : PySem.W.specialIn K (.ref q_Clip_length) "__get__" = some (some (.builtin "property.__get__")))
    (tk_Clip_length : PySem.W.takesIn K (.ref q_Clip_length) = some true)
    (rc_Clip_length : PySem.W.recIn K q_Clip_length "property" = some (.ref f_Clip_length :: r_Clip_length))
    (at_Clip_names : PySem.W.findIn K (.ref C_Clip) "names" = some (some (.ref f_Clip_names)))
    (if_Clip_names : PySem.W.isFn K (.ref f_Clip_names) = true)
    (g_LETTERS : PySem.W.nsIn K mainGlobals "LETTERS" = some (some (.str "abcdefghijklmnopqrstuvwxyz" t_LETTERS)))
    (g_MAX_COUNT : PySem.W.nsIn K mainGlobals "MAX_COUNT" = some (some (.int (1000000000000000000000000000000) t_MAX_COUNT)))
    (g_MAX_GAIN : PySem.W.nsIn K mainGlobals "MAX_GAIN" = some (some (.int (1000) t_MAX_GAIN)))
    (g_MAX_LENGTH : PySem.W.nsIn K mainGlobals "MAX_LENGTH" = some (some (.int (10000000000000000000000000000000000000000) t_MAX_LENGTH)))
    (g_MAX_NAME : PySem.W.nsIn K mainGlobals "MAX_NAME" = some (some (.int (8) t_MAX_NAME)))
    (g_MAX_PIECES : PySem.W.nsIn K mainGlobals "MAX_PIECES" = some (some (.int (200) t_MAX_PIECES)))
    (n_abs : PySem.W.nsIn K mainGlobals "abs" = some none)
    (n_all : PySem.W.nsIn K mainGlobals "all" = some none)
    (n_bool : PySem.W.nsIn K mainGlobals "bool" = some none)
    (n_enumerate : PySem.W.nsIn K mainGlobals "enumerate" = some none)
    (n_int : PySem.W.nsIn K mainGlobals "int" = some none)
    (n_isinstance : PySem.W.nsIn K mainGlobals "isinstance" = some none)
    (n_len : PySem.W.nsIn K mainGlobals "len" = some none)
    (n_list : PySem.W.nsIn K mainGlobals "list" = some none)
    (n_max : PySem.W.nsIn K mainGlobals "max" = some none)
    (n_min : PySem.W.nsIn K mainGlobals "min" = some none)
    (n_range : PySem.W.nsIn K mainGlobals "range" = some none)
    (n_sorted : PySem.W.nsIn K mainGlobals "sorted" = some none)
    (n_str : PySem.W.nsIn K mainGlobals "str" = some none)
    (n_sum : PySem.W.nsIn K mainGlobals "sum" = some none)
    (n_tuple : PySem.W.nsIn K mainGlobals "tuple" = some none)
    (n_zip : PySem.W.nsIn K mainGlobals "zip" = some none)
    (ia_Clip : PySem.W.findIn K (.ref C_Clip) "__class__" = some (some (.builtin "object.__class__")))
    (ib_Clip : PySem.W.specialIn K (.builtin "object.__class__") "__get__" = some (some (.builtin "getset_descriptor.__get__")))
    (ic_Clip : PySem.W.takesIn K (.builtin "object.__class__") = some true)
    (id_Clip : PySem.W.mroIn K C_Clip (.type "object") = some true)
    (ie_Clip : PySem.W.isClsIn K C_Clip = true)
    (ig_Clip : PySem.W.typeIn K (.ref C_Clip) = some (.type "type"))
    (ih_Clip_int : PySem.W.subIn K (.ref C_Clip) (.type "int") = some false)
    (ih_Clip_bool : PySem.W.subIn K (.ref C_Clip) (.type "bool") = some false)
    (ih_Clip_str : PySem.W.subIn K (.ref C_Clip) (.type "str") = some false)
    (ih_Clip_list : PySem.W.subIn K (.ref C_Clip) (.type "list") = some false)
    (ih_Clip_tuple : PySem.W.subIn K (.ref C_Clip) (.type "tuple") = some false)
    (ii_Clip_NoneType : PySem.W.subIn K (.type "NoneType") (.ref C_Clip) = some false)
    (ii_Clip_bool : PySem.W.subIn K (.type "bool") (.ref C_Clip) = some false)
    (ii_Clip_int : PySem.W.subIn K (.type "int") (.ref C_Clip) = some false)
    (ii_Clip_str : PySem.W.subIn K (.type "str") (.ref C_Clip) = some false)
    (ii_Clip_tuple : PySem.W.subIn K (.type "tuple") (.ref C_Clip) = some false)
    (ii_Clip_list : PySem.W.subIn K (.type "list") (.ref C_Clip) = some false)
    (ii_Clip_dict : PySem.W.subIn K (.type "dict") (.ref C_Clip) = some false)
    : ∃ fd : FuncData, (∀ (s : Shared) (v : Value), BindsTo s fd ⟨[v], []⟩ [("script", v)]) ∧ ∀ base : Heap, K.In base → base.Ns mainGlobals mg → FnOk P w K mg base (L2.CX P w) 48 fa fd ["script"] (spLaw K) := by
  have e : f_law = fa := by have e := hfa.symm.trans (PySem.W.mg_of X G g_law); cases e; rfl
  subst e
  let A : Ad := {
    f_is_integer := f_is_integer,
    d_is_integer := (PySem.W.fnOf "is_integer" "is_integer" (defArgs s_is_integer) (defBody s_is_integer) (defScope s_is_integer) .none kV_is_integer dc_is_integer pm_is_integer an_is_integer cd_is_integer ct_is_integer),
    f_is_between := f_is_between,
    d_is_between := (PySem.W.fnOf "is_between" "is_between" (defArgs s_is_between) (defBody s_is_between) (defScope s_is_between) .none kV_is_between dc_is_between pm_is_between an_is_between cd_is_between ct_is_between),
    f_piece_length := f_piece_length,
    d_piece_length := (PySem.W.fnOf "piece_length" "piece_length" (defArgs s_piece_length) (defBody s_piece_length) (defScope s_piece_length) .none kV_piece_length dc_piece_length pm_piece_length an_piece_length cd_piece_length ct_piece_length),
    f_total_length := f_total_length,
    d_total_length := (PySem.W.fnOf "total_length" "total_length" (defArgs s_total_length) (defBody s_total_length) (defScope s_total_length) .none kV_total_length dc_total_length pm_total_length an_total_length cd_total_length ct_total_length),
    f_piece_count := f_piece_count,
    d_piece_count := (PySem.W.fnOf "piece_count" "piece_count" (defArgs s_piece_count) (defBody s_piece_count) (defScope s_piece_count) .none kV_piece_count dc_piece_count pm_piece_count an_piece_count cd_piece_count ct_piece_count),
    f_Clip_ddinitdd := f_Clip_ddinitdd,
    d_Clip_ddinitdd := (PySem.W.fnOf "__init__" "Clip.__init__" (defArgs s_Clip_ddinitdd) (defBody s_Clip_ddinitdd) (defScope s_Clip_ddinitdd) (.ref T_Clip_ddinitdd) kV_Clip_ddinitdd dc_Clip_ddinitdd pm_Clip_ddinitdd an_Clip_ddinitdd cd_Clip_ddinitdd ct_Clip_ddinitdd),
    f_Clip_silence := f_Clip_silence,
    d_Clip_silence := (PySem.W.fnOf "silence" "Clip.silence" (defArgs s_Clip_silence) (defBody s_Clip_silence) (defScope s_Clip_silence) .none kV_Clip_silence dc_Clip_silence pm_Clip_silence an_Clip_silence cd_Clip_silence ct_Clip_silence),
    f__law_pool := f__law_pool,
    d__law_pool := (PySem.W.fnOf "_law_pool" "_law_pool" (defArgs s__law_pool) (defBody s__law_pool) (defScope s__law_pool) .none kV__law_pool dc__law_pool pm__law_pool an__law_pool cd__law_pool ct__law_pool),
    f_is_row := f_is_row,
    d_is_row := (PySem.W.fnOf "is_row" "is_row" (defArgs s_is_row) (defBody s_is_row) (defScope s_is_row) .none kV_is_row dc_is_row pm_is_row an_is_row cd_is_row ct_is_row),
    f_require_sound := f_require_sound,
    d_require_sound := (PySem.W.fnOf "require_sound" "require_sound" (defArgs s_require_sound) (defBody s_require_sound) (defScope s_require_sound) .none kV_require_sound dc_require_sound pm_require_sound an_require_sound cd_require_sound ct_require_sound),
    f_Clip_samples := f_Clip_samples,
    d_Clip_samples := (PySem.W.fnOf "samples" "Clip.samples" (defArgs s_Clip_samples) (defBody s_Clip_samples) (defScope s_Clip_samples) .none kV_Clip_samples dc_Clip_samples pm_Clip_samples an_Clip_samples cd_Clip_samples ct_Clip_samples),
    f_is_name := f_is_name,
    d_is_name := (PySem.W.fnOf "is_name" "is_name" (defArgs s_is_name) (defBody s_is_name) (defScope s_is_name) .none kV_is_name dc_is_name pm_is_name an_is_name cd_is_name ct_is_name),
    f_Clip_part := f_Clip_part,
    d_Clip_part := (PySem.W.fnOf "part" "Clip.part" (defArgs s_Clip_part) (defBody s_Clip_part) (defScope s_Clip_part) .none kV_Clip_part dc_Clip_part pm_Clip_part an_Clip_part cd_Clip_part ct_Clip_part),
    f_merged := f_merged,
    d_merged := (PySem.W.fnOf "merged" "merged" (defArgs s_merged) (defBody s_merged) (defScope s_merged) .none kV_merged dc_merged pm_merged an_merged cd_merged ct_merged),
    f_both_pieces := f_both_pieces,
    d_both_pieces := (PySem.W.fnOf "both_pieces" "both_pieces" (defArgs s_both_pieces) (defBody s_both_pieces) (defScope s_both_pieces) .none kV_both_pieces dc_both_pieces pm_both_pieces an_both_pieces cd_both_pieces ct_both_pieces),
    f_Clip_ddadddd := f_Clip_ddadddd,
    d_Clip_ddadddd := (PySem.W.fnOf "__add__" "Clip.__add__" (defArgs s_Clip_ddadddd) (defBody s_Clip_ddadddd) (defScope s_Clip_ddadddd) .none kV_Clip_ddadddd dc_Clip_ddadddd pm_Clip_ddadddd an_Clip_ddadddd cd_Clip_ddadddd ct_Clip_ddadddd),
    f_repeated_pieces := f_repeated_pieces,
    d_repeated_pieces := (PySem.W.fnOf "repeated_pieces" "repeated_pieces" (defArgs s_repeated_pieces) (defBody s_repeated_pieces) (defScope s_repeated_pieces) .none kV_repeated_pieces dc_repeated_pieces pm_repeated_pieces an_repeated_pieces cd_repeated_pieces ct_repeated_pieces),
    f_Clip_ddmuldd := f_Clip_ddmuldd,
    d_Clip_ddmuldd := (PySem.W.fnOf "__mul__" "Clip.__mul__" (defArgs s_Clip_ddmuldd) (defBody s_Clip_ddmuldd) (defScope s_Clip_ddmuldd) .none kV_Clip_ddmuldd dc_Clip_ddmuldd pm_Clip_ddmuldd an_Clip_ddmuldd cd_Clip_ddmuldd ct_Clip_ddmuldd),
    f_gained_pieces := f_gained_pieces,
    d_gained_pieces := (PySem.W.fnOf "gained_pieces" "gained_pieces" (defArgs s_gained_pieces) (defBody s_gained_pieces) (defScope s_gained_pieces) .none kV_gained_pieces dc_gained_pieces pm_gained_pieces an_gained_pieces cd_gained_pieces ct_gained_pieces),
    f_Clip_gained := f_Clip_gained,
    d_Clip_gained := (PySem.W.fnOf "gained" "Clip.gained" (defArgs s_Clip_gained) (defBody s_Clip_gained) (defScope s_Clip_gained) .none kV_Clip_gained dc_Clip_gained pm_Clip_gained an_Clip_gained cd_Clip_gained ct_Clip_gained),
    f__law_made := f__law_made,
    d__law_made := (PySem.W.fnOf "_law_made" "_law_made" (defArgs s__law_made) (defBody s__law_made) (defScope s__law_made) .none kV__law_made dc__law_made pm__law_made an__law_made cd__law_made ct__law_made),
    f__law_take := f__law_take,
    d__law_take := (PySem.W.fnOf "_law_take" "_law_take" (defArgs s__law_take) (defBody s__law_take) (defScope s__law_take) .none kV__law_take dc__law_take pm__law_take an__law_take cd__law_take ct__law_take),
    f__law_tree := f__law_tree,
    d__law_tree := (PySem.W.fnOf "_law_tree" "_law_tree" (defArgs s__law_tree) (defBody s__law_tree) (defScope s__law_tree) .none kV__law_tree dc__law_tree pm__law_tree an__law_tree cd__law_tree ct__law_tree),
    f_Clip_ddeqdd := f_Clip_ddeqdd,
    d_Clip_ddeqdd := (PySem.W.fnOf "__eq__" "Clip.__eq__" (defArgs s_Clip_ddeqdd) (defBody s_Clip_ddeqdd) (defScope s_Clip_ddeqdd) .none kV_Clip_ddeqdd dc_Clip_ddeqdd pm_Clip_ddeqdd an_Clip_ddeqdd cd_Clip_ddeqdd ct_Clip_ddeqdd),
    f_Clip_length := f_Clip_length,
    d_Clip_length := (PySem.W.fnOf "length" "Clip.length" (defArgs s_Clip_length) (defBody s_Clip_length) (defScope s_Clip_length) .none kV_Clip_length dc_Clip_length pm_Clip_length an_Clip_length cd_Clip_length ct_Clip_length),
    f__law_same := f__law_same,
    d__law_same := (PySem.W.fnOf "_law_same" "_law_same" (defArgs s__law_same) (defBody s__law_same) (defScope s__law_same) .none kV__law_same dc__law_same pm__law_same an__law_same cd__law_same ct__law_same),
    f_names_in := f_names_in,
    d_names_in := (PySem.W.fnOf "names_in" "names_in" (defArgs s_names_in) (defBody s_names_in) (defScope s_names_in) .none kV_names_in dc_names_in pm_names_in an_names_in cd_names_in ct_names_in),
    f_Clip_names := f_Clip_names,
    d_Clip_names := (PySem.W.fnOf "names" "Clip.names" (defArgs s_Clip_names) (defBody s_Clip_names) (defScope s_Clip_names) .none kV_Clip_names dc_Clip_names pm_Clip_names an_Clip_names cd_Clip_names ct_Clip_names),
    f_law := f_law,
    d_law := (PySem.W.fnOf "law" "law" (defArgs s_law) (defBody s_law) (defScope s_law) .none kV_law dc_law pm_law an_law cd_law ct_law),
    C_Clip := C_Clip,
    q_Clip_length := q_Clip_length }
  have Tc_Clip : ClsF (Γ K A) 0 := ⟨⟨pg_Clip, hd_Clip, po_Clip, sa_Clip⟩, by show (["own_pieces", "own_length"] : List Str).Nodup; decide +kernel, by show ∀ f ∈ (["own_pieces", "own_length"] : List Str), NoAttr K C_Clip f; intro f hf; simp only [List.mem_cons, List.not_mem_nil, or_false] at hf; rcases hf with rfl | rfl <;> first | exact nf_Clip_own_pieces | exact nf_Clip_own_length, by show (["own_pieces", "own_length"] : List Str).length < 900; decide⟩
  have Ti_Clip : IsF (Γ K A) 0 := isf_mk Tc_Clip ia_Clip ib_Clip ic_Clip id_Clip ie_Clip ig_Clip ih_Clip_int ih_Clip_bool ih_Clip_str ih_Clip_list ih_Clip_tuple ii_Clip_NoneType ii_Clip_bool ii_Clip_int ii_Clip_str ii_Clip_tuple ii_Clip_list ii_Clip_dict
  have T : Tx K mg A := {
    F_is_integer := (⟨⟨_, _, _, _, _, _, _, _, _, _, rfl, l_is_integer, e_is_integer⟩⟩),
    k_is_integer := (k_is_integer),
    b_is_integer := (Binds.all fun us hl => match us, hl with | [_], _ => rfl),
    g_is_integer := (PySem.W.mg_of X G g_is_integer),
    F_is_between := (⟨⟨_, _, _, _, _, _, _, _, _, _, rfl, l_is_between, e_is_between⟩⟩),
    k_is_between := (k_is_between),
    b_is_between := (Binds.all fun us hl => match us, hl with | [_, _, _], _ => rfl),
    g_is_between := (PySem.W.mg_of X G g_is_between),
    F_piece_length := (⟨⟨_, _, _, _, _, _, _, _, _, _, rfl, l_piece_length, e_piece_length⟩⟩),
    k_piece_length := (k_piece_length),
    b_piece_length := (Binds.all fun us hl => match us, hl with | [_], _ => rfl),
    g_piece_length := (PySem.W.mg_of X G g_piece_length),
    F_total_length := (⟨⟨_, _, _, _, _, _, _, _, _, _, rfl, l_total_length, e_total_length⟩⟩),
    k_total_length := (k_total_length),
    b_total_length := (Binds.all fun us hl => match us, hl with | [_], _ => rfl),
    g_total_length := (PySem.W.mg_of X G g_total_length),
    F_piece_count := (⟨⟨_, _, _, _, _, _, _, _, _, _, rfl, l_piece_count, e_piece_count⟩⟩),
    k_piece_count := (k_piece_count),
    b_piece_count := (Binds.all fun us hl => match us, hl with | [_], _ => rfl),
    g_piece_count := (PySem.W.mg_of X G g_piece_count),
    F_Clip_ddinitdd := (⟨⟨_, _, _, _, _, _, _, _, _, _, rfl, l_Clip_ddinitdd, e_Clip_ddinitdd⟩⟩),
    k_Clip_ddinitdd := (k_Clip_ddinitdd),
    b_Clip_ddinitdd := (fun s us X hl => match us, hl with | [_, _], _ => PySem.W.binds_K X rfl z_Clip_ddinitdd rfl rfl rfl),
    F_Clip_silence := (⟨⟨_, _, _, _, _, _, _, _, _, _, rfl, l_Clip_silence, e_Clip_silence⟩⟩),
    k_Clip_silence := (k_Clip_silence),
    b_Clip_silence := (Binds.all fun us hl => match us, hl with | [_], _ => rfl),
    F__law_pool := (⟨⟨_, _, _, _, _, _, _, _, _, _, rfl, l__law_pool, e__law_pool⟩⟩),
    k__law_pool := (k__law_pool),
    b__law_pool := (Binds.all fun us hl => match us, hl with | [_, _], _ => rfl),
    g__law_pool := (PySem.W.mg_of X G g__law_pool),
    F_is_row := (⟨⟨_, _, _, _, _, _, _, _, _, _, rfl, l_is_row, e_is_row⟩⟩),
    k_is_row := (k_is_row),
    b_is_row := (Binds.all fun us hl => match us, hl with | [_], _ => rfl),
    g_is_row := (PySem.W.mg_of X G g_is_row),
    F_require_sound := (⟨⟨_, _, _, _, _, _, _, _, _, _, rfl, l_require_sound, e_require_sound⟩⟩),
    k_require_sound := (k_require_sound),
    b_require_sound := (Binds.all fun us hl => match us, hl with | [_], _ => rfl),
    g_require_sound := (PySem.W.mg_of X G g_require_sound),
    F_Clip_samples := (⟨⟨_, _, _, _, _, _, _, _, _, _, rfl, l_Clip_samples, e_Clip_samples⟩⟩),
    k_Clip_samples := (k_Clip_samples),
    b_Clip_samples := (Binds.all fun us hl => match us, hl with | [_], _ => rfl),
    F_is_name := (⟨⟨_, _, _, _, _, _, _, _, _, _, rfl, l_is_name, e_is_name⟩⟩),
    k_is_name := (k_is_name),
    b_is_name := (Binds.all fun us hl => match us, hl with | [_], _ => rfl),
    g_is_name := (PySem.W.mg_of X G g_is_name),
    F_Clip_part := (⟨⟨_, _, _, _, _, _, _, _, _, _, rfl, l_Clip_part, e_Clip_part⟩⟩),
    k_Clip_part := (k_Clip_part),
    b_Clip_part := (Binds.all fun us hl => match us, hl with | [_, _, _], _ => rfl),
    F_merged := (⟨⟨_, _, _, _, _, _, _, _, _, _, rfl, l_merged, e_merged⟩⟩),
    k_merged := (k_merged),
    b_merged := (Binds.all fun us hl => match us, hl with | [_, _], _ => rfl),
    g_merged := (PySem.W.mg_of X G g_merged),
    F_both_pieces := (⟨⟨_, _, _, _, _, _, _, _, _, _, rfl, l_both_pieces, e_both_pieces⟩⟩),
    k_both_pieces := (k_both_pieces),
    b_both_pieces := (Binds.all fun us hl => match us, hl with | [_, _], _ => rfl),
    g_both_pieces := (PySem.W.mg_of X G g_both_pieces),
    F_Clip_ddadddd := (⟨⟨_, _, _, _, _, _, _, _, _, _, rfl, l_Clip_ddadddd, e_Clip_ddadddd⟩⟩),
    k_Clip_ddadddd := (k_Clip_ddadddd),
    b_Clip_ddadddd := (Binds.all fun us hl => match us, hl with | [_, _], _ => rfl),
    F_repeated_pieces := (⟨⟨_, _, _, _, _, _, _, _, _, _, rfl, l_repeated_pieces, e_repeated_pieces⟩⟩),
    k_repeated_pieces := (k_repeated_pieces),
    b_repeated_pieces := (Binds.all fun us hl => match us, hl with | [_, _], _ => rfl),
    g_repeated_pieces := (PySem.W.mg_of X G g_repeated_pieces),
    F_Clip_ddmuldd := (⟨⟨_, _, _, _, _, _, _, _, _, _, rfl, l_Clip_ddmuldd, e_Clip_ddmuldd⟩⟩),
    k_Clip_ddmuldd := (k_Clip_ddmuldd),
    b_Clip_ddmuldd := (Binds.all fun us hl => match us, hl with | [_, _], _ => rfl),
    F_gained_pieces := (⟨⟨_, _, _, _, _, _, _, _, _, _, rfl, l_gained_pieces, e_gained_pieces⟩⟩),
    k_gained_pieces := (k_gained_pieces),
    b_gained_pieces := (Binds.all fun us hl => match us, hl with | [_, _], _ => rfl),
    g_gained_pieces := (PySem.W.mg_of X G g_gained_pieces),
    F_Clip_gained := (⟨⟨_, _, _, _, _, _, _, _, _, _, rfl, l_Clip_gained, e_Clip_gained⟩⟩),
    k_Clip_gained := (k_Clip_gained),
    b_Clip_gained := (Binds.all fun us hl => match us, hl with | [_, _, _], _ => rfl),
    F__law_made := (⟨⟨_, _, _, _, _, _, _, _, _, _, rfl, l__law_made, e__law_made⟩⟩),
    k__law_made := (k__law_made),
    b__law_made := (Binds.all fun us hl => match us, hl with | [_], _ => rfl),
    g__law_made := (PySem.W.mg_of X G g__law_made),
    F__law_take := (⟨⟨_, _, _, _, _, _, _, _, _, _, rfl, l__law_take, e__law_take⟩⟩),
    k__law_take := (k__law_take),
    b__law_take := (Binds.all fun us hl => match us, hl with | [_, _], _ => rfl),
    g__law_take := (PySem.W.mg_of X G g__law_take),
    F__law_tree := (⟨⟨_, _, _, _, _, _, _, _, _, _, rfl, l__law_tree, e__law_tree⟩⟩),
    k__law_tree := (k__law_tree),
    b__law_tree := (Binds.all fun us hl => match us, hl with | [_, _, _], _ => rfl),
    g__law_tree := (PySem.W.mg_of X G g__law_tree),
    F_Clip_ddeqdd := (⟨⟨_, _, _, _, _, _, _, _, _, _, rfl, l_Clip_ddeqdd, e_Clip_ddeqdd⟩⟩),
    k_Clip_ddeqdd := (k_Clip_ddeqdd),
    b_Clip_ddeqdd := (Binds.all fun us hl => match us, hl with | [_, _], _ => rfl),
    F_Clip_length := (⟨⟨_, _, _, _, _, _, _, _, _, _, rfl, l_Clip_length, e_Clip_length⟩⟩),
    k_Clip_length := (k_Clip_length),
    b_Clip_length := (Binds.all fun us hl => match us, hl with | [_], _ => rfl),
    F__law_same := (⟨⟨_, _, _, _, _, _, _, _, _, _, rfl, l__law_same, e__law_same⟩⟩),
    k__law_same := (k__law_same),
    b__law_same := (Binds.all fun us hl => match us, hl with | [_, _], _ => rfl),
    g__law_same := (PySem.W.mg_of X G g__law_same),
    F_names_in := (⟨⟨_, _, _, _, _, _, _, _, _, _, rfl, l_names_in, e_names_in⟩⟩),
    k_names_in := (k_names_in),
    b_names_in := (Binds.all fun us hl => match us, hl with | [_], _ => rfl),
    g_names_in := (PySem.W.mg_of X G g_names_in),
    F_Clip_names := (⟨⟨_, _, _, _, _, _, _, _, _, _, rfl, l_Clip_names, e_Clip_names⟩⟩),
    k_Clip_names := (k_Clip_names),
    b_Clip_names := (Binds.all fun us hl => match us, hl with | [_], _ => rfl),
    F_law := (⟨⟨_, _, _, _, _, _, _, _, _, _, rfl, l_law, e_law⟩⟩),
    k_law := (k_law),
    g_law := (PySem.W.mg_of X G g_law),
    g_Clip := (PySem.W.mg_of X G g_Clip),
    c_Clip := Tc_Clip,
    mk_Clip := (⟨mk_Clip, in_Clip_ddinitdd, fn_Clip_ddinitdd, kc_Clip⟩),
    s_Clip_silence := (⟨⟨_, p_Clip_silence, r_Clip_silence, ty_Clip_silence, rd_Clip_silence, fc_Clip_silence, rc_Clip_silence⟩, ga_Clip_silence, k_Clip_silence⟩),
    s_Clip_samples := (⟨⟨_, p_Clip_samples, r_Clip_samples, ty_Clip_samples, rd_Clip_samples, fc_Clip_samples, rc_Clip_samples⟩, ga_Clip_samples, k_Clip_samples⟩),
    s_Clip_part := (⟨⟨_, p_Clip_part, r_Clip_part, ty_Clip_part, rd_Clip_part, fc_Clip_part, rc_Clip_part⟩, ga_Clip_part, k_Clip_part⟩),
    o_Clip_ddadddd := (⟨sf_Clip_ddadddd, in_Clip_ddadddd, fn_Clip_ddadddd, rf_Clip_ddadddd, fun T h => by cases h⟩),
    o_Clip_ddmuldd := (⟨sf_Clip_ddmuldd, in_Clip_ddmuldd, fn_Clip_ddmuldd, rf_Clip_ddmuldd, fun T h => by simp only [List.mem_cons, List.not_mem_nil, or_false] at h; rcases h with rfl <;> first | exact ⟨⟨_, fp_Clip_ddmuldd_int⟩, ⟨_, rp_Clip_ddmuldd_int⟩, sb_Clip_ddmuldd_int⟩⟩),
    m_Clip_gained := (⟨at_Clip_gained, if_Clip_gained, k_Clip_gained⟩),
    o_Clip_ddeqdd := (⟨in_Clip_ddeqdd, fn_Clip_ddeqdd, nq_Clip_ddeqdd, fun T h => by cases h⟩),
    p_Clip_length := (⟨at_Clip_length, gt_Clip_length, tk_Clip_length, ⟨r_Clip_length, rc_Clip_length⟩⟩),
    m_Clip_names := (⟨at_Clip_names, if_Clip_names, k_Clip_names⟩),
    g_LETTERS := (⟨t_LETTERS, PySem.W.mg_of X G g_LETTERS⟩),
    g_MAX_COUNT := (⟨t_MAX_COUNT, PySem.W.mg_of X G g_MAX_COUNT⟩),
    g_MAX_GAIN := (⟨t_MAX_GAIN, PySem.W.mg_of X G g_MAX_GAIN⟩),
    g_MAX_LENGTH := (⟨t_MAX_LENGTH, PySem.W.mg_of X G g_MAX_LENGTH⟩),
    g_MAX_NAME := (⟨t_MAX_NAME, PySem.W.mg_of X G g_MAX_NAME⟩),
    g_MAX_PIECES := (⟨t_MAX_PIECES, PySem.W.mg_of X G g_MAX_PIECES⟩),
    n_abs := (PySem.W.mg_none_of X G n_abs),
    n_all := (PySem.W.mg_none_of X G n_all),
    n_bool := (PySem.W.mg_none_of X G n_bool),
    n_enumerate := (PySem.W.mg_none_of X G n_enumerate),
    n_int := (PySem.W.mg_none_of X G n_int),
    n_isinstance := (PySem.W.mg_none_of X G n_isinstance),
    n_len := (PySem.W.mg_none_of X G n_len),
    n_list := (PySem.W.mg_none_of X G n_list),
    n_max := (PySem.W.mg_none_of X G n_max),
    n_min := (PySem.W.mg_none_of X G n_min),
    n_range := (PySem.W.mg_none_of X G n_range),
    n_sorted := (PySem.W.mg_none_of X G n_sorted),
    n_str := (PySem.W.mg_none_of X G n_str),
    n_sum := (PySem.W.mg_none_of X G n_sum),
    n_tuple := (PySem.W.mg_none_of X G n_tuple),
    n_zip := (PySem.W.mg_none_of X G n_zip),
    is_Clip := Ti_Clip,
    isf := (fun c h => by cases h) }
  refine ⟨(PySem.W.fnOf "law" "law" (defArgs s_law) (defBody s_law) (defScope s_law) .none kV_law dc_law pm_law an_law cd_law ct_law), fun s v => .of_eq rfl, fun base _ _ => (ok_law (P := P) (w := w) (base := base) T).imp fun vs H Q E hq => law_sp law_true hq⟩
end Kx
open PySem PySem.W PyProof.Rows
set_option maxRecDepth 100000 in
set_option maxHeartbeats 0 in
theorem PySem.Challenge.cw_framejoins_k53_whole_sums_and_copies_holds : PySem.Challenge.rw_framejoins_k53_whole_sums_and_copies.Holds := by
  w_on; o_law; k_head; (case hw => w_witness2)
  k_fill
  refine Mi.walkX (l := PySem.Challenge.rw_framejoins_k53_whole_sums_and_copies) (k := 48) rfl rfl ⟨rfl, by decide, by decide⟩ (fun w h Y => PySem.W.kIn_of Y) ?F
  case F =>
    intro w mg fa h KX G hmg
    refine' Kx.all_mk KX G hmg ?g_Clip ?g_law ?g_names_in ?g__law_same ?g__law_tree ?g__law_take ?g__law_made ?g_gained_pieces ?g_repeated_pieces ?g_both_pieces ?g_merged ?g_is_name ?g_require_sound ?g_is_row ?g__law_pool ?g_piece_count ?g_total_length ?g_piece_length ?g_is_between ?g_is_integer ?l_is_integer ?e_is_integer ?k_is_integer ?l_is_between ?e_is_between ?k_is_between ?l_piece_length ?e_piece_length ?k_piece_length ?l_total_length ?e_total_length ?k_total_length ?l_piece_count ?e_piece_count ?k_piece_count ?l_Clip_ddinitdd ?e_Clip_ddinitdd ?k_Clip_ddinitdd ?z_Clip_ddinitdd ?l_Clip_silence ?e_Clip_silence ?k_Clip_silence ?l__law_pool ?e__law_pool ?k__law_pool ?l_is_row ?e_is_row ?k_is_row ?l_require_sound ?e_require_sound ?k_require_sound ?l_Clip_samples ?e_Clip_samples ?k_Clip_samples ?l_is_name ?e_is_name ?k_is_name ?l_Clip_part ?e_Clip_part ?k_Clip_part ?l_merged ?e_merged ?k_merged ?l_both_pieces ?e_both_pieces ?k_both_pieces ?l_Clip_ddadddd ?e_Clip_ddadddd ?k_Clip_ddadddd ?l_repeated_pieces ?e_repeated_pieces ?k_repeated_pieces ?l_Clip_ddmuldd ?e_Clip_ddmuldd ?k_Clip_ddmuldd ?l_gained_pieces ?e_gained_pieces ?k_gained_pieces ?l_Clip_gained ?e_Clip_gained ?k_Clip_gained ?l__law_made ?e__law_made ?k__law_made ?l__law_take ?e__law_take ?k__law_take ?l__law_tree ?e__law_tree ?k__law_tree ?l_Clip_ddeqdd ?e_Clip_ddeqdd ?k_Clip_ddeqdd ?l_Clip_length ?e_Clip_length ?k_Clip_length ?l__law_same ?e__law_same ?k__law_same ?l_names_in ?e_names_in ?k_names_in ?l_Clip_names ?e_Clip_names ?k_Clip_names ?l_law ?e_law ?k_law ?pg_Clip ?hd_Clip ?po_Clip ?sa_Clip ?nf_Clip_own_pieces ?nf_Clip_own_length ?in_Clip_ddinitdd ?fn_Clip_ddinitdd ?mk_Clip ?kc_Clip ?ty_Clip_silence ?rd_Clip_silence ?fc_Clip_silence ?rc_Clip_silence ?ga_Clip_silence ?ty_Clip_samples ?rd_Clip_samples ?fc_Clip_samples ?rc_Clip_samples ?ga_Clip_samples ?ty_Clip_part ?rd_Clip_part ?fc_Clip_part ?rc_Clip_part ?ga_Clip_part ?in_Clip_ddadddd ?fn_Clip_ddadddd ?sf_Clip_ddadddd ?rf_Clip_ddadddd ?in_Clip_ddmuldd ?fn_Clip_ddmuldd ?sf_Clip_ddmuldd ?rf_Clip_ddmuldd ?fp_Clip_ddmuldd_int ?rp_Clip_ddmuldd_int ?sb_Clip_ddmuldd_int ?at_Clip_gained ?if_Clip_gained ?in_Clip_ddeqdd ?fn_Clip_ddeqdd ?nq_Clip_ddeqdd ?at_Clip_length ?gt_Clip_length ?tk_Clip_length ?rc_Clip_length ?at_Clip_names ?if_Clip_names ?g_LETTERS ?g_MAX_COUNT ?g_MAX_GAIN ?g_MAX_LENGTH ?g_MAX_NAME ?g_MAX_PIECES ?n_abs ?n_all ?n_bool ?n_enumerate ?n_int ?n_isinstance ?n_len ?n_list ?n_max ?n_min ?n_range ?n_sorted ?n_str ?n_sum ?n_tuple ?n_zip ?ia_Clip ?ib_Clip ?ic_Clip ?id_Clip ?ie_Clip ?ig_Clip ?ih_Clip_int ?ih_Clip_bool ?ih_Clip_str ?ih_Clip_list ?ih_Clip_tuple ?ii_Clip_NoneType ?ii_Clip_bool ?ii_Clip_int ?ii_Clip_str ?ii_Clip_tuple ?ii_Clip_list ?ii_Clip_dict
    (case g_Clip => k_is)
    (case g_law => k_is)
    (case g_names_in => k_is)
    (case g__law_same => k_is)
    (case g__law_tree => k_is)
    (case g__law_take => k_is)
    (case g__law_made => k_is)
    (case g_gained_pieces => k_is)
    (case g_repeated_pieces => k_is)
    (case g_both_pieces => k_is)
    (case g_merged => k_is)
    (case g_is_name => k_is)
    (case g_require_sound => k_is)
    (case g_is_row => k_is)
    (case g__law_pool => k_is)
    (case g_piece_count => k_is)
    (case g_total_length => k_is)
    (case g_piece_length => k_is)
    (case g_is_between => k_is)
    (case g_is_integer => k_is)
    (case g_LETTERS => k_is)
    (case g_MAX_COUNT => k_is)
    (case g_MAX_GAIN => k_is)
    (case g_MAX_LENGTH => k_is)
    (case g_MAX_NAME => k_is)
    (case g_MAX_PIECES => k_is)
    (case in_Clip_ddinitdd => k_is)
    (case ty_Clip_silence => k_is)
    (case ty_Clip_samples => k_is)
    (case ty_Clip_part => k_is)
    (case in_Clip_ddadddd => k_is)
    (case in_Clip_ddmuldd => k_is)
    (case at_Clip_gained => k_is)
    (case in_Clip_ddeqdd => k_is)
    (case at_Clip_length => k_is)
    (case at_Clip_names => k_is)
    (case fc_Clip_silence => k_is)
    (case fc_Clip_samples => k_is)
    (case fc_Clip_part => k_is)
    (case rc_Clip_silence => k_is)
    (case rc_Clip_samples => k_is)
    (case rc_Clip_part => k_is)
    (case rc_Clip_length => k_is)
    (case l_is_integer => k_is)
    (case l_is_between => k_is)
    (case l_piece_length => k_is)
    (case l_total_length => k_is)
    (case l_piece_count => k_is)
    (case l_Clip_ddinitdd => k_is)
    (case l_Clip_silence => k_is)
    (case l__law_pool => k_is)
    (case l_is_row => k_is)
    (case l_require_sound => k_is)
    (case l_Clip_samples => k_is)
    (case l_is_name => k_is)
    (case l_Clip_part => k_is)
    (case l_merged => k_is)
    (case l_both_pieces => k_is)
    (case l_Clip_ddadddd => k_is)
    (case l_repeated_pieces => k_is)
    (case l_Clip_ddmuldd => k_is)
    (case l_gained_pieces => k_is)
    (case l_Clip_gained => k_is)
    (case l__law_made => k_is)
    (case l__law_take => k_is)
    (case l__law_tree => k_is)
    (case l_Clip_ddeqdd => k_is)
    (case l_Clip_length => k_is)
    (case l__law_same => k_is)
    (case l_names_in => k_is)
    (case l_Clip_names => k_is)
    (case l_law => k_is)
    (case z_Clip_ddinitdd => k_is)
    (case e_is_integer => k_is)
    (case k_is_integer => k_is)
    (case e_is_between => k_is)
    (case k_is_between => k_is)
    (case e_piece_length => k_is)
    (case k_piece_length => k_is)
    (case e_total_length => k_is)
    (case k_total_length => k_is)
    (case e_piece_count => k_is)
    (case k_piece_count => k_is)
    (case e_Clip_ddinitdd => k_is)
    (case k_Clip_ddinitdd => k_is)
    (case e_Clip_silence => k_is)
    (case k_Clip_silence => k_is)
    (case e__law_pool => k_is)
    (case k__law_pool => k_is)
    (case e_is_row => k_is)
    (case k_is_row => k_is)
    (case e_require_sound => k_is)
    (case k_require_sound => k_is)
    (case e_Clip_samples => k_is)
    (case k_Clip_samples => k_is)
    (case e_is_name => k_is)
    (case k_is_name => k_is)
    (case e_Clip_part => k_is)
    (case k_Clip_part => k_is)
    (case e_merged => k_is)
    (case k_merged => k_is)
    (case e_both_pieces => k_is)
    (case k_both_pieces => k_is)
    (case e_Clip_ddadddd => k_is)
    (case k_Clip_ddadddd => k_is)
    (case e_repeated_pieces => k_is)
    (case k_repeated_pieces => k_is)
    (case e_Clip_ddmuldd => k_is)
    (case k_Clip_ddmuldd => k_is)
    (case e_gained_pieces => k_is)
    (case k_gained_pieces => k_is)
    (case e_Clip_gained => k_is)
    (case k_Clip_gained => k_is)
    (case e__law_made => k_is)
    (case k__law_made => k_is)
    (case e__law_take => k_is)
    (case k__law_take => k_is)
    (case e__law_tree => k_is)
    (case k__law_tree => k_is)
    (case e_Clip_ddeqdd => k_is)
    (case k_Clip_ddeqdd => k_is)
    (case e_Clip_length => k_is)
    (case k_Clip_length => k_is)
    (case e__law_same => k_is)
    (case k__law_same => k_is)
    (case e_names_in => k_is)
    (case k_names_in => k_is)
    (case e_Clip_names => k_is)
    (case k_Clip_names => k_is)
    (case e_law => k_is)
    (case k_law => k_is)
    (case pg_Clip => k_is)
    (case hd_Clip => k_is)
    (case po_Clip => k_is)
    (case sa_Clip => k_is)
    (case nf_Clip_own_pieces => k_is)
    (case nf_Clip_own_length => k_is)
    (case fn_Clip_ddinitdd => k_is)
    (case mk_Clip => k_is)
    (case kc_Clip => k_is)
    (case rd_Clip_silence => k_is)
    (case ga_Clip_silence => k_is)
    (case rd_Clip_samples => k_is)
    (case ga_Clip_samples => k_is)
    (case rd_Clip_part => k_is)
    (case ga_Clip_part => k_is)
    (case fn_Clip_ddadddd => k_is)
    (case sf_Clip_ddadddd => k_is)
    (case rf_Clip_ddadddd => k_is)
    (case fn_Clip_ddmuldd => k_is)
    (case sf_Clip_ddmuldd => k_is)
    (case rf_Clip_ddmuldd => k_is)
    (case fp_Clip_ddmuldd_int => k_is)
    (case rp_Clip_ddmuldd_int => k_is)
    (case sb_Clip_ddmuldd_int => k_is)
    (case if_Clip_gained => k_is)
    (case fn_Clip_ddeqdd => k_is)
    (case nq_Clip_ddeqdd => k_is)
    (case gt_Clip_length => k_is)
    (case tk_Clip_length => k_is)
    (case if_Clip_names => k_is)
    (case n_abs => k_is)
    (case n_all => k_is)
    (case n_bool => k_is)
    (case n_enumerate => k_is)
    (case n_int => k_is)
    (case n_isinstance => k_is)
    (case n_len => k_is)
    (case n_list => k_is)
    (case n_max => k_is)
    (case n_min => k_is)
    (case n_range => k_is)
    (case n_sorted => k_is)
    (case n_str => k_is)
    (case n_sum => k_is)
    (case n_tuple => k_is)
    (case n_zip => k_is)
    (case ia_Clip => k_is)
    (case ib_Clip => k_is)
    (case ic_Clip => k_is)
    (case id_Clip => k_is)
    (case ie_Clip => k_is)
    (case ig_Clip => k_is)
    (case ih_Clip_int => k_is)
    (case ih_Clip_bool => k_is)
    (case ih_Clip_str => k_is)
    (case ih_Clip_list => k_is)
    (case ih_Clip_tuple => k_is)
    (case ii_Clip_NoneType => k_is)
    (case ii_Clip_bool => k_is)
    (case ii_Clip_int => k_is)
    (case ii_Clip_str => k_is)
    (case ii_Clip_tuple => k_is)
    (case ii_Clip_list => k_is)
    (case ii_Clip_dict => k_is)

