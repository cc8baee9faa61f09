import PyProof.Rows.All
import Wide.All
import OpenK.AllK
import Wide.FinOn
import PySem.Challenge.RW_pq0567_01
open PySem PySem.W PyProof.Rows
set_option Elab.async false
set_option compiler.extract_closed false
set_option linter.unusedVariables false
set_option linter.unusedSimpArgs false
set_option maxRecDepth 100000
set_option maxHeartbeats 4000000
namespace Mine
set_option maxRecDepth 100000 in
set_option maxHeartbeats 8000000 in
open_top hd for PySem.Challenge.rw_pq0567_01
end Mine
namespace Mine

/-- abstract values: data (seen as immutable), a list that the frame owns, a raw value, nothing known -/
inductive X where
  | d (d : PyData)
  | own (a : Addr)
  | raw (v : Value)
  | un

structure St where
  loc : List (Str × X)
  own : List (Addr × List PyData)

noncomputable def St.keys (σ : St) : List Addr := σ.own.map (·.1)

structure Frm where
  env : Env
  hid : List Addr
  far : List Addr
  B : Heap

noncomputable abbrev Frm.all (F : Frm) (σ : St) : List Addr := F.far ++ F.hid ++ σ.keys
noncomputable def vis (F : Frm) (σ : St) (h : Heap) : Heap := hideAll h (F.all σ)

noncomputable def Rep (h : Heap) (v : Value) (d : PyData) : Prop := ∃ as, Reads h v d as
noncomputable def RepL (h : Heap) (vs : List Value) (ds : List PyData) : Prop := ∃ as, ReadsAll h vs ds as

noncomputable def XR (F : Frm) (σ : St) (h : Heap) (v : Value) : X → Prop
  | .d d => Rep (vis F σ h) v d
  | .own a => v = .ref a
  | .raw w => v = w
  | .un => True

noncomputable def isUn : X → Prop
  | .un => True
  | _ => False

structure FS (F : Frm) (σ : St) (h : Heap) : Prop where
  ns : ∃ m, h.Ns F.env.locals m ∧ ∀ p ∈ σ.loc, F.env.kindOf p.1 = some .local → ¬ isUn p.2 → ∃ v, m p.1 = some v ∧ XR F σ h v p.2
  cell : ∀ p ∈ σ.loc, F.env.kindOf p.1 = some .cell → ∃ c v₀, F.env.cells.lookup p.1 = some c ∧ h.IsCell c v₀ ∧ (¬ isUn p.2 → ∃ v, v₀ = some v ∧ XR F σ h v p.2)
  capart : F.env.cells.Pairwise fun x y => x.2 ≠ y.2
  own : ∀ p ∈ σ.own, ∃ vs, h.PlainList p.1 vs ∧ RepL (vis F σ h) vs.toList p.2
  nd : σ.keys.Nodup
  kd : ∀ a ∈ σ.keys, a ∉ F.far ++ F.hid
  ln : (σ.loc.map (·.1)).Nodup
  base : ∀ b o, F.B.get? b = some o → (vis F σ h).get? b = some o
  ex : ∀ a ∈ F.all σ, ∃ o, h.get? a = some o
  cx : ∀ q ∈ F.env.cells, ∃ o, h.get? q.2 = some o

structure Go (F : Frm) (σ : St) (h : Heap) (σ' : St) (h' : Heap) : Prop where
  keep : ∀ b o, b ∉ F.hid → b ∉ σ.keys → h.get? b = some o → h'.get? b = some o
  keys : ∀ a ∈ σ'.keys, a ∈ σ.keys ∨ h.get? a = none ∨ a ∈ F.hid
  alive : ∀ b o, h.get? b = some o → ∃ o', h'.get? b = some o'

noncomputable def Same (s s' : Shared) : Prop := ∃ h tk, s' = { s with heap := h, toks := tk }

theorem Same.refl (s : Shared) : Same s s := ⟨_, _, rfl⟩
theorem Same.trans {s s' s'' : Shared} (h : Same s s') (k : Same s' s'') : Same s s'' := by
  obtain ⟨_, _, rfl⟩ := h; obtain ⟨_, _, rfl⟩ := k; exact ⟨_, _, rfl⟩
theorem Same.mk {s : Shared} {h : Heap} {tk : Nat} : Same s { s with heap := h, toks := tk } := ⟨_, _, rfl⟩

variable {F : Frm} {σ σ' σ'' : St} {h h' h'' : Heap}

theorem Go.refl : Go F σ h σ h := ⟨fun _ _ _ _ e => e, fun _ ha => .inl ha, fun _ o e => ⟨o, e⟩⟩
theorem Go.trans (x : Go F σ h σ' h') (y : Go F σ' h' σ'' h'') : Go F σ h σ'' h'' where
  keep := fun b o h1 h2 e => y.keep b o h1 (fun hm => (x.keys b hm).elim h2 fun q => q.elim (fun z => by rw [z] at e; cases e) h1) (x.keep b o h1 h2 e)
  keys := fun a ha => by
    rcases y.keys a ha with m | m | m
    · exact x.keys a m
    · by_cases h1 : a ∈ F.hid
      · exact .inr (.inr h1)
      · by_cases h2 : a ∈ σ.keys
        · exact .inl h2
        · cases e : h.get? a with
          | none => exact .inr (.inl rfl)
          | some o => rw [x.keep a o h1 h2 e] at m; cases m
    · exact .inr (.inr m)
  alive := fun b o e => let ⟨o', e'⟩ := x.alive b o e; y.alive b o' e'

theorem vis_of {b : Addr} {o : Obj} (e : (vis F σ h).get? b = some o) : h.get? b = some o ∧ b ∉ F.all σ :=
  ⟨of_hideAll _ e, fun hm => by have := hideAll_none (F.all σ) (h := h) hm; unfold vis at e; rw [this] at e; cases e⟩
theorem vis_mk {b : Addr} {o : Obj} (e : h.get? b = some o) (hn : b ∉ F.all σ) : (vis F σ h).get? b = some o := hideAll_get _ e hn

theorem Go.vis (x : Go F σ h σ' h') : ∀ b o, (vis F σ h).get? b = some o → (Mine.vis F σ' h').get? b = some o := fun b o e => by
  obtain ⟨e1, hn⟩ := vis_of e
  have hf : b ∉ F.far := fun m => hn (List.mem_append_left _ (List.mem_append_left _ m))
  have hh : b ∉ F.hid := fun m => hn (List.mem_append_left _ (List.mem_append_right _ m))
  have hk : b ∉ σ.keys := fun m => hn (List.mem_append_right _ m)
  refine vis_mk (x.keep b o hh hk e1) fun m => ?_
  rcases List.mem_append.mp m with m | m
  · rcases List.mem_append.mp m with m | m
    · exact hf m
    · exact hh m
  · exact (x.keys b m).elim hk fun q => q.elim (fun z => by rw [z] at e1; cases e1) hh


theorem Rep.mono {v : Value} {d : PyData} (r : Rep h v d) (k : ∀ b o, h.get? b = some o → h'.get? b = some o) : Rep h' v d := r.imp fun _ q => Reads.keeps k q
theorem RepL.mono {vs : List Value} {ds : List PyData} (r : RepL h vs ds) (k : ∀ b o, h.get? b = some o → h'.get? b = some o) : RepL h' vs ds := r.imp fun _ q => ReadsAll.keeps k q
theorem RepL.nil : RepL h [] [] := ⟨_, .nil⟩
theorem RepL.cons {v : Value} {d : PyData} {vs : List Value} {ds : List PyData} (r : Rep h v d) (q : RepL h vs ds) : RepL h (v :: vs) (d :: ds) := by
  obtain ⟨_, r⟩ := r; obtain ⟨_, q⟩ := q; exact ⟨_, .cons r q⟩
theorem RepL.inv {v : Value} {vs : List Value} {d : PyData} {ds : List PyData} (r : RepL h (v :: vs) (d :: ds)) : Rep h v d ∧ RepL h vs ds := by
  obtain ⟨_, r⟩ := r; cases r with | cons a b => exact ⟨⟨_, a⟩, ⟨_, b⟩⟩
theorem RepL.length {vs : List Value} {ds : List PyData} (r : RepL h vs ds) : vs.length = ds.length := by
  obtain ⟨_, r⟩ := r; exact SeqAt.ReadsAll.length _ _ _ r
theorem RepL.nil_inv {vs : List Value} (r : RepL h vs []) : vs = [] := List.length_eq_zero_iff.mp r.length
theorem RepL.cons_inv {vs : List Value} {d : PyData} {ds : List PyData} (r : RepL h vs (d :: ds)) : ∃ v us, vs = v :: us ∧ Rep h v d ∧ RepL h us ds := by
  cases vs with
  | nil => have := r.length; cases this
  | cons v us => exact ⟨v, us, rfl, r.inv⟩
theorem RepL.append {vs us : List Value} {ds es : List PyData} (r : RepL h vs ds) (q : RepL h us es) : RepL h (vs ++ us) (ds ++ es) := by
  induction vs generalizing ds with
  | nil =>
    cases ds with
    | nil => exact q
    | cons => have := r.length; cases this
  | cons v vs ih =>
    obtain _ | ⟨d, ds⟩ := ds
    · have := r.length; cases this
    · exact .cons r.inv.1 (ih r.inv.2)
theorem RepL.get {vs : List Value} {ds : List PyData} (r : RepL h vs ds) {k : Nat} {d : PyData} (hk : ds[k]? = some d) : ∃ v, vs[k]? = some v ∧ Rep h v d := by
  induction vs generalizing ds k with
  | nil =>
    cases ds with
    | nil => simp at hk
    | cons => have := r.length; cases this
  | cons v vs ih =>
    obtain _ | ⟨e, ds⟩ := ds
    · have := r.length; cases this
    · cases k with
      | zero => simp at hk; subst hk; exact ⟨v, rfl, r.inv.1⟩
      | succ k => simp at hk ⊢; exact ih r.inv.2 hk
theorem RepL.set {vs : List Value} {ds : List PyData} (r : RepL h vs ds) {v : Value} {d : PyData} (hv : Rep h v d) (k : Nat) : RepL h (vs.set k v) (ds.set k d) := by
  induction vs generalizing ds k with
  | nil =>
    cases ds with
    | nil => exact .nil
    | cons => have := r.length; cases this
  | cons v vs ih =>
    obtain _ | ⟨e, ds⟩ := ds
    · have := r.length; cases this
    · cases k with
      | zero => exact .cons hv r.inv.2
      | succ k => exact .cons r.inv.1 (ih r.inv.2 k)
theorem RepL.take {vs : List Value} {ds : List PyData} (r : RepL h vs ds) (k : Nat) : RepL h (vs.take k) (ds.take k) := by
  induction vs generalizing ds k with
  | nil =>
    cases ds with
    | nil => simp; exact .nil
    | cons => have := r.length; cases this
  | cons v vs ih =>
    obtain _ | ⟨e, ds⟩ := ds
    · have := r.length; cases this
    · cases k with
      | zero => exact .nil
      | succ k => exact .cons r.inv.1 (ih r.inv.2 k)
theorem RepL.drop {vs : List Value} {ds : List PyData} (r : RepL h vs ds) (k : Nat) : RepL h (vs.drop k) (ds.drop k) := by
  induction vs generalizing ds k with
  | nil =>
    cases ds with
    | nil => simp; exact .nil
    | cons => have := r.length; cases this
  | cons v vs ih =>
    obtain _ | ⟨e, ds⟩ := ds
    · have := r.length; cases this
    · cases k with
      | zero => exact r
      | succ k => exact ih r.inv.2 k

theorem XR.go {v : Value} {x : X} (r : XR F σ h v x) (g : Go F σ h σ' h') : XR F σ' h' v x := by
  cases x with
  | d d => exact Rep.mono r g.vis
  | own a => exact r
  | raw w => exact r
  | un => trivial

/-- only new objects -/
theorem FS.grow (f : FS F σ h) (k : ∀ b o, h.get? b = some o → h'.get? b = some o) : FS F σ h' ∧ Go F σ h σ h' := by
  have g : Go F σ h σ h' := ⟨fun b o _ _ e => k b o e, fun _ ha => .inl ha, fun b o e => ⟨o, k b o e⟩⟩
  refine ⟨⟨?_, ?_, f.capart, ?_, f.nd, f.kd, f.ln, fun b o e => g.vis b o (f.base b o e), fun a ha => (f.ex a ha).imp fun _ e => k _ _ e, fun a ha => (f.cx a ha).imp fun _ e => k _ _ e⟩, g⟩
  · obtain ⟨m, hm, hl⟩ := f.ns
    exact ⟨m, hm.keeps k, fun p hp hk hu => (hl p hp hk hu).imp fun _ q => ⟨q.1, q.2.go g⟩⟩
  · intro p hp hk
    obtain ⟨c, v₀, h1, h2, h3⟩ := f.cell p hp hk
    exact ⟨c, v₀, h1, h2.keeps k, fun hu => (h3 hu).imp fun _ q => ⟨q.1, q.2.go g⟩⟩
  · intro p hp
    obtain ⟨vs, ⟨n1, h1⟩, h2⟩ := f.own p hp
    exact ⟨vs, ⟨n1, k _ _ h1⟩, h2.mono g.vis⟩

theorem FS.push (f : FS F σ h) (o : Obj) : FS F σ (h.push o) ∧ Go F σ h σ (h.push o) :=
  f.grow (fun _ _ e => Heap.get?_push_of_some _ e)
theorem FS.apart (f : FS F σ h) {a : Addr} (e : h.get? a = none) : a ∉ F.all σ := fun m => by obtain ⟨o, q⟩ := f.ex a m; rw [e] at q; cases q
theorem no_size (h : Heap) : h.get? h.objs.size = none := by
  cases e : h.get? h.objs.size with
  | none => rfl
  | some o => exact absurd (Heap.lt_size e) (Nat.lt_irrefl _)
theorem FS.fresh (f : FS F σ h) : h.objs.size ∉ F.all σ := f.apart (no_size h)

inductive Put (n : Str) (x : X) : List (Str × X) → List (Str × X) → Prop where
  | head {y r} : Put n x ((n, y) :: r) ((n, x) :: r)
  | tail {p r r'} : Put n x r r' → Put n x (p :: r) (p :: r')
theorem Put.names {n : Str} {x : X} {l l' : List (Str × X)} (p : Put n x l l') : l'.map (·.1) = l.map (·.1) := by
  induction p with
  | head => rfl
  | tail _ ih => simp [ih]
theorem Put.mem {n : Str} {x : X} {l l' : List (Str × X)} (p : Put n x l l') : n ∈ l.map (·.1) := by
  induction p with
  | head => simp
  | tail _ ih => simp at ih ⊢; exact .inr ih
theorem Put.back {n : Str} {x : X} {l l' : List (Str × X)} (p : Put n x l l') (nd : (l.map (·.1)).Nodup) : ∀ q ∈ l', q = (n, x) ∨ (q.1 ≠ n ∧ q ∈ l) := by
  induction p with
  | head =>
    intro q hq
    rcases List.mem_cons.mp hq with rfl | hq
    · exact .inl rfl
    · refine .inr ⟨fun e => ?_, List.mem_cons_of_mem _ hq⟩
      have := (List.nodup_cons.mp nd).1
      exact this (e ▸ List.mem_map_of_mem (f := (·.1)) hq)
  | @tail p r r' pr ih =>
    have nd' : p.1 ∉ r.map (·.1) ∧ (r.map (·.1)).Nodup := List.nodup_cons.mp nd
    intro q hq
    rcases List.mem_cons.mp hq with rfl | hq
    · exact .inr ⟨fun e => nd'.1 (e ▸ pr.mem), List.mem_cons_self⟩
    · exact (ih nd'.2 q hq).imp id fun z => ⟨z.1, List.mem_cons_of_mem _ z.2⟩

theorem FS.L_in (hF : F.env.locals ∈ F.hid) : F.env.locals ∈ F.all σ := List.mem_append_left _ (List.mem_append_right _ hF)

/-- the frame's dict is written -/
theorem FS.setLoc (f : FS F σ h) {n : Str} {v : Value} {x : X} {loc' : List (Str × X)} {m : Str → Option Value} (hF : F.env.locals ∈ F.hid) (hm : h.Ns F.env.locals m)
    (hl : ∀ p ∈ σ.loc, F.env.kindOf p.1 = some .local → ¬ isUn p.2 → ∃ v, m p.1 = some v ∧ XR F σ h v p.2)
    (hn : h'.Ns F.env.locals (fun y => if y = n then some v else m y)) (hs : Heap.SameBut F.env.locals h h') (hk : F.env.kindOf n = some .local) (p : Put n x σ.loc loc') (hx : XR F σ h v x) :
    FS F ⟨loc', σ.own⟩ h' ∧ Go F σ h ⟨loc', σ.own⟩ h' := by
  have g : Go F σ h ⟨loc', σ.own⟩ h' := ⟨fun b o h1 _ e => (hs.2 b fun q => h1 (q ▸ hF)).trans e, fun _ ha => .inl ha, fun b o e => by
    by_cases q : b = F.env.locals
    · obtain ⟨o', _, _, z, _⟩ := hn; exact ⟨o', q ▸ z⟩
    · exact ⟨o, (hs.2 b q).trans e⟩⟩
  have hd : ∀ {c : Addr} {o : Obj}, h.get? c = some o → (∀ es ep, o.data ≠ .dict es ep) → c ≠ F.env.locals := fun e q z => by
    obtain ⟨oL, es, ep, e', d', _⟩ := hm
    rw [z, e'] at e; cases e; exact q _ _ d'
  refine ⟨⟨⟨_, hn, fun q hq hk' hu => ?_⟩, fun q hq hk' => ?_, f.capart, fun q hq => ?_, f.nd, f.kd, by rw [p.names]; exact f.ln, fun b o e => g.vis b o (f.base b o e), fun a ha => by
      by_cases e : a = F.env.locals
      · obtain ⟨o, _, _, q, _⟩ := hn; exact ⟨o, e ▸ q⟩
      · exact (f.ex a ha).imp fun _ q => (hs.2 _ e).trans q, fun a ha => by
      by_cases e : a.2 = F.env.locals
      · obtain ⟨o, _, _, q, _⟩ := hn; exact ⟨o, e ▸ q⟩
      · exact (f.cx a ha).imp fun _ q => (hs.2 _ e).trans q⟩, g⟩
  · rcases p.back f.ln q hq with rfl | ⟨hne, hq⟩
    · exact ⟨v, if_pos rfl, hx.go g⟩
    · obtain ⟨u, h1, h2⟩ := hl q hq hk' hu
      exact ⟨u, (if_neg hne).trans h1, h2.go g⟩
  · rcases p.back f.ln q hq with rfl | ⟨hne, hq⟩
    · rw [hk] at hk'; cases hk'
    · obtain ⟨c, v₀, h1, ⟨o, h2, d2⟩, h3⟩ := f.cell q hq hk'
      exact ⟨c, v₀, h1, ⟨o, (hs.2 _ (hd h2 fun _ _ z => by rw [d2] at z; cases z)).trans h2, d2⟩, fun hu => (h3 hu).imp fun _ z => ⟨z.1, z.2.go g⟩⟩
  · obtain ⟨vs, ⟨n1, h1⟩, h2⟩ := f.own q hq
    exact ⟨vs, ⟨n1, (hs.2 _ (hd h1 fun _ _ z => by cases z)).trans h1⟩, h2.mono g.vis⟩

/-- a cell of the frame's own is written -/
theorem FS.setCell (f : FS F σ h) {n : Str} {c : Addr} {v : Value} {x : X} {loc' : List (Str × X)} (hF : c ∈ F.hid) (hc : F.env.cells.lookup n = some c) {v₀ : Option Value} (hv : h.IsCell c v₀)
    (hn : h'.IsCell c (some v)) (hs : Heap.SameBut c h h') (hk : F.env.kindOf n = some .cell) (p : Put n x σ.loc loc') (hx : XR F σ h v x) :
    FS F ⟨loc', σ.own⟩ h' ∧ Go F σ h ⟨loc', σ.own⟩ h' := by
  have g : Go F σ h ⟨loc', σ.own⟩ h' := ⟨fun b o h1 _ e => (hs.2 b fun q => h1 (q ▸ hF)).trans e, fun _ ha => .inl ha, fun b o e => by
    by_cases q : b = c
    · obtain ⟨o', z, _⟩ := hn; exact ⟨o', q ▸ z⟩
    · exact ⟨o, (hs.2 b q).trans e⟩⟩
  have hd : ∀ {b : Addr} {o : Obj}, h.get? b = some o → (∀ w, o.data ≠ .cell w) → b ≠ c := fun e q z => by
    obtain ⟨o', e', d'⟩ := hv
    rw [z, e'] at e; cases e; exact q _ d'
  refine ⟨⟨?_, fun q hq hk' => ?_, f.capart, fun q hq => ?_, f.nd, f.kd, by rw [p.names]; exact f.ln, fun b o e => g.vis b o (f.base b o e), fun a ha => by
      by_cases e : a = c
      · obtain ⟨o, q, _⟩ := hn; exact ⟨o, e ▸ q⟩
      · exact (f.ex a ha).imp fun _ q => (hs.2 _ e).trans q, fun a ha => by
      by_cases e : a.2 = c
      · obtain ⟨o, q, _⟩ := hn; exact ⟨o, e ▸ q⟩
      · exact (f.cx a ha).imp fun _ q => (hs.2 _ e).trans q⟩, g⟩
  · obtain ⟨m, ⟨o, es, ep, e, d, r⟩, hl⟩ := f.ns
    refine ⟨m, ⟨o, es, ep, (hs.2 _ (hd e fun _ z => by rw [d] at z; cases z)).trans e, d, r⟩, fun q hq hk' hu => ?_⟩
    rcases p.back f.ln q hq with rfl | ⟨hne, hq⟩
    · rw [hk] at hk'; cases hk'
    · exact (hl q hq hk' hu).imp fun _ z => ⟨z.1, z.2.go g⟩
  · rcases p.back f.ln q hq with rfl | ⟨hne, hq⟩
    · exact ⟨c, some v, hc, hn, fun _ => ⟨v, rfl, hx.go g⟩⟩
    · obtain ⟨c', v₁, h1, h2, h3⟩ := f.cell q hq hk'
      have hcc : c' ≠ c := fun e => hne (name_of_addr f.capart (mem_of_lookup h1) (e ▸ mem_of_lookup hc))
      exact ⟨c', v₁, h1, h2.sameBut hs hcc, fun hu => (h3 hu).imp fun _ z => ⟨z.1, z.2.go g⟩⟩
  · obtain ⟨vs, ⟨n1, h1⟩, h2⟩ := f.own q hq
    exact ⟨vs, ⟨n1, (hs.2 _ (hd h1 fun _ z => by cases z)).trans h1⟩, h2.mono g.vis⟩

inductive Upd (a : Addr) (xs ys : List PyData) : List (Addr × List PyData) → List (Addr × List PyData) → Prop where
  | head {r} : Upd a xs ys ((a, xs) :: r) ((a, ys) :: r)
  | tail {p r r'} : Upd a xs ys r r' → Upd a xs ys (p :: r) (p :: r')
theorem Upd.keys {a : Addr} {xs ys : List PyData} {l l' : List (Addr × List PyData)} (p : Upd a xs ys l l') : l'.map (·.1) = l.map (·.1) := by
  induction p with
  | head => rfl
  | tail _ ih => simp [ih]
theorem Upd.mem {a : Addr} {xs ys : List PyData} {l l' : List (Addr × List PyData)} (p : Upd a xs ys l l') : (a, xs) ∈ l := by
  induction p with
  | head => simp
  | tail _ ih => exact List.mem_cons_of_mem _ ih
theorem Upd.back {a : Addr} {xs ys : List PyData} {l l' : List (Addr × List PyData)} (p : Upd a xs ys l l') (nd : (l.map (·.1)).Nodup) : ∀ q ∈ l', q = (a, ys) ∨ (q.1 ≠ a ∧ q ∈ l) := by
  induction p with
  | head =>
    intro q hq
    rcases List.mem_cons.mp hq with rfl | hq
    · exact .inl rfl
    · refine .inr ⟨fun e => ?_, List.mem_cons_of_mem _ hq⟩
      exact (List.nodup_cons.mp nd).1 (e ▸ List.mem_map_of_mem (f := (·.1)) hq)
  | @tail p r r' pr ih =>
    have nd' : p.1 ∉ r.map (·.1) ∧ (r.map (·.1)).Nodup := List.nodup_cons.mp nd
    intro q hq
    rcases List.mem_cons.mp hq with rfl | hq
    · exact .inr ⟨fun e => nd'.1 (e ▸ List.mem_map_of_mem (f := (·.1)) pr.mem), List.mem_cons_self⟩
    · exact (ih nd'.2 q hq).imp id fun z => ⟨z.1, List.mem_cons_of_mem _ z.2⟩

/-- a list of the frame's own is written -/
theorem FS.setOwn' (f : FS F σ h) {a : Addr} {xs ys : List PyData} {own' : List (Addr × List PyData)} {us : Array Value} (p : Upd a xs ys σ.own own') (hs : ∀ b, b ≠ a → ∀ o, h.get? b = some o → h'.get? b = some o)
    (hl : h'.PlainList a us) (hr : RepL (vis F ⟨σ.loc, own'⟩ h') us.toList ys) :
    FS F ⟨σ.loc, own'⟩ h' ∧ Go F σ h ⟨σ.loc, own'⟩ h' := by
  have hak : a ∈ σ.keys := List.mem_map_of_mem (f := (·.1)) p.mem
  have ek : (⟨σ.loc, own'⟩ : St).keys = σ.keys := p.keys
  have g : Go F σ h ⟨σ.loc, own'⟩ h' := ⟨fun b o _ h2 e => hs b (fun q => h2 (q ▸ hak)) o e, fun b hb => .inl (ek ▸ hb), fun b o e => by
    by_cases q : b = a
    · obtain ⟨n1, z⟩ := hl; exact ⟨_, q ▸ z⟩
    · exact ⟨o, hs b q o e⟩⟩
  obtain ⟨vs, ⟨ka, ea⟩, _⟩ := f.own _ p.mem
  have hd : ∀ {b : Addr} {o : Obj}, h.get? b = some o → (∀ w k, o.data ≠ .seq w k) → b ≠ a := fun e q z => by
    have ea' : h.get? a = some { cls := .type "list", data := .seq vs ka } := ea
    rw [z, ea'] at e; cases e; exact q _ _ rfl
  refine ⟨⟨?_, fun q hq hk' => ?_, f.capart, fun q hq => ?_, by rw [ek]; exact f.nd, by rw [ek]; exact f.kd, f.ln, fun b o e => g.vis b o (f.base b o e), fun b hb => by
      by_cases e : b = a
      · obtain ⟨n1, q⟩ := hl; exact ⟨_, e ▸ q⟩
      · exact (f.ex b (by unfold Frm.all at hb ⊢; rw [ek] at hb; exact hb)).imp fun _ q => hs _ e _ q, fun b hb => by
      by_cases e : b.2 = a
      · obtain ⟨n1, q⟩ := hl; exact ⟨_, e ▸ q⟩
      · exact (f.cx b hb).imp fun _ q => hs _ e _ q⟩, g⟩
  · obtain ⟨m, ⟨o, es, ep, e, d, r⟩, hl⟩ := f.ns
    refine ⟨m, ⟨o, es, ep, hs _ (hd e fun _ _ z => by rw [d] at z; cases z) _ e, d, r⟩, fun q hq hk' hu => ?_⟩
    exact (hl q hq hk' hu).imp fun _ z => ⟨z.1, z.2.go g⟩
  · obtain ⟨c, v₀, h1, ⟨o, h2, d2⟩, h3⟩ := f.cell q hq hk'
    exact ⟨c, v₀, h1, ⟨o, hs _ (hd h2 fun _ _ z => by rw [d2] at z; cases z) _ h2, d2⟩, fun hu => (h3 hu).imp fun _ z => ⟨z.1, z.2.go g⟩⟩
  · rcases p.back f.nd q hq with rfl | ⟨hne, hq⟩
    · exact ⟨us, hl, hr⟩
    · obtain ⟨vs, ⟨n1, h1⟩, h2⟩ := f.own q hq
      exact ⟨vs, ⟨n1, hs _ hne _ h1⟩, h2.mono g.vis⟩

theorem FS.setOwn (f : FS F σ h) {a : Addr} {xs ys : List PyData} {own' : List (Addr × List PyData)} {us : Array Value} (p : Upd a xs ys σ.own own') (hs : ∀ b, b ≠ a → ∀ o, h.get? b = some o → h'.get? b = some o)
    (hl : h'.PlainList a us) (hr : RepL (vis F σ h) us.toList ys) :
    FS F ⟨σ.loc, own'⟩ h' ∧ Go F σ h ⟨σ.loc, own'⟩ h' :=
  f.setOwn' p hs hl (hr.mono (Go.vis (F := F) (σ := σ) (σ' := ⟨σ.loc, own'⟩) ⟨fun b o _ h2 e => hs b (fun q => h2 (q ▸ List.mem_map_of_mem (f := (·.1)) p.mem)) o e, fun b hb => .inl ((show (⟨σ.loc, own'⟩ : St).keys = σ.keys from p.keys) ▸ hb), fun b o e => by
    by_cases q : b = a
    · obtain ⟨n1, z⟩ := hl; exact ⟨_, q ▸ z⟩
    · exact ⟨o, hs b q o e⟩⟩))

/-- a new list enters the frame's own -/
theorem FS.addOwn' (f : FS F σ h) {a : Addr} {xs : List PyData} {vs : Array Value} (hr : RepL (hideAll h' (a :: F.all σ)) vs.toList xs) (ha : h.get? a = none) (hk : ∀ b o, h.get? b = some o → h'.get? b = some o) (hl : h'.PlainList a vs) :
    FS F ⟨σ.loc, (a, xs) :: σ.own⟩ h' ∧ Go F σ h ⟨σ.loc, (a, xs) :: σ.own⟩ h' := by
  have g : Go F σ h ⟨σ.loc, (a, xs) :: σ.own⟩ h' := ⟨fun b o _ _ e => hk b o e, fun b hb => (List.mem_cons.mp hb).elim (fun (e : b = a) => .inr (.inl (e ▸ ha))) .inl, fun b o e => ⟨o, hk b o e⟩⟩
  have hk' : a ∉ σ.keys := fun m => f.apart ha (List.mem_append_right _ m)
  refine ⟨⟨?_, fun q hq hk' => ?_, f.capart, fun q hq => ?_, List.nodup_cons.mpr ⟨hk', f.nd⟩, fun b hb => (List.mem_cons.mp hb).elim (fun (e : b = a) m => f.apart ha (List.mem_append_left _ (by rw [← e]; exact m))) (f.kd b), f.ln, fun b o e => g.vis b o (f.base b o e), fun b hb => ?_, fun b hb => (f.cx b hb).imp fun _ q => hk _ _ q⟩, g⟩
  · obtain ⟨m, hm, hl⟩ := f.ns
    exact ⟨m, hm.keeps hk, fun p hp hk hu => (hl p hp hk hu).imp fun _ q => ⟨q.1, q.2.go g⟩⟩
  · obtain ⟨c, v₀, h1, h2, h3⟩ := f.cell q hq hk'
    exact ⟨c, v₀, h1, h2.keeps hk, fun hu => (h3 hu).imp fun _ q => ⟨q.1, q.2.go g⟩⟩
  · rcases List.mem_cons.mp hq with rfl | hq
    · refine ⟨_, hl, hr.mono fun b o e => vis_mk (of_hideAll _ e) fun m => ?_⟩
      have hn : b ∉ a :: F.all σ := fun m => by rw [hideAll_none _ m] at e; cases e
      rcases List.mem_append.mp m with m | m
      · exact hn (.tail _ (List.mem_append_left _ m))
      · rcases List.mem_cons.mp m with m | m
        · exact hn (by rw [show b = a from m]; exact .head _)
        · exact hn (.tail _ (List.mem_append_right _ m))
    · obtain ⟨vs, ⟨n1, h1⟩, h2⟩ := f.own q hq
      exact ⟨vs, ⟨n1, hk _ _ h1⟩, h2.mono g.vis⟩
  · rcases List.mem_append.mp hb with hb | hb
    · exact (f.ex b (List.mem_append_left _ hb)).imp fun _ q => hk _ _ q
    · rcases List.mem_cons.mp hb with rfl | hb
      · obtain ⟨n1, q⟩ := hl; exact ⟨_, q⟩
      · exact (f.ex b (List.mem_append_right _ hb)).imp fun _ q => hk _ _ q

theorem FS.addOwn (f : FS F σ h) {a : Addr} {xs : List PyData} {vs : Array Value} (hr : RepL (vis F σ h) vs.toList xs) (ha : h.get? a = none) (hk : ∀ b o, h.get? b = some o → h'.get? b = some o) (hl : h'.PlainList a vs) :
    FS F ⟨σ.loc, (a, xs) :: σ.own⟩ h' ∧ Go F σ h ⟨σ.loc, (a, xs) :: σ.own⟩ h' :=
  f.addOwn' (hr.mono fun b o e => hideAll_get _ (hk _ _ (vis_of e).1) fun m => (List.mem_cons.mp m).elim (fun q => by
    have := (vis_of e).1
    rw [q, ha] at this; cases this) (vis_of e).2) ha hk hl

/-- less is known -/
inductive WeakL : List (Str × X) → List (Str × X) → Prop where
  | nil : WeakL [] []
  | same {p l l'} : WeakL l l' → WeakL (p :: l) (p :: l')
  | un {n x l l'} : WeakL l l' → WeakL ((n, x) :: l) ((n, .un) :: l')
theorem WeakL.refl : ∀ l : List (Str × X), WeakL l l
  | [] => .nil
  | _ :: l => .same (.refl l)
theorem WeakL.names {l l' : List (Str × X)} (w : WeakL l l') : l'.map (·.1) = l.map (·.1) := by induction w <;> simp_all
theorem WeakL.back {l l' : List (Str × X)} (w : WeakL l l') : ∀ q ∈ l', q ∈ l ∨ (isUn q.2 ∧ ∃ x, (q.1, x) ∈ l) := by
  induction w with
  | nil => intro q hq; cases hq
  | same _ ih =>
    intro q hq
    rcases List.mem_cons.mp hq with rfl | hq
    · exact .inl List.mem_cons_self
    · exact (ih q hq).imp (List.mem_cons_of_mem _) fun z => ⟨z.1, z.2.imp fun _ => List.mem_cons_of_mem _⟩
  | un _ ih =>
    intro q hq
    rcases List.mem_cons.mp hq with rfl | hq
    · exact .inr ⟨trivial, _, List.mem_cons_self⟩
    · exact (ih q hq).imp (List.mem_cons_of_mem _) fun z => ⟨z.1, z.2.imp fun _ => List.mem_cons_of_mem _⟩

structure Weak (σ τ : St) : Prop where
  loc : WeakL σ.loc τ.loc
  own : List.Sublist τ.own σ.own

theorem FS.weak {τ : St} (f : FS F σ h) (w : Weak σ τ) : FS F τ h ∧ Go F σ h τ h := by
  have ks : List.Sublist τ.keys σ.keys := w.own.map _
  have g : Go F σ h τ h := ⟨fun _ _ _ _ e => e, fun b hb => .inl (ks.mem hb), fun _ o e => ⟨o, e⟩⟩
  refine ⟨⟨?_, fun q hq hk' => ?_, f.capart, fun q hq => ?_, ks.nodup f.nd, fun b hb => f.kd b (ks.mem hb), by rw [w.loc.names]; exact f.ln, fun b o e => g.vis b o (f.base b o e), fun b hb => f.ex b ?_, f.cx⟩, g⟩
  · obtain ⟨m, hm, hl⟩ := f.ns
    refine ⟨m, hm, fun p hp hk hu => ?_⟩
    rcases w.loc.back p hp with hp | ⟨hu', _⟩
    · exact (hl p hp hk hu).imp fun _ q => ⟨q.1, q.2.go g⟩
    · exact absurd hu' hu
  · rcases w.loc.back q hq with hp | ⟨hu', x, hp⟩
    · obtain ⟨c, v₀, h1, h2, h3⟩ := f.cell q hp hk'
      exact ⟨c, v₀, h1, h2, fun hu => (h3 hu).imp fun _ q => ⟨q.1, q.2.go g⟩⟩
    · obtain ⟨c, v₀, h1, h2, h3⟩ := f.cell _ hp hk'
      exact ⟨c, v₀, h1, h2, fun hu => absurd hu' hu⟩
  · obtain ⟨vs, h1, h2⟩ := f.own q (w.own.mem hq)
    exact ⟨vs, h1, h2.mono g.vis⟩
  · rcases List.mem_append.mp hb with hb | hb
    · exact List.mem_append_left _ hb
    · exact List.mem_append_right _ (ks.mem hb)

/-- an own list is seen as data from here on -/
theorem FS.freeze (f : FS F σ h) {a : Addr} {xs : List PyData} {pre post : List (Addr × List PyData)} (e : σ.own = pre ++ (a, xs) :: post) :
    FS F ⟨σ.loc, pre ++ post⟩ h ∧ Go F σ h ⟨σ.loc, pre ++ post⟩ h ∧ Rep (vis F ⟨σ.loc, pre ++ post⟩ h) (.ref a) (.list xs) := by
  have w : Weak σ ⟨σ.loc, pre ++ post⟩ := ⟨.refl _, by rw [e]; exact List.Sublist.append (List.Sublist.refl _) (List.sublist_cons_self _ _)⟩
  obtain ⟨f', g⟩ := f.weak w
  refine ⟨f', g, ?_⟩
  obtain ⟨vs, ⟨n1, h1⟩, h2⟩ := f.own (a, xs) (by rw [e]; simp)
  obtain ⟨as, h2⟩ := h2.mono g.vis
  have ha : a ∈ σ.keys := by unfold St.keys; rw [e]; simp
  have hnd : (pre.map (·.1) ++ a :: post.map (·.1)).Nodup := by have := f.nd; unfold St.keys at this; rw [e] at this; simpa using this
  refine ⟨_, reads_list_at (vis_mk h1 fun m => ?_) rfl rfl h2⟩
  rcases List.mem_append.mp m with m | m
  · exact f.kd a ha m
  · have m' : a ∈ pre.map (·.1) ++ post.map (·.1) := by simpa [St.keys] using m
    obtain ⟨_, n2, n3⟩ := List.nodup_append.mp hnd
    rcases List.mem_append.mp m' with q | q
    · exact n3 a q a List.mem_cons_self rfl
    · exact (List.nodup_cons.mp n2).1 q
end Mine
namespace Mine

abbrev EOk : Value → Shared → Prop := fun _ _ => False

inductive Fl where
  | next | brk | cont
  | ret (x : X)

noncomputable def RU (_ : Frm) (_ : St) (_ : Heap) (_ : Unit) (_ : Unit) : Prop := True
noncomputable def RB (_ : Frm) (_ : St) (_ : Heap) (a b : Bool) : Prop := a = b
noncomputable def RF (F : Frm) (σ : St) (h : Heap) : Flow → Fl → Prop
  | .next, .next => True
  | .brk, .brk => True
  | .cont, .cont => True
  | .ret v, .ret x => XR F σ h v x
  | _, _ => False
inductive RL (F : Frm) (σ : St) (h : Heap) : List Value → List X → Prop where
  | nil : RL F σ h [] []
  | cons {v x vs xs} : XR F σ h v x → RL F σ h vs xs → RL F σ h (v :: vs) (x :: xs)

theorem RL.go {F σ h σ' h'} {vs : List Value} {xs : List X} (r : RL F σ h vs xs) (g : Go F σ h σ' h') : RL F σ' h' vs xs := by
  induction r with
  | nil => exact .nil
  | cons a _ ih => exact .cons (a.go g) ih
theorem RL.length {F σ h} {vs : List Value} {xs : List X} (r : RL F σ h vs xs) : vs.length = xs.length := by
  induction r with
  | nil => rfl
  | cons _ _ ih => simp [ih]
theorem RL.data {F σ h} {vs : List Value} {ds : List PyData} (r : RL F σ h vs (ds.map X.d)) : RepL (vis F σ h) vs ds := by
  induction ds generalizing vs with
  | nil => cases r; exact .nil
  | cons d ds ih => cases r with | cons a b => exact .cons a (ih b)
theorem RL.of {F σ h} {vs : List Value} {ds : List PyData} (r : RepL (vis F σ h) vs ds) : RL F σ h vs (ds.map X.d) := by
  induction ds generalizing vs with
  | nil => rw [r.nil_inv]; exact .nil
  | cons d ds ih => obtain ⟨v, us, rfl, a, b⟩ := r.cons_inv; exact .cons a (ih b)

section
variable {α β : Type}
noncomputable def P1 (F : Frm) (σ : St) (s : Shared) (R : Frm → St → Heap → α → β → Prop) (Q : β → St → Prop) (v : α) (s' : Shared) : Prop :=
  ∃ x σ', R F σ' s'.heap v x ∧ FS F σ' s'.heap ∧ Go F σ s.heap σ' s'.heap ∧ Same s s' ∧ Q x σ'
noncomputable def W (R : Frm → St → Heap → α → β → Prop) (M : Model) (A : Around) (F : Frm) (t : Sem α) (σ : St) (Q : β → St → Prop) : Prop :=
  ∀ s, FS F σ s.heap → wpAny M A t (P1 F σ s R Q) EOk s
noncomputable def W1 (R : Frm → St → Heap → α → β → Prop) (M : Model) (A : Around) (F : Frm) (t : Value → Sem α) (x : X) (σ : St) (Q : β → St → Prop) : Prop :=
  ∀ v s, FS F σ s.heap → XR F σ s.heap v x → wpAny M A (t v) (P1 F σ s R Q) EOk s
end
abbrev WV := W XR
abbrev WB := W RB
abbrev WF := W RF
abbrev WL := W RL
abbrev WU := W RU
abbrev A1 := W1 RU
noncomputable def AL (M : Model) (A : Around) (F : Frm) (t : List Value → Sem Unit) (xs : List X) (σ : St) (Q : St → Prop) : Prop :=
  ∀ vs s, FS F σ s.heap → RL F σ s.heap vs xs → wpAny M A (t vs) (P1 F σ s RU (fun _ => Q)) EOk s
noncomputable def V2 (M : Model) (A : Around) (F : Frm) (t : Value → Value → Sem Value) (x y : X) (σ : St) (Q : X → St → Prop) : Prop :=
  ∀ v u s, FS F σ s.heap → XR F σ s.heap v x → XR F σ s.heap u y → wpAny M A (t v u) (P1 F σ s XR Q) EOk s
abbrev V1 := W1 XR
abbrev B1 := W1 RB

section
variable {α β : Type} {R : Frm → St → Heap → α → β → Prop} {M : Model} {A : Around} {F : Frm} {σ σ₁ : St} {t : Sem α} {Q Q' : β → St → Prop} {s s₁ : Shared}

theorem P1.back {v : α} {s' : Shared} (g : Go F σ s.heap σ₁ s₁.heap) (e : Same s s₁) (p : P1 F σ₁ s₁ R Q v s') : P1 F σ s R Q v s' := by
  obtain ⟨x, σ', r, f, g', e', q⟩ := p
  exact ⟨x, σ', r, f, g.trans g', e.trans e', q⟩
theorem W.mono (h : W R M A F t σ Q) (k : ∀ x σ', Q x σ' → Q' x σ') : W R M A F t σ Q' := fun s f =>
  wpAny_mono (h s f) (fun _ _ ⟨x, σ', r, f', g, e, q⟩ => ⟨x, σ', r, f', g, e, k _ _ q⟩) fun _ _ z => z
theorem wp_back {E : Value → Shared → Prop} (g : Go F σ s.heap σ₁ s₁.heap) (e : Same s s₁) (h : wpAny M A t (P1 F σ₁ s₁ R Q) EOk s₁) : wpAny M A t (P1 F σ s R Q) E s₁ :=
  wpAny_mono h (fun _ _ p => p.back g e) fun _ _ z => z.elim
theorem P1.here {v : α} {x : β} (f : FS F σ s.heap) (r : R F σ s.heap v x) (q : Q x σ) {tk : Nat} : P1 F σ s R Q v { s with toks := tk } := ⟨x, σ, r, f, .refl, ⟨_, _, rfl⟩, q⟩
theorem P1.here' {v : α} {x : β} (f : FS F σ s.heap) (r : R F σ s.heap v x) (q : Q x σ) : P1 F σ s R Q v s := ⟨x, σ, r, f, .refl, .refl _, q⟩
theorem P1.at {v : α} {x : β} {h' : Heap} {tk : Nat} (fg : FS F σ₁ h' ∧ Go F σ s.heap σ₁ h') (r : R F σ₁ h' v x) (q : Q x σ₁) : P1 F σ s R Q v { s with heap := h', toks := tk } :=
  ⟨x, σ₁, r, fg.1, fg.2, ⟨_, _, rfl⟩, q⟩
/-- weaken the state ahead -/
theorem W.weak {τ : St} (w : Weak σ τ) (h : W R M A F t τ Q) : W R M A F t σ Q := fun s f =>
  let ⟨f', g⟩ := f.weak w
  wpAny_mono (h s f') (fun _ _ p => p.back g (.refl _)) fun _ _ z => z
end

section
variable {prog : Program} {w : World} {A : Around} {F : Frm} {σ : St}

-- constants
theorem c_int {i k pos} {Q : X → St → Prop} (h : Q (.d (.int i)) σ) : WV (model prog w) A F (eval (.Constant (.int i) k pos) F.env) σ Q := fun _ f => wpAny_Constant_int (.here (x := .d _) f ⟨_, .int _ _⟩ h)
theorem c_str {x k pos} {Q : X → St → Prop} (h : Q (.d (.str x)) σ) : WV (model prog w) A F (eval (.Constant (.str x) k pos) F.env) σ Q := fun _ f => wpAny_Constant_str (.here (x := .d _) f ⟨_, .str _ _⟩ h)
theorem c_bool {b k pos} {Q : X → St → Prop} (h : Q (.d (.bool b)) σ) : WV (model prog w) A F (eval (.Constant (.bool b) k pos) F.env) σ Q := fun _ f => wpAny_Constant_bool (.here' (x := .d _) f ⟨_, .bool _⟩ h)
theorem c_none {k pos} {Q : X → St → Prop} (h : Q (.d .none) σ) : WV (model prog w) A F (eval (.Constant .none k pos) F.env) σ Q := fun _ f => wpAny_Constant_none (.here' (x := .d _) f ⟨_, .none⟩ h)

-- names
theorem n_loc {n : Str} {pos : Pos} {x : X} {Q : X → St → Prop} (hm : (n, x) ∈ σ.loc) (hu : ¬ isUn x) (h : Q x σ) (hk : F.env.kindOf n = some .local) (hs : F.env.scope.kind = .function) (hd : (n == ("__debug__" : Str)) = false) :
    WV (model prog w) A F (eval (.Name n pos) F.env) σ Q := fun s f => by
  obtain ⟨m, hm', hl⟩ := f.ns
  obtain ⟨v, e, r⟩ := hl _ hm hk hu
  exact wpAny_Name (wpAny_loadName_local hs hk hm' e (.here' f r h)) hd
theorem n_cell {n : Str} {pos : Pos} {x : X} {Q : X → St → Prop} (hm : (n, x) ∈ σ.loc) (hu : ¬ isUn x) (h : Q x σ) (hk : F.env.kindOf n = some .cell) (hs : F.env.scope.kind = .function) (hd : (n == ("__debug__" : Str)) = false) :
    WV (model prog w) A F (eval (.Name n pos) F.env) σ Q := fun s f => by
  obtain ⟨c, v₀, h1, h2, h3⟩ := f.cell _ hm hk
  obtain ⟨v, rfl, r⟩ := h3 hu
  exact wpAny_Name (wpAny_loadName_cell hs hk h1 h2 (.here' f r h)) hd

noncomputable def GV (F : Frm) (n : Str) (v : Value) : Prop := ∃ mg, F.B.Ns F.env.globals mg ∧ mg n = some v
noncomputable def BV (F : Frm) (n : Str) (v : Value) : Prop := ∃ mg mb, F.B.Ns F.env.globals mg ∧ mg n = none ∧ F.B.Ns F.env.builtins mb ∧ mb n = some v
theorem FS.up {h : Heap} (f : FS F σ h) : ∀ b o, F.B.get? b = some o → h.get? b = some o := fun b o e => (vis_of (f.base b o e)).1
theorem n_glob {n : Str} {pos : Pos} {v : Value} {Q : X → St → Prop} (g : GV F n v) (h : Q (.raw v) σ) (hk : F.env.kindOf n = some .globalImplicit) (hs : F.env.scope.kind = .function) (hd : (n == ("__debug__" : Str)) = false) :
    WV (model prog w) A F (eval (.Name n pos) F.env) σ Q := fun s f => by
  obtain ⟨mg, h1, h2⟩ := g
  exact Calls.Name_function_global hs hk (Calls.loadGlobal_global (h1.keeps f.up) h2 (.here' (x := .raw _) f rfl h)) hd
theorem n_globd {n : Str} {pos : Pos} {v : Value} {d : PyData} {Q : X → St → Prop} (g : GV F n v) (hr : Rep F.B v d) (h : Q (.d d) σ) (hk : F.env.kindOf n = some .globalImplicit) (hs : F.env.scope.kind = .function) (hd : (n == ("__debug__" : Str)) = false) :
    WV (model prog w) A F (eval (.Name n pos) F.env) σ Q := fun s f => by
  obtain ⟨mg, h1, h2⟩ := g
  exact Calls.Name_function_global hs hk (Calls.loadGlobal_global (h1.keeps f.up) h2 (.here' (x := .d _) f (hr.mono f.base) h)) hd
theorem n_blt {n : Str} {pos : Pos} {v : Value} {Q : X → St → Prop} (g : BV F n v) (h : Q (.raw v) σ) (hk : F.env.kindOf n = some .globalImplicit) (hs : F.env.scope.kind = .function) (hd : (n == ("__debug__" : Str)) = false) :
    WV (model prog w) A F (eval (.Name n pos) F.env) σ Q := fun s f => by
  obtain ⟨mg, mb, h1, h2, h3, h4⟩ := g
  exact Calls.Name_function_global hs hk (Calls.loadGlobal_builtin (h1.keeps f.up) h2 (h3.keeps f.up) h4 (.here' (x := .raw _) f rfl h)) hd

-- stores
theorem a_loc {n : Str} {pos : Pos} {x : X} {loc' : List (Str × X)} {Q : Unit → St → Prop} (p : Put n x σ.loc loc') (h : Q () ⟨loc', σ.own⟩) (hF : F.env.locals ∈ F.hid) (hk : F.env.kindOf n = some .local) (hs : F.env.scope.kind = .function) :
    A1 (model prog w) A F (assign (.Name n pos) F.env) x σ Q := fun v s f r => by
  obtain ⟨m, hm, hl⟩ := f.ns
  exact wpAny_assign_Name (wpAny_storeName_local hk hm (fun h' hn hs' => .at (f.setLoc hF hm hl hn hs' hk p r) trivial h) (by rw [hs]; rfl))
theorem a_cell {n : Str} {pos : Pos} {x : X} {loc' : List (Str × X)} {Q : Unit → St → Prop} (p : Put n x σ.loc loc') (h : Q () ⟨loc', σ.own⟩) (hF : ∀ c, F.env.cells.lookup n = some c → c ∈ F.hid) (hk : F.env.kindOf n = some .cell) (hs : F.env.scope.kind = .function) :
    A1 (model prog w) A F (assign (.Name n pos) F.env) x σ Q := fun v s f r => by
  obtain ⟨y, hy⟩ : ∃ y, (n, y) ∈ σ.loc := by
    obtain ⟨q, hq, e⟩ := List.mem_map.mp p.mem
    exact ⟨q.2, by rw [← e]; exact hq⟩
  obtain ⟨c, v₀, h1, h2, _⟩ := f.cell _ hy hk
  exact wpAny_assign_Name (wpAny_storeName_cell hs hk h1 h2 fun h' hn hs' => .at (f.setCell (hF c h1) h1 h2 hn hs' hk p r) trivial h)

theorem al_nil {Q : St → Prop} (h : Q σ) : AL (model prog w) A F (assignInOrder []) [] σ Q := fun vs s f r => by
  cases r
  exact wpAny_assignInOrder_none (.here' (x := ()) f trivial h)
theorem al_cons {t : Value → Sem Unit} {ts : List (Value → Sem Unit)} {x : X} {xs : List X} {Q : St → Prop} (h : A1 (model prog w) A F t x σ (fun _ σ₁ => AL (model prog w) A F (assignInOrder ts) xs σ₁ Q)) :
    AL (model prog w) A F (assignInOrder (t :: ts)) (x :: xs) σ Q := fun vs s f r => by
  cases r with
  | cons r1 r2 =>
    refine wpAny_assignInOrder_more (wpAny_mono (h _ s f r1) (fun _ s₁ p => ?_) fun _ _ z => z)
    obtain ⟨_, σ₁, _, f₁, g₁, e₁, q⟩ := p
    exact wp_back g₁ e₁ (q _ s₁ f₁ (r2.go g₁))

theorem isTuple_of {h : Heap} {v : Value} {ds : List PyData} (r : Rep h v (.tuple ds)) : ∃ t vs, v = .ref t ∧ h.IsTuple t vs ∧ RepL h vs.toList ds := by
  obtain ⟨as, r⟩ := r
  cases r with
  | tuple h1 h2 h3 h4 => exact ⟨_, _, rfl, ⟨_, h1, h2, _, h3⟩, _, h4⟩
theorem isList_of {h : Heap} {v : Value} {ds : List PyData} (r : Rep h v (.list ds)) : ∃ t vs, v = .ref t ∧ h.IsList t vs ∧ RepL h vs.toList ds := by
  obtain ⟨as, r⟩ := r
  cases r with
  | list h1 h2 h3 h4 => exact ⟨_, _, rfl, ⟨_, h1, h2, _, h3⟩, _, h4⟩
theorem IsTuple.up {h : Heap} {t : Addr} {vs : Array Value} (x : (vis F σ h).IsTuple t vs) : h.IsTuple t vs := let ⟨o, a, b⟩ := x; ⟨o, (vis_of a).1, b⟩
theorem IsList.up {h : Heap} {t : Addr} {vs : Array Value} (x : (vis F σ h).IsList t vs) : h.IsList t vs := let ⟨o, a, b⟩ := x; ⟨o, (vis_of a).1, b⟩

theorem extBut_grow {h h' : Heap} (e : Heap.ExtBut h.objs.size h h') : ∀ b o, h.get? b = some o → h'.get? b = some o := fun b o q => e b o (Nat.ne_of_lt (Heap.lt_size q)) q

theorem a_tup {elts : List Expr} {k : Nat} {pos : Pos} {ds : List PyData} {Q : Unit → St → Prop} (hA : A.handled = none)
    (h : AL (model prog w) A F (assignInOrder ((assignEach elts F.env).map (·.2))) (ds.map X.d) σ (Q ()))
    (hn : (assignEach elts F.env).length = ds.length) (hstar : (assignEach elts F.env).findIdx? (·.1) = none) :
    A1 (model prog w) A F (assign (.Tuple elts k pos) F.env) (.d (.tuple ds)) σ Q := fun v s f r => by
  obtain ⟨t, vs, rfl, ht, rl⟩ := isTuple_of r
  have e1 : vs.size = ds.length := by have := rl.length; simpa using this
  refine wpAny_assign_Tuple hA (IsTuple.up ht) (hn.trans e1.symm) hstar fun h' he => ?_
  obtain ⟨f', g'⟩ := f.grow (extBut_grow he)
  exact wp_back (s₁ := { s with heap := h' }) g' ⟨h', s.toks, rfl⟩ (wpAny_mono (h _ { s with heap := h' } f' (.of (rl.mono g'.vis))) (fun _ _ ⟨x, σ', a, b, c, d, e⟩ => ⟨x, σ', a, b, c, d, e⟩) fun _ _ z => z)

-- items
theorem l_nil {pos : Pos} {Q : List X → St → Prop} (h : Q [] σ) : WL (model prog w) A F (spliced (backTo pos (starEach [] F.env))) σ Q := fun s f => wpAny_items_nil (.here' f .nil h)
theorem l_cons {pos : Pos} {e : Expr} {rest : List Expr} {Q : List X → St → Prop}
    (h : WV (model prog w) A F (eval e F.env) σ (fun x σ₁ => WL (model prog w) A F (spliced (backTo pos (starEach rest F.env))) σ₁ (fun xs σ₂ => Q (x :: xs) σ₂)))
    (he : starEach (e :: rest) F.env = (false, eval e F.env) :: starEach rest F.env := by rfl) : WL (model prog w) A F (spliced (backTo pos (starEach (e :: rest) F.env))) σ Q := fun s f => by
  refine wpAny_items_cons (wpAny_mono (h s f) (fun v s₁ p => ?_) fun _ _ z => z) he
  obtain ⟨x, σ₁, r₁, f₁, g₁, e₁, q⟩ := p
  refine wpAny_mono (q s₁ f₁) (fun vs s₂ p => ?_) fun _ _ z => z
  obtain ⟨xs, σ₂, r₂, f₂, g₂, e₂, q⟩ := p
  exact ⟨_, σ₂, .cons (r₁.go g₂) r₂, f₂, g₁.trans g₂, e₁.trans e₂, q⟩

theorem repTuple {h : Heap} (f : FS F σ h) {vs : List Value} {ds : List PyData} (r : RepL (vis F σ h) vs ds) :
    Rep (vis F σ (h.push { cls := .type "tuple", data := .seq vs.toArray })) (.ref h.objs.size) (.tuple ds) := by
  obtain ⟨as, q⟩ := r.mono (f.push { cls := .type "tuple", data := .seq vs.toArray }).2.vis
  exact ⟨_, reads_tuple_at (vis_mk (Heap.get?_push_size h (o := { cls := .type "tuple", data := .seq vs.toArray }) rfl) f.fresh) rfl rfl (by simpa using q)⟩
theorem repList {h : Heap} (f : FS F σ h) {vs : List Value} {ds : List PyData} (r : RepL (vis F σ h) vs ds) :
    Rep (vis F σ (h.push { cls := .type "list", data := .seq vs.toArray })) (.ref h.objs.size) (.list ds) := by
  obtain ⟨as, q⟩ := r.mono (f.push { cls := .type "list", data := .seq vs.toArray }).2.vis
  exact ⟨_, reads_list_at (vis_mk (Heap.get?_push_size h (o := { cls := .type "list", data := .seq vs.toArray }) rfl) f.fresh) rfl rfl (by simpa using q)⟩

/-- a tuple of data -/
theorem e_tup {elts : List Expr} {k : Nat} {pos : Pos} {Q : X → St → Prop}
    (h : WL (model prog w) A F (spliced (backTo pos (starEach elts F.env))) σ (fun xs σ' => ∃ ds, xs = ds.map X.d ∧ ds.length ≤ sizeLine ∧ Q (.d (.tuple ds)) σ')) : WV (model prog w) A F (eval (.Tuple elts k pos) F.env) σ Q := fun s f => by
  refine wpAny_Tuple (wpAny_mono (h s f) (fun vs s₁ p => ?_) fun _ _ z => z)
  obtain ⟨_, σ₁, r₁, f₁, g₁, e₁, ds, rfl, hl, q⟩ := p
  refine ⟨by rw [r₁.length]; simpa using hl, ?_⟩
  obtain ⟨f₂, g₂⟩ := f₁.push { cls := .type "tuple", data := .seq vs.toArray }
  exact ⟨.d _, σ₁, repTuple f₁ r₁.data, f₂, g₁.trans g₂, e₁.trans ⟨_, _, rfl⟩, q⟩
/-- a list of data, seen as data -/
theorem e_listd {elts : List Expr} {pos : Pos} {Q : X → St → Prop}
    (h : WL (model prog w) A F (spliced (backTo pos (starEach elts F.env))) σ (fun xs σ' => ∃ ds, xs = ds.map X.d ∧ ds.length ≤ sizeLine ∧ Q (.d (.list ds)) σ')) : WV (model prog w) A F (eval (.List elts pos) F.env) σ Q := fun s f => by
  refine wpAny_List (wpAny_mono (h s f) (fun vs s₁ p => ?_) fun _ _ z => z)
  obtain ⟨_, σ₁, r₁, f₁, g₁, e₁, ds, rfl, hl, q⟩ := p
  refine ⟨by rw [r₁.length]; simpa using hl, ?_⟩
  obtain ⟨f₂, g₂⟩ := f₁.push { cls := .type "list", data := .seq vs.toArray }
  exact ⟨.d _, σ₁, repList f₁ r₁.data, f₂, g₁.trans g₂, e₁.trans ⟨_, _, rfl⟩, q⟩
/-- a list of data that the frame owns -/
theorem e_listo {elts : List Expr} {pos : Pos} {Q : X → St → Prop}
    (h : WL (model prog w) A F (spliced (backTo pos (starEach elts F.env))) σ (fun xs σ' => ∃ ds, xs = ds.map X.d ∧ ds.length ≤ sizeLine ∧ ∀ a, Q (.own a) ⟨σ'.loc, (a, ds) :: σ'.own⟩)) : WV (model prog w) A F (eval (.List elts pos) F.env) σ Q := fun s f => by
  refine wpAny_List (wpAny_mono (h s f) (fun vs s₁ p => ?_) fun _ _ z => z)
  obtain ⟨_, σ₁, r₁, f₁, g₁, e₁, ds, rfl, hl, q⟩ := p
  refine ⟨by rw [r₁.length]; simpa using hl, ?_⟩
  obtain ⟨f₂, g₂⟩ := f₁.addOwn (a := s₁.heap.objs.size) (h' := s₁.heap.push { cls := .type "list", data := .seq vs.toArray }) (vs := vs.toArray) (xs := ds) (by simpa using r₁.data) (no_size _) (fun _ _ e => Heap.get?_push_of_some _ e) ⟨0, Heap.get?_push_size _ rfl⟩
  exact ⟨.own _, _, rfl, f₂, g₁.trans g₂, e₁.trans ⟨_, _, rfl⟩, q _⟩

-- operators
theorem e_bin {l op r pos} {Q : X → St → Prop} (h : WV (model prog w) A F (eval l F.env) σ (fun x σ₁ => WV (model prog w) A F (eval r F.env) σ₁ (fun y σ₂ => V2 (model prog w) A F (binaryOp op) x y σ₂ Q))) :
    WV (model prog w) A F (eval (.BinOp l op r pos) F.env) σ Q := fun s f => by
  refine wpAny_BinOp (wpAny_mono (h s f) (fun v s₁ p => ?_) fun _ _ z => z)
  obtain ⟨x, σ₁, r₁, f₁, g₁, e₁, q⟩ := p
  refine wpAny_mono (q s₁ f₁) (fun u s₂ p => ?_) fun _ _ z => z
  obtain ⟨y, σ₂, r₂, f₂, g₂, e₂, q⟩ := p
  exact wp_back (g₁.trans g₂) (e₁.trans e₂) (q v u s₂ f₂ (r₁.go g₂) r₂)
theorem e_cmp {l op r pos} {Q : X → St → Prop} (h : WV (model prog w) A F (eval l F.env) σ (fun x σ₁ => WV (model prog w) A F (eval r F.env) σ₁ (fun y σ₂ => V2 (model prog w) A F (compareOp op) x y σ₂ Q)))
    (hm : behindInMarks op r = false := by rfl) : WV (model prog w) A F (eval (.Compare l [op] [r] pos) F.env) σ Q := fun s f => by
  refine wpAny_Compare1 (wpAny_mono (h s f) (fun v s₁ p => ?_) fun _ _ z => z) hm
  obtain ⟨x, σ₁, r₁, f₁, g₁, e₁, q⟩ := p
  refine wpAny_mono (q s₁ f₁) (fun u s₂ p => ?_) fun _ _ z => z
  obtain ⟨y, σ₂, r₂, f₂, g₂, e₂, q⟩ := p
  exact wp_back (g₁.trans g₂) (e₁.trans e₂) (q v u s₂ f₂ (r₁.go g₂) r₂)
/-- a comparison that is tested -/
theorem t_cmp {l op r pos whole} {Q : Bool → St → Prop} (h : WV (model prog w) A F (eval l F.env) σ (fun x σ₁ => WV (model prog w) A F (eval r F.env) σ₁ (fun y σ₂ => V2 (model prog w) A F (compareOp op) x y σ₂ (fun z σ₃ => ∃ b, z = .d (.bool b) ∧ Q b σ₃))))
    (hm : behindInMarks op r = false := by rfl) : WB (model prog w) A F (isTrue (.Compare l [op] [r] pos) F.env whole) σ Q := fun s f => by
  refine wpAny_isTrue_Compare1 (wpAny_mono (h s f) (fun v s₁ p => ?_) fun _ _ z => z) hm
  obtain ⟨x, σ₁, r₁, f₁, g₁, e₁, q⟩ := p
  refine wpAny_mono (q s₁ f₁) (fun u s₂ p => ?_) fun _ _ z => z
  obtain ⟨y, σ₂, r₂, f₂, g₂, e₂, q⟩ := p
  refine wpAny_mono (q v u s₂ f₂ (r₁.go g₂) r₂) (fun c s₃ p => ?_) fun _ _ z => z
  obtain ⟨_, σ₃, r₃, f₃, g₃, e₃, b, rfl, q⟩ := p
  obtain ⟨_, r₃⟩ := r₃
  cases r₃
  exact wpAny_truthy_bool ⟨b, σ₃, rfl, f₃, (g₁.trans g₂).trans g₃, (e₁.trans e₂).trans e₃, q⟩
theorem t_not {x : Expr} {pos : Pos} {whole : Sem Value} {Q : Bool → St → Prop} (h : WB (model prog w) A F (isTrue x F.env (eval x F.env)) σ (fun b σ₁ => Q (!b) σ₁)) : WB (model prog w) A F (isTrue (.UnaryOp .Not x pos) F.env whole) σ Q := fun s f =>
  wpAny_isTrue_Not (wpAny_mono (h s f) (fun v s₁ p => by
    obtain ⟨x, σ₁, r₁, f₁, g₁, e₁, q⟩ := p
    cases r₁
    exact ⟨_, σ₁, rfl, f₁, g₁, e₁, q⟩) fun _ _ z => z)
/-- truth of a bool value -/
theorem t_val {e : Expr} {Q : Bool → St → Prop} (h : WV (model prog w) A F (eval e F.env) σ (fun x σ₁ => ∃ b, x = .d (.bool b) ∧ Q b σ₁))
    (he : isTrue e F.env (eval e F.env) = (do let v ← eval e F.env; standAt e.pos; holding [v] (truthy v)) := by rfl) : WB (model prog w) A F (isTrue e F.env (eval e F.env)) σ Q := fun s f =>
  wpAny_isTrue_value (wpAny_mono (h s f) (fun v s₁ p => by
    obtain ⟨_, σ₁, r₁, f₁, g₁, e₁, b, rfl, q⟩ := p
    obtain ⟨_, r₁⟩ := r₁
    cases r₁
    exact wpAny_truthy_bool ⟨_, σ₁, rfl, f₁, g₁, e₁, q⟩) fun _ _ z => z) he
theorem t_and {values : List Expr} {pos : Pos} {whole : Sem Value} {Q : Bool → St → Prop} (h : WB (model prog w) A F (allTrue .And values F.env) σ Q) : WB (model prog w) A F (isTrue (.BoolOp .And values pos) F.env whole) σ Q := fun s f => wpAny_isTrue_BoolOp (h s f)
theorem t_or {values : List Expr} {pos : Pos} {whole : Sem Value} {Q : Bool → St → Prop} (h : WB (model prog w) A F (allTrue .Or values F.env) σ Q) : WB (model prog w) A F (isTrue (.BoolOp .Or values pos) F.env whole) σ Q := fun s f => wpAny_isTrue_BoolOp (h s f)
theorem and_nil {Q : Bool → St → Prop} (h : Q true σ) : WB (model prog w) A F (allTrue .And [] F.env) σ Q := fun s f => wpAny_allTrue_And_nil (.here' f rfl h)
theorem or_nil {Q : Bool → St → Prop} (h : Q false σ) : WB (model prog w) A F (allTrue .Or [] F.env) σ Q := fun s f => wpAny_allTrue_Or_nil (.here' f rfl h)
theorem and_cons {x : Expr} {rest : List Expr} {Q : Bool → St → Prop} (h : WB (model prog w) A F (isTrue x F.env (eval x F.env)) σ (fun b σ₁ => if b = true then WB (model prog w) A F (allTrue .And rest F.env) σ₁ Q else Q false σ₁)) :
    WB (model prog w) A F (allTrue .And (x :: rest) F.env) σ Q := fun s f => by
  refine wpAny_allTrue_And_cons (wpAny_mono (h s f) (fun b s₁ p => ?_) fun _ _ z => z)
  obtain ⟨_, σ₁, rfl, f₁, g₁, e₁, q⟩ := p
  cases b
  · exact ⟨_, σ₁, rfl, f₁, g₁, e₁, q⟩
  · exact wp_back g₁ e₁ (q s₁ f₁)
theorem or_cons {x : Expr} {rest : List Expr} {Q : Bool → St → Prop} (h : WB (model prog w) A F (isTrue x F.env (eval x F.env)) σ (fun b σ₁ => if b = true then Q true σ₁ else WB (model prog w) A F (allTrue .Or rest F.env) σ₁ Q)) :
    WB (model prog w) A F (allTrue .Or (x :: rest) F.env) σ Q := fun s f => by
  refine wpAny_allTrue_Or_cons (wpAny_mono (h s f) (fun b s₁ p => ?_) fun _ _ z => z)
  obtain ⟨_, σ₁, rfl, f₁, g₁, e₁, q⟩ := p
  cases b
  · exact wp_back g₁ e₁ (q s₁ f₁)
  · exact ⟨_, σ₁, rfl, f₁, g₁, e₁, q⟩
theorem e_if {test body orelse : Expr} {pos : Pos} {Q : X → St → Prop}
    (h : WB (model prog w) A F (isTrue test F.env (eval test F.env)) σ (fun b σ₁ => if b = true then WV (model prog w) A F (eval body F.env) σ₁ Q else WV (model prog w) A F (eval orelse F.env) σ₁ Q)) :
    WV (model prog w) A F (eval (.IfExp test body orelse pos) F.env) σ Q := fun s f => by
  refine wpAny_IfExp (wpAny_mono (h s f) (fun b s₁ p => ?_) fun _ _ z => z)
  obtain ⟨_, σ₁, rfl, f₁, g₁, e₁, q⟩ := p
  cases b
  · exact wp_back g₁ e₁ (q s₁ f₁)
  · exact wp_back g₁ e₁ (q s₁ f₁)

-- statements
theorem x_nil {Q : Fl → St → Prop} (h : Q .next σ) : WF (model prog w) A F (execs [] F.env) σ Q := fun s f => wpAny_execs_nil (.here' (x := .next) f trivial h)
noncomputable def Then (M : Model) (A : Around) (F : Frm) (rest : List Stmt) (Q : Fl → St → Prop) : Fl → St → Prop := fun fl σ₁ => match fl with
  | .next => WF M A F (execs rest F.env) σ₁ Q
  | fl => Q fl σ₁
theorem x_cons {st : Stmt} {rest : List Stmt} {Q : Fl → St → Prop} (h : WF (model prog w) A F (exec st F.env) σ (Then (model prog w) A F rest Q)) : WF (model prog w) A F (execs (st :: rest) F.env) σ Q := fun s f => by
  refine wpAny_execs_cons (wpAny_mono (h s f) (fun fl s₁ p => ?_) fun _ _ z => z)
  obtain ⟨x, σ₁, r, f₁, g₁, e₁, q⟩ := p
  cases fl <;> cases x <;> first | exact False.elim r | exact wp_back g₁ e₁ (q s₁ f₁) | exact ⟨_, σ₁, r, f₁, g₁, e₁, q⟩
theorem x_if {test body orelse pos} {Q : Fl → St → Prop}
    (h : WB (model prog w) A F (isTrue test F.env (eval test F.env)) σ (fun b σ₁ => if b = true then WF (model prog w) A F (execs body F.env) σ₁ Q else WF (model prog w) A F (execs orelse F.env) σ₁ Q)) :
    WF (model prog w) A F (exec (.If test body orelse pos) F.env) σ Q := fun s f => by
  refine wpAny_If (wpAny_mono (h s f) (fun b s₁ p => ?_) fun _ _ z => z)
  obtain ⟨_, σ₁, rfl, f₁, g₁, e₁, q⟩ := p
  cases b
  · exact wp_back g₁ e₁ (q s₁ f₁)
  · exact wp_back g₁ e₁ (q s₁ f₁)
theorem x_ret {e pos} {Q : Fl → St → Prop} (h : WV (model prog w) A F (eval e F.env) σ (fun x σ₁ => Q (.ret x) σ₁)) : WF (model prog w) A F (exec (.Return (some e) pos) F.env) σ Q := fun s f =>
  wpAny_Return_some (wpAny_mono (h s f) (fun v s₁ p => by
    obtain ⟨x, σ₁, r, f₁, g₁, e₁, q⟩ := p
    exact ⟨.ret _, σ₁, r, f₁, g₁, e₁, q⟩) fun _ _ z => z)
theorem x_cont {pos} {Q : Fl → St → Prop} (h : Q .cont σ) : WF (model prog w) A F (exec (.Continue pos) F.env) σ Q := fun s f => wpAny_Continue (.here' (x := .cont) f trivial h)
theorem x_expr {e pos} {Q : Fl → St → Prop} (h : WV (model prog w) A F (eval e F.env) σ (fun x σ₁ => x = .d .none ∧ Q .next σ₁))
    (hi : interactive F.env = false := by rfl) (hs : swapsWith e none pos.line F.env = pure false := by rfl) : WF (model prog w) A F (exec (.Expr e pos) F.env) σ Q := fun s f =>
  wpAny_Expr (wpAny_mono (h s f) (fun v s₁ p => by
    obtain ⟨_, σ₁, r, f₁, g₁, e₁, rfl, q⟩ := p
    obtain ⟨_, r⟩ := r
    cases r
    exact ⟨.next, σ₁, trivial, f₁, g₁, e₁, q⟩) fun _ _ z => z) hi hs
/-- one plain target -/
theorem x_set {t value pos} {Q : Fl → St → Prop} (h : WV (model prog w) A F (eval value F.env) σ (fun x σ₁ => A1 (model prog w) A F (assign t F.env) x σ₁ (fun _ σ₂ => Q .next σ₂)))
    (he : (assignEach [t] F.env).map (·.2) = [assign t F.env] := by rfl)
    (hs : swapsWithSole [t] value pos.line F.env = pure false := by rfl) (hw : swappedStores [t] value F.env = pure none := by rfl) : WF (model prog w) A F (exec (.Assign [t] value pos) F.env) σ Q := fun s f => by
  refine wpAny_Assign_stores (wpAny_mono (h s f) (fun v s₁ p => ?_) fun _ _ z => z) hs hw
  obtain ⟨x, σ₁, r, f₁, g₁, e₁, q⟩ := p
  rw [he]
  refine wpAny_mono (q v s₁ f₁ r) (fun _ s₂ p => ?_) fun _ _ z => z
  obtain ⟨_, σ₂, _, f₂, g₂, e₂, q⟩ := p
  exact ⟨.next, σ₂, trivial, f₂, g₁.trans g₂, e₁.trans e₂, q⟩
end
end Mine
namespace Mine

structure Room (n : Nat) (A : Around) : Prop where
  handled : A.handled = none
  depth : A.depth + n < 900
  units : A.units + 4 * n < 9000
theorem Room.deeper {n : Nat} {A : Around} (r : Room (n + 1) A) (env : Env) : Room n (A.deeper env) :=
  ⟨r.handled, by have := r.depth; show A.depth + 1 + n < 900; omega, by have := r.units; show A.units + 3 + 4 * n < 9000; omega⟩
theorem Room.eq {n : Nat} {A : Around} (r : Room n A) : A.units + 64 < cLine := by have := r.units; unfold cLine; omega

section
variable {prog : Program} {w : World} {A : Around} {F : Frm} {σ : St}

theorem Rep.up {h : Heap} {v : Value} {d : PyData} (r : Rep (vis F σ h) v d) : Rep h v d := r.mono fun _ _ e => (vis_of e).1

-- ints
theorem o_add {i j : Int} {Q : X → St → Prop} (h : Q (.d (.int (i + j))) σ) : V2 (model prog w) A F (binaryOp .Add) (.d (.int i)) (.d (.int j)) σ Q := fun v u s f r1 r2 => by
  obtain ⟨_, r1⟩ := r1; obtain ⟨_, r2⟩ := r2; cases r1; cases r2
  exact add_int (.here (x := .d _) f ⟨_, .int _ _⟩ h)
theorem o_sub {i j : Int} {Q : X → St → Prop} (h : Q (.d (.int (i - j))) σ) : V2 (model prog w) A F (binaryOp .Sub) (.d (.int i)) (.d (.int j)) σ Q := fun v u s f r1 r2 => by
  obtain ⟨_, r1⟩ := r1; obtain ⟨_, r2⟩ := r2; cases r1; cases r2
  exact PyProof.Rows.sub_int (.here (x := .d _) f ⟨_, .int _ _⟩ h)
theorem o_mul {i j : Int} {Q : X → St → Prop} (hm : IntMulOk i j) (h : Q (.d (.int (i * j))) σ) : V2 (model prog w) A F (binaryOp .Mult) (.d (.int i)) (.d (.int j)) σ Q := fun v u s f r1 r2 => by
  obtain ⟨_, r1⟩ := r1; obtain ⟨_, r2⟩ := r2; cases r1; cases r2
  exact PyProof.Rows.mul_int (.here (x := .d _) f ⟨_, .int _ _⟩ h) hm
theorem o_mod {i j : Int} {Q : X → St → Prop} (hj : 0 < j) (h : Q (.d (.int (i % j))) σ) : V2 (model prog w) A F (binaryOp .Mod) (.d (.int i)) (.d (.int j)) σ Q := fun v u s f r1 r2 => by
  obtain ⟨_, r1⟩ := r1; obtain ⟨_, r2⟩ := r2; cases r1; cases r2
  refine PyProof.Rows.mod_int (by omega) ?_
  rw [Int.fmod_eq_emod_of_nonneg _ (by omega)]
  exact .here (x := .d _) f ⟨_, .int _ _⟩ h
theorem o_div {i j : Int} {Q : X → St → Prop} (hj : 0 < j) (hl : j < 1000000000) (h : Q (.d (.int (i / j))) σ) : V2 (model prog w) A F (binaryOp .FloorDiv) (.d (.int i)) (.d (.int j)) σ Q := fun v u s f r1 r2 => by
  obtain ⟨_, r1⟩ := r1; obtain ⟨_, r2⟩ := r2; cases r1; cases r2
  refine PyProof.Rows.floordiv_int (by omega) ?_ (.inl (PyProof.noPylong_small (by omega)))
  rw [Int.fdiv_eq_ediv_of_nonneg _ (by omega)]
  exact .here (x := .d _) f ⟨_, .int _ _⟩ h
theorem o_pow {i j : Int} {Q : X → St → Prop} (hn : 0 ≤ j) (hsz : (Builtin.Int.intBits i : Int) * j ≤ 2 ^ 27) (h : Q (.d (.int (i ^ j.toNat))) σ) : V2 (model prog w) A F (binaryOp .Pow) (.d (.int i)) (.d (.int j)) σ Q := fun v u s f r1 r2 => by
  obtain ⟨_, r1⟩ := r1; obtain ⟨_, r2⟩ := r2; cases r1; cases r2
  exact PyProof.Rows.pow_int hn hsz (.here (x := .d _) f ⟨_, .int _ _⟩ h)
theorem o_lt {i j : Int} {Q : X → St → Prop} (h : Q (.d (.bool (decide (i < j)))) σ) : V2 (model prog w) A F (compareOp .Lt) (.d (.int i)) (.d (.int j)) σ Q := fun v u s f r1 r2 => by
  obtain ⟨_, r1⟩ := r1; obtain ⟨_, r2⟩ := r2; cases r1; cases r2
  exact PyProof.Rows.lt_int (.here' (x := .d _) f ⟨_, .bool _⟩ h)
theorem o_gt {i j : Int} {Q : X → St → Prop} (h : Q (.d (.bool (decide (j < i)))) σ) : V2 (model prog w) A F (compareOp .Gt) (.d (.int i)) (.d (.int j)) σ Q := fun v u s f r1 r2 => by
  obtain ⟨_, r1⟩ := r1; obtain ⟨_, r2⟩ := r2; cases r1; cases r2
  exact PyProof.Rows.gt_int (.here' (x := .d _) f ⟨_, .bool _⟩ h)
theorem o_ge {i j : Int} {Q : X → St → Prop} (h : Q (.d (.bool (decide (j ≤ i)))) σ) : V2 (model prog w) A F (compareOp .GtE) (.d (.int i)) (.d (.int j)) σ Q := fun v u s f r1 r2 => by
  obtain ⟨_, r1⟩ := r1; obtain ⟨_, r2⟩ := r2; cases r1; cases r2
  exact PyProof.Rows.ge_int (.here' (x := .d _) f ⟨_, .bool _⟩ h)

-- equality, membership
theorem o_eq {d e : PyData} {Q : X → St → Prop} (hu : A.units + 64 < cLine) (hd : SeqAt.shaped d = true) (he : SeqAt.shaped e = true) (h : Q (.d (.bool (PyData.eqv d e))) σ) : V2 (model prog w) A F (compareOp .Eq) (.d d) (.d e) σ Q := fun v u s f r1 r2 => by
  obtain ⟨_, r1⟩ := Rep.up r1; obtain ⟨_, r2⟩ := Rep.up r2
  exact eq_dataH r1 r2 hd he hu (.here' (x := .d _) f ⟨_, .bool _⟩ h)
theorem o_ne {d e : PyData} {Q : X → St → Prop} (hu : A.units + 64 < cLine) (hd : SeqAt.shaped d = true) (he : SeqAt.shaped e = true) (h : Q (.d (.bool (!PyData.eqv d e))) σ) : V2 (model prog w) A F (compareOp .NotEq) (.d d) (.d e) σ Q := fun v u s f r1 r2 => by
  obtain ⟨_, r1⟩ := Rep.up r1; obtain ⟨_, r2⟩ := Rep.up r2
  exact ne_dataH r1 r2 hd he hu (.here' (x := .d _) f ⟨_, .bool _⟩ h)
theorem ownRep {h : Heap} (f : FS F σ h) {a : Addr} {xs : List PyData} (hm : (a, xs) ∈ σ.own) : Rep h (.ref a) (.list xs) := by
  obtain ⟨vs, ⟨n, e⟩, r⟩ := f.own _ hm
  obtain ⟨as, r⟩ := r.mono fun _ _ e => (vis_of e).1
  exact ⟨_, reads_list_at e rfl rfl r⟩
theorem o_ne_own {a : Addr} {xs : List PyData} {e : PyData} {Q : X → St → Prop} (hu : A.units + 64 < cLine) (hm : (a, xs) ∈ σ.own) (hd : SeqAt.shaped (.list xs) = true) (he : SeqAt.shaped e = true) (h : Q (.d (.bool (!PyData.eqv (.list xs) e))) σ) :
    V2 (model prog w) A F (compareOp .NotEq) (.own a) (.d e) σ Q := fun v u s f r1 r2 => by
  cases (r1 : v = .ref a)
  obtain ⟨_, r1⟩ := ownRep f hm; obtain ⟨_, r2⟩ := Rep.up r2
  exact ne_dataH r1 r2 hd he hu (.here' (x := .d _) f ⟨_, .bool _⟩ h)

theorem shaped_lay {d : PyData} (h : SeqAt.shaped d = true) : d.canLay0 = true ∧ d.depth ≤ 64 := by
  have := Bool.and_eq_true_iff.mp h
  exact ⟨this.1, of_decide_eq_true this.2⟩
theorem o_in {d : PyData} {xs : List PyData} {Q : X → St → Prop} (hu : A.units + 64 < cLine) (hd : SeqAt.shaped d = true) (hx : PyData.canLayAll0 xs = true) (hz : d.depth ≤ 60) (h : Q (.d (.bool (xs.any fun y => PyData.eqv y d))) σ) : V2 (model prog w) A F (compareOp .In) (.d d) (.d (.list xs)) σ Q := fun v u s f r1 r2 => by
  obtain ⟨_, r1⟩ := Rep.up r1; obtain ⟨_, r2⟩ := Rep.up r2
  refine SeqAt.in_list_reads r2 r1 hx (shaped_lay hd).1 ?_ (.here' (x := .d _) f ⟨_, .bool _⟩ h)
  have := Nat.min_le_right (PyData.depthAll xs) d.depth
  omega
theorem o_notin {d : PyData} {xs : List PyData} {Q : X → St → Prop} (hu : A.units + 64 < cLine) (hd : SeqAt.shaped d = true) (hx : PyData.canLayAll0 xs = true) (hz : d.depth ≤ 60) (h : Q (.d (.bool (!xs.any fun y => PyData.eqv y d))) σ) : V2 (model prog w) A F (compareOp .NotIn) (.d d) (.d (.list xs)) σ Q := fun v u s f r1 r2 => by
  obtain ⟨_, r1⟩ := Rep.up r1; obtain ⟨_, r2⟩ := Rep.up r2
  refine SeqAt.notIn_list_reads r2 r1 hx (shaped_lay hd).1 ?_ (.here' (x := .d _) f ⟨_, .bool _⟩ h)
  have := Nat.min_le_right (PyData.depthAll xs) d.depth
  omega
theorem o_int {d : PyData} {xs : List PyData} {Q : X → St → Prop} (hu : A.units + 64 < cLine) (hd : SeqAt.shaped d = true) (hx : PyData.canLayAll0 xs = true) (hz : d.depth ≤ 60) (h : Q (.d (.bool (xs.any fun y => PyData.eqv y d))) σ) : V2 (model prog w) A F (compareOp .In) (.d d) (.d (.tuple xs)) σ Q := fun v u s f r1 r2 => by
  obtain ⟨_, r1⟩ := Rep.up r1; obtain ⟨_, r2⟩ := Rep.up r2
  refine SeqAt.in_tuple_reads r2 r1 hx (shaped_lay hd).1 ?_ (.here' (x := .d _) f ⟨_, .bool _⟩ h)
  have := Nat.min_le_right (PyData.depthAll xs) d.depth
  omega

/-- [x] * n : the frame's own new list -/
theorem o_rep {a : Addr} {e : PyData} {k : Int} {Q : X → St → Prop} (hm : (a, [e]) ∈ σ.own) (h0 : 0 ≤ k) (hk : k < 1000000) (h : ∀ b, Q (.own b) ⟨σ.loc, (b, List.replicate k.toNat e) :: σ.own⟩) : V2 (model prog w) A F (binaryOp .Mult) (.own a) (.d (.int k)) σ Q := fun v u s f r1 r2 => by
  cases (r1 : v = .ref a)
  obtain ⟨_, r2⟩ := r2; cases r2
  obtain ⟨vs, ⟨n, hl⟩, r⟩ := f.own _ hm
  have hl : s.heap.get? a = some { cls := .type "list", dict := none, data := .seq vs n, slots := #[] } := hl
  obtain ⟨v0, us, ev, re, ru⟩ := r.cons_inv
  rw [ru.nil_inv] at ev
  have evs : vs = [v0].toArray := Array.toList_inj.mp ev
  subst evs
  have hsz : ([v0].toArray.size * k.toNat) ≤ 2 ^ 24 := by simp; omega
  refine wpAny_binaryOp_repeat_ref (T := "list") (U := "int") (by decide) ⟨_, hl, rfl⟩ (fun s' => typeIs_int s' k _) noFill_list_mul PySem.F.fills_int_mul PySem.F.slot_int_rmul repeat_list PySem.F.slot_int_index.lookup
    (call_meets PySem.F.slot_int_rmul (typeIs_int s k _) PySem.F.entry_int_rmul (PySem.F.args_int_rmul_2 _ _) (int___rmul___int_list k _ a [v0].toArray n)
      ⟨hl, rfl, ⟨_, hl, rfl⟩, call_meets PySem.F.slot_list_mul ⟨_, hl, rfl⟩ PySem.F.entry_list_mul (PySem.F.args_list_mul_2 _ _)
        (AutoListH.list___mul___list_int_3 a [v0].toArray n k _ (by simp [Builtin.List.listFitsIndex]; omega) (by omega) (by simp [Builtin.List.listTooLong, sizeLine]; omega)) ⟨hl, ?_⟩⟩)
  have e1 : (List.foldl (fun x1 x2 => x1 ++ x2) #[] (List.replicate (if [v0].toArray.isEmpty = true then 0 else k.toNat) [v0].toArray)) = (List.replicate k.toNat v0).toArray := by
    have gen : ∀ (m : Nat) (acc : Array Value), List.foldl (fun x1 x2 => x1 ++ x2) acc (List.replicate m [v0].toArray) = acc ++ (List.replicate m v0).toArray := by
      intro m
      induction m with
      | zero => intro acc; simp
      | succ m ih => intro acc; rw [List.replicate_succ, List.foldl_cons, ih]; apply Array.toList_inj.mp; simp [List.replicate_succ]
    rw [gen]; simp
  rw [e1]
  have rr : RepL (vis F σ s.heap) (List.replicate k.toNat v0) (List.replicate k.toNat e) := by
    induction k.toNat with
    | zero => exact .nil
    | succ m ih => rw [List.replicate_succ, List.replicate_succ]; exact .cons re ih
  obtain ⟨f₂, g₂⟩ := f.addOwn (a := s.heap.objs.size) (h' := s.heap.push { cls := .type "list", data := .seq (List.replicate k.toNat v0).toArray }) (vs := (List.replicate k.toNat v0).toArray) (xs := List.replicate k.toNat e) (by simpa using rr) (no_size _) (fun _ _ e => Heap.get?_push_of_some _ e) ⟨0, Heap.get?_push_size _ rfl⟩
  exact ⟨.own _, _, rfl, f₂, g₂, ⟨_, _, rfl⟩, h _⟩

-- subscripts
theorem e_sub {value slice : Expr} {pos : Pos} {Q : X → St → Prop} (h : WV (model prog w) A F (eval value F.env) σ (fun x σ₁ => WV (model prog w) A F (eval slice F.env) σ₁ (fun y σ₂ => V2 (model prog w) A F (subscriptTail value slice) x y σ₂ Q))) :
    WV (model prog w) A F (eval (.Subscript value slice pos) F.env) σ Q := fun s f => by
  refine Subscript_ (wpAny_mono (h s f) (fun v s₁ p => ?_) fun _ _ z => z)
  obtain ⟨x, σ₁, r₁, f₁, g₁, e₁, q⟩ := p
  refine wpAny_mono (q s₁ f₁) (fun u s₂ p => ?_) fun _ _ z => z
  obtain ⟨y, σ₂, r₂, f₂, g₂, e₂, q⟩ := p
  exact wp_back (g₁.trans g₂) (e₁.trans e₂) (q v u s₂ f₂ (r₁.go g₂) r₂)
theorem typeIs_of_isList {h : Heap} {s : Shared} {l : Addr} {vs : Array Value} (x : s.heap.IsList l vs) : s.TypeIs (.ref l) "list" := let ⟨o, a, b, _⟩ := x; ⟨o, a, b⟩
theorem s_list {value slice : Expr} {ds : List PyData} {k : Int} {d : PyData} {Q : X → St → Prop} (h0 : 0 ≤ k) (hk : k < 2 ^ 63) (hd : ds[k.toNat]? = some d) (h : Q (.d d) σ)
    (hs : ∀ o i, subscripted slice false o i = operate [o, i] (getItem o i) := by intro o i; rfl) : V2 (model prog w) A F (subscriptTail value slice) (.d (.list ds)) (.d (.int k)) σ Q := fun v u s f r1 r2 => by
  obtain ⟨t, vs, rfl, ht, rl⟩ := isList_of r1
  obtain ⟨_, r2⟩ := r2; cases r2
  obtain ⟨y, e, ry⟩ := rl.get hd
  exact tail_any (IsList.up ht).typeIs slot_list_getitem.lookup (wpAny_getItem_list (IsList.up ht) h0 hk (by simpa using e) (.here' (x := .d _) f ry h)) (hs _ _)
theorem s_own {value slice : Expr} {a : Addr} {ds : List PyData} {k : Int} {d : PyData} {Q : X → St → Prop} (hm : (a, ds) ∈ σ.own) (h0 : 0 ≤ k) (hk : k < 2 ^ 63) (hd : ds[k.toNat]? = some d) (h : Q (.d d) σ)
    (hs : ∀ o i, subscripted slice false o i = operate [o, i] (getItem o i) := by intro o i; rfl) : V2 (model prog w) A F (subscriptTail value slice) (.own a) (.d (.int k)) σ Q := fun v u s f r1 r2 => by
  cases (r1 : v = .ref a)
  obtain ⟨vs, ⟨n, hl⟩, rl⟩ := f.own _ hm
  obtain ⟨_, r2⟩ := r2; cases r2
  obtain ⟨y, e, ry⟩ := rl.get hd
  have hl' : s.heap.IsList a vs := ⟨_, hl, rfl, n, rfl⟩
  exact tail_any hl'.typeIs slot_list_getitem.lookup (wpAny_getItem_list hl' h0 hk (by simpa using e) (.here' (x := .d _) f ry h)) (hs _ _)
theorem s_tup {value slice : Expr} {ds : List PyData} {k : Nat} {d : PyData} {Q : X → St → Prop} (hk : k < 1000) (hd : ds[k]? = some d) (h : Q (.d d) σ)
    (hs : ∀ o i, subscripted slice false o i = operate [o, i] (getItem o i) := by intro o i; rfl) : V2 (model prog w) A F (subscriptTail value slice) (.d (.tuple ds)) (.d (.int (k : Int))) σ Q := fun v u s f r1 r2 => by
  obtain ⟨t, vs, rfl, ht, rl⟩ := isTuple_of r1
  obtain ⟨_, r2⟩ := r2; cases r2
  obtain ⟨y, e, ry⟩ := rl.get hd
  have ht' : IsTup s.heap t vs := IsTuple.up ht
  have hlt : k < vs.size := by
    have := (List.getElem?_eq_some_iff.mp e).1
    simpa using this
  refine tail_any ht'.typeIs slot_tuple_getitem.lookup (PyProof.Rows.getItem_tuple ht' (j := k) (by omega) (by omega) ?_ (by simpa using e) (.here' (x := .d _) f ry h)) (hs _ _)
  unfold seqIndex?
  have h0 : ¬ ((k : Int) < 0) := by omega
  simp [h0, hlt]

/-- a written part of a slice -/
inductive PartX : X → Option Int → Prop where
  | none : PartX (.d .none) none
  | int (i : Int) : PartX (.d (.int i)) (some i)
noncomputable def WPart (prog : Program) (w : World) (A : Around) (F : Frm) (e : Option Expr) (σ : St) (Q : Option Int → St → Prop) : Prop :=
  WV (model prog w) A F (evalPart e F.env) σ (fun x σ' => ∃ o, PartX x o ∧ Q o σ')
theorem p_none {Q : Option Int → St → Prop} (h : Q none σ) : WPart prog w A F none σ Q := fun s f => wpAny_pure (.here' (x := .d _) f ⟨_, .none⟩ ⟨_, .none, h⟩)
theorem p_some {e : Expr} {Q : Option Int → St → Prop} (h : WV (model prog w) A F (eval e F.env) σ (fun x σ' => ∃ i, x = .d (.int i) ∧ Q (some i) σ')) : WPart prog w A F (some e) σ Q :=
  W.mono (t := eval e F.env) h fun x σ' ⟨i, e, q⟩ => ⟨_, e ▸ .int i, q⟩
/-- the items that a slice takes (lower at most upper at most the length, or no lower bound) -/
noncomputable def cut (ds : List PyData) : Option Int → Option Int → List PyData
  | none, none => ds
  | some a, none => ds.drop a.toNat
  | none, some b => ds.take b.toNat
  | some a, some b => (ds.drop a.toNat).take (b.toNat - a.toNat)
noncomputable def cutOk (ds : List PyData) : Option Int → Option Int → Prop
  | none, none => True
  | some a, none => 0 ≤ a
  | none, some b => 0 ≤ b
  | some a, some b => 0 ≤ a ∧ a ≤ b ∧ b ≤ ds.length
theorem cut_rep {h : Heap} {vs : Array Value} {ds : List PyData} {lo hi : Option Int} (r : RepL h vs.toList ds) (ok : cutOk ds lo hi) : RepL h (slicePick vs lo hi none).toList (cut ds lo hi) := by
  have hl := r.length
  have hz : vs.size = ds.length := by simpa using hl
  cases lo with
  | none =>
    cases hi with
    | none => rw [slicePick_all]; exact r
    | some b =>
      obtain ⟨j, rfl⟩ := Int.eq_ofNat_of_zero_le (show 0 ≤ b from ok)
      have e : slicePick vs none (some (j : Int)) none = (vs.toList.take j).toArray := slicePick_upto' vs j
      rw [e]; simpa [cut] using r.take j
  | some a =>
    cases hi with
    | none =>
      obtain ⟨j, rfl⟩ := Int.eq_ofNat_of_zero_le (show 0 ≤ a from ok)
      have e : slicePick vs (some (j : Int)) none none = (vs.toList.drop j).toArray := slicePick_from' vs j
      rw [e]; simpa [cut] using r.drop j
    | some b =>
      obtain ⟨o1, o2, o3⟩ := ok
      obtain ⟨i, rfl⟩ := Int.eq_ofNat_of_zero_le o1
      obtain ⟨j, rfl⟩ := Int.eq_ofNat_of_zero_le (Int.le_trans o1 o2)
      have e := slicePick_run vs i j (by omega) (by omega)
      have e : slicePick vs (some (i : Int)) (some (j : Int)) none = ((vs.toList.drop i).take (j - i)).toArray := e
      rw [e]; simpa [cut] using (r.drop i).take (j - i)
theorem e_slice {value : Expr} {lower upper : Option Expr} {p pos : Pos} {Q : X → St → Prop}
    (h : WV (model prog w) A F (eval value F.env) σ (fun x σ₁ => ∃ ds, x = .d (.list ds) ∧ ds.length ≤ sizeLine ∧ WPart prog w A F lower σ₁ (fun lo σ₂ => WPart prog w A F upper σ₂ (fun hi σ₃ => cutOk ds lo hi ∧ Q (.d (.list (cut ds lo hi))) σ₃)))) :
    WV (model prog w) A F (eval (.Subscript value (.Slice lower upper none p) pos) F.env) σ Q := fun s f => by
  refine Subscript_ (wpAny_mono (h s f) (fun v s₁ pq => ?_) fun _ _ z => z)
  obtain ⟨x, σ₁, r₁, f₁, g₁, e₁, ds, rfl, hz, q⟩ := pq
  refine wpAny_Slice (wpAny_mono (q s₁ f₁) (fun vl s₂ pq => ?_) fun _ _ z => z)
  obtain ⟨xl, σ₂, r₂, f₂, g₂, e₂, lo, pl, q⟩ := pq
  refine wpAny_mono (q s₂ f₂) (fun vu s₃ pq => ?_) fun _ _ z => z
  obtain ⟨xu, σ₃, r₃, f₃, g₃, e₃, hi, pu, ok, q⟩ := pq
  rw [evalPart_none]
  refine wpAny_pure ?_
  have part : ∀ {v : Value} {x : X} {o : Option Int} {σ : St} {h : Heap}, XR F σ h v x → PartX x o → IsPart v o := fun r p => by
    cases p with
    | none => obtain ⟨_, r⟩ := r; cases r; exact .none
    | int i => obtain ⟨_, r⟩ := r; cases r; exact .int _ _
  obtain ⟨t, vs, rfl, ht, rl⟩ := isList_of (r₁.go (g₂.trans g₃))
  have hz' : vs.size ≤ sizeLine := by have := rl.length; simp at this; omega
  obtain ⟨f₄, g₄⟩ := f₃.push { cls := .type "slice", data := .fields #[vl, vu, .none] }
  obtain ⟨f₅, g₅⟩ := f₄.push { cls := .type "list", data := .seq (slicePick vs lo hi none) }
  have hl := (IsList.up ht).push { cls := .type "slice", data := .fields #[vl, vu, .none] }
  refine tail_any hl.typeIs slot_list_getitem.lookup (wpAny_getItem_list_slice hl (Heap.IsSliceOf.new ..) (part r₂ pl) (part r₃ pu) .none (by simp) ?_ hz') (ops := [.ref s₃.heap.objs.size, .ref t]) rfl
  refine ⟨.d _, σ₃, ?_, f₅, ((g₁.trans (g₂.trans g₃)).trans g₄).trans g₅, (e₁.trans (e₂.trans e₃)).trans ⟨_, _, rfl⟩, q⟩
  have rr := repList (vs := (slicePick vs lo hi none).toList) f₄ (cut_rep (rl.mono g₄.vis) ok)
  rw [Array.toArray_toList] at rr
  exact rr

/-- a store into a list of the frame's own -/
theorem x_setitem {o i value : Expr} {tpos pos : Pos} {Q : Fl → St → Prop}
    (h : WV (model prog w) A F (eval value F.env) σ (fun x σ₁ => WV (model prog w) A F (eval o F.env) σ₁ (fun y σ₂ => WV (model prog w) A F (eval i F.env) σ₂ (fun z σ₃ =>
      ∃ d a xs k own', x = .d d ∧ y = .own a ∧ z = .d (.int k) ∧ 0 ≤ k ∧ k < 2 ^ 63 ∧ k < (xs.length : Int) ∧ Upd a xs (xs.set k.toNat d) σ₃.own own' ∧ Q .next ⟨σ₃.loc, own'⟩))))
    (hs : swapsWith value (some (.Subscript o i tpos)) pos.line F.env = pure false := by rfl) : WF (model prog w) A F (exec (.Assign [.Subscript o i tpos] value pos) F.env) σ Q := fun s f => by
  refine wpAny_Assign_Subscript (wpAny_mono (h s f) (fun v s₁ p => ?_) fun _ _ z => z) hs
  obtain ⟨x, σ₁, r₁, f₁, g₁, e₁, q⟩ := p
  refine wpAny_mono (q s₁ f₁) (fun u s₂ p => ?_) fun _ _ z => z
  obtain ⟨y, σ₂, r₂, f₂, g₂, e₂, q⟩ := p
  refine wpAny_mono (q s₂ f₂) (fun t s₃ p => ?_) fun _ _ z => z
  obtain ⟨z, σ₃, r₃, f₃, g₃, e₃, d, a, xs, k, own', rfl, rfl, rfl, h0, hk, hl, up, q⟩ := p
  cases (r₂ : u = .ref a)
  obtain ⟨_, r₃⟩ := r₃; cases r₃
  have rv : Rep (vis F σ₃ s₃.heap) v d := r₁.go (g₂.trans g₃)
  obtain ⟨vs, ⟨n, hv⟩, rl⟩ := f₃.own _ up.mem
  have hz : vs.size = xs.length := by have := rl.length; simpa using this
  refine ki_setAt hv h0 hk (by omega) ?_
  have hp : (s₃.heap.update a (Obj.mapSeq (·.setIfInBounds k.toNat v))).PlainList a (vs.setIfInBounds k.toNat v) := ⟨_, PySem.IsL.update (show PySem.IsL s₃.heap a vs n from hv) (·.setIfInBounds k.toNat v)⟩
  have fg := f₃.setOwn (us := vs.setIfInBounds k.toNat v) (h' := s₃.heap.update a (Obj.mapSeq (·.setIfInBounds k.toNat v))) up (fun b hb o e => ((Heap.SameBut.update _ _ _).2 b hb).trans e) hp (by simpa using rl.set rv k.toNat)
  exact ⟨.next, _, trivial, fg.1, (g₁.trans (g₂.trans g₃)).trans fg.2, (e₁.trans (e₂.trans e₃)).trans ⟨_, _, rfl⟩, q⟩

-- several targets
theorem b_loc {n : Str} {x : X} {loc' : List (Str × X)} {Q : Unit → St → Prop} (p : Put n x σ.loc loc') (h : Q () ⟨loc', σ.own⟩) (hF : F.env.locals ∈ F.hid) (hk : F.env.kindOf n = some .local) (hs : F.env.scope.kind = .function) :
    A1 (model prog w) A F (fun v => bindName F.env n v) x σ Q := fun v s f r => by
  obtain ⟨m, hm, hl⟩ := f.ns
  exact bindName_ (wpAny_storeName_local hk hm (fun h' hn hs' => .at (f.setLoc hF hm hl hn hs' hk p r) trivial h) (by rw [hs]; rfl))

theorem tupled {vs : List Value} {xs : List X} {elts : List Expr} {k : Nat} {pos : Pos} {E : Value → Shared → Prop} {Q : Value → Shared → Prop} {s : Shared} (hl : WL (model prog w) A F (spliced (backTo pos (starEach elts F.env))) σ (fun xs' σ' => xs'.length ≤ sizeLine ∧
      ∀ vs t s', RL F σ' s'.heap vs xs' → s'.heap.IsTuple t vs.toArray → FS F σ' s'.heap → Go F σ s.heap σ' s'.heap → Same s s' → Q (.ref t) s')) (f : FS F σ s.heap) : wpAny (model prog w) A (eval (.Tuple elts k pos) F.env) Q EOk s := by
  refine wpAny_Tuple (wpAny_mono (hl s f) (fun vs s₁ p => ?_) fun _ _ z => z)
  obtain ⟨xs', σ₁, r₁, f₁, g₁, e₁, hz, q⟩ := p
  refine ⟨by rw [r₁.length]; exact hz, ?_⟩
  obtain ⟨f₂, g₂⟩ := f₁.push { cls := .type "tuple", data := .seq vs.toArray }
  exact q vs _ _ (r₁.go g₂) ⟨_, Heap.get?_push_size _ rfl, rfl, _, rfl⟩ f₂ (g₁.trans g₂) (e₁.trans ⟨_, _, rfl⟩)

theorem x_swap {elts velts : List Expr} {k kv : Nat} {tpos vpos pos : Pos} {names : List Str} {Q : Fl → St → Prop} (hA : A.handled = none)
    (h : WL (model prog w) A F (spliced (backTo vpos (starEach velts F.env))) σ (fun xs σ₁ => xs.length = names.length ∧ AL (model prog w) A F (assignInOrder (names.reverse.map fun n => bindName F.env n)) xs.reverse σ₁ (fun σ₂ => Q .next σ₂)))
    (hw : swappedStores [.Tuple elts k tpos] (.Tuple velts kv vpos) F.env = pure (some names)) (hn : names.length ≤ 10) : WF (model prog w) A F (exec (.Assign [.Tuple elts k tpos] (.Tuple velts kv vpos) pos) F.env) σ Q := fun s f => by
  refine Assign_Tuple_swapped ?_ rfl hw
  refine tupled (W.mono h fun xs σ₁ ⟨hx, q⟩ => ⟨by rw [hx, sizeLine_eq]; omega, fun vs t s' r ht f' g e => ?_⟩) f (vs := []) (xs := []) (E := EOk)
  have hvs : vs.toArray.size = names.length := by simpa using r.length.trans hx
  rw [← hvs]
  refine wpAny_unpackItems_tuple hA ht fun h' he => ?_
  obtain ⟨f₂, g₂⟩ := f'.grow (extBut_grow he)
  have rev : ∀ {vs : List Value} {xs : List X} {h : Heap}, RL F σ₁ h vs xs → RL F σ₁ h vs.reverse xs.reverse := by
    intro vs xs h r
    have app : ∀ {vs us : List Value} {xs ys : List X}, RL F σ₁ h vs xs → RL F σ₁ h us ys → RL F σ₁ h (vs ++ us) (xs ++ ys) := by
      intro vs us xs ys r q
      induction r with
      | nil => exact q
      | cons a _ ih => exact .cons a ih
    induction r with
    | nil => exact .nil
    | cons a _ ih => simpa using app ih (.cons a .nil)
  refine wpAny_mono (q (vs.toArray.toList.reverse) { s' with heap := h' } f₂ (by simpa using rev (r.go g₂))) (fun _ s₃ p => ?_) fun _ _ z => z
  obtain ⟨_, σ₃, _, f₃, g₃, e₃, q⟩ := p
  exact ⟨.next, σ₃, trivial, f₃, (g.trans g₂).trans g₃, (e.trans ⟨_, _, rfl⟩).trans e₃, q⟩
/-- a written tuple, its targets in order -/
theorem x_tups {elts velts : List Expr} {k kv : Nat} {tpos vpos pos : Pos} {Q : Fl → St → Prop} (hA : A.handled = none)
    (h : WL (model prog w) A F (spliced (backTo vpos (starEach velts F.env))) σ (fun xs σ₁ => xs.length = (assignEach elts F.env).length ∧ AL (model prog w) A F (assignInOrder ((assignEach elts F.env).map (·.2))) xs σ₁ (fun σ₂ => Q .next σ₂)))
    (hw : swappedStores [.Tuple elts k tpos] (.Tuple velts kv vpos) F.env = pure none) (hn : (assignEach elts F.env).length ≤ 10) (hstar : (assignEach elts F.env).findIdx? (·.1) = none) : WF (model prog w) A F (exec (.Assign [.Tuple elts k tpos] (.Tuple velts kv vpos) pos) F.env) σ Q := fun s f => by
  refine Assign_Tuple ?_ rfl hw
  refine tupled (W.mono h fun xs σ₁ ⟨hx, q⟩ => ⟨by rw [hx, sizeLine_eq]; omega, fun vs t s' r ht f' g e => ?_⟩) f (vs := []) (xs := []) (E := EOk)
  have hvs : vs.toArray.size = (assignEach elts F.env).length := by simpa using r.length.trans hx
  refine wpAny_assign_Tuple hA ht hvs.symm hstar fun h' he => ?_
  obtain ⟨f₂, g₂⟩ := f'.grow (extBut_grow he)
  refine wpAny_mono (q vs { s' with heap := h' } f₂ (r.go g₂)) (fun _ s₃ p => ?_) fun _ _ z => z
  obtain ⟨_, σ₃, _, f₃, g₃, e₃, q⟩ := p
  exact ⟨.next, σ₃, trivial, f₃, (g.trans g₂).trans g₃, (e.trans ⟨_, _, rfl⟩).trans e₃, q⟩
/-- a tuple of data, unpacked -/
theorem x_unp {elts : List Expr} {value : Expr} {k : Nat} {tpos pos : Pos} {Q : Fl → St → Prop} (h : WV (model prog w) A F (eval value F.env) σ (fun x σ₁ => A1 (model prog w) A F (assign (.Tuple elts k tpos) F.env) x σ₁ (fun _ σ₂ => Q .next σ₂)))
    (hs : swapsWithSole [.Tuple elts k tpos] value pos.line F.env = pure false := by rfl) (hw : swappedStores [.Tuple elts k tpos] value F.env = pure none := by rfl) : WF (model prog w) A F (exec (.Assign [.Tuple elts k tpos] value pos) F.env) σ Q := fun s f => by
  refine Assign_Tuple (wpAny_mono (h s f) (fun v s₁ p => ?_) fun _ _ z => z) hs hw
  obtain ⟨x, σ₁, r, f₁, g₁, e₁, q⟩ := p
  refine wpAny_mono (q v s₁ f₁ r) (fun _ s₂ p => ?_) fun _ _ z => z
  obtain ⟨_, σ₂, _, f₂, g₂, e₂, q⟩ := p
  exact ⟨.next, σ₂, trivial, f₂, g₁.trans g₂, e₁.trans e₂, q⟩
end
end Mine
namespace Mine

noncomputable def VL (M : Model) (A : Around) (F : Frm) (t : List Value → Sem Value) (xs : List X) (σ : St) (Q : X → St → Prop) : Prop :=
  ∀ vs s, FS F σ s.heap → RL F σ s.heap vs xs → wpAny M A (t vs) (P1 F σ s XR Q) EOk s

section
variable {prog : Program} {w : World} {A : Around} {F : Frm} {σ : St}

theorem RL.one {h : Heap} {vs : List Value} {x : X} (r : RL F σ h vs [x]) : ∃ v, vs = [v] ∧ XR F σ h v x := by
  cases r with | cons a b => cases b; exact ⟨_, rfl, a⟩
theorem RL.two {h : Heap} {vs : List Value} {x y : X} (r : RL F σ h vs [x, y]) : ∃ v u, vs = [v, u] ∧ XR F σ h v x ∧ XR F σ h u y := by
  cases r with | cons a b => cases b with | cons c d => cases d; exact ⟨_, _, rfl, a, c⟩

-- calls by name
theorem e_callB {id : Str} {b : String} {p pos : Pos} {e : Expr} {rest : List Expr} {Q : X → St → Prop} (g : BV F id (.builtin b)) (hk : F.env.kindOf id = some .globalImplicit) (hs : F.env.scope.kind = .function) (hd : (id == ("__debug__" : Str)) = false)
    (h : WL (model prog w) A F (spliced (backTo pos (starEach (e :: rest) F.env))) σ (fun xs σ₁ => VL (model prog w) A F (fun vs => call (.builtin b) vs) xs σ₁ Q))
    (he : starEach (e :: rest) F.env = (false, eval e F.env) :: starEach rest F.env := by rfl) (hplain : (backTo pos (starEach rest F.env)).any (·.1) = false := by rfl) :
    WV (model prog w) A F (eval (.Call (.Name id p) (e :: rest) [] pos) F.env) σ Q := fun s f => by
  refine wpAny_Call_NameR (wpAny_mono ((n_blt (prog := prog) (w := w) (A := A) (pos := p) (Q := fun x τ => x = .raw (.builtin b) ∧ τ = σ) g ⟨rfl, rfl⟩ hk hs hd) s f) (fun v s₁ pq => ?_) fun _ _ z => z)
  obtain ⟨x, σ₁, r₁, f₁, g₁, e₁, rfl, rfl⟩ := pq
  cases (r₁ : v = .builtin b)
  refine PyProof.Rows.callWith_builtin1 (wpAny_mono (h s₁ f₁) (fun vs s₂ pq => ?_) fun _ _ z => z) he hplain
  obtain ⟨xs, σ₂, r₂, f₂, g₂, e₂, q⟩ := pq
  exact wp_back (g₁.trans g₂) (e₁.trans e₂) (q vs s₂ f₂ r₂)
theorem e_callT {id : Str} {b : String} {p pos : Pos} {e : Expr} {rest : List Expr} {Q : X → St → Prop} (g : BV F id (.type b)) (hk : F.env.kindOf id = some .globalImplicit) (hs : F.env.scope.kind = .function) (hd : (id == ("__debug__" : Str)) = false)
    (h : WL (model prog w) A F (spliced (backTo pos (starEach (e :: rest) F.env))) σ (fun xs σ₁ => VL (model prog w) A F (fun vs => call (.type b) vs) xs σ₁ Q))
    (he : starEach (e :: rest) F.env = (false, eval e F.env) :: starEach rest F.env := by rfl) (hplain : (backTo pos (starEach rest F.env)).any (·.1) = false := by rfl) :
    WV (model prog w) A F (eval (.Call (.Name id p) (e :: rest) [] pos) F.env) σ Q := fun s f => by
  refine wpAny_Call_NameR (wpAny_mono ((n_blt (prog := prog) (w := w) (A := A) (pos := p) (Q := fun x τ => x = .raw (.type b) ∧ τ = σ) g ⟨rfl, rfl⟩ hk hs hd) s f) (fun v s₁ pq => ?_) fun _ _ z => z)
  obtain ⟨x, σ₁, r₁, f₁, g₁, e₁, rfl, rfl⟩ := pq
  cases (r₁ : v = .type b)
  refine callWith_type1 (wpAny_mono (h s₁ f₁) (fun vs s₂ pq => ?_) fun _ _ z => z) he hplain
  obtain ⟨xs, σ₂, r₂, f₂, g₂, e₂, q⟩ := pq
  exact wp_back (g₁.trans g₂) (e₁.trans e₂) (q vs s₂ f₂ r₂)
/-- a def of the text's top at address a -/
noncomputable def FnAt (B : Heap) (a : Addr) : Prop := ∃ o fd, B.get? a = some o ∧ o.data = .func fd
theorem e_callF {id : Str} {a : Addr} {p pos : Pos} {e : Expr} {rest : List Expr} {Q : X → St → Prop} (g : GV F id (.ref a)) (hf : FnAt F.B a) (hk : F.env.kindOf id = some .globalImplicit) (hs : F.env.scope.kind = .function) (hd : (id == ("__debug__" : Str)) = false)
    (h : WL (model prog w) A F (spliced (backTo pos (starEach (e :: rest) F.env))) σ (fun xs σ₁ => VL (model prog w) A F (fun vs => call (.ref a) vs) xs σ₁ Q))
    (he : starEach (e :: rest) F.env = (false, eval e F.env) :: starEach rest F.env := by rfl) :
    WV (model prog w) A F (eval (.Call (.Name id p) (e :: rest) [] pos) F.env) σ Q := fun s f => by
  refine wpAny_Call_NameR (wpAny_mono ((n_glob (prog := prog) (w := w) (A := A) (pos := p) (Q := fun x τ => x = .raw (.ref a) ∧ τ = σ) g ⟨rfl, rfl⟩ hk hs hd) s f) (fun v s₁ pq => ?_) fun _ _ z => z)
  obtain ⟨x, σ₁, r₁, f₁, g₁, e₁, rfl, rfl⟩ := pq
  cases (r₁ : v = .ref a)
  obtain ⟨o, fd, ho, hd'⟩ := hf
  refine callWith_def hd' (wpAny_mono (h s₁ f₁) (fun vs s₂ pq => ?_) fun _ _ z => z) he
  obtain ⟨xs, σ₂, r₂, f₂, g₂, e₂, q⟩ := pq
  exact ⟨f₂.up _ _ ho, wp_back (g₁.trans g₂) (e₁.trans e₂) (q vs s₂ f₂ r₂)⟩

-- built-ins
theorem v_len {ds : List PyData} {Q : X → St → Prop} (hz : ds.length < 2 ^ 62) (h : Q (.d (.int (ds.length : Int))) σ) : VL (model prog w) A F (fun vs => call (.builtin "len") vs) [.d (.list ds)] σ Q := fun vs s f r0 => by
  obtain ⟨v, rfl, r⟩ := r0.one
  obtain ⟨t, us, rfl, ht, rl⟩ := isList_of r
  have hl : us.size = ds.length := by have := rl.length; simpa using this
  refine Calls.call_len_list (IsList.up ht) (by omega) ?_
  rw [hl]
  exact .here (x := .d _) f ⟨_, .int _ _⟩ h
theorem v_lenO {a : Addr} {ds : List PyData} {Q : X → St → Prop} (hm : (a, ds) ∈ σ.own) (hz : ds.length < 2 ^ 62) (h : Q (.d (.int (ds.length : Int))) σ) : VL (model prog w) A F (fun vs => call (.builtin "len") vs) [.own a] σ Q := fun vs s f r0 => by
  obtain ⟨v, rfl, r⟩ := r0.one
  cases (r : v = .ref a)
  obtain ⟨us, ⟨n, e⟩, rl⟩ := f.own _ hm
  have hl : us.size = ds.length := by have := rl.length; simpa using this
  refine Calls.call_len_list (items := us) ⟨_, e, rfl, n, rfl⟩ (by omega) ?_
  rw [hl]
  exact .here (x := .d _) f ⟨_, .int _ _⟩ h
theorem v_abs {i : Int} {Q : X → St → Prop} (h : Q (.d (.int (if i < 0 then -i else i))) σ) : VL (model prog w) A F (fun vs => call (.builtin "abs") vs) [.d (.int i)] σ Q := fun vs s f r0 => by
  obtain ⟨v, rfl, r⟩ := r0.one
  obtain ⟨_, r⟩ := r; cases r
  exact call_abs_int fun u tk => P1.here (x := .d _) f ⟨_, .int _ _⟩ h
theorem v_int {b : Bool} {Q : X → St → Prop} (h : Q (.d (.int (if b then 1 else 0))) σ) : VL (model prog w) A F (fun vs => call (.type "int") vs) [.d (.bool b)] σ Q := fun vs s f r0 => by
  obtain ⟨v, rfl, r⟩ := r0.one
  obtain ⟨_, r⟩ := r; cases r
  exact call_int_bool (P1.here (x := .d _) f ⟨_, .int _ _⟩ h)
/-- list(xs), seen as data -/
theorem v_list {ds : List PyData} {Q : X → St → Prop} (hz : ds.length ≤ sizeLine) (h : Q (.d (.list ds)) σ) : VL (model prog w) A F (fun vs => call (.type "list") vs) [.d (.list ds)] σ Q := fun vs s f r0 => by
  obtain ⟨v, rfl, r⟩ := r0.one
  obtain ⟨t, us, rfl, ht, rl⟩ := isList_of r
  have hl : us.size = ds.length := by have := rl.length; simpa using this
  obtain ⟨o, ho, hc, n, hd⟩ := IsList.up ht
  refine call_list_seq (hsz := by omega) t (.inl rfl) ho hc hd fun h' c' hk hD => ?_
  obtain ⟨f', g'⟩ := f.grow hk
  obtain ⟨as, q⟩ := rl.mono g'.vis
  exact ⟨.d _, σ, ⟨_, reads_list_at (vis_mk hD f.fresh) rfl rfl q⟩, f', g', ⟨_, _, rfl⟩, h⟩

-- calls of the text's defs
noncomputable def Keep (s s' : Shared) : Prop := ∀ b o, s.heap.get? b = some o → s'.heap.get? b = some o
structure At (B : Heap) (hid : List Addr) (h : Heap) : Prop where
  base : ∀ b o, B.get? b = some o → h.get? b = some o
  off : ∀ b o, B.get? b = some o → b ∉ hid
  ex : ∀ a ∈ hid, ∃ o, h.get? a = some o
/-- data in, data out -/
noncomputable def PureSpec (prog : Program) (w : World) (B : Heap) (n : Nat) (a : Addr) (ds : List PyData) (d : PyData) : Prop :=
  ∀ A s hid vs, Room n A → At B hid s.heap → RepL (hideAll s.heap hid) vs ds →
    codeAny (model prog w) A (.call (.ref a) ⟨vs, []⟩) (fun r s' => ∃ v, r = .ok (.ret v) ∧ Rep (hideAll s'.heap hid) v d ∧ Keep s s' ∧ Same s s') s
/-- data in, a new list out -/
noncomputable def NewSpec (prog : Program) (w : World) (B : Heap) (n : Nat) (a : Addr) (ds : List PyData) (es : List PyData) : Prop :=
  ∀ A s hid vs, Room n A → At B hid s.heap → RepL (hideAll s.heap hid) vs ds →
    codeAny (model prog w) A (.call (.ref a) ⟨vs, []⟩) (fun r s' => ∃ b us, r = .ok (.ret (.ref b)) ∧ s.heap.get? b = none ∧ s'.heap.PlainList b us ∧ RepL (hideAll s'.heap (b :: hid)) us.toList es ∧ Keep s s' ∧ Same s s') s
/-- the first argument is a list that the call writes -/
noncomputable def PenSpec (prog : Program) (w : World) (B : Heap) (n : Nat) (a : Addr) (xs : List PyData) (ds : List PyData) (ys : List PyData) (d : PyData) : Prop :=
  ∀ A s hid vs p us, Room n A → At B (p :: hid) s.heap → p ∉ hid → s.heap.PlainList p us → RepL (hideAll s.heap (p :: hid)) us.toList xs → RepL (hideAll s.heap (p :: hid)) vs ds →
    codeAny (model prog w) A (.call (.ref a) ⟨.ref p :: vs, []⟩) (fun r s' => ∃ v us', r = .ok (.ret v) ∧ Rep (hideAll s'.heap (p :: hid)) v d ∧ s'.heap.PlainList p us' ∧ RepL (hideAll s'.heap (p :: hid)) us'.toList ys ∧
      (∀ b o, b ≠ p → s.heap.get? b = some o → s'.heap.get? b = some o) ∧ Same s s') s

theorem FS.at {h : Heap} (f : FS F σ h) : At F.B (F.all σ) h where
  base := f.up
  off := fun b o e => (vis_of (f.base b o e)).2
  ex := f.ex
theorem v_pure {n : Nat} {a : Addr} {ds : List PyData} {d : PyData} {Q : X → St → Prop} (sp : PureSpec prog w F.B n a ds d) (hr : Room n A) (h : Q (.d d) σ) : VL (model prog w) A F (fun vs => call (.ref a) vs) (ds.map X.d) σ Q := fun vs s f r => by
  refine wpAny_call (codeAny_mono (sp A s (F.all σ) vs hr f.at r.data) fun r s' hq => ?_)
  obtain ⟨v, rfl, rv, k, e⟩ := hq
  obtain ⟨f', g'⟩ := f.grow k
  exact ⟨.d _, σ, rv, f', g', e, h⟩
theorem v_new {n : Nat} {a : Addr} {ds es : List PyData} {Q : X → St → Prop} (sp : NewSpec prog w F.B n a ds es) (hr : Room n A) (h : ∀ b, Q (.own b) ⟨σ.loc, (b, es) :: σ.own⟩) : VL (model prog w) A F (fun vs => call (.ref a) vs) (ds.map X.d) σ Q := fun vs s f r => by
  refine wpAny_call (codeAny_mono (sp A s (F.all σ) vs hr f.at r.data) fun r s' hq => ?_)
  obtain ⟨b, us, rfl, hb, pl, rl, k, e⟩ := hq
  have fg := f.addOwn' rl hb k pl
  exact ⟨.own b, _, rfl, fg.1, fg.2, e, h b⟩

theorem hide_sub {h : Heap} {l l' : List Addr} (k : ∀ a ∈ l', a ∈ l) : ∀ b o, (hideAll h l).get? b = some o → (hideAll h l').get? b = some o := fun b o e =>
  hideAll_get _ (of_hideAll _ e) fun m => by rw [hideAll_none _ (k b m)] at e; cases e

theorem v_pen {n : Nat} {a p : Addr} {xs ys ds : List PyData} {d : PyData} {own' : List (Addr × List PyData)} {Q : X → St → Prop} (sp : PenSpec prog w F.B n a xs ds ys d) (hr : Room n A) (up : Upd p xs ys σ.own own') (h : Q (.d d) ⟨σ.loc, own'⟩) :
    VL (model prog w) A F (fun vs => call (.ref a) vs) (.own p :: ds.map X.d) σ Q := fun vs s f r => by
  cases r with
  | @cons v _ vs _ r1 r2 =>
    cases (r1 : v = .ref p)
    have hp : p ∈ F.all σ := List.mem_append_right _ (List.mem_map_of_mem (f := (·.1)) up.mem)
    have m1 : ∀ b ∈ F.all σ, b ∈ p :: (F.all σ).filter (· ≠ p) := fun b hb => by
      by_cases e : b = p
      · rw [e]; exact .head _
      · exact .tail _ (List.mem_filter.mpr ⟨hb, by simpa using e⟩)
    have m2 : ∀ b ∈ p :: (F.all σ).filter (· ≠ p), b ∈ F.all σ := fun b hb => (List.mem_cons.mp hb).elim (fun e => e ▸ hp) fun e => (List.mem_filter.mp e).1
    obtain ⟨us, pl, rl⟩ := f.own _ up.mem
    have at' : At F.B (p :: (F.all σ).filter (· ≠ p)) s.heap := ⟨f.up, fun b o e hb => f.at.off b o e (m2 b hb), fun b hb => f.ex b (m2 b hb)⟩
    refine wpAny_call (codeAny_mono (sp A s _ vs p us hr at' (fun m => by simpa using (List.mem_filter.mp m).2) pl (rl.mono (hide_sub m2)) (r2.data.mono (hide_sub m2))) fun r s' hq => ?_)
    obtain ⟨v, us', rfl, rv, pl', rl', k, e⟩ := hq
    have ek : F.all ⟨σ.loc, own'⟩ = F.all σ := by unfold Frm.all; rw [show (⟨σ.loc, own'⟩ : St).keys = σ.keys from up.keys]
    have m3 : ∀ b ∈ F.all ⟨σ.loc, own'⟩, b ∈ p :: (F.all σ).filter (· ≠ p) := fun b hb => m1 b (ek ▸ hb)
    have fg := f.setOwn' up (fun b hb o e => k b o hb e) pl' (rl'.mono (hide_sub m3))
    exact ⟨.d _, _, rv.mono (hide_sub m3), fg.1, fg.2, e, h⟩

-- methods of the frame's own lists
theorem own_facts {h : Heap} {s : Shared} (f : FS F σ s.heap) {a : Addr} {xs : List PyData} (hm : (a, xs) ∈ σ.own) : s.TypeIs (.ref a) "list" ∧ (∀ b, Value.ref a = .ref b → ∃ ob, s.heap.get? b = some ob ∧ ob.dict = none) := by
  obtain ⟨vs, ⟨n, e⟩, _⟩ := f.own _ hm
  exact ⟨⟨_, e, rfl⟩, fun b q => by cases q; exact ⟨_, e, rfl⟩⟩
theorem e_append {o e : Expr} {apos pos : Pos} {Q : X → St → Prop}
    (h : WV (model prog w) A F (eval o F.env) σ (fun x σ₁ => ∃ a xs₀, x = .own a ∧ (a, xs₀) ∈ σ₁.own ∧ WV (model prog w) A F (eval e F.env) σ₁ (fun y σ₂ => ∃ d xs own', y = .d d ∧ xs.length ≤ sizeLine ∧ Upd a xs (xs ++ [d]) σ₂.own own' ∧ Q (.d .none) ⟨σ₂.loc, own'⟩)))
    (hbase : attributeBase o "append" F.env (eval o F.env) = eval o F.env := by rfl)
    (hfew : ((backTo pos (starEach [e] F.env)).all (fun x => !x.1) && (backToKw pos (keywordEach [] F.env)).all (fun x => x.1.isSome)
      && decide (([e] : List Expr).length + ([] : List Keyword).length + (if ([] : List Keyword).isEmpty then 0 else 1) < 30)) = true := by rfl)
    (hline : (apos.endLine == pos.line) = true := by rfl) (ht : backTo pos (starEach [e] F.env) = [(false, eval e F.env)] := by rfl) :
    WV (model prog w) A F (eval (.Call (.Attribute o "append" apos) [e] [] pos) F.env) σ Q := fun s f => by
  refine wpAny_Call_method hbase hfew hline PySem.F.plainAttrs_list PySem.F.slot_list_append PySem.F.type_list_append (wpAny_mono (h s f) (fun v s₁ p => ?_) fun _ _ z => z)
  obtain ⟨_, σ₁, r₁, f₁, g₁, e₁, a, xs₀, rfl, hm, q⟩ := p
  cases (r₁ : v = .ref a)
  refine ⟨(own_facts (h := s₁.heap) f₁ hm).1, (own_facts (h := s₁.heap) f₁ hm).2, ?_⟩
  rw [ht]
  refine P.append_list (wpAny_mono (q s₁ f₁) (fun y s₂ p => ?_) fun _ _ z => z)
  obtain ⟨_, σ₂, r₂, f₂, g₂, e₂, d, xs, own', rfl, hz, up, q⟩ := p
  obtain ⟨vs, ⟨n, hv⟩, rl⟩ := f₂.own _ up.mem
  have hl : vs.size = xs.length := by have := rl.length; simpa using this
  refine ⟨vs, n, by omega, hv, ?_⟩
  have hp : (s₂.heap.update a (Obj.mapSeq fun xs => xs.push y)).PlainList a (vs.push y) := ⟨_, PySem.IsL.update (show PySem.IsL s₂.heap a vs n from hv) (fun xs => xs.push y)⟩
  have fg := f₂.setOwn (us := vs.push y) (h' := s₂.heap.update a (Obj.mapSeq fun xs => xs.push y)) up (fun b hb o e => ((Heap.SameBut.update _ _ _).2 b hb).trans e) hp (by simpa using rl.append (.cons r₂ .nil))
  exact ⟨.d _, _, ⟨_, .none⟩, fg.1, (g₁.trans g₂).trans fg.2, (e₁.trans e₂).trans ⟨_, _, rfl⟩, q⟩
theorem e_extend {o e : Expr} {apos pos : Pos} {Q : X → St → Prop}
    (h : WV (model prog w) A F (eval o F.env) σ (fun x σ₁ => ∃ a xs₀, x = .own a ∧ (a, xs₀) ∈ σ₁.own ∧ WV (model prog w) A F (eval e F.env) σ₁ (fun y σ₂ => ∃ b ys xs own', y = .own b ∧ (b, ys) ∈ σ₂.own ∧ xs.length + ys.length ≤ 1000000 ∧ Upd a xs (xs ++ ys) σ₂.own own' ∧ Q (.d .none) ⟨σ₂.loc, own'⟩)))
    (hbase : attributeBase o "extend" F.env (eval o F.env) = eval o F.env := by rfl)
    (hfew : ((backTo pos (starEach [e] F.env)).all (fun x => !x.1) && (backToKw pos (keywordEach [] F.env)).all (fun x => x.1.isSome)
      && decide (([e] : List Expr).length + ([] : List Keyword).length + (if ([] : List Keyword).isEmpty then 0 else 1) < 30)) = true := by rfl)
    (hline : (apos.endLine == pos.line) = true := by rfl) (ht : backTo pos (starEach [e] F.env) = [(false, eval e F.env)] := by rfl) :
    WV (model prog w) A F (eval (.Call (.Attribute o "extend" apos) [e] [] pos) F.env) σ Q := fun s f => by
  refine wpAny_Call_method hbase hfew hline PySem.F.plainAttrs_list PySem.F.slot_list_extend PySem.F.type_list_extend (wpAny_mono (h s f) (fun v s₁ p => ?_) fun _ _ z => z)
  obtain ⟨_, σ₁, r₁, f₁, g₁, e₁, a, xs₀, rfl, hm, q⟩ := p
  cases (r₁ : v = .ref a)
  refine ⟨(own_facts (h := s₁.heap) f₁ hm).1, (own_facts (h := s₁.heap) f₁ hm).2, ?_⟩
  rw [ht]
  refine P.extend_list (wpAny_mono (q s₁ f₁) (fun y s₂ p => ?_) fun _ _ z => z)
  obtain ⟨_, σ₂, r₂, f₂, g₂, e₂, b, ys, xs, own', rfl, hb, hz, up, q⟩ := p
  cases (r₂ : y = .ref b)
  obtain ⟨vs, ⟨n, hv⟩, rl⟩ := f₂.own _ up.mem
  obtain ⟨us, ⟨n2, hu⟩, ru⟩ := f₂.own _ hb
  have hl : vs.size = xs.length := by have := rl.length; simpa using this
  have hl2 : us.size = ys.length := by have := ru.length; simpa using this
  have hs := sizeLine_eq
  refine ⟨b, vs, us, n, n2, by omega, by omega, extend_door (by omega), rfl, hv, hu, ?_⟩
  have hp : (s₂.heap.update a (Obj.mapSeq fun xs => xs ++ us)).PlainList a (vs ++ us) := ⟨_, PySem.IsL.update (show PySem.IsL s₂.heap a vs n from hv) (fun xs => xs ++ us)⟩
  have fg := f₂.setOwn (us := vs ++ us) (h' := s₂.heap.update a (Obj.mapSeq fun xs => xs ++ us)) up (fun b hb o e => ((Heap.SameBut.update _ _ _).2 b hb).trans e) hp (by simpa using rl.append ru)
  exact ⟨.d _, _, ⟨_, .none⟩, fg.1, (g₁.trans g₂).trans fg.2, (e₁.trans e₂).trans ⟨_, _, rfl⟩, q⟩
theorem e_pop {o : Expr} {apos pos : Pos} {Q : X → St → Prop}
    (h : WV (model prog w) A F (eval o F.env) σ (fun x σ₁ => ∃ a xs d own', x = .own a ∧ xs.length ≤ 1000000 ∧ Upd a (xs ++ [d]) xs σ₁.own own' ∧ Q (.d d) ⟨σ₁.loc, own'⟩))
    (hbase : attributeBase o "pop" F.env (eval o F.env) = eval o F.env := by rfl)
    (hfew : ((backTo pos (starEach [] F.env)).all (fun x => !x.1) && (backToKw pos (keywordEach [] F.env)).all (fun x => x.1.isSome)
      && decide (([] : List Expr).length + ([] : List Keyword).length + (if ([] : List Keyword).isEmpty then 0 else 1) < 30)) = true := by rfl)
    (hline : (apos.endLine == pos.line) = true := by rfl) :
    WV (model prog w) A F (eval (.Call (.Attribute o "pop" apos) [] [] pos) F.env) σ Q := fun s f => by
  refine wpAny_Call_method hbase hfew hline PySem.F.plainAttrs_list PySem.F.slot_list_pop PySem.F.type_list_pop (wpAny_mono (h s f) (fun v s₁ p => ?_) fun _ _ z => z)
  obtain ⟨_, σ₁, r₁, f₁, g₁, e₁, a, xs, d, own', rfl, hz, up, q⟩ := p
  cases (r₁ : v = .ref a)
  refine ⟨(own_facts (h := s₁.heap) f₁ up.mem).1, (own_facts (h := s₁.heap) f₁ up.mem).2, ?_⟩
  obtain ⟨vs, ⟨n, hv⟩, rl⟩ := f₁.own _ up.mem
  have hl : vs.size = xs.length + 1 := by have := rl.length; simpa using this
  have hs := sizeLine_eq
  obtain ⟨y, hy, ry⟩ := rl.get (k := xs.length) (d := d) (by simp)
  refine P.pop_list (y := y) (n := n) hv (by rw [hl]; simpa using hy) ?_ (by omega)
  have hp : (s₁.heap.update a (Obj.mapSeq fun xs => xs.eraseIdxIfInBounds (vs.size - 1))).PlainList a (vs.eraseIdxIfInBounds (vs.size - 1)) := ⟨_, PySem.IsL.update (show PySem.IsL s₁.heap a vs n from hv) (fun xs => xs.eraseIdxIfInBounds (vs.size - 1))⟩
  have er : (vs.eraseIdxIfInBounds (vs.size - 1)).toList = vs.toList.take xs.length := by
    have hlt : vs.size - 1 < vs.size := by omega
    rw [Array.eraseIdxIfInBounds, dif_pos hlt, Array.toList_eraseIdx]
    rw [List.eraseIdx_eq_take_drop_succ]
    have e1 : vs.size - 1 = xs.length := by omega
    rw [e1, List.drop_eq_nil_of_le (by simp; omega)]
    simp
  have fg := f₁.setOwn (us := vs.eraseIdxIfInBounds (vs.size - 1)) (h' := s₁.heap.update a (Obj.mapSeq fun xs => xs.eraseIdxIfInBounds (vs.size - 1))) up (fun b hb o e => ((Heap.SameBut.update _ _ _).2 b hb).trans e) hp (by rw [er]; simpa using rl.take xs.length)
  exact ⟨.d _, _, Rep.mono ry fg.2.vis, fg.1, g₁.trans fg.2, e₁.trans ⟨_, _, rfl⟩, q⟩
end
end Mine
namespace Mine

noncomputable def XH (h : Heap) (v : Value) : X → Prop
  | .d d => Rep h v d
  | .own a => v = .ref a
  | .raw w => v = w
  | .un => True
theorem XH.to {F : Frm} {σ : St} {h h' : Heap} {v : Value} {x : X} (r : XH h v x) (k : ∀ b o, h.get? b = some o → (vis F σ h').get? b = some o) : XR F σ h' v x := by
  cases x with
  | d d => exact Rep.mono r k
  | own a => exact r
  | raw w => exact r
  | un => trivial
inductive RH (h : Heap) : List Value → List X → Prop where
  | nil : RH h [] []
  | cons {v x vs xs} : XH h v x → RH h vs xs → RH h (v :: vs) (x :: xs)
theorem RH.data {h : Heap} {vs : List Value} {ds : List PyData} (r : RepL h vs ds) : RH h vs (ds.map X.d) := by
  induction ds generalizing vs with
  | nil => rw [r.nil_inv]; exact .nil
  | cons d ds ih => obtain ⟨v, us, rfl, a, b⟩ := r.cons_inv; exact .cons a (ih b)
theorem RH.length {h : Heap} {vs : List Value} {xs : List X} (r : RH h vs xs) : vs.length = xs.length := by
  induction r with
  | nil => rfl
  | cons _ _ ih => simp [ih]
theorem RH.zip {h : Heap} {vs : List Value} {xs : List X} (r : RH h vs xs) : ∀ {ns : List Str} {p : Str × X}, p ∈ ns.zip xs → ∃ v, (p.1, v) ∈ ns.zip vs ∧ XH h v p.2 := by
  induction r with
  | nil => intro ns p hp; simp at hp
  | @cons v x vs xs a _ ih =>
    intro ns p hp
    cases ns with
    | nil => simp at hp
    | cons n ns =>
      rcases List.mem_cons.mp hp with rfl | hp
      · exact ⟨v, .head _, a⟩
      · obtain ⟨u, h1, h2⟩ := ih hp
        exact ⟨u, .tail _ h1, h2⟩

theorem bindL_skip {k : Str → Option NameKind} {n : Str} : ∀ (b : List (Str × Value)) (m : Str → Option Value), n ∉ b.map (·.1) → bindL k b m n = m n
  | [], _, _ => rfl
  | (y, v) :: r, m, h => by
    have hn : n ≠ y := fun e => h (by simp [e])
    unfold bindL
    rw [bindL_skip r _ (fun hm => h (by simp at hm ⊢; exact .inr hm))]
    split
    · exact if_neg hn
    · rfl
theorem bindL_mem {k : Str → Option NameKind} {n : Str} {v : Value} (hk : k n = some .local) : ∀ (b : List (Str × Value)) (m : Str → Option Value), (b.map (·.1)).Nodup → (n, v) ∈ b → bindL k b m n = some v
  | [], _, _, h => nomatch h
  | (y, u) :: r, m, nd, h => by
    have nd' := List.nodup_cons.mp nd
    unfold bindL
    rcases List.mem_cons.mp h with e | h
    · cases e
      rw [bindL_skip r _ nd'.1, if_pos hk, if_pos rfl]
    · exact bindL_mem hk r _ nd'.2 h
theorem bindC_skip {k : Str → Option NameKind} {n : Str} : ∀ (b : List (Str × Value)) (m : Str → Option Value), n ∉ b.map (·.1) → bindC k b m n = m n
  | [], _, _ => rfl
  | (y, v) :: r, m, h => by
    have hn : n ≠ y := fun e => h (by simp [e])
    unfold bindC
    rw [bindC_skip r _ (fun hm => h (by simp at hm ⊢; exact .inr hm))]
    split
    · rfl
    · exact if_neg hn
theorem bindC_mem {k : Str → Option NameKind} {n : Str} {v : Value} (hk : k n = some .cell) : ∀ (b : List (Str × Value)) (m : Str → Option Value), (b.map (·.1)).Nodup → (n, v) ∈ b → bindC k b m n = some v
  | [], _, _, h => nomatch h
  | (y, u) :: r, m, nd, h => by
    have nd' := List.nodup_cons.mp nd
    unfold bindC
    rcases List.mem_cons.mp h with e | h
    · cases e
      rw [bindC_skip r _ nd'.1, if_neg (by rw [hk]; decide), if_pos rfl]
    · exact bindC_mem hk r _ nd'.2 h

theorem cellsFrom_names : ∀ (names : List (Str × NameKind)) (n m : Nat) (a b : List (Str × Addr)), a.map (·.1) = b.map (·.1) → (cellsFrom n names a).map (·.1) = (cellsFrom m names b).map (·.1)
  | [], _, _, _, _, e => e
  | (y, k) :: r, n, m, a, b, e => by
    unfold cellsFrom
    split
    · exact cellsFrom_names r _ _ _ _ (by simp [e])
    · exact cellsFrom_names r _ _ _ _ e
theorem lookup_of_mem {α : Type} : ∀ {l : List (Str × α)} {n : Str} {c : α}, (l.map (·.1)).Nodup → (n, c) ∈ l → l.lookup n = some c
  | (k, v) :: r, n, c, nd, h => by
    have nd' := List.nodup_cons.mp nd
    rw [List.lookup_cons]
    rcases List.mem_cons.mp h with e | h
    · cases e; simp
    · have hne : n ≠ k := fun e => nd'.1 (by rw [← e]; exact List.mem_map_of_mem (f := (·.1)) h)
      rw [show (n == k) = false from by simpa using hne]
      exact lookup_of_mem nd'.2 h

noncomputable def callFrm (B : Heap) (fd : FuncData) (L a : Addr) (far : List Addr) : Frm :=
  { env := callEnvC fd L a, hid := L :: (cellsFrom (L + 1) fd.scope.names []).map (·.2), far := far, B := B }

/-- what a def is: its data, as the heap of the top holds it -/
structure DefAt (B : Heap) (a : Addr) (fd : FuncData) (body : List Stmt) (params rest : List Str) : Prop where
  obj : ∃ o, B.get? a = some o ∧ o.data = .func fd
  lim : B.NoLimit
  code : B.CodeRec fd.code fd.qualname
  body : fd.body = .stmts body
  clo : fd.closure = []
  bind : ∀ vs, vs.length = params.length → bindArgs fd ⟨vs, []⟩ = pure (params.zip vs)
  kind : ∀ n ∈ params, fd.scope.names.lookup n = some .local ∨ fd.scope.names.lookup n = some .cell
  nd : (params ++ rest).Nodup
  cnd : ((cellsFrom 0 fd.scope.names []).map (·.1)).Nodup
  co : fd.scope.isCoroutine = false
  gen : fd.scope.isGenerator = false
  fn : fd.scope.kind = .function
theorem DefAt.fnAt {B : Heap} {a : Addr} {fd : FuncData} {body : List Stmt} {params rest : List Str} (D : DefAt B a fd body params rest) : FnAt B a := let ⟨o, h1, h2⟩ := D.obj; ⟨o, fd, h1, h2⟩

section
variable {prog : Program} {w : World} {A : Around} {B : Heap} {a : Addr} {fd : FuncData} {body : List Stmt} {params rest : List Str} {R : Result → Shared → Prop} {s : Shared} {far : List Addr} {own0 : List (Addr × List PyData)} {vs : List Value} {xs : List X} {n : Nat}

theorem enter (D : DefAt B a fd body params rest) (hA : Room (n + 1) A) (hat : At B (far ++ own0.map (·.1)) s.heap)
    (hown : ∀ p ∈ own0, ∃ us, s.heap.PlainList p.1 us ∧ RepL (hideAll s.heap (far ++ own0.map (·.1))) us.toList p.2) (hnd : (own0.map (·.1)).Nodup) (hoff : ∀ p ∈ own0.map (·.1), p ∉ far)
    (hvs : RH (hideAll s.heap (far ++ own0.map (·.1))) vs xs) (hlen : params.length = xs.length) (Q : Fl → St → Prop)
    (h : ∀ L, WF (model prog w) (A.deeper (callFrm B fd L a far).env) (callFrm B fd L a far) (execs body (callFrm B fd L a far).env) ⟨params.zip xs ++ rest.map (fun y => (y, .un)), own0⟩ Q)
    (hR : ∀ L fl σ' s' f, RF (callFrm B fd L a far) σ' s'.heap f fl → FS (callFrm B fd L a far) σ' s'.heap → (∀ b o, b ∉ own0.map (·.1) → s.heap.get? b = some o → s'.heap.get? b = some o) → (∀ b ∈ σ'.keys, b ∈ own0.map (·.1) ∨ s.heap.get? b = none) → Same s s' → Q fl σ' →
      R (.ok (.ret (match f with | .ret v => v | _ => .none))) s') : codeAny (model prog w) A (.call (.ref a) ⟨vs, []⟩) R s := by
  obtain ⟨o, ho, hd⟩ := D.obj
  have hl : vs.length = params.length := by rw [hvs.length, hlen]
  have hlim : s.heap.NoLimit := D.lim.keeps hat.base
  have hrec : s.heap.CodeRec fd.code fd.qualname := by
    obtain ⟨c, oc, vs', tq, h1, h2, h3, h4⟩ := D.code
    exact ⟨c, oc, vs', tq, h1, hat.base _ _ h2, h3, h4⟩
  have hnds : (params.zip vs).map (·.1) = params := by rw [List.map_fst_zip]; omega
  have hpnd : params.Nodup := (List.nodup_append.mp D.nd).1
  refine codeAny_call_cells (by have := hA.depth; unfold recursionLimit; omega) (hat.base _ _ ho) hd hlim hrec D.body (D.bind vs hl) D.clo (fun x hx => ?_) (fun s₁ IC => ?_) D.co D.gen D.fn
  · have hx' : x.1 ∈ params := by rw [← hnds]; exact List.mem_map_of_mem (f := (·.1)) hx
    exact (D.kind _ hx').imp id fun e => ⟨e, cellsFrom_some _ _ _ (.inl e)⟩
  · generalize hL : s.heap.objs.size = L at IC ⊢
    have hcn : ((cellsFrom (L + 1) fd.scope.names []).map (·.1)).Nodup := by rw [cellsFrom_names _ _ 0 _ [] rfl]; exact D.cnd
    have hfresh : ∀ b ∈ (callFrm B fd L a far).hid, s.heap.get? b = none := fun b hb => by
      cases e : s.heap.get? b with
      | none => rfl
      | some o =>
        have h1 := Heap.lt_size e
        rw [hL] at h1
        rcases List.mem_cons.mp hb with rfl | hb
        · exact absurd h1 (Nat.lt_irrefl _)
        · obtain ⟨q, hq, rfl⟩ := List.mem_map.mp hb
          have h2 := IC.above _ _ hq
          exact absurd h1 (Nat.lt_asymm h2)
    have hkeep := IC.toInCall.keep
    have up : ∀ b o, (hideAll s.heap (far ++ own0.map (·.1))).get? b = some o → (vis (callFrm B fd L a far) ⟨params.zip xs ++ rest.map (fun y => (y, .un)), own0⟩ s₁.heap).get? b = some o := fun b o e => by
      have e1 := of_hideAll _ e
      have hn : b ∉ far ++ own0.map (·.1) := fun m => by rw [hideAll_none _ m] at e; cases e
      refine vis_mk (hkeep _ _ e1) fun m => ?_
      rcases List.mem_append.mp m with m | m
      · rcases List.mem_append.mp m with m | m
        · exact hn (List.mem_append_left _ m)
        · rw [hfresh b m] at e1; cases e1
      · exact hn (List.mem_append_right _ m)
    have cellEx : ∀ q ∈ cellsFrom (L + 1) fd.scope.names [], ∃ o, s₁.heap.get? q.2 = some o := fun q hq => by
      obtain ⟨o, h1, _⟩ := IC.cell q.1 q.2 (lookup_of_mem hcn hq)
      exact ⟨o, h1⟩
    have f0 : FS (callFrm B fd L a far) ⟨params.zip xs ++ rest.map (fun y => (y, .un)), own0⟩ s₁.heap := by
      refine ⟨⟨_, IC.toInCall.ns, fun p hp hk hu => ?_⟩, fun p hp hk => ?_, IC.apart, fun p hp => ?_, hnd, fun b hb m => ?_, ?_, fun b o e => ?_, fun b hb => ?_, cellEx⟩
      · rcases List.mem_append.mp hp with hp | hp
        · obtain ⟨v, h1, h2⟩ := hvs.zip hp
          exact ⟨v, bindL_mem hk _ _ (by rw [hnds]; exact hpnd) h1, h2.to up⟩
        · obtain ⟨y, _, rfl⟩ := List.mem_map.mp hp
          exact absurd trivial hu
      · have hc : ((cellsFrom (L + 1) fd.scope.names []).lookup p.1).isSome = true := cellsFrom_some _ _ _ (.inl hk)
        obtain ⟨c, hc⟩ := Option.isSome_iff_exists.mp hc
        refine ⟨c, _, hc, IC.cell _ _ hc, fun hu => ?_⟩
        rcases List.mem_append.mp hp with hp | hp
        · obtain ⟨v, h1, h2⟩ := hvs.zip hp
          exact ⟨v, bindC_mem hk _ _ (by rw [hnds]; exact hpnd) h1, h2.to up⟩
        · obtain ⟨y, _, rfl⟩ := List.mem_map.mp hp
          exact absurd trivial hu
      · obtain ⟨us, ⟨n1, e⟩, r⟩ := hown p hp
        exact ⟨us, ⟨n1, hkeep _ _ e⟩, r.mono up⟩
      · rcases List.mem_append.mp m with m | m
        · exact hoff b hb m
        · obtain ⟨q, hq, rfl⟩ := List.mem_map.mp hb
          obtain ⟨us, ⟨n1, e⟩, r⟩ := hown q hq
          rw [hfresh _ m] at e; cases e
      · have e1 : (params.zip xs ++ rest.map (fun y => (y, X.un))).map (·.1) = params ++ rest := by
          rw [List.map_append, List.map_fst_zip (by omega), List.map_map]
          congr 1
          exact List.map_id _
        rw [e1]; exact D.nd
      · exact up _ _ (hideAll_get _ (hat.base _ _ e) (hat.off _ _ e))
      · rcases List.mem_append.mp hb with hb | hb
        · rcases List.mem_append.mp hb with hb | hb
          · obtain ⟨o, e⟩ := hat.ex b (List.mem_append_left _ hb)
            exact ⟨o, hkeep _ _ e⟩
          · rcases List.mem_cons.mp hb with rfl | hb
            · obtain ⟨o, _, _, e, _⟩ := IC.toInCall.ns; exact ⟨o, e⟩
            · obtain ⟨q, hq, rfl⟩ := List.mem_map.mp hb
              exact cellEx q hq
        · obtain ⟨o, e⟩ := hat.ex b (List.mem_append_right _ hb)
          exact ⟨o, hkeep _ _ e⟩
    refine wpAny_mono (h L s₁ f0) (fun f s' p => ?_) fun _ _ z => z.elim
    obtain ⟨fl, σ', r, f', g, e, q⟩ := p
    obtain ⟨h1, tk1, e1⟩ := IC.toInCall.same
    exact hR L fl σ' s' f r f' (fun b o hb eb => g.keep b o (fun m => by rw [hfresh b m] at eb; cases eb) hb (hkeep _ _ eb)) (fun b hb => (g.keys b hb).imp id fun z => z.elim (fun z => by
      cases eb : s.heap.get? b with
      | none => rfl
      | some o => rw [hkeep _ _ eb] at z; cases z) fun z => absurd (List.mem_append_right _ z) (f'.kd b hb)) ((show Same s s₁ from ⟨h1, tk1, e1⟩).trans e) q

noncomputable def RetIs (d : PyData) (fl : Fl) (σ : St) : Prop := fl = .ret (.d d) ∨ ∃ a ds pre post, fl = .ret (.own a) ∧ d = .list ds ∧ σ.own = pre ++ (a, ds) :: post
theorem pure_spec {ds : List PyData} {d : PyData} (D : DefAt B a fd body params rest) (hl : params.length = ds.length)
    (h : ∀ L far A, Room n A → WF (model prog w) A (callFrm B fd L a far) (execs body (callFrm B fd L a far).env) ⟨params.zip (ds.map X.d) ++ rest.map (fun y => (y, .un)), []⟩ (RetIs d)) :
    PureSpec prog w B (n + 1) a ds d := fun A s hid vs hA hat hr => by
  refine enter (far := hid) (own0 := []) (xs := ds.map X.d) D hA (by simpa using hat) (fun p hp => nomatch hp) (by simp) (fun p hp => nomatch hp) (by simpa using RH.data hr) (by simpa using hl) (RetIs d) (fun L => h L hid _ (hA.deeper _)) ?_
  intro L fl σ' s' f r f' k kk e q
  have sub : ∀ {τ : St} b o, (vis (callFrm B fd L a hid) τ s'.heap).get? b = some o → (hideAll s'.heap hid).get? b = some o := fun b o => hide_sub (fun x hx => List.mem_append_left _ (List.mem_append_left _ hx)) b o
  rcases q with rfl | ⟨b, es, pre, post, rfl, rfl, eo⟩
  · cases f <;> first | exact False.elim r | exact ⟨_, rfl, Rep.mono r sub, fun b o eb => k b o (by simp) eb, e⟩
  · obtain ⟨_, _, rp⟩ := f'.freeze eo
    cases f with
    | ret v => cases (r : v = .ref b); exact ⟨_, rfl, rp.mono sub, fun b o eb => k b o (by simp) eb, e⟩
    | _ => exact False.elim r
theorem new_spec {ds es : List PyData} (D : DefAt B a fd body params rest) (hl : params.length = ds.length)
    (h : ∀ L far A, Room n A → WF (model prog w) A (callFrm B fd L a far) (execs body (callFrm B fd L a far).env) ⟨params.zip (ds.map X.d) ++ rest.map (fun y => (y, .un)), []⟩ (fun fl σ' => ∃ b, fl = .ret (.own b) ∧ (b, es) ∈ σ'.own)) :
    NewSpec prog w B (n + 1) a ds es := fun A s hid vs hA hat hr => by
  refine enter (far := hid) (own0 := []) (xs := ds.map X.d) D hA (by simpa using hat) (fun p hp => nomatch hp) (by simp) (fun p hp => nomatch hp) (by simpa using RH.data hr) (by simpa using hl) _ (fun L => W.mono (h L hid _ (hA.deeper _)) (fun _ _ q => q)) ?_
  intro L fl σ' s' f r f' k kk e q
  obtain ⟨b, rfl, hm⟩ := q
  cases f with
  | ret v =>
    cases (r : v = .ref b)
    obtain ⟨us, pl, rl⟩ := f'.own _ hm
    have hb : b ∈ σ'.keys := List.mem_map_of_mem (f := (·.1)) hm
    refine ⟨b, us, rfl, (kk b hb).elim (fun z => by simp at z) id, pl, rl.mono (hide_sub fun x hx => (List.mem_cons.mp hx).elim (fun e => List.mem_append_right _ (e ▸ hb)) fun hx => List.mem_append_left _ (List.mem_append_left _ hx)), fun b o eb => k b o (by simp) eb, e⟩
  | _ => exact False.elim r
theorem pen_spec {y : Str} {ps : List Str} {ds ys xs : List PyData} {d : PyData} (D : DefAt B a fd body (y :: ps) rest) (hl : ps.length = ds.length)
    (h : ∀ L far p A, Room n A → WF (model prog w) A (callFrm B fd L a far) (execs body (callFrm B fd L a far).env) ⟨(y, .own p) :: (ps.zip (ds.map X.d) ++ rest.map (fun y => (y, .un))), [(p, xs)]⟩ (fun fl σ' => fl = .ret (.d d) ∧ (p, ys) ∈ σ'.own)) :
    PenSpec prog w B (n + 1) a xs ds ys d := fun A s hid vs p us hA hat hp pl rl hr => by
  have hsub : ∀ x ∈ hid ++ ([(p, xs)] : List (Addr × List PyData)).map (·.1), x ∈ p :: hid := fun x hx => by
    rcases List.mem_append.mp hx with hx | hx
    · exact .tail _ hx
    · simp at hx; rw [hx]; exact .head _
  have hsub' : ∀ x ∈ p :: hid, x ∈ hid ++ ([(p, xs)] : List (Addr × List PyData)).map (·.1) := fun x hx => by
    rcases List.mem_cons.mp hx with rfl | hx
    · simp
    · exact List.mem_append_left _ hx
  refine enter (far := hid) (own0 := [(p, xs)]) (xs := .own p :: ds.map X.d) (vs := .ref p :: vs) D hA ⟨hat.base, fun b o e hb => hat.off b o e (hsub b hb), fun b hb => hat.ex b (hsub b hb)⟩ (fun q hq => ?_) (by simp) (fun q hq => by simp at hq; rw [hq]; exact hp) (.cons rfl (RH.data (hr.mono (hide_sub hsub)))) (by simpa using hl) _ (fun L => W.mono (h L hid p _ (hA.deeper _)) (fun _ _ q => q)) ?_
  · simp at hq; subst hq; exact ⟨us, pl, rl.mono (hide_sub hsub)⟩
  · intro L fl σ' s' f r f' k kk e q
    obtain ⟨rfl, hm⟩ := q
    cases f with
    | ret v =>
      obtain ⟨us', pl', rl'⟩ := f'.own _ hm
      have hpk : p ∈ σ'.keys := List.mem_map_of_mem (f := (·.1)) hm
      have sub : ∀ b o, (vis (callFrm B fd L a hid) σ' s'.heap).get? b = some o → (hideAll s'.heap (p :: hid)).get? b = some o := hide_sub fun x hx => (List.mem_cons.mp hx).elim (fun e => List.mem_append_right _ (e ▸ hpk)) fun hx => List.mem_append_left _ (List.mem_append_left _ hx)
      exact ⟨v, us', rfl, Rep.mono r sub, pl', rl'.mono sub, fun b o hb eb => k b o (by simpa using hb) eb, e⟩
    | _ => exact False.elim r
end
end Mine
namespace Mine

noncomputable abbrev Frm.hides (F : Frm) (Is : List Addr) : Frm := { F with far := Is ++ F.far }
noncomputable abbrev Frm.opens (F : Frm) (Is : List Addr) : Frm := { F with hid := Is ++ F.hid }

section
variable {F : Frm} {σ σ' σ'' : St} {h h' h'' : Heap} {Is : List Addr}

theorem Go.open (g : Go (F.hides Is) σ h σ' h') : Go (F.opens Is) σ h σ' h' where
  keep := fun b o h1 h2 e => g.keep b o (fun m => h1 (List.mem_append_right _ m)) h2 e
  keys := fun a ha => (g.keys a ha).imp id fun z => z.imp id fun m => List.mem_append_right _ m
  alive := g.alive
theorem Go.unhide (g : Go (F.hides Is) σ h σ' h') : Go F σ h σ' h' := ⟨g.keep, g.keys, g.alive⟩

theorem vis_unhide : ∀ b o, (vis (F.hides Is) σ h).get? b = some o → (vis F σ h).get? b = some o :=
  hide_sub fun x hx => by
    rcases List.mem_append.mp hx with hx | hx
    · rcases List.mem_append.mp hx with hx | hx
      · exact List.mem_append_left _ (List.mem_append_left _ (List.mem_append_right _ hx))
      · exact List.mem_append_left _ (List.mem_append_right _ hx)
    · exact List.mem_append_right _ hx

theorem XR.unhide {v : Value} {x : X} (r : XR (F.hides Is) σ h v x) : XR F σ h v x := by
  cases x with
  | d d => exact Rep.mono r vis_unhide
  | own a => exact r
  | raw w => exact r
  | un => trivial
theorem FS.unhide (f : FS (F.hides Is) σ h) : FS F σ h where
  ns := let ⟨m, h1, h2⟩ := f.ns; ⟨m, h1, fun p hp hk hu => (h2 p hp hk hu).imp fun _ q => ⟨q.1, q.2.unhide⟩⟩
  cell := fun p hp hk => let ⟨c, v₀, h1, h2, h3⟩ := f.cell p hp hk; ⟨c, v₀, h1, h2, fun hu => (h3 hu).imp fun _ q => ⟨q.1, q.2.unhide⟩⟩
  capart := f.capart
  own := fun p hp => let ⟨vs, h1, h2⟩ := f.own p hp; ⟨vs, h1, h2.mono vis_unhide⟩
  nd := f.nd
  kd := fun a ha m => f.kd a ha (by
    rcases List.mem_append.mp m with m | m
    · exact List.mem_append_left _ (List.mem_append_right _ m)
    · exact List.mem_append_right _ m)
  ln := f.ln
  base := fun b o e => vis_unhide b o (f.base b o e)
  ex := fun a ha => f.ex a (by
    rcases List.mem_append.mp ha with m | m
    · rcases List.mem_append.mp m with m | m
      · exact List.mem_append_left _ (List.mem_append_left _ (List.mem_append_right _ m))
      · exact List.mem_append_left _ (List.mem_append_right _ m)
    · exact List.mem_append_right _ m)
  cx := f.cx

theorem vis_hide (hI : ∀ a ∈ Is, h.get? a = none) (k : ∀ b o, h.get? b = some o → h'.get? b = some o) : ∀ b o, (vis F σ h).get? b = some o → (vis (F.hides Is) σ h').get? b = some o := fun b o e => by
  obtain ⟨e1, hn⟩ := vis_of e
  refine vis_mk (k _ _ e1) fun m => ?_
  rcases List.mem_append.mp m with m | m
  · rcases List.mem_append.mp m with m | m
    · rcases List.mem_append.mp m with m | m
      · rw [hI b m] at e1; cases e1
      · exact hn (List.mem_append_left _ (List.mem_append_left _ m))
    · exact hn (List.mem_append_left _ (List.mem_append_right _ m))
  · exact hn (List.mem_append_right _ m)
theorem FS.hideNew (f : FS F σ h) (hI : ∀ a ∈ Is, h.get? a = none) (k : ∀ b o, h.get? b = some o → h'.get? b = some o) (hx : ∀ a ∈ Is, ∃ o, h'.get? a = some o) : FS (F.hides Is) σ h' := by
  have up := vis_hide (F := F) (σ := σ) hI k
  have xr : ∀ {v : Value} {x : X}, XR F σ h v x → XR (F.hides Is) σ h' v x := fun {v x} r => by
    cases x with
    | d d => exact Rep.mono r up
    | own a => exact r
    | raw w => exact r
    | un => trivial
  refine ⟨?_, fun p hp hk => ?_, f.capart, fun p hp => ?_, f.nd, fun a ha m => ?_, f.ln, fun b o e => up b o (f.base b o e), fun a ha => ?_, fun q hq => (f.cx q hq).imp fun _ e => k _ _ e⟩
  · obtain ⟨m, h1, h2⟩ := f.ns
    exact ⟨m, h1.keeps k, fun p hp hk hu => (h2 p hp hk hu).imp fun _ q => ⟨q.1, xr q.2⟩⟩
  · obtain ⟨c, v₀, h1, h2, h3⟩ := f.cell p hp hk
    exact ⟨c, v₀, h1, h2.keeps k, fun hu => (h3 hu).imp fun _ q => ⟨q.1, xr q.2⟩⟩
  · obtain ⟨vs, ⟨n1, h1⟩, h2⟩ := f.own p hp
    exact ⟨vs, ⟨n1, k _ _ h1⟩, h2.mono up⟩
  · rcases List.mem_append.mp m with m | m
    · rcases List.mem_append.mp m with m | m
      · obtain ⟨o, e⟩ := f.ex a (List.mem_append_right _ ha)
        rw [hI a m] at e; cases e
      · exact f.kd a ha (List.mem_append_left _ m)
    · exact f.kd a ha (List.mem_append_right _ m)
  · rcases List.mem_append.mp ha with m | m
    · rcases List.mem_append.mp m with m | m
      · rcases List.mem_append.mp m with m | m
        · exact hx a m
        · exact (f.ex a (List.mem_append_left _ (List.mem_append_left _ m))).imp fun _ e => k _ _ e
      · exact (f.ex a (List.mem_append_left _ (List.mem_append_right _ m))).imp fun _ e => k _ _ e
    · exact (f.ex a (List.mem_append_right _ m)).imp fun _ e => k _ _ e
/-- what is far turns -/
theorem FS.farAny (f : FS F σ h) (hf : ∀ a ∈ Is, a ∈ F.far) (hL : F.env.locals ∉ Is) (hc : ∀ q ∈ F.env.cells, q.2 ∉ Is) (k : ∀ b o, b ∉ Is → h.get? b = some o → h'.get? b = some o) (hx : ∀ a ∈ Is, ∃ o, h'.get? a = some o) : FS F σ h' := by
  have up : ∀ b o, (vis F σ h).get? b = some o → (vis F σ h').get? b = some o := fun b o e => by
    obtain ⟨e1, hn⟩ := vis_of e
    exact vis_mk (k _ _ (fun m => hn (List.mem_append_left _ (List.mem_append_left _ (hf b m)))) e1) hn
  have xr : ∀ {v : Value} {x : X}, XR F σ h v x → XR F σ h' v x := fun {v x} r => by
    cases x with
    | d d => exact Rep.mono r up
    | own a => exact r
    | raw w => exact r
    | un => trivial
  refine ⟨?_, fun p hp hk => ?_, f.capart, fun p hp => ?_, f.nd, f.kd, f.ln, fun b o e => up b o (f.base b o e), fun a ha => ?_, fun q hq => (f.cx q hq).imp fun _ e => k _ _ (hc q hq) e⟩
  · obtain ⟨m, ⟨o, es, ep, e, r⟩, h2⟩ := f.ns
    exact ⟨m, ⟨o, es, ep, k _ _ hL e, r⟩, fun p hp hk hu => (h2 p hp hk hu).imp fun _ q => ⟨q.1, xr q.2⟩⟩
  · obtain ⟨c, v₀, h1, ⟨o, e, d⟩, h3⟩ := f.cell p hp hk
    exact ⟨c, v₀, h1, ⟨o, k _ _ (hc _ (mem_of_lookup h1)) e, d⟩, fun hu => (h3 hu).imp fun _ q => ⟨q.1, xr q.2⟩⟩
  · obtain ⟨vs, ⟨n1, h1⟩, h2⟩ := f.own p hp
    exact ⟨vs, ⟨n1, k _ _ (fun m => f.kd p.1 (List.mem_map_of_mem (f := (·.1)) hp) (List.mem_append_left _ (hf _ m))) h1⟩, h2.mono up⟩
  · by_cases m : a ∈ Is
    · exact hx a m
    · exact (f.ex a ha).imp fun _ e => k _ _ m e
theorem FS.stepFar (f : FS (F.hides Is) σ h) (hL : F.env.locals ∉ Is) (hc : ∀ q ∈ F.env.cells, q.2 ∉ Is) (k : ∀ b o, b ∉ Is → h.get? b = some o → h'.get? b = some o) (hx : ∀ a ∈ Is, ∃ o, h'.get? a = some o) : FS (F.hides Is) σ h' :=
  f.farAny (fun a ha => List.mem_append_left _ ha) hL hc k hx
/-- the iterator's end: it is forgotten -/
theorem FS.lastFar (f : FS (F.hides Is) σ h) (hL : F.env.locals ∉ Is) (hc : ∀ q ∈ F.env.cells, q.2 ∉ Is) (hf : ∀ a ∈ F.far ++ F.hid, a ∉ Is) (k : ∀ b o, b ∉ Is → h.get? b = some o → h'.get? b = some o) : FS F σ h' := by
  have fu := f.unhide
  have up : ∀ b o, (vis (F.hides Is) σ h).get? b = some o → (vis F σ h').get? b = some o := fun b o e => by
    obtain ⟨e1, hn⟩ := vis_of e
    exact vis_mk (k _ _ (fun m => hn (List.mem_append_left _ (List.mem_append_left _ (List.mem_append_left _ m)))) e1) (vis_of (vis_unhide b o e)).2
  have xr : ∀ {v : Value} {x : X}, XR (F.hides Is) σ h v x → XR F σ h' v x := fun {v x} r => by
    cases x with
    | d d => exact Rep.mono r up
    | own a => exact r
    | raw w => exact r
    | un => trivial
  have hk : ∀ a ∈ σ.keys, a ∉ Is := fun a ha m => f.kd a ha (List.mem_append_left _ (List.mem_append_left _ m))
  refine ⟨?_, fun p hp hk => ?_, f.capart, fun p hp => ?_, f.nd, fu.kd, f.ln, fun b o e => up b o (f.base b o e), fun a ha => ?_, fun q hq => (f.cx q hq).imp fun _ e => k _ _ (hc q hq) e⟩
  · obtain ⟨m, ⟨o, es, ep, e, r⟩, h2⟩ := f.ns
    exact ⟨m, ⟨o, es, ep, k _ _ hL e, r⟩, fun p hp hk hu => (h2 p hp hk hu).imp fun _ q => ⟨q.1, xr q.2⟩⟩
  · obtain ⟨c, v₀, h1, ⟨o, e, d⟩, h3⟩ := f.cell p hp hk
    exact ⟨c, v₀, h1, ⟨o, k _ _ (hc _ (mem_of_lookup h1)) e, d⟩, fun hu => (h3 hu).imp fun _ q => ⟨q.1, xr q.2⟩⟩
  · obtain ⟨vs, ⟨n1, h1⟩, h2⟩ := f.own p hp
    exact ⟨vs, ⟨n1, k _ _ (hk _ (List.mem_map_of_mem (f := (·.1)) hp)) h1⟩, h2.mono up⟩
  · refine (fu.ex a ha).imp fun _ e => k _ _ (fun m => ?_) e
    rcases List.mem_append.mp ha with q | q
    · exact hf a q m
    · exact hk a q m
theorem Go.last (g : Go F σ h σ' h') (hI : ∀ a ∈ Is, h.get? a = none) (k : ∀ b o, b ∉ Is → h'.get? b = some o → h''.get? b = some o) : Go F σ h σ' h'' where
  keep := fun b o h1 h2 e => k b o (fun m => by rw [hI b m] at e; cases e) (g.keep b o h1 h2 e)
  keys := g.keys
  alive := fun b o e => let ⟨o', e'⟩ := g.alive b o e; ⟨o', k b o' (fun m => by rw [hI b m] at e; cases e) e'⟩
theorem Go.stepOpen (k : ∀ b o, b ∉ Is → h.get? b = some o → h'.get? b = some o) (hx : ∀ a ∈ Is, ∃ o, h'.get? a = some o) : Go (F.opens Is) σ h σ h' :=
  ⟨fun b o h1 _ e => k b o (fun m => h1 (List.mem_append_left _ m)) e, fun _ ha => .inl ha, fun b o e => by
    by_cases m : b ∈ Is
    · exact hx b m
    · exact ⟨o, k b o m e⟩⟩
/-- what came through with the iterators open came through, where they are new -/
theorem Go.close (g : Go F σ h σ' h') (g' : Go (F.opens Is) σ' h' σ'' h'') (hI : ∀ a ∈ Is, h.get? a = none) : Go F σ h σ'' h'' where
  keep := fun b o h1 h2 e => by
    refine g'.keep b o (fun m => ?_) (fun m => ?_) (g.keep b o h1 h2 e)
    · rcases List.mem_append.mp m with m | m
      · rw [hI b m] at e; cases e
      · exact h1 m
    · exact (g.keys b m).elim h2 fun z => z.elim (fun z => by rw [z] at e; cases e) h1
  keys := fun a ha => by
    rcases g'.keys a ha with m | m | m
    · exact g.keys a m
    · by_cases h1 : a ∈ F.hid
      · exact .inr (.inr h1)
      · by_cases h2 : a ∈ σ.keys
        · exact .inl h2
        · cases e : h.get? a with
          | none => exact .inr (.inl rfl)
          | some o => rw [g.keep a o h1 h2 e] at m; cases m
    · rcases List.mem_append.mp m with m | m
      · exact .inr (.inl (hI a m))
      · exact .inr (.inr m)
  alive := fun b o e => let ⟨o', e'⟩ := g.alive b o e; g'.alive b o' e'
end

/-- what the walk knows of an iterator: V is what could be seen when it was made -/
structure Its (prog : Program) (w : World) (A : Around) (Is fp : List Addr) (I : Addr) (target : Expr) (its : List PyData) (V : Heap) (S : Nat → Heap → Prop) : Prop where
  next : ∀ i d (s : Shared) (Q : Value → Shared → Prop), its[i]? = some d → S i s.heap →
    (∀ v s', S (i + 1) s'.heap → (∀ b o, b ∉ Is → s.heap.get? b = some o → s'.heap.get? b = some o) → (∀ a ∈ Is, ∃ o, s'.heap.get? a = some o) →
      (∀ l, (∀ b o, V.get? b = some o → (hideAll s'.heap l).get? b = some o) → (∀ b ∈ l, ∃ o, s.heap.get? b = some o) → Rep (hideAll s'.heap l) v d) → Same s s' → Q v s') →
    wpAny (model prog w) A (pyNext (.ref I)) (fun r s₁ => ∃ v, r = some v ∧ wpAny (model prog w) A (letOwnedTupleGo target (.ref I) v) (fun _ s' => Q v s') EOk s₁) EOk s
  done : ∀ (s : Shared) (Q : Shared → Prop), S its.length s.heap → (∀ s', (∀ b o, b ∉ Is → s.heap.get? b = some o → s'.heap.get? b = some o) → Same s s' → Q s') →
    wpAny (model prog w) A (pyNext (.ref I)) (fun r s₁ => r = none ∧ Q s₁) EOk s
  keep : ∀ i h h', S i h → (∀ b ∈ fp, ∀ o, h.get? b = some o → h'.get? b = some o) → S i h'
  fps : ∀ b ∈ fp, b ∈ Is ∨ ∃ o, V.get? b = some o
  self : ∀ i (s : Shared) (Q : Value → Shared → Prop) (E : Value → Shared → Prop), S i s.heap → Q (.ref I) s → wpAny (model prog w) A (pyIter (.ref I)) Q E s

theorem Go.stay {F : Frm} {σ σ' : St} {h h' : Heap} {Is : List Addr} (g : Go (F.opens Is) σ h σ' h') : ∀ b o, (Mine.vis (F.hides Is) σ h).get? b = some o → (Mine.vis (F.hides Is) σ' h').get? b = some o := fun b o e => by
  obtain ⟨e1, hn⟩ := vis_of e
  have n1 : b ∉ Is ++ F.far := fun m => hn (List.mem_append_left _ (List.mem_append_left _ m))
  have n2 : b ∉ F.hid := fun m => hn (List.mem_append_left _ (List.mem_append_right _ m))
  have n3 : b ∉ σ.keys := fun m => hn (List.mem_append_right _ m)
  have n4 : b ∉ Is ++ F.hid := fun m => (List.mem_append.mp m).elim (fun m => n1 (List.mem_append_left _ m)) n2
  refine vis_mk (g.keep b o n4 n3 e1) fun m => ?_
  rcases List.mem_append.mp m with m | m
  · rcases List.mem_append.mp m with m | m
    · exact n1 m
    · exact n2 m
  · exact (g.keys b m).elim n3 fun z => z.elim (fun z => by rw [z] at e1; cases e1) n4

/-- the head of a for: its items -/
noncomputable def WI (prog : Program) (w : World) (A : Around) (F : Frm) (target iter : Expr) (σ : St) (Q : List PyData → St → Prop) : Prop :=
  ∀ s, FS F σ s.heap → wpAny (model prog w) A (eval iter F.env) (fun v s₁ => wpAny (model prog w) A (pyIter v) (fun it s₂ => ∃ I Is fp S its σ₂, it = .ref I ∧
    FS (F.hides Is) σ₂ s₂.heap ∧ Go F σ s.heap σ₂ s₂.heap ∧ Same s s₂ ∧ Its prog w A Is fp I target its (vis (F.hides Is) σ₂ s₂.heap) S ∧ (∀ a ∈ Is, s.heap.get? a = none) ∧ S 0 s₂.heap ∧ Q its σ₂) EOk s₁) EOk s

theorem WI.mono {prog : Program} {w : World} {A : Around} {F : Frm} {target iter : Expr} {σ : St} {Q R : List PyData → St → Prop} (h : WI prog w A F target iter σ Q) (k : ∀ its τ, Q its τ → R its τ) : WI prog w A F target iter σ R := fun s f =>
  wpAny_mono (h s f) (fun v s₁ p => wpAny_mono p (fun it s₂ p => by
    obtain ⟨I, Is, fp, S, its, σ₂, a, b, c, d, e, g, i, q⟩ := p
    exact ⟨I, Is, fp, S, its, σ₂, a, b, c, d, e, g, i, k _ _ q⟩) fun _ _ z => z) fun _ _ z => z
section
variable {prog : Program} {w : World} {A : Around} {F : Frm} {σ : St}

theorem notedOk {env : Env} {α : Type} {t : Sem α} {Q : α → Shared → Prop} {R : Value → Shared → Prop} {s : Shared} (h : wpAny (model prog w) A t Q EOk s) : wpAny (model prog w) A t Q (notedBy (model prog w) A env R) s :=
  wpAny_mono h (fun _ _ q => q) fun _ _ z => z.elim

theorem FS.off {s : Shared} (f : FS F σ s.heap) {Is : List Addr} (hI : ∀ a ∈ Is, s.heap.get? a = none) : F.env.locals ∉ Is ∧ (∀ q ∈ F.env.cells, q.2 ∉ Is) ∧ (∀ a ∈ F.far ++ F.hid, a ∉ Is) := by
  refine ⟨fun m => ?_, fun q hq m => ?_, fun a ha m => ?_⟩
  · obtain ⟨_, ⟨o, _, _, e, _⟩, _⟩ := f.ns; rw [hI _ m] at e; cases e
  · obtain ⟨o, e⟩ := f.cx q hq; rw [hI _ m] at e; cases e
  · obtain ⟨o, e⟩ := f.ex a (List.mem_append_left _ ha); rw [hI _ m] at e; cases e

/-- where a turn ends -/
noncomputable def TurnEnd (Inv : Nat → St → Prop) (Q : Fl → St → Prop) (i : Nat) : Fl → St → Prop := fun fl τ => match fl with
  | .next | .cont => ∃ τ', Weak τ τ' ∧ Inv (i + 1) τ'
  | .brk => Q .next τ
  | .ret x => Q (.ret x) τ

theorem x_for {target iter : Expr} {body : List Stmt} {pos : Pos} {Q : Fl → St → Prop}
    (h : WI prog w A F target iter σ (fun its σ₂ => ∃ Inv : Nat → St → Prop, Inv 0 σ₂ ∧
      (∀ Is i d σ', its[i]? = some d → Inv i σ' → A1 (model prog w) A (F.hides Is) (assign target (F.hides Is).env) (.d d) σ' (fun _ σ'' => WF (model prog w) A (F.hides Is) (execs body (F.hides Is).env) σ'' (TurnEnd Inv Q i))) ∧
      (∀ σ', Inv its.length σ' → Q .next σ')))
    (hs : ∀ x, foldedSetIterable iter F.env x = pure x := by intro _; rfl) :
    WF (model prog w) A F (exec (.For target iter body [] pos) F.env) σ Q := fun s f => by
  refine wpAny_For (wpAny_mono (h s f) (fun v s₁ h₁ => wpAny_mono h₁ (fun it s₂ p => ?_) fun _ _ z => z) fun _ _ z => z) hs
  obtain ⟨I, Is, fp, S, its, σ₂, rfl, f₂, g₂, e₂, T, hI, hS, Inv, h0, turn, done⟩ := p
  obtain ⟨hL, hc, hfh⟩ := f.off hI
  refine codeAny_forLoop_any (fun k s' => ∃ i σ', FS (F.hides Is) σ' s'.heap ∧ Go (F.opens Is) σ₂ s₂.heap σ' s'.heap ∧ Same s₂ s' ∧ S i s'.heap ∧ Inv i σ' ∧ i ≤ its.length ∧ k = its.length - i) ?_ its.length
    ⟨0, σ₂, f₂, .refl, .refl _, hS, h0, Nat.zero_le _, rfl⟩
  rintro k s' ⟨i, σ', f', g', e', hS', hInv, hi, rfl⟩
  refine notedOk ?_
  by_cases hlt : i < its.length
  · obtain ⟨d, hd⟩ : ∃ d, its[i]? = some d := ⟨_, List.getElem?_eq_getElem hlt⟩
    have nx := T.next i d s' (fun v s₃ => S (i + 1) s₃.heap ∧ FS (F.hides Is) σ' s₃.heap ∧ Go (F.opens Is) σ' s'.heap σ' s₃.heap ∧ XR (F.hides Is) σ' s₃.heap v (.d d) ∧ Same s' s₃) hd hS'
      fun v s₃ a kk xx rp e =>
        have g₃ := Go.stepOpen (F := F) (σ := σ') kk xx
        ⟨a, f'.stepFar hL hc kk xx, g₃, rp _ (g'.trans g₃).stay f'.ex, e⟩
    refine wpAny_mono nx (fun r s₃ q => ?_) fun _ _ z => z
    obtain ⟨v, rfl, q⟩ := q
    refine notedOk (wpAny_mono q (fun _ s₃ q => ?_) fun _ _ z => z)
    obtain ⟨hS₃, f₃, g₃, r₃, e₃⟩ := q
    refine notedOk (wpAny_mono (turn Is i d σ' hd hInv v s₃ f₃ r₃) (fun _ s₄ p => ?_) fun _ _ z => z)
    obtain ⟨_, σ₄, _, f₄, g₄, e₄, q⟩ := p
    refine notedOk (wpAny_mono (q s₄ f₄) (fun fl s₅ p => ?_) fun _ _ z => z)
    obtain ⟨x, σ₅, r₅, f₅, g₅, e₅, q⟩ := p
    have gg : Go (F.opens Is) σ₂ s₂.heap σ₅ s₅.heap := (g'.trans g₃).trans (g₄.trans g₅).open
    have ee : Same s₂ s₅ := (e'.trans e₃).trans (e₄.trans e₅)
    have fin : (∃ τ', Weak σ₅ τ' ∧ Inv (i + 1) τ') → ∃ m, m < its.length - i ∧ ∃ i' σ', FS (F.hides Is) σ' s₅.heap ∧ Go (F.opens Is) σ₂ s₂.heap σ' s₅.heap ∧ Same s₂ s₅ ∧ S i' s₅.heap ∧ Inv i' σ' ∧ i' ≤ its.length ∧ m = its.length - i' := by
      rintro ⟨τ', wk, hInv'⟩
      obtain ⟨f₆, g₆⟩ := f₅.weak wk
      exact ⟨its.length - (i + 1), by omega, i + 1, τ', f₆, gg.trans g₆.open, ee, T.keep _ _ _ hS₃ (fun b hb o eb => (T.fps b hb).elim (fun m => (g₄.trans g₅).keep b o (fun z => hfh b (List.mem_append_right _ z) m) (fun z => f₃.kd b z (List.mem_append_left _ (List.mem_append_left _ m))) eb) fun ⟨o', ev⟩ => by
        have nv := (vis_of ((g'.trans g₃).stay b o' ev)).2
        exact (g₄.trans g₅).keep b o (fun z => nv (List.mem_append_left _ (List.mem_append_right _ z))) (fun z => nv (List.mem_append_right _ z)) eb), hInv', hlt, rfl⟩
    have out : ∀ {fl : Flow} {y : Fl}, RF F σ₅ s₅.heap fl y → Q y σ₅ → P1 F σ s RF Q fl s₅ := fun r q =>
      ⟨_, σ₅, r, f₅.unhide, g₂.close gg hI, e₂.trans ee, q⟩
    cases fl <;> cases x <;> first | exact False.elim r₅ | exact fin q | exact out (fl := .next) (y := .next) trivial q | exact out (fl := .ret _) (y := .ret _) (XR.unhide r₅) q
  · have hn : i = its.length := by omega
    subst hn
    have nx := T.done s' (fun s₃ => FS F σ' s₃.heap ∧ (∀ b o, b ∉ Is → s'.heap.get? b = some o → s₃.heap.get? b = some o) ∧ Same s' s₃) hS' fun s₃ b c => ⟨f'.lastFar hL hc hfh b, b, c⟩
    refine wpAny_mono nx (fun r s₃ q => ?_) fun _ _ z => z
    obtain ⟨rfl, f₃, g₃, e₃⟩ := q
    exact wpAny_execs_nil ⟨.next, σ', trivial, f₃, (g₂.close g' hI).last hI g₃, e₂.trans (e'.trans e₃), done σ' hInv⟩

theorem x_while {test : Expr} {body : List Stmt} {pos : Pos} {Q : Fl → St → Prop} (Inv : Nat → St → Prop) (n : Nat) (h0 : Inv n σ)
    (turn : ∀ n σ', Inv n σ' → WB (model prog w) A F (isTrue test F.env (eval test F.env)) σ' (fun b σ'' => if b = true then WF (model prog w) A F (execs body F.env) σ'' (fun fl τ => match fl with
        | .next | .cont => ∃ m τ', m < n ∧ Weak τ τ' ∧ Inv m τ'
        | .brk => Q .next τ
        | .ret x => Q (.ret x) τ) else Q .next σ'')) :
    WF (model prog w) A F (exec (.While test body [] pos) F.env) σ Q := fun s f => by
  refine wpAny_While (codeAny_whileLoop (fun k s' => ∃ σ', FS F σ' s'.heap ∧ Go F σ s.heap σ' s'.heap ∧ Same s s' ∧ Inv k σ') ?_ n ⟨σ, f, .refl, .refl _, h0⟩)
  rintro k s' ⟨σ', f', g', e', hInv⟩
  refine notedOk (wpAny_mono (turn k σ' hInv s' f') (fun b s₁ p => ?_) fun _ _ z => z)
  obtain ⟨_, σ₁, rfl, f₁, g₁, e₁, q⟩ := p
  cases b with
  | false => exact wpAny_execs_nil ⟨.next, σ₁, trivial, f₁, g'.trans g₁, e'.trans e₁, q⟩
  | true =>
    refine notedOk (wpAny_mono (q s₁ f₁) (fun fl s₂ p => ?_) fun _ _ z => z)
    obtain ⟨x, σ₂, r₂, f₂, g₂, e₂, q⟩ := p
    have gg := (g'.trans g₁).trans g₂
    have ee := (e'.trans e₁).trans e₂
    have fin : (∃ m τ', m < k ∧ Weak σ₂ τ' ∧ Inv m τ') → ∃ m, m < k ∧ ∃ σ', FS F σ' s₂.heap ∧ Go F σ s.heap σ' s₂.heap ∧ Same s s₂ ∧ Inv m σ' := by
      rintro ⟨m, τ', hm, wk, hI⟩
      obtain ⟨f₃, g₃⟩ := f₂.weak wk
      exact ⟨m, hm, τ', f₃, gg.trans g₃, ee, hI⟩
    have out : ∀ {fl : Flow} {y : Fl}, RF F σ₂ s₂.heap fl y → Q y σ₂ → P1 F σ s RF Q fl s₂ := fun r q => ⟨_, σ₂, r, f₂, gg, ee, q⟩
    cases fl <;> cases x <;> first | exact False.elim r₂ | exact fin q | exact out (fl := .next) (y := .next) trivial q | exact out r₂ q

-- the items of a list
theorem letGo_plain {target : Expr} {I : Addr} {v : Value} {o : Obj} {s : Shared} {Q : Unit → Shared → Prop} {n : String} (ho : s.heap.get? I = some o) (hc : o.cls = .type n)
    (hn : (["enumerate", "zip", "dict_itemiterator", "dict_reverseitemiterator", "odict_iterator", "itertools.zip_longest", "itertools.pairwise"].contains n) = false) (h : Q () s) :
    wpAny (model prog w) A (letOwnedTupleGo target (.ref I) v) Q EOk s := by
  unfold letOwnedTupleGo
  have key : wpAny (model prog w) A (match (Value.ref I, v) with
      | (.ref r, .ref a) => (do
        let o ← load r
        match o.cls, o.data with
        | .type n, .fields vs =>
          if (["enumerate", "zip", "dict_itemiterator", "dict_reverseitemiterator", "odict_iterator", "itertools.zip_longest", "itertools.pairwise"].contains n && vs[0]? == some (rawInt a)) = true then do
            rule "for.unpacks-the-owned-tuple"
            updateField r 0 .none
          else pure ()
        | _, _ => pure () : Sem Unit)
      | _ => pure ()) Q EOk s := by
    cases v <;> first | exact wpAny_pure h | skip
    refine wpAny_bind (wpAny_load ho ?_)
    rw [hc]
    generalize o.data = d
    cases d <;> first | exact wpAny_pure h | (dsimp only; rw [hn]; exact wpAny_pure h)
  cases target <;> first | exact wpAny_pure h | exact key


theorem newAt {s s₁ : Shared} {σ₁ : St} (g : Go F σ s.heap σ₁ s₁.heap) {a : Addr} (h : s₁.heap.get? a = none) : s.heap.get? a = none := by
  cases e : s.heap.get? a with
  | none => rfl
  | some o => obtain ⟨o', e'⟩ := g.alive a o e; rw [h] at e'; cases e'

theorem i_list {target iter : Expr} {Q : List PyData → St → Prop} (hA : A.handled = none) (h : WV (model prog w) A F (eval iter F.env) σ (fun x σ₁ => ∃ ds, x = .d (.list ds) ∧ Q ds σ₁)) : WI prog w A F target iter σ Q := fun s f => by
  refine wpAny_mono (h s f) (fun v s₁ p => ?_) fun _ _ z => z
  obtain ⟨_, σ₁, r₁, f₁, g₁, e₁, ds, rfl, q⟩ := p
  obtain ⟨l, vs, rfl, hl, rl⟩ := isList_of r₁
  refine wpAny_pyIter_list (IsList.up hl) ?_
  generalize hI0 : s₁.heap.objs.size = I
  have hI1 : s₁.heap.get? I = none := hI0 ▸ no_size _
  have hI : ∀ a ∈ [I], s₁.heap.get? a = none := fun a ha => by rw [List.mem_singleton.mp ha]; exact hI1
  have hIs : ∀ a ∈ [I], s.heap.get? a = none := fun a ha => newAt g₁ (hI a ha)
  have kp : ∀ b o, s₁.heap.get? b = some o → (s₁.heap.push { cls := .type "list_iterator", data := .fields #[.ref l, .int 0 0] }).get? b = some o := fun b o e => Heap.get?_push_of_some _ e
  have it0 : (s₁.heap.push { cls := .type "list_iterator", data := .fields #[.ref l, .int 0 0] }).IsListIter I l 0 := ⟨_, hI0 ▸ Heap.get?_push_size _ rfl, rfl, rfl⟩
  generalize s₁.heap.push { cls := .type "list_iterator", data := .fields #[.ref l, .int 0 0] } = h₂ at kp it0
  have f₂ : FS (F.hides [I]) σ₁ h₂ := f₁.hideNew hI kp fun a ha => by rw [List.mem_singleton.mp ha]; exact let ⟨o, e, _⟩ := it0; ⟨o, e⟩
  have up := vis_hide (F := F) (σ := σ₁) hI kp
  have lI : l ≠ I := fun e => by obtain ⟨o, e1, _⟩ := IsList.up hl; rw [e, hI1] at e1; cases e1
  obtain ⟨hL, hc, hfh⟩ := f₁.off (s := s₁) hI
  have hl₂ : (vis (F.hides [I]) σ₁ h₂).IsList l vs := let ⟨o, e, r⟩ := hl; ⟨o, up _ _ e, r⟩
  refine ⟨I, [I], [I, l], fun i h => h.IsListIter I l i ∧ h.IsList l vs, ds, σ₁, rfl, f₂, ?_, e₁.trans ⟨_, _, rfl⟩, ?_, hIs, ⟨it0, IsList.up hl₂⟩, q⟩
  · exact g₁.trans ⟨fun b o _ _ e => kp b o e, fun _ ha => .inl ha, fun b o e => ⟨o, kp b o e⟩⟩
  · refine ⟨fun i d s' Q hd hS hQ => ?_, fun s' Q hS hQ => ?_, fun i h h' hS k => ?_, fun b hb => ?_, fun i s' Q E hS hq => wpAny_pyIter_listiter hS.1 hq⟩
    · obtain ⟨v, hv, rv⟩ := (rl.mono up).get hd
      refine wpAny_pyNext_list_item hS.1 hS.2 (by simpa using hv) fun h₃ hS₃ hs₃ => ⟨v, rfl, ?_⟩
      have kk : ∀ b o, b ∉ [I] → s'.heap.get? b = some o → h₃.get? b = some o := fun b o m e => (hs₃.2 b (fun q => m (by simp [q]))).trans e
      obtain ⟨oI, eI, cI, dI⟩ := id hS₃
      have xx : ∀ a ∈ [I], ∃ o, h₃.get? a = some o := fun a ha => by rw [List.mem_singleton.mp ha]; exact ⟨oI, eI⟩
      refine letGo_plain (n := "list_iterator") eI cI (by decide) ?_
      exact hQ v { s' with heap := h₃ } ⟨hS₃, hS.2.extBut hs₃.extBut lI⟩ kk xx (fun l' hl' _ => rv.mono hl') ⟨_, _, rfl⟩
    · have hz : vs.size = ds.length := by have := rl.length; simpa using this
      refine wpAny_pyNext_list_end hA hS.1 hS.2 (by simp [← hz]) fun h₃ he => ⟨rfl, ?_⟩
      have kk : ∀ b o, b ∉ [I] → s'.heap.get? b = some o → h₃.get? b = some o := fun b o m e => he b o (fun q => m (by simp [q])) e
      exact hQ { s' with heap := h₃ } kk ⟨_, _, rfl⟩
    · exact ⟨hS.1.at fun o e => k I (by simp) o e, hS.2.at fun o e => k l (by simp) o e⟩
    · rcases List.mem_cons.mp hb with rfl | hb
      · exact .inl (by simp)
      · rw [List.mem_singleton.mp hb]; obtain ⟨o, e, _⟩ := hl₂; exact .inr ⟨o, e⟩
end
end Mine
namespace Mine

section
variable {prog : Program} {w : World} {A : Around} {F : Frm} {σ : St}

theorem small_ok {n : Nat} (h : n < 1000000) : Builtin.Range.small 0 (n : Int) 1 = true := by
  unfold Builtin.Range.small
  rw [rangeSize_nat]
  simp [Builtin.Range.rangeFitsLong]
  omega

noncomputable def rangeD (n : Nat) : List PyData := (List.range n).map fun (i : Nat) => PyData.int (i : Int)
theorem rangeD_length (n : Nat) : (rangeD n).length = n := by simp [rangeD]
theorem rangeD_get {n i : Nat} {d : PyData} (h : (rangeD n)[i]? = some d) : i < n ∧ d = .int (i : Int) := by
  unfold rangeD at h
  rw [List.getElem?_map] at h
  by_cases hi : i < n
  · rw [List.getElem?_range hi] at h
    simp at h
    exact ⟨hi, h.symm⟩
  · rw [List.getElem?_eq_none (by simp; omega)] at h; cases h

theorem i_range {target e : Expr} {id : Str} {p pos : Pos} {Q : List PyData → St → Prop} (hA : A.handled = none) (g : BV F id (.type "range")) (hk : F.env.kindOf id = some .globalImplicit) (hs : F.env.scope.kind = .function) (hd : (id == ("__debug__" : Str)) = false)
    (h : WV (model prog w) A F (eval e F.env) σ (fun x σ₁ => ∃ n : Nat, x = .d (.int (n : Int)) ∧ n < 1000000 ∧ Q (rangeD n) σ₁))
    (he : starEach [e] F.env = (false, eval e F.env) :: starEach [] F.env := by rfl) : WI prog w A F target (.Call (.Name id p) [e] [] pos) σ Q := fun s f => by
  refine wpAny_Call_NameR (wpAny_mono ((n_blt (prog := prog) (w := w) (A := A) (pos := p) (Q := fun x τ => x = .raw (.type "range") ∧ τ = σ) g ⟨rfl, rfl⟩ hk hs hd) s f) (fun v s₀ pq => ?_) fun _ _ z => z)
  obtain ⟨x, σ₀, r₀, f₀, g₀, e₀, rfl, rfl⟩ := pq
  cases (r₀ : v = .type "range")
  refine callWith_type1 (wpAny_mono ((l_cons (pos := pos) (Q := fun xs σ₁ => ∃ n : Nat, xs = [.d (.int (n : Int))] ∧ n < 1000000 ∧ Q (rangeD n) σ₁) (W.mono h fun x σ₁ ⟨n, e, hn, q⟩ => l_nil ⟨n, by rw [e], hn, q⟩) he) s₀ f₀) (fun vs s₁ pq => ?_) fun _ _ z => z) he rfl
  obtain ⟨_, σ₁, r₁, f₁, g₁, e₁, n, rfl, hn, q⟩ := pq
  obtain ⟨v, rfl, r⟩ := r₁.one
  obtain ⟨_, r⟩ := r
  cases r
  rename_i t
  refine call_range_1 ?_
  have hr : IsRange (s₁.heap.push { cls := .type "range", data := .fields #[.int 0 s₁.toks, .int (n : Int) t, .int 1 (s₁.toks + 1)] }) s₁.heap.objs.size 0 (n : Int) 1 s₁.toks t (s₁.toks + 1) := Heap.get?_push_size _ rfl
  obtain ⟨f₂, g₂⟩ := f₁.push { cls := .type "range", data := .fields #[.int 0 s₁.toks, .int (n : Int) t, .int 1 (s₁.toks + 1)] }
  generalize s₁.heap.objs.size = r at hr ⊢
  generalize s₁.heap.push { cls := .type "range", data := .fields #[.int 0 s₁.toks, .int (n : Int) t, .int 1 (s₁.toks + 1)] } = h₁ at hr f₂ g₂ ⊢
  refine wpAny_pyIter_range (s := { s₁ with heap := h₁, toks := s₁.toks + 1 + 1 }) hr (small_ok hn) ?_
  rw [rangeSize_nat]
  have en : (((n : Int) - 0).toNat : Int) = (n : Int) - ((0 : Nat) : Int) := by omega
  have it0 : IsRangeIter (h₁.push { cls := .type "range_iterator", data := .fields #[rawInt 0, rawInt (((n : Int) - 0).toNat : Int), rawInt 1] }) h₁.objs.size (0 + ((0 : Nat) : Int) * 1) ((n : Int) - ((0 : Nat) : Int)) 1 := by
    rw [← en]; exact Heap.get?_push_size _ rfl
  have hI1 : h₁.get? h₁.objs.size = none := no_size _
  have kp : ∀ b o, h₁.get? b = some o → (h₁.push { cls := .type "range_iterator", data := .fields #[rawInt 0, rawInt (((n : Int) - 0).toNat : Int), rawInt 1] }).get? b = some o := fun b o e => Heap.get?_push_of_some _ e
  show ∃ I Is fp S its σ₂, _
  generalize h₁.objs.size = I at it0 hI1 ⊢
  generalize h₁.push { cls := .type "range_iterator", data := .fields #[rawInt 0, rawInt (((n : Int) - 0).toNat : Int), rawInt 1] } = h₂ at it0 kp ⊢
  have hI : ∀ a ∈ [I], h₁.get? a = none := fun a ha => by rw [List.mem_singleton.mp ha]; exact hI1
  have f₃ : FS (F.hides [I]) σ₁ h₂ := f₂.hideNew hI kp fun a ha => by rw [List.mem_singleton.mp ha]; exact ⟨_, it0⟩
  obtain ⟨hL, hc, hfh⟩ := FS.off (s := { s₁ with heap := h₁ }) f₂ hI
  have W := Walks.range (prog := prog) (w := w) (A := A) hA I 0 1 n
  have gg : Go F σ₀ s.heap σ₁ h₁ := (g₀.trans g₁).trans g₂
  refine ⟨I, [I], [I], fun i h => IsRangeIter h I (0 + (i : Nat) * 1) ((n : Int) - (i : Nat)) 1, rangeD n, σ₁, rfl, f₃, gg.trans ⟨fun b o _ _ e => kp b o e, fun _ ha => .inl ha, fun b o e => ⟨o, kp b o e⟩⟩,
    (e₀.trans e₁).trans ⟨_, _, rfl⟩, ?_, fun a ha => newAt (s₁ := { s₁ with heap := h₁ }) gg (hI a ha), it0, q⟩
  refine ⟨fun i d s' Q hd hS hQ => ?_, fun s' Q hS hQ => ?_, fun i h h' hS k => ?_, fun b hb => .inl hb, fun i s' Q E hS hq => W.self i s' Q E hS hq⟩
  · obtain ⟨hi, rfl⟩ := rangeD_get hd
    refine W.item i s' _ _ hi hS fun v h' tk hP hS' hk => ⟨v, rfl, ?_⟩
    obtain ⟨t', rfl⟩ := hP
    have xx : ∀ a ∈ [I], ∃ o, h'.get? a = some o := fun a ha => by rw [List.mem_singleton.mp ha]; exact ⟨_, hS'⟩
    refine letGo_plain (n := "range_iterator") (s := { s' with heap := h', toks := tk }) hS' rfl (by decide) ?_
    have e0 : (0 + (i : Int) * 1) = (i : Int) := by omega
    rw [e0]
    exact hQ _ _ hS' hk xx (fun l' _ _ => ⟨_, .int _ _⟩) ⟨_, _, rfl⟩
  · rw [rangeD_length] at hS
    exact W.done s' _ _ hS fun h' tk hk => ⟨rfl, hQ _ hk ⟨_, _, rfl⟩⟩
  · exact k I (by simp) _ hS

noncomputable def enumD (ds : List PyData) : List PyData := ds.zipIdx.map fun q => PyData.tuple [PyData.int (q.2 : Int), q.1]
theorem enumD_length (ds : List PyData) : (enumD ds).length = ds.length := by simp [enumD]
theorem enumD_get {ds : List PyData} {i : Nat} {x : PyData} (h : (enumD ds)[i]? = some x) : ∃ d, ds[i]? = some d ∧ x = .tuple [.int (i : Int), d] := by
  unfold enumD at h
  rw [List.getElem?_map, List.getElem?_zipIdx] at h
  cases e : ds[i]? with
  | none => rw [e] at h; cases h
  | some d => rw [e] at h; simp at h; exact ⟨d, rfl, h.symm⟩

theorem i_enum {elts : List Expr} {k : Nat} {tp : Pos} {e : Expr} {id : Str} {p pos : Pos} {Q : List PyData → St → Prop} (hA : A.handled = none) (g : BV F id (.type "enumerate")) (hk : F.env.kindOf id = some .globalImplicit) (hs : F.env.scope.kind = .function) (hd : (id == ("__debug__" : Str)) = false)
    (h : WV (model prog w) A F (eval e F.env) σ (fun x σ₁ => ∃ ds, x = .d (.list ds) ∧ Q (enumD ds) σ₁))
    (he : starEach [e] F.env = (false, eval e F.env) :: starEach [] F.env := by rfl) : WI prog w A F (.Tuple elts k tp) (.Call (.Name id p) [e] [] pos) σ Q := fun s f => by
  refine wpAny_Call_NameR (wpAny_mono ((n_blt (prog := prog) (w := w) (A := A) (pos := p) (Q := fun x τ => x = .raw (.type "enumerate") ∧ τ = σ) g ⟨rfl, rfl⟩ hk hs hd) s f) (fun v s₀ pq => ?_) fun _ _ z => z)
  obtain ⟨x, σ₀, r₀, f₀, g₀, e₀, rfl, rfl⟩ := pq
  cases (r₀ : v = .type "enumerate")
  refine callWith_type1 (wpAny_mono ((l_cons (pos := pos) (Q := fun xs σ₁ => ∃ ds, xs = [.d (.list ds)] ∧ Q (enumD ds) σ₁) (W.mono h fun x σ₁ ⟨ds, e, q⟩ => l_nil ⟨ds, by rw [e], q⟩) he) s₀ f₀) (fun vs s₁ pq => ?_) fun _ _ z => z) he rfl
  obtain ⟨_, σ₁, r₁, f₁, g₁, e₁, ds, rfl, q⟩ := pq
  obtain ⟨v, rfl, r⟩ := r₁.one
  obtain ⟨l, us, rfl, hl, rl⟩ := isList_of r
  refine call_enumerate_list (IsList.up hl) fun h₂ en0 it0 hz kp => ?_
  refine wpAny_pyIter_enum (s := { s₁ with heap := h₂ }) en0 ?_
  show ∃ I Is fp S its σ₂, _
  have hne : s₁.heap.objs.size + 1 ≠ s₁.heap.objs.size := Nat.succ_ne_self _
  have hI0 : s₁.heap.get? s₁.heap.objs.size = none := no_size _
  have hI1 : s₁.heap.get? (s₁.heap.objs.size + 1) = none := by
    cases e : s₁.heap.get? (s₁.heap.objs.size + 1) with
    | none => rfl
    | some o => exact absurd (Heap.lt_size e) (Nat.not_lt.mpr (Nat.le_succ _))
  generalize s₁.heap.objs.size + 1 = I at en0 hne hI1 ⊢
  generalize s₁.heap.objs.size = J at en0 it0 hne hI0 ⊢
  have hI : ∀ a ∈ [I, J], s₁.heap.get? a = none := fun a ha => by
    rcases List.mem_cons.mp ha with rfl | ha
    · exact hI1
    · rw [List.mem_singleton.mp ha]; exact hI0
  have exJ : ∀ {h : Heap} {i : Nat}, h.IsListIter J l i → ∃ o, h.get? J = some o := fun ⟨o, e, _⟩ => ⟨o, e⟩
  have f₂ : FS (F.hides [I, J]) σ₁ h₂ := f₁.hideNew hI kp fun a ha => by
    rcases List.mem_cons.mp ha with rfl | ha
    · exact ⟨_, en0⟩
    · rw [List.mem_singleton.mp ha]; exact exJ it0
  obtain ⟨hL, hc, hfh⟩ := f₁.off hI
  have up := vis_hide (F := F) (σ := σ₁) hI kp
  have hl₂ : (vis (F.hides [I, J]) σ₁ h₂).IsList l us := let ⟨o, e, r⟩ := hl; ⟨o, up _ _ e, r⟩
  have gg : Go F σ₀ s.heap σ₁ s₁.heap := g₀.trans g₁
  have lI : l ≠ I := fun e => by obtain ⟨o, e1, _⟩ := IsList.up hl; rw [e, hI1] at e1; cases e1
  have lJ : l ≠ J := fun e => by obtain ⟨o, e1, _⟩ := IsList.up hl; rw [e, hI0] at e1; cases e1
  refine ⟨I, [I, J], [I, J, l], fun i h => ∃ old, IsEnum h I J ((i : Nat) : Int) old ∧ h.IsListIter J l i ∧ h.IsList l us, enumD ds, σ₁, rfl, f₂, gg.trans ⟨fun b o _ _ e => kp b o e, fun _ ha => .inl ha, fun b o e => ⟨o, kp b o e⟩⟩,
    (e₀.trans e₁).trans ⟨_, _, rfl⟩, ?_, fun a ha => newAt gg (hI a ha), ⟨_, en0, it0, IsList.up hl₂⟩, q⟩
  refine ⟨fun i x s' Q hd hS hQ => ?_, fun s' Q hS hQ => ?_, fun i h h' hS k => ?_, fun b hb => ?_, fun i s' Q E hS hq => let ⟨_, en, _⟩ := hS; wpAny_pyIter_enum en hq⟩
  · obtain ⟨d, hd2, rfl⟩ := enumD_get hd
    obtain ⟨old, en, it, hl'⟩ := hS
    obtain ⟨v, hv, rv⟩ := (rl.mono up).get hd2
    refine wpAny_pyNext_enum_item en it hl' (x := v) (by simpa using hv) hne fun h₃ eo it₃ ht₃ hz₃ hk₃ => ⟨_, rfl, ?_⟩
    refine wpAny_letOwnedTupleGo_enum (s := { s' with heap := h₃, toks := s'.toks + 1 }) eo fun h₄ en₄ hs₄ => ?_
    have hs₄ : Heap.SameBut I h₃ h₄ := hs₄
    have ht : s'.heap.get? s'.heap.objs.size = none := no_size _
    have tI : s'.heap.objs.size ≠ I := fun e => by rw [e, en] at ht; cases ht
    have ht₄ : h₄.get? s'.heap.objs.size = some { cls := .type "tuple", data := .seq #[.int (i : Int) s'.toks, v] } := (hs₄.2 _ tI).trans ht₃
    have kk : ∀ b o, b ∉ [I, J] → s'.heap.get? b = some o → h₄.get? b = some o := fun b o m e => (hs₄.2 b (fun q => m (by simp [q]))).trans (hk₃ b o (fun q => m (by simp [q])) (fun q => m (by simp [q])) e)
    have it₄ : h₄.IsListIter J l (i + 1) := let ⟨o, e, r⟩ := it₃; ⟨o, (hs₄.2 _ (Ne.symm hne)).trans e, r⟩
    have hl₄ : h₄.IsList l us := hl'.at fun o e => kk l o (by simp [lI, lJ]) e
    have xx : ∀ a ∈ [I, J], ∃ o, h₄.get? a = some o := fun a ha => by
      rcases List.mem_cons.mp ha with rfl | ha
      · exact ⟨_, en₄⟩
      · rw [List.mem_singleton.mp ha]; exact exJ it₄
    have en₅ : IsEnum h₄ I J (((i + 1 : Nat)) : Int) v := by rw [Int.natCast_add]; exact en₄
    refine hQ (.ref s'.heap.objs.size) { s' with heap := h₄, toks := s'.toks + 1 } ⟨_, en₅, it₄, hl₄⟩ kk xx (fun l' hl' hx' => ?_) ⟨_, _, rfl⟩
    have hnt : s'.heap.objs.size ∉ l' := fun m => by obtain ⟨o, e⟩ := hx' _ m; rw [ht] at e; cases e
    obtain ⟨as, rp⟩ := RepL.cons ⟨[], .int (i : Int) s'.toks⟩ (RepL.cons (rv.mono hl') RepL.nil)
    exact ⟨_, reads_tuple_at (hideAll_get _ ht₄ hnt) rfl rfl (by simpa using rp)⟩
  · rw [enumD_length] at hS
    obtain ⟨old, en, it, hl'⟩ := hS
    have hz : us.size = ds.length := by have := rl.length; simpa using this
    refine wpAny_pyNext_enum_end hA en it hl' (by simp [← hz]) fun h₃ he => ⟨rfl, ?_⟩
    have kk : ∀ b o, b ∉ [I, J] → s'.heap.get? b = some o → h₃.get? b = some o := fun b o m e => he b o (fun q => m (by simp [q])) e
    exact hQ { s' with heap := h₃ } kk ⟨_, _, rfl⟩
  · obtain ⟨old, en, it, hl'⟩ := hS
    exact ⟨old, k I (by simp) _ en, it.at fun o e => k J (by simp) o e, hl'.at fun o e => k l (by simp) o e⟩
  · rcases List.mem_cons.mp hb with rfl | hb
    · exact .inl (by simp)
    · rcases List.mem_cons.mp hb with rfl | hb
      · exact .inl (by simp)
      · rw [List.mem_singleton.mp hb]; obtain ⟨o, e, _⟩ := hl₂; exact .inr ⟨o, e⟩
end
end Mine
namespace Mine

noncomputable def testsOf (ifs : List Expr) (env : Env) : Sem Bool := forIn ifs true fun c r => if r = true then do let ok ← isTrue c env (eval c env); pure (ForInStep.yield ok) else pure (ForInStep.yield r)

noncomputable abbrev Frm.comp (F : Frm) (scope : Scope) (cl : List (Str × Addr)) (C D : Addr) (Is : List Addr) : Frm :=
  { env := compEnvC scope cl C F.env, hid := [C], far := D :: (Is ++ F.far ++ F.hid), B := F.B }

section
variable {prog : Program} {w : World} {A : Around} {F : Frm} {σ : St}

theorem ts_nil {Q : Bool → St → Prop} (h : Q true σ) : WB (model prog w) A F (testsOf [] F.env) σ Q := fun s f => wpAny_pure (.here' f rfl h)
theorem ts_one {c : Expr} {Q : Bool → St → Prop} (h : WB (model prog w) A F (isTrue c F.env (eval c F.env)) σ Q) : WB (model prog w) A F (testsOf [c] F.env) σ Q := fun s f => wpAny_tests_one (h s f)

theorem compLoop_gen {elt target iter : Expr} {ifs : List Expr} {scope : Scope} {pos : Pos} {it acc : Value} {env : Env} {R : Result → Shared → Prop} {s : Shared} (I : Nat → Shared → Prop)
    (turn : ∀ n s, I n s → wpAny (model prog w) A (pyNext it) (fun r s₁ => match r with
      | none => R (.ok .next) s₁
      | some v => wpAny (model prog w) A (letOwnedTupleGo target it v) (fun _ s₁' => wpAny (model prog w) A (assign target env v) (fun _ s₂ =>
          wpAny (model prog w) A (testsOf ifs env) (fun ok s₃ =>
            if ok = true then wpAny (model prog w) A (eval elt env) (fun x s₄ =>
              wpAny (model prog w) A (call (.builtin "list.append") [acc, x]) (fun _ s₅ => ∃ m, m < n ∧ I m s₅) EOk s₄) EOk s₃
            else ∃ m, m < n ∧ I m s₃) EOk s₂) EOk s₁') EOk s₁) EOk s)
    (n : Nat) (h : I n s) : codeAny (model prog w) A (.compLoop (.ListComp elt [⟨target, iter, ifs, 0⟩] scope pos) 0 it acc env) R s := by
  refine codeAny_loop rfl I (fun n s hI => ?_) n h
  show wpAny _ _ ((compTurn (.ListComp elt [⟨target, iter, ifs, 0⟩] scope pos) 0 it acc env).onRaise (fun x => do noteFrame x env; theTreesLotGoes x)) _ _ s
  refine wpAny_noted ?_
  rw [compTurn_list]
  refine wpAny_bind (wpAny_standAt (wpAny_bind (wpAny_mono (turn n s hI) (fun r s₁ h₁ => ?_) fun _ _ z => z.elim)))
  cases r with
  | none => exact wpAny_pure h₁
  | some v =>
    refine wpAny_bind (wpAny_mono h₁ (fun _ s₁' h₁' => ?_) fun _ _ z => z.elim)
    refine wpAny_bind (wpAny_mono h₁' (fun _ s₂ h₂ => wpAny_bind (wpAny_mono h₂ (fun ok s₃ h₃ => ?_) fun _ _ z => z.elim)) fun _ _ z => z.elim)
    cases ok with
    | false => exact wpAny_pure ⟨rfl, h₃⟩
    | true => exact wpAny_bind (wpAny_bind (wpAny_mono h₃ (fun x s₄ h₄ => wpAny_bind (wpAny_mono h₄ (fun _ s₅ h₅ => wpAny_pure (wpAny_pure ⟨rfl, h₅⟩)) fun _ _ z => z.elim)) fun _ _ z => z.elim))

/-- what a comprehension's text must show -/
structure CompOk (F : Frm) (scope : Scope) (cl : List (Str × Addr)) : Prop where
  clos : closureFor scope F.env = pure cl
  cell : ∀ y ∈ scope.names, y.2 ≠ .cell
  kind : scope.kind = .function
  names : ∀ x ∈ scope.names, x.2 = .local → scope.names.lookup x.1 = some .local
  clE : ∀ q ∈ cl, F.env.cells.lookup q.1 = some q.2
  clN : (cl.map (·.1)).Nodup
structure LinOk (F : Frm) (scope : Scope) (cl : List (Str × Addr)) (lin : List (Str × X)) (σ₂ : St) : Prop where
  loc : ∀ p ∈ lin, (relabel scope F.env).names.lookup p.1 = some .local → isUn p.2
  cell : ∀ p ∈ lin, (relabel scope F.env).names.lookup p.1 = some .cell → F.env.kindOf p.1 = some .cell ∧ p ∈ σ₂.loc ∧ cl.lookup p.1 = F.env.cells.lookup p.1
  nd : (lin.map (·.1)).Nodup
/-- what is behind the loop: the outer frame, D its new list -/
noncomputable def CompEnd (F : Frm) (σ : St) (s : Shared) (Q : Addr → List PyData → St → Prop) (acc : Value) (C : Addr) (s' : Shared) : Prop :=
  ∃ D es σ', acc = .ref D ∧ FS (F.hides [C]) ⟨σ'.loc, (D, es) :: σ'.own⟩ s'.heap ∧ Go F σ s.heap ⟨σ'.loc, (D, es) :: σ'.own⟩ s'.heap ∧ Same s s' ∧ s.heap.get? C = none ∧ (∃ m, s'.heap.Ns C m) ∧
    F.env.locals ≠ C ∧ (∀ q ∈ F.env.cells, q.2 ≠ C) ∧ (∀ a ∈ F.far ++ F.hid, a ≠ C) ∧ Q D es σ'

noncomputable def CompTurn (prog : Program) (w : World) (A : Around) (F : Frm) (target elt : Expr) (ifs : List Expr) (scope : Scope) (cl : List (Str × Addr)) (lin : List (Str × X)) (its : List PyData) (Inv : Nat → List PyData → List (Addr × List PyData) → Prop) : Prop :=
  ∀ C D Is i d es own, its[i]? = some d → Inv i es own → A1 (model prog w) A (F.comp scope cl C D Is) (assign target (F.comp scope cl C D Is).env) (.d d) ⟨lin, own⟩ (fun _ σ' =>
    WB (model prog w) A (F.comp scope cl C D Is) (testsOf ifs (F.comp scope cl C D Is).env) σ' (fun b σ'' => if b = true then WV (model prog w) A (F.comp scope cl C D Is) (eval elt (F.comp scope cl C D Is).env) σ'' (fun x τ => ∃ e own', x = .d e ∧ Weak τ ⟨lin, own'⟩ ∧ Inv (i + 1) (es ++ [e]) own')
      else ∃ own', Weak σ'' ⟨lin, own'⟩ ∧ Inv (i + 1) es own'))

theorem comp_core {elt target iter : Expr} {ifs : List Expr} {scope : Scope} {cl : List (Str × Addr)} {pos : Pos} {s : Shared} {Q : Addr → List PyData → St → Prop} {RR : Value → Addr → Result → Shared → Prop} (ok : CompOk F scope cl) (f : FS F σ s.heap)
    (h : WI prog w A F target iter σ (fun its σ₂ => ∃ lin Inv, LinOk F scope cl lin σ₂ ∧ its.length ≤ 1000000 ∧ Inv 0 [] σ₂.own ∧ CompTurn prog w A F target elt ifs scope cl lin its Inv ∧
      (∀ D es own, Inv its.length es own → Q D es ⟨σ₂.loc, own⟩)))
    (hR : ∀ acc C s', CompEnd F σ s Q acc C s' → RR acc C (.ok .next) s') :
    wpAny (model prog w) A (eval iter F.env) (fun x s₁ => wpAny (model prog w) A (pyIter x) (fun it s₂ => wpAny (model prog w) A (newList []) (fun acc s₃ =>
      wpAny (model prog w) A (newFunctionEnv scope F.env.globals cl [] F.env.qual none .none (some F.env)) (fun cenv s₄ =>
        codeAny (model prog w) A (.compStart (.ListComp elt [⟨target, iter, ifs, 0⟩] scope pos) 0 it acc { cenv with scope := relabel scope F.env }) (RR acc cenv.locals) s₄) EOk s₃) EOk s₂) EOk s₁) EOk s := by
  refine wpAny_mono (h s f) (fun x s₁ h₁ => wpAny_mono h₁ (fun it s₂ p => ?_) fun _ _ z => z) fun _ _ z => z
  obtain ⟨I, Is, fp, S, its, σ₂, rfl, f₂, g₂, e₂, T, hI, hS, lin, Inv, lo, hlen, h0, turn, done⟩ := p
  refine wpAny_newObj_type (wpAny_newFunctionEnv ok.cell (by intro y hy; simp at hy) (fun h₁ hns₁ hsb₁ => ?_) ok.kind)
  dsimp only at hns₁ hsb₁ ⊢
  generalize hH2 : s₂.heap.push { cls := .type "list", dict := none, data := .seq ([] : List Value).toArray } = H2 at hns₁ hsb₁ ⊢
  have eC : H2.objs.size = s₂.heap.objs.size + 1 := by rw [← hH2, Heap.size_push]
  have hDC : s₂.heap.objs.size ≠ H2.objs.size := by rw [eC]; exact Nat.ne_of_lt (Nat.lt_succ_self _)
  have below : ∀ b, b < s₂.heap.objs.size → b ≠ H2.objs.size ∧ b ≠ s₂.heap.objs.size := fun b hb => ⟨by rw [eC]; exact Nat.ne_of_lt (Nat.lt_succ_of_lt hb), Nat.ne_of_lt hb⟩
  have old : ∀ b o, s₂.heap.get? b = some o → h₁.get? b = some o := fun b o e => hsb₁.extBut b o (below b (Heap.lt_size e)).1 (Heap.get?_push_of_some _ (hH2 ▸ Heap.get?_push_of_some _ e))
  have hacc : h₁.PlainList s₂.heap.objs.size #[] := ⟨_, hsb₁.extBut _ _ hDC (Heap.get?_push_of_some _ (hH2 ▸ Heap.get?_push_size _ rfl))⟩
  have nD : s₂.heap.get? s₂.heap.objs.size = none := no_size _
  have nC : s₂.heap.get? H2.objs.size = none := by
    cases e : s₂.heap.get? H2.objs.size with
    | none => rfl
    | some o' => exact absurd (Heap.lt_size e) (by rw [eC]; exact Nat.not_lt.mpr (Nat.le_succ _))
  generalize H2.objs.size = C at *
  generalize s₂.heap.objs.size = D at *
  clear below hH2 hsb₁ eC
  -- the inner frame at the start
  have xA : ∀ a ∈ (F.hides Is).all σ₂, a ≠ C ∧ a ≠ D := fun a ha => by
    obtain ⟨o, e⟩ := f₂.ex a ha
    exact ⟨fun q => (by rw [q, nC] at e; cases e), fun q => (by rw [q, nD] at e; cases e)⟩
  have xIs : ∀ a ∈ Is, a ≠ C ∧ a ≠ D := fun a ha => xA a (List.mem_append_left _ (List.mem_append_left _ (List.mem_append_left _ ha)))
  obtain ⟨hL, hc, hfh⟩ := f.off hI
  have up0 : ∀ {lin : List (Str × X)} b o, (vis (F.hides Is) σ₂ s₂.heap).get? b = some o → (vis (F.comp scope cl C D Is) ⟨lin, σ₂.own⟩ h₁).get? b = some o := fun {lin} b o e => by
    obtain ⟨e1, hn⟩ := vis_of e
    refine vis_mk (old _ _ e1) fun m => ?_
    rcases List.mem_append.mp m with m | m
    · rcases List.mem_append.mp m with m | m
      · rcases List.mem_cons.mp m with rfl | m
        · rw [nD] at e1; cases e1
        · rcases List.mem_append.mp m with m | m
          · exact hn (List.mem_append_left _ (List.mem_append_left _ m))
          · exact hn (List.mem_append_left _ (List.mem_append_right _ m))
      · rw [List.mem_singleton.mp m, nC] at e1; cases e1
    · exact hn (List.mem_append_right _ m)
  have fi0 : FS (F.comp scope cl C D Is) ⟨lin, σ₂.own⟩ h₁ := by
    refine ⟨⟨_, hns₁, fun p hp hk hu => absurd (lo.loc p hp hk) hu⟩, fun p hp hk => ?_, ?_, fun p hp => ?_, f₂.nd, fun a ha m => ?_, lo.nd, fun b o e => up0 b o (f₂.base b o e), fun a ha => ?_, fun q hq => ?_⟩
    · obtain ⟨k1, k2, k3⟩ := lo.cell p hp hk
      obtain ⟨c, v₀, h1, h2, h3⟩ := f₂.cell p k2 k1
      refine ⟨c, v₀, k3.trans h1, h2.keeps old, fun hu => (h3 hu).imp fun v q => ⟨q.1, ?_⟩⟩
      have r := q.2
      cases hx : p.2 with
      | d d => rw [hx] at r; exact Rep.mono r up0
      | own a => rw [hx] at r; exact r
      | raw w => rw [hx] at r; exact r
      | un => trivial
    · have gen : ∀ l : List (Str × Addr), (∀ q ∈ l, F.env.cells.lookup q.1 = some q.2) → (l.map (·.1)).Nodup → l.Pairwise fun x y => x.2 ≠ y.2 := by
        intro l
        induction l with
        | nil => intro _ _; exact .nil
        | cons q l ih =>
          intro hl nd
          have nd' := List.nodup_cons.mp nd
          refine List.pairwise_cons.mpr ⟨fun y hy e => nd'.1 ?_, ih (fun y hy => hl y (.tail _ hy)) nd'.2⟩
          have := name_of_addr f₂.capart (mem_of_lookup (hl q (.head _))) (e ▸ mem_of_lookup (hl y (.tail _ hy)))
          show q.1 ∈ _
          rw [this]; exact List.mem_map_of_mem (f := (·.1)) hy
      exact gen cl ok.clE ok.clN
    · obtain ⟨vs, ⟨n1, h1⟩, h2⟩ := f₂.own p hp
      exact ⟨vs, ⟨n1, old _ _ h1⟩, h2.mono up0⟩
    · have ha' : a ∈ σ₂.keys := ha
      obtain ⟨a1, a2⟩ := xA a (List.mem_append_right _ ha')
      rcases List.mem_append.mp m with m | m
      · rcases List.mem_cons.mp m with m | m
        · exact a2 m
        · exact f₂.kd a ha' (by
            rcases List.mem_append.mp m with m | m
            · exact List.mem_append_left _ m
            · exact List.mem_append_right _ m)
      · exact a1 (List.mem_singleton.mp m)
    · rcases List.mem_append.mp ha with m | m
      · rcases List.mem_append.mp m with m | m
        · rcases List.mem_cons.mp m with rfl | m
          · obtain ⟨n1, e⟩ := hacc; exact ⟨_, e⟩
          · refine (f₂.ex a ?_).imp fun _ e => old _ _ e
            rcases List.mem_append.mp m with m | m
            · exact List.mem_append_left _ (List.mem_append_left _ m)
            · exact List.mem_append_left _ (List.mem_append_right _ m)
        · rw [List.mem_singleton.mp m]; obtain ⟨o, _, _, e, _⟩ := hns₁; exact ⟨o, e⟩
      · exact (f₂.ex a (List.mem_append_right _ m)).imp fun _ e => old _ _ e
    · exact (f₂.cx _ (mem_of_lookup (ok.clE q hq))).imp fun _ e => old _ _ e
  -- what comes through
  let FJ : Frm := { F with hid := C :: D :: Is }
  have keysEq : ∀ {l : List (Str × X)} {ow : List (Addr × List PyData)}, (⟨l, ow⟩ : St).keys = ow.map (·.1) := rfl
  have inJ : ∀ {τ τ' : St} {h h' : Heap}, Go (F.comp scope cl C D Is) τ h τ' h' → Go FJ τ h τ' h' := fun g => ⟨fun b o h1 h2 e => g.keep b o (fun m => h1 (by rw [List.mem_singleton.mp m]; exact .head _)) h2 e, fun a ha => (g.keys a ha).imp id fun z => z.imp id fun m => by rw [List.mem_singleton.mp m]; exact .head _, g.alive⟩
  have reloc : ∀ {τ : St} {h h' : Heap} {l l' : List (Str × X)} {ow : List (Addr × List PyData)}, Go FJ τ h ⟨l, ow⟩ h' → Go FJ τ h ⟨l', ow⟩ h' := fun g => ⟨g.keep, g.keys, g.alive⟩
  have seen : ∀ {ow : List (Addr × List PyData)} {h' : Heap}, FS (F.comp scope cl C D Is) ⟨lin, ow⟩ h' → Go FJ σ₂ s₂.heap ⟨lin, ow⟩ h' → ∀ b o, (vis (F.hides Is) σ₂ s₂.heap).get? b = some o → (vis (F.comp scope cl C D Is) ⟨lin, ow⟩ h').get? b = some o := fun {ow h'} fi g b o e => by
    obtain ⟨e1, hn⟩ := vis_of e
    have n1 : b ∉ Is ++ F.far := fun m => hn (List.mem_append_left _ (List.mem_append_left _ m))
    have n2 : b ∉ F.hid := fun m => hn (List.mem_append_left _ (List.mem_append_right _ m))
    have n3 : b ∉ σ₂.keys := fun m => hn (List.mem_append_right _ m)
    have n4 : b ∉ FJ.hid := fun m => by
      rcases List.mem_cons.mp m with rfl | m
      · rw [nC] at e1; cases e1
      · rcases List.mem_cons.mp m with rfl | m
        · rw [nD] at e1; cases e1
        · exact n1 (List.mem_append_left _ m)
    refine vis_mk (g.keep b o n4 n3 e1) fun m => ?_
    rcases List.mem_append.mp m with m | m
    · rcases List.mem_append.mp m with m | m
      · rcases List.mem_cons.mp m with rfl | m
        · rw [nD] at e1; cases e1
        · rcases List.mem_append.mp m with m | m
          · exact n1 m
          · exact n2 m
      · rw [List.mem_singleton.mp m, nC] at e1; cases e1
    · exact (g.keys b m).elim n3 fun z => z.elim (fun z => by rw [z] at e1; cases e1) n4
  have clC : ∀ {l : List Addr}, (∀ a ∈ l, a ∈ Is ∨ a = D) → ∀ q ∈ cl, q.2 ∉ l := fun {l} hl q hq m => by
    have mq := mem_of_lookup (ok.clE q hq)
    rcases hl _ m with z | z
    · exact hc _ mq z
    · obtain ⟨o, e⟩ := f₂.cx _ mq
      rw [show (q.1, q.2).2 = D from z, nD] at e; cases e
  have CnotIs : C ∉ Is := fun m => (xIs C m).1 rfl
  have DnotIs : D ∉ Is := fun m => (xIs D m).2 rfl
  -- the loop
  have loop : ∀ s₃ : Shared, s₃ = { s₂ with heap := h₁, toks := s₂.toks + ([] : List (Str × Value)).length } →
      codeAny (model prog w) A (.compLoop (.ListComp elt [⟨target, iter, ifs, 0⟩] scope pos) 0 (.ref I) (.ref D) (compEnvC scope cl C F.env)) (RR (.ref D) C) s₃ := by
    rintro s₃ rfl
    refine compLoop_gen (fun k s' => ∃ i own es ys, FS (F.comp scope cl C D Is) ⟨lin, own⟩ s'.heap ∧ Go FJ σ₂ s₂.heap ⟨lin, own⟩ s'.heap ∧ s'.heap.PlainList D ys ∧ RepL (vis (F.comp scope cl C D Is) ⟨lin, own⟩ s'.heap) ys.toList es ∧
      S i s'.heap ∧ Inv i es own ∧ i ≤ its.length ∧ es.length ≤ i ∧ k = its.length - i ∧ Same s₂ s') ?_ its.length
      ⟨0, σ₂.own, [], #[], fi0, ⟨fun b o _ _ e => old b o e, fun a ha => .inl ha, fun b o e => ⟨o, old b o e⟩⟩, hacc, RepL.nil, T.keep 0 _ _ hS (fun b _ o e => old b o e), h0, Nat.zero_le _, Nat.le_refl _, rfl, ⟨_, _, rfl⟩⟩
    rintro k s' ⟨i, own, es, ys, fi, g, pl, rl, hS', hInv, hi, hel, rfl, ee⟩
    by_cases hlt : i < its.length
    · obtain ⟨d, hd⟩ : ∃ d, its[i]? = some d := ⟨_, List.getElem?_eq_getElem hlt⟩
      have isFar : ∀ a ∈ Is, a ∈ (F.comp scope cl C D Is).far := fun a ha => .tail _ (List.mem_append_left _ (List.mem_append_left _ ha))
      have nx := T.next i d s' (fun v s₃ => S (i + 1) s₃.heap ∧ FS (F.comp scope cl C D Is) ⟨lin, own⟩ s₃.heap ∧ Go FJ σ₂ s₂.heap ⟨lin, own⟩ s₃.heap ∧ s₃.heap.PlainList D ys ∧ RepL (vis (F.comp scope cl C D Is) ⟨lin, own⟩ s₃.heap) ys.toList es ∧
          XR (F.comp scope cl C D Is) ⟨lin, own⟩ s₃.heap v (.d d) ∧ Same s' s₃) hd hS'
        fun v s₃ a kk xx rp e => by
          have f₃ := fi.farAny isFar CnotIs (clC fun a ha => .inl ha) kk xx
          have g₃ : Go FJ ⟨lin, own⟩ s'.heap ⟨lin, own⟩ s₃.heap := ⟨fun b o h1 _ e => kk b o (fun m => h1 (.tail _ (.tail _ m))) e, fun _ ha => .inl ha, fun b o e => by
            by_cases m : b ∈ Is
            · exact xx b m
            · exact ⟨o, kk b o m e⟩⟩
          have up3 : ∀ b o, (vis (F.comp scope cl C D Is) ⟨lin, own⟩ s'.heap).get? b = some o → (vis (F.comp scope cl C D Is) ⟨lin, own⟩ s₃.heap).get? b = some o := fun b o e => by
            obtain ⟨e1, hn⟩ := vis_of e
            exact vis_mk (kk b o (fun m => hn (List.mem_append_left _ (List.mem_append_left _ (isFar b m)))) e1) hn
          exact ⟨a, f₃, g.trans g₃, pl.at fun o e => kk D o DnotIs e, rl.mono up3, rp _ (seen f₃ (g.trans g₃)) fi.ex, e⟩
      refine wpAny_mono nx (fun r s₃ q => ?_) fun _ _ z => z
      obtain ⟨v, rfl, q⟩ := q
      refine wpAny_mono q (fun _ s₃ q => ?_) fun _ _ z => z
      obtain ⟨hS₃, f₃, g₃, pl₃, rl₃, r₃, e₃⟩ := q
      refine wpAny_mono (turn C D Is i d es own hd hInv v s₃ f₃ r₃) (fun _ s₄ p => ?_) fun _ _ z => z
      obtain ⟨_, σ₄, _, f₄, g₄, e₄, q⟩ := p
      refine wpAny_mono (q s₄ f₄) (fun b s₅ p => ?_) fun _ _ z => z
      obtain ⟨_, σ₅, rfl, f₅, g₅, e₅, q⟩ := p
      have hDk : ∀ {τ : St} {h : Heap}, FS (F.comp scope cl C D Is) τ h → D ∉ τ.keys := fun ft m => ft.kd D m (List.mem_append_left _ (.head _))
      have hDC' : D ∉ [C] := fun m => hDC (List.mem_singleton.mp m)
      have fpk : ∀ {τ τ' : St} {h h' : Heap}, FS (F.comp scope cl C D Is) ⟨lin, own⟩ s₃.heap → FS (F.comp scope cl C D Is) τ h → Go (F.comp scope cl C D Is) ⟨lin, own⟩ s₃.heap τ h → h = h' ∨ Heap.SameBut D h h' → S (i + 1) s₃.heap → S (i + 1) h' := fun {τ τ' h h'} fa fb ga hh sa => by
        refine T.keep _ _ _ sa fun b hb o eb => ?_
        have nb : b ∉ [C] ∧ b ∉ (⟨lin, own⟩ : St).keys ∧ b ≠ D := by
          rcases T.fps b hb with m | ⟨o', ev⟩
          · exact ⟨fun z => CnotIs (List.mem_singleton.mp z ▸ m), fun z => fa.kd b z (List.mem_append_left _ (isFar b m)), fun z => DnotIs (z ▸ m)⟩
          · have nv := (vis_of (seen f₃ g₃ b o' ev)).2
            exact ⟨fun z => nv (List.mem_append_left _ (List.mem_append_right _ z)), fun z => nv (List.mem_append_right _ z), fun z => nv (List.mem_append_left _ (List.mem_append_left _ (by rw [z]; exact .head _)))⟩
        have e1 := ga.keep b o nb.1 nb.2.1 eb
        rcases hh with rfl | hh
        · exact e1
        · exact (hh.2 b nb.2.2).trans e1
      cases hb : b with
      | false =>
        rw [hb] at q
        simp only [Bool.false_eq_true, if_false] at q ⊢
        obtain ⟨own', wk, hInv'⟩ := q
        obtain ⟨f₆, g₆⟩ := f₅.weak wk
        have ga := g₄.trans (g₅.trans g₆)
        exact ⟨its.length - (i + 1), by omega, i + 1, own', es, ys, f₆, (g₃.trans (inJ ga)), pl₃.at fun o e => ga.keep D o hDC' (hDk f₃) e, rl₃.mono ga.vis, fpk (τ' := σ₅) f₃ f₆ ga (.inl rfl) hS₃, hInv', hlt, by omega, rfl, ee.trans (e₃.trans (e₄.trans e₅))⟩
      | true =>
        rw [hb] at q
        simp only [if_true] at q ⊢
        refine wpAny_mono (q s₅ f₅) (fun x s₆ p => ?_) fun _ _ z => z
        obtain ⟨_, σ₆, r₆, f₆, g₆, e₆, e, own', rfl, wk, hInv'⟩ := p
        obtain ⟨f₇, g₇⟩ := f₆.weak wk
        have ga := (g₄.trans (g₅.trans g₆)).trans g₇
        have pl₇ : s₆.heap.PlainList D ys := pl₃.at fun o e => ga.keep D o hDC' (hDk f₃) e
        have rl₇ := (rl₃.mono ga.vis).append (.cons (r₆.go g₇) .nil)
        have hysz : ys.size ≤ sizeLine := by
          have h1 := rl₃.length
          have h2 := sizeLine_eq
          simp at h1
          omega
        refine wpAny_list_append_plain (hsz := hysz) pl₇ fun h₈ pl₈ hs₈ => ?_
        have kk : ∀ b o, b ∉ [D] → s₆.heap.get? b = some o → h₈.get? b = some o := fun b o m e => (hs₈.2 b (fun q => m (by simp [q]))).trans e
        have xx : ∀ a ∈ [D], ∃ o, h₈.get? a = some o := fun a ha => by rw [List.mem_singleton.mp ha]; obtain ⟨n1, e⟩ := pl₈; exact ⟨_, e⟩
        have f₈ := f₇.farAny (Is := [D]) (fun a ha => by rw [List.mem_singleton.mp ha]; exact .head _) (fun m => hDC (List.mem_singleton.mp m).symm) (clC fun a ha => .inr (List.mem_singleton.mp ha)) kk xx
        have up8 : ∀ b o, (vis (F.comp scope cl C D Is) ⟨lin, own'⟩ s₆.heap).get? b = some o → (vis (F.comp scope cl C D Is) ⟨lin, own'⟩ h₈).get? b = some o := fun b o e => by
          obtain ⟨e1, hn⟩ := vis_of e
          exact vis_mk (kk b o (fun m => hn (List.mem_append_left _ (List.mem_append_left _ (by rw [List.mem_singleton.mp m]; exact .head _)))) e1) hn
        have g₈ : Go FJ ⟨lin, own'⟩ s₆.heap ⟨lin, own'⟩ h₈ := ⟨fun b o h1 _ e => kk b o (fun m => h1 (by rw [List.mem_singleton.mp m]; exact .tail _ (.head _))) e, fun _ ha => .inl ha, fun b o e => by
          by_cases m : b ∈ [D]
          · exact xx b m
          · exact ⟨o, kk b o m e⟩⟩
        refine ⟨its.length - (i + 1), by omega, i + 1, own', es ++ [e], ys.push x, f₈, (g₃.trans (inJ ga)).trans g₈, pl₈, ?_, fpk (τ' := σ₆) f₃ f₇ ga (.inr hs₈) hS₃, hInv', hlt, by simp; omega, rfl, (ee.trans (e₃.trans (e₄.trans (e₅.trans e₆)))).trans ⟨_, _, rfl⟩⟩
        simpa using rl₇.mono up8
    · have hn : i = its.length := by omega
      subst hn
      -- the outer frame again
      have nDk : D ∉ (⟨lin, own⟩ : St).keys := fun m => fi.kd D m (List.mem_append_left _ (.head _))
      have subAll : ∀ b o, (vis (F.comp scope cl C D Is) ⟨lin, own⟩ s'.heap).get? b = some o → (vis ((F.hides [C]).hides Is) ⟨σ₂.loc, (D, es) :: own⟩ s'.heap).get? b = some o := hide_sub fun x hx => by
        rcases List.mem_append.mp hx with hx | hx
        · rcases List.mem_append.mp hx with hx | hx
          · rcases List.mem_append.mp hx with hx | hx
            · exact List.mem_append_left _ (List.mem_append_left _ (.tail _ (List.mem_append_left _ (List.mem_append_left _ hx))))
            · rcases List.mem_cons.mp hx with rfl | hx
              · exact List.mem_append_left _ (List.mem_append_right _ (.head _))
              · exact List.mem_append_left _ (List.mem_append_left _ (.tail _ (List.mem_append_left _ (List.mem_append_right _ hx))))
          · exact List.mem_append_left _ (List.mem_append_left _ (.tail _ (List.mem_append_right _ hx)))
        · rcases List.mem_cons.mp hx with rfl | hx
          · exact List.mem_append_left _ (List.mem_append_left _ (.head _))
          · exact List.mem_append_right _ hx
      have up2 : ∀ b o, (vis (F.hides Is) σ₂ s₂.heap).get? b = some o → (vis ((F.hides [C]).hides Is) ⟨σ₂.loc, (D, es) :: own⟩ s'.heap).get? b = some o := fun b o e => subAll b o (seen fi g b o e)
      have xr : ∀ {v : Value} {x : X}, XR (F.hides Is) σ₂ s₂.heap v x → XR ((F.hides [C]).hides Is) ⟨σ₂.loc, (D, es) :: own⟩ s'.heap v x := fun {v x} r => by
        cases x with
        | d d => exact Rep.mono r up2
        | own a => exact r
        | raw w => exact r
        | un => trivial
      have kept : ∀ {b : Addr} {o : Obj}, s₂.heap.get? b = some o → b ∉ Is → b ∉ σ₂.keys → s'.heap.get? b = some o := fun {b o} e n1 n2 => g.keep b o (fun m => by
        rcases List.mem_cons.mp m with rfl | m
        · rw [nC] at e; cases e
        · rcases List.mem_cons.mp m with rfl | m
          · rw [nD] at e; cases e
          · exact n1 m) n2 e
      have notKey : ∀ {b : Addr} {o : Obj}, s₂.heap.get? b = some o → (∀ w k, o.data ≠ .seq w k) → b ∉ σ₂.keys := fun {b o} e hd m => by
        obtain ⟨q, hq, rfl⟩ := List.mem_map.mp m
        obtain ⟨vs, ⟨n1, e1⟩, _⟩ := f₂.own q hq
        rw [e] at e1; cases e1; exact hd _ _ rfl
      have xD : ∀ a ∈ F.far ++ F.hid, a ≠ C ∧ a ≠ D := fun a ha => xA a (by
        rcases List.mem_append.mp ha with m | m
        · exact List.mem_append_left _ (List.mem_append_left _ (List.mem_append_right _ m))
        · exact List.mem_append_left _ (List.mem_append_right _ m))
      have hout : FS ((F.hides [C]).hides Is) ⟨σ₂.loc, (D, es) :: own⟩ s'.heap := by
        refine ⟨?_, fun p hp hk => ?_, f₂.capart, fun p hp => ?_, List.nodup_cons.mpr ⟨nDk, fi.nd⟩, fun a ha m => ?_, f₂.ln, fun b o e => up2 b o (f₂.base b o e), fun a ha => ?_, fun q hq => ?_⟩
        · obtain ⟨m, ⟨o, es', ep, e, dd, r⟩, h2⟩ := f₂.ns
          exact ⟨m, ⟨o, es', ep, kept e hL (notKey e fun _ _ z => by rw [dd] at z; cases z), dd, r⟩, fun p hp hk hu => (h2 p hp hk hu).imp fun _ q => ⟨q.1, xr q.2⟩⟩
        · obtain ⟨c, v₀, h1, ⟨o, e, dd⟩, h3⟩ := f₂.cell p hp hk
          exact ⟨c, v₀, h1, ⟨o, kept e (hc _ (mem_of_lookup h1)) (notKey e fun _ _ z => by rw [dd] at z; cases z), dd⟩, fun hu => (h3 hu).imp fun _ q => ⟨q.1, xr q.2⟩⟩
        · rcases List.mem_cons.mp hp with rfl | hp
          · exact ⟨ys, pl, rl.mono subAll⟩
          · obtain ⟨vs, h1, h2⟩ := fi.own p hp
            exact ⟨vs, h1, h2.mono subAll⟩
        · rcases List.mem_cons.mp ha with rfl | ha
          · rcases List.mem_append.mp m with m | m
            · rcases List.mem_append.mp m with m | m
              · exact DnotIs m
              · rcases List.mem_cons.mp m with m | m
                · exact hDC m
                · exact (xD _ (List.mem_append_left _ m)).2 rfl
            · exact (xD _ (List.mem_append_right _ m)).2 rfl
          · refine fi.kd a ha ?_
            rcases List.mem_append.mp m with m | m
            · rcases List.mem_append.mp m with m | m
              · exact List.mem_append_left _ (.tail _ (List.mem_append_left _ (List.mem_append_left _ m)))
              · rcases List.mem_cons.mp m with rfl | m
                · exact List.mem_append_right _ (.head _)
                · exact List.mem_append_left _ (.tail _ (List.mem_append_left _ (List.mem_append_right _ m)))
            · exact List.mem_append_left _ (.tail _ (List.mem_append_right _ m))
        · refine fi.ex a ?_
          rcases List.mem_append.mp ha with m | m
          · rcases List.mem_append.mp m with m | m
            · rcases List.mem_append.mp m with m | m
              · exact List.mem_append_left _ (List.mem_append_left _ (.tail _ (List.mem_append_left _ (List.mem_append_left _ m))))
              · rcases List.mem_cons.mp m with rfl | m
                · exact List.mem_append_left _ (List.mem_append_right _ (.head _))
                · exact List.mem_append_left _ (List.mem_append_left _ (.tail _ (List.mem_append_left _ (List.mem_append_right _ m))))
            · exact List.mem_append_left _ (List.mem_append_left _ (.tail _ (List.mem_append_right _ m)))
          · rcases List.mem_cons.mp m with rfl | m
            · exact List.mem_append_left _ (List.mem_append_left _ (.head _))
            · exact List.mem_append_right _ m
        · obtain ⟨o, e⟩ := f₂.cx q hq
          exact g.alive _ o e
      have nx := T.done s' (fun s₃ => (∀ b o, b ∉ Is → s'.heap.get? b = some o → s₃.heap.get? b = some o) ∧ Same s' s₃) hS' fun s₃ b c => ⟨b, c⟩
      refine wpAny_mono nx (fun r s₃ q => ?_) fun _ _ z => z
      obtain ⟨rfl, kk, e₃⟩ := q
      refine hR _ _ s₃ ⟨D, es, ⟨σ₂.loc, own⟩, rfl, ?_, ?_, e₂.trans (ee.trans e₃), newAt g₂ nC, ?_, ?_, ?_, ?_, done D es own hInv⟩
      · refine FS.lastFar (F := F.hides [C]) hout hL hc (fun a ha m => ?_) kk
        rcases List.mem_append.mp ha with z | z
        · rcases List.mem_cons.mp z with rfl | z
          · exact CnotIs m
          · exact hfh a (List.mem_append_left _ z) m
        · exact hfh a (List.mem_append_right _ z) m
      · have k2 : ∀ b ∈ σ₂.keys, b ∈ σ.keys ∨ s.heap.get? b = none ∨ b ∈ F.hid := g₂.keys
        refine ⟨fun b o h1 h2 e => ?_, fun a ha => ?_, fun b o e => ?_⟩
        · have e1 := g₂.keep b o h1 h2 e
          have n1 : b ∉ Is := fun m => by rw [hI b m] at e; cases e
          exact kk b o n1 (kept e1 n1 fun m => (k2 b m).elim h2 fun z => z.elim (fun z => by rw [z] at e; cases e) h1)
        · rcases List.mem_cons.mp ha with ha | ha
          · exact .inr (.inl (by rw [show a = D from ha]; exact newAt g₂ nD))
          · rcases g.keys a ha with z | z | z
            · exact k2 a z
            · exact .inr (.inl (newAt g₂ z))
            · refine .inr (.inl ?_)
              rcases List.mem_cons.mp z with rfl | z
              · exact newAt g₂ nC
              · rcases List.mem_cons.mp z with rfl | z
                · exact newAt g₂ nD
                · exact hI a z
        · obtain ⟨o1, e1⟩ := g₂.alive b o e
          obtain ⟨o2, e2⟩ := g.alive b o1 e1
          exact ⟨o2, kk b o2 (fun m => by rw [hI b m] at e; cases e) e2⟩
      · obtain ⟨m, ⟨o, es', ep, e, r⟩, _⟩ := fi.ns
        exact ⟨m, o, es', ep, kk _ _ CnotIs e, r⟩
      · intro q
        obtain ⟨_, ⟨o, _, _, e, _⟩, _⟩ := f₂.ns
        rw [show (F.hides Is).env.locals = C from q, nC] at e; cases e
      · intro q hq z
        obtain ⟨o, e⟩ := f₂.cx q hq
        rw [z, nC] at e; cases e
      · exact fun a ha => (xD a ha).1
  exact codeAny_compStart_list (loop _ rfl) (T.self 0 _ _ _ (T.keep 0 _ _ hS (fun b _ o e => old b o e)) (loop _ rfl))

/-- a comprehension, its list seen as data -/
theorem e_comp {elt target iter : Expr} {ifs : List Expr} {scope : Scope} {cl : List (Str × Addr)} {pos : Pos} {Q : X → St → Prop} (ok : CompOk F scope cl)
    (h : WI prog w A F target iter σ (fun its σ₂ => ∃ lin Inv, LinOk F scope cl lin σ₂ ∧ its.length ≤ 1000000 ∧ Inv 0 [] σ₂.own ∧ CompTurn prog w A F target elt ifs scope cl lin its Inv ∧
      (∀ es own, Inv its.length es own → Q (.d (.list es)) ⟨σ₂.loc, own⟩)))
    (hs : ∀ x, foldedSetIterable iter F.env x = pure x := by intro _; rfl) :
    WV (model prog w) A F (eval (.ListComp elt [⟨target, iter, ifs, 0⟩] scope pos) F.env) σ Q := fun s f => by
  rw [eval_ListComp]
  refine wpAny_comprehension_free (use := none) rfl hs ok.clos ok.kind ok.names (comp_core (Q := fun D es σ' => Q (.d (.list es)) σ') (RR := fun acc C => compPost (model prog w) A EOk none (P1 F σ s XR Q) acc C) ok f
    (h.mono fun its τ p => by
      obtain ⟨lin, Inv, q1, q2, q3, q4, q5⟩ := p
      exact ⟨lin, Inv, q1, q2, q3, q4, fun D es own q => q5 es own q⟩) ?_)
  rintro acc C s' ⟨D, es, σ', rfl, fo, go, e, nC, ⟨m, hn⟩, n1, n2, n3, q⟩
  refine ⟨m, hn, fun h' hs' => ?_⟩
  have kk : ∀ b o, b ∉ [C] → s'.heap.get? b = some o → h'.get? b = some o := fun b o m e => (hs'.2 b (fun q => m (by simp [q]))).trans e
  have hI : ∀ a ∈ [C], s.heap.get? a = none := fun a ha => by rw [List.mem_singleton.mp ha]; exact nC
  have f' := fo.lastFar (Is := [C]) (fun m => n1 (List.mem_singleton.mp m)) (fun q hq m => n2 q hq (List.mem_singleton.mp m)) (fun a ha m => n3 a ha (List.mem_singleton.mp m)) kk
  have g' := go.last hI kk
  obtain ⟨f'', g'', rp⟩ := f'.freeze (pre := []) rfl
  exact ⟨.d _, ⟨σ'.loc, σ'.own⟩, rp, f'', g'.trans g'', e.trans ⟨_, _, rfl⟩, q⟩
/-- a comprehension, its list the frame's own -/
theorem e_compo {elt target iter : Expr} {ifs : List Expr} {scope : Scope} {cl : List (Str × Addr)} {pos : Pos} {Q : X → St → Prop} (ok : CompOk F scope cl)
    (h : WI prog w A F target iter σ (fun its σ₂ => ∃ lin Inv, LinOk F scope cl lin σ₂ ∧ its.length ≤ 1000000 ∧ Inv 0 [] σ₂.own ∧ CompTurn prog w A F target elt ifs scope cl lin its Inv ∧
      (∀ D es own, Inv its.length es own → Q (.own D) ⟨σ₂.loc, (D, es) :: own⟩)))
    (hs : ∀ x, foldedSetIterable iter F.env x = pure x := by intro _; rfl) :
    WV (model prog w) A F (eval (.ListComp elt [⟨target, iter, ifs, 0⟩] scope pos) F.env) σ Q := fun s f => by
  rw [eval_ListComp]
  refine wpAny_comprehension_free (use := none) rfl hs ok.clos ok.kind ok.names (comp_core (Q := fun D es σ' => Q (.own D) ⟨σ'.loc, (D, es) :: σ'.own⟩) (RR := fun acc C => compPost (model prog w) A EOk none (P1 F σ s XR Q) acc C) ok f h ?_)
  rintro acc C s' ⟨D, es, σ', rfl, fo, go, e, nC, ⟨m, hn⟩, n1, n2, n3, q⟩
  refine ⟨m, hn, fun h' hs' => ?_⟩
  have kk : ∀ b o, b ∉ [C] → s'.heap.get? b = some o → h'.get? b = some o := fun b o m e => (hs'.2 b (fun q => m (by simp [q]))).trans e
  have hI : ∀ a ∈ [C], s.heap.get? a = none := fun a ha => by rw [List.mem_singleton.mp ha]; exact nC
  have f' := fo.lastFar (Is := [C]) (fun m => n1 (List.mem_singleton.mp m)) (fun q hq m => n2 q hq (List.mem_singleton.mp m)) (fun a ha m => n3 a ha (List.mem_singleton.mp m)) kk
  exact ⟨.own D, _, rfl, f', go.last hI kk, e.trans ⟨_, _, rfl⟩, q⟩
/-- name = [comprehension], on one line: the store stands ahead of what the comprehension lets go -/
theorem x_comp {elt target iter t : Expr} {ifs : List Expr} {scope : Scope} {cl : List (Str × Addr)} {pos spos : Pos} {Q : Fl → St → Prop} (ok : CompOk F scope cl)
    (h : WI prog w A F target iter σ (fun its σ₂ => ∃ lin Inv, LinOk F scope cl lin σ₂ ∧ its.length ≤ 1000000 ∧ Inv 0 [] σ₂.own ∧ CompTurn prog w A F target elt ifs scope cl lin its Inv ∧
      (∀ D es own C, Inv its.length es own → A1 (model prog w) A (F.hides [C]) (assign t (F.hides [C]).env) (.own D) ⟨σ₂.loc, (D, es) :: own⟩ (fun _ σ₃ => Q .next σ₃))))
    (hsw : swapsWithSole [t] (.ListComp elt [⟨target, iter, ifs, 0⟩] scope pos) spos.line F.env = pure true)
    (he : (assignEach [t] F.env).map (·.2) = [assign t F.env] := by rfl)
    (hs : ∀ x, foldedSetIterable iter F.env x = pure x := by intro _; rfl) :
    WF (model prog w) A F (exec (.Assign [t] (.ListComp elt [⟨target, iter, ifs, 0⟩] scope pos) spos) F.env) σ Q := fun s f => by
  rw [exec_Assign]
  refine wpAny_bind (wpAny_standAt ?_)
  rw [hsw]
  refine wpAny_bind (wpAny_pure ?_)
  rw [if_pos rfl]
  have hu : (fun v => assignAll v ((assignEach [t] F.env).map (·.2))) = fun v => assign t F.env v := by
    funext v; rw [he]; rfl
  have key : wpAny (model prog w) A (comprehension (.ListComp elt [⟨target, iter, ifs, 0⟩] scope pos) scope F.env (firstIterPos [⟨target, iter, ifs, 0⟩] pos) (newList []) false (eval iter F.env) (some fun v => assign t F.env v)) (fun _ s' => P1 F σ s RF Q .next s') EOk s := by
    refine wpAny_comprehension_free (use := some fun v => assign t F.env v) (Q := fun _ s' => P1 F σ s RF Q .next s') rfl hs ok.clos ok.kind ok.names ?_
    refine comp_core (Q := fun D es σ' => ∀ C, A1 (model prog w) A (F.hides [C]) (assign t (F.hides [C]).env) (.own D) ⟨σ'.loc, (D, es) :: σ'.own⟩ (fun _ σ₃ => Q .next σ₃)) (RR := fun acc C => compPost (model prog w) A EOk (some fun v => assign t F.env v) (fun _ s' => P1 F σ s RF Q .next s') acc C) ok f
      (h.mono fun its τ p => by
        obtain ⟨lin, Inv, q1, q2, q3, q4, q5⟩ := p
        exact ⟨lin, Inv, q1, q2, q3, q4, fun D es own q C => q5 D es own C q⟩) ?_
    rintro acc C s' ⟨D, es, σ', rfl, fo, go, e, nC, ⟨m, hn⟩, n1, n2, n3, q⟩
    show wpAny (model prog w) A (assign t F.env (.ref D)) _ EOk s'
    refine wpAny_mono (q C (.ref D) s' fo rfl) (fun _ s'' p => ?_) fun _ _ z => z
    obtain ⟨_, σ₃, _, f₃, g₃, e₃, q⟩ := p
    have cC : C ∉ F.hid := fun m => n3 C (List.mem_append_right _ m) rfl
    have cK : C ∉ (⟨σ'.loc, (D, es) :: σ'.own⟩ : St).keys := fun m => fo.kd C m (List.mem_append_left _ (.head _))
    refine ⟨m, (let ⟨o, es', ep, e, r⟩ := hn; ⟨o, es', ep, g₃.keep C o cC cK e, r⟩), fun h' hs' => ?_⟩
    have kk : ∀ b o, b ∉ [C] → s''.heap.get? b = some o → h'.get? b = some o := fun b o m e => (hs'.2 b (fun q => m (by simp [q]))).trans e
    have hI : ∀ a ∈ [C], s.heap.get? a = none := fun a ha => by rw [List.mem_singleton.mp ha]; exact nC
    have f' := f₃.lastFar (Is := [C]) (fun m => n1 (List.mem_singleton.mp m)) (fun q hq m => n2 q hq (List.mem_singleton.mp m)) (fun a ha m => n3 a ha (List.mem_singleton.mp m)) kk
    exact ⟨.next, σ₃, trivial, f', (go.trans g₃.unhide).last hI kk, (e.trans e₃).trans ⟨_, _, rfl⟩, q⟩
  rw [hu]
  refine wpAny_bind ?_
  show wpAny (model prog w) A (comprehension (.ListComp elt [⟨target, iter, ifs, 0⟩] scope pos) scope F.env (firstIterPos [⟨target, iter, ifs, 0⟩] pos) (newList []) false (eval iter F.env) (some fun v => assign t F.env v) >>= fun _ => pure ()) _ EOk s
  exact wpAny_bind (wpAny_mono key (fun _ s' q => wpAny_pure (wpAny_pure q)) fun _ _ z => z)
end
end Mine
namespace Mine

section
variable {prog : Program} {w : World} {A : Around} {F : Frm} {σ : St}

noncomputable abbrev boolsD (bs : List Bool) : PyData := .list (bs.map PyData.bool)

theorem v_any {bs : List Bool} {Q : X → St → Prop} (hA : A.handled = none) (h : Q (.d (.bool (bs.any id))) σ) : VL (model prog w) A F (fun vs => call (.builtin "any") vs) [.d (boolsD bs)] σ Q := fun vs s f r0 => by
  obtain ⟨v, rfl, r⟩ := r0.one
  obtain ⟨l, us, rfl, hl, rl⟩ := isList_of r
  have hl := IsList.up hl
  have hz : us.size = bs.length := by have := rl.length; simpa using this
  have hlt : l < s.heap.objs.size := by obtain ⟨_, e, _⟩ := hl; exact Heap.lt_size e
  refine call_any_walk (wpAny_pyIter_list hl ?_)
  refine ⟨s.heap.objs.size, [s.heap.objs.size, l], [s.heap.objs.size], us.size, _, _, fun i => (bs[i]?).getD false, rfl, Walks.list (A := A.in1) hA _ l (Nat.ne_of_lt hlt) us,
    ⟨⟨_, Heap.get?_push_size _ rfl, rfl, rfl⟩, hl.push _⟩, fun i v s' Q' E' hP hQ => ?_, fun h' tk hk => ?_⟩
  · have hi : i < bs.length := by
      have := (Array.getElem?_eq_some_iff.mp hP).1
      omega
    obtain ⟨v', e, rv⟩ := rl.get (k := i) (d := .bool bs[i]) (by simp [hi])
    have ev : v' = v := by simp at e hP; rw [e] at hP; exact Option.some.inj hP
    subst ev
    obtain ⟨_, rv⟩ := rv; cases rv
    have e2 : bs[i]? = some bs[i] := by simp [hi]
    simp only [e2, Option.getD_some] at hQ
    exact wpAny_truthy_bool hQ
  · have e : ((List.range us.size).any fun i => (bs[i]?).getD false) = bs.any id := by
      rw [hz]; exact LSm.range_any bs
    rw [e]
    have hk' : ∀ b x, s.heap.get? b = some x → h'.get? b = some x := fun b x e => hk b x (fun hm => by rw [List.mem_singleton.mp hm] at e; exact Nat.lt_irrefl _ (Heap.lt_size e)) (Heap.get?_push_of_some _ e)
    obtain ⟨f', g'⟩ := f.grow hk'
    exact ⟨.d _, σ, ⟨_, .bool _⟩, f', g', ⟨_, _, rfl⟩, h⟩

/-- a pen's call, its answer by a relation -/
noncomputable def PenRel (prog : Program) (w : World) (B : Heap) (n : Nat) (a : Addr) (xs : List PyData) (ds : List PyData) (R : List PyData → PyData → Prop) : Prop :=
  ∀ A s hid vs p us, Room n A → At B (p :: hid) s.heap → p ∉ hid → s.heap.PlainList p us → RepL (hideAll s.heap (p :: hid)) us.toList xs → RepL (hideAll s.heap (p :: hid)) vs ds →
    codeAny (model prog w) A (.call (.ref a) ⟨.ref p :: vs, []⟩) (fun r s' => ∃ v us' ys d, R ys d ∧ r = .ok (.ret v) ∧ Rep (hideAll s'.heap (p :: hid)) v d ∧ s'.heap.PlainList p us' ∧ RepL (hideAll s'.heap (p :: hid)) us'.toList ys ∧
      (∀ b o, b ≠ p → s.heap.get? b = some o → s'.heap.get? b = some o) ∧ Same s s') s
theorem v_penR {n : Nat} {a p : Addr} {xs ds : List PyData} {R : List PyData → PyData → Prop} {Q : X → St → Prop} (sp : PenRel prog w F.B n a xs ds R) (hr : Room n A) (hm : (p, xs) ∈ σ.own)
    (h : ∀ ys d, R ys d → ∃ own', Upd p xs ys σ.own own' ∧ Q (.d d) ⟨σ.loc, own'⟩) :
    VL (model prog w) A F (fun vs => call (.ref a) vs) (.own p :: ds.map X.d) σ Q := fun vs s f r => by
  cases r with
  | @cons v _ vs _ r1 r2 =>
    cases (r1 : v = .ref p)
    have hp : p ∈ F.all σ := List.mem_append_right _ (List.mem_map_of_mem (f := (·.1)) hm)
    have m1 : ∀ b ∈ F.all σ, b ∈ p :: (F.all σ).filter (· ≠ p) := fun b hb => by
      by_cases e : b = p
      · rw [e]; exact .head _
      · exact .tail _ (List.mem_filter.mpr ⟨hb, by simpa using e⟩)
    have m2 : ∀ b ∈ p :: (F.all σ).filter (· ≠ p), b ∈ F.all σ := fun b hb => (List.mem_cons.mp hb).elim (fun e => e ▸ hp) fun e => (List.mem_filter.mp e).1
    obtain ⟨us, pl, rl⟩ := f.own _ hm
    have at' : At F.B (p :: (F.all σ).filter (· ≠ p)) s.heap := ⟨f.up, fun b o e hb => f.at.off b o e (m2 b hb), fun b hb => f.ex b (m2 b hb)⟩
    refine wpAny_call (codeAny_mono (sp A s _ vs p us hr at' (fun m => by simpa using (List.mem_filter.mp m).2) pl (rl.mono (hide_sub m2)) (r2.data.mono (hide_sub m2))) fun r s' hq => ?_)
    obtain ⟨v, us', ys, d, hR, rfl, rv, pl', rl', k, e⟩ := hq
    obtain ⟨own', up, q⟩ := h ys d hR
    have ek : F.all ⟨σ.loc, own'⟩ = F.all σ := by unfold Frm.all; rw [show (⟨σ.loc, own'⟩ : St).keys = σ.keys from up.keys]
    have m3 : ∀ b ∈ F.all ⟨σ.loc, own'⟩, b ∈ p :: (F.all σ).filter (· ≠ p) := fun b hb => m1 b (ek ▸ hb)
    have fg := f.setOwn' up (fun b hb o e => k b o hb e) pl' (rl'.mono (hide_sub m3))
    exact ⟨.d _, _, rv.mono (hide_sub m3), fg.1, fg.2, e, q⟩
end

section
variable {prog : Program} {w : World} {A : Around} {B : Heap} {a : Addr} {fd : FuncData} {body : List Stmt} {params rest : List Str} {n : Nat} {loc : List (Str × X)}
noncomputable def PenRet (R : List PyData → PyData → Prop) (p : Addr) (fl : Fl) (σ : St) : Prop := ∃ ys d, R ys d ∧ ((fl = .ret (.d d) ∧ (p, ys) ∈ σ.own) ∨ (∃ a ds pre post, fl = .ret (.own a) ∧ d = .list ds ∧ σ.own = pre ++ (a, ds) :: post ∧ (p, ys) ∈ pre ++ post))
theorem pen_rel {y : Str} {ps : List Str} {ds xs : List PyData} {R : List PyData → PyData → Prop} (D : DefAt B a fd body (y :: ps) rest) (hl : ps.length = ds.length)
    (hloc : ∀ p, (y, X.own p) :: (ps.zip (ds.map X.d) ++ rest.map (fun y => (y, .un))) = (y, X.own p) :: loc)
    (h : ∀ L far p A, Room n A → WF (model prog w) A (callFrm B fd L a far) (execs body (callFrm B fd L a far).env) ⟨(y, .own p) :: loc, [(p, xs)]⟩ (PenRet R p)) :
    PenRel prog w B (n + 1) a xs ds R := fun A s hid vs p us hA hat hp pl rl hr => by
  have hsub : ∀ x ∈ hid ++ ([(p, xs)] : List (Addr × List PyData)).map (·.1), x ∈ p :: hid := fun x hx => by
    rcases List.mem_append.mp hx with hx | hx
    · exact .tail _ hx
    · simp at hx; rw [hx]; exact .head _
  have hsub' : ∀ x ∈ p :: hid, x ∈ hid ++ ([(p, xs)] : List (Addr × List PyData)).map (·.1) := fun x hx => by
    rcases List.mem_cons.mp hx with rfl | hx
    · simp
    · exact List.mem_append_left _ hx
  refine enter (far := hid) (own0 := [(p, xs)]) (xs := .own p :: ds.map X.d) (vs := .ref p :: vs) D hA ⟨hat.base, fun b o e hb => hat.off b o e (hsub b hb), fun b hb => hat.ex b (hsub b hb)⟩ (fun q hq => ?_) (by simp) (fun q hq => by simp at hq; rw [hq]; exact hp) (.cons rfl (RH.data (hr.mono (hide_sub hsub)))) (by simpa using hl) (PenRet R p) (fun L => ?_) ?_
  · simp at hq; subst hq; exact ⟨us, pl, rl.mono (hide_sub hsub)⟩
  · have := h L hid p _ (hA.deeper (callFrm B fd L a hid).env)
    rw [← hloc p] at this
    exact this
  · intro L fl σ' s' f r f' k kk e q
    obtain ⟨ys, d, hR, ⟨rfl, hm⟩ | ⟨b, es, pre, post, rfl, rfl, eo, hm⟩⟩ := q
    · cases f with
      | ret v =>
        obtain ⟨us', pl', rl'⟩ := f'.own _ hm
        have hpk : p ∈ σ'.keys := List.mem_map_of_mem (f := (·.1)) hm
        have sub : ∀ b o, (vis (callFrm B fd L a hid) σ' s'.heap).get? b = some o → (hideAll s'.heap (p :: hid)).get? b = some o := hide_sub fun x hx => (List.mem_cons.mp hx).elim (fun e => List.mem_append_right _ (e ▸ hpk)) fun hx => List.mem_append_left _ (List.mem_append_left _ hx)
        exact ⟨v, us', ys, d, hR, rfl, Rep.mono r sub, pl', rl'.mono sub, fun b o hb eb => k b o (by simpa using hb) eb, e⟩
      | _ => exact False.elim r
    · obtain ⟨f₂, _, rp⟩ := f'.freeze eo
      cases f with
      | ret v =>
        cases (r : v = .ref b)
        obtain ⟨us', pl', rl'⟩ := f₂.own _ hm
        have hpk : p ∈ (⟨σ'.loc, pre ++ post⟩ : St).keys := List.mem_map_of_mem (f := (·.1)) hm
        have sub : ∀ b o, (vis (callFrm B fd L a hid) ⟨σ'.loc, pre ++ post⟩ s'.heap).get? b = some o → (hideAll s'.heap (p :: hid)).get? b = some o := hide_sub fun x hx => (List.mem_cons.mp hx).elim (fun e => List.mem_append_right _ (e ▸ hpk)) fun hx => List.mem_append_left _ (List.mem_append_left _ hx)
        exact ⟨_, us', ys, _, hR, rfl, Rep.mono rp sub, pl', rl'.mono sub, fun b o hb eb => k b o (by simpa using hb) eb, e⟩
      | _ => exact False.elim r
theorem pure_spec' {ds : List PyData} {d : PyData} (D : DefAt B a fd body params rest) (hl : params.length = ds.length) (hloc : params.zip (ds.map X.d) ++ rest.map (fun y => (y, .un)) = loc)
    (h : ∀ L far A, Room n A → WF (model prog w) A (callFrm B fd L a far) (execs body (callFrm B fd L a far).env) ⟨loc, []⟩ (RetIs d)) :
    PureSpec prog w B (n + 1) a ds d := pure_spec D hl fun L far A hA => by rw [hloc]; exact h L far A hA
theorem new_spec' {ds es : List PyData} (D : DefAt B a fd body params rest) (hl : params.length = ds.length) (hloc : params.zip (ds.map X.d) ++ rest.map (fun y => (y, .un)) = loc)
    (h : ∀ L far A, Room n A → WF (model prog w) A (callFrm B fd L a far) (execs body (callFrm B fd L a far).env) ⟨loc, []⟩ (fun fl σ' => ∃ b, fl = .ret (.own b) ∧ (b, es) ∈ σ'.own)) :
    NewSpec prog w B (n + 1) a ds es := new_spec D hl fun L far A hA => by rw [hloc]; exact h L far A hA
end

section
variable {prog : Program} {w : World} {A : Around} {F : Frm} {σ : St}
theorem then_next {M : Model} {rest : List Stmt} {Q : Fl → St → Prop} (h : WF M A F (execs rest F.env) σ Q) : Then M A F rest Q .next σ := h
theorem then_ret {M : Model} {rest : List Stmt} {Q : Fl → St → Prop} {x : X} (h : Q (.ret x) σ) : Then M A F rest Q (.ret x) σ := h
theorem then_cont {M : Model} {rest : List Stmt} {Q : Fl → St → Prop} (h : Q .cont σ) : Then M A F rest Q .cont σ := h
theorem te_next {Inv : Nat → St → Prop} {Q : Fl → St → Prop} {i : Nat} (h : ∃ τ', Weak σ τ' ∧ Inv (i + 1) τ') : TurnEnd Inv Q i .next σ := h
theorem te_cont {Inv : Nat → St → Prop} {Q : Fl → St → Prop} {i : Nat} (h : ∃ τ', Weak σ τ' ∧ Inv (i + 1) τ') : TurnEnd Inv Q i .cont σ := h
theorem te_ret {Inv : Nat → St → Prop} {Q : Fl → St → Prop} {i : Nat} {x : X} (h : Q (.ret x) σ) : TurnEnd Inv Q i (.ret x) σ := h

theorem W1.mono' {α β : Type} {R : Frm → St → Heap → α → β → Prop} {M : Model} {t : Value → Sem α} {x : X} {Q Q' : β → St → Prop} (h : W1 R M A F t x σ Q) (k : ∀ x σ', Q x σ' → Q' x σ') : W1 R M A F t x σ Q' := fun v s f r =>
  wpAny_mono (h v s f r) (fun _ _ ⟨x, σ', r, f', g, e, q⟩ => ⟨x, σ', r, f', g, e, k _ _ q⟩) fun _ _ z => z
theorem a_tup2 {e1 e2 : Expr} {k : Nat} {pos : Pos} {d1 d2 : PyData} {Q : Unit → St → Prop} (hA : A.handled = none)
    (h : A1 (model prog w) A F (assign e1 F.env) (.d d1) σ (fun _ σ₁ => A1 (model prog w) A F (assign e2 F.env) (.d d2) σ₁ Q))
    (he : (assignEach [e1, e2] F.env) = [(false, assign e1 F.env), (false, assign e2 F.env)] := by rfl) :
    A1 (model prog w) A F (assign (.Tuple [e1, e2] k pos) F.env) (.d (.tuple [d1, d2])) σ Q := by
  refine a_tup (ds := [d1, d2]) hA ?_ (by rw [he]; rfl) (by rw [he]; rfl)
  rw [he]
  refine al_cons (W1.mono' h fun _ σ₁ q => al_cons (W1.mono' q fun _ σ₂ q => al_nil q))
end
end Mine
namespace Mine

noncomputable abbrev KF : Params → Frag := Mine.hd.heap_39
noncomputable def fdOf (P : Params) (a : Addr) : FuncData := match (KF P).lookup a with | some ⟨_, _, .func fd, _⟩ => fd | _ => default
noncomputable def bodyOf (P : Params) (a : Addr) : List Stmt := match (fdOf P a).body with | .stmts b => b | _ => []

/-- the top as the call finds it -/
structure TopAt (P : Params) (B : Heap) : Prop where
  frag : (KF P).In B
  ns : ∃ mg, B.Ns mainGlobals mg
  bl : ∃ mb, B.Ns builtinsNs mb ∧ ∀ x v, bootBuiltins x = some v → x ≠ "__name__" → mb x = some v
  lim : B.NoLimit

section
variable {P : Params} {B : Heap}
theorem TopAt.gv (t : TopAt P B) {F : Frm} (hB : F.B = B) (hg : F.env.globals = mainGlobals) {n : Str} {v : Value} (e : nsIn (KF P) mainGlobals n = some (some v)) : GV F n v := by
  obtain ⟨mg, h⟩ := t.ns
  exact ⟨mg, by rw [hB, hg]; exact h, mg_of t.frag h e⟩
theorem TopAt.bv (t : TopAt P B) {F : Frm} (hB : F.B = B) (hg : F.env.globals = mainGlobals) (hb : F.env.builtins = builtinsNs) {n : Str} {v : Value} (e : nsIn (KF P) mainGlobals n = some none) (e' : bootBuiltins n = some v) (hn : n ≠ "__name__") : BV F n v := by
  obtain ⟨mg, h⟩ := t.ns
  obtain ⟨mb, h2, h3⟩ := t.bl
  exact ⟨mg, mb, by rw [hB, hg]; exact h, mg_none_of t.frag h e, by rw [hB, hb]; exact h2, h3 _ _ e' hn⟩

theorem def_of (t : TopAt P B) {a : Addr} {c : Value} {d : Option Addr} {sl : Array (Option Value)} {params rest : List Str} (e : (KF P).lookup a = some ⟨c, d, .func (fdOf P a), sl⟩)
    (hcode : codeIn (KF P) (fdOf P a).code (fdOf P a).qualname = true) (hb : (fdOf P a).body = .stmts (bodyOf P a)) (hclo : (fdOf P a).closure = [])
    (hbind : ∀ vs, vs.length = params.length → bindArgs (fdOf P a) ⟨vs, []⟩ = pure (params.zip vs))
    (hkind : (params.all fun n => (fdOf P a).scope.names.lookup n == some .local || (fdOf P a).scope.names.lookup n == some .cell) = true) (hnd : (params ++ rest).Nodup)
    {cs : List Str} (hcn : ((cellsFrom 0 (fdOf P a).scope.names []).map (·.1)) = cs) (hcnd : cs.Nodup) (h1 : (fdOf P a).scope.isCoroutine = false) (h2 : (fdOf P a).scope.isGenerator = false) (h3 : (fdOf P a).scope.kind = .function) :
    DefAt B a (fdOf P a) (bodyOf P a) params rest where
  obj := ⟨_, t.frag _ _ e, rfl⟩
  lim := t.lim
  code := codeRec_of t.frag hcode
  body := hb
  clo := hclo
  bind := hbind
  kind := fun n hn => by
    have := List.all_eq_true.mp hkind n hn
    rcases Bool.or_eq_true_iff.mp this with q | q
    · exact .inl (by simpa using q)
    · exact .inr (by simpa using q)
  nd := hnd
  cnd := by rw [hcn]; exact hcnd
  co := h1
  gen := h2
  fn := h3

theorem len1 {vs : List Value} (h : vs.length = 1) : ∃ a, vs = [a] := List.length_eq_one_iff.mp h
theorem len2 {vs : List Value} (h : vs.length = 2) : ∃ a b, vs = [a, b] := by
  cases vs with
  | nil => cases h
  | cons a vs => obtain ⟨b, rfl⟩ := len1 (Nat.succ.inj h); exact ⟨a, b, rfl⟩
theorem len3 {vs : List Value} (h : vs.length = 3) : ∃ a b c, vs = [a, b, c] := by
  cases vs with
  | nil => cases h
  | cons a vs => obtain ⟨b, c, rfl⟩ := len2 (Nat.succ.inj h); exact ⟨a, b, c, rfl⟩
theorem D_targets (t : TopAt P B) : DefAt B 21 (fdOf P 21) (bodyOf P 21) ["code"] ["found", "op", "worth"] :=
  def_of t rfl rfl rfl rfl (fun vs h => by obtain ⟨a, rfl⟩ := len1 h; rfl) rfl (by decide) (cs := []) rfl (.nil) rfl rfl rfl
theorem D_places (t : TopAt P B) : DefAt B 26 (fdOf P 26) (bodyOf P 26) ["code", "places"] [] :=
  def_of t rfl rfl rfl rfl (fun vs h => by obtain ⟨a, b, rfl⟩ := len2 h; rfl) rfl (by decide) (cs := ["places"]) rfl (by decide) rfl rfl rfl
theorem D_last (t : TopAt P B) : DefAt B 31 (fdOf P 31) (bodyOf P 31) ["code", "goal"] ["at", "seen"] :=
  def_of t rfl rfl rfl rfl (fun vs h => by obtain ⟨a, b, rfl⟩ := len2 h; rfl) rfl (by decide) (cs := []) rfl (.nil) rfl rfl rfl
theorem D_thread (t : TopAt P B) : DefAt B 36 (fdOf P 36) (bodyOf P 36) ["code"] [] :=
  def_of t rfl rfl rfl rfl (fun vs h => by obtain ⟨a, rfl⟩ := len1 h; rfl) rfl (by decide) (cs := ["code"]) rfl (by decide) rfl rfl rfl
theorem D_behind (t : TopAt P B) : DefAt B 43 (fdOf P 43) (bodyOf P 43) ["code", "at"] ["op", "worth"] :=
  def_of t rfl rfl rfl rfl (fun vs h => by obtain ⟨a, b, rfl⟩ := len2 h; rfl) rfl (by decide) (cs := []) rfl (.nil) rfl rfl rfl
theorem D_reached (t : TopAt P B) : DefAt B 48 (fdOf P 48) (bodyOf P 48) ["code"] ["at", "found", "waiting"] :=
  def_of t rfl rfl rfl rfl (fun vs h => by obtain ⟨a, rfl⟩ := len1 h; rfl) rfl (by decide) (cs := []) rfl (.nil) rfl rfl rfl
theorem D_dead (t : TopAt P B) : DefAt B 55 (fdOf P 55) (bodyOf P 55) ["code"] ["alive", "made", "places", "at", "pair"] :=
  def_of t rfl rfl rfl rfl (fun vs h => by obtain ⟨a, rfl⟩ := len1 h; rfl) rfl (by decide) (cs := []) rfl (.nil) rfl rfl rfl
theorem D_close (t : TopAt P B) : DefAt B 62 (fdOf P 62) (bodyOf P 62) ["alive", "at", "goal"] [] :=
  def_of t rfl rfl rfl rfl (fun vs h => by obtain ⟨a, b, c, rfl⟩ := len3 h; rfl) rfl (by decide) (cs := []) rfl (.nil) rfl rfl rfl
theorem D_pen (t : TopAt P B) : DefAt B 69 (fdOf P 69) (bodyOf P 69) ["script"] [] :=
  def_of t rfl rfl rfl rfl (fun vs h => by obtain ⟨a, rfl⟩ := len1 h; rfl) rfl (by decide) (cs := []) rfl (.nil) rfl rfl rfl
theorem D_draw (t : TopAt P B) : DefAt B 76 (fdOf P 76) (bodyOf P 76) ["pen", "many"] ["digit", "spot", "cell", "mix"] :=
  def_of t rfl rfl rfl rfl (fun vs h => by obtain ⟨a, b, rfl⟩ := len2 h; rfl) rfl (by decide) (cs := []) rfl (.nil) rfl rfl rfl
theorem D_code (t : TopAt P B) : DefAt B 83 (fdOf P 83) (bodyOf P 83) ["pen"] ["size", "made", "at", "way"] :=
  def_of t rfl rfl rfl rfl (fun vs h => by obtain ⟨a, rfl⟩ := len1 h; rfl) rfl (by decide) (cs := []) rfl (.nil) rfl rfl rfl
theorem D_alive (t : TopAt P B) : DefAt B 90 (fdOf P 90) (bodyOf P 90) ["code"] ["living", "lap", "at", "op", "worth"] :=
  def_of t rfl rfl rfl rfl (fun vs h => by obtain ⟨a, rfl⟩ := len1 h; rfl) rfl (by decide) (cs := []) rfl (.nil) rfl rfl rfl
theorem D_led (t : TopAt P B) : DefAt B 97 (fdOf P 97) (bodyOf P 97) ["code", "choices", "living"] ["at", "done", "spent", "steps", "op", "worth", "is_taken"] :=
  def_of t rfl rfl rfl rfl (fun vs h => by obtain ⟨a, b, c, rfl⟩ := len3 h; rfl) rfl (by decide) (cs := []) rfl (.nil) rfl rfl rfl
theorem D_goal (t : TopAt P B) : DefAt B 104 (fdOf P 104) (bodyOf P 104) ["code", "goal"] ["here", "lap"] :=
  def_of t rfl rfl rfl rfl (fun vs h => by obtain ⟨a, b, rfl⟩ := len2 h; rfl) rfl (by decide) (cs := []) rfl (.nil) rfl rfl rfl
theorem D_law (t : TopAt P B) : DefAt B 109 (fdOf P 109) (bodyOf P 109) ["script"] ["pen", "lap", "code", "kept", "goals", "living", "brisk", "lean", "turn", "choices", "due", "left", "closing"] :=
  def_of t rfl rfl rfl rfl (fun vs h => by obtain ⟨a, rfl⟩ := len1 h; rfl) rfl (by decide) (cs := ["living", "goals", "code", "pen"]) rfl (by decide) rfl rfl rfl
end
end Mine
namespace Mine
section
variable {P : Params} {B : Heap}
theorem TopAt.fn (t : TopAt P B) {F : Frm} (hB : F.B = B) {a : Addr} {c : Value} {d : Option Addr} {fd : FuncData} {sl : Array (Option Value)} (e : (KF P).lookup a = some ⟨c, d, .func fd, sl⟩) : FnAt F.B a :=
  ⟨_, fd, by rw [hB]; exact t.frag _ _ e, rfl⟩
end
theorem ex_bool {b : Bool} {Q : Bool → Prop} (h : Q b) : ∃ c, X.d (PyData.bool b) = X.d (PyData.bool c) ∧ Q c := ⟨_, rfl, h⟩
theorem if_t {b : Bool} {p q : Prop} (e : b = true) (h : p) : if b = true then p else q := by rw [if_pos e]; exact h
theorem if_f {b : Bool} {p q : Prop} (e : b = false) (h : q) : if b = true then p else q := by rw [if_neg (by rw [e]; decide)]; exact h
theorem Room.le {m n : Nat} {A : Around} (r : Room n A) (h : m ≤ n) : Room m A := ⟨r.handled, by have := r.depth; omega, by have := r.units; omega⟩
theorem line_ok {n : Nat} (h : n ≤ 100000) : n ≤ sizeLine := by rw [sizeLine_eq]; omega

/-- a pair of the code -/
inductive Ins where
  | push (n : Nat) | jump (g : Nat) | unls (g : Nat) | whn (g : Nat) | drop | abort | rok
namespace Ins
noncomputable def op : Ins → Str
  | push _ => "push" | jump _ => "jump" | unls _ => "unless" | whn _ => "when" | drop => "drop" | abort => "word" | rok => "word"
noncomputable def worth : Ins → PyData
  | push n => .int (n : Int) | jump g => .int (g : Int) | unls g => .int (g : Int) | whn g => .int (g : Int) | drop => .none | abort => .str "YYABORT" | rok => .str "yyerrok"
noncomputable def goal : Ins → Option Nat
  | jump g => some g | unls g => some g | whn g => some g | _ => none
noncomputable def dat (i : Ins) : PyData := .tuple [.str i.op, i.worth]
end Ins
noncomputable abbrev codeD (c : List Ins) : PyData := .list (c.map Ins.dat)
structure Ok (c : List Ins) : Prop where
  small : c.length ≤ 1000
  goal : ∀ i ∈ c, ∀ g, i.goal = some g → g ≤ c.length

noncomputable abbrev jumpsD : PyData := .tuple [.str "jump", .str "unless", .str "when"]
noncomputable abbrev leavingD : PyData := .tuple [.str "YYERROR", .str "YYABORT", .str "YYACCEPT"]
section
variable {P : Params} {B : Heap}
theorem TopAt.rjumps (t : TopAt P B) : Rep B (.ref 16) jumpsD :=
  ⟨_, reads_tuple_at (t.frag 16 _ rfl) rfl rfl (.cons (.str _ _) (.cons (.str _ _) (.cons (.str _ _) .nil)))⟩
theorem TopAt.rleaving (t : TopAt P B) : Rep B (.ref 15) leavingD :=
  ⟨_, reads_tuple_at (t.frag 15 _ rfl) rfl rfl (.cons (.str _ _) (.cons (.str _ _) (.cons (.str _ _) .nil)))⟩
end

theorem any_jumps (i : Ins) : ([PyData.str "jump", .str "unless", .str "when"].any fun y => PyData.eqv y (.str i.op)) = i.goal.isSome := by
  cases i <;> rfl

noncomputable def targetsF (c : List Ins) : List Bool := c.foldl (fun bs i => match i.goal with | some g => bs.set g true | none => bs) (List.replicate (c.length + 1) false)
noncomputable def targetsAt (c : List Ins) (k : Nat) : List Bool := (c.take k).foldl (fun bs i => match i.goal with | some g => bs.set g true | none => bs) (List.replicate (c.length + 1) false)

theorem get_dat {c : List Ins} {i : Nat} {d : PyData} (h : (c.map Ins.dat)[i]? = some d) : ∃ x, c[i]? = some x ∧ d = .tuple [.str x.op, x.worth] := by
  rw [List.getElem?_map] at h
  cases e : c[i]? with
  | none => rw [e] at h; cases h
  | some x => rw [e] at h; exact ⟨x, rfl, (Option.some.inj h).symm⟩
theorem dat_get {c : List Ins} {i : Nat} {x : Ins} (h : c[i]? = some x) : (c.map Ins.dat)[i]? = some (.tuple [.str x.op, x.worth]) := by
  rw [List.getElem?_map, h]; rfl
theorem worth_of {i : Ins} {g : Nat} (h : i.goal = some g) : i.worth = .int (g : Int) := by
  cases i <;> simp [Ins.goal] at h <;> subst h <;> rfl
theorem bool_get {bs : List Bool} {i : Nat} (h : i < bs.length) : (bs.map PyData.bool)[i]? = some (.bool bs[i]) := by
  simp [h]

noncomputable def Flat (n : Nat) (d : PyData) : Prop := d.canLay0 = true ∧ d.depth ≤ n
theorem Flat.shaped {n : Nat} {d : PyData} (f : Flat n d) (h : n ≤ 64 := by decide) : SeqAt.shaped d = true := by
  unfold SeqAt.shaped
  rw [f.1, decide_eq_true (Nat.le_trans f.2 h)]; rfl
theorem flat_str {x : Str} (h : PyData.strOk x = true := by decide +kernel) : Flat 1 (.str x) := ⟨by simp [PyData.canLay0, h], by simp [PyData.depth]⟩
theorem flat_op (i : Ins) : Flat 1 (.str i.op) := by
  have h1 : Flat 1 (.str "push") := flat_str
  have h2 : Flat 1 (.str "jump") := flat_str
  have h3 : Flat 1 (.str "unless") := flat_str
  have h4 : Flat 1 (.str "when") := flat_str
  have h5 : Flat 1 (.str "drop") := flat_str
  have h6 : Flat 1 (.str "word") := flat_str
  cases i <;> assumption
theorem flat_int (x : Int) : Flat 1 (.int x) := ⟨by simp [PyData.canLay0], by simp [PyData.depth]⟩
theorem flat_bool (x : Bool) : Flat 1 (.bool x) := ⟨by simp [PyData.canLay0], by simp [PyData.depth]⟩
theorem flat_none : Flat 1 .none := ⟨by simp [PyData.canLay0], by simp [PyData.depth]⟩
theorem Flat.le {n m : Nat} {d : PyData} (f : Flat n d) (h : n ≤ m) : Flat m d := ⟨f.1, Nat.le_trans f.2 h⟩
theorem flatAll {n : Nat} : ∀ (xs : List PyData), (∀ x ∈ xs, Flat n x) → PyData.canLayAll0 xs = true ∧ PyData.depthAll xs ≤ n
  | [], _ => by simp [PyData.canLayAll0, PyData.depthAll]
  | x :: xs, h => by
    obtain ⟨h1, h2⟩ := flatAll xs fun y hy => h y (.tail _ hy)
    obtain ⟨h3, h4⟩ := h x (.head _)
    simp [PyData.canLayAll0, PyData.depthAll, h1, h3]
    omega
theorem canAll {n : Nat} (xs : List PyData) (h : ∀ x ∈ xs, Flat n x) : PyData.canLayAll0 xs = true := (flatAll xs h).1
theorem flat_list {n : Nat} {xs : List PyData} (h : ∀ x ∈ xs, Flat n x) : Flat (n + 1) (.list xs) := by
  obtain ⟨h1, h2⟩ := flatAll xs h
  exact ⟨by simp [PyData.canLay0, h1], by simp [PyData.depth]; omega⟩
theorem flat_tuple {n : Nat} {xs : List PyData} (h : ∀ x ∈ xs, Flat n x) : Flat (n + 1) (.tuple xs) := by
  obtain ⟨h1, h2⟩ := flatAll xs h
  exact ⟨by simp [PyData.canLay0, h1], by simp [PyData.depth]; omega⟩
theorem flat_bools (bs : List Bool) : Flat 2 (boolsD bs) := flat_list fun x hx => by
  obtain ⟨b, _, rfl⟩ := List.mem_map.mp hx; exact flat_bool b
theorem flat_pair {a b : PyData} (ha : Flat 1 a) (hb : Flat 1 b) : Flat 2 (.tuple [a, b]) := flat_tuple fun x hx => by
  simp at hx; rcases hx with rfl | rfl
  · exact ha
  · exact hb
theorem flat_worth (i : Ins) : Flat 1 i.worth := by cases i <;> first | exact flat_int _ | exact flat_str | exact flat_none
theorem flat_dat (i : Ins) : Flat 2 i.dat := flat_pair (flat_op i) (flat_worth i)
theorem flat_code (c : List Ins) : Flat 3 (codeD c) := flat_list fun x hx => by
  obtain ⟨b, _, rfl⟩ := List.mem_map.mp hx; exact flat_dat b

section
variable {prog : Program} {w : World} {A : Around} {F : Frm} {σ : St}
theorem o_jumps {i : Ins} {Q : X → St → Prop} (hu : A.units + 64 < cLine) (h : Q (.d (.bool i.goal.isSome)) σ) : V2 (model prog w) A F (compareOp .In) (.d (.str i.op)) (.d jumpsD) σ Q :=
  o_int hu (flat_op i).shaped (canAll [_, _, _] fun x hx => by simp at hx; rcases hx with rfl | rfl | rfl <;> exact flat_str) (Nat.le_trans (flat_op i).2 (by decide)) (by rw [any_jumps]; exact h)

theorem lin_of {scope : Scope} {cl : List (Str × Addr)} {us : List Str} {cs : List (Str × X)} (hus : ∀ u ∈ us, (relabel scope F.env).names.lookup u = some .local)
    (hcs : ∀ p ∈ cs, (relabel scope F.env).names.lookup p.1 = some .cell ∧ F.env.kindOf p.1 = some .cell ∧ p ∈ σ.loc ∧ cl.lookup p.1 = F.env.cells.lookup p.1) (hnd : (us ++ cs.map (·.1)).Nodup) :
    LinOk F scope cl (us.map (fun u => (u, X.un)) ++ cs) σ where
  loc := fun p hp hk => by
    rcases List.mem_append.mp hp with hp | hp
    · obtain ⟨u, _, rfl⟩ := List.mem_map.mp hp; trivial
    · rw [(hcs p hp).1] at hk; cases hk
  cell := fun p hp hk => by
    rcases List.mem_append.mp hp with hp | hp
    · obtain ⟨u, hu, rfl⟩ := List.mem_map.mp hp
      rw [hus u hu] at hk; cases hk
    · exact (hcs p hp).2
  nd := by
    rw [List.map_append, List.map_map]
    have : us.map ((fun p : Str × X => p.1) ∘ fun u => (u, X.un)) = us := List.map_id _
    rw [this]; exact hnd
theorem falses_turn {n : Str} {p p' : Pos} {k : Nat} {scope : Scope} {cl : List (Str × Addr)} {its : List PyData} {own0 : List (Addr × List PyData)} (hk : ∀ C D Is, (F.comp scope cl C D Is).env.kindOf n = some .local) (hs : ∀ C D Is, (F.comp scope cl C D Is).env.scope.kind = .function) :
    CompTurn prog w A F (.Name n p) (.Constant (.bool false) k p') [] scope cl [(".0", .un), (n, .un)] its (fun i es own => es = List.replicate i (.bool false) ∧ own = own0) := by
  rintro C D Is i d es own _ ⟨rfl, rfl⟩
  refine a_loc (.tail .head) ?_ List.mem_cons_self (hk _ _ _) (hs _ _ _)
  refine ts_nil ?_
  rw [if_pos rfl]
  refine c_bool ⟨_, own, rfl, ⟨?_, List.Sublist.refl _⟩, ?_, rfl⟩
  · exact .same (.un .nil)
  · rw [List.replicate_succ']
end

theorem targetsAt_succ {c : List Ins} {i : Nat} {x : Ins} (h : c[i]? = some x) : targetsAt c (i + 1) = (match x.goal with | some g => (targetsAt c i).set g true | none => targetsAt c i) := by
  unfold targetsAt
  rw [List.take_add_one, h, Option.toList_some, List.foldl_append]
  rfl
theorem targetsAt_length (c : List Ins) (i : Nat) : (targetsAt c i).length = c.length + 1 := by
  unfold targetsAt
  generalize c.take i = l
  have : ∀ (l : List Ins) (bs : List Bool), (l.foldl (fun bs i => match i.goal with | some g => bs.set g true | none => bs) bs).length = bs.length := by
    intro l
    induction l with
    | nil => intro bs; rfl
    | cons a l ih =>
      intro bs
      rw [List.foldl_cons, ih]
      split <;> simp
  rw [this]; simp
section
variable {prog : Program} {w : World} {A : Around} {F : Frm} {σ : St}
theorem e_and2 {e1 e2 : Expr} {pos : Pos} {Q : X → St → Prop}
    (h : WV (model prog w) A F (eval e1 F.env) σ (fun x σ₁ => ∃ b, x = .d (.bool b) ∧ if b = true then WV (model prog w) A F (eval e2 F.env) σ₁ Q else Q (.d (.bool false)) σ₁)) : WV (model prog w) A F (eval (.BoolOp .And [e1, e2] pos) F.env) σ Q := fun s f => by
  refine BoolOp_and (wpAny_mono (h s f) (fun v s₁ p => ?_) fun _ _ z => z)
  obtain ⟨_, σ₁, r₁, f₁, g₁, e₁, b, rfl, q⟩ := p
  obtain ⟨_, r₁⟩ := r₁
  cases r₁
  refine wpAny_truthy_bool ?_
  cases b
  · exact ⟨.d _, σ₁, ⟨_, .bool _⟩, f₁, g₁, e₁, q⟩
  · exact BoolOp_one (wp_back g₁ e₁ (q s₁ f₁))
theorem e_not {x : Expr} {pos : Pos} {Q : X → St → Prop} (h : WV (model prog w) A F (eval x F.env) σ (fun x σ₁ => ∃ b, x = .d (.bool b) ∧ Q (.d (.bool (!b))) σ₁)) : WV (model prog w) A F (eval (.UnaryOp .Not x pos) F.env) σ Q := fun s f => by
  refine UnaryOp_ (wpAny_mono (h s f) (fun v s₁ p => ?_) fun _ _ z => z)
  obtain ⟨_, σ₁, r₁, f₁, g₁, e₁, b, rfl, q⟩ := p
  obtain ⟨_, r₁⟩ := r₁
  cases r₁
  exact not_of (wpAny_truthy_bool ⟨.d _, σ₁, ⟨_, .bool _⟩, f₁, g₁, e₁, q⟩)

theorem x_swap2 {elts : List Expr} {e1 e2 : Expr} {k kv : Nat} {tpos vpos pos : Pos} {n1 n2 : Str} {Q : Fl → St → Prop} (hA : A.handled = none)
    (h : WV (model prog w) A F (eval e1 F.env) σ (fun x σ₁ => WV (model prog w) A F (eval e2 F.env) σ₁ (fun y σ₂ => A1 (model prog w) A F (fun v => bindName F.env n2 v) y σ₂ (fun _ σ₃ => A1 (model prog w) A F (fun v => bindName F.env n1 v) x σ₃ (fun _ σ₄ => Q .next σ₄)))))
    (hw : swappedStores [.Tuple elts k tpos] (.Tuple [e1, e2] kv vpos) F.env = pure (some [n1, n2]))
    (h1 : starEach [e1, e2] F.env = (false, eval e1 F.env) :: starEach [e2] F.env) (h2 : starEach [e2] F.env = (false, eval e2 F.env) :: starEach [] F.env) : WF (model prog w) A F (exec (.Assign [.Tuple elts k tpos] (.Tuple [e1, e2] kv vpos) pos) F.env) σ Q :=
  x_swap (names := [n1, n2]) hA (l_cons (W.mono h fun x σ₁ q => l_cons (W.mono q fun y σ₂ q => l_nil ⟨rfl, al_cons (W1.mono' q fun _ σ₃ q => al_cons (W1.mono' q fun _ σ₄ q => al_nil q))⟩) h2) h1) hw (by simp)
theorem x_swap3 {elts : List Expr} {e1 e2 e3 : Expr} {k kv : Nat} {tpos vpos pos : Pos} {n1 n2 n3 : Str} {Q : Fl → St → Prop} (hA : A.handled = none)
    (h : WV (model prog w) A F (eval e1 F.env) σ (fun x σ₁ => WV (model prog w) A F (eval e2 F.env) σ₁ (fun y σ₂ => WV (model prog w) A F (eval e3 F.env) σ₂ (fun z σ₃ => A1 (model prog w) A F (fun v => bindName F.env n3 v) z σ₃ (fun _ σ₄ => A1 (model prog w) A F (fun v => bindName F.env n2 v) y σ₄ (fun _ σ₅ => A1 (model prog w) A F (fun v => bindName F.env n1 v) x σ₅ (fun _ σ₆ => Q .next σ₆)))))))
    (hw : swappedStores [.Tuple elts k tpos] (.Tuple [e1, e2, e3] kv vpos) F.env = pure (some [n1, n2, n3]))
    (h1 : starEach [e1, e2, e3] F.env = (false, eval e1 F.env) :: starEach [e2, e3] F.env) (h2 : starEach [e2, e3] F.env = (false, eval e2 F.env) :: starEach [e3] F.env) (h3 : starEach [e3] F.env = (false, eval e3 F.env) :: starEach [] F.env) : WF (model prog w) A F (exec (.Assign [.Tuple elts k tpos] (.Tuple [e1, e2, e3] kv vpos) pos) F.env) σ Q :=
  x_swap (names := [n1, n2, n3]) hA (l_cons (W.mono h fun x σ₁ q => l_cons (W.mono q fun y σ₂ q => l_cons (W.mono q fun z σ₃ q => l_nil ⟨rfl, al_cons (W1.mono' q fun _ σ₄ q => al_cons (W1.mono' q fun _ σ₅ q => al_cons (W1.mono' q fun _ σ₆ q => al_nil q)))⟩) h3) h2) h1) hw (by simp)
theorem x_tups4 {t1 t2 t3 t4 e1 e2 e3 e4 : Expr} {k kv : Nat} {tpos vpos pos : Pos} {Q : Fl → St → Prop} (hA : A.handled = none)
    (h : WV (model prog w) A F (eval e1 F.env) σ (fun x1 σ₁ => WV (model prog w) A F (eval e2 F.env) σ₁ (fun x2 σ₂ => WV (model prog w) A F (eval e3 F.env) σ₂ (fun x3 σ₃ => WV (model prog w) A F (eval e4 F.env) σ₃ (fun x4 σ₄ =>
      A1 (model prog w) A F (assign t1 F.env) x1 σ₄ (fun _ σ₅ => A1 (model prog w) A F (assign t2 F.env) x2 σ₅ (fun _ σ₆ => A1 (model prog w) A F (assign t3 F.env) x3 σ₆ (fun _ σ₇ => A1 (model prog w) A F (assign t4 F.env) x4 σ₇ (fun _ σ₈ => Q .next σ₈)))))))))
    (hw : swappedStores [.Tuple [t1, t2, t3, t4] k tpos] (.Tuple [e1, e2, e3, e4] kv vpos) F.env = pure none)
    (ha : assignEach [t1, t2, t3, t4] F.env = [(false, assign t1 F.env), (false, assign t2 F.env), (false, assign t3 F.env), (false, assign t4 F.env)])
    (h1 : starEach [e1, e2, e3, e4] F.env = (false, eval e1 F.env) :: starEach [e2, e3, e4] F.env) (h2 : starEach [e2, e3, e4] F.env = (false, eval e2 F.env) :: starEach [e3, e4] F.env) (h3 : starEach [e3, e4] F.env = (false, eval e3 F.env) :: starEach [e4] F.env) (h4 : starEach [e4] F.env = (false, eval e4 F.env) :: starEach [] F.env) :
    WF (model prog w) A F (exec (.Assign [.Tuple [t1, t2, t3, t4] k tpos] (.Tuple [e1, e2, e3, e4] kv vpos) pos) F.env) σ Q := by
  refine x_tups hA ?_ hw (by rw [ha]; simp) (by rw [ha]; rfl)
  rw [ha]
  exact (l_cons (W.mono h fun x σ₁ q => l_cons (W.mono q fun y σ₂ q => l_cons (W.mono q fun z σ₃ q => l_cons (W.mono q fun u σ₄ q => l_nil ⟨rfl, al_cons (W1.mono' q fun _ σ₅ q => al_cons (W1.mono' q fun _ σ₆ q => al_cons (W1.mono' q fun _ σ₇ q => al_cons (W1.mono' q fun _ σ₈ q => al_nil q))))⟩) h4) h3) h2) h1)
theorem lin_of2 {scope : Scope} {cl : List (Str × Addr)} {us ns : List Str} {cs : List (Str × X)} (hus : ∀ u ∈ us, (relabel scope F.env).names.lookup u = some .local)
    (hcs : ∀ p ∈ cs, (relabel scope F.env).names.lookup p.1 = some .cell ∧ F.env.kindOf p.1 = some .cell ∧ p ∈ σ.loc ∧ cl.lookup p.1 = F.env.cells.lookup p.1) (hn : cs.map (·.1) = ns) (hnd : (us ++ ns).Nodup) :
    LinOk F scope cl (us.map (fun u => (u, X.un)) ++ cs) σ := lin_of hus hcs (by rw [hn]; exact hnd)
theorem s_code {value slice : Expr} {c : List Ins} {i : Nat} {x : Ins} {Q : X → St → Prop} (hx : c[i]? = some x) (hc : c.length ≤ 1000) (h : Q (.d (.tuple [.str x.op, x.worth])) σ)
    (hs : ∀ o i, subscripted slice false o i = operate [o, i] (getItem o i) := by intro o i; rfl) : V2 (model prog w) A F (subscriptTail value slice) (.d (codeD c)) (.d (.int (i : Int))) σ Q := by
  have hi := (List.getElem?_eq_some_iff.mp hx).1
  exact s_list (by omega) (by omega) (by simpa using dat_get hx) h hs
theorem s_bools {value slice : Expr} {bs : List Bool} {i : Nat} {b : Bool} {Q : X → St → Prop} (hx : bs[i]? = some b) (hc : bs.length ≤ 2000) (h : Q (.d (.bool b)) σ)
    (hs : ∀ o i, subscripted slice false o i = operate [o, i] (getItem o i) := by intro o i; rfl) : V2 (model prog w) A F (subscriptTail value slice) (.d (boolsD bs)) (.d (.int (i : Int))) σ Q := by
  have hi := (List.getElem?_eq_some_iff.mp hx).1
  exact s_list (by omega) (by omega) (by simp [hx]) h hs
theorem s_boolso {value slice : Expr} {a : Addr} {bs : List Bool} {i : Nat} {b : Bool} {Q : X → St → Prop} (hm : (a, bs.map PyData.bool) ∈ σ.own) (hx : bs[i]? = some b) (hc : bs.length ≤ 2000) (h : Q (.d (.bool b)) σ)
    (hs : ∀ o i, subscripted slice false o i = operate [o, i] (getItem o i) := by intro o i; rfl) : V2 (model prog w) A F (subscriptTail value slice) (.own a) (.d (.int (i : Int))) σ Q := by
  have hi := (List.getElem?_eq_some_iff.mp hx).1
  exact s_own hm (by omega) (by omega) (by simp [hx]) h hs
theorem s_ints {value slice : Expr} {ns : List Nat} {i n : Nat} {Q : X → St → Prop} (hx : ns[i]? = some n) (hc : ns.length ≤ 2000) (h : Q (.d (.int (n : Int))) σ)
    (hs : ∀ o i, subscripted slice false o i = operate [o, i] (getItem o i) := by intro o i; rfl) : V2 (model prog w) A F (subscriptTail value slice) (.d (.list (ns.map fun (n : Nat) => PyData.int (n : Int)))) (.d (.int (i : Int))) σ Q := by
  have hi := (List.getElem?_eq_some_iff.mp hx).1
  exact s_list (by omega) (by omega) (by simp [hx]) h hs
theorem s_fst {value slice : Expr} {d e : PyData} {Q : X → St → Prop} (h : Q (.d d) σ)
    (hs : ∀ o i, subscripted slice false o i = operate [o, i] (getItem o i) := by intro o i; rfl) : V2 (model prog w) A F (subscriptTail value slice) (.d (.tuple [d, e])) (.d (.int 0)) σ Q := s_tup (k := 0) (by omega) rfl h hs
theorem s_snd {value slice : Expr} {d e : PyData} {Q : X → St → Prop} (h : Q (.d e) σ)
    (hs : ∀ o i, subscripted slice false o i = operate [o, i] (getItem o i) := by intro o i; rfl) : V2 (model prog w) A F (subscriptTail value slice) (.d (.tuple [d, e])) (.d (.int 1)) σ Q := s_tup (k := 1) (by omega) rfl h hs

noncomputable def Ins.isJump : Ins → Bool
  | .jump _ => true
  | _ => false
theorem eqv_jump (i : Ins) : PyData.eqv (.str i.op) (.str "jump") = i.isJump := by cases i <;> rfl
theorem o_jump {i : Ins} {Q : X → St → Prop} (hu : A.units + 64 < cLine) (h : Q (.d (.bool i.isJump)) σ) : V2 (model prog w) A F (compareOp .Eq) (.d (.str i.op)) (.d (.str "jump")) σ Q :=
  o_eq hu (flat_op i).shaped (flat_str (x := "jump")).shaped (by rw [eqv_jump]; exact h)
theorem o_njump {i : Ins} {Q : X → St → Prop} (hu : A.units + 64 < cLine) (h : Q (.d (.bool (!i.isJump))) σ) : V2 (model prog w) A F (compareOp .NotEq) (.d (.str i.op)) (.d (.str "jump")) σ Q :=
  o_ne hu (flat_op i).shaped (flat_str (x := "jump")).shaped (by rw [eqv_jump]; exact h)
noncomputable def Ins.isWord : Ins → Bool
  | .abort => true
  | .rok => true
  | _ => false
noncomputable def Ins.isAbort : Ins → Bool
  | .abort => true
  | _ => false
theorem eqv_word (i : Ins) : PyData.eqv (.str i.op) (.str "word") = i.isWord := by cases i <;> rfl
theorem o_word {i : Ins} {Q : X → St → Prop} (hu : A.units + 64 < cLine) (h : Q (.d (.bool i.isWord)) σ) : V2 (model prog w) A F (compareOp .Eq) (.d (.str i.op)) (.d (.str "word")) σ Q :=
  o_eq hu (flat_op i).shaped (flat_str (x := "word")).shaped (by rw [eqv_word]; exact h)
theorem o_leaving {i : Ins} {Q : X → St → Prop} (hu : A.units + 64 < cLine) (hw : i.isWord = true) (h : Q (.d (.bool i.isAbort)) σ) : V2 (model prog w) A F (compareOp .In) (.d i.worth) (.d leavingD) σ Q := by
  refine o_int hu (flat_worth i).shaped (canAll [_, _, _] fun x hx => by simp at hx; rcases hx with rfl | rfl | rfl <;> exact flat_str) (Nat.le_trans (flat_worth i).2 (by decide)) ?_
  have e : ([PyData.str "YYERROR", .str "YYABORT", .str "YYACCEPT"].any fun y => PyData.eqv y i.worth) = i.isAbort := by
    cases i <;> first | rfl | (simp [Ins.isWord] at hw)
  rw [e]; exact h
theorem jump_of {i : Ins} (h : i.isJump = true) : ∃ g, i = .jump g := by cases i <;> simp [Ins.isJump] at h; exact ⟨_, rfl⟩
/-- two own lists are seen as data from here on -/
theorem vl_data2 {t : List Value → Sem Value} {a b : Addr} {ds es : List PyData} {Q : X → St → Prop} (e : σ.own = [(b, es), (a, ds)]) (h : VL (model prog w) A F t [.d (.list ds), .d (.list es)] ⟨σ.loc, []⟩ Q) :
    VL (model prog w) A F t [.own a, .own b] σ Q := fun vs s f r => by
  obtain ⟨v, u, rfl, r1, r2⟩ := r.two
  cases (r1 : v = .ref a); cases (r2 : u = .ref b)
  obtain ⟨f₁, g₁, p₁⟩ := f.freeze (pre := []) e
  obtain ⟨f₂, g₂, p₂⟩ := f₁.freeze (pre := []) (post := []) (a := a) (xs := ds) rfl
  refine wpAny_mono (h _ s f₂ (.cons p₂ (.cons (Rep.mono p₁ g₂.vis) .nil))) (fun _ _ p => ?_) fun _ _ z => z
  exact p.back (g₁.trans g₂) (.refl _)
end

noncomputable def Ins.move (f : Nat → Nat) : Ins → Ins
  | .jump g => .jump (f g)
  | .unls g => .unls (f g)
  | .whn g => .whn (f g)
  | i => i
theorem op_move (f : Nat → Nat) (i : Ins) : (i.move f).op = i.op := by cases i <;> rfl
theorem worth_move {f : Nat → Nat} {i : Ins} {g : Nat} (h : i.goal = some g) : (i.move f).worth = .int (f g : Int) := by
  cases i <;> simp [Ins.goal] at h <;> subst h <;> rfl
theorem move_none {f : Nat → Nat} {i : Ins} (h : i.goal = none) : i.move f = i := by
  cases i <;> simp [Ins.goal] at h <;> rfl
noncomputable abbrev natsD (ns : List Nat) : PyData := .list (ns.map fun (n : Nat) => PyData.int (n : Int))
noncomputable def lastLoop (c : List Ins) (goal : Nat) : Nat → Nat → List Bool → Nat
  | 0, here, _ => here
  | k + 1, here, seen => match c[here]? with
    | some (.jump g) => if seen[here]? = some true then goal else lastLoop c goal k g (seen.set here true)
    | _ => here
noncomputable def lastF (c : List Ins) (goal : Nat) : Nat := lastLoop c goal (c.length + 2) goal (List.replicate (c.length + 1) false)
noncomputable def threadedF (c : List Ins) : List Ins := c.map (·.move (lastF c))
noncomputable def behindF (c : List Ins) (here : Nat) : List Nat := match c[here]? with
  | some (.jump g) => [g]
  | some .abort => []
  | some (.unls g) => [here + 1, g]
  | some (.whn g) => [here + 1, g]
  | some _ => [here + 1]
  | none => []
noncomputable def behindX (here : Nat) : Ins → List Nat
  | .jump g => [g]
  | .abort => []
  | .unls g => [here + 1, g]
  | .whn g => [here + 1, g]
  | _ => [here + 1]
theorem behind_at {c : List Ins} {here : Nat} {x : Ins} (h : c[here]? = some x) : behindF c here = behindX here x := by
  unfold behindF; rw [h]; cases x <;> rfl
noncomputable def reachLoop (c : List Ins) : Nat → List Bool → List Nat → List Bool
  | 0, found, _ => found
  | _ + 1, found, [] => found
  | k + 1, found, here :: rest => if found[here]? = some true then reachLoop c k found rest else reachLoop c k (found.set here true) ((behindF c here).reverse ++ rest)
noncomputable def reachF (c : List Ins) : List Bool := reachLoop c (2 * (c.length + 1) + 2) (List.replicate (c.length + 1) false) [0]
noncomputable def closeF (alive : List Bool) (here goal : Nat) : Bool := decide (here < goal) && !((alive.drop (here + 1)).take (goal - (here + 1))).any id
noncomputable def keepF (c : List Ins) (alive : List Bool) (i : Nat) : List Ins := if alive[i]? = some true then
    match c[i]? with
    | some (.jump g) => if closeF alive i g = true then [] else [.jump g]
    | some (.unls g) => if closeF alive i g = true then [.drop] else [.unls g]
    | some (.whn g) => if closeF alive i g = true then [.drop] else [.whn g]
    | some x => [x]
    | none => []
  else []
noncomputable def madeAt (c : List Ins) (alive : List Bool) : Nat → List Ins
  | 0 => []
  | i + 1 => madeAt c alive i ++ keepF c alive i
noncomputable def placesAt (c : List Ins) (alive : List Bool) : Nat → List Nat
  | 0 => []
  | i + 1 => placesAt c alive i ++ [(madeAt c alive i).length]
noncomputable def leanF (c : List Ins) : List Ins := (madeAt c (reachF c) c.length).map (·.move fun g => (placesAt c (reachF c) (c.length + 1)).getD g 0)
noncomputable def aliveStep (c : List Ins) (living : List Bool) (k : Nat) : List Bool := if living[k]? = some true then
    match c[k]? with
    | some (.jump g) => living.set g true
    | some (.unls g) => (living.set g true).set (k + 1) true
    | some (.whn g) => (living.set g true).set (k + 1) true
    | some .abort => living
    | some _ => living.set (k + 1) true
    | none => living
  else living
noncomputable def aliveTo (c : List Ins) (living : List Bool) : Nat → List Bool
  | 0 => living
  | k + 1 => aliveStep c (aliveTo c living k) k
noncomputable def lapsF (c : List Ins) : Nat → List Bool
  | 0 => (List.replicate (c.length + 1) false).set 0 true
  | m + 1 => aliveTo c (lapsF c m) c.length
noncomputable def aliveF (c : List Ins) : List Bool := lapsF c (c.length + 1)
noncomputable def dropD : PyData := .tuple [.str "drop", .none]
noncomputable def closeL (living : List Bool) (here goal : Nat) : Bool := decide (living ≠ []) && decide (here < goal) && !((living.drop (here + 1)).take (goal - (here + 1))).any id
noncomputable def ledLoop (c : List Ins) (choices : List Bool) (living : List Bool) : Nat → Nat → List PyData → Nat → List PyData
  | 0, _, done, _ => done ++ [.str "on"]
  | k + 1, here, done, spent => match c[here]? with
    | none => done
    | some x => if done.length < 14 then
        match x with
        | .jump g => ledLoop c choices living k g done spent
        | .unls g => if closeL living here g = true then ledLoop c choices living k g (done ++ [dropD]) spent
            else ledLoop c choices living k (if choices[spent % choices.length]? = some true then g else here + 1) (done ++ [.tuple [.str "unless", .int (spent : Int)]]) (spent + 1)
        | .whn g => if closeL living here g = true then ledLoop c choices living k g (done ++ [dropD]) spent
            else ledLoop c choices living k (if choices[spent % choices.length]? = some true then g else here + 1) (done ++ [.tuple [.str "when", .int (spent : Int)]]) (spent + 1)
        | .abort => done ++ [Ins.abort.dat]
        | x => ledLoop c choices living k (here + 1) (done ++ [x.dat]) spent
      else done
noncomputable def ledF (c : List Ins) (choices : List Bool) (living : List Bool) : List PyData := ledLoop c choices living 60 0 [] 0
noncomputable def goalLoop (c : List Ins) (goal : Nat) : Nat → Nat → Nat
  | 0, _ => goal
  | k + 1, here => match c[here]? with
    | some (.jump g) => goalLoop c goal k g
    | _ => here
noncomputable def goalF (c : List Ins) (goal : Nat) : Nat := goalLoop c goal (c.length + 1) goal

theorem flat_nats (ns : List Nat) : Flat 2 (natsD ns) := flat_list fun x hx => by
  obtain ⟨b, _, rfl⟩ := List.mem_map.mp hx; exact flat_int _
section
variable {prog : Program} {w : World} {A : Around} {F : Frm} {σ : St}
theorem o_empty {a : Addr} {xs : List PyData} {Q : X → St → Prop} (hu : A.units + 64 < cLine) (hm : (a, xs) ∈ σ.own) {n : Nat} (hd : Flat n (.list xs)) (h : Q (.d (.bool (!xs.isEmpty))) σ) (hn : n ≤ 64 := by decide) :
    V2 (model prog w) A F (compareOp .NotEq) (.own a) (.d (.list [])) σ Q := by
  refine o_ne_own hu hm (hd.shaped hn) (flat_list (n := 1) (xs := []) (fun x hx => by simp at hx)).shaped ?_
  have : PyData.eqv (.list xs) (.list []) = xs.isEmpty := by cases xs <;> rfl
  rw [this]; exact h
end
theorem behind_ok {c : List Ins} (hc : Ok c) {here : Nat} (h : here < c.length) : (behindF c here).length ≤ 2 ∧ ∀ j ∈ behindF c here, j ≤ c.length := by
  obtain ⟨x, hx⟩ : ∃ x, c[here]? = some x := ⟨c[here], by simp [h]⟩
  have hg := hc.goal x (List.mem_of_getElem? hx)
  rw [behind_at hx]
  cases x <;> simp [behindX, Ins.goal] at hg ⊢ <;> omega
theorem made_ok {c : List Ins} (hc : Ok c) (al : List Bool) (i : Nat) : (madeAt c al i).length ≤ i ∧ ∀ x ∈ madeAt c al i, ∀ g, x.goal = some g → g ≤ c.length := by
  induction i with
  | zero => exact ⟨Nat.le_refl _, fun x hx => by simp [madeAt] at hx⟩
  | succ i ih =>
    have key : (keepF c al i).length ≤ 1 ∧ ∀ x ∈ keepF c al i, ∀ g, x.goal = some g → g ≤ c.length := by
      unfold keepF
      split
      · split
        · rename_i g e
          have := hc.goal _ (List.mem_of_getElem? e) g rfl
          split <;> simp [Ins.goal]; omega
        · rename_i g e
          have := hc.goal _ (List.mem_of_getElem? e) g rfl
          split <;> simp [Ins.goal]; omega
        · rename_i g e
          have := hc.goal _ (List.mem_of_getElem? e) g rfl
          split <;> simp [Ins.goal]; omega
        · rename_i x e _ _ _
          refine ⟨by simp, fun y hy g hg => ?_⟩
          simp at hy; subst hy
          exact hc.goal _ (List.mem_of_getElem? (by assumption)) g hg
        · simp
      · simp
    refine ⟨by simp [madeAt]; omega, fun x hx => ?_⟩
    rcases List.mem_append.mp hx with hx | hx
    · exact ih.2 x hx
    · exact key.2 x hx
theorem places_length (c : List Ins) (al : List Bool) (i : Nat) : (placesAt c al i).length = i := by
  induction i with
  | zero => rfl
  | succ i ih => simp [placesAt, ih]
theorem reachLoop_length (c : List Ins) : ∀ (k : Nat) (found : List Bool) (rest : List Nat), (reachLoop c k found rest).length = found.length
  | 0, _, _ => rfl
  | _ + 1, _, [] => rfl
  | k + 1, found, here :: rest => by
    unfold reachLoop
    split
    · exact reachLoop_length c k _ _
    · rw [reachLoop_length c k]; simp
theorem reachF_length (c : List Ins) : (reachF c).length = c.length + 1 := by unfold reachF; rw [reachLoop_length]; simp

theorem aliveStep_length (c : List Ins) (l : List Bool) (k : Nat) : (aliveStep c l k).length = l.length := by
  unfold aliveStep
  split
  · split <;> simp
  · rfl
theorem aliveTo_length (c : List Ins) (l : List Bool) : ∀ k, (aliveTo c l k).length = l.length
  | 0 => rfl
  | k + 1 => by rw [aliveTo, aliveStep_length, aliveTo_length c l k]
theorem lapsF_length (c : List Ins) : ∀ m, (lapsF c m).length = c.length + 1
  | 0 => by simp [lapsF]
  | m + 1 => by rw [lapsF, aliveTo_length, lapsF_length c m]

theorem step_at {c : List Ins} {l : List Bool} {k : Nat} {x : Ins} (hx : c[k]? = some x) (hb : l[k]? = some true) :
    aliveStep c l k = (if x.isJump || x.isAbort then (match x.goal with | some g => l.set g true | none => l) else (match x.goal with | some g => l.set g true | none => l).set (k + 1) true) := by
  unfold aliveStep
  rw [if_pos hb, hx]
  cases x <;> rfl
section
variable {prog : Program} {w : World} {A : Around} {F : Frm} {σ : St}
theorem eqv_abort (i : Ins) : PyData.eqv (.tuple [.str i.op, i.worth]) (.tuple [.str "word", .str "YYABORT"]) = i.isAbort := by cases i <;> rfl
theorem flat_abortD : Flat 2 (.tuple [.str "word", .str "YYABORT"]) := flat_pair flat_str flat_str
theorem o_nabort {i : Ins} {Q : X → St → Prop} (hu : A.units + 64 < cLine) (h : Q (.d (.bool (!i.isAbort))) σ) : V2 (model prog w) A F (compareOp .NotEq) (.d (.tuple [.str i.op, i.worth])) (.d (.tuple [.str "word", .str "YYABORT"])) σ Q :=
  o_ne hu (flat_dat i).shaped flat_abortD.shaped (by rw [eqv_abort]; exact h)
theorem o_abort {i : Ins} {Q : X → St → Prop} (hu : A.units + 64 < cLine) (h : Q (.d (.bool i.isAbort)) σ) : V2 (model prog w) A F (compareOp .Eq) (.d (.tuple [.str i.op, i.worth])) (.d (.tuple [.str "word", .str "YYABORT"])) σ Q :=
  o_eq hu (flat_dat i).shaped flat_abortD.shaped (by rw [eqv_abort]; exact h)
end

noncomputable def keepX (al : List Bool) (i : Nat) : Ins → List Ins
  | .jump g => if closeF al i g = true then [] else [.jump g]
  | .unls g => if closeF al i g = true then [.drop] else [.unls g]
  | .whn g => if closeF al i g = true then [.drop] else [.whn g]
  | x => [x]
theorem keep_at {c : List Ins} {al : List Bool} {i : Nat} {x : Ins} (hx : c[i]? = some x) (hb : al[i]? = some true) : keepF c al i = keepX al i x := by
  unfold keepF
  rw [if_pos hb, hx]
  cases x <;> rfl
theorem keep_dead {c : List Ins} {al : List Bool} {i : Nat} (hb : al[i]? = some false) : keepF c al i = [] := by
  unfold keepF
  rw [if_neg (by rw [hb]; decide)]
theorem keepX_some {al : List Bool} {i g : Nat} {x : Ins} (hg : x.goal = some g) (hj : x.isJump = false) : keepX al i x = if closeF al i g = true then [.drop] else [x] := by
  cases x <;> simp [Ins.goal, Ins.isJump] at hg hj <;> subst hg <;> rfl
theorem keepX_none {al : List Bool} {i : Nat} {x : Ins} (hg : x.goal = none) : keepX al i x = [x] := by
  cases x <;> simp [Ins.goal] at hg <;> rfl
local macro_rules | `(tactic| walk_at $w:str) => do
  let rules : List (String × String) := [
    ("m gv", "!TopAt.gv;t:a;hB:r;hg:r;e:r"),
    ("m bv", "!TopAt.bv;t:a;hB:r;hg:r;hb:r;e:r;e':r;hn:z"),
    ("m fn", "!TopAt.fn;t:a;hB:r;e:r"),
    ("m name", "n_loc;hk:r;hm:m mem;hu:i;hs:r;hd:r|n_cell;hk:r;hm:m mem;hu:i;hs:r;hd:r"),
    ("m to", "a_loc;hk:r;p:m put;hF:h;hs:r|a_cell;hk:r;p:m put;hF:m cellF;hs:r|b_loc;hk:r;p:m put;hF:h;hs:r"),
    ("m callB", "e_callB;g:m bv;hk:r;hs:r;hd:r;he:r;hplain:r"),
    ("m callT", "e_callT;g:m bv;hk:r;hs:r;hd:r;he:r;hplain:r"),
    ("m callF", "e_callF;g:m gv;hf:m fn;hk:r;hs:r;hd:r;he:r"),
    ("m range", "i_range;hA:m room;g:m bv;hk:r;hs:r;hd:r;he:r"),
    ("m gvd", "n_globd;hk:r;g:m gv;hs:r;hd:r"),
    ("m3", "l_cons;he:r|e_cmp;hm:r|t_cmp;hm:r"),
    ("m4", "x_setitem;hs:r"),
    ("m2", "ex_bool|e_and2|e_not|then_next|then_ret|then_cont|te_next|te_cont|te_ret|x_nil|x_cons|x_if|x_ret|x_cont|c_int|c_str|c_bool|c_none|e_bin|e_slice|p_none|p_some|e_sub|e_tup|e_if|l_nil|t_not|t_and|t_or|and_nil|and_cons|or_nil|or_cons|o_add|o_sub|o_lt|o_gt|o_ge")]
  match rules.lookup w.getString with
  | none => Lean.Macro.throwUnsupported
  | some e =>
    let alts ← (e.splitOn "|").toArray.mapM fun a => do
      match a.splitOn ";" with
      | [n] => `(tacticSeq| with_reducible refine $(Lean.mkIdent (`Mine ++ n.toName)) ?_)
      | n :: cs =>
        let t ← if n.startsWith "!" then `(tactic| apply $(Lean.mkIdent (`Mine ++ (n.drop 1).toString.toName))) else `(tactic| with_reducible apply $(Lean.mkIdent (`Mine ++ n.toName)))
        let ts ← cs.toArray.mapM fun c => do
          let (x, y) := match c.splitOn ":" with | [x, y] => (x, y) | _ => (c, "")
          let t ← if y == "r" then `(tactic| rfl) else if y == "a" then `(tactic| assumption) else if y == "z" then `(tactic| decide)
            else if y == "i" then `(tactic| exact id) else if y == "h" then `(tactic| exact List.mem_cons_self) else `(tactic| walk_at $(Lean.quote y))
          `(tactic| case $(Lean.mkIdent x.toName):ident => $t:tactic)
        let all := #[t] ++ ts
        `(tacticSeq| $[$all:tactic]*)
      | [] => Lean.Macro.throwUnsupported
    `(tactic| first $[| $alts]*)
local macro_rules | `(tactic| walk_at "m mem") => `(tactic| repeat (first | with_reducible exact List.mem_cons_self | with_reducible apply List.mem_cons_of_mem))
local macro_rules | `(tactic| walk_at "m put") => `(tactic| repeat (first | with_reducible exact Put.head | with_reducible apply Put.tail))
local macro_rules | `(tactic| walk_at "m upd") => `(tactic| repeat (first | with_reducible exact Upd.head | with_reducible apply Upd.tail))
local macro_rules | `(tactic| walk_at "m cellF") => `(tactic| exact fun c hc => List.mem_cons_of_mem _ (List.mem_map.mpr ⟨_, mem_of_lookup hc, rfl⟩))
local macro_rules | `(tactic| walk_at "m room") => `(tactic| exact Room.handled (by assumption))
local macro_rules | `(tactic| walk_at "m set") => `(tactic| (refine x_set ?_ rfl rfl rfl; walk_at "m"))
local macro_rules | `(tactic| walk_at "m1") => `(tactic| first
  | with_reducible refine if_t rfl ?_
  | with_reducible refine if_f rfl ?_
  | walk_at "m2"
  | walk_at "m3"
  | walk_at "m name"
  | walk_at "m to"
  | walk_at "m4"
  | (walk_at "m gvd"; (case hr => first | exact TopAt.rjumps (by assumption) | exact TopAt.rleaving (by assumption))))
local macro_rules | `(tactic| walk_at "m weak") => `(tactic| repeat (first | with_reducible exact WeakL.nil | with_reducible apply WeakL.same | with_reducible apply WeakL.un))
local macro_rules | `(tactic| walk_at "m lenc") => `(tactic| (walk_at "m callB"; walk_at "m"; refine v_len (by simp; omega) ?_))
local macro_rules | `(tactic| walk_at "m") => `(tactic| repeat (walk_at "m1"))
section
variable {P : Params} {B : Heap} {prog : Program} {w : World}
theorem targets_spec (t : TopAt P B) (c : List Ins) (hc : Ok c) : PureSpec prog w B 3 21 [codeD c] (boolsD (targetsF c)) := by
  refine pure_spec' (D_targets t) rfl (loc := [("code", .d (codeD c)), ("found", .un), ("op", .un), ("worth", .un)]) rfl fun L far A hA => ?_
  refine x_cons ?_
  refine x_comp (cl := []) ?ok ?h rfl rfl (by intro _; rfl)
  case ok => exact ⟨rfl, by decide, rfl, by decide, (fun q hq => nomatch hq), .nil⟩
  case h =>
    walk_at "m range"
    walk_at "m1"
    walk_at "m callB"
    walk_at "m1"
    walk_at "m1"
    walk_at "m1"
    refine v_len (by simp; have := hc.small; omega) ?_
    walk_at "m1"
    walk_at "m1"
    refine ⟨c.length + 1, by simp, by have := hc.small; omega, _, _, lin_of (us := [".0", "at"]) (cs := []) (List.forall_mem_cons.mpr ⟨rfl, List.forall_mem_cons.mpr ⟨rfl, fun _ h => nomatch h⟩⟩) (fun _ h => nomatch h) (by decide), by rw [rangeD_length]; have := hc.small; omega, ⟨rfl, rfl⟩, falses_turn (fun _ _ _ => rfl) (fun _ _ _ => rfl), ?_⟩
    rintro a es own C ⟨rfl, rfl⟩
    rw [rangeD_length]
    walk_at "m"
    dsimp only
    refine x_for (i_list hA.handled ?_) (by intro _; rfl)
    walk_at "m"
    refine ⟨_, rfl, fun i σ => σ = ⟨[("code", .d (codeD c)), ("found", .own a), ("op", .un), ("worth", .un)], [(a, (targetsAt c i).map .bool)]⟩, ?_, ?_, ?_⟩
    · simp [targetsAt]
    · rintro Is i d σ' hd rfl
      obtain ⟨x, hx, rfl⟩ := get_dat hd
      refine a_tup2 hA.handled ?_ rfl
      walk_at "m"
      refine o_jumps hA.eq ?_
      walk_at "m"
      have hi : i < c.length := (List.getElem?_eq_some_iff.mp hx).1
      cases hg : x.goal with
      | none =>
        walk_at "m"
        refine ⟨_, ?_, rfl⟩
        refine ⟨by walk_at "m weak", ?_⟩
        rw [targetsAt_succ hx, hg]
        exact List.Sublist.refl _
      | some g =>
        walk_at "m"
        have hgl := hc.goal x (List.mem_of_getElem? hx) g hg
        have hsm := hc.small
        refine ⟨_, _, _, _, _, rfl, rfl, congrArg X.d (worth_of hg), by omega, by omega, by simp [targetsAt_length]; omega, .head, ?_⟩
        walk_at "m"
        refine ⟨_, ?_, rfl⟩
        refine ⟨by walk_at "m weak", ?_⟩
        rw [targetsAt_succ hx, hg]
        simp [List.map_set]
    · rintro _ rfl
      walk_at "m"
      refine .inr ⟨a, _, [], [], rfl, ?_, rfl⟩
      simp [targetsAt, targetsF]
end
section
variable {P : Params} {B : Heap} {prog : Program} {w : World}
theorem close_spec (t : TopAt P B) (bs : List Bool) (i g : Nat) (hb : bs.length ≤ 2000) (hg : g ≤ bs.length) : PureSpec prog w B 2 62 [boolsD bs, .int (i : Int), .int (g : Int)] (.bool (closeF bs i g)) := by
  refine pure_spec' (D_close t) rfl (loc := [("alive", .d (boolsD bs)), ("at", .d (.int (i : Int))), ("goal", .d (.int (g : Int)))]) rfl fun L far A hA => ?_
  refine x_cons ?_
  walk_at "m"
  by_cases h : i < g
  · refine if_t (by simpa using h) ?_
    walk_at "m"
    walk_at "m callB"
    walk_at "m"
    refine ⟨_, rfl, line_ok (by simp; omega), ?_⟩
    walk_at "m"
    refine ⟨_, rfl, ?_⟩
    walk_at "m"
    refine ⟨_, rfl, ?_⟩
    refine ⟨⟨by omega, by omega, by simp; omega⟩, ?_⟩
    walk_at "m"
    have e : cut (bs.map PyData.bool) (some ((i : Int) + 1)) (some (g : Int)) = ((bs.drop (i + 1)).take (g - (i + 1))).map PyData.bool := by
      unfold cut
      simp only [List.map_take, List.map_drop]
      rfl
    rw [e]
    refine v_any hA.handled ?_
    walk_at "m"
    refine .inl ?_
    simp [closeF, h]
  · refine if_f (by simpa using h) ?_
    walk_at "m"
    refine .inl ?_
    simp [closeF, h]

theorem behind_spec (t : TopAt P B) (c : List Ins) (hc : Ok c) (i : Nat) (hi : i < c.length) : NewSpec prog w B 2 43 [codeD c, .int (i : Int)] ((behindF c i).map fun (n : Nat) => PyData.int (n : Int)) := by
  refine new_spec' (D_behind t) rfl (loc := [("code", .d (codeD c)), ("at", .d (.int (i : Int))), ("op", .un), ("worth", .un)]) rfl fun L far A hA => ?_
  refine x_cons ?_
  obtain ⟨x, hx⟩ : ∃ x, c[i]? = some x := ⟨c[i], by simp [hi]⟩
  refine x_unp ?_
  walk_at "m"
  refine s_code hx hc.small ?_
  refine a_tup2 hA.handled ?_ rfl
  walk_at "m"
  refine o_jump hA.eq ?_
  walk_at "m"
  rw [behind_at hx]
  cases h1 : x.isJump with
  | true =>
    walk_at "m"
    obtain ⟨g, rfl⟩ := jump_of h1
    refine e_listo ?_
    walk_at "m"
    exact ⟨[_], rfl, line_ok (by simp), fun a => ⟨a, rfl, .head _⟩⟩
  | false =>
    walk_at "m"
    refine o_word hA.eq ?_
    walk_at "m"
    cases h2 : x.isWord with
    | true =>
      walk_at "m"
      refine o_leaving hA.eq h2 ?_
      walk_at "m"
      cases h3 : x.isAbort with
      | true =>
        walk_at "m"
        refine e_listo ?_
        walk_at "m"
        refine ⟨[], rfl, line_ok (by simp), fun a => ⟨a, rfl, ?_⟩⟩
        cases x <;> simp [Ins.isAbort] at h3
        exact .head _
      | false =>
        walk_at "m"
        refine o_jumps hA.eq ?_
        walk_at "m"
        have hg : x.goal = none := by cases x <;> simp [Ins.isWord] at h2 <;> rfl
        rw [hg]
        walk_at "m"
        refine e_listo ?_
        walk_at "m"
        refine ⟨[_], rfl, line_ok (by simp), fun a => ⟨a, rfl, ?_⟩⟩
        cases x <;> simp [Ins.isWord, Ins.isAbort] at h2 h3
        exact .head _
    | false =>
      walk_at "m"
      refine o_jumps hA.eq ?_
      walk_at "m"
      cases hg : x.goal with
      | none =>
        refine if_f rfl ?_
        walk_at "m"
        refine e_listo ?_
        walk_at "m"
        refine ⟨[_], rfl, line_ok (by simp), fun a => ⟨a, rfl, ?_⟩⟩
        cases x <;> simp [Ins.isWord, Ins.isJump, Ins.goal] at h2 h1 hg <;> exact .head _
      | some g =>
        refine if_t rfl ?_
        walk_at "m"
        refine e_listo ?_
        walk_at "m"
        refine ⟨[_, _], by rw [worth_of hg]; rfl, line_ok (by simp), fun a => ⟨a, rfl, ?_⟩⟩
        cases x <;> simp [Ins.isWord, Ins.isJump, Ins.goal] at h2 h1 hg <;> subst hg <;> exact .head _
theorem places_spec (t : TopAt P B) (c : List Ins) (pl : List Nat) (hc : c.length ≤ 1000) (hp : pl.length ≤ 2000) (hg : ∀ i ∈ c, ∀ g, i.goal = some g → g < pl.length) :
    PureSpec prog w B 2 26 [codeD c, natsD pl] (codeD (c.map (·.move fun g => pl.getD g 0))) := by
  refine pure_spec' (D_places t) rfl (loc := [("code", .d (codeD c)), ("places", .d (natsD pl))]) rfl fun L far A hA => ?_
  refine x_cons ?_
  refine x_ret ?_
  refine e_comp (cl := [("places", L + 1)]) ?ok ?h (by intro _; rfl)
  case ok => exact ⟨rfl, by decide, rfl, by decide, (fun q hq => by rw [List.mem_singleton.mp hq]; rfl), by simp⟩
  case h =>
    refine i_list hA.handled ?_
    walk_at "m"
    refine ⟨_, rfl, [(".0", .un), ("op", .un), ("worth", .un), ("places", .d (natsD pl))], fun i es own => es = (c.take i).map (fun x => (x.move fun g => pl.getD g 0).dat) ∧ own = [], lin_of2 (ns := ["places"]) (us := [".0", "op", "worth"]) (cs := [("places", .d (natsD pl))]) (List.forall_mem_cons.mpr ⟨rfl, List.forall_mem_cons.mpr ⟨rfl, List.forall_mem_cons.mpr ⟨rfl, fun _ h => nomatch h⟩⟩⟩) (fun p hp => by rw [List.mem_singleton.mp hp]; exact ⟨rfl, rfl, by walk_at "m mem", rfl⟩) rfl (by decide), by simp; omega, ⟨by simp, rfl⟩, ?_, ?_⟩
    · rintro C D Is i d es own hd ⟨rfl, rfl⟩
      obtain ⟨x, hx, rfl⟩ := get_dat hd
      refine a_tup2 hA.handled ?_ rfl
      walk_at "m"
      refine ts_nil ?_
      walk_at "m"
      refine o_jumps hA.eq ?_
      walk_at "m"
      cases hgx : x.goal with
      | none =>
        walk_at "m"
        refine ⟨[_, _], rfl, line_ok (by simp), _, _, rfl, ⟨by walk_at "m weak", List.Sublist.refl _⟩, ?_, rfl⟩
        rw [List.take_add_one, hx]
        simp [move_none hgx, Ins.dat]
      | some g =>
        have hgl := hg x (List.mem_of_getElem? hx) g hgx
        rw [worth_of hgx]
        walk_at "m"
        refine s_ints (n := pl.getD g 0) (by simp [hgl]) hp ?_
        walk_at "m"
        refine ⟨[_, _], rfl, line_ok (by simp), _, _, rfl, ⟨by walk_at "m weak", List.Sublist.refl _⟩, ?_, rfl⟩
        rw [List.take_add_one, hx]
        simp [Ins.dat, op_move, worth_move hgx]
    · rintro es own ⟨rfl, rfl⟩
      walk_at "m"
      refine .inl ?_
      simp
end
section
variable {P : Params} {B : Heap} {prog : Program} {w : World}
theorem last_spec (t : TopAt P B) (c : List Ins) (hc : Ok c) (g : Nat) (hg : g ≤ c.length) : PureSpec prog w B 2 31 [codeD c, .int (g : Int)] (.int (lastF c g : Int)) := by
  refine pure_spec' (D_last t) rfl (loc := [("code", .d (codeD c)), ("goal", .d (.int (g : Int))), ("at", .un), ("seen", .un)]) rfl fun L far A hA => ?_
  have hsm := hc.small
  refine x_cons ?_
  refine x_swap2 (n1 := "at") (n2 := "seen") hA.handled ?_ rfl rfl rfl
  walk_at "m"
  refine e_compo (cl := []) ⟨rfl, by decide, rfl, by decide, (fun q hq => nomatch hq), .nil⟩ ?_ (by intro _; rfl)
  walk_at "m range"
  walk_at "m"
  walk_at "m lenc"
  walk_at "m"
  refine ⟨c.length + 1, by simp, by omega, [(".0", .un), ("one", .un)], _, lin_of2 (us := [".0", "one"]) (cs := []) (List.forall_mem_cons.mpr ⟨rfl, List.forall_mem_cons.mpr ⟨rfl, fun _ h => nomatch h⟩⟩) (fun _ h => nomatch h) (ns := []) rfl (by decide), by rw [rangeD_length]; omega, ⟨rfl, rfl⟩, falses_turn (fun _ _ _ => rfl) (fun _ _ _ => rfl), ?_⟩
  rintro a es own ⟨rfl, rfl⟩
  rw [rangeD_length]
  walk_at "m"
  refine x_while (fun k σ => ∃ here seen, here ≤ c.length ∧ seen.length = c.length + 1 ∧ seen.count true + k = c.length + 2 ∧ lastLoop c g k here seen = lastF c g ∧
    σ = ⟨[("code", .d (codeD c)), ("goal", .d (.int (g : Int))), ("at", .d (.int (here : Int))), ("seen", .own a)], [(a, seen.map .bool)]⟩) (c.length + 2) ⟨g, List.replicate (c.length + 1) false, hg, by simp, by simp [List.count_replicate], rfl, by simp⟩ ?_
  rintro k _ ⟨here, seen, hh, hsl, hct, hl, rfl⟩
  have hk : 0 < k := by have := List.count_le_length (a := true) (l := seen); omega
  obtain ⟨k, rfl⟩ : ∃ j, k = j + 1 := ⟨k - 1, by omega⟩
  walk_at "m"
  walk_at "m lenc"
  walk_at "m"
  by_cases h : here < c.length
  · obtain ⟨x, hx⟩ : ∃ x, c[here]? = some x := ⟨c[here], by simp [h]⟩
    refine if_t (by simpa using h) ?_
    walk_at "m"
    refine s_code hx hsm ?_
    walk_at "m"
    refine s_fst ?_
    walk_at "m"
    refine o_jump hA.eq ?_
    walk_at "m"
    cases hj : x.isJump with
    | true =>
      obtain ⟨g', rfl⟩ := jump_of hj
      have hgl := hc.goal _ (List.mem_of_getElem? hx) g' rfl
      have hlt : here < seen.length := by omega
      walk_at "m"
      refine t_val ?_ rfl
      walk_at "m"
      refine s_boolso (bs := seen) (by walk_at "m mem") (b := seen[here]) (by simp) (by omega) ?_
      walk_at "m"
      have hs1 : seen[here]? = some seen[here] := by simp
      cases hb : seen[here] with
      | true =>
        walk_at "m"
        refine .inl ?_
        rw [← hl]
        simp only [lastLoop, hx]
        rw [if_pos (by rw [hs1, hb])]
      | false =>
        walk_at "m"
        refine ⟨_, _, _, _, _, rfl, rfl, rfl, by omega, by omega, by simp; omega, .head, ?_⟩
        walk_at "m"
        walk_at "m set"
        refine s_code hx hsm ?_
        walk_at "m"
        refine s_snd ?_
        walk_at "m"
        refine ⟨k, _, by omega, ⟨WeakL.refl _, List.Sublist.refl _⟩, g', seen.set here true, hgl, by simp [hsl], ?_, ?_, ?_⟩
        · rw [List.count_set (by omega), hb]; simp; omega
        · rw [← hl]
          simp only [lastLoop, hx]
          rw [if_neg (by rw [hs1, hb]; simp)]
        · simp [List.map_set, Ins.worth]
    | false =>
      walk_at "m"
      refine .inl ?_
      rw [← hl]
      simp only [lastLoop, hx]
      cases x <;> simp [Ins.isJump] at hj <;> rfl
  · refine if_f (by simpa using h) ?_
    walk_at "m"
    refine .inl ?_
    rw [← hl]
    have : c[here]? = none := by simp; omega
    simp only [lastLoop, this]
theorem goal_spec (t : TopAt P B) (c : List Ins) (hc : Ok c) (g : Nat) (hg : g ≤ c.length) : PureSpec prog w B 2 104 [codeD c, .int (g : Int)] (.int (goalF c g : Int)) := by
  refine pure_spec' (D_goal t) rfl (loc := [("code", .d (codeD c)), ("goal", .d (.int (g : Int))), ("here", .un), ("lap", .un)]) rfl fun L far A hA => ?_
  have hsm := hc.small
  refine x_cons ?_
  refine x_set ?_ rfl rfl rfl
  walk_at "m"
  refine x_for ?_ (by intro _; rfl)
  walk_at "m range"
  walk_at "m"
  walk_at "m lenc"
  walk_at "m"
  refine ⟨c.length + 1, by simp, by omega, ?_⟩
  refine ⟨fun i σ => ∃ here, here ≤ c.length ∧ goalLoop c g (c.length + 1 - i) here = goalF c g ∧ σ = ⟨[("code", .d (codeD c)), ("goal", .d (.int (g : Int))), ("here", .d (.int (here : Int))), ("lap", .un)], []⟩, ⟨g, hg, rfl, rfl⟩, ?_, ?_⟩
  · rintro Is i d _ hd ⟨here, hh, hl, rfl⟩
    obtain ⟨hi, rfl⟩ := rangeD_get hd
    have e1 : c.length + 1 - i = (c.length - i) + 1 := by omega
    rw [e1] at hl
    walk_at "m"
    walk_at "m lenc"
    walk_at "m"
    by_cases h : here < c.length
    · obtain ⟨x, hx⟩ : ∃ x, c[here]? = some x := ⟨c[here], by simp [h]⟩
      refine if_f (by simpa using h) ?_
      walk_at "m"
      refine s_code hx hsm ?_
      walk_at "m"
      refine s_fst ?_
      walk_at "m"
      refine o_njump hA.eq ?_
      walk_at "m"
      cases hj : x.isJump with
      | true =>
        obtain ⟨g', rfl⟩ := jump_of hj
        have hgl := hc.goal _ (List.mem_of_getElem? hx) g' rfl
        walk_at "m"
        try refine if_f rfl ?_
        walk_at "m"
        walk_at "m set"
        refine s_code hx hsm ?_
        walk_at "m"
        refine s_snd ?_
        walk_at "m"
        try dsimp only [Ins.worth]
        refine ⟨_, ?_, g', hgl, ?_, rfl⟩
        · exact ⟨by walk_at "m weak", List.Sublist.refl _⟩
        rw [← hl]
        simp only [goalLoop, hx]
        rw [show c.length + 1 - (i + 1) = c.length - i by omega]
      | false =>
        walk_at "m"
        try refine if_t rfl ?_
        walk_at "m"
        refine .inl ?_
        rw [← hl]
        simp only [goalLoop, hx]
        cases x <;> simp [Ins.isJump] at hj <;> rfl
    · refine if_t (by simpa using h) ?_
      walk_at "m"
      refine .inl ?_
      rw [← hl]
      have : c[here]? = none := by simp; omega
      simp only [goalLoop, this]
  · rintro _ ⟨here, hh, hl, rfl⟩
    rw [rangeD_length, Nat.sub_self] at hl
    walk_at "m"
    refine .inl ?_
    rw [← hl]; rfl
end
section
variable {P : Params} {B : Heap} {prog : Program} {w : World}
theorem reached_spec (t : TopAt P B) (c : List Ins) (hc : Ok c) : PureSpec prog w B 4 48 [codeD c] (boolsD (reachF c)) := by
  refine pure_spec' (D_reached t) rfl (loc := [("code", .d (codeD c)), ("at", .un), ("found", .un), ("waiting", .un)]) rfl fun L far A hA => ?_
  have hsm := hc.small
  refine x_cons ?_
  refine x_comp (cl := []) ⟨rfl, by decide, rfl, by decide, (fun q hq => nomatch hq), .nil⟩ ?_ rfl rfl (by intro _; rfl)
  walk_at "m range"
  walk_at "m"
  walk_at "m lenc"
  walk_at "m"
  refine ⟨c.length + 1, by simp, by omega, [(".0", .un), ("at", .un)], _, lin_of2 (us := [".0", "at"]) (cs := []) (List.forall_mem_cons.mpr ⟨rfl, List.forall_mem_cons.mpr ⟨rfl, fun _ h => nomatch h⟩⟩) (fun _ h => nomatch h) (ns := []) rfl (by decide), by rw [rangeD_length]; omega, ⟨rfl, rfl⟩, falses_turn (fun _ _ _ => rfl) (fun _ _ _ => rfl), ?_⟩
  rintro a es own C ⟨rfl, rfl⟩
  rw [rangeD_length]
  walk_at "m"
  refine x_set ?_ rfl rfl rfl
  refine e_listo ?_
  walk_at "m"
  refine ⟨[_], rfl, line_ok (by simp), fun b => ?_⟩
  walk_at "m"
  refine x_while (fun k σ => ∃ found rest, found.length = c.length + 1 ∧ (∀ j ∈ rest, j ≤ c.length) ∧ 2 * found.count false + rest.length ≤ k ∧ k ≤ 2 * (c.length + 1) + 2 ∧ reachLoop c k found rest = reachF c ∧
    σ = ⟨[("code", .d (codeD c)), ("at", .un), ("found", .own a), ("waiting", .own b)], [(b, rest.reverse.map fun (n : Nat) => .int (n : Int)), (a, found.map .bool)]⟩) (2 * (c.length + 1) + 2) ⟨List.replicate (c.length + 1) false, [0], by simp, by simp, by simp [List.count_replicate], Nat.le_refl _, rfl, by simp⟩ ?_
  rintro k _ ⟨found, rest, hfl, hr, hct, hkb, hl, rfl⟩
  have hcf := List.count_le_length (a := false) (l := found)
  walk_at "m"
  refine e_listd ?_
  walk_at "m"
  refine ⟨[], rfl, line_ok (by simp), ?_⟩
  refine o_empty hA.eq (by walk_at "m mem") (flat_nats _) ?_
  walk_at "m"
  cases rest with
  | nil =>
    walk_at "m"
    refine .inr ⟨a, _, [(b, _)], [], rfl, ?_, rfl⟩
    rw [← hl]
    cases k <;> rfl
  | cons here rest =>
    have e1 : ((here :: rest).reverse.map fun (n : Nat) => PyData.int (n : Int)) = (rest.reverse.map fun (n : Nat) => PyData.int (n : Int)) ++ [.int (here : Int)] := by simp
    rw [e1]
    try refine if_t (by simp) ?_
    obtain ⟨k, rfl⟩ : ∃ j, k = j + 1 := ⟨k - 1, by simp at hct; omega⟩
    have hh := hr here (.head _)
    have hr' : ∀ j ∈ rest, j ≤ c.length := fun j hj => hr j (.tail _ hj)
    have hrl : rest.length ≤ 10000 := by simp at hct; omega
    walk_at "m"
    refine x_set ?_ rfl rfl rfl
    refine e_pop ?_ rfl rfl rfl
    walk_at "m"
    refine ⟨_, _, _, _, rfl, by simp; omega, .head, ?_⟩
    walk_at "m"
    refine t_val ?_ rfl
    walk_at "m"
    have hlt : here < found.length := by omega
    have hs1 : found[here]? = some found[here] := by simp
    refine s_boolso (bs := found) (by walk_at "m mem") hs1 (by omega) ?_
    walk_at "m"
    cases hb : found[here] with
    | true =>
      walk_at "m"
      try dsimp only
      refine ⟨k, _, by omega, ?_, found, rest, hfl, hr', by simp at hct; omega, by omega, ?_, rfl⟩
      · exact ⟨by walk_at "m weak", List.Sublist.refl _⟩
      rw [← hl]
      simp only [reachLoop]
      rw [if_pos (by rw [hs1, hb])]
    | false =>
      have e2 : reachLoop c k (found.set here true) ((behindF c here).reverse ++ rest) = reachF c := by
        rw [← hl]
        simp only [reachLoop]
        rw [if_neg (by rw [hs1, hb]; simp)]
      have e3 : (found.set here true).count false + 1 = found.count false := by
        have h1 : 0 < found.count false := List.count_pos_iff.mpr (hb ▸ List.getElem_mem _)
        rw [List.count_set (by omega), hb]; simp; omega
      walk_at "m"
      refine ⟨_, _, _, _, _, rfl, rfl, rfl, by omega, by omega, by simp; omega, .tail .head, ?_⟩
      walk_at "m"
      walk_at "m lenc"
      walk_at "m"
      by_cases h : here < c.length
      · refine if_t (by simpa using h) ?_
        obtain ⟨hb1, hb2⟩ := behind_ok hc h
        walk_at "m"
        refine x_expr ?_ rfl rfl
        refine e_extend ?_ rfl rfl rfl rfl
        walk_at "m"
        refine ⟨_, _, rfl, by walk_at "m mem", ?_⟩
        walk_at "m callF"
        walk_at "m"
        refine v_new (ds := [codeD c, .int (here : Int)]) (behind_spec t c hc here h) (hA.le (by omega)) fun b' => ?_
        refine ⟨_, _, _, _, rfl, .head _, by simp; omega, .tail .head, rfl, ?_⟩
        walk_at "m"
        try dsimp only
        refine ⟨k, _, by omega, ?_, found.set here true, (behindF c here).reverse ++ rest, by simp [hfl], ?_, by simp at hct ⊢; omega, by omega, e2, rfl⟩
        · exact ⟨by walk_at "m weak", List.Sublist.cons _ (by simp [List.map_set])⟩
        · intro j hj
          rcases List.mem_append.mp hj with hj | hj
          · exact hb2 j (List.mem_reverse.mp hj)
          · exact hr' j hj
      · refine if_f (by simpa using h) ?_
        have hb0 : behindF c here = [] := by
          unfold behindF
          rw [show c[here]? = none by simp; omega]
        rw [hb0] at e2
        walk_at "m"
        try dsimp only
        refine ⟨k, _, by omega, ?_, found.set here true, rest, by simp [hfl], hr', by simp at hct ⊢; omega, by omega, e2, rfl⟩
        · exact ⟨by walk_at "m weak", by simp [List.map_set]⟩
end
section
variable {P : Params} {B : Heap} {prog : Program} {w : World}
theorem thread_spec (t : TopAt P B) (c : List Ins) (hc : Ok c) : PureSpec prog w B 4 36 [codeD c] (codeD (threadedF c)) := by
  refine pure_spec' (D_thread t) rfl (loc := [("code", .d (codeD c))]) rfl fun L far A hA => ?_
  have hsm := hc.small
  refine x_cons ?_
  refine x_ret ?_
  refine e_comp (cl := [("code", L + 1)]) ?ok ?h (by intro _; rfl)
  case ok => exact ⟨rfl, by decide, rfl, by decide, (fun q hq => by rw [List.mem_singleton.mp hq]; rfl), by simp⟩
  case h =>
    refine i_list hA.handled ?_
    walk_at "m"
    refine ⟨_, rfl, [(".0", .un), ("op", .un), ("worth", .un), ("code", .d (codeD c))], fun i es own => es = (c.take i).map (fun x => (x.move (lastF c)).dat) ∧ own = [], lin_of2 (ns := ["code"]) (us := [".0", "op", "worth"]) (cs := [("code", .d (codeD c))]) (List.forall_mem_cons.mpr ⟨rfl, List.forall_mem_cons.mpr ⟨rfl, List.forall_mem_cons.mpr ⟨rfl, fun _ h => nomatch h⟩⟩⟩) (fun p hp => by rw [List.mem_singleton.mp hp]; exact ⟨rfl, rfl, by walk_at "m mem", rfl⟩) rfl (by decide), by simp; omega, ⟨by simp, rfl⟩, ?_, ?_⟩
    · rintro C D Is i d es own hd ⟨rfl, rfl⟩
      obtain ⟨x, hx, rfl⟩ := get_dat hd
      refine a_tup2 hA.handled ?_ rfl
      walk_at "m"
      refine ts_nil ?_
      walk_at "m"
      refine o_jumps hA.eq ?_
      walk_at "m"
      cases hgx : x.goal with
      | none =>
        walk_at "m"
        refine ⟨[_, _], rfl, line_ok (by simp), _, _, rfl, ⟨by walk_at "m weak", List.Sublist.refl _⟩, ?_, rfl⟩
        rw [List.take_add_one, hx]
        simp [move_none hgx, Ins.dat]
      | some g =>
        have hgl := hc.goal x (List.mem_of_getElem? hx) g hgx
        rw [worth_of hgx]
        walk_at "m"
        walk_at "m callF"
        walk_at "m"
        refine v_pure (ds := [codeD c, .int (g : Int)]) (last_spec t c hc g hgl) (hA.le (by omega)) ?_
        walk_at "m"
        refine ⟨[_, _], rfl, line_ok (by simp), _, _, rfl, ⟨by walk_at "m weak", List.Sublist.refl _⟩, ?_, rfl⟩
        rw [List.take_add_one, hx]
        simp [Ins.dat, op_move, worth_move hgx]
    · rintro es own ⟨rfl, rfl⟩
      walk_at "m"
      refine .inl ?_
      simp [threadedF]
end
section
variable {P : Params} {B : Heap} {prog : Program} {w : World}
theorem dead_spec (t : TopAt P B) (c : List Ins) (hc : Ok c) : PureSpec prog w B 6 55 [codeD c] (codeD (leanF c)) := by
  refine pure_spec' (D_dead t) rfl (loc := [("code", .d (codeD c)), ("alive", .un), ("made", .un), ("places", .un), ("at", .un), ("pair", .un)]) rfl fun L far A hA => ?_
  have hsm := hc.small
  refine x_cons ?_
  refine x_swap3 (n1 := "alive") (n2 := "made") (n3 := "places") hA.handled ?_ rfl rfl rfl rfl
  walk_at "m callF"
  walk_at "m"
  refine v_pure (ds := [codeD c]) (reached_spec t c hc) (hA.le (by omega)) ?_
  refine e_listo ?_
  walk_at "m"
  refine ⟨[], rfl, line_ok (by simp), fun m => ?_⟩
  refine e_listo ?_
  walk_at "m"
  refine ⟨[], rfl, line_ok (by simp), fun p => ?_⟩
  walk_at "m"
  generalize hal : reachF c = al
  have hall : al.length = c.length + 1 := by rw [← hal]; exact reachF_length c
  refine x_for ?_ (by intro _; rfl)
  refine i_enum hA.handled (by walk_at "m bv") rfl rfl rfl ?_ rfl
  walk_at "m"
  refine ⟨_, rfl, fun i σ => σ = ⟨[("code", .d (codeD c)), ("alive", .d (boolsD al)), ("made", .own m), ("places", .own p), ("at", .un), ("pair", .un)], [(p, (placesAt c al i).map fun (n : Nat) => .int (n : Int)), (m, (madeAt c al i).map Ins.dat)]⟩, rfl, ?_, ?_⟩
  · rintro Is i d _ hd rfl
    obtain ⟨d, hd2, rfl⟩ := enumD_get hd
    obtain ⟨x, hx, rfl⟩ := get_dat hd2
    have hi : i < c.length := (List.getElem?_eq_some_iff.mp hx).1
    have hm := made_ok hc al i
    have hpl := places_length c al i
    refine a_tup2 hA.handled ?_ rfl
    walk_at "m"
    refine x_expr ?_ rfl rfl
    refine e_append ?_ rfl rfl rfl rfl
    walk_at "m"
    refine ⟨_, _, rfl, by walk_at "m mem", ?_⟩
    walk_at "m callB"
    walk_at "m"
    refine v_lenO (by walk_at "m mem") (by simp; omega) ?_
    refine ⟨_, _, _, rfl, line_ok (by simp; omega), .head, rfl, ?_⟩
    walk_at "m"
    refine t_val ?_ rfl
    walk_at "m"
    obtain ⟨b, hb⟩ : ∃ b, al[i]? = some b := ⟨al[i], by simp⟩
    refine s_bools hb (by omega) ?_
    walk_at "m"
    have pl1 : placesAt c al (i + 1) = placesAt c al i ++ [(madeAt c al i).length] := rfl
    have md1 : madeAt c al (i + 1) = madeAt c al i ++ keepF c al i := rfl
    cases b with
    | false =>
      have hkp := keep_dead (c := c) hb
      walk_at "m"
      try dsimp only
      refine ⟨_, ?_, rfl⟩
      exact ⟨by walk_at "m weak", by rw [pl1, md1, hkp]; simp⟩
    | true =>
      have hkp := keep_at hx hb
      walk_at "m"
      refine s_fst ?_
      walk_at "m"
      refine o_jump hA.eq ?_
      walk_at "m"
      cases hj : x.isJump with
      | true =>
        obtain ⟨g, rfl⟩ := jump_of hj
        have hgl := hc.goal _ (List.mem_of_getElem? hx) g rfl
        walk_at "m"
        refine t_val ?_ rfl
        walk_at "m callF"
        walk_at "m"
        refine s_snd ?_
        walk_at "m"
        refine v_pure (ds := [boolsD al, .int (i : Int), .int (g : Int)]) (close_spec t al i g (by omega) (by omega)) (hA.le (by omega)) ?_
        walk_at "m"
        cases hcl : closeF al i g with
        | true =>
          walk_at "m"
          try dsimp only
          refine ⟨_, ?_, rfl⟩
          exact ⟨by walk_at "m weak", by rw [pl1, md1, hkp]; simp [keepX, hcl]⟩
        | false =>
          rw [show keepX al i (.jump g) = [.jump g] by simp [keepX, hcl]] at hkp
          walk_at "m"
          refine s_fst ?_
          walk_at "m gvd"
          case hr => exact t.rjumps
          refine o_jumps (i := .jump g) hA.eq ?_
          walk_at "m"
          try refine if_t rfl ?_
          walk_at "m"
          refine s_fst ?_
          walk_at "m"
          refine o_njump (i := .jump g) hA.eq ?_
          walk_at "m"
          try refine if_f rfl ?_
          walk_at "m"
          refine x_expr ?_ rfl rfl
          refine e_append ?_ rfl rfl rfl rfl
          walk_at "m"
          refine ⟨_, _, rfl, by walk_at "m mem", ?_⟩
          walk_at "m"
          refine ⟨_, _, _, rfl, line_ok (by simp; omega), .tail .head, rfl, ?_⟩
          walk_at "m"
          try dsimp only
          refine ⟨_, ?_, rfl⟩
          exact ⟨by walk_at "m weak", by rw [pl1, md1, hkp]; simp [Ins.dat]⟩
      | false =>
        walk_at "m"
        refine s_fst ?_
        walk_at "m gvd"
        case hr => exact t.rjumps
        refine o_jumps hA.eq ?_
        walk_at "m"
        cases hg : x.goal with
        | none =>
          rw [keepX_none hg] at hkp
          walk_at "m"
          refine x_expr ?_ rfl rfl
          refine e_append ?_ rfl rfl rfl rfl
          walk_at "m"
          refine ⟨_, _, rfl, by walk_at "m mem", ?_⟩
          walk_at "m"
          refine ⟨_, _, _, rfl, line_ok (by simp; omega), .tail .head, rfl, ?_⟩
          walk_at "m"
          try dsimp only
          refine ⟨_, ?_, rfl⟩
          exact ⟨by walk_at "m weak", by rw [pl1, md1, hkp]; simp [Ins.dat]⟩
        | some g =>
          have hgl := hc.goal _ (List.mem_of_getElem? hx) g hg
          rw [keepX_some hg hj] at hkp
          walk_at "m"
          refine s_fst ?_
          walk_at "m"
          refine o_njump hA.eq ?_
          rw [hj]
          walk_at "m"
          refine t_val ?_ rfl
          walk_at "m callF"
          walk_at "m"
          refine s_snd ?_
          walk_at "m"
          rw [worth_of hg]
          refine v_pure (ds := [boolsD al, .int (i : Int), .int (g : Int)]) (close_spec t al i g (by omega) (by omega)) (hA.le (by omega)) ?_
          walk_at "m"
          cases hcl : closeF al i g with
          | true =>
            rw [hcl, if_pos rfl] at hkp
            walk_at "m"
            refine x_expr ?_ rfl rfl
            refine e_append ?_ rfl rfl rfl rfl
            walk_at "m"
            refine ⟨_, _, rfl, by walk_at "m mem", ?_⟩
            walk_at "m"
            refine ⟨[_, _], rfl, line_ok (by simp), ?_⟩
            refine ⟨_, _, _, rfl, line_ok (by simp; omega), .tail .head, rfl, ?_⟩
            walk_at "m"
            try dsimp only
            refine ⟨_, ?_, rfl⟩
            exact ⟨by walk_at "m weak", by rw [pl1, md1, hkp]; simp [Ins.dat, Ins.op, Ins.worth]⟩
          | false =>
            rw [hcl, if_neg (by decide)] at hkp
            walk_at "m"
            refine x_expr ?_ rfl rfl
            refine e_append ?_ rfl rfl rfl rfl
            walk_at "m"
            refine ⟨_, _, rfl, by walk_at "m mem", ?_⟩
            walk_at "m"
            refine ⟨_, _, _, rfl, line_ok (by simp; omega), .tail .head, rfl, ?_⟩
            walk_at "m"
            try dsimp only
            refine ⟨_, ?_, rfl⟩
            exact ⟨by walk_at "m weak", by rw [pl1, md1, hkp]; simp [Ins.dat, worth_of hg]⟩
  · rintro _ rfl
    have hm := made_ok hc al c.length
    have hpl := places_length c al c.length
    rw [enumD_length, List.length_map]
    walk_at "m"
    refine x_expr ?_ rfl rfl
    refine e_append ?_ rfl rfl rfl rfl
    walk_at "m"
    refine ⟨_, _, rfl, by walk_at "m mem", ?_⟩
    walk_at "m callB"
    walk_at "m"
    refine v_lenO (by walk_at "m mem") (by simp; omega) ?_
    refine ⟨_, _, _, rfl, line_ok (by simp; omega), .head, rfl, ?_⟩
    walk_at "m"
    walk_at "m callF"
    walk_at "m"
    refine vl_data2 rfl ?_
    have e : ((placesAt c al c.length).map fun (n : Nat) => PyData.int (n : Int)) ++ [PyData.int (((madeAt c al c.length).map Ins.dat).length : Int)] = (placesAt c al (c.length + 1)).map fun (n : Nat) => PyData.int (n : Int) := by simp [placesAt]
    rw [e]
    refine v_pure (ds := [codeD (madeAt c al c.length), natsD (placesAt c al (c.length + 1))]) (places_spec t _ _ (by omega) (by rw [places_length]; omega) (fun x hx g hg => by rw [places_length]; have := hm.2 x hx g hg; omega)) (hA.le (by omega)) ?_
    walk_at "m"
    refine .inl ?_
    rw [leanF, hal]
end
section
variable {P : Params} {B : Heap} {prog : Program} {w : World}
theorem alive_spec (t : TopAt P B) (c : List Ins) (hc : Ok c) : PureSpec prog w B 2 90 [codeD c] (boolsD (aliveF c)) := by
  refine pure_spec' (D_alive t) rfl (loc := [("code", .d (codeD c)), ("living", .un), ("lap", .un), ("at", .un), ("op", .un), ("worth", .un)]) rfl fun L far A hA => ?_
  have hsm := hc.small
  refine x_cons ?_
  refine x_set ?_ rfl rfl rfl
  walk_at "m"
  refine e_listo ?_
  walk_at "m"
  refine ⟨[_], rfl, line_ok (by simp), fun a0 => ?_⟩
  walk_at "m"
  walk_at "m lenc"
  walk_at "m"
  refine o_rep (by walk_at "m mem") (by omega) (by simp <;> omega) fun a => ?_
  walk_at "m"
  refine ⟨_, _, _, _, _, rfl, rfl, rfl, by omega, by omega, by simp <;> omega, .head, ?_⟩
  walk_at "m"
  refine W.weak (τ := ⟨[("code", .d (codeD c)), ("living", .own a), ("lap", .un), ("at", .un), ("op", .un), ("worth", .un)], [(a, (lapsF c 0).map .bool)]⟩) ⟨WeakL.refl _, ?_⟩ ?_
  · have e : ((List.replicate (((c.map Ins.dat).length : Int) + 1).toNat (PyData.bool false)).set (Int.toNat 0) (PyData.bool true)) = (lapsF c 0).map .bool := by
      rw [show (((c.map Ins.dat).length : Int) + 1).toNat = c.length + 1 by simp]
      simp [lapsF, List.map_set]
    dsimp only
    rw [e]
    exact List.Sublist.cons₂ _ (List.nil_sublist _)
  refine x_for ?_ (by intro _; rfl)
  walk_at "m range"
  walk_at "m"
  walk_at "m lenc"
  walk_at "m"
  refine ⟨c.length + 1, by simp, by omega, fun i σ => σ = ⟨[("code", .d (codeD c)), ("living", .own a), ("lap", .un), ("at", .un), ("op", .un), ("worth", .un)], [(a, (lapsF c i).map .bool)]⟩, rfl, ?_, ?_⟩
  · rintro Is i d _ hd rfl
    obtain ⟨hi, rfl⟩ := rangeD_get hd
    walk_at "m"
    refine x_for ?_ (by intro _; rfl)
    walk_at "m range"
    walk_at "m lenc"
    refine ⟨c.length, by simp, by omega, fun k σ => σ = ⟨[("code", .d (codeD c)), ("living", .own a), ("lap", .d (.int (i : Int))), ("at", .un), ("op", .un), ("worth", .un)], [(a, (aliveTo c (lapsF c i) k).map .bool)]⟩, rfl, ?_, ?_⟩
    · rintro Is' k d _ hd' rfl
      obtain ⟨hk, rfl⟩ := rangeD_get hd'
      obtain ⟨x, hx⟩ : ∃ x, c[k]? = some x := ⟨c[k], by simp [hk]⟩
      generalize hll : aliveTo c (lapsF c i) k = l
      have hlen : l.length = c.length + 1 := by rw [← hll, aliveTo_length, lapsF_length]
      have hs : aliveTo c (lapsF c i) (k + 1) = aliveStep c l k := by rw [← hll]; rfl
      obtain ⟨b, hb⟩ : ∃ b, l[k]? = some b := ⟨l[k], by simp⟩
      walk_at "m"
      refine t_val ?_ rfl
      walk_at "m"
      refine s_boolso (bs := l) (by walk_at "m mem") hb (by omega) ?_
      walk_at "m"
      cases b with
      | false =>
        walk_at "m"
        try dsimp only
        refine ⟨_, ?_, rfl⟩
        ·
          refine ⟨by walk_at "m weak", ?_⟩
          rw [hs]; simp [aliveStep, hb]
      | true =>
        walk_at "m"
        refine x_unp ?_ rfl rfl
        walk_at "m"
        refine s_code hx hsm ?_
        refine a_tup2 hA.handled ?_ rfl
        walk_at "m"
        refine ⟨[_, _, _], rfl, line_ok (by simp), ?_⟩
        refine o_jumps hA.eq ?_
        walk_at "m"
        have hst := step_at hx hb
        cases hg : x.goal with
        | none =>
          rw [hg] at hst
          walk_at "m"
          refine o_njump hA.eq ?_
          walk_at "m"
          cases hj : x.isJump with
          | true =>
            rw [hj] at hst
            walk_at "m"
            try dsimp only
            refine ⟨_, ?_, rfl⟩
            exact ⟨by walk_at "m weak", by rw [hs, hst]; simp⟩
          | false =>
            rw [hj] at hst
            walk_at "m"
            refine s_code hx hsm ?_
            walk_at "m"
            refine ⟨[_, _], rfl, line_ok (by simp), ?_⟩
            refine o_nabort hA.eq ?_
            walk_at "m"
            cases ha : x.isAbort with
            | true =>
              rw [ha] at hst
              walk_at "m"
              try dsimp only
              refine ⟨_, ?_, rfl⟩
              exact ⟨by walk_at "m weak", by rw [hs, hst]; simp⟩
            | false =>
              rw [ha] at hst
              walk_at "m"
              refine ⟨_, _, _, _, _, rfl, rfl, rfl, by omega, by omega, by simp <;> omega, .head, ?_⟩
              walk_at "m"
              try dsimp only
              refine ⟨_, ?_, rfl⟩
              refine ⟨by walk_at "m weak", ?_⟩
              rw [hs, hst, show ((k : Int) + 1).toNat = k + 1 by omega]; simp [List.map_set]
        | some g =>
          have hgl := hc.goal x (List.mem_of_getElem? hx) g hg
          rw [hg] at hst
          walk_at "m"
          refine ⟨_, _, _, _, _, rfl, rfl, congrArg X.d (worth_of hg), by omega, by omega, by simp <;> omega, .head, ?_⟩
          walk_at "m"
          refine o_njump hA.eq ?_
          walk_at "m"
          cases hj : x.isJump with
          | true =>
            rw [hj] at hst
            walk_at "m"
            try dsimp only
            refine ⟨_, ?_, rfl⟩
            exact ⟨by walk_at "m weak", by rw [hs, hst]; simp [List.map_set]⟩
          | false =>
            rw [hj] at hst
            walk_at "m"
            refine s_code hx hsm ?_
            walk_at "m"
            refine ⟨[_, _], rfl, line_ok (by simp), ?_⟩
            refine o_nabort hA.eq ?_
            have ha : x.isAbort = false := by cases x <;> simp [Ins.goal] at hg <;> rfl
            rw [ha] at hst ⊢
            walk_at "m"
            refine ⟨_, _, _, _, _, rfl, rfl, rfl, by omega, by omega, by simp <;> omega, .head, ?_⟩
            walk_at "m"
            try dsimp only
            refine ⟨_, ?_, rfl⟩
            refine ⟨by walk_at "m weak", ?_⟩
            rw [hs, hst, show ((k : Int) + 1).toNat = k + 1 by omega]; simp [List.map_set]
    · rintro _ rfl
      rw [rangeD_length]
      walk_at "m"
      refine ⟨_, ?_, rfl⟩
      exact ⟨by walk_at "m weak", List.Sublist.refl _⟩
  · rintro _ rfl
    rw [rangeD_length]
    walk_at "m"
    exact .inr ⟨a, _, [], [], rfl, rfl, rfl⟩
end
noncomputable def Ins.isCond : Ins → Bool
  | .unls _ => true
  | .whn _ => true
  | _ => false
theorem cond_goal {x : Ins} (h : x.isCond = true) : ∃ g, x.goal = some g := by cases x <;> simp [Ins.isCond] at h <;> exact ⟨_, rfl⟩
theorem eqv_int (a b : Int) : PyData.eqv (.int a) (.int b) = decide (a = b) := by
  simp [PyData.eqv]
  try rfl
section
variable {prog : Program} {w : World} {A : Around} {F : Frm} {σ : St}
theorem x_while' {test : Expr} {body : List Stmt} {pos : Pos} {Q : Fl → St → Prop} (Inv : Nat → St → Prop) (Tl : St → Prop) (n : Nat) (h0 : Inv n σ)
    (turn : ∀ n σ', Inv n σ' → WB (model prog w) A F (isTrue test F.env (eval test F.env)) σ' (fun b σ'' => if b = true then WF (model prog w) A F (execs body F.env) σ'' (fun fl τ => match fl with
        | .next | .cont => ∃ m τ', m < n ∧ Weak τ τ' ∧ Inv m τ'
        | .brk => Q .next τ
        | .ret x => Q (.ret x) τ) else Tl σ'')) (tl : ∀ σ, Tl σ → Q .next σ) :
    WF (model prog w) A F (exec (.While test body [] pos) F.env) σ Q :=
  x_while Inv n h0 fun n σ' h => W.mono (turn n σ' h) fun b σ'' q => by
    cases b
    · exact tl _ q
    · exact q
theorem W.pure_b {t : Sem Bool} {M : Model} {Q : Bool → St → Prop} (v : Bool) (h : WB M A F t σ (fun b τ => b = v ∧ τ = σ)) (k : Q v σ) : WB M A F t σ Q := W.mono h fun b τ ⟨e1, e2⟩ => by rw [e1, e2]; exact k
theorem any_cond (i : Ins) : ([PyData.str "unless", .str "when"].any fun y => PyData.eqv y (.str i.op)) = i.isCond := by
  cases i <;> rfl
theorem o_cond {i : Ins} {Q : X → St → Prop} (hu : A.units + 64 < cLine) (h : Q (.d (.bool i.isCond)) σ) : V2 (model prog w) A F (compareOp .In) (.d (.str i.op)) (.d (.tuple [.str "unless", .str "when"])) σ Q :=
  o_int hu (flat_op i).shaped (canAll [_, _] fun x hx => by simp at hx; rcases hx with rfl | rfl <;> exact flat_str) (Nat.le_trans (flat_op i).2 (by decide)) (by rw [any_cond]; exact h)
theorem o_nebools {bs : List Bool} {Q : X → St → Prop} (hu : A.units + 64 < cLine) (h : Q (.d (.bool (decide (bs ≠ [])))) σ) : V2 (model prog w) A F (compareOp .NotEq) (.d (boolsD bs)) (.d (.list [])) σ Q := by
  refine o_ne hu (flat_bools bs).shaped (flat_list (n := 1) (xs := []) (fun x hx => by simp at hx)).shaped ?_
  have : (!PyData.eqv (boolsD bs) (.list [])) = decide (bs ≠ []) := by cases bs <;> rfl
  rw [this]; exact h
theorem any_true (bs : List Bool) : ((bs.map PyData.bool).any fun y => PyData.eqv y (.bool true)) = bs.any id := by
  induction bs with
  | nil => rfl
  | cons b bs ih =>
    rw [List.map_cons, List.any_cons, List.any_cons, ih]
    cases b <;> rfl
theorem o_notrue {bs : List Bool} {Q : X → St → Prop} (hu : A.units + 64 < cLine) (h : Q (.d (.bool (!bs.any id))) σ) : V2 (model prog w) A F (compareOp .NotIn) (.d (.bool true)) (.d (.list (bs.map PyData.bool))) σ Q := by
  refine o_notin hu (flat_bool true).shaped (canAll (n := 1) _ fun x hx => ?_) (Nat.le_trans (flat_bool true).2 (by decide)) (by rw [any_true]; exact h)
  obtain ⟨b, _, rfl⟩ := List.mem_map.mp hx; exact flat_bool b
theorem o_eqint {i j : Int} {Q : X → St → Prop} (hu : A.units + 64 < cLine) (h : Q (.d (.bool (decide (i = j)))) σ) : V2 (model prog w) A F (compareOp .Eq) (.d (.int i)) (.d (.int j)) σ Q :=
  o_eq hu (flat_int i).shaped (flat_int j).shaped (by rw [eqv_int]; exact h)
theorem cut_bools (bs : List Bool) (i g : Nat) : cut (bs.map PyData.bool) (some ((i : Int) + 1)) (some (g : Int)) = ((bs.drop (i + 1)).take (g - (i + 1))).map PyData.bool := by
  unfold cut
  simp only [List.map_take, List.map_drop]
  rfl
end
section
variable {c : List Ins} {ch lv : List Bool} {k here spent g : Nat} {done : List PyData} {x : Ins}
theorem led_zero : ledLoop c ch lv 0 here done spent = done ++ [.str "on"] := rfl
theorem led_end (hx : c[here]? = none) : ledLoop c ch lv (k + 1) here done spent = done := by simp only [ledLoop, hx]
theorem led_full (hx : c[here]? = some x) (hd : ¬ done.length < 14) : ledLoop c ch lv (k + 1) here done spent = done := by simp only [ledLoop, hx]; rw [if_neg hd]
theorem led_jump (hx : c[here]? = some (.jump g)) (hd : done.length < 14) : ledLoop c ch lv (k + 1) here done spent = ledLoop c ch lv k g done spent := by simp only [ledLoop, hx]; rw [if_pos hd]
theorem led_abort (hx : c[here]? = some .abort) (hd : done.length < 14) : ledLoop c ch lv (k + 1) here done spent = done ++ [Ins.abort.dat] := by simp only [ledLoop, hx]; rw [if_pos hd]
theorem led_cond (hx : c[here]? = some x) (hd : done.length < 14) (hc : x.isCond = true) (hg : x.goal = some g) : ledLoop c ch lv (k + 1) here done spent =
    if closeL lv here g = true then ledLoop c ch lv k g (done ++ [dropD]) spent
    else ledLoop c ch lv k (if ch[spent % ch.length]? = some true then g else here + 1) (done ++ [.tuple [.str x.op, .int (spent : Int)]]) (spent + 1) := by
  simp only [ledLoop, hx]; rw [if_pos hd]
  cases x <;> simp [Ins.isCond] at hc <;> simp [Ins.goal] at hg <;> subst hg <;> rfl
theorem led_else (hx : c[here]? = some x) (hd : done.length < 14) (hc : x.isCond = false) (hj : x.isJump = false) (ha : x.isAbort = false) : ledLoop c ch lv (k + 1) here done spent =
    ledLoop c ch lv k (here + 1) (done ++ [.tuple [.str x.op, x.worth]]) spent := by
  simp only [ledLoop, hx]; rw [if_pos hd]
  cases x <;> simp [Ins.isCond, Ins.isJump, Ins.isAbort] at hc hj ha <;> rfl
end
section
variable {P : Params} {B : Heap} {prog : Program} {w : World}
theorem led_spec (t : TopAt P B) (c : List Ins) (hc : Ok c) (ch : List Bool) (hch : 0 < ch.length) (hch2 : ch.length ≤ 1000) (lv : List Bool) (hlv : lv = [] ∨ lv.length = c.length + 1) : PureSpec prog w B 2 97 [codeD c, boolsD ch, boolsD lv] (.list (ledF c ch lv)) := by
  refine pure_spec' (D_led t) rfl (loc := [("code", .d (codeD c)), ("choices", .d (boolsD ch)), ("living", .d (boolsD lv)), ("at", .un), ("done", .un), ("spent", .un), ("steps", .un), ("op", .un), ("worth", .un), ("is_taken", .un)]) rfl fun L far A hA => ?_
  have hsm := hc.small
  refine x_cons ?_
  refine x_tups4 hA.handled ?_ rfl rfl rfl rfl rfl rfl
  walk_at "m"
  refine e_listo ?_
  walk_at "m"
  refine ⟨[], rfl, line_ok (by simp), fun a => ?_⟩
  walk_at "m"
  refine x_while' (fun k σ => ∃ here done spent, here ≤ c.length ∧ k ≤ 60 ∧ done.length + k ≤ 60 ∧ spent + k ≤ 60 ∧ ledLoop c ch lv k here done spent = ledF c ch lv ∧
    σ = ⟨[("code", .d (codeD c)), ("choices", .d (boolsD ch)), ("living", .d (boolsD lv)), ("at", .d (.int (here : Int))), ("done", .own a), ("spent", .d (.int (spent : Int))), ("steps", .d (.int ((60 - k : Nat) : Int))), ("op", .un), ("worth", .un), ("is_taken", .un)], [(a, done)]⟩)
    (fun σ => ∃ k here done spent, k ≤ 60 ∧ done.length ≤ 60 ∧ (if k = 0 then done ++ [PyData.str "on"] else done) = ledF c ch lv ∧
    σ = ⟨[("code", .d (codeD c)), ("choices", .d (boolsD ch)), ("living", .d (boolsD lv)), ("at", .d (.int (here : Int))), ("done", .own a), ("spent", .d (.int (spent : Int))), ("steps", .d (.int ((60 - k : Nat) : Int))), ("op", .un), ("worth", .un), ("is_taken", .un)], [(a, done)]⟩)
    60 ⟨0, [], 0, by omega, by omega, by simp, by omega, rfl, rfl⟩ ?_ ?_
  · rintro k _ ⟨here, done, spent, hh, hk, hdk, hsk, hl, rfl⟩
    walk_at "m"
    walk_at "m lenc"
    walk_at "m"
    by_cases h : here < c.length
    · refine if_t (by simpa using h) ?_
      obtain ⟨x, hx⟩ : ∃ x, c[here]? = some x := ⟨c[here], by simp [h]⟩
      have hgs := hc.goal _ (List.mem_of_getElem? hx)
      walk_at "m"
      rcases Nat.eq_zero_or_pos k with rfl | hk0
      · refine if_f (by simp) ?_
        exact ⟨0, here, done, spent, hk, by omega, hl, rfl⟩
      · obtain ⟨k, rfl⟩ : ∃ j, k = j + 1 := ⟨k - 1, by omega⟩
        refine if_t (by simp; omega) ?_
        walk_at "m"
        walk_at "m callB"
        walk_at "m"
        refine v_lenO (by walk_at "m mem") (by omega) ?_
        walk_at "m"
        by_cases hd : done.length < 14
        · refine if_t (by simp; omega) ?_
          walk_at "m"
          walk_at "m set"
          rw [show (((60 - (k + 1) : Nat) : Int) + 1) = ((60 - k : Nat) : Int) by omega]
          refine x_unp ?_ rfl rfl
          walk_at "m"
          refine s_code hx hsm ?_
          refine a_tup2 hA.handled ?_ rfl
          walk_at "m"
          refine o_jump hA.eq ?_
          walk_at "m"
          cases hj : x.isJump with
          | true =>
            obtain ⟨g, rfl⟩ := jump_of hj
            rw [led_jump hx hd] at hl
            have hgl := hgs g rfl
            walk_at "m"
            walk_at "m set"
            try dsimp only [Ins.worth]
            refine ⟨k, _, by omega, ?_, g, done, spent, hgl, by omega, by omega, by omega, hl, rfl⟩
            exact ⟨by walk_at "m weak", List.Sublist.refl _⟩
          | false =>
            refine if_f rfl ?_
            refine x_cons ?_
            refine x_if ?_
            walk_at "m"
            refine ⟨[_, _], rfl, line_ok (by simp), ?_⟩
            refine o_cond hA.eq ?_
            refine ex_bool ?_
            cases hcd : x.isCond with
            | true =>
              obtain ⟨g, hg⟩ := cond_goal hcd
              have hgl := hgs g hg
              rw [led_cond hx hd hcd hg] at hl
              rw [worth_of hg]
              refine if_t rfl ?_
              refine x_cons ?_
              refine x_if ?_
              refine W.pure_b (closeL lv here g) ?_ ?_
              · walk_at "m"
                refine e_listd ?_
                walk_at "m"
                refine ⟨[], rfl, line_ok (by simp), ?_⟩
                refine o_nebools hA.eq ?_
                walk_at "m"
                by_cases hlv0 : lv = []
                · refine if_f (by simp [hlv0]) ?_
                  exact ⟨by simp [closeL, hlv0], rfl⟩
                · have hlvl : lv.length = c.length + 1 := by rcases hlv with e | e; exact absurd e hlv0; exact e
                  refine if_t (by simp [hlv0]) ?_
                  walk_at "m"
                  by_cases hgt : here < g
                  · refine if_t (by simpa using hgt) ?_
                    walk_at "m"
                    refine ⟨_, rfl, line_ok (by simp; omega), ?_⟩
                    walk_at "m"
                    refine ⟨_, rfl, ?_⟩
                    walk_at "m"
                    refine ⟨_, rfl, ?_⟩
                    refine ⟨⟨by omega, by omega, by simp; omega⟩, ?_⟩
                    rw [cut_bools]
                    refine o_notrue hA.eq ?_
                    refine ex_bool ?_
                    have ecl : closeL lv here g = !((lv.drop (here + 1)).take (g - (here + 1))).any id := by simp [closeL, hlv0, hgt]
                    rw [ecl]
                    cases hcl : (!((lv.drop (here + 1)).take (g - (here + 1))).any id) with
                    | true =>
                      refine if_t rfl ?_
                      walk_at "m"
                      exact ⟨rfl, rfl⟩
                    | false =>
                      refine if_f rfl ?_
                      exact ⟨rfl, rfl⟩
                  · refine if_f (by simpa using hgt) ?_
                    exact ⟨by simp [closeL, hlv0, hgt], rfl⟩
              · cases hcl : closeL lv here g with
                | true =>
                  rw [hcl, if_pos rfl] at hl
                  walk_at "m"
                  refine x_expr ?_ rfl rfl
                  refine e_append ?_ rfl rfl rfl rfl
                  walk_at "m"
                  refine ⟨_, _, rfl, by walk_at "m mem", ?_⟩
                  walk_at "m"
                  refine ⟨[_, _], rfl, line_ok (by simp), ?_⟩
                  refine ⟨_, _, _, rfl, line_ok (by omega), .head, rfl, ?_⟩
                  walk_at "m"
                  walk_at "m set"
                  try dsimp only
                  refine ⟨k, _, by omega, ?_, g, done ++ [dropD], spent, hgl, by omega, by simp; omega, by omega, hl, rfl⟩
                  exact ⟨by walk_at "m weak", List.Sublist.refl _⟩
                | false =>
                  rw [hcl, if_neg (by decide)] at hl
                  walk_at "m"
                  refine x_expr ?_ rfl rfl
                  refine e_append ?_ rfl rfl rfl rfl
                  walk_at "m"
                  refine ⟨_, _, rfl, by walk_at "m mem", ?_⟩
                  walk_at "m"
                  refine ⟨[_, _], rfl, line_ok (by simp), ?_⟩
                  refine ⟨_, _, _, rfl, line_ok (by omega), .head, rfl, ?_⟩
                  walk_at "m"
                  refine x_set ?_ rfl rfl rfl
                  walk_at "m"
                  walk_at "m lenc"
                  refine o_mod (by simp; omega) ?_
                  have hml : spent % ch.length < ch.length := Nat.mod_lt _ hch
                  rw [show ((spent : Int) % ((ch.map PyData.bool).length : Int)) = ((spent % ch.length : Nat) : Int) by simp]
                  obtain ⟨b, hb⟩ : ∃ b, ch[spent % ch.length]? = some b := ⟨ch[spent % ch.length], by simp [hml]⟩
                  refine s_bools hb (by omega) ?_
                  walk_at "m"
                  walk_at "m set"
                  refine x_set ?_ rfl rfl rfl
                  walk_at "m"
                  refine t_val ?_ rfl
                  walk_at "m"
                  rw [hb] at hl
                  cases b with
                  | true =>
                    rw [if_pos rfl] at hl
                    walk_at "m"
                    try dsimp only
                    rw [show ((spent : Int) + 1) = ((spent + 1 : Nat) : Int) by omega]
                    refine ⟨k, _, by omega, ?_, g, _, spent + 1, hgl, by omega, by simp; omega, by omega, hl, rfl⟩
                    exact ⟨by walk_at "m weak", List.Sublist.refl _⟩
                  | false =>
                    rw [if_neg (by decide)] at hl
                    walk_at "m"
                    try dsimp only
                    rw [show ((spent : Int) + 1) = ((spent + 1 : Nat) : Int) by omega, show ((here : Int) + 1) = ((here + 1 : Nat) : Int) by omega]
                    refine ⟨k, _, by omega, ?_, here + 1, _, spent + 1, by omega, by omega, by simp; omega, by omega, hl, rfl⟩
                    exact ⟨by walk_at "m weak", List.Sublist.refl _⟩
            | false =>
              refine if_f rfl ?_
              walk_at "m"
              refine x_expr ?_ rfl rfl
              refine e_append ?_ rfl rfl rfl rfl
              walk_at "m"
              refine ⟨_, _, rfl, by walk_at "m mem", ?_⟩
              walk_at "m"
              refine s_code hx hsm ?_
              refine ⟨_, _, _, rfl, line_ok (by omega), .head, rfl, ?_⟩
              walk_at "m"
              refine s_code hx hsm ?_
              walk_at "m"
              refine ⟨[_, _], rfl, line_ok (by simp), ?_⟩
              refine o_abort hA.eq ?_
              refine ex_bool ?_
              cases ha : x.isAbort with
              | true =>
                have hxa : x = .abort := by cases x <;> simp [Ins.isAbort] at ha; rfl
                subst hxa
                refine if_t rfl ?_
                walk_at "m"
                rw [← hl, led_abort hx hd]
                exact .inr ⟨a, _, [], [], rfl, rfl, rfl⟩
              | false =>
                rw [led_else hx hd hcd hj ha] at hl
                refine if_f rfl ?_
                walk_at "m"
                walk_at "m set"
                try dsimp only
                rw [show ((here : Int) + 1) = ((here + 1 : Nat) : Int) by omega]
                refine ⟨k, _, by omega, ?_, here + 1, _, spent, by omega, by omega, by simp; omega, by omega, hl, rfl⟩
                exact ⟨by walk_at "m weak", List.Sublist.refl _⟩
        · refine if_f (by simp; omega) ?_
          rw [led_full hx hd] at hl
          exact ⟨k + 1, here, done, spent, hk, by omega, hl, rfl⟩
    · refine if_f (by simpa using h) ?_
      refine ⟨k, here, done, spent, hk, by omega, ?_, rfl⟩
      rw [← hl]
      have hx : c[here]? = none := by simp; omega
      cases k with
      | zero => rfl
      | succ k => rw [led_end hx]; rfl
  · rintro _ ⟨k, here, done, spent, hk, hd, hl, rfl⟩
    walk_at "m"
    refine o_eqint hA.eq ?_
    walk_at "m"
    by_cases h : k = 0
    · subst h
      refine if_t rfl ?_
      walk_at "m"
      refine x_expr ?_ rfl rfl
      refine e_append ?_ rfl rfl rfl rfl
      walk_at "m"
      refine ⟨_, _, rfl, by walk_at "m mem", ?_⟩
      walk_at "m"
      refine ⟨_, _, _, rfl, line_ok (by omega), .head, rfl, ?_⟩
      walk_at "m"
      rw [← hl]
      exact .inr ⟨a, _, [], [], rfl, rfl, rfl⟩
    · refine if_f (by simp; omega) ?_
      walk_at "m"
      rw [← hl, if_neg h]
      exact .inr ⟨a, _, [], [], rfl, rfl, rfl⟩
end
/-- the pen: its cells, its spot, what is left of a big cell; k draws may come -/
noncomputable def PenOk (k : Nat) (ys : List PyData) : Prop := ∃ (cs : List Int) (spot : Nat) (rest : Int), ys = [.list (cs.map PyData.int), .int (spot : Int), .int rest] ∧ cs.length ≤ 24 ∧ spot + k ≤ 1000 ∧ 0 ≤ rest
section
variable {prog : Program} {w : World} {A : Around} {F : Frm} {σ : St}
theorem mid2 {s1 s2 : Stmt} {rest : List Stmt} {Q : Fl → St → Prop} (Mid : St → Prop) (h : WF (model prog w) A F (exec s1 F.env) σ (fun fl τ => fl = .next ∧ WF (model prog w) A F (exec s2 F.env) τ (fun fl τ' => fl = .next ∧ Mid τ')))
    (k : ∀ τ, Mid τ → WF (model prog w) A F (execs rest F.env) τ Q) : Then (model prog w) A F (s1 :: s2 :: rest) Q .next σ :=
  x_cons (W.mono h fun fl τ ⟨e, q⟩ => by subst e; exact x_cons (W.mono q fun fl τ' ⟨e, q⟩ => by subst e; exact k _ q))
end
theorem digit_nat {r : Int} {m : Nat} (hm : 0 < m) : ∃ j : Nat, PyData.int (r % (m : Int)) = .int (j : Int) ∧ j < m := by
  have h1 : 0 ≤ r % (m : Int) := Int.emod_nonneg _ (by omega)
  have h2 : r % (m : Int) < m := Int.emod_lt_of_pos _ (by omega)
  exact ⟨(r % (m : Int)).toNat, by rw [Int.toNat_of_nonneg h1], by omega⟩
section
variable {P : Params} {B : Heap} {prog : Program} {w : World}
theorem draw_spec (t : TopAt P B) (k many : Nat) (xs : List PyData) (hx : PenOk (k + 1) xs) (hm : 0 < many) (hm2 : many ≤ 1000) :
    PenRel prog w B 2 76 xs [.int (many : Int)] (fun ys d => PenOk k ys ∧ ∃ j : Nat, d = .int (j : Int) ∧ j < many) := by
  obtain ⟨cs, spot, rest, rfl, hcs, hsp, hr⟩ := hx
  refine pen_rel (D_draw t) rfl (loc := [("many", .d (.int (many : Int))), ("digit", .un), ("spot", .un), ("cell", .un), ("mix", .un)]) (fun _ => rfl) fun L far p A hA => ?_
  refine x_cons ?_
  walk_at "m"
  refine s_own (ds := [.list (cs.map PyData.int), .int (spot : Int), .int rest]) (by walk_at "m mem") (by decide) (by decide) rfl ?_
  walk_at "m"
  by_cases h0 : 0 < rest
  · refine if_t (by simpa using h0) ?_
    walk_at "m"
    refine x_set ?_ rfl rfl rfl
    walk_at "m"
    refine s_own (ds := [.list (cs.map PyData.int), .int (spot : Int), .int rest]) (by walk_at "m mem") (by decide) (by decide) rfl ?_
    walk_at "m"
    refine o_mod (by omega) ?_
    walk_at "m"
    refine s_own (ds := [.list (cs.map PyData.int), .int (spot : Int), .int rest]) (by walk_at "m mem") (by decide) (by decide) rfl ?_
    walk_at "m"
    refine o_div (by omega) (by omega) ?_
    walk_at "m"
    refine ⟨_, _, _, _, _, rfl, rfl, rfl, by decide, by decide, by simp, .head, ?_⟩
    walk_at "m"
    obtain ⟨j, hj, hjm⟩ := digit_nat (r := rest) hm
    exact ⟨_, _, ⟨⟨cs, spot, rest / (many : Int), rfl, hcs, by omega, Int.ediv_nonneg hr (by omega)⟩, j, hj, hjm⟩, .inl ⟨rfl, .head _⟩⟩
  · refine if_f (by simpa using h0) ?_
    walk_at "m"
    refine x_set ?_ rfl rfl rfl
    walk_at "m"
    refine s_own (ds := [.list (cs.map PyData.int), .int (spot : Int), .int rest]) (by walk_at "m mem") (by decide) (by decide) rfl ?_
    walk_at "m"
    refine ⟨_, _, _, _, _, rfl, rfl, rfl, by decide, by decide, by simp, .head, ?_⟩
    refine mid2 (fun τ => ∃ cl : Int, τ = ⟨[("pen", .own p), ("many", .d (.int (many : Int))), ("digit", .un), ("spot", .d (.int (spot : Int))), ("cell", .d (.int cl)), ("mix", .un)], [(p, [.list (cs.map PyData.int), .int ((spot : Int) + 1), .int rest])]⟩) ?_ ?_
    · refine x_set ?_ rfl rfl rfl
      walk_at "m"
      refine o_mul (IntMulOk.of_left (by decide)) ?_
      walk_at "m"
      refine ⟨rfl, ?_⟩
      walk_at "m"
      walk_at "m callB"
      walk_at "m"
      refine s_own (ds := [.list (cs.map PyData.int), .int ((spot : Int) + 1), .int rest]) (.head _) (by decide) (by decide) rfl ?_
      walk_at "m"
      refine v_len (by simp; omega) ?_
      walk_at "m"
      by_cases h1 : 0 < cs.length
      · refine if_t (by simp; omega) ?_
        walk_at "m"
        refine x_set ?_ rfl rfl rfl
        walk_at "m"
        refine s_own (ds := [.list (cs.map PyData.int), .int ((spot : Int) + 1), .int rest]) (.head _) (by decide) (by decide) rfl ?_
        walk_at "m"
        walk_at "m callB"
        walk_at "m"
        refine s_own (ds := [.list (cs.map PyData.int), .int ((spot : Int) + 1), .int rest]) (.head _) (by decide) (by decide) rfl ?_
        walk_at "m"
        refine v_len (by simp; omega) ?_
        refine o_mod (by simp; omega) ?_
        have hml : spot % cs.length < cs.length := Nat.mod_lt _ h1
        rw [show ((spot : Int) % ((cs.map PyData.int).length : Int)) = ((spot % cs.length : Nat) : Int) by simp]
        refine s_list (d := .int cs[spot % cs.length]) (by omega) (by omega) (by rw [Int.toNat_natCast]; simp [hml]) ?_
        walk_at "m"
        exact ⟨rfl, _, rfl⟩
      · refine if_f (decide_eq_false (by rw [List.length_map]; omega)) ?_
        walk_at "m"
        exact ⟨rfl, _, rfl⟩
    · rintro _ ⟨cl, rfl⟩
      refine x_cons ?_
      refine x_if ?_
      refine W.pure_b (decide (spot < cs.length) && decide ((10 : Int) ^ 18 ≤ (if cl < 0 then -cl else cl))) ?_ ?_
      · walk_at "m"
        walk_at "m callB"
        walk_at "m"
        refine s_own (ds := [.list (cs.map PyData.int), .int ((spot : Int) + 1), .int rest]) (.head _) (by decide) (by decide) rfl ?_
        walk_at "m"
        refine v_len (by simp; omega) ?_
        walk_at "m"
        by_cases h1 : spot < cs.length
        · refine if_t (by simp; omega) ?_
          walk_at "m"
          walk_at "m callB"
          walk_at "m"
          refine v_abs ?_
          walk_at "m"
          refine o_pow (by decide) (by decide) ?_
          walk_at "m"
          have e1 : ((10 : Int) ^ (Int.toNat 18)) = (10 : Int) ^ 18 := rfl
          rw [e1]
          by_cases h2 : (10 : Int) ^ 18 ≤ (if cl < 0 then -cl else cl)
          · refine if_t (decide_eq_true h2) ?_
            walk_at "m"
            exact ⟨by rw [decide_eq_true h1, decide_eq_true h2]; rfl, rfl⟩
          · refine if_f (decide_eq_false h2) ?_
            exact ⟨by rw [decide_eq_true h1, decide_eq_false h2]; rfl, rfl⟩
        · refine if_f (by simp; omega) ?_
          exact ⟨by rw [decide_eq_false h1]; rfl, rfl⟩
      · cases hbig : (decide (spot < cs.length) && decide ((10 : Int) ^ 18 ≤ (if cl < 0 then -cl else cl))) with
        | true =>
          have hbig2 : (10 : Int) ^ 18 ≤ (if cl < 0 then -cl else cl) := by
            have := (Bool.and_eq_true_iff.mp hbig).2
            exact of_decide_eq_true this
          walk_at "m"
          walk_at "m callB"
          walk_at "m"
          refine v_abs ?_
          walk_at "m"
          refine o_pow (by decide) (by decide) ?_
          walk_at "m"
          refine o_mul (IntMulOk.of_left (by decide)) ?_
          walk_at "m callT"
          walk_at "m"
          refine v_int ?_
          walk_at "m"
          refine ⟨_, _, _, _, _, rfl, rfl, rfl, by decide, by decide, by simp, .head, ?_⟩
          have e1 : ((10 : Int) ^ (Int.toNat 18)) = (10 : Int) ^ 18 := rfl
          rw [e1]
          generalize hv : 2 * ((if cl < 0 then -cl else cl) - (10 : Int) ^ 18) + (if decide (cl < 0) = true then 1 else 0) = v
          have hv0 : 0 ≤ v := by
            rw [← hv]
            have : (0 : Int) ≤ (if decide (cl < 0) = true then 1 else 0) := by split <;> decide
            omega
          walk_at "m"
          refine x_set ?_ rfl rfl rfl
          walk_at "m"
          refine s_own (ds := [.list (cs.map PyData.int), .int ((spot : Int) + 1), .int v]) (.head _) (by decide) (by decide) rfl ?_
          walk_at "m"
          refine o_mod (by omega) ?_
          walk_at "m"
          refine s_own (ds := [.list (cs.map PyData.int), .int ((spot : Int) + 1), .int v]) (.head _) (by decide) (by decide) rfl ?_
          walk_at "m"
          refine o_div (by omega) (by omega) ?_
          walk_at "m"
          refine ⟨_, _, _, _, _, rfl, rfl, rfl, by decide, by decide, by simp, .head, ?_⟩
          walk_at "m"
          obtain ⟨j, hj, hjm⟩ := digit_nat (r := v) hm
          exact ⟨_, _, ⟨⟨cs, spot + 1, v / (many : Int), rfl, hcs, by omega, Int.ediv_nonneg hv0 (by omega)⟩, j, hj, hjm⟩, .inl ⟨rfl, .head _⟩⟩
        | false =>
          walk_at "m"
          refine x_set ?_ rfl rfl rfl
          walk_at "m"
          refine o_mod (by decide) ?_
          walk_at "m"
          refine o_mul (IntMulOk.of_left (by decide)) ?_
          walk_at "m"
          have hm1 : 0 ≤ cl % 2147483579 := Int.emod_nonneg _ (by decide)
          have hm2' : cl % 2147483579 < 2147483579 := Int.emod_lt_of_pos _ (by decide)
          generalize cl % 2147483579 = r1 at *
          have b1 := intBits_le_64 (k := r1 + 92077 * (spot : Int) + 5741) (by omega) (by omega)
          refine o_pow (by decide) (by omega) ?_
          walk_at "m"
          refine o_mod (by decide) ?_
          generalize (r1 + 92077 * (spot : Int) + 5741) ^ (Int.toNat 3) = q1
          have hn1 : 0 ≤ q1 % 2147483647 := Int.emod_nonneg _ (by decide)
          have hn2 : q1 % 2147483647 < 2147483647 := Int.emod_lt_of_pos _ (by decide)
          generalize q1 % 2147483647 = r2 at *
          walk_at "m"
          refine x_set ?_ rfl rfl rfl
          walk_at "m"
          refine o_mul (IntMulOk.of_left (by decide)) ?_
          walk_at "m"
          refine o_mul (IntMulOk.of_left (intBits_le_64 (by omega) (by omega))) ?_
          walk_at "m"
          refine o_mul (IntMulOk.of_left (by decide)) ?_
          walk_at "m"
          have hp1 : 0 ≤ r2 * (2 * (spot : Int) + 373) := Int.mul_nonneg hn1 (by omega)
          have hp2 : r2 * (2 * (spot : Int) + 373) ≤ 2147483647 * 2373 := Int.mul_le_mul (by omega) (by omega) (by omega) (by decide)
          have b2 := intBits_le_64 (k := r2 * (2 * (spot : Int) + 373) + 65993 * (spot : Int) + 4931) (by omega) (by omega)
          refine o_pow (by decide) (by omega) ?_
          walk_at "m"
          refine o_mod (by decide) ?_
          walk_at "m"
          refine o_div (by decide) (by decide) ?_
          walk_at "m"
          refine o_mod (by omega) ?_
          walk_at "m"
          generalize (r2 * (2 * (spot : Int) + 373) + 65993 * (spot : Int) + 4931) ^ (Int.toNat 3) % 2147483629 / 32 = v
          obtain ⟨j, hj, hjm⟩ := digit_nat (r := v) hm
          exact ⟨_, _, ⟨⟨cs, spot + 1, rest, rfl, hcs, by omega, hr⟩, j, hj, hjm⟩, .inl ⟨rfl, .head _⟩⟩
end
theorem PenOk.le {k m : Nat} {ys : List PyData} (h : PenOk k ys) (hm : m ≤ k) : PenOk m ys := by
  obtain ⟨cs, spot, rest, h1, h2, h3, h4⟩ := h
  exact ⟨cs, spot, rest, h1, h2, by omega, h4⟩
section
variable {P : Params} {B : Heap} {prog : Program} {w : World}
theorem mkpen_spec (t : TopAt P B) (ns : List Int) (hn : ns.length ≤ 100) : NewSpec prog w B 2 69 [.list (ns.map PyData.int)] [.list ((ns.take 24).map PyData.int), .int 0, .int 0] := by
  refine new_spec' (D_pen t) rfl (loc := [("script", .d (.list (ns.map PyData.int)))]) rfl fun L far A hA => ?_
  refine x_cons ?_
  walk_at "m"
  refine e_listo ?_
  walk_at "m"
  walk_at "m callT"
  walk_at "m"
  refine ⟨_, rfl, line_ok (by simp; omega), ?_⟩
  walk_at "m"
  refine ⟨_, rfl, ?_⟩
  refine ⟨show (0 : Int) ≤ 24 by decide, ?_⟩
  walk_at "m"
  refine v_list (line_ok (by simp [cut]; omega)) ?_
  walk_at "m"
  refine ⟨[_, _, _], rfl, line_ok (by simp), fun a => ?_⟩
  walk_at "m"
  refine ⟨a, rfl, ?_⟩
  have e : cut (ns.map PyData.int) none (some 24) = (ns.take 24).map PyData.int := by
    unfold cut
    simp [List.map_take]
    try rfl
  rw [e]
  exact .head _
theorem code_spec (t : TopAt P B) (k : Nat) (xs : List PyData) (hx : PenOk (k + 19) xs) :
    PenRel prog w B 4 83 xs [] (fun ys d => PenOk k ys ∧ ∃ c, Ok c ∧ 1 ≤ c.length ∧ c.length ≤ 9 ∧ d = codeD c) := by
  refine pen_rel (D_code t) rfl (loc := [("size", .un), ("made", .un), ("at", .un), ("way", .un)]) (fun _ => rfl) fun L far p A hA => ?_
  refine x_cons ?_
  refine x_set ?_ rfl rfl rfl
  walk_at "m"
  walk_at "m callF"
  walk_at "m"
  refine v_penR (ds := [.int ((9 : Nat) : Int)]) (draw_spec t (k + 18) (9) xs hx (by omega) (by omega)) (hA.le (by omega)) (by walk_at "m mem") ?_
  rintro y1 _ ⟨p1, j, rfl, jm⟩
  refine ⟨_, .head, ?_⟩
  walk_at "m"
  rw [show (1 + (j : Int)) = ((j + 1 : Nat) : Int) by omega]
  generalize hn : j + 1 = n
  have hn1 : 1 ≤ n := by omega
  have hn9 : n ≤ 9 := by omega
  refine x_set ?_ rfl rfl rfl
  refine e_listo ?_
  walk_at "m"
  refine ⟨[], rfl, line_ok (by simp), fun m => ?_⟩
  walk_at "m"
  refine x_for ?_ (by intro _; rfl)
  walk_at "m range"
  walk_at "m"
  refine ⟨n, rfl, by omega, fun i σ => ∃ ys c, PenOk (k + 2 * (n - i)) ys ∧ c.length = i ∧ (∀ y ∈ c, ∀ g, y.goal = some g → g ≤ n) ∧ σ = ⟨[("pen", .own p), ("size", .d (.int (n : Int))), ("made", .own m), ("at", .un), ("way", .un)], [(m, c.map Ins.dat), (p, ys)]⟩, ⟨y1, [], p1.le (by omega), rfl, by simp, rfl⟩, ?_, ?_⟩
  · rintro Is i d _ hd ⟨ys, c, hp, hcl, hgo, rfl⟩
    obtain ⟨hi, rfl⟩ := rangeD_get hd
    walk_at "m"
    refine x_set ?_ rfl rfl rfl
    walk_at "m callF"
    walk_at "m"
    refine v_penR (ds := [.int ((9 : Nat) : Int)]) (draw_spec t (k + 2 * (n - i) - 1) (9) ys (hp.le (by omega)) (by omega) (by omega)) (hA.le (by omega)) (by walk_at "m mem") ?_
    rintro y2 _ ⟨p2, v, rfl, vm⟩
    refine ⟨_, .tail .head, ?_⟩
    walk_at "m"
    by_cases h3 : v < 3
    · refine if_t (by simp; omega) ?_
      walk_at "m"
      refine x_expr ?_ rfl rfl
      refine e_append ?_ rfl rfl rfl rfl
      walk_at "m"
      refine ⟨_, _, rfl, by walk_at "m mem", ?_⟩
      walk_at "m"
      refine ⟨[_, _], rfl, line_ok (by simp), ?_⟩
      refine ⟨_, _, _, rfl, line_ok (by simp; omega), .head, rfl, ?_⟩
      walk_at "m"
      try dsimp only
      refine ⟨_, ?_, y2, c ++ [.push i], PenOk.le p2 (by omega), by simp; omega, ?_, rfl⟩
      · exact ⟨by walk_at "m weak", by simp [Ins.dat, Ins.op, Ins.worth]⟩
      · intro y hy g hg
        rcases List.mem_append.mp hy with hy | hy
        · exact hgo y hy g hg
        · rw [List.mem_singleton.mp hy] at hg
          simp [Ins.goal] at hg <;> omega
    · refine if_f (by simp; omega) ?_
      walk_at "m"
      by_cases h5 : v < 5
      · refine if_t (by simp; omega) ?_
        walk_at "m"
        refine x_expr ?_ rfl rfl
        refine e_append ?_ rfl rfl rfl rfl
        walk_at "m"
        refine ⟨_, _, rfl, by walk_at "m mem", ?_⟩
        walk_at "m"
        walk_at "m callF"
        walk_at "m"
        rw [show ((n : Int) + 1) = ((n + 1 : Nat) : Int) by omega]
        refine v_penR (ds := [.int ((n + 1 : Nat) : Int)]) (draw_spec t (k + 2 * (n - i) - 2) (n + 1) y2 (p2.le (by omega)) (by omega) (by omega)) (hA.le (by omega)) (by walk_at "m mem") ?_
        rintro y3 _ ⟨p3, g0, rfl, g0m⟩
        refine ⟨_, .tail .head, ?_⟩
        walk_at "m"
        refine ⟨[_, _], rfl, line_ok (by simp), ?_⟩
        refine ⟨_, _, _, rfl, line_ok (by simp; omega), .head, rfl, ?_⟩
        walk_at "m"
        try dsimp only
        refine ⟨_, ?_, y3, c ++ [.jump g0], PenOk.le p3 (by omega), by simp; omega, ?_, rfl⟩
        · exact ⟨by walk_at "m weak", by simp [Ins.dat, Ins.op, Ins.worth]⟩
        · intro y hy g hg
          rcases List.mem_append.mp hy with hy | hy
          · exact hgo y hy g hg
          · rw [List.mem_singleton.mp hy] at hg
            simp [Ins.goal] at hg <;> omega
      · refine if_f (by simp; omega) ?_
        walk_at "m"
        by_cases h8 : v < 8
        · refine if_t (by simp; omega) ?_
          walk_at "m"
          refine x_expr ?_ rfl rfl
          refine e_append ?_ rfl rfl rfl rfl
          walk_at "m"
          refine ⟨_, _, rfl, by walk_at "m mem", ?_⟩
          walk_at "m"
          refine e_listd ?_
          walk_at "m"
          refine ⟨[_, _, _], rfl, line_ok (by simp), ?_⟩
          walk_at "m"
          refine s_list (d := .str (if v = 5 then "unless" else "when")) (by omega) (by omega) (by rcases (by omega : v = 5 ∨ v = 6 ∨ v = 7) with rfl | rfl | rfl <;> rfl) ?_
          walk_at "m"
          walk_at "m callF"
          walk_at "m"
          rw [show ((n : Int) + 1) = ((n + 1 : Nat) : Int) by omega]
          refine v_penR (ds := [.int ((n + 1 : Nat) : Int)]) (draw_spec t (k + 2 * (n - i) - 2) (n + 1) y2 (p2.le (by omega)) (by omega) (by omega)) (hA.le (by omega)) (by walk_at "m mem") ?_
          rintro y3 _ ⟨p3, g0, rfl, g0m⟩
          refine ⟨_, .tail .head, ?_⟩
          walk_at "m"
          refine ⟨[_, _], rfl, line_ok (by simp), ?_⟩
          refine ⟨_, _, _, rfl, line_ok (by simp; omega), .head, rfl, ?_⟩
          walk_at "m"
          try dsimp only
          refine ⟨_, ?_, y3, c ++ [if v = 5 then .unls g0 else .whn g0], PenOk.le p3 (by omega), by simp; omega, ?_, rfl⟩
          · exact ⟨by walk_at "m weak", by by_cases e : v = 5 <;> simp [e, Ins.dat, Ins.op, Ins.worth]⟩
          · intro y hy g hg
            rcases List.mem_append.mp hy with hy | hy
            · exact hgo y hy g hg
            · rw [List.mem_singleton.mp hy] at hg
              by_cases e : v = 5 <;> simp [e, Ins.goal] at hg <;> omega
        · refine if_f (by simp; omega) ?_
          walk_at "m"
          refine x_expr ?_ rfl rfl
          refine e_append ?_ rfl rfl rfl rfl
          walk_at "m"
          refine ⟨_, _, rfl, by walk_at "m mem", ?_⟩
          walk_at "m"
          refine e_listd ?_
          walk_at "m"
          refine ⟨[_, _], rfl, line_ok (by simp), ?_⟩
          walk_at "m"
          refine ⟨[_, _], rfl, line_ok (by simp), ?_⟩
          walk_at "m"
          refine ⟨[_, _], rfl, line_ok (by simp), ?_⟩
          walk_at "m"
          refine ⟨[_, _, _], rfl, line_ok (by simp), ?_⟩
          walk_at "m callF"
          walk_at "m"
          refine v_penR (ds := [.int ((3 : Nat) : Int)]) (draw_spec t (k + 2 * (n - i) - 2) (3) y2 (p2.le (by omega)) (by omega) (by omega)) (hA.le (by omega)) (by walk_at "m mem") ?_
          rintro y3 _ ⟨p3, g0, rfl, g0m⟩
          refine ⟨_, .tail .head, ?_⟩
          refine s_list (d := (if g0 = 0 then Ins.drop else if g0 = 1 then Ins.abort else Ins.rok).dat) (by omega) (by omega) (by rcases (by omega : g0 = 0 ∨ g0 = 1 ∨ g0 = 2) with rfl | rfl | rfl <;> rfl) ?_
          refine ⟨_, _, _, rfl, line_ok (by simp; omega), .head, rfl, ?_⟩
          walk_at "m"
          try dsimp only
          refine ⟨_, ?_, y3, c ++ [if g0 = 0 then Ins.drop else if g0 = 1 then Ins.abort else Ins.rok], PenOk.le p3 (by omega), by simp; omega, ?_, rfl⟩
          · exact ⟨by walk_at "m weak", by simp⟩
          · intro y hy g hg
            rcases List.mem_append.mp hy with hy | hy
            · exact hgo y hy g hg
            · rw [List.mem_singleton.mp hy] at hg
              by_cases e : g0 = 0
              · simp [e, Ins.goal] at hg
              · by_cases e2 : g0 = 1 <;> simp [e, e2, Ins.goal] at hg
  · rintro _ ⟨ys, c, hp, hcl, hgo, rfl⟩
    rw [rangeD_length] at hp hcl
    walk_at "m"
    exact ⟨ys, _, ⟨hp.le (by omega), c, ⟨by omega, fun y hy g hg => by rw [hcl]; exact hgo y hy g hg⟩, by omega, by omega, rfl⟩, .inr ⟨m, _, [], _, rfl, rfl, rfl, .head _⟩⟩
end
noncomputable def goalsL (c : List Ins) : List PyData := (c.filterMap Ins.goal).map fun (g : Nat) => PyData.int (g : Int)
theorem goals_flat {c : List Ins} : ∀ x ∈ goalsL c, Flat 1 x := fun x hx => by
  obtain ⟨a, _, rfl⟩ := List.mem_map.mp hx; exact flat_int _
noncomputable def dropOn (l : List PyData) : List PyData := l.filter fun d => !PyData.eqv d (.str "on")
noncomputable def hasOn (l : List PyData) : Bool := l.any fun y => PyData.eqv y (.str "on")
noncomputable def closeJ (c : List Ins) (al : List Bool) (a : Nat) : Bool := match c[a]? with
  | some (.jump g) => (al.getD a false) && closeF al a g
  | _ => false
noncomputable def leftL (c : List Ins) (al : List Bool) : List Nat := (List.range c.length).filter fun a => al.getD a false
noncomputable def closingL (c : List Ins) (al : List Bool) : List Nat := (List.range c.length).filter fun a => closeJ c al a
structure Facts (c : List Ins) : Prop where
  f1 : (List.range (c.length + 1)).map (fun (a : Nat) => PyData.bool ((goalsL c).any fun y => PyData.eqv y (.int (a : Int)))) = (targetsF c).map PyData.bool
  f2 : reachF c = aliveF c
  f3 : ∀ a ≤ c.length, lastF c a = goalF c a
  okT : Ok (threadedF c)
  okL : Ok (leanF c)
  f4 : ∀ ch, ch.length = 5 → (dropOn (ledF (threadedF c) ch [])).take 14 = (dropOn (ledF c ch [])).take 14 ∨ hasOn (ledF c ch []) = true
  f5 : ∀ ch, ch.length = 5 → hasOn (ledF c ch []) = true ∨ ledF c ch (aliveF c) = ledF (leanF c) ch [] ∨ hasOn (ledF c ch (aliveF c)) = true
  f6 : ((leanF c).length : Int) = ((leftL c (aliveF c)).length : Int) - ((closingL c (aliveF c)).length : Int)
  f7 : ∀ b ∈ (reachF (leanF c)).take (leanF c).length, b = true
section
variable {prog : Program} {w : World} {A : Around} {F : Frm} {σ : St}
theorem mid_same {s1 : Stmt} {rest : List Stmt} {Q : Fl → St → Prop} (h : WF (model prog w) A F (exec s1 F.env) σ (fun fl τ => fl = .next ∧ τ = σ)) (k : WF (model prog w) A F (execs rest F.env) σ Q) : WF (model prog w) A F (execs (s1 :: rest) F.env) σ Q :=
  x_cons (W.mono h fun fl τ ⟨e1, e2⟩ => by subst e1; subst e2; exact k)
end
section
variable {α β : Type} {R : Frm → St → Heap → α → β → Prop} {M : Model} {A : Around} {F : Frm} {σ : St} {t : Sem α} {Q : β → St → Prop}
theorem FS.turn {h : Heap} {loc loc' : List (Str × X)} {own : List (Addr × List PyData)} {n : Str} {x x' : X} (f : FS F ⟨loc, own⟩ h) (hm : (n, x) ∈ loc) (hu : ¬ isUn x) (p : Put n x' loc loc') (k : ∀ v, XR F ⟨loc, own⟩ h v x → XR F ⟨loc, own⟩ h v x') :
    FS F ⟨loc', own⟩ h ∧ Go F ⟨loc, own⟩ h ⟨loc', own⟩ h := by
  refine ⟨⟨?_, fun q hq hk => ?_, f.capart, f.own, f.nd, f.kd, by rw [p.names]; exact f.ln, f.base, f.ex, f.cx⟩, ⟨fun _ _ _ _ e => e, fun _ ha => .inl ha, fun _ o e => ⟨o, e⟩⟩⟩
  · obtain ⟨m, h1, h2⟩ := f.ns
    refine ⟨m, h1, fun q hq hk hu' => ?_⟩
    rcases p.back f.ln q hq with rfl | ⟨_, hq⟩
    · obtain ⟨v, e, r⟩ := h2 _ hm hk hu
      exact ⟨v, e, k v r⟩
    · exact h2 q hq hk hu'
  · rcases p.back f.ln q hq with rfl | ⟨_, hq⟩
    · obtain ⟨c, v₀, h1, h2, h3⟩ := f.cell _ hm hk
      obtain ⟨v, e, r⟩ := h3 hu
      exact ⟨c, v₀, h1, h2, fun _ => ⟨v, e, k v r⟩⟩
    · exact f.cell q hq hk
theorem W.freeze {n : Str} {D : Addr} {es : List PyData} {loc loc' : List (Str × X)} {own pre post : List (Addr × List PyData)} (e : own = pre ++ (D, es) :: post) (hm : (n, X.own D) ∈ loc) (p : Put n (.d (.list es)) loc loc')
    (h : W R M A F t ⟨loc', pre ++ post⟩ Q) : W R M A F t ⟨loc, own⟩ Q := fun s f => by
  obtain ⟨f1, g1, rp⟩ := f.freeze e
  obtain ⟨f2, g2⟩ := f1.turn hm (fun z => z) p (fun v r => by cases (r : v = .ref D); exact rp)
  exact wpAny_mono (h s f2) (fun _ _ q => q.back (g1.trans g2) (.refl _)) fun _ _ z => z
end
section
variable {prog : Program} {w : World} {A : Around} {F : Frm} {σ : St}
theorem o_same {d : PyData} {n : Nat} {Q : X → St → Prop} (hu : A.units + 64 < cLine) (f : Flat n d) (h : Q (.d (.bool false)) σ) (hn : n ≤ 64 := by decide) : V2 (model prog w) A F (compareOp .NotEq) (.d d) (.d d) σ Q :=
  o_ne hu (f.shaped hn) (f.shaped hn) (by rw [SeqAt.eqv_refl d f.1]; exact h)
theorem o_noton {xs : List PyData} {Q : X → St → Prop} (hu : A.units + 64 < cLine) (hx : ∀ x ∈ xs, Flat 2 x) (h : Q (.d (.bool (!hasOn xs))) σ) : V2 (model prog w) A F (compareOp .NotIn) (.d (.str "on")) (.d (.list xs)) σ Q :=
  o_notin hu (flat_str (x := "on")).shaped (canAll _ hx) (Nat.le_trans (flat_str (x := "on")).2 (by decide)) h
theorem led_flat {c : List Ins} {ch lv : List Bool} : ∀ (k here : Nat) (done : List PyData) (spent : Nat), (∀ x ∈ done, Flat 2 x) → (∀ x ∈ ledLoop c ch lv k here done spent, Flat 2 x) ∧ (ledLoop c ch lv k here done spent).length ≤ done.length + k + 1
  | 0, here, done, spent, h => ⟨fun x hx => by
      rcases List.mem_append.mp hx with hx | hx
      · exact h x hx
      · rw [List.mem_singleton.mp hx]; exact (flat_str (x := "on")).le (by decide), by simp [ledLoop]⟩
  | k + 1, here, done, spent, h => by
    have snoc : ∀ d, Flat 2 d → ∀ x ∈ done ++ [d], Flat 2 x := fun d hd x hx => by
      rcases List.mem_append.mp hx with hx | hx
      · exact h x hx
      · rw [List.mem_singleton.mp hx]; exact hd
    have fd : Flat 2 dropD := flat_pair flat_str flat_none
    have step : ∀ here d spent, Flat 2 d → (∀ x ∈ ledLoop c ch lv k here (done ++ [d]) spent, Flat 2 x) ∧ (ledLoop c ch lv k here (done ++ [d]) spent).length ≤ done.length + (k + 1) + 1 := fun here d spent hd => by
      obtain ⟨h1, h2⟩ := led_flat k here (done ++ [d]) spent (snoc d hd)
      exact ⟨h1, by simp at h2; omega⟩
    have fs : ∀ (z : Str) (n : Nat), z = "unless" ∨ z = "when" → Flat 2 (.tuple [.str z, .int (n : Int)]) := fun z n hz => by
      rcases hz with rfl | rfl <;> exact flat_pair flat_str (flat_int _)
    cases hx : c[here]? with
    | none => rw [led_end hx]; exact ⟨h, by omega⟩
    | some x =>
      by_cases hd : done.length < 14
      · cases hj : x.isJump with
        | true =>
          obtain ⟨g, rfl⟩ := jump_of hj
          rw [led_jump hx hd]
          obtain ⟨h1, h2⟩ := led_flat k g done spent h
          exact ⟨h1, by omega⟩
        | false =>
          cases hcd : x.isCond with
          | true =>
            obtain ⟨g, hg⟩ := cond_goal hcd
            rw [led_cond hx hd hcd hg]
            split
            · exact step _ _ _ fd
            · exact step _ _ _ (fs _ _ (by cases x <;> simp [Ins.isCond] at hcd; exact .inl rfl; exact .inr rfl))
          | false =>
            cases ha : x.isAbort with
            | true =>
              have hxa : x = .abort := by cases x <;> simp [Ins.isAbort] at ha; rfl
              subst hxa
              rw [led_abort hx hd]
              exact ⟨snoc _ (flat_dat _), by simp⟩
            | false =>
              rw [led_else hx hd hcd hj ha]
              exact step _ _ _ (flat_dat x)
      · rw [led_full hx hd]; exact ⟨h, by omega⟩
theorem ledF_flat (c : List Ins) (ch lv : List Bool) : (∀ x ∈ ledF c ch lv, Flat 2 x) ∧ (ledF c ch lv).length ≤ 61 := by
  have := led_flat (c := c) (ch := ch) (lv := lv) 60 0 [] 0 (fun x hx => nomatch hx)
  exact ⟨this.1, by have := this.2; unfold ledF; simpa using this⟩
theorem dropOn_flat {l : List PyData} (h : ∀ x ∈ l, Flat 2 x) : ∀ x ∈ (dropOn l).take 14, Flat 2 x := fun x hx => h x (List.mem_filter.mp (List.mem_of_mem_take hx)).1
end
section
variable {P : Params} {B : Heap} {prog : Program} {w : World}
theorem law_spec (facts : ∀ c, Ok c → 1 ≤ c.length → c.length ≤ 9 → Facts c) (t : TopAt P B) (ns : List Int) (hn : ns.length ≤ 100) : PureSpec prog w B 8 109 [.list (ns.map PyData.int)] (.bool true) := by
  refine pure_spec' (D_law t) rfl (loc := [("script", .d (.list (ns.map PyData.int))), ("pen", .un), ("lap", .un), ("code", .un), ("kept", .un), ("goals", .un), ("living", .un), ("brisk", .un), ("lean", .un), ("turn", .un), ("choices", .un), ("due", .un), ("left", .un), ("closing", .un)]) rfl fun L far A hA => ?_
  refine x_cons ?_
  refine x_set ?_ rfl rfl rfl
  walk_at "m callF"
  walk_at "m"
  refine v_new (ds := [.list (ns.map PyData.int)]) (mkpen_spec t ns hn) (hA.le (by omega)) fun p => ?_
  walk_at "m"
  refine x_for ?_ (by intro _; rfl)
  walk_at "m range"
  walk_at "m"
  refine ⟨3, rfl, by omega, fun i σ => ∃ ys, PenOk (29 * (3 - i)) ys ∧ σ = ⟨[("script", .d (.list (ns.map PyData.int))), ("pen", .own p), ("lap", .un), ("code", .un), ("kept", .un), ("goals", .un), ("living", .un), ("brisk", .un), ("lean", .un), ("turn", .un), ("choices", .un), ("due", .un), ("left", .un), ("closing", .un)], [(p, ys)]⟩,
    ⟨_, ⟨ns.take 24, 0, 0, rfl, by simp; omega, by omega, by omega⟩, rfl⟩, ?_, ?_⟩
  · rintro Is i d _ hd ⟨ys, hp, rfl⟩
    obtain ⟨hi, rfl⟩ := rangeD_get hd
    walk_at "m"
    refine x_set ?_ rfl rfl rfl
    walk_at "m callF"
    walk_at "m"
    refine v_penR (ds := []) (code_spec t (29 * (3 - i) - 19) ys (hp.le (by omega))) (hA.le (by omega)) (by walk_at "m mem") ?_
    rintro y1 _ ⟨p1, c, hc, hc1, hc9, rfl⟩
    have fc := facts c hc hc1 hc9
    have hsm := hc.small
    refine ⟨_, .head, ?_⟩
    walk_at "m"
    refine x_set ?_ rfl rfl rfl
    walk_at "m callT"
    walk_at "m"
    refine v_list (line_ok (by simp; omega)) ?_
    walk_at "m"
    refine x_set ?_ rfl rfl rfl
    refine e_comp (cl := []) ⟨rfl, by decide, rfl, by decide, (fun q hq => nomatch hq), .nil⟩ ?_ (by intro _; rfl)
    refine i_list hA.handled ?_
    walk_at "m"
    refine ⟨_, rfl, [(".0", .un), ("op", .un), ("worth", .un)], fun i es own => es = goalsL (c.take i) ∧ own = [(p, y1)], lin_of2 (ns := []) (us := [".0", "op", "worth"]) (cs := []) (List.forall_mem_cons.mpr ⟨rfl, List.forall_mem_cons.mpr ⟨rfl, List.forall_mem_cons.mpr ⟨rfl, fun _ h => nomatch h⟩⟩⟩) (fun _ h => nomatch h) rfl (by decide), by simp; omega, ⟨rfl, rfl⟩, ?_, ?_⟩
    · rintro C D Is i d es own hd ⟨rfl, rfl⟩
      obtain ⟨x, hx, rfl⟩ := get_dat hd
      refine a_tup2 hA.handled ?_ rfl
      walk_at "m"
      refine ts_one ?_
      walk_at "m"
      refine ⟨[_, _, _], rfl, line_ok (by simp), ?_⟩
      refine o_jumps hA.eq ?_
      refine ex_bool ?_
      cases hg : x.goal with
      | none =>
        refine if_f rfl ?_
        refine ⟨_, ⟨by walk_at "m weak", List.Sublist.refl _⟩, ?_, rfl⟩
        rw [List.take_add_one, hx]; simp [goalsL, hg]
      | some g =>
        refine if_t rfl ?_
        walk_at "m"
        refine ⟨_, _, congrArg X.d (worth_of hg), ⟨by walk_at "m weak", List.Sublist.refl _⟩, ?_, rfl⟩
        rw [List.take_add_one, hx]; simp [goalsL, hg]
    · rintro es own ⟨rfl, rfl⟩
      rw [List.length_map, List.take_length]
      with_reducible apply a_cell
      case hk => rfl
      case p => walk_at "m put"
      case hF => exact fun c hc => List.mem_cons_of_mem _ (List.mem_map.mpr ⟨_, mem_of_lookup hc, rfl⟩)
      case hs => rfl
      refine then_next ?_
      try dsimp only
      refine mid_same (x_if (W.pure_b false ?_ ?_)) ?_
      · walk_at "m"
        walk_at "m callF"
        walk_at "m"
        refine v_pure (ds := [codeD c]) (targets_spec t c hc) (hA.le (by omega)) ?_
        refine e_comp (cl := [("goals", L + 3)]) ⟨rfl, by decide, rfl, by decide, (fun q hq => by rw [List.mem_singleton.mp hq]; rfl), by simp⟩ ?_ (by intro _; rfl)
        walk_at "m range"
        walk_at "m"
        walk_at "m lenc"
        walk_at "m"
        refine ⟨c.length + 1, by simp, by omega, [(".0", .un), ("at", .un), ("goals", .d (.list (goalsL c)))], fun i es own => es = (List.range i).map (fun (a : Nat) => PyData.bool ((goalsL c).any fun y => PyData.eqv y (.int (a : Int)))) ∧ own = [(p, y1)], lin_of2 (ns := ["goals"]) (us := [".0", "at"]) (cs := [("goals", .d (.list (goalsL c)))]) (List.forall_mem_cons.mpr ⟨rfl, List.forall_mem_cons.mpr ⟨rfl, fun _ h => nomatch h⟩⟩) (fun q hq => by rw [List.mem_singleton.mp hq]; exact ⟨rfl, rfl, by walk_at "m mem", rfl⟩) rfl (by decide), by rw [rangeD_length]; omega, ⟨rfl, rfl⟩, ?_, ?_⟩
        · rintro C D Is' j d es own hd ⟨rfl, rfl⟩
          obtain ⟨hj, rfl⟩ := rangeD_get hd
          walk_at "m"
          refine ts_nil ?_
          walk_at "m"
          refine o_in hA.eq (flat_int _).shaped (canAll (n := 1) _ goals_flat) (Nat.le_trans (flat_int _).2 (by decide)) ?_
          refine ⟨_, _, rfl, ⟨by walk_at "m weak", List.Sublist.refl _⟩, ?_, rfl⟩
          rw [List.range_succ]; simp
        rintro es own ⟨rfl, rfl⟩
        rw [rangeD_length]
        rw [fc.f1]
        refine o_same hA.eq (flat_bools _) ?_
        exact ⟨_, rfl, rfl, rfl⟩
      · refine if_f rfl ?_
        exact x_nil ⟨rfl, rfl⟩
      refine x_cons ?_
      refine x_set ?_ rfl rfl rfl
      walk_at "m callF"
      walk_at "m"
      refine v_pure (ds := [codeD c]) (alive_spec t c hc) (hA.le (by omega)) ?_
      generalize hal : aliveF c = al at *
      have hall : al.length = c.length + 1 := by rw [← hal]; exact lapsF_length c _
      with_reducible apply a_cell
      case hk => rfl
      case p => walk_at "m put"
      case hF => exact fun c hc => List.mem_cons_of_mem _ (List.mem_map.mpr ⟨_, mem_of_lookup hc, rfl⟩)
      case hs => rfl
      refine then_next ?_
      try dsimp only
      refine mid_same (x_if (W.pure_b false ?_ ?_)) ?_
      · walk_at "m"
        walk_at "m callF"
        walk_at "m"
        refine v_pure (ds := [codeD c]) (reached_spec t c hc) (hA.le (by omega)) ?_
        walk_at "m"
        rw [fc.f2, hal]
        refine o_same hA.eq (flat_bools _) ?_
        refine ex_bool ?_
        refine if_f rfl ?_
        refine or_cons ?_
        refine t_cmp ?_ rfl
        refine e_comp (cl := [("code", L + 2)]) ⟨rfl, by decide, rfl, by decide, (fun q hq => by rw [List.mem_singleton.mp hq]; rfl), by simp⟩ ?_ (by intro _; rfl)
        walk_at "m range"
        walk_at "m"
        walk_at "m lenc"
        walk_at "m"
        refine ⟨c.length + 1, by simp, by omega, [(".0", .un), ("at", .un), ("code", .d (codeD c))], fun i es own => es = (List.range i).map (fun (a : Nat) => PyData.int (lastF c a : Int)) ∧ own = [(p, y1)], lin_of2 (ns := ["code"]) (us := [".0", "at"]) (cs := [("code", .d (codeD c))]) (List.forall_mem_cons.mpr ⟨rfl, List.forall_mem_cons.mpr ⟨rfl, fun _ h => nomatch h⟩⟩) (fun q hq => by rw [List.mem_singleton.mp hq]; exact ⟨rfl, rfl, by walk_at "m mem", rfl⟩) rfl (by decide), by rw [rangeD_length]; omega, ⟨rfl, rfl⟩, ?_, ?_⟩
        · rintro C D Is' j d es own hd ⟨rfl, rfl⟩
          obtain ⟨hj, rfl⟩ := rangeD_get hd
          walk_at "m"
          refine ts_nil ?_
          walk_at "m"
          walk_at "m callF"
          walk_at "m"
          refine v_pure (ds := [codeD c, .int (j : Int)]) (last_spec t c hc j (by omega)) (hA.le (by omega)) ?_
          refine ⟨_, _, rfl, ⟨by walk_at "m weak", List.Sublist.refl _⟩, ?_, rfl⟩
          rw [List.range_succ]; simp
        rintro es own ⟨rfl, rfl⟩
        rw [rangeD_length]
        refine e_comp (cl := [("code", L + 2)]) ⟨rfl, by decide, rfl, by decide, (fun q hq => by rw [List.mem_singleton.mp hq]; rfl), by simp⟩ ?_ (by intro _; rfl)
        walk_at "m range"
        walk_at "m"
        walk_at "m lenc"
        walk_at "m"
        refine ⟨c.length + 1, by simp, by omega, [(".0", .un), ("at", .un), ("code", .d (codeD c))], fun i es own => es = (List.range i).map (fun (a : Nat) => PyData.int (goalF c a : Int)) ∧ own = [(p, y1)], lin_of2 (ns := ["code"]) (us := [".0", "at"]) (cs := [("code", .d (codeD c))]) (List.forall_mem_cons.mpr ⟨rfl, List.forall_mem_cons.mpr ⟨rfl, fun _ h => nomatch h⟩⟩) (fun q hq => by rw [List.mem_singleton.mp hq]; exact ⟨rfl, rfl, by walk_at "m mem", rfl⟩) rfl (by decide), by rw [rangeD_length]; omega, ⟨rfl, rfl⟩, ?_, ?_⟩
        · rintro C D Is' j d es own hd ⟨rfl, rfl⟩
          obtain ⟨hj, rfl⟩ := rangeD_get hd
          walk_at "m"
          refine ts_nil ?_
          walk_at "m"
          walk_at "m callF"
          walk_at "m"
          refine v_pure (ds := [codeD c, .int (j : Int)]) (goal_spec t c hc j (by omega)) (hA.le (by omega)) ?_
          refine ⟨_, _, rfl, ⟨by walk_at "m weak", List.Sublist.refl _⟩, ?_, rfl⟩
          rw [List.range_succ]; simp
        rintro es own ⟨rfl, rfl⟩
        rw [rangeD_length]
        have e : (List.range (c.length + 1)).map (fun (a : Nat) => PyData.int (lastF c a : Int)) = (List.range (c.length + 1)).map (fun (a : Nat) => PyData.int (goalF c a : Int)) := List.map_congr_left fun a ha => by rw [fc.f3 a (by have := List.mem_range.mp ha; omega)]
        rw [e]
        refine o_same (n := 2) hA.eq (flat_list fun x hx => by obtain ⟨a, _, rfl⟩ := List.mem_map.mp hx; exact flat_int _) ?_
        refine ex_bool ?_
        refine if_f rfl ?_
        exact or_nil ⟨rfl, rfl⟩
      · refine if_f rfl ?_
        exact x_nil ⟨rfl, rfl⟩
      refine x_cons ?_
      refine x_swap2 (n1 := "brisk") (n2 := "lean") hA.handled ?_ rfl rfl rfl
      walk_at "m callF"
      walk_at "m"
      refine v_pure (ds := [codeD c]) (thread_spec t c hc) (hA.le (by omega)) ?_
      walk_at "m callF"
      walk_at "m"
      refine v_pure (ds := [codeD c]) (dead_spec t c hc) (hA.le (by omega)) ?_
      walk_at "m"
      try dsimp only
      refine x_for ?_ (by intro _; rfl)
      walk_at "m range"
      walk_at "m"
      refine ⟨2, rfl, by omega, fun tu σ => ∃ ys, PenOk (10 - 5 * tu + 29 * (3 - (i + 1))) ys ∧ σ = ⟨[("script", .d (.list (ns.map PyData.int))), ("pen", .own p), ("lap", .d (.int (i : Int))), ("code", .d (codeD c)), ("kept", .d (codeD c)), ("goals", .d (.list (goalsL c))), ("living", .d (boolsD al)), ("brisk", .d (codeD (threadedF c))), ("lean", .d (codeD (leanF c))), ("turn", .un), ("choices", .un), ("due", .un), ("left", .un), ("closing", .un)], [(p, ys)]⟩, ⟨y1, p1.le (by omega), rfl⟩, ?_, ?_⟩
      · rintro Is2 tu d _ hd2 ⟨ys2, hp2, rfl⟩
        obtain ⟨htu, rfl⟩ := rangeD_get hd2
        walk_at "m"
        refine x_comp (cl := [("pen", L + 1)]) ⟨rfl, by decide, rfl, by decide, (fun q hq => by rw [List.mem_singleton.mp hq]; rfl), by simp⟩ ?_ rfl rfl (by intro _; rfl)
        walk_at "m range"
        walk_at "m"
        refine ⟨5, rfl, by omega, [(".0", .un), ("spot", .un), ("pen", .own p)], fun k es own => ∃ ys bs, PenOk (10 - 5 * tu - k + 29 * (3 - (i + 1))) ys ∧ bs.length = k ∧ es = bs.map PyData.bool ∧ own = [(p, ys)], lin_of2 (ns := ["pen"]) (us := [".0", "spot"]) (cs := [("pen", .own p)]) (List.forall_mem_cons.mpr ⟨rfl, List.forall_mem_cons.mpr ⟨rfl, fun _ h => nomatch h⟩⟩) (fun q hq => by rw [List.mem_singleton.mp hq]; exact ⟨rfl, rfl, by walk_at "m mem", rfl⟩) rfl (by decide), by rw [rangeD_length]; omega, ⟨ys2, [], hp2.le (by omega), rfl, rfl, rfl⟩, ?_, ?_⟩
        · rintro C D Is' k d es own hd ⟨y3, bs, p3, hbl, rfl, rfl⟩
          obtain ⟨hk, rfl⟩ := rangeD_get hd
          walk_at "m"
          refine ts_nil ?_
          walk_at "m"
          walk_at "m callF"
          walk_at "m"
          refine v_penR (ds := [.int ((2 : Nat) : Int)]) (draw_spec t (10 - 5 * tu - (k + 1) + 29 * (3 - (i + 1))) 2 y3 (p3.le (by omega)) (by omega) (by omega)) (hA.le (by omega)) (by walk_at "m mem") ?_
          rintro y4 _ ⟨p4, v, rfl, vm⟩
          refine ⟨_, .head, ?_⟩
          walk_at "m"
          refine o_eqint hA.eq ?_
          refine ⟨_, _, rfl, ⟨by walk_at "m weak", List.Sublist.refl _⟩, y4, bs ++ [decide ((v : Int) = 1)], p4, by simp [hbl], by simp, rfl⟩
        rintro D es own C ⟨y3, ch, p3, hch, rfl, rfl⟩
        rw [rangeD_length] at hch p3
        with_reducible apply a_loc
        case hk => rfl
        case p => walk_at "m put"
        case hF => exact List.mem_cons_self
        case hs => rfl
        try dsimp only
        refine then_next ?_
        refine W.freeze (n := "choices") (D := D) (es := ch.map PyData.bool) (pre := []) (post := [(p, y3)]) (loc' := [("script", .d (.list (ns.map PyData.int))), ("pen", .own p), ("lap", .d (.int (i : Int))), ("code", .d (codeD c)), ("kept", .d (codeD c)), ("goals", .d (.list (goalsL c))), ("living", .d (boolsD al)), ("brisk", .d (codeD (threadedF c))), ("lean", .d (codeD (leanF c))), ("turn", .d (.int (tu : Int))), ("choices", .d (boolsD ch)), ("due", .un), ("left", .un), ("closing", .un)]) rfl (by walk_at "m mem") (by walk_at "m put") ?_
        refine x_cons ?_
        refine x_set ?_ rfl rfl rfl
        walk_at "m callF"
        walk_at "m"
        refine e_listd ?_
        walk_at "m"
        refine ⟨[], rfl, line_ok (by simp), ?_⟩
        walk_at "m"
        refine v_pure (ds := [codeD c, boolsD ch, boolsD []]) (led_spec t c hc ch (by omega) (by omega) [] (.inl rfl)) (hA.le (by omega)) ?_
        have fd := ledF_flat c ch []
        have f4 := fc.f4 ch hch
        have f5 := fc.f5 ch hch
        rw [hal] at f5
        generalize hdue : ledF c ch [] = due at *
        with_reducible apply a_loc
        case hk => rfl
        case p => walk_at "m put"
        case hF => exact List.mem_cons_self
        case hs => rfl
        try dsimp only
        refine then_next ?_
        have ft := ledF_flat (threadedF c) ch []
        generalize hbr : ledF (threadedF c) ch [] = br at *
        refine mid_same (x_if (W.pure_b (!PyData.eqv (.list ((dropOn br).take 14)) (.list ((dropOn due).take 14))) ?_ ?_)) ?_
        · refine t_cmp ?_ rfl
          refine e_slice ?_
          refine e_comp (cl := []) ⟨rfl, by decide, rfl, by decide, (fun q hq => nomatch hq), .nil⟩ ?_ (by intro _; rfl)
          refine i_list hA.handled ?_
          walk_at "m callF"
          walk_at "m"
          refine e_listd ?_
          walk_at "m"
          refine ⟨[], rfl, line_ok (by simp), ?_⟩
          walk_at "m"
          refine v_pure (ds := [codeD (threadedF c), boolsD ch, boolsD []]) (led_spec t (threadedF c) fc.okT ch (by omega) (by omega) [] (.inl rfl)) (hA.le (by omega)) ?_
          rw [hbr]
          refine ⟨_, rfl, [(".0", .un), ("one", .un)], fun k es own => es = dropOn ((br).take k) ∧ own = [(p, y3)], lin_of2 (ns := []) (us := [".0", "one"]) (cs := []) (List.forall_mem_cons.mpr ⟨rfl, List.forall_mem_cons.mpr ⟨rfl, fun _ h => nomatch h⟩⟩) (fun _ h => nomatch h) rfl (by decide), by have := ft.2; omega, ⟨rfl, rfl⟩, ?_, ?_⟩
          · rintro C D Is' k d es own hd ⟨rfl, rfl⟩
            have hdf := ft.1 d (List.mem_of_getElem? hd)
            walk_at "m"
            refine ts_one ?_
            walk_at "m"
            refine o_ne hA.eq hdf.shaped (flat_str (x := "on")).shaped ?_
            refine ex_bool ?_
            cases hb : (!PyData.eqv d (.str "on")) with
            | true =>
              refine if_t rfl ?_
              walk_at "m"
              refine ⟨_, _, rfl, ⟨by walk_at "m weak", List.Sublist.refl _⟩, ?_, rfl⟩
              rw [List.take_add_one, hd]; simp [dropOn, List.filter_append, hb] <;> simpa using hb
            | false =>
              refine if_f rfl ?_
              refine ⟨_, ⟨by walk_at "m weak", List.Sublist.refl _⟩, ?_, rfl⟩
              rw [List.take_add_one, hd]; simp [dropOn, List.filter_append] <;> simpa using hb
          rintro es own ⟨rfl, rfl⟩
          rw [List.take_length]
          refine ⟨_, rfl, line_ok (by have := ft.2; have := List.length_filter_le (fun d => !PyData.eqv d (.str "on")) (br); unfold dropOn; omega), ?_⟩
          walk_at "m"
          refine ⟨_, rfl, ?_⟩
          refine ⟨show (0 : Int) ≤ 14 by decide, ?_⟩
          refine e_slice ?_
          refine e_comp (cl := []) ⟨rfl, by decide, rfl, by decide, (fun q hq => nomatch hq), .nil⟩ ?_ (by intro _; rfl)
          refine i_list hA.handled ?_
          walk_at "m"
          refine ⟨_, rfl, [(".0", .un), ("one", .un)], fun k es own => es = dropOn ((due).take k) ∧ own = [(p, y3)], lin_of2 (ns := []) (us := [".0", "one"]) (cs := []) (List.forall_mem_cons.mpr ⟨rfl, List.forall_mem_cons.mpr ⟨rfl, fun _ h => nomatch h⟩⟩) (fun _ h => nomatch h) rfl (by decide), by have := fd.2; omega, ⟨rfl, rfl⟩, ?_, ?_⟩
          · rintro C D Is' k d es own hd ⟨rfl, rfl⟩
            have hdf := fd.1 d (List.mem_of_getElem? hd)
            walk_at "m"
            refine ts_one ?_
            walk_at "m"
            refine o_ne hA.eq hdf.shaped (flat_str (x := "on")).shaped ?_
            refine ex_bool ?_
            cases hb : (!PyData.eqv d (.str "on")) with
            | true =>
              refine if_t rfl ?_
              walk_at "m"
              refine ⟨_, _, rfl, ⟨by walk_at "m weak", List.Sublist.refl _⟩, ?_, rfl⟩
              rw [List.take_add_one, hd]; simp [dropOn, List.filter_append, hb] <;> simpa using hb
            | false =>
              refine if_f rfl ?_
              refine ⟨_, ⟨by walk_at "m weak", List.Sublist.refl _⟩, ?_, rfl⟩
              rw [List.take_add_one, hd]; simp [dropOn, List.filter_append] <;> simpa using hb
          rintro es own ⟨rfl, rfl⟩
          rw [List.take_length]
          refine ⟨_, rfl, line_ok (by have := fd.2; have := List.length_filter_le (fun d => !PyData.eqv d (.str "on")) (due); unfold dropOn; omega), ?_⟩
          walk_at "m"
          refine ⟨_, rfl, ?_⟩
          refine ⟨show (0 : Int) ≤ 14 by decide, ?_⟩
          refine o_ne (d := .list ((dropOn br).take 14)) (e := .list ((dropOn due).take 14)) hA.eq (flat_list (dropOn_flat ft.1)).shaped (flat_list (dropOn_flat fd.1)).shaped ?_
          exact ⟨_, rfl, rfl, rfl⟩
        · cases hb1 : (!PyData.eqv (.list ((dropOn br).take 14)) (.list ((dropOn due).take 14))) with
          | false =>
            refine if_f rfl ?_
            exact x_nil ⟨rfl, rfl⟩
          | true =>
            have hon : hasOn due = true := by
              rcases f4 with e | e
              · rw [e, SeqAt.eqv_refl _ (flat_list (dropOn_flat fd.1)).1] at hb1; cases hb1
              · exact e
            refine if_t rfl ?_
            refine x_cons ?_
            refine x_if ?_
            refine W.pure_b false ?_ ?_
            · walk_at "m"
              refine o_noton hA.eq fd.1 ?_
              rw [hon]
              exact ⟨_, rfl, rfl, rfl⟩
            · refine if_f rfl ?_
              refine x_nil ?_
              exact x_nil ⟨rfl, rfl⟩
        have fl := ledF_flat c ch al
        have fn := ledF_flat (leanF c) ch []
        generalize hlv : ledF c ch al = lv at *
        generalize hle : ledF (leanF c) ch [] = le at *
        refine mid_same (x_if (W.pure_b ((!hasOn due) && !PyData.eqv (.list lv) (.list le)) ?_ ?_)) ?_
        · walk_at "m"
          refine o_noton hA.eq fd.1 ?_
          refine ex_bool ?_
          cases hon : hasOn due with
          | true => exact if_f rfl ⟨rfl, rfl⟩
          | false =>
            refine if_t rfl ?_
            walk_at "m"
            walk_at "m callF"
            walk_at "m"
            refine v_pure (ds := [codeD c, boolsD ch, boolsD al]) (led_spec t c hc ch (by omega) (by omega) al (.inr hall)) (hA.le (by omega)) ?_
            rw [hlv]
            walk_at "m callF"
            walk_at "m"
            refine e_listd ?_
            walk_at "m"
            refine ⟨[], rfl, line_ok (by simp), ?_⟩
            walk_at "m"
            refine v_pure (ds := [codeD (leanF c), boolsD ch, boolsD []]) (led_spec t (leanF c) fc.okL ch (by omega) (by omega) [] (.inl rfl)) (hA.le (by omega)) ?_
            rw [hle]
            refine o_ne hA.eq (flat_list fl.1).shaped (flat_list fn.1).shaped ?_
            refine ex_bool ?_
            cases hq : (!PyData.eqv (.list lv) (.list le)) with
            | true => exact if_t rfl (and_nil ⟨rfl, rfl⟩)
            | false => exact if_f rfl ⟨rfl, rfl⟩
        · cases hb2 : ((!hasOn due) && !PyData.eqv (.list lv) (.list le)) with
          | false =>
            refine if_f rfl ?_
            exact x_nil ⟨rfl, rfl⟩
          | true =>
            have hon : hasOn lv = true := by
              rcases f5 with e | e | e
              · rw [e] at hb2; cases hb2
              · rw [e, SeqAt.eqv_refl _ (flat_list fn.1).1] at hb2; simp at hb2
              · exact e
            refine if_t rfl ?_
            refine x_cons ?_
            refine x_if ?_
            refine W.pure_b false ?_ ?_
            · walk_at "m"
              walk_at "m callF"
              walk_at "m"
              refine v_pure (ds := [codeD c, boolsD ch, boolsD al]) (led_spec t c hc ch (by omega) (by omega) al (.inr hall)) (hA.le (by omega)) ?_
              rw [hlv]
              refine o_noton hA.eq fl.1 ?_
              rw [hon]
              exact ⟨_, rfl, rfl, rfl⟩
            · refine if_f rfl ?_
              refine x_nil ?_
              exact x_nil ⟨rfl, rfl⟩
        refine x_nil ?_
        refine te_next ?_
        try dsimp only
        refine ⟨_, ?_, y3, p3.le (by omega), rfl⟩
        exact ⟨by walk_at "m weak", List.Sublist.refl _⟩
      · rintro _ ⟨ys2, hp2, rfl⟩
        rw [rangeD_length] at hp2
        refine then_next ?_
        refine x_cons ?_
        refine x_comp (cl := [("living", L + 4)]) ⟨rfl, by decide, rfl, by decide, (fun q hq => by rw [List.mem_singleton.mp hq]; rfl), by simp⟩ ?_ rfl rfl (by intro _; rfl)
        refine i_enum hA.handled (by walk_at "m bv") rfl rfl rfl ?_ rfl
        walk_at "m"
        refine ⟨_, rfl, [(".0", .un), ("at", .un), ("pair", .un), ("living", .d (boolsD al))], fun k es own => es.length = ((List.range k).filter fun a => al.getD a false).length ∧ own = [(p, ys2)], lin_of2 (ns := ["living"]) (us := [".0", "at", "pair"]) (cs := [("living", .d (boolsD al))]) (List.forall_mem_cons.mpr ⟨rfl, List.forall_mem_cons.mpr ⟨rfl, List.forall_mem_cons.mpr ⟨rfl, fun _ h => nomatch h⟩⟩⟩) (fun q hq => by rw [List.mem_singleton.mp hq]; exact ⟨rfl, rfl, by walk_at "m mem", rfl⟩) rfl (by decide), by rw [enumD_length]; simp; omega, ⟨rfl, rfl⟩, ?_, ?_⟩
        · rintro C D Is' k d es own hd ⟨hel, rfl⟩
          obtain ⟨d, hd2, rfl⟩ := enumD_get hd
          obtain ⟨x, hx, rfl⟩ := get_dat hd2
          have hk : k < c.length := (List.getElem?_eq_some_iff.mp hx).1
          refine a_tup2 hA.handled ?_ rfl
          walk_at "m"
          refine ts_one ?_
          refine t_val ?_ rfl
          walk_at "m"
          obtain ⟨b, hb⟩ : ∃ b, al[k]? = some b := ⟨al[k], by simp⟩
          refine s_bools hb (by omega) ?_
          refine ex_bool ?_
          have hb' : al.getD k false = b := by rw [List.getD_eq_getElem?_getD, hb]; rfl
          cases b with
          | true =>
            refine if_t rfl ?_
            walk_at "m"
            refine ⟨_, _, rfl, ⟨by walk_at "m weak", List.Sublist.refl _⟩, ?_, rfl⟩
            rw [List.range_succ, List.filter_append]; simp [hel, hb, List.filter_cons]
          | false =>
            refine if_f rfl ?_
            refine ⟨_, ⟨by walk_at "m weak", List.Sublist.refl _⟩, ?_, rfl⟩
            rw [List.range_succ, List.filter_append]; simp [hel, hb, List.filter_cons]
        rintro D1 es1 own C ⟨hl1, rfl⟩
        rw [enumD_length, List.length_map] at hl1
        with_reducible apply a_loc
        case hk => rfl
        case p => walk_at "m put"
        case hF => exact List.mem_cons_self
        case hs => rfl
        try dsimp only
        refine then_next ?_
        refine x_cons ?_
        refine x_comp (cl := [("living", L + 4), ("code", L + 2)]) ⟨rfl, by decide, rfl, by decide, (fun q hq => by rcases List.mem_cons.mp hq with rfl | hq; rfl; rw [List.mem_singleton.mp hq]; rfl), (show (["living", "code"] : List Str).Nodup by decide)⟩ ?_ rfl rfl (by intro _; rfl)
        walk_at "m range"
        walk_at "m lenc"
        refine ⟨c.length, by simp, by omega, [(".0", .un), ("at", .un), ("living", .d (boolsD al)), ("code", .d (codeD c))], fun k es own => es.length = ((List.range k).filter fun a => closeJ c al a).length ∧ own = [(D1, es1), (p, ys2)], lin_of2 (ns := ["living", "code"]) (us := [".0", "at"]) (cs := [("living", .d (boolsD al)), ("code", .d (codeD c))]) (List.forall_mem_cons.mpr ⟨rfl, List.forall_mem_cons.mpr ⟨rfl, fun _ h => nomatch h⟩⟩) (fun q hq => by rcases List.mem_cons.mp hq with rfl | hq; exact ⟨rfl, rfl, by walk_at "m mem", rfl⟩; rw [List.mem_singleton.mp hq]; exact ⟨rfl, rfl, by walk_at "m mem", rfl⟩) rfl (by decide), by rw [rangeD_length]; omega, ⟨rfl, rfl⟩, ?_, ?_⟩
        · rintro C D Is' k d es own hd ⟨hel, rfl⟩
          obtain ⟨hk, rfl⟩ := rangeD_get hd
          obtain ⟨x, hx⟩ : ∃ x, c[k]? = some x := ⟨c[k], by simp [hk]⟩
          have hgs := hc.goal _ (List.mem_of_getElem? hx)
          walk_at "m"
          refine ts_one ?_
          refine W.pure_b (closeJ c al k) ?_ ?_
          · obtain ⟨b, hb⟩ : ∃ b, al[k]? = some b := ⟨al[k], by simp⟩
            have hb' : al.getD k false = b := by rw [List.getD_eq_getElem?_getD, hb]; rfl
            walk_at "m"
            refine t_val ?_ rfl
            walk_at "m"
            refine s_bools hb (by omega) ?_
            refine ex_bool ?_
            cases b with
            | false =>
              refine if_f rfl ⟨?_, rfl⟩
              unfold closeJ; rw [hx]; cases x <;> simp [hb', hb]
            | true =>
              refine if_t rfl ?_
              walk_at "m"
              refine s_code hx hsm ?_
              walk_at "m"
              refine s_fst ?_
              walk_at "m"
              refine o_jump hA.eq ?_
              refine ex_bool ?_
              cases hj : x.isJump with
              | false =>
                refine if_f rfl ⟨?_, rfl⟩
                unfold closeJ; rw [hx]; cases x <;> simp [Ins.isJump] at hj <;> rfl
              | true =>
                obtain ⟨g, rfl⟩ := jump_of hj
                have hgl := hgs g rfl
                have ecl : closeJ c al k = closeF al k g := by unfold closeJ; rw [hx]; simp [hb', hb]
                rw [ecl]
                refine if_t rfl ?_
                walk_at "m"
                refine s_code hx hsm ?_
                walk_at "m"
                refine s_snd ?_
                walk_at "m"
                rw [show (Ins.jump g).worth = .int (g : Int) from rfl]
                walk_at "m"
                by_cases hgt : k < g
                · refine if_t (by simpa using hgt) ?_
                  walk_at "m"
                  refine ⟨_, rfl, line_ok (by simp; omega), ?_⟩
                  walk_at "m"
                  refine ⟨_, rfl, ?_⟩
                  walk_at "m"
                  refine s_code hx hsm ?_
                  walk_at "m"
                  refine s_snd ?_
                  refine ⟨(g : Int), rfl, ?_⟩
                  refine ⟨⟨by omega, by omega, by simp; omega⟩, ?_⟩
                  rw [cut_bools]
                  refine o_notrue hA.eq ?_
                  refine ex_bool ?_
                  have ecl : closeF al k g = !((al.drop (k + 1)).take (g - (k + 1))).any id := by simp [closeF, hgt]
                  rw [ecl]
                  cases hcl : (!((al.drop (k + 1)).take (g - (k + 1))).any id) with
                  | true => exact if_t rfl (and_nil ⟨rfl, rfl⟩)
                  | false => exact if_f rfl ⟨rfl, rfl⟩
                · refine if_f (by simpa using hgt) ?_
                  exact ⟨by simp [closeF, hgt], rfl⟩
          · cases hb : closeJ c al k with
            | true =>
              refine if_t rfl ?_
              walk_at "m"
              refine ⟨_, _, rfl, ⟨by walk_at "m weak", List.Sublist.refl _⟩, ?_, rfl⟩
              rw [List.range_succ, List.filter_append]; simp [hel, hb]
            | false =>
              refine if_f rfl ?_
              refine ⟨_, ⟨by walk_at "m weak", List.Sublist.refl _⟩, ?_, rfl⟩
              rw [List.range_succ, List.filter_append]; simp [hel, hb]
        rintro D2 es2 own C ⟨hl2, rfl⟩
        rw [rangeD_length] at hl2
        with_reducible apply a_loc
        case hk => rfl
        case p => walk_at "m put"
        case hF => exact List.mem_cons_self
        case hs => rfl
        try dsimp only
        refine then_next ?_
        have hf6 := fc.f6
        rw [hal] at hf6
        have b1 : es1.length ≤ 1000 := by rw [hl1]; have := List.length_filter_le (fun a => al.getD a false) (List.range c.length); rw [List.length_range] at this; omega
        have b2 : es2.length ≤ 1000 := by rw [hl2]; have := List.length_filter_le (fun a => closeJ c al a) (List.range c.length); rw [List.length_range] at this; omega
        have bL := fc.okL.small
        refine mid_same (x_if (W.pure_b false ?_ ?_)) ?_
        · walk_at "m"
          walk_at "m lenc"
          walk_at "m"
          walk_at "m callB"
          walk_at "m"
          refine v_lenO (by walk_at "m mem") (by omega) ?_
          walk_at "m callB"
          walk_at "m"
          refine v_lenO (by walk_at "m mem") (by omega) ?_
          walk_at "m"
          refine o_ne hA.eq (flat_int _).shaped (flat_int _).shaped ?_
          refine ex_bool ?_
          refine if_f ?_ ?_
          · rw [eqv_int, decide_eq_true]; rfl
            rw [List.length_map, hl1, hl2]; exact hf6
          walk_at "m"
          walk_at "m callF"
          walk_at "m"
          refine v_pure (ds := [codeD (leanF c)]) (reached_spec t (leanF c) fc.okL) (hA.le (by omega)) ?_
          refine ⟨_, rfl, line_ok (by rw [List.length_map, reachF_length]; omega), ?_⟩
          walk_at "m"
          walk_at "m lenc"
          refine ⟨_, rfl, ?_⟩
          refine ⟨by show (0 : Int) ≤ _; omega, ?_⟩
          refine o_in hA.eq (flat_bool _).shaped (canAll (n := 1) _ ?_) (Nat.le_trans (flat_bool _).2 (by decide)) ?_
          · intro x hx
            have hx := List.mem_of_mem_take (show x ∈ ((reachF (leanF c)).map PyData.bool).take _ from hx)
            obtain ⟨b, _, rfl⟩ := List.mem_map.mp hx
            exact flat_bool b
          refine ex_bool ?_
          refine if_f ?_ ?_
          · rw [List.any_eq_false]
            intro x hx
            have hx : x ∈ ((reachF (leanF c)).map PyData.bool).take ((((leanF c).map Ins.dat).length : Int)).toNat := hx
            rw [Int.toNat_natCast, List.length_map, ← List.map_take] at hx
            obtain ⟨b, hb, rfl⟩ := List.mem_map.mp hx
            rw [fc.f7 b hb]
            decide
          walk_at "m"
          refine o_same hA.eq (flat_code c) ?_
          refine ex_bool ?_
          refine if_f rfl ?_
          exact or_nil ⟨rfl, rfl⟩
        · refine if_f rfl ?_
          exact x_nil ⟨rfl, rfl⟩
        refine x_nil ?_
        refine te_next ?_
        try dsimp only
        refine ⟨_, ?_, ys2, hp2.le (by omega), rfl⟩
        exact ⟨by walk_at "m weak", List.Sublist.cons _ (List.Sublist.cons _ (List.Sublist.refl _))⟩
  · rintro _ ⟨ys, hp, rfl⟩
    walk_at "m"
    exact .inl rfl
end
-- the plain law: what is reached
theorem getD_set {l : List Bool} {i j : Nat} (h : i < l.length) : (l.set i true).getD j false = (decide (i = j) || l.getD j false) := by
  simp only [List.getD_eq_getElem?_getD, List.getElem?_set]
  by_cases e : i = j
  · subst e; simp [h]
  · simp [e]
theorem getD_false {n j : Nat} : (List.replicate n false).getD j false = false := by
  simp only [List.getD_eq_getElem?_getD, List.getElem?_replicate]
  split <;> rfl
theorem getD_iff {l : List Bool} {j : Nat} : l.getD j false = true ↔ l[j]? = some true := by
  rw [List.getD_eq_getElem?_getD]
  cases h : l[j]? with
  | none => simp
  | some b => simp

inductive Reach (c : List Ins) : Nat → Prop where
  | start : Reach c 0
  | step {i j : Nat} : Reach c i → j ∈ behindF c i → Reach c j
theorem behind_none {c : List Ins} {i : Nat} (h : c[i]? = none) : behindF c i = [] := by unfold behindF; rw [h]
theorem behind_le {c : List Ins} (hc : Ok c) {i j : Nat} (h : j ∈ behindF c i) : j ≤ c.length := by
  by_cases hi : i < c.length
  · exact (behind_ok hc hi).2 j h
  · rw [behind_none (by simp; omega)] at h; cases h
theorem Reach.le {c : List Ins} (hc : Ok c) {i : Nat} (h : Reach c i) : i ≤ c.length := by
  cases h with
  | start => omega
  | step _ h => exact behind_le hc h

theorem reach_sound {c : List Ins} (hc : Ok c) : ∀ (k : Nat) (found : List Bool) (rest : List Nat), found.length = c.length + 1 → (∀ j, found.getD j false = true → Reach c j) → (∀ j ∈ rest, Reach c j) → ∀ j, (reachLoop c k found rest).getD j false = true → Reach c j
  | 0, found, rest, _, h1, _ => h1
  | _ + 1, found, [], _, h1, _ => h1
  | k + 1, found, here :: rest, hl, h1, h2 => by
    have hh := h2 here (.head _)
    unfold reachLoop
    split
    · exact reach_sound hc k found rest hl h1 fun j hj => h2 j (.tail _ hj)
    · refine reach_sound hc k _ _ (by simp [hl]) (fun j hj => ?_) fun j hj => ?_
      · rw [getD_set (by have := hh.le hc; omega)] at hj
        rcases Bool.or_eq_true_iff.mp hj with e | e
        · rw [← of_decide_eq_true e]; exact hh
        · exact h1 j e
      · rcases List.mem_append.mp hj with hj | hj
        · exact .step hh (List.mem_reverse.mp hj)
        · exact h2 j (.tail _ hj)
theorem reach_complete {c : List Ins} (hc : Ok c) : ∀ (k : Nat) (found : List Bool) (rest : List Nat), found.length = c.length + 1 → 2 * found.count false + rest.length ≤ k → (∀ j ∈ rest, j ≤ c.length) →
    (∀ i, found.getD i false = true → ∀ j ∈ behindF c i, found.getD j false = true ∨ j ∈ rest) →
    (∀ i, (reachLoop c k found rest).getD i false = true → ∀ j ∈ behindF c i, (reachLoop c k found rest).getD j false = true) ∧ (∀ i, found.getD i false = true → (reachLoop c k found rest).getD i false = true) ∧ (∀ i ∈ rest, (reachLoop c k found rest).getD i false = true)
  | 0, found, rest, hl, hk, hr, hcl => by
    have : rest = [] := List.length_eq_zero_iff.mp (by omega)
    subst this
    exact ⟨fun i hi j hj => (hcl i hi j hj).elim id (fun h => by simp at h), fun _ h => h, fun _ h => by simp at h⟩
  | k + 1, found, [], hl, hk, hr, hcl => ⟨fun i hi j hj => (hcl i hi j hj).elim id (fun h => by simp at h), fun _ h => h, fun _ h => by simp at h⟩
  | k + 1, found, here :: rest, hl, hk, hr, hcl => by
    have hh := hr here (.head _)
    have hr' : ∀ j ∈ rest, j ≤ c.length := fun j hj => hr j (.tail _ hj)
    simp at hk
    unfold reachLoop
    by_cases hf : found[here]? = some true
    · rw [if_pos hf]
      obtain ⟨a1, a2, a3⟩ := reach_complete hc k found rest hl (by omega) hr' fun i hi j hj => (hcl i hi j hj).elim .inl fun h => by
        rcases List.mem_cons.mp h with rfl | h
        · exact .inl (getD_iff.mpr hf)
        · exact .inr h
      refine ⟨a1, a2, fun i hi => ?_⟩
      rcases List.mem_cons.mp hi with rfl | hi
      · exact a2 i (getD_iff.mpr hf)
      · exact a3 i hi
    · rw [if_neg hf]
      have hlt : here < found.length := by omega
      have hff : found[here] = false := by
        cases e : found[here] with
        | false => rfl
        | true => exact absurd (by rw [List.getElem?_eq_getElem hlt, e]) hf
      have h1 : 0 < found.count false := List.count_pos_iff.mpr (hff ▸ List.getElem_mem _)
      have h2 : (found.set here true).count false + 1 = found.count false := by
        rw [List.count_set hlt, hff]; simp; omega
      have hb : (behindF c here).length ≤ 2 := by
        by_cases hi : here < c.length
        · exact (behind_ok hc hi).1
        · rw [behind_none (by simp; omega)]; simp
      obtain ⟨a1, a2, a3⟩ := reach_complete hc k (found.set here true) ((behindF c here).reverse ++ rest) (by simp [hl]) (by simp; omega)
        (fun j hj => by
          rcases List.mem_append.mp hj with hj | hj
          · exact behind_le hc (List.mem_reverse.mp hj)
          · exact hr' j hj)
        (fun i hi j hj => by
          rw [getD_set hlt] at hi ⊢
          rcases Bool.or_eq_true_iff.mp hi with e | e
          · have := of_decide_eq_true e
            subst this
            exact .inr (List.mem_append_left _ (List.mem_reverse.mpr hj))
          · rcases hcl i e j hj with q | q
            · exact .inl (by rw [q]; simp)
            · rcases List.mem_cons.mp q with rfl | q
              · exact .inl (by simp)
              · exact .inr (List.mem_append_right _ q))
      refine ⟨a1, fun i hi => a2 i (by rw [getD_set hlt, hi]; simp), fun i hi => ?_⟩
      rcases List.mem_cons.mp hi with rfl | hi
      · exact a2 i (by rw [getD_set hlt]; simp)
      · exact a3 i (List.mem_append_right _ hi)
theorem reachF_iff {c : List Ins} (hc : Ok c) (j : Nat) : (reachF c).getD j false = true ↔ Reach c j := by
  constructor
  · exact reach_sound hc _ _ _ (by simp) (fun j hj => by rw [getD_false] at hj; cases hj) (fun j hj => by rw [List.mem_singleton.mp hj]; exact .start) j
  · obtain ⟨a1, _, a3⟩ := reach_complete hc (2 * (c.length + 1) + 2) (List.replicate (c.length + 1) false) [0] (by simp) (by simp [List.count_replicate]) (by simp) (fun i hi => by rw [getD_false] at hi; cases hi)
    intro h
    induction h with
    | start => exact a3 0 (.head _)
    | step _ hj ih => exact a1 _ ih _ hj

-- the laps
theorem step_getD {c : List Ins} (hc : Ok c) {l : List Bool} (hl : l.length = c.length + 1) {k : Nat} (j : Nat) : (aliveStep c l k).getD j false = (l.getD j false || (l.getD k false && decide (j ∈ behindF c k))) := by
  cases hb : l[k]? with
  | none =>
    have : l.getD k false = false := by rw [List.getD_eq_getElem?_getD, hb]; rfl
    rw [this]; unfold aliveStep; rw [if_neg (by rw [hb]; decide)]; simp
  | some b =>
    cases b with
    | false =>
      have : l.getD k false = false := by rw [List.getD_eq_getElem?_getD, hb]; rfl
      rw [this]; unfold aliveStep; rw [if_neg (by rw [hb]; decide)]; simp
    | true =>
      have hk : l.getD k false = true := getD_iff.mpr hb
      rw [hk]
      cases hx : c[k]? with
      | none => unfold aliveStep; rw [if_pos hb, hx, behind_none hx]; simp
      | some x =>
        have hkn : k < c.length := (List.getElem?_eq_some_iff.mp hx).1
        have hg := hc.goal x (List.mem_of_getElem? hx)
        rw [step_at hx hb, behind_at hx]
        cases x with
        | jump g => simp only [Ins.isJump, Ins.goal, behindX, Bool.true_or, if_true]; have := hg g rfl; rw [getD_set (by omega)]; simp [eq_comm, Bool.or_comm]
        | unls g => simp only [Ins.isJump, Ins.isAbort, Ins.goal, behindX, Bool.or_false]; have := hg g rfl; rw [if_neg (by decide), getD_set (by simp; omega), getD_set (by omega)]; simp [eq_comm, Bool.or_comm, Bool.or_assoc, Bool.or_left_comm]
        | whn g => simp only [Ins.isJump, Ins.isAbort, Ins.goal, behindX, Bool.or_false]; have := hg g rfl; rw [if_neg (by decide), getD_set (by simp; omega), getD_set (by omega)]; simp [eq_comm, Bool.or_comm, Bool.or_assoc, Bool.or_left_comm]
        | abort => simp [Ins.isJump, Ins.isAbort, Ins.goal, behindX]
        | push m => simp only [Ins.isJump, Ins.isAbort, Ins.goal, behindX, Bool.or_false]; rw [if_neg (by decide), getD_set (by omega)]; simp [eq_comm, Bool.or_comm]
        | drop => simp only [Ins.isJump, Ins.isAbort, Ins.goal, behindX, Bool.or_false]; rw [if_neg (by decide), getD_set (by omega)]; simp [eq_comm, Bool.or_comm]
        | rok => simp only [Ins.isJump, Ins.isAbort, Ins.goal, behindX, Bool.or_false]; rw [if_neg (by decide), getD_set (by omega)]; simp [eq_comm, Bool.or_comm]
theorem to_mono {c : List Ins} (hc : Ok c) {l : List Bool} (hl : l.length = c.length + 1) : ∀ (k m : Nat), k ≤ m → ∀ j, (aliveTo c l k).getD j false = true → (aliveTo c l m).getD j false = true
  | k, 0, h, j, e => by
    have : k = 0 := by omega
    subst this; exact e
  | k, m + 1, h, j, e => by
    by_cases q : k = m + 1
    · subst q; exact e
    · rw [aliveTo, step_getD hc (by rw [aliveTo_length, hl]), to_mono hc hl k m (by omega) j e]; rfl
theorem to_closed {c : List Ins} (hc : Ok c) {l : List Bool} (hl : l.length = c.length + 1) {i : Nat} (hi : l.getD i false = true) {j : Nat} (hj : j ∈ behindF c i) : (aliveTo c l c.length).getD j false = true := by
  have hin : i < c.length := by
    by_cases h : i < c.length
    · exact h
    · rw [behind_none (by simp; omega)] at hj; cases hj
  refine to_mono hc hl (i + 1) c.length (by omega) j ?_
  rw [aliveTo, step_getD hc (by rw [aliveTo_length, hl]), to_mono hc hl 0 i (by omega) i hi]
  simp [hj]
theorem to_sound {c : List Ins} (hc : Ok c) {l : List Bool} (hl : l.length = c.length + 1) (h : ∀ j, l.getD j false = true → Reach c j) : ∀ (k j : Nat), (aliveTo c l k).getD j false = true → Reach c j
  | 0, j, e => h j e
  | k + 1, j, e => by
    rw [aliveTo, step_getD hc (by rw [aliveTo_length, hl])] at e
    rcases Bool.or_eq_true_iff.mp e with e | e
    · exact to_sound hc hl h k j e
    · obtain ⟨e1, e2⟩ := Bool.and_eq_true_iff.mp e
      exact .step (to_sound hc hl h k k e1) (of_decide_eq_true e2)
theorem laps_sound {c : List Ins} (hc : Ok c) : ∀ (m j : Nat), (lapsF c m).getD j false = true → Reach c j
  | 0, j, e => by
    rw [lapsF, getD_set (by simp), getD_false] at e
    have : 0 = j := by simpa using e
    subst this; exact .start
  | m + 1, j, e => to_sound hc (lapsF_length c m) (laps_sound hc m) _ j e
theorem laps_zero {c : List Ins} (hc : Ok c) : ∀ m : Nat, (lapsF c m).getD 0 false = true
  | 0 => by rw [lapsF, getD_set (by simp)]; simp
  | m + 1 => to_mono hc (lapsF_length c m) 0 _ (by omega) 0 (laps_zero hc m)
theorem count_mono : ∀ (l l' : List Bool), l.length = l'.length → (∀ j, l.getD j false = true → l'.getD j false = true) → l = l' ∨ l.count true < l'.count true
  | [], [], _, _ => .inl rfl
  | a :: l, b :: l', h, k => by
    have k0 := k 0
    have ks : ∀ j, l.getD j false = true → l'.getD j false = true := fun j hj => by have := k (j + 1); simp at this hj ⊢; exact this hj
    simp at k0
    rcases count_mono l l' (by simpa using h) ks with rfl | q
    · cases a <;> cases b <;> simp at k0 ⊢
    · right
      cases a <;> cases b <;> simp at k0 ⊢ <;> omega
theorem laps_grow {c : List Ins} (hc : Ok c) : ∀ m : Nat, (∀ i, (lapsF c m).getD i false = true → ∀ j ∈ behindF c i, (lapsF c m).getD j false = true) ∨ m + 1 ≤ (lapsF c m).count true
  | 0 => .inr (List.count_pos_iff.mpr (by
      have := getD_iff.mp (laps_zero hc 0)
      exact List.mem_of_getElem? this))
  | m + 1 => by
    have hl := lapsF_length c m
    rcases count_mono (lapsF c m) (lapsF c (m + 1)) (by rw [lapsF_length, lapsF_length]) (fun j hj => to_mono hc hl 0 _ (by omega) j hj) with e | e
    · left
      intro i hi j hj
      rw [← e] at hi
      exact to_closed hc hl hi hj
    · rcases laps_grow hc m with q | q
      · left
        have e2 : ∀ j, (lapsF c (m + 1)).getD j false = true → (lapsF c m).getD j false = true := fun j hj => by
          have cl : ∀ k j, (aliveTo c (lapsF c m) k).getD j false = true → (lapsF c m).getD j false = true := by
            intro k
            induction k with
            | zero => exact fun j h => h
            | succ k ih =>
              intro j hj
              rw [aliveTo, step_getD hc (by rw [aliveTo_length, hl])] at hj
              rcases Bool.or_eq_true_iff.mp hj with z | z
              · exact ih j z
              · obtain ⟨z1, z2⟩ := Bool.and_eq_true_iff.mp z
                exact q k (ih k z1) j (of_decide_eq_true z2)
          exact cl _ j hj
        exact fun i hi j hj => to_closed hc hl (e2 i hi) hj
      · right; omega
theorem aliveF_iff {c : List Ins} (hc : Ok c) (j : Nat) : (aliveF c).getD j false = true ↔ Reach c j := by
  constructor
  · exact laps_sound hc _ j
  · have cl : ∀ i, (aliveF c).getD i false = true → ∀ j ∈ behindF c i, (aliveF c).getD j false = true := by
      rcases laps_grow hc (c.length + 1) with q | q
      · exact q
      · have := List.count_le_length (a := true) (l := lapsF c (c.length + 1))
        rw [lapsF_length] at this
        omega
    intro h
    induction h with
    | start => exact laps_zero hc _
    | step _ hj ih => exact cl _ ih _ hj
theorem fact2 {c : List Ins} (hc : Ok c) : reachF c = aliveF c := by
  have h1 := reachF_length c
  have h2 : (aliveF c).length = c.length + 1 := lapsF_length c _
  refine List.ext_getElem (by omega) fun i hi hi' => ?_
  have e : (reachF c).getD i false = (aliveF c).getD i false := by
    rw [Bool.eq_iff_iff, reachF_iff hc, aliveF_iff hc]
  simpa [List.getD_eq_getElem?_getD, hi, hi'] using e
-- the plain law: targets
theorem fold_getD : ∀ (l : List Ins) (bs : List Bool) (a : Nat), (∀ i ∈ l, ∀ g, i.goal = some g → g < bs.length) →
    (l.foldl (fun bs i => match i.goal with | some g => bs.set g true | none => bs) bs).getD a false = (bs.getD a false || (l.filterMap Ins.goal).any (fun g => decide (g = a)))
  | [], bs, a, _ => by simp
  | x :: l, bs, a, h => by
    rw [List.foldl_cons]
    cases hg : x.goal with
    | none =>
      rw [fold_getD l bs a fun i hi g hg => h i (.tail _ hi) g hg]
      rw [List.filterMap_cons, hg]
    | some g =>
      rw [fold_getD l (bs.set g true) a fun i hi g hg => by simp; exact h i (.tail _ hi) g hg]
      have := h x (.head _) g hg
      rw [List.filterMap_cons, hg]
      simp only [getD_set this, List.any_cons]
      cases decide (g = a) <;> cases bs.getD a false <;> simp
theorem fold_length : ∀ (l : List Ins) (bs : List Bool), (l.foldl (fun bs i => match i.goal with | some g => bs.set g true | none => bs) bs).length = bs.length
  | [], bs => rfl
  | x :: l, bs => by
    rw [List.foldl_cons, fold_length l]
    split <;> simp
theorem fact1 {c : List Ins} (hc : Ok c) : (List.range (c.length + 1)).map (fun (a : Nat) => PyData.bool ((goalsL c).any fun y => PyData.eqv y (.int (a : Int)))) = (targetsF c).map PyData.bool := by
  have hlen : (targetsF c).length = c.length + 1 := (fold_length c (List.replicate (c.length + 1) false)).trans (by simp)
  refine List.ext_getElem (by simp [hlen]) fun a ha hb => ?_
  have ha' : a < c.length + 1 := by simpa using ha
  have e : (targetsF c).getD a false = ((goalsL c).any fun y => PyData.eqv y (.int (a : Int))) := by
    refine Eq.trans (fold_getD c (List.replicate (c.length + 1) false) a fun i hi g hg => by have := hc.goal i hi g hg; simp; omega) ?_
    rw [getD_false]
    unfold goalsL
    rw [List.any_map, Bool.false_or]
    congr 1
    funext g
    simp only [Function.comp, eqv_int]
    by_cases q : g = a
    · simp [q]
    · have q' : ¬ (g : Int) = (a : Int) := by omega
      simp [q, q']
  have e2 : (targetsF c).getD a false = (targetsF c)[a] := by rw [List.getD_eq_getElem?_getD, List.getElem?_eq_getElem (by omega)]; rfl
  simp only [List.getElem_map, List.getElem_range]
  rw [← e2, e]

-- jumps behind one another
inductive Chain (c : List Ins) : Nat → Nat → Prop where
  | stop {i : Nat} : (∀ g, c[i]? ≠ some (.jump g)) → Chain c i i
  | hop {i g z : Nat} : c[i]? = some (.jump g) → Chain c g z → Chain c i z
theorem goal_or (c : List Ins) (goal : Nat) : ∀ (k here : Nat), goalLoop c goal k here = goal ∨ Chain c here (goalLoop c goal k here)
  | 0, _ => .inl rfl
  | k + 1, here => by
    unfold goalLoop
    split
    · rename_i g e
      exact (goal_or c goal k g).imp id fun h => .hop e h
    · rename_i e
      exact .inr (.stop e)
theorem goal_le {c : List Ins} (hc : Ok c) {goal : Nat} (hg : goal ≤ c.length) : ∀ (k here : Nat), here ≤ c.length → goalLoop c goal k here ≤ c.length
  | 0, _, _ => hg
  | k + 1, here, hh => by
    unfold goalLoop
    split
    · rename_i g e
      exact goal_le hc hg k g (hc.goal _ (List.mem_of_getElem? e) g rfl)
    · exact hh
/-- seen holds jumps alone, each leading to a seen one or to here -/
noncomputable def Trail (c : List Ins) (seen : List Bool) (here : Nat) : Prop := ∀ i, seen.getD i false = true → ∃ g, c[i]? = some (.jump g) ∧ (seen.getD g false = true ∨ g = here)
theorem Trail.no_chain {c : List Ins} {seen : List Bool} {here : Nat} (t : Trail c seen here) (hs : seen.getD here false = true) {i z : Nat} (ch : Chain c i z) : seen.getD i false = true → False := by
  induction ch with
  | stop h => intro hi; obtain ⟨g, e, _⟩ := t _ hi; exact h g e
  | hop e _ ih =>
    intro hi
    obtain ⟨g, e', q⟩ := t _ hi
    rw [e'] at e; cases e
    exact ih (q.elim id fun q => q ▸ hs)
theorem Trail.ring {c : List Ins} {seen : List Bool} {here goal : Nat} (t : Trail c seen here) (hs : seen.getD here false = true) : ∀ (k i : Nat), seen.getD i false = true → goalLoop c goal k i = goal
  | 0, _, _ => rfl
  | k + 1, i, hi => by
    obtain ⟨g, e, q⟩ := t i hi
    unfold goalLoop
    rw [e]
    exact t.ring hs k g (q.elim id fun q => q ▸ hs)
theorem last_goal_eq {c : List Ins} (hc : Ok c) {goal : Nat} : ∀ (k here : Nat) (seen : List Bool), seen.length = c.length + 1 → here ≤ c.length → seen.count true + k = c.length + 2 → Trail c seen here →
    (seen.getD goal false = true ∨ goal = here) → goalF c goal = goalLoop c goal (k - 1) here → lastLoop c goal k here seen = goalF c goal
  | 0, here, seen, hl, _, hk, _, _, _ => by have := List.count_le_length (a := true) (l := seen); omega
  | k + 1, here, seen, hl, hh, hk, t, hg, e => by
    have hlt : here < seen.length := by omega
    have room : seen[here] = false → 1 ≤ k := fun hf => by
      have h1 : 0 < seen.count false := List.count_pos_iff.mpr (hf ▸ List.getElem_mem _)
      have h2 : seen.count true + seen.count false = seen.length := by
        have := List.length_eq_countP_add_countP (fun b => b == true) (l := seen)
        have e1 : seen.count false = List.countP (fun a => decide ¬(a == true) = true) seen := by
          unfold List.count; congr 1; funext b; cases b <;> rfl
        rw [e1]; unfold List.count; omega
      omega
    unfold lastLoop
    split
    · rename_i g hx
      have hgl := hc.goal _ (List.mem_of_getElem? hx) g rfl
      split
      · rename_i hs
        have hs' := getD_iff.mpr hs
        have : seen.getD goal false = true := hg.elim id fun q => q ▸ hs'
        exact (t.ring hs' _ goal this).symm
      · rename_i hs
        have hf : seen[here] = false := by
          cases q : seen[here] with
          | false => rfl
          | true => exact absurd (by rw [List.getElem?_eq_getElem hlt, q]) hs
        have hk1 := room hf
        refine last_goal_eq hc k g (seen.set here true) (by simp [hl]) hgl (by rw [List.count_set hlt, hf]; simp; omega) ?_ ?_ ?_
        · intro i hi
          rw [getD_set hlt] at hi
          by_cases q : here = i
          · subst q; exact ⟨g, hx, .inr rfl⟩
          · have hi' : seen.getD i false = true := by simpa [q] using hi
            obtain ⟨g', e', z⟩ := t i hi'
            refine ⟨g', e', .inl ?_⟩
            rw [getD_set hlt]
            rcases z with z | z
            · rw [z]; simp
            · simp [z]
        · left
          rw [getD_set hlt]
          rcases hg with z | z
          · rw [z]; simp
          · simp [z]
        · rw [e]
          obtain ⟨j, rfl⟩ : ∃ j, k = j + 1 := ⟨k - 1, by omega⟩
          show goalLoop c goal (j + 1) here = goalLoop c goal j g
          simp only [goalLoop, hx]
    · rename_i hx
      have hf : seen[here] = false := by
        cases q : seen[here] with
        | false => rfl
        | true =>
          obtain ⟨g, e', _⟩ := t here (getD_iff.mpr (by rw [List.getElem?_eq_getElem hlt, q]))
          exact absurd e' (hx g)
      have hk1 := room hf
      rw [e]
      obtain ⟨j, rfl⟩ : ∃ j, k = j + 1 := ⟨k - 1, by omega⟩
      show here = goalLoop c goal (j + 1) here
      unfold goalLoop
      split
      · rename_i g q; exact absurd q (hx g)
      · rfl
theorem fact3 {c : List Ins} (hc : Ok c) : ∀ a ≤ c.length, lastF c a = goalF c a := fun a ha =>
  last_goal_eq hc (c.length + 2) a _ (by simp) ha (by simp [List.count_replicate]) (fun i hi => by rw [getD_false] at hi; cases hi) (.inr rfl) rfl
theorem last_or {c : List Ins} (hc : Ok c) {g : Nat} (hg : g ≤ c.length) : lastF c g = g ∨ Chain c g (lastF c g) := by
  rw [fact3 hc g hg]; exact goal_or c g _ g
theorem last_chain_loop {c : List Ins} (hc : Ok c) {goal z : Nat} : ∀ (k here : Nat) (seen : List Bool), seen.length = c.length + 1 → here ≤ c.length → seen.count true + k = c.length + 2 → Trail c seen here → Chain c here z → lastLoop c goal k here seen = z
  | 0, here, seen, hl, _, hk, _, _ => by have := List.count_le_length (a := true) (l := seen); omega
  | k + 1, here, seen, hl, hh, hk, t, ch => by
    have hlt : here < seen.length := by omega
    unfold lastLoop
    split
    · rename_i g hx
      have hgl := hc.goal _ (List.mem_of_getElem? hx) g rfl
      split
      · rename_i hs
        exact (t.no_chain (getD_iff.mpr hs) ch (getD_iff.mpr hs)).elim
      · rename_i hs
        have hf : seen[here] = false := by
          cases q : seen[here] with
          | false => rfl
          | true => exact absurd (by rw [List.getElem?_eq_getElem hlt, q]) hs
        have ch' : Chain c g z := by
          cases ch with
          | stop h => exact absurd hx (h g)
          | hop e q => rw [hx] at e; cases e; exact q
        refine last_chain_loop hc k g (seen.set here true) (by simp [hl]) hgl (by rw [List.count_set hlt, hf]; simp; omega) ?_ ch'
        intro i hi
        rw [getD_set hlt] at hi
        by_cases q : here = i
        · subst q; exact ⟨g, hx, .inr rfl⟩
        · have hi' : seen.getD i false = true := by simpa [q] using hi
          obtain ⟨g', e', z⟩ := t i hi'
          refine ⟨g', e', .inl ?_⟩
          rw [getD_set hlt]
          rcases z with z | z
          · rw [z]; simp
          · simp [z]
    · rename_i hx
      cases ch with
      | stop _ => rfl
      | hop e _ => exact absurd e (hx _)
theorem last_chain {c : List Ins} (hc : Ok c) {g z : Nat} (hg : g ≤ c.length) (ch : Chain c g z) : lastF c g = z :=
  last_chain_loop hc (c.length + 2) g _ (by simp) hg (by simp [List.count_replicate]) (fun i hi => by rw [getD_false] at hi; cases hi) ch
theorem goal_move {f : Nat → Nat} {x : Ins} : (x.move f).goal = x.goal.map f := by cases x <;> rfl
theorem fact_okT {c : List Ins} (hc : Ok c) : Ok (threadedF c) where
  small := by unfold threadedF; rw [List.length_map]; exact hc.small
  goal := fun i hi g hg => by
    unfold threadedF at hi ⊢
    rw [List.length_map]
    obtain ⟨x, hx, rfl⟩ := List.mem_map.mp hi
    rw [goal_move] at hg
    cases q : x.goal with
    | none => rw [q] at hg; cases hg
    | some g' =>
      rw [q] at hg; cases hg
      have := hc.goal x hx g' q
      rw [fact3 hc g' this]
      exact goal_le hc this _ g' this
-- the plain law: runs of the threaded code
theorem hasOn_snoc (l : List PyData) : hasOn (l ++ [.str "on"]) = true := by
  unfold hasOn
  rw [List.any_append]
  have : ([PyData.str "on"].any fun y => PyData.eqv y (.str "on")) = true := rfl
  rw [this, Bool.or_true]
theorem led_stop {c : List Ins} {ch lv : List Bool} {k here spent : Nat} {done : List PyData} (h : ¬ done.length < 14) : ledLoop c ch lv (k + 1) here done spent = done := by
  cases hx : c[here]? with
  | none => exact led_end hx
  | some x => exact led_full hx h
theorem chain_of_run {c : List Ins} {ch lv : List Bool} {done : List PyData} {spent : Nat} (hd : done.length < 14) : ∀ (k here : Nat), hasOn (ledLoop c ch lv k here done spent) = false → ∃ z, Chain c here z
  | 0, here, h => by rw [led_zero, hasOn_snoc] at h; cases h
  | k + 1, here, h => by
    by_cases q : ∃ g, c[here]? = some (.jump g)
    · obtain ⟨g, e⟩ := q
      rw [led_jump e hd] at h
      obtain ⟨z, hz⟩ := chain_of_run hd k g h
      exact ⟨z, .hop e hz⟩
    · exact ⟨here, .stop fun g e => q ⟨g, e⟩⟩
theorem Chain.uniq {c : List Ins} {i z z' : Nat} (a : Chain c i z) : Chain c i z' → z = z' := by
  induction a with
  | stop h => intro b; cases b with
    | stop _ => rfl
    | hop e _ => exact absurd e (h _)
  | hop e _ ih => intro b; cases b with
    | stop h => exact absurd e (h _)
    | hop e' q => rw [e] at e'; cases e'; exact ih q
theorem thread_get {c : List Ins} {i : Nat} {x : Ins} (h : c[i]? = some x) : (threadedF c)[i]? = some (x.move (lastF c)) := by
  unfold threadedF; rw [List.getElem?_map, h]; rfl
theorem thread_none {c : List Ins} {i : Nat} (h : c[i]? = none) : (threadedF c)[i]? = none := by
  unfold threadedF; rw [List.getElem?_map, h]; rfl
theorem move_cond {f : Nat → Nat} {x : Ins} : (x.move f).isCond = x.isCond := by cases x <;> rfl
theorem move_jump {f : Nat → Nat} {x : Ins} : (x.move f).isJump = x.isJump := by cases x <;> rfl
theorem move_abort {f : Nat → Nat} {x : Ins} : (x.move f).isAbort = x.isAbort := by cases x <;> rfl
theorem close_nil {here g : Nat} : closeL [] here g = false := by simp [closeL]
theorem thread_run {c : List Ins} (hc : Ok c) {ch : List Bool} : ∀ (k here : Nat) (done : List PyData) (spent : Nat), here ≤ c.length → hasOn (ledLoop c ch [] k here done spent) = false → ∀ k' here', k ≤ k' → (here' = here ∨ Chain c here here') →
    ledLoop (threadedF c) ch [] k' here' done spent = ledLoop c ch [] k here done spent
  | 0, here, done, spent, _, hn, _, _, _, _ => by rw [led_zero, hasOn_snoc] at hn; cases hn
  | k + 1, here, done, spent, hh, hn, k', here', hk, hr => by
    obtain ⟨k', rfl⟩ : ∃ j, k' = j + 1 := ⟨k' - 1, by omega⟩
    by_cases hd : done.length < 14
    · cases hx : c[here]? with
      | none =>
        have : here' = here := hr.elim id fun h => by
          cases h with
          | stop _ => rfl
          | hop e _ => rw [hx] at e; cases e
        subst this
        rw [led_end hx, led_end (thread_none hx)]
      | some x =>
        have hgs := hc.goal x (List.mem_of_getElem? hx)
        have hin : here < c.length := (List.getElem?_eq_some_iff.mp hx).1
        cases hj : x.isJump with
        | true =>
          obtain ⟨g, rfl⟩ := jump_of hj
          have hgl := hgs g rfl
          rw [led_jump hx hd] at hn ⊢
          obtain ⟨z, hz⟩ := chain_of_run hd k g hn
          rcases hr with rfl | hr
          · rw [led_jump (g := lastF c g) (thread_get hx) hd]
            rw [last_chain hc hgl hz]
            exact thread_run hc k g done spent hgl hn k' z (by omega) (.inr hz)
          · have : here' = z := by
              cases hr with
              | stop h => exact absurd hx (h g)
              | hop e q => rw [hx] at e; cases e; exact q.uniq hz
            subst this
            exact thread_run hc k g done spent hgl hn (k' + 1) here' (by omega) (.inr hz)
        | false =>
          have : here' = here := hr.elim id fun h => by
            cases h with
            | stop _ => rfl
            | hop e _ => rw [hx] at e; cases e; cases hj
          subst this
          have ht := thread_get hx
          cases hcd : x.isCond with
          | true =>
            obtain ⟨g, hg⟩ := cond_goal hcd
            have hgl := hgs g hg
            rw [led_cond hx hd hcd hg, close_nil, if_neg (by decide)] at hn ⊢
            rw [led_cond ht hd (by rw [move_cond]; exact hcd) (g := lastF c g) (by rw [goal_move, hg]; rfl), close_nil, if_neg (by decide), op_move]
            by_cases tk : ch[spent % ch.length]? = some true
            · rw [if_pos tk] at hn ⊢; rw [if_pos tk]
              exact thread_run hc k g _ _ hgl hn k' (lastF c g) (by omega) (last_or hc hgl)
            · rw [if_neg tk] at hn ⊢; rw [if_neg tk]
              exact thread_run hc k (here' + 1) _ _ (by omega) hn k' (here' + 1) (by omega) (.inl rfl)
          | false =>
            have hgn : x.goal = none := by cases x <;> simp [Ins.isCond, Ins.isJump] at hcd hj <;> rfl
            rw [move_none hgn] at ht
            cases ha : x.isAbort with
            | true =>
              have hxa : x = .abort := by cases x <;> simp [Ins.isAbort] at ha; rfl
              subst hxa
              rw [led_abort hx hd, led_abort ht hd]
            | false =>
              rw [led_else hx hd hcd hj ha] at hn ⊢
              rw [led_else ht hd hcd hj ha]
              exact thread_run hc k (here' + 1) _ _ (by omega) hn k' (here' + 1) (by omega) (.inl rfl)
    · rw [led_stop hd, led_stop hd]
theorem fact4 {c : List Ins} (hc : Ok c) (ch : List Bool) : (dropOn (ledF (threadedF c) ch [])).take 14 = (dropOn (ledF c ch [])).take 14 ∨ hasOn (ledF c ch []) = true := by
  cases h : hasOn (ledF c ch []) with
  | true => exact .inr rfl
  | false =>
    left
    have := thread_run hc (ch := ch) 60 0 [] 0 (by omega) h 60 0 (Nat.le_refl _) (.inl rfl)
    unfold ledF
    rw [this]
-- the plain law: the lean code
section
variable {c : List Ins} {al : List Bool}
/-- where a pair stands in the lean code -/
noncomputable def pos (c : List Ins) (al : List Bool) (i : Nat) : Nat := (madeAt c al i).length
theorem pos_succ (i : Nat) : pos c al (i + 1) = pos c al i + (keepF c al i).length := by simp [pos, madeAt]
theorem keep_le (i : Nat) : (keepF c al i).length ≤ 1 := by
  unfold keepF
  split
  · split
    · split <;> simp
    · split <;> simp
    · split <;> simp
    · simp
    · simp
  · simp
theorem pos_mono {i j : Nat} (h : i ≤ j) : pos c al i ≤ pos c al j := by
  induction j with
  | zero => have : i = 0 := by omega
            subst this; exact Nat.le_refl _
  | succ j ih =>
    by_cases q : i = j + 1
    · subst q; exact Nat.le_refl _
    · rw [pos_succ]; have := ih (by omega); omega
theorem made_get {i j : Nat} (h : i < j) {x : Ins} (hk : keepF c al i = [x]) : (madeAt c al j)[pos c al i]? = some x := by
  induction j with
  | zero => omega
  | succ j ih =>
    have e : madeAt c al (j + 1) = madeAt c al j ++ keepF c al j := rfl
    rw [e]
    by_cases q : i = j
    · subst q
      rw [hk]
      show (madeAt c al i ++ [x])[(madeAt c al i).length]? = some x
      rw [List.getElem?_append_right (Nat.le_refl _)]
      simp
    · have h2 := ih (by omega)
      rw [List.getElem?_append_left (List.getElem?_eq_some_iff.mp h2).1]
      exact h2
theorem places_get {i j : Nat} (h : i < j) : (placesAt c al j)[i]? = some (pos c al i) := by
  induction j with
  | zero => omega
  | succ j ih =>
    have e : placesAt c al (j + 1) = placesAt c al j ++ [(madeAt c al j).length] := rfl
    have hl := places_length c al j
    rw [e]
    by_cases q : i = j
    · subst q
      rw [List.getElem?_append_right (by omega), hl, Nat.sub_self]; rfl
    · rw [List.getElem?_append_left (by omega)]
      exact ih (by omega)
theorem dead_keep {i : Nat} (h : ¬ al.getD i false = true) : keepF c al i = [] := by
  unfold keepF
  rw [if_neg (fun q => h (getD_iff.mpr q))]
theorem close_pos {i g : Nat} (hg : closeF al i g = true) : i < g ∧ pos c al g = pos c al (i + 1) := by
  have hb := Bool.and_eq_true_iff.mp hg
  have hlt : i < g := of_decide_eq_true hb.1
  refine ⟨hlt, ?_⟩
  have dead : ∀ j, i < j → j < g → ¬ al.getD j false = true := by
    intro j h1 h2 h3
    have h4 : ((al.drop (i + 1)).take (g - (i + 1))).any id = false := by simpa using hb.2
    rw [List.any_eq_false] at h4
    have h5 := getD_iff.mp h3
    have h6 : ((al.drop (i + 1)).take (g - (i + 1)))[j - (i + 1)]? = some true := by
      rw [List.getElem?_take_of_lt (by omega), List.getElem?_drop, show i + 1 + (j - (i + 1)) = j by omega]
      exact h5
    exact h4 true (List.mem_of_getElem? h6) rfl
  have key : ∀ m, i + 1 + m ≤ g → pos c al (i + 1 + m) = pos c al (i + 1) := by
    intro m
    induction m with
    | zero => intro _; rfl
    | succ m ih =>
      intro h
      rw [show i + 1 + (m + 1) = (i + 1 + m) + 1 by omega, pos_succ, dead_keep (dead _ (by omega) (by omega)), ih (by omega)]
      rfl
  have := key (g - (i + 1)) (by omega)
  rw [show i + 1 + (g - (i + 1)) = g by omega] at this
  exact this
end
noncomputable def leanOf (c : List Ins) (al : List Bool) : List Ins := (madeAt c al c.length).map (·.move fun g => (placesAt c al (c.length + 1)).getD g 0)
theorem move_congr {f f' : Nat → Nat} {x : Ins} (h : ∀ g, x.goal = some g → f g = f' g) : x.move f = x.move f' := by
  cases x <;> simp [Ins.goal] at h <;> simp [Ins.move, h]
section
variable {c : List Ins} {al : List Bool} (hc : Ok c)
include hc
theorem lean_len : (leanOf c al).length = pos c al c.length := by simp [leanOf, pos]
theorem lean_get {i : Nat} (h : i < c.length) {x : Ins} (hk : keepF c al i = [x]) (hg : ∀ g, x.goal = some g → g ≤ c.length) : (leanOf c al)[pos c al i]? = some (x.move (pos c al)) := by
  unfold leanOf
  rw [List.getElem?_map, made_get h hk, Option.map_some]
  congr 1
  refine move_congr fun g hgg => ?_
  rw [List.getD_eq_getElem?_getD, places_get (by have := hg g hgg; omega)]
  rfl
theorem lean_end : (leanOf c al)[pos c al c.length]? = none := by
  rw [List.getElem?_eq_none_iff, lean_len hc]; exact Nat.le_refl _
theorem lean_ok : Ok (leanOf c al) where
  small := by rw [lean_len hc]; have := (made_ok hc al c.length).1; have := hc.small; unfold pos; omega
  goal := fun y hy g hg => by
    unfold leanOf at hy
    obtain ⟨x, hx, rfl⟩ := List.mem_map.mp hy
    rw [goal_move] at hg
    cases q : x.goal with
    | none => rw [q] at hg; cases hg
    | some g' =>
      rw [q] at hg; cases hg
      have := (made_ok hc al c.length).2 x hx g' q
      rw [lean_len hc]
      show (placesAt c al (c.length + 1)).getD g' 0 ≤ _
      rw [List.getD_eq_getElem?_getD, places_get (by omega)]
      exact pos_mono this
end
theorem keep_jump {c : List Ins} {al : List Bool} {i g : Nat} (hx : c[i]? = some (.jump g)) (ha : al.getD i false = true) : keepF c al i = if closeF al i g = true then [] else [.jump g] := keep_at hx (getD_iff.mp ha)
theorem keep_cond {c : List Ins} {al : List Bool} {i g : Nat} {x : Ins} (hx : c[i]? = some x) (ha : al.getD i false = true) (hg : x.goal = some g) (hj : x.isJump = false) : keepF c al i = if closeF al i g = true then [.drop] else [x] := by
  rw [keep_at hx (getD_iff.mp ha), keepX_some hg hj]
theorem keep_plain {c : List Ins} {al : List Bool} {i : Nat} {x : Ins} (hx : c[i]? = some x) (ha : al.getD i false = true) (hg : x.goal = none) : keepF c al i = [x] := by
  rw [keep_at hx (getD_iff.mp ha), keepX_none hg]
theorem closeL_F {al : List Bool} (h : al ≠ []) (i g : Nat) : closeL al i g = closeF al i g := by simp [closeL, closeF, h]

theorem lean_run {c : List Ins} (hc : Ok c) {al : List Bool} (hal : al.length = c.length + 1) (hcl : ∀ i, al.getD i false = true → ∀ j ∈ behindF c i, al.getD j false = true) {ch : List Bool} :
    ∀ (k here : Nat) (done : List PyData) (spent : Nat), here ≤ c.length → al.getD here false = true → hasOn (ledLoop c ch al k here done spent) = false → ∀ k', k ≤ k' →
    ledLoop (leanOf c al) ch [] k' (pos c al here) done spent = ledLoop c ch al k here done spent
  | 0, here, done, spent, _, _, hn, _, _ => by rw [led_zero, hasOn_snoc] at hn; cases hn
  | k + 1, here, done, spent, hh, ha, hn, k', hk => by
    have hne : al ≠ [] := fun e => by rw [e] at hal; simp at hal
    obtain ⟨k', rfl⟩ : ∃ j, k' = j + 1 := ⟨k' - 1, by omega⟩
    by_cases hd : done.length < 14
    · cases hx : c[here]? with
      | none =>
        have : here = c.length := by have := List.getElem?_eq_none_iff.mp hx; omega
        subst this
        rw [led_end hx, led_end (lean_end hc)]
      | some x =>
        have hgs := hc.goal x (List.mem_of_getElem? hx)
        have hin : here < c.length := (List.getElem?_eq_some_iff.mp hx).1
        have hb := hcl here ha
        rw [behind_at hx] at hb
        cases hj : x.isJump with
        | true =>
          obtain ⟨g, rfl⟩ := jump_of hj
          have hgl := hgs g rfl
          have hag : al.getD g false = true := hb g (by simp [behindX])
          rw [led_jump hx hd] at hn ⊢
          have hkp := keep_jump hx ha
          cases hcf : closeF al here g with
          | true =>
            rw [hcf, if_pos rfl] at hkp
            obtain ⟨_, e⟩ := close_pos (c := c) hcf
            have e2 : pos c al (here + 1) = pos c al here := by rw [pos_succ, hkp]; rfl
            rw [← e2, ← e]
            exact lean_run hc hal hcl k g done spent hgl hag hn (k' + 1) (by omega)
          | false =>
            rw [hcf, if_neg (by decide)] at hkp
            rw [led_jump (g := pos c al g) (lean_get hc hin hkp hgs) hd]
            exact lean_run hc hal hcl k g done spent hgl hag hn k' (by omega)
        | false =>
          cases hcd : x.isCond with
          | true =>
            obtain ⟨g, hg⟩ := cond_goal hcd
            have hgl := hgs g hg
            have hag : al.getD g false = true := hb g (by cases x <;> simp [Ins.goal, Ins.isJump] at hg hj <;> subst hg <;> simp [behindX])
            have hah : al.getD (here + 1) false = true := hb (here + 1) (by cases x <;> simp [Ins.isCond] at hcd <;> simp [behindX])
            have hkp := keep_cond hx ha hg hj
            rw [led_cond hx hd hcd hg, closeL_F hne] at hn ⊢
            cases hcf : closeF al here g with
            | true =>
              rw [hcf, if_pos rfl] at hkp hn
              rw [if_pos rfl]
              obtain ⟨_, e⟩ := close_pos (c := c) hcf
              have e2 : pos c al (here + 1) = pos c al here + 1 := by rw [pos_succ, hkp]; rfl
              have hl := lean_get hc hin hkp (fun g h => by cases h)
              rw [led_else (x := .drop) hl hd rfl rfl rfl, ← e2, ← e]
              exact lean_run hc hal hcl k g _ spent hgl hag hn k' (by omega)
            | false =>
              rw [hcf, if_neg (by decide)] at hkp hn
              rw [if_neg (by decide)]
              have e2 : pos c al (here + 1) = pos c al here + 1 := by rw [pos_succ, hkp]; rfl
              have hl := lean_get hc hin hkp hgs
              rw [led_cond hl hd (by rw [move_cond]; exact hcd) (g := pos c al g) (by rw [goal_move, hg]; rfl), close_nil, if_neg (by decide), op_move, ← e2]
              by_cases tk : ch[spent % ch.length]? = some true
              · rw [if_pos tk] at hn ⊢; rw [if_pos tk]
                exact lean_run hc hal hcl k g _ _ hgl hag hn k' (by omega)
              · rw [if_neg tk] at hn ⊢; rw [if_neg tk]
                exact lean_run hc hal hcl k (here + 1) _ _ (by omega) hah hn k' (by omega)
          | false =>
            have hgn : x.goal = none := by cases x <;> simp [Ins.isCond, Ins.isJump] at hcd hj <;> rfl
            have hkp := keep_plain hx ha hgn
            have hl := lean_get hc hin hkp hgs
            rw [move_none hgn] at hl
            cases hab : x.isAbort with
            | true =>
              have hxa : x = .abort := by cases x <;> simp [Ins.isAbort] at hab; rfl
              subst hxa
              rw [led_abort hx hd, led_abort hl hd]
            | false =>
              have hah : al.getD (here + 1) false = true := hb (here + 1) (by cases x <;> simp [Ins.isAbort, Ins.isCond, Ins.isJump] at hab hcd hj <;> simp [behindX])
              have e2 : pos c al (here + 1) = pos c al here + 1 := by rw [pos_succ, hkp]; rfl
              rw [led_else hx hd hcd hj hab] at hn ⊢
              rw [led_else hl hd hcd hj hab, ← e2]
              exact lean_run hc hal hcl k (here + 1) _ _ (by omega) hah hn k' (by omega)
    · rw [led_stop hd, led_stop hd]
theorem alive_closed {c : List Ins} (hc : Ok c) : ∀ i, (aliveF c).getD i false = true → ∀ j ∈ behindF c i, (aliveF c).getD j false = true := fun i hi j hj =>
  (aliveF_iff hc j).mpr (.step ((aliveF_iff hc i).mp hi) hj)
theorem leanF_eq {c : List Ins} (hc : Ok c) : leanF c = leanOf c (aliveF c) := by unfold leanF leanOf; rw [fact2 hc]
theorem fact5 {c : List Ins} (hc : Ok c) (ch : List Bool) : hasOn (ledF c ch []) = true ∨ ledF c ch (aliveF c) = ledF (leanF c) ch [] ∨ hasOn (ledF c ch (aliveF c)) = true := by
  cases h : hasOn (ledF c ch (aliveF c)) with
  | true => exact .inr (.inr rfl)
  | false =>
    right; left
    rw [leanF_eq hc]
    exact (lean_run hc (lapsF_length c _) (alive_closed hc) 60 0 [] 0 (by omega) ((aliveF_iff hc 0).mpr .start) h 60 (Nat.le_refl _)).symm
theorem fact6 {c : List Ins} (hc : Ok c) : ((leanF c).length : Int) = ((leftL c (aliveF c)).length : Int) - ((closingL c (aliveF c)).length : Int) := by
  rw [leanF_eq hc, lean_len hc]
  generalize aliveF c = al
  have key : ∀ n, n ≤ c.length → pos c al n + ((List.range n).filter fun a => closeJ c al a).length = ((List.range n).filter fun a => al.getD a false).length := by
    intro n
    induction n with
    | zero => intro _; rfl
    | succ n ih =>
      intro hn
      have h1 := ih (by omega)
      rw [pos_succ, List.range_succ, List.filter_append, List.filter_append, List.length_append, List.length_append]
      obtain ⟨x, hx⟩ : ∃ x, c[n]? = some x := ⟨c[n], List.getElem?_eq_getElem (by omega)⟩
      have fs : ∀ (p : Nat → Bool), ([n].filter p).length = if p n = true then 1 else 0 := by
        intro p
        cases q : p n <;> simp [List.filter_cons, q]
      rw [fs, fs]
      clear ih fs
      generalize ((List.range n).filter fun a => closeJ c al a).length = nb at *
      generalize ((List.range n).filter fun a => al.getD a false).length = na at *
      cases ha : al.getD n false with
      | false =>
        have : closeJ c al n = false := by unfold closeJ; rw [hx]; cases x <;> simp [-List.getD_eq_getElem?_getD, ha]
        rw [this, dead_keep (by rw [ha]; decide)]
        simp; omega
      | true =>
        cases hj : x.isJump with
        | true =>
          obtain ⟨g, rfl⟩ := jump_of hj
          have : closeJ c al n = closeF al n g := by unfold closeJ; rw [hx]; simp [-List.getD_eq_getElem?_getD, ha]
          rw [this, keep_jump hx ha]
          cases closeF al n g <;> simp <;> omega
        | false =>
          have : closeJ c al n = false := by unfold closeJ; rw [hx]; cases x <;> first | rfl | (simp [Ins.isJump] at hj)
          rw [this]
          cases hg : x.goal with
          | none => rw [keep_plain hx ha hg]; simp; omega
          | some g =>
            rw [keep_cond hx ha hg hj]
            cases closeF al n g <;> simp <;> omega
  have := key c.length (Nat.le_refl _)
  unfold leftL closingL
  omega
theorem lean_reach {c : List Ins} (hc : Ok c) {i : Nat} (h : Reach c i) : Reach (leanOf c (aliveF c)) (pos c (aliveF c) i) := by
  induction h with
  | start => exact .start
  | @step i j hi hj ih =>
    have ha := (aliveF_iff hc i).mpr hi
    cases hx : c[i]? with
    | none => rw [behind_none hx] at hj; cases hj
    | some x =>
      have hgs := hc.goal x (List.mem_of_getElem? hx)
      have hin : i < c.length := (List.getElem?_eq_some_iff.mp hx).1
      rw [behind_at hx] at hj
      generalize aliveF c = al at *
      cases hjj : x.isJump with
      | true =>
        obtain ⟨g, rfl⟩ := jump_of hjj
        have : j = g := by simpa [behindX] using hj
        subst this
        have hkp := keep_jump hx ha
        cases hcf : closeF al i j with
        | true =>
          rw [hcf, if_pos rfl] at hkp
          obtain ⟨_, e⟩ := close_pos (c := c) hcf
          rw [e, pos_succ, hkp]
          exact ih
        | false =>
          rw [hcf, if_neg (by decide)] at hkp
          refine .step ih ?_
          rw [behind_at (lean_get hc hin hkp hgs)]
          exact .head _
      | false =>
        cases hg : x.goal with
        | some g =>
          have hkp := keep_cond hx ha hg hjj
          have hj' : j = i + 1 ∨ j = g := by cases x <;> simp [Ins.goal, Ins.isJump] at hg hjj <;> subst hg <;> simpa [behindX] using hj
          cases hcf : closeF al i g with
          | true =>
            rw [hcf, if_pos rfl] at hkp
            obtain ⟨_, e⟩ := close_pos (c := c) hcf
            have e1 : pos c al j = pos c al i + 1 := by
              rcases hj' with rfl | rfl
              · rw [pos_succ, hkp]; rfl
              · rw [e, pos_succ, hkp]; rfl
            rw [e1]
            refine .step ih ?_
            rw [behind_at (lean_get hc hin hkp (fun g h => by cases h))]
            exact .head _
          | false =>
            rw [hcf, if_neg (by decide)] at hkp
            refine .step ih ?_
            rw [behind_at (lean_get hc hin hkp hgs)]
            have e1 : pos c al (i + 1) = pos c al i + 1 := by rw [pos_succ, hkp]; rfl
            rcases hj' with rfl | rfl
            · rw [e1]; cases x <;> simp [Ins.goal, Ins.isJump] at hg hjj <;> exact .head _
            · cases x <;> simp [Ins.goal, Ins.isJump] at hg hjj <;> subst hg <;> exact .tail _ (.head _)
        | none =>
          have hkp := keep_plain hx ha hg
          have hl := lean_get hc hin hkp hgs
          rw [move_none hg] at hl
          have e1 : pos c al (i + 1) = pos c al i + 1 := by rw [pos_succ, hkp]; rfl
          refine .step ih ?_
          rw [behind_at hl]
          have : j = i + 1 := by cases x <;> simp [Ins.goal] at hg <;> simpa [behindX] using hj
          subst this
          rw [e1]
          cases x <;> simp [Ins.goal] at hg <;> simp [behindX] at hj ⊢
theorem pos_onto {c : List Ins} {al : List Bool} : ∀ (n q : Nat), q < pos c al n → ∃ i, i < n ∧ pos c al i = q ∧ al.getD i false = true
  | 0, q, h => by simp [pos, madeAt] at h
  | n + 1, q, h => by
    by_cases h1 : q < pos c al n
    · obtain ⟨i, a, b, d⟩ := pos_onto n q h1
      exact ⟨i, by omega, b, d⟩
    · rw [pos_succ] at h
      have := keep_le (c := c) (al := al) n
      by_cases ha : al.getD n false = true
      · exact ⟨n, by omega, by omega, ha⟩
      · rw [dead_keep ha] at h; simp at h; omega
theorem fact7 {c : List Ins} (hc : Ok c) : ∀ b ∈ (reachF (leanF c)).take (leanF c).length, b = true := by
  rw [leanF_eq hc]
  intro b hb
  obtain ⟨q, hq, e⟩ := List.getElem_of_mem hb
  rw [List.getElem_take] at e
  have hq' : q < (leanOf c (aliveF c)).length := by rw [List.length_take] at hq; omega
  rw [lean_len hc] at hq'
  obtain ⟨i, _, e1, ha⟩ := pos_onto _ q hq'
  have hr := (reachF_iff (lean_ok hc) q).mpr (e1 ▸ lean_reach hc ((aliveF_iff hc i).mp ha))
  have := getD_iff.mp hr
  rw [List.getElem?_eq_getElem (by rw [List.length_take] at hq; omega), e] at this
  exact Option.some.inj this
theorem facts_all (c : List Ins) (hc : Ok c) (_ : 1 ≤ c.length) (_ : c.length ≤ 9) : Facts c where
  f1 := fact1 hc
  f2 := fact2 hc
  f3 := fact3 hc
  okT := fact_okT hc
  okL := by rw [leanF_eq hc]; exact lean_ok hc
  f4 := fun ch _ => fact4 hc ch
  f5 := fun ch _ => fact5 hc ch
  f6 := fact6 hc
  f7 := fact7 hc
end Mine
theorem Mine.pt1 : WShape.has [] (WData.bool true) .bool = true := by decide +kernel
theorem Mine.pt2 (a : List WData) : WTm.holds [] (.eq .res (.lit (.bool true))) { args := a, res := some (WData.bool true), after := a } = true := by with_unfolding_all rfl
theorem Mine.post_true (a : List WData) : Challenge.rw_pq0567_01.row.claim.post a (WData.bool true) a = true := by
  show (WShape.has [] (WData.bool true) .bool && WTm.holds [] (.eq .res (.lit (.bool true))) { args := a, res := some (WData.bool true), after := a }) = true
  rw [Mine.pt1, Mine.pt2]; rfl
set_option maxRecDepth 100000 in
set_option maxHeartbeats 8000000 in
theorem PySem.Challenge.cw_pq0567_01_holds : PySem.Challenge.rw_pq0567_01.Holds :=
  Mine.hd (by
  k_fill
  intro w s₀ s₁ mg mb G Y fa o pm cd doc dV kV ho hd hcd hD hmg hg args vals as hpre hlay hrd hwl hlo
  have KX := kIn_of Y
  have X := (Ground.X G).1
  have V := (Ground.X G).2
  refine Ground.open G ?_
  intro T B D TE TW
  clear hcd hD B D
  wrow_args hpre hlay hrd hwl hlo
  have e1 := mg_of (n := "law") (v := .ref 109) KX T.g rfl
  rw [hmg] at e1
  cases e1
  have top : Mine.TopAt w.params s₁.heap := ⟨KX, ⟨mg, T.g⟩, ⟨mb, T.b, fun x v e hn => (T.builtins x hn).trans e⟩, T.nolimit⟩
  have at0 : Mine.At s₁.heap [] s₁.heap := { base := fun b o e => e, off := (fun _ _ _ h => nomatch h), ex := (fun _ h => nomatch h) }
  refine wpAny_call (codeAny_mono (Mine.law_spec Mine.facts_all (prog := Challenge.rw_pq0567_01.row.prog) (w := w) top ?ns ?len callerA s₁ [] _ ⟨rfl, by decide, by decide⟩ at0 (.cons ⟨?as, ?r0⟩ .nil)) ?post)
  case r0 => assumption
  case len => omega
  case post =>
    intro r s' hq
    obtain ⟨v, rfl, ⟨_, rv⟩, keep, h', tk, rfl⟩ := hq
    cases rv
    refine GoodW.toG ⟨.inl ⟨.bool true, .bool true, [], rfl, ?_, ?_, ?_, ?_⟩, keep, rfl, hg⟩
    · intro cls; rfl
    · exact .bool _
    · exact Mine.post_true _
    · exact fun _ => ⟨.nil, fun _ h => nomatch h⟩)
