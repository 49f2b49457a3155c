import PyProof.Rows.All
import Wide.All
import OpenK.AllK
import Wide.FinOn
import HandS.ForMost
import HandS.ForExc
import HandS.IsInst
import HandS.Defaults
import HandS.ExcIs
import HandS.TupAny
import HandS.TupMul
import HandS.TupLe
import HandS.Deep
import HandS.SortInts
import HandS.Comp
import HandS.HeadEnd
import HandS.TryOnly
import HandS.ExcOwn
import HandS.Strs
import HandS.Text
import HandS.CallSlots
import HandS.MakeKwOnly
import HandS.Iter
import PyProof.StrBlock2
import KE.KUnpackStar
import HandS.More
import HandS.Conv
import HandS.DictComp
import HandS.Flow
import HandS.TupSets
import HandS.OwnEq
import HandS.FStr
import HandS.DictEq
import HandS.HotCalls
import HandS.Head0
import HandS.Head1
import HandS.Head2
import HandS.HeadHook1
import HandS.HeadHook2
import HandS.HeadHook3
import HandS.HeadHook4
import PySem.Challenge.RW_gridscope_k06_sizes_equal_and_twins
set_option Elab.async false
set_option linter.all false
set_option maxRecDepth 100000
set_option maxHeartbeats 4000000
/-! The data layer: values as data, objects in a store; judgements over both. -/
namespace G
open PySem PySem.Spec PyProof.Rows L2

/-! ### the widest readings -/
def WE (X : Cx) (e : Expr) : TE := fun σ H Q => ∀ (pins : List (Addr × Obj)) (s : Shared), Inv X pins σ H s → wpAny (model X.prog X.w) X.A (eval e X.env) (EP X pins σ Q) X.xe s
def WT (X : Cx) (e : Expr) : TT := fun σ H Q => ∀ (pins : List (Addr × Obj)) (s : Shared), Inv X pins σ H s → wpAny (model X.prog X.w) X.A (isTrue e X.env (eval e X.env)) (TP X pins σ Q) X.xe s
def WA (X : Cx) (es : List Expr) : TA := fun σ H Q => ∀ (pos : Pos) (pins : List (Addr × Obj)) (s : Shared), Inv X pins σ H s → wpAny (model X.prog X.w) X.A (spliced (backTo pos (starEach es X.env))) (AP X pins σ Q) X.xe s
def WS (X : Cx) (st : Stmt) : TS := fun D σ H => ∀ (pins : List (Addr × Obj)) (s : Shared), Inv X pins σ H s → wpAny (model X.prog X.w) X.A (exec st X.env) (SP X pins D) X.xe s
def WSs (X : Cx) (st : List Stmt) : TS := fun D σ H => ∀ (pins : List (Addr × Obj)) (s : Shared), Inv X pins σ H s → wpAny (model X.prog X.w) X.A (execs st X.env) (SP X pins D) X.xe s
def WG (X : Cx) (tg : Expr) : TG := fun v σ H Q => ∀ (pins : List (Addr × Obj)) (s : Shared) (u : Value), Inv X pins σ H s → RelV v u → wpAny (model X.prog X.w) X.A (assign tg X.env u) (fun _ s' => ∃ σ' H', Inv X pins σ' H' s' ∧ Q σ' H') X.xe s
section
variable {X : Cx} {e : Expr} {es : List Expr} {st : Stmt} {sts : List Stmt} {tg : Expr} {σ : L2.St} {H : Hp}
theorem we : PE X e (WE X e) := ⟨fun pins s _ _ _ I h => h pins s I⟩
theorem wt : PT X e (WT X e) := ⟨fun pins s _ _ _ I h => h pins s I⟩
theorem wa : PA X es (WA X es) := ⟨fun pos pins s _ _ _ I h => h pos pins s I⟩
theorem ws : PS X st (WS X st) := ⟨fun pins s _ _ _ I h => h pins s I⟩
theorem wss : PSs X sts (WSs X sts) := ⟨fun pins s _ _ _ I h => h pins s I⟩
theorem wg : PG X tg (WG X tg) := ⟨fun pins s _ _ _ u _ I r h => h pins s u I r⟩
theorem WE.of {t : TE} {Q : VK} (p : PE X e t) (h : t σ H Q) : WE X e σ H Q := fun pins s I => p.run pins s σ H Q I h
theorem WT.of {t : TT} {Q : Bool → Hp → Prop} (p : PT X e t) (h : t σ H Q) : WT X e σ H Q := fun pins s I => p.run pins s σ H Q I h
theorem WA.of {t : TA} {Q : List V → Hp → Prop} (p : PA X es t) (h : t σ H Q) : WA X es σ H Q := fun pos pins s I => p.run pos pins s σ H Q I h
theorem WS.of {t : TS} {D : Ends} (p : PS X st t) (h : t D σ H) : WS X st D σ H := fun pins s I => p.run pins s σ H D I h
theorem WSs.of {t : TS} {D : Ends} (p : PSs X sts t) (h : t D σ H) : WSs X sts D σ H := fun pins s I => p.run pins s σ H D I h
theorem WG.of {t : TG} {v : V} {Q : L2.St → Hp → Prop} (p : PG X tg t) (h : t v σ H Q) : WG X tg v σ H Q := fun pins s u I r => p.run pins s σ H v u Q I r h
theorem WE.mono {Q Q' : VK} (h : WE X e σ H Q) (k : ∀ v H', Q v H' → Q' v H') : WE X e σ H Q' := fun pins s I => thn (h pins s I) fun _ _ ⟨v, H', I', r, q⟩ => ⟨v, H', I', r, k v H' q⟩
theorem WT.mono {Q Q' : Bool → Hp → Prop} (h : WT X e σ H Q) (k : ∀ v H', Q v H' → Q' v H') : WT X e σ H Q' := fun pins s I => thn (h pins s I) fun b _ ⟨H', I', q⟩ => ⟨H', I', k b H' q⟩
theorem WA.mono {Q Q' : List V → Hp → Prop} (h : WA X es σ H Q) (k : ∀ v H', Q v H' → Q' v H') : WA X es σ H Q' := fun pos pins s I => thn (h pos pins s I) fun _ _ ⟨v, H', I', r, q⟩ => ⟨v, H', I', r, k v H' q⟩
theorem sp_mono {pins : List (Addr × Obj)} {D D' : Ends} {f : Flow} {s : Shared} (h : SP X pins D f s) (n : ∀ σ H, D.nx σ H → D'.nx σ H) (r : ∀ v H, D.rt v H → D'.rt v H) (b : ∀ σ H, D.bk σ H → D'.bk σ H) (c : ∀ σ H, D.ct σ H → D'.ct σ H) : SP X pins D' f s := by
  cases f with
  | next => obtain ⟨σ', H', I, q⟩ := h; exact ⟨σ', H', I, n _ _ q⟩
  | brk => obtain ⟨σ', H', I, q⟩ := h; exact ⟨σ', H', I, b _ _ q⟩
  | cont => obtain ⟨σ', H', I, q⟩ := h; exact ⟨σ', H', I, c _ _ q⟩
  | ret u => obtain ⟨v, σ', H', I, rr, q⟩ := h; exact ⟨v, σ', H', I, rr, r _ _ q⟩
theorem WSs.mono {D D' : Ends} (h : WSs X sts D σ H) (n : ∀ σ H, D.nx σ H → D'.nx σ H) (r : ∀ v H, D.rt v H → D'.rt v H) (b : ∀ σ H, D.bk σ H → D'.bk σ H) (c : ∀ σ H, D.ct σ H → D'.ct σ H) : WSs X sts D' σ H :=
  fun pins s I => thn (h pins s I) fun _ _ q => sp_mono q n r b c
theorem WS.mono {D D' : Ends} (h : WS X st D σ H) (n : ∀ σ H, D.nx σ H → D'.nx σ H) (r : ∀ v H, D.rt v H → D'.rt v H) (b : ∀ σ H, D.bk σ H → D'.bk σ H) (c : ∀ σ H, D.ct σ H → D'.ct σ H) : WS X st D' σ H :=
  fun pins s I => thn (h pins s I) fun _ _ q => sp_mono q n r b c
theorem WG.mono {v : V} {Q Q' : L2.St → Hp → Prop} (h : WG X tg v σ H Q) (k : ∀ σ H', Q σ H' → Q' σ H') : WG X tg v σ H Q' := fun pins s u I r => thn (h pins s u I r) fun _ _ ⟨v, H', I', q⟩ => ⟨v, H', I', k v H' q⟩
end

/-! ### data -/
/-- a dict with tuples for keys; or the very thing that stands at a place, for good -/
inductive DitK where | t (ks : List (List Key)) | pin (u : HO)
inductive D where
  | non | bl (b : Bool) | int (i : Int) | str (s : Str) | tup (l : List D) | lst (l : List D) | frz (l : List D) | dic (ks : List Key) (l : List D) | dit (ks : DitK) (l : List D) | ref (a : Addr) | ty (n : String)
/-- what an object of the store is -/
inductive O where
  | lst (l : List D) | dic (ks : List Key) (l : List D) | dit (ks : List (List Key)) (l : List D) | ins (C : Addr) (fs : List (Str × D)) | lk (od : Obj) (kvs : List (Key × V)) (ks : List Key) (l : List D)
abbrev Sto := Addr → Option O
def sput (m : Sto) (a : Addr) (o : O) : Sto := fun b => if b = a then some o else m b
theorem sput_same {m : Sto} {a : Addr} {o : O} : sput m a o a = some o := if_pos rfl
theorem sput_ne {m : Sto} {a b : Addr} {o : O} (h : b ≠ a) : sput m a o b = m b := if_neg h
theorem sput_sput {m : Sto} {a : Addr} {o u : O} : sput (sput m a o) a u = sput m a u := by funext b; unfold sput; split <;> rfl
def sdel (m : Sto) (a : Addr) : Sto := fun b => if b = a then none else m b
theorem sdel_ne {m : Sto} {a b : Addr} (h : b ≠ a) : sdel m a b = m b := if_neg h
theorem sne {m : Sto} {a b : Addr} {o : O} (h : m a = some o) (h' : m b = none) : a ≠ b := by
  intro e; subst e; rw [h] at h'; cases h'
theorem sdel_new {m : Sto} {a : Addr} {o : O} (h : m a = none) : sdel (sput m a o) a = m := by
  funext b
  unfold sdel sput
  split
  · rename_i e; subst e; exact h.symm
  · rfl

mutual
inductive Rep (K : PySem.W.Frag) (H : Hp) : V → D → Prop
  | non : Rep K H .non .non
  | bl (b : Bool) : Rep K H (.bl b) (.bl b)
  | int (i : Int) : Rep K H (.int i) (.int i)
  | str (s : Str) : Rep K H (.str s) (.str s)
  | ty (n : String) : Rep K H (.ty n) (.ty n)
  | ref (a : Addr) : Rep K H (.ref a) (.ref a)
  | tup {a : Addr} {xs : List V} {ds : List D} : SqT K H a xs → RepL K H xs ds → Rep K H (.ref a) (.tup ds)
  | lst {a : Addr} {xs : List V} {ds : List D} : H a = some (.lst xs) → RepL K H xs ds → Rep K H (.ref a) (.lst ds)
  | frz {a : Addr} {xs : List V} {ds : List D} : SqL K H a xs → RepL K H xs ds → Rep K H (.ref a) (.frz ds)
  | dic {a : Addr} {ob : Obj} {kvs : List (Key × V)} {ks : List Key} {ds : List D} : H a = some (.frz ob (.dK kvs)) → kvs.map (·.1) = ks → RepL K H (kvs.map (·.2)) ds → Rep K H (.ref a) (.dic ks ds)
  | dit {a : Addr} {ob : Obj} {kvs : List (List Key × V)} {ks : List (List Key)} {ds : List D} : H a = some (.frz ob (.dT kvs)) → kvs.map (·.1) = ks → RepL K H (kvs.map (·.2)) ds → Rep K H (.ref a) (.dit (.t ks) ds)
  | pin {a : Addr} {u : HO} : H a = some u → Rep K H (.ref a) (.dit (.pin u) [])
inductive RepL (K : PySem.W.Frag) (H : Hp) : List V → List D → Prop
  | nil : RepL K H [] []
  | cons {v : V} {vs : List V} {d : D} {ds : List D} : Rep K H v d → RepL K H vs ds → RepL K H (v :: vs) (d :: ds)
end

theorem rd_mono {H H' : Hp} {a : Addr} {u : HO} (e : Same H H') (h : Rd H a u) : Rd H' a u := by
  rcases h with h | ⟨o, h⟩
  · exact .inl (e _ _ h)
  · exact .inr ⟨o, e _ _ h⟩
theorem sqt_mono {K : PySem.W.Frag} {H H' : Hp} {a : Addr} {xs : List V} (e : Same H H') (h : SqT K H a xs) : SqT K H' a xs := by
  rcases h with h | h
  · exact .inl (rd_mono e h)
  · exact .inr h
mutual
theorem Rep.mono {K : PySem.W.Frag} {H H' : Hp} (e : Same H H') : ∀ {v : V} {d : D}, Rep K H v d → Rep K H' v d
  | _, _, .non => .non
  | _, _, .bl b => .bl b
  | _, _, .int b => .int b
  | _, _, .str b => .str b
  | _, _, .ty b => .ty b
  | _, _, .ref b => .ref b
  | _, _, .pin h => .pin (e _ _ h)
  | _, _, .tup h r => .tup (sqt_mono e h) (RepL.mono e r)
  | _, _, .lst h r => .lst (e _ _ h) (RepL.mono e r)
  | _, _, .frz h r => .frz (e.seq h) (RepL.mono e r)
  | _, _, .dic h k r => .dic (e _ _ h) k (RepL.mono e r)
  | _, _, .dit h k r => .dit (e _ _ h) k (RepL.mono e r)
theorem RepL.mono {K : PySem.W.Frag} {H H' : Hp} (e : Same H H') : ∀ {v : List V} {d : List D}, RepL K H v d → RepL K H' v d
  | _, _, .nil => .nil
  | _, _, .cons h r => .cons (Rep.mono e h) (RepL.mono e r)
end
section
variable {K : PySem.W.Frag} {H : Hp}
theorem RepL.length : ∀ {vs : List V} {ds : List D}, RepL K H vs ds → vs.length = ds.length
  | _, _, .nil => rfl
  | _, _, .cons _ r => by rw [List.length_cons, List.length_cons, r.length]
theorem RepL.get : ∀ {vs : List V} {ds : List D} {i : Nat} {v : V} {d : D}, RepL K H vs ds → vs[i]? = some v → ds[i]? = some d → Rep K H v d
  | _, _, _, _, _, .nil, h, _ => by simp at h
  | _, _, 0, _, _, .cons h _, e1, e2 => by
    cases (Option.some.inj e1 : _ = _); cases (Option.some.inj e2 : _ = _); exact h
  | _, _, i + 1, _, _, .cons _ r, e1, e2 => r.get (i := i) (by simpa using e1) (by simpa using e2)
theorem RepL.get' {vs : List V} {ds : List D} {i : Nat} {d : D} (r : RepL K H vs ds) (h : ds[i]? = some d) : ∃ v, vs[i]? = some v ∧ Rep K H v d := by
  have hl := r.length
  have hi : i < vs.length := by rw [hl]; exact (List.getElem?_eq_some_iff.mp h).1
  exact ⟨vs[i], List.getElem?_eq_getElem hi, r.get (List.getElem?_eq_getElem hi) h⟩
theorem RepL.getV {vs : List V} {ds : List D} {i : Nat} {v : V} (r : RepL K H vs ds) (h : vs[i]? = some v) : ∃ d, ds[i]? = some d ∧ Rep K H v d := by
  have hl := r.length
  have hi : i < ds.length := by rw [← hl]; exact (List.getElem?_eq_some_iff.mp h).1
  exact ⟨ds[i], List.getElem?_eq_getElem hi, r.get h (List.getElem?_eq_getElem hi)⟩
theorem RepL.append : ∀ {vs ws : List V} {ds es : List D}, RepL K H vs ds → RepL K H ws es → RepL K H (vs ++ ws) (ds ++ es)
  | _, _, _, _, .nil, r => r
  | _, _, _, _, .cons h t, r => .cons h (t.append r)
theorem RepL.take : ∀ {vs : List V} {ds : List D} (n : Nat), RepL K H vs ds → RepL K H (vs.take n) (ds.take n)
  | _, _, 0, _ => .nil
  | _, _, _ + 1, .nil => .nil
  | _, _, n + 1, .cons h t => .cons h (t.take n)
theorem RepL.drop : ∀ {vs : List V} {ds : List D} (n : Nat), RepL K H vs ds → RepL K H (vs.drop n) (ds.drop n)
  | _, _, 0, r => r
  | _, _, _ + 1, .nil => .nil
  | _, _, n + 1, .cons _ t => t.drop n
theorem RepL.set : ∀ {vs : List V} {ds : List D} (n : Nat) {v : V} {d : D}, RepL K H vs ds → Rep K H v d → RepL K H (vs.set n v) (ds.set n d)
  | _, _, _, _, _, .nil, _ => .nil
  | _, _, 0, _, _, .cons _ t, r => .cons r t
  | _, _, n + 1, _, _, .cons h t, r => .cons h (t.set n r)
theorem RepL.snoc {vs : List V} {ds : List D} {v : V} {d : D} (r : RepL K H vs ds) (h : Rep K H v d) : RepL K H (vs ++ [v]) (ds ++ [d]) := r.append (.cons h .nil)
/-- by a relation that holds item by item -/
theorem RepL.of_zip : ∀ {vs : List V} {ds : List D}, vs.length = ds.length → (∀ v d, (v, d) ∈ vs.zip ds → Rep K H v d) → RepL K H vs ds
  | [], [], _, _ => .nil
  | [], _ :: _, h, _ => by simp at h
  | _ :: _, [], h, _ => by simp at h
  | v :: vs, d :: ds, h, k => .cons (k v d (by simp)) (RepL.of_zip (by simpa using h) fun x y m => k x y (by rw [List.zip_cons_cons]; exact List.mem_cons_of_mem _ m))
end

def RepO (K : PySem.W.Frag) (H : Hp) : HO → O → Prop
  | .lst xs, .lst ds => RepL K H xs ds
  | .dK kvs, .dic ks ds => kvs.map (·.1) = ks ∧ RepL K H (kvs.map (·.2)) ds
  | .dT kvs, .dit ks ds => kvs.map (·.1) = ks ∧ RepL K H (kvs.map (·.2)) ds
  | .ins C _ fs, .ins C' gs => C = C' ∧ fs.map (·.1) = gs.map (·.1) ∧ RepL K H (fs.map (·.2)) (gs.map (·.2))
  | .frz ob u, .lk od kvs ks ds => ob = od ∧ u = .dK kvs ∧ kvs.map (·.1) = ks ∧ RepL K H (kvs.map (·.2)) ds
  | _, _ => False
theorem RepO.mono {K : PySem.W.Frag} {H H' : Hp} (e : Same H H') {u : HO} {o : O} (h : RepO K H u o) : RepO K H' u o := by
  cases u <;> cases o <;> first
    | exact RepL.mono e h
    | exact ⟨h.1, RepL.mono e h.2⟩
    | exact ⟨h.1, h.2.1, RepL.mono e h.2.2⟩
    | exact ⟨h.1, h.2.1, h.2.2.1, RepL.mono e h.2.2.2⟩
    | exact False.elim h

abbrev RT := V → D → Prop
def Pl (T : RT) (v : V) (d : D) : RT := fun x y => T x y ∨ (x = v ∧ y = d)
def PlL (T : RT) (vs : List V) (ds : List D) : RT := fun x y => T x y ∨ (x, y) ∈ vs.zip ds
def Le (A B : RT) : Prop := ∀ v d, A v d → B v d
theorem Le.refl (A : RT) : Le A A := fun _ _ h => h
theorem Le.trans {A B C : RT} (h : Le A B) (k : Le B C) : Le A C := fun v d x => k v d (h v d x)
theorem Pl.le {T : RT} {v : V} {d : D} : Le T (Pl T v d) := fun _ _ h => .inl h
theorem Pl.it {T : RT} {v : V} {d : D} : Pl T v d v d := .inr ⟨rfl, rfl⟩
theorem PlL.le {T : RT} {vs : List V} {ds : List D} : Le T (PlL T vs ds) := fun _ _ h => .inl h
theorem Pl.mono {T T' : RT} {v : V} {d : D} (h : Le T T') : Le (Pl T v d) (Pl T' v d) := fun x y q => q.elim (fun z => .inl (h x y z)) .inr
theorem PlL.mono {T T' : RT} {vs : List V} {ds : List D} (h : Le T T') : Le (PlL T vs ds) (PlL T' vs ds) := fun x y q => q.elim (fun z => .inl (h x y z)) .inr

/-- the heap holds the store and the facts T: Hi is its part that never changes -/
def Hd0 (K : PySem.W.Frag) (H : Hp) (m : Sto) (T : RT) : Prop :=
  ∃ Hi : Hp, Same Hi H ∧ (∀ a o, m a = some o → Hi a = none ∧ ∃ u, H a = some u ∧ RepO K Hi u o) ∧ ∀ v d, T v d → Rep K Hi v d
section
variable {K : PySem.W.Frag} {H : Hp} {m : Sto} {T T' : RT} {p : Addr}
theorem Hd0.le (h : Hd0 K H m T) (k : Le T' T) : Hd0 K H m T' := by
  obtain ⟨Hi, h1, h2, h3⟩ := h
  exact ⟨Hi, h1, h2, fun v d x => h3 v d (k v d x)⟩
theorem Hd0.pl {v : V} {d : D} (h : Hd0 K H m T) (r : ∀ Hi, (∀ v d, T v d → Rep K Hi v d) → Rep K Hi v d) : Hd0 K H m (Pl T v d) := by
  obtain ⟨Hi, h1, h2, h3⟩ := h
  refine ⟨Hi, h1, h2, fun x y q => q.elim (h3 x y) fun ⟨e1, e2⟩ => ?_⟩
  subst e1 e2
  exact r Hi h3
theorem same_upd {H : Hp} {p : Addr} {o : HO} (h : H p = none) : Same H (upd H p o) := fun b x e => by
  rw [upd_ne (ne_of_none e h)]
  exact e
theorem Hd0.free (h : Hd0 K H m T) (hp : H p = none) : m p = none := by
  obtain ⟨Hi, h1, h2, h3⟩ := h
  cases e : m p with
  | none => rfl
  | some o =>
    obtain ⟨_, u, q, _⟩ := h2 p o e
    rw [hp] at q; cases q
theorem Hd0.newI {d : D} {u : HO} (h : Hd0 K H m T) (hp : H p = none) (r : ∀ Hi, Hi p = none → (∀ v d, T v d → Rep K Hi v d) → Rep K (upd Hi p u) (.ref p) d) : Hd0 K (upd H p u) m (Pl T (.ref p) d) := by
  have hm := h.free hp
  obtain ⟨Hi, h1, h2, h3⟩ := h
  have hi : Hi p = none := by
    cases e : Hi p with
    | none => rfl
    | some o => rw [h1 _ _ e] at hp; cases hp
  refine ⟨upd Hi p u, fun b o e => ?_, fun a o e => ?_, fun x y q => q.elim (fun z => Rep.mono (same_upd hi) (h3 x y z)) fun ⟨e1, e2⟩ => ?_⟩
  · by_cases hb : b = p
    · subst hb; rw [upd_same] at e ⊢; exact e
    · rw [upd_ne hb] at e ⊢; exact h1 _ _ e
  · have ha : a ≠ p := fun z => by subst z; rw [hm] at e; cases e
    obtain ⟨q1, u', q2, q3⟩ := h2 a o e
    exact ⟨by rw [upd_ne ha]; exact q1, u', by rw [upd_ne ha]; exact q2, q3.mono (same_upd hi)⟩
  · subst e1 e2
    exact r Hi hi h3
theorem Hd0.newM {o : O} {u : HO} (h : Hd0 K H m T) (hp : H p = none) (r : ∀ Hi, (∀ v d, T v d → Rep K Hi v d) → RepO K Hi u o) : Hd0 K (upd H p u) (sput m p o) (Pl T (.ref p) (.ref p)) := by
  have hm := h.free hp
  obtain ⟨Hi, h1, h2, h3⟩ := h
  have hi : Hi p = none := by
    cases e : Hi p with
    | none => rfl
    | some o => rw [h1 _ _ e] at hp; cases hp
  refine ⟨Hi, fun b o e => (same_upd hp) _ _ (h1 b o e), fun a o' e => ?_, fun x y q => q.elim (h3 x y) fun ⟨e1, e2⟩ => by rw [e1, e2]; exact .ref p⟩
  by_cases ha : a = p
  · subst ha
    rw [sput_same] at e; cases e
    exact ⟨hi, u, upd_same, r Hi h3⟩
  · rw [sput_ne ha] at e
    obtain ⟨q1, u', q2, q3⟩ := h2 a o' e
    exact ⟨q1, u', by rw [upd_ne ha]; exact q2, q3⟩
theorem Hd0.mut {a : Addr} {o o' : O} {u u' : HO} (h : Hd0 K H m T) (hm : m a = some o) (hu : H a = some u) (r : ∀ Hi, RepO K Hi u o → (∀ v d, T v d → Rep K Hi v d) → RepO K Hi u' o') : Hd0 K (upd H a u') (sput m a o') T := by
  obtain ⟨Hi, h1, h2, h3⟩ := h
  obtain ⟨q1, u0, q2, q3⟩ := h2 a o hm
  rw [hu] at q2; cases q2
  refine ⟨Hi, fun b x e => ?_, fun b x e => ?_, h3⟩
  · have hb : b ≠ a := ne_of_none e q1
    rw [upd_ne hb]; exact h1 _ _ e
  · by_cases hb : b = a
    · subst hb
      rw [sput_same] at e; cases e
      exact ⟨q1, u', upd_same, r Hi q3 h3⟩
    · rw [sput_ne hb] at e
      obtain ⟨p1, u1, p2, p3⟩ := h2 b x e
      exact ⟨p1, u1, by rw [upd_ne hb]; exact p2, p3⟩
/-- a local list is data from now on -/
theorem Hd0.freezeL {a : Addr} {ds : List D} (h : Hd0 K H m T) (hm : m a = some (.lst ds)) : Hd0 K H (sdel m a) (Pl T (.ref a) (.lst ds)) := by
  obtain ⟨Hi, h1, h2, h3⟩ := h
  obtain ⟨q1, u0, q2, q3⟩ := h2 a _ hm
  cases u0 with
  | lst xs =>
    have sm : Same Hi (upd Hi a (.lst xs)) := same_upd q1
    refine ⟨upd Hi a (.lst xs), fun b o e => ?_, fun b o e => ?_, fun x y q => q.elim (fun z => Rep.mono sm (h3 x y z)) fun ⟨e1, e2⟩ => ?_⟩
    · by_cases hb : b = a
      · subst hb; rw [upd_same] at e; cases e; exact q2
      · rw [upd_ne hb] at e; exact h1 _ _ e
    · by_cases hb : b = a
      · subst hb; unfold sdel at e; rw [if_pos rfl] at e; cases e
      · rw [sdel_ne hb] at e
        obtain ⟨p1, u1, p2, p3⟩ := h2 b o e
        exact ⟨by rw [upd_ne hb]; exact p1, u1, p2, p3.mono sm⟩
    · subst e1 e2
      exact .lst upd_same (RepL.mono sm q3)
  | _ => exact False.elim q3
theorem Hd0.get {a : Addr} {o : O} (h : Hd0 K H m T) (hm : m a = some o) : ∃ Hi u, Same Hi H ∧ H a = some u ∧ RepO K Hi u o ∧ Hi a = none := by
  obtain ⟨Hi, h1, h2, h3⟩ := h
  obtain ⟨q1, u, q2, q3⟩ := h2 a o hm
  exact ⟨Hi, u, h1, q2, q3, q1⟩
theorem Hd0.rep {v : V} {d : D} (h : Hd0 K H m T) (t : T v d) : Rep K H v d := by
  obtain ⟨Hi, h1, h2, h3⟩ := h
  exact Rep.mono h1 (h3 v d t)
end


/-! ### with a frame: r is what nobody here touches -/
def sun (m r : Sto) : Sto := fun a => match m a with
  | some o => some o
  | none => r a
def sdj (m r : Sto) : Prop := ∀ a o, m a = some o → r a = none
theorem sun_l {m r : Sto} {a : Addr} {o : O} (h : m a = some o) : sun m r a = some o := by unfold sun; rw [h]
theorem sun_r {m r : Sto} {a : Addr} (h : m a = none) : sun m r a = r a := by unfold sun; rw [h]
theorem sun_put {m r : Sto} {a : Addr} {o : O} : sun (sput m a o) r = sput (sun m r) a o := by
  funext b
  by_cases h : b = a
  · subst h; rw [sput_same]; exact sun_l sput_same
  · rw [sput_ne h]; unfold sun; rw [sput_ne h]
theorem sun_del {m r : Sto} {a : Addr} (h : r a = none) : sun (sdel m a) r = sdel (sun m r) a := by
  funext b
  by_cases e : b = a
  · subst e
    have e1 : sdel m b b = none := if_pos rfl
    have e2 : sdel (sun m r) b b = none := if_pos rfl
    rw [e2, sun_r e1, h]
  · rw [sdel_ne e]; unfold sun; rw [sdel_ne e]
theorem sun_assoc {a b c : Sto} : sun (sun a b) c = sun a (sun b c) := by
  funext x
  unfold sun
  cases a x <;> rfl
theorem sun_none {m : Sto} : sun m (fun _ => none) = m := by
  funext x
  unfold sun
  cases m x <;> rfl
theorem none_sun {m : Sto} : sun (fun _ => none) m = m := rfl
theorem sdj.sym {m r : Sto} (h : sdj m r) : sdj r m := fun a o e => by
  cases q : m a with
  | none => rfl
  | some u => rw [h a u q] at e; cases e
theorem sun_comm {m r : Sto} (h : sdj m r) : sun m r = sun r m := by
  funext x
  cases q : m x with
  | none =>
    rw [sun_r q]
    cases e : r x with
    | none => rw [sun_r e, q]
    | some o => rw [sun_l e]
  | some o => rw [sun_l q, sun_r (h x o q), q]
def Hd (K : PySem.W.Frag) (r : Sto) (H : Hp) (m : Sto) (T : RT) : Prop := sdj m r ∧ Hd0 K H (sun m r) T
section
variable {K : PySem.W.Frag} {r : Sto} {H : Hp} {m : Sto} {T T' : RT} {p : Addr}
theorem Hd.le (h : Hd K r H m T) (k : Le T' T) : Hd K r H m T' := ⟨h.1, h.2.le k⟩
theorem Hd.pl {v : V} {d : D} (h : Hd K r H m T) (k : ∀ Hi, (∀ v d, T v d → Rep K Hi v d) → Rep K Hi v d) : Hd K r H m (Pl T v d) := ⟨h.1, h.2.pl k⟩
theorem Hd.free (h : Hd K r H m T) (hp : H p = none) : m p = none := by
  have q := h.2.free hp
  cases e : m p with
  | none => rfl
  | some o => rw [sun_l e] at q; cases q
theorem Hd.freeR (h : Hd K r H m T) (hp : H p = none) : r p = none := by
  have q := h.2.free hp
  rw [sun_r (h.free hp)] at q
  exact q
theorem Hd.newI {d : D} {u : HO} (h : Hd K r H m T) (hp : H p = none) (k : ∀ Hi, Hi p = none → (∀ v d, T v d → Rep K Hi v d) → Rep K (upd Hi p u) (.ref p) d) : Hd K r (upd H p u) m (Pl T (.ref p) d) := ⟨h.1, h.2.newI hp k⟩
theorem Hd.newM {o : O} {u : HO} (h : Hd K r H m T) (hp : H p = none) (k : ∀ Hi, (∀ v d, T v d → Rep K Hi v d) → RepO K Hi u o) : Hd K r (upd H p u) (sput m p o) (Pl T (.ref p) (.ref p)) := by
  refine ⟨fun a o' e => ?_, by rw [sun_put]; exact h.2.newM hp k⟩
  by_cases ha : a = p
  · subst ha; exact h.freeR hp
  · rw [sput_ne ha] at e; exact h.1 a o' e
theorem Hd.mut {a : Addr} {o o' : O} {u u' : HO} (h : Hd K r H m T) (hm : m a = some o) (hu : H a = some u) (k : ∀ Hi, RepO K Hi u o → (∀ v d, T v d → Rep K Hi v d) → RepO K Hi u' o') : Hd K r (upd H a u') (sput m a o') T := by
  refine ⟨fun b x e => ?_, by rw [sun_put]; exact h.2.mut (sun_l hm) hu k⟩
  by_cases hb : b = a
  · subst hb; exact h.1 b o hm
  · rw [sput_ne hb] at e; exact h.1 b x e
theorem Hd.freezeL {a : Addr} {ds : List D} (h : Hd K r H m T) (hm : m a = some (.lst ds)) : Hd K r H (sdel m a) (Pl T (.ref a) (.lst ds)) := by
  refine ⟨fun b x e => ?_, by rw [sun_del (h.1 a _ hm)]; exact h.2.freezeL (sun_l hm)⟩
  by_cases hb : b = a
  · subst hb; unfold sdel at e; rw [if_pos rfl] at e; cases e
  · rw [sdel_ne hb] at e; exact h.1 b x e
theorem Hd.get {a : Addr} {o : O} (h : Hd K r H m T) (hm : m a = some o) : ∃ Hi u, Same Hi H ∧ H a = some u ∧ RepO K Hi u o ∧ Hi a = none := h.2.get (sun_l hm)
theorem Hd.rep {v : V} {d : D} (h : Hd K r H m T) (t : T v d) : Rep K H v d := h.2.rep t
/-- a part of the store goes to the frame, comes back -/
theorem Hd.push {m1 m2 : Sto} (h : Hd K r H (sun m1 m2) T) (d : sdj m1 m2) : Hd K (sun m2 r) H m1 T := by
  refine ⟨fun a o e => ?_, by rw [← sun_assoc]; exact h.2⟩
  rw [sun_r (d a o e)]
  exact h.1 a o (sun_l e)
theorem Hd.pop {m1 m2 : Sto} (h : Hd K (sun m2 r) H m1 T) (d : sdj m2 r) : sdj m1 m2 ∧ Hd K r H (sun m1 m2) T := by
  have d1 : sdj m1 m2 := fun a o e => by
    have q := h.1 a o e
    cases x : m2 a with
    | none => rfl
    | some u => rw [sun_l x] at q; cases q
  refine ⟨d1, fun a o e => ?_, by rw [sun_assoc]; exact h.2⟩
  cases x : m1 a with
  | none => rw [sun_r x] at e; exact d a o e
  | some u =>
    have q := h.1 a u x
    rw [sun_r (d1 a u x)] at q
    exact q
end

/-! ### the judgements -/
/-- what does not change through a def's body -/
structure Ct where
  P : Program
  w : World
  K : PySem.W.Frag
  mg : Str → Option Value
  base : Heap
  N : List Str
  sc : Scope
  fn : Str → Bool
  k : Nat
  tr : Bool
  cm : Bool
  /-- the error that is in hand, its class -/
  ex : Option (Addr × Addr) := none
structure Fits (C : Ct) (X : Cx) : Prop where
  prog : X.prog = C.P
  w : X.w = C.w
  K : X.K = C.K
  mg : X.mg = C.mg
  base : X.base = C.base
  N : X.N = C.N
  sc : X.env.scope = C.sc
  fn : ∀ x, C.fn x = true → X.fn x = true
  nd : X.N.Nodup
  un : X.A.units + 200 < cLine
  room : C.cm = true → Room C.k X.A
  calm : C.cm = true → X.calm = true
  own : PassesOwn (model X.prog X.w) X.A X.env X.xe
  tr : C.tr = true → X.stack = X.env :: X.outer ∧ X.env.frame = some X.env.locals
  ex : ∀ a D, C.ex = some (a, D) → CallR X (.builtin "isinstance") (rIsE X.K D a)
abbrev Sl := List (Option D)
def SlotsIn (σ : L2.St) (δ : Sl) (T : RT) : Prop := σ.length = δ.length ∧ ∀ (i : Nat) (d : D), δ[i]? = some (some d) → ∃ v : V, σ[i]? = some (some v) ∧ T v d
theorem SlotsIn.le {σ : L2.St} {δ : Sl} {T T' : RT} (h : SlotsIn σ δ T) (k : Le T T') : SlotsIn σ δ T' := ⟨h.1, fun i d e => let ⟨v, a, b⟩ := h.2 i d e; ⟨v, a, k v d b⟩⟩
theorem SlotsIn.set {σ : L2.St} {δ : Sl} {T : RT} {i : Nat} {v : V} {d : D} (h : SlotsIn σ δ T) (t : T v d) : SlotsIn (σ.set i (some v)) (δ.set i (some d)) T := by
  refine ⟨by rw [List.length_set, List.length_set]; exact h.1, fun j e q => ?_⟩
  by_cases hj : i = j
  · subst hj
    have hi : i < δ.length := by
      have := (List.getElem?_eq_some_iff.mp q).1
      simpa using this
    rw [List.getElem?_set_self hi] at q
    cases q
    exact ⟨v, by rw [List.getElem?_set_self (by rw [h.1]; exact hi)], t⟩
  · rw [List.getElem?_set_ne hj] at q ⊢
    exact h.2 j e q
theorem SlotsIn.unset {σ : L2.St} {δ : Sl} {T : RT} {i : Nat} (h : SlotsIn σ δ T) : SlotsIn (σ.set i none) (δ.set i none) T := by
  refine ⟨by rw [List.length_set, List.length_set]; exact h.1, fun j e q => ?_⟩
  by_cases hj : i = j
  · subst hj
    have hi : i < δ.length := by
      have := (List.getElem?_eq_some_iff.mp q).1
      simpa using this
    rw [List.getElem?_set_self hi] at q
    cases q
  · rw [List.getElem?_set_ne hj] at q ⊢
    exact h.2 j e q

/-- the own dict of an exception -/
def ExcD (H : Hp) (T : RT) (d : Option Addr) (fs : List (Str × D)) : Prop :=
  (d = none ∧ fs = []) ∨ ∃ a vs, fs ≠ [] ∧ d = some a ∧ H a = some (.xd vs) ∧ vs.map (·.1) = fs.map (·.1) ∧ ∀ v x, (v, x) ∈ (vs.map (·.2)).zip (fs.map (·.2)) → T v x
/-- the wish of an exception: its class, its own fields, the slots, the store -/
abbrev DW := Value → List (Str × D) → Sl → Sto → Prop
structure Fr where
  t : RT
  r : Sto
def liftW (K : PySem.W.Frag) (W : DW) (S : Fr) : WX := fun cls d σ H => ∃ δ m T fs, Le S.t T ∧ SlotsIn σ δ T ∧ Hd K S.r H m T ∧ ExcD H T d fs ∧ W cls fs δ m
structure DEn where
  nx : Sl → Sto → Prop
  rt : D → Sto → Prop
  bk : Sl → Sto → Prop := fun _ _ => False
  ct : Sl → Sto → Prop := fun _ _ => False
def lift1 (K : PySem.W.Frag) (S : Fr) (n : Sl → Sto → Prop) : L2.St → Hp → Prop := fun σ H => ∃ δ m T, Le S.t T ∧ SlotsIn σ δ T ∧ Hd K S.r H m T ∧ n δ m
def liftR (K : PySem.W.Frag) (S : Fr) (r : D → Sto → Prop) : VK := fun v H => ∃ d m, Hd K S.r H m (Pl S.t v d) ∧ r d m
def liftD (K : PySem.W.Frag) (S : Fr) (D : DEn) : Ends := { nx := lift1 K S D.nx, rt := liftR K S D.rt, bk := lift1 K S D.bk, ct := lift1 K S D.ct }

def DE (C : Ct) (W : DW) (e : Expr) (δ : Sl) (m : Sto) (Q : D → Sto → Prop) : Prop :=
  ∀ (X : Cx) (S : Fr), Fits C X → Takes X (liftW C.K W S) → ∀ (σ : L2.St) (H : Hp) (T : RT), Le S.t T → SlotsIn σ δ T → Hd C.K S.r H m T → WE X e σ H fun v H' => ∃ d m', Hd C.K S.r H' m' (Pl T v d) ∧ Q d m'
def DT (C : Ct) (W : DW) (e : Expr) (δ : Sl) (m : Sto) (Q : Bool → Sto → Prop) : Prop :=
  ∀ (X : Cx) (S : Fr), Fits C X → Takes X (liftW C.K W S) → ∀ (σ : L2.St) (H : Hp) (T : RT), Le S.t T → SlotsIn σ δ T → Hd C.K S.r H m T → WT X e σ H fun b H' => ∃ m', Hd C.K S.r H' m' T ∧ Q b m'
def DA (C : Ct) (W : DW) (es : List Expr) (δ : Sl) (m : Sto) (Q : List D → Sto → Prop) : Prop :=
  ∀ (X : Cx) (S : Fr), Fits C X → Takes X (liftW C.K W S) → ∀ (σ : L2.St) (H : Hp) (T : RT), Le S.t T → SlotsIn σ δ T → Hd C.K S.r H m T → WA X es σ H fun vs H' => ∃ ds m', vs.length = ds.length ∧ Hd C.K S.r H' m' (PlL T vs ds) ∧ Q ds m'
def DS (C : Ct) (W : DW) (st : Stmt) (δ : Sl) (m : Sto) (D : DEn) : Prop :=
  ∀ (X : Cx) (S : Fr), Fits C X → Takes X (liftW C.K W S) → ∀ (σ : L2.St) (H : Hp) (T : RT), Le S.t T → SlotsIn σ δ T → Hd C.K S.r H m T → WS X st (liftD C.K S D) σ H
def DSs (C : Ct) (W : DW) (sts : List Stmt) (δ : Sl) (m : Sto) (D : DEn) : Prop :=
  ∀ (X : Cx) (S : Fr), Fits C X → Takes X (liftW C.K W S) → ∀ (σ : L2.St) (H : Hp) (T : RT), Le S.t T → SlotsIn σ δ T → Hd C.K S.r H m T → WSs X sts (liftD C.K S D) σ H
/-- a target -/
def DG (C : Ct) (W : DW) (tg : Expr) (d : D) (δ : Sl) (m : Sto) (Q : Sl → Sto → Prop) : Prop :=
  ∀ (X : Cx) (S : Fr), Fits C X → Takes X (liftW C.K W S) → ∀ (v : V) (σ : L2.St) (H : Hp) (T : RT), Le S.t T → SlotsIn σ δ T → T v d → Hd C.K S.r H m T → WG X tg v σ H fun σ' H' => ∃ δ' m' T', Le T T' ∧ SlotsIn σ' δ' T' ∧ Hd C.K S.r H' m' T' ∧ Q δ' m'
end G

/-! The data layer's rules: names, constants, operators, comparisons, tests, displays, subscripts. -/
namespace G
open PySem PySem.Spec PyProof.Rows L2

/-- by values -/
def WB (X : Cx) (f : Value → Value → Sem Value) (x y : V) (H : Hp) (Q : VK) : Prop := ∀ (pins : List (Addr × Obj)) (s : Shared) (σ : L2.St) (v u : Value), Inv X pins σ H s → RelV x v → RelV y u → wpAny (model X.prog X.w) X.A (f v u) (EP X pins σ Q) X.xe s
theorem wb_of {X : Cx} {f : Value → Value → Sem Value} {r : R2} {x y : V} {H : Hp} {Q : VK} (h : OpR X f r) (q : r x y H Q) : WB X f x y H Q := fun pins s σ v u I a b => h pins s σ H x y v u Q I a b q
/-- what is wanted of a value, as data -/
def dK (K : PySem.W.Frag) (r : Sto) (T : RT) (Q : D → Sto → Prop) : VK := fun v H' => ∃ d m', Hd K r H' m' (Pl T v d) ∧ Q d m'
abbrev R2D := D → D → Sto → (D → Sto → Prop) → Prop
def OpD (C : Ct) (f : Value → Value → Sem Value) (r : R2D) : Prop := ∀ (X : Cx), Fits C X → ∀ (fr : Sto) (H : Hp) (m : Sto) (T : RT) (x y : V) (d e : D) (Q : D → Sto → Prop), Hd C.K fr H m T → T x d → T y e → r d e m Q → WB X f x y H (dK C.K fr T Q)

section
variable {K : PySem.W.Frag} {fr : Sto} {H : Hp} {m : Sto} {T : RT}
theorem Hd.again {v : V} {d : D} (h : Hd K fr H m T) (t : T v d) : Hd K fr H m (Pl T v d) := h.le fun x y q => q.elim id fun ⟨a, b⟩ => by rw [a, b]; exact t
theorem dk {Q : D → Sto → Prop} {v : V} {d : D} (h : Hd K fr H m T) (r : ∀ Hi, (∀ v d, T v d → Rep K Hi v d) → Rep K Hi v d) (q : Q d m) : dK K fr T Q v H := ⟨d, m, h.pl r, q⟩
theorem dk_int {Q : D → Sto → Prop} {i : Int} (h : Hd K fr H m T) (q : Q (.int i) m) : dK K fr T Q (.int i) H := dk h (fun _ _ => .int i) q
theorem dk_bl {Q : D → Sto → Prop} {i : Bool} (h : Hd K fr H m T) (q : Q (.bl i) m) : dK K fr T Q (.bl i) H := dk h (fun _ _ => .bl i) q
theorem dk_str {Q : D → Sto → Prop} {i : Str} (h : Hd K fr H m T) (q : Q (.str i) m) : dK K fr T Q (.str i) H := dk h (fun _ _ => .str i) q
theorem dk_non {Q : D → Sto → Prop} (h : Hd K fr H m T) (q : Q .non m) : dK K fr T Q .non H := dk h (fun _ _ => .non) q
/-- a new tuple, a new list of what is known -/
theorem dk_tup {Q : D → Sto → Prop} {p : Addr} {xs : List V} {ds : List D} (h : Hd K fr H m T) (hp : H p = none) (r : ∀ Hi, (∀ v d, T v d → Rep K Hi v d) → RepL K Hi xs ds) (q : Q (.tup ds) m) : dK K fr T Q (.ref p) (upd H p (.tup xs)) :=
  ⟨.tup ds, m, h.newI hp fun Hi hi k => .tup (SqT.of upd_same) ((r Hi k).mono (same_upd hi)), q⟩
theorem dk_lst {Q : D → Sto → Prop} {p : Addr} {xs : List V} {ds : List D} (h : Hd K fr H m T) (hp : H p = none) (r : ∀ Hi, (∀ v d, T v d → Rep K Hi v d) → RepL K Hi xs ds) (q : Q (.lst ds) m) : dK K fr T Q (.ref p) (upd H p (.lst xs)) :=
  ⟨.lst ds, m, h.newI hp fun Hi hi k => .lst upd_same ((r Hi k).mono (same_upd hi)), q⟩
/-- .. as objects -/
theorem dk_lstM {Q : D → Sto → Prop} {p : Addr} {xs : List V} {ds : List D} (h : Hd K fr H m T) (hp : H p = none) (r : ∀ Hi, (∀ v d, T v d → Rep K Hi v d) → RepL K Hi xs ds) (q : ∀ p, m p = none → Q (.ref p) (sput m p (.lst ds))) : dK K fr T Q (.ref p) (upd H p (.lst xs)) :=
  ⟨.ref p, _, h.newM (o := .lst ds) hp fun Hi k => r Hi k, q p (h.free hp)⟩
/-- the same facts, the item known already -/
theorem dk_it {Q : D → Sto → Prop} {v : V} {d : D} (h : Hd K fr H m T) (r : ∀ Hi, (∀ v d, T v d → Rep K Hi v d) → Rep K Hi v d) (q : Q d m) : dK K fr T Q v H := dk h r q
theorem dK.le {T' : RT} {Q : D → Sto → Prop} {v : V} (h : dK K fr T Q v H) (k : Le T' T) : dK K fr T' Q v H := by
  obtain ⟨d, m, a, b⟩ := h
  exact ⟨d, m, a.le (Pl.mono k), b⟩
end

section
variable {C : Ct} {W : DW} {δ : Sl} {m : Sto} {Q : D → Sto → Prop} {a b c e : Expr} {pos : Pos}
theorem DE.mono {Q' : D → Sto → Prop} (h : DE C W e δ m Q) (k : ∀ d m', Q d m' → Q' d m') : DE C W e δ m Q' := fun X S f tk σ H T le sl hd => (h X S f tk σ H T le sl hd).mono fun _ _ ⟨d, m', a, b⟩ => ⟨d, m', a, k _ _ b⟩
theorem DT.mono {Q Q' : Bool → Sto → Prop} (h : DT C W e δ m Q) (k : ∀ d m', Q d m' → Q' d m') : DT C W e δ m Q' := fun X S f tk σ H T le sl hd => (h X S f tk σ H T le sl hd).mono fun _ _ ⟨m', a, b⟩ => ⟨m', a, k _ _ b⟩

/-! ### names, constants -/
theorem de_var (i : Nat) {x : Str} {d : D} (hN : C.N[i]? = some x) (hv : Vis C.sc x) (hd : δ[i]? = some (some d)) (q : Q d m) (hdb : (x == ("__debug__" : Str)) = false := by decide) (hcd : (x == ("__classdict__" : Str)) = false := by decide) : DE C W (.Name x pos) δ m Q := by
  intro X S f tk σ H T le sl hh
  obtain ⟨v, e, t⟩ := sl.2 i d hd
  exact WE.of (pe_var (i := i) (by rw [f.N]; exact hN) (by rw [f.sc]; exact hv) hdb hcd) ⟨v, e, d, m, hh.again t, q⟩
theorem de_int {i : Int} {j : Nat} (q : Q (.int i) m) : DE C W (.Constant (.int i) j pos) δ m Q := fun X S f tk σ H T le sl hh => WE.of pe_int (dk_int hh q)
theorem de_bl {i : Bool} {j : Nat} (q : Q (.bl i) m) : DE C W (.Constant (.bool i) j pos) δ m Q := fun X S f tk σ H T le sl hh => WE.of pe_bl (dk_bl hh q)
theorem de_non {j : Nat} (q : Q .non m) : DE C W (.Constant .none j pos) δ m Q := fun X S f tk σ H T le sl hh => WE.of pe_non (dk_non hh q)
theorem de_str {i : Str} {j : Nat} (q : Q (.str i) m) : DE C W (.Constant (.str i) j pos) δ m Q := fun X S f tk σ H T le sl hh => WE.of pe_str (dk_str hh q)
/-- a module's name -/
def GlC (C : Ct) (x : Str) : Prop := C.sc.names.lookup x = some .globalImplicit
theorem Fits.gl {X : Cx} {x : Str} (f : Fits C X) (h : GlC C x) : Gl X x := by
  show X.env.scope.names.lookup x = some .globalImplicit
  rw [f.sc]
  exact h
/-- data that stands in the written part, whatever the heap -/
def KRep (K : PySem.W.Frag) (v : V) (d : D) : Prop := ∀ H, Rep K H v d
theorem de_glob {x : Str} {v : V} {u : Value} {d : D} (hg : GlC C x) (hm : C.mg x = some u) (r : RelV v u) (k : KRep C.K v d) (q : Q d m) (hdb : (x == ("__debug__" : Str)) = false := by decide) : DE C W (.Name x pos) δ m Q :=
  fun X S f tk σ H T le sl hh => WE.of (pe_glob (f.gl hg) (by rw [f.mg]; exact hm) r hdb) (dk hh (fun Hi _ => k Hi) q)
/-- a built-in class as a value -/
theorem de_bty {x : Str} {n : String} (hg : GlC C x) (hm : C.mg x = none) (hv : bootBuiltins x = some (.type n)) (q : Q (.ty n) m) (hn : x ≠ "__name__" := by decide) (hdb : (x == ("__debug__" : Str)) = false := by decide) : DE C W (.Name x pos) δ m Q :=
  fun X S f tk σ H T le sl hh => WE.of (pe_bltn (v := .ty n) (f.gl hg) (by rw [f.mg]; exact hm) hv rfl hn hdb) (dk hh (fun Hi _ => .ty n) q)

/-! ### two values -/
theorem two {X : Cx} {S : Fr} (f : Fits C X) (tk : Takes X (liftW C.K W S)) {σ : L2.St} {H : Hp} {T : RT} (le : Le S.t T) (sl : SlotsIn σ δ T) (hh : Hd C.K S.r H m T)
    {R : D → D → Sto → Prop} (h : DE C W a δ m fun x m1 => DE C W b δ m1 fun y m2 => R x y m2) {pins : List (Addr × Obj)} {s : Shared} (I : Inv X pins σ H s) {Q : Value → Shared → Prop} {g : Value → Value → Sem Value}
    (hf : ∀ v u s2 x y H2 d e m2 T2, Inv X pins σ H2 s2 → RelV x v → RelV y u → Hd C.K S.r H2 m2 T2 → T2 x d → T2 y e → Le T T2 → R d e m2 → wpAny (model X.prog X.w) X.A (g v u) Q X.xe s2) :
    wpAny (model X.prog X.w) X.A (eval a X.env) (fun v s₁ => wpAny (model X.prog X.w) X.A (eval b X.env) (fun u s₂ => wpAny (model X.prog X.w) X.A (g v u) Q X.xe s₂) X.xe s₁) X.xe s := by
  refine thn (h X S f tk σ H T le sl hh pins s I) fun v s1 ⟨x, H1, I1, r1, d, m1, h1, q1⟩ => ?_
  refine thn (q1 X S f tk σ H1 (Pl T x d) (le.trans Pl.le) (sl.le Pl.le) h1 pins s1 I1) fun u s2 ⟨y, H2, I2, r2, e, m2, h2, q2⟩ => ?_
  exact hf v u s2 x y H2 d e m2 _ I2 r1 r2 h2 (.inl Pl.it) Pl.it (Pl.le.trans Pl.le) q2
theorem de_bin {op : Operator} {r : R2D} (ho : OpD C (binaryOp op) r) (h : DE C W a δ m fun x m1 => DE C W b δ m1 fun y m2 => r x y m2 Q) : DE C W (.BinOp a op b pos) δ m Q := by
  intro X S f tk σ H T le sl hh pins s I
  refine wpAny_BinOp (two f tk le sl hh h I fun v u s2 x y H2 d e m2 T2 I2 rx ry h2 tx ty l2 q => ?_)
  refine thn (ho X f S.r H2 m2 T2 x y d e Q h2 tx ty q pins s2 σ v u I2 rx ry) fun w s3 ⟨z, H3, I3, r3, q3⟩ => ⟨z, H3, I3, r3, ?_⟩
  exact dK.le q3 l2
theorem de_cmp {op : CmpOp} {r : R2D} (ho : OpD C (compareOp op) r) (h : DE C W a δ m fun x m1 => DE C W b δ m1 fun y m2 => r x y m2 Q) (hm : behindInMarks op b = false := by with_unfolding_all rfl) : DE C W (.Compare a [op] [b] pos) δ m Q := by
  intro X S f tk σ H T le sl hh pins s I
  refine wpAny_Compare1 (two f tk le sl hh h I fun v u s2 x y H2 d e m2 T2 I2 rx ry h2 tx ty l2 q => ?_) hm
  refine thn (ho X f S.r H2 m2 T2 x y d e Q h2 tx ty q pins s2 σ v u I2 rx ry) fun w s3 ⟨z, H3, I3, r3, q3⟩ => ⟨z, H3, I3, r3, ?_⟩
  exact dK.le q3 l2
/-- what a test wants of a bool -/
def tB (Q : Bool → Sto → Prop) : D → Sto → Prop := fun d m => ∃ k, d = .bl k ∧ Q k m
theorem tb {Q : Bool → Sto → Prop} {k : Bool} (q : Q k m) : tB Q (.bl k) m := ⟨k, rfl, q⟩
theorem Hd.isbl {K : PySem.W.Frag} {fr : Sto} {H : Hp} {m : Sto} {T : RT} {v : V} {k : Bool} (h : Hd K fr H m (Pl T v (.bl k))) : v = .bl k := by
  have r := h.rep Pl.it
  cases r
  rfl
theorem dt_cmp {Q : Bool → Sto → Prop} {op : CmpOp} {r : R2D} (ho : OpD C (compareOp op) r) (h : DE C W a δ m fun x m1 => DE C W b δ m1 fun y m2 => r x y m2 (tB Q)) (hm : behindInMarks op b = false := by with_unfolding_all rfl) : DT C W (.Compare a [op] [b] pos) δ m Q := by
  intro X S f tk σ H T le sl hh pins s I
  refine wpAny_isTrue_Compare1 ?_ hm
  refine thn (h X S f tk σ H T le sl hh pins s I) fun v s1 ⟨x, H1, I1, r1, d, m1, h1, q1⟩ => ?_
  refine thn (q1 X S f tk σ H1 (Pl T x d) (le.trans Pl.le) (sl.le Pl.le) h1 pins s1 I1) fun u s2 ⟨y, H2, I2, r2, e, m2, h2, q2⟩ => ?_
  refine thn (ho X f S.r H2 m2 _ x y d e _ h2 (.inl Pl.it) Pl.it q2 pins s2 σ v u I2 r1 r2) fun w s3 ⟨z, H3, I3, r3, d3, m3, h3, k, e3, q3⟩ => ?_
  subst e3
  have ez := h3.isbl
  subst ez
  cases r3
  exact wpAny_truthy_bool ⟨H3, I3, m3, h3.le ((Pl.le.trans Pl.le).trans Pl.le), q3⟩
/-- an expression that gives a bool, as a test -/
theorem dt_val {Q : Bool → Sto → Prop} (h : DE C W e δ m (tB Q)) (he : ∀ env whole, isTrue e env whole = (do let v ← whole; standAt e.pos; holding [v] (truthy v)) := by intro _ _; rfl) : DT C W e δ m Q := by
  intro X S f tk σ H T le sl hh pins s I
  refine isTrue_plain (thn (h X S f tk σ H T le sl hh pins s I) fun v s1 ⟨x, H1, I1, r1, d, m1, h1, k, e1, q1⟩ => ?_) (he _ _)
  subst e1
  have ez := h1.isbl
  subst ez
  cases r1
  exact wpAny_truthy_bool ⟨H1, I1, m1, h1.le Pl.le, q1⟩
/-- the truth of any data -/
def truD : D → Sto → (Bool → Sto → Prop) → Prop
  | .non, m, Q => Q false m
  | .bl b, m, Q => Q b m
  | .int i, m, Q => Q (i != 0) m
  | .str s, m, Q => s.length ≤ sizeLine ∧ Q ((s.length : Int) != 0) m
  | .tup l, m, Q => Q (!l.isEmpty) m
  | .lst l, m, Q => Q (!l.isEmpty) m
  | _, _, _ => False
theorem RepL.empty {K : PySem.W.Frag} {H : Hp} {vs : List V} {ds : List D} (r : RepL K H vs ds) : vs.isEmpty = ds.isEmpty := by cases r <;> rfl
theorem dt_truth {Q : Bool → Sto → Prop} (h : DE C W e δ m fun d m' => truD d m' Q) (he : ∀ env whole, isTrue e env whole = (do let v ← whole; standAt e.pos; holding [v] (truthy v)) := by intro _ _; rfl) : DT C W e δ m Q := by
  intro X S f tk σ H T le sl hh pins s I
  refine isTrue_plain (thn (h X S f tk σ H T le sl hh pins s I) fun v s1 ⟨x, H1, I1, r1, d, m1, h1, q1⟩ => ?_) (he _ _)
  have fin : ∀ k, TruV X.K x H1 k → Q k m1 → wpAny (model X.prog X.w) X.A (truthy v) (TP X pins σ fun b H' => ∃ m', Hd C.K S.r H' m' T ∧ Q b m') X.xe s1 := fun k t q => tru_ok pins s1 σ H1 x v _ I1 r1 ⟨k, t, m1, h1.le Pl.le, q⟩
  have rp := h1.rep Pl.it
  cases rp with
  | non => exact fin _ rfl q1
  | bl b => exact fin _ rfl q1
  | int b => exact fin _ rfl q1
  | str b => exact fin _ ⟨q1.1, rfl⟩ q1.2
  | tup h r => exact fin _ (.inr (.inl ⟨_, by rw [f.K]; exact h, by rw [r.empty]⟩)) q1
  | lst h r => exact fin _ (.inl ⟨_, SqL.of h, by rw [r.empty]⟩) q1
  | _ => exact False.elim q1

/-! ### and, or, not -/
def WW (X : Cx) (e : Expr) : TT := fun σ H Q => ∀ (whole : Sem Value) (pins : List (Addr × Obj)) (s : Shared), Inv X pins σ H s → wpAny (model X.prog X.w) X.A (isTrue e X.env whole) (TP X pins σ Q) X.xe s
theorem ww {X : Cx} : PW X e (WW X e) := ⟨fun whole pins s _ _ _ I h => h whole pins s I⟩
def DW' (C : Ct) (W : DW) (e : Expr) (δ : Sl) (m : Sto) (Q : Bool → Sto → Prop) : Prop :=
  ∀ (X : Cx) (S : Fr), Fits C X → Takes X (liftW C.K W S) → ∀ (σ : L2.St) (H : Hp) (T : RT), Le S.t T → SlotsIn σ δ T → Hd C.K S.r H m T → WW X e σ H fun b H' => ∃ m', Hd C.K S.r H' m' T ∧ Q b m'
theorem dt_W {Q : Bool → Sto → Prop} (h : DW' C W e δ m Q) : DT C W e δ m Q := fun X S f tk σ H T le sl hh pins s I => h X S f tk σ H T le sl hh _ pins s I
/-- the ways of a test -/
def br (b : Bool) (A B : Prop) : Prop := (b = true → A) ∧ (b = false → B)
theorem br.t {A B : Prop} (h : A) : br true A B := ⟨fun _ => h, fun e => nomatch e⟩
theorem br.f {A B : Prop} (h : B) : br false A B := ⟨(fun e => nomatch e), fun _ => h⟩
theorem br.dec {p : Prop} [Decidable p] {A B : Prop} (h : p → A) (k : ¬ p → B) : br (decide p) A B := ⟨fun e => h (of_decide_eq_true e), fun e => k (of_decide_eq_false e)⟩
theorem br.ndec {p : Prop} [Decidable p] {A B : Prop} (h : ¬ p → A) (k : p → B) : br (!decide p) A B := ⟨fun e => h (of_decide_eq_false (by simpa using e)), fun e => k (of_decide_eq_true (by simpa using e))⟩
theorem br.any {b : Bool} {A B : Prop} (h : b = true → A) (k : b = false → B) : br b A B := ⟨h, k⟩
theorem br.and {b c : Bool} {A B : Prop} (h : br b (br c A B) B) : br (b && c) A B := by
  cases b with
  | true => exact h.1 rfl
  | false => exact br.f (h.2 rfl)
theorem br.or {b c : Bool} {A B : Prop} (h : br b A (br c A B)) : br (b || c) A B := by
  cases b with
  | true => exact br.t (h.1 rfl)
  | false => exact h.2 rfl
theorem br.not {b : Bool} {A B : Prop} (h : br b B A) : br (!b) A B := by
  cases b with
  | true => exact br.f (h.1 rfl)
  | false => exact br.t (h.2 rfl)
variable {rest : List Expr} {B : Bool → Sto → Prop}
theorem dw_one_and (h : DT C W a δ m B) : DW' C W (.BoolOp .And [a] pos) δ m B := fun X S f tk σ H T le sl hh whole pins s I => (pw_and1 (pos := pos) wt).run whole pins s σ H _ I (h X S f tk σ H T le sl hh)
theorem dw_one_or (h : DT C W a δ m B) : DW' C W (.BoolOp .Or [a] pos) δ m B := fun X S f tk σ H T le sl hh whole pins s I => (pw_or1 (pos := pos) wt).run whole pins s σ H _ I (h X S f tk σ H T le sl hh)
theorem dw_and (h : DT C W a δ m fun k m1 => br k (DW' C W (.BoolOp .And (b :: rest) pos) δ m1 B) (B false m1)) : DW' C W (.BoolOp .And (a :: b :: rest) pos) δ m B := by
  intro X S f tk σ H T le sl hh whole pins s I
  refine isTrue_and (thn (h X S f tk σ H T le sl hh pins s I) fun k s1 ⟨H1, I1, m1, h1, q1⟩ => ?_)
  cases k with
  | true => exact q1.1 rfl X S f tk σ H1 T le sl h1 whole pins s1 I1
  | false => exact ⟨H1, I1, m1, h1, q1.2 rfl⟩
theorem dw_or (h : DT C W a δ m fun k m1 => br k (B true m1) (DW' C W (.BoolOp .Or (b :: rest) pos) δ m1 B)) : DW' C W (.BoolOp .Or (a :: b :: rest) pos) δ m B := by
  intro X S f tk σ H T le sl hh whole pins s I
  refine isTrue_or (thn (h X S f tk σ H T le sl hh pins s I) fun k s1 ⟨H1, I1, m1, h1, q1⟩ => ?_)
  cases k with
  | true => exact ⟨H1, I1, m1, h1, q1.1 rfl⟩
  | false => exact q1.2 rfl X S f tk σ H1 T le sl h1 whole pins s1 I1
theorem dt_not (h : DT C W a δ m fun k m1 => B (!k) m1) : DT C W (.UnaryOp .Not a pos) δ m B := fun X S f tk σ H T le sl hh => WT.of (pt_not wt) (h X S f tk σ H T le sl hh)
/-- .. where the parts change nothing: one way -/
def PT (C : Ct) (e : Expr) (δ : Sl) (m : Sto) (k : Bool) : Prop := ∀ (W : DW) (B : Bool → Sto → Prop), B k m → DT C W e δ m B
def PWp (C : Ct) (e : Expr) (δ : Sl) (m : Sto) (k : Bool) : Prop := ∀ (W : DW) (B : Bool → Sto → Prop), B k m → DW' C W e δ m B
theorem pw_one_and {k : Bool} (h : PT C a δ m k) : PWp C (.BoolOp .And [a] pos) δ m k := fun W B q => dw_one_and (h W B q)
theorem pw_one_or {k : Bool} (h : PT C a δ m k) : PWp C (.BoolOp .Or [a] pos) δ m k := fun W B q => dw_one_or (h W B q)
theorem pw_and' {k l : Bool} (h : PT C a δ m k) (h2 : k = true → PWp C (.BoolOp .And (b :: rest) pos) δ m l) : PWp C (.BoolOp .And (a :: b :: rest) pos) δ m (k && l) := fun W B q => dw_and (h W _ ⟨fun e => by subst e; exact h2 rfl W B q, fun e => by subst e; exact q⟩)
theorem pw_or' {k l : Bool} (h : PT C a δ m k) (h2 : k = false → PWp C (.BoolOp .Or (b :: rest) pos) δ m l) : PWp C (.BoolOp .Or (a :: b :: rest) pos) δ m (k || l) := fun W B q => dw_or (h W _ ⟨fun e => by subst e; exact q, fun e => by subst e; exact h2 rfl W B q⟩)
theorem dt_pw {k : Bool} (h : PWp C e δ m k) (q : B k m) : DT C W e δ m B := dt_W (h W B q)
/-- as values -/
theorem de_one {op : BoolOp} (h : DE C W a δ m Q) : DE C W (.BoolOp op [a] pos) δ m Q := fun X S f tk σ H T le sl hh => WE.of (pe_one we) (h X S f tk σ H T le sl hh)
theorem de_and (h : DE C W a δ m (tB fun k m1 => br k (DE C W (.BoolOp .And (b :: rest) pos) δ m1 Q) (Q (.bl false) m1))) : DE C W (.BoolOp .And (a :: b :: rest) pos) δ m Q := by
  intro X S f tk σ H T le sl hh
  refine WE.of (pe_and we we) ?_
  refine (h X S f tk σ H T le sl hh).mono fun v H1 ⟨d, m1, h1, k, e, q⟩ => ?_
  subst e
  refine ⟨k, h1.isbl, ?_⟩
  cases k with
  | true => exact q.1 rfl X S f tk σ H1 T le sl (h1.le Pl.le)
  | false => exact dk_bl (h1.le Pl.le) (q.2 rfl)
theorem de_or (h : DE C W a δ m (tB fun k m1 => br k (Q (.bl true) m1) (DE C W (.BoolOp .Or (b :: rest) pos) δ m1 Q))) : DE C W (.BoolOp .Or (a :: b :: rest) pos) δ m Q := by
  intro X S f tk σ H T le sl hh
  refine WE.of (pe_or we we) ?_
  refine (h X S f tk σ H T le sl hh).mono fun v H1 ⟨d, m1, h1, k, e, q⟩ => ?_
  subst e
  refine ⟨k, h1.isbl, ?_⟩
  cases k with
  | false => exact q.2 rfl X S f tk σ H1 T le sl (h1.le Pl.le)
  | true => exact dk_bl (h1.le Pl.le) (q.1 rfl)
theorem de_not (h : DE C W a δ m (tB fun k m1 => Q (.bl (!k)) m1)) : DE C W (.UnaryOp .Not a pos) δ m Q := by
  intro X S f tk σ H T le sl hh
  refine WE.of (pe_not we) ((h X S f tk σ H T le sl hh).mono fun v H1 ⟨d, m1, h1, k, e, q⟩ => ?_)
  subst e
  exact ⟨k, h1.isbl, dk_bl (h1.le Pl.le) q⟩
/-- .. one way -/
def PE' (C : Ct) (e : Expr) (δ : Sl) (m : Sto) (d : D) : Prop := ∀ (W : DW) (Q : D → Sto → Prop), Q d m → DE C W e δ m Q
theorem pe_and' {k l : Bool} (h : PE' C a δ m (.bl k)) (h2 : k = true → PE' C (.BoolOp .And (b :: rest) pos) δ m (.bl l)) : PE' C (.BoolOp .And (a :: b :: rest) pos) δ m (.bl (k && l)) :=
  fun W Q q => de_and (h W _ (tb ⟨fun e => by subst e; exact h2 rfl W Q q, fun e => by subst e; exact q⟩))
theorem pe_or' {k l : Bool} (h : PE' C a δ m (.bl k)) (h2 : k = false → PE' C (.BoolOp .Or (b :: rest) pos) δ m (.bl l)) : PE' C (.BoolOp .Or (a :: b :: rest) pos) δ m (.bl (k || l)) :=
  fun W Q q => de_or (h W _ (tb ⟨fun e => by subst e; exact q, fun e => by subst e; exact h2 rfl W Q q⟩))
theorem pe_one' {op : BoolOp} {d : D} (h : PE' C a δ m d) : PE' C (.BoolOp op [a] pos) δ m d := fun W Q q => de_one (h W Q q)
theorem de_pe {d : D} (h : PE' C e δ m d) (q : Q d m) : DE C W e δ m Q := h W Q q
theorem de_if (h : DT C W c δ m fun k m1 => br k (DE C W a δ m1 Q) (DE C W b δ m1 Q)) : DE C W (.IfExp c a b pos) δ m Q := by
  intro X S f tk σ H T le sl hh
  refine WE.of (pe_ifExp wt we we) ((h X S f tk σ H T le sl hh).mono fun k H1 ⟨m1, h1, q⟩ => ?_)
  cases k with
  | true => exact q.1 rfl X S f tk σ H1 T le sl h1
  | false => exact q.2 rfl X S f tk σ H1 T le sl h1
/-- a op b op' c -/
theorem de_chain {op op' : CmpOp} {r r' : R2D} (ho : OpD C (compareOp op) r) (ho' : OpD C (compareOp op') r') (h : DE C W a δ m fun x m1 => DE C W b δ m1 fun y m2 => r x y m2 (tB fun k m3 => br k (DE C W c δ m3 fun z m4 => r' y z m4 Q) (Q (.bl false) m3)))
    (hm : lastMarks [op, op'] [b, c] = false := by with_unfolding_all rfl) : DE C W (.Compare a [op, op'] [b, c] pos) δ m Q := by
  intro X S f tk σ H T le sl hh pins s I
  refine Compare_chain (thn (h X S f tk σ H T le sl hh pins s I) fun v s1 ⟨x, H1, I1, r1, d, m1, h1, q1⟩ => chain_link (thn (q1 X S f tk σ H1 (Pl T x d) (le.trans Pl.le) (sl.le Pl.le) h1 pins s1 I1) fun u s2 ⟨y, H2, I2, r2, e, m2, h2, q2⟩ =>
    thn (ho X f S.r H2 m2 _ x y d e _ h2 (.inl Pl.it) Pl.it q2 pins s2 σ v u I2 r1 r2) fun w s3 ⟨z, H3, I3, r3, d3, m3, h3, k, e3, q3⟩ => ?_)) hm
  subst e3
  have ez := h3.isbl
  subst ez
  cases r3
  refine wpAny_truthy_bool ?_
  cases k with
  | false => exact ite_ff ⟨.bl false, H3, I3, rfl, dk_bl (h3.le ((Pl.le.trans Pl.le).trans Pl.le)) (q3.2 rfl)⟩
  | true =>
    refine ite_tt (chain_last (thn (q3.1 rfl X S f tk σ H3 (Pl (Pl T x d) y e) (le.trans (Pl.le.trans Pl.le)) (sl.le (Pl.le.trans Pl.le)) (h3.le Pl.le) pins s3 I3) fun w' s4 ⟨z', H4, I4, r4, d4, m4, h4, q4⟩ => ?_))
    refine thn (ho' X f S.r H4 m4 _ y z' e d4 _ h4 (.inl Pl.it) Pl.it q4 pins s4 σ u w' I4 r2 r4) fun w5 s5 ⟨z5, H5, I5, r5, q5⟩ => ⟨z5, H5, I5, r5, q5.le ((Pl.le.trans Pl.le).trans Pl.le)⟩
theorem dt_chain {op op' : CmpOp} {r r' : R2D} (ho : OpD C (compareOp op) r) (ho' : OpD C (compareOp op') r') (h : DE C W a δ m fun x m1 => DE C W b δ m1 fun y m2 => r x y m2 (tB fun k m3 => br k (DE C W c δ m3 fun z m4 => r' y z m4 (tB B)) (B false m3)))
    (hm : lastMarks [op, op'] [b, c] = false := by with_unfolding_all rfl) : DT C W (.Compare a [op, op'] [b, c] pos) δ m B := by
  intro X S f tk σ H T le sl hh pins s I
  refine isTrue_chain (thn (h X S f tk σ H T le sl hh pins s I) fun v s1 ⟨x, H1, I1, r1, d, m1, h1, q1⟩ => test_link (thn (q1 X S f tk σ H1 (Pl T x d) (le.trans Pl.le) (sl.le Pl.le) h1 pins s1 I1) fun u s2 ⟨y, H2, I2, r2, e, m2, h2, q2⟩ =>
    thn (ho X f S.r H2 m2 _ x y d e _ h2 (.inl Pl.it) Pl.it q2 pins s2 σ v u I2 r1 r2) fun w s3 ⟨z, H3, I3, r3, d3, m3, h3, k, e3, q3⟩ => ?_)) hm
  subst e3
  have ez := h3.isbl
  subst ez
  cases r3
  refine wpAny_truthy_bool ?_
  cases k with
  | false => exact ite_ff ⟨H3, I3, m3, h3.le ((Pl.le.trans Pl.le).trans Pl.le), q3.2 rfl⟩
  | true =>
    refine ite_tt (test_last (thn (q3.1 rfl X S f tk σ H3 (Pl (Pl T x d) y e) (le.trans (Pl.le.trans Pl.le)) (sl.le (Pl.le.trans Pl.le)) (h3.le Pl.le) pins s3 I3) fun w' s4 ⟨z', H4, I4, r4, d4, m4, h4, q4⟩ => ?_))
    refine thn (ho' X f S.r H4 m4 _ y z' e d4 _ h4 (.inl Pl.it) Pl.it q4 pins s4 σ u w' I4 r2 r4) fun w5 s5 ⟨z5, H5, I5, r5, d5, m5, h5, k5, e5, q5⟩ => ?_
    subst e5
    have ez := h5.isbl
    subst ez
    cases r5
    exact wpAny_truthy_bool ⟨H5, I5, m5, h5.le (((Pl.le.trans Pl.le).trans Pl.le).trans Pl.le), q5⟩
end
end G

/-! The data layer's rules: operators by data; displays, subscripts, slices; built-ins by name. -/
namespace G
open PySem PySem.Spec PyProof.Rows L2

section
variable {K : PySem.W.Frag} {fr : Sto} {H : Hp} {m : Sto} {T : RT}
theorem RepL.mem_zip : ∀ {vs : List V} {ds : List D} {v : V} {d : D}, RepL K H vs ds → (v, d) ∈ vs.zip ds → Rep K H v d
  | _, _, _, _, .nil, h => by simp at h
  | _, _, _, _, .cons r t, h => by
    rw [List.zip_cons_cons] at h
    rcases List.mem_cons.mp h with e | h
    · cases e; exact r
    · exact t.mem_zip h
theorem Hd.tupl {a : Addr} {ds : List D} (h : Hd K fr H m T) (t : T (.ref a) (.tup ds)) : ∃ xs, SqT K H a xs ∧ (∀ Hi, Same Hi H → True) ∧ RepL K H xs ds := by
  have r := h.rep t
  cases r with
  | tup q r => exact ⟨_, q, fun _ _ => trivial, r⟩
/-- the items of known data, as facts that stay -/
theorem Hd.items {v : V} {ds : List D} (h : Hd K fr H m T) (t : T v (.tup ds)) : ∃ a xs, v = .ref a ∧ SqT K H a xs ∧ xs.length = ds.length ∧ Hd K fr H m (PlL T xs ds) := by
  obtain ⟨h0, Hi, h1, h2, h3⟩ := h
  have r := h3 _ _ t
  cases r with
  | tup q r =>
    refine ⟨_, _, rfl, sqt_mono h1 q, r.length, h0, Hi, h1, h2, fun v d x => x.elim (h3 v d) fun hm => ?_⟩
    exact r.mem_zip hm
theorem Hd.itemsL {v : V} {ds : List D} (h : Hd K fr H m T) (t : T v (.lst ds)) : ∃ a xs, v = .ref a ∧ H a = some (.lst xs) ∧ xs.length = ds.length ∧ Hd K fr H m (PlL T xs ds) := by
  obtain ⟨h0, Hi, h1, h2, h3⟩ := h
  have r := h3 _ _ t
  cases r with
  | lst q r =>
    refine ⟨_, _, rfl, h1 _ _ q, r.length, h0, Hi, h1, h2, fun v d x => x.elim (h3 v d) fun hm => ?_⟩
    exact r.mem_zip hm
theorem Hd.itemsF {v : V} {ds : List D} (h : Hd K fr H m T) (t : T v (.frz ds)) : ∃ a xs, v = .ref a ∧ SqL K H a xs ∧ xs.length = ds.length ∧ Hd K fr H m (PlL T xs ds) := by
  obtain ⟨h0, Hi, h1, h2, h3⟩ := h
  have r := h3 _ _ t
  cases r with
  | frz q r =>
    refine ⟨_, _, rfl, h1.seq q, r.length, h0, Hi, h1, h2, fun v d x => x.elim (h3 v d) fun hm => ?_⟩
    exact r.mem_zip hm
/-- the items of an object of the store -/
theorem Hd.itemsO {a : Addr} {ds : List D} (h : Hd K fr H m T) (t : m a = some (.lst ds)) : ∃ xs, H a = some (.lst xs) ∧ xs.length = ds.length ∧ Hd K fr H m (PlL T xs ds) := by
  obtain ⟨h0, Hi, h1, h2, h3⟩ := h
  obtain ⟨q0, u, q, r⟩ := h2 _ _ (sun_l t)
  cases u with
  | lst xs =>
    refine ⟨xs, q, RepL.length r, h0, Hi, h1, h2, fun v d x => x.elim (h3 v d) fun hm => ?_⟩
    exact RepL.mem_zip r hm
  | _ => exact False.elim r
theorem PlL.rep {vs : List V} {ds : List D} (hl : vs.length = ds.length) {Hi : Hp} (k : ∀ v d, PlL T vs ds v d → Rep K Hi v d) : RepL K Hi vs ds := RepL.of_zip hl fun v d q => k v d (.inr q)
theorem PlL.at {vs : List V} {ds : List D} {i : Nat} {v : V} {d : D} (h1 : vs[i]? = some v) (h2 : ds[i]? = some d) : PlL T vs ds v d := by
  refine .inr (List.mem_iff_getElem?.mpr ⟨i, ?_⟩)
  rw [List.getElem?_zip_eq_some]
  exact ⟨h1, h2⟩
theorem PlL.one {v : V} {d : D} : Le (PlL T [v] [d]) (Pl T v d) := fun x y q => q.elim .inl fun z => by
  simp only [List.zip_cons_cons, List.zip_nil_left, List.mem_singleton, Prod.mk.injEq] at z
  exact .inr z
end

theorem sz_le {n : Nat} (h : n ≤ 100000) : n ≤ sizeLine := Nat.le_trans h (by decide)
theorem sz_lt {n : Nat} (h : n < 100000) : n < sizeLine := Nat.lt_of_lt_of_le h (by decide)
theorem sz_lit {n : Nat} (h : Nat.ble n 1000 = true) : n ≤ sizeLine := sz_le (Nat.le_trans (Nat.le_of_ble_eq_true h) (by decide))

/-! ### operators -/
def addD : R2D
  | .int i, .int j, m, Q => Q (.int (i + j)) m
  | .str a, .str b, m, Q => a.length + b.length ≤ sizeLine ∧ Q (.str (a ++ b)) m
  | .tup xs, .tup ys, m, Q => xs.length + ys.length ≤ sizeLine ∧ Q (.tup (xs ++ ys)) m
  | .lst xs, .lst ys, m, Q => xs.length + ys.length ≤ sizeLine ∧ Q (.lst (xs ++ ys)) m
  | .int i, .bl k, m, Q => Q (.int (i + b2i k)) m
  | _, _, _, _ => False
def subD : R2D
  | .int i, .int j, m, Q => Q (.int (i - j)) m
  | _, _, _, _ => False
def mulD : R2D
  | .int i, .int j, m, Q => CMul i j ∧ Q (.int (i * j)) m
  | .lst xs, .int k, m, Q => -(2 ^ 63) ≤ k ∧ k < 2 ^ 63 ∧ xs.length * k.toNat ≤ sizeLine ∧ Q (.lst (List.replicate k.toNat xs).flatten) m
  | _, _, _, _ => False
def divD : R2D
  | .int i, .int j, m, Q => CDiv i j ∧ Q (.int (i / j)) m
  | _, _, _, _ => False
def modD : R2D
  | .int i, .int j, m, Q => 0 < j ∧ Q (.int (i % j)) m
  | _, _, _, _ => False
def powD : R2D
  | .int i, .int j, m, Q => CPow i j ∧ Q (.int (i ^ j.toNat)) m
  | _, _, _, _ => False
section
variable {C : Ct}
theorem od_sub : OpD C (binaryOp .Sub) subD := by
  intro X f fr H m T x y d e Q hh tx ty q
  have rx := hh.rep tx
  have ry := hh.rep ty
  cases rx <;> cases ry <;> first
    | exact wb_of op_sub ⟨_, _, rfl, rfl, dk_int hh q⟩
    | exact False.elim q
theorem od_div : OpD C (binaryOp .FloorDiv) divD := by
  intro X f fr H m T x y d e Q hh tx ty q
  have rx := hh.rep tx
  have ry := hh.rep ty
  cases rx <;> cases ry <;> first
    | exact wb_of op_fdiv ⟨_, _, rfl, rfl, q.1, dk_int hh q.2⟩
    | exact False.elim q
theorem od_mod : OpD C (binaryOp .Mod) modD := by
  intro X f fr H m T x y d e Q hh tx ty q
  have rx := hh.rep tx
  have ry := hh.rep ty
  cases rx <;> cases ry <;> first
    | exact wb_of op_mod ⟨_, _, rfl, rfl, q.1, dk_int hh q.2⟩
    | exact False.elim q
theorem od_pow : OpD C (binaryOp .Pow) powD := by
  intro X f fr H m T x y d e Q hh tx ty q
  have rx := hh.rep tx
  have ry := hh.rep ty
  cases rx <;> cases ry <;> first
    | exact wb_of op_pow ⟨_, _, rfl, rfl, q.1, dk_int hh q.2⟩
    | exact False.elim q
theorem od_add : OpD C (binaryOp .Add) addD := by
  intro X f fr H m T x y d e Q hh tx ty q
  cases d <;> cases e <;> first
    | exact False.elim q
    | skip
  · have rx := hh.rep tx; have ry := hh.rep ty; cases rx; cases ry
    exact wb_of op_add_ib ⟨_, _, rfl, rfl, dk_int hh q⟩
  · have rx := hh.rep tx; have ry := hh.rep ty; cases rx; cases ry
    exact wb_of op_add ⟨_, _, rfl, rfl, dk_int hh q⟩
  · have rx := hh.rep tx; have ry := hh.rep ty; cases rx; cases ry
    exact wb_of op_add_str ⟨_, _, rfl, rfl, q.1, dk_str hh q.2⟩
  · rename_i xs ys
    obtain ⟨a, us, rfl, hu, lu, h1⟩ := hh.items tx
    obtain ⟨b, vs, rfl, hv, lv, h2⟩ := h1.items (PlL.le _ _ ty)
    refine wb_of op_catA ⟨a, b, us, vs, rfl, rfl, by rw [f.K]; exact hu, by rw [f.K]; exact hv, by rw [lu, lv]; exact q.1, fun e => ?_, fun _ e => ?_, fun _ _ p hp => ?_⟩
    · have e2 : xs = [] := List.length_eq_zero_iff.mp (by rw [← lu, e]; rfl)
      subst e2
      exact ⟨_, _, hh.again ty, by simpa using q.2⟩
    · have e2 : ys = [] := List.length_eq_zero_iff.mp (by rw [← lv, e]; rfl)
      subst e2
      exact ⟨_, _, hh.again tx, by simpa using q.2⟩
    · refine dK.le (dk_tup h2 hp (fun Hi k => (PlL.rep lu fun v d z => k v d (.inl z)).append (PlL.rep (T := T) lv fun v d z => k v d (z.elim (fun w => .inl (.inl w)) .inr))) q.2) (PlL.le.trans PlL.le)
  · rename_i xs ys
    obtain ⟨a, us, rfl, hu, lu, h1⟩ := hh.itemsL tx
    obtain ⟨b, vs, rfl, hv, lv, h2⟩ := h1.itemsL (PlL.le _ _ ty)
    refine wb_of op_cat ⟨a, b, us, vs, rfl, rfl, hu, hv, by rw [lu, lv]; exact q.1, fun p hp => ?_⟩
    refine dK.le (dk_lst h2 hp (fun Hi k => (PlL.rep lu fun v d z => k v d (.inl z)).append (PlL.rep (T := T) lv fun v d z => k v d (z.elim (fun w => .inl (.inl w)) .inr))) q.2) (PlL.le.trans PlL.le)
theorem RepL.rep {K : PySem.W.Frag} {H : Hp} {vs : List V} {ds : List D} (r : RepL K H vs ds) : ∀ n : Nat, RepL K H (List.replicate n vs).flatten (List.replicate n ds).flatten
  | 0 => .nil
  | n + 1 => by
    rw [List.replicate_succ, List.replicate_succ, List.flatten_cons, List.flatten_cons]
    exact r.append (r.rep n)
theorem od_mul : OpD C (binaryOp .Mult) mulD := by
  intro X f fr H m T x y d e Q hh tx ty q
  cases d <;> cases e <;> first
    | exact False.elim q
    | skip
  · have rx := hh.rep tx; have ry := hh.rep ty; cases rx; cases ry
    exact wb_of op_mul ⟨_, _, rfl, rfl, q.1, dk_int hh q.2⟩
  · rename_i xs k
    obtain ⟨a, us, rfl, hu, lu, h1⟩ := hh.itemsL tx
    have ry := hh.rep ty
    cases ry
    refine wb_of op_rep ⟨a, k, us, rfl, rfl, hu, q.1, q.2.1, by rw [lu]; exact q.2.2.1, fun p hp => ?_⟩
    exact dK.le (dk_lst h1 hp (fun Hi kk => (PlL.rep lu kk).rep _) q.2.2.2) PlL.le

/-! ### comparisons of ints, texts; is None -/
def cmpI (p : Int → Int → Bool) : R2D
  | .int i, .int j, m, Q => Q (.bl (p i j)) m
  | _, _, _, _ => False
theorem od_cI {op : CmpOp} {p : Int → Int → Bool} (h : ∀ X : Cx, OpR X (compareOp op) (rI0 fun i j => .bl (p i j))) : OpD C (compareOp op) (cmpI p) := by
  intro X f fr H m T x y d e Q hh tx ty q
  cases d <;> cases e <;> first
    | exact False.elim q
    | skip
  have rx := hh.rep tx; have ry := hh.rep ty; cases rx; cases ry
  exact wb_of (h X) ⟨_, _, rfl, rfl, dk_bl hh q⟩
theorem od_lt : OpD C (compareOp .Lt) (cmpI fun i j => decide (i < j)) := od_cI fun _ => op_lt
theorem od_le : OpD C (compareOp .LtE) (cmpI fun i j => decide (i ≤ j)) := od_cI fun _ => op_le
theorem od_gt : OpD C (compareOp .Gt) (cmpI fun i j => decide (j < i)) := od_cI fun _ => op_gt
theorem od_ge : OpD C (compareOp .GtE) (cmpI fun i j => decide (j ≤ i)) := od_cI fun _ => op_ge
def isN : D → Bool
  | .non => true
  | _ => false
def isD : R2D := fun d e m Q => e = .non ∧ Q (.bl (isN d)) m
def isntD : R2D := fun d e m Q => e = .non ∧ Q (.bl (!isN d)) m
theorem Rep.isN {K : PySem.W.Frag} {H : Hp} {v : V} {d : D} (r : Rep K H v d) : decide (v = .non) = isN d := by
  cases r <;> first | rfl | exact decide_eq_false (by intro z; cases z)
theorem od_is : OpD C (compareOp .Is) isD := by
  intro X f fr H m T x y d e Q hh tx ty q
  obtain ⟨rfl, q⟩ := q
  have rx := hh.rep tx
  have ry := hh.rep ty
  cases ry
  exact wb_of op_isN ⟨rfl, by rw [rx.isN]; exact dk_bl hh q⟩
theorem od_isnt : OpD C (compareOp .IsNot) isntD := by
  intro X f fr H m T x y d e Q hh tx ty q
  obtain ⟨rfl, q⟩ := q
  have rx := hh.rep tx
  have ry := hh.rep ty
  cases ry
  exact wb_of op_notN ⟨rfl, by rw [rx.isN]; exact dk_bl hh q⟩

/-! ### == of data -/
mutual
/-- a datum as the library's own; what it has no word for is a text that nobody writes -/
def toPy : D → PyData
  | .non => .none
  | .bl b => .bool b
  | .int i => .int i
  | .str s => .str s
  | .tup l => .tuple (toPyL l)
  | .lst l => .list (toPyL l)
  | .frz l => .list (toPyL l)
  | _ => .none
def toPyL : List D → List PyData
  | [] => []
  | d :: l => toPy d :: toPyL l
end
mutual
/-- data that == may look at: n deep at most -/
def okD : Nat → D → Bool
  | _, .non => true
  | _, .bl _ => true
  | _, .int _ => true
  | _, .str s => PyData.strOk s
  | n + 1, .tup l => okDL n l
  | n + 1, .lst l => okDL n l
  | _, _ => false
def okDL : Nat → List D → Bool
  | _, [] => true
  | n, d :: l => okD n d && okDL n l
end
mutual
theorem okD_lay : ∀ (n : Nat) (d : D), okD n d = true → (toPy d).canLay0 = true
  | _, .non, _ => by simp [toPy, PyData.canLay0]
  | _, .bl _, _ => by simp [toPy, PyData.canLay0]
  | _, .int _, _ => by simp [toPy, PyData.canLay0]
  | _, .str s, h => by simpa [toPy, PyData.canLay0, okD] using h
  | n + 1, .tup l, h => by
    have := okDL_lay n l (by simpa [okD] using h)
    simpa [toPy, PyData.canLay0] using this
  | n + 1, .lst l, h => by
    have := okDL_lay n l (by simpa [okD] using h)
    simpa [toPy, PyData.canLay0] using this
  | 0, .tup _, h => by simp [okD] at h
  | 0, .lst _, h => by simp [okD] at h
  | _, .frz _, h => by simp [okD] at h
  | _, .dic _ _, h => by simp [okD] at h
  | _, .dit _ _, h => by simp [okD] at h
  | _, .ref _, h => by simp [okD] at h
  | _, .ty _, h => by simp [okD] at h
theorem okDL_lay : ∀ (n : Nat) (l : List D), okDL n l = true → PyData.canLayAll0 (toPyL l) = true
  | _, [], _ => by simp [toPyL, PyData.canLayAll0]
  | n, d :: l, h => by
    have h' : okD n d = true ∧ okDL n l = true := by simpa [okDL] using h
    simp [toPyL, PyData.canLayAll0, okD_lay n d h'.1, okDL_lay n l h'.2]
end
mutual
theorem okD_depth : ∀ (n : Nat) (d : D), okD n d = true → (toPy d).depth ≤ n + 1
  | _, .non, _ => by simp [toPy, PyData.depth]
  | _, .bl _, _ => by simp [toPy, PyData.depth]
  | _, .int _, _ => by simp [toPy, PyData.depth]
  | _, .str s, h => by simp [toPy, PyData.depth]
  | n + 1, .tup l, h => by
    have := okDL_depth n l (by simpa [okD] using h)
    simp [toPy, PyData.depth]; omega
  | n + 1, .lst l, h => by
    have := okDL_depth n l (by simpa [okD] using h)
    simp [toPy, PyData.depth]; omega
  | 0, .tup _, h => by simp [okD] at h
  | 0, .lst _, h => by simp [okD] at h
  | _, .frz _, h => by simp [okD] at h
  | _, .dic _ _, h => by simp [okD] at h
  | _, .dit _ _, h => by simp [okD] at h
  | _, .ref _, h => by simp [okD] at h
  | _, .ty _, h => by simp [okD] at h
theorem okDL_depth : ∀ (n : Nat) (l : List D), okDL n l = true → PyData.depthAll (toPyL l) ≤ n + 1
  | _, [], _ => by simp [toPyL, PyData.depthAll]
  | n, d :: l, h => by
    have h' : okD n d = true ∧ okDL n l = true := by simpa [okDL] using h
    have h1 := okD_depth n d h'.1
    have h2 := okDL_depth n l h'.2
    simp [toPyL, PyData.depthAll]; omega
end
theorem okD_shaped {n : Nat} {d : D} (h : okD n d = true) (hn : n ≤ 60) : SeqAt.shaped (toPy d) = true := by
  unfold SeqAt.shaped
  rw [okD_lay n d h, Bool.true_and]
  exact decide_eq_true (Nat.le_trans (okD_depth n d h) (by omega))
mutual
theorem Rep.dp {K : PySem.W.Frag} {H : Hp} : ∀ {v : V} {d : D} (n : Nat), Rep K H v d → okD n d = true → Dp K H v (toPy d)
  | _, _, _, .non, _ => by simp only [toPy]; exact .non
  | _, _, _, .bl b, _ => by simp only [toPy]; exact .bl b
  | _, _, _, .int b, _ => by simp only [toPy]; exact .int b
  | _, _, _, .str b, _ => by simp only [toPy]; exact .str b
  | _, _, n + 1, .tup h r, k => by simp only [toPy]; exact .tup h (RepL.dp n r (by simpa [okD] using k))
  | _, _, n + 1, .lst h r, k => by simp only [toPy]; exact .lst (SqL.of h) (RepL.dp n r (by simpa [okD] using k))
  | _, _, 0, .tup h r, k => by simp [okD] at k
  | _, _, 0, .lst h r, k => by simp [okD] at k
  | _, _, _, .frz h r, k => by simp [okD] at k
  | _, _, _, .dic _ _ _, k => by simp [okD] at k
  | _, _, _, .dit _ _ _, k => by simp [okD] at k
  | _, _, _, .pin _, k => by simp [okD] at k
  | _, _, _, .ref _, k => by simp [okD] at k
  | _, _, _, .ty _, k => by simp [okD] at k
theorem RepL.dp {K : PySem.W.Frag} {H : Hp} : ∀ {v : List V} {d : List D} (n : Nat), RepL K H v d → okDL n d = true → DpAll K H v (toPyL d)
  | _, _, _, .nil, _ => by simp only [toPyL]; exact .nil
  | _, _, n, .cons h r, k => by
    simp only [toPyL]
    have h' := Bool.and_eq_true_iff.mp (show (okD n _ && okDL n _) = true from by simpa [okDL] using k)
    exact .cons (Rep.dp n h h'.1) (RepL.dp n r h'.2)
end
def eqvD (d e : D) : Bool := PyData.eqv (toPy d) (toPy e)
def eqD : R2D := fun d e m Q => ∃ n, n ≤ 60 ∧ okD n d = true ∧ okD n e = true ∧ Q (.bl (eqvD d e)) m
def neD : R2D := fun d e m Q => ∃ n, n ≤ 60 ∧ okD n d = true ∧ okD n e = true ∧ Q (.bl (!eqvD d e)) m
theorem od_eq : OpD C (compareOp .Eq) eqD := by
  intro X f fr H m T x y d e Q hh tx ty ⟨n, hn, o1, o2, q⟩
  exact wb_of (op_eqD (by have := f.un; omega)) ⟨_, _, by rw [f.K]; exact (hh.rep tx).dp n o1, by rw [f.K]; exact (hh.rep ty).dp n o2, okD_shaped o1 hn, okD_shaped o2 hn, dk_bl hh q⟩
theorem od_ne : OpD C (compareOp .NotEq) neD := by
  intro X f fr H m T x y d e Q hh tx ty ⟨n, hn, o1, o2, q⟩
  exact wb_of (op_neD (by have := f.un; omega)) ⟨_, _, by rw [f.K]; exact (hh.rep tx).dp n o1, by rw [f.K]; exact (hh.rep ty).dp n o2, okD_shaped o1 hn, okD_shaped o2 hn, dk_bl hh q⟩
end
end G

/-! The data layer's rules: displays, subscripts, slices; calls of built-ins. -/
namespace G
open PySem PySem.Spec PyProof.Rows L2

section
variable {C : Ct} {W : DW} {δ : Sl} {m : Sto} {Q : D → Sto → Prop} {a b c e : Expr} {es : List Expr} {pos : Pos}
/-! ### argument lists, displays -/
theorem da_nil {Q : List D → Sto → Prop} (q : Q [] m) : DA C W [] δ m Q := fun X S f tk σ H T le sl hh => WA.of pa_nil ⟨[], m, rfl, hh.le fun v d z => z.elim id fun h => by simp at h, q⟩
theorem da_cons {Q : List D → Sto → Prop} (h : DE C W e δ m fun d m1 => DA C W es δ m1 fun ds m2 => Q (d :: ds) m2) (hs : ∀ env, starEach (e :: es) env = (false, eval e env) :: starEach es env := by intro _; rfl) : DA C W (e :: es) δ m Q := by
  intro X S f tk σ H T le sl hh
  refine WA.of (pa_cons we wa (hs _)) ((h X S f tk σ H T le sl hh).mono fun v H1 ⟨d, m1, h1, q1⟩ => ?_)
  refine (q1 X S f tk σ H1 (Pl T v d) (le.trans Pl.le) (sl.le Pl.le) h1).mono fun vs H2 ⟨ds, m2, hl, h2, q2⟩ => ?_
  refine ⟨d :: ds, m2, by rw [List.length_cons, List.length_cons, hl], h2.le fun x y z => z.elim (fun z => .inl (.inl z)) fun z => ?_, q2⟩
  rw [List.zip_cons_cons] at z
  rcases List.mem_cons.mp z with z | z
  · cases z; exact .inl Pl.it
  · exact .inr z
theorem de_tup {k : Nat} (h : DA C W es δ m fun ds m1 => ds.length ≤ sizeLine ∧ Q (.tup ds) m1) : DE C W (.Tuple es k pos) δ m Q := by
  intro X S f tk σ H T le sl hh
  refine WE.of (pe_tup wa) ((h X S f tk σ H T le sl hh).mono fun vs H1 ⟨ds, m1, hl, h1, hz, q⟩ => ⟨by rw [hl]; exact hz, fun p hp => ?_⟩)
  exact dK.le (dk_tup h1 hp (fun Hi k => PlL.rep hl k) q) PlL.le
theorem de_lst (h : DA C W es δ m fun ds m1 => ds.length ≤ sizeLine ∧ Q (.lst ds) m1) : DE C W (.List es pos) δ m Q := by
  intro X S f tk σ H T le sl hh
  refine WE.of (pe_lst wa) ((h X S f tk σ H T le sl hh).mono fun vs H1 ⟨ds, m1, hl, h1, hz, q⟩ => ⟨by rw [hl]; exact hz, fun p hp => ?_⟩)
  exact dK.le (dk_lst h1 hp (fun Hi k => PlL.rep hl k) q) PlL.le
/-- .. an object -/
theorem de_lstM (h : DA C W es δ m fun ds m1 => ds.length ≤ sizeLine ∧ ∀ p, m1 p = none → Q (.ref p) (sput m1 p (.lst ds))) : DE C W (.List es pos) δ m Q := by
  intro X S f tk σ H T le sl hh
  refine WE.of (pe_lst wa) ((h X S f tk σ H T le sl hh).mono fun vs H1 ⟨ds, m1, hl, h1, hz, q⟩ => ⟨by rw [hl]; exact hz, fun p hp => ?_⟩)
  exact dK.le (dk_lstM h1 hp (fun Hi k => PlL.rep hl k) q) PlL.le
/-- a local list becomes data -/
theorem de_freeze (h : DE C W e δ m fun d m1 => ∃ p ds, d = .ref p ∧ m1 p = some (.lst ds) ∧ Q (.lst ds) (sdel m1 p)) : DE C W e δ m Q := by
  intro X S f tk σ H T le sl hh
  refine (h X S f tk σ H T le sl hh).mono fun v H1 ⟨d, m1, h1, p, ds, e, hm, q⟩ => ?_
  subst e
  have r := h1.rep Pl.it
  cases r
  exact ⟨_, _, (h1.le Pl.le).freezeL hm, q⟩

/-! ### subscripts -/
theorem atI_rep {α β : Type} {xs : List α} {ds : List β} {i : Int} {d : β} (hl : xs.length = ds.length) (h : atI ds i = some d) : ∃ (v : α) (j : Nat), atI xs i = some v ∧ xs[j]? = some v ∧ ds[j]? = some d := by
  unfold atI at h ⊢
  rw [← hl] at h
  cases e : ixN xs.length i with
  | none => rw [e] at h; cases h
  | some j =>
    rw [e] at h
    have hj : ds[j]? = some d := h
    have hlt : j < xs.length := by rw [hl]; exact (List.getElem?_eq_some_iff.mp hj).1
    exact ⟨xs[j], j, List.getElem?_eq_getElem hlt, List.getElem?_eq_getElem hlt, hj⟩
def ixD : R2D
  | .tup ds, .int i, m, Q => ∃ d, atI ds i = some d ∧ Q d m
  | .lst ds, .int i, m, Q => ∃ d, atI ds i = some d ∧ Q d m
  | .frz ds, .int i, m, Q => ∃ d, atI ds i = some d ∧ Q d m
  | .ref p, .int i, m, Q => ∃ ds d, m p = some (.lst ds) ∧ atI ds i = some d ∧ Q d m
  | .str z, .int i, m, Q => ∃ c, z.length ≤ sizeLine ∧ atI z.cps.toList i = some c ∧ Q (.str ⟨#[c]⟩) m
  | _, _, _, _ => False
theorem de_ix (h : DE C W a δ m fun x m1 => DE C W b δ m1 fun y m2 => ixD x y m2 Q) (hs : PlainIx b := by intro _ _; rfl) : DE C W (.Subscript a b pos) δ m Q := by
  intro X S f tk σ H T le sl hh
  refine WE.of (pe_ix ix_seq we we hs) ((h X S f tk σ H T le sl hh).mono fun v H1 ⟨d, m1, h1, q1⟩ => ?_)
  refine (q1 X S f tk σ H1 (Pl T v d) (le.trans Pl.le) (sl.le Pl.le) h1).mono fun u H2 ⟨e, m2, h2, q2⟩ => ?_
  have tv : Pl (Pl T v d) u e v d := .inl Pl.it
  have ru := h2.rep (Pl.it (T := Pl T v d) (v := u) (d := e))
  have lel : Le T (Pl (Pl T v d) u e) := Pl.le.trans Pl.le
  cases d with
  | tup ds =>
    cases e with
    | int i =>
      cases ru
      obtain ⟨d, ha, q⟩ := q2
      obtain ⟨p, xs, rfl, hq, hl, h3⟩ := h2.items tv
      obtain ⟨v', j, e1, e2, e3⟩ := atI_rep hl ha
      exact .inr (.inl ⟨p, xs, i, v', rfl, rfl, by rw [f.K]; exact hq, e1, d, m2, (h3.again (PlL.at e2 e3)).le (Pl.mono (lel.trans PlL.le)), q⟩)
    | _ => exact False.elim q2
  | lst ds =>
    cases e with
    | int i =>
      cases ru
      obtain ⟨d, ha, q⟩ := q2
      obtain ⟨p, xs, rfl, hq, hl, h3⟩ := h2.itemsL tv
      obtain ⟨v', j, e1, e2, e3⟩ := atI_rep hl ha
      exact .inl ⟨p, xs, i, v', rfl, rfl, SqL.of hq, e1, d, m2, (h3.again (PlL.at e2 e3)).le (Pl.mono (lel.trans PlL.le)), q⟩
    | _ => exact False.elim q2
  | frz ds =>
    cases e with
    | int i =>
      cases ru
      obtain ⟨d, ha, q⟩ := q2
      obtain ⟨p, xs, rfl, hq, hl, h3⟩ := h2.itemsF tv
      obtain ⟨v', j, e1, e2, e3⟩ := atI_rep hl ha
      exact .inl ⟨p, xs, i, v', rfl, rfl, by rw [f.K]; exact hq, e1, d, m2, (h3.again (PlL.at e2 e3)).le (Pl.mono (lel.trans PlL.le)), q⟩
    | _ => exact False.elim q2
  | ref p =>
    cases e with
    | int i =>
      cases ru
      have rv := h2.rep tv
      cases rv
      obtain ⟨ds, d, hm, ha, q⟩ := q2
      obtain ⟨xs, hq, hl, h3⟩ := h2.itemsO hm
      obtain ⟨v', j, e1, e2, e3⟩ := atI_rep hl ha
      exact .inl ⟨p, xs, i, v', rfl, rfl, SqL.of hq, e1, d, m2, (h3.again (PlL.at e2 e3)).le (Pl.mono (lel.trans PlL.le)), q⟩
    | _ => exact False.elim q2
  | str z =>
    cases e with
    | int i =>
      cases ru
      have rv := h2.rep tv
      cases rv
      obtain ⟨c, hz, hc, q⟩ := q2
      exact .inr (.inr ⟨z, i, c, rfl, rfl, hz, hc, dK.le (dk_str h2 q) lel⟩)
    | _ => exact False.elim q2
  | _ => exact False.elim q2

/-! ### slices -/
def cutL {α : Type} (xs : List α) (lo hi : Option Int) : List α := (xs.drop (HT.sIx xs.length 0 lo)).take (HT.sIx xs.length xs.length hi - HT.sIx xs.length 0 lo)
theorem RepL.cut {K : PySem.W.Frag} {H : Hp} {vs : List V} {ds : List D} (r : RepL K H vs ds) (lo hi : Option Int) : RepL K H (cutV vs lo hi) (cutL ds lo hi) := by
  unfold cutV cutL
  rw [r.length]
  exact (r.drop _).take _
def DO (C : Ct) (W : DW) (e : Option Expr) (δ : Sl) (m : Sto) (Q : Option Int → Sto → Prop) : Prop := match e with
  | none => Q none m
  | some e => DE C W e δ m fun d m1 => ∃ i, d = .int i ∧ Q (some i) m1
theorem do_run {e : Option Expr} {Q : Option Int → Sto → Prop} (h : DO C W e δ m Q) {X : Cx} {S : Fr} (f : Fits C X) (tk : Takes X (liftW C.K W S)) : ∃ t, PO X e t ∧ ∀ (σ : L2.St) (H : Hp) (T : RT), Le S.t T → SlotsIn σ δ T → Hd C.K S.r H m T → t σ H fun o H' => ∃ m', Hd C.K S.r H' m' T ∧ Q o m' := by
  cases e with
  | none => exact ⟨_, po_none, fun σ H T le sl hh => ⟨m, hh, h⟩⟩
  | some e =>
    refine ⟨_, po_some we, fun σ H T le sl hh => WE.mono (h X S f tk σ H T le sl hh) fun v H1 ⟨d, m1, h1, i, ed, q⟩ => ?_⟩
    subst ed
    have r := h1.rep Pl.it
    cases r
    exact ⟨i, rfl, m1, h1.le Pl.le, q⟩
def cutD : D → Option Int → Option Int → Sto → (D → Sto → Prop) → Prop
  | .str z, lo, hi, m, Q => z.length ≤ sizeLine ∧ Q (.str (cutS z lo hi)) m
  | .tup ds, lo, hi, m, Q => Q (.tup (cutL ds lo hi)) m
  | .lst ds, lo, hi, m, Q => Q (.lst (cutL ds lo hi)) m
  | .frz ds, lo, hi, m, Q => Q (.lst (cutL ds lo hi)) m
  | .ref p, lo, hi, m, Q => ∃ ds, m p = some (.lst ds) ∧ Q (.lst (cutL ds lo hi)) m
  | _, _, _, _, _ => False
/-- the reading of an optional part, the widest -/
def WO (X : Cx) (e : Option Expr) : TO := fun σ H Q => ∀ (pins : List (Addr × Obj)) (s : Shared), Inv X pins σ H s → wpAny (model X.prog X.w) X.A (evalPart e X.env) (fun u s' => ∃ o H', Inv X pins σ H' s' ∧ IsPart u o ∧ Q o H') X.xe s
theorem wo {X : Cx} {e : Option Expr} : PO X e (WO X e) := ⟨fun pins s _ _ _ I h => h pins s I⟩
theorem do_wo {e : Option Expr} {Q : Option Int → Sto → Prop} (h : DO C W e δ m Q) {X : Cx} {S : Fr} (f : Fits C X) (tk : Takes X (liftW C.K W S)) {σ : L2.St} {H : Hp} {T : RT} (le : Le S.t T) (sl : SlotsIn σ δ T) (hh : Hd C.K S.r H m T) :
    WO X e σ H fun o H' => ∃ m', Hd C.K S.r H' m' T ∧ Q o m' := by
  obtain ⟨t, p, k⟩ := do_run h f tk
  exact fun pins s I => p.run pins s σ H _ I (k σ H T le sl hh)
theorem WO.mono {X : Cx} {e : Option Expr} {σ : L2.St} {H : Hp} {Q Q' : Option Int → Hp → Prop} (h : WO X e σ H Q) (k : ∀ o H', Q o H' → Q' o H') : WO X e σ H Q' := fun pins s I => thn (h pins s I) fun _ _ ⟨o, H', a, b, c⟩ => ⟨o, H', a, b, k _ _ c⟩
theorem de_slice {lo hi : Option Expr} {p2 : Pos} (h : DE C W a δ m fun x m1 => DO C W lo δ m1 fun l m2 => DO C W hi δ m2 fun u m3 => cutD x l u m3 Q) : DE C W (.Subscript a (.Slice lo hi none p2) pos) δ m Q := by
  intro X S f tk σ H T le sl hh
  refine WE.of (pe_slice (sl_str.or (sl_tupA.or sl_list)) we wo wo) ((h X S f tk σ H T le sl hh).mono fun v H1 ⟨d, m1, h1, q1⟩ => ?_)
  refine (do_wo q1 f tk (le.trans Pl.le) (sl.le Pl.le) h1).mono fun l H2 ⟨m2, h2, q2⟩ => ?_
  refine (do_wo q2 f tk (le.trans Pl.le) (sl.le Pl.le) h2).mono fun u H3 ⟨m3, h3, q3⟩ => ?_
  cases d with
  | str z =>
    have r := h3.rep Pl.it
    cases r
    exact .inl ⟨z, rfl, q3.1, dK.le (dk_str h3 q3.2) Pl.le⟩
  | tup ds =>
    obtain ⟨p, xs, rfl, hq, hl, h4⟩ := h3.items Pl.it
    refine .inr (.inl ⟨p, xs, rfl, by rw [f.K]; exact hq, fun hw => ?_, fun _ p hp => ?_⟩)
    · have e : cutL ds l u = ds := by
        unfold cutL
        rw [hl] at hw
        rw [hw.1, hw.2, List.drop_zero, Nat.sub_zero]
        exact List.take_length
      have q4 : Q (.tup (cutL ds l u)) m3 := q3
      rw [e] at q4
      exact ⟨_, m3, (h3.again Pl.it).le (Pl.mono Pl.le), q4⟩
    · exact dK.le (dk_tup h4 hp (fun Hi k => (PlL.rep hl k).cut l u) q3) (Pl.le.trans PlL.le)
  | lst ds =>
    obtain ⟨p, xs, rfl, hq, hl, h4⟩ := h3.itemsL Pl.it
    refine .inr (.inr ⟨p, xs, rfl, SqL.of hq, fun p hp => ?_⟩)
    exact dK.le (dk_lst h4 hp (fun Hi k => (PlL.rep hl k).cut l u) q3) (Pl.le.trans PlL.le)
  | frz ds =>
    obtain ⟨p, xs, rfl, hq, hl, h4⟩ := h3.itemsF Pl.it
    refine .inr (.inr ⟨p, xs, rfl, by rw [f.K]; exact hq, fun p hp => ?_⟩)
    exact dK.le (dk_lst h4 hp (fun Hi k => (PlL.rep hl k).cut l u) q3) (Pl.le.trans PlL.le)
  | ref p =>
    obtain ⟨ds, hm, q⟩ := q3
    have r := h3.rep Pl.it
    cases r
    obtain ⟨xs, hq, hl, h4⟩ := h3.itemsO hm
    refine .inr (.inr ⟨p, xs, rfl, SqL.of hq, fun p hp => ?_⟩)
    exact dK.le (dk_lst h4 hp (fun Hi k => (PlL.rep hl k).cut l u) q) (Pl.le.trans PlL.le)
  | _ => exact False.elim q3

/-! ### calls of built-ins -/
def WC (X : Cx) (g : Value) : List V → Hp → VK → Prop := fun vs H Q => ∀ (pins : List (Addr × Obj)) (s : Shared) (σ : L2.St) (us : List Value), Inv X pins σ H s → Vals vs us → wpAny (model X.prog X.w) X.A (call g us) (EP X pins σ Q) X.xe s
theorem wc {X : Cx} {g : Value} : CallR X g (WC X g) := fun pins s σ H xs us Q I r h => h pins s σ us I r
theorem wc_of {X : Cx} {g : Value} {r : List V → Hp → VK → Prop} {vs : List V} {H : Hp} {Q : VK} (h : CallR X g r) (q : r vs H Q) : WC X g vs H Q := fun pins s σ us I rv => h pins s σ H vs us Q I rv q
abbrev RLD := List D → Sto → (D → Sto → Prop) → Prop
def CallD (C : Ct) (g : Value) (r : RLD) : Prop := ∀ (X : Cx), Fits C X → ∀ (fr : Sto) (H : Hp) (m : Sto) (T : RT) (vs : List V) (ds : List D) (Q : D → Sto → Prop), vs.length = ds.length → Hd C.K fr H m (PlL T vs ds) → r ds m Q → WC X g vs H (dK C.K fr T Q)
theorem de_callB {id : String} {x : Str} {p : Pos} {r : RLD} (hc : CallD C (.builtin id) r) (hg : GlC C x) (hm : C.mg x = none) (hv : bootBuiltins x = some (.builtin id)) (h : DA C W (e :: es) δ m fun ds m1 => r ds m1 Q) (hn : x ≠ "__name__" := by decide) (hdb : (x == ("__debug__" : Str)) = false := by decide)
    (he : ∀ env, starEach (e :: es) env = (false, eval e env) :: starEach es env := by intro _; rfl) (hpl : ∀ env, (backTo pos (starEach es env)).any (·.1) = false := by intro _; rfl) : DE C W (.Call (.Name x p) (e :: es) [] pos) δ m Q := by
  intro X S f tk σ H T le sl hh
  refine WE.of (pe_callB wc (f.gl hg) (by rw [f.mg]; exact hm) hv wa hn hdb (he _) (hpl _)) ((h X S f tk σ H T le sl hh).mono fun vs H1 ⟨ds, m1, hl, h1, q⟩ => ?_)
  exact hc X f S.r H1 m1 T vs ds Q hl h1 q
theorem de_callTy {n : String} {x : Str} {p : Pos} {r : RLD} (hc : CallD C (.type n) r) (hg : GlC C x) (hm : C.mg x = none) (hv : bootBuiltins x = some (.type n)) (h : DA C W (e :: es) δ m fun ds m1 => r ds m1 Q) (hn : x ≠ "__name__" := by decide) (hdb : (x == ("__debug__" : Str)) = false := by decide)
    (he : ∀ env, starEach (e :: es) env = (false, eval e env) :: starEach es env := by intro _; rfl) (hpl : ∀ env, (backTo pos (starEach es env)).any (·.1) = false := by intro _; rfl) : DE C W (.Call (.Name x p) (e :: es) [] pos) δ m Q := by
  intro X S f tk σ H T le sl hh
  refine WE.of (pe_callTy wc (f.gl hg) (by rw [f.mg]; exact hm) hv wa hn hdb (he _) (hpl _)) ((h X S f tk σ H T le sl hh).mono fun vs H1 ⟨ds, m1, hl, h1, q⟩ => ?_)
  exact hc X f S.r H1 m1 T vs ds Q hl h1 q

/-- len -/
def lenD : RLD
  | [.str z], m, Q => z.length ≤ sizeLine ∧ Q (.int z.length) m
  | [.tup l], m, Q => l.length ≤ sizeLine → Q (.int l.length) m
  | [.lst l], m, Q => l.length ≤ sizeLine → Q (.int l.length) m
  | [.frz l], m, Q => l.length ≤ sizeLine → Q (.int l.length) m
  | [.ref p], m, Q => ∃ l, m p = some (.lst l) ∧ (l.length ≤ sizeLine → Q (.int l.length) m)
  | _, _, _ => False
theorem one_of {vs : List V} {d : D} (h : vs.length = [d].length) : ∃ v, vs = [v] := match vs, h with | [v], _ => ⟨v, rfl⟩
theorem two_of {vs : List V} {d e : D} (h : vs.length = [d, e].length) : ∃ v u, vs = [v, u] := match vs, h with | [v, u], _ => ⟨v, u, rfl⟩
theorem wc_len {X : Cx} {a : Addr} {xs : List V} {H : Hp} {Q : VK} (h : SqL X.K H a xs ∨ SqT X.K H a xs) (q : xs.length ≤ sizeLine → Q (.int xs.length) H) : WC X (.builtin "len") [.ref a] H Q := by
  intro pins s σ us I rv
  refine call_len_seq pins s σ H _ us Q I rv ⟨a, xs, rfl, h, q ?_⟩
  rcases h with h | h
  · obtain ⟨_, _, _, z⟩ := I.list h
    exact z
  · obtain ⟨_, _, _, z⟩ := I.tuple h
    exact z
theorem cd_len : CallD C (.builtin "len") lenD := by
  intro X f fr H m T vs ds Q hl hh q
  match ds, q with
  | [.str z], q =>
    obtain ⟨v, rfl⟩ := one_of hl
    have r := hh.rep (PlL.at (i := 0) (v := v) (d := .str z) rfl rfl)
    cases r
    exact wc_of call_len ⟨_, z.length, rfl, ⟨q.1, rfl⟩, dK.le (dk_int hh q.2) PlL.le⟩
  | [.tup l], q =>
    obtain ⟨v, rfl⟩ := one_of hl
    obtain ⟨p, xs, rfl, hq, hl2, h4⟩ := hh.items (PlL.at (i := 0) (v := v) (d := .tup l) rfl rfl)
    exact wc_len (.inr (by rw [f.K]; exact hq)) fun z => by rw [hl2] at z ⊢; exact dK.le (dk_int hh (q z)) PlL.le
  | [.lst l], q =>
    obtain ⟨v, rfl⟩ := one_of hl
    obtain ⟨p, xs, rfl, hq, hl2, h4⟩ := hh.itemsL (PlL.at (i := 0) (v := v) (d := .lst l) rfl rfl)
    exact wc_len (.inl (SqL.of hq)) fun z => by rw [hl2] at z ⊢; exact dK.le (dk_int hh (q z)) PlL.le
  | [.frz l], q =>
    obtain ⟨v, rfl⟩ := one_of hl
    obtain ⟨p, xs, rfl, hq, hl2, h4⟩ := hh.itemsF (PlL.at (i := 0) (v := v) (d := .frz l) rfl rfl)
    exact wc_len (.inl (by rw [f.K]; exact hq)) fun z => by rw [hl2] at z ⊢; exact dK.le (dk_int hh (q z)) PlL.le
  | [.ref p], q =>
    obtain ⟨v, rfl⟩ := one_of hl
    have r := hh.rep (PlL.at (i := 0) (v := v) (d := .ref p) rfl rfl)
    cases r
    obtain ⟨l, hm, q⟩ := q
    obtain ⟨xs, hq, hl2, h4⟩ := hh.itemsO hm
    exact wc_len (.inl (SqL.of hq)) fun z => by rw [hl2] at z ⊢; exact dK.le (dk_int hh (q z)) PlL.le
/-- max, min of two -/
def maxD : RLD
  | [.int i, .int j], m, Q => Q (.int (max i j)) m
  | _, _, _ => False
def minD : RLD
  | [.int i, .int j], m, Q => Q (.int (min i j)) m
  | _, _, _ => False
theorem two_ints {K : PySem.W.Frag} {fr : Sto} {H : Hp} {m : Sto} {T : RT} {vs : List V} {i j : Int} (hl : vs.length = [D.int i, D.int j].length) (hh : Hd K fr H m (PlL T vs [.int i, .int j])) : vs = [.int i, .int j] := by
  obtain ⟨v, u, rfl⟩ := two_of hl
  have r1 := hh.rep (PlL.at (i := 0) (v := v) (d := .int i) rfl rfl)
  have r2 := hh.rep (PlL.at (i := 1) (v := u) (d := .int j) rfl rfl)
  cases r1
  cases r2
  rfl
theorem cd_max (hcm : C.cm = true := by rfl) : CallD C (.builtin "max") maxD := by
  intro X f fr H m T vs ds Q hl hh q
  match ds, q with
  | [.int i, .int j], q =>
    have e := two_ints hl hh
    subst e
    refine wc_of (call_max2 (f.calm hcm)) ⟨i, j, rfl, ?_⟩
    have e : (if j > i then j else i) = max i j := by rw [Int.max_def]; split <;> split <;> omega
    rw [e]
    exact dK.le (dk_int hh q) PlL.le
theorem cd_min (hcm : C.cm = true := by rfl) : CallD C (.builtin "min") minD := by
  intro X f fr H m T vs ds Q hl hh q
  match ds, q with
  | [.int i, .int j], q =>
    have e := two_ints hl hh
    subst e
    refine wc_of (call_min2 (f.calm hcm)) ⟨i, j, rfl, ?_⟩
    have e : (if j < i then j else i) = min i j := by rw [Int.min_def]; split <;> split <;> omega
    rw [e]
    exact dK.le (dk_int hh q) PlL.le
/-- int of an int, a bool -/
def intD : RLD
  | [.int i], m, Q => Q (.int i) m
  | [.bl k], m, Q => Q (.int (if k then 1 else 0)) m
  | _, _, _ => False
theorem cd_int : CallD C (.type "int") intD := by
  intro X f fr H m T vs ds Q hl hh q
  match ds, q with
  | [.int i], q =>
    obtain ⟨v, rfl⟩ := one_of hl
    have r := hh.rep (PlL.at (i := 0) (v := v) (d := .int i) rfl rfl)
    cases r
    exact wc_of call_int1 (.inl ⟨i, rfl, dK.le (dk_int hh q) PlL.le⟩)
  | [.bl i], q =>
    obtain ⟨v, rfl⟩ := one_of hl
    have r := hh.rep (PlL.at (i := 0) (v := v) (d := .bl i) rfl rfl)
    cases r
    exact wc_of call_int1 (.inr ⟨i, rfl, dK.le (dk_int hh q) PlL.le⟩)
/-- list of a list, a tuple: data; an object -/
def itemsD : D → Sto → Option (List D)
  | .tup l, _ => some l
  | .lst l, _ => some l
  | .frz l, _ => some l
  | .ref p, m => match m p with
    | some (.lst l) => some l
    | _ => none
  | _, _ => none
theorem Hd.seq {K : PySem.W.Frag} {fr : Sto} {H : Hp} {m : Sto} {T : RT} {v : V} {d : D} {l : List D} (h : Hd K fr H m T) (t : T v d) (e : itemsD d m = some l) : ∃ a xs, v = .ref a ∧ (SqL K H a xs ∨ SqT K H a xs) ∧ xs.length = l.length ∧ Hd K fr H m (PlL T xs l) := by
  cases d with
  | tup l' =>
    cases e
    obtain ⟨p, xs, rfl, hq, hl2, h4⟩ := h.items t
    exact ⟨p, xs, rfl, .inr hq, hl2, h4⟩
  | lst l' =>
    cases e
    obtain ⟨p, xs, rfl, hq, hl2, h4⟩ := h.itemsL t
    exact ⟨p, xs, rfl, .inl (SqL.of hq), hl2, h4⟩
  | frz l' =>
    cases e
    obtain ⟨p, xs, rfl, hq, hl2, h4⟩ := h.itemsF t
    exact ⟨p, xs, rfl, .inl hq, hl2, h4⟩
  | ref p =>
    have r := h.rep t
    cases r
    have e' : (match m p with | some (.lst l) => some l | _ => none) = some l := e
    split at e'
    · rename_i l' hm
      cases e'
      obtain ⟨xs, hq, hl2, h4⟩ := h.itemsO hm
      exact ⟨p, xs, rfl, .inl (SqL.of hq), hl2, h4⟩
    · cases e'
  | _ => cases e
def listD : RLD := fun ds m Q => ∃ d l, ds = [d] ∧ itemsD d m = some l ∧ Q (.lst l) m
def listDM : RLD := fun ds m Q => ∃ d l, ds = [d] ∧ itemsD d m = some l ∧ ∀ p, m p = none → Q (.ref p) (sput m p (.lst l))
theorem cd_list : CallD C (.type "list") listD := by
  rintro X f fr H m T vs ds Q hl hh ⟨d, l, rfl, hi, q⟩
  obtain ⟨v, rfl⟩ := one_of hl
  obtain ⟨a, xs, rfl, hq, hl2, h4⟩ := hh.seq (PlL.at (i := 0) (v := v) (d := d) rfl rfl) hi
  exact wc_of call_list_of ⟨a, xs, rfl, by rw [f.K]; exact hq, fun p hp => dK.le (dk_lst h4 hp (fun Hi k => PlL.rep hl2 k) q) (PlL.le.trans PlL.le)⟩
theorem cd_listM : CallD C (.type "list") listDM := by
  rintro X f fr H m T vs ds Q hl hh ⟨d, l, rfl, hi, q⟩
  obtain ⟨v, rfl⟩ := one_of hl
  obtain ⟨a, xs, rfl, hq, hl2, h4⟩ := hh.seq (PlL.at (i := 0) (v := v) (d := d) rfl rfl) hi
  exact wc_of call_list_of ⟨a, xs, rfl, by rw [f.K]; exact hq, fun p hp => dK.le (dk_lstM h4 hp (fun Hi k => PlL.rep hl2 k) q) (PlL.le.trans PlL.le)⟩
/-- all, any, sum of a list of truth values, ints -/
def blsD : List D → Option (List Bool)
  | [] => some []
  | .bl b :: l => (blsD l).map (b :: ·)
  | _ :: _ => none
theorem bls_vals {K : PySem.W.Frag} {H : Hp} : ∀ {vs : List V} {l : List D} {bs : List Bool}, RepL K H vs l → blsD l = some bs → vs = bs.map V.bl
  | _, _, _, .nil, e => by cases e; rfl
  | _, .bl b :: l, bs, .cons r t, e => by
    cases r
    have e' : (blsD l).map (b :: ·) = some bs := e
    cases h : blsD l with
    | none => rw [h] at e'; cases e'
    | some cs =>
      rw [h] at e'
      cases e'
      rw [bls_vals t h]
      rfl
  | _, .non :: l, bs, .cons r t, e => by cases e
  | _, .int _ :: l, bs, .cons r t, e => by cases e
  | _, .str _ :: l, bs, .cons r t, e => by cases e
  | _, .tup _ :: l, bs, .cons r t, e => by cases e
  | _, .lst _ :: l, bs, .cons r t, e => by cases e
  | _, .frz _ :: l, bs, .cons r t, e => by cases e
  | _, .dic _ _ :: l, bs, .cons r t, e => by cases e
  | _, .dit _ _ :: l, bs, .cons r t, e => by cases e
  | _, .ref _ :: l, bs, .cons r t, e => by cases e
  | _, .ty _ :: l, bs, .cons r t, e => by cases e
theorem blsD_map : ∀ bs : List Bool, blsD (bs.map D.bl) = some bs
  | [] => rfl
  | b :: bs => by
    show (blsD (bs.map D.bl)).map (b :: ·) = _
    rw [blsD_map bs]
    rfl
def allD : RLD := fun ds m Q => ∃ l bs, ds = [.lst l] ∧ blsD l = some bs ∧ Q (.bl (bs.all id)) m
def anyD : RLD := fun ds m Q => ∃ l bs, ds = [.lst l] ∧ blsD l = some bs ∧ Q (.bl (bs.any id)) m
theorem Hd.repsL {K : PySem.W.Frag} {fr : Sto} {H : Hp} {m : Sto} {T : RT} {v : V} {l : List D} (h : Hd K fr H m T) (t : T v (.lst l)) : ∃ a xs, v = .ref a ∧ H a = some (.lst xs) ∧ RepL K H xs l := by
  have r := h.rep t
  cases r with
  | lst q r => exact ⟨_, _, rfl, q, r⟩
theorem cd_all (hcm : C.cm = true := by rfl) : CallD C (.builtin "all") allD := by
  rintro X f fr H m T vs ds Q hl hh ⟨l, bs, rfl, hb, q⟩
  obtain ⟨v, rfl⟩ := one_of hl
  obtain ⟨a, xs, rfl, hq, r⟩ := hh.repsL (PlL.at (i := 0) (v := v) (d := .lst l) rfl rfl)
  have e := bls_vals r hb
  subst e
  exact wc_of (cr_all (f.calm hcm)) ⟨a, bs, rfl, SqL.of hq, dK.le (dk_bl hh q) PlL.le⟩
theorem cd_any (hcm : C.cm = true := by rfl) : CallD C (.builtin "any") anyD := by
  rintro X f fr H m T vs ds Q hl hh ⟨l, bs, rfl, hb, q⟩
  obtain ⟨v, rfl⟩ := one_of hl
  obtain ⟨a, xs, rfl, hq, r⟩ := hh.repsL (PlL.at (i := 0) (v := v) (d := .lst l) rfl rfl)
  have e := bls_vals r hb
  subst e
  exact wc_of (cr_any (f.calm hcm)) ⟨a, bs, rfl, SqL.of hq, dK.le (dk_bl hh q) PlL.le⟩
/-- isinstance against a built-in class -/
def tyD : D → Option String
  | .non => some "NoneType"
  | .bl _ => some "bool"
  | .int _ => some "int"
  | .str _ => some "str"
  | .tup _ => some "tuple"
  | .lst _ => some "list"
  | .dic _ _ => some "dict"
  | _ => none
theorem Hd.tyX {K : PySem.W.Frag} {fr : Sto} {H : Hp} {m : Sto} {T : RT} {v : V} {d : D} {t : String} (h : Hd K fr H m T) (x : T v d) (e : tyD d = some t) : TyX K H v (.type t) := by
  have r := h.rep x
  cases r with
  | non => cases e; exact .base .non
  | bl b => cases e; exact .base (.bl b)
  | int b => cases e; exact .base (.int b)
  | str b => cases e; exact .base (.str b)
  | tup q r =>
    cases e
    rcases q with (q | ⟨o, q⟩) | ⟨o, its, n, q, c, _⟩
    · exact .base (.tup q)
    · exact .fTuple q
    · exact .kTuple q c
  | lst q r => cases e; exact .base (.lst q)
  | dic q r => cases e; exact .fDict q
  | _ => cases e
def isiD : RLD := fun ds m Q => ∃ d t n b, ds = [d, .ty n] ∧ tyD d = some t ∧ kitB t n = some b ∧ Q (.bl b) m
theorem cd_isi : CallD C (.builtin "isinstance") isiD := by
  rintro X f fr H m T vs ds Q hl hh ⟨d, t, n, b, rfl, ht, hk, q⟩
  obtain ⟨v, u, rfl⟩ := two_of hl
  have ty := hh.tyX (PlL.at (i := 0) (v := v) (d := d) rfl rfl) ht
  have r := hh.rep (PlL.at (i := 1) (v := u) (d := .ty n) rfl rfl)
  cases r
  exact wc_of call_isi ⟨v, .ty n, .type t, .type n, b, rfl, .ty n, by rw [f.K]; exact ty, kit_ty hk, dK.le (dk_bl hh q) PlL.le⟩
/-- .. against a written tuple of two: the tuple is made on the way -/
def kit2 (t a b : String) : Option Bool := match kitB t a with
  | some true => some true
  | some false => kitB t b
  | none => none
theorem kit2_any {K : PySem.W.Frag} {t a b : String} {k : Bool} (h : kit2 t a b = some k) : PySem.W.kitAny K (.type t) [.type a, .type b] = some k := by
  unfold kit2 at h
  split at h
  · rename_i h1
    cases h
    exact kitAny_cons (kit_ty h1) (fun e => nomatch e) fun _ => rfl
  · rename_i h1
    refine kitAny_cons (kit_ty h1) (fun _ => ?_) (fun e => nomatch e)
    cases k with
    | true => exact kitAny_cons (kit_ty h) (fun e => nomatch e) fun _ => rfl
    | false => exact kitAny_cons (kit_ty h) (fun _ => rfl) (fun e => nomatch e)
  · cases h
end
end G

/-! The data layer's rules: statements, targets, loops. -/
namespace G
open PySem PySem.Spec PyProof.Rows L2

section
variable {C : Ct} {W : DW} {δ : Sl} {m : Sto} {D : DEn} {a b c e : Expr} {es : List Expr} {st : Stmt} {sts : List Stmt} {pos pos' : Pos}
theorem dss_nil (q : D.nx δ m) : DSs C W [] δ m D := fun X S f tk σ H T le sl hh => WSs.of pss_nil ⟨δ, m, T, le, sl, hh, q⟩
theorem dss_cons (h : DS C W st δ m { D with nx := fun δ' m' => DSs C W sts δ' m' D }) : DSs C W (st :: sts) δ m D := by
  intro X S f tk σ H T le sl hh
  refine WSs.of (pss_cons ws wss) ?_
  refine (h X S f tk σ H T le sl hh).mono (fun σ' H' ⟨δ', m', T', le', sl', hh', q⟩ => q X S f tk σ' H' T' le' sl' hh') (fun _ _ q => q) (fun _ _ q => q) fun _ _ q => q
theorem dss_one (h : DS C W st δ m D) : DSs C W [st] δ m D := fun X S f tk σ H T le sl hh => WSs.of (pss_one ws) (h X S f tk σ H T le sl hh)
/-- a word between two parts of a block -/
theorem dss_cut (R : Sl → Sto → Prop) (h : DS C W st δ m { D with nx := R }) (k : ∀ δ' m', R δ' m' → DSs C W sts δ' m' D) : DSs C W (st :: sts) δ m D := by
  refine dss_cons ?_
  intro X S f tk σ H T le sl hh
  exact (h X S f tk σ H T le sl hh).mono (fun σ' H' ⟨δ', m', T', le', sl', hh', q⟩ => ⟨δ', m', T', le', sl', hh', k _ _ q⟩) (fun _ _ q => q) (fun _ _ q => q) fun _ _ q => q
theorem ds_pass (q : D.nx δ m) : DS C W (.Pass pos) δ m D := fun X S f tk σ H T le sl hh => WS.of ps_pass ⟨δ, m, T, le, sl, hh, q⟩
theorem ds_break (q : D.bk δ m) : DS C W (.Break pos) δ m D := fun X S f tk σ H T le sl hh => WS.of ps_break ⟨δ, m, T, le, sl, hh, q⟩
theorem ds_cont (q : D.ct δ m) : DS C W (.Continue pos) δ m D := fun X S f tk σ H T le sl hh => WS.of ps_continue ⟨δ, m, T, le, sl, hh, q⟩
theorem lift_nx {K : PySem.W.Frag} {S : Fr} {T : RT} {σ : L2.St} {H : Hp} {n : Sl → Sto → Prop} (le : Le S.t T) (sl : SlotsIn σ δ T) (hh : Hd K S.r H m T) (q : n δ m) : lift1 K S n σ H := ⟨δ, m, T, le, sl, hh, q⟩
theorem Fits.loc {X : Cx} {x : Str} (f : Fits C X) (h : Loc C.sc x) : Loc X.env.scope x := by rw [f.sc]; exact h
theorem Fits.fnl {X : Cx} {x : Str} (f : Fits C X) (h : C.fn x = true ∨ C.sc.names.lookup x = some .local) : X.fn x = true ∨ X.env.scope.names.lookup x = some .local := h.elim (fun z => .inl (f.fn x z)) fun z => .inr (by rw [f.sc]; exact z)
theorem ds_set (i : Nat) {x : Str} (hN : C.N[i]? = some x) (hx : Loc C.sc x) (h : DE C W e δ m fun d m1 => D.nx (δ.set i (some d)) m1) (hs : ∀ env, swapsWith e (some (.Name x pos')) pos.line env = pure false := by intro _; rfl) (hf : C.fn x = true ∨ C.sc.names.lookup x = some .local := by first | exact .inl rfl | exact .inr rfl | assumption) :
    DS C W (.Assign [.Name x pos'] e pos) δ m D := by
  intro X S f tk σ H T le sl hh
  refine WS.of (ps_set f.nd (i := i) (by rw [f.N]; exact hN) (f.loc hx) we (hs _) (f.fnl hf)) ((h X S f tk σ H T le sl hh).mono fun v H1 ⟨d, m1, h1, q⟩ => ?_)
  exact lift_nx (le.trans Pl.le) ((sl.le Pl.le).set Pl.it) h1 q
theorem ds_ret (h : DE C W e δ m D.rt) : DS C W (.Return (some e) pos) δ m D := fun X S f tk σ H T le sl hh => WS.of (ps_ret we) ((h X S f tk σ H T le sl hh).mono fun v H1 ⟨d, m1, h1, q⟩ => ⟨d, m1, h1.le (Pl.mono le), q⟩)
theorem ds_retN (q : D.rt .non m) : DS C W (.Return none pos) δ m D := fun X S f tk σ H T le sl hh => WS.of ps_retN ⟨.non, m, (hh.le le).pl fun _ _ => .non, q⟩
theorem ds_expr (h : DE C W e δ m fun _ m1 => D.nx δ m1) (hs : ∀ env, swapsWith e none pos.line env = pure false := by intro _; rfl) : DS C W (.Expr e pos) δ m D := fun X S f tk σ H T le sl hh => WS.of (ps_expr we (hs _)) ((h X S f tk σ H T le sl hh).mono fun v H1 ⟨d, m1, h1, q⟩ => lift_nx le sl (h1.le Pl.le) q)
theorem ds_if {as bs : List Stmt} (h : DT C W c δ m fun k m1 => br k (DSs C W as δ m1 D) (DSs C W bs δ m1 D)) : DS C W (.If c as bs pos) δ m D := by
  intro X S f tk σ H T le sl hh
  refine WS.of (ps_if wt wss wss) ((h X S f tk σ H T le sl hh).mono fun k H1 ⟨m1, h1, q⟩ => ?_)
  cases k with
  | true => exact q.1 rfl X S f tk σ H1 T le sl h1
  | false => exact q.2 rfl X S f tk σ H1 T le sl h1
/-- x op= e -/
def OpDi (C : Ct) (op : Operator) (r : R2D) : Prop := ∀ (X : Cx), Fits C X → ∀ (fr : Sto) (H : Hp) (m : Sto) (T : RT) (x y : V) (d e : G.D) (Q : G.D → Sto → Prop), Hd C.K fr H m T → T x d → T y e → r d e m Q → WB X (inplaceOp op) x y H (dK C.K fr T Q)
theorem ds_aug (i : Nat) {x : Str} {op : Operator} {r : R2D} {d0 : G.D} (ho : OpDi C op r) (hN : C.N[i]? = some x) (hx : Loc C.sc x) (hd : δ[i]? = some (some d0)) (h : DE C W e δ m fun d m1 => r d0 d m1 fun z m2 => D.nx (δ.set i (some z)) m2) (hf : C.fn x = true ∨ C.sc.names.lookup x = some .local := by first | exact .inl rfl | exact .inr rfl | assumption) :
    DS C W (.AugAssign (.Name x pos') op e pos) δ m D := by
  intro X S f tk σ H T le sl hh
  obtain ⟨v0, e0, t0⟩ := sl.2 i d0 hd
  refine WS.of (ps_aug (ti := fun x y H Q => WB X (inplaceOp op) x y H Q) f.nd (i := i) (by rw [f.N]; exact hN) (f.loc hx) we (fun pins s σ H x y v u Q I rx ry w => w pins s σ v u I rx ry) (f.fnl hf)) ⟨v0, e0, (h X S f tk σ H T le sl hh).mono fun v H1 ⟨d, m1, h1, q⟩ => ?_⟩
  have w := ho X f S.r H1 m1 _ v0 v d0 d _ h1 (.inl t0) Pl.it q
  exact fun pins s σ' v u I rx ry => thn (w pins s σ' v u I rx ry) fun z s' ⟨zv, H2, I2, r2, d2, m2, h2, q2⟩ => ⟨zv, H2, I2, r2, lift_nx (le.trans (Pl.le.trans Pl.le)) ((sl.le (Pl.le.trans Pl.le)).set Pl.it) h2 q2⟩

/-! ### targets -/
theorem dg_name (i : Nat) {x : Str} {d : G.D} {Q : Sl → Sto → Prop} (hN : C.N[i]? = some x) (hx : Loc C.sc x) (q : Q (δ.set i (some d)) m) (hf : C.fn x = true ∨ C.sc.names.lookup x = some .local := by first | exact .inl rfl | exact .inr rfl | assumption) : DG C W (.Name x pos) d δ m Q :=
  fun X S f tk v σ H T le sl t hh => WG.of (pg_name f.nd (i := i) (by rw [f.N]; exact hN) (f.loc hx) (f.fnl hf)) ⟨_, m, T, Le.refl T, sl.set t, hh, q⟩
/-- several targets -/
def WGs (X : Cx) (ts : List Expr) : TGs := fun vs σ H Q => ∀ (pins : List (Addr × Obj)) (s : Shared) (us : List Value), Inv X pins σ H s → Vals vs us → wpAny (model X.prog X.w) X.A (assignInOrder ((assignEach ts X.env).map (·.2)) us) (fun _ s' => ∃ σ' H', Inv X pins σ' H' s' ∧ Q σ' H') X.xe s
theorem wgs {X : Cx} {ts : List Expr} : PGs X ts (WGs X ts) := ⟨fun pins s σ H vs us Q I r h => h pins s us I r⟩
def DGs (C : Ct) (W : DW) (ts : List Expr) (ds : List G.D) (δ : Sl) (m : Sto) (Q : Sl → Sto → Prop) : Prop :=
  ∀ (X : Cx) (S : Fr), Fits C X → Takes X (liftW C.K W S) → ∀ (vs : List V) (σ : L2.St) (H : Hp) (T : RT), vs.length = ds.length → Le S.t T → SlotsIn σ δ T → Hd C.K S.r H m (PlL T vs ds) → WGs X ts vs σ H fun σ' H' => ∃ δ' m' T', Le T T' ∧ SlotsIn σ' δ' T' ∧ Hd C.K S.r H' m' T' ∧ Q δ' m'
theorem dgs_nil {Q : Sl → Sto → Prop} (q : Q δ m) : DGs C W [] [] δ m Q := fun X S f tk vs σ H T hl le sl hh pins s us I r => pgs_nil.run pins s σ H vs us _ I r ⟨List.length_eq_zero_iff.mp hl, δ, m, T, Le.refl T, sl, hh.le PlL.le, q⟩
theorem dgs_cons {d : G.D} {ds : List G.D} {Q : Sl → Sto → Prop} (h : DG C W e d δ m fun δ1 m1 => DGs C W es ds δ1 m1 Q) (hs : ∀ env, (assignEach (e :: es) env).map (·.2) = assign e env :: (assignEach es env).map (·.2) := by intro _; rfl) : DGs C W (e :: es) (d :: ds) δ m Q := by
  intro X S f tk vs σ H T hl le sl hh pins s us I r
  match vs, hl with
  | v :: vs, hl =>
    refine (pgs_cons wg wgs (hs _)).run pins s σ H (v :: vs) us _ I r ⟨v, vs, rfl, ?_⟩
    have lt : Le T (PlL T (v :: vs) (d :: ds)) := PlL.le
    refine (h X S f tk v σ H _ (le.trans lt) (sl.le lt) (PlL.at (i := 0) rfl rfl) hh).mono fun σ1 H1 ⟨δ1, m1, T1, le1, sl1, h1, q⟩ => ?_
    have l2 : vs.length = ds.length := by simpa using hl
    have hq := q X S f tk vs σ1 H1 T1 l2 (le.trans (lt.trans le1)) sl1 (h1.le fun x y z => z.elim id fun z => le1 x y (.inr (by rw [List.zip_cons_cons]; exact List.mem_cons_of_mem _ z)))
    exact fun pins s us I r => thn (hq pins s us I r) fun _ _ ⟨σ', H', I', δ', m', T', le', sl', hh', q'⟩ => ⟨σ', H', I', δ', m', T', lt.trans (le1.trans le'), sl', hh', q'⟩
theorem dg_tup {k : Nat} {ds : List G.D} {Q : Sl → Sto → Prop} (hl : ds.length = es.length) (h : DGs C W es ds δ m Q) (hn : ∀ env, (assignEach es env).length = es.length := by intro _; rfl) (hst : ∀ env, (assignEach es env).findIdx? (·.1) = none := by intro _; rfl) (hcm : C.cm = true := by rfl) : DG C W (.Tuple es k pos) (.tup ds) δ m Q := by
  intro X S f tk v σ H T le sl t hh
  obtain ⟨p, xs, rfl, hq, hl2, h4⟩ := hh.items t
  refine WG.of (pg_tup (f.calm hcm) wgs (n := es.length) (hn _) (hst _)) ⟨p, xs, rfl, by rw [f.K]; exact hq, by rw [hl2, hl], ?_⟩
  exact h X S f tk xs σ H T hl2 le sl h4
/-- target = value -/
theorem ds_asg {tg : Expr} (h : DE C W e δ m fun d m1 => DG C W tg d δ m1 D.nx) (hs : ∀ env, swapsWithSole [tg] e pos.line env = pure false := by intro _; rfl) (hw : ∀ env, swappedStores [tg] e env = pure none := by intro _; rfl)
    (h1 : ∀ env, (assignEach [tg] env).map (·.2) = [assign tg env] := by intro _; rfl) : DS C W (.Assign [tg] e pos) δ m D := by
  intro X S f tk σ H T le sl hh
  refine WS.of (ps_asg we wg (hs _) (hw _) (h1 _)) ((h X S f tk σ H T le sl hh).mono fun v H1 ⟨d, m1, h1, q⟩ => ?_)
  refine (q X S f tk v σ H1 _ (le.trans Pl.le) (sl.le Pl.le) Pl.it h1).mono fun σ2 H2 ⟨δ2, m2, T2, le2, sl2, h2, q2⟩ => ?_
  exact lift_nx (le.trans (Pl.le.trans le2)) sl2 h2 q2
/-- o[i] = e, o a list of the store -/
def setD (x y d : G.D) (m : Sto) (k : Sto → Prop) : Prop := ∃ p ds i j, x = .ref p ∧ y = .int i ∧ m p = some (.lst ds) ∧ ixN ds.length i = some j ∧ k (sput m p (.lst (ds.set j d)))
theorem ds_setitem {o i : Expr} (h : DE C W e δ m fun d m1 => DE C W o δ m1 fun x m2 => DE C W i δ m2 fun y m3 => setD x y d m3 (D.nx δ))
    (hs : ∀ env, swapsWithSole [.Subscript o i pos'] e pos.line env = pure false := by intro _; rfl) (hw : ∀ env, swappedStores [.Subscript o i pos'] e env = pure none := by intro _; rfl)
    (h1 : ∀ env, (assignEach [.Subscript o i pos'] env).map (·.2) = [assign (.Subscript o i pos') env] := by intro _; rfl)
    (ha : ∀ env v, assign (.Subscript o i pos') env v = (do
      let ov ← holding [v] (eval o env)
      let iv ← holding [v, ov] (eval i env)
      standAt pos'
      holding [v, ov, iv] (setItem ov iv v)
      release [v, ov, iv] []) := by intro _ _; rfl) : DS C W (.Assign [.Subscript o i pos'] e pos) δ m D := by
  intro X S f tk σ H T le sl hh
  refine WS.of (ps_asg we (pg_sub we we set_list (ha _)) (hs _) (hw _) (h1 _)) ((h X S f tk σ H T le sl hh).mono fun v H1 ⟨d, m1, h1, q⟩ => ?_)
  refine (q X S f tk σ H1 _ (le.trans Pl.le) (sl.le Pl.le) h1).mono fun u H2 ⟨x, m2, h2, q2⟩ => ?_
  refine (q2 X S f tk σ H2 _ (le.trans (Pl.le.trans Pl.le)) (sl.le (Pl.le.trans Pl.le)) h2).mono fun w H3 ⟨y, m3, h3, p, ds, k, j, ex, ey, hm, hj, q3⟩ => ?_
  subst ex ey
  have ru := h3.rep (.inl Pl.it : Pl (Pl (Pl T v d) u (.ref p)) w (.int k) u (.ref p))
  have rw' := h3.rep (Pl.it (T := Pl (Pl T v d) u (.ref p)) (v := w) (d := .int k))
  cases ru
  cases rw'
  obtain ⟨xs, hq, hl, _⟩ := h3.itemsO hm
  refine ⟨p, xs, k, j, rfl, rfl, hq, by rw [hl]; exact hj, ?_⟩
  have h4 := h3.mut (u' := .lst (xs.set j v)) (o' := .lst (ds.set j d)) hm hq fun Hi r kk => RepL.set j r (kk v d (.inl (.inl Pl.it)))
  exact lift_nx (le.trans (Pl.le.trans (Pl.le.trans Pl.le))) (sl.le (Pl.le.trans (Pl.le.trans Pl.le))) h4 q3

/-! ### what a for walks -/
def WI (X : Cx) (tg iter : Expr) : TI := fun σ H R => ∀ (pins : List (Addr × Obj)) (s : Shared), Inv X pins σ H s → wpAny (model X.prog X.w) X.A (eval iter X.env) (fun v s1 => wpAny (model X.prog X.w) X.A (pyIter v) (PIE X pins σ tg R) X.xe s1) X.xe s
theorem wi {X : Cx} {tg iter : Expr} : PI X tg iter (WI X tg iter) := ⟨fun pins s σ H R I h => h pins s I⟩
theorem WI.of {X : Cx} {tg iter : Expr} {w : TI} {σ : L2.St} {H : Hp} {R : It → Hp → Prop} (p : PI X tg iter w) (h : w σ H R) : WI X tg iter σ H R := fun pins s I => p.run pins s σ H R I h
theorem WI.mono {X : Cx} {tg iter : Expr} {σ : L2.St} {H : Hp} {R R' : It → Hp → Prop} (h : WI X tg iter σ H R) (k : ∀ J H', R J H' → R' J H') : WI X tg iter σ H R' := fun pins s I => thn (h pins s I) fun _ _ q => thn q fun _ _ ⟨it, fp, tn, J, H', e, I', Tn, t0, fr, r⟩ => ⟨it, fp, tn, J, H', e, I', Tn, t0, fr, k _ _ r⟩
/-- J walks the data ds, whatever else happens while T' holds -/
structure Walks (K : PySem.W.Frag) (J : It) (ds : List G.D) (T' : RT) : Prop where
  go : ∀ (i : Nat) (r : Sto) (H : Hp) (m : Sto) (T : RT), i < ds.length → Le T' T → Hd K r H m T → J.go i H
  yld : ∀ (i : Nat) (r : Sto) (H H' : Hp) (m : Sto) (T : RT) (x : V) (d : G.D), ds[i]? = some d → Le T' T → Hd K r H m T → J.yld i H x H' → Hd K r H' m (Pl T x d)
  stop : ∀ (i : Nat) (r : Sto) (H : Hp) (m : Sto) (T : RT), ds.length ≤ i → Le T' T → Hd K r H m T → J.stop i H
def DI (C : Ct) (W : DW) (tg iter : Expr) (δ : Sl) (m : Sto) (R : List G.D → Sto → Prop) : Prop :=
  ∀ (X : Cx) (S : Fr), Fits C X → Takes X (liftW C.K W S) → ∀ (σ : L2.St) (H : Hp) (T : RT), Le S.t T → SlotsIn σ δ T → Hd C.K S.r H m T → WI X tg iter σ H fun J H' => ∃ ds m' T', Le T T' ∧ Hd C.K S.r H' m' T' ∧ Walks C.K J ds T' ∧ R ds m'
variable {tg iter : Expr}
/-- a list, a tuple that is data -/
theorem di_lst {R : List G.D → Sto → Prop} (h : DE C W e δ m fun d m1 => ∃ ds, d = .lst ds ∧ R ds m1) : DI C W tg e δ m R := by
  intro X S f tk σ H T le sl hh
  refine WI.of (pi_list we) ((h X S f tk σ H T le sl hh).mono fun v H1 ⟨d, m1, h1, ds, ed, q⟩ => ?_)
  subst ed
  obtain ⟨p, xs, rfl, hq, hl, h4⟩ := h1.itemsL Pl.it
  refine ⟨p, rfl, ⟨xs, SqL.of hq⟩, ds, m1, _, Pl.le, h1, ?_, q⟩
  have at_ : ∀ (r : Sto) (H : Hp) (m : Sto) (T' : RT), Le (Pl T (.ref p) (.lst ds)) T' → Hd C.K r H m T' → ∃ ys, H p = some (.lst ys) ∧ ys.length = ds.length ∧ Hd C.K r H m (PlL T' ys ds) := fun r H m T' l hd => by
    obtain ⟨p', ys, e, hy, l2, h5⟩ := hd.itemsL (l _ _ Pl.it)
    cases e
    exact ⟨ys, hy, l2, h5⟩
  refine ⟨fun i r H m T' hi l hd => ?_, fun i r H H' m T' x d hi l hd y => ?_, fun i r H m T' hi l hd => ?_⟩
  · obtain ⟨ys, hy, l2, _⟩ := at_ r H m T' l hd
    exact ⟨ys, ys[i], SqL.of hy, List.getElem?_eq_getElem (by omega)⟩
  · obtain ⟨ys, hy, l2, h5⟩ := at_ r H m T' l hd
    obtain ⟨e, y⟩ := y
    subst e
    exact (h5.again (PlL.at (y ys (SqL.of hy)) hi)).le (Pl.mono PlL.le)
  · obtain ⟨ys, hy, l2, _⟩ := at_ r H m T' l hd
    exact ⟨ys, SqL.of hy, by omega⟩
theorem di_tup {R : List G.D → Sto → Prop} (h : DE C W e δ m fun d m1 => ∃ ds, d = .tup ds ∧ R ds m1) : DI C W tg e δ m R := by
  intro X S f tk σ H T le sl hh
  refine WI.of (pi_tup we) ((h X S f tk σ H T le sl hh).mono fun v H1 ⟨d, m1, h1, ds, ed, q⟩ => ?_)
  subst ed
  obtain ⟨p, xs, rfl, hq, hl, h4⟩ := h1.items Pl.it
  refine ⟨p, rfl, ⟨xs, by rw [f.K]; exact hq⟩, ds, m1, _, Pl.le, h1, ?_, q⟩
  have at_ : ∀ (r : Sto) (H : Hp) (m : Sto) (T' : RT), Le (Pl T (.ref p) (.tup ds)) T' → Hd C.K r H m T' → ∃ ys, SqT C.K H p ys ∧ ys.length = ds.length ∧ Hd C.K r H m (PlL T' ys ds) := fun r H m T' l hd => by
    obtain ⟨p', ys, e, hy, l2, h5⟩ := hd.items (l _ _ Pl.it)
    cases e
    exact ⟨ys, hy, l2, h5⟩
  rw [f.K]
  refine ⟨fun i r H m T' hi l hd => ?_, fun i r H H' m T' x d hi l hd y => ?_, fun i r H m T' hi l hd => ?_⟩
  · obtain ⟨ys, hy, l2, _⟩ := at_ r H m T' l hd
    exact ⟨ys, ys[i], hy, List.getElem?_eq_getElem (by omega)⟩
  · obtain ⟨ys, hy, l2, h5⟩ := at_ r H m T' l hd
    obtain ⟨e, y⟩ := y
    subst e
    exact (h5.again (PlL.at (y ys hy) hi)).le (Pl.mono PlL.le)
  · obtain ⟨ys, hy, l2, _⟩ := at_ r H m T' l hd
    exact ⟨ys, hy, by omega⟩
/-- lo, lo + 1, .. -/
def rngD (lo : Int) (n : Nat) : List G.D := (List.range n).map fun i => .int (lo + (i : Nat))
theorem rngD_len {lo : Int} {n : Nat} : (rngD lo n).length = n := by simp [rngD]
theorem rngD_get {lo : Int} {n i : Nat} {d : G.D} (h : (rngD lo n)[i]? = some d) : i < n ∧ d = .int (lo + (i : Nat)) := by
  have hi : i < n := by
    have := (List.getElem?_eq_some_iff.mp h).1
    rwa [rngD_len] at this
  refine ⟨hi, ?_⟩
  rw [rngD, List.getElem?_map, List.getElem?_range hi] at h
  exact (Option.some.inj h).symm
theorem walks_rng {K : PySem.W.Frag} {lo : Int} {n : Nat} {T : RT} : Walks K (Itr lo n) (rngD lo n) T :=
  ⟨fun i r H m T' hi l hd => by rw [rngD_len] at hi; exact hi, fun i r H H' m T' x d hi l hd y => by
    obtain ⟨e, ex⟩ := y
    subst e ex
    obtain ⟨_, ed⟩ := rngD_get hi
    subst ed
    exact hd.pl fun _ _ => .int _, fun i r H m T' hi l hd => by rw [rngD_len] at hi; exact hi⟩
theorem di_rng1 {R : List G.D → Sto → Prop} {p : Pos} (hg : GlC C "range") (hm : C.mg "range" = none) (h : DE C W a δ m fun d m1 => ∃ j : Int, d = .int j ∧ -(2 ^ 62) ≤ j ∧ j < 2 ^ 62 ∧ R (rngD 0 j.toNat) m1) (hs : ∀ env, starEach [a] env = [(false, eval a env)] := by intro _; rfl) : DI C W tg (.Call (.Name "range" p) [a] [] pos) δ m R := by
  intro X S f tk σ H T le sl hh
  refine WI.of (pi_range1 (f.gl hg) (by rw [f.mg]; exact hm) (pa_cons we pa_nil (by rw [hs]; rfl)) (hs _)) ((h X S f tk σ H T le sl hh).mono fun v H1 ⟨d, m1, h1, j, ed, b1, b2, q⟩ => ?_)
  subst ed
  have r := h1.rep Pl.it
  cases r
  exact ⟨j, rfl, b1, b2, _, m1, _, Pl.le, h1, walks_rng, q⟩
theorem di_rng2 {R : List G.D → Sto → Prop} {p : Pos} (hg : GlC C "range") (hm : C.mg "range" = none) (h : DE C W a δ m fun d m1 => DE C W b δ m1 fun d2 m2 => ∃ i j : Int, d = .int i ∧ d2 = .int j ∧ (-(2 ^ 62) ≤ i ∧ i < 2 ^ 62 ∧ -(2 ^ 62) ≤ j ∧ j < 2 ^ 62) ∧ R (rngD i (j - i).toNat) m2)
    (hs : ∀ env, starEach [a, b] env = [(false, eval a env), (false, eval b env)] := by intro _; rfl) (hs2 : ∀ env, starEach [b] env = [(false, eval b env)] := by intro _; rfl) : DI C W tg (.Call (.Name "range" p) [a, b] [] pos) δ m R := by
  intro X S f tk σ H T le sl hh
  refine WI.of (pi_range2 (f.gl hg) (by rw [f.mg]; exact hm) (pa_cons we (pa_cons we pa_nil (by rw [hs2]; rfl)) (by rw [hs, hs2])) (hs _) (hs2 _)) ((h X S f tk σ H T le sl hh).mono fun v H1 ⟨d, m1, h1, q1⟩ => ?_)
  refine (q1 X S f tk σ H1 _ (le.trans Pl.le) (sl.le Pl.le) h1).mono fun u H2 ⟨d2, m2, h2, i, j, e1, e2, bd, q⟩ => ?_
  subst e1 e2
  have r1 := h2.rep (.inl Pl.it : Pl (Pl T v (.int i)) u (.int j) v (.int i))
  have r2 := h2.rep (Pl.it (T := Pl T v (.int i)) (v := u) (d := .int j))
  cases r1
  cases r2
  exact ⟨i, j, rfl, bd, _, m2, _, Pl.le.trans Pl.le, h2, walks_rng, q⟩
/-- for: I holds behind i turns -/
theorem ds_for {body : List Stmt} (h : DI C W tg iter δ m fun ds m1 => ∃ I : Nat → Sl → Sto → Prop, I 0 δ m1 ∧ (∀ (i : Nat) (d : G.D) (δ' : Sl) (m' : Sto), ds[i]? = some d → I i δ' m' → DG C W tg d δ' m' fun δ2 m2 => DSs C W body δ2 m2 { D with nx := I (i + 1), ct := I (i + 1), bk := D.nx }) ∧ ∀ δ' m', I ds.length δ' m' → D.nx δ' m')
    (hs : ∀ env x, foldedSetIterable iter env x = pure x := by intro _ _; rfl) (hcm : C.cm = true := by rfl) : DS C W (.For tg iter body [] pos) δ m D := by
  intro X S f tk σ H T le sl hh
  refine WS.of (ps_for f.own (f.calm hcm) wi wg wss (hs _)) ((h X S f tk σ H T le sl hh).mono fun J H1 ⟨ds, m1, T1, le1, h1, wk, I, h0, hstep, hend⟩ => ?_)
  refine ⟨fun i n σ' H' => n = ds.length - i ∧ i ≤ ds.length ∧ ∃ δ' m' T', Le T1 T' ∧ SlotsIn σ' δ' T' ∧ Hd C.K S.r H' m' T' ∧ I i δ' m', ⟨ds.length, by simp, Nat.zero_le _, δ, m1, T1, Le.refl _, sl.le le1, h1, h0⟩, ?_⟩
  rintro i n σ' H' ⟨rfl, hi, δ', m', T', le', sl', hh', ih⟩
  by_cases hlt : i < ds.length
  · refine .inr ⟨wk.go i S.r H' m' T' hlt le' hh', fun σ2 H2 => i + 1 ≤ ds.length ∧ ∃ δ' m' T', Le T1 T' ∧ SlotsIn σ2 δ' T' ∧ Hd C.K S.r H2 m' T' ∧ I (i + 1) δ' m', fun σ2 H2 ⟨a, b⟩ => ⟨ds.length - (i + 1), by omega, rfl, a, b⟩, fun x H2 y => ?_⟩
    have hd := List.getElem?_eq_getElem hlt
    have h2 := wk.yld i S.r H' H2 m' T' x _ hd le' hh' y
    refine (hstep i _ δ' m' hd ih X S f tk x σ' H2 _ (le.trans (le1.trans (le'.trans Pl.le))) (sl'.le Pl.le) Pl.it h2).mono fun σ3 H3 ⟨δ3, m3, T3, le3, sl3, h3, q3⟩ => ?_
    -- the body keeps what holds: S is taken as wide as T1
    have tk1 : Takes X (liftW C.K W S) := tk
    refine (q3 X ⟨T1, S.r⟩ f ?_ σ3 H3 T3 (le'.trans (Pl.le.trans le3)) sl3 h3).mono (fun σ4 H4 ⟨δ4, m4, T4, le4, sl4, h4, q4⟩ => ⟨hlt, δ4, m4, T4, le4, sl4, h4, q4⟩) (fun v4 H4 ⟨d4, m4, h4, q4⟩ => ⟨d4, m4, h4.le (Pl.mono (le.trans le1)), q4⟩) (fun σ4 H4 ⟨δ4, m4, T4, le4, sl4, h4, q4⟩ => ⟨δ4, m4, T4, (le.trans le1).trans le4, sl4, h4, q4⟩) (fun σ4 H4 ⟨δ4, m4, T4, le4, sl4, h4, q4⟩ => ⟨hlt, δ4, m4, T4, le4, sl4, h4, q4⟩)
    exact tk.imp fun c d σ5 H5 ⟨δ5, m5, T5, fs, le5, r5⟩ => ⟨δ5, m5, T5, fs, (le.trans le1).trans le5, r5⟩
  · have e : i = ds.length := by omega
    subst e
    exact .inl ⟨wk.stop _ S.r H' m' T' (Nat.le_refl _) le' hh', lift_nx (le.trans (le1.trans le')) sl' hh' (hend _ _ ih)⟩
end
end G

/-! The data layer's rules: list comprehensions; defs and their calls; the law's own end. -/
namespace G
open PySem PySem.Spec PyProof.Rows L2

/-- nothing is raised -/
abbrev W0 : DW := fun _ _ _ _ => False
theorem takes_W0 {X : Cx} {K : PySem.W.Frag} {S : Fr} : Takes X (liftW K W0 S) := fun _ _ x => by
  obtain ⟨_, _, _, _, _, _, _, _, _, _, _, _, _, _, _, _, _, _, _, _, _, _, _, _, z⟩ := x
  exact z.elim
def wipeS (δ : Sl) : List Nat → Sl
  | [] => δ
  | v :: vs => (wipeS δ vs).set v none
theorem SlotsIn.wipe {σ : L2.St} {δ : Sl} {T : RT} (h : SlotsIn σ δ T) : ∀ vs : List Nat, SlotsIn (L2.wipe σ vs) (wipeS δ vs) T
  | [] => h
  | v :: vs => (h.wipe vs).unset
theorem wipe_set {σ : L2.St} {i : Nat} {x : Option V} : ∀ {vs : List Nat}, i ∈ vs → L2.wipe (σ.set i x) vs = L2.wipe σ vs
  | v :: vs, h => by
    show (L2.wipe (σ.set i x) vs).set v none = (L2.wipe σ vs).set v none
    by_cases hv : i ∈ vs
    · rw [wipe_set hv]
    · have e : i = v := by
        rcases List.mem_cons.mp h with e | e
        · exact e
        · exact absurd e hv
      subst e
      have q : ∀ (ws : List Nat), i ∉ ws → L2.wipe (σ.set i x) ws = (L2.wipe σ ws).set i x := by
        intro ws
        induction ws with
        | nil => intro _; rfl
        | cons w ws ih =>
          intro hw
          have hw1 : i ≠ w := fun e => hw (by rw [e]; exact List.mem_cons_self)
          show (L2.wipe (σ.set i x) ws).set w none = ((L2.wipe σ ws).set w none).set i x
          rw [ih fun z => hw (List.mem_cons_of_mem _ z), List.set_comm _ _ hw1]
      rw [q vs hv, List.set_set]
theorem wipe_sub {σ : L2.St} {vs : List Nat} : ∀ {ws : List Nat}, (∀ i ∈ ws, i ∈ vs) → L2.wipe (L2.wipe σ ws) vs = L2.wipe σ vs
  | [], _ => rfl
  | w :: ws, h => by
    show L2.wipe ((L2.wipe σ ws).set w none) vs = _
    rw [wipe_set (h w List.mem_cons_self), wipe_sub fun i hi => h i (List.mem_cons_of_mem _ hi)]
theorem wipe_idem {σ : L2.St} {vs : List Nat} : L2.wipe (L2.wipe σ vs) vs = L2.wipe σ vs := wipe_sub fun _ h => h
/-- the context of a comprehension's block -/
def Ct.blk (C : Ct) (scope : Scope) : Ct := { C with sc := relS scope C.sc, fn := fun x => scope.names.lookup x == some .cell, tr := false, ex := none }
theorem Fits.blk {C : Ct} {X : Cx} (f : Fits C X) {s : Shared} {H : Hp} {scope : Scope} {cl : List (Str × Addr)} {c : Addr} {fp : List Addr} : Fits (C.blk scope) (X.blk s H scope (compEnvC scope cl c X.env) fp) where
  prog := f.prog
  w := f.w
  K := f.K
  mg := f.mg
  base := f.base
  N := f.N
  sc := by show relS scope X.env.scope = relS scope C.sc; rw [f.sc]
  fn := fun x h => h
  nd := f.nd
  un := f.un
  room := f.room
  calm := f.calm
  own := PassesOwn.never
  tr := fun z => nomatch z
  ex := fun _ _ e => nomatch e

section
variable {C : Ct} {W : DW} {δ : Sl} {m : Sto} {a b c e : Expr} {es : List Expr} {pos pos' : Pos}
/-- a target of a comprehension: its own slots alone are stored -/
def DGv (C : Ct) (vs : List Nat) (tg : Expr) (d : D) (δ : Sl) (m : Sto) (Q : Sl → Sto → Prop) : Prop :=
  ∀ (X : Cx) (S : Fr), Fits C X → ∀ (v : V) (σ : L2.St) (H : Hp) (T : RT), Le S.t T → SlotsIn σ δ T → T v d → Hd C.K S.r H m T → WG X tg v σ H fun σ' H' => wipe σ' vs = wipe σ vs ∧ ∃ δ' m' T', Le T T' ∧ SlotsIn σ' δ' T' ∧ Hd C.K S.r H' m' T' ∧ Q δ' m'
theorem dgv_name {vs : List Nat} (i : Nat) (hi : i ∈ vs) {x : Str} {d : D} {Q : Sl → Sto → Prop} (hN : C.N[i]? = some x) (hx : Loc C.sc x) (q : Q (δ.set i (some d)) m) (hf : C.fn x = true ∨ C.sc.names.lookup x = some .local := by first | exact .inl rfl | exact .inr rfl | assumption) : DGv C vs (.Name x pos) d δ m Q :=
  fun X S f v σ H T le sl t hh => WG.of (pg_name f.nd (i := i) (by rw [f.N]; exact hN) (f.loc hx) (f.fnl hf)) ⟨wipe_set hi, _, m, T, Le.refl T, sl.set t, hh, q⟩
def DGsv (C : Ct) (vs : List Nat) (ts : List Expr) (ds : List D) (δ : Sl) (m : Sto) (Q : Sl → Sto → Prop) : Prop :=
  ∀ (X : Cx) (S : Fr), Fits C X → ∀ (us : List V) (σ : L2.St) (H : Hp) (T : RT), us.length = ds.length → Le S.t T → SlotsIn σ δ T → Hd C.K S.r H m (PlL T us ds) → WGs X ts us σ H fun σ' H' => wipe σ' vs = wipe σ vs ∧ ∃ δ' m' T', Le T T' ∧ SlotsIn σ' δ' T' ∧ Hd C.K S.r H' m' T' ∧ Q δ' m'
theorem dgsv_nil {vs : List Nat} {Q : Sl → Sto → Prop} (q : Q δ m) : DGsv C vs [] [] δ m Q := fun X S f us σ H T hl le sl hh pins s ws I r => pgs_nil.run pins s σ H us ws _ I r ⟨List.length_eq_zero_iff.mp hl, rfl, δ, m, T, Le.refl T, sl, hh.le PlL.le, q⟩
theorem dgsv_cons {vs : List Nat} {d : D} {ds : List D} {Q : Sl → Sto → Prop} (h : DGv C vs e d δ m fun δ1 m1 => DGsv C vs es ds δ1 m1 Q) (hs : ∀ env, (assignEach (e :: es) env).map (·.2) = assign e env :: (assignEach es env).map (·.2) := by intro _; rfl) : DGsv C vs (e :: es) (d :: ds) δ m Q := by
  intro X S f us σ H T hl le sl hh pins s ws I r
  match us, hl with
  | v :: us, hl =>
    refine (pgs_cons wg wgs (hs _)).run pins s σ H (v :: us) ws _ I r ⟨v, us, rfl, ?_⟩
    have lt : Le T (PlL T (v :: us) (d :: ds)) := PlL.le
    refine (h X S f v σ H _ (le.trans lt) (sl.le lt) (PlL.at (i := 0) rfl rfl) hh).mono fun σ1 H1 ⟨w1, δ1, m1, T1, le1, sl1, h1, q⟩ => ?_
    have l2 : us.length = ds.length := by simpa using hl
    have hq := q X S f us σ1 H1 T1 l2 (le.trans (lt.trans le1)) sl1 (h1.le fun x y z => z.elim id fun z => le1 x y (.inr (by rw [List.zip_cons_cons]; exact List.mem_cons_of_mem _ z)))
    exact fun pins s us I r => thn (hq pins s us I r) fun _ _ ⟨σ', H', I', w', δ', m', T', le', sl', hh', q'⟩ => ⟨σ', H', I', w'.trans w1, δ', m', T', lt.trans (le1.trans le'), sl', hh', q'⟩
theorem dgv_tup {vs : List Nat} {k : Nat} {ds : List D} {Q : Sl → Sto → Prop} (hl : ds.length = es.length) (h : DGsv C vs es ds δ m Q) (hn : ∀ env, (assignEach es env).length = es.length := by intro _; rfl) (hst : ∀ env, (assignEach es env).findIdx? (·.1) = none := by intro _; rfl) (hcm : C.cm = true := by rfl) : DGv C vs (.Tuple es k pos) (.tup ds) δ m Q := by
  intro X S f v σ H T le sl t hh
  obtain ⟨p, xs, rfl, hq, hl2, h4⟩ := hh.items t
  refine WG.of (pg_tup (f.calm hcm) wgs (n := es.length) (hn _) (hst _)) ⟨p, xs, rfl, by rw [f.K]; exact hq, by rw [hl2, hl], ?_⟩
  exact h X S f xs σ H T hl2 le sl h4
/-- the tests of a clause -/
def WTs (X : Cx) (ifs : List Expr) : TT := fun σ H Q => ∀ (pins : List (Addr × Obj)) (s : Shared), Inv X pins σ H s → wpAny (model X.prog X.w) X.A (forIn ifs true fun c r => if r = true then do let ok ← isTrue c X.env (eval c X.env); pure (ForInStep.yield ok) else pure (ForInStep.yield r)) (TP X pins σ Q) X.xe s
theorem WTs.mono {X : Cx} {ifs : List Expr} {σ : L2.St} {H : Hp} {Q Q' : Bool → Hp → Prop} (h : WTs X ifs σ H Q) (k : ∀ v H', Q v H' → Q' v H') : WTs X ifs σ H Q' := fun pins s I => thn (h pins s I) fun b _ ⟨H', I', q⟩ => ⟨H', I', k b H' q⟩
theorem wts {X : Cx} {ifs : List Expr} : PTs X ifs (WTs X ifs) := ⟨fun pins s _ _ _ I h => h pins s I⟩
def DTs (C : Ct) (W : DW) (ifs : List Expr) (δ : Sl) (m : Sto) (Q : Bool → Sto → Prop) : Prop :=
  ∀ (X : Cx) (S : Fr), Fits C X → Takes X (liftW C.K W S) → ∀ (σ : L2.St) (H : Hp) (T : RT), Le S.t T → SlotsIn σ δ T → Hd C.K S.r H m T → WTs X ifs σ H fun b H' => ∃ m', Hd C.K S.r H' m' T ∧ Q b m'
theorem dts_nil {Q : Bool → Sto → Prop} (q : Q true m) : DTs C W [] δ m Q := fun X S f tk σ H T le sl hh pins s I => pts_nil.run pins s σ H _ I ⟨m, hh, q⟩
theorem dts_one {Q : Bool → Sto → Prop} (h : DT C W c δ m Q) : DTs C W [c] δ m Q := fun X S f tk σ H T le sl hh pins s I => (pts_one wt).run pins s σ H _ I (h X S f tk σ H T le sl hh)
def sone (a : Addr) (o : O) : Sto := fun b => if b = a then some o else none
theorem sun_one {m : Sto} {p : Addr} {o : O} (h : m p = none) : sun m (sone p o) = sput m p o := by
  funext x
  by_cases e : x = p
  · subst e
    rw [sun_r h, sput_same]
    exact if_pos rfl
  · rw [sput_ne e]
    cases q : m x with
    | none => rw [sun_r q]; exact if_neg e
    | some u => rw [sun_l q]
theorem sdj_one {m : Sto} {p : Addr} {o : O} (h : m p = none) : sdj m (sone p o) := fun a u e => by
  refine if_neg fun z => ?_
  subst z
  rw [h] at e; cases e
theorem sput_del {m : Sto} {p : Addr} {o : O} : sdel (sput m p o) p = sdel m p := by
  funext x
  unfold sdel sput
  split <;> rfl
theorem sput_back {m : Sto} {p : Addr} {o : O} (h : m p = some o) : sput (sdel m p) p o = m := by
  funext x
  by_cases e : x = p
  · subst e; rw [sput_same, h]
  · rw [sput_ne e, sdel_ne e]

/-- the readings of a block, the widest -/
def rdE (X : Cx) (scope : Scope) (elt : Expr) : TE := fun σ H Q => ∀ (s : Shared) (H0 : Hp) (c : Addr) (cl : List (Str × Addr)) (fp : List Addr), WE (X.blk s H0 scope (compEnvC scope cl c X.env) fp) elt σ H Q
def rdT (X : Cx) (scope : Scope) (ifs : List Expr) : TT := fun σ H Q => ∀ (s : Shared) (H0 : Hp) (c : Addr) (cl : List (Str × Addr)) (fp : List Addr), WTs (X.blk s H0 scope (compEnvC scope cl c X.env) fp) ifs σ H Q
def rdG (X : Cx) (scope : Scope) (tg : Expr) : TG := fun v σ H Q => ∀ (s : Shared) (H0 : Hp) (c : Addr) (cl : List (Str × Addr)) (fp : List Addr), WG (X.blk s H0 scope (compEnvC scope cl c X.env) fp) tg v σ H Q
/-- what a list comprehension is to show: I of the turn, what is made so far, the store -/
def LcI (C : Ct) (W : DW) (elt tg iter : Expr) (ifs : List Expr) (scope : Scope) (own : List (Str × Nat)) (δ : Sl) (m : Sto) (Q : D → Sto → Prop) : Prop :=
  DI C W tg iter δ m fun ds m1 => ∃ I : Nat → List D → Sto → Prop, I 0 [] m1 ∧ (∀ (i : Nat) (d : D) (acc : List D) (m' : Sto), ds[i]? = some d → I i acc m' →
      DGv (C.blk scope) (own.map (·.2)) tg d (wipeS δ (own.map (·.2))) m' fun δ2 m2 => DTs (C.blk scope) W0 ifs δ2 m2 fun k m3 => br k (DE (C.blk scope) W0 elt δ2 m3 fun y m4 => acc.length < sizeLine ∧ I (i + 1) (acc ++ [y]) m4) (I (i + 1) acc m3)) ∧
      ∀ acc m', I ds.length acc m' → Q (.lst acc) m'
theorem lc_read {elt tg iter : Expr} {ifs : List Expr} {scope : Scope} {own : List (Str × Nat)} {Q : D → Sto → Prop} (h : LcI C W elt tg iter ifs scope own δ m Q)
    {X : Cx} {S : Fr} (f : Fits C X) (tk : Takes X (liftW C.K W S)) {σ : L2.St} {H : Hp} {T : RT} (le : Le S.t T) (sl : SlotsIn σ δ T) (hh : Hd C.K S.r H m T) {Qv : VK} (fin : ∀ p H' acc m' T', Le T T' → m' p = none → Hd C.K S.r H' (sput m' p (.lst acc)) T' → Q (.lst acc) m' → Qv (.ref p) H') :
    tLc (WI X tg iter) (rdG X scope tg) (rdT X scope ifs) (rdE X scope elt) (own.map (·.2)) σ H Qv := by
  refine WI.mono (h X S f tk σ H T le sl hh) fun J H1 ⟨ds, m1, T1, le1, h1, wk, I, i0, istep, iend⟩ Dp hD => ?_
  have hm1 := h1.free hD
  have h0 : Hd C.K S.r (upd H1 Dp (.lst [])) (sput m1 Dp (.lst [])) (Pl T1 (.ref Dp) (.ref Dp)) := h1.newM (o := .lst []) hD fun _ _ => RepL.nil
  show ∃ W : Nat → Nat → Hp → Prop, _
  refine Exists.intro (fun (i n : Nat) (H' : Hp) => n = ds.length - i ∧ i ≤ ds.length ∧ ∃ (acc : List D) (m' : Sto) (T' : RT), Le T1 T' ∧ m' Dp = none ∧ Hd C.K S.r H' (sput m' Dp (.lst acc)) T' ∧ I i acc m') (And.intro (Exists.intro ds.length ?_) ?_)
  · exact ⟨rfl, Nat.zero_le _, [], m1, _, Pl.le, hm1, h0, i0⟩
  rintro i n H' ⟨rfl, hi, acc, m', T', le', hm', hh', ih⟩
  have drop : Hd C.K S.r H' (sput m' Dp (.lst acc)) T' → Hd C.K (sun (sone Dp (.lst acc)) S.r) H' m' T' := fun z => by
    rw [← sun_one hm'] at z
    exact z.push (sdj_one hm')
  by_cases hlt : i < ds.length
  · refine .inr ⟨wk.go i S.r H' _ T' hlt le' hh', fun H2 => i + 1 ≤ ds.length ∧ ∃ acc m' T', Le T1 T' ∧ m' Dp = none ∧ Hd C.K S.r H2 (sput m' Dp (.lst acc)) T' ∧ I (i + 1) acc m', fun H2 ⟨u, v⟩ => ⟨ds.length - (i + 1), by omega, rfl, u, v⟩, fun x H2 y => ?_⟩
    have hd := List.getElem?_eq_getElem hlt
    have h2 := drop hh'
    have h2 : Hd C.K (sun (sone Dp (.lst acc)) S.r) H2 m' (Pl T' x _) := wk.yld i _ H' H2 m' T' x _ hd le' h2 y
    have dj1 : sdj (sone Dp (.lst acc)) S.r := fun b u eb => by
      unfold sone at eb
      split at eb
      · rename_i e
        subst e
        exact hh'.1 b _ sput_same
      · cases eb
    have slw := (sl.le (le1.trans le')).wipe (own.map (·.2))
    have st := istep i _ acc m' hd ih
    have leS : Le S.t (Pl T' x ds[i]) := le.trans (le1.trans (le'.trans Pl.le))
    -- behind the element, or behind the test alone
    intro s H0 cc cl fp
    have fb : Fits (C.blk scope) (X.blk s H0 scope (compEnvC scope cl cc X.env) fp) := f.blk
    refine WG.mono (st (X.blk s H0 scope (compEnvC scope cl cc X.env) fp) ⟨S.t, sun (sone Dp (.lst acc)) S.r⟩ fb x (wipe σ (own.map (·.2))) H2 _ leS (slw.le Pl.le) Pl.it h2) ?_
    rintro σ3 H3 ⟨w3, δ3, m3, T3, le3, sl3, h3, q3⟩
    refine ⟨w3.trans wipe_idem, ?_⟩
    intro s' H0' cc' cl' fp'
    have fb' : Fits (C.blk scope) (X.blk s' H0' scope (compEnvC scope cl' cc' X.env) fp') := f.blk
    refine WTs.mono (q3 (X.blk s' H0' scope (compEnvC scope cl' cc' X.env) fp') ⟨S.t, sun (sone Dp (.lst acc)) S.r⟩ fb' takes_W0 σ3 H3 T3 (leS.trans le3) sl3 h3) fun k H4 ⟨m4, h4, q4⟩ => ?_
    cases k with
    | true =>
      rw [if_pos rfl]
      intro s'' H0'' cc'' cl'' fp''
      have fb'' : Fits (C.blk scope) (X.blk s'' H0'' scope (compEnvC scope cl'' cc'' X.env) fp'') := f.blk
      refine (q4.1 rfl (X.blk s'' H0'' scope (compEnvC scope cl'' cc'' X.env) fp'') ⟨S.t, sun (sone Dp (.lst acc)) S.r⟩ fb'' takes_W0 σ3 H4 T3 (leS.trans le3) sl3 h4).mono fun yv H5 ⟨y, m5, h5, hz, q5⟩ => ?_
      obtain ⟨dj5, h6⟩ := Hd.pop h5 dj1
      have hm5 : m5 Dp = none := dj5.sym Dp _ (if_pos rfl)
      rw [sun_one hm5] at h6
      obtain ⟨xs, hx, hl, _⟩ := h6.itemsO sput_same
      refine ⟨xs, hx, by rw [hl]; exact hz, hlt, acc ++ [y], m5, Pl T3 yv y, le'.trans (Pl.le.trans (le3.trans Pl.le)), hm5, ?_, q5⟩
      have h7 := h6.mut (u' := .lst (xs ++ [yv])) (o' := .lst (acc ++ [y])) sput_same hx fun Hi r kk => RepL.snoc r (kk yv y Pl.it)
      rw [sput_sput] at h7
      exact h7
    | false =>
      rw [if_neg Bool.false_ne_true]
      obtain ⟨dj4, h6⟩ := Hd.pop h4 dj1
      have hm4 : m4 Dp = none := dj4.sym Dp _ (if_pos rfl)
      rw [sun_one hm4] at h6
      exact ⟨hlt, acc, m4, T3, le'.trans (Pl.le.trans le3), hm4, h6, q4.2 rfl⟩
  · have ei : i = ds.length := by omega
    subst ei
    exact .inl ⟨wk.stop _ S.r H' _ T' (Nat.le_refl _) le' hh', fin _ _ _ _ _ (le1.trans le') hm' hh' (iend acc m' ih)⟩
theorem lc_frozen {K : PySem.W.Frag} {r : Sto} {H' : Hp} {p : Addr} {acc : List D} {m' : Sto} {T T' : RT} (l : Le T T') (hm : m' p = none) (hd : Hd K r H' (sput m' p (.lst acc)) T') : Hd K r H' m' (Pl T (.ref p) (.lst acc)) := by
  have h8 := hd.freezeL sput_same
  rw [sdel_new hm] at h8
  exact h8.le (Pl.mono l)
/-- [elt for tg in iter if ..] -/
theorem de_lc {elt tg iter : Expr} {ifs : List Expr} {scope : Scope} (own : List (Str × Nat)) {Q : D → Sto → Prop} (ok : blkC C.N C.sc scope own = true)
    (h : LcI C W elt tg iter ifs scope own δ m Q) (hs : ∀ env x, foldedSetIterable iter env x = pure x := by intro _ _; rfl) (hcm : C.cm = true := by rfl) : DE C W (.ListComp elt [⟨tg, iter, ifs, 0⟩] scope pos) δ m Q := by
  intro X S f tk σ H T le sl hh
  have okB : BlkOk X.N X.env.scope scope own := by rw [f.N, f.sc]; exact blkOk_by ok
  exact WE.of (pe_lc (te := rdE X scope elt) (tt := rdT X scope ifs) (g := rdG X scope tg) (f.calm hcm) f.nd wi okB (fun s H c cl fp => ⟨fun pins t σ H v u Q I r q => q s _ c cl fp pins t u I r⟩) (fun s H c cl fp => ⟨fun pins t σ H Q I q => q s _ c cl fp pins t I⟩) (fun s H c cl fp => ⟨fun pins t σ H Q I q => q s _ c cl fp pins t I⟩) (hs _))
    (lc_read h f tk le sl hh fun p H' acc m' T' l hm hd q => ⟨.lst acc, m', lc_frozen l hm hd, q⟩)
/-- name = [..], the name a local that is no cell -/
theorem ds_setLc {D : DEn} (j : Nat) {y : Str} {py : Pos} {elt tg iter : Expr} {ifs : List Expr} {scope : Scope} (own : List (Str × Nat)) (ok : blkC C.N C.sc scope own = true) (hN : C.N[j]? = some y) (hy : C.sc.names.lookup y = some .local)
    (hl : (py.line == pos.line) = true) (hna : (scope.names.any fun (n, k) => n == y && (k == .local || k == .cell)) = false)
    (h : LcI C W elt tg iter ifs scope own δ m fun d m1 => D.nx (δ.set j (some d)) m1) (hs : ∀ env x, foldedSetIterable iter env x = pure x := by intro _ _; rfl) (hk : C.sc.kind = .function := by rfl) (hcm : C.cm = true := by rfl) :
    DS C W (.Assign [.Name y py] (.ListComp elt [⟨tg, iter, ifs, 0⟩] scope pos) pos') δ m D := by
  intro X S f tk σ H T le sl hh
  have okB : BlkOk X.N X.env.scope scope own := by rw [f.N, f.sc]; exact blkOk_by ok
  have hyl : X.env.scope.names.lookup y = some .local := by rw [f.sc]; exact hy
  refine WS.of (ps_setLc (te := rdE X scope elt) (tt := rdT X scope ifs) (g := rdG X scope tg) (f.calm hcm) f.nd (i := j) (by rw [f.N]; exact hN) hyl (sw_true (by rw [f.sc]; exact hk) hyl hl hna) wi okB (fun s H c cl fp => ⟨fun pins t σ H v u Q I r q => q s _ c cl fp pins t u I r⟩) (fun s H c cl fp => ⟨fun pins t σ H Q I q => q s _ c cl fp pins t I⟩) (fun s H c cl fp => ⟨fun pins t σ H Q I q => q s _ c cl fp pins t I⟩) (hs _)) ?_
  exact lc_read h f tk le sl hh fun p H' acc m' T' l hm hd q => ⟨_, m', _, le.trans Pl.le, (sl.le Pl.le).set Pl.it, lc_frozen l hm hd, q⟩
end
end G

/-! The data layer's rules: defs and their calls; the law's own end. -/
namespace G
open PySem PySem.Spec PyProof.Rows L2

/-- what a def does, by data: arguments, store, what is wanted of its value, of its exception -/
abbrev DF := List D → Sto → (D → Sto → Prop) → (Value → List (Str × D) → Sto → Prop) → Prop
def spD (K : PySem.W.Frag) (F : DF) : Sp := fun vs H Q E => ∃ ds m T r Qd Ed, vs.length = ds.length ∧ Hd K r H m (PlL T vs ds) ∧ F ds m Qd Ed ∧ (∀ d m', Qd d m' → ∀ v H', Hd K r H' m' (Pl T v d) → Q v H') ∧
  ∀ cls fs m', Ed cls fs m' → ∀ dd H' T', Le T T' → Hd K r H' m' T' → ExcD H' T' dd fs → E cls dd H'
def startD (N : List Str) (ds : List D) : Sl := ds.map some ++ List.replicate (N.length - ds.length) none
theorem startD_in {N : List Str} {vs : List V} {ds : List D} {T : RT} (hl : vs.length = ds.length) : SlotsIn (L2.start N vs) (startD N ds) (PlL T vs ds) := by
  refine ⟨by simp [L2.start, startD, hl], fun i d h => ?_⟩
  unfold startD at h
  have hi : i < ds.length := by
    by_cases hi : i < ds.length
    · exact hi
    · rw [List.getElem?_append_right (by simpa using hi), List.getElem?_replicate] at h
      split at h <;> cases h
  rw [List.getElem?_append_left (by simpa using hi), List.getElem?_map, List.getElem?_eq_getElem hi] at h
  have e : ds[i] = d := by simpa using h
  have hv : i < vs.length := by omega
  refine ⟨vs[i], ?_, PlL.at (i := i) (List.getElem?_eq_getElem hv) (by rw [List.getElem?_eq_getElem hi, e])⟩
  unfold L2.start
  rw [List.getElem?_append_left (by simpa using hv), List.getElem?_map, List.getElem?_eq_getElem hv]
  rfl
theorem _root_.L2.Room.un200 {k : Nat} {A : Around} (r : Room k A) : A.units + 200 < cLine := by
  have := r.un
  omega
/-- the context of a def's body -/
def ctOf (P : Program) (w : World) (K : PySem.W.Frag) (mg : Str → Option Value) (base : Heap) (N : List Str) (sc : Scope) (k : Nat) : Ct := ⟨P, w, K, mg, base, N, sc, fun _ => true, k, true, true, none⟩
section
variable {P : Program} {w : World} {K : PySem.W.Frag} {mg : Str → Option Value} {base : Heap} {x qual : Str} {params : Arguments} {body : List Stmt} {scope : Scope} {dvs : List V} {kws : List (Str × V)} {f : Addr} {fd : FuncData}
/-- THE RULE for a def -/
theorem def_ok {N ps : List Str} {k : Nat} {F : DF} (Fn : FunD K x qual params body scope dvs kws f fd) (S : FnScope N ps scope) (len : ∀ ds m Q E, F ds m Q E → ds.length = ps.length)
    (hbody : ∀ ds m Q E, F ds m Q E → DSs (ctOf P w K mg base N scope k) (fun cls fs _ m' => E cls fs m') body (startD N ds) m { nx := fun _ m' => Q .non m', rt := Q }) : FnOk P w K mg base (L2.CX P w) (k + 1) f fd ps (spD K F) := by
  refine Fn.ok S (fun vs H Q E h => ?_) fun cdv A outer s H vs Q E hr h => ?_
  · obtain ⟨ds, m, T, r, Qd, Ed, hl, _, hF, _⟩ := h
    rw [hl]
    exact len _ _ _ _ hF
  · obtain ⟨ds, m, T, r, Qd, Ed, hl, hh, hF, hq, he⟩ := h
    have fit : Fits (ctOf P w K mg base N scope k) (cxOf (L2.CX P w) P w K mg base N qual scope f cdv A outer s H E) := ⟨rfl, rfl, rfl, rfl, rfl, rfl, rfl, fun _ _ => rfl, S.nd, hr.un200, fun _ => hr, fun _ => rfl, passes_of rfl, fun _ => ⟨rfl, rfl⟩, fun _ _ e => nomatch e⟩
    have tk0 : Takes (cxOf (L2.CX P w) P w K mg base N qual scope f cdv A outer s H E) (fun cls d _ H => E cls d H) := takes_of rfl rfl rfl rfl
    refine ⟨_, wss, ?_⟩
    refine WSs.mono (hbody ds m Qd Ed hF _ ⟨T, r⟩ fit (tk0.imp ?_) (L2.start N vs) H _ PlL.le (startD_in hl) hh) ?_ ?_ ?_ ?_
    · rintro cls d σ H' ⟨δ', m', T', fs, le', sl', hh', xd, w'⟩
      exact he cls fs m' w' d H' T' le' hh' xd
    · rintro σ H' ⟨δ', m', T', le', sl', hh', q⟩
      exact hq .non m' q .non H' ((hh'.le le').pl fun _ _ => .non)
    · rintro v H' ⟨d, m', hh', q⟩
      exact hq d m' q v H' hh'
    · rintro σ H' ⟨_, _, _, _, _, _, z⟩
      exact z
    · rintro σ H' ⟨_, _, _, _, _, _, z⟩
      exact z
/-- what a caller knows of the def x -/
structure Kn (P : Program) (w : World) (K : PySem.W.Frag) (mg : Str → Option Value) (base : Heap) (x : Str) (k : Nat) (F : DF) : Prop where
  ex : ∃ f fd ps, FnOk P w K mg base (L2.CX P w) k f fd ps (spD K F) ∧ mg x = some (.ref f) ∧ PySem.W.keepIn K (.ref f) = true ∧ Binds K fd ps []
end
section
variable {C : Ct} {W : DW} {δ : Sl} {m : Sto} {a b c e : Expr} {es : List Expr} {pos pos' : Pos} {Q : D → Sto → Prop}
theorem spD_at {X : Cx} {S : Fr} {σ : L2.St} {H1 : Hp} {m1 : Sto} {T : RT} {vs : List V} {ds : List D} {F : DF} (le : Le S.t T) (sl : SlotsIn σ δ T) (hl : vs.length = ds.length) (h1 : Hd C.K S.r H1 m1 (PlL T vs ds)) (q : F ds m1 Q fun cls fs m' => W cls fs δ m') :
    spD C.K F vs H1 (fun v H' => ∃ d m', Hd C.K S.r H' m' (Pl T v d) ∧ Q d m') (L2.WE (liftW C.K W S) σ) :=
  ⟨ds, m1, T, S.r, Q, _, hl, h1, q, fun d m' q' v H' h' => ⟨d, m', h', q'⟩, fun cls fs m' w' dd H' T' l' h' xd => ⟨δ, m', T', fs, le.trans l', sl.le l', h', xd, w'⟩⟩
theorem de_call {x : Str} {p : Pos} {k : Nat} {F : DF} (kn : Kn C.P C.w C.K C.mg C.base x k F) (hk : Nat.ble k C.k = true) (hg : GlC C x) (h : DA C W (e :: es) δ m fun ds m1 => F ds m1 Q fun cls fs m' => W cls fs δ m') (hdb : (x == ("__debug__" : Str)) = false := by decide) (hcm : C.cm = true := by rfl)
    (he : ∀ env, starEach (e :: es) env = (false, eval e env) :: starEach es env := by intro _; rfl) (hpl : ∀ env, (backTo pos (starEach es env)).any (·.1) = false := by intro _; rfl) : DE C W (.Call (.Name x p) (e :: es) [] pos) δ m Q := by
  intro X S fX tk σ H T le sl hh pins s I
  obtain ⟨f, fd, ps, ok, hm, kp, hb⟩ := kn.ex
  rw [← fX.prog, ← fX.w, ← fX.K, ← fX.mg, ← fX.base] at ok
  rw [← fX.K] at kp hb
  refine wpAny_Call_Name_kw (ld_glob I (fX.gl hg) (by rw [fX.mg]; exact hm) ?_ hdb)
  refine PySem.W.callWith_K (h₀ := X.base) I.ok.mod.kin kp (thn (h X S fX tk σ H T le sl hh pos pins s I) fun us s1 ⟨vs, H1, I1, r, ds, m1, hl, h1, q⟩ => ⟨I1.kIn, ?_⟩) (he _) (hpl _)
  refine run_fnS (E := L2.WE (liftW C.K W S)) (ok.mono (Nat.le_of_ble_eq_true hk)) (fX.room hcm) hb (passAt tk σ) I1 r ?_
  have z := spD_at (X := X) (S := S) (σ := σ) (Q := Q) (W := W) (δ := δ) le sl hl h1 q
  rw [← fX.K] at z ⊢
  exact z
end
/-! ### the end -/
theorem hd_begin {K : PySem.W.Frag} {H : Hp} {T : RT} (hT : ∀ v d, T v d → Rep K H v d) : Hd K (fun _ => none) H (fun _ => none) T :=
  ⟨(fun _ _ e => nomatch e), H, (fun _ _ h => h), (fun _ _ e => nomatch e), hT⟩
theorem repL_ints {K : PySem.W.Frag} {H : Hp} : ∀ ns : List Int, RepL K H (ns.map V.int) (ns.map D.int)
  | [] => .nil
  | n :: ns => .cons (.int n) (repL_ints ns)
/-- the law's def: over every list of ints it hands back True -/
def FLaw : DF := fun ds m Q _ => ∃ ns : List Int, ds = [.frz (ns.map D.int)] ∧ ns.length ≤ 63 ∧ (∀ a, m a = none) ∧ ∀ m', Q (.bl true) m'
theorem law_sp {K : PySem.W.Frag} {H : Hp} {a : Addr} {ns : List Int} (hl : ns.length ≤ 63) (h : SqL K H a (ns.map V.int)) : spD K FLaw [.ref a] H (fun v _ => v = .bl true) fun _ _ _ => False := by
  refine ⟨[.frz (ns.map D.int)], fun _ => none, fun _ _ => False, fun _ => none, fun d _ => d = .bl true, fun _ _ _ => False, rfl, hd_begin fun v d z => ?_, ⟨ns, rfl, hl, fun _ => rfl, fun _ => rfl⟩, fun d m' e v H' h' => ?_, fun _ _ _ z => z.elim⟩
  · rcases z with z | z
    · exact z.elim
    · simp only [List.zip_cons_cons, List.zip_nil_left, List.mem_singleton, Prod.mk.injEq] at z
      obtain ⟨rfl, rfl⟩ := z
      exact .frz h (repL_ints ns)
  · subst e
    exact h'.isbl
theorem cx_never {P : Program} {w : World} {H : Hp} {s : Shared} {e : Value} {s' : Shared} (h : L2.CX P w [] H s (fun _ _ _ => False) e s') : False := by
  obtain ⟨_, _, _, _, _, _, _, _, _, _, _, _, z⟩ := h
  exact z
end G

/-! The data layer: more rules; short lemmas for the walk. -/
namespace G
open PySem PySem.Spec PyProof.Rows L2

section
variable {C : Ct} {W : DW} {δ : Sl} {m : Sto} {a b c e : Expr} {es : List Expr} {pos pos' : Pos} {Q : D → Sto → Prop}
/-! ### in, not in -/
def inD (neg : Bool) : R2D := fun d e m Q => ∃ n l, n ≤ 58 ∧ e = .lst l ∧ okD n d = true ∧ okDL n l = true ∧ Q (.bl (if neg then !l.any fun z => eqvD z d else l.any fun z => eqvD z d)) m
theorem any_toPy (d : D) : ∀ l : List D, ((toPyL l).any fun z => PyData.eqv z (toPy d)) = l.any fun z => eqvD z d
  | [] => rfl
  | x :: l => by
    show (PyData.eqv (toPy x) (toPy d) || (toPyL l).any fun z => PyData.eqv z (toPy d)) = (eqvD x d || l.any fun z => eqvD z d)
    rw [any_toPy d l]
    rfl
theorem units65 {C : Ct} {X : Cx} (f : Fits C X) : X.A.units + 65 < cLine := by have := f.un; omega
theorem od_in : OpD C (compareOp .In) (inD false) := by
  rintro X f fr H m T x y d e Q hh tx ty ⟨n, l, hn, rfl, o1, o2, q⟩
  have o3 : okD (n + 1) (.lst l) = true := by simpa [okD] using o2
  have dp := (hh.rep ty).dp (n + 1) o3
  refine wb_of (op_inD (units65 f)) ⟨toPy d, toPyL l, by rw [f.K]; exact (hh.rep tx).dp n o1, by rw [f.K]; simpa [toPy] using dp, okD_shaped o1 (by omega), by simpa [toPy] using okD_shaped o3 (by omega), ?_⟩
  rw [any_toPy]
  exact dk_bl hh q
theorem od_notin : OpD C (compareOp .NotIn) (inD true) := by
  rintro X f fr H m T x y d e Q hh tx ty ⟨n, l, hn, rfl, o1, o2, q⟩
  have o3 : okD (n + 1) (.lst l) = true := by simpa [okD] using o2
  have dp := (hh.rep ty).dp (n + 1) o3
  refine wb_of (op_notInD (units65 f)) ⟨toPy d, toPyL l, by rw [f.K]; exact (hh.rep tx).dp n o1, by rw [f.K]; simpa [toPy] using dp, okD_shaped o1 (by omega), by simpa [toPy] using okD_shaped o3 (by omega), ?_⟩
  rw [any_toPy]
  exact dk_bl hh q
/-! ### isinstance(x, (T1, T2)) -/
theorem de_isi2 {x1 x2 : Str} {p p1 p2 p3 : Pos} {k : Nat} {n1 n2 : String} (hg : GlC C "isinstance") (hm : C.mg "isinstance" = none) (g1 : GlC C x1) (m1 : C.mg x1 = none) (v1 : bootBuiltins x1 = some (.type n1)) (g2 : GlC C x2) (m2 : C.mg x2 = none) (v2 : bootBuiltins x2 = some (.type n2))
    (h : DE C W a δ m fun d m1 => ∃ t k, tyD d = some t ∧ kit2 t n1 n2 = some k ∧ Q (.bl k) m1) (h1 : x1 ≠ "__name__" := by decide) (h2 : x2 ≠ "__name__" := by decide) (d1 : (x1 == ("__debug__" : Str)) = false := by decide) (d2 : (x2 == ("__debug__" : Str)) = false := by decide)
    (he : ∀ env e es, starEach (a :: e :: es) env = (false, eval a env) :: starEach (e :: es) env := by intro _ _ _; rfl) : DE C W (.Call (.Name "isinstance" p) [a, .Tuple [.Name x1 p1, .Name x2 p2] k p3] [] pos) δ m Q := by
  intro X S f tk σ H T le sl hh
  refine WE.of (pe_callB call_isiT (f.gl hg) (by rw [f.mg]; exact hm) (by decide +kernel) (pa_cons we (pa_cons (pe_tup (pa_cons (pe_bltn (v := .ty n1) (f.gl g1) (by rw [f.mg]; exact m1) v1 rfl h1 d1) (pa_cons (pe_bltn (v := .ty n2) (f.gl g2) (by rw [f.mg]; exact m2) v2 rfl h2 d2) pa_nil))) pa_nil) (he _ _ _)) (by decide) (by decide) (he _ _ _)) ?_
  refine (h X S f tk σ H T le sl hh).mono fun v H1 ⟨d, m1, h1, t, k, ht, hk, q⟩ => ?_
  refine ⟨by show 2 ≤ sizeLine; decide, fun tp ht2 => ?_⟩
  have ty := h1.tyX Pl.it ht
  have h3 : Hd C.K S.r (upd H1 tp (.tup [.ty n1, .ty n2])) m1 (Pl (Pl T v d) (.ref tp) (.tup [.ty n1, .ty n2])) := h1.newI ht2 fun Hi hi kk => .tup (SqT.of upd_same) (.cons (.ty n1) (.cons (.ty n2) .nil))
  have ty2 := h3.tyX (.inl Pl.it) ht
  exact ⟨v, tp, [.ty n1, .ty n2], .type t, [.type n1, .type n2], k, rfl, upd_same, .cons (.ty n1) (.cons (.ty n2) .nil), by rw [f.K]; exact ty2, kit2_any hk, dK.le (dk_bl h3 q) (Pl.le.trans Pl.le)⟩
end
end G

/-! The data layer: short lemmas for the walk. -/
namespace G
open PySem PySem.Spec PyProof.Rows L2

theorem bt_len : bootBuiltins "len" = some (.builtin "len") := by decide +kernel
theorem bt_max : bootBuiltins "max" = some (.builtin "max") := by decide +kernel
theorem bt_min : bootBuiltins "min" = some (.builtin "min") := by decide +kernel
theorem bt_all : bootBuiltins "all" = some (.builtin "all") := by decide +kernel
theorem bt_any : bootBuiltins "any" = some (.builtin "any") := by decide +kernel
theorem bt_sum : bootBuiltins "sum" = some (.builtin "sum") := by decide +kernel
theorem bt_sorted : bootBuiltins "sorted" = some (.builtin "sorted") := by decide +kernel
theorem bt_isinstance : bootBuiltins "isinstance" = some (.builtin "isinstance") := by decide +kernel
theorem bt_abs : bootBuiltins "abs" = some (.builtin "abs") := by decide +kernel
theorem bt_repr : bootBuiltins "repr" = some (.builtin "repr") := by decide +kernel
theorem bt_int : bootBuiltins "int" = some (.type "int") := by decide +kernel
theorem bt_str : bootBuiltins "str" = some (.type "str") := by decide +kernel
theorem bt_bool : bootBuiltins "bool" = some (.type "bool") := by decide +kernel
theorem bt_list : bootBuiltins "list" = some (.type "list") := by decide +kernel
theorem bt_tuple : bootBuiltins "tuple" = some (.type "tuple") := by decide +kernel
theorem bt_dict : bootBuiltins "dict" = some (.type "dict") := by decide +kernel
theorem bt_set : bootBuiltins "set" = some (.type "set") := by decide +kernel
theorem bt_range : bootBuiltins "range" = some (.type "range") := by decide +kernel

section
variable {C : Ct} {W : DW} {δ : Sl} {m : Sto} {a b c e : Expr} {pos pos' p2 : Pos} {Q : D → Sto → Prop} {B : Bool → Sto → Prop}
theorem lt_lit {a b : Nat} (h : Nat.ble (a + 1) b = true) : a < b := Nat.le_of_ble_eq_true h
/-! ### operators on known data -/
theorem add_ii {i j : Int} (q : Q (.int (i + j)) m) : addD (.int i) (.int j) m Q := q
theorem add_ib {i : Int} {k : Bool} (q : Q (.int (i + b2i k)) m) : addD (.int i) (.bl k) m Q := q
theorem add_ss {x y : Str} (h : x.length + y.length ≤ sizeLine) (q : Q (.str (x ++ y)) m) : addD (.str x) (.str y) m Q := ⟨h, q⟩
theorem add_tt {x y : List D} (h : x.length + y.length ≤ sizeLine) (q : Q (.tup (x ++ y)) m) : addD (.tup x) (.tup y) m Q := ⟨h, q⟩
theorem add_ll {x y : List D} (h : x.length + y.length ≤ sizeLine) (q : Q (.lst (x ++ y)) m) : addD (.lst x) (.lst y) m Q := ⟨h, q⟩
theorem sub_ii {i j : Int} (q : Q (.int (i - j)) m) : subD (.int i) (.int j) m Q := q
theorem mul_ii {i j : Int} (h : CMul i j) (q : Q (.int (i * j)) m) : mulD (.int i) (.int j) m Q := ⟨h, q⟩
theorem div_ii {i j : Int} (h : CDiv i j) (q : Q (.int (i / j)) m) : divD (.int i) (.int j) m Q := ⟨h, q⟩
theorem mod_ii {i j : Int} (h : 0 < j) (q : Q (.int (i % j)) m) : modD (.int i) (.int j) m Q := ⟨h, q⟩
theorem pow_ii {i j : Int} (h : CPow i j) (q : Q (.int (i ^ j.toNat)) m) : powD (.int i) (.int j) m Q := ⟨h, q⟩
theorem cmp_ii {p : Int → Int → Bool} {i j : Int} (q : Q (.bl (p i j)) m) : cmpI p (.int i) (.int j) m Q := q
theorem is_n {d : D} (q : Q (.bl (isN d)) m) : isD d .non m Q := ⟨rfl, q⟩
theorem isnt_n {d : D} (q : Q (.bl (!isN d)) m) : isntD d .non m Q := ⟨rfl, q⟩
theorem isN_non : isN .non = true := rfl
theorem ix_of (k : Nat) {ds : List D} {d : D} (h : ds[k]? = some d) : atI ds ((k : Nat) : Int) = some d := atI_nat h
theorem ixT (k : Nat) {ds : List D} {d : D} (h : ds[k]? = some d) (q : Q d m) : ixD (.tup ds) (.int (k : Int)) m Q := ⟨d, atI_nat h, q⟩
theorem ixL (k : Nat) {ds : List D} {d : D} (h : ds[k]? = some d) (q : Q d m) : ixD (.lst ds) (.int (k : Int)) m Q := ⟨d, atI_nat h, q⟩
theorem ixF (k : Nat) {ds : List D} {d : D} (h : ds[k]? = some d) (q : Q d m) : ixD (.frz ds) (.int (k : Int)) m Q := ⟨d, atI_nat h, q⟩
theorem ixO (k : Nat) {p : Addr} {ds : List D} {d : D} (hm : m p = some (.lst ds)) (h : ds[k]? = some d) (q : Q d m) : ixD (.ref p) (.int (k : Int)) m Q := ⟨ds, d, hm, atI_nat h, q⟩
/-- at an open place -/
theorem ixTi {ds : List D} {i : Int} {d : D} (h0 : 0 ≤ i) (h : ds[i.toNat]? = some d) (q : Q d m) : ixD (.tup ds) (.int i) m Q := ⟨d, by
  obtain ⟨k, rfl⟩ : ∃ k : Nat, i = k := ⟨i.toNat, by omega⟩
  exact atI_nat (by simpa using h), q⟩
theorem ixLi {ds : List D} {i : Int} {d : D} (h0 : 0 ≤ i) (h : ds[i.toNat]? = some d) (q : Q d m) : ixD (.lst ds) (.int i) m Q := ⟨d, by
  obtain ⟨k, rfl⟩ : ∃ k : Nat, i = k := ⟨i.toNat, by omega⟩
  exact atI_nat (by simpa using h), q⟩
theorem atI_neg {α : Type} {xs : List α} {v : α} (h : xs.getLast? = some v) : atI xs (-1) = some v := by
  obtain ⟨ys, e⟩ := List.getLast?_eq_some_iff.mp h
  rw [e]
  exact atI_last _ _
theorem ixLn {ds : List D} {d : D} (h : ds.getLast? = some d) (q : Q d m) : ixD (.lst ds) (.int (-1)) m Q := ⟨d, atI_neg h, q⟩
theorem set_at (j : Nat) {p : Addr} {ds : List D} {d : D} {k : Sto → Prop} (hm : m p = some (.lst ds)) (hj : j < ds.length) (q : k (sput m p (.lst (ds.set j d)))) : setD (.ref p) (.int (j : Int)) d m k :=
  ⟨p, ds, j, j, rfl, rfl, hm, by
    unfold ixN
    rw [if_pos (by omega), if_pos (by omega)]
    simp, q⟩
theorem set_sput (j : Nat) {p : Addr} {ds : List D} {d : D} {k : Sto → Prop} (hj : j < ds.length) (q : k (sput m p (.lst (ds.set j d)))) : setD (.ref p) (.int (j : Int)) d (sput m p (.lst ds)) k :=
  set_at j sput_same hj (by rw [sput_sput]; exact q)
/-! ### negation, chains -/
theorem de_neg (h : DE C W a δ m fun d m1 => ∃ i, d = .int i ∧ Q (.int (-i)) m1) : DE C W (.UnaryOp .USub a pos) δ m Q := by
  intro X S f tk σ H T le sl hh
  refine WE.of (pe_un un_neg we) ((h X S f tk σ H T le sl hh).mono fun v H1 ⟨d, m1, h1, i, e, q⟩ => ?_)
  subst e
  have r := h1.rep Pl.it
  cases r
  exact ⟨i, rfl, dk_int (h1.le Pl.le) q⟩
theorem de_chainI {op op' : CmpOp} {p p' : Int → Int → Bool} {l : Int} (ho : OpD C (compareOp op) (cmpI p)) (ho' : OpD C (compareOp op') (cmpI p')) (h : DE C W a δ m fun x m1 => DE C W b δ m1 fun y m2 => ∃ i j, x = .int i ∧ y = .int j ∧ PE' C c δ m2 (.int l) ∧ Q (.bl (p i j && p' j l)) m2)
    (hm : lastMarks [op, op'] [b, c] = false := by with_unfolding_all rfl) : DE C W (.Compare a [op, op'] [b, c] pos) δ m Q := by
  refine de_chain ho ho' (h.mono fun x m1 q0 => q0.mono fun y m2 ⟨i, j, e1, e2, pc, q⟩ => ?_) hm
  subst e1 e2
  refine cmp_ii (tb ⟨fun e => pc W _ (cmp_ii ?_), fun e => ?_⟩)
  · rw [e, Bool.true_and] at q
    exact q
  · rw [e, Bool.false_and] at q
    exact q
theorem dt_chainI {op op' : CmpOp} {p p' : Int → Int → Bool} {l : Int} (ho : OpD C (compareOp op) (cmpI p)) (ho' : OpD C (compareOp op') (cmpI p')) (h : DE C W a δ m fun x m1 => DE C W b δ m1 fun y m2 => ∃ i j, x = .int i ∧ y = .int j ∧ PE' C c δ m2 (.int l) ∧ B (p i j && p' j l) m2)
    (hm : lastMarks [op, op'] [b, c] = false := by with_unfolding_all rfl) : DT C W (.Compare a [op, op'] [b, c] pos) δ m B := by
  refine dt_chain ho ho' (h.mono fun x m1 q0 => q0.mono fun y m2 ⟨i, j, e1, e2, pc, q⟩ => ?_) hm
  subst e1 e2
  refine cmp_ii (tb ⟨fun e => pc W _ (cmp_ii (tb ?_)), fun e => ?_⟩)
  · rw [e, Bool.true_and] at q
    exact q
  · rw [e, Bool.false_and] at q
    exact q
/-! ### and, or of several parts that change nothing -/
theorem pe_and2 {e0 e1 : Expr} {k0 k1 : Bool} (h0 : PE' C e0 δ m (.bl k0)) (h1 : k0 = true → PE' C e1 δ m (.bl k1)) : PE' C (.BoolOp .And [e0, e1] pos) δ m (.bl (k0 && k1)) := pe_and' h0 fun z1 => (pe_one' (h1 z1))
theorem pt_and2 {e0 e1 : Expr} {k0 k1 : Bool} (h0 : PT C e0 δ m k0) (h1 : k0 = true → PT C e1 δ m k1) : PT C (.BoolOp .And [e0, e1] pos) δ m (k0 && k1) := fun W B q => dt_pw (pw_and' h0 fun z1 => (pw_one_and (h1 z1))) q
theorem pe_and3 {e0 e1 e2 : Expr} {k0 k1 k2 : Bool} (h0 : PE' C e0 δ m (.bl k0)) (h1 : k0 = true → PE' C e1 δ m (.bl k1)) (h2 : k0 = true → k1 = true → PE' C e2 δ m (.bl k2)) : PE' C (.BoolOp .And [e0, e1, e2] pos) δ m (.bl (k0 && (k1 && k2))) := pe_and' h0 fun z1 => (pe_and' (h1 z1) fun z2 => (pe_one' (h2 z1 z2)))
theorem pt_and3 {e0 e1 e2 : Expr} {k0 k1 k2 : Bool} (h0 : PT C e0 δ m k0) (h1 : k0 = true → PT C e1 δ m k1) (h2 : k0 = true → k1 = true → PT C e2 δ m k2) : PT C (.BoolOp .And [e0, e1, e2] pos) δ m (k0 && (k1 && k2)) := fun W B q => dt_pw (pw_and' h0 fun z1 => (pw_and' (h1 z1) fun z2 => (pw_one_and (h2 z1 z2)))) q
theorem pe_and4 {e0 e1 e2 e3 : Expr} {k0 k1 k2 k3 : Bool} (h0 : PE' C e0 δ m (.bl k0)) (h1 : k0 = true → PE' C e1 δ m (.bl k1)) (h2 : k0 = true → k1 = true → PE' C e2 δ m (.bl k2)) (h3 : k0 = true → k1 = true → k2 = true → PE' C e3 δ m (.bl k3)) : PE' C (.BoolOp .And [e0, e1, e2, e3] pos) δ m (.bl (k0 && (k1 && (k2 && k3)))) := pe_and' h0 fun z1 => (pe_and' (h1 z1) fun z2 => (pe_and' (h2 z1 z2) fun z3 => (pe_one' (h3 z1 z2 z3))))
theorem pt_and4 {e0 e1 e2 e3 : Expr} {k0 k1 k2 k3 : Bool} (h0 : PT C e0 δ m k0) (h1 : k0 = true → PT C e1 δ m k1) (h2 : k0 = true → k1 = true → PT C e2 δ m k2) (h3 : k0 = true → k1 = true → k2 = true → PT C e3 δ m k3) : PT C (.BoolOp .And [e0, e1, e2, e3] pos) δ m (k0 && (k1 && (k2 && k3))) := fun W B q => dt_pw (pw_and' h0 fun z1 => (pw_and' (h1 z1) fun z2 => (pw_and' (h2 z1 z2) fun z3 => (pw_one_and (h3 z1 z2 z3))))) q
theorem pe_and5 {e0 e1 e2 e3 e4 : Expr} {k0 k1 k2 k3 k4 : Bool} (h0 : PE' C e0 δ m (.bl k0)) (h1 : k0 = true → PE' C e1 δ m (.bl k1)) (h2 : k0 = true → k1 = true → PE' C e2 δ m (.bl k2)) (h3 : k0 = true → k1 = true → k2 = true → PE' C e3 δ m (.bl k3)) (h4 : k0 = true → k1 = true → k2 = true → k3 = true → PE' C e4 δ m (.bl k4)) : PE' C (.BoolOp .And [e0, e1, e2, e3, e4] pos) δ m (.bl (k0 && (k1 && (k2 && (k3 && k4))))) := pe_and' h0 fun z1 => (pe_and' (h1 z1) fun z2 => (pe_and' (h2 z1 z2) fun z3 => (pe_and' (h3 z1 z2 z3) fun z4 => (pe_one' (h4 z1 z2 z3 z4)))))
theorem pt_and5 {e0 e1 e2 e3 e4 : Expr} {k0 k1 k2 k3 k4 : Bool} (h0 : PT C e0 δ m k0) (h1 : k0 = true → PT C e1 δ m k1) (h2 : k0 = true → k1 = true → PT C e2 δ m k2) (h3 : k0 = true → k1 = true → k2 = true → PT C e3 δ m k3) (h4 : k0 = true → k1 = true → k2 = true → k3 = true → PT C e4 δ m k4) : PT C (.BoolOp .And [e0, e1, e2, e3, e4] pos) δ m (k0 && (k1 && (k2 && (k3 && k4)))) := fun W B q => dt_pw (pw_and' h0 fun z1 => (pw_and' (h1 z1) fun z2 => (pw_and' (h2 z1 z2) fun z3 => (pw_and' (h3 z1 z2 z3) fun z4 => (pw_one_and (h4 z1 z2 z3 z4)))))) q
theorem pe_or2 {e0 e1 : Expr} {k0 k1 : Bool} (h0 : PE' C e0 δ m (.bl k0)) (h1 : k0 = false → PE' C e1 δ m (.bl k1)) : PE' C (.BoolOp .Or [e0, e1] pos) δ m (.bl (k0 || k1)) := pe_or' h0 fun z1 => (pe_one' (h1 z1))
theorem pt_or2 {e0 e1 : Expr} {k0 k1 : Bool} (h0 : PT C e0 δ m k0) (h1 : k0 = false → PT C e1 δ m k1) : PT C (.BoolOp .Or [e0, e1] pos) δ m (k0 || k1) := fun W B q => dt_pw (pw_or' h0 fun z1 => (pw_one_or (h1 z1))) q
theorem pe_or3 {e0 e1 e2 : Expr} {k0 k1 k2 : Bool} (h0 : PE' C e0 δ m (.bl k0)) (h1 : k0 = false → PE' C e1 δ m (.bl k1)) (h2 : k0 = false → k1 = false → PE' C e2 δ m (.bl k2)) : PE' C (.BoolOp .Or [e0, e1, e2] pos) δ m (.bl (k0 || (k1 || k2))) := pe_or' h0 fun z1 => (pe_or' (h1 z1) fun z2 => (pe_one' (h2 z1 z2)))
theorem pt_or3 {e0 e1 e2 : Expr} {k0 k1 k2 : Bool} (h0 : PT C e0 δ m k0) (h1 : k0 = false → PT C e1 δ m k1) (h2 : k0 = false → k1 = false → PT C e2 δ m k2) : PT C (.BoolOp .Or [e0, e1, e2] pos) δ m (k0 || (k1 || k2)) := fun W B q => dt_pw (pw_or' h0 fun z1 => (pw_or' (h1 z1) fun z2 => (pw_one_or (h2 z1 z2)))) q
theorem pe_or4 {e0 e1 e2 e3 : Expr} {k0 k1 k2 k3 : Bool} (h0 : PE' C e0 δ m (.bl k0)) (h1 : k0 = false → PE' C e1 δ m (.bl k1)) (h2 : k0 = false → k1 = false → PE' C e2 δ m (.bl k2)) (h3 : k0 = false → k1 = false → k2 = false → PE' C e3 δ m (.bl k3)) : PE' C (.BoolOp .Or [e0, e1, e2, e3] pos) δ m (.bl (k0 || (k1 || (k2 || k3)))) := pe_or' h0 fun z1 => (pe_or' (h1 z1) fun z2 => (pe_or' (h2 z1 z2) fun z3 => (pe_one' (h3 z1 z2 z3))))
theorem pt_or4 {e0 e1 e2 e3 : Expr} {k0 k1 k2 k3 : Bool} (h0 : PT C e0 δ m k0) (h1 : k0 = false → PT C e1 δ m k1) (h2 : k0 = false → k1 = false → PT C e2 δ m k2) (h3 : k0 = false → k1 = false → k2 = false → PT C e3 δ m k3) : PT C (.BoolOp .Or [e0, e1, e2, e3] pos) δ m (k0 || (k1 || (k2 || k3))) := fun W B q => dt_pw (pw_or' h0 fun z1 => (pw_or' (h1 z1) fun z2 => (pw_or' (h2 z1 z2) fun z3 => (pw_one_or (h3 z1 z2 z3))))) q
theorem pe_or5 {e0 e1 e2 e3 e4 : Expr} {k0 k1 k2 k3 k4 : Bool} (h0 : PE' C e0 δ m (.bl k0)) (h1 : k0 = false → PE' C e1 δ m (.bl k1)) (h2 : k0 = false → k1 = false → PE' C e2 δ m (.bl k2)) (h3 : k0 = false → k1 = false → k2 = false → PE' C e3 δ m (.bl k3)) (h4 : k0 = false → k1 = false → k2 = false → k3 = false → PE' C e4 δ m (.bl k4)) : PE' C (.BoolOp .Or [e0, e1, e2, e3, e4] pos) δ m (.bl (k0 || (k1 || (k2 || (k3 || k4))))) := pe_or' h0 fun z1 => (pe_or' (h1 z1) fun z2 => (pe_or' (h2 z1 z2) fun z3 => (pe_or' (h3 z1 z2 z3) fun z4 => (pe_one' (h4 z1 z2 z3 z4)))))
theorem pt_or5 {e0 e1 e2 e3 e4 : Expr} {k0 k1 k2 k3 k4 : Bool} (h0 : PT C e0 δ m k0) (h1 : k0 = false → PT C e1 δ m k1) (h2 : k0 = false → k1 = false → PT C e2 δ m k2) (h3 : k0 = false → k1 = false → k2 = false → PT C e3 δ m k3) (h4 : k0 = false → k1 = false → k2 = false → k3 = false → PT C e4 δ m k4) : PT C (.BoolOp .Or [e0, e1, e2, e3, e4] pos) δ m (k0 || (k1 || (k2 || (k3 || k4)))) := fun W B q => dt_pw (pw_or' h0 fun z1 => (pw_or' (h1 z1) fun z2 => (pw_or' (h2 z1 z2) fun z3 => (pw_or' (h3 z1 z2 z3) fun z4 => (pw_one_or (h4 z1 z2 z3 z4)))))) q
theorem dt_pt {k : Bool} (h : PT C e δ m k) (q : B k m) : DT C W e δ m B := h W B q
/-! ### slices by their parts -/
theorem de_sl00 (h : DE C W a δ m fun x m1 => cutD x none none m1 Q) : DE C W (.Subscript a (.Slice none none none p2) pos) δ m Q := de_slice h
theorem de_sl01 (h : DE C W a δ m fun x m1 => DE C W b δ m1 fun d m2 => ∃ i, d = .int i ∧ cutD x none (some i) m2 Q) : DE C W (.Subscript a (.Slice none (some b) none p2) pos) δ m Q := de_slice h
theorem de_sl10 (h : DE C W a δ m fun x m1 => DE C W b δ m1 fun d m2 => ∃ i, d = .int i ∧ cutD x (some i) none m2 Q) : DE C W (.Subscript a (.Slice (some b) none none p2) pos) δ m Q := de_slice h
theorem de_sl11 (h : DE C W a δ m fun x m1 => DE C W b δ m1 fun d m2 => ∃ i, d = .int i ∧ DE C W c δ m2 fun d' m3 => ∃ j, d' = .int j ∧ cutD x (some i) (some j) m3 Q) : DE C W (.Subscript a (.Slice (some b) (some c) none p2) pos) δ m Q := de_slice (h.mono fun x m1 q => q.mono fun d m2 ⟨i, e, q⟩ => ⟨i, e, q⟩)
theorem cut_s {z : Str} {lo hi : Option Int} (h : z.length ≤ sizeLine) (q : Q (.str (cutS z lo hi)) m) : cutD (.str z) lo hi m Q := ⟨h, q⟩
theorem cut_t {z : List D} {lo hi : Option Int} (q : Q (.tup (cutL z lo hi)) m) : cutD (.tup z) lo hi m Q := q
theorem cut_l {z : List D} {lo hi : Option Int} (q : Q (.lst (cutL z lo hi)) m) : cutD (.lst z) lo hi m Q := q
theorem cut_f {z : List D} {lo hi : Option Int} (q : Q (.lst (cutL z lo hi)) m) : cutD (.frz z) lo hi m Q := q
theorem cutL_to {α : Type} (xs : List α) (n : Nat) : cutL xs none (some (n : Int)) = xs.take n := by
  unfold cutL
  rw [show HT.sIx xs.length xs.length (some (n : Int)) = min n xs.length from HT.sIx_nat xs.length xs.length n, HT.sIx_none, List.drop_zero, Nat.sub_zero]
  by_cases h : n ≤ xs.length
  · rw [Nat.min_eq_left h]
  · rw [Nat.min_eq_right (by omega), List.take_length, List.take_of_length_le (by omega)]
theorem cutL_from {α : Type} (xs : List α) (n : Nat) : cutL xs (some (n : Int)) none = xs.drop n := by
  unfold cutL
  rw [show HT.sIx xs.length 0 (some (n : Int)) = min n xs.length from HT.sIx_nat xs.length 0 n, HT.sIx_none]
  by_cases h : n ≤ xs.length
  · rw [Nat.min_eq_left h]
    exact List.take_of_length_le (by rw [List.length_drop]; omega)
  · rw [Nat.min_eq_right (by omega), List.drop_length, List.drop_eq_nil_of_le (by omega)]
    simp
/-! ### built-ins on known data -/
theorem len_s {z : Str} (h : z.length ≤ sizeLine) (q : Q (.int z.length) m) : lenD [.str z] m Q := ⟨h, q⟩
theorem len_t {l : List D} (q : l.length ≤ sizeLine → Q (.int l.length) m) : lenD [.tup l] m Q := q
theorem len_l {l : List D} (q : l.length ≤ sizeLine → Q (.int l.length) m) : lenD [.lst l] m Q := q
theorem len_f {l : List D} (q : l.length ≤ sizeLine → Q (.int l.length) m) : lenD [.frz l] m Q := q
theorem len_o {p : Addr} {l : List D} (hm : m p = some (.lst l)) (q : l.length ≤ sizeLine → Q (.int l.length) m) : lenD [.ref p] m Q := ⟨l, hm, q⟩
theorem max_ii {i j : Int} (q : Q (.int (max i j)) m) : maxD [.int i, .int j] m Q := q
theorem min_ii {i j : Int} (q : Q (.int (min i j)) m) : minD [.int i, .int j] m Q := q
theorem int_i {i : Int} (q : Q (.int i) m) : intD [.int i] m Q := q
theorem int_b {k : Bool} (q : Q (.int (if k then 1 else 0)) m) : intD [.bl k] m Q := q
theorem list_l {d : D} {l : List D} (h : itemsD d m = some l) (q : Q (.lst l) m) : listD [d] m Q := ⟨d, l, rfl, h, q⟩
theorem list_m {d : D} {l : List D} (h : itemsD d m = some l) (q : ∀ p, m p = none → Q (.ref p) (sput m p (.lst l))) : listDM [d] m Q := ⟨d, l, rfl, h, q⟩
theorem isi {d : D} {t n : String} {k : Bool} (h : tyD d = some t) (hk : kitB t n = some k) (q : Q (.bl k) m) : isiD [d, .ty n] m Q := ⟨d, t, n, k, rfl, h, hk, q⟩
theorem isi2 {d : D} {t n1 n2 : String} {k : Bool} (h : tyD d = some t) (hk : kit2 t n1 n2 = some k) (q : Q (.bl k) m) : ∃ t k, tyD d = some t ∧ kit2 t n1 n2 = some k ∧ Q (.bl k) m := ⟨t, k, h, hk, q⟩
end
/-! ### what the classes are -/
theorem kit_NoneType_bool : kitB "NoneType" "bool" = some false := by decide +kernel
theorem kit_NoneType_int : kitB "NoneType" "int" = some false := by decide +kernel
theorem kit_NoneType_str : kitB "NoneType" "str" = some false := by decide +kernel
theorem kit_NoneType_list : kitB "NoneType" "list" = some false := by decide +kernel
theorem kit_NoneType_tuple : kitB "NoneType" "tuple" = some false := by decide +kernel
theorem kit_NoneType_dict : kitB "NoneType" "dict" = some false := by decide +kernel
theorem kit_bool_bool : kitB "bool" "bool" = some true := by decide +kernel
theorem kit_bool_int : kitB "bool" "int" = some true := by decide +kernel
theorem kit_bool_str : kitB "bool" "str" = some false := by decide +kernel
theorem kit_bool_list : kitB "bool" "list" = some false := by decide +kernel
theorem kit_bool_tuple : kitB "bool" "tuple" = some false := by decide +kernel
theorem kit_bool_dict : kitB "bool" "dict" = some false := by decide +kernel
theorem kit_int_bool : kitB "int" "bool" = some false := by decide +kernel
theorem kit_int_int : kitB "int" "int" = some true := by decide +kernel
theorem kit_int_str : kitB "int" "str" = some false := by decide +kernel
theorem kit_int_list : kitB "int" "list" = some false := by decide +kernel
theorem kit_int_tuple : kitB "int" "tuple" = some false := by decide +kernel
theorem kit_int_dict : kitB "int" "dict" = some false := by decide +kernel
theorem kit_str_bool : kitB "str" "bool" = some false := by decide +kernel
theorem kit_str_int : kitB "str" "int" = some false := by decide +kernel
theorem kit_str_str : kitB "str" "str" = some true := by decide +kernel
theorem kit_str_list : kitB "str" "list" = some false := by decide +kernel
theorem kit_str_tuple : kitB "str" "tuple" = some false := by decide +kernel
theorem kit_str_dict : kitB "str" "dict" = some false := by decide +kernel
theorem kit_tuple_bool : kitB "tuple" "bool" = some false := by decide +kernel
theorem kit_tuple_int : kitB "tuple" "int" = some false := by decide +kernel
theorem kit_tuple_str : kitB "tuple" "str" = some false := by decide +kernel
theorem kit_tuple_list : kitB "tuple" "list" = some false := by decide +kernel
theorem kit_tuple_tuple : kitB "tuple" "tuple" = some true := by decide +kernel
theorem kit_tuple_dict : kitB "tuple" "dict" = some false := by decide +kernel
theorem kit_list_bool : kitB "list" "bool" = some false := by decide +kernel
theorem kit_list_int : kitB "list" "int" = some false := by decide +kernel
theorem kit_list_str : kitB "list" "str" = some false := by decide +kernel
theorem kit_list_list : kitB "list" "list" = some true := by decide +kernel
theorem kit_list_tuple : kitB "list" "tuple" = some false := by decide +kernel
theorem kit_list_dict : kitB "list" "dict" = some false := by decide +kernel
theorem kit_dict_bool : kitB "dict" "bool" = some false := by decide +kernel
theorem kit_dict_int : kitB "dict" "int" = some false := by decide +kernel
theorem kit_dict_str : kitB "dict" "str" = some false := by decide +kernel
theorem kit_dict_list : kitB "dict" "list" = some false := by decide +kernel
theorem kit_dict_tuple : kitB "dict" "tuple" = some false := by decide +kernel
theorem kit_dict_dict : kitB "dict" "dict" = some true := by decide +kernel
theorem kit2_NoneType_int_str : kit2 "NoneType" "int" "str" = some false := by decide +kernel
theorem kit2_bool_int_str : kit2 "bool" "int" "str" = some true := by decide +kernel
theorem kit2_int_int_str : kit2 "int" "int" "str" = some true := by decide +kernel
theorem kit2_str_int_str : kit2 "str" "int" "str" = some true := by decide +kernel
theorem kit2_tuple_int_str : kit2 "tuple" "int" "str" = some false := by decide +kernel
theorem kit2_list_int_str : kit2 "list" "int" "str" = some false := by decide +kernel
theorem kit2_dict_int_str : kit2 "dict" "int" "str" = some false := by decide +kernel
theorem eqvD_bl {a b : Bool} : eqvD (.bl a) (.bl b) = (a == b) := by simp [eqvD, toPy, PyData.eqv]
theorem eqvD_int {a b : Int} : eqvD (.int a) (.int b) = (a == b) := by simp [eqvD, toPy, PyData.eqv]
theorem eqvD_str {a b : Str} : eqvD (.str a) (.str b) = (a == b) := by simp [eqvD, toPy, PyData.eqv]
theorem blsD_true : ∀ n : Nat, blsD (List.replicate n (.bl true)) = some (List.replicate n true)
  | 0 => rfl
  | n + 1 => by
    show (blsD (List.replicate n (.bl true))).map (true :: ·) = _
    rw [blsD_true n]
    rfl
theorem all_true : ∀ n : Nat, (List.replicate n true).all id = true
  | 0 => rfl
  | n + 1 => by
    rw [List.replicate_succ, List.all_cons, all_true n]
    rfl
end G

/-! The data layer: raise, try; methods of built-in classes; tuples of texts. -/
namespace G
open PySem PySem.Spec PyProof.Rows L2

/-! ### raise, try -/
/-- an own class of errors over ValueError, by its name -/
structure Ec (K : PySem.W.Frag) (mg : Str → Option Value) (x : Str) (c : Addr) : Prop where
  g : mg x = some (.ref c)
  kp : PySem.W.keepIn K (.ref c) = true
  ex : PySem.W.excIn K c [.type "ValueError", .type "Exception", .type "BaseException", .type "object"] "ValueError.__new__" = true
  sub : PySem.W.subIn K (.ref c) (.type "BaseException") = some true
  ty : PySem.W.typeIn K (.ref c) = some (.type "type")
/-- the context of an except suite -/
def Ct.hot (C : Ct) : Ct := { C with cm := false, ex := none }
section
variable {C : Ct} {W : DW} {δ : Sl} {m : Sto} {a b c e : Expr} {es : List Expr} {pos pos' np : Pos} {Q : D → Sto → Prop} {D : DEn}
theorem ds_raise {x z : Str} {j : Nat} {p p2 : Pos} {k : Addr} (E : Ec C.K C.mg x k) (hg : GlC C x) (w : W (.ref k) [] δ m) (hdb : (x == ("__debug__" : Str)) = false := by decide) (hcm : C.cm = true := by rfl) :
    DS C W (.Raise (some (.Call (.Name x p) [.Constant (.str z) j p2] [] pos)) none pos') δ m D := by
  intro X S f tk σ H T le sl hh
  refine WS.of (ps_raise (f.calm hcm) tk (pmk_own (PySem.F.excBase_ValueError) (by rw [f.K]; exact E.ex) (by rw [f.mg]; exact E.g) (by rw [f.K]; exact E.kp) (raises_own (by rw [f.K]; exact E.sub) (by rw [f.K]; exact E.ty)) (f.gl hg) hdb)) ?_
  exact ⟨δ, m, T, [], le, sl, hh, .inl ⟨rfl, rfl⟩, w⟩
theorem ds_try {x : Str} {body suite : List Stmt} {b₀ : Stmt} {k : Addr} (hm : C.mg x = some (.ref k)) (hg : GlC C x)
    (h : DSs C (fun cls fs δ' m' => ∃ b, PySem.W.exmOne C.K cls (.ref k) = some b ∧ (b = true → DSs C.hot W0 (b₀ :: suite) δ' m' D) ∧ (b = false → W cls fs δ' m')) body δ m D)
    (hdb : (x == ("__debug__" : Str)) = false := by decide) (htr : C.tr = true := by rfl) (hex : C.ex = none := by rfl) : DS C W (.Try body [.ExceptHandler (some (.Name x np)) none (b₀ :: suite) pos'] [] [] pos) δ m D := by
  intro X S f tk σ H T le sl hh
  refine WS.of (ps_try_only (c := .ref k)
    (tb := fun W' D' σ H => ∀ (pn : List (Addr × Obj)) (xe : Value → Shared → Prop), Takes (X.tr pn xe) W' → PassesOwn (model X.prog X.w) X.A X.env xe → WSs (X.tr pn xe) body D' σ H)
    (ts := fun a cls d D' σ H => ∀ (oe : Obj) (pn : List (Addr × Obj)), WSs (X.suite a ((a, oe) :: pn)) (b₀ :: suite) D' σ H)
    (f.tr htr).1 (f.tr htr).2 ⟨f.gl hg, hdb, .inl (by rw [f.mg]; exact hm)⟩ tk
    (fun W' pn xe t p => ⟨fun pins s σ H D I r => r pn xe t p pins s I⟩) (fun a oe cls d pn hz hv => ⟨fun pins s σ H D I r => r oe pn pins s I⟩)) ?_
  intro pn xe tk' po
  have fit : Fits C (X.tr pn xe) := ⟨f.prog, f.w, f.K, f.mg, f.base, f.N, f.sc, f.fn, f.nd, f.un, f.room, f.calm, po, f.tr, fun _ _ e => by rw [hex] at e; cases e⟩
  refine h (X.tr pn xe) S fit (tk'.imp ?_) σ H T le sl hh
  rintro cls d σ' H' ⟨δ', m', T', fs, le', sl', hh', xd, k', hk', h1, h2⟩
  refine ⟨k', by rw [f.K]; exact hk', fun e a _ oe pn2 => ?_, fun e => ⟨δ', m', T', fs, le', sl', hh', xd, h2 e⟩⟩
  have fit2 : Fits C.hot (X.suite a ((a, oe) :: pn2)) := ⟨f.prog, f.w, f.K, f.mg, f.base, f.N, f.sc, f.fn, f.nd, f.un, (fun z => nomatch z), (fun z => nomatch z), PassesOwn.never, f.tr, fun _ _ e => nomatch e⟩
  exact h1 e (X.suite a ((a, oe) :: pn2)) S fit2 takes_W0 σ' H' T' le' sl' hh'
end

/-! ### methods of built-in classes -/
def WM (X : Cx) (id : String) (ty : V → Hp → Prop) : V → List V → Hp → VK → Prop := fun v vs H Q => ∀ (pins : List (Addr × Obj)) (s : Shared) (σ : L2.St) (u : Value) (us : List Value), Inv X pins σ H s → RelV v u → Vals vs us → wpAny (model X.prog X.w) X.A (call (.builtin id) (u :: us)) (EP X pins σ Q) X.xe s
theorem wm {X : Cx} {id : String} {ty : V → Hp → Prop} : MtR X id (WM X id ty) := fun pins s σ H x xs v us Q I rx rs h => h pins s σ v us I rx rs
theorem wm_of {X : Cx} {id : String} {ty : V → Hp → Prop} {r : V → List V → Hp → VK → Prop} {v : V} {vs : List V} {H : Hp} {Q : VK} (h : MtR X id r) (q : r v vs H Q) : WM X id ty v vs H Q := fun pins s σ u us I rx rs => h pins s σ H v vs u us Q I rx rs q
/-- a method by data: the receiver, the arguments -/
abbrev RMD := D → List D → Sto → (D → Sto → Prop) → Prop
/-- what the receiver must be for the class to be found -/
def okR (T : String) : D → Sto → Prop
  | .str _, _ => T = "str"
  | .lst _, _ => T = "list"
  | .ref p, m => T = "list" ∧ ∃ ds, m p = some (.lst ds)
  | _, _ => False
def MtD (C : Ct) (id : String) (r : RMD) : Prop := ∀ (X : Cx), Fits C X → ∀ (fr : Sto) (H : Hp) (m : Sto) (T : RT) (v : V) (d : D) (vs : List V) (ds : List D) (Q : D → Sto → Prop), vs.length = ds.length → Hd C.K fr H m (PlL (Pl T v d) vs ds) → r d ds m Q → WM X id (fun _ _ => True) v vs H (dK C.K fr T Q)
theorem okR_ty {K : PySem.W.Frag} {fr : Sto} {H : Hp} {m : Sto} {T : RT} {v : V} {d : D} {t : String} (hh : Hd K fr H m T) (tv : T v d) (ok : okR t d m) : tyV K t v H := by
  have r := hh.rep tv
  cases d with
  | str z => cases r; exact ok
  | lst l =>
    cases r with
    | lst hp _ => exact .inl ⟨ok, _, SqL.of hp⟩
  | ref p =>
    cases r
    obtain ⟨e, ds, hm⟩ := ok
    obtain ⟨xs, hq, _⟩ := hh.itemsO hm
    exact .inl ⟨e, _, SqL.of hq⟩
  | _ => exact ok.elim
section
variable {C : Ct} {W : DW} {δ : Sl} {m : Sto} {a b c e o : Expr} {es : List Expr} {pos pos' apos cpos : Pos} {Q : D → Sto → Prop} {T id : String} {name : Str} {r : RMD}
theorem de_bm (hm : MtD C id r) (pa : PlainAttrs T) (slot : Slot T name id) (hty : typeOf (.builtin id) = pure (.type "method_descriptor"))
    (h : DE C W o δ m fun d m1 => okR T d m1 ∧ DA C W (e :: es) δ m1 fun ds m2 => r d ds m2 Q)
    (hbase : ∀ env, attributeBase o name env (eval o env) = eval o env := by intro _; rfl)
    (hfew : ∀ env, ((backTo cpos (starEach (e :: es) env)).all (fun x => !x.1) && (backToKw cpos (keywordEach [] env)).all (fun x => x.1.isSome)
      && decide ((e :: es).length + ([] : List Keyword).length + (if ([] : List Keyword).isEmpty then 0 else 1) < 30)) = true := by intro _; rfl)
    (hline : (apos.endLine == cpos.line) = true := by rfl) (hs : ∀ env, starEach (e :: es) env = (false, eval e env) :: starEach es env := by intro _; rfl) (hplain : ∀ env, (backTo cpos (starEach es env)).any (·.1) = false := by intro _; rfl) :
    DE C W (.Call (.Attribute o name apos) (e :: es) [] cpos) δ m Q := by
  intro X S f tk σ H T0 le sl hh
  refine WE.of (pe_bm pa slot hty (wm (ty := fun _ _ => True)) we wa (hbase _) (hfew _) hline (hs _) (hplain _)) ((h X S f tk σ H T0 le sl hh).mono fun v H1 ⟨d, m1, h1, ok, q⟩ => ?_)
  refine ⟨by rw [f.K]; exact okR_ty h1 Pl.it ok, ?_⟩
  refine (q X S f tk σ H1 _ (le.trans Pl.le) (sl.le Pl.le) h1).mono fun vs H2 ⟨ds, m2, hl, h2, q2⟩ => ?_
  exact hm X f S.r H2 m2 T0 v d vs ds Q hl h2 q2
theorem de_bm0 (hm : MtD C id r) (pa : PlainAttrs T) (slot : Slot T name id) (hty : typeOf (.builtin id) = pure (.type "method_descriptor"))
    (h : DE C W o δ m fun d m1 => okR T d m1 ∧ r d [] m1 Q)
    (hbase : ∀ env, attributeBase o name env (eval o env) = eval o env := by intro _; rfl) (hline : (apos.endLine == cpos.line) = true := by rfl) :
    DE C W (.Call (.Attribute o name apos) [] [] cpos) δ m Q := by
  intro X S f tk σ H T0 le sl hh
  refine WE.of (pe_bm0 pa slot hty (wm (ty := fun _ _ => True)) we (hbase _) hline) ((h X S f tk σ H T0 le sl hh).mono fun v H1 ⟨d, m1, h1, ok, q⟩ => ?_)
  exact ⟨by rw [f.K]; exact okR_ty h1 Pl.it ok, hm X f S.r H1 m1 T0 v d [] [] Q rfl (h1.le fun x y z => z.elim (fun h => h) fun z => by simp at z) q⟩
/-! ### lists that are objects -/
theorem pl0 {T : RT} {v : V} {d : D} {vs : List V} {ds : List D} : PlL (Pl T v d) vs ds v d := PlL.le _ _ Pl.it
/-- p.append(x) -/
def appendD : RMD := fun d ds m Q => ∃ p l x, d = .ref p ∧ ds = [x] ∧ m p = some (.lst l) ∧ l.length < sizeLine ∧ Q .non (sput m p (.lst (l ++ [x])))
theorem md_append : MtD C "list.append" appendD := by
  rintro X f fr H m T v d vs ds Q hl hh ⟨p, l, x, rfl, rfl, hm, hz, q⟩
  obtain ⟨w, rfl⟩ := one_of hl
  have rv := hh.rep pl0
  cases rv
  obtain ⟨xs, hq, hxl, _⟩ := hh.itemsO hm
  have h4 := hh.mut (u' := .lst (xs ++ [w])) (o' := .lst (l ++ [x])) hm hq fun Hi r kk => RepL.snoc r (kk w x (PlL.at (i := 0) rfl rfl))
  exact wm_of mt_append ⟨p, xs, w, rfl, rfl, hq, by rw [hxl]; exact hz, dK.le (dk_non h4 q) (Pl.le.trans PlL.le)⟩
/-- p.extend(l) -/
def extendD : RMD := fun d ds m Q => ∃ p l x, d = .ref p ∧ ds = [.lst x] ∧ m p = some (.lst l) ∧ l.length + x.length ≤ sizeLine ∧ Q .non (sput m p (.lst (l ++ x)))
theorem RepL.app {K : PySem.W.Frag} {H : Hp} : ∀ {vs us : List V} {ds es : List D}, RepL K H vs ds → RepL K H us es → RepL K H (vs ++ us) (ds ++ es)
  | _, _, _, _, .nil, h => h
  | _, _, _, _, .cons r t, h => .cons r (RepL.app t h)
theorem md_extend : MtD C "list.extend" extendD := by
  rintro X f fr H m T v d vs ds Q hl hh ⟨p, l, x, rfl, rfl, hm, hz, q⟩
  obtain ⟨w, rfl⟩ := one_of hl
  have rv := hh.rep pl0
  cases rv
  obtain ⟨xs, hq, hxl, _⟩ := hh.itemsO hm
  have tw : PlL (Pl T (.ref p) (.ref p)) [w] [.lst x] w (.lst x) := PlL.at (i := 0) rfl rfl
  obtain ⟨b, ys, rfl, hb, hyl, h4⟩ := hh.itemsL tw
  have h5 := h4.mut (u' := .lst (xs ++ ys)) (o' := .lst (l ++ x)) hm hq fun Hi r kk => RepL.app r (PlL.rep hyl fun v d t => kk v d t)
  exact wm_of mt_extend ⟨p, b, xs, ys, rfl, rfl, hq, hb, by rw [hxl, hyl]; exact hz, dK.le (dk_non h5 q) (Pl.le.trans (PlL.le.trans PlL.le))⟩
/-! ### texts -/
theorem repL_strs {K : PySem.W.Frag} {H : Hp} : ∀ ys : List Str, RepL K H (ys.map V.str) (ys.map D.str)
  | [] => .nil
  | y :: ys => .cons (.str y) (repL_strs ys)
theorem strs_of {K : PySem.W.Frag} {H : Hp} : ∀ {xs : List V} {ys : List Str}, RepL K H xs (ys.map D.str) → xs = ys.map V.str
  | [], [], _ => rfl
  | [], _ :: _, r => by cases r
  | _ :: _, [], r => by cases r
  | x :: xs, y :: ys, r => by
    cases r with
    | cons r t =>
      cases r
      rw [strs_of t]
      rfl
/-- a.split(b) -/
def splitD : RMD := fun d ds m Q => ∃ a b, d = .str a ∧ ds = [.str b] ∧ (b.length == 0) = false ∧ a.length + 2 ≤ sizeLine ∧ Q (.lst ((Txt.split a b).map D.str)) m
theorem md_split : MtD C "str.split" splitD := by
  rintro X f fr H m T v d vs ds Q hl hh ⟨a, b, rfl, rfl, hb, hz, q⟩
  obtain ⟨w, rfl⟩ := one_of hl
  have rv := hh.rep pl0
  have rw' := hh.rep (PlL.at (i := 0) (v := w) (d := .str b) rfl rfl)
  cases rv
  cases rw'
  exact wm_of mt_split ⟨a, b, rfl, rfl, hb, hz, fun p hp => dK.le (dk_lst hh hp (fun Hi _ => repL_strs _) q) (Pl.le.trans PlL.le)⟩
/-- a.join(l) -/
def joinD : RMD := fun d ds m Q => ∃ a ys, d = .str a ∧ ds = [.lst (ys.map D.str)] ∧ (ys.map (·.length)).sum + ys.length * a.length ≤ 16777216 ∧ Q (.str (Txt.join a ys)) m
theorem md_join : MtD C "str.join" joinD := by
  rintro X f fr H m T v d vs ds Q hl hh ⟨a, ys, rfl, rfl, hz, q⟩
  obtain ⟨w, rfl⟩ := one_of hl
  have rv := hh.rep pl0
  cases rv
  obtain ⟨p, xs, rfl, hq, r⟩ := hh.repsL (PlL.at (i := 0) (v := w) (d := .lst (ys.map D.str)) rfl rfl)
  have e := strs_of r
  subst e
  exact wm_of mt_join ⟨a, p, ys, rfl, rfl, .inl (SqL.of hq), hz, dK.le (dk_str hh q) (Pl.le.trans PlL.le)⟩
/-! ### tuples of texts -/
theorem any_strs (z : Str) : ∀ zs : List Str, inV (.str z) (zs.map V.str) = decide (z ∈ zs)
  | [] => rfl
  | y :: zs => by
    have ih := any_strs z zs
    unfold inV at ih ⊢
    rw [List.map_cons, List.any_cons, ih, Bool.eq_iff_iff, Bool.or_eq_true, decide_eq_true_eq, decide_eq_true_eq, List.mem_cons]
    show ((y == z) = true ∨ z ∈ zs) ↔ z = y ∨ z ∈ zs
    rw [beq_iff_eq]
    exact ⟨fun h => h.elim (fun h => .inl h.symm) .inr, fun h => h.elim (fun h => .inl h.symm) .inr⟩
def inT (neg : Bool) : R2D := fun d e m Q => ∃ (z : Str) (zs : List Str), d = .str z ∧ e = .tup (zs.map D.str) ∧ Q (.bl (if neg then !decide (z ∈ zs) else decide (z ∈ zs))) m
theorem Hd.repsT {K : PySem.W.Frag} {fr : Sto} {H : Hp} {m : Sto} {T : RT} {v : V} {l : List D} (h : Hd K fr H m T) (t : T v (.tup l)) : ∃ a xs, v = .ref a ∧ SqT K H a xs ∧ RepL K H xs l := by
  have r := h.rep t
  cases r with
  | tup q r => exact ⟨_, _, rfl, q, r⟩
theorem od_inT : OpD C (compareOp .In) (inT false) := by
  rintro X f fr H m T x y d e Q hh tx ty ⟨z, zs, rfl, rfl, q⟩
  have rx := hh.rep tx
  cases rx
  obtain ⟨p, xs, rfl, hq, r⟩ := hh.repsT ty
  have e := strs_of r
  subst e
  refine wb_of op_in_seq ⟨p, _, rfl, .inr (by rw [f.K]; exact hq), rfl, flat_strs zs, ?_⟩
  rw [any_strs]
  exact dk_bl hh q
theorem od_notinT : OpD C (compareOp .NotIn) (inT true) := by
  rintro X f fr H m T x y d e Q hh tx ty ⟨z, zs, rfl, rfl, q⟩
  have rx := hh.rep tx
  cases rx
  obtain ⟨p, xs, rfl, hq, r⟩ := hh.repsT ty
  have e := strs_of r
  subst e
  refine wb_of op_notIn_seq ⟨p, _, rfl, .inr (by rw [f.K]; exact hq), rfl, flat_strs zs, ?_⟩
  rw [any_strs]
  exact dk_bl hh q
/-! ### texts, numbers compared -/
def eqF (neg : Bool) : R2D := fun d e m Q => (∃ x y : Str, d = .str x ∧ e = .str y ∧ Q (.bl (if neg then !decide (x = y) else decide (x = y))) m) ∨ (∃ x y : Int, d = .int x ∧ e = .int y ∧ Q (.bl (if neg then !decide (x = y) else decide (x = y))) m)
theorem dec_inj {α β : Type} [DecidableEq α] [DecidableEq β] {f : α → β} (h : ∀ x y, f x = f y → x = y) (x y : α) : decide (f x = f y) = decide (x = y) := by
  rw [decide_eq_decide]
  exact ⟨h x y, fun e => by rw [e]⟩
theorem od_eqF : OpD C (compareOp .Eq) (eqF false) := by
  rintro X f fr H m T x y d e Q hh tx ty (⟨i, j, rfl, rfl, q⟩ | ⟨i, j, rfl, rfl, q⟩)
  all_goals
    have rx := hh.rep tx
    have ry := hh.rep ty
    cases rx
    cases ry
    refine wb_of op_eq ⟨rfl, ?_⟩
    refine dk_bl hh ?_
    rw [if_neg Bool.false_ne_true] at q
  · rw [dec_inj (f := V.str) fun x y e => by injection e]
    exact q
  · rw [dec_inj (f := V.int) fun x y e => by injection e]
    exact q
theorem od_neF : OpD C (compareOp .NotEq) (eqF true) := by
  rintro X f fr H m T x y d e Q hh tx ty (⟨i, j, rfl, rfl, q⟩ | ⟨i, j, rfl, rfl, q⟩)
  all_goals
    have rx := hh.rep tx
    have ry := hh.rep ty
    cases rx
    cases ry
    refine wb_of op_ne ⟨rfl, ?_⟩
    refine dk_bl hh ?_
    rw [if_pos rfl] at q
  · rw [dec_inj (f := V.str) fun x y e => by injection e]
    exact q
  · rw [dec_inj (f := V.int) fun x y e => by injection e]
    exact q
theorem eq_ss {x y : Str} (q : Q (.bl (decide (x = y))) m) : eqF false (.str x) (.str y) m Q := .inl ⟨x, y, rfl, rfl, q⟩
theorem eq_ii {x y : Int} (q : Q (.bl (decide (x = y))) m) : eqF false (.int x) (.int y) m Q := .inr ⟨x, y, rfl, rfl, q⟩
theorem ne_ss {x y : Str} (q : Q (.bl (!decide (x = y))) m) : eqF true (.str x) (.str y) m Q := .inl ⟨x, y, rfl, rfl, q⟩
theorem ne_ii {x y : Int} (q : Q (.bl (!decide (x = y))) m) : eqF true (.int x) (.int y) m Q := .inr ⟨x, y, rfl, rfl, q⟩
/-- a tuple of texts of the program's top -/
def TupK (K : PySem.W.Frag) (mg : Str → Option Value) (x : Str) (zs : List Str) : Prop := ∃ a o its n, mg x = some (.ref a) ∧ K.lookup a = some o ∧ o.cls = .type "tuple" ∧ o.dict = none ∧ o.data = .seq its n ∧ its.size ≤ sizeLine ∧ Vals (zs.map V.str) its.toList
theorem de_tupK {x : Str} {zs : List Str} (hk : TupK C.K C.mg x zs) (hg : GlC C x) (q : Q (.tup (zs.map D.str)) m) (hd : (x == ("__debug__" : Str)) = false := by decide) : DE C W (.Name x pos) δ m Q := by
  obtain ⟨a, o, its, n, h1, h2, h3, h4, h5, h6, h7⟩ := hk
  intro X S f tk σ H T0 le sl hh
  refine WE.of (pe_glob (v := .ref a) (f.gl hg) (by rw [f.mg]; exact h1) rfl hd) ?_
  exact dk hh (fun Hi _ => Rep.tup (.inr ⟨o, its, n, h2, h3, h5, h6, h7⟩) (repL_strs zs)) q
/-- x.index(e), x such a tuple -/
theorem de_tupIndex {x : Str} {zs : List Str} {p : Pos} (hk : TupK C.K C.mg x zs) (hg : GlC C x) (h : DE C W e δ m fun d m1 => ∃ z j, d = .str z ∧ zs[j]? = some z ∧ (∀ i, i < j → zs[i]? ≠ some z) ∧ Q (.int (j : Nat)) m1)
    (hd : (x == ("__debug__" : Str)) = false := by decide)
    (hbase : ∀ env, attributeBase (.Name x p) "index" env (eval (.Name x p) env) = eval (.Name x p) env := by intro _; rfl)
    (hfew : ∀ env, ((backTo cpos (starEach [e] env)).all (fun x => !x.1) && (backToKw cpos (keywordEach [] env)).all (fun x => x.1.isSome)
      && decide (([e] : List Expr).length + ([] : List Keyword).length + (if ([] : List Keyword).isEmpty then 0 else 1) < 30)) = true := by intro _; rfl)
    (hline : (apos.endLine == cpos.line) = true := by rfl) (hs : ∀ env, starEach [e] env = (false, eval e env) :: starEach [] env := by intro _; rfl) (hplain : ∀ env, (backTo cpos (starEach [] env)).any (·.1) = false := by intro _; rfl) :
    DE C W (.Call (.Attribute (.Name x p) "index" apos) [e] [] cpos) δ m Q := by
  obtain ⟨a, o, its, n, h1, h2, h3, h4, h5, h6, h7⟩ := hk
  intro X S f tk σ H T0 le sl hh
  refine WE.of (pe_bm PySem.F.plainAttrs_tuple PySem.F.slot_tuple_index PySem.F.type_tuple_index mt_tup_index (pe_glob (v := .ref a) (f.gl hg) (by rw [f.mg]; exact h1) rfl hd) (pa_cons we pa_nil (hs _)) (hbase _) (hfew _) hline (hs _) (hplain _)) ?_
  refine ⟨.inr (.inl ⟨rfl, o, by rw [f.K]; exact h2, h3, h4⟩), ?_⟩
  refine (h X S f tk σ H T0 le sl hh).mono fun v H1 ⟨d, m1, h1, z, j, ed, hj, hno, q⟩ => ?_
  subst ed
  have rv := h1.rep (Pl.it (T := T0) (v := v) (d := .str z))
  cases rv
  exact ⟨a, zs, z, j, rfl, rfl, .inr ⟨o, its, n, by rw [f.K]; exact h2, h3, h5, h6, h7⟩, hj, hno, dK.le (dk_int h1 q) Pl.le⟩
/-- one of some texts, at an open place -/
theorem ixTs (l : List Str) {i : Int} (h0 : 0 ≤ i) (h1 : i < l.length) (q : ∀ z, z ∈ l → Q (.str z) m) : ixD (.tup (l.map D.str)) (.int i) m Q := by
  have h2 : i.toNat < l.length := by omega
  exact ixTi h0 (d := .str l[i.toNat]) (by rw [List.getElem?_map, List.getElem?_eq_getElem h2]; rfl) (q _ (List.getElem_mem _))
/-- one of some numbers -/
theorem ixTn (l : List Int) {i : Int} (h0 : 0 ≤ i) (h1 : i < l.length) (q : ∀ z, z ∈ l → Q (.int z) m) : ixD (.tup (l.map D.int)) (.int i) m Q := by
  have h2 : i.toNat < l.length := by omega
  exact ixTi h0 (d := .int l[i.toNat]) (by rw [List.getElem?_map, List.getElem?_eq_getElem h2]; rfl) (q _ (List.getElem_mem _))
end
end G

/-! The data layer: keywords, defaults; ranges by steps; o[i] op= e; a comprehension as an object; isinstance of objects. -/
namespace G
open PySem PySem.Spec PyProof.Rows L2

theorem Hd.more {K : PySem.W.Frag} {r : Sto} {H : Hp} {m : Sto} {T T' : RT} (h : Hd K r H m T) (k : ∀ Hi, (∀ v d, T v d → Rep K Hi v d) → ∀ v d, T' v d → Rep K Hi v d) : Hd K r H m T' := by
  obtain ⟨h0, Hi, h1, h2, h3⟩ := h
  exact ⟨h0, Hi, h1, h2, k Hi h3⟩
theorem RepL.zip {K : PySem.W.Frag} {H : Hp} : ∀ {vs : List V} {ds : List D}, RepL K H vs ds → ∀ v d, (v, d) ∈ vs.zip ds → Rep K H v d
  | _, _, .nil, _, _, h => by simp at h
  | _, _, .cons r t, v, d, h => by
    rw [List.zip_cons_cons] at h
    rcases List.mem_cons.mp h with e | h
    · cases e; exact r
    · exact RepL.zip t v d h
theorem Hd.apps {K : PySem.W.Frag} {r : Sto} {H : Hp} {m : Sto} {T : RT} {vs us : List V} {ds es : List D} (h : Hd K r H m (PlL T vs ds)) (hl : vs.length = ds.length) (k : ∀ Hi, RepL K Hi us es) : Hd K r H m (PlL T (vs ++ us) (ds ++ es)) :=
  h.more fun Hi f v d t => by
    rcases t with t | t
    · exact f v d (.inl t)
    · rw [List.zip_append hl] at t
      rcases List.mem_append.mp t with t | t
      · exact f v d (.inr t)
      · exact RepL.zip (k Hi) v d t
/-- what a caller knows of the def x whose last parameters have the values dds -/
structure KnD (P : Program) (w : World) (K : PySem.W.Frag) (mg : Str → Option Value) (base : Heap) (x : Str) (k : Nat) (F : DF) (dds : List D) : Prop where
  ex : ∃ f fd ps its dvs, FnOk P w K mg base (L2.CX P w) k f fd ps (spD K F) ∧ mg x = some (.ref f) ∧ PySem.W.keepIn K (.ref f) = true ∧ Binds K fd ps its ∧ Vals dvs its ∧ dvs.length = dds.length ∧ ∀ Hi, RepL K Hi dvs dds
/-- .. called with n values and keywords ks behind them -/
structure KnK (P : Program) (w : World) (K : PySem.W.Frag) (mg : Str → Option Value) (base : Heap) (x : Str) (k : Nat) (F : DF) (n : Nat) (ks : List Str) : Prop where
  ex : ∃ f fd ps g, FnOk P w K mg base (L2.CX P w) k f fd ps (spD K F) ∧ mg x = some (.ref f) ∧ PySem.W.keepIn K (.ref f) = true ∧ KBn K fd ps n ks g (fun vs zs => vs ++ zs)
section
variable {C : Ct} {W : DW} {δ : Sl} {m : Sto} {a b c e : Expr} {es : List Expr} {pos pos' : Pos} {Q : D → Sto → Prop}
theorem de_callD {x : Str} {p : Pos} {k : Nat} {F : DF} {dds : List D} (kn : KnD C.P C.w C.K C.mg C.base x k F dds) (hk : Nat.ble k C.k = true) (hg : GlC C x) (h : DA C W (e :: es) δ m fun ds m1 => F (ds ++ dds) m1 Q fun cls fs m' => W cls fs δ m') (hdb : (x == ("__debug__" : Str)) = false := by decide) (hcm : C.cm = true := by rfl)
    (he : ∀ env, starEach (e :: es) env = (false, eval e env) :: starEach es env := by intro _; rfl) (hpl : ∀ env, (backTo pos (starEach es env)).any (·.1) = false := by intro _; rfl) : DE C W (.Call (.Name x p) (e :: es) [] pos) δ m Q := by
  intro X S fX tk σ H T le sl hh pins s I
  obtain ⟨f, fd, ps, its, dvs, ok, hm, kp, hb, hv, hlv, hrep⟩ := kn.ex
  rw [← fX.prog, ← fX.w, ← fX.K, ← fX.mg, ← fX.base] at ok
  rw [← fX.K] at kp hb
  refine wpAny_Call_Name_kw (ld_glob I (fX.gl hg) (by rw [fX.mg]; exact hm) ?_ hdb)
  refine PySem.W.callWith_K (h₀ := X.base) I.ok.mod.kin kp (thn (h X S fX tk σ H T le sl hh pos pins s I) fun us s1 ⟨vs, H1, I1, r, ds, m1, hl, h1, q⟩ => ⟨I1.kIn, ?_⟩) (he _) (hpl _)
  refine run_fnSD (E := L2.WE (liftW C.K W S)) (ok.mono (Nat.le_of_ble_eq_true hk)) (fX.room hcm) hb hv (passAt tk σ) I1 r ?_
  have z := spD_at (X := X) (S := S) (σ := σ) (Q := Q) (W := W) (δ := δ) le sl (vs := vs ++ dvs) (ds := ds ++ dds) (by rw [List.length_append, List.length_append, hl, hlv]) (h1.apps hl hrep) q
  rw [← fX.K] at z ⊢
  exact z
theorem run_kw {X : Cx} {CX : CXT} {pins : List (Addr × Obj)} {σ : L2.St} {H : Hp} {s : Shared} {Q : VK} {us ws : List Value} {vs zs : List V} {f : Addr} {fd : FuncData} {ps ks : List Str} {sp : Sp} {E : XK} {k n : Nat} {g : List Value → List Value → List Value} {gV : List V → List V → List V}
    (F : FnOk X.prog X.w X.K X.mg X.base CX k f fd ps sp) (room : Room k X.A) (hb : KBn X.K fd ps n ks g gV) (hx : PassesAt CX X σ E) (I : Inv X pins σ H s) (r : Vals vs us) (rz : Vals zs ws) (l1 : vs.length = n) (l2 : zs.length = ks.length) (h : sp (gV vs zs) H Q E) :
    wpAny (model X.prog X.w) X.A (call (.ref f) us (ks.zip ws)) (EP X pins σ Q) X.xe s := by
  have b := hb.to s us ws I.kIn (r.length.symm.trans l1) (rz.length.symm.trans l2)
  refine wpAny_call (codeAny_mono (F.run X.A X.stack s H ⟨us, ks.zip ws⟩ _ _ Q E room I.env0 b (hb.rel r rz) h) fun out s' hq => ?_)
  rcases out with err | fl
  · exact hx pins H s err s' I hq
  · cases fl <;> first | exact I.after hq | exact False.elim hq
/-- x(e, .., kw = v) -/
theorem de_callK {x kw : Str} {p kpos : Pos} {k n : Nat} {F : DF} {v : Expr} (kn : KnK C.P C.w C.K C.mg C.base x k F n [kw]) (hk : Nat.ble k C.k = true) (hg : GlC C x)
    (h : DA C W (e :: es) δ m fun ds m1 => ds.length = n ∧ DE C W v δ m1 fun d m2 => F (ds ++ [d]) m2 Q fun cls fs m' => W cls fs δ m') (hdb : (x == ("__debug__" : Str)) = false := by decide) (hcm : C.cm = true := by rfl)
    (he : ∀ env, starEach (e :: es) env = (false, eval e env) :: starEach es env := by intro _; rfl) (hall : ∀ env, (backToKw pos (keywordEach [⟨some kw, v, kpos⟩] env)).all (·.1.isSome) = true := by intro _; rfl)
    (hks : ∀ env, (backToKw pos (keywordEach [⟨some kw, v, kpos⟩] env)).filterMap (·.1) = [kw] := by intro _; rfl)
    (hpl : ∀ env, ((backTo pos (starEach (e :: es) env)).any (·.1) || (backToKw pos (keywordEach [⟨some kw, v, kpos⟩] env)).any (·.1.isNone)) = false := by intro _; rfl) : DE C W (.Call (.Name x p) (e :: es) [⟨some kw, v, kpos⟩] pos) δ m Q := by
  intro X S fX tk σ H T le sl hh pins s I
  obtain ⟨f, fd, ps, g, ok, hm, kp, hb⟩ := kn.ex
  rw [← fX.prog, ← fX.w, ← fX.K, ← fX.mg, ← fX.base] at ok
  rw [← fX.K] at kp hb
  refine wpAny_Call_Name_kw (ld_glob I (fX.gl hg) (by rw [fX.mg]; exact hm) ?_ hdb)
  refine PySem.W.callWith_KW (h₀ := X.base) I.ok.mod.kin kp (hall _) (thn (h X S fX tk σ H T le sl hh pos pins s I) fun us s1 ⟨vs, H1, I1, r, ds, m1, hl, h1, hn, q⟩ => ?_) (hpl _) (he _)
  have pk : PK X [⟨some kw, v, kpos⟩] (tCons (WE X v) tNil) := pk_cons we pk_nil
  have lel : Le T (PlL T vs ds) := PlL.le
  refine thn (pk.run pos pins s1 σ H1 (fun zs H2 => ∃ z d m2, zs = [z] ∧ Hd C.K S.r H2 m2 (Pl (PlL T vs ds) z d) ∧ F (ds ++ [d]) m2 Q fun cls fs m' => W cls fs δ m') I1 ?_) fun ws s2 ⟨zs, H2, I2, rz, z, d, m2, ez, h2, q2⟩ => ⟨I2.kIn, ?_⟩
  · exact WE.mono (q X S fX tk σ H1 (PlL T vs ds) (le.trans lel) (sl.le lel) h1) fun z H2 ⟨d, m2, h2, q2⟩ => ⟨z, d, m2, rfl, h2, q2⟩
  · subst ez
    rw [hks]
    refine run_kw (E := L2.WE (liftW C.K W S) σ) (ok.mono (Nat.le_of_ble_eq_true hk)) (fX.room hcm) hb (passAt tk σ) I2 r rz (hl.trans hn) rfl ?_
    have h3 : Hd C.K S.r H2 m2 (PlL T (vs ++ [z]) (ds ++ [d])) := h2.le fun x y t => by
      rcases t with t | t
      · exact .inl (.inl t)
      · rw [List.zip_append hl] at t
        rcases List.mem_append.mp t with t | t
        · exact .inl (.inr t)
        · rw [List.zip_cons_cons, List.zip_nil_left, List.mem_singleton] at t
          cases t
          exact Pl.it
    have w := spD_at (X := X) (S := S) (σ := σ) (Q := Q) (W := W) (δ := δ) le sl (vs := vs ++ [z]) (ds := ds ++ [d]) (by rw [List.length_append, List.length_append, hl]; rfl) h3 q2
    rw [← fX.K] at w ⊢
    exact w
/-! ### range(a, b, c) -/
def rngC (lo c : Int) (n : Nat) : List G.D := (List.range n).map fun i => .int (lo + (i : Nat) * c)
theorem rngC_len {lo c : Int} {n : Nat} : (rngC lo c n).length = n := by simp [rngC]
theorem rngC_get {lo c : Int} {n i : Nat} {d : G.D} (h : (rngC lo c n)[i]? = some d) : i < n ∧ d = .int (lo + (i : Nat) * c) := by
  have hi : i < n := by
    have := (List.getElem?_eq_some_iff.mp h).1
    rwa [rngC_len] at this
  refine ⟨hi, ?_⟩
  rw [rngC, List.getElem?_map, List.getElem?_range hi] at h
  exact (Option.some.inj h).symm
theorem walks_rngC {K : PySem.W.Frag} {lo c : Int} {n : Nat} {T : RT} : Walks K (Itc lo c n) (rngC lo c n) T :=
  ⟨fun i r H m T' hi l hd => by rw [rngC_len] at hi; exact hi, fun i r H H' m T' x d hi l hd y => by
    obtain ⟨e, ex⟩ := y
    subst e ex
    obtain ⟨_, ed⟩ := rngC_get hi
    subst ed
    exact hd.pl fun _ _ => .int _, fun i r H m T' hi l hd => by rw [rngC_len] at hi; exact hi⟩
variable {tg : Expr}
theorem di_rng3 {R : List G.D → Sto → Prop} {p : Pos} (hg : GlC C "range") (hm : C.mg "range" = none) (h : DA C W [a, b, c] δ m fun ds m1 => ∃ (i j k : Int) (n : Nat), ds = [.int i, .int j, .int k] ∧ RgC i j k n ∧ R (rngC i k n) m1)
    (hs : ∀ env, starEach [a, b, c] env = (false, eval a env) :: starEach [b, c] env := by intro _; rfl) (hpl : ∀ env, (backTo pos (starEach [b, c] env)).any (·.1) = false := by intro _; rfl) : DI C W tg (.Call (.Name "range" p) [a, b, c] [] pos) δ m R := by
  intro X S f tk σ H T le sl hh
  refine WI.of (pi_range3 (f.gl hg) (by rw [f.mg]; exact hm) wa (hs _) (hpl _)) ((h X S f tk σ H T le sl hh).mono fun vs H1 ⟨ds, m1, hl, h1, i, j, k, n, ed, hr, q⟩ => ?_)
  subst ed
  match vs, hl with
  | [u, v, w], _ =>
    have r1 := h1.rep (PlL.at (i := 0) (v := u) (d := .int i) rfl rfl)
    have r2 := h1.rep (PlL.at (i := 1) (v := v) (d := .int j) rfl rfl)
    have r3 := h1.rep (PlL.at (i := 2) (v := w) (d := .int k) rfl rfl)
    cases r1
    cases r2
    cases r3
    exact ⟨i, j, k, n, rfl, hr, _, m1, _, PlL.le, h1, walks_rngC, q⟩
/-- of a length -/
theorem rgC_len {l : Nat} {c : Int} (hl : l ≤ 16777216) (hc : 1 ≤ c) (hc2 : c < 1048576) : RgC 0 l c (((l : Int) + c - 1) / c).toNat := by
  have e := PyProof.Rows.rangeSize_pos (len := (l : Int)) (c := c) hc (by omega)
  have h0 : 0 ≤ ((l : Int) + c - 1) / c := Int.ediv_nonneg (by omega) (by omega)
  have h1 : ((l : Int) + c - 1) / c ≤ (l : Int) + c - 1 := Int.ediv_le_self _ (by omega)
  refine ⟨by omega, by omega, ?_, by rw [e]; omega⟩
  unfold Builtin.Range.small
  rw [e]
  simp only [Builtin.Range.rangeFitsLong, Bool.and_eq_true, Bool.or_eq_true, decide_eq_true_eq, beq_iff_eq]
  rw [if_pos (by omega)]
  simp only [Bool.and_eq_true, decide_eq_true_eq]
  omega
/-! ### o[i] += e -/
theorem get_list {X : Cx} : PGet X fun o i H Q => ∃ (p : Addr) (xs : List V) (k : Int) (z : V), o = V.ref p ∧ i = V.int k ∧ H p = some (.lst xs) ∧ atI xs k = some z ∧ Q z H := by
  intro pins s σ H o i ov iv Q I ro ri h
  obtain ⟨p, xs, k, z, rfl, rfl, hq, he, q⟩ := h
  cases ro
  obtain ⟨t, rfl⟩ := ri
  obtain ⟨its, r, pl, hz⟩ := I.list (SqL.of hq)
  obtain ⟨j, h1, h2, h3, h4, h5⟩ := atI_get he
  obtain ⟨w, ew, rw'⟩ := r.get h2
  have hl := r.length
  have hn := line63
  by_cases h0 : 0 ≤ k
  · have hj : k.toNat = j := by
      rw [seqIndex_of h0 h5] at h1
      exact Option.some.inj h1
    exact wpAny_getItem_list pl.isList h0 (by omega) (by rw [hj]; simpa using ew) ⟨z, H, I, rw', q⟩
  · have hj : (k + (its.toArray.size : Int)).toNat = j := by
      rw [seqIndex_neg (by omega) h4] at h1
      rw [List.size_toArray, ← hl]
      exact Option.some.inj h1
    exact wpAny_getItem_list_neg pl.isList (by omega) (by rw [List.size_toArray] <;> omega) (by omega) (by rw [hj]; simpa using ew) ⟨z, H, I, rw', q⟩
def augD (C : Ct) (x y d : G.D) (m : Sto) (k : G.D → Sto → Prop) : Prop := ∃ p ds j z, x = .ref p ∧ y = .int j ∧ m p = some (.lst ds) ∧ atI ds j = some z ∧ d = d ∧ k z m
/-- texts at p[i] -/
theorem ds_augS {o i : Expr} {tpos : Pos} {D : DEn} (h : DE C W o δ m fun x m1 => DE C W i δ m1 fun y m2 => ∃ p ds j n z, x = .ref p ∧ y = .int j ∧ m2 p = some (.lst ds) ∧ atI ds j = some (.str z) ∧ ixN ds.length j = some n ∧
      DE C W e δ m2 fun d m3 => ∃ u, d = .str u ∧ m3 p = some (.lst ds) ∧ z.length + u.length ≤ sizeLine ∧ D.nx δ (sput m3 p (.lst (ds.set n (.str (z ++ u))))))
    (ha : ∀ ov iv new, augStore i ov iv new = (do holding [new, ov, iv] (setItem ov iv new); release [new, ov, iv] []; pure .next) := by intros; rfl) : DS C W (.AugAssign (.Subscript o i tpos) .Add e pos) δ m D := by
  intro X S f tk σ H T le sl hh
  have hadd : PIp X .Add (fun x y H Q => ∃ i j : Str, x = V.str i ∧ y = V.str j ∧ i.length + j.length ≤ sizeLine ∧ Q (.str (i ++ j)) H) := fun pins s σ H x y u v Q I rx ry h => iop_add_str pins s σ H x y u v Q I rx ry h
  refine WS.of (ps_augS we we get_list we hadd set_list ha) ?_
  refine (h X S f tk σ H T le sl hh).mono fun v H1 ⟨x, m1, h1, q1⟩ => ?_
  refine (q1 X S f tk σ H1 _ (le.trans Pl.le) (sl.le Pl.le) h1).mono fun u H2 ⟨y, m2, h2, p, ds, j, n, z, ex, ey, hm, hz, hn, q2⟩ => ?_
  subst ex ey
  have rv := h2.rep (.inl Pl.it : Pl (Pl T v (.ref p)) u (.int j) v (.ref p))
  have ru := h2.rep (Pl.it (T := Pl T v (.ref p)) (v := u) (d := .int j))
  cases rv
  cases ru
  obtain ⟨xs, hq, hl, h3⟩ := h2.itemsO hm
  obtain ⟨zv, k, e1, e2, e3⟩ := atI_rep hl hz
  have tz := PlL.at (T := Pl (Pl T (.ref p) (.ref p)) (.int j) (.int j)) e2 e3
  have rz := h3.rep tz
  cases rz
  refine ⟨p, xs, j, _, rfl, rfl, hq, e1, ?_⟩
  have lel : Le T (PlL (Pl (Pl T (.ref p) (.ref p)) (.int j) (.int j)) xs ds) := (Pl.le.trans Pl.le).trans PlL.le
  refine (q2 X S f tk σ H2 _ (le.trans lel) (sl.le lel) h3).mono fun d H3 ⟨dd, m3, h4, w, ed, hm3, hsz, q3⟩ => ?_
  subst ed
  have rd := h4.rep Pl.it
  cases rd
  refine ⟨z, w, rfl, rfl, hsz, ?_⟩
  obtain ⟨ys, hq3, hl3, _⟩ := h4.itemsO hm3
  refine ⟨p, ys, j, n, rfl, rfl, hq3, by rw [hl3]; exact hn, ?_⟩
  have h5 := h4.mut (u' := .lst (ys.set n (.str (z ++ w)))) (o' := .lst (ds.set n (.str (z ++ w)))) hm3 hq3 fun Hi r kk => RepL.set n r (.str _)
  exact lift_nx (le.trans (lel.trans Pl.le)) (sl.le (lel.trans Pl.le)) h5 q3
/-! ### a comprehension as an object -/
theorem de_lcM {elt tg iter : Expr} {ifs : List Expr} {scope : Scope} (own : List (Str × Nat)) {Q : G.D → Sto → Prop} (ok : blkC C.N C.sc scope own = true)
    (h : LcI C W elt tg iter ifs scope own δ m fun d m1 => ∀ p acc, d = .lst acc → m1 p = none → Q (.ref p) (sput m1 p (.lst acc))) (hs : ∀ env x, foldedSetIterable iter env x = pure x := by intro _ _; rfl) (hcm : C.cm = true := by rfl) : DE C W (.ListComp elt [⟨tg, iter, ifs, 0⟩] scope pos) δ m Q := by
  intro X S f tk σ H T le sl hh
  have okB : BlkOk X.N X.env.scope scope own := by rw [f.N, f.sc]; exact blkOk_by ok
  refine WE.of (pe_lc (te := rdE X scope elt) (tt := rdT X scope ifs) (g := rdG X scope tg) (f.calm hcm) f.nd wi okB (fun s H c cl fp => ⟨fun pins t σ H v u Q I r q => q s _ c cl fp pins t u I r⟩) (fun s H c cl fp => ⟨fun pins t σ H Q I q => q s _ c cl fp pins t I⟩) (fun s H c cl fp => ⟨fun pins t σ H Q I q => q s _ c cl fp pins t I⟩) (hs _)) ?_
  exact lc_read h f tk le sl hh fun p H' acc m' T' l hm hd q => ⟨.ref p, _, (hd.pl fun _ _ => .ref p).le (Pl.mono l), q p acc rfl hm⟩
/-! ### isinstance of objects -/
def tyM (d : G.D) (m : Sto) : Option String := match d with
  | .ref p => (match m p with
    | some (.lst _) => some "list"
    | _ => none)
  | d => tyD d
theorem Hd.tyM {K : PySem.W.Frag} {fr : Sto} {H : Hp} {m : Sto} {T : RT} {v : V} {d : G.D} {t : String} (h : Hd K fr H m T) (x : T v d) (e : tyM d m = some t) : TyX K H v (.type t) := by
  cases d with
  | ref p =>
    have r := h.rep x
    cases r
    have e : (match m p with | some (.lst _) => some "list" | _ => none) = some t := e
    cases q : m p with
    | none =>
      rw [q] at e
      cases e
    | some o =>
      rw [q] at e
      cases o with
      | lst ds =>
        cases e
        obtain ⟨xs, hq, _⟩ := h.itemsO q
        exact .base (.lst hq)
      | _ => cases e
  | _ => exact h.tyX x e
def isiM : RLD := fun ds m Q => ∃ d t n b, ds = [d, .ty n] ∧ tyM d m = some t ∧ kitB t n = some b ∧ Q (.bl b) m
theorem cd_isiM : CallD C (.builtin "isinstance") isiM := by
  rintro X f fr H m T vs ds Q hl hh ⟨d, t, n, b, rfl, ht, hk, q⟩
  obtain ⟨v, u, rfl⟩ := two_of hl
  have ty := hh.tyM (PlL.at (i := 0) (v := v) (d := d) rfl rfl) ht
  have r := hh.rep (PlL.at (i := 1) (v := u) (d := .ty n) rfl rfl)
  cases r
  exact wc_of call_isi ⟨v, .ty n, .type t, .type n, b, rfl, .ty n, by rw [f.K]; exact ty, kit_ty hk, dK.le (dk_bl hh q) PlL.le⟩
/-! ### a list that is an object, compared with data -/
def eqM (neg : Bool) : R2D := fun d e m Q => ∃ p l n, d = .ref p ∧ m p = some (.lst l) ∧ n ≤ 60 ∧ okD n (.lst l) = true ∧ okD n e = true ∧ Q (.bl (if neg then !eqvD (.lst l) e else eqvD (.lst l) e)) m
theorem Hd.repO {K : PySem.W.Frag} {fr : Sto} {H : Hp} {m : Sto} {T : RT} {p : Addr} {l : List G.D} (hh : Hd K fr H m T) (hm : m p = some (.lst l)) : Rep K H (.ref p) (.lst l) := by
  obtain ⟨xs, hq, hl, h3⟩ := hh.itemsO hm
  have hr : ∀ (vs : List V) (ds : List G.D), vs.length = ds.length → (∀ v d, (v, d) ∈ vs.zip ds → Rep K H v d) → RepL K H vs ds := by
    intro vs
    induction vs with
    | nil =>
      intro ds hl _
      cases ds with
      | nil => exact .nil
      | cons => cases hl
    | cons v vs ih =>
      intro ds hl hz
      cases ds with
      | nil => cases hl
      | cons d ds => exact .cons (hz v d (by rw [List.zip_cons_cons]; exact List.mem_cons_self)) (ih ds (by simpa using hl) fun v' d' h => hz v' d' (by rw [List.zip_cons_cons]; exact List.mem_cons_of_mem _ h))
  exact .lst hq (hr xs l hl fun v d h => h3.rep (.inr h))
theorem od_neM : OpD C (compareOp .NotEq) (eqM true) := by
  rintro X f fr H m T x y d e Q hh tx ty ⟨p, l, n, rfl, hm, hn, o1, o2, q⟩
  have rx := hh.rep tx
  cases rx
  exact wb_of (op_neD (by have := f.un; omega)) ⟨_, _, by rw [f.K]; exact (hh.repO hm).dp n o1, by rw [f.K]; exact (hh.rep ty).dp n o2, okD_shaped o1 hn, okD_shaped o2 hn, dk_bl hh q⟩
theorem od_eqM : OpD C (compareOp .Eq) (eqM false) := by
  rintro X f fr H m T x y d e Q hh tx ty ⟨p, l, n, rfl, hm, hn, o1, o2, q⟩
  have rx := hh.rep tx
  cases rx
  exact wb_of (op_eqD (by have := f.un; omega)) ⟨_, _, by rw [f.K]; exact (hh.repO hm).dp n o1, by rw [f.K]; exact (hh.rep ty).dp n o2, okD_shaped o1 hn, okD_shaped o2 hn, dk_bl hh q⟩
theorem ixOn {Q : G.D → Sto → Prop} {p : Addr} {ds : List G.D} {d : G.D} (hm : m p = some (.lst ds)) (h : ds.getLast? = some d) (q : Q d m) : ixD (.ref p) (.int (-1)) m Q := ⟨ds, d, hm, atI_neg h, q⟩
theorem ixN_neg {n : Nat} (h : 1 ≤ n) : ixN n (-1) = some (n - 1) := by
  unfold ixN
  rw [if_neg (by omega), if_pos (by omega)]
  congr 1
  omega
end
end G

/-! The data layer: a list that is an object and data, joined; objects forgotten. -/
namespace G
open PySem PySem.Spec PyProof.Rows L2
theorem Hd.drop {K : PySem.W.Frag} {r : Sto} {H : Hp} {m : Sto} {T : RT} (p : Addr) (h : Hd K r H m T) : Hd K r H (sdel m p) T := by
  obtain ⟨h0, Hi, h1, h2, h3⟩ := h
  have key : ∀ a o, sdel m p a = some o → m a = some o := fun a o e => by
    unfold sdel at e
    split at e
    · cases e
    · exact e
  refine ⟨fun a o e => h0 a o (key a o e), Hi, h1, fun a o e => h2 a o ?_, h3⟩
  cases q : sdel m p a with
  | some u =>
    rw [sun_l q] at e
    rw [sun_l (key a u q)]
    exact e
  | none =>
    rw [sun_r q] at e
    cases q2 : m a with
    | none => rw [sun_r q2]; exact e
    | some u =>
      have := h0 a u q2
      rw [this] at e
      cases e
section
variable {C : Ct} {W : DW} {δ : Sl} {m : Sto} {sts : List Stmt} {D : DEn} {Q : G.D → Sto → Prop}
theorem dss_drop (p : Addr) (h : DSs C W sts δ (sdel m p) D) : DSs C W sts δ m D := fun X S f tk σ H T le sl hh => h X S f tk σ H T le sl (hh.drop p)
/-- p + l -/
def addM : R2D := fun d e m Q => ∃ p l x, d = .ref p ∧ e = .lst x ∧ m p = some (.lst l) ∧ l.length + x.length ≤ sizeLine ∧ ∀ q, m q = none → Q (.ref q) (sput m q (.lst (l ++ x)))
theorem od_addM : OpD C (binaryOp .Add) addM := by
  rintro X f fr H m T x y d e Q hh tx ty ⟨p, l, ys, rfl, rfl, hm, hz, q⟩
  have rx := hh.rep tx
  cases rx
  obtain ⟨us, hu, lu, h1⟩ := hh.itemsO hm
  obtain ⟨b, vs, rfl, hv, lv, h2⟩ := h1.itemsL (PlL.le _ _ ty)
  refine wb_of op_cat ⟨p, b, us, vs, rfl, rfl, hu, hv, by rw [lu, lv]; exact hz, fun p' hp => ?_⟩
  refine dK.le (dk_lstM h2 hp (fun Hi k => (PlL.rep lu fun v d z => k v d (.inl z)).append (PlL.rep (T := T) lv fun v d z => k v d (z.elim (fun w => .inl (.inl w)) .inr))) q) (PlL.le.trans PlL.le)
end
theorem drop_put {m : Sto} {q q2 : Addr} {o o2 : O} (h : m q = none) (h2 : sput m q o q2 = none) : sdel (sput (sput m q o) q2 o2) q = sput m q2 o2 := by
  have ne : q2 ≠ q := fun e => by
    subst e
    rw [sput_same] at h2
    cases h2
  funext x
  unfold sdel sput
  split
  · rename_i e
    subst e
    rw [if_neg (Ne.symm ne), h]
  · rfl
theorem new_put {m : Sto} {q q2 : Addr} {o : O} (h2 : sput m q o q2 = none) : m q2 = none := by
  unfold sput at h2
  split at h2
  · cases h2
  · exact h2
end G

/-! The data layer: sums and least ones of lists of numbers; slices between; signs at the ends. -/
namespace G
open PySem PySem.Spec PyProof.Rows L2
theorem ints_of {K : PySem.W.Frag} {H : Hp} : ∀ {xs : List V} {ns : List Int}, RepL K H xs (ns.map D.int) → xs = ns.map V.int
  | _, [], .nil => rfl
  | _, n :: ns, .cons r t => by
    cases r
    rw [ints_of t]
    rfl
section
variable {C : Ct} {W : DW} {δ : Sl} {m : Sto} {sts : List Stmt} {D : DEn} {Q : G.D → Sto → Prop}
theorem Hd.seqR {K : PySem.W.Frag} {fr : Sto} {H : Hp} {m : Sto} {T : RT} {v : V} {d : G.D} {l : List G.D} (h : Hd K fr H m T) (t : T v d) (e : itemsD d m = some l) : ∃ a xs, v = .ref a ∧ (SqL K H a xs ∨ SqT K H a xs) ∧ RepL K H xs l := by
  obtain ⟨a, xs, rfl, hq, hl, h4⟩ := h.seq t e
  exact ⟨a, xs, rfl, hq, RepL.of_zip hl fun v d z => h4.rep (.inr z)⟩
def sumD : RLD := fun ds m Q => ∃ ns : List Int, ds = [.lst (ns.map G.D.int)] ∧ Q (.int ns.sum) m
theorem cd_sum (hcm : C.cm = true := by rfl) : CallD C (.builtin "sum") sumD := by
  rintro X f fr H m T vs ds Q hl hh ⟨ns, rfl, q⟩
  obtain ⟨v, rfl⟩ := one_of hl
  obtain ⟨a, xs, rfl, hq, r⟩ := hh.repsL (PlL.at (i := 0) (v := v) (d := .lst (ns.map G.D.int)) rfl rfl)
  have e := ints_of r
  subst e
  exact wc_of (cr_sum (f.calm hcm)) ⟨a, ns, rfl, SqL.of hq, dK.le (dk_int hh q) PlL.le⟩
/-- the least of a list that is an object -/
def minM : RLD := fun ds m Q => ∃ (p : Addr) (ns : List Int), ds = [.ref p] ∧ m p = some (.lst (ns.map G.D.int)) ∧ 0 < ns.length ∧ ∀ z, z ∈ ns → (∀ y, y ∈ ns → z ≤ y) → Q (.int z) m
theorem cd_minM (hcm : C.cm = true := by rfl) : CallD C (.builtin "min") minM := by
  rintro X f fr H m T vs ds Q hl hh ⟨p, ns, rfl, hm, h0, q⟩
  obtain ⟨v, rfl⟩ := one_of hl
  have rv := hh.rep (PlL.at (i := 0) (v := v) (d := .ref p) rfl rfl)
  cases rv
  obtain ⟨xs, hq, hxl, h4⟩ := hh.itemsO hm
  have e := ints_of (RepL.of_zip hxl fun v d z => h4.rep (.inr z))
  subst e
  exact wc_of (cr_min (f.calm hcm)) ⟨p, ns, rfl, SqL.of hq, h0, fun z hz hle => dK.le (dk_int hh (q z hz hle)) PlL.le⟩
/-- an object is forgotten behind an expression -/
theorem de_drop {e : Expr} (p : Addr) (h : DE C W e δ m fun d m1 => Q d (sdel m1 p)) : DE C W e δ m Q := fun X S f tk σ H T le sl hh => (h X S f tk σ H T le sl hh).mono fun v H' ⟨d, m', a, b⟩ => ⟨d, sdel m' p, a.drop p, b⟩
theorem drop_tri {p q : Addr} {a b c : O} (h : sput m p a q = none) : sdel (sput (sput (sput m p a) q b) p c) q = sput m p c := by
  have ne : q ≠ p := fun e => by
    subst e
    rw [sput_same] at h
    cases h
  funext x
  unfold sdel
  by_cases hx : x = q
  · subst hx
    rw [if_pos rfl, sput_ne ne]
    rw [sput_ne ne] at h
    exact h.symm
  · rw [if_neg hx]
    unfold sput
    split
    · rfl
    · first | rfl | rw [if_neg hx]
theorem cutL_mid {α : Type} (xs : List α) {a b : Nat} (h : a ≤ b) (h2 : b ≤ xs.length) : cutL xs (some (a : Int)) (some (b : Int)) = (xs.drop a).take (b - a) := by
  unfold cutL
  rw [show HT.sIx xs.length xs.length (some (b : Int)) = min b xs.length from HT.sIx_nat xs.length xs.length b, show HT.sIx xs.length 0 (some (a : Int)) = min a xs.length from HT.sIx_nat xs.length 0 a]
  rw [Nat.min_eq_left h2, Nat.min_eq_left (by omega)]
theorem sg_ne {c d : Nat} (h : c ≠ d) : ¬ (⟨#[c]⟩ : Str) = ⟨#[d]⟩ := fun e => h (by
  have := congrArg TL.tl e
  exact (List.cons.inj (show [c] = [d] from this)).1)
theorem ix_first {z : Str} {c : Nat} (h : (TL.tl z).head? = some c) (h2 : z.length ≤ 1000000) (q : Q (.str ⟨#[c]⟩) m) : ixD (.str z) (.int 0) m Q := by
  have e : z.cps.toList[0]? = some c := by rw [← List.head?_eq_getElem?]; exact h
  exact ⟨c, by have hz := sizeLine_eq; omega, atI_nat (j := 0) e, q⟩
theorem ix_last {z : Str} {c : Nat} (h : (TL.tl z).getLast? = some c) (h2 : z.length ≤ 1000000) (q : Q (.str ⟨#[c]⟩) m) : ixD (.str z) (.int (-1)) m Q :=
  ⟨c, by have hz := sizeLine_eq; omega, atI_neg h, q⟩
end
end G

/-! The data layer: a caught error by its name; calls with several keywords; a text times a number. -/
namespace G
open PySem PySem.Spec PyProof.Rows L2
/-! ### text times number -/
theorem op_mul_str {X : Cx} : OpR X (binaryOp .Mult) (fun x y H Q => ∃ i k, x = .str i ∧ y = .int k ∧ MulOk i k ∧ Q (.str (Txt.mul i k)) H) := by
  intro pins s σ H x y v u Q I rx ry h
  obtain ⟨i, k, rfl, rfl, hz, q⟩ := h
  obtain ⟨t, rfl⟩ := rx
  obtain ⟨t', rfl⟩ := ry
  exact PySem.SB.mul hz fun t' tk => ⟨.str (Txt.mul i k), H, I.tok _, ⟨_, rfl⟩, q⟩
def mulS : R2D := fun x y m Q => ∃ i k, x = .str i ∧ y = .int k ∧ MulOk i k ∧ Q (.str (Txt.mul i k)) m
theorem od_mulS {C : Ct} : OpD C (binaryOp .Mult) mulS := by
  rintro X f fr H m T x y d e Q hh tx ty ⟨i, k, rfl, rfl, hz, q⟩
  have rx := hh.rep tx
  have ry := hh.rep ty
  cases rx
  cases ry
  exact wb_of op_mul_str ⟨_, _, rfl, rfl, hz, dk_str hh q⟩
theorem mulok {z : Str} {k : Int} (h1 : z.length ≤ 1000) (h2 : -5000 ≤ k) (h3 : k ≤ 5000) : MulOk z k := by
  refine ⟨by simp; omega, fun h4 _ => ?_, fun h4 _ => ?_⟩
  · have : (1000 : Int) ≤ (2 ^ 63 - 1) / k := by
      refine (Int.le_ediv_iff_mul_le (by omega)).mpr ?_
      omega
    omega
  · unfold PySem.Builtin.Str.tooLong
    have h5 : z.length * k.toNat ≤ 1000 * 5000 := Nat.mul_le_mul h1 (by omega)
    have hz := sizeLine_eq
    simp
    omega
theorem tl_rep (x : Array Nat) : ∀ (n : Nat) (acc : Array Nat), ((List.replicate n x).foldl (· ++ ·) acc).toList = acc.toList ++ (List.replicate n x.toList).flatten
  | 0, acc => by simp
  | n + 1, acc => by
    rw [List.replicate_succ, List.foldl_cons, tl_rep x n, List.replicate_succ, List.flatten_cons, Array.toList_append, List.append_assoc]
theorem mul_tl (z : Str) (k : Int) : TL.tl (Txt.mul z k) = (List.replicate k.toNat (TL.tl z)).flatten := by
  unfold Txt.mul
  split
  · rename_i h
    rw [show k.toNat = 0 from by omega]
    rfl
  · split
    · rename_i h1 h2
      simp only [Bool.or_eq_true, beq_iff_eq] at h2
      rcases h2 with h2 | h2
      · subst h2
        simp
      · have e := TL.len_tl z
        have : TL.tl z = [] := List.length_eq_zero_iff.mp (by omega)
        rw [this]
        simp
    · show ((List.replicate k.toNat z.cps).foldl (· ++ ·) #[]).toList = _
      rw [tl_rep]
      simp
/-! ### calls with several keywords -/
/-- called with n values and keywords ks; gD: the values in the order of the parameters -/
structure KnG (P : Program) (w : World) (K : PySem.W.Frag) (mg : Str → Option Value) (base : Heap) (x : Str) (k : Nat) (F : DF) (n : Nat) (ks : List Str) (gD : List D → List D → List D) : Prop where
  ex : ∃ f fd ps g gV, FnOk P w K mg base (L2.CX P w) k f fd ps (spD K F) ∧ mg x = some (.ref f) ∧ PySem.W.keepIn K (.ref f) = true ∧ KBn K fd ps n ks g gV ∧ ∀ Hi vs ds zs es, RepL K Hi vs ds → RepL K Hi zs es → ds.length = n → es.length = ks.length → RepL K Hi (gV vs zs) (gD ds es)
section
variable {C : Ct} {W : DW} {δ : Sl} {m : Sto} {a b c e : Expr} {es : List Expr} {pos pos' : Pos} {Q : D → Sto → Prop}
def DKs (C : Ct) (W : DW) (δ : Sl) : List Keyword → Sto → (List D → Sto → Prop) → Prop
  | [], m, Q => Q [] m
  | k :: ks, m, Q => DE C W k.value δ m fun d m1 => DKs C W δ ks m1 fun ds m2 => Q (d :: ds) m2
theorem dks_nil {Q : List D → Sto → Prop} (q : Q [] m) : DKs C W δ [] m Q := q
theorem dks_cons {k : Keyword} {ks : List Keyword} {Q : List D → Sto → Prop} (h : DE C W k.value δ m fun d m1 => DKs C W δ ks m1 fun ds m2 => Q (d :: ds) m2) : DKs C W δ (k :: ks) m Q := h
def pkT (X : Cx) : List Keyword → TA
  | [] => tNil
  | k :: ks => tCons (WE X k.value) (pkT X ks)
theorem pkT_ok {X : Cx} : ∀ ks : List Keyword, PK X ks (pkT X ks)
  | [] => pk_nil
  | ⟨_, _, _⟩ :: ks => pk_cons we (pkT_ok ks)
theorem pkT_run {X : Cx} {S : Fr} (f : Fits C X) (tk : Takes X (liftW C.K W S)) : ∀ (ks : List Keyword) {σ : L2.St} {H : Hp} {m : Sto} {T : RT} {Q : List D → Sto → Prop}, Le S.t T → SlotsIn σ δ T → Hd C.K S.r H m T → DKs C W δ ks m Q →
    pkT X ks σ H fun zs H2 => ∃ es m2, zs.length = es.length ∧ es.length = ks.length ∧ Hd C.K S.r H2 m2 (PlL T zs es) ∧ Q es m2
  | [], σ, H, m, T, Q, le, sl, hh, h => ⟨[], m, rfl, rfl, hh.le fun x y z => z.elim id fun w => by simp at w, h⟩
  | k :: ks, σ, H, m, T, Q, le, sl, hh, h => by
    refine (h X S f tk σ H T le sl hh).mono fun v H1 ⟨d, m1, h1, q⟩ => ?_
    have z := pkT_run f tk ks (T := Pl T v d) (le.trans Pl.le) (sl.le Pl.le) h1 q
    have mono : ∀ (ks : List Keyword) {σ : L2.St} {H : Hp} {Q Q' : List V → Hp → Prop}, (∀ zs H, Q zs H → Q' zs H) → pkT X ks σ H Q → pkT X ks σ H Q' := by
      intro ks
      induction ks with
      | nil => intro σ H Q Q' k h; exact k _ _ h
      | cons a l ih => intro σ H Q Q' k h; exact WE.mono h fun v H' q => ih (fun zs H q => k _ _ q) q
    refine mono ks (fun zs H2 => ?_) z
    rintro ⟨es, m2, hl, hlk, h2, q2⟩
    refine ⟨d :: es, m2, by rw [List.length_cons, List.length_cons, hl], by rw [List.length_cons, List.length_cons, hlk], h2.le fun x y t => ?_, q2⟩
    rcases t with t | t
    · exact .inl (.inl t)
    · rw [List.zip_cons_cons] at t
      rcases List.mem_cons.mp t with t | t
      · cases t
        exact .inl Pl.it
      · exact .inr t
theorem PlL.repOf {K : PySem.W.Frag} {T : RT} {vs zs : List V} {ds es : List D} {Hi : Hp} (hl : vs.length = ds.length) (f : ∀ v d, PlL (PlL T vs ds) zs es v d → Rep K Hi v d) : RepL K Hi vs ds := RepL.of_zip hl fun v d q => f v d (.inl (.inr q))
/-- x(e, .., k = v, ..) -/
theorem de_callG {x : Str} {p : Pos} {k n : Nat} {F : DF} {kws : List Keyword} {ks : List Str} {gD : List D → List D → List D} (kn : KnG C.P C.w C.K C.mg C.base x k F n ks gD) (hk : Nat.ble k C.k = true) (hg : GlC C x)
    (h : DA C W (e :: es) δ m fun ds m1 => ds.length = n ∧ DKs C W δ kws m1 fun es m2 => F (gD ds es) m2 Q fun cls fs m' => W cls fs δ m') (hkl : kws.length = ks.length := by rfl) (hdb : (x == ("__debug__" : Str)) = false := by decide) (hcm : C.cm = true := by rfl)
    (he : ∀ env, starEach (e :: es) env = (false, eval e env) :: starEach es env := by intro _; rfl) (hall : ∀ env, (backToKw pos (keywordEach kws env)).all (·.1.isSome) = true := by intro _; rfl)
    (hks : ∀ env, (backToKw pos (keywordEach kws env)).filterMap (·.1) = ks := by intro _; rfl)
    (hpl : ∀ env, ((backTo pos (starEach (e :: es) env)).any (·.1) || (backToKw pos (keywordEach kws env)).any (·.1.isNone)) = false := by intro _; rfl) : DE C W (.Call (.Name x p) (e :: es) kws pos) δ m Q := by
  intro X S fX tk σ H T le sl hh pins s I
  obtain ⟨f, fd, ps, g, gV, ok, hm, kp, hb, hrep⟩ := kn.ex
  rw [← fX.prog, ← fX.w, ← fX.K, ← fX.mg, ← fX.base] at ok
  rw [← fX.K] at kp hb
  refine wpAny_Call_Name_kw (ld_glob I (fX.gl hg) (by rw [fX.mg]; exact hm) ?_ hdb)
  refine PySem.W.callWith_KW (h₀ := X.base) I.ok.mod.kin kp (hall _) (thn (h X S fX tk σ H T le sl hh pos pins s I) fun us s1 ⟨vs, H1, I1, r, ds, m1, hl, h1, hn, q⟩ => ?_) (hpl _) (he _)
  have lel : Le T (PlL T vs ds) := PlL.le
  refine thn ((pkT_ok kws).run pos pins s1 σ H1 _ I1 (pkT_run fX tk kws (le.trans lel) (sl.le lel) h1 q)) fun ws s2 ⟨zs, H2, I2, rz, es2, m2, hl2, hlk2, h2, q2⟩ => ⟨I2.kIn, ?_⟩
  have hlz : zs.length = ks.length := hl2.trans (hlk2.trans hkl)
  rw [hks]
  refine run_kw (E := L2.WE (liftW C.K W S) σ) (ok.mono (Nat.le_of_ble_eq_true hk)) (fX.room hcm) hb (passAt tk σ) I2 r rz (hl.trans hn) hlz ?_
  have h3 : Hd C.K S.r H2 m2 (PlL T (gV vs zs) (gD ds es2)) := h2.more fun Hi f v d t => by
    rcases t with t | t
    · exact f v d (.inl (.inl t))
    · exact RepL.zip (hrep Hi vs ds zs es2 (PlL.repOf hl f) (RepL.of_zip hl2 fun v d q => f v d (.inr q)) hn (hl2.symm.trans hlz)) v d t
  have len : (gV vs zs).length = (gD ds es2).length := by
    obtain ⟨_, Hi, _, _, h5⟩ := h2
    exact (hrep Hi vs ds zs es2 (PlL.repOf hl h5) (RepL.of_zip hl2 fun v d q => h5 v d (.inr q)) hn (hl2.symm.trans hlz)).length
  have w := spD_at (X := X) (S := S) (σ := σ) (Q := Q) (W := W) (δ := δ) le sl (vs := gV vs zs) (ds := gD ds es2) len h3 q2
  rw [← fX.K] at w ⊢
  exact w
end
/-! ### except X as n -/
def Ct.hotE (C : Ct) (a cA : Addr) : Ct := { C with cm := false, ex := some (a, cA) }
section
variable {C : Ct} {W : DW} {δ : Sl} {m : Sto} {a b c e : Expr} {es : List Expr} {pos pos' np : Pos} {Q : D → Sto → Prop} {D : DEn}
/-- what an end is behind the suite: the name is gone -/
def DEn.un (D : DEn) (i : Nat) : DEn := { nx := fun δ m => D.nx (δ.set i none) m, rt := D.rt, bk := fun δ m => D.bk (δ.set i none) m, ct := fun δ m => D.ct (δ.set i none) m }
theorem ds_tryAs (i : Nat) {x n : Str} {body suite : List Stmt} {b₀ : Stmt} {u : Value} (hN : C.N[i]? = some n) (hl : C.sc.names.lookup n = some .local) (hm : C.mg x = some u) (hg : GlC C x)
    (h : DSs C (fun cls fs δ' m' => ∃ cA b, cls = .ref cA ∧ fs = [] ∧ PySem.W.exmOne C.K cls u = some b ∧ (b = true → ExcC C.K cA ∧ ∀ a, DSs (C.hotE a cA) W0 (b₀ :: suite) (δ'.set i (some (.ref a))) m' (D.un i)) ∧ (b = false → W cls fs δ' m')) body δ m D)
    (hdb : (x == ("__debug__" : Str)) = false := by decide) (htr : C.tr = true := by rfl) (hex : C.ex = none := by rfl) (hfk : C.sc.kind = .function := by rfl) : DS C W (.Try body [.ExceptHandler (some (.Name x np)) (some n) (b₀ :: suite) pos'] [] [] pos) δ m D := by
  intro X S f tk σ H T le sl hh
  refine WS.of (L2.ps_try_as (c := u) (i := i)
    (tb := fun W' D' σ H => ∀ (pn : List (Addr × Obj)) (xe : Value → Shared → Prop), Takes (X.tr pn xe) W' → PassesOwn (model X.prog X.w) X.A X.env xe → WSs (X.tr pn xe) body D' σ H)
    (ts := fun a cls d D' σ H => ∀ (oe : Obj) (pn : List (Addr × Obj)), Zc cls d oe → (∃ vs, oe.data = .fields vs) → WSs (X.suite a ((a, oe) :: pn)) (b₀ :: suite) D' σ H)
    (f.tr htr).1 (f.tr htr).2 f.nd (by rw [f.N]; exact hN) (by show X.env.scope.names.lookup n = _; rw [f.sc]; exact hl) ⟨f.gl hg, hdb, .inl (by rw [f.mg]; exact hm)⟩ tk
    (fun W' pn xe t p => ⟨fun pins s σ H D I r => r pn xe t p pins s I⟩) (fun a oe cls d pn hz hv => ⟨fun pins s σ H D I r => r oe pn hz hv pins s I⟩)) ?_
  intro pn xe tk' po
  have fit : Fits C (X.tr pn xe) := ⟨f.prog, f.w, f.K, f.mg, f.base, f.N, f.sc, f.fn, f.nd, f.un, f.room, f.calm, po, f.tr, fun _ _ e => by rw [hex] at e; cases e⟩
  refine h (X.tr pn xe) S fit (tk'.imp ?_) σ H T le sl hh
  rintro cls d σ' H' ⟨δ', m', T', fs, le', sl', hh', xd, cA, k', rfl, rfl, hk', h1, h2⟩
  refine ⟨k', by rw [f.K]; exact hk', fun e a ha oe pn2 hz hv => ?_, fun e => ⟨δ', m', T', [], le', sl', hh', xd, h2 e⟩⟩
  obtain ⟨hc, h3⟩ := h1 e
  have hd : d = none := by
    rcases xd with ⟨e, _⟩ | ⟨_, _, q, _⟩
    · exact e
    · exact absurd rfl q
  subst hd
  have fit2 : Fits (C.hotE a cA) (X.suite a ((a, oe) :: pn2)) := ⟨f.prog, f.w, f.K, f.mg, f.base, f.N, f.sc, f.fn, f.nd, f.un, (fun z => nomatch z), (fun z => nomatch z), PassesOwn.never, f.tr, fun a' D' e => by
    cases e
    exact call_isE (by rw [f.K]; exact hc) hz hv⟩
  have hh2 : Hd C.K S.r H' m' (Pl T' (.ref a) (.ref a)) := hh'.pl fun _ _ => .ref a
  refine WSs.mono (h3 a (X.suite a ((a, oe) :: pn2)) S fit2 takes_W0 (σ'.set i (some (.ref a))) H' _ (le'.trans Pl.le) ((sl'.le Pl.le).set Pl.it) hh2) ?_ (fun _ _ q => q) ?_ ?_
  all_goals
    rintro σ2 H2 ⟨δ2, m2, T2, l2, s2, hd2, q2⟩
    exact ⟨δ2.set i none, m2, T2, l2, s2.unset, hd2, q2⟩
/-- isinstance of the error in hand -/
def isiE (C : Ct) : RLD := fun ds m Q => ∃ a cA b, C.ex = some (a, cA) ∧ ((∃ k, ds = [.ref a, .ref k] ∧ PySem.W.kitOne C.K (.ref cA) (.ref k) = some b) ∨ ∃ n, ds = [.ref a, .ty n] ∧ PySem.W.kitOne C.K (.ref cA) (.type n) = some b) ∧ Q (.bl b) m
theorem cd_isiE : CallD C (.builtin "isinstance") (isiE C) := by
  rintro X f fr H m T vs ds Q hl hh ⟨a, cA, b, he, h, q⟩
  rcases h with ⟨k, rfl, hk⟩ | ⟨n, rfl, hk⟩
  · obtain ⟨v, u, rfl⟩ := two_of hl
    have r1 := hh.rep (PlL.at (i := 0) (v := v) (d := .ref a) rfl rfl)
    have r2 := hh.rep (PlL.at (i := 1) (v := u) (d := .ref k) rfl rfl)
    cases r1
    cases r2
    exact wc_of (f.ex a cA he) ⟨.ref k, .ref k, b, rfl, fun u r => by cases r; rfl, by rw [f.K]; exact hk, dK.le (dk_bl hh q) PlL.le⟩
  · obtain ⟨v, u, rfl⟩ := two_of hl
    have r1 := hh.rep (PlL.at (i := 0) (v := v) (d := .ref a) rfl rfl)
    have r2 := hh.rep (PlL.at (i := 1) (v := u) (d := .ty n) rfl rfl)
    cases r1
    cases r2
    exact wc_of (f.ex a cA he) ⟨.ty n, .type n, b, rfl, fun u r => by cases r; rfl, by rw [f.K]; exact hk, dK.le (dk_bl hh q) PlL.le⟩
theorem isiE_r {a cA k : Addr} {b : Bool} (he : C.ex = some (a, cA)) (h : PySem.W.kitOne C.K (.ref cA) (.ref k) = some b) (q : Q (.bl b) m) : isiE C [.ref a, .ref k] m Q := ⟨a, cA, b, he, .inl ⟨k, rfl, h⟩, q⟩
theorem isiE_t {a cA : Addr} {n : String} {b : Bool} (he : C.ex = some (a, cA)) (h : PySem.W.kitOne C.K (.ref cA) (.type n) = some b) (q : Q (.bl b) m) : isiE C [.ref a, .ty n] m Q := ⟨a, cA, b, he, .inr ⟨n, rfl, h⟩, q⟩
/-- a name of the program's top: an object -/
theorem de_gref {x : Str} {c : Addr} (hm : C.mg x = some (.ref c)) (hg : GlC C x) (q : Q (.ref c) m) (hdb : (x == ("__debug__" : Str)) = false := by decide) : DE C W (.Name x pos) δ m Q := de_glob hg hm (v := .ref c) rfl (fun H => .ref c) q hdb
end
end G
namespace G
open PySem PySem.Spec PyProof.Rows L2
/-! ### values in the order of the parameters -/
def pickL {α : Type} (ix : List Nat) (l : List α) : List α := ix.filterMap fun i => l[i]?
theorem paired_get {α β : Type} {F : α → β → Prop} : ∀ {l : List α} {k : List β} (i : Nat), Paired F l k → (l[i]? = none ∧ k[i]? = none) ∨ ∃ a b, l[i]? = some a ∧ k[i]? = some b ∧ F a b
  | _, _, i, .nil => .inl ⟨by simp, by simp⟩
  | _, _, 0, .cons r _ => .inr ⟨_, _, rfl, rfl, r⟩
  | _, _, i + 1, .cons _ t => by simpa using paired_get i t
theorem pickL_vals : ∀ (ix : List Nat) {vs : List V} {us : List Value}, Vals vs us → Vals (pickL ix vs) (pickL ix us)
  | [], _, _, _ => .nil
  | i :: ix, vs, us, h => by
    have ih := pickL_vals ix h
    unfold pickL at ih ⊢
    rcases paired_get i h with ⟨e1, e2⟩ | ⟨a, b, e1, e2, r⟩
    · rw [List.filterMap_cons_none e1, List.filterMap_cons_none e2]
      exact ih
    · rw [List.filterMap_cons_some e1, List.filterMap_cons_some e2]
      exact .cons r ih
theorem pickL_rep {K : PySem.W.Frag} {H : Hp} : ∀ (ix : List Nat) {vs : List V} {ds : List D}, RepL K H vs ds → RepL K H (pickL ix vs) (pickL ix ds)
  | [], _, _, _ => .nil
  | i :: ix, vs, ds, h => by
    have ih := pickL_rep ix h
    unfold pickL at ih ⊢
    cases e : vs[i]? with
    | none =>
      have e2 : ds[i]? = none := by
        have := List.getElem?_eq_none_iff.mp e
        exact List.getElem?_eq_none_iff.mpr (by rw [← h.length]; exact this)
      rw [List.filterMap_cons_none e, List.filterMap_cons_none e2]
      exact ih
    | some v =>
      obtain ⟨d, e2, r⟩ := h.getV e
      rw [List.filterMap_cons_some e, List.filterMap_cons_some e2]
      exact .cons r ih
theorem KnG.of {P : Program} {w : World} {K : PySem.W.Frag} {mg : Str → Option Value} {base : Heap} {x : Str} {k n : Nat} {F : DF} {f : Addr} {fd : FuncData} {ps ks : List Str} {ix : List Nat} {mv : List Value} {dvs : List V} {dds : List D}
    (ok : FnOk P w K mg base (L2.CX P w) k f fd ps (spD K F)) (g : mg x = some (.ref f)) (kp : PySem.W.keepIn K (.ref f) = true) (hb : KBn K fd ps n ks (fun us ws => pickL ix (us ++ ws ++ mv)) (fun vs zs => pickL ix (vs ++ zs ++ dvs))) (hd : ∀ Hi, RepL K Hi dvs dds) :
    KnG P w K mg base x k F n ks (fun us zs => pickL ix (us ++ zs ++ dds)) :=
  ⟨f, fd, ps, _, _, ok, g, kp, hb, fun Hi vs ds zs es r1 r2 _ _ => pickL_rep ix ((r1.append r2).append (hd Hi))⟩
end G

/-! The data layer: instances: fields, methods, making. -/
namespace G
open PySem PySem.Spec PyProof.Rows L2
/-! ### fields by name -/
theorem lookup_rep {K : PySem.W.Frag} {H : Hp} : ∀ {fs : List (Str × V)} {gs : List (Str × D)}, fs.map (·.1) = gs.map (·.1) → RepL K H (fs.map (·.2)) (gs.map (·.2)) → ∀ {f : Str} {d : D}, gs.lookup f = some d → ∃ v, fs.lookup f = some v ∧ (v, d) ∈ (fs.map (·.2)).zip (gs.map (·.2))
  | [], [], _, _, f, d, h => by cases h
  | [], _ :: _, e, _, _, _, _ => by simp at e
  | _ :: _, [], e, _, _, _, _ => by simp at e
  | (x, v) :: fs, (y, z) :: gs, e, r, f, d, h => by
    simp only [List.map_cons, List.cons.injEq] at e
    obtain ⟨e1, e2⟩ := e
    subst e1
    cases r with
    | cons r1 r2 =>
      by_cases hf : f == x
      · rw [List.lookup_cons, hf] at h ⊢
        cases h
        exact ⟨v, rfl, by simp⟩
      · rw [List.lookup_cons, Bool.eq_false_iff.mpr hf] at h ⊢
        obtain ⟨v', h1, h2⟩ := lookup_rep e2 r2 h
        exact ⟨v', h1, by rw [List.map_cons, List.map_cons, List.zip_cons_cons]; exact List.mem_cons_of_mem _ h2⟩
theorem lookup_none : ∀ {α β : Type} {fs : List (Str × α)} {gs : List (Str × β)}, fs.map (·.1) = gs.map (·.1) → ∀ {f : Str}, gs.lookup f = none → fs.lookup f = none
  | _, _, [], [], _, f, h => rfl
  | _, _, [], _ :: _, e, _, _ => by simp at e
  | _, _, _ :: _, [], e, _, _ => by simp at e
  | _, _, (x, v) :: fs, (y, z) :: gs, e, f, h => by
    simp only [List.map_cons, List.cons.injEq] at e
    obtain ⟨e1, e2⟩ := e
    subst e1
    by_cases hf : f == x
    · rw [List.lookup_cons, hf] at h
      cases h
    · rw [List.lookup_cons, Bool.eq_false_iff.mpr hf] at h ⊢
      exact lookup_none e2 h
def putD (f : Str) (v : D) : List (Str × D) → List (Str × D)
  | [] => [(f, v)]
  | (g, x) :: r => if g = f then (g, v) :: r else (g, x) :: putD f v r
theorem putD_rep {K : PySem.W.Frag} {H : Hp} {f : Str} {v : V} {d : D} (rv : Rep K H v d) : ∀ {fs : List (Str × V)} {gs : List (Str × D)}, fs.map (·.1) = gs.map (·.1) → RepL K H (fs.map (·.2)) (gs.map (·.2)) →
    (putF f v fs).map (·.1) = (putD f d gs).map (·.1) ∧ RepL K H ((putF f v fs).map (·.2)) ((putD f d gs).map (·.2))
  | [], [], _, _ => ⟨rfl, .cons rv .nil⟩
  | [], _ :: _, e, _ => by simp at e
  | _ :: _, [], e, _ => by simp at e
  | (x, u) :: fs, (y, z) :: gs, e, r => by
    simp only [List.map_cons, List.cons.injEq] at e
    obtain ⟨e1, e2⟩ := e
    subst e1
    cases r with
    | cons r1 r2 =>
      unfold putF putD
      by_cases hf : x = f
      · rw [if_pos hf, if_pos hf]
        exact ⟨by simp [e2], .cons rv r2⟩
      · rw [if_neg hf, if_neg hf]
        obtain ⟨h1, h2⟩ := putD_rep rv e2 r2
        exact ⟨by simp [h1], .cons r1 h2⟩
section
variable {K : PySem.W.Frag} {r : Sto} {H : Hp} {m : Sto} {T : RT} {a p : Addr}
/-- an instance of the store -/
theorem Hd.insO {cA : Addr} {gs : List (Str × D)} (h : Hd K r H m T) (t : m a = some (.ins cA gs)) : ∃ dx fs, H a = some (.ins cA dx fs) ∧ fs.map (·.1) = gs.map (·.1) ∧ (fs.map (·.2)).length = (gs.map (·.2)).length ∧ Hd K r H m (PlL T (fs.map (·.2)) (gs.map (·.2))) := by
  obtain ⟨h0, Hi, h1, h2, h3⟩ := h
  obtain ⟨q0, u, q, r⟩ := h2 _ _ (sun_l t)
  cases u with
  | ins C dx fs =>
    obtain ⟨e1, e2, e3⟩ := r
    subst e1
    exact ⟨dx, fs, q, e2, e3.length, h0, Hi, h1, h2, fun v d x => x.elim (h3 v d) fun hm => RepL.mem_zip e3 hm⟩
  | _ => exact False.elim r
theorem Hd.grow {u : HO} (h : Hd K r H m T) (hp : H p = none) : Hd K r (upd H p u) m T := by
  obtain ⟨h0, Hi, h1, h2, h3⟩ := h
  refine ⟨h0, Hi, fun b o e => (same_upd hp) _ _ (h1 b o e), fun a o e => ?_, h3⟩
  obtain ⟨q1, u', q2, q3⟩ := h2 a o e
  have ha : a ≠ p := fun z => by subst z; rw [hp] at q2; cases q2
  exact ⟨q1, u', by rw [upd_ne ha]; exact q2, q3⟩
end
/-- a method -/
structure KnM (P : Program) (w : World) (K : PySem.W.Frag) (mg : Str → Option Value) (base : Heap) (cA : Addr) (x : Str) (k : Nat) (F : DF) : Prop where
  ex : ∃ f fd ps, FnOk P w K mg base (L2.CX P w) k f fd ps (spD K F) ∧ Meth K cA x f ∧ Binds K fd ps []
/-- making: n values, keywords ks -/
structure KnI (P : Program) (w : World) (K : PySem.W.Frag) (mg : Str → Option Value) (base : Heap) (x : Str) (cA : Addr) (k : Nat) (F : DF) (n : Nat) (ks : List Str) (gD : List D → List D → List D) : Prop where
  ex : ∃ f fd ps g gV, Mk K cA f ∧ mg x = some (.ref cA) ∧ FnOk P w K mg base (L2.CX P w) k f fd ps (spD K F) ∧ KBn K fd ps (n + 1) ks g gV ∧ ∀ Hi vs ds zs es, RepL K Hi vs ds → RepL K Hi zs es → RepL K Hi (gV vs zs) (gD ds es)
theorem KnI.of {P : Program} {w : World} {K : PySem.W.Frag} {mg : Str → Option Value} {base : Heap} {x : Str} {cA : Addr} {k n : Nat} {F : DF} {f : Addr} {fd : FuncData} {ps ks : List Str} {ix : List Nat} {mv : List Value} {dvs : List V} {dds : List D}
    (M : Mk K cA f) (g : mg x = some (.ref cA)) (ok : FnOk P w K mg base (L2.CX P w) k f fd ps (spD K F)) (hb : KBn K fd ps (n + 1) ks (fun us ws => pickL ix (us ++ ws ++ mv)) (fun vs zs => pickL ix (vs ++ zs ++ dvs))) (hd : ∀ Hi, RepL K Hi dvs dds) :
    KnI P w K mg base x cA k F n ks (fun us zs => pickL ix (us ++ zs ++ dds)) :=
  ⟨f, fd, ps, _, _, M, g, ok, hb, fun Hi vs ds zs es r1 r2 => pickL_rep ix ((r1.append r2).append (hd Hi))⟩
theorem run_makeS {X : Cx} {CX : CXT} {k n : Nat} {f C : Addr} {fd : FuncData} {ps ks : List Str} {sp : Sp} {E : XK} {g : List Value → List Value → List Value} {gV : List V → List V → List V} {pins : List (Addr × Obj)} {σ : L2.St} {H : Hp} {s : Shared} {Q : VK} {us ws : List Value} {vs zs : List V}
    (M : Mk X.K C f) (F : FnOk X.prog X.w X.K X.mg X.base CX k f fd ps sp) (hr : Room (k + 1) X.A) (hb : KBn X.K fd ps (n + 1) ks g gV) (hx : PassesAt CX X σ E)
    (I : Inv X pins σ H s) (r : Vals vs us) (rz : Vals zs ws) (l1 : vs.length = n) (l2 : zs.length = ks.length)
    (h : ∀ x dx, H x = none → H dx = none → dx ≠ x → sp (gV (.ref x :: vs) zs) (upd (upd H dx (.own x)) x (.ins C dx [])) (fun v H2 => v = .non ∧ Q (.ref x) H2) E) :
    wpAny (model X.prog X.w) X.A (call (.ref C) us (ks.zip ws)) (EP X pins σ Q) X.xe s := by
  have hq := h (s.heap.objs.size + 1) s.heap.objs.size (I.hok.fresh (Nat.le_succ _)) (I.hok.fresh (Nat.le_refl _)) (Nat.ne_of_lt (Nat.lt_succ_self _))
  have I2 := Inv.made (C := C) I
  have r1 : Vals (V.ref (s.heap.objs.size + 1) :: vs) (Value.ref (s.heap.objs.size + 1) :: us) := .cons rfl r
  have r2 := hb.rel r1 rz
  have n1 : (Value.ref (s.heap.objs.size + 1) :: us).length = n + 1 := by
    rw [List.length_cons, ← r.length, l1]
  refine wpAny_call (make_map (f := f) I.kIn M.makes M.init (beq_iff_eq.mp M.fn) (codeAny_mono (F.run _ X.stack _ _ ⟨Value.ref (s.heap.objs.size + 1) :: us, ks.zip ws⟩ (g (Value.ref (s.heap.objs.size + 1) :: us) ws) _ _ E (hr.make C us (ks.zip ws))
    (I2.env0.make C us (ks.zip ws)) (hb.to _ (Value.ref (s.heap.objs.size + 1) :: us) ws I2.kIn n1 (rz.length.symm.trans l2)) r2 hq) fun r s' hq' => ?_))
  cases r with
  | error e => exact hx pins _ _ e s' I2 hq'
  | ok fl =>
    cases fl with
    | ret u =>
      obtain ⟨v, H', I3, rv, ev, q3⟩ := I2.after hq'
      subst ev
      exact ⟨rv, ⟨V.ref (s.heap.objs.size + 1), H', I3, rfl, q3⟩⟩
    | next => exact False.elim hq'
    | brk => exact False.elim hq'
    | cont => exact False.elim hq'
section
variable {C : Ct} {W : DW} {δ : Sl} {m : Sto} {a b c e o : Expr} {es : List Expr} {pos pos' apos : Pos} {Q : D → Sto → Prop} {D : DEn} {cA : Addr} {f x : Str}
/-- o.f -/
theorem de_fld (h : DE C W o δ m fun d m1 => ∃ a cA fs v, d = .ref a ∧ m1 a = some (.ins cA fs) ∧ Cls C.K cA ∧ NoAttr C.K cA f ∧ fs.lookup f = some v ∧ Q v m1) (hb : ∀ env, attributeBase o f env (eval o env) = eval o env := by intro _; rfl) :
    DE C W (.Attribute o f pos) δ m Q := by
  intro X S fx tk σ H T le sl hh
  refine WE.of (pe_fld we (hb _)) ((h X S fx tk σ H T le sl hh).mono fun v H1 ⟨d, m1, h1, a, cA, fs, x, ed, hm, c, n, l, q⟩ => ?_)
  subst ed
  have r := h1.rep Pl.it
  cases r
  obtain ⟨dx, gs, hu, hn, hl, h2⟩ := h1.insO hm
  obtain ⟨v', e1, e2⟩ := lookup_rep hn (RepL.of_zip hl fun v d z => h2.rep (.inr z)) l
  refine ⟨a, cA, dx, gs, v', rfl, hu, by rw [fx.K]; exact c, by rw [fx.K]; exact n, e1, x, m1, ?_, q⟩
  exact h2.le fun y z t => by
    rcases t with t | ⟨rfl, rfl⟩
    · exact .inl (.inl t)
    · exact .inr e2
/-- o.f = e -/
theorem ds_fld (h : DE C W e δ m fun d m1 => DE C W o δ m1 fun x m2 => ∃ a cA fs, x = .ref a ∧ m2 a = some (.ins cA fs) ∧ Cls C.K cA ∧ NoAttr C.K cA f ∧ fs.length < 1000 ∧ D.nx δ (sput m2 a (.ins cA (putD f d fs))))
    (hs : ∀ env, swapsWith e (some (.Attribute o f pos')) pos.line env = pure false := by intro _; rfl) : DS C W (.Assign [.Attribute o f pos'] e pos) δ m D := by
  intro X S fx tk σ H T le sl hh
  refine WS.of (ps_fld we we (hs _)) ((h X S fx tk σ H T le sl hh).mono fun v H1 ⟨d, m1, h1, q⟩ => ?_)
  refine (q X S fx tk σ H1 _ (le.trans Pl.le) (sl.le Pl.le) h1).mono fun u H2 ⟨x, m2, h2, a, cA, fs, ex, hm, c, n, l, q2⟩ => ?_
  subst ex
  have r := h2.rep Pl.it
  cases r
  obtain ⟨dx, gs, hu, hn, hl, _⟩ := h2.insO hm
  have hlen : gs.length = fs.length := by simpa using hl
  refine ⟨a, cA, dx, gs, rfl, hu, by rw [fx.K]; exact c, by rw [fx.K]; exact n, by rw [hlen]; exact l, ?_⟩
  have h4 := h2.mut (u' := .ins cA dx (putF f v gs)) (o' := .ins cA (putD f d fs)) hm hu fun Hi r kk => ⟨rfl, putD_rep (kk v d (.inl Pl.it)) r.2.1 r.2.2⟩
  exact lift_nx (le.trans (Pl.le.trans Pl.le)) (sl.le (Pl.le.trans Pl.le)) h4 q2
/-- o.m(e, ..) -/
theorem de_meth {k : Nat} {F : DF} {pl : Env → Sem Bool} (kn : KnM C.P C.w C.K C.mg C.base cA x k F) (hc : Cls C.K cA) (hk : Nat.ble k C.k = true)
    (h : DE C W o δ m fun d m1 => ∃ a fs, d = .ref a ∧ m1 a = some (.ins cA fs) ∧ fs.lookup x = none ∧ DA C W (e :: es) δ m1 fun ds m2 => F (.ref a :: ds) m2 Q fun cls fs m' => W cls fs δ m') (hcm : C.cm = true := by rfl)
    (he : ∀ env, starEach (e :: es) env = (false, eval e env) :: starEach es env := by intro _; rfl) (hpl : ∀ env, (backTo pos (starEach es env)).any (·.1) = false := by intro _; rfl)
    (ht : ∀ env, eval (.Call (.Attribute o x apos) (e :: es) [] pos) env = (do
      let ov ← eval o env
      standAt apos.atName
      let (f, first) ← holding [ov] (getMethod ov x (pl env))
      callWith pos f first (backTo pos (starEach (e :: es) env)) (backToKw pos (keywordEach [] env))) := by intro _; rfl) : DE C W (.Call (.Attribute o x apos) (e :: es) [] pos) δ m Q := by
  intro X S fX tk σ H T le sl hh pins s I
  obtain ⟨f, fd, ps, ok, hm, hb⟩ := kn.ex
  rw [← fX.prog, ← fX.w, ← fX.K, ← fX.mg, ← fX.base] at ok
  rw [← fX.K] at hm hb hc
  refine PySem.W.methodCall_KW (pl := pl X.env) (thn (h X S fX tk σ H T le sl hh pins s I) fun u s1 ⟨v, H1, I1, rx, d, m1, h1, a, fs, ed, hma, hln, q⟩ => ?_) (ht _)
  subst ed
  have r := h1.rep Pl.it
  cases r
  obtain rfl : u = Value.ref a := rx
  obtain ⟨dx, gs, hu, hn, hl, _⟩ := h1.insO hma
  refine getmeth_ok I1 hu hc hm (lookup_none hn hln) ?_
  refine PySem.W.callWith_K (first := [.ref a]) (h₀ := X.base) I.ok.mod.kin hm.kp (thn (q X S fX tk σ H1 _ (le.trans Pl.le) (sl.le Pl.le) h1 pos pins s1 I1) fun us s2 ⟨vs, H2, I2, r, ds, m2, hl2, h2, q2⟩ => ⟨I2.kIn, ?_⟩) (he _) (hpl _)
  refine run_fnS (us := .ref a :: us) (vs := .ref a :: vs) (E := L2.WE (liftW C.K W S)) (ok.mono (Nat.le_of_ble_eq_true hk)) (fX.room hcm) hb (passAt tk σ) I2 (.cons rfl r) ?_
  have h3 : Hd C.K S.r H2 m2 (PlL T (.ref a :: vs) (.ref a :: ds)) := h2.le fun y z t => by
    rcases t with t | t
    · exact .inl (.inl t)
    · rw [List.zip_cons_cons] at t
      rcases List.mem_cons.mp t with t | t
      · cases t
        exact .inl Pl.it
      · exact .inr t
  have z := spD_at (X := X) (S := S) (σ := σ) (Q := Q) (W := W) (δ := δ) le sl (vs := .ref a :: vs) (ds := .ref a :: ds) (by rw [List.length_cons, List.length_cons, hl2]) h3 q2
  rw [← fX.K] at z ⊢
  exact z
/-- o.m() -/
theorem de_meth0 {k : Nat} {F : DF} {pl : Env → Sem Bool} (kn : KnM C.P C.w C.K C.mg C.base cA x k F) (hc : Cls C.K cA) (hk : Nat.ble k C.k = true)
    (h : DE C W o δ m fun d m1 => ∃ a fs, d = .ref a ∧ m1 a = some (.ins cA fs) ∧ fs.lookup x = none ∧ F [.ref a] m1 Q fun cls fs m' => W cls fs δ m') (hcm : C.cm = true := by rfl)
    (ht : ∀ env, eval (.Call (.Attribute o x apos) [] [] pos) env = (do
      let ov ← eval o env
      standAt apos.atName
      let (f, first) ← holding [ov] (getMethod ov x (pl env))
      callWith pos f first (backTo pos (starEach [] env)) (backToKw pos (keywordEach [] env))) := by intro _; rfl) : DE C W (.Call (.Attribute o x apos) [] [] pos) δ m Q := by
  intro X S fX tk σ H T le sl hh pins s I
  obtain ⟨f, fd, ps, ok, hm, hb⟩ := kn.ex
  rw [← fX.prog, ← fX.w, ← fX.K, ← fX.mg, ← fX.base] at ok
  rw [← fX.K] at hm hb hc
  refine PySem.W.methodCall_KW (pl := pl X.env) (thn (h X S fX tk σ H T le sl hh pins s I) fun u s1 ⟨v, H1, I1, rx, d, m1, h1, a, fs, ed, hma, hln, q⟩ => ?_) (ht _)
  subst ed
  have r := h1.rep Pl.it
  cases r
  obtain rfl : u = Value.ref a := rx
  obtain ⟨dx, gs, hu, hn, hl, _⟩ := h1.insO hma
  refine getmeth_ok I1 hu hc hm (lookup_none hn hln) ?_
  refine PySem.W.callWith_K0 (first := [.ref a]) I1.kIn hm.kp (run_fnS (us := [.ref a]) (vs := [.ref a]) (E := L2.WE (liftW C.K W S)) (ok.mono (Nat.le_of_ble_eq_true hk)) (fX.room hcm) hb (passAt tk σ) I1 (.cons rfl .nil) ?_)
  have h3 : Hd C.K S.r H1 m1 (PlL T [.ref a] [.ref a]) := h1.le PlL.one
  have z := spD_at (X := X) (S := S) (σ := σ) (Q := Q) (W := W) (δ := δ) le sl (vs := [.ref a]) (ds := [.ref a]) rfl h3 q
  rw [← fX.K] at z ⊢
  exact z
/-- X(e, .., k = v, ..) -/
theorem de_make {p : Pos} {k n : Nat} {F : DF} {kws : List Keyword} {ks : List Str} {gD : List G.D → List G.D → List G.D} (kn : KnI C.P C.w C.K C.mg C.base x cA k F n ks gD) (hk : Nat.ble (k + 1) C.k = true) (hg : GlC C x)
    (h : DA C W (e :: es) δ m fun ds m1 => ds.length = n ∧ DKs C W δ kws m1 fun zs m2 => ∀ a, m2 a = none → F (gD (.ref a :: ds) zs) (sput m2 a (.ins cA [])) (fun d m3 => d = .non ∧ Q (.ref a) m3) fun cls fs m' => W cls fs δ m') (hkl : kws.length = ks.length := by rfl) (hdb : (x == ("__debug__" : Str)) = false := by decide) (hcm : C.cm = true := by rfl)
    (he : ∀ env, starEach (e :: es) env = (false, eval e env) :: starEach es env := by intro _; rfl) (hall : ∀ env, (backToKw pos (keywordEach kws env)).all (·.1.isSome) = true := by intro _; rfl)
    (hks : ∀ env, (backToKw pos (keywordEach kws env)).filterMap (·.1) = ks := by intro _; rfl)
    (hpl : ∀ env, ((backTo pos (starEach (e :: es) env)).any (·.1) || (backToKw pos (keywordEach kws env)).any (·.1.isNone)) = false := by intro _; rfl) : DE C W (.Call (.Name x p) (e :: es) kws pos) δ m Q := by
  intro X S fX tk σ H T le sl hh pins s I
  obtain ⟨f, fd, ps, g, gV, M, hm, ok, hb, hrep⟩ := kn.ex
  obtain ⟨j, hj⟩ : ∃ j, C.k = j + 1 := ⟨C.k - 1, by have := Nat.le_of_ble_eq_true hk; omega⟩
  have hkj : k ≤ j := by have := Nat.le_of_ble_eq_true hk; omega
  rw [← fX.prog, ← fX.w, ← fX.K, ← fX.mg, ← fX.base] at ok
  rw [← fX.K] at M hb
  refine wpAny_Call_Name_kw (ld_glob I (fX.gl hg) (by rw [fX.mg]; exact hm) ?_ hdb)
  refine PySem.W.callWith_KW (h₀ := X.base) I.ok.mod.kin M.kp (hall _) (thn (h X S fX tk σ H T le sl hh pos pins s I) fun us s1 ⟨vs, H1, I1, r, ds, m1, hl, h1, hn, q⟩ => ?_) (hpl _) (he _)
  have lel : Le T (PlL T vs ds) := PlL.le
  refine thn ((pkT_ok kws).run pos pins s1 σ H1 _ I1 (pkT_run fX tk kws (le.trans lel) (sl.le lel) h1 q)) fun ws s2 ⟨zs, H2, I2, rz, es2, m2, hl2, hlk2, h2, q2⟩ => ⟨I2.kIn, ?_⟩
  have hlz : zs.length = ks.length := hl2.trans (hlk2.trans hkl)
  rw [hks]
  have hr : Room (j + 1) X.A := by rw [← hj]; exact fX.room hcm
  refine run_makeS (E := L2.WE (liftW C.K W S) σ) M (ok.mono hkj) hr hb (passAt tk σ) I2 r rz (hl.trans hn) hlz fun x dx hx hdx hne => ?_
  have h4 : Hd C.K S.r (upd (upd H2 dx (.own x)) x (.ins cA dx [])) (sput m2 x (.ins cA [])) (Pl (PlL (PlL T vs ds) zs es2) (.ref x) (.ref x)) := (h2.grow hdx).newM (by rw [upd_ne (Ne.symm hne)]; exact hx) fun _ _ => ⟨rfl, rfl, .nil⟩
  have reps : ∀ Hi, (∀ v d, Pl (PlL (PlL T vs ds) zs es2) (.ref x) (.ref x) v d → Rep C.K Hi v d) → RepL C.K Hi (gV (.ref x :: vs) zs) (gD (.ref x :: ds) es2) := fun Hi f => hrep Hi _ _ _ _ (.cons (.ref x) (RepL.of_zip hl fun v d q => f v d (.inl (.inl (.inr q))))) (RepL.of_zip hl2 fun v d q => f v d (.inl (.inr q)))
  have h5 : Hd C.K S.r (upd (upd H2 dx (.own x)) x (.ins cA dx [])) (sput m2 x (.ins cA [])) (PlL T (gV (.ref x :: vs) zs) (gD (.ref x :: ds) es2)) := h4.more fun Hi f v d t => by
    rcases t with t | t
    · exact f v d (.inl (.inl (.inl t)))
    · exact RepL.zip (reps Hi f) v d t
  have len : (gV (.ref x :: vs) zs).length = (gD (.ref x :: ds) es2).length := by
    obtain ⟨_, Hi, _, _, h6⟩ := h4
    exact (reps Hi h6).length
  have z : spD C.K F (gV (.ref x :: vs) zs) (upd (upd H2 dx (.own x)) x (.ins cA dx [])) (fun v H' => v = .non ∧ ∃ d m', Hd C.K S.r H' m' (Pl T (.ref x) d) ∧ Q d m') (L2.WE (liftW C.K W S) σ) :=
    ⟨_, _, T, S.r, _, _, len, h5, q2 x (h2.free hx), fun d m' ⟨e, q'⟩ v H' h' => by
      subst e
      have rv := h'.rep Pl.it
      cases rv
      exact ⟨rfl, .ref x, m', (h'.le Pl.le).pl fun _ _ => .ref x, q'⟩, fun cls fs m' w' dd H' T' l' h' xd => ⟨δ, m', T', fs, le.trans l', sl.le l', h', xd, w'⟩⟩
  rw [← fX.K] at z ⊢
  exact z
end
end G

/-! The data layer: targets with a star, lists taken apart. -/
namespace G
open PySem PySem.Spec PyProof.Rows L2
theorem star_tuple {prog : Program} {w : World} {A : Around} {E : Value → Shared → Prop} {s : Shared} {l : Addr} {items : Array Value} {n i : Nat} {Q : List Value → Shared → Prop} (hl : IsTup s.heap l items) (hh : A.handled = none) (hi : i < n) (hn : n ≤ items.size + 1) (hz : items.size ≤ 16384)
    (h : ∀ h' tk, Heap.ExtBut s.heap.objs.size s.heap h' → Q (items.toList.take i ++ [.ref h'.objs.size] ++ (items.toList.drop i).drop (items.size + 1 - n)) { s with heap := h'.push { cls := .type "list", data := .seq ((items.toList.drop i).take (items.size + 1 - n)).toArray }, toks := tk }) :
    wpAny (model prog w) A (unpackItems (.ref l) n (some i)) Q E s := by
  have hlt : l ≠ s.heap.objs.size := by obtain ⟨o, ho, _⟩ := hl; exact Nat.ne_of_lt (Heap.lt_size ho)
  have hll : l < s.heap.objs.size := by obtain ⟨o, ho, _⟩ := hl; exact Heap.lt_size ho
  unfold unpackItems
  refine wpAny_bind ?_
  unfold notIterableAtAll
  refine wpAny_bind (wpAny_specialOf hl.typeIs slot_tuple_iter.lookup ?_)
  refine wpAny_pure ?_
  simp only [Bool.false_eq_true, if_false]
  refine wpAny_bind (wpAny_holding (iter_tuple hl ?_))
  refine wpAny_bind (wpAny_holding (draw_tuple hlt i 0 _ _ ⟨_, Heap.get?_push_size _ rfl, rfl, rfl⟩ (hl.push _) (by omega) fun h₁ hit₁ hs₁ => ?_))
  have hl₁ : IsTup h₁ l items := (hl.push _).extBut hs₁.extBut hlt
  rw [Nat.zero_add] at hit₁
  have hit₁' := hit₁
  obtain ⟨oi, hoi, _⟩ := hit₁'
  have hl₁' := hl₁
  obtain ⟨ol, hol, _⟩ := hl₁'
  rw [List.drop_zero]
  have hfl : (items.toList.take i).length = i := by rw [List.length_take, Array.length_toList]; omega
  rw [if_neg (show ¬ ((items.toList.take i).length < i) by rw [hfl]; omega)]
  refine wpAny_bind (wpAny_holding (PySem.W.kun_collect (s := { s with heap := h₁ }) (T := "tuple_iterator") (.inr (.inr (.inr rfl))) (Walks.tuple (A := A.in1) hh s.heap.objs.size l hlt items) (fun j u st => st.1.typeIs) (k := i) (by omega) ⟨hit₁, hl₁⟩ (Heap.lt_size hoi) (Heap.lt_size hol) (fun h₂ tk hk => ?_) (by rw [sizeLine_eq]; omega)))
  have hrl : (items.toList.drop i).length = items.size - i := by rw [List.length_drop, Array.length_toList]
  have hmid : (items.toList.drop i).length - (n - 1 - i) = items.size + 1 - n := by rw [hrl]; omega
  show wpAny _ _ (if (items.toList.drop i).length < n - 1 - i then _ else _) _ _ _
  rw [if_neg (by rw [hrl]; omega)]
  show wpAny _ _ (newList ((items.toList.drop i).take ((items.toList.drop i).length - (n - 1 - i))) >>= fun d => pure (items.toList.take i ++ [d] ++ (items.toList.drop i).drop ((items.toList.drop i).length - (n - 1 - i)))) _ _ _
  rw [hmid]
  have he : Heap.ExtBut s.heap.objs.size s.heap h₂ := fun b o hb e => hk b o hb (hs₁.extBut b o hb (Heap.get?_push_of_some _ e))
  refine wpAny_bind (wpAny_newObj_type ?_ (by have hq := sizeLine_eq; (first | (show _ ≤ sizeLine; simp only [List.size_toArray, List.length_take, hrl]; omega) | (simp [List.length_take, hrl]; omega))))
  exact wpAny_pure (h h₂ tk he)
theorem pg_star {X : Cx} {es : List Expr} {k n i : Nat} {pos : Pos} {t : TGs} (hc : X.calm = true) (h : PGs X es t) (hn : (assignEach es X.env).length = n) (hst : (assignEach es X.env).findIdx? (·.1) = some i) (hi : i < n) :
    PG X (.Tuple es k pos) (fun v σ H Q => ∃ a xs, v = V.ref a ∧ SqT X.K H a xs ∧ n ≤ xs.length + 1 ∧ xs.length ≤ 16384 ∧ ∀ p, H p = none → t (xs.take i ++ [.ref p] ++ (xs.drop i).drop (xs.length + 1 - n)) σ (upd H p (.lst ((xs.drop i).take (xs.length + 1 - n)))) Q) := by
  refine ⟨fun pins s σ H v u Q I r hw => ?_⟩
  obtain ⟨a, xs, e1, hq, hl, hz2, hw⟩ := hw
  subst e1
  cases r
  obtain ⟨its, rv, ht, hz⟩ := I.tuple hq
  have hlen : its.length = xs.length := rv.length.symm
  rw [PyProof.Rows.assign_Tuple]
  refine wpAny_bind (wpAny_standAt ?_)
  unfold unpack
  rw [hn, hst]
  refine wpAny_bind (wpAny_holding (star_tuple ht (I.ok.hd hc) hi (by simp [hlen]; omega) (by simp [hlen]; omega) fun h' tk hx => ?_))
  have I1 : Inv X pins σ H { s with heap := h', toks := tk } := I.kept (t' := tk) fun b o e => hx b o (Nat.ne_of_lt (Heap.lt_size e)) e
  have hf : H h'.objs.size = none := I1.hok.fresh (Nat.le_refl _)
  have e3 : its.toArray.size + 1 - n = xs.length + 1 - n := by simp [hlen]
  have rm : Vals ((xs.drop i).take (xs.length + 1 - n)) ((its.toArray.toList.drop i).take (its.toArray.size + 1 - n)) := by
    rw [e3]
    exact (rv.drop i).take _
  have I2 : Inv X pins σ (upd H h'.objs.size (.lst ((xs.drop i).take (xs.length + 1 - n)))) { s with heap := h'.push { cls := .type "list", data := .seq ((its.toArray.toList.drop i).take (its.toArray.size + 1 - n)).toArray }, toks := tk } := by
    refine I1.laid (a := h'.objs.size) (t' := tk) (fun b u e => Heap.get?_push_of_some _ e) (Nat.le_refl _) ?_
    exact ⟨by rw [List.length_take, List.length_drop]; have hz := sizeLine_eq; omega, _, 0, rm, Heap.get?_push_size _ rfl⟩
  refine h.run pins _ σ _ _ _ Q I2 ?_ (hw _ hf)
  have r1 : Vals (xs.take i) (its.toArray.toList.take i) := rv.take i
  have r3 : Vals ((xs.drop i).drop (xs.length + 1 - n)) ((its.toArray.toList.drop i).drop (its.toArray.size + 1 - n)) := by
    rw [e3]
    exact (rv.drop i).drop _
  exact (r1.append (.cons (show RelV (.ref h'.objs.size) (.ref h'.objs.size) from rfl) .nil)).append r3
section
variable {C : Ct} {W : DW} {δ : Sl} {m : Sto} {e : Expr} {es : List Expr} {pos : Pos} {k : Nat}
theorem dgs_star {t : Expr} {p : Pos} {ds : List D} {Q : Sl → Sto → Prop} (h : DGs C W (t :: es) ds δ m Q) (hs : ∀ env, (assignEach (.Starred t p :: es) env).map (·.2) = (assignEach (t :: es) env).map (·.2) := by intro _; rfl) : DGs C W (.Starred t p :: es) ds δ m Q := by
  intro X S f tk us σ H T hl le sl hh pins s ws I r
  have z := h X S f tk us σ H T hl le sl hh pins s ws I r
  rw [← hs] at z
  exact z
theorem dg_star (n i : Nat) {ds ds' : List D} {Q : Sl → Sto → Prop} (hd : ds.take i ++ [.lst ((ds.drop i).take (ds.length + 1 - n))] ++ (ds.drop i).drop (ds.length + 1 - n) = ds') (hl : n ≤ ds.length + 1) (hz : ds.length ≤ 16384) (h : DGs C W es ds' δ m Q) (hi : i < n := by decide)
    (hn : ∀ env, (assignEach es env).length = n := by intro _; rfl) (hst : ∀ env, (assignEach es env).findIdx? (·.1) = some i := by intro _; rfl) (hcm : C.cm = true := by rfl) : DG C W (.Tuple es k pos) (.tup ds) δ m Q := by
  subst hd
  intro X S f tk v σ H T le sl t hh
  obtain ⟨a, xs, rfl, hq, hlx, h4⟩ := hh.items t
  refine WG.of (pg_star (f.calm hcm) wgs (hn _) (hst _) hi) ⟨a, xs, rfl, by rw [f.K]; exact hq, by rw [hlx]; exact hl, by rw [hlx]; exact hz, fun p hp => ?_⟩
  have hL : ∀ (l : List V) (j : Nat), l.length ≤ j ∨ j ≤ l.length := fun l j => by omega
  have h5 : Hd C.K S.r (upd H p (.lst ((xs.drop i).take (xs.length + 1 - n)))) m (Pl (PlL T xs ds) (.ref p) (.lst ((ds.drop i).take (ds.length + 1 - n)))) :=
    h4.newI hp fun Hi hi k => by
      rw [hlx]
      exact .lst upd_same (RepL.mono (same_upd hi) (((PlL.rep hlx k).drop i).take _))
  have h6 : Hd C.K S.r (upd H p (.lst ((xs.drop i).take (xs.length + 1 - n)))) m (PlL T (xs.take i ++ [.ref p] ++ (xs.drop i).drop (xs.length + 1 - n)) (ds.take i ++ [.lst ((ds.drop i).take (ds.length + 1 - n))] ++ (ds.drop i).drop (ds.length + 1 - n))) := h5.more fun Hi f v d t => by
    rcases t with t | t
    · exact f v d (.inl (.inl t))
    · have r0 : RepL C.K Hi xs ds := RepL.of_zip hlx fun v d q => f v d (.inl (.inr q))
      have r1 : Rep C.K Hi (.ref p) (.lst ((ds.drop i).take (ds.length + 1 - n))) := f _ _ Pl.it
      rw [hlx] at t
      exact RepL.zip (((r0.take i).append (.cons r1 .nil)).append ((r0.drop i).drop _)) v d t
  have hlen : (xs.take i ++ [V.ref p] ++ (xs.drop i).drop (xs.length + 1 - n)).length = (ds.take i ++ [D.lst ((ds.drop i).take (ds.length + 1 - n))] ++ (ds.drop i).drop (ds.length + 1 - n)).length := by simp [hlx]
  exact h X S f tk _ σ _ T hlen le sl h6
/-- a list that is data, taken apart -/
theorem dg_lst {ds : List D} {Q : Sl → Sto → Prop} (hl : ds.length = es.length) (h : DGs C W es ds δ m Q) (hn : ∀ env, (assignEach es env).length = es.length := by intro _; rfl) (hst : ∀ env, (assignEach es env).findIdx? (·.1) = none := by intro _; rfl) (hcm : C.cm = true := by rfl) : DG C W (.Tuple es k pos) (.lst ds) δ m Q := by
  intro X S f tk v σ H T le sl t hh
  obtain ⟨a, xs, rfl, hq, hlx, h4⟩ := hh.itemsL t
  refine WG.of (pg_lst (f.calm hcm) wgs (hn _) (hst _)) ⟨a, xs, rfl, SqL.of hq, hlx.trans hl, ?_⟩
  exact h X S f tk xs σ H T hlx le sl h4
end
end G
namespace G
open PySem PySem.Spec PyProof.Rows L2
section
variable {C : Ct} {W : DW} {δ : Sl} {m : Sto} {a b e : Expr} {es : List Expr} {sts : List Stmt} {pos : Pos} {k : Nat} {D : DEn}
/-- x, y = a, b -/
theorem ds_par (i j : Nat) {x y : Str} {px py pt pt2 : Pos} {kt k2 : Nat} (hi : C.N[i]? = some x) (hj : C.N[j]? = some y) (hij : i ≠ j) (hx : C.sc.names.lookup x = some .local) (hy : C.sc.names.lookup y = some .local)
    (h : DA C W [a, b] δ m fun ds m1 => ∃ d d2, ds = [d, d2] ∧ D.nx ((δ.set i (some d)).set j (some d2)) m1)
    (hw : ∀ env : Env, env.scope = C.sc → swappedStores [.Tuple [.Name x px, .Name y py] kt pt] (.Tuple [a, b] k2 pt2) env = pure (some [x, y]))
    (hs : ∀ env, swapsWithSole [.Tuple [.Name x px, .Name y py] kt pt] (.Tuple [a, b] k2 pt2) pos.line env = pure false := by intro _; rfl) (hcm : C.cm = true := by rfl) :
    DS C W (.Assign [.Tuple [.Name x px, .Name y py] kt pt] (.Tuple [a, b] k2 pt2) pos) δ m D := by
  intro X S f tk σ H T le sl hh
  refine WS.of (ps_par (f.calm hcm) f.nd (i := i) (j := j) (by rw [f.N]; exact hi) (by rw [f.N]; exact hj) hij (by rw [f.sc]; exact hx) (by rw [f.sc]; exact hy) wa (hw _ f.sc) (hs _)) ((h X S f tk σ H T le sl hh).mono fun vs H1 ⟨ds, m1, hl, h1, d, d2, e, q⟩ => ?_)
  subst e
  obtain ⟨v, u, rfl⟩ := two_of hl
  have t1 : PlL T [v, u] [d, d2] v d := PlL.at (i := 0) rfl rfl
  have t2 : PlL T [v, u] [d, d2] u d2 := PlL.at (i := 1) rfl rfl
  exact ⟨v, u, rfl, lift_nx (le.trans PlL.le) (((sl.le PlL.le).set t1).set t2) h1 q⟩
/-- a slot's list is data from now on -/
theorem dss_frzS (i : Nat) {p : Addr} {ds : List G.D} (hd : δ[i]? = some (some (.ref p))) (hm : m p = some (.lst ds)) (h : DSs C W sts (δ.set i (some (.lst ds))) (sdel m p) D) : DSs C W sts δ m D := by
  intro X S f tk σ H T le sl hh
  obtain ⟨v, hv, tv⟩ := sl.2 i _ hd
  have r := hh.rep tv
  cases r
  have h2 := hh.freezeL hm
  have hi : i < σ.length := (List.getElem?_eq_some_iff.mp hv).1
  have sl2 := (sl.le (Pl.le (v := .ref p) (d := .lst ds))).set (i := i) (Pl.it (T := T) (v := .ref p) (d := .lst ds))
  have e : σ.set i (some (V.ref p)) = σ := by
    refine List.ext_getElem? fun j => ?_
    by_cases hj : i = j
    · subst hj
      rw [List.getElem?_set_self hi, hv]
    · rw [List.getElem?_set_ne hj]
  rw [e] at sl2
  exact h X S f tk σ H _ (le.trans Pl.le) sl2 h2
end
theorem sput_comm {m : Sto} {p q : Addr} {a b : O} (h : p ≠ q) : sput (sput m p a) q b = sput (sput m q b) p a := by
  funext x
  unfold sput
  by_cases h1 : x = q
  · subst h1
    rw [if_pos rfl, if_neg (Ne.symm h), if_pos rfl]
  · rw [if_neg h1]
    by_cases h2 : x = p
    · rw [if_pos h2, if_pos h2]
    · rw [if_neg h2, if_neg h2, if_neg h1]
theorem sput_mid {m : Sto} {p q : Addr} {a b c : O} (h : p ≠ q) : sput (sput (sput m q a) p b) q c = sput (sput m q c) p b := by
  rw [sput_comm h, sput_sput]
theorem sdel_mid {m : Sto} {p q : Addr} {a b : O} (h : p ≠ q) (hq : m q = none) : sdel (sput (sput m q a) p b) q = sput m p b := by
  rw [← sput_comm h]
  refine sdel_new ?_
  rw [sput_ne (Ne.symm h)]
  exact hq
theorem new_ne {m : Sto} {p q : Addr} {a : O} (h : sput m p a q = none) : p ≠ q := fun e => by
  subst e
  rw [sput_same] at h
  cases h
section
variable {C : Ct} {m : Sto} {Q : D → Sto → Prop}
theorem ix_at {z : Str} {i : Int} {c : Nat} (h0 : 0 ≤ i) (h : (TL.tl z)[i.toNat]? = some c) (h2 : z.length ≤ 1000000) (q : Q (.str ⟨#[c]⟩) m) : ixD (.str z) (.int i) m Q := by
  obtain ⟨k, rfl⟩ : ∃ k : Nat, i = k := ⟨i.toNat, by omega⟩
  exact ⟨c, by have hz := sizeLine_eq; omega, atI_nat (by simpa using h), q⟩
def addSi : R2D := fun x y m Q => ∃ i j, x = .str i ∧ y = .str j ∧ i.length + j.length ≤ sizeLine ∧ Q (.str (i ++ j)) m
theorem od_addSi : OpDi C .Add addSi := by
  rintro X f fr H m T x y d e Q hh tx ty ⟨i, k, rfl, rfl, hz, q⟩
  have rx := hh.rep tx
  have ry := hh.rep ty
  cases rx
  cases ry
  exact wb_of iop_add_str ⟨_, _, rfl, rfl, hz, dk_str hh q⟩
end
end G
namespace G
open PySem PySem.Spec PyProof.Rows L2
section
variable {C : Ct} {W : DW} {δ : Sl} {m : Sto} {e t : Expr} {es : List Expr} {pos p : Pos} {k : Nat}
/-- tuple of a list -/
def tupleD : RLD := fun ds m Q => ∃ l, ds = [.lst l] ∧ Q (.tup l) m
theorem cd_tuple : CallD C (.type "tuple") tupleD := by
  rintro X f fr H m T vs ds Q hl hh ⟨l, rfl, q⟩
  obtain ⟨v, rfl⟩ := one_of hl
  obtain ⟨a, xs, rfl, hq, hl2, h4⟩ := hh.itemsL (PlL.at (i := 0) (v := v) (d := .lst l) rfl rfl)
  exact wc_of call_tuple_of ⟨a, xs, rfl, .inl ⟨SqL.of hq, fun p hp => dK.le (dk_tup h4 hp (fun Hi k => PlL.rep hl2 k) q) (PlL.le.trans PlL.le)⟩⟩
/-- x, *r = .. -/
theorem dg_star1 {x : D} {l : List D} {Q : Sl → Sto → Prop} (hz : l.length ≤ 16000) (h : DGs C W [t, .Starred e p] [x, .lst l] δ m Q)
    (hn : ∀ env, (assignEach [t, .Starred e p] env).length = 2 := by intro _; rfl) (hst : ∀ env, (assignEach [t, .Starred e p] env).findIdx? (·.1) = some 1 := by intro _; rfl) (hcm : C.cm = true := by rfl) : DG C W (.Tuple [t, .Starred e p] k pos) (.tup (x :: l)) δ m Q := by
  refine dg_star 2 1 (ds' := [x, .lst l]) ?_ (by simp) (by simp; omega) h (by decide) hn hst hcm
  simp
end
end G
namespace G
open PySem PySem.Spec PyProof.Rows L2
section
variable {C : Ct} {W : DW} {δ : Sl} {m : Sto} {e : Expr} {pos : Pos} {D : DEn}
theorem ds_asgS {tg : Expr} (h : DE C W e δ m fun d m1 => DG C W tg d δ m1 D.nx) (hw : ∀ env : Env, env.scope = C.sc → swappedStores [tg] e env = pure none) (hs : ∀ env, swapsWithSole [tg] e pos.line env = pure false := by intro _; rfl)
    (h1 : ∀ env, (assignEach [tg] env).map (·.2) = [assign tg env] := by intro _; rfl) : DS C W (.Assign [tg] e pos) δ m D := by
  intro X S f tk σ H T le sl hh
  refine WS.of (ps_asg we wg (hs _) (hw _ f.sc) (h1 _)) ((h X S f tk σ H T le sl hh).mono fun v H1 ⟨d, m1, h1, q⟩ => ?_)
  exact (q X S f tk v σ H1 _ (le.trans Pl.le) (sl.le Pl.le) Pl.it h1).mono fun σ' H' ⟨δ', m', T', le', sl', hh', q'⟩ => ⟨δ', m', T', le.trans (Pl.le.trans le'), sl', hh', q'⟩
end
end G

/-! The data layer: dicts. -/
namespace G
open PySem PySem.Spec PyProof.Rows L2
def kD : Key → D
  | .inl i => .int i
  | .inr x => .str x
theorem kV_rep {K : PySem.W.Frag} {H : Hp} : ∀ k : Key, Rep K H (kV k) (kD k)
  | .inl i => .int i
  | .inr x => .str x
theorem kV_of {K : PySem.W.Frag} {H : Hp} {v : V} : ∀ {k : Key}, Rep K H v (kD k) → v = kV k
  | .inl i, r => by
    have r' : Rep K H v (.int i) := r
    cases r'
    rfl
  | .inr x, r => by
    have r' : Rep K H v (.str x) := r
    cases r'
    rfl
/-- what stands at a key -/
def valD : List Key → List D → Key → Option D
  | k :: ks, d :: ds, x => if k = x then some d else valD ks ds x
  | _, _, _ => none
theorem val_rep {K : PySem.W.Frag} {H : Hp} : ∀ {kvs : List (Key × V)} {ds : List D}, RepL K H (kvs.map (·.2)) ds → ∀ {k : Key}, (valD (kvs.map (·.1)) ds k = none → valV kvs k = none) ∧ ∀ {d : D}, valD (kvs.map (·.1)) ds k = some d → ∃ v, valV kvs k = some v ∧ (v, d) ∈ (kvs.map (·.2)).zip ds
  | [], [], _, k => ⟨fun _ => rfl, fun h => by cases h⟩
  | [], _ :: _, r, _ => by cases r
  | _ :: _, [], r, _ => by cases r
  | (x, v) :: kvs, d :: ds, r, k => by
    cases r with
    | cons r1 r2 =>
      obtain ⟨ih1, ih2⟩ := val_rep r2 (k := k)
      by_cases hk : x = k
      · refine ⟨fun h => ?_, fun h => ?_⟩
        · have h' : (if x = k then some d else valD (kvs.map (·.1)) ds k) = none := h
          rw [if_pos hk] at h'
          cases h'
        · have h' : (if x = k then some d else valD (kvs.map (·.1)) ds k) = some _ := h
          rw [if_pos hk] at h'
          cases h'
          exact ⟨v, valV_pos hk, by simp⟩
      · refine ⟨fun h => ?_, fun h => ?_⟩
        · have h' : (if x = k then some d else valD (kvs.map (·.1)) ds k) = none := h
          rw [if_neg hk] at h'
          rw [valV_neg hk]
          exact ih1 h'
        · have h' : (if x = k then some d else valD (kvs.map (·.1)) ds k) = some _ := h
          rw [if_neg hk] at h'
          obtain ⟨v', e1, e2⟩ := ih2 h'
          exact ⟨v', by rw [valV_neg hk]; exact e1, by rw [List.map_cons, List.zip_cons_cons]; exact List.mem_cons_of_mem _ e2⟩
/-- the dict of the store, be it locked or not -/
def DicAt (m : Sto) (a : Addr) (ks : List Key) (ds : List D) : Prop := m a = some (.dic ks ds) ∨ ∃ od kvs, m a = some (.lk od kvs ks ds)
section
variable {K : PySem.W.Frag} {r : Sto} {H : Hp} {m : Sto} {T : RT} {a : Addr} {ks : List Key} {ds : List D}
theorem Hd.dicO (h : Hd K r H m T) (t : m a = some (.dic ks ds)) : ∃ kvs, H a = some (.dK kvs) ∧ kvs.map (·.1) = ks ∧ (kvs.map (·.2)).length = ds.length ∧ Hd K r H m (PlL T (kvs.map (·.2)) ds) := by
  obtain ⟨h0, Hi, h1, h2, h3⟩ := h
  obtain ⟨q0, u, q, r⟩ := h2 _ _ (sun_l t)
  cases u with
  | dK kvs =>
    obtain ⟨e1, e2⟩ := r
    exact ⟨kvs, q, e1, e2.length, h0, Hi, h1, h2, fun v d x => x.elim (h3 v d) fun hm => RepL.mem_zip e2 hm⟩
  | _ => exact False.elim r
theorem Hd.lkO {od : Obj} {kvs : List (Key × V)} (h : Hd K r H m T) (t : m a = some (.lk od kvs ks ds)) : H a = some (.frz od (.dK kvs)) ∧ kvs.map (·.1) = ks ∧ (kvs.map (·.2)).length = ds.length ∧ Hd K r H m (PlL T (kvs.map (·.2)) ds) := by
  obtain ⟨h0, Hi, h1, h2, h3⟩ := h
  obtain ⟨q0, u, q, r⟩ := h2 _ _ (sun_l t)
  cases u with
  | frz ob u =>
    obtain ⟨rfl, rfl, e1, e2⟩ := r
    exact ⟨q, e1, e2.length, h0, Hi, h1, h2, fun v d x => x.elim (h3 v d) fun hm => RepL.mem_zip e2 hm⟩
  | _ => exact False.elim r
theorem Hd.dicR (h : Hd K r H m T) (t : DicAt m a ks ds) : ∃ kvs, Rd H a (.dK kvs) ∧ kvs.map (·.1) = ks ∧ (kvs.map (·.2)).length = ds.length ∧ Hd K r H m (PlL T (kvs.map (·.2)) ds) := by
  rcases t with t | ⟨od, kvs, t⟩
  · obtain ⟨kvs, q, rest⟩ := h.dicO t
    exact ⟨kvs, .inl q, rest⟩
  · obtain ⟨q, rest⟩ := h.lkO t
    exact ⟨kvs, .inr ⟨od, q⟩, rest⟩
/-- a read of a dict -/
theorem Hd.dget {v : V} {k : Key} (h : Hd K r H m T) (t : DicAt m a ks ds) (tv : T v (kD k)) : (valD ks ds k = none → DGet H a v none) ∧ ∀ d, valD ks ds k = some d → ∃ u, DGet H a v (some u) ∧ Hd K r H m (Pl T u d) := by
  obtain ⟨kvs, hr, e, hl, h2⟩ := h.dicR t
  subst e
  have ek := kV_of (h.rep tv)
  subst ek
  obtain ⟨z1, z2⟩ := val_rep (RepL.of_zip hl fun v d z => h2.rep (.inr z)) (k := k)
  refine ⟨fun e => .inl ⟨kvs, k, hr, rfl, (z1 e).symm⟩, fun d e => ?_⟩
  obtain ⟨u, e1, e2⟩ := z2 e
  exact ⟨u, .inl ⟨kvs, k, hr, rfl, e1.symm⟩, h2.le fun x y t => by
    rcases t with t | ⟨rfl, rfl⟩
    · exact .inl t
    · exact .inr e2⟩
end
section
variable {C : Ct} {W : DW} {δ : Sl} {m : Sto} {b c e o i f : Expr} {es : List Expr} {pos pos' apos cpos : Pos} {Q : D → Sto → Prop} {D : DEn}
theorem units1 {X : Cx} (f : Fits C X) : X.A.units + 1 < cLine := by have := f.un; omega
/-- {} -/
theorem de_dict0 (q : ∀ p, m p = none → Q (.ref p) (sput m p (.dic [] []))) : DE C W (.Dict [] [] pos) δ m Q := fun X S fx tk σ H T le sl hh => WE.of pe_dnewK fun p hp => ⟨.ref p, sput m p (.dic [] []), hh.newM hp fun _ _ => ⟨rfl, .nil⟩, q p (hh.free hp)⟩
/-- d[k] -/
theorem de_dget (h : DE C W o δ m fun d m1 => DE C W i δ m1 fun y m2 => ∃ a ks ds k v, d = .ref a ∧ y = kD k ∧ DicAt m2 a ks ds ∧ valD ks ds k = some v ∧ Q v m2) (hs : NoSl i := by intro _ _; rfl) : DE C W (.Subscript o i pos) δ m Q := by
  intro X S fx tk σ H T le sl hh
  refine WE.of (pe_dget (units1 fx) we we hs) ((h X S fx tk σ H T le sl hh).mono fun v H1 ⟨d, m1, h1, q⟩ => ?_)
  refine (q X S fx tk σ H1 _ (le.trans Pl.le) (sl.le Pl.le) h1).mono fun u H2 ⟨y, m2, h2, a, ks, ds, k, z, ed, ey, hm, hv, q2⟩ => ?_
  subst ed ey
  have r := h2.rep (.inl Pl.it : Pl (Pl T v (.ref a)) u (kD k) v (.ref a))
  cases r
  obtain ⟨w, g, h3⟩ := (h2.dget hm Pl.it).2 z hv
  exact ⟨a, w, rfl, g, z, m2, h3.le (Pl.mono (Pl.le.trans Pl.le)), q2⟩
/-- d.get(k, x) -/
theorem de_dget2 (h : DE C W o δ m fun d m1 => ∃ a ks0 ds0, d = .ref a ∧ DicAt m1 a ks0 ds0 ∧ DE C W e δ m1 fun y m2 => DE C W f δ m2 fun x m3 => ∃ ks ds k, y = kD k ∧ DicAt m3 a ks ds ∧ Q ((valD ks ds k).getD x) m3)
    (hm : ∀ X : Cx, M2 X o "get" apos e f cpos := by intro _; exact ⟨rfl, rfl, rfl, rfl⟩) : DE C W (.Call (.Attribute o "get" apos) [e, f] [] cpos) δ m Q := by
  intro X S fx tk σ H T le sl hh
  refine WE.of (pe_dget2 (units1 fx) we we we (hm X)) ((h X S fx tk σ H T le sl hh).mono fun v H1 ⟨d, m1, h1, a, ks0, ds0, ed, hm0, q⟩ => ?_)
  subst ed
  have r := h1.rep Pl.it
  cases r
  obtain ⟨kvs0, hr0, _⟩ := h1.dicR hm0
  refine ⟨a, rfl, .inl ⟨kvs0, hr0⟩, (q X S fx tk σ H1 _ (le.trans Pl.le) (sl.le Pl.le) h1).mono fun u H2 ⟨y, m2, h2, q2⟩ => ?_⟩
  refine (q2 X S fx tk σ H2 _ (le.trans (Pl.le.trans Pl.le)) (sl.le (Pl.le.trans Pl.le)) h2).mono fun w H3 ⟨x, m3, h3, ks, ds, k, ey, hm3, q3⟩ => ?_
  subst ey
  obtain ⟨g1, g2⟩ := h3.dget (k := k) (v := u) hm3 (.inl Pl.it)
  cases hv : valD ks ds k with
  | none =>
    rw [hv] at q3
    exact ⟨none, g1 hv, x, m3, h3.le (Pl.mono (Pl.le.trans Pl.le)), q3⟩
  | some z =>
    rw [hv] at q3
    obtain ⟨w2, g, h4⟩ := g2 z hv
    exact ⟨some w2, g, z, m3, h4.le (Pl.mono (Pl.le.trans (Pl.le.trans Pl.le))), q3⟩
/-- k in d, k not in d -/
theorem de_din (h : DE C W i δ m fun y m1 => DE C W o δ m1 fun d m2 => ∃ a ks ds k, y = kD k ∧ d = .ref a ∧ DicAt m2 a ks ds ∧ Q (.bl (valD ks ds k).isSome) m2) (hb : behindInMarks .In o = false := by with_unfolding_all rfl) : DE C W (.Compare i [.In] [o] pos) δ m Q := by
  intro X S fx tk σ H T le sl hh
  refine WE.of (L2.pe_cmp (pc_din (units1 fx) we we) hb) ((h X S fx tk σ H T le sl hh).mono fun u H1 ⟨y, m1, h1, q⟩ => ?_)
  refine (q X S fx tk σ H1 _ (le.trans Pl.le) (sl.le Pl.le) h1).mono fun v H2 ⟨d, m2, h2, a, ks, ds, k, ey, ed, hm, q2⟩ => ?_
  subst ed ey
  have r := h2.rep Pl.it
  cases r
  obtain ⟨g1, g2⟩ := h2.dget (k := k) (v := u) hm (.inl Pl.it)
  cases hv : valD ks ds k with
  | none =>
    rw [hv] at q2
    exact ⟨a, none, rfl, g1 hv, dK.le (dk_bl h2 q2) (Pl.le.trans Pl.le)⟩
  | some z =>
    rw [hv] at q2
    obtain ⟨w2, g, _⟩ := g2 z hv
    exact ⟨a, some w2, rfl, g, dK.le (dk_bl h2 q2) (Pl.le.trans Pl.le)⟩
theorem de_dnotin (h : DE C W i δ m fun y m1 => DE C W o δ m1 fun d m2 => ∃ a ks ds k, y = kD k ∧ d = .ref a ∧ DicAt m2 a ks ds ∧ Q (.bl (!(valD ks ds k).isSome)) m2) (hb : behindInMarks .NotIn o = false := by with_unfolding_all rfl) : DE C W (.Compare i [.NotIn] [o] pos) δ m Q := by
  intro X S fx tk σ H T le sl hh
  refine WE.of (L2.pe_cmp (pc_dnotin (units1 fx) we we) hb) ((h X S fx tk σ H T le sl hh).mono fun u H1 ⟨y, m1, h1, q⟩ => ?_)
  refine (q X S fx tk σ H1 _ (le.trans Pl.le) (sl.le Pl.le) h1).mono fun v H2 ⟨d, m2, h2, a, ks, ds, k, ey, ed, hm, q2⟩ => ?_
  subst ed ey
  have r := h2.rep Pl.it
  cases r
  obtain ⟨g1, g2⟩ := h2.dget (k := k) (v := u) hm (.inl Pl.it)
  cases hv : valD ks ds k with
  | none =>
    rw [hv] at q2
    exact ⟨a, none, rfl, g1 hv, dK.le (dk_bl h2 q2) (Pl.le.trans Pl.le)⟩
  | some z =>
    rw [hv] at q2
    obtain ⟨w2, g, _⟩ := g2 z hv
    exact ⟨a, some w2, rfl, g, dK.le (dk_bl h2 q2) (Pl.le.trans Pl.le)⟩
/-- list(d) -/
def listKD : RLD := fun ds m Q => ∃ a ks es, ds = [.ref a] ∧ DicAt m a ks es ∧ Q (.lst (ks.map kD)) m
theorem cd_listK (hcm : C.cm = true := by rfl) : CallD C (.type "list") listKD := by
  rintro X fx fr H m T vs ds Q hl hh ⟨a, ks, es, rfl, hm, q⟩
  obtain ⟨v, rfl⟩ := one_of hl
  have r := hh.rep (PlL.at (i := 0) (v := v) (d := .ref a) rfl rfl)
  cases r
  obtain ⟨kvs, hr, e, _, h2⟩ := hh.dicR hm
  subst e
  refine wc_of (call_listD (fx.calm hcm)) ⟨a, kvs, rfl, hr, fun p hp => dK.le (dk_lst hh hp (fun Hi k => ?_) q) PlL.le⟩
  have : ∀ kvs : List (Key × V), RepL C.K Hi (kvs.map fun kv => kV kv.1) ((kvs.map (·.1)).map kD) := fun kvs => by
    induction kvs with
    | nil => exact .nil
    | cons p l ih => exact .cons (kV_rep p.1) ih
  exact this kvs
/-- sorted of a list of whole numbers that is data -/
def sortedD : RLD := fun ds m Q => ∃ ns : List Int, ds = [.lst (ns.map G.D.int)] ∧ ∀ ns' : List Int, ns'.Perm ns → ns'.Pairwise (· ≤ ·) → Q (.lst (ns'.map G.D.int)) m
/-- an expression while a dict is locked -/
theorem de_lock (a : Addr) {ks : List Key} {ds : List G.D} (hm : m a = some (.dic ks ds)) (h : ∀ od kvs, DE C W e δ (sput m a (.lk od kvs ks ds)) fun d m1 => m1 a = some (.lk od kvs ks ds) ∧ Q d (sput m1 a (.dic ks ds))) : DE C W e δ m Q := by
  intro X S fx tk σ H T le sl hh
  obtain ⟨kvs, hu, ek, hl, _⟩ := hh.dicO hm
  refine WE.of (pe_lock we) ⟨a, .dK kvs, hu, trivial, fun od => ?_⟩
  have h1 := hh.mut (u' := .frz od (.dK kvs)) (o' := .lk od kvs ks ds) hm hu fun Hi r _ => ⟨rfl, rfl, r.1, r.2⟩
  refine (h od kvs X S fx tk σ _ T le sl h1).mono fun v H2 ⟨d, m2, h2, hm2, q⟩ => ?_
  obtain ⟨hu2, _⟩ := h2.lkO hm2
  exact ⟨hu2, d, _, h2.mut (u' := .dK kvs) (o' := .dic ks ds) hm2 hu2 fun Hi r _ => ⟨r.2.2.1, r.2.2.2⟩, q⟩
end
end G

/-! The data layer: walks over dicts (the dict stands locked in the store). -/
namespace G
open PySem PySem.Spec PyProof.Rows L2
/-- J walks the data ds, while T' holds and the store has o at a -/
structure WalksG (K : PySem.W.Frag) (J : It) (ds : List D) (T' : RT) (a : Addr) (o : O) : Prop where
  go : ∀ (i : Nat) (r : Sto) (H : Hp) (m : Sto) (T : RT), i < ds.length → Le T' T → m a = some o → Hd K r H m T → J.go i H
  yld : ∀ (i : Nat) (r : Sto) (H H' : Hp) (m : Sto) (T : RT) (x : V) (d : D), ds[i]? = some d → Le T' T → m a = some o → Hd K r H m T → J.yld i H x H' → Hd K r H' m (Pl T x d)
  stop : ∀ (i : Nat) (r : Sto) (H : Hp) (m : Sto) (T : RT), ds.length ≤ i → Le T' T → m a = some o → Hd K r H m T → J.stop i H
section
variable {C : Ct} {W : DW} {δ : Sl} {m : Sto} {tg iter e : Expr} {pos pos' apos cpos : Pos}
def DIg (C : Ct) (W : DW) (tg iter : Expr) (δ : Sl) (m : Sto) (R : List D → Addr → O → Sto → Prop) : Prop :=
  ∀ (X : Cx) (S : Fr), Fits C X → Takes X (liftW C.K W S) → ∀ (σ : L2.St) (H : Hp) (T : RT), Le S.t T → SlotsIn σ δ T → Hd C.K S.r H m T → WI X tg iter σ H fun J H' => ∃ ds a o m' T', Le T T' ∧ Hd C.K S.r H' m' T' ∧ WalksG C.K J ds T' a o ∧ R ds a o m'
/-- the keys of a locked dict -/
theorem di_keys {R : List D → Addr → O → Sto → Prop} (h : DE C W e δ m fun d m1 => ∃ a od kvs ks ds, d = .ref a ∧ m1 a = some (.lk od kvs ks ds) ∧ R (ks.map kD) a (.lk od kvs ks ds) m1) : DIg C W tg e δ m R := by
  intro X S f tk σ H T le sl hh
  refine WI.of (pi_keys we) ((h X S f tk σ H T le sl hh).mono fun v H1 ⟨d, m1, h1, a, od, kvs, ks, ds, ed, hm, q⟩ => ?_)
  subst ed
  have r := h1.rep Pl.it
  cases r
  obtain ⟨hu, ek, _, _⟩ := h1.lkO hm
  subst ek
  refine ⟨a, od, rfl, .inl ⟨kvs, hu, _, a, _, m1, _, Pl.le, h1, ?_, q⟩⟩
  refine ⟨fun i r H m T' hi l hm hd => ?_, fun i r H H' m T' x d hi l hm hd y => ?_, fun i r H m T' hi l hm hd => ?_⟩
  · exact ⟨(hd.lkO hm).1, by simpa using hi⟩
  · obtain ⟨e, k, v, hk, ex⟩ := y
    subst e ex
    rw [List.map_map, List.getElem?_map, hk] at hi
    have hi2 : kD k = d := Option.some.inj hi
    subst hi2
    exact hd.pl fun _ _ => kV_rep k
  · exact ⟨(hd.lkO hm).1, by simpa using hi⟩
end
section
variable {C : Ct} {W : DW} {δ : Sl} {m : Sto} {a b c e : Expr} {es : List Expr} {pos pos' : Pos}
def LcIg (C : Ct) (W : DW) (elt tg iter : Expr) (ifs : List Expr) (scope : Scope) (own : List (Str × Nat)) (δ : Sl) (m : Sto) (Q : D → Sto → Prop) : Prop :=
  DIg C W tg iter δ m fun ds ga go m1 => ∃ I : Nat → List D → Sto → Prop, I 0 [] m1 ∧ (∀ (i : Nat) (d : D) (acc : List D) (m' : Sto), ds[i]? = some d → I i acc m' →
      DGv (C.blk scope) (own.map (·.2)) tg d (wipeS δ (own.map (·.2))) m' fun δ2 m2 => DTs (C.blk scope) W0 ifs δ2 m2 fun k m3 => br k (DE (C.blk scope) W0 elt δ2 m3 fun y m4 => acc.length < sizeLine ∧ I (i + 1) (acc ++ [y]) m4) (I (i + 1) acc m3)) ∧
      (∀ i acc m', I i acc m' → m' ga = some go) ∧ ∀ acc m', I ds.length acc m' → Q (.lst acc) m'
theorem lc_readg {elt tg iter : Expr} {ifs : List Expr} {scope : Scope} {own : List (Str × Nat)} {Q : D → Sto → Prop} (h : LcIg C W elt tg iter ifs scope own δ m Q)
    {X : Cx} {S : Fr} (f : Fits C X) (tk : Takes X (liftW C.K W S)) {σ : L2.St} {H : Hp} {T : RT} (le : Le S.t T) (sl : SlotsIn σ δ T) (hh : Hd C.K S.r H m T) {Qv : VK} (fin : ∀ p H' acc m' T', Le T T' → m' p = none → Hd C.K S.r H' (sput m' p (.lst acc)) T' → Q (.lst acc) m' → Qv (.ref p) H') :
    tLc (WI X tg iter) (rdG X scope tg) (rdT X scope ifs) (rdE X scope elt) (own.map (·.2)) σ H Qv := by
  refine WI.mono (h X S f tk σ H T le sl hh) fun J H1 ⟨ds, ga, go, m1, T1, le1, h1, wk, I, i0, istep, ig, iend⟩ Dp hD => ?_
  have hm1 := h1.free hD
  have h0 : Hd C.K S.r (upd H1 Dp (.lst [])) (sput m1 Dp (.lst [])) (Pl T1 (.ref Dp) (.ref Dp)) := h1.newM (o := .lst []) hD fun _ _ => RepL.nil
  show ∃ W : Nat → Nat → Hp → Prop, _
  refine Exists.intro (fun (i n : Nat) (H' : Hp) => n = ds.length - i ∧ i ≤ ds.length ∧ ∃ (acc : List D) (m' : Sto) (T' : RT), Le T1 T' ∧ m' Dp = none ∧ Hd C.K S.r H' (sput m' Dp (.lst acc)) T' ∧ I i acc m') (And.intro (Exists.intro ds.length ?_) ?_)
  · exact ⟨rfl, Nat.zero_le _, [], m1, _, Pl.le, hm1, h0, i0⟩
  rintro i n H' ⟨rfl, hi, acc, m', T', le', hm', hh', ih⟩
  have drop : Hd C.K S.r H' (sput m' Dp (.lst acc)) T' → Hd C.K (sun (sone Dp (.lst acc)) S.r) H' m' T' := fun z => by
    rw [← sun_one hm'] at z
    exact z.push (sdj_one hm')
  have hga := ig i acc m' ih
  have hgp : (sput m' Dp (.lst acc)) ga = some go := by
    rw [sput_ne fun e => by rw [e, hm'] at hga; cases hga]
    exact hga
  by_cases hlt : i < ds.length
  · refine .inr ⟨wk.go i S.r H' _ T' hlt le' hgp hh', fun H2 => i + 1 ≤ ds.length ∧ ∃ acc m' T', Le T1 T' ∧ m' Dp = none ∧ Hd C.K S.r H2 (sput m' Dp (.lst acc)) T' ∧ I (i + 1) acc m', fun H2 ⟨u, v⟩ => ⟨ds.length - (i + 1), by omega, rfl, u, v⟩, fun x H2 y => ?_⟩
    have hd := List.getElem?_eq_getElem hlt
    have h2 := drop hh'
    have h2 : Hd C.K (sun (sone Dp (.lst acc)) S.r) H2 m' (Pl T' x _) := wk.yld i _ H' H2 m' T' x _ hd le' hga h2 y
    have dj1 : sdj (sone Dp (.lst acc)) S.r := fun b u eb => by
      unfold sone at eb
      split at eb
      · rename_i e
        subst e
        exact hh'.1 b _ sput_same
      · cases eb
    have slw := (sl.le (le1.trans le')).wipe (own.map (·.2))
    have st := istep i _ acc m' hd ih
    have leS : Le S.t (Pl T' x ds[i]) := le.trans (le1.trans (le'.trans Pl.le))
    -- behind the element, or behind the test alone
    intro s H0 cc cl fp
    have fb : Fits (C.blk scope) (X.blk s H0 scope (compEnvC scope cl cc X.env) fp) := f.blk
    refine WG.mono (st (X.blk s H0 scope (compEnvC scope cl cc X.env) fp) ⟨S.t, sun (sone Dp (.lst acc)) S.r⟩ fb x (wipe σ (own.map (·.2))) H2 _ leS (slw.le Pl.le) Pl.it h2) ?_
    rintro σ3 H3 ⟨w3, δ3, m3, T3, le3, sl3, h3, q3⟩
    refine ⟨w3.trans wipe_idem, ?_⟩
    intro s' H0' cc' cl' fp'
    have fb' : Fits (C.blk scope) (X.blk s' H0' scope (compEnvC scope cl' cc' X.env) fp') := f.blk
    refine WTs.mono (q3 (X.blk s' H0' scope (compEnvC scope cl' cc' X.env) fp') ⟨S.t, sun (sone Dp (.lst acc)) S.r⟩ fb' takes_W0 σ3 H3 T3 (leS.trans le3) sl3 h3) fun k H4 ⟨m4, h4, q4⟩ => ?_
    cases k with
    | true =>
      rw [if_pos rfl]
      intro s'' H0'' cc'' cl'' fp''
      have fb'' : Fits (C.blk scope) (X.blk s'' H0'' scope (compEnvC scope cl'' cc'' X.env) fp'') := f.blk
      refine (q4.1 rfl (X.blk s'' H0'' scope (compEnvC scope cl'' cc'' X.env) fp'') ⟨S.t, sun (sone Dp (.lst acc)) S.r⟩ fb'' takes_W0 σ3 H4 T3 (leS.trans le3) sl3 h4).mono fun yv H5 ⟨y, m5, h5, hz, q5⟩ => ?_
      obtain ⟨dj5, h6⟩ := Hd.pop h5 dj1
      have hm5 : m5 Dp = none := dj5.sym Dp _ (if_pos rfl)
      rw [sun_one hm5] at h6
      obtain ⟨xs, hx, hl, _⟩ := h6.itemsO sput_same
      refine ⟨xs, hx, by rw [hl]; exact hz, hlt, acc ++ [y], m5, Pl T3 yv y, le'.trans (Pl.le.trans (le3.trans Pl.le)), hm5, ?_, q5⟩
      have h7 := h6.mut (u' := .lst (xs ++ [yv])) (o' := .lst (acc ++ [y])) sput_same hx fun Hi r kk => RepL.snoc r (kk yv y Pl.it)
      rw [sput_sput] at h7
      exact h7
    | false =>
      rw [if_neg Bool.false_ne_true]
      obtain ⟨dj4, h6⟩ := Hd.pop h4 dj1
      have hm4 : m4 Dp = none := dj4.sym Dp _ (if_pos rfl)
      rw [sun_one hm4] at h6
      exact ⟨hlt, acc, m4, T3, le'.trans (Pl.le.trans le3), hm4, h6, q4.2 rfl⟩
  · have ei : i = ds.length := by omega
    subst ei
    exact .inl ⟨wk.stop _ S.r H' _ T' (Nat.le_refl _) le' hgp hh', fin _ _ _ _ _ (le1.trans le') hm' hh' (iend acc m' ih)⟩
/-- [elt for tg in iter if ..] -/
theorem de_lcg {elt tg iter : Expr} {ifs : List Expr} {scope : Scope} (own : List (Str × Nat)) {Q : D → Sto → Prop} (ok : blkC C.N C.sc scope own = true)
    (h : LcIg C W elt tg iter ifs scope own δ m Q) (hs : ∀ env x, foldedSetIterable iter env x = pure x := by intro _ _; rfl) (hcm : C.cm = true := by rfl) : DE C W (.ListComp elt [⟨tg, iter, ifs, 0⟩] scope pos) δ m Q := by
  intro X S f tk σ H T le sl hh
  have okB : BlkOk X.N X.env.scope scope own := by rw [f.N, f.sc]; exact blkOk_by ok
  exact WE.of (pe_lc (te := rdE X scope elt) (tt := rdT X scope ifs) (g := rdG X scope tg) (f.calm hcm) f.nd wi okB (fun s H c cl fp => ⟨fun pins t σ H v u Q I r q => q s _ c cl fp pins t u I r⟩) (fun s H c cl fp => ⟨fun pins t σ H Q I q => q s _ c cl fp pins t I⟩) (fun s H c cl fp => ⟨fun pins t σ H Q I q => q s _ c cl fp pins t I⟩) (hs _))
    (lc_readg h f tk le sl hh fun p H' acc m' T' l hm hd q => ⟨.lst acc, m', lc_frozen l hm hd, q⟩)
end
section
variable {C : Ct} {W : DW} {δ : Sl} {m : Sto} {tg iter : Expr} {pos : Pos} {D : DEn}
/-- for: I holds behind i turns -/
theorem ds_forg {body : List Stmt} (h : DIg C W tg iter δ m fun ds ga go m1 => ∃ I : Nat → Sl → Sto → Prop, I 0 δ m1 ∧ (∀ (i : Nat) (d : G.D) (δ' : Sl) (m' : Sto), ds[i]? = some d → I i δ' m' → DG C W tg d δ' m' fun δ2 m2 => DSs C W body δ2 m2 { D with nx := I (i + 1), ct := I (i + 1), bk := D.nx }) ∧ (∀ i δ' m', I i δ' m' → m' ga = some go) ∧ ∀ δ' m', I ds.length δ' m' → D.nx δ' m')
    (hs : ∀ env x, foldedSetIterable iter env x = pure x := by intro _ _; rfl) (hcm : C.cm = true := by rfl) : DS C W (.For tg iter body [] pos) δ m D := by
  intro X S f tk σ H T le sl hh
  refine WS.of (ps_for f.own (f.calm hcm) wi wg wss (hs _)) ((h X S f tk σ H T le sl hh).mono fun J H1 ⟨ds, ga, go, m1, T1, le1, h1, wk, I, h0, hstep, hg, hend⟩ => ?_)
  refine ⟨fun i n σ' H' => n = ds.length - i ∧ i ≤ ds.length ∧ ∃ δ' m' T', Le T1 T' ∧ SlotsIn σ' δ' T' ∧ Hd C.K S.r H' m' T' ∧ I i δ' m', ⟨ds.length, by simp, Nat.zero_le _, δ, m1, T1, Le.refl _, sl.le le1, h1, h0⟩, ?_⟩
  rintro i n σ' H' ⟨rfl, hi, δ', m', T', le', sl', hh', ih⟩
  by_cases hlt : i < ds.length
  · refine .inr ⟨wk.go i S.r H' m' T' hlt le' (hg i _ _ ih) hh', fun σ2 H2 => i + 1 ≤ ds.length ∧ ∃ δ' m' T', Le T1 T' ∧ SlotsIn σ2 δ' T' ∧ Hd C.K S.r H2 m' T' ∧ I (i + 1) δ' m', fun σ2 H2 ⟨a, b⟩ => ⟨ds.length - (i + 1), by omega, rfl, a, b⟩, fun x H2 y => ?_⟩
    have hd := List.getElem?_eq_getElem hlt
    have h2 := wk.yld i S.r H' H2 m' T' x _ hd le' (hg i _ _ ih) hh' y
    refine (hstep i _ δ' m' hd ih X S f tk x σ' H2 _ (le.trans (le1.trans (le'.trans Pl.le))) (sl'.le Pl.le) Pl.it h2).mono fun σ3 H3 ⟨δ3, m3, T3, le3, sl3, h3, q3⟩ => ?_
    -- the body keeps what holds: S is taken as wide as T1
    have tk1 : Takes X (liftW C.K W S) := tk
    refine (q3 X ⟨T1, S.r⟩ f ?_ σ3 H3 T3 (le'.trans (Pl.le.trans le3)) sl3 h3).mono (fun σ4 H4 ⟨δ4, m4, T4, le4, sl4, h4, q4⟩ => ⟨hlt, δ4, m4, T4, le4, sl4, h4, q4⟩) (fun v4 H4 ⟨d4, m4, h4, q4⟩ => ⟨d4, m4, h4.le (Pl.mono (le.trans le1)), q4⟩) (fun σ4 H4 ⟨δ4, m4, T4, le4, sl4, h4, q4⟩ => ⟨δ4, m4, T4, (le.trans le1).trans le4, sl4, h4, q4⟩) (fun σ4 H4 ⟨δ4, m4, T4, le4, sl4, h4, q4⟩ => ⟨hlt, δ4, m4, T4, le4, sl4, h4, q4⟩)
    exact tk.imp fun c d σ5 H5 ⟨δ5, m5, T5, fs, le5, r5⟩ => ⟨δ5, m5, T5, fs, (le.trans le1).trans le5, r5⟩
  · have e : i = ds.length := by omega
    subst e
    exact .inl ⟨wk.stop _ S.r H' m' T' (Nat.le_refl _) le' (hg _ _ _ ih) hh', lift_nx (le.trans (le1.trans le')) sl' hh' (hend _ _ ih)⟩
end
end G

/-! The data layer: dicts that are data (locked for good), dicts written, dict comprehensions. -/
namespace G
open PySem PySem.Spec PyProof.Rows L2
/-- a dict that is data, or one of the store -/
def DicV (m : Sto) (d : D) (ks : List Key) (ds : List D) : Prop := (∃ a, d = .ref a ∧ DicAt m a ks ds) ∨ d = .dic ks ds
section
variable {K : PySem.W.Frag} {r : Sto} {H : Hp} {m : Sto} {T : RT} {a : Addr} {ks : List Key} {ds : List D}
theorem Hd.dicV {v : V} {d : D} (h : Hd K r H m T) (tv : T v d) (t : DicV m d ks ds) : ∃ a kvs, v = .ref a ∧ Rd H a (.dK kvs) ∧ kvs.map (·.1) = ks ∧ (kvs.map (·.2)).length = ds.length ∧ Hd K r H m (PlL T (kvs.map (·.2)) ds) := by
  rcases t with ⟨a, rfl, t⟩ | rfl
  · have rr := h.rep tv
    cases rr
    obtain ⟨kvs, q⟩ := h.dicR t
    exact ⟨a, kvs, rfl, q⟩
  · obtain ⟨h0, Hi, h1, h2, h3⟩ := h
    have rr := h3 _ _ tv
    cases rr with
    | dic e1 e2 e3 => exact ⟨_, _, rfl, .inr ⟨_, h1 _ _ e1⟩, e2, e3.length, h0, Hi, h1, h2, fun v d x => x.elim (h3 v d) fun hm => RepL.mem_zip e3 hm⟩
theorem Hd.dgetV {v u : V} {d : D} {k : Key} (h : Hd K r H m T) (tv : T v d) (t : DicV m d ks ds) (tu : T u (kD k)) : ∃ a, v = .ref a ∧ (∃ kvs, Rd H a (.dK kvs)) ∧ (valD ks ds k = none → DGet H a u none) ∧ ∀ z, valD ks ds k = some z → ∃ y, DGet H a u (some y) ∧ Hd K r H m (Pl T y z) := by
  obtain ⟨a, kvs, ev, hr, e, hl, h2⟩ := h.dicV tv t
  subst e
  have ek := kV_of (h.rep tu)
  subst ek
  obtain ⟨z1, z2⟩ := val_rep (RepL.of_zip hl fun v d z => h2.rep (.inr z)) (k := k)
  refine ⟨a, ev, ⟨kvs, hr⟩, fun e => .inl ⟨kvs, k, hr, rfl, (z1 e).symm⟩, fun d e => ?_⟩
  obtain ⟨u, e1, e2⟩ := z2 e
  exact ⟨u, .inl ⟨kvs, k, hr, rfl, e1.symm⟩, h2.le fun x y t => by
    rcases t with t | ⟨rfl, rfl⟩
    · exact .inl t
    · exact .inr e2⟩
/-- a dict of the store becomes data: H is the heap ahead, the lock is laid for good -/
theorem Hd.frzD (h : Hd K r H m T) (t : m a = some (.dic ks ds)) : ∃ kvs, H a = some (.dK kvs) ∧ ∀ ob, Hd K r (upd H a (.frz ob (.dK kvs))) (sdel m a) (Pl T (.ref a) (.dic ks ds)) := by
  have t' := t
  obtain ⟨h0, Hi, h1, h2, h3⟩ := h
  obtain ⟨q0, u, q, rr⟩ := h2 _ _ (sun_l t)
  cases u with
  | dK kvs =>
    obtain ⟨e1, e2⟩ := rr
    refine ⟨kvs, q, fun ob => ⟨fun b x e => ?_, upd Hi a (.frz ob (.dK kvs)), fun b o e => ?_, fun b o e => ?_, fun x y q => ?_⟩⟩
    · by_cases hb : b = a
      · subst hb; unfold sdel at e; rw [if_pos rfl] at e; cases e
      · rw [sdel_ne hb] at e; exact h0 b x e
    · by_cases hb : b = a
      · subst hb; rw [upd_same] at e ⊢; exact e
      · rw [upd_ne hb] at e ⊢; exact h1 _ _ e
    · rw [sun_del (h0 a _ t)] at e
      by_cases hb : b = a
      · subst hb; unfold sdel at e; rw [if_pos rfl] at e; cases e
      · rw [sdel_ne hb] at e
        obtain ⟨p1, u1, p2, p3⟩ := h2 b o e
        exact ⟨by rw [upd_ne hb]; exact p1, u1, by rw [upd_ne hb]; exact p2, p3.mono (same_upd q0)⟩
    · rcases q with q | ⟨rfl, rfl⟩
      · exact Rep.mono (same_upd q0) (h3 x y q)
      · exact .dic upd_same e1 (RepL.mono (same_upd q0) e2)
  | _ => exact False.elim rr
theorem Rep.ref_eq {v : V} {a : Addr} (h : Rep K H v (.ref a)) : v = .ref a := by cases h; rfl
theorem RepL.set_at : ∀ {vs : List V} {es : List D} {i : Nat} {a : Addr} {d : D}, RepL K H vs es → es[i]? = some (.ref a) → Rep K H (.ref a) d → RepL K H vs (es.set i d)
  | _, _, _, _, _, .nil, e, _ => by simp at e
  | _, _, 0, a, d, .cons r1 r2, e, rr => by
    simp only [List.getElem?_cons_zero, Option.some.injEq] at e
    subst e
    have := r1.ref_eq
    subst this
    exact .cons rr r2
  | _, _, i + 1, a, d, .cons r1 r2, e, rr => .cons r1 (RepL.set_at r2 (by simpa using e) rr)
/-- what stands in a dict of the store is told anew -/
theorem Hd.tellD {b : Addr} {i : Nat} {d : D} (h : Hd K r H m T) (t : m b = some (.dic ks ds)) (hi : ds[i]? = some (.ref a)) (td : T (.ref a) d) : Hd K r H (sput m b (.dic ks (ds.set i d))) T := by
  obtain ⟨kvs, hu, ek, hl, _⟩ := h.dicO t
  have e : upd H b (.dK kvs) = H := by
    funext x
    unfold upd
    split
    · rename_i z; subst z; exact hu.symm
    · rfl
  have q := h.mut (u' := .dK kvs) (o' := .dic ks (ds.set i d)) t hu fun Hi rr k => ⟨rr.1, RepL.set_at rr.2 hi (k _ _ td)⟩
  rw [e] at q
  exact q
end
/-! ### the lists of a dict written -/
def hasK (ks : List Key) (k : Key) : Bool := ks.any fun j => decide (j = k)
def putKs (ks : List Key) (k : Key) : List Key := if hasK ks k = true then ks else ks ++ [k]
def repK : List Key → List D → Key → D → List D
  | j :: ks, d :: ds, k, v => (if j = k then v else d) :: repK ks ds k v
  | _, _, _, _ => []
def putDs (ks : List Key) (ds : List D) (k : Key) (v : D) : List D := if hasK ks k = true then repK ks ds k v else ds ++ [v]
def dropKs (ks : List Key) (k : Key) : List Key := ks.filter fun j => decide (j ≠ k)
def dropDs : List Key → List D → Key → List D
  | j :: ks, d :: ds, k => if j = k then dropDs ks ds k else d :: dropDs ks ds k
  | _, _, _ => []
section
variable {K : PySem.W.Frag} {H : Hp}
theorem hasK_map (kvs : List (Key × V)) (k : Key) : (kvs.any fun kv => decide (kv.1 = k)) = hasK (kvs.map (·.1)) k := by
  unfold hasK
  rw [List.any_map]
  rfl
theorem repK_rep {k : Key} {v : V} {d : D} (rv : Rep K H v d) : ∀ {kvs : List (Key × V)} {ds : List D}, RepL K H (kvs.map (·.2)) ds → RepL K H ((kvs.map fun kv => if kv.1 = k then (kv.1, v) else kv).map (·.2)) (repK (kvs.map (·.1)) ds k d)
  | [], [], _ => .nil
  | [], _ :: _, r => by cases r
  | _ :: _, [], r => by cases r
  | (j, u) :: kvs, e :: ds, .cons r1 r2 => by
    show RepL K H ((if j = k then (j, v) else (j, u)).2 :: _) ((if j = k then d else e) :: repK (kvs.map (·.1)) ds k d)
    refine .cons ?_ (repK_rep rv r2)
    by_cases hj : j = k
    · rw [if_pos hj, if_pos hj]; exact rv
    · rw [if_neg hj, if_neg hj]; exact r1
theorem put_rep {k : Key} {v : V} {d : D} (rv : Rep K H v d) {kvs : List (Key × V)} {ds : List D} (r : RepL K H (kvs.map (·.2)) ds) : (putK kvs k v).map (·.1) = putKs (kvs.map (·.1)) k ∧ RepL K H ((putK kvs k v).map (·.2)) (putDs (kvs.map (·.1)) ds k d) := by
  unfold putK putKs putDs
  rw [hasK_map]
  split
  · refine ⟨?_, repK_rep rv r⟩
    rw [List.map_map]
    refine List.map_congr_left fun kv _ => ?_
    show (if kv.1 = k then (kv.1, v) else kv).1 = kv.1
    split <;> rfl
  · rw [List.map_append, List.map_append]
    exact ⟨rfl, r.append (.cons rv .nil)⟩
theorem drop_rep {k : Key} : ∀ {kvs : List (Key × V)} {ds : List D}, RepL K H (kvs.map (·.2)) ds → (dropK kvs k).map (·.1) = dropKs (kvs.map (·.1)) k ∧ RepL K H ((dropK kvs k).map (·.2)) (dropDs (kvs.map (·.1)) ds k)
  | [], [], _ => ⟨rfl, .nil⟩
  | [], _ :: _, r => by cases r
  | _ :: _, [], r => by cases r
  | (j, u) :: kvs, e :: ds, .cons r1 r2 => by
    obtain ⟨h1, h2⟩ := drop_rep (k := k) r2
    unfold dropK dropKs at h1 ⊢
    unfold dropK at h2
    show _ ∧ RepL K H _ (if j = k then dropDs (kvs.map (·.1)) ds k else e :: dropDs (kvs.map (·.1)) ds k)
    by_cases hj : j = k
    · rw [if_pos hj, List.filter_cons_of_neg (by simp [hj]), List.map_cons, List.filter_cons_of_neg (by simp [hj])]
      exact ⟨h1, h2⟩
    · rw [if_neg hj, List.filter_cons_of_pos (by simp [hj]), List.map_cons, List.map_cons, List.filter_cons_of_pos (by simp [hj]), List.map_cons]
      exact ⟨by rw [h1], .cons r1 h2⟩
end
section
variable {C : Ct} {W : DW} {δ : Sl} {m : Sto} {b c e o i f : Expr} {es : List Expr} {pos pos' apos cpos : Pos} {Q : D → Sto → Prop} {D : DEn}
/-- d[k] -/
theorem de_dgetV (h : DE C W o δ m fun d m1 => DE C W i δ m1 fun y m2 => ∃ ks ds k v, y = kD k ∧ DicV m2 d ks ds ∧ valD ks ds k = some v ∧ Q v m2) (hs : NoSl i := by intro _ _; rfl) : DE C W (.Subscript o i pos) δ m Q := by
  intro X S fx tk σ H T le sl hh
  refine WE.of (pe_dget (units1 fx) we we hs) ((h X S fx tk σ H T le sl hh).mono fun v H1 ⟨d, m1, h1, q⟩ => ?_)
  refine (q X S fx tk σ H1 _ (le.trans Pl.le) (sl.le Pl.le) h1).mono fun u H2 ⟨y, m2, h2, ks, ds, k, z, ey, hm, hv, q2⟩ => ?_
  subst ey
  obtain ⟨a, ev, _, _, g2⟩ := h2.dgetV (v := v) (u := u) (.inl Pl.it) hm Pl.it
  obtain ⟨w, g, h3⟩ := g2 z hv
  exact ⟨a, w, ev, g, z, m2, h3.le (Pl.mono (Pl.le.trans Pl.le)), q2⟩
/-- d.get(k, x) -/
theorem de_dget2V (h : DE C W o δ m fun d m1 => (∃ ks0 ds0, DicV m1 d ks0 ds0) ∧ DE C W e δ m1 fun y m2 => DE C W f δ m2 fun x m3 => ∃ ks ds k, y = kD k ∧ DicV m3 d ks ds ∧ Q ((valD ks ds k).getD x) m3)
    (hm : ∀ X : Cx, M2 X o "get" apos e f cpos := by intro _; exact ⟨rfl, rfl, rfl, rfl⟩) : DE C W (.Call (.Attribute o "get" apos) [e, f] [] cpos) δ m Q := by
  intro X S fx tk σ H T le sl hh
  refine WE.of (pe_dget2 (units1 fx) we we we (hm X)) ((h X S fx tk σ H T le sl hh).mono fun v H1 ⟨d, m1, h1, ⟨ks0, ds0, hm0⟩, q⟩ => ?_)
  obtain ⟨a, kvs0, ev, hr0, _⟩ := h1.dicV Pl.it hm0
  refine ⟨a, ev, .inl ⟨kvs0, hr0⟩, (q X S fx tk σ H1 _ (le.trans Pl.le) (sl.le Pl.le) h1).mono fun u H2 ⟨y, m2, h2, q2⟩ => ?_⟩
  refine (q2 X S fx tk σ H2 _ (le.trans (Pl.le.trans Pl.le)) (sl.le (Pl.le.trans Pl.le)) h2).mono fun w H3 ⟨x, m3, h3, ks, ds, k, ey, hm3, q3⟩ => ?_
  subst ey
  obtain ⟨a', ev', _, g1, g2⟩ := h3.dgetV (v := v) (u := u) (.inl (.inl Pl.it)) hm3 (.inl Pl.it)
  rw [ev] at ev'
  cases ev'
  cases hv : valD ks ds k with
  | none =>
    rw [hv] at q3
    exact ⟨none, g1 hv, x, m3, h3.le (Pl.mono (Pl.le.trans Pl.le)), q3⟩
  | some z =>
    rw [hv] at q3
    obtain ⟨w2, g, h4⟩ := g2 z hv
    exact ⟨some w2, g, z, m3, h4.le (Pl.mono (Pl.le.trans (Pl.le.trans Pl.le))), q3⟩
/-- k in d, k not in d -/
theorem de_dinV (h : DE C W i δ m fun y m1 => DE C W o δ m1 fun d m2 => ∃ ks ds k, y = kD k ∧ DicV m2 d ks ds ∧ Q (.bl (valD ks ds k).isSome) m2) (hb : behindInMarks .In o = false := by with_unfolding_all rfl) : DE C W (.Compare i [.In] [o] pos) δ m Q := by
  intro X S fx tk σ H T le sl hh
  refine WE.of (L2.pe_cmp (pc_din (units1 fx) we we) hb) ((h X S fx tk σ H T le sl hh).mono fun u H1 ⟨y, m1, h1, q⟩ => ?_)
  refine (q X S fx tk σ H1 _ (le.trans Pl.le) (sl.le Pl.le) h1).mono fun v H2 ⟨d, m2, h2, ks, ds, k, ey, hm, q2⟩ => ?_
  subst ey
  obtain ⟨a, ev, _, g1, g2⟩ := h2.dgetV (v := v) (u := u) Pl.it hm (.inl Pl.it)
  cases hv : valD ks ds k with
  | none =>
    rw [hv] at q2
    exact ⟨a, none, ev, g1 hv, dK.le (dk_bl h2 q2) (Pl.le.trans Pl.le)⟩
  | some z =>
    rw [hv] at q2
    obtain ⟨w2, g, _⟩ := g2 z hv
    exact ⟨a, some w2, ev, g, dK.le (dk_bl h2 q2) (Pl.le.trans Pl.le)⟩
theorem de_dnotinV (h : DE C W i δ m fun y m1 => DE C W o δ m1 fun d m2 => ∃ ks ds k, y = kD k ∧ DicV m2 d ks ds ∧ Q (.bl (!(valD ks ds k).isSome)) m2) (hb : behindInMarks .NotIn o = false := by with_unfolding_all rfl) : DE C W (.Compare i [.NotIn] [o] pos) δ m Q := by
  intro X S fx tk σ H T le sl hh
  refine WE.of (L2.pe_cmp (pc_dnotin (units1 fx) we we) hb) ((h X S fx tk σ H T le sl hh).mono fun u H1 ⟨y, m1, h1, q⟩ => ?_)
  refine (q X S fx tk σ H1 _ (le.trans Pl.le) (sl.le Pl.le) h1).mono fun v H2 ⟨d, m2, h2, ks, ds, k, ey, hm, q2⟩ => ?_
  subst ey
  obtain ⟨a, ev, _, g1, g2⟩ := h2.dgetV (v := v) (u := u) Pl.it hm (.inl Pl.it)
  cases hv : valD ks ds k with
  | none =>
    rw [hv] at q2
    exact ⟨a, none, ev, g1 hv, dK.le (dk_bl h2 q2) (Pl.le.trans Pl.le)⟩
  | some z =>
    rw [hv] at q2
    obtain ⟨w2, g, _⟩ := g2 z hv
    exact ⟨a, some w2, ev, g, dK.le (dk_bl h2 q2) (Pl.le.trans Pl.le)⟩
theorem dt_dinV {Q : Bool → Sto → Prop} (h : DE C W i δ m fun y m1 => DE C W o δ m1 fun d m2 => ∃ ks ds k, y = kD k ∧ DicV m2 d ks ds ∧ Q ((valD ks ds k).isSome) m2) (hb : behindInMarks .In o = false := by with_unfolding_all rfl) : DT C W (.Compare i [.In] [o] pos) δ m Q := by
  intro X S fx tk σ H T le sl hh
  refine WT.of (L2.pt_cmp (pc_din (units1 fx) we we) hb) ((h X S fx tk σ H T le sl hh).mono fun u H1 ⟨y, m1, h1, q⟩ => ?_)
  refine (q X S fx tk σ H1 _ (le.trans Pl.le) (sl.le Pl.le) h1).mono fun v H2 ⟨d, m2, h2, ks, ds, k, ey, hm, q2⟩ => ?_
  subst ey
  obtain ⟨a, ev, _, g1, g2⟩ := h2.dgetV (v := v) (u := u) Pl.it hm (.inl Pl.it)
  cases hv : valD ks ds k with
  | none =>
    rw [hv] at q2
    exact ⟨a, none, ev, g1 hv, _, rfl, m2, h2.le (Pl.le.trans Pl.le), q2⟩
  | some z =>
    rw [hv] at q2
    obtain ⟨w2, g, _⟩ := g2 z hv
    exact ⟨a, some w2, ev, g, _, rfl, m2, h2.le (Pl.le.trans Pl.le), q2⟩
theorem dt_dnotinV {Q : Bool → Sto → Prop} (h : DE C W i δ m fun y m1 => DE C W o δ m1 fun d m2 => ∃ ks ds k, y = kD k ∧ DicV m2 d ks ds ∧ Q (!(valD ks ds k).isSome) m2) (hb : behindInMarks .NotIn o = false := by with_unfolding_all rfl) : DT C W (.Compare i [.NotIn] [o] pos) δ m Q := by
  intro X S fx tk σ H T le sl hh
  refine WT.of (L2.pt_cmp (pc_dnotin (units1 fx) we we) hb) ((h X S fx tk σ H T le sl hh).mono fun u H1 ⟨y, m1, h1, q⟩ => ?_)
  refine (q X S fx tk σ H1 _ (le.trans Pl.le) (sl.le Pl.le) h1).mono fun v H2 ⟨d, m2, h2, ks, ds, k, ey, hm, q2⟩ => ?_
  subst ey
  obtain ⟨a, ev, _, g1, g2⟩ := h2.dgetV (v := v) (u := u) Pl.it hm (.inl Pl.it)
  cases hv : valD ks ds k with
  | none =>
    rw [hv] at q2
    exact ⟨a, none, ev, g1 hv, _, rfl, m2, h2.le (Pl.le.trans Pl.le), q2⟩
  | some z =>
    rw [hv] at q2
    obtain ⟨w2, g, _⟩ := g2 z hv
    exact ⟨a, some w2, ev, g, _, rfl, m2, h2.le (Pl.le.trans Pl.le), q2⟩
/-- list(d), dict(d) -/
def listKV : RLD := fun ds m Q => ∃ d ks es, ds = [d] ∧ DicV m d ks es ∧ Q (.lst (ks.map kD)) m
theorem cd_listKV (hcm : C.cm = true := by rfl) : CallD C (.type "list") listKV := by
  rintro X fx fr H m T vs ds Q hl hh ⟨d, ks, es, rfl, hm, q⟩
  obtain ⟨v, rfl⟩ := one_of hl
  obtain ⟨a, kvs, rfl, hr, e, _, h2⟩ := hh.dicV (PlL.at (i := 0) (v := v) (d := d) rfl rfl) hm
  subst e
  refine wc_of (call_listD (fx.calm hcm)) ⟨a, kvs, rfl, hr, fun p hp => dK.le (dk_lst hh hp (fun Hi k => ?_) q) PlL.le⟩
  have : ∀ kvs : List (Key × V), RepL C.K Hi (kvs.map fun kv => kV kv.1) ((kvs.map (·.1)).map kD) := fun kvs => by
    induction kvs with
    | nil => exact .nil
    | cons p l ih => exact .cons (kV_rep p.1) ih
  exact this kvs
def dictCV : RLD := fun ds m Q => ∃ d ks es, ds = [d] ∧ DicV m d ks es ∧ ∀ p, m p = none → Q (.ref p) (sput m p (.dic ks es))
theorem cd_dictCV : CallD C (.type "dict") dictCV := by
  rintro X fx fr H m T vs ds Q hl hh ⟨d, ks, es, rfl, hm, q⟩
  obtain ⟨v, rfl⟩ := one_of hl
  obtain ⟨a, kvs, rfl, hr, e, hz, h2⟩ := hh.dicV (PlL.at (i := 0) (v := v) (d := d) rfl rfl) hm
  subst e
  refine wc_of call_dictD ⟨a, kvs, rfl, hr, fun p hp => ⟨.ref p, _, (h2.newM (u := .dK kvs) (o := .dic (kvs.map (·.1)) es) hp fun Hi k => ⟨rfl, RepL.of_zip hz fun v d z => k v d (.inr z)⟩).le (Pl.mono (PlL.le.trans PlL.le)), q p (hh.free hp)⟩⟩
def lenDV : RLD := fun ds m Q => ∃ d ks es, ds = [d] ∧ DicV m d ks es ∧ Q (.int ks.length) m
/-- d[k] = v -/
theorem set_dictK {X : Cx} (hu : X.A.units + 1 < cLine) : PSet X (fun o i v H Q => ∃ a H', o = .ref a ∧ DPut H a i v H' ∧ Q H') := by
  rintro pins s σ H x y v ov iv u Q I r1 r2 r3 ⟨a, H', rfl, g, q⟩
  obtain rfl : ov = Value.ref a := r1
  exact d_setItem hu I g r2 r3 fun s3 I3 => ⟨H', I3, q⟩
theorem Hd.dput {K : PySem.W.Frag} {r : Sto} {H : Hp} {T : RT} {a : Addr} {ks : List Key} {ds : List G.D} {u v : V} {k : Key} {d : G.D} (h : Hd K r H m T) (t : m a = some (.dic ks ds)) (tu : T u (kD k)) (tv : T v d) (hz : ks.length < sizeLine) :
    ∃ H', DPut H a u v H' ∧ Hd K r H' (sput m a (.dic (putKs ks k) (putDs ks ds k d))) T := by
  obtain ⟨kvs, hu, ek, hl, _⟩ := h.dicO t
  have e1 := kV_of (h.rep tu)
  subst e1 ek
  refine ⟨_, .inl ⟨kvs, k, hu, rfl, by simpa using hz, rfl⟩, h.mut t hu fun Hi rr kk => ?_⟩
  obtain ⟨g1, g2⟩ := put_rep (k := k) (kk _ _ tv) rr.2
  exact ⟨g1, g2⟩
theorem ds_dput {o i : Expr} (h : DE C W e δ m fun d m1 => DE C W o δ m1 fun x m2 => DE C W i δ m2 fun y m3 => ∃ a ks ds k, x = .ref a ∧ y = kD k ∧ m3 a = some (.dic ks ds) ∧ ks.length < sizeLine ∧ D.nx δ (sput m3 a (.dic (putKs ks k) (putDs ks ds k d))))
    (hs : ∀ env, swapsWithSole [.Subscript o i pos'] e pos.line env = pure false := by intro _; rfl) (hw : ∀ env, swappedStores [.Subscript o i pos'] e env = pure none := by intro _; rfl)
    (h1 : ∀ env, (assignEach [.Subscript o i pos'] env).map (·.2) = [assign (.Subscript o i pos') env] := by intro _; rfl)
    (ha : ∀ env v, assign (.Subscript o i pos') env v = (do
      let ov ← holding [v] (eval o env)
      let iv ← holding [v, ov] (eval i env)
      standAt pos'
      holding [v, ov, iv] (setItem ov iv v)
      release [v, ov, iv] []) := by intro _ _; rfl) : DS C W (.Assign [.Subscript o i pos'] e pos) δ m D := by
  intro X S f tk σ H T le sl hh
  refine WS.of (ps_asg we (pg_sub we we (set_dictK (units1 f)) (ha _)) (hs _) (hw _) (h1 _)) ((h X S f tk σ H T le sl hh).mono fun v H1 ⟨d, m1, h1, q⟩ => ?_)
  refine (q X S f tk σ H1 _ (le.trans Pl.le) (sl.le Pl.le) h1).mono fun u H2 ⟨x, m2, h2, q2⟩ => ?_
  refine (q2 X S f tk σ H2 _ (le.trans (Pl.le.trans Pl.le)) (sl.le (Pl.le.trans Pl.le)) h2).mono fun w H3 ⟨y, m3, h3, a, ks, ds, k, ex, ey, hm, hz, q3⟩ => ?_
  subst ex ey
  have rx := h3.rep (.inl Pl.it : Pl (Pl (Pl T v d) u (.ref a)) w (kD k) u (.ref a))
  cases rx
  obtain ⟨H4, g, h4⟩ := h3.dput (u := w) (v := v) hm Pl.it (.inl (.inl Pl.it)) hz
  exact ⟨a, H4, rfl, g, lift_nx (le.trans (Pl.le.trans (Pl.le.trans Pl.le))) (sl.le (Pl.le.trans (Pl.le.trans Pl.le))) h4 q3⟩
/-- d[k]: t = v -/
theorem ds_dputA {o i ann : Expr} {simple : Int} (h : DE C W e δ m fun d m1 => DE C W o δ m1 fun x m2 => DE C W i δ m2 fun y m3 => ∃ a ks ds k, x = .ref a ∧ y = kD k ∧ m3 a = some (.dic ks ds) ∧ ks.length < sizeLine ∧ D.nx δ (sput m3 a (.dic (putKs ks k) (putDs ks ds k d))))
    (hs : ∀ env, swapsWith e (some (.Subscript o i pos')) pos.line env = pure false := by intro _; rfl)
    (ha : ∀ env v, assign (.Subscript o i pos') env v = (do
      let ov ← holding [v] (eval o env)
      let iv ← holding [v, ov] (eval i env)
      standAt pos'
      holding [v, ov, iv] (setItem ov iv v)
      release [v, ov, iv] []) := by intro _ _; rfl) : DS C W (.AnnAssign (.Subscript o i pos') ann (some e) simple pos) δ m D := by
  intro X S f tk σ H T le sl hh
  refine WS.of (ps_ann we (pg_sub we we (set_dictK (units1 f)) (ha _)) (hs _)) ((h X S f tk σ H T le sl hh).mono fun v H1 ⟨d, m1, h1, q⟩ => ?_)
  refine (q X S f tk σ H1 _ (le.trans Pl.le) (sl.le Pl.le) h1).mono fun u H2 ⟨x, m2, h2, q2⟩ => ?_
  refine (q2 X S f tk σ H2 _ (le.trans (Pl.le.trans Pl.le)) (sl.le (Pl.le.trans Pl.le)) h2).mono fun w H3 ⟨y, m3, h3, a, ks, ds, k, ex, ey, hm, hz, q3⟩ => ?_
  subst ex ey
  have rx := h3.rep (.inl Pl.it : Pl (Pl (Pl T v d) u (.ref a)) w (kD k) u (.ref a))
  cases rx
  obtain ⟨H4, g, h4⟩ := h3.dput (u := w) (v := v) hm Pl.it (.inl (.inl Pl.it)) hz
  exact ⟨a, H4, rfl, g, lift_nx (le.trans (Pl.le.trans (Pl.le.trans Pl.le))) (sl.le (Pl.le.trans (Pl.le.trans Pl.le))) h4 q3⟩
/-- d.pop(k, x) -/
theorem de_dpop2 (h : DE C W o δ m fun d m1 => ∃ a ks0 ds0, d = .ref a ∧ m1 a = some (.dic ks0 ds0) ∧ DE C W e δ m1 fun y m2 => DE C W f δ m2 fun x m3 => ∃ ks ds k, y = kD k ∧ m3 a = some (.dic ks ds) ∧
      (∀ z, valD ks ds k = some z → Q z (sput m3 a (.dic (dropKs ks k) (dropDs ks ds k)))) ∧ (valD ks ds k = none → Q x m3))
    (hm : ∀ X : Cx, M2 X o "pop" apos e f cpos := by intro _; exact ⟨rfl, rfl, rfl, rfl⟩) : DE C W (.Call (.Attribute o "pop" apos) [e, f] [] cpos) δ m Q := by
  intro X S fx tk σ H T le sl hh
  refine WE.of (pe_dpop2 we we we (hm X)) ((h X S fx tk σ H T le sl hh).mono fun v H1 ⟨d, m1, h1, a, ks0, ds0, ed, hm0, q⟩ => ?_)
  subst ed
  have rr := h1.rep Pl.it
  cases rr
  obtain ⟨kvs0, hr0, _⟩ := h1.dicO hm0
  refine ⟨a, rfl, .inl ⟨kvs0, .inl hr0⟩, (q X S fx tk σ H1 _ (le.trans Pl.le) (sl.le Pl.le) h1).mono fun u H2 ⟨y, m2, h2, q2⟩ => ?_⟩
  refine (q2 X S fx tk σ H2 _ (le.trans (Pl.le.trans Pl.le)) (sl.le (Pl.le.trans Pl.le)) h2).mono fun w H3 ⟨x, m3, h3, ks, ds, k, ey, hm3, qs, qn⟩ => ?_
  subst ey
  obtain ⟨kvs, hu, ek, hl, h4⟩ := h3.dicO hm3
  have e1 := kV_of (h3.rep (.inl Pl.it : Pl (Pl (Pl T (.ref a) (.ref a)) u (kD k)) w x u (kD k)))
  subst e1 ek
  obtain ⟨z1, z2⟩ := val_rep (RepL.of_zip hl fun v d z => h4.rep (.inr z)) (k := k)
  refine ⟨kvs, k, hu, rfl, fun y hy => ?_, fun hn => ?_⟩
  · cases hv : valD (kvs.map (·.1)) ds k with
    | none => rw [z1 hv] at hy; cases hy
    | some z =>
      obtain ⟨y', g1, g2⟩ := z2 hv
      rw [hy] at g1
      cases g1
      have h5 := h4.mut (u' := .dK (dropK kvs k)) (o' := .dic (dropKs (kvs.map fun kv => kv.1) k) (dropDs (kvs.map fun kv => kv.1) ds k)) hm3 hu fun Hi rr kk => by
        obtain ⟨g1, g2⟩ := drop_rep (k := k) rr.2
        exact ⟨g1, g2⟩
      exact ⟨z, _, h5.le fun p q t => by
        rcases t with t | ⟨rfl, rfl⟩
        · exact .inl (.inl (.inl (.inl t)))
        · exact .inr g2, qs z hv⟩
  · cases hv : valD (kvs.map (·.1)) ds k with
    | none => exact ⟨x, _, h3.le (Pl.mono (Pl.le.trans Pl.le)), qn hv⟩
    | some z =>
      obtain ⟨y', g1, g2⟩ := z2 hv
      rw [hn] at g1
      cases g1
/-- o.f op= e -/
theorem ds_fldaug {fl : Str} {op : Operator} {rd : R2D} (ho : OpDi C op rd) (h : DE C W o δ m fun x m1 => ∃ a cA fs v, x = .ref a ∧ m1 a = some (.ins cA fs) ∧ Cls C.K cA ∧ NoAttr C.K cA fl ∧ fs.lookup fl = some v ∧ DE C W e δ m1 fun y m2 => rd v y m2 fun z m3 => ∃ fs', m3 a = some (.ins cA fs') ∧ fs'.length < 1000 ∧ D.nx δ (sput m3 a (.ins cA (putD fl z fs')))) :
    DS C W (.AugAssign (.Attribute o fl pos') op e pos) δ m D := by
  intro X S fx tk σ H T le sl hh
  refine WS.of (ps_fldaug (rd := fun x y H Q => WB X (inplaceOp op) x y H Q) we we (fun pins s σ H x y v u Q I rx ry w => w pins s σ v u I rx ry)) ((h X S fx tk σ H T le sl hh).mono fun v H1 ⟨x, m1, h1, a, cA, fs, z, ex, hm, c, n, l, q⟩ => ?_)
  subst ex
  have r := h1.rep Pl.it
  cases r
  obtain ⟨dx, gs, hu, hn, hl, h2⟩ := h1.insO hm
  obtain ⟨v', e1, e2⟩ := lookup_rep hn (RepL.of_zip hl fun v d z => h2.rep (.inr z)) l
  refine ⟨a, cA, dx, gs, v', rfl, hu, by rw [fx.K]; exact c, by rw [fx.K]; exact n, e1, (q X S fx tk σ H1 _ (le.trans (Pl.le.trans PlL.le)) (sl.le (Pl.le.trans PlL.le)) h2).mono fun u H2 ⟨y, m2, h3, q2⟩ => ?_⟩
  have w := ho X fx S.r H2 m2 _ v' u z y _ h3 (.inl (.inr e2)) Pl.it q2
  refine fun pins s σ' v u I rx ry => thn (w pins s σ' v u I rx ry) fun zz s' ⟨zv, H3, I3, r3, d3, m3, h4, fs', hm3, hl3, q3⟩ => ?_
  obtain ⟨dx', gs', hu', hn', hl', _⟩ := h4.insO hm3
  have hlen : gs'.length = fs'.length := by simpa using hl'
  have h5 := h4.mut (u' := .ins cA dx' (putF fl zv gs')) (o' := .ins cA (putD fl d3 fs')) hm3 hu' fun Hi r kk => ⟨rfl, putD_rep (kk zv d3 Pl.it) r.2.1 r.2.2⟩
  exact ⟨zv, H3, I3, r3, dx', gs', hu', by rw [hlen]; exact hl3, lift_nx (le.trans (Pl.le.trans (PlL.le.trans (Pl.le.trans Pl.le)))) (sl.le (Pl.le.trans (PlL.le.trans (Pl.le.trans Pl.le)))) h5 q3⟩
end
end G

/-! The data layer: dicts become data, walks over dicts, dict comprehensions. -/
namespace G
open PySem PySem.Spec PyProof.Rows L2
section
variable {C : Ct} {W : DW} {δ : Sl} {m : Sto} {e tg iter : Expr} {sts : List Stmt} {pos pos' apos cpos : Pos} {Q : D → Sto → Prop} {D : DEn}
theorem slot_same {σ : L2.St} {i : Nat} {v : V} (hv : σ[i]? = some (some v)) : σ.set i (some v) = σ := by
  refine List.ext_getElem? fun j => ?_
  by_cases hj : i = j
  · subst hj
    rw [List.getElem?_set_self (List.getElem?_eq_some_iff.mp hv).1, hv]
  · rw [List.getElem?_set_ne hj]
/-- a slot's dict is data from now on -/
theorem dss_frzD (i : Nat) {p : Addr} {ks : List Key} {ds : List G.D} (hd : δ[i]? = some (some (.ref p))) (hm : m p = some (.dic ks ds)) (h : DSs C W sts (δ.set i (some (.dic ks ds))) (sdel m p) D) : DSs C W sts δ m D := by
  intro X S f tk σ H T le sl hh pins s I
  obtain ⟨v, hv, tv⟩ := sl.2 i _ hd
  have r := hh.rep tv
  cases r
  obtain ⟨kvs, hu, hf⟩ := hh.frzD hm
  obtain ⟨od, I2⟩ := I.lock hu trivial
  have sl2 := (sl.le (Pl.le (v := .ref p) (d := .dic ks ds))).set (i := i) (Pl.it (T := T) (v := .ref p) (d := .dic ks ds))
  rw [slot_same hv] at sl2
  exact h X S f tk σ _ _ (le.trans Pl.le) sl2 (hf od) pins s I2
/-- what stands in a dict of the store is data from now on -/
theorem dss_frzIn (b : Addr) (i : Nat) {p : Addr} {kb ks : List Key} {db ds : List G.D} (hb : m b = some (.dic kb db)) (hi : db[i]? = some (.ref p)) (hm : m p = some (.dic ks ds)) (hne : b ≠ p) (h : DSs C W sts δ (sput (sdel m p) b (.dic kb (db.set i (.dic ks ds)))) D) : DSs C W sts δ m D := by
  intro X S f tk σ H T le sl hh pins s I
  obtain ⟨kvs, hu, hf⟩ := hh.frzD hm
  obtain ⟨od, I2⟩ := I.lock hu trivial
  have h2 := (hf od).tellD (b := b) (i := i) (by rw [sdel_ne hne]; exact hb) hi Pl.it
  exact h X S f tk σ _ _ (le.trans Pl.le) (sl.le Pl.le) h2 pins s I2
/-- a list within a dict of the store is data from now on -/
theorem dss_frzInL (b : Addr) (i : Nat) {p : Addr} {kb : List Key} {db ds : List G.D} (hb : m b = some (.dic kb db)) (hi : db[i]? = some (.ref p)) (hm : m p = some (.lst ds)) (hne : b ≠ p) (h : DSs C W sts δ (sput (sdel m p) b (.dic kb (db.set i (.lst ds)))) D) : DSs C W sts δ m D := by
  intro X S f tk σ H T le sl hh
  have h1 := hh.freezeL hm
  have h2 := h1.tellD (b := b) (i := i) (by rw [sdel_ne hne]; exact hb) hi Pl.it
  exact h X S f tk σ _ _ (le.trans Pl.le) (sl.le Pl.le) h2
/-- an expression's dict is data -/
theorem de_freezeD (h : DE C W e δ m fun d m1 => ∃ p ks ds, d = .ref p ∧ m1 p = some (.dic ks ds) ∧ Q (.dic ks ds) (sdel m1 p)) : DE C W e δ m Q := by
  intro X S f tk σ H T le sl hh pins s I
  refine thn (h X S f tk σ H T le sl hh pins s I) fun u s1 ⟨v, H1, I1, r, d, m1, h1, p, ks, ds, ed, hm, q⟩ => ?_
  subst ed
  have rr := h1.rep Pl.it
  cases rr
  obtain ⟨kvs, hu, hf⟩ := h1.frzD hm
  obtain ⟨od, I2⟩ := I1.lock hu trivial
  exact ⟨.ref p, _, I2, r, .dic ks ds, _, (hf od).le (Pl.mono Pl.le), q⟩
/-- the keys of a dict that is data -/
theorem di_keysV {R : List G.D → Sto → Prop} (h : DE C W e δ m fun d m1 => ∃ ks ds, d = .dic ks ds ∧ R (ks.map kD) m1) : DI C W tg e δ m R := by
  intro X S f tk σ H T le sl hh
  refine WI.of (pi_keys we) ((h X S f tk σ H T le sl hh).mono fun v H1 ⟨d, m1, h1, ks, ds, ed, q⟩ => ?_)
  subst ed
  obtain ⟨h0, Hi, g1, g2, g3⟩ := h1
  have rr := g3 _ _ Pl.it
  cases rr with
  | @dic a ob kvs _ _ e1 e2 e3 =>
    subst e2
    have h3 : Hd C.K S.r H1 m1 (Pl T (.ref a) (.dit (.pin (.frz ob (.dK kvs))) [])) := ⟨h0, Hi, g1, g2, fun x y t => t.elim (fun z => g3 _ _ (.inl z)) fun ⟨ex, ey⟩ => by subst ex ey; exact .pin e1⟩
    have at_ : ∀ (r : Sto) (H : Hp) (m : Sto) (T' : RT), Le (Pl T (.ref a) (.dit (.pin (.frz ob (.dK kvs))) [])) T' → Hd C.K r H m T' → H a = some (.frz ob (.dK kvs)) := fun r H m T' l hd => by
      have q := hd.rep (l _ _ Pl.it)
      cases q with
      | pin q => exact q
    refine ⟨a, ob, rfl, .inl ⟨kvs, g1 _ _ e1, _, m1, _, Pl.le, h3, ?_, q⟩⟩
    refine ⟨fun i r H m T' hi l hd => ⟨at_ r H m T' l hd, by simpa using hi⟩, fun i r H H' m T' x d hi l hd y => ?_, fun i r H m T' hi l hd => ⟨at_ r H m T' l hd, by simpa using hi⟩⟩
    obtain ⟨e, k, v, hk, ex⟩ := y
    subst e ex
    rw [List.map_map, List.getElem?_map, hk] at hi
    have hi2 : kD k = d := Option.some.inj hi
    subst hi2
    exact hd.pl fun _ _ => kV_rep k
/-! ### walks with a guard -/
structure WalksW (K : PySem.W.Frag) (J : It) (ds : List G.D) (T' : RT) (ok : Sto → Prop) : Prop where
  go : ∀ (i : Nat) (r : Sto) (H : Hp) (m : Sto) (T : RT), i < ds.length → Le T' T → ok m → Hd K r H m T → J.go i H
  yld : ∀ (i : Nat) (r : Sto) (H H' : Hp) (m : Sto) (T : RT) (x : V) (d : G.D), ds[i]? = some d → Le T' T → ok m → Hd K r H m T → J.yld i H x H' → Hd K r H' m (Pl T x d)
  stop : ∀ (i : Nat) (r : Sto) (H : Hp) (m : Sto) (T : RT), ds.length ≤ i → Le T' T → ok m → Hd K r H m T → J.stop i H
/-- the guard asks one place of the store at most -/
inductive Gd where | no | at_ (a : Addr) (o : O)
def Gd.ok : Gd → Sto → Prop
  | .no, _ => True
  | .at_ a o, m => m a = some o
theorem Gd.put {g : Gd} {m : Sto} {p : Addr} {o : O} (h : g.ok m) (hp : m p = none) : g.ok (sput m p o) := by
  cases g with
  | no => trivial
  | at_ a u =>
    have h' : m a = some u := h
    show sput m p o a = some u
    rw [sput_ne (fun e => by rw [e, hp] at h'; cases h')]
    exact h'
def DIw (C : Ct) (W : DW) (tg iter : Expr) (δ : Sl) (m : Sto) (R : List G.D → Gd → Sto → Prop) : Prop :=
  ∀ (X : Cx) (S : Fr), Fits C X → Takes X (liftW C.K W S) → ∀ (σ : L2.St) (H : Hp) (T : RT), Le S.t T → SlotsIn σ δ T → Hd C.K S.r H m T → WI X tg iter σ H fun J H' => ∃ ds g m' T', Le T T' ∧ Hd C.K S.r H' m' T' ∧ WalksW C.K J ds T' g.ok ∧ R ds g m'
theorem diw_di {R : List G.D → Gd → Sto → Prop} (h : DI C W tg iter δ m fun ds m1 => R ds .no m1) : DIw C W tg iter δ m R := by
  intro X S f tk σ H T le sl hh
  refine WI.mono (h X S f tk σ H T le sl hh) fun J H1 ⟨ds, m1, T1, le1, h1, wk, r⟩ => ⟨ds, .no, m1, T1, le1, h1, ⟨fun i r H m T a b _ => wk.go i r H m T a b, fun i r H H' m T x d a b _ => wk.yld i r H H' m T x d a b, fun i r H m T a b _ => wk.stop i r H m T a b⟩, r⟩
theorem diw_dig {R : List G.D → Gd → Sto → Prop} (h : DIg C W tg iter δ m fun ds a o m1 => R ds (.at_ a o) m1) : DIw C W tg iter δ m R := by
  intro X S f tk σ H T le sl hh
  refine WI.mono (h X S f tk σ H T le sl hh) fun J H1 ⟨ds, a, o, m1, T1, le1, h1, wk, r⟩ => ⟨ds, .at_ a o, m1, T1, le1, h1, ⟨fun i r H m T a b c => wk.go i r H m T a b c, fun i r H H' m T x d a b c => wk.yld i r H H' m T x d a b c, fun i r H m T a b c => wk.stop i r H m T a b c⟩, r⟩
/-- the pairs of a locked dict of the store -/
def itemsL : List Key → List G.D → List G.D
  | k :: ks, d :: ds => .tup [kD k, d] :: itemsL ks ds
  | _, _ => []
theorem items_get : ∀ {kvs : List (Key × V)} {ds : List G.D} {i : Nat} {k : Key} {v : V} {d : G.D}, kvs[i]? = some (k, v) → (itemsL (kvs.map (·.1)) ds)[i]? = some d → ∃ z, d = .tup [kD k, z] ∧ (v, z) ∈ (kvs.map (·.2)).zip ds
  | [], _, _, _, _, _, h, _ => by simp at h
  | _ :: _, [], _, _, _, _, _, h => by simp [itemsL] at h
  | (j, u) :: kvs, e :: ds, 0, k, v, d, h, g => by
    simp only [List.getElem?_cons_zero, Option.some.injEq] at h
    cases h
    simp only [List.map_cons, itemsL, List.getElem?_cons_zero, Option.some.injEq] at g
    exact ⟨e, g.symm, by simp⟩
  | (j, u) :: kvs, e :: ds, i + 1, k, v, d, h, g => by
    simp only [List.getElem?_cons_succ] at h
    simp only [List.map_cons, itemsL, List.getElem?_cons_succ] at g
    obtain ⟨z, h1, h2⟩ := items_get h g
    exact ⟨z, h1, by rw [List.map_cons, List.zip_cons_cons]; exact List.mem_cons_of_mem _ h2⟩
theorem items_len : ∀ {ks : List Key} {ds : List G.D}, ks.length = ds.length → (itemsL ks ds).length = ks.length
  | [], [], _ => rfl
  | [], _ :: _, h => by simp at h
  | _ :: _, [], h => by simp at h
  | k :: ks, d :: ds, h => by simp [itemsL, items_len (by simpa using h : ks.length = ds.length)]
theorem di_items {elts : List Expr} {kk : Nat} {tpos : Pos} {R : List G.D → Gd → Sto → Prop} (h : DE C W e δ m fun d m1 => ∃ a od kvs ks ds, d = .ref a ∧ m1 a = some (.lk od kvs ks ds) ∧ R (itemsL ks ds) (.at_ a (.lk od kvs ks ds)) m1)
    (hbase : ∀ env, attributeBase e "items" env (eval e env) = eval e env := by intro _; rfl) (hline : (apos.endLine == cpos.line) = true := by rfl) : DIw C W (.Tuple elts kk tpos) (.Call (.Attribute e "items" apos) [] [] cpos) δ m R := by
  intro X S f tk σ H T le sl hh
  refine WI.of (pi_items we (hbase _) hline) ((h X S f tk σ H T le sl hh).mono fun v H1 ⟨d, m1, h1, a, od, kvs, ks, ds, ed, hm, q⟩ => ?_)
  subst ed
  have r := h1.rep Pl.it
  cases r
  obtain ⟨hu, ek, hl0, _⟩ := h1.lkO hm
  subst ek
  have hlen : (itemsL (kvs.map (·.1)) ds).length = kvs.length := by rw [items_len (by simpa using hl0)]; simp
  refine ⟨a, od, kvs, rfl, hu, _, _, m1, _, Pl.le, h1, ?_, q⟩
  refine ⟨fun i r H m T' hi l hg hd => ⟨(hd.lkO hg).1, by rw [← hlen]; exact hi⟩, fun i r H H' m T' x d hi l hg hd y => ?_, fun i r H m T' hi l hg hd => ⟨(hd.lkO hg).1, by rw [← hlen]; exact hi⟩⟩
  obtain ⟨p, k, v, hk, ex, hp, eH⟩ := y
  subst ex eH
  obtain ⟨z, e1, e2⟩ := items_get hk hi
  subst e1
  obtain ⟨_, _, _, h2⟩ := hd.lkO hg
  refine (h2.newI (d := .tup [kD k, z]) hp fun Hi hi kk => ?_).le (Pl.mono PlL.le)
  exact .tup (.inl (.inl upd_same)) (.cons (kV_rep k) (.cons (Rep.mono (same_upd hi) (kk _ _ (.inr e2))) .nil))
end
section
variable {C : Ct} {W : DW} {δ : Sl} {m : Sto} {a b c e : Expr} {es : List Expr} {pos pos' : Pos}
/-- {kx: vx for tg in iter if ..} -/
def DcI (C : Ct) (W : DW) (kx vx tg iter : Expr) (ifs : List Expr) (scope : Scope) (own : List (Str × Nat)) (δ : Sl) (m : Sto) (Q : D → Sto → Prop) : Prop :=
  DIw C W tg iter δ m fun ds g m1 => ∃ I : Nat → List Key → List D → Sto → Prop, I 0 [] [] m1 ∧ (∀ (i : Nat) (d : D) (ks : List Key) (es : List D) (m' : Sto), ds[i]? = some d → I i ks es m' →
      DGv (C.blk scope) (own.map (·.2)) tg d (wipeS δ (own.map (·.2))) m' fun δ2 m2 => DTs (C.blk scope) W0 ifs δ2 m2 fun b m3 => br b (DE (C.blk scope) W0 kx δ2 m3 fun y m4 => DE (C.blk scope) W0 vx δ2 m4 fun z m5 => ∃ k, y = kD k ∧ ks.length < sizeLine ∧ I (i + 1) (putKs ks k) (putDs ks es k z) m5) (I (i + 1) ks es m3)) ∧
      (∀ i ks es m', I i ks es m' → g.ok m') ∧ ∀ ks es m', I ds.length ks es m' → ∀ p, m' p = none → Q (.ref p) (sput m' p (.dic ks es))
theorem dc_read {kx vx tg iter : Expr} {ifs : List Expr} {scope : Scope} {own : List (Str × Nat)} {Q : D → Sto → Prop} (h : DcI C W kx vx tg iter ifs scope own δ m Q)
    {X : Cx} {S : Fr} (f : Fits C X) (tk : Takes X (liftW C.K W S)) {σ : L2.St} {H : Hp} {T : RT} (le : Le S.t T) (sl : SlotsIn σ δ T) (hh : Hd C.K S.r H m T) {Qv : VK} (fin : ∀ p H' ks es m' T', Le T T' → m' p = none → Hd C.K S.r H' (sput m' p (.dic ks es)) T' → T' (.ref p) (.ref p) → Q (.ref p) (sput m' p (.dic ks es)) → Qv (.ref p) H') :
    tDc (WI X tg iter) (rdG X scope tg) (rdT X scope ifs) (rdE X scope kx) (rdE X scope vx) (own.map (·.2)) σ H Qv := by
  refine WI.mono (h X S f tk σ H T le sl hh) fun J H1 ⟨ds, g, m1, T1, le1, h1, wk, I, i0, istep, ig, iend⟩ Dp hD => ?_
  have hm1 := h1.free hD
  have h0 : Hd C.K S.r (upd H1 Dp (.dK [])) (sput m1 Dp (.dic [] [])) (Pl T1 (.ref Dp) (.ref Dp)) := h1.newM (o := .dic [] []) hD fun _ _ => ⟨rfl, RepL.nil⟩
  show ∃ W : Nat → Nat → Hp → Prop, _
  refine Exists.intro (fun (i n : Nat) (H' : Hp) => n = ds.length - i ∧ i ≤ ds.length ∧ ∃ (ks : List Key) (es : List D) (m' : Sto) (T' : RT), Le (Pl T1 (.ref Dp) (.ref Dp)) T' ∧ m' Dp = none ∧ Hd C.K S.r H' (sput m' Dp (.dic ks es)) T' ∧ I i ks es m') (And.intro (Exists.intro ds.length ?_) ?_)
  · exact ⟨rfl, Nat.zero_le _, [], [], m1, _, Le.refl _, hm1, h0, i0⟩
  rintro i n H' ⟨rfl, hi, ks, es, m', T', le', hm', hh', ih⟩
  have drop : Hd C.K S.r H' (sput m' Dp (.dic ks es)) T' → Hd C.K (sun (sone Dp (.dic ks es)) S.r) H' m' T' := fun z => by
    rw [← sun_one hm'] at z
    exact z.push (sdj_one hm')
  have hga := ig i ks es m' ih
  have hgp : g.ok (sput m' Dp (.dic ks es)) := Gd.put hga hm'
  have le1' : Le T1 T' := Pl.le.trans le'
  by_cases hlt : i < ds.length
  · refine .inr ⟨wk.go i S.r H' _ T' hlt le1' hgp hh', fun H2 => i + 1 ≤ ds.length ∧ ∃ ks es m' T', Le (Pl T1 (.ref Dp) (.ref Dp)) T' ∧ m' Dp = none ∧ Hd C.K S.r H2 (sput m' Dp (.dic ks es)) T' ∧ I (i + 1) ks es m', fun H2 ⟨u, v⟩ => ⟨ds.length - (i + 1), by omega, rfl, u, v⟩, fun x H2 y => ?_⟩
    have hd := List.getElem?_eq_getElem hlt
    have h2 := drop hh'
    have h2 : Hd C.K (sun (sone Dp (.dic ks es)) S.r) H2 m' (Pl T' x _) := wk.yld i _ H' H2 m' T' x _ hd le1' hga h2 y
    have dj1 : sdj (sone Dp (.dic ks es)) S.r := fun b u eb => by
      unfold sone at eb
      split at eb
      · rename_i e
        subst e
        exact hh'.1 b _ sput_same
      · cases eb
    have slw := (sl.le (le1.trans le1')).wipe (own.map (·.2))
    have st := istep i _ ks es m' hd ih
    have leS : Le S.t (Pl T' x ds[i]) := le.trans (le1.trans (le1'.trans Pl.le))
    intro s H0 cc cl fp
    have fb : Fits (C.blk scope) (X.blk s H0 scope (compEnvC scope cl cc X.env) fp) := f.blk
    refine WG.mono (st (X.blk s H0 scope (compEnvC scope cl cc X.env) fp) ⟨S.t, sun (sone Dp (.dic ks es)) S.r⟩ fb x (wipe σ (own.map (·.2))) H2 _ leS (slw.le Pl.le) Pl.it h2) ?_
    rintro σ3 H3 ⟨w3, δ3, m3, T3, le3, sl3, h3, q3⟩
    refine ⟨w3.trans wipe_idem, ?_⟩
    intro s' H0' cc' cl' fp'
    have fb' : Fits (C.blk scope) (X.blk s' H0' scope (compEnvC scope cl' cc' X.env) fp') := f.blk
    refine WTs.mono (q3 (X.blk s' H0' scope (compEnvC scope cl' cc' X.env) fp') ⟨S.t, sun (sone Dp (.dic ks es)) S.r⟩ fb' takes_W0 σ3 H3 T3 (leS.trans le3) sl3 h3) fun k H4 ⟨m4, h4, q4⟩ => ?_
    cases k with
    | true =>
      rw [if_pos rfl]
      intro s'' H0'' cc'' cl'' fp''
      have fb'' : Fits (C.blk scope) (X.blk s'' H0'' scope (compEnvC scope cl'' cc'' X.env) fp'') := f.blk
      refine (q4.1 rfl (X.blk s'' H0'' scope (compEnvC scope cl'' cc'' X.env) fp'') ⟨S.t, sun (sone Dp (.dic ks es)) S.r⟩ fb'' takes_W0 σ3 H4 T3 (leS.trans le3) sl3 h4).mono fun kv H5 ⟨y, m5, h5, q5⟩ => ?_
      intro s3 H03 cc3 cl3 fp3
      have fb3 : Fits (C.blk scope) (X.blk s3 H03 scope (compEnvC scope cl3 cc3 X.env) fp3) := f.blk
      refine (q5 (X.blk s3 H03 scope (compEnvC scope cl3 cc3 X.env) fp3) ⟨S.t, sun (sone Dp (.dic ks es)) S.r⟩ fb3 takes_W0 σ3 H5 _ (leS.trans (le3.trans Pl.le)) (sl3.le Pl.le) h5).mono fun zv H6 ⟨z, m6, h6, kk, ey, hz, q6⟩ => ?_
      subst ey
      obtain ⟨dj6, h7⟩ := Hd.pop h6 dj1
      have hm6 : m6 Dp = none := dj6.sym Dp _ (if_pos rfl)
      rw [sun_one hm6] at h7
      have ek := kV_of (h7.rep (.inl Pl.it : Pl (Pl T3 kv (kD kk)) zv z kv (kD kk)))
      obtain ⟨kvs, hu, e1, hl, _⟩ := h7.dicO sput_same
      have hlen : kvs.length = ks.length := by rw [← e1]; simp
      refine ⟨kvs, kk, ek, hu, by rw [hlen]; exact hz, hlt, putKs ks kk, putDs ks es kk z, m6, Pl (Pl T3 kv (kD kk)) zv z, le'.trans (Pl.le.trans (le3.trans (Pl.le.trans Pl.le))), hm6, ?_, q6⟩
      have h8 := h7.mut (u' := .dK (putK kvs kk zv)) (o' := .dic (putKs ks kk) (putDs ks es kk z)) sput_same hu fun Hi rr k2 => by
        obtain ⟨g1, g2⟩ := put_rep (k := kk) (k2 zv z Pl.it) rr.2
        rw [e1] at g1 g2
        exact ⟨g1, g2⟩
      rw [sput_sput] at h8
      exact h8
    | false =>
      rw [if_neg Bool.false_ne_true]
      obtain ⟨dj4, h6⟩ := Hd.pop h4 dj1
      have hm4 : m4 Dp = none := dj4.sym Dp _ (if_pos rfl)
      rw [sun_one hm4] at h6
      exact ⟨hlt, ks, es, m4, T3, le'.trans (Pl.le.trans le3), hm4, h6, q4.2 rfl⟩
  · have ei : i = ds.length := by omega
    subst ei
    exact .inl ⟨wk.stop _ S.r H' _ T' (Nat.le_refl _) le1' hgp hh', fin _ _ _ _ _ _ (le1.trans le1') hm' hh' (le' _ _ Pl.it) (iend ks es m' ih Dp hm')⟩
theorem de_dc {kx vx tg iter : Expr} {ifs : List Expr} {scope : Scope} (own : List (Str × Nat)) {Q : D → Sto → Prop} (ok : blkC C.N C.sc scope own = true)
    (h : DcI C W kx vx tg iter ifs scope own δ m Q) (hs : ∀ env x, foldedSetIterable iter env x = pure x := by intro _ _; rfl) (hcm : C.cm = true := by rfl) : DE C W (.DictComp kx vx [⟨tg, iter, ifs, 0⟩] scope pos) δ m Q := by
  intro X S f tk σ H T le sl hh
  have okB : BlkOk X.N X.env.scope scope own := by rw [f.N, f.sc]; exact blkOk_by ok
  exact WE.of (pe_dc (tk := rdE X scope kx) (tv := rdE X scope vx) (tt := rdT X scope ifs) (g := rdG X scope tg) (f.calm hcm) f.nd wi okB (fun s H c cl fp => ⟨fun pins t σ H v u Q I r q => q s _ c cl fp pins t u I r⟩) (fun s H c cl fp => ⟨fun pins t σ H Q I q => q s _ c cl fp pins t I⟩) (fun s H c cl fp => ⟨fun pins t σ H Q I q => q s _ c cl fp pins t I⟩) (fun s H c cl fp => ⟨fun pins t σ H Q I q => q s _ c cl fp pins t I⟩) (hs _))
    (dc_read h f tk le sl hh fun p H' ks es m' T' l hm hd tp q => ⟨.ref p, _, hd.le fun x y t => by
      rcases t with t | ⟨rfl, rfl⟩
      · exact l _ _ t
      · exact tp, q⟩)
end
end G

/-! Laying a set's table anew: it always succeeds at the masks that come. -/
namespace G
open PySem PySem.Spec PyProof.Rows L2

def orb (m : Nat) : Nat → Nat → List Nat
  | 0, _ => []
  | n + 1, x => x :: orb m n ((x * 5 + 1) % (m + 1))
theorem orb_mem (m : Nat) : ∀ (n a : Nat) {j : Nat}, j ∈ orb m n (lcgN m a) → ∃ b, b < n ∧ lcgN m (a + b) = j
  | 0, _, _, h => nomatch h
  | n + 1, a, j, h => by
    rcases List.mem_cons.mp h with e | e
    · exact ⟨0, Nat.succ_pos _, e.symm⟩
    · obtain ⟨b, hb, q⟩ := orb_mem m n (a + 1) (j := j) e
      exact ⟨b + 1, Nat.succ_lt_succ hb, by rw [← q]; congr 1; omega⟩
structure FullM (m : Nat) : Prop where
  all : ∀ j, j ≤ m → ∃ b, b ≤ m ∧ lcgN m b = j
  rnd : lcgN m (m + 1) = 0
def chk (m : Nat) : Bool := ((List.range (m + 1)).all fun j => (orb m (m + 1) 0).contains j) && (lcgN m (m + 1) == 0)
theorem FullM.of {m : Nat} (h : chk m = true) : FullM m := by
  unfold chk at h
  obtain ⟨h1, h2⟩ := Bool.and_eq_true_iff.mp h
  refine ⟨fun j hj => ?_, beq_iff_eq.mp h2⟩
  have q := List.all_eq_true.mp h1 j (List.mem_range.mpr (Nat.lt_succ_of_le hj))
  have q2 : j ∈ orb m (m + 1) (lcgN m 0) := by
    show j ∈ orb m (m + 1) 0
    simpa using q
  obtain ⟨b, hb, e⟩ := orb_mem m (m + 1) 0 q2
  exact ⟨b, Nat.le_of_lt_succ hb, by rw [← e, Nat.zero_add]⟩
theorem chk7 : chk 7 = true := by decide +kernel
theorem chk15 : chk 15 = true := by decide +kernel
theorem chk31 : chk 31 = true := by decide +kernel
theorem chk63 : chk 63 = true := by decide +kernel
theorem chk127 : chk 127 = true := by decide +kernel
theorem chk255 : chk 255 = true := by decide +kernel
theorem FullM.turn {m : Nat} (F : FullM m) : ∀ k, lcgN m (m + 1 + k) = lcgN m k
  | 0 => F.rnd
  | k + 1 => by
    show (lcgN m (m + 1 + k) * 5 + 1) % (m + 1) = (lcgN m k * 5 + 1) % (m + 1)
    rw [F.turn k]
theorem FullM.from_ {m : Nat} (F : FullM m) {i j : Nat} (hi : i ≤ m) (hj : j ≤ m) : ∃ k, k ≤ m ∧ lcgI m i k = j := by
  obtain ⟨a, ha, rfl⟩ := F.all i hi
  obtain ⟨b, hb, rfl⟩ := F.all j hj
  by_cases c : a ≤ b
  · exact ⟨b - a, by omega, by rw [lcgN_add]; congr 1; omega⟩
  · exact ⟨m + 1 + b - a, by omega, by rw [lcgN_add, show a + (m + 1 + b - a) = m + 1 + b by omega, F.turn]⟩
theorem FullM.meets {m : Nat} (F : FullM m) (h : Int) {j : Nat} (hj : j ≤ m) : ∃ n, n ≤ m + 12 ∧ runI m (SetTable.bits h) n = j := by
  obtain ⟨k, hk, e⟩ := F.from_ (runI_le m (SetTable.bits h) 12) hj
  exact ⟨12 + k, by omega, by rw [runI_tail (bits_lt h), e]⟩
/-- a free slot is found if a run begins at one -/
theorem free_some (m : Nat) (owner : Array (Option Nat)) (hs : owner.size = m + 1) : ∀ (f n i b : Nat), n < f → i ≤ m → oAt owner (itL m i b n).1 = none →
    ∃ j, SetTable.layClean.free m owner f i b = some j ∧ j ≤ m ∧ oAt owner j = none
  | 0, _, _, _, h, _, _ => absurd h (Nat.not_lt_zero _)
  | f + 1, n, i, b, h, hi, hf => by
    rw [free_succ]
    cases e : (List.range (SetTable.runEnd m i + 1 - i)).find? fun k => (oAt owner (i + k)).isNone with
    | some k =>
      have q := List.find?_some e
      have q1 := List.mem_range.mp (List.mem_of_find?_eq_some e)
      have rb := runEnd_bd hi
      refine ⟨i + k, rfl, by omega, ?_⟩
      cases z : oAt owner (i + k) with
      | none => rfl
      | some y => rw [z] at q; cases q
    | none =>
      show ∃ j, SetTable.layClean.free m owner f (SetTable.leap m i b).1 (SetTable.leap m i b).2 = some j ∧ _
      cases n with
      | zero =>
        exfalso
        have hf' : oAt owner i = none := hf
        have rb := runEnd_bd hi
        have q := List.find?_eq_none.mp e 0 (List.mem_range.mpr (by omega))
        rw [Nat.add_zero, hf'] at q
        exact q rfl
      | succ n => exact free_some m owner hs f n _ _ (by omega) (Nat.le_of_lt_succ (Nat.mod_lt _ (Nat.succ_pos _))) hf
/-- who sits where, n of them -/
structure OwnL (m n : Nat) (owner : Array (Option Nat)) : Prop where
  sz : owner.size = m + 1
  all : ∀ k, k < n → ∃ j, j ≤ m ∧ oAt owner j = some k
  ps : ∃ ps : List Nat, ps.length = n ∧ ∀ j, j ≤ m → oAt owner j ≠ none → j ∈ ps
theorem OwnL.step {m n : Nat} (F : FullM m) {owner : Array (Option Nat)} (O : OwnL m n owner) (hl : n ≤ m) (h : Int) :
    ∃ j, SetTable.layClean.free m owner (SetTable.turns m) (SetTable.bits h % (m + 1)) (SetTable.bits h) = some j ∧ OwnL m (n + 1) (owner.setIfInBounds j (some n)) := by
  obtain ⟨ps, hp, hin⟩ := O.ps
  obtain ⟨j0, h0, hn0⟩ := st_missing ps (m + 1) (by omega)
  have hj0 : oAt owner j0 = none := by
    cases z : oAt owner j0 with
    | none => rfl
    | some k => exact absurd (hin j0 (by omega) (by rw [z]; simp)) hn0
  obtain ⟨q, hq, e⟩ := F.meets h (j := j0) (by omega)
  obtain ⟨j, f1, f2, f3⟩ := free_some m owner O.sz (SetTable.turns m) q (SetTable.bits h % (m + 1)) (SetTable.bits h) (by unfold SetTable.turns; omega)
    (Nat.le_of_lt_succ (Nat.mod_lt _ (Nat.succ_pos _))) (by rw [itL_run]; show oAt owner (runI m (SetTable.bits h) q) = none; rw [e]; exact hj0)
  have hjs : j < owner.size := by rw [O.sz]; omega
  refine ⟨j, f1, by rw [Array.size_setIfInBounds]; exact O.sz, fun k hk => ?_, j :: ps, by rw [List.length_cons, hp], fun i hi hne => ?_⟩
  · by_cases c : k < n
    · obtain ⟨i, hi, z⟩ := O.all k c
      exact ⟨i, hi, by rw [oAt_set_ne _ (fun y => by rw [y, f3] at z; cases z)]; exact z⟩
    · exact ⟨j, f2, by rw [oAt_set_self _ hjs]; congr 1; omega⟩
  · by_cases c : i = j
    · rw [c]; exact List.mem_cons_self
    · rw [oAt_set_ne _ c] at hne
      exact List.mem_cons_of_mem _ (hin i hi hne)
theorem lay_fold {m : Nat} (F : FullM m) : ∀ (l : List Int) (n : Nat) (owner : Array (Option Nat)), OwnL m n owner → n + l.length ≤ m →
    ∃ o2, l.foldl (stepF m) (some (owner, n)) = some (o2, n + l.length) ∧ OwnL m (n + l.length) o2
  | [], n, owner, O, _ => ⟨owner, rfl, O⟩
  | h :: l, n, owner, O, hl => by
    rw [List.length_cons] at hl ⊢
    obtain ⟨j, e, O2⟩ := O.step F (by omega) h
    obtain ⟨o2, q, O3⟩ := lay_fold F l (n + 1) _ O2 (by omega)
    refine ⟨o2, ?_, by rw [show n + (l.length + 1) = n + 1 + l.length by omega]; exact O3⟩
    rw [List.foldl_cons, stepF_some e, q, show n + (l.length + 1) = n + 1 + l.length by omega]
theorem lay_ok {m : Nat} (F : FullM m) {hs : Array Int} (hn : hs.size ≤ m) : ∃ owner, SetTable.layClean m hs = some owner ∧ OwnL m hs.size owner := by
  have O0 : OwnL m 0 (Array.replicate (m + 1) none) := ⟨by simp, fun k hk => absurd hk (Nat.not_lt_zero _), [], rfl, fun j hj e => absurd (oAt_init hj) e⟩
  obtain ⟨o, e, O⟩ := lay_fold F hs.toList 0 _ O0 (by rw [Array.length_toList]; omega)
  rw [Array.length_toList, Nat.zero_add] at O
  exact ⟨o, by rw [layClean_eq, e]; rfl, O⟩
theorem laid_ok {m f mv : Nat} {ld pl : Bool} (F : FullM m) {hs : Array Int} (hn : hs.size ≤ m) : ∃ t order, SetTable.laid m f mv ld pl hs = some (t, order) ∧ order.toList.Perm (List.range hs.size) ∧ Ris t.place.toList ∧
    t.place.size = hs.size ∧ t.mask = m ∧ t.led = ld ∧ t.plain = pl ∧ t.dummies = #[] := by
  obtain ⟨owner, e, O⟩ := lay_ok F hn
  have hr : SetTable.laid m f mv ld pl hs = some ({ mask := m, place := ((liveOf m owner).map (·.1)).toArray, dummies := #[], finger := f, led := ld, moves := mv, plain := pl }, ((liveOf m owner).map (·.2)).toArray) := by
    show (SetTable.layClean m hs).bind _ = _
    rw [e] <;> rfl
  have r1 : Ris ((liveOf m owner).map (·.1)) := (ris_live (fun j => owner.getD j none) (List.range (m + 1)) (by unfold Ris; first | exact List.pairwise_lt_range | exact List.pairwise_lt_range _)).1
  have nd : ((liveOf m owner).map (·.1)).Nodup := List.Pairwise.imp (fun h => Nat.ne_of_lt h) r1
  have cov : ∀ k, k < hs.size → k ∈ (liveOf m owner).map (·.2) := fun k hk => by
    obtain ⟨j, b1, b2⟩ := O.all k hk
    exact List.mem_map.mpr ⟨(j, k), (mem_live O.sz).2 ⟨b1, b2⟩, rfl⟩
  have len : (liveOf m owner).length = hs.size := by
    obtain ⟨ps, p1, p2⟩ := O.ps
    have a := nat_nodup_len ((liveOf m owner).map (·.1)) ps nd fun x hx => by
      obtain ⟨⟨y, k⟩, hq, rfl⟩ := List.mem_map.mp hx
      obtain ⟨b1, b2⟩ := (mem_live O.sz).1 hq
      exact p2 y b1 (by rw [b2]; simp)
    have b := nat_nodup_len (List.range hs.size) ((liveOf m owner).map (·.2)) List.nodup_range fun k hk => cov k (List.mem_range.mp hk)
    rw [List.length_map, p1] at a
    rw [List.length_map, List.length_range] at b
    omega
  exact ⟨_, _, hr, perm_range hs.size _ (by simp [len]) cov, r1, by simp [len], rfl, rfl, rfl, rfl⟩
theorem mask_ok {n : Nat} (h : n < 256) : FullM (SetTable.sizeAbove n - 1) ∧ n ≤ SetTable.sizeAbove n - 1 := by
  have key : ∀ n, n < 256 → (SetTable.sizeAbove n = 8 ∨ SetTable.sizeAbove n = 16 ∨ SetTable.sizeAbove n = 32 ∨ SetTable.sizeAbove n = 64 ∨ SetTable.sizeAbove n = 128 ∨ SetTable.sizeAbove n = 256) ∧ n ≤ SetTable.sizeAbove n - 1 := by decide +kernel
  obtain ⟨k, k2⟩ := key n h
  refine ⟨?_, k2⟩
  rcases k with k | k | k | k | k | k <;> rw [k] <;> apply FullM.of <;> first | exact chk7 | exact chk15 | exact chk31 | exact chk63 | exact chk127 | exact chk255
end G

/-! One set of numbers poured into another. -/
namespace G
open PySem PySem.Spec PyProof.Rows L2

theorem setRoomFor_eq (a : Addr) (more : Nat) : setRoomFor a more = (do
    if let some wanted := (← setState a).2.2.roomFor more then setRelay a wanted) := by rfl
theorem setMerge_eq (s o : Addr) (each : Sem Unit) : setMerge s o each = (do
  if s == o then return
  let (eo, epoch, to) ← setState o
  if eo.isEmpty then return
  setRoomFor s eo.size
  let (_, _, ts) ← setState s
  match ts.road to with
  | .slotForSlot => storeSet s eo { to with finger := ts.finger, led := ts.led && to.led, moves := ts.moves, plain := ts.plain && to.plain }
  | .clean =>
    let (es, t) ← (do
      let some (t, order) := (SetTable.laid ts.mask ts.finger ts.moves (led := ts.led && to.led) (plain := ts.plain && to.plain) (eo.map (·.1))) | unsupported "internal:set-table-without-room"
      let es' := order.filterMap (eo[·]?)
      if es'.size != eo.size then unsupported "internal:set-table-lost-an-element"
      pure (es', t) : Sem (Array (Int × Value) × SetTable))
    storeSet s es t
  | .oneByOne =>
    for (h, x) in ← setWalkUnseen o [s] (some s) do
      let _ ← holding [x] (setAddHashed s x h)
      each
      if (← setState o).2.1 != epoch then unsupported "set.changed-during-merge") := by rfl
theorem setWalk_eq (a : Addr) : setWalk a = (do
  let (es, epoch, t) ← setState a
  if ← setsByText then return pickOrder ((← ask).params.setOrder a epoch) es
  if (!t.plain && es.size > 1) then return (← drawOrder es.size es.toList).toArray
  (do if !t.led && es.size > 1 then unsupported "set:maker-not-led" : Sem Unit)
  return es) := by rfl
section
variable {P : Program} {w : World} {A : Around} {E : Value → Shared → Prop} {s : Shared} {a b : Addr} {S : Int → Bool} {n : Nat}
theorem order_perm {es : Array (Int × Value)} {order : Array Nat} (h : order.toList.Perm (List.range es.size)) : (order.filterMap (es[·]?)).toList.Perm es.toList := by
  rw [Array.toList_filterMap]
  exact (h.filterMap _).trans (by rw [filterMap_getElem?_range])
theorem relay_raw {o : Obj} {es : Array (Int × Value)} {ep : Nat} {t : SetTable} (ho : s.heap.get? a = some o) (hd : o.data = .set es ep t) (hf : t.fits es.size = true) {wanted : Nat} (h256 : wanted < 256) (hn : es.size ≤ wanted) {Q : Unit → Shared → Prop}
    (hQ : ∀ es' t', es'.toList.Perm es.toList → Ris t'.place.toList → t'.place.size = es'.size → t'.dummies = #[] → t'.mask = SetTable.sizeAbove wanted - 1 → es'.size ≤ t'.mask → t'.led = t.led → Q () { s with heap := s.heap.update a (Obj.putSet es' t') }) :
    wpAny (model P w) A (setRelay a wanted) Q E s := by
  obtain ⟨F, hm⟩ := mask_ok h256
  obtain ⟨t', order, e, pm, rs, sz, mk, ld, _, dm⟩ := laid_ok (f := t.finger) (mv := t.movedTo (SetTable.sizeAbove wanted - 1)) (ld := t.led) (pl := t.plain) F (hs := es.map (·.1)) (by rw [Array.size_map]; omega)
  rw [Array.size_map] at pm sz
  have e' : t.relaid (es.map (·.1)) wanted = some (t', order) := e
  have pm2 := order_perm pm
  have hs2 : (order.filterMap (es[·]?)).size = es.size := by rw [← Array.length_toList, pm2.length_eq, Array.length_toList]
  have hline : ¬ SetTable.sizeAbove wanted > sizeLine := by
    have key : ∀ n, n < 256 → SetTable.sizeAbove n ≤ 256 := by decide +kernel
    have := key wanted h256
    rw [sizeLine_eq]
    omega
  rw [setRelay_eq]
  refine wpAny_bind (wpAny_setState_of ho hd hf ?_)
  dsimp only
  refine wp_if_neg hline ?_
  rw [e']
  dsimp only
  refine wpAny_bind ?_
  refine wp_if_neg (by rw [hs2]; simp) ?_
  refine wpAny_pure ?_
  dsimp only
  refine wpAny_storeSet_of ho hd ?_ (by rw [hs2, sizeLine_eq]; omega)
  exact hQ _ _ pm2 rs (by rw [sz, hs2]) dm mk (by rw [hs2, mk]; omega) ld
/-- a set without members and its mask -/
def Emp (w : World) (h : Heap) (a : Addr) (m : Nat) : Prop := ∃ o ep t, h.get? a = some o ∧ o.ExactSet ∧ o.data = .set #[] ep t ∧ t.place = #[] ∧ t.dummies = #[] ∧ t.mask = m ∧ (w.params.followText "set-order" = true ∨ t.led = true)
theorem fits_of {t : SetTable} {n : Nat} (h1 : t.place.size = n) (h2 : t.dummies = #[]) (h3 : n ≤ t.mask) : t.fits n = true := by
  unfold SetTable.fits SetTable.fill
  rw [h2, Bool.and_eq_true, beq_iff_eq, decide_eq_true_eq]
  exact ⟨h1, by rw [h1]; exact h3⟩
/-- room for more, in one that has none -/
theorem room_emp (R : Emp w s.heap a 7) {k : Nat} (hk : k < 128) {Q : Unit → Shared → Prop}
    (hQ : ∀ h' m, Heap.SameBut a s.heap h' → Emp w h' a m → FullM m → k ≤ m → Q () { s with heap := h' }) : wpAny (model P w) A (setRoomFor a k) Q E s := by
  obtain ⟨o, ep, t, ho, hex, hd, hp, hdm, hm, hl⟩ := R
  have hf : t.fits (#[] : Array (Int × Value)).size = true := fits_of (by rw [hp]; rfl) hdm (Nat.zero_le _)
  rw [setRoomFor_eq]
  refine wpAny_bind (wpAny_setState_of ho hd hf ?_)
  dsimp only
  have hr : t.roomFor k = if k * 5 ≥ 21 then some (k * 2) else none := by
    unfold SetTable.roomFor SetTable.fill
    rw [hp, hdm, hm]
    show (if (0 + 0 + k) * 5 ≥ 7 * 3 then some ((0 + k) * 2) else none) = _
    simp only [Nat.zero_add, Nat.add_zero]
  rw [hr]
  split
  · rename_i c e
    split at e
    · cases e
      refine relay_raw ho hd hf (by omega) (Nat.zero_le _) fun es' t' pm rs sz dm mk le ld => ?_
      have he : es' = #[] := Array.toList_eq_nil_iff.mp (List.Perm.eq_nil pm)
      subst he
      obtain ⟨F, hm2⟩ := mask_ok (n := k * 2) (by omega)
      exact hQ _ _ (Heap.SameBut.update s.heap a _) ⟨_, _, t', store_at ho hd, ⟨hex.1, hex.2.1, hex.2.2⟩, rfl, Array.size_eq_zero_iff.mp sz, dm, mk, hl.imp id fun z => by rw [ld]; exact z⟩ F (by omega)
    · cases e
  · rename_i e
    split at e
    · exact absurd rfl (e _)
    · exact wpAny_pure (hQ s.heap 7 (Heap.SameBut.refl a s.heap) ⟨o, ep, t, ho, hex, hd, hp, hdm, hm, hl⟩ (FullM.of chk7) (by omega))
/-- room for more, in one that has some -/
theorem room_more (R : SetR w s.heap a S n) {k : Nat} (hk : n + k < 128) {Q : Unit → Shared → Prop}
    (hQ : ∀ h', Heap.SameBut a s.heap h' → SetR w h' a S n → Q () { s with heap := h' }) : wpAny (model P w) A (setRoomFor a k) Q E s := by
  obtain ⟨o, es, ep, t, ho, hex, hd, g, nd, hm, hb, hf, hn, hr, hl⟩ := R
  have hps : t.place.size = n := by
    unfold SetTable.fits at hf
    rw [Bool.and_eq_true, beq_iff_eq] at hf
    rw [hf.1, hn]
  rw [setRoomFor_eq]
  refine wpAny_bind (wpAny_setState_of ho hd hf ?_)
  dsimp only
  split
  · rename_i c e
    unfold SetTable.roomFor at e
    split at e
    · cases e
      rw [hps]
      refine relay_raw ho hd hf (by omega) (by omega) fun es' t' pm rs sz dm mk le ld => ?_
      have hs2 : es'.size = es.size := by rw [← Array.length_toList, pm.length_eq, Array.length_toList]
      exact hQ _ (Heap.SameBut.update s.heap a _) ⟨_, es', _, t', store_at ho hd, ⟨hex.1, hex.2.1, hex.2.2⟩, rfl, fun e he => g e (pm.mem_iff.mp he), (pm.map keyOf).nodup_iff.mpr nd, fun k => (hm k).trans (pm.map keyOf).mem_iff.symm,
        by rw [hs2]; exact hb, fits_of sz dm le, by rw [hs2, hn], rs, hl.imp id fun z => by rw [ld]; exact z⟩
    · cases e
  · exact wpAny_pure (hQ s.heap (Heap.SameBut.refl a s.heap) ⟨o, es, ep, t, ho, hex, hd, g, nd, hm, hb, hf, hn, hr, hl⟩)
/-- poured into one without members -/
theorem merge_emp {each : Sem Unit} (R : Emp w s.heap a 7) (R2 : SetR w s.heap b S n) (hab : a ≠ b) (hn : n < 128) {Q : Unit → Shared → Prop}
    (hQ : ∀ h', 0 < n → Heap.SameBut a s.heap h' → SetR w h' a S n → Q () { s with heap := h' }) (hQ0 : n = 0 → Q () s) : wpAny (model P w) A (setMerge a b each) Q E s := by
  obtain ⟨o, es, ep, t, ho, hex, hd, g, nd, hm, hb, hf, hn2, hr, hl⟩ := R2
  rw [setMerge_eq]
  refine wp_if_neg (by simp [hab]) ?_
  refine wpAny_bind (wpAny_setState_of ho hd hf ?_)
  dsimp only
  by_cases he : es.size = 0
  · refine wp_if_pos (by simp [Array.isEmpty, he]) (wpAny_pure (hQ0 (by omega)))
  refine wp_if_neg (by simp [Array.isEmpty, he]) ?_
  refine wpAny_bind (room_emp R (by omega) fun h' m sb R' F hle => ?_)
  obtain ⟨oa, epa, ta, hoa, hexa, hda, hpa, hdma, hma, hla⟩ := R'
  have hfa : ta.fits (#[] : Array (Int × Value)).size = true := fits_of (by rw [hpa]; rfl) hdma (Nat.zero_le _)
  refine wpAny_bind (wpAny_setState_of (s := { s with heap := h' }) hoa hda hfa ?_)
  dsimp only
  have hled : w.params.followText "set-order" = true ∨ (ta.led && t.led) = true := by
    rcases hl with l | l
    · exact .inl l
    · rcases hla with l2 | l2
      · exact .inl l2
      · exact .inr (by rw [l, l2]; rfl)
  have hroad : ta.road t ≠ .oneByOne := by
    unfold SetTable.road SetTable.fill
    rw [hpa, hdma]
    split
    · rename_i c; simp at c
    · split <;> simp
  split
  · refine wpAny_storeSet_of (s := { s with heap := h' }) hoa hda ?_ (fits_of_scanBound hb)
    exact hQ _ (by omega) (sb.trans (Heap.SameBut.update _ a _)) ⟨_, es, _, _, store_at hoa hda, ⟨hexa.1, hexa.2.1, hexa.2.2⟩, rfl, g, nd, hm, hb, hf, hn2, hr, hled⟩
  · obtain ⟨t', order, e, pm, rs, sz, mk, ld, _, dm⟩ := laid_ok (f := ta.finger) (mv := ta.moves) (ld := ta.led && t.led) (pl := ta.plain && t.plain) F (hs := es.map (·.1)) (by rw [Array.size_map]; omega)
    rw [Array.size_map] at pm sz
    have pm2 := order_perm pm
    have hs2 : (order.filterMap (es[·]?)).size = es.size := by rw [← Array.length_toList, pm2.length_eq, Array.length_toList]
    rw [hma, e]
    dsimp only
    refine wpAny_bind ?_
    refine wp_if_neg (by rw [hs2]; simp) ?_
    refine wpAny_pure ?_
    dsimp only
    refine wpAny_storeSet_of (s := { s with heap := h' }) hoa hda ?_ (by rw [hs2]; exact fits_of_scanBound hb)
    exact hQ _ (by omega) (sb.trans (Heap.SameBut.update _ a _)) ⟨_, _, _, t', store_at hoa hda, ⟨hexa.1, hexa.2.1, hexa.2.2⟩, rfl, fun e he => g e (pm2.mem_iff.mp he), (pm2.map keyOf).nodup_iff.mpr nd, fun k => (hm k).trans (pm2.map keyOf).mem_iff.symm,
      by rw [hs2]; exact hb, fits_of (by rw [sz, hs2]) dm (by rw [hs2, mk]; omega), by rw [hs2, hn2], rs, by rw [ld]; exact hled⟩
  · rename_i c
    exact absurd c hroad
end
end G

/-! One set of numbers poured into another that has members; set(d), a | b. -/
namespace G
open PySem PySem.Spec PyProof.Rows L2
section
variable {P : Program} {w : World} {A : Around} {E : Value → Shared → Prop} {s : Shared} {a b : Addr} {S S2 : Int → Bool} {n n2 : Nat}
theorem walk_raw {o : Obj} {es : Array (Int × Value)} {ep : Nat} {t : SetTable} (ho : s.heap.get? a = some o) (hd : o.data = .set es ep t) (hf : t.fits es.size = true) (hl : w.params.followText "set-order" = true ∨ t.led = true)
    {Q : Array (Int × Value) → Shared → Prop} (hQ : ∀ es' d, es'.toList.Perm es.toList → Q es' { s with drawn := d }) : wpAny (model P w) A (setWalk a) Q E s := by
  have h0 : s = { s with drawn := s.drawn } := rfl
  rw [setWalk_eq]
  refine wpAny_bind (wpAny_setState_of ho hd hf ?_)
  dsimp only
  refine wpAny_bind (wpAny_byText ?_)
  split
  · refine wpAny_bind (wpAny_askSetting ?_)
    exact wpAny_pure (hQ _ s.drawn (pick_perm _ _))
  · rename_i c
    split
    · refine wpAny_bind (drawOrder_at _ _ _ _ (by rw [Array.length_toList]; exact Nat.le_refl _) fun ys d pm => ?_)
      exact wpAny_pure (hQ _ d (by simpa using pm))
    · have l : t.led = true := hl.resolve_left c
      refine wpAny_bind (wp_if_neg (by rw [l]; simp) (wpAny_pure ?_))
      exact wpAny_pure (hQ _ s.drawn (List.Perm.refl _))
theorem quiet_two (R : SetR w s.heap a S n) (R2 : SetR w s.heap b S2 n2) {Q : Bool → Shared → Prop} (hQ : Q true s) : wpAny (model P w) A (setsQuiet [b, a]) Q E s := by
  obtain ⟨o, es, ep, t, ho, hex, hd, g, nd, hm, hb, hf, hn, hr, hl⟩ := R
  obtain ⟨o2, es2, ep2, t2, ho2, hex2, hd2, g2, nd2, hm2, hb2, hf2, hn2, hr2, hl2⟩ := R2
  unfold setsQuiet setEntries
  simp only [List.forIn_cons, List.forIn_nil, bind_assoc]
  refine wpAny_bind (wpAny_setState_of ho2 hd2 hf2 ?_)
  dsimp only
  try refine wpAny_bind (wpAny_pure ?_)
  refine wpAny_bind ?_
  rw [← Array.forIn_toList]
  refine wpAny_forIn_list _ (fun rest r s' => r.1 = none ∧ s' = s ∧ ∀ e ∈ rest, GoodE e) _ ?_ ?_ _ _ ⟨rfl, rfl, g2⟩
  · rintro ⟨h, x⟩ rest r s' ⟨hr0, rfl, gg⟩
    obtain ⟨k, tk, hx, _⟩ := gg _ List.mem_cons_self
    simp only at hx
    subst hx
    exact wpAny_pure ⟨rfl, rfl, fun e he => gg e (List.mem_cons_of_mem _ he)⟩
  rintro r s' ⟨hr0, rfl, _⟩
  rw [hr0]
  refine wpAny_bind (wpAny_pure (wpAny_bind ?_))
  refine wpAny_bind (wpAny_setState_of ho hd hf (wpAny_bind (wpAny_pure (wpAny_bind ?_))))
  rw [← Array.forIn_toList]
  refine wpAny_forIn_list _ (fun rest r s'' => r.1 = none ∧ s'' = s' ∧ ∀ e ∈ rest, GoodE e) _ ?_ ?_ _ _ ⟨rfl, rfl, g⟩
  · rintro ⟨h, x⟩ rest r s'' ⟨hr0, rfl, gg⟩
    obtain ⟨k, tk, hx, _⟩ := gg _ List.mem_cons_self
    simp only at hx
    subst hx
    exact wpAny_pure ⟨rfl, rfl, fun e he => gg e (List.mem_cons_of_mem _ he)⟩
  rintro r2 s'' ⟨hr2, rfl, _⟩
  rw [hr2]
  exact wpAny_bind (wpAny_pure (wpAny_pure (wpAny_pure hQ)))
/-- the walk of the one poured in: its members in some order; the other may lose a mark -/
theorem unseen_at (R : SetR w s.heap a S n) (R2 : SetR w s.heap b S2 n2) (hab : a ≠ b) {Q : Array (Int × Value) → Shared → Prop}
    (hQ : ∀ es' h' d, (∀ e ∈ es'.toList, GoodE e) → (∀ k, S2 k = true ↔ k ∈ es'.toList.map keyOf) → es'.size = n2 → Heap.SameBut a s.heap h' → SetR w h' a S n → Q es' { s with heap := h', drawn := d }) :
    wpAny (model P w) A (setWalkUnseen b [a] (some a)) Q E s := by
  have R0 := R
  have R20 := R2
  obtain ⟨o, es, ep, t, ho, hex, hd, g, nd, hm, hb, hf, hn, hr, hl⟩ := R
  obtain ⟨o2, es2, ep2, t2, ho2, hex2, hd2, g2, nd2, hm2, hb2, hf2, hn2, hr2, hl2⟩ := R2
  have walk : wpAny (model P w) A (setWalk b) Q E s := walk_raw ho2 hd2 hf2 hl2 fun es' d pm => hQ es' s.heap d (fun e he => g2 e (pm.mem_iff.mp he)) (fun k => (hm2 k).trans (pm.map keyOf).mem_iff.symm)
    (by rw [← Array.length_toList, pm.length_eq, Array.length_toList, hn2]) (Heap.SameBut.refl a s.heap) R0
  unfold setWalkUnseen
  refine wpAny_bind (wpAny_setState_of ho2 hd2 hf2 ?_)
  dsimp only
  refine wpAny_bind (wpAny_byText ?_)
  split
  · exact walk
  rename_i c
  refine wpAny_bind (quiet_two R0 R20 ?_)
  refine wp_if_neg (by simp) ?_
  try refine wpAny_bind (wpAny_pure ?_)
  refine wpAny_bind (wpAny_rule ?_)
  refine wpAny_bind (wpAny_setState_of ho hd hf ?_)
  try dsimp only
  have h0 : s = { s with heap := s.heap, drawn := s.drawn } := rfl
  split
  · refine wpAny_bind (wpAny_storeSet_of ho hd ?_ (fits_of_scanBound hb))
    refine wpAny_pure (hQ es2 _ s.drawn g2 hm2 hn2 (Heap.SameBut.update s.heap a _) ⟨_, es, _, _, store_at ho hd, ⟨hex.1, hex.2.1, hex.2.2⟩, rfl, g, nd, hm, hb, hf, hn, hr, ?_⟩)
    rcases hl with l | l
    · exact .inl l
    · rcases hl2 with l2 | l2
      · exact .inl l2
      · exact .inr (by rw [l, l2]; rfl)
  · exact wpAny_pure (hQ es2 s.heap s.drawn g2 hm2 hn2 (Heap.SameBut.refl a s.heap) R0)
/-- poured into one with members -/
theorem merge_more {each : Sem Unit} (hE : ∀ (s1 : Shared) (Q' : Unit → Shared → Prop), s1.heap.get? b = s.heap.get? b → Q' () s1 → wpAny (model P w) A each Q' E s1) (R : SetR w s.heap a S n) (R2 : SetR w s.heap b S2 n2) (hab : a ≠ b) (hn0 : 0 < n) (hn : n + n2 < 128) {Q : Unit → Shared → Prop}
    (hQ : ∀ h' d n', Heap.SameBut a s.heap h' → SetR w h' a (fun k => S k || S2 k) n' → Q () { s with heap := h', drawn := d }) : wpAny (model P w) A (setMerge a b each) Q E s := by
  have R20 := R2
  obtain ⟨o2, es2, ep2, t2, ho2, hex2, hd2, g2, nd2, hm2, hb2, hf2, hn2, hr2, hl2⟩ := R2
  rw [setMerge_eq]
  refine wp_if_neg (by simp [hab]) ?_
  refine wpAny_bind (wpAny_setState_of ho2 hd2 hf2 ?_)
  dsimp only
  by_cases he : es2.size = 0
  · refine wp_if_pos (by simp [Array.isEmpty, he]) (wpAny_pure (hQ s.heap s.drawn n (Heap.SameBut.refl a s.heap) (R.congr fun k => ?_)))
    have : S2 k = false := by
      cases z : S2 k with
      | false => rfl
      | true =>
        have q := (hm2 k).1 z
        rw [Array.size_eq_zero_iff.mp he] at q
        simp at q
    rw [this, Bool.or_false]
  refine wp_if_neg (by simp [Array.isEmpty, he]) ?_
  refine wpAny_bind (room_more R (by omega) fun h' sb R' => ?_)
  have R2' : SetR w h' b S2 n2 := R20.at fun o e => (sb.2 b (Ne.symm hab)).trans e
  have R'0 := R'
  obtain ⟨o, es, ep, t, ho, hex, hd, g, nd, hm, hb, hf, hn3, hr, hl⟩ := R'
  refine wpAny_bind (wpAny_setState_of (s := { s with heap := h' }) ho hd hf ?_)
  dsimp only
  have hps : t.place.size = n := by
    unfold SetTable.fits at hf
    rw [Bool.and_eq_true, beq_iff_eq] at hf
    rw [hf.1, hn3]
  have hroad : t.road t2 = .oneByOne := by
    unfold SetTable.road SetTable.fill
    rw [if_pos (by simp only [bne_iff_ne, ne_eq]; omega)]
  rw [hroad]
  dsimp only
  refine wpAny_bind (unseen_at (s := { s with heap := h' }) R'0 R2' hab fun es' h2 d ge me se sb2 R3 => ?_)
  have sbA : Heap.SameBut a s.heap h2 := sb.trans sb2
  try refine wpAny_bind ?_
  rw [← Array.forIn_toList]
  refine wpAny_forIn_list _ (fun rest _ s' => ∃ hx, ∃ dx, ∃ nx : Nat, ∃ Sx : Int → Bool, ∃ done : List (Int × Value), s' = { s with heap := hx, drawn := dx } ∧ Heap.SameBut a s.heap hx ∧ SetR w hx a Sx nx ∧ es'.toList = done ++ rest ∧ (∀ k, Sx k = true ↔ S k = true ∨ k ∈ done.map keyOf) ∧ nx ≤ n + done.length) _ ?_ ?_ _ _
    ⟨h2, d, n, S, [], rfl, sbA, R3, rfl, fun k => by simp, Nat.le_refl _⟩
  · rintro ⟨hh, x⟩ rest r s' ⟨hx, dx, nx, Sx, dn, rfl, sbx, Rx, eq, mx, lx⟩
    obtain ⟨k, tk, e1, e2⟩ := ge (hh, x) (by rw [eq]; simp)
    simp only at e1 e2
    subst e1 e2
    dsimp only
    have hlen : dn.length + (rest.length + 1) = n2 := by
      rw [← se, ← Array.length_toList, eq, List.length_append, List.length_cons]
    refine wpAny_bind (wpAny_holding (setR_add_hashed (s := { s with heap := hx, drawn := dx }) Rx (by unfold scanBound; omega) fun hy sby Ry => ?_))
    have sbz : Heap.SameBut a s.heap hy := sbx.trans sby
    refine wpAny_bind (hE { s with heap := hy, drawn := dx } _ (sbz.2 b (Ne.symm hab)) ?_)
    have ho2' : hy.get? b = some o2 := (sbz.2 b (Ne.symm hab)).trans ho2
    refine wpAny_bind (wpAny_setState_of (s := { s with heap := hy, drawn := dx }) ho2' hd2 hf2 ?_)
    dsimp only
    refine wp_if_neg (by simp) ?_
    refine wpAny_pure ⟨hy, dx, _, _, dn ++ [(hashInt k, .int k tk)], rfl, sbz, Ry, by rw [eq, List.append_assoc]; rfl, fun j => ?_, ?_⟩
    · rw [Bool.or_eq_true, decide_eq_true_eq, mx j, List.map_append, List.mem_append]
      simp [keyOf, or_assoc]
    · rw [List.length_append, List.length_singleton]
      split <;> omega
  · rintro r s' ⟨hx, dx, nx, Sx, dn, rfl, sbx, Rx, eq, mx, lx⟩
    rw [List.append_nil] at eq
    refine wpAny_pure (hQ hx dx nx sbx (Rx.congr fun k => ?_))
    rw [Bool.eq_iff_iff, Bool.or_eq_true, mx k, me k, eq]
end
end G

/-! set(d) of a dict with numbers as keys. -/
namespace G
open PySem PySem.Spec PyProof.Rows L2
abbrev freshSet (w : World) : Obj := { cls := .type "set", dict := none, data := .set #[] 0 (.fresh 0 0 (!w.params.followText "set-order")) }
section
variable {P : Program} {w : World} {A : Around} {E : Value → Shared → Prop} {s : Shared} {a b : Addr}
theorem fresh_led : w.params.followText "set-order" = true ∨ (!w.params.followText "set-order") = true := by
  cases w.params.followText "set-order"
  · exact .inr rfl
  · exact .inl rfl
theorem fresh_emp {h : Heap} (ho : h.get? a = some (freshSet w)) : Emp w h a 7 := ⟨_, 0, _, ho, ⟨rfl, rfl, rfl⟩, rfl, rfl, rfl, rfl, fresh_led⟩
theorem emp_setR {h : Heap} {m : Nat} (R : Emp w h a m) : SetR w h a (fun _ => false) 0 := by
  obtain ⟨o, ep, t, ho, hex, hd, hp, hdm, hm, hl⟩ := R
  exact ⟨o, #[], ep, t, ho, hex, hd, fun e he => by simp at he, by simp, fun k => by simp, by decide, fits_of (by rw [hp]; rfl) hdm (Nat.zero_le _), rfl, by rw [hp]; exact List.Pairwise.nil, hl⟩
/-- a dict with numbers as keys -/
structure IntD (h : Heap) (d : Addr) (o : Obj) (es : Array DictEntry) (ep : Nat) (ks : List Int) : Prop where
  ho : h.get? d = some o
  hd : o.data = .dict es ep
  len : es.size = ks.length
  key : ∀ (i : Nat) (k : Int), ks[i]? = some k → ∃ e : DictEntry, ∃ tk, es[i]? = some e ∧ e.key = Value.int k tk ∧ e.hash = hashInt k
theorem code_set_led1 (a : Value) {Q₁ : Value → Shared → Prop}
    (h : Q₁ (.ref s.heap.objs.size) { s with heap := s.heap.push (freshSet w) }) :
    codeAny (model P w) A (.call (.builtin "set.__new__") ⟨[.type "set", a], []⟩) (wants Q₁ E) s := by
  refine codeAny_of_tree ?_
  show wpAny _ A.in1 (do checkBuiltinCall "set.__new__" ⟨[.type "set", a], []⟩; again (.builtin "set.__new__" ⟨[.type "set", a], []⟩)) _ _ s
  refine wpAny_bind (wpAny_of_eq (PySem.F.newCall_set_1 a) (wpAny_pure ⟨plainId_quiet PySem.F.plain_set_new _, codeAny_builtin PySem.F.entry_set_new ?_⟩))
  rw [Around.under_plainId PySem.F.plain_set_new _]
  unfold Builtin.«set.__new__» Builtin.Frozenset.newClass
  have hsub := sub_set_self
  obtain ⟨hp, g, d, tk, os⟩ := s
  dsimp only
  wp_walk
  refine wpAny_askSetting (wpAny_pure ?_)
  dsimp only
  simp only [newObj]
  refine wpAny_bind (wpAny_alloc (wpAny_pure ?_))
  exact wpAny_pure h
theorem call_set_dict {d : Addr} {ob : Obj} {es : Array DictEntry} {ep : Nat} {ks : List Int} {Q : Value → Shared → Prop} (D : IntD s.heap d ob es ep ks) (hc : ob.cls = .type "dict") (hdn : ob.dict = none) (hsys : (d == sysModules) = false) (hfew : ks.length < 128)
    (h : ∀ h' tk n', (∀ c o, s.heap.get? c = some o → h'.get? c = some o) → SetR w h' s.heap.objs.size (fun k => decide (k ∈ ks)) n' → n' ≤ ks.length → Q (.ref s.heap.objs.size) { s with heap := h', toks := tk }) : wpAny (model P w) A (call (.type "set") [.ref d]) Q E s := by
  obtain ⟨c, tl, hmro⟩ := PySem.F.called_set.mro
  have hmade := PySem.F.called_set.made
  have hsub := PySem.F.called_set.sub
  refine wpAny_call (codeAny_of_tree ?_)
  show wpAny _ _ (callAny (.type "set") _) _ _ _
  refine wpAny_pure ⟨Code.quiet_builtin _ (by decide +kernel), codeAny_builtin PySem.F.entry_type_call ?_⟩
  rw [Around.under_plain (weight_type_call_type "set" [.ref d] []) rfl]
  have h1 := PySem.F.called_set.notType
  have h2 := PySem.F.called_set.canCreate
  have hct := PySem.F.typeCall_set_1 (.ref d)
  repeat (any_goals (first | assumption | wp_step))
  refine codeAny_mono (code_set_led1 (.ref d) (E := E) (Q₁ := fun obj s₁ => obj = .ref s.heap.objs.size ∧ s₁ = { s with heap := s.heap.push (freshSet w) }) ⟨rfl, rfl⟩) fun r s₁ hr => ?_
  cases r with
  | error e => exact hr
  | ok fl =>
    cases fl with
    | ret obj =>
      obtain ⟨rfl, rfl⟩ := hr
      have hS : (s.heap.push (freshSet w)).get? s.heap.objs.size = some (freshSet w) := Heap.get?_push_size _ rfl
      have hT : Shared.TypeIs { s with heap := s.heap.push (freshSet w) } (.ref s.heap.objs.size) "set" := ⟨_, hS, rfl⟩
      have hli := PySem.F.called_set.init.lookup
      have hbi := PySem.F.called_set.init.bind (.ref s.heap.objs.size)
      repeat (any_goals (first | assumption | wp_step))
      refine codeAny_mono (codeAny_call_builtin (R := wants (fun r s₂ => r = .none ∧ Q (.ref s.heap.objs.size) s₂) E) PySem.F.called_set.init.plain PySem.F.entry_set_init (check_set_init_1 hT ?_)) fun r₂ s₂ hr₂ => ?_
      · obtain ⟨ho, hd, hlen, hkey⟩ := D
        have hne : s.heap.objs.size ≠ d := Nat.ne_of_gt (Heap.lt_size ho)
        obtain ⟨ocls, odict, odata, oslots⟩ := ob
        simp only at hc hdn hd
        subst hc hdn hd
        have ho' : (s.heap.push (freshSet w)).get? d = some { cls := .type "dict", dict := none, data := .dict es ep, slots := oslots } := Heap.get?_push_of_some _ ho
        have hs1 := PySem.F.sub_dict_set
        have hs2 := PySem.F.sub_dict_frozenset
        unfold Builtin.«set.__init__» noKeywords Builtin.Frozenset.updateFrom
        generalize hSR : setRoomFor = SR
        generalize hFI : @forIn Sem Std.Legacy.Range Nat _ PUnit = FI
        wp_walk
        subst hSR
        refine room_emp (s := { s with heap := s.heap.push (freshSet w) }) (fresh_emp hS) (by rw [hlen]; exact hfew) fun h' m sb R F hle => ?_
        have ho2 : h'.get? d = some { cls := .type "dict", dict := none, data := .dict es ep, slots := oslots } := (sb.2 d (Ne.symm hne)).trans ho'
        wp_walk
        subst hFI
        rw [Std.Legacy.Range.forIn_eq_forIn_range']
        simp only [Std.Legacy.Range.size, Nat.sub_zero, Nat.add_sub_cancel, Nat.div_one]
        refine wpAny_forIn_list _ (fun rest _ s' => ∃ hx, ∃ nx : Nat, ∃ i, s' = { s with heap := hx } ∧ Heap.SameBut s.heap.objs.size (s.heap.push (freshSet w)) hx ∧ rest = List.range' i (es.size - i) ∧ i ≤ es.size ∧ SetR w hx s.heap.objs.size (fun k => decide (k ∈ ks.take i)) nx ∧ nx ≤ i) _ ?_ ?_ _ _
          ⟨h', 0, 0, rfl, sb, by simp, Nat.zero_le _, (emp_setR R).congr fun k => by simp, Nat.le_refl _⟩
        · rintro x rest r s' ⟨hx, nx, i, rfl, sbx, hr, hi, Rx, lx⟩
          have hlt : i < es.size := by
            rcases Nat.lt_or_ge i es.size with h | h
            · exact h
            · rw [Nat.sub_eq_zero_of_le h] at hr; simp at hr
          obtain ⟨rfl, hrest⟩ : x = i ∧ rest = List.range' (i + 1) (es.size - (i + 1)) := by
            have e : es.size - i = (es.size - (i + 1)) + 1 := by omega
            rw [e, List.range'_succ] at hr
            injection hr with h1 h2
            exact ⟨h1, h2⟩
          have hxl : x < ks.length := by rw [← hlen]; exact hlt
          obtain ⟨e, tk, q1, q2, q3⟩ := hkey x ks[x] (List.getElem?_eq_getElem hxl)
          have hox : hx.get? d = some { cls := .type "dict", dict := none, data := .dict es ep, slots := oslots } := (sbx.2 d (Ne.symm hne)).trans ho'
          refine wpAny_bind (wpAny_dictEntries (s := { s with heap := hx }) hox rfl ?_)
          rw [q1]
          dsimp only
          rw [q2, q3]
          refine wpAny_bind (wpAny_holding (setR_add_hashed (s := { s with heap := hx }) Rx (by unfold scanBound; omega) fun hy sby Ry => ?_))
          have hoy : hy.get? d = some { cls := .type "dict", dict := none, data := .dict es ep, slots := oslots } := (sby.2 d (Ne.symm hne)).trans hox
          refine wpAny_bind (wpAny_dictEpoch (s := { s with heap := hy }) hoy rfl ?_)
          refine wp_if_neg (by simp) ?_
          refine wpAny_pure ⟨hy, _, x + 1, rfl, sbx.trans sby, hrest, hlt, Ry.congr fun k => ?_, ?_⟩
          · rw [Bool.eq_iff_iff, Bool.or_eq_true, decide_eq_true_eq, decide_eq_true_eq, decide_eq_true_eq, List.take_succ, List.getElem?_eq_getElem hxl, List.mem_append]
            simp
          · split <;> omega
        · rintro r s' ⟨hx, nx, i, rfl, sbx, hr, hi, Rx, lx⟩
          have hie : i = es.size := by
            rcases Nat.lt_or_ge i es.size with h | h
            · have e : es.size - i = (es.size - (i + 1)) + 1 := by omega
              rw [e, List.range'_succ] at hr
              cases hr
            · omega
          rw [hie, hlen, List.take_length] at Rx
          refine wpAny_pure ?_
          refine wpAny_pure ⟨rfl, h hx s.toks nx (fun c o e => ?_) Rx (by omega)⟩
          exact (sbx.2 c (Nat.ne_of_lt (Heap.lt_size e))).trans (Heap.get?_push_of_some _ e)
      · cases r₂ with
        | error e => exact hr₂
        | ok fl₂ =>
          cases fl₂ with
          | ret r =>
            obtain ⟨rfl, hq⟩ := hr₂
            repeat (any_goals (first | assumption | wp_step))
          | _ => exact hr₂.elim
    | _ => exact hr.elim
end
end G

/-! a | b of two sets of numbers. -/
namespace G
open PySem PySem.Spec PyProof.Rows L2
theorem entry_set_or : entryFor table "set.__or__" = some Builtin.«frozenset.__or__» := entryFor_alias (id' := "frozenset.__or__") (by kernel_rfl) rfl (by decide +kernel) (by kernel_rfl)
section
variable {P : Program} {w : World} {A : Around} {E : Value → Shared → Prop} {s : Shared} {a b : Addr} {S S2 : Int → Bool} {n n2 : Nat}
theorem unchanged_at {id : String} {o : Obj} {es : Array (Int × Value)} {ep : Nat} {t : SetTable} (ho : s.heap.get? b = some o) (hd : o.data = .set es ep t) (hf : t.fits es.size = true) {Q : Unit → Shared → Prop} (hQ : Q () s) :
    wpAny (model P w) A (Builtin.Frozenset.unchanged id b ep) Q E s := by
  unfold Builtin.Frozenset.unchanged
  refine wpAny_bind (wpAny_setEpoch_of ho hd hf ?_)
  exact wp_if_neg (by simp) (wpAny_pure hQ)
theorem setR_none {h : Heap} (R : SetR w h a S 0) (k : Int) : S k = false := by
  obtain ⟨o1, es1, ep1, t1, ho1, hex1, hd1, g1, nd1, hm1, hb1, hf1, hn1, hr1, hl1⟩ := R
  cases z : S k with
  | false => rfl
  | true =>
    have q := (hm1 k).1 z
    rw [Array.size_eq_zero_iff.mp hn1] at q
    simp at q
/-- what a set of either kind is behind the pouring -/
def Tgt (w : World) (h : Heap) (p : Addr) (S : Int → Bool) (n : Nat) : Prop := (SetR w h p S n ∧ 0 < n) ∨ (Emp w h p 7 ∧ n = 0 ∧ ∀ k, S k = false)
theorem update_any {id : String} {p : Addr} (R : Tgt w s.heap p S n) (R2 : SetR w s.heap b S2 n2) (hpb : p ≠ b) (hn : n + n2 < 128) {Q : Unit → Shared → Prop}
    (hQ : ∀ h' d n', Heap.SameBut p s.heap h' → SetR w h' p (fun k => S k || S2 k) n' → Q () { s with heap := h', drawn := d }) : wpAny (model P w) A (Builtin.Frozenset.updateFrom id p (.ref b)) Q E s := by
  have R20 := R2
  obtain ⟨o2, es2, ep2, t2, ho2, hex2, hd2, g2, nd2, hm2, hb2, hf2, hn2, hr2, hl2⟩ := R2
  have hsub := sub_set_self
  have cb := hex2.1
  unfold Builtin.Frozenset.updateFrom
  refine wpAny_bind ?_
  refine wpAny_mono (Q := fun r s' => r = true ∧ s' = s) ?_ (fun r s' hr => ?_) (fun _ _ h => h)
  · obtain ⟨pcls, pdict, pdata, pslots⟩ := o2
    simp only at cb hd2
    subst cb hd2
    unfold Builtin.Frozenset.isAnySet
    wp_walk
    exact ⟨rfl, rfl⟩
  obtain ⟨rfl, rfl⟩ := hr
  refine wp_if_pos rfl ?_
  refine wpAny_bind (wpAny_pure ?_)
  unfold Builtin.Frozenset.merge
  refine wpAny_bind (wpAny_setEpoch_of ho2 hd2 hf2 ?_)
  have hE : ∀ (s1 : Shared) (Q' : Unit → Shared → Prop), s1.heap.get? b = s'.heap.get? b → Q' () s1 → wpAny (model P w) A (Builtin.Frozenset.unchanged id b ep2) Q' E s1 :=
    fun s1 Q' e q => unchanged_at (s := s1) (e.trans ho2) hd2 hf2 q
  rcases R with ⟨R, h0⟩ | ⟨R, h0, hS⟩
  · exact merge_more hE R R20 hpb h0 hn hQ
  · refine merge_emp R R20 hpb (by omega) (fun h' _ sb R' => ?_) fun e => ?_
    · exact hQ h' s'.drawn n2 sb (R'.congr fun k => by rw [hS k]; rfl)
    · rw [e] at R20
      refine hQ s'.heap s'.drawn 0 (Heap.SameBut.refl p s'.heap) ((emp_setR R).congr fun k => ?_)
      rw [hS k, setR_none R20 k]; rfl
theorem or_sets (R : SetR w s.heap a S n) (R2 : SetR w s.heap b S2 n2) (hab : a ≠ b) (hn : n + n2 < 128) {Q : Value → Shared → Prop}
    (h : ∀ h' d tk n', (∀ c o, s.heap.get? c = some o → h'.get? c = some o) → SetR w h' s.heap.objs.size (fun k => S k || S2 k) n' → Q (.ref s.heap.objs.size) { s with heap := h', drawn := d, toks := tk }) :
    wpAny (model P w) A (binaryOp .BitOr (.ref a) (.ref b)) Q E s := by
  have R0 := R
  have R20 := R2
  obtain ⟨o1, es1, ep1, t1, ho1, hex1, hd1, g1, nd1, hm1, hb1, hf1, hn1, hr1, hl1⟩ := R
  obtain ⟨o2, es2, ep2, t2, ho2, hex2, hd2, g2, nd2, hm2, hb2, hf2, hn2, hr2, hl2⟩ := R2
  have hTa : s.TypeIs (.ref a) "set" := ⟨_, ho1, hex1.1⟩
  have hTb : s.TypeIs (.ref b) "set" := ⟨_, ho2, hex2.1⟩
  refine wpAny_binaryOp_same hTa hTb PySem.F.fills_set_or PySem.F.slot_set_or (wpAny_call_entry PySem.F.slot_set_or hTa entry_set_or ?_ (PySem.F.args_set_or_2 _ _))
  have hsub := sub_set_self
  have ca := hex1.1
  have cb := hex2.1
  have hpa : s.heap.objs.size ≠ a := Nat.ne_of_gt (Heap.lt_size ho1)
  have hpb : s.heap.objs.size ≠ b := Nat.ne_of_gt (Heap.lt_size ho2)
  have keep : ∀ c o, s.heap.get? c = some o → (s.heap.push (freshSet w)).get? c = some o := fun c o e => Heap.get?_push_of_some _ e
  have hn2' : (s.heap.push (freshSet w)).get? s.heap.objs.size = some (freshSet w) := Heap.get?_push_size _ rfl
  obtain ⟨ocls, odict, odata, oslots⟩ := o1
  obtain ⟨pcls, pdict, pdata, pslots⟩ := o2
  simp only at ca cb hd1 hd2
  subst ca cb hd1 hd2
  unfold Builtin.«frozenset.__or__»
  wp_delta
  generalize hIA : @andM = IA
  wp_walk
  subst hIA
  refine wpAny_mono (Q := fun r s' => r = true ∧ s' = s) ?_ (fun r s' hr => ?_) (fun _ _ h => h)
  · wp_walk
    exact ⟨rfl, rfl⟩
  obtain ⟨rfl, rfl⟩ := hr
  refine wp_if_neg (by simp) ?_
  refine wpAny_bind (wpAny_pure ?_)
  refine wpAny_bind ?_
  wp_delta
  refine wpAny_bind ?_
  unfold Builtin.Frozenset.copyOf
  generalize hSM : @setMerge = SM
  generalize hUF : Builtin.Frozenset.updateFrom = UF
  wp_walk
  refine wpAny_askSetting (wpAny_pure ?_)
  dsimp only
  simp only [newObj, if_true]
  refine wpAny_bind (wpAny_alloc (wpAny_pure ?_))
  wp_walk
  subst hSM
  subst hUF
  have fin : ∀ (h1 : Heap), Heap.SameBut s'.heap.objs.size (s'.heap.push (freshSet w)) h1 → Tgt w h1 s'.heap.objs.size S n →
      wpAny (model P w) A.in1 (if (Value.ref b != Value.ref a) = true then do
        let __do_lift ← Builtin.Frozenset.addrOf (Value.ref s'.heap.objs.size)
        holding [Value.ref s'.heap.objs.size] (Builtin.Frozenset.updateFrom (toString "frozenset." ++ toString "__or__") __do_lift (Value.ref b))
        pure (Value.ref s'.heap.objs.size)
      else pure (Value.ref s'.heap.objs.size)) (fun a s' => wpAny (model P w) A.in1 (ret a) (fun fin s' => ∃ v, fin = Fin.done (Flow.ret v) ∧ v ≠ Value.notImplemented ∧ Q v s') E s') E { s' with heap := h1 } := by
    intro h1 sb T
    refine wp_if_pos (by simp [Ne.symm hab]) ?_
    refine wpAny_bind (wpAny_pure ?_)
    have R2' : SetR w h1 b S2 n2 := R20.at fun o e => (sb.2 b (Ne.symm hpb)).trans (keep b o e)
    refine wpAny_bind (wpAny_holding (update_any (s := { s' with heap := h1 }) T R2' hpb hn fun h2 d n' sb2 R3 => ?_))
    refine wpAny_pure ?_
    exact wpAny_pure ⟨_, rfl, by simp, h h2 d s'.toks n' (fun c o e => (sb2.2 c (Nat.ne_of_lt (Heap.lt_size e))).trans ((sb.2 c (Nat.ne_of_lt (Heap.lt_size e))).trans (keep c o e))) R3⟩
  have Ra : SetR w (s'.heap.push (freshSet w)) a S n := R0.at fun o e => keep a o e
  refine merge_emp (s := { s' with heap := s'.heap.push (freshSet w) }) (fresh_emp hn2') Ra hpa (by omega) (fun h1 hn0 sb R1 => ?_) fun e => ?_
  · exact wpAny_pure (fin h1 sb (.inl ⟨R1, hn0⟩))
  · refine wpAny_pure (fin _ (Heap.SameBut.refl _ _) (.inr ⟨fresh_emp hn2', e, fun k => ?_⟩))
    subst e
    exact setR_none R0 k
end
end G

/-! sorted(set(d) | set(e)). -/
namespace G
open PySem PySem.Spec PyProof.Rows L2
theorem nodup_len : ∀ (l U : List Int), l.Nodup → (∀ x ∈ l, x ∈ U) → l.length ≤ U.length
  | [], _, _, _ => Nat.zero_le _
  | x :: l, U, nd, h => by
    obtain ⟨n1, n2⟩ := List.nodup_cons.mp nd
    have hx := h x List.mem_cons_self
    have q := nodup_len l (U.erase x) n2 fun y hy => (List.mem_erase_of_ne (fun e : y = x => n1 (by rw [← e]; exact hy))).2 (h y (List.mem_cons_of_mem _ hy))
    rw [List.length_erase_of_mem hx] at q
    have : 0 < U.length := List.length_pos_of_mem hx
    rw [List.length_cons]
    omega
theorem setR_few {w : World} {h : Heap} {a : Addr} {S : Int → Bool} {n : Nat} (R : SetR w h a S n) (U : List Int) (hU : ∀ k, S k = true → k ∈ U) : n ≤ U.length := by
  obtain ⟨o1, es1, ep1, t1, ho1, hex1, hd1, g1, nd1, hm1, hb1, hf1, hn1, hr1, hl1⟩ := R
  have q := nodup_len _ U nd1 fun k hk => hU k ((hm1 k).2 hk)
  rw [List.length_map, Array.length_toList, hn1] at q
  exact q
theorem kv_key {κ : Type} : ∀ {kvs : List (κ × V)} {vs : List (κ × Value)}, KV kvs vs → vs.map (·.1) = kvs.map (·.1)
  | _, _, .nil => rfl
  | _, _, .cons h r => by rw [List.map_cons, List.map_cons, kv_key r, h.1]
theorem intD_of {P : Program} {w : World} {H : Hp} {h : Heap} {d : Addr} {kvs : List (Key × V)} {ns : List Int} (ok : HOk P w H h) (e : Rd H d (.dK kvs)) (hk : kvs.map (·.1) = ns.map Sum.inl) :
    ∃ o es ep, IntD h d o es ep ns ∧ o.cls = .type "dict" ∧ o.dict = none ∧ (d == sysModules) = false := by
  obtain ⟨_, hsys, vs, kv, o, es, ep, ho, hex, hdt, hks, hp, _⟩ := dk_rd ok e
  have hkk := kv_key kv
  refine ⟨o, es, ep, ⟨ho, hdt, ?_, fun i k hi => ?_⟩, hex.1, hex.2.1, hsys⟩
  · rw [← Array.length_toList, hp.length]
    have := congrArg List.length (hkk.trans hk)
    simpa using this
  · have hv : (vs.map (·.1))[i]? = some (Sum.inl k) := by
      rw [hkk, hk, List.getElem?_map, hi]; rfl
    rw [List.getElem?_map] at hv
    obtain ⟨⟨k0, v⟩, hv1, hv2⟩ := Option.map_eq_some_iff.mp hv
    simp only at hv2
    subst hv2
    have hi2 : i < es.toList.length := by rw [hp.length]; exact (List.getElem?_eq_some_iff.mp hv1).1
    have he := List.getElem?_eq_getElem hi2
    obtain ⟨q1, q2⟩ := hp.get? he hv1
    have q1' : keyIs (.inl k) es.toList[i].key = true := q1
    rcases keyIs_shape q1' with ⟨j, t, e1, e2⟩ | ⟨x, t, e1, e2⟩
    · cases e1
      have hm : es.toList[i] ∈ es := by rw [← Array.mem_toList_iff]; exact List.getElem_mem hi2
      obtain ⟨k', z1, z2⟩ := hks _ hm
      have ek := (mixKind P w).inj _ _ _ z1 q1
      subst ek
      exact ⟨es.toList[i], t, by rw [← Array.getElem?_toList]; exact he, e2, z2⟩
    · cases e1
section
variable {X : Cx}
def rSetD (w : World) : List V → Hp → VK → Prop := fun xs H Q => ∃ (d : Addr) (kvs : List (Key × V)) (ns : List Int), xs = [V.ref d] ∧ Rd H d (.dK kvs) ∧ kvs.map (·.1) = ns.map Sum.inl ∧ ns.length < 64 ∧ ∀ p n', H p = none → n' ≤ ns.length → Q (.ref p) (upd H p (SetO w p (fun k => decide (k ∈ ns)) n'))
theorem cr_setD : CallR X (.type "set") (rSetD X.w) := by
  intro pins s σ H xs us Q I r h
  obtain ⟨d, kvs, ns, rfl, hd, hk, hl, q⟩ := h
  cases r with
  | cons r rr =>
    cases rr
    cases r
    obtain ⟨o, es, ep, D, hc, hdn, hsys⟩ := intD_of I.hok hd hk
    refine call_set_dict D hc hdn hsys (by omega) fun h' tk n' k R hn => ?_
    exact ⟨.ref _, _, I.laid (t' := tk) k (Nat.le_refl _) (setO_new R), rfl, q _ n' (I.hok.fresh (Nat.le_refl _)) hn⟩
def rOrD (w : World) : V → V → Hp → VK → Prop := fun x y H Q => ∃ (a b : Addr) (S : Int → Bool) (n : Nat) (S2 : Int → Bool) (n2 : Nat), x = V.ref a ∧ y = V.ref b ∧ H a = some (SetO w a S n) ∧ H b = some (SetO w b S2 n2) ∧ a ≠ b ∧ n + n2 < 128 ∧
  ∀ (p : Addr) (n' : Nat), H p = none → (∀ (U : List Int), (∀ k, (S k || S2 k) = true → k ∈ U) → n' ≤ U.length) → Q (.ref p) (upd H p (SetO w p (fun k => S k || S2 k) n'))
theorem or_setD : OpR X (binaryOp .BitOr) (rOrD X.w) := by
  intro pins s σ H x y v u Q I rx ry h
  obtain ⟨a, b, S, n, S2, n2, rfl, rfl, ha, hb, hab, hn, q⟩ := h
  cases rx
  cases ry
  refine or_sets (setO_get I ha) (setO_get I hb) hab hn fun h' d tk n' k R => ?_
  have hp := I.hok.fresh (Nat.le_refl s.heap.objs.size)
  have J : Inv X pins σ (upd H s.heap.objs.size (SetO X.w s.heap.objs.size (fun k => S k || S2 k) n')) { s with heap := h', gens := s.gens, drawn := d, toks := tk } :=
    I.call (ch := []) (Un.laid k (Nat.le_refl _) hp) (I.hok.laid k (Nat.le_refl _) (setO_new R)) I.bare (fun _ z => nomatch z)
  exact ⟨.ref _, _, J, rfl, q _ n' hp fun U hU => setR_few R U hU⟩
end
section
variable {C : Ct} {W : DW} {δ : Sl} {m : Sto} {pos p p1 p2 p3 p4 p5 q1 q2 q3 q4 : Pos} {Q : D → Sto → Prop} {f1 f2 x : Str}
/-- sorted(set(o.f1) | set(o.f2)) of dicts with numbers as keys -/
theorem de_odd (i : Nat) {a cA a1 a2 : Addr} {fs : List (Str × G.D)} {ns1 ns2 U : List Int} {ds1 ds2 : List G.D} (hN : C.N[i]? = some x) (hv : Vis C.sc x) (hd : δ[i]? = some (some (.ref a))) (hm : m a = some (.ins cA fs)) (hc : Cls C.K cA) (n1 : NoAttr C.K cA f1) (n2 : NoAttr C.K cA f2)
    (l1 : fs.lookup f1 = some (.ref a1)) (l2 : fs.lookup f2 = some (.ref a2)) (t1 : DicAt m a1 (ns1.map Sum.inl) ds1) (t2 : DicAt m a2 (ns2.map Sum.inl) ds2) (hU : U.length < 64) (k1 : ns1.length < 64) (k2 : ns2.length < 64) (hk : ∀ k, k ∈ ns1 ∨ k ∈ ns2 → k ∈ U)
    (q : ∀ u : List Int, u.Pairwise (· < ·) → (∀ k, k ∈ u ↔ k ∈ ns1 ∨ k ∈ ns2) → Q (.lst (u.map G.D.int)) m)
    (g1 : GlC C "sorted") (m1 : C.mg "sorted" = none) (g2 : GlC C "set") (m2 : C.mg "set" = none) (hcm : C.cm = true := by rfl)
    (hdb : (x == ("__debug__" : Str)) = false := by decide) (hcd : (x == ("__classdict__" : Str)) = false := by decide)
    (hb1 : ∀ env, attributeBase (.Name x q1) f1 env (eval (.Name x q1) env) = eval (.Name x q1) env := by intro _; rfl) (hb2 : ∀ env, attributeBase (.Name x q3) f2 env (eval (.Name x q3) env) = eval (.Name x q3) env := by intro _; rfl)
    (he1 : ∀ env, starEach [.Attribute (.Name x q1) f1 q2] env = [(false, eval (.Attribute (.Name x q1) f1 q2) env)] := by intro _; rfl) (he2 : ∀ env, starEach [.Attribute (.Name x q3) f2 q4] env = [(false, eval (.Attribute (.Name x q3) f2 q4) env)] := by intro _; rfl) :
    DE C W (.Call (.Name "sorted" p) [.BinOp (.Call (.Name "set" p1) [.Attribute (.Name x q1) f1 q2] [] p2) .BitOr (.Call (.Name "set" p3) [.Attribute (.Name x q3) f2 q4] [] p4) p5] [] pos) δ m Q := by
  intro X S fx tk σ H T le sl hh
  have hs2 : X.mg "set" = none := by rw [fx.mg]; exact m2
  have hv1 : ∀ pq, PE X (.Name x pq) _ := fun pq => pe_var (i := i) (by rw [fx.N]; exact hN) (by rw [fx.sc]; exact hv) hdb hcd
  refine WE.of (pe_callB (cr_sortedSet (fx.calm hcm)) (fx.gl g1) (by rw [fx.mg]; exact m1) (by decide +kernel) (pa_cons (pe_op or_setD
    (pe_callTy cr_setD (fx.gl g2) hs2 (by decide +kernel) (pa_cons (pe_fld (hv1 q1) (hb1 _)) pa_nil (by rw [he1]; rfl)) (by decide) (by decide) (by rw [he1]; rfl) (by rfl))
    (pe_callTy cr_setD (fx.gl g2) hs2 (by decide +kernel) (pa_cons (pe_fld (hv1 q3) (hb2 _)) pa_nil (by rw [he2]; rfl)) (by decide) (by decide) (by rw [he2]; rfl) (by rfl))) pa_nil)) ?_
  obtain ⟨v, ev, tv⟩ := sl.2 i _ hd
  have r := hh.rep tv
  cases r
  obtain ⟨dx, gs, hu, hn, hl, h2⟩ := hh.insO hm
  have rl := RepL.of_zip hl fun v d z => h2.rep (.inr z)
  obtain ⟨v1, e1, z1⟩ := lookup_rep hn rl l1
  obtain ⟨v2, e2, z2⟩ := lookup_rep hn rl l2
  have r1 := h2.rep (.inr z1)
  cases r1
  have r2 := h2.rep (.inr z2)
  cases r2
  obtain ⟨kvs1, w1, ek1, _, _⟩ := hh.dicR t1
  obtain ⟨kvs2, w2, ek2, _, _⟩ := hh.dicR t2
  refine ⟨_, ev, a, cA, dx, gs, _, rfl, hu, by rw [fx.K]; exact hc, by rw [fx.K]; exact n1, e1, a1, kvs1, ns1, rfl, w1, ek1, k1, fun p1 n1' f1' b1 => ?_⟩
  have sm1 : Same H (upd H p1 (SetO X.w p1 (fun k => decide (k ∈ ns1)) n1')) := same_upd f1'
  refine ⟨_, ev, a, cA, dx, gs, _, rfl, sm1 _ _ hu, by rw [fx.K]; exact hc, by rw [fx.K]; exact n2, e2, a2, kvs2, ns2, rfl, rd_mono sm1 w2, ek2, k2, fun p2 n2' f2' b2 => ?_⟩
  have hp12 : p1 ≠ p2 := fun e => by subst e; rw [upd_same] at f2'; cases f2'
  refine ⟨p1, p2, _, _, _, _, rfl, rfl, by rw [upd_ne hp12]; exact upd_same, upd_same, hp12, by omega, fun p3 n3 f3 b3 => ?_⟩
  refine ⟨p3, _, _, rfl, upd_same, ?_, fun u p4 su mu lu f4 => ?_⟩
  · refine Nat.lt_of_le_of_lt (b3 U fun k hk' => ?_) hU
    rw [Bool.or_eq_true, decide_eq_true_eq, decide_eq_true_eq] at hk'
    exact hk k hk'
  · have g3 := ((hh.grow f1').grow f2').grow (u := SetO X.w p3 (fun k => decide (k ∈ ns1) || decide (k ∈ ns2)) n3) f3
    refine dk_lst g3 f4 (fun Hi _ => ?_) (q u su fun k => ?_)
    · have : ∀ l : List Int, RepL C.K Hi (l.map V.int) (l.map G.D.int) := fun l => by
        induction l with
        | nil => exact .nil
        | cons y l ih => exact .cons (.int y) ih
      exact this u
    · rw [mu k, Bool.or_eq_true, decide_eq_true_eq, decide_eq_true_eq]
end
end G

/-! The data layer: repr and == of instances by their own methods; texts with fields; dicts with text keys. -/
namespace G
open PySem PySem.Spec PyProof.Rows L2
/-- a def run from within a built-in -/
theorem own_call {X : Cx} {CX : CXT} {n : Nat} {f : Addr} {fd : FuncData} {ps : List Str} {sp : Sp} {E : XK} {A : Around} {pins : List (Addr × Obj)} {σ : L2.St} {H : Hp} {s : Shared} {Q : VK} {us : List Value} {vs : List V}
    (F : FnOk X.prog X.w X.K X.mg X.base CX n f fd ps sp) (sb : Sub X n A) (hb : Binds X.K fd ps []) (hx : PassesAt CX X σ E) (I : Inv X pins σ H s) (r : Vals vs us) (h : sp vs H Q E) :
    wpAny (model X.prog X.w) A (call (.ref f) us) (EP X pins σ Q) X.xe s := by
  have e0 : Env0 X.prog X.w X.K X.mg X.base A X.stack s H := by
    have e := I.env0
    exact ⟨by rw [sb.fr]; exact e.frames, e.mod, e.bs, e.bsz, e.funs, e.frf, e.hok, e.bare⟩
  have hl : us.length = ps.length := by rw [← r.length]; exact F.len _ _ _ _ h
  have b := hb s us I.kIn (by rw [List.append_nil]; exact hl)
  rw [List.append_nil] at b
  refine wpAny_call (codeAny_mono (F.run A X.stack s H ⟨us, []⟩ us vs Q E sb.room e0 b r h) fun r s' hq => ?_)
  cases r with
  | error e => exact hx pins H s e s' I hq
  | ok fl =>
    cases fl with
    | ret u => exact I.after hq
    | next => exact False.elim hq
    | brk => exact False.elim hq
    | cont => exact False.elim hq
section
variable {C : Ct} {W : DW} {δ : Sl} {m : Sto} {a b c e o : Expr} {es : List Expr} {pos pos' apos p : Pos} {Q : D → Sto → Prop} {D : DEn} {cA : Addr} {f x : Str}
/-- repr(o), o an instance with an own __repr__ -/
theorem de_repr {k : Nat} {F : DF} (kn : KnM C.P C.w C.K C.mg C.base cA "__repr__" k F) (hk : Nat.ble (k + 1) C.k = true) (hg : GlC C "repr") (hmg : C.mg "repr" = none)
    (h : DA C W [e] δ m fun ds m1 => ∃ a fs, ds = [.ref a] ∧ m1 a = some (.ins cA fs) ∧ F [.ref a] m1 (fun d m2 => ∃ z, d = .str z ∧ Q (.str z) m2) fun cls fs m' => W cls fs δ m') (hcm : C.cm = true := by rfl)
    (he : ∀ env, starEach [e] env = (false, eval e env) :: starEach [] env := by intro _; rfl) : DE C W (.Call (.Name "repr" p) [e] [] pos) δ m Q := by
  intro X S fX tk σ H T le sl hh pins s I
  obtain ⟨f, fd, ps, ok, hm, hb⟩ := kn.ex
  obtain ⟨j, hj⟩ : ∃ j, C.k = j + 1 := ⟨C.k - 1, by have := Nat.le_of_ble_eq_true hk; omega⟩
  have hkj : k ≤ j := by have := Nat.le_of_ble_eq_true hk; omega
  rw [← fX.prog, ← fX.w, ← fX.K, ← fX.mg, ← fX.base] at ok
  rw [← fX.K] at hm hb
  refine wpAny_Call_Name_kw (ld_blt I (fX.gl hg) (by rw [fX.mg]; exact hmg) (show bootBuiltins "repr" = some (.builtin "repr") by decide +kernel) ?_ (by decide) (by decide))
  refine PyProof.Rows.callWith_builtin1 (thn (h X S fX tk σ H T le sl hh pos pins s I) fun us s1 ⟨vs, H1, I1, rx, ds, m1, hl1, h1, a, fs, ed, hma, q⟩ => ?_) (he _) rfl
  subst ed
  obtain ⟨v, rfl⟩ := one_of hl1
  have r := h1.rep (PlL.at (i := 0) (v := v) (d := .ref a) rfl rfl)
  cases r
  cases rx with
  | cons rx rr =>
  cases rr
  cases rx
  obtain ⟨dx, gs, hu, hn, hl, _⟩ := h1.insO hma
  obtain ⟨mA, J, _⟩ := ins_get I1.hok hu
  obtain ⟨od, J, _⟩ := J.look
  have X1 := I1.kIn
  have hr : Room (j + 1) X.A := by rw [← hj]; exact fX.room hcm
  have sb : Sub X j X.A.in1 := (⟨hr, rfl⟩ : Sub X (j + 1) X.A).in1
  have z : spD X.K F [.ref a] H1 (fun v H' => ∃ d m', Hd C.K S.r H' m' (Pl T v d) ∧ ∃ z, d = .str z ∧ Q (.str z) m') (L2.WE (liftW C.K W S) σ) := by
    rw [fX.K]
    exact spD_at (X := X) (S := S) (σ := σ) (Q := fun d m2 => ∃ z, d = .str z ∧ Q (.str z) m2) (W := W) (δ := δ) le sl (vs := [.ref a]) (ds := [.ref a]) rfl h1 q
  refine PySem.Calls.call_function_entry PySem.F.kind_repr PySem.F.plain_repr PySem.F.entry_repr (PySem.F.args_repr1 _) ?_
  unfold Builtin.«repr»
  refine wpAny_bind (m := oneArg "repr" _) (wpAny_pure ?_)
  refine wpAny_bind (wpAny_cRoomFor sb.room.units0 ?_)
  unfold specialOf
  refine wpAny_bind (wpAny_bind (J.type.here ((PySem.W.looks_findIn X1 hm.at_).here ?_)))
  refine wp_if_neg (by simp) ?_
  refine wpAny_bind (PySem.W.ifBound_K X1 J hm.at_ hm.fn ?_)
  refine wpAny_mono (own_call (ok.mono hkj) sb hb (passAt tk σ) I1 (show Vals [V.ref a] [Value.ref a] from .cons rfl .nil) z) (fun u s2 hv => ?_) fun _ _ y => y
  obtain ⟨v, H2, I2, rv, d, m2, h2, y, ed, q2⟩ := hv
  subst ed
  have r2 := h2.rep Pl.it
  cases r2
  obtain ⟨t, rfl⟩ := rv
  refine wpAny_bind (wpAny_isInstance (typeIs_str _ _ _) isSubtype_str_str ?_)
  first
    | exact wpAny_pure ⟨_, rfl, V.str y, H2, I2, ⟨t, rfl⟩, .str y, m2, h2, q2⟩
    | (rw [if_pos rfl]; exact wpAny_pure ⟨_, rfl, V.str y, H2, I2, ⟨t, rfl⟩, .str y, m2, h2, q2⟩)
/-- a == b, two instances of one class with an own __eq__ that raises nothing -/
theorem od_eqI {k : Nat} {F : DF} (kn : KnM C.P C.w C.K C.mg C.base cA "__eq__" k F) (hk : Nat.ble k C.k = true) (hcm : C.cm = true := by rfl) :
    OpD C (compareOp .Eq) (fun d e m Q => ∃ a b fs gs, d = .ref a ∧ e = .ref b ∧ m a = some (.ins cA fs) ∧ m b = some (.ins cA gs) ∧ F [d, e] m (fun z m' => ∃ v, z = .bl v ∧ Q z m') fun _ _ _ => False) := by
  rintro X fX fr H m T x y d e Q hh tx ty ⟨a, b, fs, gs, rfl, rfl, ha, hb2, q⟩ pins s σ v u I rx ry
  obtain ⟨f, fd, ps, ok, hm, hb⟩ := kn.ex
  rw [← fX.prog, ← fX.w, ← fX.K, ← fX.mg, ← fX.base] at ok
  rw [← fX.K] at hm hb
  have r := hh.rep tx
  cases r
  have r := hh.rep ty
  cases r
  obtain rfl : v = Value.ref a := rx
  obtain rfl : u = Value.ref b := ry
  obtain ⟨dx, gs1, hu1, _, _, _⟩ := hh.insO ha
  obtain ⟨dy, gs2, hu2, _, _, _⟩ := hh.insO hb2
  obtain ⟨mA, J, _⟩ := ins_get I.hok hu1
  obtain ⟨mB, J', _⟩ := ins_get I.hok hu2
  obtain ⟨od, J, _⟩ := J.look
  obtain ⟨od', J', _⟩ := J'.look
  have hr : Room k X.A := (fX.room hcm).mono (Nat.le_of_ble_eq_true hk)
  have sb : Sub X k X.A := ⟨hr, rfl⟩
  obtain ⟨mm, hF⟩ := I.fr
  have hl2 : Hd C.K fr H m (PlL T [.ref a, .ref b] [.ref a, .ref b]) := hh.le fun y z t => by
    rcases t with t | t
    · exact t
    · rw [List.zip_cons_cons, List.zip_cons_cons] at t
      rcases List.mem_cons.mp t with t | t
      · cases t; exact tx
      · rcases List.mem_cons.mp t with t | t
        · cases t; exact ty
        · cases t
  have z : spD X.K F [.ref a, .ref b] H (fun v H' => ∃ d m', Hd C.K fr H' m' (Pl T v d) ∧ ∃ z, d = .bl z ∧ Q d m') (fun _ _ _ => False) := by
    rw [fX.K]
    exact ⟨[.ref a, .ref b], m, T, fr, _, _, rfl, hl2, q, fun d m' q' v H' h' => ⟨d, m', h', q'⟩, fun cls fs m' w => w.elim⟩
  show wpAny (model X.prog X.w) X.A (richCompare .Eq (.ref a) (.ref b)) _ X.xe s
  refine PySem.W.cmp_K (op := .Eq) (tb := .ref cA) sb.room.units0 hF I.ok.mod.kin J J'.type (by simp [PySem.W.notFirst]) hm.at_ hm.fn ?_
  refine wpAny_mono (own_call (E := fun _ _ _ => False) ok sb hb ?_ I (show Vals [V.ref a, V.ref b] [Value.ref a, Value.ref b] from .cons rfl (.cons rfl .nil)) z) (fun u s2 hv => ?_) fun _ _ y => y
  · rintro pins H s e s' I ⟨a, B, H', cls, d, _, _, _, _, _, _, _, w⟩
    exact w.elim
  · obtain ⟨v, H2, I2, rv, d, m2, h2, y, ed, q2⟩ := hv
    subst ed
    have r2 := h2.rep Pl.it
    cases r2
    cases rv
    exact ⟨V.bl y, H2, I2, rfl, .bl y, m2, h2, q2⟩
end
end G

/-! The data layer: errors over other bases, texts with fields, dict displays, sorted numbers, str(n), isinstance of instances. -/
namespace G
open PySem PySem.Spec PyProof.Rows L2
/-- a class of errors over a built-in one -/
structure EcB (K : PySem.W.Frag) (mg : Str → Option Value) (x : Str) (c : Addr) (bm : List Value) (nw : String) : Prop where
  g : mg x = some (.ref c)
  kp : PySem.W.keepIn K (.ref c) = true
  ex : PySem.W.excIn K c bm nw = true
  sub : PySem.W.subIn K (.ref c) (.type "BaseException") = some true
  ty : PySem.W.typeIn K (.ref c) = some (.type "type")
abbrev bmI : List Value := [.type "IndexError", .type "LookupError", .type "Exception", .type "BaseException", .type "object"]
abbrev bmL : List Value := [.type "LookupError", .type "Exception", .type "BaseException", .type "object"]
abbrev EcI (K : PySem.W.Frag) (mg : Str → Option Value) (x : Str) (c : Addr) : Prop := EcB K mg x c bmI "IndexError.__new__"
abbrev EcL (K : PySem.W.Frag) (mg : Str → Option Value) (x : Str) (c : Addr) : Prop := EcB K mg x c bmL "LookupError.__new__"
section
variable {C : Ct} {W : DW} {δ : Sl} {m : Sto} {a b c e o : Expr} {es : List Expr} {pos pos' p : Pos} {Q : D → Sto → Prop} {D : DEn} {cA : Addr} {f x : Str}
theorem ds_raiseB {B newId initId : String} {bm : List Value} {x z : Str} {j : Nat} {p p2 : Pos} {k : Addr} (F : ExcBaseFacts B newId initId bm) (E : EcB C.K C.mg x k bm newId) (hg : GlC C x) (w : W (.ref k) [] δ m) (hdb : (x == ("__debug__" : Str)) = false := by decide) (hcm : C.cm = true := by rfl) :
    DS C W (.Raise (some (.Call (.Name x p) [.Constant (.str z) j p2] [] pos)) none pos') δ m D := by
  intro X S f tk σ H T le sl hh
  refine WS.of (ps_raise (f.calm hcm) tk (pmk_own F (by rw [f.K]; exact E.ex) (by rw [f.mg]; exact E.g) (by rw [f.K]; exact E.kp) (raises_own (by rw [f.K]; exact E.sub) (by rw [f.K]; exact E.ty)) (f.gl hg) hdb)) ?_
  exact ⟨δ, m, T, [], le, sl, hh, .inl ⟨rfl, rfl⟩, w⟩
/-! ### texts with fields -/
theorem de_fmt {pos : Pos} (h : DE C W e δ m fun d m1 => (∃ y : Str, d = .str y ∧ y.length ≤ sizeLine ∧ Q (.str y) m1) ∨ ∃ i : Int, d = .int i ∧ i.natAbs.log2 < 1920 ∧ Q (.str (toString i)) m1) : DE C W (.FormattedValue e (-1) none pos) δ m Q := by
  intro X S fx tk σ H T le sl hh
  refine WE.of (pe_fmt we) ((h X S fx tk σ H T le sl hh).mono fun v H1 ⟨d, m1, h1, q⟩ => ?_)
  have r := h1.rep Pl.it
  rcases q with ⟨y, rfl, hy, q⟩ | ⟨i, rfl, hi, q⟩
  · cases r
    exact .inl ⟨y, rfl, hy, dK.le (dk_str h1 q) Pl.le⟩
  · cases r
    exact .inr ⟨i, rfl, hi, dK.le (dk_str h1 q) Pl.le⟩
def DJ (C : Ct) (W : DW) (δ : Sl) : List Expr → Str → Sto → (Str → Sto → Prop) → Prop
  | [], acc, m, Q => Q acc m
  | e :: es, acc, m, Q => DE C W e δ m fun d m1 => ∃ y : Str, d = .str y ∧ (acc ++ y).length ≤ sizeLine ∧ DJ C W δ es (acc ++ y) m1 Q
theorem dj_nil {acc : Str} {Q : Str → Sto → Prop} (q : Q acc m) : DJ C W δ [] acc m Q := q
theorem dj_cons {acc : Str} {Q : Str → Sto → Prop} (h : DE C W e δ m fun d m1 => ∃ y : Str, d = .str y ∧ (acc ++ y).length ≤ sizeLine ∧ DJ C W δ es (acc ++ y) m1 Q) : DJ C W δ (e :: es) acc m Q := h
theorem pj_we {X : Cx} : ∀ es : List Expr, PJ X es (es.map (WE X))
  | [] => .nil
  | e :: es => .cons we (pj_we es)
theorem dj_run {X : Cx} {S : Fr} {σ : L2.St} (fx : Fits C X) (tk : Takes X (liftW C.K W S)) : ∀ (es : List Expr) (acc : Str) (m : Sto) (Q : Str → Sto → Prop) (H : Hp) (T : RT), Le S.t T → SlotsIn σ δ T → Hd C.K S.r H m T → DJ C W δ es acc m Q →
    tJs (es.map (WE X)) acc σ H fun out H1 => ∃ m1, Hd C.K S.r H1 m1 T ∧ Q out m1
  | [], acc, m, Q, H, T, le, sl, hh, h => ⟨m, hh, h⟩
  | e :: es, acc, m, Q, H, T, le, sl, hh, h => by
    have h' : DE C W e δ m fun d m1 => ∃ y : Str, d = .str y ∧ (acc ++ y).length ≤ sizeLine ∧ DJ C W δ es (acc ++ y) m1 Q := h
    refine (h' X S fx tk σ H T le sl hh).mono fun v H1 ⟨d, m1, h1, y, ed, hl, q⟩ => ?_
    subst ed
    have r := h1.rep Pl.it
    cases r
    exact ⟨y, rfl, hl, dj_run fx tk es (acc ++ y) m1 Q H1 T le sl (h1.le Pl.le) q⟩
theorem de_joined {v1 v2 : Expr} {rest : List Expr} (h : DJ C W δ (v1 :: v2 :: rest) Str.empty m fun out m1 => Q (.str out) m1) : DE C W (.JoinedStr (v1 :: v2 :: rest) pos) δ m Q := by
  intro X S fx tk σ H T le sl hh
  refine WE.of (pe_joined (pj_we _)) ?_
  have z := dj_run fx tk (v1 :: v2 :: rest) Str.empty m _ H T le sl hh h
  have mono : ∀ (ts : List TE) (acc : Str) (H : Hp) (Q1 Q2 : Str → Hp → Prop), (∀ s H, Q1 s H → Q2 s H) → (∀ t ∈ ts, ∃ e, t = WE X e) → tJs ts acc σ H Q1 → tJs ts acc σ H Q2 := by
    intro ts
    induction ts with
    | nil => exact fun acc H Q1 Q2 k _ h => k _ _ h
    | cons t ts ih =>
      intro acc H Q1 Q2 k hw h
      obtain ⟨e, rfl⟩ := hw t List.mem_cons_self
      have h' : WE X e σ H fun x H1 => ∃ y : Str, x = .str y ∧ (acc ++ y).length ≤ sizeLine ∧ tJs ts (acc ++ y) σ H1 Q1 := h
      exact h'.mono fun x H1 ⟨y, e1, e2, q⟩ => ⟨y, e1, e2, ih _ _ Q1 Q2 k (fun t ht => hw t (List.mem_cons_of_mem _ ht)) q⟩
  refine mono _ _ _ _ _ (fun out H1 ⟨m1, h1, q⟩ => dk_str h1 q) (fun t ht => ?_) z
  obtain ⟨e, _, rfl⟩ := List.mem_map.mp ht
  exact ⟨e, rfl⟩
/-! ### dict displays -/
inductive KeyEs : List (Option Expr) → List Str → Prop where
  | nil : KeyEs [] []
  | cons {x : Str} {j : Nat} {p : Pos} {es : List (Option Expr)} {xs : List Str} (h : KeyEs es xs) : KeyEs (some (.Constant (.str x) j p) :: es) (x :: xs)
def DVs (C : Ct) (W : DW) (δ : Sl) : List Expr → Sto → (List G.D → Sto → Prop) → Prop
  | [], m, Q => Q [] m
  | e :: es, m, Q => DE C W e δ m fun d m1 => DVs C W δ es m1 fun ds m2 => Q (d :: ds) m2
theorem dvs_nil {Q : List G.D → Sto → Prop} (q : Q [] m) : DVs C W δ [] m Q := q
theorem dvs_cons {Q : List G.D → Sto → Prop} (h : DE C W e δ m fun d m1 => DVs C W δ es m1 fun ds m2 => Q (d :: ds) m2) : DVs C W δ (e :: es) m Q := h
def dispT (X : Cx) : List Str → List Expr → List (TE × TE)
  | x :: xs, e :: es => (tC (.str x), WE X e) :: dispT X xs es
  | _, _ => []
theorem disp_ok {X : Cx} : ∀ {keys : List (Option Expr)} {xs : List Str} {vs : List Expr}, KeyEs keys xs → vs.length = xs.length → PPs X pos keys vs (dispT X xs vs)
  | _, _, [], .nil, _ => pps_nil
  | _, _, v :: vs, .cons h, hl => pps_cons pe_str we (disp_ok h (by simpa using hl))
  | _, _, _ :: _, .nil, hl => by simp at hl
  | _, _, [], .cons _, hl => by simp at hl
theorem disp_run {X : Cx} {S : Fr} {σ : L2.St} (fx : Fits C X) (tk : Takes X (liftW C.K W S)) : ∀ (xs : List Str) (vs : List Expr) (m : Sto) (Q : List G.D → Sto → Prop) (H : Hp) (T : RT), vs.length = xs.length → Le S.t T → SlotsIn σ δ T → Hd C.K S.r H m T → DVs C W δ vs m Q →
    tPairs (dispT X xs vs) σ H fun ps H1 => ∃ (ds : List G.D) (us : List V) (m1 : Sto), us.length = ds.length ∧ us.length = xs.length ∧ ps = (xs.zip us).map (fun q => (V.str q.1, q.2)) ∧ Hd C.K S.r H1 m1 (PlL T us ds) ∧ Q ds m1
  | [], [], m, Q, H, T, _, le, sl, hh, h => ⟨[], [], m, rfl, rfl, rfl, hh.le fun v d t => t.elim id fun z => by simp at z, h⟩
  | [], _ :: _, m, Q, H, T, hl, _, _, _, _ => by simp at hl
  | _ :: _, [], m, Q, H, T, hl, _, _, _, _ => by simp at hl
  | x :: xs, e :: vs, m, Q, H, T, hl, le, sl, hh, h => by
    have h' : DE C W e δ m fun d m1 => DVs C W δ vs m1 fun ds m2 => Q (d :: ds) m2 := h
    show WE X e σ H _
    refine (h' X S fx tk σ H T le sl hh).mono fun v H1 ⟨d, m1, h1, q⟩ => ?_
    have z := disp_run fx tk xs vs m1 (fun ds m2 => Q (d :: ds) m2) H1 (Pl T v d) (by simpa using hl) (le.trans Pl.le) (sl.le Pl.le) h1 q
    have mono : ∀ (ts : List (TE × TE)) (H : Hp) (Q1 Q2 : List (V × V) → Hp → Prop), (∀ s H, Q1 s H → Q2 s H) → (∀ t ∈ ts, ∃ x e, t = (tC (.str x), WE X e)) → tPairs ts σ H Q1 → tPairs ts σ H Q2 := by
      intro ts
      induction ts with
      | nil => exact fun H Q1 Q2 k _ h => k _ _ h
      | cons t ts ih =>
        intro H Q1 Q2 k hw h
        obtain ⟨x, e, rfl⟩ := hw t List.mem_cons_self
        have h' : WE X e σ H fun y H2 => tPairs ts σ H2 fun ps H3 => Q1 ((V.str x, y) :: ps) H3 := h
        exact h'.mono fun y H2 q => ih H2 _ _ (fun ps H3 z => k _ _ z) (fun t ht => hw t (List.mem_cons_of_mem _ ht)) q
    have allw : ∀ (xs : List Str) (vs : List Expr), ∀ t ∈ dispT X xs vs, ∃ x e, t = (tC (.str x), WE X e) := by
      intro xs
      induction xs with
      | nil => intro vs t ht; cases vs <;> cases ht
      | cons x xs ih =>
        intro vs t ht
        cases vs with
        | nil => cases ht
        | cons v vs =>
          rcases List.mem_cons.mp ht with e | e
          · exact ⟨x, v, e⟩
          · exact ih vs t e
    refine mono _ _ _ _ (fun ps H3 ⟨ds, us, m3, l1, l2, e, h3, q3⟩ => ?_) (allw xs vs) z
    refine ⟨d :: ds, v :: us, m3, by rw [List.length_cons, List.length_cons, l1], by rw [List.length_cons, List.length_cons, l2], by rw [e]; rfl, h3.le fun y z t => ?_, q3⟩
    rcases t with t | t
    · exact .inl (.inl t)
    · rw [List.zip_cons_cons] at t
      rcases List.mem_cons.mp t with t | t
      · cases t; exact .inl Pl.it
      · exact .inr t
theorem merge_new : ∀ (more kvs : List (Key × V)), ((kvs ++ more).map (·.1)).Nodup → mergeK kvs more = kvs ++ more
  | [], kvs, _ => by rw [List.append_nil]; rfl
  | p :: more, kvs, nd => by
    have h1 : putK kvs p.1 p.2 = kvs ++ [p] := by
      unfold putK
      rw [if_neg]
      intro z
      obtain ⟨q, hq, e⟩ := List.any_eq_true.mp z
      rw [List.map_append, List.nodup_append] at nd
      exact nd.2.2 q.1 (List.mem_map.mpr ⟨q, hq, rfl⟩) p.1 (by rw [List.map_cons]; exact List.mem_cons_self) (of_decide_eq_true e)
    show mergeK (putK kvs p.1 p.2) more = _
    rw [h1, merge_new more (kvs ++ [p]) (by rw [List.append_assoc]; exact nd), List.append_assoc]
    rfl
/-- {"k": e, ..}: the new dict stands empty while the values are made -/
theorem de_disp {keys : List (Option Expr)} {values : List Expr} {xs : List Str} (hk : KeyEs keys xs) (hl : values.length = xs.length) (nd : xs.Nodup) (h0 : keys ≠ []) (hall : keys.all (·.isSome) = true) (hkl : keys.length = values.length) (h15 : keys.length ≤ 15)
    (h : ∀ p, m p = none → DVs C W δ values (sput m p (.dic [] [])) fun ds m1 => m1 p = some (.dic [] []) ∧ Q (.ref p) (sput m1 p (.dic (xs.map Sum.inr) ds))) : DE C W (.Dict keys values pos) δ m Q := by
  intro X S fx tk σ H T le sl hh
  refine WE.of (pe_disp (disp_ok hk hl) hall hkl h0 h15) fun p hp => ?_
  have hm := hh.free hp
  have h1 := hh.newM (o := .dic [] []) (u := .dK []) hp fun _ _ => ⟨rfl, .nil⟩
  have z := disp_run fx tk xs values (sput m p (.dic [] [])) (fun ds m1 => m1 p = some (.dic [] []) ∧ Q (.ref p) (sput m1 p (.dic (xs.map Sum.inr) ds))) (upd H p (.dK [])) (Pl T (.ref p) (.ref p)) hl (le.trans Pl.le) (sl.le Pl.le) h1 (h p hm)
  have mono : ∀ (ts : List (TE × TE)) (H : Hp) (Q1 Q2 : List (V × V) → Hp → Prop), (∀ s H, Q1 s H → Q2 s H) → (∀ t ∈ ts, ∃ x e, t = (tC (.str x), WE X e)) → tPairs ts σ H Q1 → tPairs ts σ H Q2 := by
    intro ts
    induction ts with
    | nil => exact fun H Q1 Q2 k _ h => k _ _ h
    | cons t ts ih =>
      intro H Q1 Q2 k hw h
      obtain ⟨x, e, rfl⟩ := hw t List.mem_cons_self
      have h' : WE X e σ H fun y H2 => tPairs ts σ H2 fun ps H3 => Q1 ((V.str x, y) :: ps) H3 := h
      exact h'.mono fun y H2 q => ih H2 _ _ (fun ps H3 z => k _ _ z) (fun t ht => hw t (List.mem_cons_of_mem _ ht)) q
  have allw : ∀ (xs : List Str) (vs : List Expr), ∀ t ∈ dispT X xs vs, ∃ x e, t = (tC (.str x), WE X e) := by
    intro xs
    induction xs with
    | nil => intro vs t ht; cases vs <;> cases ht
    | cons x xs ih =>
      intro vs t ht
      cases vs with
      | nil => cases ht
      | cons v vs =>
        rcases List.mem_cons.mp ht with e | e
        · exact ⟨x, v, e⟩
        · exact ih vs t e
  refine mono _ _ _ _ (fun ps H2 ⟨ds, us, m2, l1, l2, e, h2, hm2, q⟩ => ?_) (allw xs values) z
  obtain ⟨kvs0, hu, ek, hl0, _⟩ := h2.dicO hm2
  have hk0 : kvs0 = [] := by simpa using ek
  subst hk0
  have xl : xs.length ≤ 15 := by rw [← hl, ← hkl]; exact h15
  refine ⟨hu, (xs.zip us).map (fun q => ((Sum.inr q.1 : Key), q.2)), ?_, ?_, .ref p, _, ?_, q⟩
  · rw [e, List.map_map]; rfl
  · rw [List.length_map, List.length_zip]; omega
  · have kf : ((xs.zip us).map (fun q => ((Sum.inr q.1 : Key), q.2))).map (·.1) = xs.map Sum.inr := by
      rw [List.map_map]
      show (xs.zip us).map (fun q => (Sum.inr q.1 : Key)) = _
      rw [show (fun q : Str × V => (Sum.inr q.1 : Key)) = Sum.inr ∘ Prod.fst from rfl, ← List.map_map, List.map_fst_zip (by omega)]
    have vf : ((xs.zip us).map (fun q => ((Sum.inr q.1 : Key), q.2))).map (·.2) = us := by
      rw [List.map_map]
      show (xs.zip us).map Prod.snd = _
      rw [List.map_snd_zip (by omega)]
    have ndk : (((xs.zip us).map (fun q => ((Sum.inr q.1 : Key), q.2))).map (·.1)).Nodup := by
      rw [kf]
      exact List.pairwise_map.mpr (List.Pairwise.imp (fun h e => h (Sum.inr.inj e)) nd)
    rw [merge_new _ [] (by rw [List.nil_append]; exact ndk), List.nil_append]
    have h5 := h2.mut (u' := .dK ((xs.zip us).map (fun q => ((Sum.inr q.1 : Key), q.2)))) (o' := .dic (xs.map Sum.inr) ds) hm2 hu fun Hi r kk => ⟨kf, by rw [vf]; exact RepL.of_zip l1 fun v d z => kk v d (.inr z)⟩
    exact h5.le fun y z t => by
      rcases t with t | ⟨rfl, rfl⟩
      · exact .inl (.inl t)
      · exact .inl Pl.it
/-! ### calls of built-ins -/
/-- sorted of a list of numbers that is data -/
theorem cd_sortedI : CallD C (.builtin "sorted") sortedD := by
  rintro X f fr H m T vs ds Q hl hh ⟨ns, rfl, q⟩
  obtain ⟨v, rfl⟩ := one_of hl
  obtain ⟨a, xs, rfl, hq, r⟩ := hh.repsL (PlL.at (i := 0) (v := v) (d := .lst (ns.map G.D.int)) rfl rfl)
  have e := ints_of r
  subst e
  refine wc_of cr_sortedI ⟨a, ns, rfl, SqL.of hq, fun ns' p pm so hp => dK.le (dk_lst hh hp (fun Hi _ => ?_) (q ns' pm so)) PlL.le⟩
  have : ∀ l : List Int, RepL C.K Hi (l.map V.int) (l.map G.D.int) := fun l => by
    induction l with
    | nil => exact .nil
    | cons y l ih => exact .cons (.int y) ih
  exact this ns'
/-- str of a number -/
def strI : RLD := fun ds m Q => ∃ i : Int, ds = [.int i] ∧ i.natAbs.log2 < 1920 ∧ Q (.str (toString i)) m
theorem cd_strI : CallD C (.type "str") strI := by
  rintro X f fr H m T vs ds Q hl hh ⟨i, rfl, hi, q⟩
  obtain ⟨v, rfl⟩ := one_of hl
  have r := hh.rep (PlL.at (i := 0) (v := v) (d := .int i) rfl rfl)
  cases r
  exact wc_of call_str_int ⟨i, rfl, hi, dK.le (dk_str hh q) PlL.le⟩
/-- what isinstance asks of an instance's class -/
structure InsC (K : PySem.W.Frag) (cA : Addr) : Prop where
  cl : Cls K cA
  ha : PySem.W.findIn K (.ref cA) "__class__" = some (some (.builtin "object.__class__"))
  hn : PySem.W.specialIn K (.builtin "object.__class__") "__get__" = some (some (.builtin "getset_descriptor.__get__"))
  htk : PySem.W.takesIn K (.builtin "object.__class__") = some true
  hm : PySem.W.mroIn K cA (.type "object") = some true
def isiI (C : Ct) : RLD := fun ds m Q => ∃ a k cA fs b, ds = [.ref a, .ref k] ∧ m a = some (.ins cA fs) ∧ InsC C.K cA ∧ PySem.W.kitOne C.K (.ref cA) (.ref k) = some b ∧ Q (.bl b) m
theorem cd_isiI : CallD C (.builtin "isinstance") (isiI C) := by
  rintro X f fr H m T vs ds Q hl hh ⟨a, k, cA, fs, b, rfl, hm, ic, hk, q⟩
  obtain ⟨v, u, rfl⟩ := two_of hl
  have r1 := hh.rep (PlL.at (i := 0) (v := v) (d := .ref a) rfl rfl)
  have r2 := hh.rep (PlL.at (i := 1) (v := u) (d := .ref k) rfl rfl)
  cases r1
  cases r2
  obtain ⟨dx, gs, hu, _, _, _⟩ := hh.insO hm
  exact wc_of call_isi ⟨.ref a, .ref k, .ref cA, .ref k, b, rfl, .own k, by rw [f.K]; exact .base (.ins hu ic.cl ic.ha ic.hn ic.htk ic.hm), by rw [f.K]; exact hk, dK.le (dk_bl hh q) PlL.le⟩
end
end G

/-! The data layer: == of dicts whose values are numbers (or truths). -/
namespace G
open PySem PySem.Spec PyProof.Rows L2
def feqD : G.D → G.D → Bool
  | .int i, .int j => i == j
  | .bl a, .bl b => a == b
  | _, _ => false
def SameK (d e : G.D) : Prop := (∃ i j, d = .int i ∧ e = .int j) ∨ ∃ a b, d = .bl a ∧ e = .bl b
def dicEq : List Key → List G.D → List Key → List G.D → Bool
  | k :: ks, d :: ds, ls, es => match valD ls es k with
    | none => false
    | some e => feqD d e && dicEq ks ds ls es
  | _, _, _, _ => true
theorem valD_mem : ∀ {ks : List Key} {ds : List G.D} {k : Key} {d : G.D}, valD ks ds k = some d → d ∈ ds
  | [], ds, k, d, h => by cases ds <;> cases h
  | x :: ks, [], k, d, h => by cases h
  | x :: ks, e :: ds, k, d, h => by
    have h' : (if x = k then some e else valD ks ds k) = some d := h
    split at h'
    · cases h'; exact List.mem_cons_self
    · exact List.mem_cons_of_mem _ (valD_mem h')
theorem flat_eqP {P : Program} {w : World} {A : Around} {s : Shared} {K : PySem.W.Frag} {H : Hp} {v u : V} {x y : Value} {d e : G.D} (h : SameK d e) (r1 : Rep K H v d) (r2 : Rep K H u e) (q1 : RelV v x) (q2 : RelV u y) : SeqAt.EqP P w A s x y (feqD d e) := by
  rcases h with ⟨i, j, rfl, rfl⟩ | ⟨a, b, rfl, rfl⟩
  · cases r1
    cases r2
    obtain ⟨t, rfl⟩ := q1
    obtain ⟨t', rfl⟩ := q2
    exact (SeqAt.EqAt.int_int i t j t').eqP
  · cases r1
    cases r2
    cases q1
    cases q2
    exact (SeqAt.EqAt.bool_bool a b).eqP
theorem hits_dic {P : Program} {w : World} {A : Around} {s : Shared} {K : PySem.W.Frag} {H : Hp} {kvs2 : List (Key × V)} {vb : List (Key × Value)} {ds2 : List G.D} (rb : KV kvs2 vb) (r2 : RepL K H (kvs2.map (·.2)) ds2) :
    ∀ {kvs1 : List (Key × V)} {va : List (Key × Value)} {ds1 : List G.D}, KV kvs1 va → RepL K H (kvs1.map (·.2)) ds1 → (∀ d ∈ ds1, ∀ e ∈ ds2, SameK d e) → PySem.W.KeqHitsP P w A s vb va (dicEq (kvs1.map (·.1)) ds1 (kvs2.map (·.1)) ds2)
  | [], _, ds1, ra, r1, _ => by
    cases ra
    have e : ds1 = [] := by
      have r1' : RepL K H [] ds1 := r1
      cases r1'
      rfl
    subst e
    exact .nil
  | (k, v) :: kvs1, _, [], ra, r1, _ => by cases r1
  | (k, v) :: kvs1, va, d :: ds1, ra, r1, hs => by
    cases ra with
    | @cons p q ps qs h t =>
      obtain ⟨h1, h2⟩ := h
      obtain ⟨key, x⟩ := q
      have h1' : k = key := h1
      subst h1'
      cases r1 with
      | cons rv rr =>
        obtain ⟨z1, z2⟩ := val_rep r2 (k := k)
        have rval := rb.val k
        show PySem.W.KeqHitsP P w A s vb ((k, x) :: qs) (match valD (kvs2.map (·.1)) ds2 k with
          | none => false
          | some e => feqD d e && dicEq (kvs1.map (·.1)) ds1 (kvs2.map (·.1)) ds2)
        cases hv : valD (kvs2.map (·.1)) ds2 k with
        | none =>
          rw [z1 hv] at rval
          refine .miss ?_
          cases hq : valueAt vb k with
          | none => rfl
          | some y => rw [hq] at rval; exact rval.elim
        | some e =>
          obtain ⟨u, e1, e2⟩ := z2 hv
          rw [e1] at rval
          obtain ⟨y, hy, ry⟩ := rval.some_of
          have ru : Rep K H u e := r2.mem_zip e2
          exact .hit hy (flat_eqP (hs d List.mem_cons_self e (valD_mem hv)) rv ru h2 ry) (hits_dic rb r2 t rr fun d' hd e' he => hs d' (List.mem_cons_of_mem _ hd) e' he)
section
variable {C : Ct}
/-- a == b of two dicts -/
theorem od_eqDic : OpD C (compareOp .Eq) (fun d e m Q => ∃ a b ks1 ds1 ks2 ds2, d = .ref a ∧ e = .ref b ∧ DicAt m a ks1 ds1 ∧ DicAt m b ks2 ds2 ∧ (∀ d ∈ ds1, ∀ e ∈ ds2, SameK d e) ∧ Q (.bl (ks1.length == ks2.length && dicEq ks1 ds1 ks2 ds2)) m) := by
  rintro X fX fr H m T x y d e Q hh tx ty ⟨a, b, ks1, ds1, ks2, ds2, rfl, rfl, ha, hb, hs, q⟩ pins s σ v u I rx ry
  have r := hh.rep tx
  cases r
  have r := hh.rep ty
  cases r
  obtain rfl : v = Value.ref a := rx
  obtain rfl : u = Value.ref b := ry
  obtain ⟨kvs1, w1, e1, l1, h1⟩ := hh.dicR ha
  obtain ⟨kvs2, w2, e2, l2, h2⟩ := hh.dicR hb
  subst e1 e2
  have r1 := RepL.of_zip l1 fun v d z => h1.rep (.inr z)
  have r2 := RepL.of_zip l2 fun v d z => h2.rep (.inr z)
  obtain ⟨_, ya, va, ra, da⟩ := dk_rd I.hok w1
  obtain ⟨_, yb, vb, rb, db⟩ := dk_rd I.hok w2
  show wpAny (model X.prog X.w) X.A (richCompare .Eq (.ref a) (.ref b)) _ X.xe s
  refine PySem.W.rcP_dicts (knd := mixKind X.prog X.w) (r := dicEq (kvs1.map (·.1)) ds1 (kvs2.map (·.1)) ds2) ya yb da db (by have := fX.un; omega) (fun _ => hits_dic rb r2 ra r1 hs) _ _ ?_
  refine ⟨V.bl (va.length == vb.length && dicEq (kvs1.map (·.1)) ds1 (kvs2.map (·.1)) ds2), H, I, by exact rfl, ?_⟩
  rw [show va.length = (kvs1.map (·.1)).length by rw [List.length_map, ra.length], show vb.length = (kvs2.map (·.1)).length by rw [List.length_map, rb.length]]
  exact dk_bl hh q
end
end G

/-! The data layer: except (A, B, ..) as e. -/
namespace G
open PySem PySem.Spec PyProof.Rows L2
theorem fly_push {B h : Heap} {l : List Env} {a : Addr} {Z : Obj → Prop} (f : HandSPX.FlyingZ B l a Z h) (o : Obj) : HandSPX.FlyingZ B l a Z (h.push o) := by
  obtain ⟨k1, k2, k3, oe, vs, T, oT, ts, g1, g2, g3, g4, g5, g6, g7, g8, g9⟩ := f
  refine ⟨fun b u e => Heap.get?_push_of_some _ (k1 b u e), k2, Heap.FunFrames.of_keeps (fun b u e _ => ⟨u, Heap.get?_push_of_some _ e, rfl⟩) k3, oe, vs, T, oT, ts, Heap.get?_push_of_some _ g1, g2, g3, g4, g5, g6, Heap.get?_push_of_some _ g7, g8, g9⟩
theorem up_push {h h' : Heap} (u : h.UpToSlots h') (o : Obj) : h.UpToSlots (h'.push o) := fun b x e d => by
  obtain ⟨sl, q⟩ := u b x e d
  exact ⟨sl, Heap.get?_push_of_some _ q⟩
def tupObj (cs : List Value) : Obj := { cls := .type "tuple", data := .seq cs.toArray }
/-- a clause's written tuple of classes -/
def NamesT (X : Cx) (ty : Expr) (cs : List Value) : Prop := ∀ (a : Addr) (pn pins : List (Addr × Obj)) (s : Shared) (σ : L2.St) (H : Hp) (Q E : Value → Shared → Prop), Inv (X.suite a pn) pins σ H s → Q (.ref s.heap.objs.size) { s with heap := s.heap.push (tupObj cs) } →
  wpAny (model X.prog X.w) (X.A.mark (some (.ref a))) (eval ty X.env) Q E s
def MatchT (M : Model) (cs : List Value) : Prop := ∀ (K : PySem.W.Frag) (h : Heap) (tp e : Addr) (cls : Value) (b : Bool), K.In h → PySem.W.Looks M h (typeOf (.ref e)) cls → h.get? tp = some (tupObj cs) → PySem.W.exmAny K cls cs = some b → PySem.W.Looks M h (excMatches (.ref e) (.ref tp)) b
theorem match2 {M : Model} {c1 c2 : Value} : MatchT M [c1, c2] := fun K h tp e cls b x y z w => PySem.W.exm_tup2 x y z w
theorem match3 {M : Model} {c1 c2 c3 : Value} : MatchT M [c1, c2, c3] := fun K h tp e cls b x y z w => PySem.W.exm_tup3 x y z w
theorem names2 {X : Cx} {x1 x2 : Str} {p1 p2 pos : Pos} {k : Nat} {c1 c2 : Value} (h1 : Gl X x1) (m1 : X.mg x1 = some c1) (h2 : Gl X x2) (m2 : X.mg x2 = some c2) (d1 : (x1 == ("__debug__" : Str)) = false := by decide) (d2 : (x2 == ("__debug__" : Str)) = false := by decide) :
    NamesT X (.Tuple [.Name x1 p1, .Name x2 p2] k pos) [c1, c2] := fun a pn pins s σ H Q E I q => by
  refine Tuple_ (spliced_more (ld_glob (X := X.suite a pn) I h1 m1 ?_ d1))
  refine spliced_more (ld_glob (X := X.suite a pn) I h2 m2 ?_ d2)
  exact spliced_none (wpAny_newObj_type q)
theorem names3 {X : Cx} {x1 x2 x3 : Str} {p1 p2 p3 pos : Pos} {k : Nat} {c1 c2 c3 : Value} (h1 : Gl X x1) (m1 : X.mg x1 = some c1) (h2 : Gl X x2) (m2 : X.mg x2 = some c2) (h3 : Gl X x3) (m3 : X.mg x3 = some c3)
    (d1 : (x1 == ("__debug__" : Str)) = false := by decide) (d2 : (x2 == ("__debug__" : Str)) = false := by decide) (d3 : (x3 == ("__debug__" : Str)) = false := by decide) :
    NamesT X (.Tuple [.Name x1 p1, .Name x2 p2, .Name x3 p3] k pos) [c1, c2, c3] := fun a pn pins s σ H Q E I q => by
  refine Tuple_ (spliced_more (ld_glob (X := X.suite a pn) I h1 m1 ?_ d1))
  refine spliced_more (ld_glob (X := X.suite a pn) I h2 m2 ?_ d2)
  refine spliced_more (ld_glob (X := X.suite a pn) I h3 m3 ?_ d3)
  exact spliced_none (wpAny_newObj_type q)
/-- what such a clause wishes of an error of the body -/
def wAsT (K : PySem.W.Frag) (cs : List Value) (i : Nat) (ts : Addr → Value → Option Addr → TS) (Wo : WX) (D : Ends) : WX := fun cls d σ H =>
  ∃ b, PySem.W.exmAny K cls cs = some b ∧ (b = true → ∀ a, H a = none → ts a cls d { nx := fun σ' H' => D.nx (σ'.set i none) H', rt := D.rt, bk := fun σ' H' => D.bk (σ'.set i none) H', ct := fun σ' H' => D.ct (σ'.set i none) H' } (σ.set i (some (.ref a))) H) ∧ (b = false → Wo cls d σ H)
section
variable {X : Cx} {n : Str} {ty : Expr} {cs : List Value} {i : Nat} {body suite : List Stmt} {b₀ : Stmt} {pos pos' : Pos} {tb : WX → TS} {ts : Addr → Value → Option Addr → TS} {Wo : WX}
theorem ps_try_asT (st : X.stack = X.env :: X.outer) (fr : X.env.frame = some X.env.locals) (ndN : X.N.Nodup) (at_i : X.N[i]? = some n) (loc_n : X.env.kindOf n = some .local) (nm : NamesT X ty cs) (mt : MatchT (model X.prog X.w) cs) (tk : Takes X Wo)
    (bd : ∀ (W : WX) (pn : List (Addr × Obj)) (xe : Value → Shared → Prop), (∀ q ∈ X.pn, q ∈ pn) → Takes (X.tr pn xe) W → PassesOwn (model X.prog X.w) X.A X.env xe → PSs (X.tr pn xe) body (tb W))
    (su : ∀ (a : Addr) (oe : Obj) (cls : Value) (d : Option Addr) (pn : List (Addr × Obj)), Zc cls d oe → (∃ vs, oe.data = .fields vs) → PSs (X.suite a ((a, oe) :: pn)) (b₀ :: suite) (ts a cls d)) :
    PS X (.Try body [.ExceptHandler (some ty) (some n) (b₀ :: suite) pos'] [] [] pos) (fun D σ H => tb (wAsT X.K cs i ts Wo D) D σ H) := by
  refine ⟨fun pins s σ H D inv wish => ?_⟩
  have okX := inv.ok
  have frames : X.A.frames = some (X.env :: X.outer) := by rw [okX.frames, st]
  have locN : Loc X.env.scope n := .inl loc_n
  refine wpAny_Try_except ?_
  have run := (bd (wAsT X.K cs i ts Wo D) (X.pn ++ pins) (fun e s₁ => wpAny (model X.prog X.w) X.A (noteFrame e X.env) (fun _ s₂ => wpAny (model X.prog X.w) X.A (setFlight e none) (fun _ s₃ => wpAny (model X.prog X.w) X.A
    (handleBy e X.env [.ExceptHandler (some ty) (some n) (b₀ :: suite) pos']) (SP X pins D) X.xe s₃) X.xe s₂) X.xe s₁) (fun q hq => List.mem_append_left _ hq) ?take PassesOwn.looking).run [] s σ H D (inv.toTry _) wish
  · refine wpAny_mono run (fun f s1 q => ?_) fun _ _ q => q
    cases f with
    | next => obtain ⟨σ1, H1, J1, q1⟩ := q; exact wpAny_execs_nil ⟨σ1, H1, J1.ofTry okX, q1⟩
    | brk => obtain ⟨σ1, H1, J1, q1⟩ := q; exact ⟨σ1, H1, J1.ofTry okX, q1⟩
    | cont => obtain ⟨σ1, H1, J1, q1⟩ := q; exact ⟨σ1, H1, J1.ofTry okX, q1⟩
    | ret u => obtain ⟨v1, σ1, H1, J1, r1, q1⟩ := q; exact ⟨v1, σ1, H1, J1.ofTry okX, r1, q1⟩
  rintro u s1 ⟨a, B, sI, pins1, σ1, H1, cls, d, rfl, J0, nb, up1, sky0, na, os, ag, b, em, yes, no⟩
  have J : Inv X pins σ1 H1 sI := J0.ofTry okX
  have sky : Sky B (X.env :: X.outer) a (Zc cls d) X.env.locals s1.heap := by rw [← st]; exact sky0
  refine Sky.land Zc.steady frames fr sky fun h2 fl2 up2 => ?_
  have far : ∀ {h : Heap} {o : Obj} {vs : Array Value}, h.FunFrames B (X.env :: X.outer) → h.get? a = some o → o.data = .fields vs → a ∉ frs (X.env :: X.outer) := fun {h o vs} ff e dd hm => by
    obtain ⟨_, o2, e2, k⟩ := ff.mem hm
    rw [e] at e2
    cases e2
    exact k _ dd
  have J2 : Inv X pins σ1 H1 { s1 with heap := h2 } := J.landed nb fl2.1 (up1.trans up2) os ag
  obtain ⟨oe2, vs2, at2, z2, dat2⟩ := fl2.there
  have fa := far fl2.2.2.1 at2 dat2
  have nLoc : a ≠ X.env.locals := fun z => fa (List.mem_filterMap.mpr ⟨X.env, List.mem_cons_self, by rw [fr, z]⟩)
  have nFs : a ∉ X.fs := fun hm => by
    obtain ⟨en, m1, m2⟩ := List.mem_filterMap.mp hm
    exact fa (List.mem_filterMap.mpr ⟨en, List.mem_cons_of_mem _ m1, m2⟩)
  refine wpAny_handleBy_cons (codeAny_handlers_test ?_) (by intro q; cases q)
  -- the tuple of the classes is laid
  refine nm a _ _ { s1 with heap := h2 } σ1 H1 _ _ (J2.suite at2 dat2 na nLoc nFs) ?_
  have fl3 := fly_push fl2 (tupObj cs)
  have up3 := up_push up2 (tupObj cs)
  have J3 : Inv X pins σ1 H1 { s1 with heap := h2.push (tupObj cs) } := J.landed nb fl3.1 (up1.trans up3) os ag
  have at3 : (h2.push (tupObj cs)).get? a = some oe2 := Heap.get?_push_of_some _ at2
  have LT : PySem.W.Looks (model X.prog X.w) (h2.push (tupObj cs)) (typeOf (.ref a)) cls := fun A Q E s k q => wpAny_typeOf_ref (k _ _ at3) (by rw [z2.1]; exact q)
  refine (mt X.K _ _ _ _ _ J3.kIn LT (Heap.get?_push_size _ rfl) em).here ?_
  cases b with
  | false =>
    show wpAny _ X.A (handleBy (.ref a) X.env []) _ _ _
    refine wpAny_handleBy_nil ?_
    obtain ⟨_, _, _, oe, vs, T, oT, ts', g1, g2, g3, g4, _⟩ := id fl3
    unfold PySem.passOn
    refine wpAny_bind (wpAny_field g1 g3 g4 ?_)
    rw [if_neg (show ¬ ((Value.ref T == Value.none) = true) from by simp)]
    have last : wpAny (model X.prog X.w) X.A (setFlight (.ref a) X.env.frame) (fun _ s4 => wpAny (model X.prog X.w) X.A (throw (.ref a) : Sem Flow) (SP X pins D) X.xe s4) X.xe { s1 with heap := h2.push (tupObj cs) } := by
      rw [fr]
      refine HandSPX.setFlight_upZ fl3 fun h4 hh4 up4 => wpAny_throw (tk _ _ ?_)
      exact ⟨a, B, sI, pins, σ1, H1, cls, d, rfl, J, nb, (up1.trans up3).trans up4, .inr (.inr (by rw [st]; exact hh4)), na, os, ag, no rfl⟩
    first
      | exact wpAny_bind (wpAny_pure (wpAny_bind last))
      | exact wpAny_bind last
  | true =>
    refine codeAny_handlers_suite_as (HandSPX.lands_againZ fl3 fun h4 fl4 up4 => ?_)
    have J4 : Inv X pins σ1 H1 { s1 with heap := h4 } := J.landed nb fl4.1 ((up1.trans up3).trans up4) os ag
    obtain ⟨oe4, vs4, at4, z4, dat4⟩ := fl4.there
    refine store_ok (X := X.suite a ((a, oe4) :: (X.pn ++ pins))) (v := .ref a) (J4.suite at4 dat4 na nLoc nFs) ndN at_i locN rfl (fun s5 S5 => ?_) (.inr loc_n)
    refine wpAny_mono ((su a oe4 cls d (X.pn ++ pins) z4 ⟨_, dat4⟩).run [] s5 _ H1 _ S5 (yes rfl a na)) (fun f s6 q => ?_) (fun _ _ z => False.elim z)
    have bye : ∀ {σ6 : L2.St} {H6 : Hp} {Q : Shared → Prop}, Inv (X.suite a ((a, oe4) :: (X.pn ++ pins))) [] σ6 H6 s6 → (∀ s7, Inv X pins (σ6.set i none) H6 s7 → Q s7) →
        wpAny (model X.prog X.w) X.A (do bindName X.env n .none; unbindBehindTheSuite X.env n pos') (fun _ s7 => Q s7) X.xe s6 := fun {σ6 H6 Q} S6 k => gone_ok (S6.unsuite okX) ndN at_i loc_n k
    cases f with
    | next => obtain ⟨σ6, H6, S6, q6⟩ := q; exact bye S6 fun s7 J7 => ⟨_, _, J7, q6⟩
    | brk => obtain ⟨σ6, H6, S6, q6⟩ := q; exact bye S6 fun s7 J7 => ⟨_, _, J7, q6⟩
    | cont => obtain ⟨σ6, H6, S6, q6⟩ := q; exact bye S6 fun s7 J7 => ⟨_, _, J7, q6⟩
    | ret u => obtain ⟨v6, σ6, H6, S6, r6, q6⟩ := q; exact bye S6 fun s7 J7 => ⟨_, _, _, J7, r6, q6⟩
end
section
variable {C : Ct} {W : DW} {δ : Sl} {m : Sto} {a b c e : Expr} {es : List Expr} {pos pos' np : Pos} {Q : D → Sto → Prop} {D : DEn}
theorem ds_tryAsT (i : Nat) {n : Str} {ty : Expr} {body suite : List Stmt} {b₀ : Stmt} {cs : List Value} (nm : ∀ X, Fits C X → NamesT X ty cs) (mt : ∀ M, MatchT M cs) (hN : C.N[i]? = some n) (hl : C.sc.names.lookup n = some .local)
    (h : DSs C (fun cls fs δ' m' => ∃ cA b, cls = .ref cA ∧ fs = [] ∧ PySem.W.exmAny C.K cls cs = some b ∧ (b = true → ExcC C.K cA ∧ ∀ a, DSs (C.hotE a cA) W0 (b₀ :: suite) (δ'.set i (some (.ref a))) m' (D.un i)) ∧ (b = false → W cls fs δ' m')) body δ m D)
    (htr : C.tr = true := by rfl) (hex : C.ex = none := by rfl) : DS C W (.Try body [.ExceptHandler (some ty) (some n) (b₀ :: suite) pos'] [] [] pos) δ m D := by
  intro X S f tk σ H T le sl hh
  refine WS.of (ps_try_asT (cs := cs) (i := i)
    (tb := fun W' D' σ H => ∀ (pn : List (Addr × Obj)) (xe : Value → Shared → Prop), Takes (X.tr pn xe) W' → PassesOwn (model X.prog X.w) X.A X.env xe → WSs (X.tr pn xe) body D' σ H)
    (ts := fun a cls d D' σ H => ∀ (oe : Obj) (pn : List (Addr × Obj)), Zc cls d oe → (∃ vs, oe.data = .fields vs) → WSs (X.suite a ((a, oe) :: pn)) (b₀ :: suite) D' σ H)
    (f.tr htr).1 (f.tr htr).2 f.nd (by rw [f.N]; exact hN) (by show X.env.scope.names.lookup n = _; rw [f.sc]; exact hl) (nm X f) (mt _) tk
    (fun W' pn xe _ t p => ⟨fun pins s σ H D I r => r pn xe t p pins s I⟩) (fun a oe cls d pn hz hv => ⟨fun pins s σ H D I r => r oe pn hz hv pins s I⟩)) ?_
  intro pn xe tk' po
  have fit : Fits C (X.tr pn xe) := ⟨f.prog, f.w, f.K, f.mg, f.base, f.N, f.sc, f.fn, f.nd, f.un, f.room, f.calm, po, f.tr, fun _ _ e => by rw [hex] at e; cases e⟩
  refine h (X.tr pn xe) S fit (tk'.imp ?_) σ H T le sl hh
  rintro cls d σ' H' ⟨δ', m', T', fs, le', sl', hh', xd, cA, k', rfl, rfl, hk', h1, h2⟩
  refine ⟨k', by rw [f.K]; exact hk', fun e a ha oe pn2 hz hv => ?_, fun e => ⟨δ', m', T', [], le', sl', hh', xd, h2 e⟩⟩
  obtain ⟨hc, h3⟩ := h1 e
  have hd : d = none := by
    rcases xd with ⟨e, _⟩ | ⟨_, _, q, _⟩
    · exact e
    · exact absurd rfl q
  subst hd
  have fit2 : Fits (C.hotE a cA) (X.suite a ((a, oe) :: pn2)) := ⟨f.prog, f.w, f.K, f.mg, f.base, f.N, f.sc, f.fn, f.nd, f.un, (fun z => nomatch z), (fun z => nomatch z), PassesOwn.never, f.tr, fun a' D' e => by
    cases e
    exact call_isE (by rw [f.K]; exact hc) hz hv⟩
  have hh2 : Hd C.K S.r H' m' (Pl T' (.ref a) (.ref a)) := hh'.pl fun _ _ => .ref a
  refine WSs.mono (h3 a (X.suite a ((a, oe) :: pn2)) S fit2 takes_W0 (σ'.set i (some (.ref a))) H' _ (le'.trans Pl.le) ((sl'.le Pl.le).set Pl.it) hh2) ?_ (fun _ _ q => q) ?_ ?_
  all_goals
    rintro σ2 H2 ⟨δ2, m2, T2, l2, s2, hd2, q2⟩
    exact ⟨δ2.set i none, m2, T2, l2, s2.unset, hd2, q2⟩
theorem nmT2 {x1 x2 : Str} {p1 p2 pos : Pos} {k : Nat} {c1 c2 : Addr} (h1 : GlC C x1) (m1 : C.mg x1 = some (.ref c1)) (h2 : GlC C x2) (m2 : C.mg x2 = some (.ref c2)) (d1 : (x1 == ("__debug__" : Str)) = false := by decide) (d2 : (x2 == ("__debug__" : Str)) = false := by decide) :
    ∀ X, Fits C X → NamesT X (.Tuple [.Name x1 p1, .Name x2 p2] k pos) [.ref c1, .ref c2] := fun X f => names2 (f.gl h1) (by rw [f.mg]; exact m1) (f.gl h2) (by rw [f.mg]; exact m2) d1 d2
theorem nmT3 {x1 x2 x3 : Str} {p1 p2 p3 pos : Pos} {k : Nat} {c1 c2 c3 : Addr} (h1 : GlC C x1) (m1 : C.mg x1 = some (.ref c1)) (h2 : GlC C x2) (m2 : C.mg x2 = some (.ref c2)) (h3 : GlC C x3) (m3 : C.mg x3 = some (.ref c3))
    (d1 : (x1 == ("__debug__" : Str)) = false := by decide) (d2 : (x2 == ("__debug__" : Str)) = false := by decide) (d3 : (x3 == ("__debug__" : Str)) = false := by decide) :
    ∀ X, Fits C X → NamesT X (.Tuple [.Name x1 p1, .Name x2 p2, .Name x3 p3] k pos) [.ref c1, .ref c2, .ref c3] := fun X f => names3 (f.gl h1) (by rw [f.mg]; exact m1) (f.gl h2) (by rw [f.mg]; exact m2) (f.gl h3) (by rw [f.mg]; exact m3) d1 d2 d3
theorem exa2 {K : PySem.W.Frag} {cls c1 c2 : Value} {b1 b2 b : Bool} (h1 : PySem.W.exmOne K cls c1 = some b1) (h2 : PySem.W.exmOne K cls c2 = some b2) (e : (b1 || (b2 || false)) = b) : PySem.W.exmAny K cls [c1, c2] = some b := by
  simp only [PySem.W.exmAny, h1, h2, e]
theorem exa3 {K : PySem.W.Frag} {cls c1 c2 c3 : Value} {b1 b2 b3 b : Bool} (h1 : PySem.W.exmOne K cls c1 = some b1) (h2 : PySem.W.exmOne K cls c2 = some b2) (h3 : PySem.W.exmOne K cls c3 = some b3) (e : (b1 || (b2 || (b3 || false))) = b) : PySem.W.exmAny K cls [c1, c2, c3] = some b := by
  simp only [PySem.W.exmAny, h1, h2, h3, e]
/-- list.index of truth values -/
def indexB : RMD := fun d ds m Q => ∃ bs b j, d = .lst (List.map G.D.bl bs) ∧ ds = [.bl b] ∧ bs[j]? = some b ∧ (∀ i, i < j → bs[i]? ≠ some b) ∧ Q (.int (j : Nat)) m
theorem bls_of {K : PySem.W.Frag} {H : Hp} : ∀ {xs : List V} {bs : List Bool}, RepL K H xs (bs.map G.D.bl) → xs = bs.map V.bl
  | [], [], _ => rfl
  | [], _ :: _, r => by cases r
  | _ :: _, [], r => by cases r
  | x :: xs, b :: bs, r => by
    cases r with
    | cons r1 r2 => cases r1; rw [bls_of r2]; rfl
theorem md_indexB : MtD C "list.index" indexB := by
  rintro X f fr H m T v d vs ds Q hl hh ⟨bs, b, j, rfl, rfl, hj, hn, q⟩
  obtain ⟨u, rfl⟩ := one_of hl
  obtain ⟨a, xs, rfl, hq, r⟩ := hh.repsL pl0
  have r2 := hh.rep (PlL.at (i := 0) (v := u) (d := .bl b) rfl rfl)
  cases r2
  have e := bls_of r
  subst e
  refine wm_of mt_index ⟨a, bs.map V.bl, .bl b, j, .bl b, rfl, rfl, by rw [f.K]; exact SqL.of hq, rfl, ?_, by rw [List.getElem?_map, hj]; rfl, ?_, fun i z' hi hz => ?_, dK.le (dk_int hh q) (Pl.le.trans PlL.le)⟩
  · rw [List.all_map]; exact List.all_eq_true.mpr fun _ _ => rfl
  · show eqV (.bl b) (.bl b) = true
    simp [eqV]
  · rw [List.getElem?_map] at hz
    cases e2 : bs[i]? with
    | none => rw [e2] at hz; cases hz
    | some b' =>
      rw [e2] at hz
      cases hz
      have : b' ≠ b := fun z => hn i hi (by rw [e2, z])
      simp [eqV, this]
end
end G

/-! The data layer: d.pop(k, x) whose answer is not looked at; freezing at an expression's end. -/
namespace G
open PySem PySem.Spec PyProof.Rows L2
theorem dropKs_none : ∀ {ks : List Key} {ds : List G.D} {k : Key}, ks.length = ds.length → valD ks ds k = none → dropKs ks k = ks ∧ dropDs ks ds k = ds
  | [], [], _, _, _ => ⟨rfl, rfl⟩
  | [], _ :: _, _, h, _ => by simp at h
  | _ :: _, [], _, h, _ => by simp at h
  | j :: ks, d :: ds, k, h, e => by
    have e' : (if j = k then some d else valD ks ds k) = none := e
    by_cases hj : j = k
    · rw [if_pos hj] at e'; cases e'
    · rw [if_neg hj] at e'
      obtain ⟨h1, h2⟩ := dropKs_none (by simpa using h) e'
      refine ⟨?_, ?_⟩
      · unfold dropKs at h1 ⊢
        rw [List.filter_cons_of_pos (by simpa using hj), h1]
      · show (if j = k then dropDs ks ds k else d :: dropDs ks ds k) = _
        rw [if_neg hj, h2]
theorem sput_idG {m : Sto} {p : Addr} {o : O} (h : m p = some o) : sput m p o = m := by
  funext a
  unfold sput
  split
  · rename_i e; rw [e, h]
  · rfl
section
variable {C : Ct} {W : DW} {δ : Sl} {m : Sto} {b c e o i f : Expr} {es : List Expr} {pos pos' apos cpos : Pos} {Q : D → Sto → Prop} {D : DEn}
/-- d.pop(k, x), whatever it answers -/
theorem de_dpopN (h : DE C W o δ m fun d m1 => ∃ a ks0 ds0, d = .ref a ∧ m1 a = some (.dic ks0 ds0) ∧ DE C W e δ m1 fun y m2 => DE C W f δ m2 fun x m3 => ∃ ks ds k, y = kD k ∧ m3 a = some (.dic ks ds) ∧ ks.length = ds.length ∧ ∀ z, Q z (sput m3 a (.dic (dropKs ks k) (dropDs ks ds k))))
    (hm : ∀ X : Cx, M2 X o "pop" apos e f cpos := by intro _; exact ⟨rfl, rfl, rfl, rfl⟩) : DE C W (.Call (.Attribute o "pop" apos) [e, f] [] cpos) δ m Q := by
  refine de_dpop2 (h.mono fun d m1 ⟨a, ks0, ds0, e1, e2, q⟩ => ⟨a, ks0, ds0, e1, e2, q.mono fun y m2 q2 => q2.mono fun x m3 ⟨ks, ds, k, e3, e4, e5, q3⟩ => ⟨ks, ds, k, e3, e4, fun z _ => q3 z, fun hn => ?_⟩⟩) hm
  obtain ⟨g1, g2⟩ := dropKs_none e5 hn
  have w := q3 x
  rw [g1, g2, sput_idG e4] at w
  exact w
/-- what stands in a dict of the store becomes data, behind an expression -/
theorem de_fzIn (h : DE C W e δ m fun d m1 => ∃ b i p kb db ks ds, m1 b = some (.dic kb db) ∧ db[i]? = some (.ref p) ∧ m1 p = some (.dic ks ds) ∧ b ≠ p ∧ Q d (sput (sdel m1 p) b (.dic kb (db.set i (.dic ks ds))))) : DE C W e δ m Q := by
  intro X S f tk σ H T le sl hh pins s I
  refine thn (h X S f tk σ H T le sl hh pins s I) fun u s1 ⟨v, H1, I1, r, d, m1, h1, b, i, p, kb, db, ks, ds, hb, hi, hm, hne, q⟩ => ?_
  obtain ⟨kvs, hu, hf⟩ := h1.frzD hm
  obtain ⟨od, I2⟩ := I1.lock hu trivial
  have h2 := (hf od).tellD (b := b) (i := i) (by rw [sdel_ne hne]; exact hb) hi Pl.it
  exact ⟨v, _, I2, r, d, _, h2.le Pl.le, q⟩
end
section
variable {C : Ct} {m : Sto}
def addIi : R2D := fun x y m Q => ∃ i j, x = .int i ∧ y = .int j ∧ Q (.int (i + j)) m
def subIi : R2D := fun x y m Q => ∃ i j, x = .int i ∧ y = .int j ∧ Q (.int (i - j)) m
theorem od_addi : OpDi C .Add addIi := by
  rintro X f fr H m T x y d e Q hh tx ty ⟨i, j, rfl, rfl, q⟩
  have rx := hh.rep tx
  have ry := hh.rep ty
  cases rx
  cases ry
  exact fun pins s σ u v I r1 r2 => in_add pins s σ H _ _ u v _ I r1 r2 ⟨i, j, rfl, rfl, dk_int hh q⟩
theorem od_subi : OpDi C .Sub subIi := by
  rintro X f fr H m T x y d e Q hh tx ty ⟨i, j, rfl, rfl, q⟩
  have rx := hh.rep tx
  have ry := hh.rep ty
  cases rx
  cases ry
  exact fun pins s σ u v I r1 r2 => in_sub pins s σ H _ _ u v _ I r1 r2 ⟨i, j, rfl, rfl, dk_int hh q⟩
end
section
variable {C : Ct} {W : DW} {δ : Sl} {m : Sto} {pos pos' : Pos}
/-- x = [elt for tg in iter if ..], an object -/
theorem ds_setLcM {D : DEn} (j : Nat) {y : Str} {py : Pos} {elt tg iter : Expr} {ifs : List Expr} {scope : Scope} (own : List (Str × Nat)) (ok : blkC C.N C.sc scope own = true) (hN : C.N[j]? = some y) (hy : C.sc.names.lookup y = some .local)
    (hl : (py.line == pos.line) = true) (hna : (scope.names.any fun (n, k) => n == y && (k == .local || k == .cell)) = false)
    (h : LcI C W elt tg iter ifs scope own δ m fun d m1 => ∀ p acc, d = .lst acc → m1 p = none → D.nx (δ.set j (some (.ref p))) (sput m1 p (.lst acc))) (hs : ∀ env x, foldedSetIterable iter env x = pure x := by intro _ _; rfl) (hk : C.sc.kind = .function := by rfl) (hcm : C.cm = true := by rfl) :
    DS C W (.Assign [.Name y py] (.ListComp elt [⟨tg, iter, ifs, 0⟩] scope pos) pos') δ m D := by
  intro X S f tk σ H T le sl hh
  have okB : BlkOk X.N X.env.scope scope own := by rw [f.N, f.sc]; exact blkOk_by ok
  have hyl : X.env.scope.names.lookup y = some .local := by rw [f.sc]; exact hy
  refine WS.of (ps_setLc (te := rdE X scope elt) (tt := rdT X scope ifs) (g := rdG X scope tg) (f.calm hcm) f.nd (i := j) (by rw [f.N]; exact hN) hyl (sw_true (by rw [f.sc]; exact hk) hyl hl hna) wi okB (fun s H c cl fp => ⟨fun pins t σ H v u Q I r q => q s _ c cl fp pins t u I r⟩) (fun s H c cl fp => ⟨fun pins t σ H Q I q => q s _ c cl fp pins t I⟩) (fun s H c cl fp => ⟨fun pins t σ H Q I q => q s _ c cl fp pins t I⟩) (hs _)) ?_
  exact lc_read h f tk le sl hh fun p H' acc m' T' l hm hd q => ⟨_, _, _, le.trans Pl.le, (sl.le Pl.le).set Pl.it, (hd.pl fun _ _ => .ref p).le (Pl.mono l), q p acc rfl hm⟩
end
section
variable {C : Ct} {W : DW} {δ : Sl} {m : Sto} {pos : Pos} {e t1 t2 : Expr}
/-- t1 = t2 = e -/
theorem ds_asg2 {D : DEn} (h : DE C W e δ m fun d m1 => DG C W t1 d δ m1 fun δ1 m2 => DG C W t2 d δ1 m2 D.nx) (ha : ∀ env, (assignEach [t1, t2] env).map (·.2) = [assign t1 env, assign t2 env] := by intro _; rfl) (hw : ∀ env, swappedStores [t1, t2] e env = pure none := by intro _; rfl) :
    DS C W (.Assign [t1, t2] e pos) δ m D := by
  intro X S f tk σ H T le sl hh
  refine WS.of (ps_asg2 we wg wg (ha _) (hw _)) ((h X S f tk σ H T le sl hh).mono fun v H1 ⟨d, m1, h1, q⟩ => ?_)
  refine (q X S f tk v σ H1 _ (le.trans Pl.le) (sl.le Pl.le) Pl.it h1).mono fun σ2 H2 ⟨δ2, m2, T2, le2, sl2, h2, q2⟩ => ?_
  refine (q2 X S f tk v σ2 H2 T2 (le.trans (Pl.le.trans le2)) sl2 (le2 _ _ Pl.it) h2).mono fun σ3 H3 ⟨δ3, m3, T3, le3, sl3, h3, q3⟩ => ?_
  exact lift_nx (le.trans (Pl.le.trans (le2.trans le3))) sl3 h3 q3
end
end G

/-! What the laws' own small defs do: the draws, sameness. -/
namespace G
open PySem PySem.Spec PyProof.Rows L2

/-! ### draws -/
def drawO (ns : List Int) (i b s c : Int) : O := .lst [.lst (ns.map D.int), .int i, .int b, .int s, .int c]
def IsDraw (o : O) : Prop := ∃ ns i b s c, o = drawO ns i b s c ∧ 0 ≤ i ∧ 0 ≤ b ∧ 0 ≤ s ∧ s < 1000000007
def FBegin : DF := fun ds m Q _ => ∃ ns : List Int, ds = [.frz (ns.map D.int)] ∧ ∀ p o, m p = none → IsDraw o → Q (.ref p) (sput m p o)
theorem FBegin.len : ∀ ds m Q E, FBegin ds m Q E → ds.length = (["_law_script"] : List Str).length := by
  rintro ds m Q E ⟨ns, rfl, _⟩
  rfl
theorem begin_draw (ns : List Int) : IsDraw (.lst [.lst (cutL (ns.map D.int) none (some 63)), .int 0, .int 0, .int 1, .int 0]) :=
  ⟨ns.take 63, 0, 0, 1, 0, by
    have e := cutL_to (ns.map D.int) 63
    unfold drawO
    rw [List.map_take]
    exact congrArg (fun z => O.lst [.lst z, .int 0, .int 0, .int 1, .int 0]) e, by omega, by omega, by omega, by omega⟩
theorem use_begin {m : Sto} {Q : D → Sto → Prop} {E : Value → List (Str × D) → Sto → Prop} {ns : List Int} (h : ∀ p o, m p = none → IsDraw o → Q (.ref p) (sput m p o)) : FBegin [.frz (ns.map D.int)] m Q E := ⟨ns, rfl, h⟩
def FPick : DF := fun ds m Q _ => ∃ p n o, ds = [.ref p, .int n] ∧ m p = some o ∧ IsDraw o ∧ 0 < n ∧ n < 1073741824 ∧ ∀ r o', 0 ≤ r → r < n → IsDraw o' → Q (.int r) (sput m p o')
theorem FPick.len : ∀ ds m Q E, FPick ds m Q E → ds.length = (["_law_draw", "_law_many"] : List Str).length := by
  rintro ds m Q E ⟨p, n, o, rfl, _⟩
  rfl
/-- a draw, where the store is known as one with the draw put in -/
theorem use_pick {m : Sto} {Q : D → Sto → Prop} {E : Value → List (Str × D) → Sto → Prop} {p : Addr} {n : Int} {o : O} (hd : IsDraw o) (h0 : 0 < n) (h1 : n < 1073741824) (h : ∀ r o', 0 ≤ r → r < n → IsDraw o' → Q (.int r) (sput m p o')) : FPick [.ref p, .int n] (sput m p o) Q E :=
  ⟨p, n, o, rfl, sput_same, hd, h0, h1, fun r o' a b c => by rw [sput_sput]; exact h r o' a b c⟩
theorem draw_cell {ns : List Int} {i : Int} (h0 : 0 ≤ i) (h : i < ((ns.map D.int).length : Int)) : ∃ z : Int, (ns.map D.int)[i.toNat]? = some (.int z) := by
  have hi : i.toNat < ns.length := by rw [List.length_map] at h; omega
  exact ⟨ns[i.toNat], by rw [List.getElem?_map, List.getElem?_eq_getElem hi]; rfl⟩
theorem cube {s : Int} (h0 : 0 ≤ s) (h : s < 1000000007) : CPow s 3 := ⟨by omega, by omega, by omega⟩

theorem FLaw.len : ∀ ds m Q E, FLaw ds m Q E → ds.length = (["_law_script"] : List Str).length := by
  rintro ds m Q E ⟨ns, rfl, _⟩
  rfl
/-! ### sameness -/
theorem okDL_all {n : Nat} : ∀ {l : List D}, (∀ d ∈ l, okD n d = true) → okDL n l = true
  | [], _ => by simp [okDL]
  | d :: l, h => by
    simp only [okDL, Bool.and_eq_true]
    exact ⟨h d List.mem_cons_self, okDL_all fun x hx => h x (List.mem_cons_of_mem _ hx)⟩
theorem okDL_mem {n : Nat} : ∀ {l : List D}, okDL n l = true → ∀ d ∈ l, okD n d = true
  | [], _, d, hd => by cases hd
  | x :: l, h, d, hd => by
    simp only [okDL, Bool.and_eq_true] at h
    rcases List.mem_cons.mp hd with e | hd
    · rw [e]; exact h.1
    · exact okDL_mem h.2 d hd
theorem okDL_map {α : Type} {n : Nat} {f : α → D} {l : List α} (h : ∀ x, okD n (f x) = true) : okDL n (l.map f) = true := okDL_all fun d hd => by
  obtain ⟨x, _, rfl⟩ := List.mem_map.mp hd
  exact h x
mutual
theorem eqv_refl : ∀ d : PyData, d.canLay0 = true → PyData.eqv d d = true
  | .none, _ => by simp [PyData.eqv]
  | .bool _, _ => by simp [PyData.eqv]
  | .int _, _ => by simp [PyData.eqv]
  | .str _, _ => by simp [PyData.eqv]
  | .list xs, h => by
    simp only [PyData.eqv]
    exact eqvAll_refl xs (by simpa [PyData.canLay0] using h)
  | .tuple xs, h => by
    simp only [PyData.eqv]
    exact eqvAll_refl xs (by simpa [PyData.canLay0] using h)
  | .dict _, h => by simp [PyData.canLay0] at h
theorem eqvAll_refl : ∀ l : List PyData, PyData.canLayAll0 l = true → PyData.eqvAll l l = true
  | [], _ => by simp [PyData.eqvAll]
  | d :: l, h => by
    simp only [PyData.canLayAll0, Bool.and_eq_true] at h
    simp only [PyData.eqvAll, Bool.and_eq_true]
    exact ⟨eqv_refl d h.1, eqvAll_refl l h.2⟩
end
theorem eqvD_refl {n : Nat} {d : D} (h : okD n d = true) : eqvD d d = true := eqv_refl _ (okD_lay n d h)
def FSame (n : Nat) : DF := fun ds m Q _ => ∃ d, ds = [d, d] ∧ okD n d = true ∧ Q (.bl true) m
theorem FSame.len {n : Nat} : ∀ ds m Q E, FSame n ds m Q E → ds.length = (["_law_found", "_law_due"] : List Str).length := by
  rintro ds m Q E ⟨d, rfl, _⟩
  rfl
theorem use_same {n : Nat} {m : Sto} {Q : D → Sto → Prop} {E : Value → List (Str × D) → Sto → Prop} {x y : D} (e : x = y) (ok : okD n y = true) (h : Q (.bl true) m) : FSame n [x, y] m Q E := by
  subst e
  exact ⟨x, rfl, ok, h⟩
end G

/-! Things: what stands in the store, seen from afar. -/
namespace G
open PySem PySem.Spec PyProof.Rows L2
/-- a kind of thing: how it stands in the store at p, on which places s -/
structure B where
  at_ : Sto → Addr → (Addr → Prop) → Prop
  loc : ∀ {m m' : Sto} {p : Addr} {s : Addr → Prop}, at_ m p s → (∀ a, s a → m' a = m a) → at_ m' p s
  dom : ∀ {m : Sto} {p : Addr} {s : Addr → Prop}, at_ m p s → ∀ a, s a → ∃ o, m a = some o
  self : ∀ {m : Sto} {p : Addr} {s : Addr → Prop}, at_ m p s → s p
abbrev HSt := Addr → Option B
def hput (h : HSt) (p : Addr) (b : B) : HSt := fun q => if q = p then some b else h q
theorem hput_same {h : HSt} {p : Addr} {b : B} : hput h p b p = some b := if_pos rfl
theorem hput_ne {h : HSt} {p q : Addr} {b : B} (n : q ≠ p) : hput h p b q = h q := if_neg n
theorem hput_id {h : HSt} {p : Addr} {b : B} (e : h p = some b) : hput h p b = h := by
  funext q
  unfold hput
  split
  · rename_i z; subst z; exact e.symm
  · rfl
theorem hput_hput {h : HSt} {p : Addr} {b c : B} : hput (hput h p b) p c = hput h p c := by
  funext q
  unfold hput
  split <;> rfl
def Abs (h : HSt) (m : Sto) : Prop := ∃ S : Addr → Addr → Prop, (∀ p b, h p = some b → b.at_ m p (S p)) ∧ ∀ p q b c, p ≠ q → h p = some b → h q = some c → ∀ a, S p a → ¬ S q a
/-- nothing of the store is lost -/
def Grw (m m' : Sto) : Prop := ∀ a o, m a = some o → m' a = some o
theorem Grw.refl (m : Sto) : Grw m m := fun _ _ h => h
theorem Grw.trans {a b c : Sto} (h : Grw a b) (k : Grw b c) : Grw a c := fun x o e => k x o (h x o e)
theorem Grw.put {m : Sto} {p : Addr} {o : O} (h : m p = none) : Grw m (sput m p o) := fun b u e => by rw [sput_ne (fun z => by rw [z, h] at e; cases e)]; exact e
section
variable {h h' : HSt} {m m' : Sto} {p q : Addr} {b c : B}
theorem Abs.at' (A : Abs h m) (hp : h p = some b) : ∃ s, b.at_ m p s := let ⟨S, h1, _⟩ := A; ⟨S p, h1 p b hp⟩
theorem Abs.nil : Abs (fun _ => none) m := ⟨fun _ _ => False, fun _ _ e => (by cases e), fun _ _ _ _ _ e => (by cases e)⟩
theorem Abs.has (A : Abs h m) (hp : h p = some b) : ∃ o, m p = some o := let ⟨s, x⟩ := A.at' hp; b.dom x p (b.self x)
theorem Abs.none (A : Abs h m) (hp : m p = none) : h p = none := by
  cases e : h p with
  | none => rfl
  | some b => obtain ⟨o, q⟩ := A.has e; rw [hp] at q; cases q
theorem Abs.upd (A : Abs h m) (hp : h p = some b) : ∃ s, b.at_ m p s ∧ ∀ m' b' s', b'.at_ m' p s' → (∀ a, ¬ s a → ∀ o, m a = some o → m' a = some o) → (∀ a, s' a → s a ∨ m a = .none) → Abs (hput h p b') m' := by
  obtain ⟨S, h1, h2⟩ := A
  refine ⟨S p, h1 p b hp, fun m' b' s' at' keep new => ?_⟩
  classical
  refine ⟨fun q => if q = p then s' else S q, fun q c hq => ?_, fun q r x y hqr hq hr a sa sb => ?_⟩
  · by_cases e : q = p
    · subst e
      rw [hput_same] at hq
      cases hq
      show b'.at_ m' q (if q = q then s' else S q)
      rw [if_pos rfl]
      exact at'
    · rw [hput_ne e] at hq
      show c.at_ m' q (if q = p then s' else S q)
      rw [if_neg e]
      have x := h1 q c hq
      refine c.loc x fun a sa => ?_
      obtain ⟨o, eo⟩ := c.dom x a sa
      rw [keep a (fun z => h2 p q b c (Ne.symm e) hp hq a z sa) o eo, eo]
  · have far : ∀ {q c}, q ≠ p → h q = some c → ∀ a, S q a → ¬ s' a := fun {q c} hq hc a sq sp => by
      rcases new a sp with z | z
      · exact h2 p q b c (Ne.symm hq) hp hc a z sq
      · obtain ⟨o, eo⟩ := c.dom (h1 q c hc) a sq
        rw [z] at eo
        cases eo
    by_cases e : q = p
    · subst e
      have e2 : r ≠ q := fun z => hqr z.symm
      simp only [if_true, if_neg e2] at sa sb
      rw [hput_ne e2] at hr
      exact far e2 hr a sb sa
    · rw [hput_ne e] at hq
      simp only [if_neg e] at sa
      by_cases e2 : r = p
      · subst e2
        simp only [if_true] at sb
        exact far e hq a sa sb
      · rw [hput_ne e2] at hr
        simp only [if_neg e2] at sb
        exact h2 q r x y hqr hq hr a sa sb
theorem Abs.sub (A : Abs h m) (k : ∀ p b, h' p = some b → h p = some b) : Abs h' m := let ⟨S, h1, h2⟩ := A; ⟨S, fun p b e => h1 p b (k p b e), fun p q b c n e1 e2 => h2 p q b c n (k p b e1) (k q c e2)⟩
theorem Abs.grow (A : Abs h m) (k : Grw m m') : Abs h m' := let ⟨S, h1, h2⟩ := A; ⟨S, fun p b e => b.loc (h1 p b e) fun a sa => by obtain ⟨o, eo⟩ := b.dom (h1 p b e) a sa; rw [eo]; exact k a o eo, h2⟩
theorem Abs.drop (A : Abs (hput h p b) m) (hp : h p = .none) : Abs h m := A.sub fun q c e => by rw [hput_ne (fun z => by rw [z, hp] at e; cases e)]; exact e
theorem Abs.new (A : Abs h m) (hp : m p = .none) {s : Addr → Prop} (x : b.at_ m' p s) (k : Grw m m') (n : ∀ a, s a → m a = .none) : Abs (hput h p b) m' := by
  obtain ⟨S, h1, h2⟩ := A
  have hn : h p = .none := Abs.none ⟨S, h1, h2⟩ hp
  classical
  refine ⟨fun q => if q = p then s else S q, fun q c hq => ?_, fun q r y z hqr hq hr a sa sb => ?_⟩
  · by_cases e : q = p
    · subst e
      rw [hput_same] at hq
      cases hq
      show b.at_ m' q (if q = q then s else S q)
      rw [if_pos rfl]
      exact x
    · rw [hput_ne e] at hq
      show c.at_ m' q (if q = p then s else S q)
      rw [if_neg e]
      have w := h1 q c hq
      refine c.loc w fun a sa => ?_
      obtain ⟨o, eo⟩ := c.dom w a sa
      rw [k a o eo, eo]
  · have far : ∀ {q c}, h q = some c → ∀ a, S q a → ¬ s a := fun {q c} hc a sq sp => by
      obtain ⟨o, eo⟩ := c.dom (h1 q c hc) a sq
      rw [n a sp] at eo
      cases eo
    by_cases e : q = p
    · subst e
      have e2 : r ≠ q := fun z => hqr z.symm
      simp only [if_true, if_neg e2] at sa sb
      rw [hput_ne e2] at hr
      exact far hr a sb sa
    · rw [hput_ne e] at hq
      simp only [if_neg e] at sa
      by_cases e2 : r = p
      · subst e2
        simp only [if_true] at sb
        exact far hq a sa sb
      · rw [hput_ne e2] at hr
        simp only [if_neg e2] at sb
        exact h2 q r y z hqr hq hr a sa sb
theorem hne (hp : h p = some b) (hq : h q = .none) : p ≠ q := fun e => by subst e; rw [hq] at hp; cases hp
/-- a thing that is an object of the store by itself -/
def bRaw (o : O) : B := ⟨fun m p s => m p = some o ∧ ∀ a, s a ↔ a = p, fun x k => ⟨by rw [k _ ((x.2 _).2 rfl)]; exact x.1, x.2⟩, fun x a sa => ⟨o, by rw [(x.2 a).1 sa]; exact x.1⟩, fun x => (x.2 _).2 rfl⟩
theorem Abs.raw {o : O} (A : Abs h m) (hp : h p = some (bRaw o)) : m p = some o := let ⟨_, x, _⟩ := A.at' hp; x
theorem Abs.put {o o' : O} (A : Abs h m) (hp : h p = some (bRaw o)) : Abs (hput h p (bRaw o')) (sput m p o') := by
  obtain ⟨s, ⟨x1, x2⟩, k⟩ := A.upd hp
  exact k _ (bRaw o') s ⟨sput_same, x2⟩ (fun a na o e => by rw [sput_ne (fun z => na ((x2 a).2 z))]; exact e) fun a sa => .inl sa
theorem Abs.newRaw {o : O} (A : Abs h m) (hp : m p = .none) : Abs (hput h p (bRaw o)) (sput m p o) :=
  A.new hp (b := bRaw o) (s := fun a => a = p) ⟨sput_same, fun _ => Iff.rfl⟩ (Grw.put hp) fun a e => by rw [e]; exact hp
/-- what is drawn from -/
def bDraw : B := ⟨fun m p s => (∃ o, m p = some o ∧ IsDraw o) ∧ ∀ a, s a ↔ a = p, fun x k => ⟨by rw [k _ ((x.2 _).2 rfl)]; exact x.1, x.2⟩, fun x a sa => by obtain ⟨o, e, _⟩ := x.1; exact ⟨o, by rw [(x.2 a).1 sa]; exact e⟩, fun x => (x.2 _).2 rfl⟩
theorem Abs.draw (A : Abs h m) (hp : h p = some bDraw) : ∃ o, m p = some o ∧ IsDraw o ∧ ∀ o', IsDraw o' → Abs h (sput m p o') := by
  obtain ⟨s, ⟨⟨o, x1, d⟩, x2⟩, k⟩ := A.upd hp
  refine ⟨o, x1, d, fun o' d' => ?_⟩
  have z := k (sput m p o') bDraw s ⟨⟨o', sput_same, d'⟩, x2⟩ (fun a na o e => by rw [sput_ne (fun z => na ((x2 a).2 z))]; exact e) fun a sa => .inl sa
  rw [hput_id hp] at z
  exact z
theorem Abs.newDraw {o : O} (A : Abs h m) (hp : m p = .none) (d : IsDraw o) : Abs (hput h p bDraw) (sput m p o) :=
  A.new hp (b := bDraw) (s := fun a => a = p) ⟨⟨o, sput_same, d⟩, fun _ => Iff.rfl⟩ (Grw.put hp) fun a e => by rw [e]; exact hp
end
section
variable {m : Sto} {Q : D → Sto → Prop} {E : Value → List (Str × D) → Sto → Prop}
theorem use_pickH {h : HSt} {p : Addr} {n : Int} (A : Abs h m) (hp : h p = some bDraw) (h0 : 0 < n) (h1 : n < 1073741824) (q : ∀ r m', 0 ≤ r → r < n → Abs h m' → Q (.int r) m') : FPick [.ref p, .int n] m Q E := by
  obtain ⟨o, e, d, k⟩ := A.draw hp
  exact ⟨p, n, o, rfl, e, d, h0, h1, fun r o' a b d' => q r _ a b (k o' d')⟩
theorem use_beginH {h : HSt} {ns : List Int} (A : Abs h m) (q : ∀ p m', h p = none → Abs (hput h p bDraw) m' → Q (.ref p) m') : FBegin [.frz (ns.map D.int)] m Q E :=
  ⟨ns, rfl, fun p o hp d => q p _ (A.none hp) (A.newDraw hp d)⟩
end
end G

/-! Rows of sizes: what they are, what is read of them. -/
namespace G
open PySem PySem.Spec PyProof.Rows L2
/-- a row of sizes: how many, the common size, those given, those gone -/
structure Sz where
  n : Int
  c : Int
  gv : List (Int × Int)
  gn : List Int
def insS (k : Int) : List Int → List Int
  | [] => [k]
  | x :: l => if k < x then k :: x :: l else if k = x then x :: l else x :: insS k l
def sortU : List Int → List Int
  | [] => []
  | k :: l => insS k (sortU l)
theorem mem_insS {k j : Int} : ∀ {l : List Int}, j ∈ insS k l ↔ j = k ∨ j ∈ l
  | [] => by simp [insS]
  | x :: l => by
    unfold insS
    split
    · simp
    · split
      · rename_i h; subst h; simp
      · rw [List.mem_cons, mem_insS (l := l), List.mem_cons]
        constructor
        · rintro (h | h | h)
          · exact .inr (.inl h)
          · exact .inl h
          · exact .inr (.inr h)
        · rintro (h | h | h)
          · exact .inr (.inl h)
          · exact .inl h
          · exact .inr (.inr h)
theorem inc_insS {k : Int} : ∀ {l : List Int}, l.Pairwise (· < ·) → (insS k l).Pairwise (· < ·)
  | [], _ => by simp [insS]
  | x :: l, h => by
    obtain ⟨h1, h2⟩ := List.pairwise_cons.mp h
    unfold insS
    split
    · rename_i c
      refine List.pairwise_cons.mpr ⟨fun y hy => ?_, h⟩
      rcases List.mem_cons.mp hy with e | e
      · omega
      · have := h1 y e; omega
    · split
      · exact h
      · rename_i c1 c2
        refine List.pairwise_cons.mpr ⟨fun y hy => ?_, inc_insS h2⟩
        rcases mem_insS.mp hy with e | e
        · omega
        · exact h1 y e
theorem mem_sortU {j : Int} : ∀ {l : List Int}, j ∈ sortU l ↔ j ∈ l
  | [] => by simp [sortU]
  | k :: l => by rw [sortU, mem_insS, mem_sortU (l := l), List.mem_cons]
theorem inc_sortU : ∀ l : List Int, (sortU l).Pairwise (· < ·)
  | [] => List.Pairwise.nil
  | k :: l => inc_insS (inc_sortU l)
theorem inc_uniq : ∀ {l u : List Int}, l.Pairwise (· < ·) → u.Pairwise (· < ·) → (∀ k, k ∈ l ↔ k ∈ u) → l = u
  | [], [], _, _, _ => rfl
  | [], y :: u, _, _, h => by have := (h y).2 List.mem_cons_self; cases this
  | x :: l, [], _, _, h => by have := (h x).1 List.mem_cons_self; cases this
  | x :: l, y :: u, h1, h2, h => by
    obtain ⟨a1, a2⟩ := List.pairwise_cons.mp h1
    obtain ⟨b1, b2⟩ := List.pairwise_cons.mp h2
    have e : x = y := by
      rcases List.mem_cons.mp ((h x).1 List.mem_cons_self) with e | e
      · exact e
      · rcases List.mem_cons.mp ((h y).2 List.mem_cons_self) with e' | e'
        · exact e'.symm
        · have := b1 x e; have := a1 y e'; omega
    subst e
    congr 1
    refine inc_uniq a2 b2 fun k => ?_
    have q := h k
    constructor
    · intro hk
      rcases List.mem_cons.mp (q.1 (List.mem_cons_of_mem _ hk)) with e | e
      · have := a1 k hk; omega
      · exact e
    · intro hk
      rcases List.mem_cons.mp (q.2 (List.mem_cons_of_mem _ hk)) with e | e
      · have := b1 k hk; omega
      · exact e
/-- numbers in order, some twice or not -/
theorem le_uniq {l u : List Int} (h1 : l.Pairwise (· ≤ ·)) (nd : l.Nodup) (h2 : u.Pairwise (· < ·)) (h : ∀ k, k ∈ l ↔ k ∈ u) : l = u :=
  inc_uniq (lt_of_le_nodup l h1 nd) h2 h
namespace Sz
def odd (z : Sz) : List Int := sortU (z.gv.map (·.1) ++ z.gn)
def own (z : Sz) (k : Int) : Int := (z.gv.lookup k).getD z.c
def hid (z : Sz) (k : Int) : Bool := decide (k ∈ z.gn)
def size (z : Sz) (k : Int) : Int := if z.hid k = true then 0 else z.own k
def ahead (z : Sz) (k : Int) : Int := k * z.c + (((z.odd).filter fun j => decide (j < k)).map fun j => z.size j - z.c).sum
def total (z : Sz) : Int := z.ahead z.n
def exc (z : Sz) : List G.D := z.odd.map fun k => .tup [.int k, .int (z.own k), .bl (z.hid k)]
structure Ok (z : Sz) : Prop where
  n1 : 1 ≤ z.n
  n2 : z.n ≤ 1000000000
  c1 : 1 ≤ z.c
  c2 : z.c ≤ 60
  kv : ∀ q ∈ z.gv, 0 ≤ q.1 ∧ q.1 < z.n ∧ 1 ≤ q.2 ∧ q.2 ≤ 60
  kn : ∀ k ∈ z.gn, 0 ≤ k ∧ k < z.n
  dv : (z.gv.map (·.1)).Nodup
  dn : z.gn.Nodup
  few : z.odd.length ≤ 60
  ne : ∀ q ∈ z.gv, q.2 ≠ z.c
end Sz
def keysV (gv : List (Int × Int)) : List Key := (gv.map (·.1)).map Sum.inl
def valsV (gv : List (Int × Int)) : List G.D := gv.map fun q => .int q.2
def keysN (gn : List Int) : List Key := gn.map Sum.inl
def valsN (gn : List Int) : List G.D := gn.map fun _ => .bl true
theorem val_given {k : Int} : ∀ gv : List (Int × Int), valD (keysV gv) (valsV gv) (.inl k) = (gv.lookup k).map G.D.int
  | [] => rfl
  | (j, v) :: gv => by
    show (if (Sum.inl j : Key) = Sum.inl k then some (G.D.int v) else valD (keysV gv) (valsV gv) (.inl k)) = _
    rw [val_given gv, List.lookup_cons]
    by_cases h : j = k
    · subst h; simp
    · rw [if_neg (fun e => h (Sum.inl.inj e)), show (k == j) = false from by simpa using Ne.symm h]
theorem val_gone {k : Int} : ∀ gn : List Int, (valD (keysN gn) (valsN gn) (.inl k)).isSome = decide (k ∈ gn)
  | [] => rfl
  | j :: gn => by
    show (if (Sum.inl j : Key) = Sum.inl k then some (G.D.bl true) else valD (keysN gn) (valsN gn) (.inl k)).isSome = _
    by_cases h : j = k
    · subst h; simp
    · rw [if_neg (fun e => h (Sum.inl.inj e)), val_gone gn]
      simp [Ne.symm h]
theorem val_own {k c : Int} (gv : List (Int × Int)) : ((valD (keysV gv) (valsV gv) (.inl k)).getD (.int c)) = .int ((gv.lookup k).getD c) := by
  rw [val_given]
  cases gv.lookup k <;> rfl
def szF (z : Sz) (a1 a2 : Addr) : List (Str × G.D) := [("many", .int z.n), ("common", .int z.c), ("given", .ref a1), ("gone", .ref a2)]
/-- it stands at p -/
structure SzA (cA : Addr) (m : Sto) (p a1 a2 : Addr) (z : Sz) : Prop where
  at_ : m p = some (.ins cA (szF z a1 a2))
  gv : m a1 = some (.dic (keysV z.gv) (valsV z.gv))
  gn : m a2 = some (.dic (keysN z.gn) (valsN z.gn))
  ne : a1 ≠ a2
def SzAt (cA : Addr) (m : Sto) (p : Addr) (z : Sz) : Prop := ∃ a1 a2, SzA cA m p a1 a2 z
/-- nothing of the store is lost -/
def Grow (m m' : Sto) : Prop := ∀ b o, m b = some o → m' b = some o
theorem Grow.refl (m : Sto) : Grow m m := fun _ _ h => h
theorem Grow.trans {a b c : Sto} (h : Grow a b) (k : Grow b c) : Grow a c := fun x o e => k x o (h x o e)
theorem Grow.put {m : Sto} {p : Addr} {o : O} (h : m p = none) : Grow m (sput m p o) := fun b u e => by rw [sput_ne (fun z => by rw [z, h] at e; cases e)]; exact e
theorem SzAt.grow {cA p : Addr} {m m' : Sto} {z : Sz} (h : SzAt cA m p z) (g : Grow m m') : SzAt cA m' p z := by
  obtain ⟨a1, a2, h1, h2, h3, hn⟩ := h
  exact ⟨a1, a2, g _ _ h1, g _ _ h2, g _ _ h3, hn⟩
theorem SzAt.draw {cA p pd : Addr} {m : Sto} {z : Sz} {l : List G.D} {o : O} (h : SzAt cA m p z) (hd : m pd = some (.lst l)) : SzAt cA (sput m pd o) p z := by
  obtain ⟨a1, a2, h1, h2, h3, hn⟩ := h
  refine ⟨a1, a2, ?_, ?_, ?_, hn⟩
  · rw [sput_ne (fun e => by rw [e, hd] at h1; cases h1)]; exact h1
  · rw [sput_ne (fun e => by rw [e, hd] at h2; cases h2)]; exact h2
  · rw [sput_ne (fun e => by rw [e, hd] at h3; cases h3)]; exact h3
/-! ### what the class does -/
abbrev Er := Value → List (Str × G.D) → Sto → Prop
def FNeedSize (cS : Addr) : DF := fun ds m Q E => ∃ s, ds = [.int s] ∧ (1 ≤ s → s ≤ 60 → Q .non m) ∧ (s < 1 ∨ s > 60 → E (.ref cS) [] m)
def FNeed (cA cI : Addr) : DF := fun ds m Q E => ∃ p k z, ds = [.ref p, .int k] ∧ SzAt cA m p z ∧ (0 ≤ k → k < z.n → Q .non m) ∧ (k < 0 ∨ k ≥ z.n → E (.ref cI) [] m)
def FOdd (cA : Addr) : DF := fun ds m Q _ => ∃ p z, ds = [.ref p] ∧ SzAt cA m p z ∧ z.Ok ∧ Q (.lst (z.odd.map G.D.int)) m
def FOwn (cA cI : Addr) : DF := fun ds m Q E => ∃ p k z, ds = [.ref p, .int k] ∧ SzAt cA m p z ∧ (0 ≤ k → k < z.n → Q (.int (z.own k)) m) ∧ (k < 0 ∨ k ≥ z.n → E (.ref cI) [] m)
def FHid (cA cI : Addr) : DF := fun ds m Q E => ∃ p k z, ds = [.ref p, .int k] ∧ SzAt cA m p z ∧ (0 ≤ k → k < z.n → Q (.bl (z.hid k)) m) ∧ (k < 0 ∨ k ≥ z.n → E (.ref cI) [] m)
def FSize (cA cI : Addr) : DF := fun ds m Q E => ∃ p k z, ds = [.ref p, .int k] ∧ SzAt cA m p z ∧ (0 ≤ k → k < z.n → Q (.int (z.size k)) m) ∧ (k < 0 ∨ k ≥ z.n → E (.ref cI) [] m)
def FAhead (cA cI : Addr) : DF := fun ds m Q E => ∃ p k z, ds = [.ref p, .int k] ∧ SzAt cA m p z ∧ z.Ok ∧ (0 ≤ k → k ≤ z.n → Q (.int (z.ahead k)) m) ∧ (k < 0 ∨ k > z.n → E (.ref cI) [] m)
def FTotal (cA : Addr) : DF := fun ds m Q _ => ∃ p z, ds = [.ref p] ∧ SzAt cA m p z ∧ z.Ok ∧ Q (.int z.total) m
def FExc (cA : Addr) : DF := fun ds m Q _ => ∃ p z, ds = [.ref p] ∧ SzAt cA m p z ∧ z.Ok ∧ Q (.lst z.exc) m
def szText (z : Sz) : Str := ((Str.ofString "Sizes ") ++ (toString z.n : Str)) ++ (Str.ofString " ") ++ (toString z.c : Str)
def FRepr (cA : Addr) : DF := fun ds m Q _ => ∃ p z, ds = [.ref p] ∧ SzAt cA m p z ∧ z.Ok ∧ Q (.str (szText z)) m
def FInit (cA cM cS : Addr) : DF := fun ds m Q E => ∃ p n c, ds = [.ref p, .int n, .int c] ∧ m p = some (.ins cA []) ∧ (n < 1 ∨ n > 1000000 → E (.ref cM) [] m) ∧ (1 ≤ n → n ≤ 1000000 → (c < 1 ∨ c > 60) → E (.ref cS) [] m) ∧
  (1 ≤ n → n ≤ 1000000 → 1 ≤ c → c ≤ 60 → ∀ m', (∀ b o, b ≠ p → m b = some o → m' b = some o) → SzAt cA m' p ⟨n, c, [], []⟩ → Q .non m')
def FEq (cA : Addr) : DF := fun ds m Q _ => ∃ p q z y, ds = [.ref p, .ref q] ∧ SzAt cA m p z ∧ SzAt cA m q y ∧ Q (.bl (decide (z.n = y.n) && decide (z.c = y.c) && ((keysV z.gv).length == (keysV y.gv).length && dicEq (keysV z.gv) (valsV z.gv) (keysV y.gv) (valsV y.gv)) && ((keysN z.gn).length == (keysN y.gn).length && dicEq (keysN z.gn) (valsN z.gn) (keysN y.gn) (valsN y.gn)))) m
theorem Sz.Ok.new {n c : Int} (h1 : 1 ≤ n) (h2 : n ≤ 1000000) (h3 : 1 ≤ c) (h4 : c ≤ 60) : Sz.Ok ⟨n, c, [], []⟩ := ⟨h1, by show n ≤ 1000000000; omega, h3, h4, (fun _ h => nomatch h), (fun _ h => nomatch h), List.nodup_nil, List.nodup_nil, Nat.zero_le _, (fun _ h => nomatch h)⟩
end G
namespace G
open PySem PySem.Spec PyProof.Rows L2
theorem de_gint {C : Ct} {W : DW} {δ : Sl} {m : Sto} {pos : Pos} {Q : D → Sto → Prop} {x : Str} {v : Int} (h : ∃ t, C.mg x = some (.int v t)) (hg : GlC C x) (q : Q (.int v) m) (hdb : (x == ("__debug__" : Str)) = false := by decide) : DE C W (.Name x pos) δ m Q := by
  obtain ⟨t, ht⟩ := h
  exact de_glob hg ht (v := .int v) ⟨t, rfl⟩ (fun H => .int v) q hdb
theorem FNeedSize.len {cS : Addr} : ∀ ds m Q E, FNeedSize cS ds m Q E → ds.length = (["size"] : List Str).length := by
  rintro ds m Q E ⟨s, rfl, _⟩
  rfl
theorem FNeed.len {cA cI : Addr} : ∀ ds m Q E, FNeed cA cI ds m Q E → ds.length = (["self", "number"] : List Str).length := by
  rintro ds m Q E ⟨p, k, z, rfl, _⟩
  rfl
theorem FOwn.len {cA cI : Addr} : ∀ ds m Q E, FOwn cA cI ds m Q E → ds.length = (["self", "number"] : List Str).length := by
  rintro ds m Q E ⟨p, k, z, rfl, _⟩
  rfl
theorem FHid.len {cA cI : Addr} : ∀ ds m Q E, FHid cA cI ds m Q E → ds.length = (["self", "number"] : List Str).length := by
  rintro ds m Q E ⟨p, k, z, rfl, _⟩
  rfl
theorem FSize.len {cA cI : Addr} : ∀ ds m Q E, FSize cA cI ds m Q E → ds.length = (["self", "number"] : List Str).length := by
  rintro ds m Q E ⟨p, k, z, rfl, _⟩
  rfl
theorem FAhead.len {cA cI : Addr} : ∀ ds m Q E, FAhead cA cI ds m Q E → ds.length = (["self", "number"] : List Str).length := by
  rintro ds m Q E ⟨p, k, z, rfl, _⟩
  rfl
theorem FOdd.len {cA : Addr} : ∀ ds m Q E, FOdd cA ds m Q E → ds.length = (["self"] : List Str).length := by
  rintro ds m Q E ⟨p, z, rfl, _⟩
  rfl
theorem FTotal.len {cA : Addr} : ∀ ds m Q E, FTotal cA ds m Q E → ds.length = (["self"] : List Str).length := by
  rintro ds m Q E ⟨p, z, rfl, _⟩
  rfl
theorem FExc.len {cA : Addr} : ∀ ds m Q E, FExc cA ds m Q E → ds.length = (["self"] : List Str).length := by
  rintro ds m Q E ⟨p, z, rfl, _⟩
  rfl
theorem FRepr.len {cA : Addr} : ∀ ds m Q E, FRepr cA ds m Q E → ds.length = (["self"] : List Str).length := by
  rintro ds m Q E ⟨p, z, rfl, _⟩
  rfl
theorem FInit.len {cA cM cS : Addr} : ∀ ds m Q E, FInit cA cM cS ds m Q E → ds.length = (["self", "many", "common"] : List Str).length := by
  rintro ds m Q E ⟨p, n, c, rfl, _⟩
  rfl
theorem FEq.len {cA : Addr} : ∀ ds m Q E, FEq cA ds m Q E → ds.length = (["self", "other"] : List Str).length := by
  rintro ds m Q E ⟨p, q, z, y, rfl, _⟩
  rfl
end G

/-! Rows of sizes: short lemmas for the walk. -/
namespace G
open PySem PySem.Spec PyProof.Rows L2
namespace Sz
theorem mem_odd {z : Sz} {k : Int} : k ∈ z.odd ↔ k ∈ z.gv.map (·.1) ∨ k ∈ z.gn := by
  unfold odd
  rw [mem_sortU, List.mem_append]
theorem inc_odd (z : Sz) : z.odd.Pairwise (· < ·) := inc_sortU _
theorem Ok.odd_in {z : Sz} (h : z.Ok) {k : Int} (hk : k ∈ z.odd) : 0 ≤ k ∧ k < z.n := by
  rcases mem_odd.mp hk with e | e
  · obtain ⟨q, hq, rfl⟩ := List.mem_map.mp e
    have := h.kv q hq
    exact ⟨this.1, this.2.1⟩
  · exact h.kn k e
theorem Ok.fewV {z : Sz} (h : z.Ok) : (z.gv.map (·.1)).length < 64 := by
  have q := nodup_len (z.gv.map (·.1)) z.odd h.dv fun k hk => mem_odd.mpr (.inl hk)
  have := h.few
  omega
theorem Ok.fewN {z : Sz} (h : z.Ok) : z.gn.length < 64 := by
  have q := nodup_len z.gn z.odd h.dn fun k hk => mem_odd.mpr (.inr hk)
  have := h.few
  omega
theorem Ok.few64 {z : Sz} (h : z.Ok) : z.odd.length < 64 := by have := h.few; omega
theorem odd_of {z : Sz} {u : List Int} (h1 : u.Pairwise (· < ·)) (h2 : ∀ k, k ∈ u ↔ k ∈ z.gv.map (·.1) ∨ k ∈ z.gn) : u = z.odd := inc_uniq h1 z.inc_odd fun k => (h2 k).trans mem_odd.symm
theorem size_gone {z : Sz} {k : Int} (h : k ∈ z.gn) : z.size k = 0 := if_pos (decide_eq_true h)
theorem size_own {z : Sz} {k : Int} (h : ¬ k ∈ z.gn) : z.size k = z.own k := if_neg (by unfold hid; simp [h])
end Sz
theorem odd_get {z : Sz} {i : Nat} {d : G.D} (h : (z.odd.map G.D.int)[i]? = some d) : ∃ j, z.odd[i]? = some j ∧ d = .int j ∧ j ∈ z.odd := by
  rw [List.getElem?_map] at h
  obtain ⟨j, hj, rfl⟩ := Option.map_eq_some_iff.mp h
  exact ⟨j, hj, rfl, List.mem_of_getElem? hj⟩
section
variable {C : Ct} {m : Sto} {Q : D → Sto → Prop}
theorem fldx {a cA : Addr} {fs : List (Str × G.D)} {f : Str} {v : G.D} {K : PySem.W.Frag} (hm : m a = some (.ins cA fs)) (c : Cls K cA) (n : NoAttr K cA f) (l : fs.lookup f = some v) (q : Q v m) :
    ∃ a' cA' fs' v', G.D.ref a = .ref a' ∧ m a' = some (.ins cA' fs') ∧ Cls K cA' ∧ NoAttr K cA' f ∧ fs'.lookup f = some v' ∧ Q v' m := ⟨a, cA, fs, v, rfl, hm, c, n, l, q⟩
theorem methx {a cA : Addr} {fs : List (Str × G.D)} {x : Str} {R : Prop} (hm : m a = some (.ins cA fs)) (l : fs.lookup x = none) (q : R) :
    ∃ a' fs', G.D.ref a = .ref a' ∧ m a' = some (.ins cA fs') ∧ fs'.lookup x = none ∧ R := ⟨a, fs, rfl, hm, l, q⟩
theorem dgetx {a : Addr} {ks : List Key} {ds : List G.D} {k : Key} {v : G.D} (hm : m a = some (.dic ks ds)) (l : valD ks ds k = some v) (q : Q v m) :
    ∃ a' ks' ds' k' v', G.D.ref a = .ref a' ∧ kD k = kD k' ∧ DicAt m a' ks' ds' ∧ valD ks' ds' k' = some v' ∧ Q v' m := ⟨a, ks, ds, k, v, rfl, rfl, .inl hm, l, q⟩
end
theorem eqvD_pair {a b c d : Int} : eqvD (.tup [.int a, .int b]) (.tup [.int c, .int d]) = (decide (a = c) && decide (b = d)) := by
  rw [Bool.eq_iff_iff]
  simp [eqvD, toPy, toPyL, PyData.eqv, PyData.eqvAll]
theorem sameI {l u : List (Int × Int)} : ∀ d ∈ valsV l, ∀ e ∈ valsV u, SameK d e := fun d hd e he => by
  obtain ⟨q, _, rfl⟩ := List.mem_map.mp hd
  obtain ⟨r, _, rfl⟩ := List.mem_map.mp he
  exact .inl ⟨_, _, rfl, rfl⟩
theorem sameB {l u : List Int} : ∀ d ∈ valsN l, ∀ e ∈ valsN u, SameK d e := fun d hd e he => by
  obtain ⟨q, _, rfl⟩ := List.mem_map.mp hd
  obtain ⟨r, _, rfl⟩ := List.mem_map.mp he
  exact .inr ⟨_, _, rfl, rfl⟩
theorem num_len {n : Int} (h0 : 0 ≤ n) (h : n ≤ 1000000000) : ((toString n : Str)).length ≤ 10 := toString_length_le h0 (by decide) (by omega)
theorem num_log {n : Int} (h0 : 0 ≤ n) (h : n ≤ 1000000000) : n.natAbs.log2 < 1920 := by
  have h1 : n.natAbs < 2 ^ 30 := by omega
  by_cases e : n.natAbs = 0
  · rw [e]; decide
  · exact Nat.lt_of_lt_of_le ((Nat.log2_lt e).mpr h1) (by decide)
theorem sput_id {m : Sto} {p : Addr} {o : O} (h : m p = some o) : sput m p o = m := by
  funext a
  unfold sput
  split
  · rename_i e; rw [e, h]
  · rfl
theorem gone_get {l : List Int} {i : Nat} {d : G.D} (h : ((keysN l).map kD)[i]? = some d) : ∃ j, l[i]? = some j ∧ d = .int j := by
  unfold keysN at h
  rw [List.map_map, List.getElem?_map] at h
  obtain ⟨j, hj, rfl⟩ := Option.map_eq_some_iff.mp h
  exact ⟨j, hj, rfl⟩
theorem gone_len (l : List Int) : ((keysN l).map kD).length = l.length := by simp [keysN]
theorem init_sz {cA p a1 a2 : Addr} {m : Sto} {n c : Int} {f1 f2 f3 : List (Str × G.D)} (hm : ∃ o, m p = some o) (h1 : (sput (sput m p (.ins cA f1)) p (.ins cA f2)) a1 = none)
    (h2 : (sput (sput (sput (sput m p (.ins cA f1)) p (.ins cA f2)) a1 (.dic [] [])) p (.ins cA f3)) a2 = none) :
    (∀ b o, b ≠ p → m b = some o → (sput (sput (sput (sput (sput (sput m p (.ins cA f1)) p (.ins cA f2)) a1 (.dic [] [])) p (.ins cA f3)) a2 (.dic [] [])) p (.ins cA (szF ⟨n, c, [], []⟩ a1 a2))) b = some o) ∧
    SzAt cA (sput (sput (sput (sput (sput (sput m p (.ins cA f1)) p (.ins cA f2)) a1 (.dic [] [])) p (.ins cA f3)) a2 (.dic [] [])) p (.ins cA (szF ⟨n, c, [], []⟩ a1 a2))) p ⟨n, c, [], []⟩ := by
  have p1 : a1 ≠ p := fun e => by rw [e, sput_same] at h1; cases h1
  have p2 : a2 ≠ p := fun e => by rw [e, sput_same] at h2; cases h2
  have p12 : a1 ≠ a2 := fun e => by
    rw [← e, sput_ne p1, sput_same] at h2
    cases h2
  refine ⟨fun b o hb e => ?_, a1, a2, sput_same, ?_, ?_, p12⟩
  · have b1 : b ≠ a1 := fun z => by
      rw [← z, sput_ne hb, sput_ne hb, e] at h1
      cases h1
    have b2 : b ≠ a2 := fun z => by
      rw [← z, sput_ne hb, sput_ne b1, sput_ne hb, sput_ne hb, e] at h2
      cases h2
    rw [sput_ne hb, sput_ne b2, sput_ne hb, sput_ne b1, sput_ne hb, sput_ne hb, e]
  · rw [sput_ne p1, sput_ne p12, sput_ne p1, sput_same]; rfl
  · rw [sput_ne p2, sput_same]; rfl
theorem init_szH {cA p a1 a2 : Addr} {m : Sto} {n c : Int} {f1 f2 f3 : List (Str × G.D)} (hm : ∃ o, m p = some o) (h1 : (sput (sput m p (.ins cA f1)) p (.ins cA f2)) a1 = none)
    (h2 : (sput (sput (sput (sput m p (.ins cA f1)) p (.ins cA f2)) a1 (.dic [] [])) p (.ins cA f3)) a2 = none) :
    (∀ b o, b ≠ p → m b = some o → (sput (sput (sput (sput (sput (sput m p (.ins cA f1)) p (.ins cA f2)) a1 (.dic [] [])) p (.ins cA f3)) a2 (.dic [] [])) p (.ins cA (szF ⟨n, c, [], []⟩ a1 a2))) b = some o) ∧
    SzA cA (sput (sput (sput (sput (sput (sput m p (.ins cA f1)) p (.ins cA f2)) a1 (.dic [] [])) p (.ins cA f3)) a2 (.dic [] [])) p (.ins cA (szF ⟨n, c, [], []⟩ a1 a2))) p a1 a2 ⟨n, c, [], []⟩ ∧ m a1 = none ∧ m a2 = none := by
  have p1 : a1 ≠ p := fun e => by rw [e, sput_same] at h1; cases h1
  have p2 : a2 ≠ p := fun e => by rw [e, sput_same] at h2; cases h2
  have p12 : a1 ≠ a2 := fun e => by
    rw [← e, sput_ne p1, sput_same] at h2
    cases h2
  refine ⟨fun b o hb e => ?_, ⟨sput_same, ?_, ?_, p12⟩, ?_, ?_⟩
  · have b1 : b ≠ a1 := fun z => by
      rw [← z, sput_ne hb, sput_ne hb, e] at h1
      cases h1
    have b2 : b ≠ a2 := fun z => by
      rw [← z, sput_ne hb, sput_ne b1, sput_ne hb, sput_ne hb, e] at h2
      cases h2
    rw [sput_ne hb, sput_ne b2, sput_ne hb, sput_ne b1, sput_ne hb, sput_ne hb, e]
  · rw [sput_ne p1, sput_ne p12, sput_ne p1, sput_same]; rfl
  · rw [sput_ne p2, sput_same]; rfl
  · rw [sput_ne p1, sput_ne p1] at h1; exact h1
  · rw [sput_ne p2, sput_ne p12.symm, sput_ne p2, sput_ne p2] at h2; exact h2
end G
namespace G
open PySem PySem.Spec PyProof.Rows L2
section
variable {C : Ct} {W : DW} {δ : Sl} {m : Sto} {o i : Expr} {pos : Pos} {Q : Bool → Sto → Prop}
/-- k in d, k not in d, as tests -/
theorem dt_din (h : DE C W i δ m fun y m1 => DE C W o δ m1 fun d m2 => ∃ a ks ds k, y = kD k ∧ d = .ref a ∧ DicAt m2 a ks ds ∧ Q (valD ks ds k).isSome m2) (hb : behindInMarks .In o = false := by with_unfolding_all rfl) : DT C W (.Compare i [.In] [o] pos) δ m Q := by
  intro X S fx tk σ H T le sl hh
  refine WT.of (L2.pt_cmp (pc_din (units1 fx) we we) hb) ((h X S fx tk σ H T le sl hh).mono fun u H1 ⟨y, m1, h1, q⟩ => ?_)
  refine (q X S fx tk σ H1 _ (le.trans Pl.le) (sl.le Pl.le) h1).mono fun v H2 ⟨d, m2, h2, a, ks, ds, k, ey, ed, hm, q2⟩ => ?_
  subst ed ey
  have r := h2.rep Pl.it
  cases r
  obtain ⟨g1, g2⟩ := h2.dget (k := k) (v := u) hm (.inl Pl.it)
  cases hv : valD ks ds k with
  | none =>
    rw [hv] at q2
    exact ⟨a, none, rfl, g1 hv, _, rfl, m2, h2.le (Pl.le.trans Pl.le), q2⟩
  | some z =>
    rw [hv] at q2
    obtain ⟨w2, g, _⟩ := g2 z hv
    exact ⟨a, some w2, rfl, g, _, rfl, m2, h2.le (Pl.le.trans Pl.le), q2⟩
theorem dt_dnotin (h : DE C W i δ m fun y m1 => DE C W o δ m1 fun d m2 => ∃ a ks ds k, y = kD k ∧ d = .ref a ∧ DicAt m2 a ks ds ∧ Q (!(valD ks ds k).isSome) m2) (hb : behindInMarks .NotIn o = false := by with_unfolding_all rfl) : DT C W (.Compare i [.NotIn] [o] pos) δ m Q := by
  intro X S fx tk σ H T le sl hh
  refine WT.of (L2.pt_cmp (pc_dnotin (units1 fx) we we) hb) ((h X S fx tk σ H T le sl hh).mono fun u H1 ⟨y, m1, h1, q⟩ => ?_)
  refine (q X S fx tk σ H1 _ (le.trans Pl.le) (sl.le Pl.le) h1).mono fun v H2 ⟨d, m2, h2, a, ks, ds, k, ey, ed, hm, q2⟩ => ?_
  subst ed ey
  have r := h2.rep Pl.it
  cases r
  obtain ⟨g1, g2⟩ := h2.dget (k := k) (v := u) hm (.inl Pl.it)
  cases hv : valD ks ds k with
  | none =>
    rw [hv] at q2
    exact ⟨a, none, rfl, g1 hv, _, rfl, m2, h2.le (Pl.le.trans Pl.le), q2⟩
  | some z =>
    rw [hv] at q2
    obtain ⟨w2, g, _⟩ := g2 z hv
    exact ⟨a, some w2, rfl, g, _, rfl, m2, h2.le (Pl.le.trans Pl.le), q2⟩
end
end G

/-! Rows of sizes: what the laws' own defs over them do. -/
namespace G
open PySem PySem.Spec PyProof.Rows L2
theorem strOk_of (s : String) : PyData.strOk (Str.ofString s) = true := by
  rw [Str.ofString_eq_toList]
  unfold PyData.strOk
  rw [List.all_toArray, List.all_map, List.all_eq_true]
  intro c _
  have h := c.valid
  have h2 : c.toNat < 1114112 := by
    rcases h with h | ⟨_, h⟩
    · exact Nat.lt_trans h (by decide)
    · exact h
  simpa using h2
theorem strOk_app {a b : Str} : PyData.strOk (a ++ b) = (PyData.strOk a && PyData.strOk b) := by
  show (a.cps ++ b.cps).all _ = _
  rw [Array.all_append]
  rfl
/-- the law's own row of sizes, a dict -/
def zK : List Key := [Sum.inr "many", Sum.inr "common", Sum.inr "own", Sum.inr "gone"]
structure LzA (m : Sto) (p a1 a2 : Addr) (z : Sz) : Prop where
  at_ : m p = some (.dic zK [.int z.n, .int z.c, .ref a1, .ref a2])
  gv : m a1 = some (.dic (keysV z.gv) (valsV z.gv))
  gn : m a2 = some (.dic (keysN z.gn) (valsN z.gn))
  ne : a1 ≠ a2
def LzAt (m : Sto) (p : Addr) (z : Sz) : Prop := ∃ a1 a2, LzA m p a1 a2 z
theorem LzAt.grow {p : Addr} {m m' : Sto} {z : Sz} (h : LzAt m p z) (g : Grow m m') : LzAt m' p z := by
  obtain ⟨a1, a2, h1, h2, h3, hn⟩ := h
  exact ⟨a1, a2, g _ _ h1, g _ _ h2, g _ _ h3, hn⟩
def FFar : DF := fun ds m Q _ => ∃ p o, ds = [.ref p] ∧ m p = some o ∧ IsDraw o ∧ ∀ r o', (r < -1000000 ∨ 1000001 < r) → IsDraw o' → Q (.int r) (sput m p o')
def FLz : DF := fun ds m Q _ => ∃ n c, ds = [.int n, .int c] ∧ ∀ m' p, Grow m m' → LzAt m' p ⟨n, c, [], []⟩ → Q (.ref p) m'
def FLzOdd : DF := fun ds m Q _ => ∃ p z, ds = [.ref p] ∧ LzAt m p z ∧ z.Ok ∧ Q (.lst (z.odd.map G.D.int)) m
def FLzSize : DF := fun ds m Q _ => ∃ p k z, ds = [.ref p, .int k] ∧ LzAt m p z ∧ Q (.int (z.size k)) m
def FLzAhead : DF := fun ds m Q _ => ∃ p k z, ds = [.ref p, .int k] ∧ LzAt m p z ∧ z.Ok ∧ Q (.int (z.ahead k)) m
def FStands (cA : Addr) : DF := fun ds m Q _ => ∃ (ps pz : Addr) (ks : List Int) (z : Sz), ds = [.ref ps, .ref pz, .lst (ks.map G.D.int)] ∧ ks.length ≤ 1000 ∧ SzAt cA m ps z ∧ LzAt m pz z ∧ z.Ok ∧ Q (.bl true) m
def FMade (cA : Addr) : DF := fun ds m Q _ => ∃ n c, ds = [.int n, .int c] ∧ ((n < 1 ∨ n > 1000000) → ∀ m', Grow m m' → Q (.lst [.bl true, .bl false, .bl true]) m') ∧
  (1 ≤ n → n ≤ 1000000 → (c < 1 ∨ c > 60) → ∀ m', Grow m m' → Q (.lst [.bl false, .bl true, .bl true]) m') ∧ (1 ≤ n → n ≤ 1000000 → 1 ≤ c → c ≤ 60 → ∀ m' p, Grow m m' → SzAt cA m' p ⟨n, c, [], []⟩ → Q (.ref p) m')
def FRefused (cA : Addr) : DF := fun ds m Q _ => ∃ p k y z, ds = [.ref p, .int k, .int y] ∧ SzAt cA m p z ∧ z.Ok ∧ (k < 0 ∨ k > z.n ∨ k = z.n ∧ y ≠ 3) ∧ 0 ≤ y ∧ y < 4 ∧ Q (.bl true) m
theorem FFar.len : ∀ ds m Q E, FFar ds m Q E → ds.length = (["_law_draw"] : List Str).length := by
  rintro ds m Q E ⟨p, o, rfl, _⟩
  rfl
theorem FLz.len : ∀ ds m Q E, FLz ds m Q E → ds.length = (["_law_many", "_law_usual"] : List Str).length := by
  rintro ds m Q E ⟨p, o, rfl, _⟩
  rfl
theorem FLzOdd.len : ∀ ds m Q E, FLzOdd ds m Q E → ds.length = (["_law_z_here"] : List Str).length := by
  rintro ds m Q E ⟨p, o, rfl, _⟩
  rfl
theorem FLzSize.len : ∀ ds m Q E, FLzSize ds m Q E → ds.length = (["_law_z_here", "_law_k"] : List Str).length := by
  rintro ds m Q E ⟨p, k, z, rfl, _⟩
  rfl
theorem FLzAhead.len : ∀ ds m Q E, FLzAhead ds m Q E → ds.length = (["_law_z_here", "_law_k"] : List Str).length := by
  rintro ds m Q E ⟨p, k, z, rfl, _⟩
  rfl
theorem FStands.len {cA : Addr} : ∀ ds m Q E, FStands cA ds m Q E → ds.length = (["_law_sizes", "_law_z_here", "_law_some"] : List Str).length := by
  rintro ds m Q E ⟨p, k, z, y, rfl, _⟩
  rfl
theorem FMade.len {cA : Addr} : ∀ ds m Q E, FMade cA ds m Q E → ds.length = (["_law_many", "_law_usual"] : List Str).length := by
  rintro ds m Q E ⟨p, o, rfl, _⟩
  rfl
theorem FRefused.len {cA : Addr} : ∀ ds m Q E, FRefused cA ds m Q E → ds.length = (["_law_sizes", "_law_number", "_law_way"] : List Str).length := by
  rintro ds m Q E ⟨p, k, y, z, rfl, _⟩
  rfl
/-- the law's new row -/
theorem new_lz {p b1 b2 : Addr} {m : Sto} {n c : Int} (h0 : m p = none) (h1 : (sput m p (.dic [] [])) b1 = none) (h2 : (sput (sput m p (.dic [] [])) b1 (.dic [] [])) b2 = none) :
    Grow m (sput (sput (sput (sput m p (.dic [] [])) b1 (.dic [] [])) b2 (.dic [] [])) p (.dic zK [.int n, .int c, .ref b1, .ref b2])) ∧
    LzAt (sput (sput (sput (sput m p (.dic [] [])) b1 (.dic [] [])) b2 (.dic [] [])) p (.dic zK [.int n, .int c, .ref b1, .ref b2])) p ⟨n, c, [], []⟩ := by
  have p1 : b1 ≠ p := fun e => by rw [e, sput_same] at h1; cases h1
  have p12 : b1 ≠ b2 := fun e => by rw [← e, sput_same] at h2; cases h2
  have p2 : b2 ≠ p := fun e => by rw [e, sput_ne (Ne.symm p1), sput_same] at h2; cases h2
  refine ⟨fun b o e => ?_, b1, b2, sput_same, ?_, ?_, p12⟩
  · have hb : b ≠ p := fun z => by rw [z, h0] at e; cases e
    have hb1 : b ≠ b1 := fun z => by rw [← z, sput_ne hb, e] at h1; cases h1
    have hb2 : b ≠ b2 := fun z => by rw [← z, sput_ne hb1, sput_ne hb, e] at h2; cases h2
    rw [sput_ne hb, sput_ne hb2, sput_ne hb1, sput_ne hb, e]
  · rw [sput_ne p1, sput_ne p12, sput_same]; rfl
  · rw [sput_ne p2, sput_same]; rfl
/-- behind i of the odd ones -/
def Sz.aheadTo (z : Sz) (k : Int) (i : Nat) : Int := k * z.c + (((z.odd.take i).filter fun j => decide (j < k)).map fun j => z.size j - z.c).sum
theorem Sz.ahead_0 (z : Sz) (k : Int) : k * z.c = z.aheadTo k 0 := by simp [Sz.aheadTo]
theorem Sz.ahead_all (z : Sz) (k : Int) : z.aheadTo k z.odd.length = z.ahead k := by simp [Sz.aheadTo, Sz.ahead]
theorem Sz.ahead_y {z : Sz} {k j : Int} {i : Nat} (h : z.odd[i]? = some j) (hx : j < k) : z.aheadTo k i + z.size j - z.c = z.aheadTo k (i + 1) := by
  unfold Sz.aheadTo
  rw [List.take_succ, h, List.filter_append, List.map_append, List.sum_append]
  simp [hx]
  omega
theorem Sz.ahead_n {z : Sz} {k j : Int} {i : Nat} (h : z.odd[i]? = some j) (hx : ¬ j < k) : z.aheadTo k i = z.aheadTo k (i + 1) := by
  unfold Sz.aheadTo
  rw [List.take_succ, h, List.filter_append, List.map_append, List.sum_append]
  simp [hx]
/-- the numbers, as the law puts them in order -/
theorem Sz.law_odd {z : Sz} (ok : z.Ok) {u : List Int} (h1 : u.Perm (z.gv.map (·.1) ++ z.gn.filter fun k => decide (¬ k ∈ z.gv.map (·.1)))) (h2 : u.Pairwise (· ≤ ·)) : u = z.odd := by
  have nd : (z.gv.map (·.1) ++ z.gn.filter fun k => decide (¬ k ∈ z.gv.map (·.1))).Nodup := by
    refine List.nodup_append.mpr ⟨ok.dv, ok.dn.filter _, fun a ha b hb e => ?_⟩
    subst e
    have := (List.mem_filter.mp hb).2
    exact (of_decide_eq_true this) ha
  refine le_uniq h2 (h1.nodup_iff.mpr nd) z.inc_odd fun k => ?_
  rw [h1.mem_iff, Sz.mem_odd, List.mem_append, List.mem_filter]
  constructor
  · rintro (h | h)
    · exact .inl h
    · exact .inr h.1
  · rintro (h | h)
    · exact .inl h
    · by_cases e : k ∈ z.gv.map (·.1)
      · exact .inl e
      · exact .inr ⟨h, decide_eq_true e⟩
theorem ok_bls : okD 1 (.lst [.bl true, .bl false, .bl true]) = true := rfl
theorem szText_ok (z : Sz) : PyData.strOk (szText z) = true := by
  unfold szText
  simp only [strOk_app, strOk_of, Bool.and_self]
theorem isSome_map {α β : Type} {f : α → β} {o : Option α} : (o.map f).isSome = o.isSome := by cases o <;> rfl
theorem lookup_in {k : Int} : ∀ gv : List (Int × Int), (gv.lookup k).isSome = decide (k ∈ gv.map Prod.fst)
  | [] => rfl
  | (j, v) :: gv => by
    rw [List.lookup_cons, List.map_cons]
    by_cases h : k = j
    · subst h; simp
    · rw [show (k == j) = false from by simpa using h]
      show (gv.lookup k).isSome = _
      rw [lookup_in gv]
      simp [h]
theorem val_has {k : Int} (gv : List (Int × Int)) : (valD (keysV gv) (valsV gv) (.inl k)).isSome = decide (k ∈ gv.map Prod.fst) := by rw [val_given, isSome_map, lookup_in]
theorem lz_ne {m : Sto} {p b : Addr} {l : List Int} {ds es : List G.D} (g1 : m p = some (.dic zK ds)) (g3 : m b = some (.dic (keysN l) es)) : p ≠ b := fun e => by
  rw [e, g3] at g1
  have h := O.dic.inj (Option.some.inj g1)
  cases l with
  | nil => have h1 := h.1; simp [keysN, zK] at h1
  | cons x l => have h1 := h.1; simp [keysN, zK] at h1
theorem bt_ValueError : bootBuiltins "ValueError" = some (.type "ValueError") := by decide +kernel
theorem bt_IndexError : bootBuiltins "IndexError" = some (.type "IndexError") := by decide +kernel
theorem exc_ok (z : Sz) : okDL 1 z.exc = true := okDL_map fun k => by simp [okD, okDL]
theorem stand_ok (z : Sz) {a b c : Int} {t : Str} (h : t = szText z) : okD 3 (.lst [.lst z.exc, .int a, .int b, .int c, .str t]) = true := by
  subst h
  simp only [okDL, okD, exc_ok, szText_ok, Bool.and_self, Bool.and_true]
end G

/-! Rows of sizes as things; what is done to them. -/
namespace G
open PySem PySem.Spec PyProof.Rows L2
/-! ### lists of pairs -/
def putG (gv : List (Int × Int)) (k s : Int) : List (Int × Int) := if k ∈ gv.map (·.1) then gv.map (fun q => if q.1 = k then (k, s) else q) else gv ++ [(k, s)]
def dropG (gv : List (Int × Int)) (k : Int) : List (Int × Int) := gv.filter fun q => decide (q.1 ≠ k)
def putN (gn : List Int) (k : Int) : List Int := if k ∈ gn then gn else gn ++ [k]
def dropN (gn : List Int) (k : Int) : List Int := gn.filter fun j => decide (j ≠ k)
theorem mem_putG {gv : List (Int × Int)} {k s : Int} {q : Int × Int} : q ∈ putG gv k s ↔ q = (k, s) ∨ q ∈ gv ∧ q.1 ≠ k := by
  unfold putG
  split
  · rename_i h
    obtain ⟨p, hp, ep⟩ := List.mem_map.mp h
    rw [List.mem_map]
    constructor
    · rintro ⟨a, ha, rfl⟩
      by_cases e : a.1 = k
      · rw [if_pos e]; exact .inl rfl
      · rw [if_neg e]; exact .inr ⟨ha, e⟩
    · rintro (rfl | ⟨h1, h2⟩)
      · exact ⟨p, hp, if_pos ep⟩
      · exact ⟨q, h1, if_neg h2⟩
  · rename_i h
    rw [List.mem_append, List.mem_singleton]
    constructor
    · rintro (h1 | h1)
      · exact .inr ⟨h1, fun e => h (List.mem_map.mpr ⟨q, h1, e⟩)⟩
      · exact .inl h1
    · rintro (h1 | ⟨h1, _⟩)
      · exact .inr h1
      · exact .inl h1
theorem mem_dropG {gv : List (Int × Int)} {k : Int} {q : Int × Int} : q ∈ dropG gv k ↔ q ∈ gv ∧ q.1 ≠ k := by
  unfold dropG
  rw [List.mem_filter]
  simp
theorem mem_putN {gn : List Int} {k j : Int} : j ∈ putN gn k ↔ j = k ∨ j ∈ gn ∧ j ≠ k := by
  unfold putN
  split
  · rename_i h
    constructor
    · intro hj
      by_cases e : j = k
      · exact .inl e
      · exact .inr ⟨hj, e⟩
    · rintro (rfl | ⟨h1, _⟩)
      · exact h
      · exact h1
  · rename_i h
    rw [List.mem_append, List.mem_singleton]
    constructor
    · rintro (h1 | h1)
      · exact .inr ⟨h1, fun e => h (e ▸ h1)⟩
      · exact .inl h1
    · rintro (h1 | ⟨h1, _⟩)
      · exact .inr h1
      · exact .inl h1
theorem mem_dropN {gn : List Int} {k j : Int} : j ∈ dropN gn k ↔ j ∈ gn ∧ j ≠ k := by
  unfold dropN
  rw [List.mem_filter]
  simp
theorem keys_putG {gv : List (Int × Int)} {k s : Int} : (putG gv k s).map (·.1) = putN (gv.map (·.1)) k := by
  unfold putG putN
  split
  · rw [List.map_map]
    refine List.map_congr_left fun q _ => ?_
    show (if q.1 = k then (k, s) else q).1 = q.1
    split
    · rename_i e; exact e.symm
    · rfl
  · rw [List.map_append]; rfl
theorem keys_dropG {k : Int} : ∀ gv : List (Int × Int), (dropG gv k).map (·.1) = dropN (gv.map (·.1)) k
  | [] => rfl
  | q :: gv => by
    have ih := keys_dropG (k := k) gv
    unfold dropG dropN at ih ⊢
    rw [List.map_cons]
    by_cases e : q.1 = k
    · rw [List.filter_cons_of_neg (by simp [e]), List.filter_cons_of_neg (by simp [e])]
      exact ih
    · rw [List.filter_cons_of_pos (by simp [e]), List.filter_cons_of_pos (by simp [e]), List.map_cons, ih]
theorem nodup_putN {l : List Int} {k : Int} (h : l.Nodup) : (putN l k).Nodup := by
  unfold putN
  split
  · exact h
  · rename_i hk
    rw [List.nodup_append]
    refine ⟨h, by simp, fun a ha b hb => ?_⟩
    rw [List.mem_singleton] at hb
    subst hb
    exact fun e => hk (e ▸ ha)
theorem nodup_dropN {l : List Int} {k : Int} (h : l.Nodup) : (dropN l k).Nodup := h.sublist List.filter_sublist
theorem nodup_of_keys {gv : List (Int × Int)} (h : (gv.map (·.1)).Nodup) : gv.Nodup := by
  induction gv with
  | nil => exact List.nodup_nil
  | cons q l ih =>
    rw [List.map_cons, List.nodup_cons] at h
    exact List.nodup_cons.mpr ⟨fun m => h.1 (List.mem_map.mpr ⟨q, m, rfl⟩), ih h.2⟩
/-- what a lookup finds, by membership -/
theorem lookup_mem {k v : Int} : ∀ {gv : List (Int × Int)}, gv.lookup k = some v → (k, v) ∈ gv
  | [], h => by cases h
  | (j, u) :: gv, h => by
    rw [List.lookup_cons] at h
    by_cases e : k = j
    · subst e
      rw [show (k == k) = true from by simp] at h
      cases h
      exact List.mem_cons_self
    · rw [show (k == j) = false from by simpa using e] at h
      exact List.mem_cons_of_mem _ (lookup_mem h)
theorem mem_lookup {k v : Int} : ∀ {gv : List (Int × Int)}, (gv.map (·.1)).Nodup → (k, v) ∈ gv → gv.lookup k = some v
  | [], _, h => by cases h
  | (j, u) :: gv, nd, h => by
    rw [List.map_cons, List.nodup_cons] at nd
    rw [List.lookup_cons]
    rcases List.mem_cons.mp h with w | w
    · cases w
      rw [show (k == k) = true from by simp]
    · by_cases e : k = j
      · subst e
        exact absurd (List.mem_map.mpr ⟨(k, v), w, rfl⟩ : k ∈ gv.map (·.1)) nd.1
      · rw [show (k == j) = false from by simpa using e]
        exact mem_lookup nd.2 w
theorem lookup_eq {l u : List (Int × Int)} (h1 : (l.map (·.1)).Nodup) (h2 : (u.map (·.1)).Nodup) (h : ∀ q, q ∈ l ↔ q ∈ u) (k : Int) : l.lookup k = u.lookup k := by
  cases e : l.lookup k with
  | some v => rw [mem_lookup h2 ((h _).1 (lookup_mem e))]
  | none =>
    cases e2 : u.lookup k with
    | none => rfl
    | some v => rw [mem_lookup h1 ((h _).2 (lookup_mem e2))] at e; cases e
/-! ### the dict's lists -/
theorem hasK_map' {α : Type} (l : List α) (f : α → Int) (k : Int) : hasK (l.map fun a => (Sum.inl (f a) : Key)) (.inl k) = decide (k ∈ l.map f) := by
  unfold hasK
  rw [List.any_map, Bool.eq_iff_iff, List.any_eq_true, decide_eq_true_eq, List.mem_map]
  constructor
  · rintro ⟨a, ha, e⟩
    have e' : decide ((Sum.inl (f a) : Key) = Sum.inl k) = true := e
    exact ⟨a, ha, Sum.inl.inj (of_decide_eq_true e')⟩
  · rintro ⟨a, ha, rfl⟩
    exact ⟨a, ha, by simp⟩
theorem keysV_eq (gv : List (Int × Int)) : keysV gv = gv.map fun q => (Sum.inl q.1 : Key) := by unfold keysV; rw [List.map_map]; rfl
theorem put_keysV {gv : List (Int × Int)} {k s : Int} : putKs (keysV gv) (.inl k) = keysV (putG gv k s) := by
  unfold putKs
  rw [keysV_eq, hasK_map']
  unfold keysV
  rw [keys_putG]
  unfold putN
  by_cases h : k ∈ gv.map (·.1)
  · rw [if_pos (by simpa using h), if_pos h, List.map_map]; rfl
  · rw [if_neg (by simpa using h), if_neg h, List.map_append, List.map_map]; rfl
theorem rep_vals {k s : Int} : ∀ gv : List (Int × Int), repK (keysV gv) (valsV gv) (.inl k) (.int s) = valsV (gv.map fun q => if q.1 = k then (k, s) else q)
  | [] => rfl
  | (j, v) :: gv => by
    show (if (Sum.inl j : Key) = Sum.inl k then G.D.int s else G.D.int v) :: repK (keysV gv) (valsV gv) (.inl k) (.int s) = G.D.int (if j = k then (k, s) else (j, v)).2 :: valsV (gv.map fun q => if q.1 = k then (k, s) else q)
    rw [rep_vals gv]
    by_cases e : j = k
    · subst e; simp
    · rw [if_neg (fun z => e (Sum.inl.inj z)), if_neg e]
theorem put_valsV {gv : List (Int × Int)} {k s : Int} : putDs (keysV gv) (valsV gv) (.inl k) (.int s) = valsV (putG gv k s) := by
  unfold putDs putG
  rw [show hasK (keysV gv) (.inl k) = decide (k ∈ gv.map (·.1)) from by rw [keysV_eq]; exact hasK_map' gv (·.1) k]
  by_cases h : k ∈ gv.map (·.1)
  · rw [if_pos (by simpa using h), if_pos h, rep_vals]
  · rw [if_neg (by simpa using h), if_neg h]
    unfold valsV
    rw [List.map_append]; rfl
theorem drop_keysV {k : Int} : ∀ gv : List (Int × Int), dropKs (keysV gv) (.inl k) = keysV (dropG gv k)
  | [] => rfl
  | (j, v) :: gv => by
    have ih := drop_keysV (k := k) gv
    unfold dropKs dropG at ih ⊢
    show List.filter _ ((Sum.inl j : Key) :: keysV gv) = _
    by_cases e : j = k
    · rw [List.filter_cons_of_neg (by simp [e]), List.filter_cons_of_neg (by simp [e])]; exact ih
    · rw [List.filter_cons_of_pos (by simpa using e), List.filter_cons_of_pos (by simpa using e), ih]; rfl
theorem drop_valsV {k : Int} : ∀ gv : List (Int × Int), dropDs (keysV gv) (valsV gv) (.inl k) = valsV (dropG gv k)
  | [] => rfl
  | (j, v) :: gv => by
    have ih := drop_valsV (k := k) gv
    unfold dropG at ih ⊢
    show (if (Sum.inl j : Key) = Sum.inl k then dropDs (keysV gv) (valsV gv) (.inl k) else G.D.int v :: dropDs (keysV gv) (valsV gv) (.inl k)) = _
    by_cases e : j = k
    · rw [if_pos (by rw [e]), List.filter_cons_of_neg (by simp [e])]; exact ih
    · rw [if_neg (fun z => e (Sum.inl.inj z)), List.filter_cons_of_pos (by simpa using e), ih]; rfl
theorem put_keysN {gn : List Int} {k : Int} : putKs (keysN gn) (.inl k) = keysN (putN gn k) := by
  unfold putKs keysN putN
  rw [show hasK (gn.map Sum.inl) (.inl k) = decide (k ∈ gn.map id) from hasK_map' gn id k, List.map_id]
  by_cases h : k ∈ gn
  · rw [if_pos (by simpa using h), if_pos h]
  · rw [if_neg (by simpa using h), if_neg h, List.map_append]; rfl
theorem rep_valsN {k : Int} : ∀ gn : List Int, repK (keysN gn) (valsN gn) (.inl k) (.bl true) = valsN gn
  | [] => rfl
  | j :: gn => by
    show (if (Sum.inl j : Key) = Sum.inl k then G.D.bl true else G.D.bl true) :: repK (keysN gn) (valsN gn) (.inl k) (.bl true) = G.D.bl true :: valsN gn
    rw [rep_valsN gn]
    split <;> rfl
theorem put_valsN {gn : List Int} {k : Int} : putDs (keysN gn) (valsN gn) (.inl k) (.bl true) = valsN (putN gn k) := by
  unfold putDs putN
  rw [show hasK (keysN gn) (.inl k) = decide (k ∈ gn.map id) from hasK_map' gn id k, List.map_id]
  by_cases h : k ∈ gn
  · rw [if_pos (by simpa using h), if_pos h, rep_valsN]
  · rw [if_neg (by simpa using h), if_neg h]
    unfold valsN
    rw [List.map_append]; rfl
theorem drop_keysN {k : Int} : ∀ gn : List Int, dropKs (keysN gn) (.inl k) = keysN (dropN gn k)
  | [] => rfl
  | j :: gn => by
    have ih := drop_keysN (k := k) gn
    unfold dropKs dropN at ih ⊢
    show List.filter _ ((Sum.inl j : Key) :: keysN gn) = _
    by_cases e : j = k
    · rw [List.filter_cons_of_neg (by simp [e]), List.filter_cons_of_neg (by simp [e])]; exact ih
    · rw [List.filter_cons_of_pos (by simpa using e), List.filter_cons_of_pos (by simpa using e), ih]; rfl
theorem drop_valsN {k : Int} : ∀ gn : List Int, dropDs (keysN gn) (valsN gn) (.inl k) = valsN (dropN gn k)
  | [] => rfl
  | j :: gn => by
    have ih := drop_valsN (k := k) gn
    unfold dropN at ih ⊢
    show (if (Sum.inl j : Key) = Sum.inl k then dropDs (keysN gn) (valsN gn) (.inl k) else G.D.bl true :: dropDs (keysN gn) (valsN gn) (.inl k)) = _
    by_cases e : j = k
    · rw [if_pos (by rw [e]), List.filter_cons_of_neg (by simp [e])]; exact ih
    · rw [if_neg (fun z => e (Sum.inl.inj z)), List.filter_cons_of_pos (by simpa using e), ih]; rfl
/-! ### what is done -/
namespace Sz
def full (z : Sz) (k : Int) : Prop := ¬ k ∈ z.odd ∧ 60 ≤ z.odd.length
instance (z : Sz) (k : Int) : Decidable (z.full k) := inferInstanceAs (Decidable (_ ∧ _))
def give (z : Sz) (k s : Int) : Sz := if s = z.c then { z with gv := dropG z.gv k } else { z with gv := putG z.gv k s }
def plain (z : Sz) (k : Int) : Sz := { z with gv := dropG z.gv k }
def hide (z : Sz) (k : Int) : Sz := { z with gn := putN z.gn k }
def showK (z : Sz) (k : Int) : Sz := { z with gn := dropN z.gn k }
/-- the same row, whatever the order in the dicts -/
structure Eqv (z y : Sz) : Prop where
  n : z.n = y.n
  c : z.c = y.c
  gv : ∀ q, q ∈ z.gv ↔ q ∈ y.gv
  gn : ∀ k, k ∈ z.gn ↔ k ∈ y.gn
theorem Eqv.refl (z : Sz) : z.Eqv z := ⟨rfl, rfl, fun _ => Iff.rfl, fun _ => Iff.rfl⟩
theorem Eqv.symm {z y : Sz} (h : z.Eqv y) : y.Eqv z := ⟨h.n.symm, h.c.symm, fun q => (h.gv q).symm, fun q => (h.gn q).symm⟩
theorem Eqv.trans {x z y : Sz} (h : x.Eqv z) (k : z.Eqv y) : x.Eqv y := ⟨h.n.trans k.n, h.c.trans k.c, fun q => (h.gv q).trans (k.gv q), fun q => (h.gn q).trans (k.gn q)⟩
section
variable {z y : Sz}
theorem Eqv.keys (h : z.Eqv y) (k : Int) : k ∈ z.gv.map (·.1) ↔ k ∈ y.gv.map (·.1) := by
  rw [List.mem_map, List.mem_map]
  exact ⟨fun ⟨q, a, b⟩ => ⟨q, (h.gv q).1 a, b⟩, fun ⟨q, a, b⟩ => ⟨q, (h.gv q).2 a, b⟩⟩
theorem Eqv.odd (h : z.Eqv y) : z.odd = y.odd := inc_uniq z.inc_odd y.inc_odd fun k => by rw [mem_odd, mem_odd, h.keys, h.gn]
theorem Eqv.own (h : z.Eqv y) (o : z.Ok) (o2 : y.Ok) (k : Int) : z.own k = y.own k := by unfold Sz.own; rw [lookup_eq o.dv o2.dv h.gv, h.c]
theorem Eqv.hid (h : z.Eqv y) (k : Int) : z.hid k = y.hid k := by unfold Sz.hid; rw [Bool.eq_iff_iff]; simp [h.gn]
theorem Eqv.size (h : z.Eqv y) (o : z.Ok) (o2 : y.Ok) (k : Int) : z.size k = y.size k := by unfold Sz.size; rw [h.hid, h.own o o2]
theorem Eqv.ahead (h : z.Eqv y) (o : z.Ok) (o2 : y.Ok) (k : Int) : z.ahead k = y.ahead k := by
  unfold Sz.ahead
  rw [h.odd, h.c, show (fun j => z.size j - y.c) = fun j => y.size j - y.c from funext fun j => by rw [h.size o o2]]
theorem Eqv.total (h : z.Eqv y) (o : z.Ok) (o2 : y.Ok) : z.total = y.total := by unfold Sz.total; rw [h.n, h.ahead o o2]
theorem Eqv.exc (h : z.Eqv y) (o : z.Ok) (o2 : y.Ok) : z.exc = y.exc := by
  unfold Sz.exc
  rw [h.odd]
  exact List.map_congr_left fun k _ => by rw [h.own o o2, h.hid]
theorem Eqv.text (h : z.Eqv y) : szText z = szText y := by unfold szText; rw [h.n, h.c]
theorem Eqv.full (h : z.Eqv y) (k : Int) : z.full k ↔ y.full k := by unfold Sz.full; rw [h.odd]
theorem Eqv.plain (h : z.Eqv y) (k : Int) : (z.plain k).Eqv (y.plain k) := ⟨h.n, h.c, fun q => by show q ∈ dropG _ _ ↔ q ∈ dropG _ _; rw [mem_dropG, mem_dropG, h.gv], h.gn⟩
theorem Eqv.give (h : z.Eqv y) (k s : Int) : (z.give k s).Eqv (y.give k s) := by
  unfold Sz.give
  have e : (s = z.c) = (s = y.c) := by rw [h.c]
  simp only [e]
  split
  · exact h.plain k
  · exact ⟨h.n, h.c, fun q => by show q ∈ putG _ _ _ ↔ q ∈ putG _ _ _; rw [mem_putG, mem_putG, h.gv], h.gn⟩
theorem Eqv.hide (h : z.Eqv y) (k : Int) : (z.hide k).Eqv (y.hide k) := ⟨h.n, h.c, h.gv, fun q => by show q ∈ putN _ _ ↔ q ∈ putN _ _; rw [mem_putN, mem_putN, h.gn]⟩
theorem Eqv.showK (h : z.Eqv y) (k : Int) : (z.showK k).Eqv (y.showK k) := ⟨h.n, h.c, h.gv, fun q => by show q ∈ dropN _ _ ↔ q ∈ dropN _ _; rw [mem_dropN, mem_dropN, h.gn]⟩
/-- fewer or as many stand apart -/
theorem few_sub {a b : Sz} (h : ∀ k, k ∈ a.odd → k ∈ b.odd) : a.odd.length ≤ b.odd.length := nodup_len a.odd b.odd (a.inc_odd.imp fun e => Int.ne_of_lt e) h
theorem few_one {a b : Sz} {k : Int} (h : ∀ j, j ∈ a.odd → j = k ∨ j ∈ b.odd) (f : ¬ b.full k) (l : b.odd.length ≤ 60) : a.odd.length ≤ 60 := by
  have nd : a.odd.Nodup := a.inc_odd.imp fun e => Int.ne_of_lt e
  by_cases hk : k ∈ b.odd
  · have := nodup_len a.odd b.odd nd fun j hj => (h j hj).elim (fun e => e ▸ hk) id
    omega
  · have := nodup_len a.odd (k :: b.odd) nd fun j hj => (h j hj).elim (fun e => e ▸ List.mem_cons_self) fun m => List.mem_cons_of_mem _ m
    rw [List.length_cons] at this
    unfold Sz.full at f
    have : ¬ 60 ≤ b.odd.length := fun e => f ⟨hk, e⟩
    omega
theorem mem_keys {gv : List (Int × Int)} {k : Int} : k ∈ gv.map (·.1) ↔ ∃ v, (k, v) ∈ gv := by
  rw [List.mem_map]
  exact ⟨fun ⟨q, a, b⟩ => ⟨q.2, by subst b; exact a⟩, fun ⟨v, a⟩ => ⟨_, a, rfl⟩⟩
theorem Ok.plain (o : z.Ok) (k : Int) : (z.plain k).Ok := by
  refine ⟨o.n1, o.n2, o.c1, o.c2, fun q hq => o.kv q (mem_dropG.mp hq).1, o.kn, ?_, o.dn, ?_, fun q hq => o.ne q (mem_dropG.mp hq).1⟩
  · show ((dropG z.gv k).map (·.1)).Nodup
    rw [keys_dropG]; exact nodup_dropN o.dv
  · refine Nat.le_trans (few_sub (b := z) fun j hj => ?_) o.few
    rw [mem_odd] at hj ⊢
    refine hj.imp (fun hj => ?_) id
    obtain ⟨v, hv⟩ := mem_keys.mp hj
    exact mem_keys.mpr ⟨v, (mem_dropG.mp hv).1⟩
theorem Ok.give (o : z.Ok) {k s : Int} (h0 : 0 ≤ k) (h1 : k < z.n) (h2 : 1 ≤ s) (h3 : s ≤ 60) (f : s = z.c ∨ ¬ z.full k) : (z.give k s).Ok := by
  unfold Sz.give
  split
  · exact o.plain k
  · rename_i hs
    refine ⟨o.n1, o.n2, o.c1, o.c2, fun q hq => ?_, o.kn, ?_, o.dn, ?_, fun q hq => ?_⟩
    · rcases mem_putG.mp hq with rfl | ⟨e, _⟩
      · exact ⟨h0, h1, h2, h3⟩
      · exact o.kv q e
    · show ((putG z.gv k s).map (·.1)).Nodup
      rw [keys_putG]; exact nodup_putN o.dv
    · refine few_one (k := k) (b := z) (fun j hj => ?_) (f.resolve_left hs) o.few
      rw [mem_odd] at hj
      rcases hj with hj | hj
      · obtain ⟨v, hv⟩ := mem_keys.mp hj
        rcases mem_putG.mp hv with e | ⟨e, _⟩
        · exact .inl (congrArg Prod.fst e)
        · exact .inr (mem_odd.mpr (.inl (mem_keys.mpr ⟨v, e⟩)))
      · exact .inr (mem_odd.mpr (.inr hj))
    · rcases mem_putG.mp hq with rfl | ⟨e, _⟩
      · exact hs
      · exact o.ne q e
theorem Ok.hide (o : z.Ok) {k : Int} (h0 : 0 ≤ k) (h1 : k < z.n) (f : ¬ z.full k) : (z.hide k).Ok := by
  refine ⟨o.n1, o.n2, o.c1, o.c2, o.kv, fun j hj => ?_, o.dv, nodup_putN o.dn, ?_, o.ne⟩
  · rcases mem_putN.mp hj with rfl | ⟨e, _⟩
    · exact ⟨h0, h1⟩
    · exact o.kn j e
  · refine few_one (k := k) (b := z) (fun j hj => ?_) f o.few
    rw [mem_odd] at hj
    rcases hj with hj | hj
    · exact .inr (mem_odd.mpr (.inl hj))
    · rcases mem_putN.mp hj with e | ⟨e, _⟩
      · exact .inl e
      · exact .inr (mem_odd.mpr (.inr e))
theorem Ok.showK (o : z.Ok) (k : Int) : (z.showK k).Ok := by
  refine ⟨o.n1, o.n2, o.c1, o.c2, o.kv, fun j hj => o.kn j (mem_dropN.mp hj).1, o.dv, nodup_dropN o.dn, ?_, o.ne⟩
  refine Nat.le_trans (few_sub (b := z) fun j hj => ?_) o.few
  rw [mem_odd] at hj ⊢
  exact hj.imp id fun hj => (mem_dropN.mp hj).1
end
end Sz
/-! ### the thing -/
def bSz (cA : Addr) (z : Sz) : B where
  at_ := fun m p s => ∃ a1 a2, SzA cA m p a1 a2 z ∧ ∀ a, s a ↔ a = p ∨ a = a1 ∨ a = a2
  loc := fun ⟨a1, a2, ⟨h1, h2, h3, hn⟩, hs⟩ k => ⟨a1, a2, ⟨by rw [k _ ((hs _).2 (.inl rfl))]; exact h1, by rw [k _ ((hs _).2 (.inr (.inl rfl)))]; exact h2, by rw [k _ ((hs _).2 (.inr (.inr rfl)))]; exact h3, hn⟩, hs⟩
  dom := fun ⟨a1, a2, ⟨h1, h2, h3, hn⟩, hs⟩ a sa => by
    rcases (hs a).1 sa with e | e | e
    · exact ⟨_, by rw [e]; exact h1⟩
    · exact ⟨_, by rw [e]; exact h2⟩
    · exact ⟨_, by rw [e]; exact h3⟩
  self := fun ⟨a1, a2, _, hs⟩ => (hs _).2 (.inl rfl)
section
variable {h : HSt} {m : Sto} {p cA : Addr} {z : Sz}
theorem SzA.nep {a1 a2 : Addr} (x : SzA cA m p a1 a2 z) : p ≠ a1 ∧ p ≠ a2 := by
  obtain ⟨h1, h2, h3, _⟩ := x
  refine ⟨fun e => ?_, fun e => ?_⟩
  · rw [e, h2] at h1; cases h1
  · rw [e, h3] at h1; cases h1
theorem Abs.szO (A : Abs h m) (hp : h p = some (bSz cA z)) : ∃ a1 a2, SzA cA m p a1 a2 z ∧ ∀ z' b1 b2 m', SzA cA m' p b1 b2 z' → (∀ a, a ≠ p → a ≠ a1 → a ≠ a2 → ∀ o, m a = some o → m' a = some o) → (b1 = a1 ∨ m b1 = .none) → (b2 = a2 ∨ m b2 = .none) → Abs (hput h p (bSz cA z')) m' := by
  obtain ⟨s, ⟨a1, a2, x, hs⟩, k⟩ := A.upd hp
  refine ⟨a1, a2, x, fun z' b1 b2 m' y keep e1 e2 => k m' (bSz cA z') (fun a => a = p ∨ a = b1 ∨ a = b2) ⟨b1, b2, y, fun _ => Iff.rfl⟩ (fun a na o e => keep a (fun w => na ((hs a).2 (.inl w))) (fun w => na ((hs a).2 (.inr (.inl w)))) (fun w => na ((hs a).2 (.inr (.inr w)))) o e) fun a sa => ?_⟩
  rcases sa with rfl | rfl | rfl
  · exact .inl ((hs _).2 (.inl rfl))
  · exact e1.imp (fun w => (hs _).2 (.inr (.inl w))) id
  · exact e2.imp (fun w => (hs _).2 (.inr (.inr w))) id
theorem Abs.szV (A : Abs h m) (hp : h p = some (bSz cA z)) : ∃ a1 a2, SzA cA m p a1 a2 z ∧ (∀ gv', Abs (hput h p (bSz cA { z with gv := gv' })) (sput m a1 (.dic (keysV gv') (valsV gv')))) ∧ ∀ gn', Abs (hput h p (bSz cA { z with gn := gn' })) (sput m a2 (.dic (keysN gn') (valsN gn'))) := by
  obtain ⟨a1, a2, x, k⟩ := A.szO hp
  obtain ⟨n1, n2⟩ := x.nep
  obtain ⟨h1, h2, h3, hn⟩ := x
  refine ⟨a1, a2, ⟨h1, h2, h3, hn⟩, fun gv' => k _ a1 a2 _ ⟨(sput_ne n1).trans h1, sput_same, (sput_ne hn.symm).trans h3, hn⟩ (fun a _ e _ o q => by rw [sput_ne e]; exact q) (.inl rfl) (.inl rfl),
    fun gn' => k _ a1 a2 _ ⟨(sput_ne n2).trans h1, (sput_ne hn).trans h2, sput_same, hn⟩ (fun a _ _ e o q => by rw [sput_ne e]; exact q) (.inl rfl) (.inl rfl)⟩
theorem Abs.sz (A : Abs h m) (hp : h p = some (bSz cA z)) : SzAt cA m p z := let ⟨a1, a2, x, _⟩ := A.szO hp; ⟨a1, a2, x⟩
theorem Abs.newSz (A : Abs h m) {m' : Sto} (hp : m p = .none) {a1 a2 : Addr} (x : SzA cA m' p a1 a2 z) (g : Grw m m') (e1 : m a1 = .none) (e2 : m a2 = .none) : Abs (hput h p (bSz cA z)) m' :=
  A.new hp (b := bSz cA z) (s := fun a => a = p ∨ a = a1 ∨ a = a2) ⟨a1, a2, x, fun _ => Iff.rfl⟩ g fun a sa => by rcases sa with rfl | rfl | rfl <;> assumption
end
/-! ### what the class does -/
def FGive (cA cI cS cF : Addr) : DF := fun ds m Q E => ∃ h p k s z, ds = [.ref p, .int k, .int s] ∧ Abs h m ∧ h p = some (bSz cA z) ∧ z.Ok ∧ (k < 0 ∨ k ≥ z.n → E (.ref cI) [] m) ∧ (0 ≤ k → k < z.n → s < 1 ∨ s > 60 → E (.ref cS) [] m) ∧
  (0 ≤ k → k < z.n → 1 ≤ s → s ≤ 60 → s ≠ z.c → z.full k → E (.ref cF) [] m) ∧ (0 ≤ k → k < z.n → 1 ≤ s → s ≤ 60 → s = z.c ∨ ¬ z.full k → ∀ m', Abs (hput h p (bSz cA (z.give k s))) m' → Q .non m')
def FPlain (cA cI : Addr) : DF := fun ds m Q E => ∃ h p k z, ds = [.ref p, .int k] ∧ Abs h m ∧ h p = some (bSz cA z) ∧ z.Ok ∧ (k < 0 ∨ k ≥ z.n → E (.ref cI) [] m) ∧ (0 ≤ k → k < z.n → ∀ m', Abs (hput h p (bSz cA (z.plain k))) m' → Q .non m')
def FHide (cA cI cF : Addr) : DF := fun ds m Q E => ∃ h p k z, ds = [.ref p, .int k] ∧ Abs h m ∧ h p = some (bSz cA z) ∧ z.Ok ∧ (k < 0 ∨ k ≥ z.n → E (.ref cI) [] m) ∧ (0 ≤ k → k < z.n → z.full k → E (.ref cF) [] m) ∧ (0 ≤ k → k < z.n → ¬ z.full k → ∀ m', Abs (hput h p (bSz cA (z.hide k))) m' → Q .non m')
def FShow (cA cI : Addr) : DF := fun ds m Q E => ∃ h p k z, ds = [.ref p, .int k] ∧ Abs h m ∧ h p = some (bSz cA z) ∧ z.Ok ∧ (k < 0 ∨ k ≥ z.n → E (.ref cI) [] m) ∧ (0 ≤ k → k < z.n → ∀ m', Abs (hput h p (bSz cA (z.showK k))) m' → Q .non m')
def FNeedRoom (cA cF : Addr) : DF := fun ds m Q E => ∃ p k z, ds = [.ref p, .int k] ∧ SzAt cA m p z ∧ z.Ok ∧ (z.full k → E (.ref cF) [] m) ∧ (¬ z.full k → Q .non m)
def FInitH (cA cM cS : Addr) : DF := fun ds m Q E => ∃ p n c, ds = [.ref p, .int n, .int c] ∧ m p = some (.ins cA []) ∧ (n < 1 ∨ n > 1000000 → E (.ref cM) [] m) ∧ (1 ≤ n → n ≤ 1000000 → (c < 1 ∨ c > 60) → E (.ref cS) [] m) ∧
  (1 ≤ n → n ≤ 1000000 → 1 ≤ c → c ≤ 60 → ∀ m' a1 a2, (∀ b o, b ≠ p → m b = some o → m' b = some o) → SzA cA m' p a1 a2 ⟨n, c, [], []⟩ → m a1 = none → m a2 = none → Q .non m')
theorem FGive.len {cA cI cS cF : Addr} : ∀ ds m Q E, FGive cA cI cS cF ds m Q E → ds.length = (["self", "number", "size"] : List Str).length := by rintro ds m Q E ⟨h, p, k, s, z, rfl, _⟩; rfl
theorem FPlain.len {cA cI : Addr} : ∀ ds m Q E, FPlain cA cI ds m Q E → ds.length = (["self", "number"] : List Str).length := by rintro ds m Q E ⟨h, p, k, z, rfl, _⟩; rfl
theorem FHide.len {cA cI cF : Addr} : ∀ ds m Q E, FHide cA cI cF ds m Q E → ds.length = (["self", "number"] : List Str).length := by rintro ds m Q E ⟨h, p, k, z, rfl, _⟩; rfl
theorem FShow.len {cA cI : Addr} : ∀ ds m Q E, FShow cA cI ds m Q E → ds.length = (["self", "number"] : List Str).length := by rintro ds m Q E ⟨h, p, k, z, rfl, _⟩; rfl
theorem FNeedRoom.len {cA cF : Addr} : ∀ ds m Q E, FNeedRoom cA cF ds m Q E → ds.length = (["self", "number"] : List Str).length := by rintro ds m Q E ⟨p, k, z, rfl, _⟩; rfl
theorem FInitH.len {cA cM cS : Addr} : ∀ ds m Q E, FInitH cA cM cS ds m Q E → ds.length = (["self", "many", "common"] : List Str).length := by rintro ds m Q E ⟨p, n, c, rfl, _⟩; rfl
end G

/-! Rows of sizes: short lemmas for the laws' own end. -/
namespace G
open PySem PySem.Spec PyProof.Rows L2
section
variable {m : Sto} {Q : D → Sto → Prop} {E : Value → List (Str × D) → Sto → Prop}
theorem use_pickG {p : Addr} {n : Int} {o : O} (hm : m p = some o) (hd : IsDraw o) (h0 : 0 < n) (h1 : n < 1073741824) (h : ∀ r o', 0 ≤ r → r < n → IsDraw o' → Q (.int r) (sput m p o')) : FPick [.ref p, .int n] m Q E := ⟨p, n, o, rfl, hm, hd, h0, h1, h⟩
theorem use_farG {p : Addr} {o : O} (hm : m p = some o) (hd : IsDraw o) (h : ∀ r o', (r < -1000000 ∨ 1000001 < r) → IsDraw o' → Q (.int r) (sput m p o')) : FFar [.ref p] m Q E := ⟨p, o, rfl, hm, hd, h⟩
theorem SzAt.pick {cA p pd : Addr} {z : Sz} {o o' : O} (h : SzAt cA m p z) (hm : m pd = some o) (hd : IsDraw o) : SzAt cA (sput m pd o') p z := by
  obtain ⟨ns, i, b, s, c, rfl, _⟩ := hd
  exact h.draw hm
theorem neS {x y : Str} (e : x = y) (ok : PyData.strOk y = true) (q : Q (.bl false) m) : neD (.str x) (.str y) m Q := by
  subst e
  refine ⟨0, by omega, ok, ok, ?_⟩
  rw [eqvD_str]
  simpa using q
theorem neI {x y : Int} (e : x = y) (q : Q (.bl false) m) : neD (.int x) (.int y) m Q := by
  subst e
  refine ⟨0, by omega, rfl, rfl, ?_⟩
  rw [eqvD_int]
  simpa using q
end
theorem Sz.ahead_new {n c k : Int} : (⟨n, c, [], []⟩ : Sz).ahead k = k * c := by simp [Sz.ahead, Sz.odd, sortU]
theorem Sz.total_new {n c : Int} : (⟨n, c, [], []⟩ : Sz).total = n * c := Sz.ahead_new
end G

/-! The law's own rows: data. -/
namespace G
open PySem PySem.Spec PyProof.Rows L2
def zD (z : Sz) : D := .dic zK [.int z.n, .int z.c, .dic (keysV z.gv) (valsV z.gv), .dic (keysN z.gn) (valsN z.gn)]
theorem lenKV {gv : List (Int × Int)} : (keysV gv).length = (valsV gv).length := by simp [keysV, valsV]
theorem lenKN {gn : List Int} : (keysN gn).length = (valsN gn).length := by simp [keysN, valsN]
theorem lenKV' {gv : List (Int × Int)} : (keysV gv).length = (gv.map (·.1)).length := by simp [keysV]
theorem lenKN' {gn : List Int} : (keysN gn).length = gn.length := by simp [keysN]
namespace Sz
def withK (z : Sz) (k s : Int) (b : Bool) : Sz := ⟨z.n, z.c, if s = z.c then dropG z.gv k else putG (dropG z.gv k) k s, if b = true then putN (dropN z.gn k) k else dropN z.gn k⟩
def setK (z : Sz) (k s : Int) : Sz := z.withK k s (z.hid k)
def hideK (z : Sz) (k : Int) (b : Bool) : Sz := z.withK k (z.own k) b
theorem Ok.of_eqv {z y : Sz} (o : z.Ok) (e : z.Eqv y) (dv : (y.gv.map (·.1)).Nodup) (dn : y.gn.Nodup) : y.Ok :=
  ⟨e.n ▸ o.n1, e.n ▸ o.n2, e.c ▸ o.c1, e.c ▸ o.c2, fun q hq => by have := o.kv q ((e.gv q).2 hq); rw [← e.n]; exact this, fun k hk => by have := o.kn k ((e.gn k).2 hk); rw [← e.n]; exact this, dv, dn, by rw [← e.odd]; exact o.few, fun q hq => by rw [← e.c]; exact o.ne q ((e.gv q).2 hq)⟩
theorem withK_nd {z : Sz} (o : z.Ok) (k s : Int) (b : Bool) : ((z.withK k s b).gv.map (·.1)).Nodup ∧ (z.withK k s b).gn.Nodup := by
  unfold withK
  constructor
  · show (List.map _ (if s = z.c then dropG z.gv k else putG (dropG z.gv k) k s)).Nodup
    split
    · rw [keys_dropG]; exact nodup_dropN o.dv
    · rw [keys_putG, keys_dropG]; exact nodup_putN (nodup_dropN o.dv)
  · show (if b = true then putN (dropN z.gn k) k else dropN z.gn k).Nodup
    split
    · exact nodup_putN (nodup_dropN o.dn)
    · exact nodup_dropN o.dn
theorem gn_with {l : List Int} {k j : Int} {b : Bool} : (j ∈ if b = true then putN (dropN l k) k else dropN l k) ↔ (j = k ∧ b = true) ∨ (j ∈ l ∧ j ≠ k) := by
  cases b with
  | true => rw [if_pos rfl, mem_putN, mem_dropN]; simp
  | false => rw [if_neg (by simp), mem_dropN]; simp
theorem gv_with {l : List (Int × Int)} {k s c : Int} {q : Int × Int} : (q ∈ if s = c then dropG l k else putG (dropG l k) k s) ↔ (q = (k, s) ∧ s ≠ c) ∨ (q ∈ l ∧ q.1 ≠ k) := by
  split
  · rename_i h; rw [mem_dropG]; simp [h]
  · rename_i h; rw [mem_putG, mem_dropG]; simp [h]
theorem own_of {z : Sz} (o : z.Ok) {k : Int} : (∃ v, (k, v) ∈ z.gv ∧ z.own k = v ∧ v ≠ z.c) ∨ ((∀ v, ¬ (k, v) ∈ z.gv) ∧ z.own k = z.c) := by
  unfold own
  cases e : z.gv.lookup k with
  | some v => exact .inl ⟨v, lookup_mem e, rfl, o.ne _ (lookup_mem e)⟩
  | none => exact .inr ⟨fun v hv => (by rw [mem_lookup o.dv hv] at e; cases e), rfl⟩
theorem uniq {z : Sz} (o : z.Ok) {k v u : Int} (h : (k, v) ∈ z.gv) (h2 : (k, u) ∈ z.gv) : v = u := by
  have a := mem_lookup o.dv h
  rw [mem_lookup o.dv h2] at a
  exact (Option.some.inj a).symm
/-- the law's way of setting and hiding is the program's -/
theorem setK_eqv {z y : Sz} (e : z.Eqv y) (k s : Int) : (z.give k s).Eqv (y.setK k s) := by
  refine ⟨?_, ?_, fun q => ?_, fun j => ?_⟩
  · unfold Sz.give; split <;> exact e.n
  · unfold Sz.give; split <;> exact e.c
  · show _ ↔ q ∈ (if s = y.c then dropG y.gv k else putG (dropG y.gv k) k s)
    rw [gv_with, ← e.c, ← e.gv]
    unfold Sz.give
    split
    · rename_i h; show q ∈ dropG _ _ ↔ _; rw [mem_dropG]; simp [h]
    · rename_i h; show q ∈ putG _ _ _ ↔ _; rw [mem_putG]; simp [h]
  · show _ ↔ j ∈ (if y.hid k = true then putN (dropN y.gn k) k else dropN y.gn k)
    rw [gn_with, ← e.hid, ← e.gn]
    have g : (z.give k s).gn = z.gn := by unfold Sz.give; split <;> rfl
    rw [g]
    unfold Sz.hid
    constructor
    · intro hj
      by_cases w : j = k
      · exact .inl ⟨w, by subst w; simpa using hj⟩
      · exact .inr ⟨hj, w⟩
    · rintro (⟨rfl, w⟩ | ⟨w, _⟩)
      · simpa using w
      · exact w
theorem plainK_eqv {z y : Sz} (e : z.Eqv y) (k : Int) : (z.plain k).Eqv (y.setK k y.c) := by
  have h := setK_eqv e k y.c
  rw [show z.give k y.c = z.plain k from by unfold Sz.give Sz.plain; rw [if_pos e.c.symm]] at h
  exact h
theorem hideK_eqv {z y : Sz} (oy : y.Ok) (e : z.Eqv y) (k : Int) (b : Bool) : (if b = true then z.hide k else z.showK k).Eqv (y.hideK k b) := by
  refine ⟨by split <;> exact e.n, by split <;> exact e.c, fun q => ?_, fun j => ?_⟩
  · show _ ↔ q ∈ (if y.own k = y.c then dropG y.gv k else putG (dropG y.gv k) k (y.own k))
    rw [gv_with]
    have g : (if b = true then z.hide k else z.showK k).gv = z.gv := by split <;> rfl
    rw [g, e.gv]
    rcases own_of oy (k := k) with ⟨v, h1, h2, h3⟩ | ⟨h1, h2⟩
    · rw [h2]
      constructor
      · intro hq
        by_cases w : q.1 = k
        · left
          have : q = (k, q.2) := by rw [← w]
          rw [this] at hq ⊢
          rw [uniq oy hq h1]
          exact ⟨rfl, h3⟩
        · exact .inr ⟨hq, w⟩
      · rintro (⟨rfl, _⟩ | ⟨w, _⟩)
        · exact h1
        · exact w
    · constructor
      · intro hq
        refine .inr ⟨hq, fun w => h1 q.2 ?_⟩
        rw [← w]; exact hq
      · rintro (⟨_, w⟩ | ⟨w, _⟩)
        · exact absurd h2 w
        · exact w
  · show _ ↔ j ∈ (if b = true then putN (dropN y.gn k) k else dropN y.gn k)
    rw [gn_with, ← e.gn]
    cases b with
    | true => show j ∈ putN _ _ ↔ _; rw [mem_putN]; simp
    | false => show j ∈ dropN _ _ ↔ _; rw [mem_dropN]; simp
theorem setK_ok {z y : Sz} (e : z.Eqv y) (oy : y.Ok) {k s : Int} (o : (z.give k s).Ok) : (y.setK k s).Ok := o.of_eqv (setK_eqv e k s) (withK_nd oy _ _ _).1 (withK_nd oy _ _ _).2
theorem hideK_ok {z y : Sz} (e : z.Eqv y) (oy : y.Ok) {k : Int} {b : Bool} (o : (if b = true then z.hide k else z.showK k).Ok) : (y.hideK k b).Ok := o.of_eqv (hideK_eqv oy e k b) (withK_nd oy _ _ _).1 (withK_nd oy _ _ _).2
/-- what refuses a deed of the four kinds -/
def due (z : Sz) (way k s : Int) : Option Str := if k < 0 ∨ z.n ≤ k then some (Str.ofString "NoIndex") else if way = 0 ∧ (s < 1 ∨ 60 < s) then some (Str.ofString "BadSize") else if (way = 2 ∨ way = 0 ∧ s ≠ z.c) ∧ z.full k then some (Str.ofString "Full") else none
def done (z : Sz) (way k s : Int) : Sz := if z.due way k s = none then (if way = 0 then z.give k s else if way = 1 then z.plain k else if way = 2 then z.hide k else z.showK k) else z
theorem Eqv.due {z y : Sz} (e : z.Eqv y) (way k s : Int) : z.due way k s = y.due way k s := by
  unfold Sz.due
  rw [e.n, e.c]
  have q := e.full k
  simp only [q]
theorem due_none {z : Sz} {way k s : Int} (h : z.due way k s = none) : 0 ≤ k ∧ k < z.n ∧ (way = 0 → 1 ≤ s ∧ s ≤ 60) ∧ (way = 2 ∨ way = 0 ∧ s ≠ z.c → ¬ z.full k) := by
  unfold due at h
  split at h
  · cases h
  · split at h
    · cases h
    · split at h
      · cases h
      · rename_i h1 h2 h3
        exact ⟨by omega, by omega, fun w => by omega, fun w f => h3 ⟨w, f⟩⟩
theorem Ok.done {z : Sz} (o : z.Ok) (way k s : Int) : (z.done way k s).Ok := by
  unfold Sz.done
  split
  · rename_i h
    obtain ⟨h1, h2, h3, h4⟩ := due_none h
    split
    · rename_i w
      have h5 := h3 w
      refine o.give h1 h2 h5.1 h5.2 ?_
      by_cases e : s = z.c
      · exact .inl e
      · exact .inr (h4 (.inr ⟨w, e⟩))
    · split
      · exact o.plain k
      · split
        · rename_i w; exact o.hide h1 h2 (h4 (.inl w))
        · exact o.showK k
  · exact o
end Sz
def dueD : Option Str → D
  | none => .non
  | some x => .str x
/-! ### the defs -/
def FZ : DF := fun ds m Q _ => ∃ n c, ds = [.int n, .int c] ∧ Q (zD ⟨n, c, [], []⟩) m
def FZOdd : DF := fun ds m Q _ => ∃ z, ds = [zD z] ∧ z.Ok ∧ Q (.lst (z.odd.map G.D.int)) m
def FZSize : DF := fun ds m Q _ => ∃ k z, ds = [zD z, .int k] ∧ Q (.int (z.size k)) m
def FZAhead : DF := fun ds m Q _ => ∃ k z, ds = [zD z, .int k] ∧ z.Ok ∧ Q (.int (z.ahead k)) m
def FZFull : DF := fun ds m Q _ => ∃ k z, ds = [zD z, .int k] ∧ z.Ok ∧ Q (.bl (decide (z.full k))) m
def FZWith : DF := fun ds m Q _ => ∃ k s b z, ds = [zD z, .int k, .int s, .bl b] ∧ z.Ok ∧ Q (zD (z.withK k s b)) m
def FZSet : DF := fun ds m Q _ => ∃ k s z, ds = [zD z, .int k, .int s] ∧ z.Ok ∧ Q (zD (z.setK k s)) m
def FZHide : DF := fun ds m Q _ => ∃ k b z, ds = [zD z, .int k, .bl b] ∧ z.Ok ∧ Q (zD (z.hideK k b)) m
def FZStands (cA : Addr) : DF := fun ds m Q _ => ∃ ps ks z y, ds = [.ref ps, zD y, .lst (List.map G.D.int ks)] ∧ ks.length ≤ 1000 ∧ SzAt cA m ps z ∧ z.Eqv y ∧ z.Ok ∧ y.Ok ∧ Q (.bl true) m
def FFarH : DF := fun ds m Q _ => ∃ h p, ds = [.ref p] ∧ Abs h m ∧ h p = some bDraw ∧ ∀ r m', (r < -1000000 ∨ 1000001 < r) → Abs h m' → Q (.int r) m'
def FNear : DF := fun ds m Q _ => ∃ h p n, ds = [.ref p, .int n] ∧ 0 ≤ n ∧ n ≤ 1000000000 ∧ Abs h m ∧ h p = some bDraw ∧ ∀ r m', Abs h m' → Q (.int r) m'
theorem FZ.len : ∀ ds m Q E, FZ ds m Q E → ds.length = (["_law_many", "_law_usual"] : List Str).length := by rintro ds m Q E ⟨n, c, rfl, _⟩; rfl
theorem FZOdd.len : ∀ ds m Q E, FZOdd ds m Q E → ds.length = (["_law_z_here"] : List Str).length := by rintro ds m Q E ⟨z, rfl, _⟩; rfl
theorem FZSize.len : ∀ ds m Q E, FZSize ds m Q E → ds.length = (["_law_z_here", "_law_k"] : List Str).length := by rintro ds m Q E ⟨k, z, rfl, _⟩; rfl
theorem FZAhead.len : ∀ ds m Q E, FZAhead ds m Q E → ds.length = (["_law_z_here", "_law_k"] : List Str).length := by rintro ds m Q E ⟨k, z, rfl, _⟩; rfl
theorem FZFull.len : ∀ ds m Q E, FZFull ds m Q E → ds.length = (["_law_z_here", "_law_k"] : List Str).length := by rintro ds m Q E ⟨k, z, rfl, _⟩; rfl
theorem FZWith.len : ∀ ds m Q E, FZWith ds m Q E → ds.length = (["_law_z_here", "_law_k", "_law_size", "_law_hidden"] : List Str).length := by rintro ds m Q E ⟨k, s, b, z, rfl, _⟩; rfl
theorem FZSet.len : ∀ ds m Q E, FZSet ds m Q E → ds.length = (["_law_z_here", "_law_k", "_law_size"] : List Str).length := by rintro ds m Q E ⟨k, s, z, rfl, _⟩; rfl
theorem FZHide.len : ∀ ds m Q E, FZHide ds m Q E → ds.length = (["_law_z_here", "_law_k", "_law_hidden"] : List Str).length := by rintro ds m Q E ⟨k, b, z, rfl, _⟩; rfl
theorem FZStands.len {cA : Addr} : ∀ ds m Q E, FZStands cA ds m Q E → ds.length = (["_law_sizes", "_law_z_here", "_law_some"] : List Str).length := by rintro ds m Q E ⟨ps, ks, z, y, rfl, _⟩; rfl
theorem FFarH.len : ∀ ds m Q E, FFarH ds m Q E → ds.length = (["_law_draw"] : List Str).length := by rintro ds m Q E ⟨h, p, rfl, _⟩; rfl
theorem FNear.len : ∀ ds m Q E, FNear ds m Q E → ds.length = (["_law_draw", "_law_many"] : List Str).length := by rintro ds m Q E ⟨h, p, n, rfl, _⟩; rfl
/-- new things of the store that are gone again -/
theorem sto_z {m : Sto} {p b1 b2 : Addr} {o o1 o2 o3 o4 o5 : O} (h0 : m p = none) (h1 : (sput m p o) b1 = none) (h2 : (sput (sput m p o) b1 o1) b2 = none) :
    sdel (sput (sdel (sput (sdel (sput (sput (sput (sput m p o) b1 o1) b2 o2) p o3) b1) p o4) b2) p o5) p = m := by
  have n1 : b1 ≠ p := fun e => by rw [e, sput_same] at h1; cases h1
  rw [sput_ne n1] at h1
  have n12 : b2 ≠ b1 := fun e => by rw [e, sput_same] at h2; cases h2
  rw [sput_ne n12] at h2
  have n2 : b2 ≠ p := fun e => by rw [e, sput_same] at h2; cases h2
  rw [sput_ne n2] at h2
  funext x
  by_cases e : x = p
  · subst e; simp [sdel, h0]
  · by_cases e1 : x = b1
    · subst e1; simp [sdel, sput, e, h1]
    · by_cases e2 : x = b2
      · subst e2; simp [sdel, sput, e, h2]
      · simp [sdel, sput, e, e1, e2]
theorem any_ints {k : Int} (ns : List Int) : ((ns.map G.D.int).any fun z => eqvD z (.int k)) = decide (k ∈ ns) := by
  rw [List.any_map, Bool.eq_iff_iff, List.any_eq_true, decide_eq_true_eq]
  constructor
  · rintro ⟨j, hj, e⟩
    have e' : eqvD (.int j) (.int k) = true := e
    rw [eqvD_int, beq_iff_eq] at e'
    exact e' ▸ hj
  · intro h
    exact ⟨k, h, by show eqvD (.int k) (.int k) = true; rw [eqvD_int]; simp⟩
theorem ok_ints (ns : List Int) : okDL 0 (ns.map G.D.int) = true := okDL_map fun k => by simp [okD]
theorem in_ints {m : Sto} {Q : D → Sto → Prop} {k : Int} {ns : List Int} (q : Q (.bl (decide (k ∈ ns))) m) : inD false (.int k) (.lst (ns.map G.D.int)) m Q := ⟨0, _, by omega, rfl, rfl, ok_ints ns, by
  show Q (.bl ((ns.map G.D.int).any fun z => eqvD z (.int k))) m
  rw [any_ints]; exact q⟩
theorem notin_ints {m : Sto} {Q : D → Sto → Prop} {k : Int} {ns : List Int} (q : Q (.bl (!decide (k ∈ ns))) m) : inD true (.int k) (.lst (ns.map G.D.int)) m Q := ⟨0, _, by omega, rfl, rfl, ok_ints ns, by
  show Q (.bl (!(ns.map G.D.int).any fun z => eqvD z (.int k))) m
  rw [any_ints]; exact q⟩
theorem isN_due (o : Option Str) : isN (dueD o) = o.isNone := by cases o <;> rfl
theorem keysV_few {z : Sz} (o : z.Ok) : (keysV z.gv).length < sizeLine := by rw [lenKV']; have := o.fewV; have := sizeLine_eq; omega
theorem keysN_few {z : Sz} (o : z.Ok) : (keysN z.gn).length < sizeLine := by rw [lenKN']; have := o.fewN; have := sizeLine_eq; omega
theorem keysVd_few {z : Sz} (o : z.Ok) {k : Int} : (keysV (dropG z.gv k)).length < sizeLine := by
  rw [lenKV', keys_dropG]
  have h1 : (dropN (z.gv.map (·.1)) k).length ≤ (z.gv.map (·.1)).length := List.length_filter_le _ _
  have := o.fewV; have := sizeLine_eq; omega
theorem keysNd_few {z : Sz} (o : z.Ok) {k : Int} : (keysN (dropN z.gn k)).length < sizeLine := by
  rw [lenKN']
  have h1 : (dropN z.gn k).length ≤ z.gn.length := List.length_filter_le _ _
  have := o.fewN; have := sizeLine_eq; omega
theorem q_sto {Q : D → Sto → Prop} {d d' : D} {m m' : Sto} (q : Q d m) (e : m' = m) (e2 : d' = d) : Q d' m' := by subst e e2; exact q
theorem put_own {a b c d x : D} : O.dic (putKs zK (.inr "own")) (putDs zK [a, b, c, d] (.inr "own") x) = .dic zK [a, b, x, d] := by rfl
theorem put_gone {a b c d x : D} : O.dic (putKs zK (.inr "gone")) (putDs zK [a, b, c, d] (.inr "gone") x) = .dic zK [a, b, c, x] := by rfl
theorem full_dec (z : Sz) (k : Int) : (!decide (k ∈ z.odd) && decide (((z.odd.map G.D.int).length : Int) > 59)) = decide (z.full k) := by
  rw [List.length_map]
  by_cases h1 : k ∈ z.odd
  · rw [decide_eq_true h1, decide_eq_false (show ¬ z.full k from fun h => h.1 h1)]; rfl
  · by_cases h2 : 60 ≤ z.odd.length
    · rw [decide_eq_false h1, decide_eq_true (show ((z.odd.length : Nat) : Int) > 59 by omega), decide_eq_true (show z.full k from ⟨h1, h2⟩)]; rfl
    · rw [decide_eq_false h1, decide_eq_false (show ¬ ((z.odd.length : Nat) : Int) > 59 by omega), decide_eq_false (show ¬ z.full k from fun h => h2 h.2)]; rfl
theorem Abs.make {h : HSt} {m m6 : Sto} {ps cA a1 a2 : Addr} {z : Sz} {o0 : O} (A : Abs h m) (hps : m ps = .none) (hk : ∀ b o, b ≠ ps → sput m ps o0 b = some o → m6 b = some o) (x : SzA cA m6 ps a1 a2 z) (n1 : sput m ps o0 a1 = .none) (n2 : sput m ps o0 a2 = .none) : Abs (hput h ps (bSz cA z)) m6 :=
  A.newSz hps x (fun b o e => by
    have nb : b ≠ ps := fun w => by rw [w, hps] at e; cases e
    exact hk b o nb (by rw [sput_ne nb]; exact e)) (new_put n1) (new_put n2)
namespace Sz
section
variable {z y : Sz} {way k s : Int} {x : Str}
theorem done_ref (e : z.due way k s = some x) : z.done way k s = z := by unfold done; rw [if_neg (by rw [e]; simp)]
theorem due_ni (h : k < 0 ∨ z.n ≤ k) : z.due way k s = some (Str.ofString "NoIndex") := by unfold due; rw [if_pos h]
theorem due_bs (h0 : 0 ≤ k) (h1 : k < z.n) (hw : way = 0) (hs : s < 1 ∨ 60 < s) : z.due way k s = some (Str.ofString "BadSize") := by
  unfold due; rw [if_neg (by omega), if_pos ⟨hw, hs⟩]
theorem due_fl (h0 : 0 ≤ k) (h1 : k < z.n) (hs : ¬ (way = 0 ∧ (s < 1 ∨ 60 < s))) (hf : way = 2 ∨ way = 0 ∧ s ≠ z.c) (f : z.full k) : z.due way k s = some (Str.ofString "Full") := by
  unfold due; rw [if_neg (by omega), if_neg hs, if_pos ⟨hf, f⟩]
theorem due_no (h0 : 0 ≤ k) (h1 : k < z.n) (hs : ¬ (way = 0 ∧ (s < 1 ∨ 60 < s))) (hf : ¬ ((way = 2 ∨ way = 0 ∧ s ≠ z.c) ∧ z.full k)) : z.due way k s = none := by
  unfold due; rw [if_neg (by omega), if_neg hs, if_neg hf]
theorem done_no (h : z.due way k s = none) : z.done way k s = (if way = 0 then z.give k s else if way = 1 then z.plain k else if way = 2 then z.hide k else z.showK k) := by unfold done; rw [if_pos h]
theorem done_set (hv : z.Eqv y) (o : z.Ok) (oy : y.Ok) (hn : (y.due way k s).isNone = true) (h0 : 0 ≤ way) (h2 : way < 2) : (z.done way k s).Eqv (y.setK k (if way = 0 then s else y.c)) ∧ (y.setK k (if way = 0 then s else y.c)).Ok := by
  have e : z.due way k s = none := by rw [hv.due]; exact Option.isNone_iff_eq_none.mp hn
  have od := o.done way k s
  rw [done_no e] at od ⊢
  by_cases w : way = 0
  · simp only [if_pos w] at od ⊢
    exact ⟨setK_eqv hv k s, setK_ok hv oy od⟩
  · have w1 : way = 1 := by omega
    simp only [if_neg w, if_pos w1] at od ⊢
    refine ⟨plainK_eqv hv k, ?_⟩
    exact od.of_eqv (plainK_eqv hv k) (withK_nd oy _ _ _).1 (withK_nd oy _ _ _).2
theorem done_hide (hv : z.Eqv y) (o : z.Ok) (oy : y.Ok) (hn : (y.due way k s).isNone = true) (h1 : 1 < way) (h4 : way < 4) : (z.done way k s).Eqv (y.hideK k (decide (way = 2))) ∧ (y.hideK k (decide (way = 2))).Ok := by
  have e : z.due way k s = none := by rw [hv.due]; exact Option.isNone_iff_eq_none.mp hn
  have od := o.done way k s
  rw [done_no e] at od ⊢
  simp only [if_neg (show ¬ way = 0 by omega), if_neg (show ¬ way = 1 by omega)] at od ⊢
  have q : (if way = 2 then z.hide k else z.showK k) = (if decide (way = 2) = true then z.hide k else z.showK k) := by by_cases w : way = 2 <;> simp [w]
  rw [q] at od ⊢
  exact ⟨hideK_eqv oy hv k _, hideK_ok hv oy od⟩
theorem done_keep (hv : z.Eqv y) (hn : (y.due way k s).isNone = false) : (z.done way k s).Eqv y := by
  have e : ¬ z.due way k s = none := by rw [hv.due]; intro w; rw [w] at hn; cases hn
  unfold done
  rw [if_neg e]
  exact hv
end
end Sz
theorem ix2 {a b i : Int} {m : Sto} {Q : D → Sto → Prop} (h0 : 0 ≤ i) (h1 : i < 2) (q : Q (.int (if i = 0 then a else b)) m) : ixD (.tup [.int a, .int b]) (.int i) m Q := by
  by_cases e : i = 0
  · subst e; exact ixT 0 rfl q
  · have e1 : i = 1 := by omega
    subst e1
    exact ixT 1 rfl q
theorem okD_due (z : Sz) (way k s : Int) : okD 1 (dueD (z.due way k s)) = true := by
  unfold Sz.due
  split
  · exact strOk_of "NoIndex"
  · split
    · exact strOk_of "BadSize"
    · split
      · exact strOk_of "Full"
      · rfl
def FDue2 : DF := fun ds m Q _ => ∃ way k s z, ds = [zD z, .int way, .int k, .int s] ∧ z.Ok ∧ Q (dueD (z.due way k s)) m
theorem FDue2.len : ∀ ds m Q E, FDue2 ds m Q E → ds.length = (["_law_z_here", "_law_way", "_law_k", "_law_size"] : List Str).length := by rintro ds m Q E ⟨way, k, s, z, rfl, _⟩; rfl
def FTried2 (cA : Addr) : DF := fun ds m Q _ => ∃ h p way k s z, ds = [.ref p, .int way, .int k, .int s] ∧ Abs h m ∧ h p = some (bSz cA z) ∧ z.Ok ∧ 0 ≤ way ∧ way < 4 ∧ ∀ m', Abs (hput h p (bSz cA (z.done way k s))) m' → Q (dueD (z.due way k s)) m'
theorem FTried2.len {cA : Addr} : ∀ ds m Q E, FTried2 cA ds m Q E → ds.length = (["_law_sizes", "_law_way", "_law_k", "_law_size"] : List Str).length := by rintro ds m Q E ⟨h, p, way, k, s, z, rfl, _⟩; rfl
theorem meth_at {R : Addr → Prop} {m : Sto} {a cA : Addr} {x : Str} (h : ∃ fs, m a = some (.ins cA fs) ∧ fs.lookup x = none) (q : R a) : ∃ a' fs, D.ref a = .ref a' ∧ m a' = some (.ins cA fs) ∧ fs.lookup x = none ∧ R a' := let ⟨fs, h1, h2⟩ := h; ⟨a, fs, rfl, h1, h2, q⟩
theorem fld_at {C : Ct} {R : D → Prop} {m : Sto} {a cA : Addr} {f : Str} {v : D} (h : ∃ fs, m a = some (.ins cA fs) ∧ fs.lookup f = some v) (c : Cls C.K cA) (n : NoAttr C.K cA f) (q : R v) : ∃ a' cA' fs v', D.ref a = .ref a' ∧ m a' = some (.ins cA' fs) ∧ Cls C.K cA' ∧ NoAttr C.K cA' f ∧ fs.lookup f = some v' ∧ R v' :=
  let ⟨fs, h1, h2⟩ := h; ⟨a, cA, fs, v, rfl, h1, c, n, h2, q⟩
theorem Abs.szI {h : HSt} {m : Sto} {p cA : Addr} {z : Sz} {x : Str} (A : Abs h m) (hp : h p = some (bSz cA z)) (hx : ∀ a1 a2, (szF z a1 a2).lookup x = Option.none) : ∃ fs, m p = some (.ins cA fs) ∧ fs.lookup x = Option.none := let ⟨a1, a2, y⟩ := A.sz hp; ⟨_, y.at_, hx a1 a2⟩
theorem Abs.szF {h : HSt} {m : Sto} {p cA : Addr} {z : Sz} {x : Str} {v : D} (A : Abs h m) (hp : h p = some (bSz cA z)) (hx : ∀ a1 a2, (G.szF z a1 a2).lookup x = some v) : ∃ fs, m p = some (.ins cA fs) ∧ fs.lookup x = some v := let ⟨a1, a2, y⟩ := A.sz hp; ⟨_, y.at_, hx a1 a2⟩
end G

/-! Rows of sizes: putting in, cutting out, twins. -/
namespace G
open PySem PySem.Spec PyProof.Rows L2
def upBy (at_ many : Int) (j : Int) : Int := j + many * (if j ≥ at_ then 1 else 0)
def downBy (at_ many : Int) (j : Int) : Int := j - many * (if j ≥ at_ + many then 1 else 0)
def stays (at_ many : Int) (j : Int) : Bool := decide (j < at_ ∨ j ≥ at_ + many)
theorem upBy_inj {a b i j : Int} (hb : 1 ≤ b) (h : upBy a b i = upBy a b j) : i = j := by
  unfold upBy at h
  split at h <;> split at h <;> omega
theorem downBy_inj {a b i j : Int} (hb : 1 ≤ b) (hi : stays a b i = true) (hj : stays a b j = true) (h : downBy a b i = downBy a b j) : i = j := by
  unfold stays at hi hj
  rw [decide_eq_true_eq] at hi hj
  unfold downBy at h
  split at h <;> split at h <;> omega
theorem nodup_map {f : Int → Int} : ∀ {l : List Int}, l.Nodup → (∀ i ∈ l, ∀ j ∈ l, f i = f j → i = j) → (l.map f).Nodup
  | [], _, _ => List.nodup_nil
  | x :: l, h, k => by
    rw [List.nodup_cons] at h
    rw [List.map_cons, List.nodup_cons]
    refine ⟨fun m => ?_, nodup_map h.2 fun i hi j hj => k i (List.mem_cons_of_mem _ hi) j (List.mem_cons_of_mem _ hj)⟩
    obtain ⟨y, hy, e⟩ := List.mem_map.mp m
    have := k y (List.mem_cons_of_mem _ hy) x List.mem_cons_self e
    subst this
    exact h.1 hy
namespace Sz
def put (z : Sz) (k many : Int) : Sz := ⟨z.n + many, z.c, z.gv.map fun q => (upBy k many q.1, q.2), z.gn.map (upBy k many)⟩
def cut (z : Sz) (k many : Int) : Sz := ⟨z.n - many, z.c, (z.gv.filter fun q => stays k many q.1).map fun q => (downBy k many q.1, q.2), (z.gn.filter (stays k many)).map (downBy k many)⟩
theorem Eqv.put {z y : Sz} (h : z.Eqv y) (k many : Int) : (z.put k many).Eqv (y.put k many) := by
  refine ⟨by show z.n + many = _; rw [h.n]; rfl, h.c, fun q => ?_, fun j => ?_⟩
  · show q ∈ z.gv.map _ ↔ q ∈ y.gv.map _
    rw [List.mem_map, List.mem_map]
    exact ⟨fun ⟨a, b, c⟩ => ⟨a, (h.gv a).1 b, c⟩, fun ⟨a, b, c⟩ => ⟨a, (h.gv a).2 b, c⟩⟩
  · show j ∈ z.gn.map _ ↔ j ∈ y.gn.map _
    rw [List.mem_map, List.mem_map]
    exact ⟨fun ⟨a, b, c⟩ => ⟨a, (h.gn a).1 b, c⟩, fun ⟨a, b, c⟩ => ⟨a, (h.gn a).2 b, c⟩⟩
theorem Eqv.cut {z y : Sz} (h : z.Eqv y) (k many : Int) : (z.cut k many).Eqv (y.cut k many) := by
  refine ⟨by show z.n - many = _; rw [h.n]; rfl, h.c, fun q => ?_, fun j => ?_⟩
  · show q ∈ (z.gv.filter _).map _ ↔ q ∈ (y.gv.filter _).map _
    rw [List.mem_map, List.mem_map]
    simp only [List.mem_filter, h.gv]
  · show j ∈ (z.gn.filter _).map _ ↔ j ∈ (y.gn.filter _).map _
    rw [List.mem_map, List.mem_map]
    simp only [List.mem_filter, h.gn]
theorem mapKeys {gv : List (Int × Int)} {f : Int → Int} : ((gv.map fun q => (f q.1, q.2)).map (·.1)) = (gv.map (·.1)).map f := by rw [List.map_map, List.map_map]; rfl
theorem filterKeys {p : Int → Bool} : ∀ gv : List (Int × Int), ((gv.filter fun q => p q.1).map (·.1)) = (gv.map (·.1)).filter p
  | [] => rfl
  | q :: gv => by
    rw [List.map_cons]
    by_cases h : p q.1 = true
    · rw [List.filter_cons_of_pos (p := fun q : Int × Int => p q.1) h, List.filter_cons_of_pos (p := p) h, List.map_cons, filterKeys gv]
    · rw [List.filter_cons_of_neg (p := fun q : Int × Int => p q.1) h, List.filter_cons_of_neg (p := p) h, filterKeys gv]
theorem mem_gvk {z : Sz} {k : Int} (h : k ∈ z.gv.map (·.1)) : k ∈ z.odd := mem_odd.mpr (.inl h)
/-- the odd ones behind, as images of those ahead -/
theorem odd_map_len {a b : Sz} (f : Int → Int) (h : ∀ j ∈ a.odd, ∃ i ∈ b.odd, f i = j) : a.odd.length ≤ b.odd.length := by
  have nd : a.odd.Nodup := a.inc_odd.imp fun e => Int.ne_of_lt e
  have := nodup_len a.odd (b.odd.map f) nd fun j hj => by
    obtain ⟨i, hi, e⟩ := h j hj
    exact List.mem_map.mpr ⟨i, hi, e⟩
  rwa [List.length_map] at this
theorem Ok.put {z : Sz} (o : z.Ok) {k many : Int} (h0 : 0 ≤ k) (hk : k ≤ z.n) (h1 : 1 ≤ many) (h2 : z.n + many ≤ 1000000000) : (z.put k many).Ok := by
  have inR : ∀ j, 0 ≤ j → j < z.n → 0 ≤ upBy k many j ∧ upBy k many j < z.n + many := fun j a b => by unfold upBy; split <;> omega
  refine ⟨by show 1 ≤ z.n + many; have := o.n1; omega, h2, o.c1, o.c2, fun q hq => ?_, fun j hj => ?_, ?_, ?_, ?_, fun q hq => ?_⟩
  · obtain ⟨r, hr, rfl⟩ := List.mem_map.mp hq
    obtain ⟨a, b, c, d⟩ := o.kv r hr
    exact ⟨(inR _ a b).1, (inR _ a b).2, c, d⟩
  · obtain ⟨r, hr, rfl⟩ := List.mem_map.mp hj
    obtain ⟨a, b⟩ := o.kn r hr
    exact inR _ a b
  · show (List.map _ (List.map _ z.gv)).Nodup
    rw [mapKeys]
    exact nodup_map o.dv fun i _ j _ e => upBy_inj h1 e
  · exact nodup_map o.dn fun i _ j _ e => upBy_inj h1 e
  · refine Nat.le_trans (odd_map_len (b := z) (upBy k many) fun j hj => ?_) o.few
    rw [mem_odd] at hj
    rcases hj with hj | hj
    · have hj : j ∈ ((z.gv.map fun q => (upBy k many q.1, q.2)).map (·.1)) := hj
      rw [mapKeys] at hj
      obtain ⟨i, hi, e⟩ := List.mem_map.mp hj
      exact ⟨i, mem_odd.mpr (.inl hi), e⟩
    · obtain ⟨i, hi, e⟩ := List.mem_map.mp hj
      exact ⟨i, mem_odd.mpr (.inr hi), e⟩
  · obtain ⟨r, hr, rfl⟩ := List.mem_map.mp hq
    exact o.ne r hr
theorem Ok.cut {z : Sz} (o : z.Ok) {k many : Int} (h0 : 0 ≤ k) (h1 : 1 ≤ many) (h2 : k + many ≤ z.n) (h3 : many < z.n) : (z.cut k many).Ok := by
  have inR : ∀ j, 0 ≤ j → j < z.n → stays k many j = true → 0 ≤ downBy k many j ∧ downBy k many j < z.n - many := fun j a b s => by
    unfold stays at s
    rw [decide_eq_true_eq] at s
    unfold downBy; split <;> omega
  refine ⟨by show 1 ≤ z.n - many; omega, by show z.n - many ≤ _; have := o.n2; omega, o.c1, o.c2, fun q hq => ?_, fun j hj => ?_, ?_, ?_, ?_, fun q hq => ?_⟩
  · obtain ⟨r, hr, rfl⟩ := List.mem_map.mp hq
    obtain ⟨hr, hs⟩ := List.mem_filter.mp hr
    obtain ⟨a, b, c, d⟩ := o.kv r hr
    exact ⟨(inR _ a b hs).1, (inR _ a b hs).2, c, d⟩
  · obtain ⟨r, hr, rfl⟩ := List.mem_map.mp hj
    obtain ⟨hr, hs⟩ := List.mem_filter.mp hr
    obtain ⟨a, b⟩ := o.kn r hr
    exact inR _ a b hs
  · show (List.map _ (List.map _ (z.gv.filter _))).Nodup
    rw [mapKeys, filterKeys]
    exact nodup_map (o.dv.sublist List.filter_sublist) fun i hi j hj e => downBy_inj h1 (List.mem_filter.mp hi).2 (List.mem_filter.mp hj).2 e
  · exact nodup_map (o.dn.sublist List.filter_sublist) fun i hi j hj e => downBy_inj h1 (List.mem_filter.mp hi).2 (List.mem_filter.mp hj).2 e
  · refine Nat.le_trans (odd_map_len (b := z) (downBy k many) fun j hj => ?_) o.few
    rw [mem_odd] at hj
    rcases hj with hj | hj
    · have hj : j ∈ (((z.gv.filter fun q => stays k many q.1).map fun q => (downBy k many q.1, q.2)).map (·.1)) := hj
      rw [mapKeys, filterKeys] at hj
      obtain ⟨i, hi, e⟩ := List.mem_map.mp hj
      exact ⟨i, mem_odd.mpr (.inl (List.mem_filter.mp hi).1), e⟩
    · obtain ⟨i, hi, e⟩ := List.mem_map.mp hj
      exact ⟨i, mem_odd.mpr (.inr (List.mem_filter.mp hi).1), e⟩
  · obtain ⟨r, hr, rfl⟩ := List.mem_map.mp hq
    exact o.ne r (List.mem_filter.mp hr).1
end Sz
/-! ### one more behind a dict made anew -/
theorem putG_new {l : List (Int × Int)} {k s : Int} (h : ¬ k ∈ l.map (·.1)) : putG l k s = l ++ [(k, s)] := if_neg h
theorem putN_new {l : List Int} {k : Int} (h : ¬ k ∈ l) : putN l k = l ++ [k] := if_neg h
theorem take_map_nd {l : List Int} (nd : l.Nodup) {i : Nat} {j : Int} (h : l[i]? = some j) : ¬ j ∈ l.take i := by
  intro m
  obtain ⟨a, ha, e⟩ := List.getElem_of_mem m
  rw [List.length_take] at ha
  rw [List.getElem_take] at e
  have hi := (List.getElem?_eq_some_iff.mp h)
  obtain ⟨hi, e2⟩ := hi
  exact List.pairwise_iff_getElem.mp nd a i (by omega) hi (by omega) (e.trans e2.symm)
theorem items_V : ∀ {gv : List (Int × Int)} {i : Nat} {d : D}, (itemsL (keysV gv) (valsV gv))[i]? = some d → ∃ q, gv[i]? = some q ∧ d = .tup [.int q.1, .int q.2]
  | [], i, d, h => by cases i <;> simp [keysV, valsV, itemsL] at h
  | q :: gv, 0, d, h => by
    have h' : some (D.tup [.int q.1, .int q.2]) = some d := h
    exact ⟨q, rfl, (Option.some.inj h').symm⟩
  | q :: gv, i + 1, d, h => by
    have h' : (itemsL (keysV gv) (valsV gv))[i]? = some d := h
    obtain ⟨r, h1, h2⟩ := items_V h'
    exact ⟨r, h1, h2⟩
theorem itemsV_len {gv : List (Int × Int)} : (itemsL (keysV gv) (valsV gv)).length = gv.length := by rw [items_len lenKV, lenKV', List.length_map]
theorem lock_new {m : Sto} {a p : Addr} {l x o : O} (hm : m a = some o) (h : p ≠ a) : sput (sput (sput m a l) p x) a o = sput m p x := by
  funext b
  by_cases e : b = a
  · subst e; simp [sput, hm, h.symm]
  · by_cases e2 : b = p
    · subst e2; simp [sput, e]
    · simp [sput, e, e2]
/-- a step of the comprehension over the pairs -/
theorem step_V {gv : List (Int × Int)} {f : Int → Int} {p : Int → Bool} (nd : (gv.map (·.1)).Nodup) (inj : ∀ i j, p i = true → p j = true → f i = f j → i = j) {i : Nat} {q : Int × Int} (hi : gv[i]? = some q) (hp : p q.1 = true) :
    putKs (keysV (((gv.take i).filter fun q => p q.1).map fun q => (f q.1, q.2))) (.inl (f q.1)) = keysV (((gv.take (i + 1)).filter fun q => p q.1).map fun q => (f q.1, q.2)) ∧
    putDs (keysV (((gv.take i).filter fun q => p q.1).map fun q => (f q.1, q.2))) (valsV (((gv.take i).filter fun q => p q.1).map fun q => (f q.1, q.2))) (.inl (f q.1)) (.int q.2) = valsV (((gv.take (i + 1)).filter fun q => p q.1).map fun q => (f q.1, q.2)) := by
  have e : ((gv.take (i + 1)).filter fun q => p q.1).map (fun q => (f q.1, q.2)) = ((gv.take i).filter fun q => p q.1).map (fun q => (f q.1, q.2)) ++ [(f q.1, q.2)] := by
    rw [List.take_succ, hi, List.filter_append, List.map_append]
    simp [hp]
  have nn : ¬ f q.1 ∈ (((gv.take i).filter fun q => p q.1).map fun q => (f q.1, q.2)).map (·.1) := by
    rw [Sz.mapKeys, Sz.filterKeys]
    intro m
    obtain ⟨j, hj, ej⟩ := List.mem_map.mp m
    obtain ⟨hj, pj⟩ := List.mem_filter.mp hj
    have := inj j q.1 pj hp ej
    subst this
    rw [List.map_take] at hj
    exact take_map_nd nd (i := i) (j := q.1) (by rw [List.getElem?_map, hi]; rfl) hj
  rw [put_keysV (s := q.2), put_valsV, putG_new nn, e]
  exact ⟨rfl, rfl⟩
theorem step_N {gn : List Int} {f : Int → Int} {p : Int → Bool} (nd : gn.Nodup) (inj : ∀ i j, p i = true → p j = true → f i = f j → i = j) {i : Nat} {j : Int} (hi : gn[i]? = some j) (hp : p j = true) :
    putKs (keysN (((gn.take i).filter p).map f)) (.inl (f j)) = keysN (((gn.take (i + 1)).filter p).map f) ∧ putDs (keysN (((gn.take i).filter p).map f)) (valsN (((gn.take i).filter p).map f)) (.inl (f j)) (.bl true) = valsN (((gn.take (i + 1)).filter p).map f) := by
  have e : ((gn.take (i + 1)).filter p).map f = ((gn.take i).filter p).map f ++ [f j] := by
    rw [List.take_succ, hi, List.filter_append, List.map_append]
    simp [hp]
  have nn : ¬ f j ∈ ((gn.take i).filter p).map f := by
    intro m
    obtain ⟨j', hj, ej⟩ := List.mem_map.mp m
    obtain ⟨hj, pj⟩ := List.mem_filter.mp hj
    have := inj j' j pj hp ej
    subst this
    exact take_map_nd nd hi hj
  rw [put_keysN, put_valsN, putN_new nn, e]
  exact ⟨rfl, rfl⟩
theorem skip_V {gv : List (Int × Int)} {p : Int → Bool} {i : Nat} {q : Int × Int} (hi : gv[i]? = some q) (hp : p q.1 = false) : (gv.take (i + 1)).filter (fun q => p q.1) = (gv.take i).filter fun q => p q.1 := by
  rw [List.take_succ, hi, List.filter_append]
  simp [hp]
theorem skip_N {gn : List Int} {p : Int → Bool} {i : Nat} {j : Int} (hi : gn[i]? = some j) (hp : p j = false) : (gn.take (i + 1)).filter p = (gn.take i).filter p := by
  rw [List.take_succ, hi, List.filter_append]
  simp [hp]
theorem few_takeV {z : Sz} (o : z.Ok) (i : Nat) (p : Int × Int → Bool) (f : Int × Int → Int × Int) : (keysV (((z.gv.take i).filter p).map f)).length < sizeLine := by
  have h1 := List.length_filter_le p (z.gv.take i)
  have h2 := List.length_take_le i z.gv
  have h3 := o.fewV
  have h4 := sizeLine_eq
  rw [lenKV', List.length_map, List.length_map]
  rw [List.length_map] at h3
  rw [List.length_take] at h1
  omega
theorem few_takeN {z : Sz} (o : z.Ok) (i : Nat) (p : Int → Bool) (f : Int → Int) : (keysN (((z.gn.take i).filter p).map f)).length < sizeLine := by
  have h1 := List.length_filter_le p (z.gn.take i)
  have h3 := o.fewN
  have h4 := sizeLine_eq
  rw [lenKN', List.length_map]
  rw [List.length_take] at h1
  omega
theorem filt_all {α : Type} (l : List α) : l.filter (fun _ => true) = l := List.filter_eq_self.mpr fun _ _ => rfl
/-! ### the defs -/
def FLookPut (cA cI cM : Addr) : DF := fun ds m Q E => ∃ p k many z, ds = [.ref p, .int k, .int many] ∧ SzAt cA m p z ∧ (k < 0 ∨ k > z.n → E (.ref cI) [] m) ∧ (0 ≤ k → k ≤ z.n → many < 1 ∨ many > 1000 → E (.ref cM) [] m) ∧ (0 ≤ k → k ≤ z.n → 1 ≤ many → many ≤ 1000 → Q .non m)
def FLookStretch (cA cI cM : Addr) : DF := fun ds m Q E => ∃ p k many z, ds = [.ref p, .int k, .int many] ∧ SzAt cA m p z ∧ (k < 0 ∨ k ≥ z.n → E (.ref cI) [] m) ∧ (0 ≤ k → k < z.n → many < 1 ∨ k + many > z.n → E (.ref cM) [] m) ∧ (0 ≤ k → k < z.n → 1 ≤ many → k + many ≤ z.n → Q .non m)
def FLookCut (cA cI cM : Addr) : DF := fun ds m Q E => ∃ p k many z, ds = [.ref p, .int k, .int many] ∧ SzAt cA m p z ∧ (k < 0 ∨ k ≥ z.n → E (.ref cI) [] m) ∧ (0 ≤ k → k < z.n → many < 1 ∨ k + many > z.n ∨ many = z.n → E (.ref cM) [] m) ∧ (0 ≤ k → k < z.n → 1 ≤ many → k + many ≤ z.n → many < z.n → Q .non m)
def FPut (cA cI cM : Addr) : DF := fun ds m Q E => ∃ h p k many z, ds = [.ref p, .int k, .int many] ∧ Abs h m ∧ h p = some (bSz cA z) ∧ z.Ok ∧ (k < 0 ∨ k > z.n → E (.ref cI) [] m) ∧ (0 ≤ k → k ≤ z.n → many < 1 ∨ many > 1000 → E (.ref cM) [] m) ∧ (0 ≤ k → k ≤ z.n → 1 ≤ many → many ≤ 1000 → ∀ m', Abs (hput h p (bSz cA (z.put k many))) m' → Q .non m')
def FCut (cA cI cM : Addr) : DF := fun ds m Q E => ∃ h p k many z, ds = [.ref p, .int k, .int many] ∧ Abs h m ∧ h p = some (bSz cA z) ∧ z.Ok ∧ (k < 0 ∨ k ≥ z.n → E (.ref cI) [] m) ∧ (0 ≤ k → k < z.n → many < 1 ∨ k + many > z.n ∨ many = z.n → E (.ref cM) [] m) ∧ (0 ≤ k → k < z.n → 1 ≤ many → k + many ≤ z.n → many < z.n → ∀ m', Abs (hput h p (bSz cA (z.cut k many))) m' → Q .non m')
def FTwin (cA : Addr) : DF := fun ds m Q _ => ∃ h p z, ds = [.ref p] ∧ Abs h m ∧ h p = some (bSz cA z) ∧ z.Ok ∧ ∀ q m', h q = none → Abs (hput h q (bSz cA z)) m' → Q (.ref q) m'
theorem FLookPut.len {cA cI cM : Addr} : ∀ ds m Q E, FLookPut cA cI cM ds m Q E → ds.length = (["self", "number", "many"] : List Str).length := by rintro ds m Q E ⟨p, k, many, z, rfl, _⟩; rfl
theorem FLookStretch.len {cA cI cM : Addr} : ∀ ds m Q E, FLookStretch cA cI cM ds m Q E → ds.length = (["self", "number", "many"] : List Str).length := by rintro ds m Q E ⟨p, k, many, z, rfl, _⟩; rfl
theorem FLookCut.len {cA cI cM : Addr} : ∀ ds m Q E, FLookCut cA cI cM ds m Q E → ds.length = (["self", "number", "many"] : List Str).length := by rintro ds m Q E ⟨p, k, many, z, rfl, _⟩; rfl
theorem FPut.len {cA cI cM : Addr} : ∀ ds m Q E, FPut cA cI cM ds m Q E → ds.length = (["self", "number", "many"] : List Str).length := by rintro ds m Q E ⟨h, p, k, many, z, rfl, _⟩; rfl
theorem FCut.len {cA cI cM : Addr} : ∀ ds m Q E, FCut cA cI cM ds m Q E → ds.length = (["self", "number", "many"] : List Str).length := by rintro ds m Q E ⟨h, p, k, many, z, rfl, _⟩; rfl
theorem FTwin.len {cA : Addr} : ∀ ds m Q E, FTwin cA ds m Q E → ds.length = (["self"] : List Str).length := by rintro ds m Q E ⟨h, p, z, rfl, _⟩; rfl
end G

/-! Rows of sizes by plain lists: one pair for each thing. -/
namespace G
open PySem PySem.Spec PyProof.Rows L2
abbrev Rw := Int × Bool
def rowD (r : Rw) : D := .tup [.int r.1, .bl r.2]
namespace Sz
def rows (z : Sz) : List Rw := (List.range z.n.toNat).map fun i : Nat => (z.own (i : Int), z.hid (i : Int))
theorem rows_len (z : Sz) : z.rows.length = z.n.toNat := by unfold rows; rw [List.length_map, List.length_range]
theorem rows_get {z : Sz} {i : Nat} (h : (i : Int) < z.n) : z.rows[i]? = some (z.own i, z.hid i) := by
  unfold rows
  rw [List.getElem?_map, List.getElem?_range (by omega)]
  rfl
theorem rows_ext {l : List Rw} {z : Sz} (hl : l.length = z.n.toNat) (h : ∀ i : Nat, (i : Int) < z.n → l[i]? = some (z.own i, z.hid i)) : l = z.rows := by
  refine List.ext_getElem? fun i => ?_
  by_cases hi : (i : Int) < z.n
  · rw [h i hi, rows_get hi]
  · rw [List.getElem?_eq_none (by omega), List.getElem?_eq_none (by rw [rows_len]; omega)]
/-- what is told of a thing by its entry -/
theorem own_in {z : Sz} (nd : (z.gv.map (·.1)).Nodup) {k v : Int} (h : (k, v) ∈ z.gv) : z.own k = v := by unfold own; rw [mem_lookup nd h]; rfl
theorem own_no {z : Sz} {k : Int} (h : ∀ v, ¬ (k, v) ∈ z.gv) : z.own k = z.c := by
  unfold own
  cases e : z.gv.lookup k with
  | none => rfl
  | some v => exact absurd (lookup_mem e) (h v)
theorem own_eq {z y : Sz} (nz : (z.gv.map (·.1)).Nodup) (ny : (y.gv.map (·.1)).Nodup) (hc : z.c = y.c) {i j : Int} (h : ∀ v, (i, v) ∈ z.gv ↔ (j, v) ∈ y.gv) : z.own i = y.own j := by
  by_cases e : ∃ v, (i, v) ∈ z.gv
  · obtain ⟨v, hv⟩ := e
    rw [own_in nz hv, own_in ny ((h v).1 hv)]
  · rw [own_no (z := z) fun v hv => e ⟨v, hv⟩, own_no (z := y) fun v hv => e ⟨v, (h v).2 hv⟩, hc]
theorem hid_eq {z y : Sz} {i j : Int} (h : i ∈ z.gn ↔ j ∈ y.gn) : z.hid i = y.hid j := by unfold hid; rw [Bool.eq_iff_iff]; simp [h]
theorem upBy_lo {k m j : Int} (h : j < k) : upBy k m j = j := by unfold upBy; rw [if_neg (by omega)]; omega
theorem upBy_hi {k m j : Int} (h : k ≤ j) : upBy k m j = j + m := by unfold upBy; rw [if_pos (by omega)]; omega
theorem put_gv {z : Sz} {k m i v : Int} (hm : 1 ≤ m) : (i, v) ∈ (z.put k m).gv ↔ (i < k ∧ (i, v) ∈ z.gv) ∨ (k + m ≤ i ∧ (i - m, v) ∈ z.gv) := by
  show (i, v) ∈ z.gv.map _ ↔ _
  rw [List.mem_map]
  constructor
  · rintro ⟨⟨j, u⟩, hj, e⟩
    cases e
    by_cases h : j < k
    · rw [upBy_lo h]; exact .inl ⟨h, hj⟩
    · rw [upBy_hi (by omega)]; exact .inr ⟨by omega, by rw [show j + m - m = j from by omega]; exact hj⟩
  · rintro (⟨h, hj⟩ | ⟨h, hj⟩)
    · exact ⟨(i, v), hj, by rw [upBy_lo h]⟩
    · exact ⟨(i - m, v), hj, by rw [upBy_hi (by show k ≤ i - m; omega)]; rw [show i - m + m = i from by omega]⟩
theorem put_gn {z : Sz} {k m i : Int} (hm : 1 ≤ m) : i ∈ (z.put k m).gn ↔ (i < k ∧ i ∈ z.gn) ∨ (k + m ≤ i ∧ i - m ∈ z.gn) := by
  show i ∈ z.gn.map _ ↔ _
  rw [List.mem_map]
  constructor
  · rintro ⟨j, hj, rfl⟩
    by_cases h : j < k
    · rw [upBy_lo h]; exact .inl ⟨h, hj⟩
    · rw [upBy_hi (by omega)]; exact .inr ⟨by omega, by rw [show j + m - m = j from by omega]; exact hj⟩
  · rintro (⟨h, hj⟩ | ⟨h, hj⟩)
    · exact ⟨i, hj, by rw [upBy_lo h]⟩
    · exact ⟨i - m, hj, by rw [upBy_hi (by omega)]; omega⟩
theorem downBy_lo {k m j : Int} (h : j < k + m) : downBy k m j = j := by unfold downBy; rw [if_neg (by omega)]; omega
theorem downBy_hi {k m j : Int} (h : k + m ≤ j) : downBy k m j = j - m := by unfold downBy; rw [if_pos (by omega)]; omega
theorem cut_gv {z : Sz} {k m i v : Int} (hm : 1 ≤ m) : (i, v) ∈ (z.cut k m).gv ↔ (i < k ∧ (i, v) ∈ z.gv) ∨ (k ≤ i ∧ (i + m, v) ∈ z.gv) := by
  show (i, v) ∈ (z.gv.filter _).map _ ↔ _
  rw [List.mem_map]
  constructor
  · rintro ⟨⟨j, u⟩, hj, e⟩
    cases e
    obtain ⟨hj, hs⟩ := List.mem_filter.mp hj
    have hs : j < k ∨ j ≥ k + m := of_decide_eq_true hs
    rcases hs with h | h
    · rw [downBy_lo (by omega)]; exact .inl ⟨h, hj⟩
    · rw [downBy_hi h]; exact .inr ⟨by omega, by rw [show j - m + m = j from by omega]; exact hj⟩
  · rintro (⟨h, hj⟩ | ⟨h, hj⟩)
    · exact ⟨(i, v), List.mem_filter.mpr ⟨hj, decide_eq_true (.inl h)⟩, by rw [downBy_lo (by show i < k + m; omega)]⟩
    · exact ⟨(i + m, v), List.mem_filter.mpr ⟨hj, decide_eq_true (.inr (by show i + m ≥ k + m; omega))⟩, by rw [downBy_hi (by show k + m ≤ i + m; omega)]; rw [show i + m - m = i from by omega]⟩
theorem cut_gn {z : Sz} {k m i : Int} (hm : 1 ≤ m) : i ∈ (z.cut k m).gn ↔ (i < k ∧ i ∈ z.gn) ∨ (k ≤ i ∧ i + m ∈ z.gn) := by
  show i ∈ (z.gn.filter _).map _ ↔ _
  rw [List.mem_map]
  constructor
  · rintro ⟨j, hj, rfl⟩
    obtain ⟨hj, hs⟩ := List.mem_filter.mp hj
    have hs : j < k ∨ j ≥ k + m := of_decide_eq_true hs
    rcases hs with h | h
    · rw [downBy_lo (by omega)]; exact .inl ⟨h, hj⟩
    · rw [downBy_hi h]; exact .inr ⟨by omega, by rw [show j - m + m = j from by omega]; exact hj⟩
  · rintro (⟨h, hj⟩ | ⟨h, hj⟩)
    · exact ⟨i, List.mem_filter.mpr ⟨hj, decide_eq_true (.inl h)⟩, by rw [downBy_lo (by omega)]⟩
    · exact ⟨i + m, List.mem_filter.mpr ⟨hj, decide_eq_true (.inr (by omega))⟩, by rw [downBy_hi (by omega)]; omega⟩
theorem rows_put {z : Sz} (o : z.Ok) {k m : Int} (h0 : 0 ≤ k) (h1 : k ≤ z.n) (hm : 1 ≤ m) (h2 : z.n + m ≤ 1000000000) : (z.put k m).rows = z.rows.take k.toNat ++ List.replicate m.toNat (z.c, false) ++ z.rows.drop k.toNat := by
  have o2 := o.put h0 h1 hm h2
  have hl := z.rows_len
  have hn : (z.put k m).n = z.n + m := rfl
  refine (rows_ext ?_ fun i hi => ?_).symm
  · simp only [List.length_append, List.length_take, List.length_drop, List.length_replicate, hl, hn]; omega
  rw [hn] at hi
  by_cases c1 : (i : Int) < k
  · rw [List.append_assoc, List.getElem?_append_left (by rw [List.length_take, hl]; omega), List.getElem?_take_of_lt (by omega), rows_get (by omega)]
    congr 2
    · exact own_eq o.dv o2.dv rfl fun v => by rw [put_gv hm]; constructor
                                              · exact fun h => .inl ⟨c1, h⟩
                                              · rintro (⟨_, h⟩ | ⟨h, _⟩)
                                                · exact h
                                                · omega
    · refine hid_eq ?_
      rw [put_gn hm]; constructor
      · exact fun h => .inl ⟨c1, h⟩
      · rintro (⟨_, h⟩ | ⟨h, _⟩)
        · exact h
        · omega
  · by_cases c2 : (i : Int) < k + m
    · rw [List.getElem?_append_left (by simp only [List.length_append, List.length_take, List.length_replicate, hl]; omega), List.getElem?_append_right (by rw [List.length_take, hl]; omega), List.getElem?_replicate, if_pos (by rw [List.length_take, hl]; omega)]
      have e1 : (z.put k m).own i = z.c := own_no (z := z.put k m) fun v hv => by
        rw [put_gv hm] at hv
        rcases hv with ⟨h, _⟩ | ⟨h, _⟩ <;> omega
      have e2 : (z.put k m).hid i = false := by
        unfold hid
        refine decide_eq_false fun hv => ?_
        rw [put_gn hm] at hv
        rcases hv with ⟨h, _⟩ | ⟨h, _⟩ <;> omega
      rw [e1, e2]
    · obtain ⟨j, hj⟩ : ∃ j : Nat, i = j + m.toNat := ⟨i - m.toNat, by omega⟩
      have hji : ((j : Nat) : Int) = (i : Int) - m := by omega
      rw [List.getElem?_append_right (by simp only [List.length_append, List.length_take, List.length_replicate, hl]; omega), List.getElem?_drop]
      rw [show k.toNat + (i - (z.rows.take k.toNat ++ List.replicate m.toNat (z.c, false)).length) = j from by simp only [List.length_append, List.length_take, List.length_replicate, hl]; omega]
      rw [rows_get (by omega)]
      congr 2
      · exact own_eq o.dv o2.dv rfl fun v => by
          rw [put_gv hm, hji]
          constructor
          · exact fun h => .inr ⟨by omega, h⟩
          · rintro (⟨h, _⟩ | ⟨_, h⟩)
            · omega
            · exact h
      · refine hid_eq ?_
        rw [put_gn hm, hji]
        constructor
        · exact fun h => .inr ⟨by omega, h⟩
        · rintro (⟨h, _⟩ | ⟨_, h⟩)
          · omega
          · exact h
theorem rows_cut {z : Sz} (o : z.Ok) {k m : Int} (h0 : 0 ≤ k) (hm : 1 ≤ m) (h2 : k + m ≤ z.n) (h3 : m < z.n) : (z.cut k m).rows = z.rows.take k.toNat ++ z.rows.drop (k + m).toNat := by
  have o2 := o.cut h0 hm h2 h3
  have hl := z.rows_len
  have hn : (z.cut k m).n = z.n - m := rfl
  refine (rows_ext ?_ fun i hi => ?_).symm
  · simp only [List.length_append, List.length_take, List.length_drop, hl, hn]; omega
  rw [hn] at hi
  by_cases c1 : (i : Int) < k
  · rw [List.getElem?_append_left (by rw [List.length_take, hl]; omega), List.getElem?_take_of_lt (by omega), rows_get (by omega)]
    congr 2
    · exact own_eq o.dv o2.dv rfl fun v => by rw [cut_gv hm]; constructor
                                              · exact fun h => .inl ⟨c1, h⟩
                                              · rintro (⟨_, h⟩ | ⟨h, _⟩)
                                                · exact h
                                                · omega
    · refine hid_eq ?_
      rw [cut_gn hm]; constructor
      · exact fun h => .inl ⟨c1, h⟩
      · rintro (⟨_, h⟩ | ⟨h, _⟩)
        · exact h
        · omega
  · obtain ⟨j, hj⟩ : ∃ j : Nat, j = i + m.toNat := ⟨_, rfl⟩
    have hji : ((j : Nat) : Int) = (i : Int) + m := by omega
    rw [List.getElem?_append_right (by rw [List.length_take, hl]; omega), List.getElem?_drop, List.length_take, hl]
    rw [show (k + m).toNat + (i - min k.toNat z.n.toNat) = j from by omega]
    rw [rows_get (by omega)]
    congr 2
    · exact own_eq o.dv o2.dv rfl fun v => by
        rw [cut_gv hm, hji]
        constructor
        · exact fun h => .inr ⟨by omega, h⟩
        · rintro (⟨h, _⟩ | ⟨_, h⟩)
          · omega
          · exact h
    · refine hid_eq ?_
      rw [cut_gn hm, hji]
      constructor
      · exact fun h => .inr ⟨by omega, h⟩
      · rintro (⟨h, _⟩ | ⟨_, h⟩)
        · omega
        · exact h
theorem give_rows {z : Sz} (o : z.Ok) {k s : Int} (o2 : (z.give k s).Ok) (h0 : 0 ≤ k) (h1 : k < z.n) : (z.give k s).rows = z.rows.set k.toNat (s, z.hid k) := by
  have hn : (z.give k s).n = z.n := by unfold give; split <;> rfl
  have hc : (z.give k s).c = z.c := by unfold give; split <;> rfl
  have hg : (z.give k s).gn = z.gn := by unfold give; split <;> rfl
  have mem : ∀ i v, (i, v) ∈ (z.give k s).gv ↔ ((i, v) = (k, s) ∧ s ≠ z.c) ∨ ((i, v) ∈ z.gv ∧ i ≠ k) := fun i v => by
    unfold give
    split
    · rename_i h; show _ ∈ dropG _ _ ↔ _; rw [mem_dropG]; simp [h]
    · rename_i h; show _ ∈ putG _ _ _ ↔ _; rw [mem_putG]; simp [h]
  refine (rows_ext (by rw [List.length_set, rows_len, hn]) fun i hi => ?_).symm
  rw [hn] at hi
  by_cases c : (i : Int) = k
  · have e : i = k.toNat := by omega
    rw [← e, List.getElem?_set_self (by rw [rows_len]; omega)]
    congr 2
    · by_cases hs : s = z.c
      · rw [own_no (z := z.give k s) fun v hv => ?_, hc, hs]
        rw [mem] at hv
        rcases hv with ⟨_, h⟩ | ⟨_, h⟩
        · exact h hs
        · exact h c
      · exact (own_in o2.dv ((mem _ _).2 (.inl ⟨by rw [c], hs⟩))).symm
    · unfold hid; rw [hg, c]
  · rw [List.getElem?_set_ne (by omega), rows_get hi]
    congr 2
    · exact own_eq o.dv o2.dv hc.symm fun v => by
        rw [mem]
        constructor
        · exact fun h => .inr ⟨h, c⟩
        · rintro (⟨h, _⟩ | ⟨h, _⟩)
          · cases h; exact absurd rfl c
          · exact h
    · unfold hid; rw [hg]
theorem hide_rows {z : Sz} {k : Int} (h0 : 0 ≤ k) (h1 : k < z.n) : (z.hide k).rows = z.rows.set k.toNat (z.own k, true) := by
  have hn : (z.hide k).n = z.n := rfl
  refine (rows_ext (by rw [List.length_set, rows_len, hn]) fun i hi => ?_).symm
  rw [hn] at hi
  have hh : ∀ j, (z.hide k).hid j = decide (j = k ∨ j ∈ z.gn) := fun j => by
    unfold hid
    refine decide_eq_decide.mpr ?_
    show j ∈ putN _ _ ↔ _
    rw [mem_putN]
    by_cases e : j = k <;> simp [e]
  have ho : ∀ j, (z.hide k).own j = z.own j := fun j => rfl
  by_cases c : (i : Int) = k
  · have e : i = k.toNat := by omega
    rw [← e, List.getElem?_set_self (by rw [rows_len]; omega), ho, hh, c]
    simp
  · rw [List.getElem?_set_ne (by omega), rows_get hi, ho, hh]
    unfold hid
    simp [c]
theorem not_full {z : Sz} (o : z.Ok) (h : z.n < 60) (k : Int) : ¬ z.full k := fun f => by
  have nd : z.odd.Nodup := z.inc_odd.imp fun e => Int.ne_of_lt e
  have := nodup_len z.odd ((List.range z.n.toNat).map fun i : Nat => (i : Int)) nd fun j hj => by
    obtain ⟨a, b⟩ := o.odd_in hj
    exact List.mem_map.mpr ⟨j.toNat, List.mem_range.mpr (by omega), by omega⟩
  rw [List.length_map, List.length_range] at this
  have := f.2
  omega
theorem give_own {z : Sz} {k s : Int} (o2 : (z.give k s).Ok) : (z.give k s).own k = s := by
  have hc : (z.give k s).c = z.c := by unfold give; split <;> rfl
  by_cases hs : s = z.c
  · rw [own_no (z := z.give k s) fun v hv => ?_, hc, hs]
    unfold give at hv
    rw [if_pos hs] at hv
    exact (mem_dropG.mp hv).2 rfl
  · refine own_in o2.dv ?_
    unfold give
    rw [if_neg hs]
    exact mem_putG.mpr (.inl rfl)
end Sz
/-! ### frames -/
def Fx (h h2 : HSt) (p : Addr) : Prop := ∀ q b, q ≠ p → h q = some b → h2 q = some b
theorem Fx.refl (h : HSt) (p : Addr) : Fx h h p := fun _ _ _ e => e
section
variable {h h2 : HSt} {p q r : Addr} {b : B} {m : Sto}
theorem Fx.put (f : Fx h h2 p) : Fx h (hput h2 p b) p := fun q c n e => by rw [hput_ne n]; exact f q c n e
theorem Fx.new (f : Fx h h2 p) (hr : h r = none) : Fx h (hput h2 r b) p := fun q c n e => by rw [hput_ne (fun w => by rw [w, hr] at e; cases e)]; exact f q c n e
theorem Abs.fx (A : Abs h2 m) (f : Fx h h2 p) (e : h2 p = some b) : Abs (hput h p b) m := A.sub fun q c w => by
  by_cases n : q = p
  · subst n; rw [hput_same] at w; rw [e]; exact w
  · rw [hput_ne n] at w; exact f q c n w
theorem Abs.sdel (A : Abs h m) (r : Addr) (hr : h r = Option.none) (o : O) (x : h2 = hput h r (bRaw o)) (A2 : Abs h2 m) : Abs h (G.sdel m r) := by
  obtain ⟨S, k1, k2⟩ := A2
  subst x
  refine ⟨S, fun q c e => ?_, fun q u c d n e1 e2 => ?_⟩
  · have nq : q ≠ r := fun w => by rw [w, hr] at e; cases e
    have e' : hput h r (bRaw o) q = some c := by rw [hput_ne nq]; exact e
    refine c.loc (k1 q c e') fun a sa => ?_
    have na : a ≠ r := fun w => k2 q r c (bRaw o) nq e' hput_same a sa (by rw [w]; exact (bRaw o).self (k1 r _ hput_same))
    exact sdel_ne na
  · have nq : q ≠ r := fun w => by rw [w, hr] at e1; cases e1
    have nu : u ≠ r := fun w => by rw [w, hr] at e2; cases e2
    exact k2 q u c d n (by rw [hput_ne nq]; exact e1) (by rw [hput_ne nu]; exact e2)
/-- an object by itself is forgotten -/
theorem Abs.free (A : Abs h2 m) {o : O} (hr : h2 r = some (bRaw o)) (k : ∀ q b, h q = some b → h2 q = some b) (hn : h r = Option.none) : Abs h (G.sdel m r) := by
  have A' : Abs (hput h r (bRaw o)) m := A.sub fun q c e => by
    by_cases n : q = r
    · subst n; rw [hput_same] at e; rw [hr]; exact e
    · rw [hput_ne n] at e; exact k q c e
  exact (A'.drop hn).sdel r hn o rfl A'
end
/-! ### lists by any number -/
section
variable {m : Sto} {Q : D → Sto → Prop}
theorem ixOi {p : Addr} {ds : List D} {d : D} {i : Int} (h0 : 0 ≤ i) (hm : m p = some (.lst ds)) (h : ds[i.toNat]? = some d) (q : Q d m) : ixD (.ref p) (.int i) m Q := by
  obtain ⟨k, rfl⟩ : ∃ k : Nat, i = k := ⟨i.toNat, by omega⟩
  exact ixO k hm (by simpa using h) q
theorem set_i {p : Addr} {ds : List D} {d : D} {i : Int} {k : Sto → Prop} (h0 : 0 ≤ i) (hm : m p = some (.lst ds)) (h1 : i < ds.length) (q : k (sput m p (.lst (ds.set i.toNat d)))) : setD (.ref p) (.int i) d m k := by
  obtain ⟨j, rfl⟩ : ∃ j : Nat, i = j := ⟨i.toNat, by omega⟩
  exact set_at j hm (by omega) (by simpa using q)
theorem cut_to {xs : List D} {i : Int} (h0 : 0 ≤ i) : cutL xs none (some i) = xs.take i.toNat := by
  obtain ⟨j, rfl⟩ : ∃ j : Nat, i = j := ⟨i.toNat, by omega⟩
  rw [cutL_to]; simp
theorem cut_from {xs : List D} {i : Int} (h0 : 0 ≤ i) : cutL xs (some i) none = xs.drop i.toNat := by
  obtain ⟨j, rfl⟩ : ∃ j : Nat, i = j := ⟨i.toNat, by omega⟩
  rw [cutL_from]; simp
def repL : R2D := fun x y m Q => ∃ l k, x = .lst l ∧ y = .int k ∧ -(2 ^ 62) ≤ k ∧ k < 2 ^ 62 ∧ l.length * k.toNat ≤ sizeLine ∧ Q (.lst (List.replicate k.toNat l).flatten) m
theorem rep_flat {K : PySem.W.Frag} {H : Hp} {xs : List V} {l : List D} (r : RepL K H xs l) : ∀ n : Nat, RepL K H (List.replicate n xs).flatten (List.replicate n l).flatten
  | 0 => .nil
  | n + 1 => by
    rw [List.replicate_succ, List.replicate_succ, List.flatten_cons, List.flatten_cons]
    exact r.append (rep_flat r n)
theorem od_repL {C : Ct} : OpD C (binaryOp .Mult) repL := by
  rintro X f fr H m T x y d e Q hh tx ty ⟨l, k, rfl, rfl, h1, h2, hz, q⟩
  have ry := hh.rep ty
  cases ry
  obtain ⟨a, xs, rfl, hu, hl, h4⟩ := hh.itemsL tx
  refine wb_of op_rep ⟨a, k, xs, rfl, rfl, hu, by omega, by omega, by rw [hl]; exact hz, fun p hp => dK.le (dk_lst h4 hp (fun Hi kk => rep_flat (PlL.rep (T := T) hl fun v d z => kk v d z) k.toNat) q) PlL.le⟩
end
end G

/-! Putting in and cutting out, tried. -/
namespace G
open PySem PySem.Spec PyProof.Rows L2
namespace Sz
def dueP (z : Sz) (way k m : Int) : Option Str := if ¬ (0 ≤ k ∧ k < z.n + 1 - way) then some (Str.ofString "NoIndex") else if m < 1 ∨ (way = 0 ∧ m > 1000) ∨ (way = 1 ∧ (k + m > z.n ∨ m = z.n)) then some (Str.ofString "BadMany") else none
def doneP (z : Sz) (way k m : Int) : Sz := if z.dueP way k m = none then (if way = 0 then z.put k m else z.cut k m) else z
section
variable {z : Sz} {way k m : Int} {x : Str}
theorem dueP_ni (h : ¬ (0 ≤ k ∧ k < z.n + 1 - way)) : z.dueP way k m = some (Str.ofString "NoIndex") := if_pos h
theorem dueP_bm (h : 0 ≤ k ∧ k < z.n + 1 - way) (h2 : m < 1 ∨ (way = 0 ∧ m > 1000) ∨ (way = 1 ∧ (k + m > z.n ∨ m = z.n))) : z.dueP way k m = some (Str.ofString "BadMany") := by unfold dueP; rw [if_neg (fun w => w h), if_pos h2]
theorem dueP_no (h : 0 ≤ k ∧ k < z.n + 1 - way) (h2 : ¬ (m < 1 ∨ (way = 0 ∧ m > 1000) ∨ (way = 1 ∧ (k + m > z.n ∨ m = z.n)))) : z.dueP way k m = none := by unfold dueP; rw [if_neg (fun w => w h), if_neg h2]
theorem doneP_ref (e : z.dueP way k m = some x) : z.doneP way k m = z := by unfold doneP; rw [if_neg (by rw [e]; simp)]
theorem doneP_no (e : z.dueP way k m = none) : z.doneP way k m = if way = 0 then z.put k m else z.cut k m := by unfold doneP; rw [if_pos e]
theorem dueP_none (e : z.dueP way k m = none) : (0 ≤ k ∧ k < z.n + 1 - way) ∧ ¬ (m < 1 ∨ (way = 0 ∧ m > 1000) ∨ (way = 1 ∧ (k + m > z.n ∨ m = z.n))) := by
  unfold dueP at e
  split at e
  · cases e
  · split at e
    · cases e
    · rename_i h1 h2
      exact ⟨Classical.not_not.mp h1, h2⟩
theorem Ok.doneP (o : z.Ok) (hw0 : 0 ≤ way) (hw : way < 2) (hn : z.n ≤ 900000000) : (z.doneP way k m).Ok := by
  by_cases e : z.dueP way k m = none
  · rw [doneP_no e]
    obtain ⟨h1, h2⟩ := dueP_none e
    split
    · exact o.put h1.1 (by omega) (by omega) (by omega)
    · exact o.cut h1.1 (by omega) (by omega) (by omega)
  · unfold Sz.doneP
    rw [if_neg e]
    exact o
theorem doneP_n (hw0 : 0 ≤ way) (hw : way < 2) (hn : 1 ≤ z.n) : (z.doneP way k m).n ≤ z.n + 1000 := by
  by_cases e : z.dueP way k m = none
  · rw [doneP_no e]
    obtain ⟨h1, h2⟩ := dueP_none e
    split
    · show z.n + m ≤ _; omega
    · show z.n - m ≤ _; omega
  · unfold Sz.doneP
    rw [if_neg e]
    omega
theorem doneP_c : (z.doneP way k m).c = z.c := by unfold Sz.doneP; split <;> (first | rfl | (split <;> rfl))
end
end Sz
theorem okD_str {n : Nat} (s : String) : okD n (.str (Str.ofString s)) = true := by
  cases n <;> exact strOk_of s
theorem okD_dueP {n : Nat} (z : Sz) (way k s : Int) : okD n (dueD (z.dueP way k s)) = true := by
  unfold Sz.dueP
  split
  · exact okD_str "NoIndex"
  · split
    · exact okD_str "BadMany"
    · cases n <;> rfl
def FTriedP (cA : Addr) : DF := fun ds m Q _ => ∃ h p way k s z, ds = [.ref p, .int way, .int k, .int s] ∧ Abs h m ∧ h p = some (bSz cA z) ∧ z.Ok ∧ 0 ≤ way ∧ way < 2 ∧ ∀ m', Abs (hput h p (bSz cA (z.doneP way k s))) m' → Q (dueD (z.dueP way k s)) m'
theorem FTriedP.len {cA : Addr} : ∀ ds m Q E, FTriedP cA ds m Q E → ds.length = (["_law_sizes", "_law_way", "_law_k", "_law_many"] : List Str).length := by rintro ds m Q E ⟨h, p, way, k, s, z, rfl, _⟩; rfl
def FRowsOf (cA : Addr) : DF := fun ds m Q _ => ∃ h pd ps n c, ds = [.ref pd, .ref ps, .int n, .int c] ∧ Abs h m ∧ h pd = some bDraw ∧ h ps = some (bSz cA ⟨n, c, [], []⟩) ∧ pd ≠ ps ∧ 1 ≤ n ∧ n ≤ 12 ∧ 1 ≤ c ∧ c ≤ 9 ∧ ∀ z m', z.Ok → z.n = n → z.c = c → Abs (hput h ps (bSz cA z)) m' → Q (.lst (z.rows.map rowD)) m'
theorem FRowsOf.len {cA : Addr} : ∀ ds m Q E, FRowsOf cA ds m Q E → ds.length = (["_law_draw", "_law_sizes", "_law_many", "_law_usual"] : List Str).length := by rintro ds m Q E ⟨h, pd, ps, n, c, rfl, _⟩; rfl
theorem rows_new {n c : Int} : (⟨n, c, [], []⟩ : Sz).rows = List.replicate n.toNat (c, false) := by
  refine List.ext_getElem? fun i => ?_
  by_cases hi : (i : Int) < n
  · rw [Sz.rows_get (z := ⟨n, c, [], []⟩) hi, List.getElem?_replicate, if_pos (by omega)]; rfl
  · rw [List.getElem?_eq_none (by rw [Sz.rows_len]; show n.toNat ≤ i; omega), List.getElem?_eq_none (by rw [List.length_replicate]; omega)]
theorem rowsD_len (z : Sz) : (z.rows.map rowD).length = z.n.toNat := by rw [List.length_map, Sz.rows_len]
theorem rowsD_get {z : Sz} {k : Int} (h0 : 0 ≤ k) (h1 : k < z.n) : (z.rows.map rowD)[k.toNat]? = some (.tup [.int (z.own k), .bl (z.hid k)]) := by
  obtain ⟨i, rfl⟩ : ∃ i : Nat, k = i := ⟨k.toNat, by omega⟩
  rw [List.getElem?_map, Int.toNat_natCast, Sz.rows_get h1]; rfl
theorem rowsD_give {z : Sz} (o : z.Ok) {k s : Int} (o2 : (z.give k s).Ok) (h0 : 0 ≤ k) (h1 : k < z.n) : (z.rows.map rowD).set k.toNat (.tup [.int s, .bl (z.hid k)]) = (z.give k s).rows.map rowD := by
  rw [Sz.give_rows o o2 h0 h1, List.map_set]; rfl
theorem rowsD_hide {z : Sz} {k s : Int} (h0 : 0 ≤ k) (h1 : k < z.n) (e : z.own k = s) : (z.rows.map rowD).set k.toNat (.tup [.int s, .bl true]) = (z.hide k).rows.map rowD := by
  rw [Sz.hide_rows h0 h1, List.map_set, e]; rfl
theorem rowsD_put {z : Sz} (o : z.Ok) {k m : Int} (h0 : 0 ≤ k) (h1 : k ≤ z.n) (hm : 1 ≤ m) (h2 : z.n + m ≤ 1000000000) : (z.rows.map rowD).take k.toNat ++ (List.replicate m.toNat [D.tup [.int z.c, .bl false]]).flatten ++ (z.rows.map rowD).drop k.toNat = (z.put k m).rows.map rowD := by
  rw [Sz.rows_put o h0 h1 hm h2, List.map_append, List.map_append, List.map_take, List.map_drop, List.map_replicate]
  congr 2
  have : ∀ n : Nat, (List.replicate n [D.tup [.int z.c, .bl false]]).flatten = List.replicate n (rowD (z.c, false)) := fun n => by
    induction n with
    | zero => rfl
    | succ n ih => rw [List.replicate_succ, List.flatten_cons, ih, List.replicate_succ]; rfl
  exact this _
theorem rowsD_cut {z : Sz} (o : z.Ok) {k m : Int} (h0 : 0 ≤ k) (hm : 1 ≤ m) (h2 : k + m ≤ z.n) (h3 : m < z.n) : (z.rows.map rowD).take k.toNat ++ (z.rows.map rowD).drop (k + m).toNat = (z.cut k m).rows.map rowD := by
  rw [Sz.rows_cut o h0 hm h2 h3, List.map_append, List.map_take, List.map_drop]
theorem okD_rows (z : Sz) : okD 2 (.lst (z.rows.map rowD)) = true := by
  show okDL 1 (z.rows.map rowD) = true
  exact okDL_map fun r => by simp [rowD, okD, okDL]
section
variable {C : Ct} {W : DW} {st : Stmt} {sts : List Stmt} {δ : Sl} {m : Sto} {D : DEn}
/-- a statement that sets one slot, whatever way it goes -/
theorem dss_cutI (i : Nat) (d : G.D) (h : DS C W st δ m { D with nx := fun δ' m' => δ' = δ.set i (some d) ∧ m' = m }) (k : DSs C W sts (δ.set i (some d)) m D) : DSs C W (st :: sts) δ m D :=
  dss_cut (fun δ' m' => δ' = δ.set i (some d) ∧ m' = m) h fun δ' m' ⟨e1, e2⟩ => by subst e1 e2; exact k
end
theorem Sz.give_n {z : Sz} {k s : Int} : (z.give k s).n = z.n := by unfold Sz.give; split <;> rfl
theorem Sz.give_c {z : Sz} {k s : Int} : (z.give k s).c = z.c := by unfold Sz.give; split <;> rfl
theorem Fx.sub {h h2 : HSt} {p : Addr} {b : B} (f : Fx h h2 p) (e : h2 p = some b) : ∀ q c, hput h p b q = some c → h2 q = some c := fun q c w => by
  by_cases n : q = p
  · subst n; rw [hput_same] at w; rw [e]; exact w
  · rw [hput_ne n] at w; exact f q c n w
theorem mul_neI {x y : Int} (q : (!decide (x = y)) = false) : x = y := by simpa using q
theorem Sz.dueP_in {z : Sz} {way k m : Int} (h : 0 ≤ k ∧ k < z.n + 1 - way) : z.dueP way k m = if m < 1 ∨ (way = 0 ∧ m > 1000) ∨ (way = 1 ∧ (k + m > z.n ∨ m = z.n)) then some (Str.ofString "BadMany") else none := if_neg fun w => w h
theorem Sz.doneP_if {z : Sz} {way k m : Int} (hw0 : 0 ≤ way) (hw : way < 2) (h : ¬ (z.dueP way k m = none ∧ way = 1)) : (if z.dueP way k m = none ∧ way = 0 then z.put k m else z) = z.doneP way k m := by
  unfold Sz.doneP
  by_cases e : z.dueP way k m = none
  · have : way = 0 := by
      by_cases w : way = 0
      · exact w
      · exact absurd ⟨e, by omega⟩ h
    rw [if_pos ⟨e, this⟩, if_pos e, if_pos this]
  · rw [if_neg (fun w => e w.1), if_neg e]
theorem flat_len {x : D} : ∀ n : Nat, ((List.replicate n [x]).flatten).length = n
  | 0 => rfl
  | n + 1 => by rw [List.replicate_succ, List.flatten_cons, List.length_append, flat_len n, List.length_singleton]; omega
theorem rowsD_put' {z : Sz} (o : z.Ok) {k m c : Int} (hc : z.c = c) (h0 : 0 ≤ k) (h1 : k ≤ z.n) (hm : 1 ≤ m) (h2 : z.n + m ≤ 1000000000) : (z.rows.map rowD).take k.toNat ++ (List.replicate m.toNat [D.tup [.int c, .bl false]]).flatten ++ (z.rows.map rowD).drop k.toNat = (z.put k m).rows.map rowD := by
  subst hc; exact rowsD_put o h0 h1 hm h2
theorem rowsD_take {z : Sz} {i : Nat} (h : (i : Int) < z.n) : (z.rows.take (i + 1)).map rowD = (z.rows.take i).map rowD ++ [.tup [.int (z.own i), .bl (z.hid i)]] := by
  rw [List.take_succ, Sz.rows_get h, List.map_append]; rfl
end G

/-! The law's own putting in and cutting out. -/
namespace G
open PySem PySem.Spec PyProof.Rows L2
def goOn (put : Bool) (at_ many k : Int) : Option Int := if put = true then some (k + many * (if k ≥ at_ then 1 else 0)) else if at_ ≤ k ∧ k < at_ + many then none else some (k - many * (if k ≥ at_ then 1 else 0))
def optI : Option Int → D
  | none => .non
  | some k => .int k
def wayS (put : Bool) : Str := if put = true then Str.ofString "put" else Str.ofString "cut"
/-- a dict's pairs -/
abbrev Pz := List (Int × D)
def pK (l : Pz) : List Key := l.map fun q => (Sum.inl q.1 : Key)
def pV (l : Pz) : List D := l.map (·.2)
def onP (put : Bool) (at_ many : Int) (l : Pz) : Pz := l.filterMap fun q => (goOn put at_ many q.1).map fun k => (k, q.2)
def pzV (gv : List (Int × Int)) : Pz := gv.map fun q => (q.1, .int q.2)
def pzN (gn : List Int) : Pz := gn.map fun k => (k, .bl true)
theorem pK_V (gv : List (Int × Int)) : pK (pzV gv) = keysV gv := by unfold pK pzV keysV; rw [List.map_map, List.map_map]; rfl
theorem pV_V (gv : List (Int × Int)) : pV (pzV gv) = valsV gv := by unfold pV pzV valsV; rw [List.map_map]; rfl
theorem pK_N (gn : List Int) : pK (pzN gn) = keysN gn := by unfold pK pzN keysN; rw [List.map_map]; rfl
theorem pV_N (gn : List Int) : pV (pzN gn) = valsN gn := by unfold pV pzN valsN; rw [List.map_map]; rfl
theorem pLen (l : Pz) : (pK l).length = (pV l).length := by simp [pK, pV]
theorem put_new {l : Pz} {k : Int} {d : D} (h : ¬ k ∈ l.map (·.1)) : putKs (pK l) (.inl k) = pK (l ++ [(k, d)]) ∧ putDs (pK l) (pV l) (.inl k) d = pV (l ++ [(k, d)]) := by
  have e : hasK (pK l) (.inl k) = false := by
    rw [show hasK (pK l) (.inl k) = decide (k ∈ l.map (·.1)) from hasK_map' l (·.1) k]
    simpa using h
  unfold putKs putDs
  rw [e, if_neg Bool.false_ne_true, if_neg Bool.false_ne_true]
  constructor
  · unfold pK; rw [List.map_append]; rfl
  · unfold pV; rw [List.map_append]; rfl
theorem valP : ∀ {l : Pz} {k : Int} {d : D}, (l.map (·.1)).Nodup → (k, d) ∈ l → valD (pK l) (pV l) (.inl k) = some d
  | [], _, _, _, h => by cases h
  | (j, u) :: l, k, d, nd, h => by
    rw [List.map_cons, List.nodup_cons] at nd
    show (if (Sum.inl j : Key) = Sum.inl k then some u else valD (pK l) (pV l) (.inl k)) = some d
    rcases List.mem_cons.mp h with w | w
    · cases w; rw [if_pos rfl]
    · have : j ≠ k := fun e => nd.1 (e ▸ List.mem_map.mpr ⟨(k, d), w, rfl⟩)
      rw [if_neg (fun e => this (Sum.inl.inj e))]
      exact valP nd.2 w
theorem goOn_inj {put : Bool} {a b i j x : Int} (hb : 1 ≤ b) (h1 : goOn put a b i = some x) (h2 : goOn put a b j = some x) : i = j := by
  unfold goOn at h1 h2
  cases put with
  | true =>
    simp only [if_true, Option.some.injEq] at h1 h2
    split at h1 <;> split at h2 <;> omega
  | false =>
    simp only [Bool.false_eq_true, if_false] at h1 h2
    split at h1
    · cases h1
    · split at h2
      · cases h2
      · simp only [Option.some.injEq] at h1 h2
        split at h1 <;> split at h2 <;> omega
/-- one turn over a dict's keys -/
theorem onP_some {put : Bool} {a b : Int} {l : Pz} {i : Nat} {q : Int × D} {k : Int} (nd : (l.map (·.1)).Nodup) (hb : 1 ≤ b) (hi : l[i]? = some q) (hg : goOn put a b q.1 = some k) :
    onP put a b (l.take (i + 1)) = onP put a b (l.take i) ++ [(k, q.2)] ∧ ¬ k ∈ (onP put a b (l.take i)).map (·.1) := by
  constructor
  · unfold onP
    rw [List.take_succ, hi, List.filterMap_append]
    simp [hg]
  · intro m
    obtain ⟨r, hr, e⟩ := List.mem_map.mp m
    obtain ⟨s, hs, e2⟩ := List.mem_filterMap.mp hr
    obtain ⟨x, hx, rfl⟩ := Option.map_eq_some_iff.mp e2
    have e : x = k := e
    subst e
    have eq := goOn_inj hb hx hg
    have nd2 : ((l.map (·.1)).take i).Nodup := nd.sublist (List.take_sublist _ _)
    have hj : (l.map (·.1))[i]? = some q.1 := by rw [List.getElem?_map, hi]; rfl
    have hm : q.1 ∈ (l.map (·.1)).take i := by rw [← List.map_take, ← eq]; exact List.mem_map.mpr ⟨s, hs, rfl⟩
    exact take_map_nd nd hj hm
theorem onP_none {put : Bool} {a b : Int} {l : Pz} {i : Nat} {q : Int × D} (hi : l[i]? = some q) (hg : goOn put a b q.1 = none) : onP put a b (l.take (i + 1)) = onP put a b (l.take i) := by
  unfold onP
  rw [List.take_succ, hi, List.filterMap_append]
  simp [hg]
theorem onP_len {put : Bool} {a b : Int} (l : Pz) : (onP put a b l).length ≤ l.length := List.length_filterMap_le _ _
theorem goOn_put {a b k : Int} : goOn true a b k = some (upBy a b k) := rfl
theorem goOn_cut {a b k : Int} (hb : 1 ≤ b) : goOn false a b k = if stays a b k = true then some (downBy a b k) else none := by
  unfold goOn stays downBy
  simp only [Bool.false_eq_true, if_false, decide_eq_true_eq]
  by_cases h : a ≤ k ∧ k < a + b
  · rw [if_pos h, if_neg (show ¬ (k < a ∨ k ≥ a + b) by omega)]
  · rw [if_neg h, if_pos (show k < a ∨ k ≥ a + b by omega)]
    congr 1
    by_cases h1 : k ≥ a + b
    · rw [if_pos h1, if_pos (show k ≥ a by omega)]
    · rw [if_neg h1, if_neg (show ¬ k ≥ a by omega)]
namespace Sz
def onZ (put : Bool) (z : Sz) (a b : Int) : Sz := if put = true then z.put a b else z.cut a b
end Sz
theorem onP_V {put : Bool} {a b : Int} (hb : 1 ≤ b) : ∀ gv : List (Int × Int), onP put a b (pzV gv) = pzV (if put = true then gv.map (fun q => (upBy a b q.1, q.2)) else (gv.filter fun q => stays a b q.1).map fun q => (downBy a b q.1, q.2))
  | [] => by cases put <;> rfl
  | q :: gv => by
    have ih := onP_V (put := put) (a := a) (b := b) hb gv
    unfold onP pzV at ih ⊢
    cases put with
    | true =>
      simp only [if_true] at ih ⊢
      rw [List.map_cons, List.filterMap_cons, goOn_put, Option.map_some, ih, List.map_cons, List.map_cons]
    | false =>
      simp only [Bool.false_eq_true, if_false] at ih ⊢
      rw [List.map_cons, List.filterMap_cons, goOn_cut hb]
      by_cases h : stays a b q.1 = true
      · rw [if_pos h, List.filter_cons_of_pos (p := fun q : Int × Int => stays a b q.1) h, Option.map_some, ih, List.map_cons, List.map_cons]
      · rw [if_neg h, List.filter_cons_of_neg (p := fun q : Int × Int => stays a b q.1) h, Option.map_none, ih]
theorem onP_N {put : Bool} {a b : Int} (hb : 1 ≤ b) : ∀ gn : List Int, onP put a b (pzN gn) = pzN (if put = true then gn.map (upBy a b) else (gn.filter (stays a b)).map (downBy a b))
  | [] => by cases put <;> rfl
  | k :: gn => by
    have ih := onP_N (put := put) (a := a) (b := b) hb gn
    unfold onP pzN at ih ⊢
    cases put with
    | true =>
      simp only [if_true] at ih ⊢
      rw [List.map_cons, List.filterMap_cons, goOn_put, Option.map_some, ih, List.map_cons, List.map_cons]
    | false =>
      simp only [Bool.false_eq_true, if_false] at ih ⊢
      rw [List.map_cons, List.filterMap_cons, goOn_cut hb]
      by_cases h : stays a b k = true
      · rw [if_pos h, List.filter_cons_of_pos h, Option.map_some, ih, List.map_cons, List.map_cons]
      · rw [if_neg h, List.filter_cons_of_neg h, Option.map_none, ih]
/-- the two dicts of a row, by number -/
def pzW (z : Sz) (i : Nat) : Pz := if i = 0 then pzV z.gv else pzN z.gn
def wordW (i : Nat) : Str := if i = 0 then Str.ofString "own" else Str.ofString "gone"
theorem pzW_nd {z : Sz} (o : z.Ok) (i : Nat) : ((pzW z i).map (·.1)).Nodup := by
  unfold pzW
  split
  · unfold pzV; rw [List.map_map]; exact o.dv
  · unfold pzN; rw [List.map_map]; show (z.gn.map id).Nodup; rw [List.map_id]; exact o.dn
theorem pzW_few {z : Sz} (o : z.Ok) (i : Nat) : (pzW z i).length < 64 := by
  unfold pzW
  split
  · unfold pzV; rw [List.length_map]; have := o.fewV; rwa [List.length_map] at this
  · unfold pzN; rw [List.length_map]; exact o.fewN
theorem zD_word {z : Sz} {i : Nat} (h : i < 2) : valD zK [.int z.n, .int z.c, .dic (keysV z.gv) (valsV z.gv), .dic (keysN z.gn) (valsN z.gn)] (.inr (wordW i)) = some (.dic (pK (pzW z i)) (pV (pzW z i))) := by
  match i, h with
  | 0, _ => show some (D.dic (keysV z.gv) (valsV z.gv)) = _; rw [show pzW z 0 = pzV z.gv from rfl, pK_V, pV_V]
  | 1, _ => show some (D.dic (keysN z.gn) (valsN z.gn)) = _; rw [show pzW z 1 = pzN z.gn from rfl, pK_N, pV_N]
theorem pz_get {l : Pz} {i : Nat} {d : D} (h : ((pK l).map kD)[i]? = some d) : ∃ q, l[i]? = some q ∧ d = .int q.1 := by
  unfold pK at h
  rw [List.map_map, List.getElem?_map] at h
  obtain ⟨j, hj, rfl⟩ := Option.map_eq_some_iff.mp h
  exact ⟨j, hj, rfl⟩
theorem pK_len (l : Pz) : ((pK l).map kD).length = l.length := by simp [pK]
/-- the row made anew: an object with two dicts -/
structure ZmA (m : Sto) (p b1 b2 : Addr) (n c : Int) (l1 l2 : Pz) : Prop where
  at_ : m p = some (.dic zK [.int n, .int c, .ref b1, .ref b2])
  d1 : m b1 = some (.dic (pK l1) (pV l1))
  d2 : m b2 = some (.dic (pK l2) (pV l2))
  n1 : p ≠ b1
  n2 : p ≠ b2
  n12 : b1 ≠ b2
def sto3 (m : Sto) (p b1 b2 : Addr) (n c : Int) (l1 l2 : Pz) : Sto := sput (sput (sput m b1 (.dic (pK l1) (pV l1))) b2 (.dic (pK l2) (pV l2))) p (.dic zK [.int n, .int c, .ref b1, .ref b2])
section
variable {m : Sto} {p b1 b2 : Addr} {n c : Int} {l1 l2 l : Pz}
theorem sto3_p : sto3 m p b1 b2 n c l1 l2 p = some (.dic zK [.int n, .int c, .ref b1, .ref b2]) := sput_same
theorem sto3_1 (n1 : p ≠ b1) (n12 : b1 ≠ b2) : sto3 m p b1 b2 n c l1 l2 b1 = some (.dic (pK l1) (pV l1)) := (sput_ne n1.symm).trans ((sput_ne n12).trans sput_same)
theorem sto3_2 (n2 : p ≠ b2) : sto3 m p b1 b2 n c l1 l2 b2 = some (.dic (pK l2) (pV l2)) := (sput_ne n2.symm).trans sput_same
theorem sto3_u1 (n1 : p ≠ b1) (n12 : b1 ≠ b2) : sput (sto3 m p b1 b2 n c l1 l2) b1 (.dic (pK l) (pV l)) = sto3 m p b1 b2 n c l l2 := by
  funext x
  unfold sto3
  by_cases e : x = b1
  · subst e; simp [sput, n1.symm, n12]
  · simp [sput, e]
theorem sto3_u2 (n2 : p ≠ b2) : sput (sto3 m p b1 b2 n c l1 l2) b2 (.dic (pK l) (pV l)) = sto3 m p b1 b2 n c l1 l := by
  funext x
  unfold sto3
  by_cases e : x = b2
  · subst e; simp [sput, n2.symm]
  · simp [sput, e]
theorem sto3_free (h0 : m p = none) (h1 : m b1 = none) (h2 : m b2 = none) {o o' : O} : sdel (sput (sdel (sput (sdel (sto3 m p b1 b2 n c l1 l2) b1) p o) b2) p o') p = m := by
  funext x
  unfold sto3
  by_cases e : x = p
  · subst e; simp [sdel, h0]
  · by_cases e1 : x = b1
    · subst e1
      by_cases e2 : x = b2
      · subst e2; simp [sdel, sput, e, h1]
      · simp [sdel, sput, e, e2, h1]
    · by_cases e2 : x = b2
      · subst e2; simp [sdel, sput, e, e1, h2]
      · simp [sdel, sput, e, e1, e2]
end
/-- the dict of a word, within the row made anew -/
def bW (b1 b2 : Addr) (i : Nat) : Addr := if i = 0 then b1 else b2
def lW (l1 l2 : Pz) (i : Nat) : Pz := if i = 0 then l1 else l2
theorem zM_word {n c : Int} {b1 b2 : Addr} {i : Nat} (h : i < 2) : valD zK [.int n, .int c, .ref b1, .ref b2] (.inr (wordW i)) = some (.ref (bW b1 b2 i)) := by
  match i, h with
  | 0, _ => rfl
  | 1, _ => rfl
/-! ### the defs -/
def FZM : DF := fun ds m Q _ => ∃ n c, ds = [.int n, .int c] ∧ ∀ p b1 b2, m p = none → m b1 = none → m b2 = none → p ≠ b1 → p ≠ b2 → b1 ≠ b2 → Q (.ref p) (sto3 m p b1 b2 n c [] [])
def FGoOn : DF := fun ds m Q _ => ∃ put at_ many k, ds = [.str (wayS put), .int at_, .int many, .int k] ∧ Q (optI (goOn put at_ many k)) m
def FZOn : DF := fun ds m Q _ => ∃ put at_ many z, ds = [zD z, .str (wayS put), .int at_, .int many] ∧ z.Ok ∧ 1 ≤ many ∧ Q (zD (z.onZ put at_ many)) m
def FZPut : DF := fun ds m Q _ => ∃ at_ many z, ds = [zD z, .int at_, .int many] ∧ z.Ok ∧ 1 ≤ many ∧ Q (zD (z.put at_ many)) m
def FZCut : DF := fun ds m Q _ => ∃ at_ many z, ds = [zD z, .int at_, .int many] ∧ z.Ok ∧ 1 ≤ many ∧ Q (zD (z.cut at_ many)) m
theorem FZM.len : ∀ ds m Q E, FZM ds m Q E → ds.length = (["_law_many", "_law_usual"] : List Str).length := by rintro ds m Q E ⟨n, c, rfl, _⟩; rfl
theorem FGoOn.len : ∀ ds m Q E, FGoOn ds m Q E → ds.length = (["_law_way", "_law_at", "_law_many", "_law_k"] : List Str).length := by rintro ds m Q E ⟨put, a, b, k, rfl, _⟩; rfl
theorem FZOn.len : ∀ ds m Q E, FZOn ds m Q E → ds.length = (["_law_z_here", "_law_way", "_law_at", "_law_many"] : List Str).length := by rintro ds m Q E ⟨put, a, b, z, rfl, _⟩; rfl
theorem FZPut.len : ∀ ds m Q E, FZPut ds m Q E → ds.length = (["_law_z_here", "_law_at", "_law_many"] : List Str).length := by rintro ds m Q E ⟨a, b, z, rfl, _⟩; rfl
theorem FZCut.len : ∀ ds m Q E, FZCut ds m Q E → ds.length = (["_law_z_here", "_law_at", "_law_many"] : List Str).length := by rintro ds m Q E ⟨a, b, z, rfl, _⟩; rfl
theorem wayS_put (put : Bool) : decide (wayS put = Str.ofString "put") = put := by cases put <;> decide
def upL (L : Nat → Pz) (i : Nat) (l : Pz) : Nat → Pz := fun j => if j = i then l else L j
def stW (m : Sto) (p b1 b2 : Addr) (n c : Int) (L : Nat → Pz) : Sto := sto3 m p b1 b2 n c (L 0) (L 1)
def Lt_ (put : Bool) (a b : Int) (z : Sz) (i : Nat) : Nat → Pz := fun j => if j < i then onP put a b (pzW z j) else []
theorem upL_i {L : Nat → Pz} {i : Nat} {l : Pz} : upL L i l i = l := if_pos rfl
theorem upL_up {L : Nat → Pz} {i : Nat} {l l' : Pz} : upL (upL L i l) i l' = upL L i l' := by funext j; unfold upL; split <;> rfl
section
variable {m : Sto} {p b1 b2 : Addr} {n c : Int} {L : Nat → Pz} {i : Nat} {l : Pz} {put : Bool} {a b : Int} {z : Sz}
theorem stW_at (h : i < 2) (n1 : p ≠ b1) (n2 : p ≠ b2) (n12 : b1 ≠ b2) : stW m p b1 b2 n c L (bW b1 b2 i) = some (.dic (pK (L i)) (pV (L i))) := by
  match i, h with
  | 0, _ => exact sto3_1 n1 n12
  | 1, _ => exact sto3_2 n2
theorem stW_put (h : i < 2) (n1 : p ≠ b1) (n2 : p ≠ b2) (n12 : b1 ≠ b2) : sput (stW m p b1 b2 n c L) (bW b1 b2 i) (.dic (pK l) (pV l)) = stW m p b1 b2 n c (upL L i l) := by
  match i, h with
  | 0, _ => exact sto3_u1 n1 n12
  | 1, _ => exact sto3_u2 n2
theorem stW_0 : stW m p b1 b2 n c (Lt_ put a b z 0) = sto3 m p b1 b2 n c [] [] := rfl
theorem up_0 : upL (Lt_ put a b z i) i (onP put a b ((pzW z i).take 0)) = Lt_ put a b z i := by
  funext j
  unfold upL Lt_
  by_cases e : j = i
  · subst e; rw [if_pos rfl, if_neg (Nat.lt_irrefl _)]; rfl
  · rw [if_neg e]
theorem up_all (h : i < 2) : stW m p b1 b2 n c (upL (Lt_ put a b z i) i (onP put a b (pzW z i))) = stW m p b1 b2 n c (Lt_ put a b z (i + 1)) := by
  match i, h with
  | 0, _ => rfl
  | 1, _ => rfl
theorem word_get {i : Nat} {d : D} (h : [D.str (Str.ofString "own"), D.str (Str.ofString "gone")][i]? = some d) : i < 2 ∧ d = .str (wordW i) := by
  match i, h with
  | 0, h => exact ⟨by omega, (Option.some.inj h).symm⟩
  | 1, h => exact ⟨by omega, (Option.some.inj h).symm⟩
theorem isN_opt (o : Option Int) : isN (optI o) = o.isNone := by cases o <;> rfl
theorem onP_few (o : z.Ok) (k : Nat) : (pK (onP put a b ((pzW z i).take k))).length < sizeLine := by
  have h1 := onP_len (put := put) (a := a) (b := b) ((pzW z i).take k)
  have h2 := pzW_few o i
  have h3 := sizeLine_eq
  rw [List.length_take] at h1
  unfold pK
  rw [List.length_map]
  omega
theorem onZ_D (hb : 1 ≤ b) {N : Int} (e : N = z.n + (if put = true then b else 0 - b)) : D.dic zK [.int N, .int z.c, .dic (pK (Lt_ put a b z 2 0)) (pV (Lt_ put a b z 2 0)), .dic (pK (Lt_ put a b z 2 1)) (pV (Lt_ put a b z 2 1))] = zD (z.onZ put a b) := by
  show D.dic zK [.int N, .int z.c, .dic (pK (onP put a b (pzV z.gv))) (pV (onP put a b (pzV z.gv))), .dic (pK (onP put a b (pzN z.gn))) (pV (onP put a b (pzN z.gn)))] = _
  rw [onP_V hb, onP_N hb, pK_V, pV_V, pK_N, pV_N, e]
  cases put with
  | true => rfl
  | false =>
    show D.dic zK [.int (z.n + (0 - b)), _, _, _] = D.dic zK [.int (z.n - b), _, _, _]
    rw [show z.n + (0 - b) = z.n - b by omega]
    rfl
end
theorem FZM_of {m : Sto} {p b1 b2 : Addr} {n c : Int} {o o' : O} (h0 : m p = none) (h1 : (sput m p o) b1 = none) (h2 : (sput (sput m p o) b1 o') b2 = none) :
    sput (sput (sput (sput m p o) b1 (.dic [] [])) b2 (.dic [] [])) p (.dic zK [.int n, .int c, .ref b1, .ref b2]) = sto3 m p b1 b2 n c [] [] ∧ m b1 = none ∧ m b2 = none := by
  have n1 : b1 ≠ p := fun e => by rw [e, sput_same] at h1; cases h1
  rw [sput_ne n1] at h1
  have n12 : b2 ≠ b1 := fun e => by rw [e, sput_same] at h2; cases h2
  rw [sput_ne n12] at h2
  have n2 : b2 ≠ p := fun e => by rw [e, sput_same] at h2; cases h2
  rw [sput_ne n2] at h2
  refine ⟨?_, h1, h2⟩
  funext x
  unfold sto3
  by_cases e : x = p
  · subst e; simp [sput]
  · simp [sput, e]; rfl
end G

/-! Points in rows of sizes. -/
namespace G
open PySem PySem.Spec PyProof.Rows L2
theorem sum_step {f : Int → Int} {k : Int} : ∀ {l : List Int}, l.Nodup → ((l.filter fun j => decide (j < k + 1)).map f).sum = ((l.filter fun j => decide (j < k)).map f).sum + if k ∈ l then f k else 0
  | [], _ => by simp
  | x :: l, nd => by
    rw [List.nodup_cons] at nd
    have ih := sum_step (f := f) (k := k) nd.2
    by_cases h1 : x < k
    · rw [List.filter_cons_of_pos (by simp; omega), List.filter_cons_of_pos (by simpa using h1), List.map_cons, List.map_cons, List.sum_cons, List.sum_cons, ih]
      have : (k ∈ x :: l) = (k ∈ l) := by
        rw [List.mem_cons]
        refine propext ⟨fun h => h.elim (fun e => by omega) id, .inr⟩
      simp only [this]
      omega
    · by_cases h2 : x = k
      · subst h2
        rw [List.filter_cons_of_pos (by simp; omega), List.filter_cons_of_neg (by simp), List.map_cons, List.sum_cons, ih, if_neg nd.1, if_pos List.mem_cons_self]
        omega
      · rw [List.filter_cons_of_neg (by simp; omega), List.filter_cons_of_neg (by simp; omega), ih]
        have : (k ∈ x :: l) = (k ∈ l) := by
          rw [List.mem_cons]
          refine propext ⟨fun h => h.elim (fun e => absurd e.symm h2) id, .inr⟩
        simp only [this]
theorem filter_gap {a b : Int} {l : List Int} (h : ∀ j ∈ l, ¬ (a ≤ j ∧ j < b)) (hab : a ≤ b) : (l.filter fun j => decide (j < b)) = l.filter fun j => decide (j < a) := by
  refine List.filter_congr fun j hj => ?_
  have := h j hj
  by_cases h1 : j < a
  · rw [decide_eq_true h1, decide_eq_true (by omega)]
  · rw [decide_eq_false h1, decide_eq_false (by omega)]
namespace Sz
theorem odd_nd (z : Sz) : z.odd.Nodup := z.inc_odd.imp fun e => Int.ne_of_lt e
theorem size_plain {z : Sz} {k : Int} (h : ¬ k ∈ z.odd) : z.size k = z.c := by
  rw [mem_odd] at h
  rw [size_own fun w => h (.inr w), own_no fun v hv => h (.inl (List.mem_map.mpr ⟨_, hv, rfl⟩))]
theorem ahead_gap {z : Sz} {a b : Int} (hab : a ≤ b) (h : ∀ j ∈ z.odd, ¬ (a ≤ j ∧ j < b)) : z.ahead b = z.ahead a + (b - a) * z.c := by
  unfold ahead
  rw [filter_gap h hab, Int.sub_mul]
  omega
theorem ahead_step (z : Sz) (k : Int) : z.ahead (k + 1) = z.ahead k + z.size k := by
  unfold ahead
  rw [sum_step z.odd_nd, Int.add_mul]
  by_cases h : k ∈ z.odd
  · rw [if_pos h]; omega
  · rw [if_neg h, size_plain h]; omega
theorem size_nn {z : Sz} (o : z.Ok) (k : Int) : 0 ≤ z.size k := by
  unfold size
  split
  · omega
  · rcases own_of o (k := k) with ⟨v, h1, h2, _⟩ | ⟨_, h2⟩
    · rw [h2]; have := (o.kv _ h1).2.2.1; omega
    · rw [h2]; have := o.c1; omega
theorem size_le {z : Sz} (o : z.Ok) (k : Int) : z.size k ≤ 60 := by
  unfold size
  split
  · omega
  · rcases own_of o (k := k) with ⟨v, h1, h2, _⟩ | ⟨_, h2⟩
    · rw [h2]; exact (o.kv _ h1).2.2.2
    · rw [h2]; exact o.c2
theorem ahead_zero {z : Sz} (o : z.Ok) : z.ahead 0 = 0 := by
  unfold ahead
  have : (z.odd.filter fun j => decide (j < 0)) = [] := List.filter_eq_nil_iff.mpr fun j hj => by have := (o.odd_in hj).1; simp; omega
  rw [this]; simp
theorem ahead_mono {z : Sz} (o : z.Ok) {a : Int} : ∀ n : Nat, z.ahead a ≤ z.ahead (a + n)
  | 0 => by simp
  | n + 1 => by
    have h1 := ahead_mono o (a := a) n
    have h2 := z.ahead_step (a + n)
    have h3 := size_nn o (a + n)
    rw [show a + ((n + 1 : Nat) : Int) = a + n + 1 by omega]
    omega
theorem ahead_le {z : Sz} (o : z.Ok) {a b : Int} (h : a ≤ b) : z.ahead a ≤ z.ahead b := by
  have := ahead_mono o (a := a) (b - a).toNat
  rwa [show a + ((b - a).toNat : Int) = b by omega] at this
/-- the point lies in thing k, w on -/
structure In (z : Sz) (pt k w : Int) : Prop where
  k0 : 0 ≤ k
  k1 : k < z.n
  w0 : 0 ≤ w
  w1 : w < z.size k
  pt : pt = z.ahead k + w
theorem In.uniq {z : Sz} (o : z.Ok) {pt k w k' w' : Int} (h : z.In pt k w) (g : z.In pt k' w') : k = k' ∧ w = w' := by
  have key : ∀ {k w k' w'}, z.In pt k w → z.In pt k' w' → ¬ k < k' := fun {k w k' w'} h g lt => by
    have h1 := ahead_le o (show k + 1 ≤ k' by omega)
    have h2 := z.ahead_step k
    have := h.pt; have := g.pt; have := h.w1; have := g.w0
    omega
  have e : k = k' := by
    have := key h g; have := key g h; omega
  subst e
  have := h.pt; have := g.pt
  exact ⟨rfl, by omega⟩
/-- behind i of the odd ones -/
def nI (z : Sz) (i : Nat) : Int := if i = 0 then 0 else (z.odd[i - 1]?).getD 0 + 1
theorem nI_succ {z : Sz} {i : Nat} {k : Int} (h : z.odd[i]? = some k) : z.nI (i + 1) = k + 1 := by
  unfold nI
  rw [if_neg (by omega), show i + 1 - 1 = i by omega, h]; rfl
theorem nI_gap {z : Sz} {i : Nat} {k : Int} (h : z.odd[i]? = some k) : ∀ j ∈ z.odd, ¬ (z.nI i ≤ j ∧ j < k) := by
  intro j hj ⟨h1, h2⟩
  obtain ⟨a, ha, e⟩ := List.getElem_of_mem hj
  obtain ⟨hi, ek⟩ := List.getElem?_eq_some_iff.mp h
  have srt := List.pairwise_iff_getElem.mp z.inc_odd
  have lt : a < i := by
    by_cases c : a < i
    · exact c
    · by_cases c2 : a = i
      · subst c2; omega
      · have := srt i a hi ha (by omega)
        omega
  unfold nI at h1
  rw [if_neg (by omega), List.getElem?_eq_getElem (show i - 1 < z.odd.length by omega)] at h1
  have h1 : z.odd[i - 1] + 1 ≤ j := h1
  by_cases c : a = i - 1
  · subst c; omega
  · have := srt a (i - 1) ha (by omega) (by omega)
    omega
theorem nI_end {z : Sz} : ∀ j ∈ z.odd, ¬ z.nI z.odd.length ≤ j := by
  intro j hj h1
  obtain ⟨a, ha, e⟩ := List.getElem_of_mem hj
  have srt := List.pairwise_iff_getElem.mp z.inc_odd
  unfold nI at h1
  rw [if_neg (by omega), List.getElem?_eq_getElem (show z.odd.length - 1 < z.odd.length by omega)] at h1
  have h1 : z.odd[z.odd.length - 1] + 1 ≤ j := h1
  by_cases c : a = z.odd.length - 1
  · subst c; omega
  · have := srt a (z.odd.length - 1) ha (by omega) (by omega)
    omega
theorem nI_le {z : Sz} {i : Nat} {k : Int} (h : z.odd[i]? = some k) (o : z.Ok) : z.nI i ≤ k := by
  by_cases e : i = 0
  · subst e
    show (0 : Int) ≤ k
    exact (o.odd_in (List.mem_of_getElem? h)).1
  · obtain ⟨hi, ek⟩ := List.getElem?_eq_some_iff.mp h
    have srt := List.pairwise_iff_getElem.mp z.inc_odd
    unfold nI
    rw [if_neg e, List.getElem?_eq_getElem (show i - 1 < z.odd.length by omega)]
    show z.odd[i - 1] + 1 ≤ k
    have := srt (i - 1) i (by omega) hi (by omega)
    omega
theorem nI_0 {z : Sz} {i : Nat} (o : z.Ok) (hi : i ≤ z.odd.length) : 0 ≤ z.nI i ∧ z.nI i ≤ z.n := by
  unfold nI
  split
  · have := o.n1; omega
  · rw [List.getElem?_eq_getElem (show i - 1 < z.odd.length by omega)]
    have := o.odd_in (List.getElem_mem (show i - 1 < z.odd.length by omega))
    show 0 ≤ z.odd[i - 1] + 1 ∧ z.odd[i - 1] + 1 ≤ z.n
    omega
theorem nI_start {z : Sz} {i : Nat} {k : Int} (h : z.odd[i]? = some k) (o : z.Ok) : z.ahead (z.nI i) + (k - z.nI i) * z.c = z.ahead k := (ahead_gap (nI_le h o) (nI_gap h)).symm
/-- the thing found by dividing -/
theorem at_div {z : Sz} (o : z.Ok) {a b pt : Int} (h0 : 0 ≤ a) (hb : b ≤ z.n) (hab : a ≤ b) (g : ∀ j ∈ z.odd, ¬ (a ≤ j ∧ j < b)) (h1 : z.ahead a ≤ pt) (h2 : pt < z.ahead b) : z.In pt (a + (pt - z.ahead a) / z.c) ((pt - z.ahead a) % z.c) := by
  have c1 := o.c1
  have e := ahead_gap hab g
  have d0 : 0 ≤ (pt - z.ahead a) / z.c := Int.ediv_nonneg (by omega) (by omega)
  have dl : (pt - z.ahead a) / z.c < b - a := Int.ediv_lt_of_lt_mul (by omega) (by omega)
  have md := Int.mul_ediv_add_emod (pt - z.ahead a) z.c
  have g2 : ∀ j ∈ z.odd, ¬ (a ≤ j ∧ j < a + (pt - z.ahead a) / z.c) := fun j hj ⟨u, v⟩ => g j hj ⟨u, by omega⟩
  have e2 := ahead_gap (z := z) (a := a) (b := a + (pt - z.ahead a) / z.c) (by omega) g2
  have np : ¬ (a + (pt - z.ahead a) / z.c) ∈ z.odd := fun m => g _ m ⟨by omega, by omega⟩
  refine ⟨by omega, by omega, Int.emod_nonneg _ (by omega), by rw [size_plain np]; exact Int.emod_lt_of_pos _ (by omega), ?_⟩
  rw [e2, show a + (pt - z.ahead a) / z.c - a = (pt - z.ahead a) / z.c by omega, Int.mul_comm]
  omega
theorem at_odd {z : Sz} {k pt : Int} (o : z.Ok) (hk : k ∈ z.odd) (h1 : z.ahead k ≤ pt) (h2 : pt < z.ahead k + z.size k) : z.In pt k (pt - z.ahead k) := ⟨(o.odd_in hk).1, (o.odd_in hk).2, by omega, by omega, by omega⟩
/-- all points -/
def pts (z : Sz) : Nat → List (Int × Int)
  | 0 => []
  | k + 1 => pts z k ++ (List.range (z.size k).toNat).map fun w : Nat => ((k : Int), (w : Int))
theorem pts_len {z : Sz} (o : z.Ok) : ∀ k : Nat, ((z.pts k).length : Int) = z.ahead k
  | 0 => (ahead_zero o).symm
  | k + 1 => by
    have ih := pts_len o k
    have h2 := z.ahead_step k
    have h3 := size_nn o k
    show (((z.pts k) ++ (List.range (z.size k).toNat).map _).length : Int) = z.ahead ((k + 1 : Nat) : Int)
    rw [List.length_append, List.length_map, List.length_range]
    rw [show ((k + 1 : Nat) : Int) = (k : Int) + 1 by omega]
    omega
theorem pts_get {z : Sz} (o : z.Ok) {pt k w : Int} (h : z.In pt k w) : ∀ K : Nat, k < K → (z.pts K)[pt.toNat]? = some (k, w)
  | 0, hk => by have := h.k0; omega
  | K + 1, hk => by
    have l := pts_len o K
    have hp := h.pt
    have hw0 := h.w0
    have hw1 := h.w1
    have hk0 := h.k0
    have a0 := ahead_le o hk0
    rw [ahead_zero o] at a0
    show ((z.pts K) ++ (List.range (z.size K).toNat).map _)[pt.toNat]? = _
    by_cases c : k < K
    · have h1 := ahead_le o (show k + 1 ≤ (K : Int) by omega)
      have h2 := z.ahead_step k
      rw [List.getElem?_append_left (by omega)]
      exact pts_get o h K c
    · have e : k = K := by omega
      subst e
      rw [List.getElem?_append_right (by omega), List.getElem?_map, show pt.toNat - (z.pts K).length = w.toNat by omega, List.getElem?_range (by omega)]
      show some ((K : Int), ((w.toNat : Nat) : Int)) = _
      rw [show ((w.toNat : Nat) : Int) = w by omega]
end Sz
def ptD (q : Int × Int) : D := .tup [.int q.1, .int q.2]
theorem okD_pts {n : Nat} (l : List (Int × Int)) : okD (n + 2) (.lst (l.map ptD)) = true := by
  show okDL (n + 1) (l.map ptD) = true
  refine okDL_map fun q => ?_
  cases n <;> simp [ptD, okD, okDL]
def FAt (cA cP : Addr) : DF := fun ds m Q E => ∃ p pt z, ds = [.ref p, .int pt] ∧ SzAt cA m p z ∧ z.Ok ∧ (pt < 0 ∨ pt ≥ z.total → E (.ref cP) [] m) ∧ (0 ≤ pt → pt < z.total → ∀ k w, z.In pt k w → Q (.tup [.int k, .int w]) m)
theorem FAt.len {cA cP : Addr} : ∀ ds m Q E, FAt cA cP ds m Q E → ds.length = (["self", "point"] : List Str).length := by rintro ds m Q E ⟨p, pt, z, rfl, _⟩; rfl
def FTold (cA : Addr) : DF := fun ds m Q _ => ∃ p pt z, ds = [.ref p, .int pt] ∧ SzAt cA m p z ∧ z.Ok ∧ (pt < 0 ∨ pt ≥ z.total → Q (.str (Str.ofString "no")) m) ∧ (0 ≤ pt → pt < z.total → ∀ k w, z.In pt k w → Q (.tup [.int k, .int w]) m)
theorem FTold.len {cA : Addr} : ∀ ds m Q E, FTold cA ds m Q E → ds.length = (["_law_sizes", "_law_point"] : List Str).length := by rintro ds m Q E ⟨p, pt, z, rfl, _⟩; rfl
theorem Sz.pts_succ {z : Sz} {i : Nat} : (z.pts i).map ptD ++ (List.range (z.size i).toNat).map (fun w : Nat => ptD ((i : Int), (w : Int))) = (z.pts (i + 1)).map ptD := by
  show _ = ((z.pts i) ++ (List.range (z.size i).toNat).map fun w : Nat => ((i : Int), (w : Int))).map ptD
  rw [List.map_append, List.map_map]; rfl
theorem Sz.pts_short {z : Sz} (o : z.Ok) : ∀ k : Nat, (z.pts k).length ≤ 60 * k
  | 0 => Nat.le_refl _
  | k + 1 => by
    have ih := Sz.pts_short o k
    have := Sz.size_le o k
    show ((z.pts k) ++ (List.range (z.size k).toNat).map _).length ≤ _
    rw [List.length_append, List.length_map, List.length_range]
    omega
theorem Sz.pts_all {z : Sz} (o : z.Ok) : ((z.pts z.n.toNat).length : Int) = z.total := by
  rw [Sz.pts_len o]
  have := o.n1
  rw [show ((z.n.toNat : Nat) : Int) = z.n by omega]
  rfl
theorem eq_reflD {n : Nat} {x y : D} {m : Sto} {Q : D → Sto → Prop} (e : x = y) (hn : n ≤ 60) (ok : okD n y = true) (q : Q (.bl true) m) : eqD x y m Q := by
  subst e
  exact ⟨n, hn, ok, ok, by rw [eqvD_refl ok]; exact q⟩
end G

/-! Great rows: how many stand apart, points by halving. -/
namespace G
open PySem PySem.Spec PyProof.Rows L2
namespace Sz
section
variable {z : Sz}
theorem odd_one {a b : Sz} {k : Int} (h : ∀ j, j ∈ a.odd → j = k ∨ j ∈ b.odd) : a.odd.length ≤ b.odd.length + 1 := by
  have := nodup_len a.odd (k :: b.odd) a.odd_nd fun j hj => (h j hj).elim (fun e => e ▸ List.mem_cons_self) fun m => List.mem_cons_of_mem _ m
  rwa [List.length_cons] at this
theorem give_odd (k s : Int) : (z.give k s).odd.length ≤ z.odd.length + 1 := by
  refine odd_one (k := k) fun j hj => ?_
  rw [mem_odd] at hj ⊢
  have hg : (z.give k s).gn = z.gn := by unfold give; split <;> rfl
  rcases hj with hj | hj
  · obtain ⟨v, hv⟩ := mem_keys.mp hj
    unfold give at hv
    split at hv
    · exact .inr (.inl (mem_keys.mpr ⟨v, (mem_dropG.mp hv).1⟩))
    · rcases mem_putG.mp hv with e | ⟨e, _⟩
      · exact .inl (congrArg Prod.fst e)
      · exact .inr (.inl (mem_keys.mpr ⟨v, e⟩))
  · rw [hg] at hj; exact .inr (.inr hj)
theorem hide_odd (k : Int) : (z.hide k).odd.length ≤ z.odd.length + 1 := by
  refine odd_one (k := k) fun j hj => ?_
  rw [mem_odd] at hj ⊢
  rcases hj with hj | hj
  · exact .inr (.inl hj)
  · rcases mem_putN.mp hj with e | ⟨e, _⟩
    · exact .inl e
    · exact .inr (.inr e)
theorem put_odd (k many : Int) : (z.put k many).odd.length ≤ z.odd.length := odd_map_len (b := z) (upBy k many) fun j hj => by
  rw [mem_odd] at hj
  rcases hj with hj | hj
  · have hj : j ∈ ((z.gv.map fun q => (upBy k many q.1, q.2)).map (·.1)) := hj
    rw [mapKeys] at hj
    obtain ⟨i, hi, e⟩ := List.mem_map.mp hj
    exact ⟨i, mem_odd.mpr (.inl hi), e⟩
  · obtain ⟨i, hi, e⟩ := List.mem_map.mp hj
    exact ⟨i, mem_odd.mpr (.inr hi), e⟩
theorem cut_odd (k many : Int) : (z.cut k many).odd.length ≤ z.odd.length := odd_map_len (b := z) (downBy k many) fun j hj => by
  rw [mem_odd] at hj
  rcases hj with hj | hj
  · have hj : j ∈ (((z.gv.filter fun q => stays k many q.1).map fun q => (downBy k many q.1, q.2)).map (·.1)) := hj
    rw [mapKeys, filterKeys] at hj
    obtain ⟨i, hi, e⟩ := List.mem_map.mp hj
    exact ⟨i, mem_odd.mpr (.inl (List.mem_filter.mp hi).1), e⟩
  · obtain ⟨i, hi, e⟩ := List.mem_map.mp hj
    exact ⟨i, mem_odd.mpr (.inr (List.mem_filter.mp hi).1), e⟩
theorem not_full_few (h : z.odd.length < 60) (k : Int) : ¬ z.full k := fun f => by have := f.2; omega
theorem sum_low {c : Int} {f : Int → Int} (h : ∀ j, -c ≤ f j) (hc : 0 ≤ c) : ∀ l : List Int, -(c * l.length) ≤ (l.map f).sum
  | [] => by simp
  | x :: l => by
    have ih := sum_low h hc l
    have := h x
    rw [List.map_cons, List.sum_cons, List.length_cons]
    rw [show c * ((l.length + 1 : Nat) : Int) = c * l.length + c by rw [Int.natCast_succ, Int.mul_add, Int.mul_one]]
    omega
theorem total_pos (o : z.Ok) (h : (z.odd.length : Int) < z.n) : 0 < z.total := by
  unfold total ahead
  have h1 := sum_low (c := z.c) (f := fun j => z.size j - z.c) (fun j => by have := size_nn o j; omega) (by have := o.c1; omega) (z.odd.filter fun j => decide (j < z.n))
  have h2 := List.length_filter_le (fun j => decide (j < z.n)) z.odd
  have h3 := o.c1
  have h4 : z.c * ((z.odd.filter fun j => decide (j < z.n)).length : Int) ≤ z.c * z.odd.length := Int.mul_le_mul_of_nonneg_left (by omega) (by omega)
  have h5 : z.c * (z.odd.length : Int) < z.c * z.n := Int.mul_lt_mul_of_pos_left h (by omega)
  rw [Int.mul_comm z.n]
  omega
theorem total_le (o : z.Ok) : z.total ≤ 60 * z.n := by
  have h1 := pts_all o
  have h2 := pts_short o z.n.toNat
  have := o.n1
  omega
theorem at_half {pt lo : Int} (o : z.Ok) (h0 : 0 ≤ lo) (h1 : lo + 1 ≤ z.n) (h2 : z.ahead lo ≤ pt) (h3 : pt < z.ahead (lo + 1)) : z.In pt lo (pt - z.ahead lo) := ⟨h0, by omega, by omega, by rw [ahead_step] at h3; omega, by omega⟩
end
end Sz
def halfB (i : Nat) : Int := 2 ^ (20 - i)
theorem half_step {i : Nat} (h : i < 20) : halfB i = 2 * halfB (i + 1) := by
  unfold halfB
  rw [show 20 - i = (20 - (i + 1)) + 1 by omega, Int.pow_succ]
  omega
theorem half_end {i : Nat} (h : 20 ≤ i) : halfB i = 1 := by unfold halfB; rw [show 20 - i = 0 by omega]; rfl
theorem half_pos (i : Nat) : 1 ≤ halfB i := by
  have : (0 : Int) < 2 ^ (20 - i) := Int.pow_pos (by decide)
  unfold halfB
  omega
def FZAt : DF := fun ds m Q _ => ∃ pt z, ds = [zD z, .int pt] ∧ z.Ok ∧ z.n ≤ 1048576 ∧ 0 ≤ pt ∧ pt < z.total ∧ ∀ k w, z.In pt k w → Q (.tup [.int k, .int w]) m
theorem FZAt.len : ∀ ds m Q E, FZAt ds m Q E → ds.length = (["_law_z_here", "_law_point"] : List Str).length := by rintro ds m Q E ⟨pt, z, rfl, _⟩; rfl
theorem half_or (i : Nat) : halfB i = 2 * halfB (i + 1) ∨ (halfB i = 1 ∧ halfB (i + 1) = 1) := by
  by_cases h : i < 20
  · exact .inl (half_step h)
  · exact .inr ⟨half_end (by omega), half_end (by omega)⟩
theorem half_0 : halfB 0 = 1048576 := by decide
theorem Sz.In.eqv {z y : Sz} (e : z.Eqv y) (o : z.Ok) (oy : y.Ok) {pt k w : Int} (h : z.In pt k w) : y.In pt k w := ⟨h.k0, by rw [← e.n]; exact h.k1, h.w0, by rw [← e.size o oy]; exact h.w1, by rw [← e.ahead o oy]; exact h.pt⟩
def hdel (h : HSt) (p : Addr) : HSt := fun q => if q = p then none else h q
theorem hdel_ne {h : HSt} {p q : Addr} (n : q ≠ p) : hdel h p q = h q := if_neg n
theorem Abs.del {h : HSt} {m : Sto} {p : Addr} {o : O} (A : Abs h m) (hp : h p = some (bRaw o)) : Abs (hdel h p) (G.sdel m p) := Abs.free A hp (fun q b e => by
  by_cases n : q = p
  · subst n; unfold hdel at e; rw [if_pos rfl] at e; cases e
  · rw [hdel_ne n] at e; exact e) (if_pos rfl)
theorem last_of {pl : List Int} (h : pl ≠ []) : ∃ q, (pl.map G.D.int).getLast? = some (.int q) ∧ q ∈ pl := by
  cases e : pl.getLast? with
  | none => exact absurd (List.getLast?_eq_none_iff.mp e) h
  | some q => exact ⟨q, by rw [List.getLast?_map, e]; rfl, List.mem_of_getLast? e⟩
theorem min_lt {a b n : Int} (ha : a < n) (ha0 : 0 ≤ a) (hb : 0 ≤ b) : 0 ≤ min a b ∧ min a b < n := by rw [Int.min_def]; split <;> omega
theorem int_get {l : List Int} {i : Nat} {d : D} (h : (l.map G.D.int)[i]? = some d) : ∃ k, l[i]? = some k ∧ d = .int k := by
  rw [List.getElem?_map] at h
  obtain ⟨k, hk, e⟩ := Option.map_eq_some_iff.mp h
  exact ⟨k, hk, e.symm⟩
end G

/-! list(range(n)) as an object, list.pop(i); sixty that stand apart. -/
namespace G
open PySem PySem.Spec PyProof.Rows L2
section
variable {C : Ct} {W : DW} {δ : Sl} {m : Sto} {a : Expr} {p p2 pos pos2 : Pos} {Q : D → Sto → Prop}
theorem repL_rg {K : PySem.W.Frag} {H : Hp} {f : Nat → Int} : ∀ l : List Nat, RepL K H (l.map fun i => V.int (f i)) (l.map fun i => D.int (f i))
  | [] => .nil
  | x :: l => .cons (.int _) (repL_rg l)
/-- list(range(n)) -/
theorem de_listRg (hg : GlC C "list") (hm : C.mg "list" = none) (hg2 : GlC C "range") (hm2 : C.mg "range" = none) (h : DE C W a δ m fun d m1 => ∃ n : Int, d = .int n ∧ 0 ≤ n ∧ n ≤ 16777216 ∧ ∀ q, m1 q = none → Q (.ref q) (sput m1 q (.lst ((List.range n.toNat).map fun i : Nat => D.int (0 + (i : Int))))))
    (na : ∀ env, starEach [a] env = (false, eval a env) :: starEach [] env := by intro _; rfl) (nb : ∀ env, starEach [.Call (.Name "range" p2) [a] [] pos2] env = (false, eval (.Call (.Name "range" p2) [a] [] pos2) env) :: starEach [] env := by intro _; rfl) (hcm : C.cm = true := by rfl) :
    DE C W (.Call (.Name "list" p) [.Call (.Name "range" p2) [a] [] pos2] [] pos) δ m Q := by
  intro X S f tk σ H T le sl hh
  refine WE.of (pe_listRg (f.calm hcm) (f.gl hg) (by rw [f.mg]; exact hm) (prg_1 (f.gl hg2) (by rw [f.mg]; exact hm2) we (na _)) (nb _)) ((h X S f tk σ H T le sl hh).mono fun v H1 ⟨d, m1, h1, n, ed, b0, b1, q⟩ => ?_)
  subst ed
  have r := h1.rep Pl.it
  cases r
  refine ⟨n, rfl, RgOk.of_le (Int.le_refl _) b1 (by omega) b0, fun q' hq' => ?_⟩
  have e : rgV 0 n = (List.range n.toNat).map fun i : Nat => V.int (0 + (i : Int)) := by unfold rgV; rw [Int.sub_zero]
  rw [e]
  exact ⟨.ref q', _, (h1.newM (u := .lst ((List.range n.toNat).map fun i : Nat => V.int (0 + (i : Int)))) (o := .lst ((List.range n.toNat).map fun i : Nat => D.int (0 + (i : Int)))) hq' fun Hi _ => repL_rg (f := fun i => 0 + (i : Int)) _).le (Pl.mono Pl.le), q q' (h1.free hq')⟩
def popAtD : RMD := fun d ds m Q => ∃ p l i x, d = .ref p ∧ ds = [.int i] ∧ m p = some (.lst l) ∧ 0 ≤ i ∧ i < l.length ∧ i < 2 ^ 62 ∧ l[i.toNat]? = some x ∧ Q x (sput m p (.lst (l.eraseIdx i.toNat)))
theorem RepL.erase {K : PySem.W.Frag} {H : Hp} : ∀ {vs : List V} {ds : List D} (n : Nat), RepL K H vs ds → RepL K H (vs.eraseIdx n) (ds.eraseIdx n)
  | _, _, _, .nil => .nil
  | _, _, 0, .cons _ t => t
  | _, _, n + 1, .cons h t => .cons h (t.erase n)
theorem md_popAt : MtD C "list.pop" popAtD := by
  rintro X f fr H m T v d vs ds Q hl hh ⟨p, l, i, x, rfl, rfl, hm, h0, h1, h2, hx, q⟩
  obtain ⟨w, rfl⟩ := one_of hl
  have rv := hh.rep pl0
  cases rv
  have rw' := hh.rep (PlL.at (i := 0) (v := w) (d := .int i) rfl rfl)
  cases rw'
  obtain ⟨xs, hq, hxl, h3⟩ := hh.itemsO hm
  have hi : i.toNat < xs.length := by omega
  have h4 := h3.mut (u' := .lst (xs.eraseIdx i.toNat)) (o' := .lst (l.eraseIdx i.toNat)) hm hq fun Hi r kk => RepL.erase _ r
  refine wm_of mt_popAt ⟨p, xs, i, i.toNat, xs[i.toNat], rfl, rfl, hq, by omega, by omega, ?_, List.getElem?_eq_getElem hi, ⟨x, _, h4.le fun y z t => ?_, q⟩⟩
  · unfold seqIndex?
    rw [if_neg (show ¬ i < 0 by omega)]
    simp only [Bool.and_eq_true, decide_eq_true_eq]
    rw [if_pos ⟨h0, by omega⟩]
  · rcases t with t | ⟨rfl, rfl⟩
    · exact .inl (.inl (.inl t))
    · refine .inr (List.mem_iff_getElem?.mpr ⟨i.toNat, ?_⟩)
      rw [List.getElem?_zip_eq_some]
      exact ⟨List.getElem?_eq_getElem hi, hx⟩
end
namespace Sz
section
variable {z : Sz} {k s : Int}
theorem mem_give (hs : s ≠ z.c) {j : Int} : j ∈ (z.give k s).odd ↔ j = k ∨ j ∈ z.odd := by
  unfold give
  rw [if_neg hs, mem_odd, mem_odd]
  show j ∈ (putG z.gv k s).map (·.1) ∨ j ∈ z.gn ↔ _
  rw [keys_putG, mem_putN]
  by_cases e : j = k <;> simp [e]
theorem mem_hide {j : Int} : j ∈ (z.hide k).odd ↔ j = k ∨ j ∈ z.odd := by
  rw [mem_odd, mem_odd]
  show j ∈ z.gv.map (·.1) ∨ j ∈ putN z.gn k ↔ _
  rw [mem_putN]
  by_cases e : j = k <;> simp [e]
theorem odd_succ {a b : Sz} (h : ∀ j, j ∈ a.odd ↔ j = k ∨ j ∈ b.odd) (hk : ¬ k ∈ b.odd) : a.odd.length = b.odd.length + 1 := by
  have h1 := odd_one (a := a) (b := b) (k := k) fun j hj => (h j).1 hj
  have h2 := nodup_len (k :: b.odd) a.odd (List.nodup_cons.mpr ⟨hk, b.odd_nd⟩) fun j hj => (h j).2 (List.mem_cons.mp hj)
  rw [List.length_cons] at h2
  omega
theorem odd_same {a b : Sz} (h : ∀ j, j ∈ a.odd ↔ j ∈ b.odd) : a.odd = b.odd := inc_uniq a.inc_odd b.inc_odd h
/-- one less -/
theorem odd_less {a b : Sz} (f : Int → Int) (hk : k ∈ b.odd) (h : ∀ j ∈ a.odd, ∃ i ∈ b.odd, i ≠ k ∧ f i = j) : a.odd.length + 1 ≤ b.odd.length := by
  have h1 := nodup_len a.odd ((b.odd.filter fun j => decide (j ≠ k)).map f) a.odd_nd fun j hj => by
    obtain ⟨i, hi, hn, e⟩ := h j hj
    exact List.mem_map.mpr ⟨i, List.mem_filter.mpr ⟨hi, by simpa using hn⟩, e⟩
  rw [List.length_map] at h1
  have h2 := nodup_len (k :: b.odd.filter fun j => decide (j ≠ k)) b.odd (List.nodup_cons.mpr ⟨by simp, b.odd_nd.sublist List.filter_sublist⟩) fun j hj => by
    rcases List.mem_cons.mp hj with e | e
    · rw [e]; exact hk
    · exact (List.mem_filter.mp e).1
  rw [List.length_cons] at h2
  omega
theorem give_same {y : Sz} (h : z.Eqv y) (hk : ¬ k ∈ z.odd) : (z.give k z.c).Eqv y := by
  unfold give
  rw [if_pos rfl]
  refine ⟨h.n, h.c, fun q => ?_, h.gn⟩
  show q ∈ dropG z.gv k ↔ _
  rw [mem_dropG, ← h.gv]
  exact ⟨fun w => w.1, fun w => ⟨w, fun e => hk (mem_odd.mpr (.inl (List.mem_map.mpr ⟨q, w, e⟩)))⟩⟩
theorem back_less (hk : k ∈ z.odd) : ((z.plain k).showK k).odd.length + 1 ≤ z.odd.length := odd_less (fun j => j) hk fun j hj => by
  rw [mem_odd] at hj
  rcases hj with hj | hj
  · have hj : j ∈ (dropG z.gv k).map (·.1) := hj
    rw [keys_dropG, mem_dropN] at hj
    exact ⟨j, mem_odd.mpr (.inl hj.1), hj.2, rfl⟩
  · obtain ⟨a, b⟩ := mem_dropN.mp hj
    exact ⟨j, mem_odd.mpr (.inr a), b, rfl⟩
theorem own_give (ok : (z.give k s).Ok) : (z.give k s).own k = s := by
  have hm : ∀ v, (k, v) ∈ (z.give k s).gv ↔ s ≠ z.c ∧ v = s := fun v => by
    unfold give
    by_cases e : s = z.c
    · rw [if_pos e]
      show (k, v) ∈ dropG z.gv k ↔ _
      rw [mem_dropG]
      exact ⟨fun h => absurd rfl h.2, fun h => absurd e h.1⟩
    · rw [if_neg e]
      show (k, v) ∈ putG z.gv k s ↔ _
      rw [mem_putG]
      constructor
      · rintro (h | h)
        · exact ⟨e, (Prod.mk.inj h).2⟩
        · exact absurd rfl h.2
      · rintro ⟨_, h⟩
        rw [h]
        exact .inl rfl
  have hc : (z.give k s).c = z.c := by unfold give; split <;> rfl
  rcases own_of ok (k := k) with ⟨v, h1, h2, _⟩ | ⟨h1, h2⟩
  · rw [h2]; exact ((hm v).1 h1).2
  · rw [h2, hc]
    by_cases e : s = z.c
    · exact e.symm
    · exact absurd ((hm s).2 ⟨e, rfl⟩) (h1 s)
theorem plain_give (h : z.c = s) : z.plain k = z.give k s := by unfold plain give; rw [if_pos h.symm]
theorem full_60 {y : Sz} (h : z.Eqv y) (hk : ¬ k ∈ y.odd) (hl : 60 ≤ y.odd.length) : z.full k := ⟨by rw [h.odd]; exact hk, by rw [h.odd]; exact hl⟩
theorem cut_less (hk : k ∈ z.odd) : (z.cut k 1).odd.length + 1 ≤ z.odd.length := odd_less (downBy k 1) hk fun j hj => by
  rw [mem_odd] at hj
  have key : ∀ i, stays k 1 i = true → i ≠ k := fun i hs => by
    have : i < k ∨ i ≥ k + 1 := of_decide_eq_true hs
    omega
  rcases hj with hj | hj
  · have hj : j ∈ (((z.gv.filter fun q => stays k 1 q.1).map fun q => (downBy k 1 q.1, q.2)).map (·.1)) := hj
    rw [mapKeys, filterKeys] at hj
    obtain ⟨i, hi, e⟩ := List.mem_map.mp hj
    obtain ⟨hi, hs⟩ := List.mem_filter.mp hi
    exact ⟨i, mem_odd.mpr (.inl hi), key i hs, e⟩
  · obtain ⟨i, hi, e⟩ := List.mem_map.mp hj
    obtain ⟨hi, hs⟩ := List.mem_filter.mp hi
    exact ⟨i, mem_odd.mpr (.inr hi), key i hs, e⟩
end
end Sz
theorem erase_mem {L : List Int} (nd : L.Nodup) {i : Nat} {k q : Int} (h : L[i]? = some k) (hq : q ∈ L.eraseIdx i) : q ∈ L ∧ q ≠ k := by
  obtain ⟨hi, e⟩ := List.getElem?_eq_some_iff.mp h
  refine ⟨List.mem_of_mem_eraseIdx hq, fun w => ?_⟩
  rw [List.eraseIdx_eq_take_drop_succ] at hq
  have pw := List.pairwise_iff_getElem.mp nd
  rcases List.mem_append.mp hq with m | m
  · obtain ⟨j, hj, e2⟩ := List.getElem_of_mem m
    rw [List.length_take] at hj
    rw [List.getElem_take] at e2
    exact pw j i (by omega) hi (by omega) (by rw [e2, e, w])
  · obtain ⟨j, hj, e2⟩ := List.getElem_of_mem m
    rw [List.length_drop] at hj
    rw [List.getElem_drop] at e2
    exact pw i (i + 1 + j) hi (by omega) (by omega) (by rw [e2, e, w])
theorem map_erase : ∀ (L : List Int) (i : Nat), (L.map D.int).eraseIdx i = (L.eraseIdx i).map D.int
  | [], _ => rfl
  | _ :: _, 0 => rfl
  | x :: L, i + 1 => by
    show D.int x :: (L.map D.int).eraseIdx i = D.int x :: (L.eraseIdx i).map D.int
    rw [map_erase L i]
def FFull (cA : Addr) : DF := fun ds m Q _ => ∃ h p k way z, ds = [.ref p, .int k, .int way] ∧ Abs h m ∧ h p = some (bSz cA z) ∧ z.Ok ∧ 0 ≤ k ∧ k < z.n ∧ z.c ≠ 50 ∧ (z.full k → Q (.bl true) m) ∧ (¬ z.full k → ∀ m', Abs (hput h p (bSz cA (if way = 0 then z.give k 50 else z.hide k))) m' → Q (.bl false) m')
theorem FFull.len {cA : Addr} : ∀ ds m Q E, FFull cA ds m Q E → ds.length = (["_law_sizes", "_law_k", "_law_way"] : List Str).length := by rintro ds m Q E ⟨h, p, k, way, z, rfl, _⟩; rfl
theorem int_at {L : List Int} {i : Int} (h0 : 0 ≤ i) (h1 : i < L.length) : ∃ k, L[i.toNat]? = some k ∧ (L.map D.int)[i.toNat]? = some (D.int k) ∧ k ∈ L := by
  have h2 : i.toNat < L.length := by omega
  exact ⟨L[i.toNat], List.getElem?_eq_getElem h2, by rw [List.getElem?_map, List.getElem?_eq_getElem h2]; rfl, List.getElem_mem h2⟩
theorem range_int (n : Nat) : ((List.range n).map fun i : Nat => D.int (0 + (i : Int))) = ((List.range n).map fun i : Nat => (i : Int)).map D.int := by
  rw [List.map_map]
  exact List.map_congr_left fun i _ => by show D.int (0 + (i : Int)) = D.int (i : Int); rw [Int.zero_add]
theorem ints_nd : ∀ l : List Nat, l.Nodup → (l.map fun i : Nat => (i : Int)).Nodup
  | [], _ => List.nodup_nil
  | x :: l, h => by
    rw [List.nodup_cons] at h
    rw [List.map_cons, List.nodup_cons]
    refine ⟨fun m => ?_, ints_nd l h.2⟩
    obtain ⟨y, hy, e⟩ := List.mem_map.mp m
    have e2 : y = x := by omega
    subst e2
    exact h.1 hy
theorem range_nd (n : Nat) : ((List.range n).map fun i : Nat => (i : Int)).Nodup := ints_nd _ List.nodup_range
end G

/-! == and != by an own __eq__, against things of another type. -/
namespace G
open PySem PySem.Spec PyProof.Rows L2
section
variable {prog : Program} {w : World} {A : Around} {E : Value → Shared → Prop} {s : Shared} {K : PySem.W.Frag} {x C f : Addr} {ox : Obj} {od : Option Obj} {b tb : Value} {M : Model}
theorem ifBound_objNe {args : List Value} {Q : Option Value → Shared → Prop} (X : K.In s.heap) (I : PySem.W.InstAt s.heap x ox C od) (hs : PySem.W.findIn K (.ref C) "__ne__" = some (some (.builtin "object.__ne__")))
    (h : wpAny M A (call (.builtin "object.__ne__") (.ref x :: args)) (fun v => Q (some v)) E s) : wpAny M A (callSpecialIfBound? (.ref x) "__ne__" args) Q E s := by
  simp only [callSpecialIfBound?, bindSpecialIfBound?]
  refine wpAny_holding (wpAny_bind (wpAny_bind (wpAny_bind (I.type.here ((PySem.W.looks_findIn X hs).here ?_)))))
  refine wpAny_bind (wpAny_askSetting (wpAny_ite ?_))
  have fin : wpAny M A (call (.builtin "object.__ne__") ([.ref x] ++ args) >>= fun v => pure (some v)) Q E s := wpAny_bind (wpAny_mono h (fun v s' h' => wpAny_pure h') fun _ _ h' => h')
  split
  · exact wpAny_bind (wpAny_of_eq (F.cmp_object.ne.bind _) (wpAny_pure (by exact fin)))
  · exact wpAny_tryCatch (wpAny_bind (wpAny_of_eq (F.cmp_object.ne.bind _) (wpAny_pure (by exact fin))))
theorem objNe_entry {Q : Fin → Shared → Prop} (hu : A.units < cLine) (X : K.In s.heap) (I : PySem.W.InstAt s.heap x ox C od) (hs : PySem.W.findIn K (.ref C) "__eq__" = some (some (.ref f))) (hf : PySem.W.isFn K (.ref f) = true)
    (h : wpAny (model prog w) A (call (.ref f) [.ref x, b]) (fun v s' => ∃ r, v = .bool r ∧ Q (.done (.ret (.bool !r))) s') E s) : wpAny (model prog w) A (Builtin.«object.__ne__» ⟨[.ref x, b], []⟩) Q E s := by
  unfold Builtin.«object.__ne__»
  repeat (first | with_reducible refine wpAny_cRoomFor hu ?_ | with_reducible refine PySem.W.ifBound_K X I hs hf (wpAny_mono h (fun v s' hv => ?_) fun _ _ e => e) | wp_step)
  obtain ⟨r, rfl, hq⟩ := hv
  exact wpAny_bind (wpAny_truthy_bool (wpAny_pure hq))
theorem call_objNe {Q : Value → Shared → Prop} (hu : A.units + 1 < cLine) (X : K.In s.heap) (I : PySem.W.InstAt s.heap x ox C od) (hm : PySem.W.mroIn K C (.type "object") = some true) (hs : PySem.W.findIn K (.ref C) "__eq__" = some (some (.ref f))) (hf : PySem.W.isFn K (.ref f) = true)
    (h : wpAny (model prog w) A.in1 (call (.ref f) [.ref x, b]) (fun v s' => ∃ r, v = .bool r ∧ Q (.bool !r) s') E s) : wpAny (model prog w) A (call (.builtin "object.__ne__") [.ref x, b]) Q E s :=
  wpAny_call (codeAny_call_builtin F.cmp_object.ne.plain F.cmpEntry_ne (PySem.W.check_slot F.cmpKind_ne F.cmpSplit_ne (I.type.andThen (PySem.W.looks_mroIn X hm)) (F.cmpArgs_ne _ _) (objNe_entry hu X I hs hf h)))
theorem ne_K {Q : Value → Shared → Prop} (hu : A.units + 1 < cLine) (X : K.In s.heap) (I : PySem.W.InstAt s.heap x ox C od) (hb : PySem.W.Looks (model prog w) s.heap (typeOf b) tb) (hn : PySem.W.notFirst K C tb = true)
    (hne : PySem.W.findIn K (.ref C) "__ne__" = some (some (.builtin "object.__ne__"))) (hm : PySem.W.mroIn K C (.type "object") = some true) (hs : PySem.W.findIn K (.ref C) "__eq__" = some (some (.ref f))) (hf : PySem.W.isFn K (.ref f) = true)
    (h : wpAny (model prog w) A.in1 (call (.ref f) [.ref x, b]) (fun v s' => ∃ r, v = .bool r ∧ Q (.bool !r) s') E s) : wpAny (model prog w) A (richCompare .NotEq (.ref x) b) Q E s := by
  have one : wpAny (model prog w) A (tryCompare (.ref x) "__ne__" b) (fun r s' => ∃ v, r = some v ∧ Q v s') E s := by
    unfold tryCompare
    refine wpAny_bind (ifBound_objNe X I hne (call_objNe hu X I hm hs hf (wpAny_mono h (fun v s' hv => ?_) fun _ _ e => e)))
    obtain ⟨r, rfl, hq⟩ := hv
    exact ⟨r, rfl, wpAny_pure ⟨_, rfl, hq⟩⟩
  unfold richCompare
  simp only [oneThing_ref]
  refine wpAny_holding (wpAny_bind (wpAny_cRoomFor (by omega) ?_))
  refine wpAny_bind (I.type.here (wpAny_bind (hb.here ?_)))
  split
  · rename_i q
    have e : PySem.W.subIn K tb (.ref C) = some false := by
      rcases Bool.or_eq_true_iff.mp hn with e | e
      · rw [beq_iff_eq.mp e] at q; simp at q
      · exact beq_iff_eq.mp e
    refine wpAny_bind ((PySem.W.looks_subIn X e).here ?_)
    simp only [Bool.false_eq_true, if_false]
    refine wpAny_bind (wpAny_mono one (fun r s' z => ?_) fun _ _ e => e)
    obtain ⟨v, rfl, hq⟩ := z
    exact wpAny_pure hq
  · refine wpAny_bind (wpAny_pure ?_)
    simp only [Bool.false_eq_true, if_false]
    refine wpAny_bind (wpAny_mono one (fun r s' z => ?_) fun _ _ e => e)
    obtain ⟨v, rfl, hq⟩ := z
    exact wpAny_pure hq
end
theorem sub_of {K : PySem.W.Frag} {C : Addr} {t : String} {l : List Value} (e : fastBuiltinMro t = some l) (h : (l.contains (.ref C)) = false) : PySem.W.subIn K (.type t) (.ref C) = some false := by
  show (fastBuiltinMro t).map (·.contains (.ref C)) = some false
  rw [e, Option.map_some, h]
/-- a written type whose things never come first -/
def TyNF (t : String) : Prop := ∀ K C, PySem.W.notFirst K C (.type t) = true
theorem nf_of {t : String} (h : ∀ K C, PySem.W.subIn K (.type t) (.ref C) = some false) : TyNF t := fun K C => by unfold PySem.W.notFirst; rw [h K C]; simp
theorem nf_str : TyNF "str" := nf_of fun K C => sub_of (l := [.type "str", .type "object"]) (by decide +kernel) (by first | rfl | simp)
theorem nf_int : TyNF "int" := nf_of fun K C => sub_of (l := [.type "int", .type "object"]) (by decide +kernel) (by first | rfl | simp)
theorem nf_none : TyNF "NoneType" := nf_of fun K C => sub_of (l := [.type "NoneType", .type "object"]) (by decide +kernel) (by first | rfl | simp)
theorem nf_list : TyNF "list" := nf_of fun K C => sub_of (l := [.type "list", .type "object"]) (by decide +kernel) (by first | rfl | simp)
structure NeC (K : PySem.W.Frag) (c : Addr) : Prop where
  ne : PySem.W.findIn K (.ref c) "__ne__" = some (some (.builtin "object.__ne__"))
  ob : PySem.W.mroIn K c (.type "object") = some true
section
variable {C : Ct} {cA : Addr}
theorem lst2 {K : PySem.W.Frag} {fr : Sto} {H : Hp} {m : Sto} {T : RT} {x y : V} {d e : D} (hh : Hd K fr H m T) (tx : T x d) (ty : T y e) : Hd K fr H m (PlL T [x, y] [d, e]) := hh.le fun y z t => by
  rcases t with t | t
  · exact t
  · rw [List.zip_cons_cons, List.zip_cons_cons] at t
    rcases List.mem_cons.mp t with t | t
    · cases t; exact tx
    · rcases List.mem_cons.mp t with t | t
      · cases t; exact ty
      · cases t
/-- a == e by a's own __eq__, e of a written type -/
theorem od_eqX {k : Nat} {F : DF} (kn : KnM C.P C.w C.K C.mg C.base cA "__eq__" k F) (hk : Nat.ble k C.k = true) (hcm : C.cm = true := by rfl) :
    OpD C (compareOp .Eq) (fun d e m Q => ∃ a fs t, d = .ref a ∧ m a = some (.ins cA fs) ∧ tyD e = some t ∧ TyNF t ∧ F [d, e] m (fun z m' => ∃ v, z = .bl v ∧ Q z m') fun _ _ _ => False) := by
  rintro X fX fr H m T x y d e Q hh tx ty ⟨a, fs, t, rfl, ha, ht, nf, q⟩ pins s σ v u I rx ry
  obtain ⟨f, fd, ps, ok, hm, hb⟩ := kn.ex
  rw [← fX.prog, ← fX.w, ← fX.K, ← fX.mg, ← fX.base] at ok
  rw [← fX.K] at hm hb
  have tyx := hh.tyX ty ht
  rw [← fX.K] at tyx
  have r := hh.rep tx
  cases r
  obtain rfl : v = Value.ref a := rx
  obtain ⟨dx, gs1, hu1, _, _, _⟩ := hh.insO ha
  obtain ⟨mA, J, _⟩ := ins_get I.hok hu1
  obtain ⟨od, J, _⟩ := J.look
  obtain ⟨P, Z, pz, _⟩ := kit_of I ry tyx
  have hr : Room k X.A := (fX.room hcm).mono (Nat.le_of_ble_eq_true hk)
  have sb : Sub X k X.A := ⟨hr, rfl⟩
  obtain ⟨mm, hF⟩ := I.fr
  have z : spD X.K F [.ref a, y] H (fun v H' => ∃ d m', Hd C.K fr H' m' (Pl T v d) ∧ ∃ z, d = .bl z ∧ Q d m') (fun _ _ _ => False) := by
    rw [fX.K]
    exact ⟨[.ref a, e], m, T, fr, _, _, rfl, lst2 hh tx ty, q, fun d m' q' v H' h' => ⟨d, m', h', q'⟩, fun cls fs m' w => w.elim⟩
  show wpAny (model X.prog X.w) X.A (richCompare .Eq (.ref a) u) _ X.xe s
  refine PySem.W.cmp_K (op := .Eq) (tb := .type t) sb.room.units0 hF I.ok.mod.kin J (Z.ty _ _ I.kIn pz) (nf _ _) hm.at_ hm.fn ?_
  refine wpAny_mono (own_call (E := fun _ _ _ => False) ok sb hb ?_ I (show Vals [V.ref a, y] [Value.ref a, u] from .cons rfl (.cons ry .nil)) z) (fun u s2 hv => ?_) fun _ _ y => y
  · rintro pins H s e s' I ⟨a, B, H', cls, d, _, _, _, _, _, _, _, w⟩
    exact w.elim
  · obtain ⟨v, H2, I2, rv, d, m2, h2, y, ed, q2⟩ := hv
    subst ed
    have r2 := h2.rep Pl.it
    cases r2
    cases rv
    exact ⟨V.bl y, H2, I2, rfl, .bl y, m2, h2, q2⟩
/-- a != b, two instances of one class with an own __eq__ and no own __ne__ -/
theorem od_neI {k : Nat} {F : DF} (kn : KnM C.P C.w C.K C.mg C.base cA "__eq__" k F) (nc : NeC C.K cA) (hk : Nat.ble (k + 1) C.k = true) (hcm : C.cm = true := by rfl) :
    OpD C (compareOp .NotEq) (fun d e m Q => ∃ a b fs gs, d = .ref a ∧ e = .ref b ∧ m a = some (.ins cA fs) ∧ m b = some (.ins cA gs) ∧ F [d, e] m (fun z m' => ∃ v, z = .bl v ∧ Q (.bl !v) m') fun _ _ _ => False) := by
  rintro X fX fr H m T x y d e Q hh tx ty ⟨a, b, fs, gs, rfl, rfl, ha, hb2, q⟩ pins s σ v u I rx ry
  obtain ⟨f, fd, ps, ok, hm, hb⟩ := kn.ex
  rw [← fX.prog, ← fX.w, ← fX.K, ← fX.mg, ← fX.base] at ok
  rw [← fX.K] at hm hb nc
  have r := hh.rep tx
  cases r
  have r := hh.rep ty
  cases r
  obtain rfl : v = Value.ref a := rx
  obtain rfl : u = Value.ref b := ry
  obtain ⟨dx, gs1, hu1, _, _, _⟩ := hh.insO ha
  obtain ⟨dy, gs2, hu2, _, _, _⟩ := hh.insO hb2
  obtain ⟨mA, J, _⟩ := ins_get I.hok hu1
  obtain ⟨mB, J', _⟩ := ins_get I.hok hu2
  obtain ⟨od, J, _⟩ := J.look
  obtain ⟨od', J', _⟩ := J'.look
  have hr : Room (k + 1) X.A := (fX.room hcm).mono (Nat.le_of_ble_eq_true hk)
  have sb : Sub X (k + 1) X.A := ⟨hr, rfl⟩
  have z : spD X.K F [.ref a, .ref b] H (fun v H' => ∃ d m', Hd C.K fr H' m' (Pl T v d) ∧ ∃ z, d = .bl z ∧ Q (.bl !z) m') (fun _ _ _ => False) := by
    rw [fX.K]
    exact ⟨[.ref a, .ref b], m, T, fr, _, _, rfl, lst2 hh tx ty, q, fun d m' q' v H' h' => ⟨d, m', h', q'⟩, fun cls fs m' w => w.elim⟩
  show wpAny (model X.prog X.w) X.A (richCompare .NotEq (.ref a) (.ref b)) _ X.xe s
  refine ne_K (tb := .ref cA) (by have := hr.un; omega) I.kIn J J'.type (by simp [PySem.W.notFirst]) nc.ne nc.ob hm.at_ hm.fn ?_
  refine wpAny_mono (own_call (E := fun _ _ _ => False) ok sb.in1 hb ?_ I (show Vals [V.ref a, V.ref b] [Value.ref a, Value.ref b] from .cons rfl (.cons rfl .nil)) z) (fun u s2 hv => ?_) fun _ _ y => y
  · rintro pins H s e s' I ⟨a, B, H', cls, d, _, _, _, _, _, _, _, w⟩
    exact w.elim
  · obtain ⟨v, H2, I2, rv, d, m2, h2, y, ed, q2⟩ := hv
    subst ed
    have r2 := h2.rep Pl.it
    cases r2
    cases rv
    exact ⟨y, rfl, V.bl (!y), H2, I2, rfl, dk_bl (h2.le Pl.le) q2⟩
end
end G

/-! == and != of data dicts, dicts within dicts. -/
namespace G
open PySem PySem.Spec PyProof.Rows L2
def dicEqF (f : D → D → Bool) : List Key → List D → List Key → List D → Bool
  | k :: ks, d :: ds, ls, es => match valD ls es k with
    | none => false
    | some e => f d e && dicEqF f ks ds ls es
  | _, _, _, _ => true
def feqN : Nat → D → D → Bool
  | 0, d, e => feqD d e
  | n + 1, .dic ks ds, .dic ls es => ks.length == ls.length && dicEqF (feqN n) ks ds ls es
  | _ + 1, d, e => feqD d e
/-- alike in shape, key by key -/
def SameN : Nat → D → D → Prop
  | 0, d, e => SameK d e
  | n + 1, d, e => SameK d e ∨ ∃ ks ds ls es, d = .dic ks ds ∧ e = .dic ls es ∧ ks.Nodup ∧ ∀ k d e, (k, d) ∈ ks.zip ds → valD ls es k = some e → SameN n d e
theorem feqN_flat {n : Nat} {d e : D} (h : SameK d e) : feqN n d e = feqD d e := by
  cases n with
  | zero => rfl
  | succ n => rcases h with ⟨i, j, rfl, rfl⟩ | ⟨a, b, rfl, rfl⟩ <;> rfl
theorem flat_same {K : PySem.W.Frag} {H : Hp} {v : V} {d e : D} (h : SameK d e) (r1 : Rep K H v d) (r2 : Rep K H v e) : feqD d e = true := by
  rcases h with ⟨i, j, rfl, rfl⟩ | ⟨a, b, rfl, rfl⟩
  · cases r1; cases r2; simp [feqD]
  · cases r1; cases r2; simp [feqD]
theorem valV_mem : ∀ {kvs : List (Key × V)} {k : Key} {v : V}, (kvs.map (·.1)).Nodup → (k, v) ∈ kvs → valV kvs k = some v
  | [], _, _, _, h => by cases h
  | p :: r, k, v, nd, h => by
    rw [List.map_cons, List.nodup_cons] at nd
    rcases List.mem_cons.mp h with e | e
    · rw [← e]; exact valV_pos rfl
    · rw [valV_neg fun z => nd.1 (by rw [z]; exact List.mem_map.mpr ⟨_, e, rfl⟩)]
      exact valV_mem nd.2 e
theorem dic_same {K : PySem.W.Frag} {H : Hp} {f : D → D → Bool} {S : D → D → Prop} (hS : ∀ v d e, S d e → Rep K H v d → Rep K H v e → f d e = true) {kvs : List (Key × V)} {es : List D} (nd : (kvs.map (·.1)).Nodup) (r2 : RepL K H (kvs.map (·.2)) es) :
    ∀ {kvs1 : List (Key × V)} {ds1 : List D}, (∀ p ∈ kvs1, p ∈ kvs) → RepL K H (kvs1.map (·.2)) ds1 → (∀ k d e, (k, d) ∈ (kvs1.map (·.1)).zip ds1 → valD (kvs.map (·.1)) es k = some e → S d e) → dicEqF f (kvs1.map (·.1)) ds1 (kvs.map (·.1)) es = true
  | [], ds1, _, r1, _ => by
    cases ds1 with
    | nil => rfl
    | cons => cases r1
  | (k, v) :: kvs1, [], _, r1, _ => by cases r1
  | (k, v) :: kvs1, d :: ds1, hsub, r1, hs => by
    cases r1 with
    | cons rv rr =>
      obtain ⟨z1, z2⟩ := val_rep r2 (k := k)
      have hv := valV_mem nd (hsub (k, v) List.mem_cons_self)
      show (match valD (kvs.map (·.1)) es k with
        | none => false
        | some e => f d e && dicEqF f (kvs1.map (·.1)) ds1 (kvs.map (·.1)) es) = true
      cases hq : valD (kvs.map (·.1)) es k with
      | none => rw [z1 hq] at hv; cases hv
      | some e =>
        obtain ⟨u, e1, e2⟩ := z2 hq
        rw [hv] at e1
        cases e1
        show (f d e && dicEqF f (kvs1.map (·.1)) ds1 (kvs.map (·.1)) es) = true
        rw [hS v d e (hs k d e (by rw [List.map_cons, List.zip_cons_cons]; exact List.mem_cons_self) hq) rv (r2.mem_zip e2), Bool.true_and]
        exact dic_same hS nd r2 (fun p hp => hsub p (List.mem_cons_of_mem _ hp)) rr fun k' d' e' hm => hs k' d' e' (by rw [List.map_cons, List.zip_cons_cons]; exact List.mem_cons_of_mem _ hm)
theorem rep_same {K : PySem.W.Frag} {H : Hp} : ∀ (n : Nat) (v : V) (d e : D), SameN n d e → Rep K H v d → Rep K H v e → feqN n d e = true
  | 0, v, d, e, h, r1, r2 => flat_same h r1 r2
  | n + 1, v, d, e, h, r1, r2 => by
    rcases h with h | ⟨ks, ds, ls, es, rfl, rfl, nd, hs⟩
    · rw [feqN_flat h]; exact flat_same h r1 r2
    · cases r1 with
      | dic e1 k1 l1 =>
        cases r2 with
        | dic e2 k2 l2 =>
          rw [e1] at e2
          injection e2 with e2
          injection e2 with eo ek
          injection ek with ek
          subst ek
          subst k1
          subst k2
          show ((List.map _ _).length == (List.map _ _).length && _) = true
          rw [beq_self_eq_true, Bool.true_and]
          exact dic_same (rep_same n) nd l2 (fun p hp => hp) l1 hs
section
variable {P : Program} {w : World} {K : PySem.W.Frag} {H : Hp} {s : Shared}
theorem hits_n {f : D → D → Bool} {S : D → D → Prop} {A : Around} (hS : ∀ v u x y d e, S d e → Rep K H v d → Rep K H u e → RelV v x → RelV u y → SeqAt.EqP P w A s x y (f d e)) {kvs2 : List (Key × V)} {vb : List (Key × Value)} {ds2 : List D} (rb : KV kvs2 vb) (r2 : RepL K H (kvs2.map (·.2)) ds2) :
    ∀ {kvs1 : List (Key × V)} {va : List (Key × Value)} {ds1 : List D}, KV kvs1 va → RepL K H (kvs1.map (·.2)) ds1 → (∀ k d e, (k, d) ∈ (kvs1.map (·.1)).zip ds1 → valD (kvs2.map (·.1)) ds2 k = some e → S d e) → PySem.W.KeqHitsP P w A s vb va (dicEqF f (kvs1.map (·.1)) ds1 (kvs2.map (·.1)) ds2)
  | [], _, ds1, ra, r1, _ => by
    cases ra
    have e : ds1 = [] := by
      have r1' : RepL K H [] ds1 := r1
      cases r1'
      rfl
    subst e
    exact .nil
  | (k, v) :: kvs1, _, [], ra, r1, _ => by cases r1
  | (k, v) :: kvs1, va, d :: ds1, ra, r1, hs => by
    cases ra with
    | @cons p q ps qs h t =>
      obtain ⟨h1, h2⟩ := h
      obtain ⟨key, x⟩ := q
      have h1' : k = key := h1
      subst h1'
      cases r1 with
      | cons rv rr =>
        obtain ⟨z1, z2⟩ := val_rep r2 (k := k)
        have rval := rb.val k
        show PySem.W.KeqHitsP P w A s vb ((k, x) :: qs) (match valD (kvs2.map (·.1)) ds2 k with
          | none => false
          | some e => f d e && dicEqF f (kvs1.map (·.1)) ds1 (kvs2.map (·.1)) ds2)
        cases hv : valD (kvs2.map (·.1)) ds2 k with
        | none =>
          rw [z1 hv] at rval
          refine .miss ?_
          cases hq : valueAt vb k with
          | none => rfl
          | some y => rw [hq] at rval; exact rval.elim
        | some e =>
          obtain ⟨u, e1, e2⟩ := z2 hv
          rw [e1] at rval
          obtain ⟨y, hy, ry⟩ := rval.some_of
          have ru : Rep K H u e := r2.mem_zip e2
          exact .hit hy (hS v u x y d e (hs k d e (by rw [List.map_cons, List.zip_cons_cons]; exact List.mem_cons_self) hv) rv ru h2 ry) (hits_n hS rb r2 t rr fun k' d' e' hm => hs k' d' e' (by rw [List.map_cons, List.zip_cons_cons]; exact List.mem_cons_of_mem _ hm))
theorem eqP_n (hok : HOk P w H s.heap) : ∀ (n : Nat) (A : Around), A.units + n + 2 < cLine → ∀ v u x y d e, SameN n d e → Rep K H v d → Rep K H u e → RelV v x → RelV u y → SeqAt.EqP P w A s x y (feqN n d e)
  | 0, A, hu, v, u, x, y, d, e, h, r1, r2, q1, q2 => flat_eqP h r1 r2 q1 q2
  | n + 1, A, hu, v, u, x, y, d, e, h, r1, r2, q1, q2 => by
    have hsame : v = u → feqN (n + 1) d e = true := fun ev => rep_same (n + 1) v d e h r1 (by rw [ev]; exact r2)
    rcases h with h | ⟨ks, ds, ls, es, rfl, rfl, nd, hs⟩
    · rw [feqN_flat h]; exact flat_eqP h r1 r2 q1 q2
    · cases r1 with
      | @dic a _ kvs1 _ _ e1 k1 l1 =>
        cases r2 with
        | @dic b _ kvs2 _ _ e2 k2 l2 =>
          subst k1
          subst k2
          obtain rfl : x = Value.ref a := q1
          obtain rfl : y = Value.ref b := q2
          obtain ⟨_, ya, va, ra, da⟩ := dk_rd hok (.inr ⟨_, e1⟩)
          obtain ⟨_, yb, vb, rb, db⟩ := dk_rd hok (.inr ⟨_, e2⟩)
          intro E Q h
          unfold eqBool
          refine wpAny_holding ?_
          refine wpAny_ite_split (fun hab => ?_) (fun _ => ?_)
          · have hv : V.ref a = V.ref b := by
              have := eq_of_beq hab
              cases this
              rfl
            rw [hsame hv] at h
            exact wpAny_bind (wpAny_rule (wpAny_pure h))
          · refine wpAny_bind (PySem.W.rcP_dicts (knd := mixKind P w) (r := dicEqF (feqN n) (kvs1.map (·.1)) ds (kvs2.map (·.1)) es) ya yb da db (by omega) (fun _ => hits_n (fun v u x y d e => eqP_n hok n A.in1 (by show A.units + 1 + n + 2 < cLine; omega) v u x y d e) rb l2 ra l1 hs) E _ (wpAny_truthy_bool ?_))
            rw [show va.length = (kvs1.map (·.1)).length by rw [List.length_map, ra.length], show vb.length = (kvs2.map (·.1)).length by rw [List.length_map, rb.length]]
            exact h
end
section
variable {prog : Program} {w : World} {K : Type} [DecidableEq K] {knd : KeyKind prog w K} {A : Around} {E : Value → Shared → Prop} {s : Shared}
theorem rcP_dictsNe {a b : Addr} {ka kb : List (K × Value)} {r : Bool} (ha : (a == sysModules) = false) (hb : (b == sysModules) = false)
    (da : s.heap.DictOf knd a ka) (db : s.heap.DictOf knd b kb) (hu : A.units < cLine) (hits : ka.length = kb.length → PySem.W.KeqHitsP prog w A.in1 s kb ka r) (E Q : Value → Shared → Prop) (h : Q (.bool (!(ka.length == kb.length && r))) s) : wpAny (model prog w) A (richCompare .NotEq (.ref a) (.ref b)) Q E s := by
  refine wpAny_richCompare_same_room (op := .NotEq) da.typeIs db.typeIs PySem.F.slot_dict_ne (wpAny_call_entry PySem.F.slot_dict_ne da.typeIs PySem.F.entry_dict_ne ?_ (PySem.F.args_dict_ne_2 _ _)) hu
  show wpAny _ _ (Builtin.Dict.dictSlotArgs "__ne__" ⟨[.ref a, .ref b], []⟩ >>= _) _ _ s
  refine wpAny_bind ?_
  unfold Builtin.Dict.dictSlotArgs
  refine wpAny_bind (wpAny_notOrdered_dict da.typeIs ?_)
  show wpAny _ _ (pure (Value.ref a, Value.ref b)) _ _ s
  refine wpAny_pure ?_
  refine wpAny_bind (wpAny_isInstance (T := "dict") db.typeIs PySem.F.sub_dict_dict ?_)
  simp only [Bool.not_true, Bool.false_eq_true, if_false]
  refine wpAny_bind (wpAny_pure (wpAny_bind (wpAny_pure ?_)))
  refine wpAny_bind (PySem.W.samePairsP ha hb da db hits ?_)
  refine wpAny_pure ⟨_, rfl, ?_, ?_⟩
  · exact fun x => nomatch x
  · simpa using h
end
section
variable {C : Ct}
def eqND : R2D := fun d e m Q => ∃ n ks ds ls es, n ≤ 50 ∧ d = .dic ks ds ∧ e = .dic ls es ∧ SameN (n + 1) d e ∧ Q (.bl (feqN (n + 1) d e)) m
def neND : R2D := fun d e m Q => ∃ n ks ds ls es, n ≤ 50 ∧ d = .dic ks ds ∧ e = .dic ls es ∧ SameN (n + 1) d e ∧ Q (.bl !(feqN (n + 1) d e)) m
theorem od_eqN : OpD C (compareOp .Eq) eqND := by
  rintro X fX fr H m T x y d e Q hh tx ty ⟨n, ks, ds, ls, es, hn, rfl, rfl, hs, q⟩ pins s σ v u I rx ry
  have r1 := hh.rep tx
  have r2 := hh.rep ty
  rcases hs with hs | ⟨_, _, _, _, h1, h2, nd, hs⟩
  · rcases hs with ⟨i, j, h, _⟩ | ⟨a, b, h, _⟩ <;> cases h
  cases h1
  cases h2
  cases r1 with
  | @dic a _ kvs1 _ _ e1 k1 l1 =>
    cases r2 with
    | @dic b _ kvs2 _ _ e2 k2 l2 =>
      subst k1
      subst k2
      obtain rfl : v = Value.ref a := rx
      obtain rfl : u = Value.ref b := ry
      obtain ⟨_, ya, va, ra, da⟩ := dk_rd I.hok (.inr ⟨_, e1⟩)
      obtain ⟨_, yb, vb, rb, db⟩ := dk_rd I.hok (.inr ⟨_, e2⟩)
      have hu := fX.un
      show wpAny (model X.prog X.w) X.A (richCompare .Eq (.ref a) (.ref b)) _ X.xe s
      refine PySem.W.rcP_dicts (knd := mixKind X.prog X.w) (r := dicEqF (feqN n) (kvs1.map (·.1)) ds (kvs2.map (·.1)) es) ya yb da db (by omega) (fun _ => hits_n (fun v u x y d e => eqP_n I.hok n X.A.in1 (by show X.A.units + 1 + n + 2 < cLine; omega) v u x y d e) rb l2 ra l1 hs) _ _ ?_
      refine ⟨V.bl (va.length == vb.length && dicEqF (feqN n) (kvs1.map (·.1)) ds (kvs2.map (·.1)) es), H, I, by exact rfl, ?_⟩
      rw [show va.length = (kvs1.map (·.1)).length by rw [List.length_map, ra.length], show vb.length = (kvs2.map (·.1)).length by rw [List.length_map, rb.length]]
      exact dk_bl hh q
theorem od_neN : OpD C (compareOp .NotEq) neND := by
  rintro X fX fr H m T x y d e Q hh tx ty ⟨n, ks, ds, ls, es, hn, rfl, rfl, hs, q⟩ pins s σ v u I rx ry
  have r1 := hh.rep tx
  have r2 := hh.rep ty
  rcases hs with hs | ⟨_, _, _, _, h1, h2, nd, hs⟩
  · rcases hs with ⟨i, j, h, _⟩ | ⟨a, b, h, _⟩ <;> cases h
  cases h1
  cases h2
  cases r1 with
  | @dic a _ kvs1 _ _ e1 k1 l1 =>
    cases r2 with
    | @dic b _ kvs2 _ _ e2 k2 l2 =>
      subst k1
      subst k2
      obtain rfl : v = Value.ref a := rx
      obtain rfl : u = Value.ref b := ry
      obtain ⟨_, ya, va, ra, da⟩ := dk_rd I.hok (.inr ⟨_, e1⟩)
      obtain ⟨_, yb, vb, rb, db⟩ := dk_rd I.hok (.inr ⟨_, e2⟩)
      have hu := fX.un
      show wpAny (model X.prog X.w) X.A (richCompare .NotEq (.ref a) (.ref b)) _ X.xe s
      refine rcP_dictsNe (knd := mixKind X.prog X.w) (r := dicEqF (feqN n) (kvs1.map (·.1)) ds (kvs2.map (·.1)) es) ya yb da db (by omega) (fun _ => hits_n (fun v u x y d e => eqP_n I.hok n X.A.in1 (by show X.A.units + 1 + n + 2 < cLine; omega) v u x y d e) rb l2 ra l1 hs) _ _ ?_
      refine ⟨V.bl (!(va.length == vb.length && dicEqF (feqN n) (kvs1.map (·.1)) ds (kvs2.map (·.1)) es)), H, I, by exact rfl, ?_⟩
      rw [show va.length = (kvs1.map (·.1)).length by rw [List.length_map, ra.length], show vb.length = (kvs2.map (·.1)).length by rw [List.length_map, rb.length]]
      exact dk_bl hh q
end
end G

/-! When two rows of sizes are equal: for the program's own ==, for the law's dicts. -/
namespace G
open PySem PySem.Spec PyProof.Rows L2
theorem nodup_of_map {α β : Type} {f : α → β} : ∀ {l : List α}, (l.map f).Nodup → l.Nodup
  | [], _ => List.nodup_nil
  | x :: l, h => by
    rw [List.map_cons, List.nodup_cons] at h
    exact List.nodup_cons.mpr ⟨fun m => h.1 (List.mem_map.mpr ⟨x, m, rfl⟩), nodup_of_map h.2⟩
theorem nodup_inl : ∀ {l : List Int}, l.Nodup → (l.map (Sum.inl : Int → Key)).Nodup
  | [], _ => List.nodup_nil
  | x :: l, h => by
    rw [List.nodup_cons] at h
    rw [List.map_cons, List.nodup_cons]
    refine ⟨fun m => ?_, nodup_inl h.2⟩
    obtain ⟨y, hy, e⟩ := List.mem_map.mp m
    cases e
    exact h.1 hy
theorem nodup_lenG {α : Type} [DecidableEq α] : ∀ (a b : List α), a.Nodup → (∀ q ∈ a, q ∈ b) → a.length ≤ b.length
  | [], _, _, _ => Nat.zero_le _
  | x :: a, b, nd, h => by
    rw [List.nodup_cons] at nd
    have hx := h x List.mem_cons_self
    have ih := nodup_lenG a (b.erase x) nd.2 fun q hq => (List.mem_erase_of_ne (fun e : q = x => nd.1 (by rw [← e]; exact hq))).mpr (h q (List.mem_cons_of_mem _ hq))
    rw [List.length_erase_of_mem hx] at ih
    have := List.length_pos_of_mem hx
    rw [List.length_cons]
    omega
/-- as long, every one of the first in the second: the same -/
theorem same_mem {α : Type} [DecidableEq α] {a b : List α} (na : a.Nodup) (hl : a.length = b.length) (h : ∀ q ∈ a, q ∈ b) : ∀ q, q ∈ a ↔ q ∈ b := fun q => ⟨h q, fun hq => by
  by_cases hn : q ∈ a
  · exact hn
  · have := nodup_lenG (q :: a) b (List.nodup_cons.mpr ⟨hn, na⟩) fun j hj => (List.mem_cons.mp hj).elim (fun e => e ▸ hq) (h j)
    rw [List.length_cons] at this
    omega⟩
theorem same_len {α : Type} [DecidableEq α] {a b : List α} (na : a.Nodup) (nb : b.Nodup) (h : ∀ q, q ∈ a ↔ q ∈ b) : a.length = b.length := Nat.le_antisymm (nodup_lenG a b na fun q hq => (h q).1 hq) (nodup_lenG b a nb fun q hq => (h q).2 hq)
theorem dicEq_V {g2 : List (Int × Int)} : ∀ g1 : List (Int × Int), dicEq (keysV g1) (valsV g1) (keysV g2) (valsV g2) = true ↔ ∀ q ∈ g1, g2.lookup q.1 = some q.2
  | [] => ⟨fun _ q h => (by cases h), fun _ => rfl⟩
  | (k, v) :: g1 => by
    have ih := dicEq_V (g2 := g2) g1
    show (match valD (keysV g2) (valsV g2) (.inl k) with
      | none => false
      | some e => feqD (.int v) e && dicEq (keysV g1) (valsV g1) (keysV g2) (valsV g2)) = true ↔ _
    rw [val_given]
    cases e : g2.lookup k with
    | none => exact ⟨fun h => (by cases h), fun h => (by have := h (k, v) List.mem_cons_self; rw [e] at this; cases this)⟩
    | some u =>
      show ((v == u) && dicEq (keysV g1) (valsV g1) (keysV g2) (valsV g2)) = true ↔ _
      rw [Bool.and_eq_true, ih, beq_iff_eq]
      constructor
      · rintro ⟨rfl, h⟩ q hq
        rcases List.mem_cons.mp hq with e1 | e1
        · rw [e1]; exact e
        · exact h q e1
      · intro h
        have h1 := h (k, v) List.mem_cons_self
        rw [e] at h1
        exact ⟨(Option.some.inj h1).symm, fun q hq => h q (List.mem_cons_of_mem _ hq)⟩
theorem eq_V {g1 g2 : List (Int × Int)} (n1 : (g1.map (·.1)).Nodup) (n2 : (g2.map (·.1)).Nodup) : ((keysV g1).length == (keysV g2).length && dicEq (keysV g1) (valsV g1) (keysV g2) (valsV g2)) = true ↔ ∀ q, q ∈ g1 ↔ q ∈ g2 := by
  rw [Bool.and_eq_true, dicEq_V, beq_iff_eq]
  have k1 : (keysV g1).length = g1.length := by simp [keysV]
  have k2 : (keysV g2).length = g2.length := by simp [keysV]
  rw [k1, k2]
  constructor
  · rintro ⟨hl, h⟩
    exact same_mem (nodup_of_map n1) hl fun q hq => lookup_mem (h q hq)
  · intro h
    exact ⟨same_len (nodup_of_map n1) (nodup_of_map n2) h, fun q hq => mem_lookup n2 ((h q).1 hq)⟩
theorem dicEq_N {g2 : List Int} : ∀ g1 : List Int, dicEq (keysN g1) (valsN g1) (keysN g2) (valsN g2) = true ↔ ∀ q ∈ g1, q ∈ g2
  | [] => ⟨fun _ q h => (by cases h), fun _ => rfl⟩
  | k :: g1 => by
    have ih := dicEq_N (g2 := g2) g1
    have hv := val_gone (k := k) g2
    show (match valD (keysN g2) (valsN g2) (.inl k) with
      | none => false
      | some e => feqD (.bl true) e && dicEq (keysN g1) (valsN g1) (keysN g2) (valsN g2)) = true ↔ _
    cases e : valD (keysN g2) (valsN g2) (.inl k) with
    | none =>
      rw [e] at hv
      exact ⟨fun h => (by cases h), fun h => (by rw [decide_eq_true (h k List.mem_cons_self)] at hv; cases hv)⟩
    | some u =>
      have hk : k ∈ g2 := by rw [e] at hv; exact of_decide_eq_true hv.symm
      obtain ⟨j, _, rfl⟩ := List.mem_map.mp (valD_mem e)
      show ((true == true) && dicEq (keysN g1) (valsN g1) (keysN g2) (valsN g2)) = true ↔ _
      rw [Bool.and_eq_true, ih]
      exact ⟨fun h q hq => (List.mem_cons.mp hq).elim (fun e1 => e1 ▸ hk) (h.2 q), fun h => ⟨rfl, fun q hq => h q (List.mem_cons_of_mem _ hq)⟩⟩
theorem eq_N {g1 g2 : List Int} (n1 : g1.Nodup) (n2 : g2.Nodup) : ((keysN g1).length == (keysN g2).length && dicEq (keysN g1) (valsN g1) (keysN g2) (valsN g2)) = true ↔ ∀ q, q ∈ g1 ↔ q ∈ g2 := by
  rw [Bool.and_eq_true, dicEq_N, beq_iff_eq]
  have k1 : (keysN g1).length = g1.length := by simp [keysN]
  have k2 : (keysN g2).length = g2.length := by simp [keysN]
  rw [k1, k2]
  exact ⟨fun ⟨hl, h⟩ => same_mem n1 hl h, fun h => ⟨same_len n1 n2 h, fun q hq => (h q).1 hq⟩⟩
namespace Sz
def eqB (z y : Sz) : Bool := decide (z.n = y.n) && decide (z.c = y.c) && ((keysV z.gv).length == (keysV y.gv).length && dicEq (keysV z.gv) (valsV z.gv) (keysV y.gv) (valsV y.gv)) && ((keysN z.gn).length == (keysN y.gn).length && dicEq (keysN z.gn) (valsN z.gn) (keysN y.gn) (valsN y.gn))
theorem eqB_iff {z y : Sz} (o : z.Ok) (o2 : y.Ok) : z.eqB y = true ↔ z.Eqv y := by
  unfold eqB
  rw [Bool.and_eq_true, Bool.and_eq_true, Bool.and_eq_true, eq_V o.dv o2.dv, eq_N o.dn o2.dn, decide_eq_true_eq, decide_eq_true_eq]
  exact ⟨fun ⟨⟨⟨a, b⟩, c⟩, d⟩ => ⟨a, b, c, d⟩, fun ⟨a, b, c, d⟩ => ⟨⟨⟨a, b⟩, c⟩, d⟩⟩
theorem eqB_congr {z y z' y' : Sz} (o : z.Ok) (o2 : y.Ok) (o' : z'.Ok) (o2' : y'.Ok) (e1 : z.Eqv z') (e2 : y.Eqv y') : z.eqB y = z'.eqB y' := by
  rw [Bool.eq_iff_iff, eqB_iff o o2, eqB_iff o' o2']
  exact ⟨fun h => (e1.symm.trans h).trans e2, fun h => (e1.trans h).trans e2.symm⟩
end Sz
theorem dicEqF_flat : ∀ (ks : List Key) (ds : List D) (ls : List Key) (es : List D), dicEqF (feqN 0) ks ds ls es = dicEq ks ds ls es
  | [], _, _, _ => by unfold dicEqF dicEq; rfl
  | _ :: _, [], _, _ => by unfold dicEqF dicEq; rfl
  | k :: ks, d :: ds, ls, es => by
    show (match valD ls es k with | none => false | some e => feqN 0 d e && dicEqF (feqN 0) ks ds ls es) = (match valD ls es k with | none => false | some e => feqD d e && dicEq ks ds ls es)
    cases valD ls es k with
    | none => rfl
    | some e => show (feqD d e && _) = _; rw [dicEqF_flat ks ds ls es]
theorem feq_zD (z y : Sz) : feqN 2 (zD z) (zD y) = z.eqB y := by
  have h : feqN 2 (zD z) (zD y) = (true && (feqD (.int z.n) (.int y.n) && (feqD (.int z.c) (.int y.c) && ((((keysV z.gv).length == (keysV y.gv).length) && dicEqF (feqN 0) (keysV z.gv) (valsV z.gv) (keysV y.gv) (valsV y.gv)) && ((((keysN z.gn).length == (keysN y.gn).length) && dicEqF (feqN 0) (keysN z.gn) (valsN z.gn) (keysN y.gn) (valsN y.gn)) && true))))) := by rfl
  rw [h, dicEqF_flat, dicEqF_flat]
  show (true && ((z.n == y.n) && ((z.c == y.c) && _))) = _
  unfold Sz.eqB
  rw [Bool.true_and, Bool.and_true]
  have i1 : (z.n == y.n) = decide (z.n = y.n) := by rw [Bool.eq_iff_iff]; simp
  have i2 : (z.c == y.c) = decide (z.c = y.c) := by rw [Bool.eq_iff_iff]; simp
  rw [i1, i2]
  simp only [Bool.and_assoc]
theorem same_zD {z y : Sz} (o : z.Ok) : SameN 2 (zD z) (zD y) := by
  refine .inr ⟨zK, _, zK, _, rfl, rfl, by decide +kernel, fun k d e hm hv => ?_⟩
  have hm : (k, d) ∈ [((Sum.inr "many" : Key), D.int z.n), (Sum.inr "common", .int z.c), (Sum.inr "own", .dic (keysV z.gv) (valsV z.gv)), (Sum.inr "gone", .dic (keysN z.gn) (valsN z.gn))] := hm
  simp only [List.mem_cons, List.not_mem_nil, or_false, Prod.mk.injEq] at hm
  rcases hm with ⟨rfl, rfl⟩ | ⟨rfl, rfl⟩ | ⟨rfl, rfl⟩ | ⟨rfl, rfl⟩
  · rw [show e = D.int y.n from (Option.some.inj (show some (D.int y.n) = some e from hv)).symm]
    exact .inl (.inl ⟨_, _, rfl, rfl⟩)
  · rw [show e = D.int y.c from (Option.some.inj (show some (D.int y.c) = some e from hv)).symm]
    exact .inl (.inl ⟨_, _, rfl, rfl⟩)
  · rw [show e = D.dic (keysV y.gv) (valsV y.gv) from (Option.some.inj (show some (D.dic (keysV y.gv) (valsV y.gv)) = some e from hv)).symm]
    refine .inr ⟨_, _, _, _, rfl, rfl, nodup_inl o.dv, fun k d e hm hv => ?_⟩
    exact sameI d (List.of_mem_zip hm).2 e (valD_mem hv)
  · rw [show e = D.dic (keysN y.gn) (valsN y.gn) from (Option.some.inj (show some (D.dic (keysN y.gn) (valsN y.gn)) = some e from hv)).symm]
    refine .inr ⟨_, _, _, _, rfl, rfl, nodup_inl o.dn, fun k d e hm hv => ?_⟩
    exact sameB d (List.of_mem_zip hm).2 e (valD_mem hv)
end G

/-! isinstance of plain data against a class; what a row of sizes says of other things. -/
namespace G
open PySem PySem.Spec PyProof.Rows L2
def isiT (C : Ct) : RLD := fun ds m Q => ∃ d t k b, ds = [d, .ref k] ∧ tyD d = some t ∧ PySem.W.kitOne C.K (.type t) (.ref k) = some b ∧ Q (.bl b) m
section
variable {C : Ct}
theorem cd_isiT : CallD C (.builtin "isinstance") (isiT C) := by
  rintro X f fr H m T vs ds Q hl hh ⟨d, t, k, b, rfl, ht, hk, q⟩
  obtain ⟨v, u, rfl⟩ := two_of hl
  have ty := hh.tyX (PlL.at (i := 0) (v := v) (d := d) rfl rfl) ht
  have r2 := hh.rep (PlL.at (i := 1) (v := u) (d := .ref k) rfl rfl)
  cases r2
  exact wc_of call_isi ⟨v, .ref k, .type t, .ref k, b, rfl, .own k, by rw [f.K]; exact ty, by rw [f.K]; exact hk, dK.le (dk_bl hh q) PlL.le⟩
end
/-- == against what is no row of sizes -/
def FEqX (K : PySem.W.Frag) (cA : Addr) : DF := fun ds m Q _ => ∃ p e t, ds = [.ref p, e] ∧ tyD e = some t ∧ PySem.W.kitOne K (.type t) (.ref cA) = some false ∧ Q (.bl false) m
theorem FEqX.len {K : PySem.W.Frag} {cA : Addr} : ∀ ds m Q E, FEqX K cA ds m Q E → ds.length = (["self", "other"] : List Str).length := by rintro ds m Q E ⟨p, e, t, rfl, _⟩; rfl
/-- one drawn deed, done to the row and to the law's own -/
def FTurned (cA : Addr) : DF := fun ds m Q _ => ∃ h p ps z y, ds = [.ref p, .ref ps, zD y] ∧ Abs h m ∧ h p = some bDraw ∧ h ps = some (bSz cA z) ∧ p ≠ ps ∧ z.Eqv y ∧ z.Ok ∧ y.Ok ∧ z.n ≤ 20 ∧ ∀ z' y' m', z'.Eqv y' → z'.Ok → y'.Ok → z'.n ≤ 20 → Abs (hput h ps (bSz cA z')) m' → Q (zD y') m'
theorem FTurned.len {cA : Addr} : ∀ ds m Q E, FTurned cA ds m Q E → ds.length = (["_law_draw", "_law_sizes", "_law_z_here"] : List Str).length := by rintro ds m Q E ⟨h, p, ps, z, y, rfl, _⟩; rfl
end G

/-! Rows of sizes beside the law's own, several at once. -/
namespace G
open PySem PySem.Spec PyProof.Rows L2
structure Row (cA : Addr) (h : HSt) (t : Addr × Sz × Sz) : Prop where
  at_ : h t.1 = some (bSz cA t.2.1)
  eqv : t.2.1.Eqv t.2.2
  ok : t.2.1.Ok
  ok2 : t.2.2.Ok
  n20 : t.2.1.n ≤ 20
theorem Row.put {cA q : Addr} {h : HSt} {b : B} {t : Addr × Sz × Sz} (r : Row cA h t) (n : t.1 ≠ q) : Row cA (hput h q b) t := ⟨(hput_ne n).trans r.at_, r.eqv, r.ok, r.ok2, r.n20⟩
theorem Row.del {cA q : Addr} {h : HSt} {t : Addr × Sz × Sz} (r : Row cA h t) (n : t.1 ≠ q) : Row cA (hdel h q) t := ⟨(hdel_ne n).trans r.at_, r.eqv, r.ok, r.ok2, r.n20⟩
theorem Row.ne {cA q : Addr} {h : HSt} {t : Addr × Sz × Sz} (r : Row cA h t) (n : h q = none) : t.1 ≠ q := fun e => by have := r.at_; rw [e, n] at this; cases this
theorem Row.neA {cA q : Addr} {h : HSt} {m : Sto} {l : List D} {t : Addr × Sz × Sz} (A : Abs h m) (r : Row cA h t) (n : h q = some (bRaw (.lst l))) : t.1 ≠ q := fun e => by
  obtain ⟨a1, a2, h1, _⟩ := A.sz r.at_
  have := A.raw n
  rw [← e, h1] at this
  cases this
theorem bl_refl : ∀ a : Bool, eqvD (.bl a) (.bl a) = true := by intro a; cases a <;> rfl
theorem ne_same {a b : Bool} {m : Sto} {Q : D → Sto → Prop} (h : a = b) (q : Q (.bl false) m) : neD (.bl a) (.bl b) m Q := ⟨1, by omega, rfl, rfl, by rw [h, bl_refl]; exact q⟩
section
variable {cA p q : Addr} {z y : Sz} {m : Sto} {Q : D → Sto → Prop} {K : PySem.W.Frag}
theorem eqI_go (hz : SzAt cA m p z) (hy : SzAt cA m q y) (k : Q (.bl (z.eqB y)) m) : ∃ a b fs gs, D.ref p = .ref a ∧ D.ref q = .ref b ∧ m a = some (.ins cA fs) ∧ m b = some (.ins cA gs) ∧ FEq cA [.ref p, .ref q] m (fun z m' => ∃ v, z = .bl v ∧ Q z m') fun _ _ _ => False := by
  obtain ⟨a1, a2, h1, h2, h3, h4⟩ := id hz
  obtain ⟨b1, b2, g1, g2, g3, g4⟩ := id hy
  exact ⟨_, _, _, _, rfl, rfl, h1, g1, p, q, z, y, rfl, hz, hy, _, rfl, k⟩
theorem neI_go (hz : SzAt cA m p z) (hy : SzAt cA m q y) (k : Q (.bl (!z.eqB y)) m) : ∃ a b fs gs, D.ref p = .ref a ∧ D.ref q = .ref b ∧ m a = some (.ins cA fs) ∧ m b = some (.ins cA gs) ∧ FEq cA [.ref p, .ref q] m (fun z m' => ∃ v, z = .bl v ∧ Q (.bl !v) m') fun _ _ _ => False := by
  obtain ⟨a1, a2, h1, h2, h3, h4⟩ := id hz
  obtain ⟨b1, b2, g1, g2, g3, g4⟩ := id hy
  exact ⟨_, _, _, _, rfl, rfl, h1, g1, p, q, z, y, rfl, hz, hy, _, rfl, k⟩
theorem eqX_go {e : D} {t : String} (hz : SzAt cA m p z) (ht : tyD e = some t) (nf : TyNF t) (hk : PySem.W.kitOne K (.type t) (.ref cA) = some false) (k : Q (.bl false) m) : ∃ a fs t, D.ref p = .ref a ∧ m a = some (.ins cA fs) ∧ tyD e = some t ∧ TyNF t ∧ FEqX K cA [.ref p, e] m (fun z m' => ∃ v, z = .bl v ∧ Q z m') fun _ _ _ => False := by
  obtain ⟨a1, a2, h1, h2, h3, h4⟩ := id hz
  exact ⟨_, _, t, rfl, h1, ht, nf, p, e, t, rfl, ht, hk, _, rfl, k⟩
theorem eqZ_go {z y : Sz} (o : z.Ok) (k : Q (.bl (z.eqB y)) m) : eqND (zD z) (zD y) m Q := ⟨1, _, _, _, _, by omega, rfl, rfl, same_zD o, by rw [feq_zD]; exact k⟩
theorem neZ_go {z y : Sz} (o : z.Ok) (k : Q (.bl (!z.eqB y)) m) : neND (zD z) (zD y) m Q := ⟨1, _, _, _, _, by omega, rfl, rfl, same_zD o, by rw [feq_zD]; exact k⟩
def repM : R2D := fun d e m Q => ∃ l k, d = .lst l ∧ e = .int k ∧ 0 ≤ k ∧ k ≤ 100000 ∧ l.length * k.toNat ≤ sizeLine ∧ ∀ p, m p = none → Q (.ref p) (sput m p (.lst (List.replicate k.toNat l).flatten))
end
/-- list * int as an object -/
theorem od_repM {C : Ct} : OpD C (binaryOp .Mult) repM := by
  rintro X f fr H m T x y d e Q hh tx ty ⟨l, k, rfl, rfl, h1, h2, hz, q⟩
  have ry := hh.rep ty
  cases ry
  obtain ⟨a, xs, rfl, hu, hl, h4⟩ := hh.itemsL tx
  refine wb_of op_rep ⟨a, k, xs, rfl, rfl, hu, by omega, by omega, by rw [hl]; exact hz, fun p hp => dK.le (dk_lstM h4 hp (fun Hi kk => rep_flat (PlL.rep (T := T) hl fun v d z => kk v d z) k.toNat) q) PlL.le⟩
theorem Row.neD {cA p q : Addr} {h : HSt} {m : Sto} {z : Sz} (A : Abs h m) (hd : h p = some bDraw) (s : h q = some (bSz cA z)) : p ≠ q := fun e => by
  obtain ⟨a1, a2, h1, _⟩ := A.sz s
  obtain ⟨o, ho, ⟨ns, i, b, s', c, rfl, _⟩, _⟩ := A.draw hd
  rw [e, h1] at ho
  cases ho
theorem Row.turn {cA pk : Addr} {h : HSt} {b : B} {L : List (Addr × Sz × Sz)} {T : List Addr} {i : Nat} {t : Addr × Sz × Sz} {z2 y2 : Sz} (hL : L.map (·.1) = T) (nd : T.Nodup) (ht : L[i]? = some t) (hrow : ∀ u ∈ L, Row cA h u) (hpk : ∀ u ∈ L, u.1 ≠ pk) (hv : z2.Eqv y2) (o : z2.Ok) (o2 : y2.Ok) (n : z2.n ≤ 20) :
    (L.set i (t.1, z2, y2)).map (·.1) = T ∧ ∀ u ∈ L.set i (t.1, z2, y2), Row cA (hput (hput h t.1 (bSz cA z2)) pk b) u := by
  have hi := (List.getElem?_eq_some_iff.mp ht).1
  constructor
  · rw [← hL]
    refine List.ext_getElem? fun j => ?_
    rw [List.getElem?_map, List.getElem?_map, List.getElem?_set]
    by_cases e : i = j
    · subst e
      rw [if_pos rfl, if_pos hi, ht]
      rfl
    · rw [if_neg e]
  · intro u hu
    obtain ⟨j, hj⟩ := List.mem_iff_getElem?.mp hu
    rw [List.getElem?_set] at hj
    by_cases e : i = j
    · subst e
      rw [if_pos rfl, if_pos hi] at hj
      cases hj
      exact ⟨(hput_ne (hpk t (List.mem_of_getElem? ht))).trans hput_same, hv, o, o2, n⟩
    · rw [if_neg e] at hj
      have hu2 := List.mem_of_getElem? hj
      refine ((hrow u hu2).put ?_).put (hpk u hu2)
      intro e1
      have hT1 : T[i]? = some t.1 := by rw [← hL, List.getElem?_map, ht]; rfl
      have hT2 : T[j]? = some u.1 := by rw [← hL, List.getElem?_map, hj]; rfl
      obtain ⟨b1, c1⟩ := List.getElem?_eq_some_iff.mp hT1
      obtain ⟨b2, c2⟩ := List.getElem?_eq_some_iff.mp hT2
      have pw := List.pairwise_iff_getElem.mp nd
      rcases Nat.lt_or_ge i j with l | l
      · exact pw i j b1 b2 l (by rw [c1, c2, e1])
      · exact pw j i b2 b1 (by omega) (by rw [c1, c2, e1])
end G

/-! The law's end, over the data layer. -/
namespace G
open PySem PySem.Spec PyProof.Rows L2
theorem walk_w {l : PySem.W.OpenLaw} {k : Nat} {q : Program} {loose : List Str} {XP : (Str → Option Value) → Heap → Prop} {YP : World → Heap → Prop} {d : DefRec} {x : Str}
    (most : l.most = some 63) (plain : d.params.defaults = []) (room : Room k callerA)
    (F : ∀ (w : World) (g : Str → Option Value) (a : Addr) (h : Heap), YP w h → h.Ns mainGlobals g → g d.name = some (.ref a) →
      ∃ (K : PySem.W.Frag) (fd : FuncData), K.In h ∧ (∀ (s : Shared) (u : Value), BindsTo s fd ⟨[u], []⟩ [(x, u)]) ∧
        ∀ base : Heap, K.In base → base.Ns mainGlobals g → FnOk l.prog w K g base (L2.CX l.prog w) k a fd [x] (spD K FLaw)) :
    PySem.W.WalkO q loose XP YP l.row.toRowW d [] (fun f vs => PySem.call f vs) :=
  Att.attach_call most plain fun w s₀ s₁ g mb fa o pm cd doc a vs ns G Y own hd hcd at_ ob isI len gens => by
    obtain ⟨K, fd, KX, bind, ok⟩ := F w g fa _ Y G.T.g at_
    have len2 : ns.length ≤ sizeLine := Nat.le_trans len (by decide)
    exact law_call KX G.T.g G.T.b G.T.builtins G.T.nolimit gens ob isI len2 room ok bind (fun H _ hS => law_sp len hS) fun H e s' => cx_never
end G

/-! Boxes as data; a box drawn; lists of numbers as data. -/
namespace G
open PySem PySem.Spec PyProof.Rows L2
abbrev boxD (a b h w : Int) : D := .tup [.int a, .int b, .int h, .int w]
def FBox : DF := fun ds m Q _ => ∃ p n o, ds = [.ref p, .int n] ∧ m p = some o ∧ IsDraw o ∧ 0 < n ∧ n < 1073741824 ∧ ∀ a b h w o', 0 ≤ a → a < 1073741824 → 0 ≤ b → b < 6 → 1 ≤ h → h ≤ 5 → 1 ≤ w → w ≤ 5 → IsDraw o' → Q (boxD a b h w) (sput m p o')
theorem FBox.len : ∀ ds m Q E, FBox ds m Q E → ds.length = (["_law_draw", "_law_far"] : List Str).length := by
  rintro ds m Q E ⟨_, _, _, rfl, _⟩
  rfl
theorem use_box {m : Sto} {Q : D → Sto → Prop} {E : Value → List (Str × D) → Sto → Prop} {p : Addr} {n : Int} {o : O} (hd : IsDraw o) (h0 : 0 < n) (h1 : n < 1073741824) (h : ∀ a b h w o', 0 ≤ a → a < 1073741824 → 0 ≤ b → b < 6 → 1 ≤ h → h ≤ 5 → 1 ≤ w → w ≤ 5 → IsDraw o' → Q (boxD a b h w) (sput m p o')) : FBox [.ref p, .int n] (sput m p o) Q E :=
  ⟨p, n, o, rfl, sput_same, hd, h0, h1, fun a b x w o' u1 u2 u3 u4 u5 u6 u7 u8 d => by rw [sput_sput]; exact h a b x w o' u1 u2 u3 u4 u5 u6 u7 u8 d⟩
theorem ixT2i {m : Sto} {Q : D → Sto → Prop} {x y i : Int} (h0 : 0 ≤ i) (h1 : i < 2) (q : ∀ z, (z = x ∨ z = y) → Q (.int z) m) : ixD (.tup [.int x, .int y]) (.int i) m Q := by
  obtain rfl | rfl : i = 0 ∨ i = 1 := by omega
  · exact ixT 0 rfl (q x (.inl rfl))
  · exact ixT 1 rfl (q y (.inr rfl))
theorem ixBox {m : Sto} {Q : D → Sto → Prop} {a b h w i : Int} (h0 : 0 ≤ i) (h1 : i < 4) (q : ∀ z, ((i = 0 → z = a) ∧ (i = 1 → z = b)) ∧ ((i = 2 → z = h) ∧ (i = 3 → z = w)) → Q (.int z) m) : ixD (boxD a b h w) (.int i) m Q := by
  obtain rfl | rfl | rfl | rfl : i = 0 ∨ i = 1 ∨ i = 2 ∨ i = 3 := by omega
  · exact ixT 0 rfl (q a (by omega))
  · exact ixT 1 rfl (q b (by omega))
  · exact ixT 2 rfl (q h (by omega))
  · exact ixT 3 rfl (q w (by omega))
def rngI (lo : Int) (n : Nat) : List Int := (List.range n).map fun i => lo + (i : Nat)
theorem rngI_succ (lo : Int) (n : Nat) : rngI lo (n + 1) = rngI lo n ++ [lo + (n : Nat)] := by
  unfold rngI
  rw [List.range_succ, List.map_append]
  rfl
theorem rngI_len (lo : Int) (n : Nat) : (rngI lo n).length = n := by simp [rngI]
theorem rngI_first (b : Int) (k : Nat) (hk : 1 ≤ k) : (rngI b k)[0]? = some b := by
  obtain ⟨k, rfl⟩ : ∃ j, k = j + 1 := ⟨k - 1, by omega⟩
  unfold rngI
  rw [List.range_succ_eq_map]
  simp
theorem rngI_last (b : Int) (k : Nat) (hk : 1 ≤ k) : (rngI b k).getLast? = some (b + (k : Nat) - 1) := by
  obtain ⟨k, rfl⟩ : ∃ j, k = j + 1 := ⟨k - 1, by omega⟩
  rw [rngI_succ, List.getLast?_append]
  have e : b + (k : Nat) = b + ((k + 1 : Nat) : Int) - 1 := by omega
  rw [e]
  simp
end G

/-! The head's facts beyond the hook's own: tuples of texts, classes of errors. -/
namespace G
open PySem PySem.Spec PyProof.Rows L2
def strsB : List Value → List Str → Bool
  | [], [] => true
  | .str y _ :: vs, z :: zs => decide (y = z) && strsB vs zs
  | _, _ => false
theorem strsB_ok : ∀ {vs : List Value} {zs : List Str}, strsB vs zs = true → Vals (zs.map V.str) vs
  | [], [], _ => .nil
  | .str y t :: vs, z :: zs, h => by
    have h2 : (decide (y = z) && strsB vs zs) = true := h
    obtain ⟨h3, h4⟩ := He.ba h2
    have e : y = z := of_decide_eq_true h3
    subst e
    exact .cons ⟨t, rfl⟩ (strsB_ok h4)
  | [], _ :: _, h => by cases h
  | .none :: _, [], h => by cases h
  | .str _ _ :: _, [], h => by cases h
  | .none :: _, _ :: _, h => by cases h
  | .bool _ :: _, [], h => by cases h
  | .bool _ :: _, _ :: _, h => by cases h
  | .int _ _ :: _, [], h => by cases h
  | .int _ _ :: _, _ :: _, h => by cases h
  | .ref _ :: _, [], h => by cases h
  | .ref _ :: _, _ :: _, h => by cases h
  | .type _ :: _, [], h => by cases h
  | .type _ :: _, _ :: _, h => by cases h
  | .builtin _ :: _, [], h => by cases h
  | .builtin _ :: _, _ :: _, h => by cases h
def tupB (K : PySem.W.Frag) (x : Str) (zs : List Str) : Bool := match K.lookup (He.ga K x) with
  | some ⟨.type c, none, .seq its _, _⟩ => decide (c = "tuple") && (decide (its.size ≤ sizeLine) && strsB its.toList zs)
  | _ => false
theorem tupB_ok {K : PySem.W.Frag} {mg : Str → Option Value} {x : Str} {zs : List Str} (h : tupB K x zs = true) (hm : mg x = some (.ref (He.ga K x))) : TupK K mg x zs := by
  unfold tupB at h
  cases q : K.lookup (He.ga K x) with
  | none =>
    rw [q] at h
    cases h
  | some o =>
    obtain ⟨oc, od, dt, osl⟩ := o
    rw [q] at h
    cases oc with
    | type c =>
      cases od with
      | none =>
        cases dt with
        | seq its n =>
          obtain ⟨h1, h2⟩ := He.ba h
          obtain ⟨h3, h4⟩ := He.ba h2
          have e : c = "tuple" := of_decide_eq_true h1
          exact ⟨_, _, its, n, hm, q, congrArg Value.type e, rfl, rfl, of_decide_eq_true h3, strsB_ok h4⟩
        | _ => cases h
      | some d => cases dt <;> cases h
    | _ => cases od <;> cases dt <;> cases h
theorem ec_of {K : PySem.W.Frag} {mg : Str → Option Value} {x : Str} (c : (He.Fa.exc x).ok K = true) (hm : mg x = some (.ref (He.ga K x))) : Ec K mg x (He.ga K x) := by
  obtain ⟨h1, h2, h3, h4⟩ := He.exc_ok c
  exact ⟨hm, h2, h1, h3, h4⟩
end G

/-! Facts at the head: classes of errors, as isinstance asks for them. -/
namespace G
open PySem PySem.Spec PyProof.Rows L2
def exIsB (K : PySem.W.Frag) (x : Str) : Bool :=
  He.eqO (PySem.W.findIn K (.ref (He.ga K x)) "__getattribute__") (some (some (.builtin "BaseException.__getattribute__"))) &&
  (He.eqO (PySem.W.findIn K (.ref (He.ga K x)) "__getattr__") (some none) &&
  (decide (PySem.W.subIn K (.ref (He.ga K x)) (.type "BaseException") = some true) &&
  (PySem.W.hasDictIn K (He.ga K x) &&
  (He.eqO (PySem.W.findIn K (.ref (He.ga K x)) "__class__") (some (some (.builtin "object.__class__"))) &&
  (He.eqO (PySem.W.specialIn K (.builtin "object.__class__") "__get__") (some (some (.builtin "getset_descriptor.__get__"))) &&
  (decide (PySem.W.takesIn K (.builtin "object.__class__") = some true) &&
  decide (PySem.W.mroIn K (He.ga K x) (.type "object") = some true)))))))
theorem exIsB_ok {K : PySem.W.Frag} {x : Str} (h : exIsB K x = true) : ExcC K (He.ga K x) := by
  unfold exIsB at h
  obtain ⟨h1, h⟩ := He.ba h
  obtain ⟨h2, h⟩ := He.ba h
  obtain ⟨h3, h⟩ := He.ba h
  obtain ⟨h4, h⟩ := He.ba h
  obtain ⟨h5, h⟩ := He.ba h
  obtain ⟨h6, h⟩ := He.ba h
  obtain ⟨h7, h8⟩ := He.ba h
  exact ⟨He.eqO_ok h1, He.eqO_ok h2, of_decide_eq_true h3, h4, He.eqO_ok h5, He.eqO_ok h6, of_decide_eq_true h7, of_decide_eq_true h8⟩
end G

/-! Facts at the head: classes of instances, errors over IndexError. -/
namespace G
open PySem PySem.Spec PyProof.Rows L2
def insIsB (K : PySem.W.Frag) (x : Str) : Bool :=
  He.eqO (PySem.W.findIn K (.ref (He.ga K x)) "__class__") (some (some (.builtin "object.__class__"))) &&
  (He.eqO (PySem.W.specialIn K (.builtin "object.__class__") "__get__") (some (some (.builtin "getset_descriptor.__get__"))) &&
  (decide (PySem.W.takesIn K (.builtin "object.__class__") = some true) &&
  decide (PySem.W.mroIn K (He.ga K x) (.type "object") = some true)))
theorem insIsB_ok {K : PySem.W.Frag} {x : Str} (h : insIsB K x = true) (cl : Cls K (He.ga K x)) : InsC K (He.ga K x) := by
  unfold insIsB at h
  obtain ⟨h1, h⟩ := He.ba h
  obtain ⟨h2, h⟩ := He.ba h
  obtain ⟨h3, h4⟩ := He.ba h
  exact ⟨cl, He.eqO_ok h1, He.eqO_ok h2, of_decide_eq_true h3, of_decide_eq_true h4⟩
def ecBB (K : PySem.W.Frag) (x : Str) (bm : List Value) (nw : String) : Bool := PySem.W.excIn K (He.ga K x) bm nw && (PySem.W.keepIn K (.ref (He.ga K x)) && (decide (PySem.W.subIn K (.ref (He.ga K x)) (.type "BaseException") = some true) && decide (PySem.W.typeIn K (.ref (He.ga K x)) = some (.type "type"))))
theorem ecBB_ok {K : PySem.W.Frag} {mg : Str → Option Value} {x : Str} {bm : List Value} {nw : String} (h : ecBB K x bm nw = true) (hm : mg x = some (.ref (He.ga K x))) : EcB K mg x (He.ga K x) bm nw := by
  unfold ecBB at h
  obtain ⟨h1, h⟩ := He.ba h
  obtain ⟨h2, h⟩ := He.ba h
  obtain ⟨h3, h4⟩ := He.ba h
  exact ⟨hm, h2, h1, of_decide_eq_true h3, of_decide_eq_true h4⟩
end G

/-! Facts at the head: a class without an own __ne__. -/
namespace G
open PySem PySem.Spec PyProof.Rows L2
def neB (K : PySem.W.Frag) (c : Str) : Bool :=
  He.eqO (PySem.W.findIn K (.ref (He.ga K c)) "__ne__") (some (some (.builtin "object.__ne__"))) && decide (PySem.W.mroIn K (He.ga K c) (.type "object") = some true)
theorem neB_ok {K : PySem.W.Frag} {c : Str} (h : neB K c = true) : NeC K (He.ga K c) := by
  unfold neB at h
  obtain ⟨a, b⟩ := He.ba h
  exact ⟨He.eqO_ok a, of_decide_eq_true b⟩
end G

namespace K06
open PySem PySem.Spec PyProof.Rows L2 G
def topS (i : Nat) : Stmt := PySem.Challenge.pw_gridscope_k06_sizes_equal_and_twins.main.body.getD i (.Pass ⟨0, 0, 0, 0⟩)
abbrev FnP (K : PySem.W.Frag) (x : Str) (st : Stmt) (f : Addr) (fd : FuncData) : Prop := FunD K x x (defArgs st) (defBody st) (defScope st) [] [] f fd
local macro_rules | `(tactic| walk_at "op") => `(tactic| first | with_reducible refine add_ii ?_ | with_reducible refine sub_ii ?_ | with_reducible refine cmp_ii ?_ | with_reducible refine is_n ?_ | with_reducible refine isnt_n ?_ | with_reducible refine max_ii ?_ | with_reducible refine min_ii ?_ | with_reducible refine int_i ?_ | with_reducible refine int_b ?_ | refine len_l ?_ | refine len_t ?_ | refine isi rfl (by walk_at "kit") ?_)
local macro_rules | `(tactic| walk_at "kit") => `(tactic| first | exact kit_NoneType_bool | exact kit_NoneType_int | exact kit_NoneType_str | exact kit_NoneType_list | exact kit_NoneType_tuple | exact kit_NoneType_dict | exact kit_bool_bool | exact kit_bool_int | exact kit_bool_str | exact kit_bool_list | exact kit_bool_tuple | exact kit_bool_dict | exact kit_int_bool | exact kit_int_int | exact kit_int_str | exact kit_int_list | exact kit_int_tuple | exact kit_int_dict | exact kit_str_bool | exact kit_str_int | exact kit_str_str | exact kit_str_list | exact kit_str_tuple | exact kit_str_dict | exact kit_tuple_bool | exact kit_tuple_int | exact kit_tuple_str | exact kit_tuple_list | exact kit_tuple_tuple | exact kit_tuple_dict | exact kit_list_bool | exact kit_list_int | exact kit_list_str | exact kit_list_list | exact kit_list_tuple | exact kit_list_dict | exact kit_dict_bool | exact kit_dict_int | exact kit_dict_str | exact kit_dict_list | exact kit_dict_tuple | exact kit_dict_dict | exact kit2_NoneType_int_str | exact kit2_bool_int_str | exact kit2_int_int_str | exact kit2_str_int_str | exact kit2_tuple_int_str | exact kit2_list_int_str | exact kit2_dict_int_str)
local macro_rules | `(tactic| walk_at "side") => `(tactic| first | omega | (have hz := sizeLine_eq; omega))

local macro_rules | `(tactic| walk_at "st") => `(tactic| first | assumption | exact sput_same | exact (sput_ne (by assumption)).trans sput_same | exact (sput_ne (Ne.symm (by assumption))).trans sput_same | exact (sput_ne (by assumption)).trans (by assumption))
local macro_rules | `(tactic| walk_at "fslen") => `(tactic| (have hz := sizeLine_eq; simp only [Str.length_append]; omega))
local macro_rules | `(tactic| walk_at "fslog") => `(tactic| exact num_log (by omega) (by omega))

local macro_rules | `(tactic| walk_at "dv") => `(tactic| first | exact .inr rfl | exact .inl ⟨_, rfl, .inl (by walk_at "st")⟩)
local macro_rules | `(tactic| walk_at "dlen") => `(tactic| first | exact lenKV | exact lenKN)
local macro_rules | `(tactic| walk_at "dsz") => `(tactic| first | exact keysV_few (by assumption) | exact keysN_few (by assumption) | exact keysVd_few (by assumption) | exact keysNd_few (by assumption) | (show _ < sizeLine; decide))
local macro_rules | `(tactic| walk_at "insx") => `(tactic| first | exact ⟨_, by walk_at "st", rfl⟩ | exact Abs.szI (by assumption) (by walk_at "hst") (by intro _ _; rfl))
local macro_rules | `(tactic| walk_at "fldx") => `(tactic| first | exact ⟨_, by walk_at "st", rfl⟩ | exact Abs.szF (by assumption) (by walk_at "hst") (by intro _ _; rfl))
local macro_rules | `(tactic| walk_at "hst") => `(tactic| first | assumption | exact hput_same | (refine (hput_ne (by first | assumption | exact Ne.symm (by assumption))).trans ?_; walk_at "hst"))
section
variable {P : Program} {w : World} {K : PySem.W.Frag} {mg : Str → Option Value} {base : Heap}

abbrev s__law_begin : Stmt := topS 27
theorem sc__law_begin : FnScope ["_law_script"] ["_law_script"] (defScope s__law_begin) := ⟨rfl, rfl, rfl, by decide +kernel, rfl, by decide +kernel, by decide +kernel⟩
set_option maxHeartbeats 4000000 in
theorem kn__law_begin {f : Addr} {fd : FuncData} (Fn : FnP K "_law_begin" s__law_begin f fd) (g : mg "_law_begin" = some (.ref f)) (m_list : mg "list" = none)  : Kn P w K mg base "_law_begin" 1 (FBegin) := by
  have b : Binds K fd ["_law_script"] [] := FunD.bindsN Fn fun _ _ _ _ _ _ us hl => match us, hl with | [_], _ => rfl
  refine ⟨f, fd, ["_law_script"], ?_, g, Fn.kp, b⟩
  refine def_ok (N := ["_law_script"]) Fn sc__law_begin FBegin.len ?_
  rintro ds m Q E ⟨ns, rfl, hq⟩
  refine dss_cons (ds_ret ?_)
  refine de_lstM ?_
  refine da_cons ?_
  refine de_callTy cd_list rfl m_list bt_list ?_
  refine da_cons ?_
  refine de_sl01 ?_
  refine de_var 0 rfl (.inl rfl) rfl ?_
  refine de_int ?_
  refine ⟨_, rfl, ?_⟩
  refine cut_f ?_
  refine da_nil ?_
  refine list_l rfl ?_
  refine da_cons ?_
  refine de_int ?_
  refine da_cons ?_
  refine de_int ?_
  refine da_cons ?_
  refine de_int ?_
  refine da_cons ?_
  refine de_int ?_
  refine da_nil ?_
  refine ⟨sz_lit rfl, ?_⟩
  intro p hp
  exact hq p _ hp (begin_draw ns)

abbrev s__law_pick : Stmt := topS 18
theorem sc__law_pick : FnScope ["_law_draw", "_law_many", "_law_cell", "_law_got"] ["_law_draw", "_law_many"] (defScope s__law_pick) := ⟨rfl, rfl, rfl, by decide +kernel, rfl, by decide +kernel, by decide +kernel⟩
set_option maxHeartbeats 4000000 in
theorem kn__law_pick {f : Addr} {fd : FuncData} (Fn : FnP K "_law_pick" s__law_pick f fd) (g : mg "_law_pick" = some (.ref f)) (m_len : mg "len" = none)  : Kn P w K mg base "_law_pick" 1 (FPick) := by
  have b : Binds K fd ["_law_draw", "_law_many"] [] := FunD.bindsN Fn fun _ _ _ _ _ _ us hl => match us, hl with | [_, _], _ => rfl
  refine ⟨f, fd, ["_law_draw", "_law_many"], ?_, g, Fn.kp, b⟩
  refine def_ok (N := ["_law_draw", "_law_many", "_law_cell", "_law_got"]) Fn sc__law_pick FPick.len ?_
  rintro ds m Q E ⟨p, n, o, rfl, hm, ⟨ns, i, b, s, c, rfl, hi, hb, hs, hs2⟩, hn, hn2, hq⟩
  obtain ⟨m0, rfl⟩ : ∃ m0, m = sput m0 p (drawO ns i b s c) := ⟨m, by funext a; unfold sput; split; (next e => rw [e, hm]); rfl⟩
  clear hm
  simp only [sput_sput] at hq
  unfold drawO
  refine dss_cut (fun δ' m' => ∃ x2 x3 ns i b s c, δ' = [some (.ref p), some (.int n), x2, x3] ∧ 0 ≤ i ∧ 0 ≤ b ∧ 0 ≤ s ∧ s < 1000000007 ∧ m' = sput m0 p (drawO ns i b s c)) ?_ ?_
  · refine ds_if ?_
    refine dt_pt (pt_and2 (k0 := ?k2) (k1 := ?k3) (fun W B q => ?a4) (fun h6 W B q => ?a5)) ?b1
    case a4 =>
      refine dt_cmp od_lt ?_
      refine de_ix ?_
      refine de_var 0 rfl (.inl rfl) rfl ?_
      refine de_int ?_
      refine ixO 2 (by first | exact sput_same | assumption) rfl ?_
      refine de_var 1 rfl (.inl rfl) rfl ?_
      walk_at "op"
      refine tb ?_
      exact q
    case a5 =>
      (try simp only [decide_eq_true_eq, decide_eq_false_iff_not, Bool.and_eq_true, Bool.or_eq_true, Bool.not_eq_true', Bool.and_eq_false_iff, Bool.or_eq_false_iff, Bool.not_eq_false', Bool.not_eq_true, Bool.not_eq_false, Int.not_lt, Int.not_le] at h6)
      refine dt_cmp od_lt ?_
      refine de_ix ?_
      refine de_var 0 rfl (.inl rfl) rfl ?_
      refine de_int ?_
      refine ixO 1 (by first | exact sput_same | assumption) rfl ?_
      refine de_callB cd_len rfl m_len bt_len ?_
      refine da_cons ?_
      refine de_ix ?_
      refine de_var 0 rfl (.inl rfl) rfl ?_
      refine de_int ?_
      refine ixO 0 (by first | exact sput_same | assumption) rfl ?_
      refine da_nil ?_
      (first | (refine len_l ?_; intro _) | (refine len_t ?_; intro _) | (refine len_f ?_; intro _) | refine len_s (by walk_at "side") ?_ | (refine len_o (by first | exact sput_same | assumption) ?_; intro _))
      walk_at "op"
      refine tb ?_
      exact q
    case b1 =>
      refine br.any (fun h7 => ?_) (fun h7 => ?_)
      · (try simp only [decide_eq_true_eq, decide_eq_false_iff_not, Bool.and_eq_true, Bool.or_eq_true, Bool.not_eq_true', Bool.and_eq_false_iff, Bool.or_eq_false_iff, Bool.not_eq_false', Bool.not_eq_true, Bool.not_eq_false, Int.not_lt, Int.not_le] at h7)
        obtain ⟨h7, hlt⟩ := h7
        refine dss_cons (ds_set 2 rfl (.inl rfl) ?_)
        refine de_ix ?_
        refine de_ix ?_
        refine de_var 0 rfl (.inl rfl) rfl ?_
        refine de_int ?_
        refine ixO 0 (by first | exact sput_same | assumption) rfl ?_
        refine de_ix ?_
        refine de_var 0 rfl (.inl rfl) rfl ?_
        refine de_int ?_
        refine ixO 1 (by first | exact sput_same | assumption) rfl ?_
        obtain ⟨z, hz⟩ := draw_cell hi hlt
        refine ixLi hi hz ?_
        refine dss_cons (ds_setitem ?_)
        refine de_bin od_add ?_
        refine de_ix ?_
        refine de_var 0 rfl (.inl rfl) rfl ?_
        refine de_int ?_
        refine ixO 1 (by first | exact sput_same | assumption) rfl ?_
        refine de_int ?_
        walk_at "op"
        refine de_var 0 rfl (.inl rfl) rfl ?_
        refine de_int ?_
        refine set_sput 1 (lt_lit rfl) ?_
        refine dss_cons (ds_setitem ?_)
        refine de_int ?_
        refine de_var 0 rfl (.inl rfl) rfl ?_
        refine de_int ?_
        refine set_sput 2 (lt_lit rfl) ?_
        refine dss_cons (ds_if ?_)
        refine dt_cmp od_ge ?_
        refine de_var 2 rfl (.inl rfl) rfl ?_
        refine de_bin od_pow ?_
        refine de_int ?_
        refine de_int ?_
        refine pow_ii (by unfold CPow; decide) ?_
        walk_at "op"
        refine tb ?_
        refine br.any (fun h8 => ?_) (fun h8 => ?_)
        · (try simp only [decide_eq_true_eq, decide_eq_false_iff_not, Bool.and_eq_true, Bool.or_eq_true, Bool.not_eq_true', Bool.and_eq_false_iff, Bool.or_eq_false_iff, Bool.not_eq_false', Bool.not_eq_true, Bool.not_eq_false, Int.not_lt, Int.not_le] at h8)
          replace h8 : (1000000000000000000 : Int) ≤ z := h8
          refine dss_cons (ds_setitem ?_)
          refine de_var 2 rfl (.inl rfl) rfl ?_
          refine de_var 0 rfl (.inl rfl) rfl ?_
          refine de_int ?_
          refine set_sput 2 (lt_lit rfl) ?_
          refine dss_nil ?_
          refine dss_nil ?_
          refine ⟨_, _, ns, _, _, _, _, rfl, ?_, ?_, ?_, ?_, rfl⟩ <;> first | omega | exact Int.emod_nonneg _ (by omega) | exact Int.emod_lt_of_pos _ (by omega)
        · (try simp only [decide_eq_true_eq, decide_eq_false_iff_not, Bool.and_eq_true, Bool.or_eq_true, Bool.not_eq_true', Bool.and_eq_false_iff, Bool.or_eq_false_iff, Bool.not_eq_false', Bool.not_eq_true, Bool.not_eq_false, Int.not_lt, Int.not_le] at h8)
          refine dss_cons (ds_setitem ?_)
          refine de_bin od_mod ?_
          refine de_bin od_add ?_
          refine de_ix ?_
          refine de_var 0 rfl (.inl rfl) rfl ?_
          refine de_int ?_
          refine ixO 3 (by first | exact sput_same | assumption) rfl ?_
          refine de_var 2 rfl (.inl rfl) rfl ?_
          walk_at "op"
          refine de_int ?_
          refine mod_ii (by decide) ?_
          refine de_var 0 rfl (.inl rfl) rfl ?_
          refine de_int ?_
          refine set_sput 3 (lt_lit rfl) ?_
          refine dss_nil ?_
          refine dss_nil ?_
          refine ⟨_, _, ns, _, _, _, _, rfl, ?_, ?_, ?_, ?_, rfl⟩ <;> first | omega | exact Int.emod_nonneg _ (by omega) | exact Int.emod_lt_of_pos _ (by omega)
      · (try simp only [decide_eq_true_eq, decide_eq_false_iff_not, Bool.and_eq_true, Bool.or_eq_true, Bool.not_eq_true', Bool.and_eq_false_iff, Bool.or_eq_false_iff, Bool.not_eq_false', Bool.not_eq_true, Bool.not_eq_false, Int.not_lt, Int.not_le] at h7)
        refine dss_nil ?_
        refine ⟨_, _, ns, _, _, _, _, rfl, ?_, ?_, ?_, ?_, rfl⟩ <;> first | omega | exact Int.emod_nonneg _ (by omega) | exact Int.emod_lt_of_pos _ (by omega)
  · clear hi hb hs hs2 ns i b s c
    rintro δ' m' ⟨x2, x3, ns, i, b, s, c, rfl, hi, hb, hs, hs2, rfl⟩
    unfold drawO
    refine dss_cons (ds_if ?_)
    refine dt_cmp od_ge ?_
    refine de_ix ?_
    refine de_var 0 rfl (.inl rfl) rfl ?_
    refine de_int ?_
    refine ixO 2 (by first | exact sput_same | assumption) rfl ?_
    refine de_var 1 rfl (.inl rfl) rfl ?_
    walk_at "op"
    refine tb ?_
    refine br.any (fun h9 => ?_) (fun h9 => ?_)
    · (try simp only [decide_eq_true_eq, decide_eq_false_iff_not, Bool.and_eq_true, Bool.or_eq_true, Bool.not_eq_true', Bool.and_eq_false_iff, Bool.or_eq_false_iff, Bool.not_eq_false', Bool.not_eq_true, Bool.not_eq_false, Int.not_lt, Int.not_le] at h9)
      refine dss_cons (ds_set 3 rfl (.inl rfl) ?_)
      refine de_bin od_mod ?_
      refine de_ix ?_
      refine de_var 0 rfl (.inl rfl) rfl ?_
      refine de_int ?_
      refine ixO 2 (by first | exact sput_same | assumption) rfl ?_
      refine de_var 1 rfl (.inl rfl) rfl ?_
      refine mod_ii hn ?_
      refine dss_cons (ds_setitem ?_)
      refine de_bin od_div ?_
      refine de_ix ?_
      refine de_var 0 rfl (.inl rfl) rfl ?_
      refine de_int ?_
      refine ixO 2 (by first | exact sput_same | assumption) rfl ?_
      refine de_var 1 rfl (.inl rfl) rfl ?_
      refine div_ii ⟨hn, hn2⟩ ?_
      refine de_var 0 rfl (.inl rfl) rfl ?_
      refine de_int ?_
      refine set_sput 2 (lt_lit rfl) ?_
      refine dss_cons (ds_ret ?_)
      refine de_var 3 rfl (.inl rfl) rfl ?_
      refine hq _ _ (Int.emod_nonneg _ (by omega)) (Int.emod_lt_of_pos _ hn) ⟨ns, _, _, _, _, rfl, hi, Int.ediv_nonneg hb (by omega), hs, hs2⟩
    · (try simp only [decide_eq_true_eq, decide_eq_false_iff_not, Bool.and_eq_true, Bool.or_eq_true, Bool.not_eq_true', Bool.and_eq_false_iff, Bool.or_eq_false_iff, Bool.not_eq_false', Bool.not_eq_true, Bool.not_eq_false, Int.not_lt, Int.not_le] at h9)
      refine dss_nil ?_
      refine dss_cons (ds_setitem ?_)
      refine de_bin od_add ?_
      refine de_ix ?_
      refine de_var 0 rfl (.inl rfl) rfl ?_
      refine de_int ?_
      refine ixO 4 (by first | exact sput_same | assumption) rfl ?_
      refine de_int ?_
      walk_at "op"
      refine de_var 0 rfl (.inl rfl) rfl ?_
      refine de_int ?_
      refine set_sput 4 (lt_lit rfl) ?_
      refine dss_cons (ds_setitem ?_)
      refine de_bin od_mod ?_
      refine de_bin od_add ?_
      refine de_bin od_add ?_
      refine de_bin od_pow ?_
      refine de_ix ?_
      refine de_var 0 rfl (.inl rfl) rfl ?_
      refine de_int ?_
      refine ixO 3 (by first | exact sput_same | assumption) rfl ?_
      refine de_int ?_
      refine pow_ii (cube hs hs2) ?_
      refine de_bin od_mul ?_
      refine de_int ?_
      refine de_ix ?_
      refine de_var 0 rfl (.inl rfl) rfl ?_
      refine de_int ?_
      refine ixO 4 (by first | exact sput_same | assumption) rfl ?_
      refine mul_ii (.inl (by decide)) ?_
      walk_at "op"
      refine de_int ?_
      walk_at "op"
      refine de_int ?_
      refine mod_ii (by decide) ?_
      refine de_var 0 rfl (.inl rfl) rfl ?_
      refine de_int ?_
      refine set_sput 3 (lt_lit rfl) ?_
      refine dss_cons (ds_ret ?_)
      refine de_bin od_mod ?_
      refine de_bin od_div ?_
      refine de_ix ?_
      refine de_var 0 rfl (.inl rfl) rfl ?_
      refine de_int ?_
      refine ixO 3 (by first | exact sput_same | assumption) rfl ?_
      refine de_int ?_
      refine div_ii (by unfold CDiv; decide) ?_
      refine de_var 1 rfl (.inl rfl) rfl ?_
      refine mod_ii hn ?_
      refine hq _ _ (Int.emod_nonneg _ (by omega)) (Int.emod_lt_of_pos _ hn) ⟨ns, _, _, _, _, rfl, hi, hb, Int.emod_nonneg _ (by decide), Int.emod_lt_of_pos _ (by decide)⟩

abbrev s__law_same : Stmt := topS 31
theorem sc__law_same : FnScope ["_law_found", "_law_due", "_law_k"] ["_law_found", "_law_due"] (defScope s__law_same) := ⟨rfl, rfl, rfl, by decide +kernel, rfl, by decide +kernel, by decide +kernel⟩

set_option maxHeartbeats 8000000 in
theorem kn__law_same {f : Addr} {fd : FuncData} (Fn : FnP K "_law_same" s__law_same f fd) (g : mg "_law_same" = some (.ref f)) (m_isinstance : mg "isinstance" = none) (m_bool : mg "bool" = none) (m_int : mg "int" = none) (m_str : mg "str" = none) (m_list : mg "list" = none) (m_tuple : mg "tuple" = none) (m_len : mg "len" = none) (m_all : mg "all" = none) (m_range : mg "range" = none) : ∀ n, n ≤ 50 → Kn P w K mg base "_law_same" (n + 1) (FSame n) := by
  have b : Binds K fd ["_law_found", "_law_due"] [] := FunD.bindsN Fn fun _ _ _ _ _ _ us hl => match us, hl with | [_, _], _ => rfl
  have step : ∀ n, n ≤ 50 → (∀ j, n = j + 1 → Kn P w K mg base "_law_same" (j + 1) (FSame j)) → Kn P w K mg base "_law_same" (n + 1) (FSame n) := by
    intro n hn ih
    refine ⟨f, fd, ["_law_found", "_law_due"], ?_, g, Fn.kp, b⟩
    refine def_ok (N := ["_law_found", "_law_due", "_law_k"]) Fn sc__law_same FSame.len ?_
    rintro ds m Q E ⟨d, rfl, ok, hq⟩
    cases d with
    | non =>
      refine dss_cons (ds_if ?_)
      refine dt_cmp od_is ?_
      refine de_var 1 rfl (.inr (.inl rfl)) rfl ?_
      refine de_non ?_
      walk_at "op"
      refine tb ?_
      refine br.t ?_
      refine dss_cons (ds_ret ?_)
      refine de_cmp od_is ?_
      refine de_var 0 rfl (.inr (.inl rfl)) rfl ?_
      refine de_non ?_
      walk_at "op"
      exact hq
    | bl v =>
      refine dss_cons (ds_if ?_)
      refine dt_cmp od_is ?_
      refine de_var 1 rfl (.inr (.inl rfl)) rfl ?_
      refine de_non ?_
      walk_at "op"
      refine tb ?_
      refine br.f ?_
      refine dss_nil ?_
      refine dss_cons (ds_if ?_)
      refine dt_pt (pt_or2 (k0 := ?k13) (k1 := ?k14) (fun W B q => ?a15) (fun h17 W B q => ?a16)) ?b12
      case a15 =>
        refine dt_val ?_
        refine de_callB cd_isi rfl m_isinstance bt_isinstance ?_
        refine da_cons ?_
        refine de_var 1 rfl (.inr (.inl rfl)) rfl ?_
        refine da_cons ?_
        refine de_bty rfl m_bool bt_bool ?_
        refine da_nil ?_
        walk_at "op"
        refine tb ?_
        exact q
      case a16 =>
        (try simp only [decide_eq_true_eq, decide_eq_false_iff_not, Bool.and_eq_true, Bool.or_eq_true, Bool.not_eq_true', Bool.and_eq_false_iff, Bool.or_eq_false_iff, Bool.not_eq_false', Bool.not_eq_true, Bool.not_eq_false, Int.not_lt, Int.not_le] at h17)
        refine dt_val ?_
        refine de_callB cd_isi rfl m_isinstance bt_isinstance ?_
        refine da_cons ?_
        refine de_var 0 rfl (.inr (.inl rfl)) rfl ?_
        refine da_cons ?_
        refine de_bty rfl m_bool bt_bool ?_
        refine da_nil ?_
        walk_at "op"
        refine tb ?_
        exact q
      case b12 =>
        refine br.t ?_
        refine dss_cons (ds_ret ?_)
        refine de_pe (pe_and3 (k0 := ?k21) (k1 := ?k22) (k2 := ?k23) (fun W Q q => ?a24) (fun h27 W Q q => ?a25) (fun h27 h28 W Q q => ?a26)) ?b20
        case a24 =>
          refine de_callB cd_isi rfl m_isinstance bt_isinstance ?_
          refine da_cons ?_
          refine de_var 1 rfl (.inr (.inl rfl)) rfl ?_
          refine da_cons ?_
          refine de_bty rfl m_bool bt_bool ?_
          refine da_nil ?_
          walk_at "op"
          exact q
        case a25 =>
          (try simp only [decide_eq_true_eq, decide_eq_false_iff_not, Bool.and_eq_true, Bool.or_eq_true, Bool.not_eq_true', Bool.and_eq_false_iff, Bool.or_eq_false_iff, Bool.not_eq_false', Bool.not_eq_true, Bool.not_eq_false, Int.not_lt, Int.not_le] at h27)
          refine de_callB cd_isi rfl m_isinstance bt_isinstance ?_
          refine da_cons ?_
          refine de_var 0 rfl (.inr (.inl rfl)) rfl ?_
          refine da_cons ?_
          refine de_bty rfl m_bool bt_bool ?_
          refine da_nil ?_
          walk_at "op"
          exact q
        case a26 =>
          (try simp only [decide_eq_true_eq, decide_eq_false_iff_not, Bool.and_eq_true, Bool.or_eq_true, Bool.not_eq_true', Bool.and_eq_false_iff, Bool.or_eq_false_iff, Bool.not_eq_false', Bool.not_eq_true, Bool.not_eq_false, Int.not_lt, Int.not_le] at h27)
          (try simp only [decide_eq_true_eq, decide_eq_false_iff_not, Bool.and_eq_true, Bool.or_eq_true, Bool.not_eq_true', Bool.and_eq_false_iff, Bool.or_eq_false_iff, Bool.not_eq_false', Bool.not_eq_true, Bool.not_eq_false, Int.not_lt, Int.not_le] at h28)
          refine de_cmp od_eq ?_
          refine de_var 0 rfl (.inr (.inl rfl)) rfl ?_
          refine de_var 1 rfl (.inr (.inl rfl)) rfl ?_
          refine ⟨n, by omega, ok, ok, ?_⟩
          exact q
        case b20 =>
          simpa [eqvD_refl ok] using hq
    | int v =>
      refine dss_cons (ds_if ?_)
      refine dt_cmp od_is ?_
      refine de_var 1 rfl (.inr (.inl rfl)) rfl ?_
      refine de_non ?_
      walk_at "op"
      refine tb ?_
      refine br.f ?_
      refine dss_nil ?_
      refine dss_cons (ds_if ?_)
      refine dt_pt (pt_or2 (k0 := ?k31) (k1 := ?k32) (fun W B q => ?a33) (fun h35 W B q => ?a34)) ?b30
      case a33 =>
        refine dt_val ?_
        refine de_callB cd_isi rfl m_isinstance bt_isinstance ?_
        refine da_cons ?_
        refine de_var 1 rfl (.inr (.inl rfl)) rfl ?_
        refine da_cons ?_
        refine de_bty rfl m_bool bt_bool ?_
        refine da_nil ?_
        walk_at "op"
        refine tb ?_
        exact q
      case a34 =>
        (try simp only [decide_eq_true_eq, decide_eq_false_iff_not, Bool.and_eq_true, Bool.or_eq_true, Bool.not_eq_true', Bool.and_eq_false_iff, Bool.or_eq_false_iff, Bool.not_eq_false', Bool.not_eq_true, Bool.not_eq_false, Int.not_lt, Int.not_le] at h35)
        refine dt_val ?_
        refine de_callB cd_isi rfl m_isinstance bt_isinstance ?_
        refine da_cons ?_
        refine de_var 0 rfl (.inr (.inl rfl)) rfl ?_
        refine da_cons ?_
        refine de_bty rfl m_bool bt_bool ?_
        refine da_nil ?_
        walk_at "op"
        refine tb ?_
        exact q
      case b30 =>
        refine br.f ?_
        refine dss_nil ?_
        refine dss_cons (ds_if ?_)
        refine dt_val ?_
        refine de_isi2 rfl m_isinstance rfl m_int bt_int rfl m_str bt_str ?_
        refine de_var 1 rfl (.inr (.inl rfl)) rfl ?_
        refine isi2 rfl (by walk_at "kit") ?_
        refine tb ?_
        refine br.t ?_
        refine dss_cons (ds_ret ?_)
        refine de_pe (pe_and3 (k0 := ?k40) (k1 := ?k41) (k2 := ?k42) (fun W Q q => ?a43) (fun h46 W Q q => ?a44) (fun h46 h47 W Q q => ?a45)) ?b39
        case a43 =>
          refine de_cmp od_eq ?_
          refine de_callB cd_isi rfl m_isinstance bt_isinstance ?_
          refine da_cons ?_
          refine de_var 0 rfl (.inr (.inl rfl)) rfl ?_
          refine da_cons ?_
          refine de_bty rfl m_int bt_int ?_
          refine da_nil ?_
          walk_at "op"
          refine de_callB cd_isi rfl m_isinstance bt_isinstance ?_
          refine da_cons ?_
          refine de_var 1 rfl (.inr (.inl rfl)) rfl ?_
          refine da_cons ?_
          refine de_bty rfl m_int bt_int ?_
          refine da_nil ?_
          walk_at "op"
          refine ⟨0, by omega, rfl, rfl, ?_⟩
          exact q
        case a44 =>
          (try simp only [decide_eq_true_eq, decide_eq_false_iff_not, Bool.and_eq_true, Bool.or_eq_true, Bool.not_eq_true', Bool.and_eq_false_iff, Bool.or_eq_false_iff, Bool.not_eq_false', Bool.not_eq_true, Bool.not_eq_false, Int.not_lt, Int.not_le] at h46)
          refine de_isi2 rfl m_isinstance rfl m_int bt_int rfl m_str bt_str ?_
          refine de_var 0 rfl (.inr (.inl rfl)) rfl ?_
          refine isi2 rfl (by walk_at "kit") ?_
          exact q
        case a45 =>
          (try simp only [decide_eq_true_eq, decide_eq_false_iff_not, Bool.and_eq_true, Bool.or_eq_true, Bool.not_eq_true', Bool.and_eq_false_iff, Bool.or_eq_false_iff, Bool.not_eq_false', Bool.not_eq_true, Bool.not_eq_false, Int.not_lt, Int.not_le] at h46)
          (try simp only [decide_eq_true_eq, decide_eq_false_iff_not, Bool.and_eq_true, Bool.or_eq_true, Bool.not_eq_true', Bool.and_eq_false_iff, Bool.or_eq_false_iff, Bool.not_eq_false', Bool.not_eq_true, Bool.not_eq_false, Int.not_lt, Int.not_le] at h47)
          refine de_cmp od_eq ?_
          refine de_var 0 rfl (.inr (.inl rfl)) rfl ?_
          refine de_var 1 rfl (.inr (.inl rfl)) rfl ?_
          refine ⟨n, by omega, ok, ok, ?_⟩
          exact q
        case b39 =>
          simpa [eqvD_refl ok, eqvD_bl] using hq
    | str v =>
      refine dss_cons (ds_if ?_)
      refine dt_cmp od_is ?_
      refine de_var 1 rfl (.inr (.inl rfl)) rfl ?_
      refine de_non ?_
      walk_at "op"
      refine tb ?_
      refine br.f ?_
      refine dss_nil ?_
      refine dss_cons (ds_if ?_)
      refine dt_pt (pt_or2 (k0 := ?k50) (k1 := ?k51) (fun W B q => ?a52) (fun h54 W B q => ?a53)) ?b49
      case a52 =>
        refine dt_val ?_
        refine de_callB cd_isi rfl m_isinstance bt_isinstance ?_
        refine da_cons ?_
        refine de_var 1 rfl (.inr (.inl rfl)) rfl ?_
        refine da_cons ?_
        refine de_bty rfl m_bool bt_bool ?_
        refine da_nil ?_
        walk_at "op"
        refine tb ?_
        exact q
      case a53 =>
        (try simp only [decide_eq_true_eq, decide_eq_false_iff_not, Bool.and_eq_true, Bool.or_eq_true, Bool.not_eq_true', Bool.and_eq_false_iff, Bool.or_eq_false_iff, Bool.not_eq_false', Bool.not_eq_true, Bool.not_eq_false, Int.not_lt, Int.not_le] at h54)
        refine dt_val ?_
        refine de_callB cd_isi rfl m_isinstance bt_isinstance ?_
        refine da_cons ?_
        refine de_var 0 rfl (.inr (.inl rfl)) rfl ?_
        refine da_cons ?_
        refine de_bty rfl m_bool bt_bool ?_
        refine da_nil ?_
        walk_at "op"
        refine tb ?_
        exact q
      case b49 =>
        refine br.f ?_
        refine dss_nil ?_
        refine dss_cons (ds_if ?_)
        refine dt_val ?_
        refine de_isi2 rfl m_isinstance rfl m_int bt_int rfl m_str bt_str ?_
        refine de_var 1 rfl (.inr (.inl rfl)) rfl ?_
        refine isi2 rfl (by walk_at "kit") ?_
        refine tb ?_
        refine br.t ?_
        refine dss_cons (ds_ret ?_)
        refine de_pe (pe_and3 (k0 := ?k59) (k1 := ?k60) (k2 := ?k61) (fun W Q q => ?a62) (fun h65 W Q q => ?a63) (fun h65 h66 W Q q => ?a64)) ?b58
        case a62 =>
          refine de_cmp od_eq ?_
          refine de_callB cd_isi rfl m_isinstance bt_isinstance ?_
          refine da_cons ?_
          refine de_var 0 rfl (.inr (.inl rfl)) rfl ?_
          refine da_cons ?_
          refine de_bty rfl m_int bt_int ?_
          refine da_nil ?_
          walk_at "op"
          refine de_callB cd_isi rfl m_isinstance bt_isinstance ?_
          refine da_cons ?_
          refine de_var 1 rfl (.inr (.inl rfl)) rfl ?_
          refine da_cons ?_
          refine de_bty rfl m_int bt_int ?_
          refine da_nil ?_
          walk_at "op"
          refine ⟨0, by omega, rfl, rfl, ?_⟩
          exact q
        case a63 =>
          (try simp only [decide_eq_true_eq, decide_eq_false_iff_not, Bool.and_eq_true, Bool.or_eq_true, Bool.not_eq_true', Bool.and_eq_false_iff, Bool.or_eq_false_iff, Bool.not_eq_false', Bool.not_eq_true, Bool.not_eq_false, Int.not_lt, Int.not_le] at h65)
          refine de_isi2 rfl m_isinstance rfl m_int bt_int rfl m_str bt_str ?_
          refine de_var 0 rfl (.inr (.inl rfl)) rfl ?_
          refine isi2 rfl (by walk_at "kit") ?_
          exact q
        case a64 =>
          (try simp only [decide_eq_true_eq, decide_eq_false_iff_not, Bool.and_eq_true, Bool.or_eq_true, Bool.not_eq_true', Bool.and_eq_false_iff, Bool.or_eq_false_iff, Bool.not_eq_false', Bool.not_eq_true, Bool.not_eq_false, Int.not_lt, Int.not_le] at h65)
          (try simp only [decide_eq_true_eq, decide_eq_false_iff_not, Bool.and_eq_true, Bool.or_eq_true, Bool.not_eq_true', Bool.and_eq_false_iff, Bool.or_eq_false_iff, Bool.not_eq_false', Bool.not_eq_true, Bool.not_eq_false, Int.not_lt, Int.not_le] at h66)
          refine de_cmp od_eq ?_
          refine de_var 0 rfl (.inr (.inl rfl)) rfl ?_
          refine de_var 1 rfl (.inr (.inl rfl)) rfl ?_
          refine ⟨n, by omega, ok, ok, ?_⟩
          exact q
        case b58 =>
          simpa [eqvD_refl ok, eqvD_bl] using hq
    | tup l =>
      obtain ⟨j, rfl⟩ : ∃ j, n = j + 1 := by cases n with | zero => (simp [okD] at ok) | succ j => exact ⟨j, rfl⟩
      have ok' : okDL j l = true := by simpa [okD] using ok
      have kn__law_same := ih j rfl
      refine dss_cons (ds_if ?_)
      refine dt_cmp od_is ?_
      refine de_var 1 rfl (.inr (.inl rfl)) rfl ?_
      refine de_non ?_
      walk_at "op"
      refine tb ?_
      refine br.f ?_
      refine dss_nil ?_
      refine dss_cons (ds_if ?_)
      refine dt_pt (pt_or2 (k0 := ?k69) (k1 := ?k70) (fun W B q => ?a71) (fun h73 W B q => ?a72)) ?b68
      case a71 =>
        refine dt_val ?_
        refine de_callB cd_isi rfl m_isinstance bt_isinstance ?_
        refine da_cons ?_
        refine de_var 1 rfl (.inr (.inl rfl)) rfl ?_
        refine da_cons ?_
        refine de_bty rfl m_bool bt_bool ?_
        refine da_nil ?_
        walk_at "op"
        refine tb ?_
        exact q
      case a72 =>
        (try simp only [decide_eq_true_eq, decide_eq_false_iff_not, Bool.and_eq_true, Bool.or_eq_true, Bool.not_eq_true', Bool.and_eq_false_iff, Bool.or_eq_false_iff, Bool.not_eq_false', Bool.not_eq_true, Bool.not_eq_false, Int.not_lt, Int.not_le] at h73)
        refine dt_val ?_
        refine de_callB cd_isi rfl m_isinstance bt_isinstance ?_
        refine da_cons ?_
        refine de_var 0 rfl (.inr (.inl rfl)) rfl ?_
        refine da_cons ?_
        refine de_bty rfl m_bool bt_bool ?_
        refine da_nil ?_
        walk_at "op"
        refine tb ?_
        exact q
      case b68 =>
        refine br.f ?_
        refine dss_nil ?_
        refine dss_cons (ds_if ?_)
        refine dt_val ?_
        refine de_isi2 rfl m_isinstance rfl m_int bt_int rfl m_str bt_str ?_
        refine de_var 1 rfl (.inr (.inl rfl)) rfl ?_
        refine isi2 rfl (by walk_at "kit") ?_
        refine tb ?_
        refine br.f ?_
        refine dss_nil ?_
        refine dss_cons (ds_if ?_)
        refine dt_pt (pt_or2 (k0 := ?k77) (k1 := ?k78) (fun W B q => ?a79) (fun h81 W B q => ?a80)) ?b76
        case a79 =>
          refine dt_cmp od_ne ?_
          refine de_callB cd_isi rfl m_isinstance bt_isinstance ?_
          refine da_cons ?_
          refine de_var 0 rfl (.inr (.inl rfl)) rfl ?_
          refine da_cons ?_
          refine de_bty rfl m_list bt_list ?_
          refine da_nil ?_
          walk_at "op"
          refine de_callB cd_isi rfl m_isinstance bt_isinstance ?_
          refine da_cons ?_
          refine de_var 1 rfl (.inr (.inl rfl)) rfl ?_
          refine da_cons ?_
          refine de_bty rfl m_list bt_list ?_
          refine da_nil ?_
          walk_at "op"
          refine ⟨0, by omega, rfl, rfl, ?_⟩
          refine tb ?_
          exact q
        case a80 =>
          (try simp only [decide_eq_true_eq, decide_eq_false_iff_not, Bool.and_eq_true, Bool.or_eq_true, Bool.not_eq_true', Bool.and_eq_false_iff, Bool.or_eq_false_iff, Bool.not_eq_false', Bool.not_eq_true, Bool.not_eq_false, Int.not_lt, Int.not_le] at h81)
          refine dt_cmp od_ne ?_
          refine de_callB cd_isi rfl m_isinstance bt_isinstance ?_
          refine da_cons ?_
          refine de_var 0 rfl (.inr (.inl rfl)) rfl ?_
          refine da_cons ?_
          refine de_bty rfl m_tuple bt_tuple ?_
          refine da_nil ?_
          walk_at "op"
          refine de_callB cd_isi rfl m_isinstance bt_isinstance ?_
          refine da_cons ?_
          refine de_var 1 rfl (.inr (.inl rfl)) rfl ?_
          refine da_cons ?_
          refine de_bty rfl m_tuple bt_tuple ?_
          refine da_nil ?_
          walk_at "op"
          refine ⟨0, by omega, rfl, rfl, ?_⟩
          refine tb ?_
          exact q
        case b76 =>
          simp only [eqvD_bl]
          refine br.f ?_
          refine dss_nil ?_
          refine dss_cons (ds_ret ?_)
          refine de_pe (pe_and2 (k0 := ?k85) (k1 := ?k86) (fun W Q q => ?a87) (fun h89 W Q q => ?a88)) ?b84
          case a87 =>
            refine de_cmp od_eq ?_
            refine de_callB cd_len rfl m_len bt_len ?_
            refine da_cons ?_
            refine de_var 0 rfl (.inr (.inl rfl)) rfl ?_
            refine da_nil ?_
            (first | (refine len_l ?_; intro _) | (refine len_t ?_; intro _) | (refine len_f ?_; intro _) | refine len_s (by walk_at "side") ?_ | (refine len_o (by first | exact sput_same | assumption) ?_; intro _))
            refine de_callB cd_len rfl m_len bt_len ?_
            refine da_cons ?_
            refine de_var 1 rfl (.inr (.inl rfl)) rfl ?_
            refine da_nil ?_
            (first | (refine len_l ?_; intro _) | (refine len_t ?_; intro _) | (refine len_f ?_; intro _) | refine len_s (by walk_at "side") ?_ | (refine len_o (by first | exact sput_same | assumption) ?_; intro _))
            refine ⟨0, by omega, rfl, rfl, ?_⟩
            exact q
          case a88 =>
            (try simp only [decide_eq_true_eq, decide_eq_false_iff_not, Bool.and_eq_true, Bool.or_eq_true, Bool.not_eq_true', Bool.and_eq_false_iff, Bool.or_eq_false_iff, Bool.not_eq_false', Bool.not_eq_true, Bool.not_eq_false, Int.not_lt, Int.not_le] at h89)
            refine de_callB cd_all rfl m_all bt_all ?_
            refine da_cons ?_
            refine de_lc [("_law_k", 2)] (show blkC ["_law_found", "_law_due", "_law_k"] (defScope s__law_same) _ [("_law_k", 2)] = true from by decide +kernel) ?_
            refine di_rng1 rfl m_range ?_
            refine de_callB cd_len rfl m_len bt_len ?_
            refine da_cons ?_
            refine de_var 1 rfl (.inr (.inl rfl)) rfl ?_
            refine da_nil ?_
            (first | (refine len_l ?_; intro _) | (refine len_t ?_; intro _) | (refine len_f ?_; intro _) | refine len_s (by walk_at "side") ?_ | (refine len_o (by first | exact sput_same | assumption) ?_; intro _))
            refine ⟨_, rfl, ?_, ?_, ?_⟩
            · walk_at "side"
            · walk_at "side"
            refine ⟨fun i acc m' => acc = List.replicate i (.bl true) ∧ m' = m, ?_, ?_, ?_⟩
            · exact ⟨rfl, rfl⟩
            · rintro i d acc m' hi ⟨rfl, rfl⟩
              obtain ⟨hlt, rfl⟩ := rngD_get hi
              have hlt2 : i < l.length := by simpa using hlt
              have e0 : ((0 : Int) + (i : Nat)).toNat = i := by omega
              have hd : l[i]? = some l[i] := List.getElem?_eq_getElem hlt2
              refine dgv_name 2 (by decide) rfl (.inl rfl) ?_
              refine dts_nil ?_
              refine br.t ?_
              refine de_call kn__law_same (Nat.ble_self_eq_true _) rfl ?_
              refine da_cons ?_
              refine de_ix ?_
              refine de_var 0 rfl (by first | exact .inl rfl | exact .inr (.inl rfl) | exact .inr (.inr rfl)) rfl ?_
              refine de_var 2 rfl (.inl rfl) rfl ?_
              refine ixTi (by omega) (d := l[i]) (by rw [e0]; exact hd) ?_
              refine da_cons ?_
              refine de_ix ?_
              refine de_var 1 rfl (by first | exact .inl rfl | exact .inr (.inl rfl) | exact .inr (.inr rfl)) rfl ?_
              refine de_var 2 rfl (.inl rfl) rfl ?_
              refine ixTi (by omega) (d := l[i]) (by rw [e0]; exact hd) ?_
              refine da_nil ?_
              refine use_same rfl (okDL_mem ok' _ (List.getElem_mem _)) ?_
              refine ⟨?_, ?_, rfl⟩
              · rw [List.length_replicate]
                show i < sizeLine
                omega
              · rw [List.replicate_succ']
            · intro acc m' hI
              obtain ⟨hI, rfl⟩ := hI
              refine da_nil ?_
              refine ⟨_, _, rfl, by rw [hI]; exact blsD_true _, ?_⟩
              exact q
          case b84 =>
            simpa [eqvD_int, all_true] using hq
    | lst l =>
      obtain ⟨j, rfl⟩ : ∃ j, n = j + 1 := by cases n with | zero => (simp [okD] at ok) | succ j => exact ⟨j, rfl⟩
      have ok' : okDL j l = true := by simpa [okD] using ok
      have kn__law_same := ih j rfl
      refine dss_cons (ds_if ?_)
      refine dt_cmp od_is ?_
      refine de_var 1 rfl (.inr (.inl rfl)) rfl ?_
      refine de_non ?_
      walk_at "op"
      refine tb ?_
      refine br.f ?_
      refine dss_nil ?_
      refine dss_cons (ds_if ?_)
      refine dt_pt (pt_or2 (k0 := ?k92) (k1 := ?k93) (fun W B q => ?a94) (fun h96 W B q => ?a95)) ?b91
      case a94 =>
        refine dt_val ?_
        refine de_callB cd_isi rfl m_isinstance bt_isinstance ?_
        refine da_cons ?_
        refine de_var 1 rfl (.inr (.inl rfl)) rfl ?_
        refine da_cons ?_
        refine de_bty rfl m_bool bt_bool ?_
        refine da_nil ?_
        walk_at "op"
        refine tb ?_
        exact q
      case a95 =>
        (try simp only [decide_eq_true_eq, decide_eq_false_iff_not, Bool.and_eq_true, Bool.or_eq_true, Bool.not_eq_true', Bool.and_eq_false_iff, Bool.or_eq_false_iff, Bool.not_eq_false', Bool.not_eq_true, Bool.not_eq_false, Int.not_lt, Int.not_le] at h96)
        refine dt_val ?_
        refine de_callB cd_isi rfl m_isinstance bt_isinstance ?_
        refine da_cons ?_
        refine de_var 0 rfl (.inr (.inl rfl)) rfl ?_
        refine da_cons ?_
        refine de_bty rfl m_bool bt_bool ?_
        refine da_nil ?_
        walk_at "op"
        refine tb ?_
        exact q
      case b91 =>
        refine br.f ?_
        refine dss_nil ?_
        refine dss_cons (ds_if ?_)
        refine dt_val ?_
        refine de_isi2 rfl m_isinstance rfl m_int bt_int rfl m_str bt_str ?_
        refine de_var 1 rfl (.inr (.inl rfl)) rfl ?_
        refine isi2 rfl (by walk_at "kit") ?_
        refine tb ?_
        refine br.f ?_
        refine dss_nil ?_
        refine dss_cons (ds_if ?_)
        refine dt_pt (pt_or2 (k0 := ?k100) (k1 := ?k101) (fun W B q => ?a102) (fun h104 W B q => ?a103)) ?b99
        case a102 =>
          refine dt_cmp od_ne ?_
          refine de_callB cd_isi rfl m_isinstance bt_isinstance ?_
          refine da_cons ?_
          refine de_var 0 rfl (.inr (.inl rfl)) rfl ?_
          refine da_cons ?_
          refine de_bty rfl m_list bt_list ?_
          refine da_nil ?_
          walk_at "op"
          refine de_callB cd_isi rfl m_isinstance bt_isinstance ?_
          refine da_cons ?_
          refine de_var 1 rfl (.inr (.inl rfl)) rfl ?_
          refine da_cons ?_
          refine de_bty rfl m_list bt_list ?_
          refine da_nil ?_
          walk_at "op"
          refine ⟨0, by omega, rfl, rfl, ?_⟩
          refine tb ?_
          exact q
        case a103 =>
          (try simp only [decide_eq_true_eq, decide_eq_false_iff_not, Bool.and_eq_true, Bool.or_eq_true, Bool.not_eq_true', Bool.and_eq_false_iff, Bool.or_eq_false_iff, Bool.not_eq_false', Bool.not_eq_true, Bool.not_eq_false, Int.not_lt, Int.not_le] at h104)
          refine dt_cmp od_ne ?_
          refine de_callB cd_isi rfl m_isinstance bt_isinstance ?_
          refine da_cons ?_
          refine de_var 0 rfl (.inr (.inl rfl)) rfl ?_
          refine da_cons ?_
          refine de_bty rfl m_tuple bt_tuple ?_
          refine da_nil ?_
          walk_at "op"
          refine de_callB cd_isi rfl m_isinstance bt_isinstance ?_
          refine da_cons ?_
          refine de_var 1 rfl (.inr (.inl rfl)) rfl ?_
          refine da_cons ?_
          refine de_bty rfl m_tuple bt_tuple ?_
          refine da_nil ?_
          walk_at "op"
          refine ⟨0, by omega, rfl, rfl, ?_⟩
          refine tb ?_
          exact q
        case b99 =>
          simp only [eqvD_bl]
          refine br.f ?_
          refine dss_nil ?_
          refine dss_cons (ds_ret ?_)
          refine de_pe (pe_and2 (k0 := ?k108) (k1 := ?k109) (fun W Q q => ?a110) (fun h112 W Q q => ?a111)) ?b107
          case a110 =>
            refine de_cmp od_eq ?_
            refine de_callB cd_len rfl m_len bt_len ?_
            refine da_cons ?_
            refine de_var 0 rfl (.inr (.inl rfl)) rfl ?_
            refine da_nil ?_
            (first | (refine len_l ?_; intro _) | (refine len_t ?_; intro _) | (refine len_f ?_; intro _) | refine len_s (by walk_at "side") ?_ | (refine len_o (by first | exact sput_same | assumption) ?_; intro _))
            refine de_callB cd_len rfl m_len bt_len ?_
            refine da_cons ?_
            refine de_var 1 rfl (.inr (.inl rfl)) rfl ?_
            refine da_nil ?_
            (first | (refine len_l ?_; intro _) | (refine len_t ?_; intro _) | (refine len_f ?_; intro _) | refine len_s (by walk_at "side") ?_ | (refine len_o (by first | exact sput_same | assumption) ?_; intro _))
            refine ⟨0, by omega, rfl, rfl, ?_⟩
            exact q
          case a111 =>
            (try simp only [decide_eq_true_eq, decide_eq_false_iff_not, Bool.and_eq_true, Bool.or_eq_true, Bool.not_eq_true', Bool.and_eq_false_iff, Bool.or_eq_false_iff, Bool.not_eq_false', Bool.not_eq_true, Bool.not_eq_false, Int.not_lt, Int.not_le] at h112)
            refine de_callB cd_all rfl m_all bt_all ?_
            refine da_cons ?_
            refine de_lc [("_law_k", 2)] (show blkC ["_law_found", "_law_due", "_law_k"] (defScope s__law_same) _ [("_law_k", 2)] = true from by decide +kernel) ?_
            refine di_rng1 rfl m_range ?_
            refine de_callB cd_len rfl m_len bt_len ?_
            refine da_cons ?_
            refine de_var 1 rfl (.inr (.inl rfl)) rfl ?_
            refine da_nil ?_
            (first | (refine len_l ?_; intro _) | (refine len_t ?_; intro _) | (refine len_f ?_; intro _) | refine len_s (by walk_at "side") ?_ | (refine len_o (by first | exact sput_same | assumption) ?_; intro _))
            refine ⟨_, rfl, ?_, ?_, ?_⟩
            · walk_at "side"
            · walk_at "side"
            refine ⟨fun i acc m' => acc = List.replicate i (.bl true) ∧ m' = m, ?_, ?_, ?_⟩
            · exact ⟨rfl, rfl⟩
            · rintro i d acc m' hi ⟨rfl, rfl⟩
              obtain ⟨hlt, rfl⟩ := rngD_get hi
              have hlt2 : i < l.length := by simpa using hlt
              have e0 : ((0 : Int) + (i : Nat)).toNat = i := by omega
              have hd : l[i]? = some l[i] := List.getElem?_eq_getElem hlt2
              refine dgv_name 2 (by decide) rfl (.inl rfl) ?_
              refine dts_nil ?_
              refine br.t ?_
              refine de_call kn__law_same (Nat.ble_self_eq_true _) rfl ?_
              refine da_cons ?_
              refine de_ix ?_
              refine de_var 0 rfl (by first | exact .inl rfl | exact .inr (.inl rfl) | exact .inr (.inr rfl)) rfl ?_
              refine de_var 2 rfl (.inl rfl) rfl ?_
              refine ixLi (by omega) (d := l[i]) (by rw [e0]; exact hd) ?_
              refine da_cons ?_
              refine de_ix ?_
              refine de_var 1 rfl (by first | exact .inl rfl | exact .inr (.inl rfl) | exact .inr (.inr rfl)) rfl ?_
              refine de_var 2 rfl (.inl rfl) rfl ?_
              refine ixLi (by omega) (d := l[i]) (by rw [e0]; exact hd) ?_
              refine da_nil ?_
              refine use_same rfl (okDL_mem ok' _ (List.getElem_mem _)) ?_
              refine ⟨?_, ?_, rfl⟩
              · rw [List.length_replicate]
                show i < sizeLine
                omega
              · rw [List.replicate_succ']
            · intro acc m' hI
              obtain ⟨hI, rfl⟩ := hI
              refine da_nil ?_
              refine ⟨_, _, rfl, by rw [hI]; exact blsD_true _, ?_⟩
              exact q
          case b107 =>
            simpa [eqvD_int, all_true] using hq
    | frz _ => simp [okD] at ok
    | dic _ _ => simp [okD] at ok
    | dit _ _ => simp [okD] at ok
    | ref _ => simp [okD] at ok
    | ty _ => simp [okD] at ok
  intro n
  induction n with
  | zero => exact fun h => step 0 h fun j e => by omega
  | succ n ih =>
    intro h
    refine step (n + 1) h fun j e => ?_
    obtain rfl : n = j := by omega
    exact ih (by omega)

end
end K06

namespace K06
open PySem PySem.Spec PyProof.Rows L2 G
local macro_rules | `(tactic| walk_at "op") => `(tactic| first | with_reducible refine add_ii ?_ | with_reducible refine sub_ii ?_ | with_reducible refine cmp_ii ?_ | with_reducible refine is_n ?_ | with_reducible refine isnt_n ?_ | with_reducible refine max_ii ?_ | with_reducible refine min_ii ?_ | with_reducible refine int_i ?_ | with_reducible refine int_b ?_ | refine len_l ?_ | refine len_t ?_ | refine isi rfl (by walk_at "kit") ?_)
local macro_rules | `(tactic| walk_at "kit") => `(tactic| first | exact kit_NoneType_bool | exact kit_NoneType_int | exact kit_NoneType_str | exact kit_NoneType_list | exact kit_NoneType_tuple | exact kit_NoneType_dict | exact kit_bool_bool | exact kit_bool_int | exact kit_bool_str | exact kit_bool_list | exact kit_bool_tuple | exact kit_bool_dict | exact kit_int_bool | exact kit_int_int | exact kit_int_str | exact kit_int_list | exact kit_int_tuple | exact kit_int_dict | exact kit_str_bool | exact kit_str_int | exact kit_str_str | exact kit_str_list | exact kit_str_tuple | exact kit_str_dict | exact kit_tuple_bool | exact kit_tuple_int | exact kit_tuple_str | exact kit_tuple_list | exact kit_tuple_tuple | exact kit_tuple_dict | exact kit_list_bool | exact kit_list_int | exact kit_list_str | exact kit_list_list | exact kit_list_tuple | exact kit_list_dict | exact kit_dict_bool | exact kit_dict_int | exact kit_dict_str | exact kit_dict_list | exact kit_dict_tuple | exact kit_dict_dict | exact kit2_NoneType_int_str | exact kit2_bool_int_str | exact kit2_int_int_str | exact kit2_str_int_str | exact kit2_tuple_int_str | exact kit2_list_int_str | exact kit2_dict_int_str)
local macro_rules | `(tactic| walk_at "side") => `(tactic| first | omega | (have hz := sizeLine_eq; omega))

local macro_rules | `(tactic| walk_at "st") => `(tactic| first | assumption | exact sput_same | exact (sput_ne (by assumption)).trans sput_same | exact (sput_ne (Ne.symm (by assumption))).trans sput_same | exact (sput_ne (by assumption)).trans (by assumption))
local macro_rules | `(tactic| walk_at "fslen") => `(tactic| (have hz := sizeLine_eq; simp only [Str.length_append]; omega))
local macro_rules | `(tactic| walk_at "fslog") => `(tactic| exact num_log (by omega) (by omega))

local macro_rules | `(tactic| walk_at "dv") => `(tactic| first | exact .inr rfl | exact .inl ⟨_, rfl, .inl (by walk_at "st")⟩)
local macro_rules | `(tactic| walk_at "dlen") => `(tactic| first | exact lenKV | exact lenKN)
local macro_rules | `(tactic| walk_at "dsz") => `(tactic| first | exact keysV_few (by assumption) | exact keysN_few (by assumption) | exact keysVd_few (by assumption) | exact keysNd_few (by assumption) | (show _ < sizeLine; decide))
local macro_rules | `(tactic| walk_at "insx") => `(tactic| first | exact ⟨_, by walk_at "st", rfl⟩ | exact Abs.szI (by assumption) (by walk_at "hst") (by intro _ _; rfl))
local macro_rules | `(tactic| walk_at "fldx") => `(tactic| first | exact ⟨_, by walk_at "st", rfl⟩ | exact Abs.szF (by assumption) (by walk_at "hst") (by intro _ _; rfl))
local macro_rules | `(tactic| walk_at "hst") => `(tactic| first | assumption | exact hput_same | (refine (hput_ne (by first | assumption | exact Ne.symm (by assumption))).trans ?_; walk_at "hst"))

local macro_rules | `(tactic| walk_at "st") => `(tactic| first | assumption | exact sput_same | (refine (sput_ne (by first | assumption | exact Ne.symm (by assumption))).trans ?_; walk_at "st") | (refine (sdel_ne (by first | assumption | exact Ne.symm (by assumption))).trans ?_; walk_at "st"))
section
variable {P : Program} {w : World} {K : PySem.W.Frag} {mg : Str → Option Value} {base : Heap}

abbrev s_need_size : Stmt := topS 15
theorem sc_need_size : FnScope ["size"] ["size"] (defScope s_need_size) := ⟨rfl, rfl, rfl, by decide +kernel, rfl, by decide +kernel, by decide +kernel⟩
set_option maxHeartbeats 4000000 in
theorem kn_need_size {f : Addr} {fd : FuncData} (Fn : FnP K "need_size" s_need_size f fd) (g : mg "need_size" = some (.ref f))  {c_BadSize : Addr} (ec_BadSize : Ec K mg "BadSize" c_BadSize) (gi_LEAST : ∃ t, mg "LEAST" = some (.int 1 t)) (gi_GREATEST : ∃ t, mg "GREATEST" = some (.int 60 t))  : Kn P w K mg base "need_size" 1 (FNeedSize c_BadSize) := by
  have b : Binds K fd ["size"] [] := FunD.bindsN Fn fun _ _ _ _ _ _ us hl => match us, hl with | [_], _ => rfl
  refine ⟨f, fd, ["size"], ?_, g, Fn.kp, b⟩
  refine def_ok (N := ["size"]) Fn sc_need_size FNeedSize.len ?_
  rintro ds m Q E ⟨s, rfl, hq, he⟩
  refine dss_cons (ds_if ?_)
  refine dt_pt (pt_or2 (k0 := ?k114) (k1 := ?k115) (fun W B q => ?a116) (fun h118 W B q => ?a117)) ?b113
  case a116 =>
    refine dt_cmp od_lt ?_
    refine de_var 0 rfl (.inl rfl) rfl ?_
    refine de_gint gi_LEAST rfl ?_
    walk_at "op"
    refine tb ?_
    exact q
  case a117 =>
    (try simp only [decide_eq_true_eq, decide_eq_false_iff_not, Bool.and_eq_true, Bool.or_eq_true, Bool.not_eq_true', Bool.and_eq_false_iff, Bool.or_eq_false_iff, Bool.not_eq_false', Bool.not_eq_true, Bool.not_eq_false, Int.not_lt, Int.not_le] at h118)
    refine dt_cmp od_gt ?_
    refine de_var 0 rfl (.inl rfl) rfl ?_
    refine de_gint gi_GREATEST rfl ?_
    walk_at "op"
    refine tb ?_
    exact q
  case b113 =>
    refine br.any (fun h119 => ?_) (fun h119 => ?_)
    · (try simp only [decide_eq_true_eq, decide_eq_false_iff_not, Bool.and_eq_true, Bool.or_eq_true, Bool.not_eq_true', Bool.and_eq_false_iff, Bool.or_eq_false_iff, Bool.not_eq_false', Bool.not_eq_true, Bool.not_eq_false, Int.not_lt, Int.not_le] at h119)
      have hr := h119
      refine dss_cons (ds_raise ec_BadSize rfl ?_)
      exact he hr
    · (try simp only [decide_eq_true_eq, decide_eq_false_iff_not, Bool.and_eq_true, Bool.or_eq_true, Bool.not_eq_true', Bool.and_eq_false_iff, Bool.or_eq_false_iff, Bool.not_eq_false', Bool.not_eq_true, Bool.not_eq_false, Int.not_lt, Int.not_le] at h119)
      have hr := h119
      refine dss_nil ?_
      refine dss_nil ?_
      exact hq (by omega) (by omega)

abbrev s_Sizes_need : Stmt := inClass (topS 16) 3
theorem sc_Sizes_need : FnScope ["self", "number"] ["self", "number"] (defScope s_Sizes_need) := ⟨rfl, rfl, rfl, by decide +kernel, rfl, by decide +kernel, by decide +kernel⟩
set_option maxHeartbeats 4000000 in
theorem km_Sizes_need {f : Addr} {fd : FuncData} (Fn : FunD K "need" "Sizes.need" (defArgs s_Sizes_need) (defBody s_Sizes_need) (defScope s_Sizes_need) [] [] f fd)  {c_NoIndex : Addr} (ec_NoIndex : EcI K mg "NoIndex" c_NoIndex) {c_Sizes : Addr} (ic_Sizes : InsC K c_Sizes) (na_Sizes_many : NoAttr K c_Sizes "many") (mh : Meth K c_Sizes "need" f)  : KnM P w K mg base c_Sizes "need" 1 (FNeed c_Sizes c_NoIndex) := by
  have b : Binds K fd ["self", "number"] [] := FunD.bindsN Fn fun _ _ _ _ _ _ us hl => match us, hl with | [_, _], _ => rfl
  refine ⟨f, fd, ["self", "number"], ?_, mh, b⟩
  refine def_ok (N := ["self", "number"]) Fn sc_Sizes_need FNeed.len ?_
  rintro ds m Q E ⟨p, k, z, rfl, ⟨a1, a2, h1, h2, h3, hne0⟩, hq, he⟩
  refine dss_cons (ds_if ?_)
  refine dt_pt (pt_or2 (k0 := ?k121) (k1 := ?k122) (fun W B q => ?a123) (fun h125 W B q => ?a124)) ?b120
  case a123 =>
    refine dt_cmp od_lt ?_
    refine de_var 1 rfl (.inl rfl) rfl ?_
    refine de_int ?_
    walk_at "op"
    refine tb ?_
    exact q
  case a124 =>
    (try simp only [decide_eq_true_eq, decide_eq_false_iff_not, Bool.and_eq_true, Bool.or_eq_true, Bool.not_eq_true', Bool.and_eq_false_iff, Bool.or_eq_false_iff, Bool.not_eq_false', Bool.not_eq_true, Bool.not_eq_false, Int.not_lt, Int.not_le] at h125)
    refine dt_cmp od_ge ?_
    refine de_var 1 rfl (.inl rfl) rfl ?_
    refine de_fld ?_
    refine de_var 0 rfl (.inl rfl) rfl ?_
    refine ⟨_, _, _, _, rfl, by walk_at "st", ic_Sizes.cl, na_Sizes_many, rfl, ?_⟩
    walk_at "op"
    refine tb ?_
    exact q
  case b120 =>
    refine br.any (fun h126 => ?_) (fun h126 => ?_)
    · (try simp only [decide_eq_true_eq, decide_eq_false_iff_not, Bool.and_eq_true, Bool.or_eq_true, Bool.not_eq_true', Bool.and_eq_false_iff, Bool.or_eq_false_iff, Bool.not_eq_false', Bool.not_eq_true, Bool.not_eq_false, Int.not_lt, Int.not_le] at h126)
      have hr := h126
      refine dss_cons (ds_raiseB PySem.F.excBase_IndexError ec_NoIndex rfl ?_)
      exact he hr
    · (try simp only [decide_eq_true_eq, decide_eq_false_iff_not, Bool.and_eq_true, Bool.or_eq_true, Bool.not_eq_true', Bool.and_eq_false_iff, Bool.or_eq_false_iff, Bool.not_eq_false', Bool.not_eq_true, Bool.not_eq_false, Int.not_lt, Int.not_le] at h126)
      have hr := h126
      refine dss_nil ?_
      refine dss_nil ?_
      exact hq (by omega) (by omega)

abbrev s_Sizes_odd : Stmt := inClass (topS 16) 4
theorem sc_Sizes_odd : FnScope ["self"] ["self"] (defScope s_Sizes_odd) := ⟨rfl, rfl, rfl, by decide +kernel, rfl, by decide +kernel, by decide +kernel⟩
set_option maxHeartbeats 4000000 in
theorem km_Sizes_odd {f : Addr} {fd : FuncData} (Fn : FunD K "odd" "Sizes.odd" (defArgs s_Sizes_odd) (defBody s_Sizes_odd) (defScope s_Sizes_odd) [] [] f fd) (m_sorted : mg "sorted" = none) (m_set : mg "set" = none) {c_Sizes : Addr} (ic_Sizes : InsC K c_Sizes) (na_Sizes_given : NoAttr K c_Sizes "given") (na_Sizes_gone : NoAttr K c_Sizes "gone") (mh : Meth K c_Sizes "odd" f)  : KnM P w K mg base c_Sizes "odd" 1 (FOdd c_Sizes) := by
  have b : Binds K fd ["self"] [] := FunD.bindsN Fn fun _ _ _ _ _ _ us hl => match us, hl with | [_], _ => rfl
  refine ⟨f, fd, ["self"], ?_, mh, b⟩
  refine def_ok (N := ["self"]) Fn sc_Sizes_odd FOdd.len ?_
  rintro ds m Q E ⟨p, z, rfl, ⟨a1, a2, h1, h2, h3, hne0⟩, ok, hq⟩
  refine dss_cons (ds_ret ?_)
  refine de_odd 0 (ns1 := z.gv.map Prod.fst) (ns2 := z.gn) (U := z.odd) rfl (.inl rfl) rfl h1 ic_Sizes.cl na_Sizes_given na_Sizes_gone rfl rfl (.inl h2) (.inl h3) ok.few64 ok.fewV ok.fewN (fun k hk => Sz.mem_odd.mpr hk) (fun u hu1 hu2 => ?_) rfl m_sorted rfl m_set
  rw [Sz.odd_of hu1 hu2]
  exact hq

abbrev s_Sizes_own : Stmt := inClass (topS 16) 6
theorem sc_Sizes_own : FnScope ["self", "number"] ["self", "number"] (defScope s_Sizes_own) := ⟨rfl, rfl, rfl, by decide +kernel, rfl, by decide +kernel, by decide +kernel⟩
set_option maxHeartbeats 4000000 in
theorem km_Sizes_own {f : Addr} {fd : FuncData} (Fn : FunD K "own" "Sizes.own" (defArgs s_Sizes_own) (defBody s_Sizes_own) (defScope s_Sizes_own) [] [] f fd)  {c_NoIndex : Addr} {c_Sizes : Addr} (ic_Sizes : InsC K c_Sizes) (na_Sizes_given : NoAttr K c_Sizes "given") (na_Sizes_common : NoAttr K c_Sizes "common") (km_Sizes_need : KnM P w K mg base c_Sizes "need" 1 (FNeed c_Sizes c_NoIndex)) (mh : Meth K c_Sizes "own" f)  : KnM P w K mg base c_Sizes "own" 2 (FOwn c_Sizes c_NoIndex) := by
  have b : Binds K fd ["self", "number"] [] := FunD.bindsN Fn fun _ _ _ _ _ _ us hl => match us, hl with | [_, _], _ => rfl
  refine ⟨f, fd, ["self", "number"], ?_, mh, b⟩
  refine def_ok (N := ["self", "number"]) Fn sc_Sizes_own FOwn.len ?_
  rintro ds m Q E ⟨p, k, z, rfl, ⟨a1, a2, h1, h2, h3, hne0⟩, hq, he⟩
  refine dss_cons (ds_expr ?_)
  refine de_meth km_Sizes_need ic_Sizes.cl rfl ?_
  refine de_var 0 rfl (.inl rfl) rfl ?_
  refine ⟨_, _, rfl, by walk_at "st", rfl, ?_⟩
  refine da_cons ?_
  refine de_var 1 rfl (.inl rfl) rfl ?_
  refine da_nil ?_
  refine ⟨_, _, z, rfl, ⟨a1, a2, h1, h2, h3, hne0⟩, fun hk1 hk2 => ?_, fun hr => he hr⟩
  refine dss_cons (ds_ret ?_)
  refine de_dget2 ?_
  refine de_fld ?_
  refine de_var 0 rfl (.inl rfl) rfl ?_
  refine ⟨_, _, _, _, rfl, by walk_at "st", ic_Sizes.cl, na_Sizes_given, rfl, ?_⟩
  refine ⟨_, _, _, rfl, .inl (by walk_at "st"), ?_⟩
  refine de_var 1 rfl (.inl rfl) rfl ?_
  refine de_fld ?_
  refine de_var 0 rfl (.inl rfl) rfl ?_
  refine ⟨_, _, _, _, rfl, by walk_at "st", ic_Sizes.cl, na_Sizes_common, rfl, ?_⟩
  refine ⟨_, _, .inl _, rfl, .inl (by walk_at "st"), ?_⟩
  rw [val_own]
  exact hq hk1 hk2

abbrev s_Sizes_hidden : Stmt := inClass (topS 16) 7
theorem sc_Sizes_hidden : FnScope ["self", "number"] ["self", "number"] (defScope s_Sizes_hidden) := ⟨rfl, rfl, rfl, by decide +kernel, rfl, by decide +kernel, by decide +kernel⟩
set_option maxHeartbeats 4000000 in
theorem km_Sizes_hidden {f : Addr} {fd : FuncData} (Fn : FunD K "hidden" "Sizes.hidden" (defArgs s_Sizes_hidden) (defBody s_Sizes_hidden) (defScope s_Sizes_hidden) [] [] f fd)  {c_NoIndex : Addr} {c_Sizes : Addr} (ic_Sizes : InsC K c_Sizes) (na_Sizes_gone : NoAttr K c_Sizes "gone") (km_Sizes_need : KnM P w K mg base c_Sizes "need" 1 (FNeed c_Sizes c_NoIndex)) (mh : Meth K c_Sizes "hidden" f)  : KnM P w K mg base c_Sizes "hidden" 2 (FHid c_Sizes c_NoIndex) := by
  have b : Binds K fd ["self", "number"] [] := FunD.bindsN Fn fun _ _ _ _ _ _ us hl => match us, hl with | [_, _], _ => rfl
  refine ⟨f, fd, ["self", "number"], ?_, mh, b⟩
  refine def_ok (N := ["self", "number"]) Fn sc_Sizes_hidden FHid.len ?_
  rintro ds m Q E ⟨p, k, z, rfl, ⟨a1, a2, h1, h2, h3, hne0⟩, hq, he⟩
  refine dss_cons (ds_expr ?_)
  refine de_meth km_Sizes_need ic_Sizes.cl rfl ?_
  refine de_var 0 rfl (.inl rfl) rfl ?_
  refine ⟨_, _, rfl, by walk_at "st", rfl, ?_⟩
  refine da_cons ?_
  refine de_var 1 rfl (.inl rfl) rfl ?_
  refine da_nil ?_
  refine ⟨_, _, z, rfl, ⟨a1, a2, h1, h2, h3, hne0⟩, fun hk1 hk2 => ?_, fun hr => he hr⟩
  refine dss_cons (ds_ret ?_)
  refine de_din ?_
  refine de_var 1 rfl (.inl rfl) rfl ?_
  refine de_fld ?_
  refine de_var 0 rfl (.inl rfl) rfl ?_
  refine ⟨_, _, _, _, rfl, by walk_at "st", ic_Sizes.cl, na_Sizes_gone, rfl, ?_⟩
  refine ⟨_, _, _, .inl _, rfl, rfl, .inl (by walk_at "st"), ?_⟩
  rw [val_gone]
  exact hq hk1 hk2

abbrev s_Sizes_size : Stmt := inClass (topS 16) 8
theorem sc_Sizes_size : FnScope ["self", "number"] ["self", "number"] (defScope s_Sizes_size) := ⟨rfl, rfl, rfl, by decide +kernel, rfl, by decide +kernel, by decide +kernel⟩
set_option maxHeartbeats 4000000 in
theorem km_Sizes_size {f : Addr} {fd : FuncData} (Fn : FunD K "size" "Sizes.size" (defArgs s_Sizes_size) (defBody s_Sizes_size) (defScope s_Sizes_size) [] [] f fd)  {c_NoIndex : Addr} {c_Sizes : Addr} (ic_Sizes : InsC K c_Sizes) (na_Sizes_gone : NoAttr K c_Sizes "gone") (na_Sizes_given : NoAttr K c_Sizes "given") (na_Sizes_common : NoAttr K c_Sizes "common") (km_Sizes_need : KnM P w K mg base c_Sizes "need" 1 (FNeed c_Sizes c_NoIndex)) (mh : Meth K c_Sizes "size" f)  : KnM P w K mg base c_Sizes "size" 2 (FSize c_Sizes c_NoIndex) := by
  have b : Binds K fd ["self", "number"] [] := FunD.bindsN Fn fun _ _ _ _ _ _ us hl => match us, hl with | [_, _], _ => rfl
  refine ⟨f, fd, ["self", "number"], ?_, mh, b⟩
  refine def_ok (N := ["self", "number"]) Fn sc_Sizes_size FSize.len ?_
  rintro ds m Q E ⟨p, k, z, rfl, ⟨a1, a2, h1, h2, h3, hne0⟩, hq, he⟩
  refine dss_cons (ds_expr ?_)
  refine de_meth km_Sizes_need ic_Sizes.cl rfl ?_
  refine de_var 0 rfl (.inl rfl) rfl ?_
  refine ⟨_, _, rfl, by walk_at "st", rfl, ?_⟩
  refine da_cons ?_
  refine de_var 1 rfl (.inl rfl) rfl ?_
  refine da_nil ?_
  refine ⟨_, _, z, rfl, ⟨a1, a2, h1, h2, h3, hne0⟩, fun hk1 hk2 => ?_, fun hr => he hr⟩
  refine dss_cons (ds_if ?_)
  refine dt_din ?_
  refine de_var 1 rfl (.inl rfl) rfl ?_
  refine de_fld ?_
  refine de_var 0 rfl (.inl rfl) rfl ?_
  refine ⟨_, _, _, _, rfl, by walk_at "st", ic_Sizes.cl, na_Sizes_gone, rfl, ?_⟩
  refine ⟨_, _, _, .inl _, rfl, rfl, .inl (by walk_at "st"), ?_⟩
  rw [val_gone]
  refine br.any (fun h127 => ?_) (fun h127 => ?_)
  · (try simp only [decide_eq_true_eq, decide_eq_false_iff_not, Bool.and_eq_true, Bool.or_eq_true, Bool.not_eq_true', Bool.and_eq_false_iff, Bool.or_eq_false_iff, Bool.not_eq_false', Bool.not_eq_true, Bool.not_eq_false, Int.not_lt, Int.not_le] at h127)
    have hx := h127
    refine dss_cons (ds_ret ?_)
    refine de_int ?_
    have q := hq hk1 hk2
    rw [Sz.size_gone hx] at q
    exact q
  · (try simp only [decide_eq_true_eq, decide_eq_false_iff_not, Bool.and_eq_true, Bool.or_eq_true, Bool.not_eq_true', Bool.and_eq_false_iff, Bool.or_eq_false_iff, Bool.not_eq_false', Bool.not_eq_true, Bool.not_eq_false, Int.not_lt, Int.not_le] at h127)
    have hx := h127
    refine dss_nil ?_
    refine dss_cons (ds_ret ?_)
    refine de_dget2 ?_
    refine de_fld ?_
    refine de_var 0 rfl (.inl rfl) rfl ?_
    refine ⟨_, _, _, _, rfl, by walk_at "st", ic_Sizes.cl, na_Sizes_given, rfl, ?_⟩
    refine ⟨_, _, _, rfl, .inl (by walk_at "st"), ?_⟩
    refine de_var 1 rfl (.inl rfl) rfl ?_
    refine de_fld ?_
    refine de_var 0 rfl (.inl rfl) rfl ?_
    refine ⟨_, _, _, _, rfl, by walk_at "st", ic_Sizes.cl, na_Sizes_common, rfl, ?_⟩
    refine ⟨_, _, .inl _, rfl, .inl (by walk_at "st"), ?_⟩
    rw [val_own]
    have q := hq hk1 hk2
    rw [Sz.size_own hx] at q
    exact q

abbrev s_Sizes_ahead : Stmt := inClass (topS 16) 9
theorem sc_Sizes_ahead : FnScope ["self", "number", "k"] ["self", "number"] (defScope s_Sizes_ahead) := ⟨rfl, rfl, rfl, by decide +kernel, rfl, by decide +kernel, by decide +kernel⟩
set_option maxHeartbeats 4000000 in
theorem km_Sizes_ahead {f : Addr} {fd : FuncData} (Fn : FunD K "ahead" "Sizes.ahead" (defArgs s_Sizes_ahead) (defBody s_Sizes_ahead) (defScope s_Sizes_ahead) [] [] f fd) (m_sum : mg "sum" = none) {c_NoIndex : Addr} (ec_NoIndex : EcI K mg "NoIndex" c_NoIndex) {c_Sizes : Addr} (ic_Sizes : InsC K c_Sizes) (na_Sizes_many : NoAttr K c_Sizes "many") (na_Sizes_common : NoAttr K c_Sizes "common") (km_Sizes_odd : KnM P w K mg base c_Sizes "odd" 1 (FOdd c_Sizes)) (km_Sizes_size : KnM P w K mg base c_Sizes "size" 2 (FSize c_Sizes c_NoIndex)) (mh : Meth K c_Sizes "ahead" f)  : KnM P w K mg base c_Sizes "ahead" 3 (FAhead c_Sizes c_NoIndex) := by
  have b : Binds K fd ["self", "number"] [] := FunD.bindsN Fn fun _ _ _ _ _ _ us hl => match us, hl with | [_, _], _ => rfl
  refine ⟨f, fd, ["self", "number"], ?_, mh, b⟩
  refine def_ok (N := ["self", "number", "k"]) Fn sc_Sizes_ahead FAhead.len ?_
  rintro ds m Q E ⟨p, k, z, rfl, ⟨a1, a2, h1, h2, h3, hne0⟩, ok, hq, he⟩
  refine dss_cons (ds_if ?_)
  refine dt_pt (pt_or2 (k0 := ?k129) (k1 := ?k130) (fun W B q => ?a131) (fun h133 W B q => ?a132)) ?b128
  case a131 =>
    refine dt_cmp od_lt ?_
    refine de_var 1 rfl (.inr (.inl rfl)) rfl ?_
    refine de_int ?_
    walk_at "op"
    refine tb ?_
    exact q
  case a132 =>
    (try simp only [decide_eq_true_eq, decide_eq_false_iff_not, Bool.and_eq_true, Bool.or_eq_true, Bool.not_eq_true', Bool.and_eq_false_iff, Bool.or_eq_false_iff, Bool.not_eq_false', Bool.not_eq_true, Bool.not_eq_false, Int.not_lt, Int.not_le] at h133)
    refine dt_cmp od_gt ?_
    refine de_var 1 rfl (.inr (.inl rfl)) rfl ?_
    refine de_fld ?_
    refine de_var 0 rfl (.inr (.inl rfl)) rfl ?_
    refine ⟨_, _, _, _, rfl, by walk_at "st", ic_Sizes.cl, na_Sizes_many, rfl, ?_⟩
    walk_at "op"
    refine tb ?_
    exact q
  case b128 =>
    refine br.any (fun h134 => ?_) (fun h134 => ?_)
    · (try simp only [decide_eq_true_eq, decide_eq_false_iff_not, Bool.and_eq_true, Bool.or_eq_true, Bool.not_eq_true', Bool.and_eq_false_iff, Bool.or_eq_false_iff, Bool.not_eq_false', Bool.not_eq_true, Bool.not_eq_false, Int.not_lt, Int.not_le] at h134)
      have hr := h134
      refine dss_cons (ds_raiseB PySem.F.excBase_IndexError ec_NoIndex rfl ?_)
      exact he hr
    · (try simp only [decide_eq_true_eq, decide_eq_false_iff_not, Bool.and_eq_true, Bool.or_eq_true, Bool.not_eq_true', Bool.and_eq_false_iff, Bool.or_eq_false_iff, Bool.not_eq_false', Bool.not_eq_true, Bool.not_eq_false, Int.not_lt, Int.not_le] at h134)
      have hr := h134
      refine dss_nil ?_
      refine dss_cons (ds_ret ?_)
      refine de_bin od_add ?_
      refine de_bin od_mul ?_
      refine de_var 1 rfl (.inr (.inl rfl)) rfl ?_
      refine de_fld ?_
      refine de_var 0 rfl (.inr (.inl rfl)) rfl ?_
      refine ⟨_, _, _, _, rfl, by walk_at "st", ic_Sizes.cl, na_Sizes_common, rfl, ?_⟩
      refine mul_ii (by have := ok.n2; have := ok.c2; have := ok.c1; unfold CMul; omega) ?_
      refine de_callB cd_sum rfl m_sum bt_sum ?_
      refine da_cons ?_
      refine de_lc [("k", 2)] (show blkC ["self", "number", "k"] (defScope s_Sizes_ahead) _ [("k", 2)] = true from by decide +kernel) ?_
      refine di_lst ?_
      refine de_meth0 km_Sizes_odd ic_Sizes.cl rfl ?_
      refine de_var 0 rfl (.inr (.inl rfl)) rfl ?_
      refine ⟨_, _, rfl, by walk_at "st", rfl, ?_⟩
      refine ⟨_, z, rfl, ⟨a1, a2, h1, h2, h3, hne0⟩, ok, ?_⟩
      refine ⟨_, rfl, ?_⟩
      refine ⟨fun i acc m' => acc = (((z.odd.take i).filter fun j => decide (j < k)).map fun j => z.size j - z.c).map G.D.int ∧ m = m', ?_, ?_, ?_⟩
      · exact ⟨rfl, rfl⟩
      · rintro i d acc m' hi ⟨rfl, rfl⟩
        obtain ⟨j, hj, rfl, hj3⟩ := odd_get hi
        have hlt : i < z.odd.length := (List.getElem?_eq_some_iff.mp hj).1
        refine dgv_name 2 (by decide) rfl (.inl rfl) ?_
        refine dts_one ?_
        refine dt_cmp od_lt ?_
        refine de_var 2 rfl (.inl rfl) rfl ?_
        refine de_var 1 rfl (by first | exact .inl rfl | exact .inr (.inl rfl) | exact .inr (.inr rfl)) rfl ?_
        walk_at "op"
        refine tb ?_
        refine br.any (fun h135 => ?_) (fun h135 => ?_)
        · (try simp only [decide_eq_true_eq, decide_eq_false_iff_not, Bool.and_eq_true, Bool.or_eq_true, Bool.not_eq_true', Bool.and_eq_false_iff, Bool.or_eq_false_iff, Bool.not_eq_false', Bool.not_eq_true, Bool.not_eq_false, Int.not_lt, Int.not_le] at h135)
          have hx := h135
          refine de_bin od_sub ?_
          refine de_meth km_Sizes_size ic_Sizes.cl rfl ?_
          refine de_var 0 rfl (by first | exact .inl rfl | exact .inr (.inl rfl) | exact .inr (.inr rfl)) rfl ?_
          refine ⟨_, _, rfl, by walk_at "st", rfl, ?_⟩
          refine da_cons ?_
          refine de_var 2 rfl (.inl rfl) rfl ?_
          refine da_nil ?_
          refine ⟨_, _, z, rfl, ⟨a1, a2, h1, h2, h3, hne0⟩, fun _ _ => ?_, fun hr => by have := ok.odd_in hj3; omega⟩
          refine de_fld ?_
          refine de_var 0 rfl (by first | exact .inl rfl | exact .inr (.inl rfl) | exact .inr (.inr rfl)) rfl ?_
          refine ⟨_, _, _, _, rfl, by walk_at "st", ic_Sizes.cl, na_Sizes_common, rfl, ?_⟩
          walk_at "op"
          refine ⟨?_, ?_, rfl⟩
          · have hz := sizeLine_eq
            have := ok.few
            have h5 := List.length_filter_le (fun j => decide (j < k)) (z.odd.take i)
            rw [List.length_map, List.length_map]
            rw [List.length_take] at h5
            omega
          · rw [List.take_succ, hj, List.filter_append, List.map_append, List.map_append]
            simp [hx]
        · (try simp only [decide_eq_true_eq, decide_eq_false_iff_not, Bool.and_eq_true, Bool.or_eq_true, Bool.not_eq_true', Bool.and_eq_false_iff, Bool.or_eq_false_iff, Bool.not_eq_false', Bool.not_eq_true, Bool.not_eq_false, Int.not_lt, Int.not_le] at h135)
          have hx := h135
          refine ⟨?_, rfl⟩
          rw [List.take_succ, hj, List.filter_append, List.map_append, List.map_append]
          simp [hx]
      · rintro acc m' ⟨rfl, rfl⟩
        rw [show (z.odd.map G.D.int).length = z.odd.length from List.length_map .., List.take_length]
        refine da_nil ?_
        refine ⟨_, rfl, ?_⟩
        walk_at "op"
        exact hq (by omega) (by omega)

abbrev s_Sizes_total : Stmt := inClass (topS 16) 10
theorem sc_Sizes_total : FnScope ["self"] ["self"] (defScope s_Sizes_total) := ⟨rfl, rfl, rfl, by decide +kernel, rfl, by decide +kernel, by decide +kernel⟩
set_option maxHeartbeats 4000000 in
theorem km_Sizes_total {f : Addr} {fd : FuncData} (Fn : FunD K "total" "Sizes.total" (defArgs s_Sizes_total) (defBody s_Sizes_total) (defScope s_Sizes_total) [] [] f fd)  {c_NoIndex : Addr} {c_Sizes : Addr} (ic_Sizes : InsC K c_Sizes) (na_Sizes_many : NoAttr K c_Sizes "many") (km_Sizes_ahead : KnM P w K mg base c_Sizes "ahead" 3 (FAhead c_Sizes c_NoIndex)) (mh : Meth K c_Sizes "total" f)  : KnM P w K mg base c_Sizes "total" 4 (FTotal c_Sizes) := by
  have b : Binds K fd ["self"] [] := FunD.bindsN Fn fun _ _ _ _ _ _ us hl => match us, hl with | [_], _ => rfl
  refine ⟨f, fd, ["self"], ?_, mh, b⟩
  refine def_ok (N := ["self"]) Fn sc_Sizes_total FTotal.len ?_
  rintro ds m Q E ⟨p, z, rfl, ⟨a1, a2, h1, h2, h3, hne0⟩, ok, hq⟩
  refine dss_cons (ds_ret ?_)
  refine de_meth km_Sizes_ahead ic_Sizes.cl rfl ?_
  refine de_var 0 rfl (.inl rfl) rfl ?_
  refine ⟨_, _, rfl, by walk_at "st", rfl, ?_⟩
  refine da_cons ?_
  refine de_fld ?_
  refine de_var 0 rfl (.inl rfl) rfl ?_
  refine ⟨_, _, _, _, rfl, by walk_at "st", ic_Sizes.cl, na_Sizes_many, rfl, ?_⟩
  refine da_nil ?_
  refine ⟨_, _, z, rfl, ⟨a1, a2, h1, h2, h3, hne0⟩, ok, fun _ _ => ?_, fun hr => absurd hr (by have := ok.n1; omega)⟩
  exact hq

abbrev s_Sizes_exceptions : Stmt := inClass (topS 16) 12
theorem sc_Sizes_exceptions : FnScope ["self", "k"] ["self"] (defScope s_Sizes_exceptions) := ⟨rfl, rfl, rfl, by decide +kernel, rfl, by decide +kernel, by decide +kernel⟩
set_option maxHeartbeats 4000000 in
theorem km_Sizes_exceptions {f : Addr} {fd : FuncData} (Fn : FunD K "exceptions" "Sizes.exceptions" (defArgs s_Sizes_exceptions) (defBody s_Sizes_exceptions) (defScope s_Sizes_exceptions) [] [] f fd)  {c_Sizes : Addr} (ic_Sizes : InsC K c_Sizes) (na_Sizes_given : NoAttr K c_Sizes "given") (na_Sizes_common : NoAttr K c_Sizes "common") (na_Sizes_gone : NoAttr K c_Sizes "gone") (km_Sizes_odd : KnM P w K mg base c_Sizes "odd" 1 (FOdd c_Sizes)) (mh : Meth K c_Sizes "exceptions" f)  : KnM P w K mg base c_Sizes "exceptions" 2 (FExc c_Sizes) := by
  have b : Binds K fd ["self"] [] := FunD.bindsN Fn fun _ _ _ _ _ _ us hl => match us, hl with | [_], _ => rfl
  refine ⟨f, fd, ["self"], ?_, mh, b⟩
  refine def_ok (N := ["self", "k"]) Fn sc_Sizes_exceptions FExc.len ?_
  rintro ds m Q E ⟨p, z, rfl, ⟨a1, a2, h1, h2, h3, hne0⟩, ok, hq⟩
  refine dss_cons (ds_ret ?_)
  refine de_lc [("k", 1)] (show blkC ["self", "k"] (defScope s_Sizes_exceptions) _ [("k", 1)] = true from by decide +kernel) ?_
  refine di_lst ?_
  refine de_meth0 km_Sizes_odd ic_Sizes.cl rfl ?_
  refine de_var 0 rfl (.inr (.inl rfl)) rfl ?_
  refine ⟨_, _, rfl, by walk_at "st", rfl, ?_⟩
  refine ⟨_, z, rfl, ⟨a1, a2, h1, h2, h3, hne0⟩, ok, ?_⟩
  refine ⟨_, rfl, ?_⟩
  refine ⟨fun i acc m' => acc = (z.odd.take i).map (fun k => G.D.tup [.int k, .int (z.own k), .bl (z.hid k)]) ∧ m = m', ?_, ?_, ?_⟩
  · exact ⟨rfl, rfl⟩
  · rintro i d acc m' hi ⟨rfl, rfl⟩
    obtain ⟨j, hj, rfl, hj3⟩ := odd_get hi
    have hlt : i < z.odd.length := (List.getElem?_eq_some_iff.mp hj).1
    refine dgv_name 1 (by decide) rfl (.inl rfl) ?_
    refine dts_nil ?_
    refine br.t ?_
    refine de_tup ?_
    refine da_cons ?_
    refine de_var 1 rfl (.inl rfl) rfl ?_
    refine da_cons ?_
    refine de_dget2 ?_
    refine de_fld ?_
    refine de_var 0 rfl (by first | exact .inl rfl | exact .inr (.inl rfl) | exact .inr (.inr rfl)) rfl ?_
    refine ⟨_, _, _, _, rfl, by walk_at "st", ic_Sizes.cl, na_Sizes_given, rfl, ?_⟩
    refine ⟨_, _, _, rfl, .inl (by walk_at "st"), ?_⟩
    refine de_var 1 rfl (.inl rfl) rfl ?_
    refine de_fld ?_
    refine de_var 0 rfl (by first | exact .inl rfl | exact .inr (.inl rfl) | exact .inr (.inr rfl)) rfl ?_
    refine ⟨_, _, _, _, rfl, by walk_at "st", ic_Sizes.cl, na_Sizes_common, rfl, ?_⟩
    refine ⟨_, _, .inl _, rfl, .inl (by walk_at "st"), ?_⟩
    rw [val_own]
    refine da_cons ?_
    refine de_din ?_
    refine de_var 1 rfl (.inl rfl) rfl ?_
    refine de_fld ?_
    refine de_var 0 rfl (by first | exact .inl rfl | exact .inr (.inl rfl) | exact .inr (.inr rfl)) rfl ?_
    refine ⟨_, _, _, _, rfl, by walk_at "st", ic_Sizes.cl, na_Sizes_gone, rfl, ?_⟩
    refine ⟨_, _, _, .inl _, rfl, rfl, .inl (by walk_at "st"), ?_⟩
    rw [val_gone]
    refine da_nil ?_
    refine ⟨sz_lit rfl, ?_⟩
    refine ⟨?_, ?_, rfl⟩
    · have hz := sizeLine_eq
      have := ok.few
      rw [List.length_map, List.length_take]
      omega
    · rw [List.take_succ, hj, List.map_append]
      rfl
  · rintro acc m' ⟨rfl, rfl⟩
    rw [show (z.odd.map G.D.int).length = z.odd.length from List.length_map .., List.take_length]
    exact hq

abbrev s_Sizes___repr__ : Stmt := inClass (topS 16) 2
theorem sc_Sizes___repr__ : FnScope ["self"] ["self"] (defScope s_Sizes___repr__) := ⟨rfl, rfl, rfl, by decide +kernel, rfl, by decide +kernel, by decide +kernel⟩
set_option maxHeartbeats 4000000 in
theorem km_Sizes___repr__ {f : Addr} {fd : FuncData} (Fn : FunD K "__repr__" "Sizes.__repr__" (defArgs s_Sizes___repr__) (defBody s_Sizes___repr__) (defScope s_Sizes___repr__) [] [] f fd)  {c_Sizes : Addr} (ic_Sizes : InsC K c_Sizes) (na_Sizes_many : NoAttr K c_Sizes "many") (na_Sizes_common : NoAttr K c_Sizes "common") (mh : Meth K c_Sizes "__repr__" f)  : KnM P w K mg base c_Sizes "__repr__" 1 (FRepr c_Sizes) := by
  have b : Binds K fd ["self"] [] := FunD.bindsN Fn fun _ _ _ _ _ _ us hl => match us, hl with | [_], _ => rfl
  refine ⟨f, fd, ["self"], ?_, mh, b⟩
  refine def_ok (N := ["self"]) Fn sc_Sizes___repr__ FRepr.len ?_
  rintro ds m Q E ⟨p, z, rfl, ⟨a1, a2, h1, h2, h3, hne0⟩, ok, hq⟩
  have hn1 := ok.n1
  have hn2 := ok.n2
  have hc1 := ok.c1
  have hc2 := ok.c2
  have l1 := num_len (n := z.n) (by omega) (by omega)
  have l2 := num_len (n := z.c) (by omega) (by omega)
  have l3 : (Str.ofString "Sizes ").length = 6 := by decide +kernel
  have l4 : (Str.ofString " ").length = 1 := by decide +kernel
  have l0 : Str.empty.length = 0 := rfl
  refine dss_cons (ds_ret ?_)
  refine de_joined ?_
  refine dj_cons ?_
  refine de_str ?_
  refine ⟨_, rfl, by walk_at "fslen", ?_⟩
  refine dj_cons ?_
  refine de_fmt ?_
  refine de_fld ?_
  refine de_var 0 rfl (.inl rfl) rfl ?_
  refine ⟨_, _, _, _, rfl, by walk_at "st", ic_Sizes.cl, na_Sizes_many, rfl, ?_⟩
  refine .inr ⟨_, rfl, by walk_at "fslog", ?_⟩
  refine ⟨_, rfl, by walk_at "fslen", ?_⟩
  refine dj_cons ?_
  refine de_str ?_
  refine ⟨_, rfl, by walk_at "fslen", ?_⟩
  refine dj_cons ?_
  refine de_fmt ?_
  refine de_fld ?_
  refine de_var 0 rfl (.inl rfl) rfl ?_
  refine ⟨_, _, _, _, rfl, by walk_at "st", ic_Sizes.cl, na_Sizes_common, rfl, ?_⟩
  refine .inr ⟨_, rfl, by walk_at "fslog", ?_⟩
  refine ⟨_, rfl, by walk_at "fslen", ?_⟩
  refine dj_nil ?_
  exact hq

abbrev s_Sizes___init__ : Stmt := inClass (topS 16) 0
theorem sc_Sizes___init__ : FnScope ["self", "many", "common"] ["self", "many", "common"] (defScope s_Sizes___init__) := ⟨rfl, rfl, rfl, by decide +kernel, rfl, by decide +kernel, by decide +kernel⟩
set_option maxHeartbeats 4000000 in
theorem ok_Sizes___init__ {f : Addr} {fd : FuncData} (Fn : FunD K "__init__" "Sizes.__init__" (defArgs s_Sizes___init__) (defBody s_Sizes___init__) (defScope s_Sizes___init__) [] [("common", .int 1)] f fd)  {c_BadSize : Addr} {c_BadMany : Addr} (ec_BadMany : Ec K mg "BadMany" c_BadMany) {c_Sizes : Addr} (ic_Sizes : InsC K c_Sizes) (na_Sizes_many : NoAttr K c_Sizes "many") (na_Sizes_common : NoAttr K c_Sizes "common") (na_Sizes_given : NoAttr K c_Sizes "given") (na_Sizes_gone : NoAttr K c_Sizes "gone") (gi_MOST_THINGS : ∃ t, mg "MOST_THINGS" = some (.int 1000000 t)) (kn_need_size : Kn P w K mg base "need_size" 1 (FNeedSize c_BadSize)) : FnOk P w K mg base (L2.CX P w) 2 f fd ["self", "many", "common"] (spD K (FInitH c_Sizes c_BadMany c_BadSize)) := by
  refine def_ok (N := ["self", "many", "common"]) Fn sc_Sizes___init__ FInitH.len ?_
  rintro ds m Q E ⟨p, n, c, rfl, h1, he1, he2, hq⟩
  refine dss_cons (ds_if ?_)
  refine dt_pt (pt_or2 (k0 := ?k137) (k1 := ?k138) (fun W B q => ?a139) (fun h141 W B q => ?a140)) ?b136
  case a139 =>
    refine dt_cmp od_lt ?_
    refine de_var 1 rfl (.inl rfl) rfl ?_
    refine de_int ?_
    walk_at "op"
    refine tb ?_
    exact q
  case a140 =>
    (try simp only [decide_eq_true_eq, decide_eq_false_iff_not, Bool.and_eq_true, Bool.or_eq_true, Bool.not_eq_true', Bool.and_eq_false_iff, Bool.or_eq_false_iff, Bool.not_eq_false', Bool.not_eq_true, Bool.not_eq_false, Int.not_lt, Int.not_le] at h141)
    refine dt_cmp od_gt ?_
    refine de_var 1 rfl (.inl rfl) rfl ?_
    refine de_gint gi_MOST_THINGS rfl ?_
    walk_at "op"
    refine tb ?_
    exact q
  case b136 =>
    refine br.any (fun h142 => ?_) (fun h142 => ?_)
    · (try simp only [decide_eq_true_eq, decide_eq_false_iff_not, Bool.and_eq_true, Bool.or_eq_true, Bool.not_eq_true', Bool.and_eq_false_iff, Bool.or_eq_false_iff, Bool.not_eq_false', Bool.not_eq_true, Bool.not_eq_false, Int.not_lt, Int.not_le] at h142)
      have hr := h142
      refine dss_cons (ds_raise ec_BadMany rfl ?_)
      exact he1 hr
    · (try simp only [decide_eq_true_eq, decide_eq_false_iff_not, Bool.and_eq_true, Bool.or_eq_true, Bool.not_eq_true', Bool.and_eq_false_iff, Bool.or_eq_false_iff, Bool.not_eq_false', Bool.not_eq_true, Bool.not_eq_false, Int.not_lt, Int.not_le] at h142)
      have hr := h142
      refine dss_nil ?_
      refine dss_cons (ds_expr ?_)
      refine de_call kn_need_size rfl rfl ?_
      refine da_cons ?_
      refine de_var 2 rfl (.inl rfl) rfl ?_
      refine da_nil ?_
      refine ⟨_, rfl, fun hc1 hc2 => ?_, fun hr5 => he2 (by omega) (by omega) hr5⟩
      refine dss_cons (ds_fld ?_)
      refine de_var 1 rfl (.inl rfl) rfl ?_
      refine de_var 0 rfl (.inl rfl) rfl ?_
      refine ⟨_, _, _, rfl, by walk_at "st", ic_Sizes.cl, na_Sizes_many, (Nat.le_of_ble_eq_true rfl), ?_⟩
      refine dss_cons (ds_fld ?_)
      refine de_var 2 rfl (.inl rfl) rfl ?_
      refine de_var 0 rfl (.inl rfl) rfl ?_
      refine ⟨_, _, _, rfl, by walk_at "st", ic_Sizes.cl, na_Sizes_common, (Nat.le_of_ble_eq_true rfl), ?_⟩
      refine dss_cons (ds_fld ?_)
      refine de_dict0 ?_
      intro a1 hp1
      have hne1 := sne sput_same hp1
      refine de_var 0 rfl (.inl rfl) rfl ?_
      refine ⟨_, _, _, rfl, by walk_at "st", ic_Sizes.cl, na_Sizes_given, (Nat.le_of_ble_eq_true rfl), ?_⟩
      refine dss_cons (ds_fld ?_)
      refine de_dict0 ?_
      intro a2 hp2
      have hne2 := sne sput_same hp2
      refine de_var 0 rfl (.inl rfl) rfl ?_
      refine ⟨_, _, _, rfl, by walk_at "st", ic_Sizes.cl, na_Sizes_gone, (Nat.le_of_ble_eq_true rfl), ?_⟩
      refine dss_nil ?_
      obtain ⟨f1, f2, f3, f4⟩ := init_szH (n := n) (c := c) ⟨_, h1⟩ hp1 hp2
      exact hq (by omega) (by omega) hc1 hc2 _ _ _ f1 f2 f3 f4

abbrev s_Sizes_need_room : Stmt := inClass (topS 16) 5
theorem sc_Sizes_need_room : FnScope ["self", "number", "odd"] ["self", "number"] (defScope s_Sizes_need_room) := ⟨rfl, rfl, rfl, by decide +kernel, rfl, by decide +kernel, by decide +kernel⟩
set_option maxHeartbeats 4000000 in
theorem km_Sizes_need_room {f : Addr} {fd : FuncData} (Fn : FunD K "need_room" "Sizes.need_room" (defArgs s_Sizes_need_room) (defBody s_Sizes_need_room) (defScope s_Sizes_need_room) [] [] f fd) (m_len : mg "len" = none) {c_Full : Addr} (ec_Full : Ec K mg "Full" c_Full) {c_Sizes : Addr} (ic_Sizes : InsC K c_Sizes) (gi_MOST_ODD : ∃ t, mg "MOST_ODD" = some (.int 60 t)) (km_Sizes_odd : KnM P w K mg base c_Sizes "odd" 1 (FOdd c_Sizes)) (mh : Meth K c_Sizes "need_room" f)  : KnM P w K mg base c_Sizes "need_room" 2 (FNeedRoom c_Sizes c_Full) := by
  have b : Binds K fd ["self", "number"] [] := FunD.bindsN Fn fun _ _ _ _ _ _ us hl => match us, hl with | [_, _], _ => rfl
  refine ⟨f, fd, ["self", "number"], ?_, mh, b⟩
  refine def_ok (N := ["self", "number", "odd"]) Fn sc_Sizes_need_room FNeedRoom.len ?_
  rintro ds m Q E ⟨p, k, z, rfl, ⟨a1, a2, h1, h2, h3, hne0⟩, ok, he, hq⟩
  refine dss_cons (ds_set 2 rfl (.inl rfl) ?_)
  refine de_meth0 km_Sizes_odd ic_Sizes.cl rfl ?_
  refine de_var 0 rfl (.inl rfl) rfl ?_
  refine ⟨_, _, rfl, by walk_at "st", rfl, ?_⟩
  refine ⟨_, z, rfl, ⟨a1, a2, h1, h2, h3, hne0⟩, ok, ?_⟩
  refine dss_cons (ds_if ?_)
  refine dt_pt (pt_and2 (k0 := ?k144) (k1 := ?k145) (fun W B q => ?a146) (fun h148 W B q => ?a147)) ?b143
  case a146 =>
    refine dt_cmp od_notin ?_
    refine de_var 1 rfl (.inl rfl) rfl ?_
    refine de_var 2 rfl (.inl rfl) rfl ?_
    refine notin_ints ?_
    refine tb ?_
    exact q
  case a147 =>
    (try simp only [decide_eq_true_eq, decide_eq_false_iff_not, Bool.and_eq_true, Bool.or_eq_true, Bool.not_eq_true', Bool.and_eq_false_iff, Bool.or_eq_false_iff, Bool.not_eq_false', Bool.not_eq_true, Bool.not_eq_false, Int.not_lt, Int.not_le] at h148)
    refine dt_cmp od_ge ?_
    refine de_callB cd_len rfl m_len bt_len ?_
    refine da_cons ?_
    refine de_var 2 rfl (.inl rfl) rfl ?_
    refine da_nil ?_
    refine len_l ?_
    intro _
    refine de_gint gi_MOST_ODD rfl ?_
    walk_at "op"
    refine tb ?_
    exact q
  case b143 =>
    refine br.any (fun h149 => ?_) (fun h149 => ?_)
    · (try simp only [decide_eq_true_eq, decide_eq_false_iff_not, Bool.and_eq_true, Bool.or_eq_true, Bool.not_eq_true', Bool.and_eq_false_iff, Bool.or_eq_false_iff, Bool.not_eq_false', Bool.not_eq_true, Bool.not_eq_false, Int.not_lt, Int.not_le] at h149)
      have hx := h149
      refine dss_cons (ds_raise ec_Full rfl ?_)
      refine he ⟨?_, ?_⟩
      · exact hx.1
      · have := hx.2
        rw [List.length_map] at this
        omega
    · (try simp only [decide_eq_true_eq, decide_eq_false_iff_not, Bool.and_eq_true, Bool.or_eq_true, Bool.not_eq_true', Bool.and_eq_false_iff, Bool.or_eq_false_iff, Bool.not_eq_false', Bool.not_eq_true, Bool.not_eq_false, Int.not_lt, Int.not_le] at h149)
      have hx := h149
      refine dss_nil ?_
      refine dss_nil ?_
      refine hq fun hf => ?_
      have hx1 := hf.1
      have hx2 := hf.2
      rw [List.length_map] at hx
      rcases hx with hx | hx
      · exact hx1 hx
      · omega

abbrev s_Sizes_give : Stmt := inClass (topS 16) 13
theorem sc_Sizes_give : FnScope ["self", "number", "size"] ["self", "number", "size"] (defScope s_Sizes_give) := ⟨rfl, rfl, rfl, by decide +kernel, rfl, by decide +kernel, by decide +kernel⟩
set_option maxHeartbeats 4000000 in
theorem km_Sizes_give {f : Addr} {fd : FuncData} (Fn : FunD K "give" "Sizes.give" (defArgs s_Sizes_give) (defBody s_Sizes_give) (defScope s_Sizes_give) [] [] f fd)  {c_NoIndex : Addr} {c_BadSize : Addr} {c_Full : Addr} {c_Sizes : Addr} (ic_Sizes : InsC K c_Sizes) (na_Sizes_common : NoAttr K c_Sizes "common") (na_Sizes_given : NoAttr K c_Sizes "given") (km_Sizes_need : KnM P w K mg base c_Sizes "need" 1 (FNeed c_Sizes c_NoIndex)) (km_Sizes_need_room : KnM P w K mg base c_Sizes "need_room" 2 (FNeedRoom c_Sizes c_Full)) (mh : Meth K c_Sizes "give" f) (kn_need_size : Kn P w K mg base "need_size" 1 (FNeedSize c_BadSize)) : KnM P w K mg base c_Sizes "give" 3 (FGive c_Sizes c_NoIndex c_BadSize c_Full) := by
  have b : Binds K fd ["self", "number", "size"] [] := FunD.bindsN Fn fun _ _ _ _ _ _ us hl => match us, hl with | [_, _, _], _ => rfl
  refine ⟨f, fd, ["self", "number", "size"], ?_, mh, b⟩
  refine def_ok (N := ["self", "number", "size"]) Fn sc_Sizes_give FGive.len ?_
  rintro ds m Q E ⟨h, p, k, s, z, rfl, A, hp, ok, heI, heS, heF, hq⟩
  obtain ⟨a1, a2, ⟨h1, h2, h3, hne0⟩, kv, kn⟩ := A.szV hp
  refine dss_cons (ds_expr ?_)
  refine de_meth km_Sizes_need ic_Sizes.cl rfl ?_
  refine de_var 0 rfl (.inl rfl) rfl ?_
  refine ⟨_, _, rfl, by walk_at "st", rfl, ?_⟩
  refine da_cons ?_
  refine de_var 1 rfl (.inl rfl) rfl ?_
  refine da_nil ?_
  refine ⟨_, _, z, rfl, ⟨a1, a2, h1, h2, h3, hne0⟩, fun hk1 hk2 => ?_, fun hr => heI hr⟩
  refine dss_cons (ds_expr ?_)
  refine de_call kn_need_size rfl rfl ?_
  refine da_cons ?_
  refine de_var 2 rfl (.inl rfl) rfl ?_
  refine da_nil ?_
  refine ⟨_, rfl, fun hc1 hc2 => ?_, fun hr5 => heS hk1 hk2 hr5⟩
  refine dss_cons (ds_if ?_)
  refine dt_cmp od_eqF ?_
  refine de_var 2 rfl (.inl rfl) rfl ?_
  refine de_fld ?_
  refine de_var 0 rfl (.inl rfl) rfl ?_
  refine ⟨_, _, _, _, rfl, by walk_at "st", ic_Sizes.cl, na_Sizes_common, rfl, ?_⟩
  refine eq_ii ?_
  refine tb ?_
  refine br.any (fun h150 => ?_) (fun h150 => ?_)
  · (try simp only [decide_eq_true_eq, decide_eq_false_iff_not, Bool.and_eq_true, Bool.or_eq_true, Bool.not_eq_true', Bool.and_eq_false_iff, Bool.or_eq_false_iff, Bool.not_eq_false', Bool.not_eq_true, Bool.not_eq_false, Int.not_lt, Int.not_le] at h150)
    have hs := h150
    refine dss_cons (ds_expr ?_)
    refine de_dpopN ?_
    refine de_fld ?_
    refine de_var 0 rfl (.inl rfl) rfl ?_
    refine ⟨_, _, _, _, rfl, by walk_at "st", ic_Sizes.cl, na_Sizes_given, rfl, ?_⟩
    refine ⟨_, _, _, rfl, by walk_at "st", ?_⟩
    refine de_var 1 rfl (.inl rfl) rfl ?_
    refine de_non ?_
    refine ⟨_, _, .inl _, rfl, by walk_at "st", by walk_at "dlen", fun _ => ?_⟩
    rw [drop_keysV, drop_valsV]
    refine dss_nil ?_
    refine dss_nil ?_
    first
    | exact hq hk1 hk2 hc1 hc2 (.inl hs) _ (by have q := kv (dropG z.gv k); rw [← show z.give k s = { z with gv := dropG z.gv k } from if_pos hs] at q; exact q)
    | exact hq hk1 hk2 hc1 hc2 (.inr hf) _ (by have q := kv (putG z.gv k s); rw [← show z.give k s = { z with gv := putG z.gv k s } from if_neg hs] at q; exact q)
  · (try simp only [decide_eq_true_eq, decide_eq_false_iff_not, Bool.and_eq_true, Bool.or_eq_true, Bool.not_eq_true', Bool.and_eq_false_iff, Bool.or_eq_false_iff, Bool.not_eq_false', Bool.not_eq_true, Bool.not_eq_false, Int.not_lt, Int.not_le] at h150)
    have hs := h150
    refine dss_cons (ds_expr ?_)
    refine de_meth km_Sizes_need_room ic_Sizes.cl rfl ?_
    refine de_var 0 rfl (.inl rfl) rfl ?_
    refine ⟨_, _, rfl, by walk_at "st", rfl, ?_⟩
    refine da_cons ?_
    refine de_var 1 rfl (.inl rfl) rfl ?_
    refine da_nil ?_
    refine ⟨_, _, z, rfl, ⟨a1, a2, h1, h2, h3, hne0⟩, ok, fun hf => heF hk1 hk2 hc1 hc2 hs hf, fun hf => ?_⟩
    refine dss_cons (ds_dput ?_)
    refine de_var 2 rfl (.inl rfl) rfl ?_
    refine de_fld ?_
    refine de_var 0 rfl (.inl rfl) rfl ?_
    refine ⟨_, _, _, _, rfl, by walk_at "st", ic_Sizes.cl, na_Sizes_given, rfl, ?_⟩
    refine de_var 1 rfl (.inl rfl) rfl ?_
    refine ⟨_, _, _, .inl _, rfl, rfl, by walk_at "st", by walk_at "dsz", ?_⟩
    rw [put_keysV (s := s), put_valsV]
    refine dss_nil ?_
    refine dss_nil ?_
    first
    | exact hq hk1 hk2 hc1 hc2 (.inl hs) _ (by have q := kv (dropG z.gv k); rw [← show z.give k s = { z with gv := dropG z.gv k } from if_pos hs] at q; exact q)
    | exact hq hk1 hk2 hc1 hc2 (.inr hf) _ (by have q := kv (putG z.gv k s); rw [← show z.give k s = { z with gv := putG z.gv k s } from if_neg hs] at q; exact q)

abbrev s_Sizes_hide : Stmt := inClass (topS 16) 15
theorem sc_Sizes_hide : FnScope ["self", "number"] ["self", "number"] (defScope s_Sizes_hide) := ⟨rfl, rfl, rfl, by decide +kernel, rfl, by decide +kernel, by decide +kernel⟩
set_option maxHeartbeats 4000000 in
theorem km_Sizes_hide {f : Addr} {fd : FuncData} (Fn : FunD K "hide" "Sizes.hide" (defArgs s_Sizes_hide) (defBody s_Sizes_hide) (defScope s_Sizes_hide) [] [] f fd)  {c_NoIndex : Addr} {c_Full : Addr} {c_Sizes : Addr} (ic_Sizes : InsC K c_Sizes) (na_Sizes_gone : NoAttr K c_Sizes "gone") (km_Sizes_need : KnM P w K mg base c_Sizes "need" 1 (FNeed c_Sizes c_NoIndex)) (km_Sizes_need_room : KnM P w K mg base c_Sizes "need_room" 2 (FNeedRoom c_Sizes c_Full)) (mh : Meth K c_Sizes "hide" f)  : KnM P w K mg base c_Sizes "hide" 3 (FHide c_Sizes c_NoIndex c_Full) := by
  have b : Binds K fd ["self", "number"] [] := FunD.bindsN Fn fun _ _ _ _ _ _ us hl => match us, hl with | [_, _], _ => rfl
  refine ⟨f, fd, ["self", "number"], ?_, mh, b⟩
  refine def_ok (N := ["self", "number"]) Fn sc_Sizes_hide FHide.len ?_
  rintro ds m Q E ⟨h, p, k, z, rfl, A, hp, ok, heI, heF, hq⟩
  obtain ⟨a1, a2, ⟨h1, h2, h3, hne0⟩, kv, kn⟩ := A.szV hp
  refine dss_cons (ds_expr ?_)
  refine de_meth km_Sizes_need ic_Sizes.cl rfl ?_
  refine de_var 0 rfl (.inl rfl) rfl ?_
  refine ⟨_, _, rfl, by walk_at "st", rfl, ?_⟩
  refine da_cons ?_
  refine de_var 1 rfl (.inl rfl) rfl ?_
  refine da_nil ?_
  refine ⟨_, _, z, rfl, ⟨a1, a2, h1, h2, h3, hne0⟩, fun hk1 hk2 => ?_, fun hr => heI hr⟩
  refine dss_cons (ds_expr ?_)
  refine de_meth km_Sizes_need_room ic_Sizes.cl rfl ?_
  refine de_var 0 rfl (.inl rfl) rfl ?_
  refine ⟨_, _, rfl, by walk_at "st", rfl, ?_⟩
  refine da_cons ?_
  refine de_var 1 rfl (.inl rfl) rfl ?_
  refine da_nil ?_
  refine ⟨_, _, z, rfl, ⟨a1, a2, h1, h2, h3, hne0⟩, ok, fun hf => heF hk1 hk2 hf, fun hf => ?_⟩
  refine dss_cons (ds_dput ?_)
  refine de_bl ?_
  refine de_fld ?_
  refine de_var 0 rfl (.inl rfl) rfl ?_
  refine ⟨_, _, _, _, rfl, by walk_at "st", ic_Sizes.cl, na_Sizes_gone, rfl, ?_⟩
  refine de_var 1 rfl (.inl rfl) rfl ?_
  refine ⟨_, _, _, .inl _, rfl, rfl, by walk_at "st", by walk_at "dsz", ?_⟩
  rw [put_keysN, put_valsN]
  refine dss_nil ?_
  exact hq hk1 hk2 hf _ (kn (putN z.gn k))

abbrev s_Sizes_show : Stmt := inClass (topS 16) 16
theorem sc_Sizes_show : FnScope ["self", "number"] ["self", "number"] (defScope s_Sizes_show) := ⟨rfl, rfl, rfl, by decide +kernel, rfl, by decide +kernel, by decide +kernel⟩
set_option maxHeartbeats 4000000 in
theorem km_Sizes_show {f : Addr} {fd : FuncData} (Fn : FunD K "show" "Sizes.show" (defArgs s_Sizes_show) (defBody s_Sizes_show) (defScope s_Sizes_show) [] [] f fd)  {c_NoIndex : Addr} {c_Sizes : Addr} (ic_Sizes : InsC K c_Sizes) (na_Sizes_gone : NoAttr K c_Sizes "gone") (km_Sizes_need : KnM P w K mg base c_Sizes "need" 1 (FNeed c_Sizes c_NoIndex)) (mh : Meth K c_Sizes "show" f)  : KnM P w K mg base c_Sizes "show" 2 (FShow c_Sizes c_NoIndex) := by
  have b : Binds K fd ["self", "number"] [] := FunD.bindsN Fn fun _ _ _ _ _ _ us hl => match us, hl with | [_, _], _ => rfl
  refine ⟨f, fd, ["self", "number"], ?_, mh, b⟩
  refine def_ok (N := ["self", "number"]) Fn sc_Sizes_show FShow.len ?_
  rintro ds m Q E ⟨h, p, k, z, rfl, A, hp, ok, heI, hq⟩
  obtain ⟨a1, a2, ⟨h1, h2, h3, hne0⟩, kv, kn⟩ := A.szV hp
  refine dss_cons (ds_expr ?_)
  refine de_meth km_Sizes_need ic_Sizes.cl rfl ?_
  refine de_var 0 rfl (.inl rfl) rfl ?_
  refine ⟨_, _, rfl, by walk_at "st", rfl, ?_⟩
  refine da_cons ?_
  refine de_var 1 rfl (.inl rfl) rfl ?_
  refine da_nil ?_
  refine ⟨_, _, z, rfl, ⟨a1, a2, h1, h2, h3, hne0⟩, fun hk1 hk2 => ?_, fun hr => heI hr⟩
  refine dss_cons (ds_expr ?_)
  refine de_dpopN ?_
  refine de_fld ?_
  refine de_var 0 rfl (.inl rfl) rfl ?_
  refine ⟨_, _, _, _, rfl, by walk_at "st", ic_Sizes.cl, na_Sizes_gone, rfl, ?_⟩
  refine ⟨_, _, _, rfl, by walk_at "st", ?_⟩
  refine de_var 1 rfl (.inl rfl) rfl ?_
  refine de_non ?_
  refine ⟨_, _, .inl _, rfl, by walk_at "st", by walk_at "dlen", fun _ => ?_⟩
  rw [drop_keysN, drop_valsN]
  refine dss_nil ?_
  exact hq hk1 hk2 _ (kn (dropN z.gn k))

abbrev s_Sizes_look_put : Stmt := inClass (topS 16) 17
theorem sc_Sizes_look_put : FnScope ["self", "number", "many"] ["self", "number", "many"] (defScope s_Sizes_look_put) := ⟨rfl, rfl, rfl, by decide +kernel, rfl, by decide +kernel, by decide +kernel⟩
set_option maxHeartbeats 4000000 in
theorem km_Sizes_look_put {f : Addr} {fd : FuncData} (Fn : FunD K "look_put" "Sizes.look_put" (defArgs s_Sizes_look_put) (defBody s_Sizes_look_put) (defScope s_Sizes_look_put) [] [] f fd)  {c_BadMany : Addr} (ec_BadMany : Ec K mg "BadMany" c_BadMany) {c_NoIndex : Addr} (ec_NoIndex : EcI K mg "NoIndex" c_NoIndex) {c_Sizes : Addr} (ic_Sizes : InsC K c_Sizes) (na_Sizes_many : NoAttr K c_Sizes "many") (gi_MOST_PUT : ∃ t, mg "MOST_PUT" = some (.int 1000 t)) (mh : Meth K c_Sizes "look_put" f)  : KnM P w K mg base c_Sizes "look_put" 1 (FLookPut c_Sizes c_NoIndex c_BadMany) := by
  have b : Binds K fd ["self", "number", "many"] [] := FunD.bindsN Fn fun _ _ _ _ _ _ us hl => match us, hl with | [_, _, _], _ => rfl
  refine ⟨f, fd, ["self", "number", "many"], ?_, mh, b⟩
  refine def_ok (N := ["self", "number", "many"]) Fn sc_Sizes_look_put FLookPut.len ?_
  rintro ds m Q E ⟨p, k, many, z, rfl, ⟨a1, a2, h1, h2, h3, hne0⟩, heI, heM, hq⟩
  refine dss_cons (ds_if ?_)
  refine dt_pt (pt_or2 (k0 := ?k152) (k1 := ?k153) (fun W B q => ?a154) (fun h156 W B q => ?a155)) ?b151
  case a154 =>
    refine dt_cmp od_lt ?_
    refine de_var 1 rfl (.inl rfl) rfl ?_
    refine de_int ?_
    walk_at "op"
    refine tb ?_
    exact q
  case a155 =>
    (try simp only [decide_eq_true_eq, decide_eq_false_iff_not, Bool.and_eq_true, Bool.or_eq_true, Bool.not_eq_true', Bool.and_eq_false_iff, Bool.or_eq_false_iff, Bool.not_eq_false', Bool.not_eq_true, Bool.not_eq_false, Int.not_lt, Int.not_le] at h156)
    refine dt_cmp od_gt ?_
    refine de_var 1 rfl (.inl rfl) rfl ?_
    refine de_fld ?_
    refine de_var 0 rfl (.inl rfl) rfl ?_
    refine ⟨_, _, _, _, rfl, by walk_at "st", ic_Sizes.cl, na_Sizes_many, rfl, ?_⟩
    walk_at "op"
    refine tb ?_
    exact q
  case b151 =>
    refine br.any (fun h157 => ?_) (fun h157 => ?_)
    · (try simp only [decide_eq_true_eq, decide_eq_false_iff_not, Bool.and_eq_true, Bool.or_eq_true, Bool.not_eq_true', Bool.and_eq_false_iff, Bool.or_eq_false_iff, Bool.not_eq_false', Bool.not_eq_true, Bool.not_eq_false, Int.not_lt, Int.not_le] at h157)
      have hr := h157
      refine dss_cons (ds_raiseB PySem.F.excBase_IndexError ec_NoIndex rfl ?_)
      exact heI hr
    · (try simp only [decide_eq_true_eq, decide_eq_false_iff_not, Bool.and_eq_true, Bool.or_eq_true, Bool.not_eq_true', Bool.and_eq_false_iff, Bool.or_eq_false_iff, Bool.not_eq_false', Bool.not_eq_true, Bool.not_eq_false, Int.not_lt, Int.not_le] at h157)
      have hr := h157
      refine dss_nil ?_
      refine dss_cons (ds_if ?_)
      refine dt_pt (pt_or2 (k0 := ?k159) (k1 := ?k160) (fun W B q => ?a161) (fun h163 W B q => ?a162)) ?b158
      case a161 =>
        refine dt_cmp od_lt ?_
        refine de_var 2 rfl (.inl rfl) rfl ?_
        refine de_int ?_
        walk_at "op"
        refine tb ?_
        exact q
      case a162 =>
        (try simp only [decide_eq_true_eq, decide_eq_false_iff_not, Bool.and_eq_true, Bool.or_eq_true, Bool.not_eq_true', Bool.and_eq_false_iff, Bool.or_eq_false_iff, Bool.not_eq_false', Bool.not_eq_true, Bool.not_eq_false, Int.not_lt, Int.not_le] at h163)
        refine dt_cmp od_gt ?_
        refine de_var 2 rfl (.inl rfl) rfl ?_
        refine de_gint gi_MOST_PUT rfl ?_
        walk_at "op"
        refine tb ?_
        exact q
      case b158 =>
        refine br.any (fun h164 => ?_) (fun h164 => ?_)
        · (try simp only [decide_eq_true_eq, decide_eq_false_iff_not, Bool.and_eq_true, Bool.or_eq_true, Bool.not_eq_true', Bool.and_eq_false_iff, Bool.or_eq_false_iff, Bool.not_eq_false', Bool.not_eq_true, Bool.not_eq_false, Int.not_lt, Int.not_le] at h164)
          have hr2 := h164
          refine dss_cons (ds_raise ec_BadMany rfl ?_)
          exact heM (by omega) (by omega) hr2
        · (try simp only [decide_eq_true_eq, decide_eq_false_iff_not, Bool.and_eq_true, Bool.or_eq_true, Bool.not_eq_true', Bool.and_eq_false_iff, Bool.or_eq_false_iff, Bool.not_eq_false', Bool.not_eq_true, Bool.not_eq_false, Int.not_lt, Int.not_le] at h164)
          have hr2 := h164
          refine dss_nil ?_
          refine dss_nil ?_
          exact hq (by omega) (by omega) (by omega) (by omega)

abbrev s_Sizes_look_stretch : Stmt := inClass (topS 16) 19
theorem sc_Sizes_look_stretch : FnScope ["self", "number", "many"] ["self", "number", "many"] (defScope s_Sizes_look_stretch) := ⟨rfl, rfl, rfl, by decide +kernel, rfl, by decide +kernel, by decide +kernel⟩
set_option maxHeartbeats 4000000 in
theorem km_Sizes_look_stretch {f : Addr} {fd : FuncData} (Fn : FunD K "look_stretch" "Sizes.look_stretch" (defArgs s_Sizes_look_stretch) (defBody s_Sizes_look_stretch) (defScope s_Sizes_look_stretch) [] [] f fd)  {c_NoIndex : Addr} {c_BadMany : Addr} (ec_BadMany : Ec K mg "BadMany" c_BadMany) {c_Sizes : Addr} (ic_Sizes : InsC K c_Sizes) (na_Sizes_many : NoAttr K c_Sizes "many") (km_Sizes_need : KnM P w K mg base c_Sizes "need" 1 (FNeed c_Sizes c_NoIndex)) (mh : Meth K c_Sizes "look_stretch" f)  : KnM P w K mg base c_Sizes "look_stretch" 2 (FLookStretch c_Sizes c_NoIndex c_BadMany) := by
  have b : Binds K fd ["self", "number", "many"] [] := FunD.bindsN Fn fun _ _ _ _ _ _ us hl => match us, hl with | [_, _, _], _ => rfl
  refine ⟨f, fd, ["self", "number", "many"], ?_, mh, b⟩
  refine def_ok (N := ["self", "number", "many"]) Fn sc_Sizes_look_stretch FLookStretch.len ?_
  rintro ds m Q E ⟨p, k, many, z, rfl, ⟨a1, a2, h1, h2, h3, hne0⟩, heI, heM, hq⟩
  refine dss_cons (ds_expr ?_)
  refine de_meth km_Sizes_need ic_Sizes.cl rfl ?_
  refine de_var 0 rfl (.inl rfl) rfl ?_
  refine ⟨_, _, rfl, by walk_at "st", rfl, ?_⟩
  refine da_cons ?_
  refine de_var 1 rfl (.inl rfl) rfl ?_
  refine da_nil ?_
  refine ⟨_, _, z, rfl, ⟨a1, a2, h1, h2, h3, hne0⟩, fun hk1 hk2 => ?_, fun hr => heI hr⟩
  refine dss_cons (ds_if ?_)
  refine dt_pt (pt_or2 (k0 := ?k166) (k1 := ?k167) (fun W B q => ?a168) (fun h170 W B q => ?a169)) ?b165
  case a168 =>
    refine dt_cmp od_lt ?_
    refine de_var 2 rfl (.inl rfl) rfl ?_
    refine de_int ?_
    walk_at "op"
    refine tb ?_
    exact q
  case a169 =>
    (try simp only [decide_eq_true_eq, decide_eq_false_iff_not, Bool.and_eq_true, Bool.or_eq_true, Bool.not_eq_true', Bool.and_eq_false_iff, Bool.or_eq_false_iff, Bool.not_eq_false', Bool.not_eq_true, Bool.not_eq_false, Int.not_lt, Int.not_le] at h170)
    refine dt_cmp od_gt ?_
    refine de_bin od_add ?_
    refine de_var 1 rfl (.inl rfl) rfl ?_
    refine de_var 2 rfl (.inl rfl) rfl ?_
    walk_at "op"
    refine de_fld ?_
    refine de_var 0 rfl (.inl rfl) rfl ?_
    refine ⟨_, _, _, _, rfl, by walk_at "st", ic_Sizes.cl, na_Sizes_many, rfl, ?_⟩
    walk_at "op"
    refine tb ?_
    exact q
  case b165 =>
    refine br.any (fun h171 => ?_) (fun h171 => ?_)
    · (try simp only [decide_eq_true_eq, decide_eq_false_iff_not, Bool.and_eq_true, Bool.or_eq_true, Bool.not_eq_true', Bool.and_eq_false_iff, Bool.or_eq_false_iff, Bool.not_eq_false', Bool.not_eq_true, Bool.not_eq_false, Int.not_lt, Int.not_le] at h171)
      have hr2 := h171
      refine dss_cons (ds_raise ec_BadMany rfl ?_)
      exact heM hk1 hk2 hr2
    · (try simp only [decide_eq_true_eq, decide_eq_false_iff_not, Bool.and_eq_true, Bool.or_eq_true, Bool.not_eq_true', Bool.and_eq_false_iff, Bool.or_eq_false_iff, Bool.not_eq_false', Bool.not_eq_true, Bool.not_eq_false, Int.not_lt, Int.not_le] at h171)
      have hr2 := h171
      refine dss_nil ?_
      refine dss_nil ?_
      exact hq hk1 hk2 (by omega) (by omega)

abbrev s_Sizes_look_cut : Stmt := inClass (topS 16) 20
theorem sc_Sizes_look_cut : FnScope ["self", "number", "many"] ["self", "number", "many"] (defScope s_Sizes_look_cut) := ⟨rfl, rfl, rfl, by decide +kernel, rfl, by decide +kernel, by decide +kernel⟩
set_option maxHeartbeats 4000000 in
theorem km_Sizes_look_cut {f : Addr} {fd : FuncData} (Fn : FunD K "look_cut" "Sizes.look_cut" (defArgs s_Sizes_look_cut) (defBody s_Sizes_look_cut) (defScope s_Sizes_look_cut) [] [] f fd)  {c_NoIndex : Addr} {c_BadMany : Addr} (ec_BadMany : Ec K mg "BadMany" c_BadMany) {c_Sizes : Addr} (ic_Sizes : InsC K c_Sizes) (na_Sizes_many : NoAttr K c_Sizes "many") (km_Sizes_look_stretch : KnM P w K mg base c_Sizes "look_stretch" 2 (FLookStretch c_Sizes c_NoIndex c_BadMany)) (mh : Meth K c_Sizes "look_cut" f)  : KnM P w K mg base c_Sizes "look_cut" 3 (FLookCut c_Sizes c_NoIndex c_BadMany) := by
  have b : Binds K fd ["self", "number", "many"] [] := FunD.bindsN Fn fun _ _ _ _ _ _ us hl => match us, hl with | [_, _, _], _ => rfl
  refine ⟨f, fd, ["self", "number", "many"], ?_, mh, b⟩
  refine def_ok (N := ["self", "number", "many"]) Fn sc_Sizes_look_cut FLookCut.len ?_
  rintro ds m Q E ⟨p, k, many, z, rfl, ⟨a1, a2, h1, h2, h3, hne0⟩, heI, heM, hq⟩
  refine dss_cons (ds_expr ?_)
  refine de_meth km_Sizes_look_stretch ic_Sizes.cl rfl ?_
  refine de_var 0 rfl (.inl rfl) rfl ?_
  refine ⟨_, _, rfl, by walk_at "st", rfl, ?_⟩
  refine da_cons ?_
  refine de_var 1 rfl (.inl rfl) rfl ?_
  refine da_cons ?_
  refine de_var 2 rfl (.inl rfl) rfl ?_
  refine da_nil ?_
  refine ⟨_, _, _, z, rfl, ⟨a1, a2, h1, h2, h3, hne0⟩, heI, fun a b c => heM a b (by omega), fun hk1 hk2 hm1 hm2 => ?_⟩
  refine dss_cons (ds_if ?_)
  refine dt_cmp od_eqF ?_
  refine de_var 2 rfl (.inl rfl) rfl ?_
  refine de_fld ?_
  refine de_var 0 rfl (.inl rfl) rfl ?_
  refine ⟨_, _, _, _, rfl, by walk_at "st", ic_Sizes.cl, na_Sizes_many, rfl, ?_⟩
  refine eq_ii ?_
  refine tb ?_
  refine br.any (fun h172 => ?_) (fun h172 => ?_)
  · (try simp only [decide_eq_true_eq, decide_eq_false_iff_not, Bool.and_eq_true, Bool.or_eq_true, Bool.not_eq_true', Bool.and_eq_false_iff, Bool.or_eq_false_iff, Bool.not_eq_false', Bool.not_eq_true, Bool.not_eq_false, Int.not_lt, Int.not_le] at h172)
    have hr3 := h172
    refine dss_cons (ds_raise ec_BadMany rfl ?_)
    exact heM hk1 hk2 (by omega)
  · (try simp only [decide_eq_true_eq, decide_eq_false_iff_not, Bool.and_eq_true, Bool.or_eq_true, Bool.not_eq_true', Bool.and_eq_false_iff, Bool.or_eq_false_iff, Bool.not_eq_false', Bool.not_eq_true, Bool.not_eq_false, Int.not_lt, Int.not_le] at h172)
    have hr3 := h172
    refine dss_nil ?_
    refine dss_nil ?_
    exact hq hk1 hk2 hm1 hm2 (by omega)

abbrev s_Sizes_put : Stmt := inClass (topS 16) 18
theorem sc_Sizes_put : FnScope ["self", "number", "many", "k", "size"] ["self", "number", "many"] (defScope s_Sizes_put) := ⟨rfl, rfl, rfl, by decide +kernel, rfl, by decide +kernel, by decide +kernel⟩
set_option maxHeartbeats 4000000 in
theorem km_Sizes_put {f : Addr} {fd : FuncData} (Fn : FunD K "put" "Sizes.put" (defArgs s_Sizes_put) (defBody s_Sizes_put) (defScope s_Sizes_put) [] [] f fd) (m_int : mg "int" = none) {c_NoIndex : Addr} {c_BadMany : Addr} {c_Sizes : Addr} (ic_Sizes : InsC K c_Sizes) (na_Sizes_many : NoAttr K c_Sizes "many") (na_Sizes_given : NoAttr K c_Sizes "given") (na_Sizes_gone : NoAttr K c_Sizes "gone") (km_Sizes_look_put : KnM P w K mg base c_Sizes "look_put" 1 (FLookPut c_Sizes c_NoIndex c_BadMany)) (mh : Meth K c_Sizes "put" f)  : KnM P w K mg base c_Sizes "put" 2 (FPut c_Sizes c_NoIndex c_BadMany) := by
  have b : Binds K fd ["self", "number", "many"] [] := FunD.bindsN Fn fun _ _ _ _ _ _ us hl => match us, hl with | [_, _, _], _ => rfl
  refine ⟨f, fd, ["self", "number", "many"], ?_, mh, b⟩
  refine def_ok (N := ["self", "number", "many", "k", "size"]) Fn sc_Sizes_put FPut.len ?_
  rintro ds m Q E ⟨h, p, k, many, z, rfl, A, hp, ok, heI, heM, hq⟩
  obtain ⟨a1, a2, ⟨h1, h2, h3, hne0⟩, kk⟩ := A.szO hp
  obtain ⟨np1, np2⟩ := SzA.nep (⟨h1, h2, h3, hne0⟩ : SzA c_Sizes m p a1 a2 z)
  refine dss_cons (ds_expr ?_)
  refine de_meth km_Sizes_look_put ic_Sizes.cl rfl ?_
  refine de_var 0 rfl (.inl rfl) rfl ?_
  refine ⟨_, _, rfl, by walk_at "st", rfl, ?_⟩
  refine da_cons ?_
  refine de_var 1 rfl (.inr (.inl rfl)) rfl ?_
  refine da_cons ?_
  refine de_var 2 rfl (.inr (.inl rfl)) rfl ?_
  refine da_nil ?_
  refine ⟨_, _, _, z, rfl, ⟨a1, a2, h1, h2, h3, hne0⟩, heI, heM, fun hk1 hk2 hm1 hm2 => ?_⟩
  refine dss_cons (ds_fld ?_)
  refine de_lock a1 h2 (fun od kvs => ?_)
  refine de_dc [("k", 3), ("size", 4)] (show blkC ["self", "number", "many", "k", "size"] (defScope s_Sizes_put) _ [("k", 3), ("size", 4)] = true from by decide +kernel) ?_
  refine di_items ?_
  refine de_fld ?_
  refine de_var 0 rfl (.inl rfl) rfl ?_
  refine ⟨_, _, _, _, rfl, by walk_at "st", ic_Sizes.cl, na_Sizes_given, rfl, ?_⟩
  refine ⟨_, _, _, _, _, rfl, sput_same, ?_⟩
  refine ⟨fun i ks es m' => ks = keysV (((z.gv.take i).filter fun q => ((fun _ => true)) q.1).map fun q => (upBy k many q.1, q.2)) ∧ es = valsV (((z.gv.take i).filter fun q => ((fun _ => true)) q.1).map fun q => (upBy k many q.1, q.2)) ∧ sput m a1 (.lk od kvs (keysV z.gv) (valsV z.gv)) = m', ?_, ?_, ?_, ?_⟩
  · exact ⟨rfl, rfl, rfl⟩
  · rintro i d ks es m' hi ⟨rfl, rfl, rfl⟩
    obtain ⟨⟨j, v⟩, hj, rfl⟩ := items_V hi
    refine dgv_tup rfl ?_
    refine dgsv_cons ?_
    refine dgv_name 3 (by decide) rfl (.inl rfl) ?_
    refine dgsv_cons ?_
    refine dgv_name 4 (by decide) rfl (.inl rfl) ?_
    refine dgsv_nil ?_
    refine dts_nil ?_
    refine br.t ?_
    refine de_bin od_add ?_
    refine de_var 3 rfl (.inl rfl) rfl ?_
    refine de_bin od_mul ?_
    refine de_var 2 rfl (by first | exact .inl rfl | exact .inr (.inl rfl) | exact .inr (.inr rfl)) rfl ?_
    refine de_callTy cd_int rfl m_int bt_int ?_
    refine da_cons ?_
    refine de_cmp od_ge ?_
    refine de_var 3 rfl (.inl rfl) rfl ?_
    refine de_var 1 rfl (by first | exact .inl rfl | exact .inr (.inl rfl) | exact .inr (.inr rfl)) rfl ?_
    walk_at "op"
    refine da_nil ?_
    refine int_b ?_
    refine mul_ii (.inl (by omega)) ?_
    walk_at "op"
    refine de_var 4 rfl (.inl rfl) rfl ?_
    refine ⟨.inl (upBy k many j), by unfold upBy; simp [kD], few_takeV ok i _ _, ?_⟩
    obtain ⟨s1, s2⟩ := step_V (f := upBy k many) (p := (fun _ => true)) ok.dv (fun a b ha hb e => upBy_inj hm1 e) hj rfl
    exact ⟨s1, s2, rfl⟩
  · rintro i ks es m' ⟨rfl, rfl, rfl⟩
    exact sput_same
  · rintro ks es m' ⟨rfl, rfl, rfl⟩ q1 hq1
    have hq1n := new_put hq1
    have nq1 : q1 ≠ a1 := fun e => by rw [e, sput_same] at hq1; cases hq1
    have np3 : p ≠ q1 := sne h1 hq1n
    have na3 : a2 ≠ q1 := sne h3 hq1n
    refine ⟨(sput_ne (Ne.symm nq1)).trans sput_same, ?_⟩
    rw [lock_new h2 nq1, itemsV_len, List.take_length]
    refine de_var 0 rfl (.inl rfl) rfl ?_
    refine ⟨_, _, _, rfl, by walk_at "st", ic_Sizes.cl, na_Sizes_given, (Nat.le_of_ble_eq_true rfl), ?_⟩
    obtain ⟨M, hM⟩ : ∃ M, M = sput (sput m q1 (.dic (keysV ((z.gv.filter fun q => (fun _ => true) q.1).map fun q => (upBy k many q.1, q.2))) (valsV ((z.gv.filter fun q => (fun _ => true) q.1).map fun q => (upBy k many q.1, q.2))))) p (.ins c_Sizes (szF z q1 a2)) := ⟨_, rfl⟩
    have hMp : M p = some (.ins c_Sizes (szF z q1 a2)) := by rw [hM]; exact sput_same
    have hMq : M q1 = some (.dic (keysV ((z.gv.filter fun q => (fun _ => true) q.1).map fun q => (upBy k many q.1, q.2))) (valsV ((z.gv.filter fun q => (fun _ => true) q.1).map fun q => (upBy k many q.1, q.2)))) := by rw [hM]; exact (sput_ne (Ne.symm np3)).trans sput_same
    have hM2 : M a2 = some (.dic (keysN z.gn) (valsN z.gn)) := by rw [hM]; exact (sput_ne (Ne.symm np2)).trans ((sput_ne na3).trans h3)
    have hMo : ∀ b o, b ≠ p → m b = some o → M b = some o := fun b o nb e => by rw [hM, sput_ne nb, sput_ne (sne e hq1n)]; exact e
    rw [show sput (sput m q1 (.dic (keysV ((z.gv.filter fun q => (fun _ => true) q.1).map fun q => (upBy k many q.1, q.2))) (valsV ((z.gv.filter fun q => (fun _ => true) q.1).map fun q => (upBy k many q.1, q.2))))) p (.ins c_Sizes (putD "given" (.ref q1) (szF z a1 a2))) = M from hM.symm]
    refine dss_cons (ds_fld ?_)
    refine de_lock a2 hM2 (fun od kvs => ?_)
    refine de_dc [("k", 3)] (show blkC ["self", "number", "many", "k", "size"] (defScope s_Sizes_put) _ [("k", 3)] = true from by decide +kernel) ?_
    refine diw_dig ?_
    refine di_keys ?_
    refine de_fld ?_
    refine de_var 0 rfl (.inl rfl) rfl ?_
    refine ⟨_, _, _, _, rfl, by walk_at "st", ic_Sizes.cl, na_Sizes_gone, rfl, ?_⟩
    refine ⟨_, _, _, _, _, rfl, sput_same, ?_⟩
    refine ⟨fun i ks es m' => ks = keysN (((z.gn.take i).filter ((fun _ => true))).map (upBy k many)) ∧ es = valsN (((z.gn.take i).filter ((fun _ => true))).map (upBy k many)) ∧ sput M a2 (.lk od kvs (keysN z.gn) (valsN z.gn)) = m', ?_, ?_, ?_, ?_⟩
    · exact ⟨rfl, rfl, rfl⟩
    · rintro i d ks es m' hi ⟨rfl, rfl, rfl⟩
      obtain ⟨j, hj, rfl⟩ := gone_get hi
      refine dgv_name 3 (by decide) rfl (.inl rfl) ?_
      refine dts_nil ?_
      refine br.t ?_
      refine de_bin od_add ?_
      refine de_var 3 rfl (.inl rfl) rfl ?_
      refine de_bin od_mul ?_
      refine de_var 2 rfl (by first | exact .inl rfl | exact .inr (.inl rfl) | exact .inr (.inr rfl)) rfl ?_
      refine de_callTy cd_int rfl m_int bt_int ?_
      refine da_cons ?_
      refine de_cmp od_ge ?_
      refine de_var 3 rfl (.inl rfl) rfl ?_
      refine de_var 1 rfl (by first | exact .inl rfl | exact .inr (.inl rfl) | exact .inr (.inr rfl)) rfl ?_
      walk_at "op"
      refine da_nil ?_
      refine int_b ?_
      refine mul_ii (.inl (by omega)) ?_
      walk_at "op"
      refine de_bl ?_
      refine ⟨.inl (upBy k many j), by unfold upBy; simp [kD], few_takeN ok i _ _, ?_⟩
      obtain ⟨s1, s2⟩ := step_N (f := upBy k many) (p := (fun _ => true)) ok.dn (fun a b ha hb e => upBy_inj hm1 e) hj rfl
      exact ⟨s1, s2, rfl⟩
    · rintro i ks es m' ⟨rfl, rfl, rfl⟩
      exact sput_same
    · rintro ks es m' ⟨rfl, rfl, rfl⟩ q2 hq2
      have hq2n := new_put hq2
      have nq2 : q2 ≠ a2 := fun e => by rw [e, sput_same] at hq2; cases hq2
      have np4 : p ≠ q2 := sne hMp hq2n
      have na4 : q1 ≠ q2 := sne hMq hq2n
      refine ⟨(sput_ne (Ne.symm nq2)).trans sput_same, ?_⟩
      rw [lock_new hM2 nq2, gone_len, List.take_length]
      refine de_var 0 rfl (.inl rfl) rfl ?_
      refine ⟨_, _, _, rfl, by walk_at "st", ic_Sizes.cl, na_Sizes_gone, (Nat.le_of_ble_eq_true rfl), ?_⟩
      obtain ⟨M2, hN⟩ : ∃ M2, M2 = sput (sput M q2 (.dic (keysN ((z.gn.filter ((fun _ => true))).map (upBy k many))) (valsN ((z.gn.filter ((fun _ => true))).map (upBy k many))))) p (.ins c_Sizes (szF z q1 q2)) := ⟨_, rfl⟩
      have hNp : M2 p = some (.ins c_Sizes (szF z q1 q2)) := by rw [hN]; exact sput_same
      have hNq : M2 q1 = some (.dic (keysV ((z.gv.filter fun q => (fun _ => true) q.1).map fun q => (upBy k many q.1, q.2))) (valsV ((z.gv.filter fun q => (fun _ => true) q.1).map fun q => (upBy k many q.1, q.2)))) := by rw [hN]; exact (sput_ne (Ne.symm np3)).trans ((sput_ne na4).trans hMq)
      have hN2 : M2 q2 = some (.dic (keysN ((z.gn.filter ((fun _ => true))).map (upBy k many))) (valsN ((z.gn.filter ((fun _ => true))).map (upBy k many)))) := by rw [hN]; exact (sput_ne (Ne.symm np4)).trans sput_same
      have hNo : ∀ b o, b ≠ p → m b = some o → M2 b = some o := fun b o nb e => by rw [hN, sput_ne nb, sput_ne (sne (hMo b o nb e) hq2n)]; exact hMo b o nb e
      rw [show sput (sput M q2 (.dic (keysN ((z.gn.filter ((fun _ => true))).map (upBy k many))) (valsN ((z.gn.filter ((fun _ => true))).map (upBy k many))))) p (.ins c_Sizes (putD "gone" (.ref q2) (szF z q1 a2))) = M2 from hN.symm]
      have hq2m : m q2 = none := by
        cases e : m q2 with
        | none => rfl
        | some o => rw [hMo q2 o (Ne.symm np4) e] at hq2n; cases hq2n
      refine dss_cons (ds_fldaug od_addi ?_)
      refine de_var 0 rfl (.inl rfl) rfl ?_
      refine ⟨_, _, _, _, rfl, by walk_at "st", ic_Sizes.cl, na_Sizes_many, rfl, ?_⟩
      refine de_var 2 rfl (.inr (.inl rfl)) rfl ?_
      refine ⟨_, _, rfl, rfl, ?_⟩
      refine ⟨_, by walk_at "st", (Nat.le_of_ble_eq_true rfl), ?_⟩
      refine dss_nil ?_
      refine hq hk1 hk2 hm1 hm2 _ ?_
      have w := (kk (⟨z.n + many, z.c, _, _⟩) q1 q2 _ ⟨sput_same, (sput_ne (Ne.symm np3)).trans hNq, (sput_ne (Ne.symm np4)).trans hN2, na4⟩ (fun b n1 n2 n3 o e => by rw [sput_ne n1]; exact hNo b o n1 e) (.inr hq1n) (.inr hq2m))
      rw [filt_all, filt_all] at w
      exact w

abbrev s_Sizes_cut : Stmt := inClass (topS 16) 21
theorem sc_Sizes_cut : FnScope ["self", "number", "many", "end", "k", "size"] ["self", "number", "many"] (defScope s_Sizes_cut) := ⟨rfl, rfl, rfl, by decide +kernel, rfl, by decide +kernel, by decide +kernel⟩
set_option maxHeartbeats 4000000 in
theorem km_Sizes_cut {f : Addr} {fd : FuncData} (Fn : FunD K "cut" "Sizes.cut" (defArgs s_Sizes_cut) (defBody s_Sizes_cut) (defScope s_Sizes_cut) [] [] f fd) (m_int : mg "int" = none) {c_NoIndex : Addr} {c_BadMany : Addr} {c_Sizes : Addr} (ic_Sizes : InsC K c_Sizes) (na_Sizes_many : NoAttr K c_Sizes "many") (na_Sizes_given : NoAttr K c_Sizes "given") (na_Sizes_gone : NoAttr K c_Sizes "gone") (km_Sizes_look_cut : KnM P w K mg base c_Sizes "look_cut" 3 (FLookCut c_Sizes c_NoIndex c_BadMany)) (mh : Meth K c_Sizes "cut" f)  : KnM P w K mg base c_Sizes "cut" 4 (FCut c_Sizes c_NoIndex c_BadMany) := by
  have b : Binds K fd ["self", "number", "many"] [] := FunD.bindsN Fn fun _ _ _ _ _ _ us hl => match us, hl with | [_, _, _], _ => rfl
  refine ⟨f, fd, ["self", "number", "many"], ?_, mh, b⟩
  refine def_ok (N := ["self", "number", "many", "end", "k", "size"]) Fn sc_Sizes_cut FCut.len ?_
  rintro ds m Q E ⟨h, p, k, many, z, rfl, A, hp, ok, heI, heM, hq⟩
  obtain ⟨a1, a2, ⟨h1, h2, h3, hne0⟩, kk⟩ := A.szO hp
  obtain ⟨np1, np2⟩ := SzA.nep (⟨h1, h2, h3, hne0⟩ : SzA c_Sizes m p a1 a2 z)
  have hn2 := ok.n2
  refine dss_cons (ds_expr ?_)
  refine de_meth km_Sizes_look_cut ic_Sizes.cl rfl ?_
  refine de_var 0 rfl (.inl rfl) rfl ?_
  refine ⟨_, _, rfl, by walk_at "st", rfl, ?_⟩
  refine da_cons ?_
  refine de_var 1 rfl (.inr (.inl rfl)) rfl ?_
  refine da_cons ?_
  refine de_var 2 rfl (.inr (.inl rfl)) rfl ?_
  refine da_nil ?_
  refine ⟨_, _, _, z, rfl, ⟨a1, a2, h1, h2, h3, hne0⟩, heI, heM, fun hk1 hk2 hm1 hm2 hm3 => ?_⟩
  refine dss_cons (ds_set 3 rfl (.inr rfl) ?_)
  refine de_bin od_add ?_
  refine de_var 1 rfl (.inr (.inl rfl)) rfl ?_
  refine de_var 2 rfl (.inr (.inl rfl)) rfl ?_
  walk_at "op"
  refine dss_cons (ds_fld ?_)
  refine de_lock a1 h2 (fun od kvs => ?_)
  refine de_dc [("k", 4), ("size", 5)] (show blkC ["self", "number", "many", "end", "k", "size"] (defScope s_Sizes_cut) _ [("k", 4), ("size", 5)] = true from by decide +kernel) ?_
  refine di_items ?_
  refine de_fld ?_
  refine de_var 0 rfl (.inl rfl) rfl ?_
  refine ⟨_, _, _, _, rfl, by walk_at "st", ic_Sizes.cl, na_Sizes_given, rfl, ?_⟩
  refine ⟨_, _, _, _, _, rfl, sput_same, ?_⟩
  refine ⟨fun i ks es m' => ks = keysV (((z.gv.take i).filter fun q => (stays k many) q.1).map fun q => (downBy k many q.1, q.2)) ∧ es = valsV (((z.gv.take i).filter fun q => (stays k many) q.1).map fun q => (downBy k many q.1, q.2)) ∧ sput m a1 (.lk od kvs (keysV z.gv) (valsV z.gv)) = m', ?_, ?_, ?_, ?_⟩
  · exact ⟨rfl, rfl, rfl⟩
  · rintro i d ks es m' hi ⟨rfl, rfl, rfl⟩
    obtain ⟨⟨j, v⟩, hj, rfl⟩ := items_V hi
    refine dgv_tup rfl ?_
    refine dgsv_cons ?_
    refine dgv_name 4 (by decide) rfl (.inl rfl) ?_
    refine dgsv_cons ?_
    refine dgv_name 5 (by decide) rfl (.inl rfl) ?_
    refine dgsv_nil ?_
    refine dts_one ?_
    refine dt_pt (pt_or2 (k0 := ?k174) (k1 := ?k175) (fun W B q => ?a176) (fun h178 W B q => ?a177)) ?b173
    case a176 =>
      refine dt_cmp od_lt ?_
      refine de_var 4 rfl (.inl rfl) rfl ?_
      refine de_var 1 rfl (by first | exact .inl rfl | exact .inr (.inl rfl) | exact .inr (.inr rfl)) rfl ?_
      walk_at "op"
      refine tb ?_
      exact q
    case a177 =>
      (try simp only [decide_eq_true_eq, decide_eq_false_iff_not, Bool.and_eq_true, Bool.or_eq_true, Bool.not_eq_true', Bool.and_eq_false_iff, Bool.or_eq_false_iff, Bool.not_eq_false', Bool.not_eq_true, Bool.not_eq_false, Int.not_lt, Int.not_le] at h178)
      refine dt_cmp od_ge ?_
      refine de_var 4 rfl (.inl rfl) rfl ?_
      refine de_var 3 rfl (by first | exact .inl rfl | exact .inr (.inl rfl) | exact .inr (.inr rfl)) rfl ?_
      walk_at "op"
      refine tb ?_
      exact q
    case b173 =>
      refine br.any (fun h179 => ?_) (fun h179 => ?_)
      · (try simp only [decide_eq_true_eq, decide_eq_false_iff_not, Bool.and_eq_true, Bool.or_eq_true, Bool.not_eq_true', Bool.and_eq_false_iff, Bool.or_eq_false_iff, Bool.not_eq_false', Bool.not_eq_true, Bool.not_eq_false, Int.not_lt, Int.not_le] at h179)
        have hx := h179
        refine de_bin od_sub ?_
        refine de_var 4 rfl (.inl rfl) rfl ?_
        refine de_bin od_mul ?_
        refine de_var 2 rfl (by first | exact .inl rfl | exact .inr (.inl rfl) | exact .inr (.inr rfl)) rfl ?_
        refine de_callTy cd_int rfl m_int bt_int ?_
        refine da_cons ?_
        refine de_cmp od_ge ?_
        refine de_var 4 rfl (.inl rfl) rfl ?_
        refine de_var 3 rfl (by first | exact .inl rfl | exact .inr (.inl rfl) | exact .inr (.inr rfl)) rfl ?_
        walk_at "op"
        refine da_nil ?_
        refine int_b ?_
        refine mul_ii (.inl (by omega)) ?_
        walk_at "op"
        refine de_var 5 rfl (.inl rfl) rfl ?_
        refine ⟨.inl (downBy k many j), by unfold downBy; simp [kD], few_takeV ok i _ _, ?_⟩
        obtain ⟨s1, s2⟩ := step_V (f := downBy k many) (p := stays k many) ok.dv (fun a b ha hb e => downBy_inj hm1 ha hb e) hj (decide_eq_true (by omega))
        exact ⟨s1, s2, rfl⟩
      · (try simp only [decide_eq_true_eq, decide_eq_false_iff_not, Bool.and_eq_true, Bool.or_eq_true, Bool.not_eq_true', Bool.and_eq_false_iff, Bool.or_eq_false_iff, Bool.not_eq_false', Bool.not_eq_true, Bool.not_eq_false, Int.not_lt, Int.not_le] at h179)
        have hx := h179
        refine ⟨?_, ?_, rfl⟩ <;> rw [skip_V hj (decide_eq_false (by omega))]
  · rintro i ks es m' ⟨rfl, rfl, rfl⟩
    exact sput_same
  · rintro ks es m' ⟨rfl, rfl, rfl⟩ q1 hq1
    have hq1n := new_put hq1
    have nq1 : q1 ≠ a1 := fun e => by rw [e, sput_same] at hq1; cases hq1
    have np3 : p ≠ q1 := sne h1 hq1n
    have na3 : a2 ≠ q1 := sne h3 hq1n
    refine ⟨(sput_ne (Ne.symm nq1)).trans sput_same, ?_⟩
    rw [lock_new h2 nq1, itemsV_len, List.take_length]
    refine de_var 0 rfl (.inl rfl) rfl ?_
    refine ⟨_, _, _, rfl, by walk_at "st", ic_Sizes.cl, na_Sizes_given, (Nat.le_of_ble_eq_true rfl), ?_⟩
    obtain ⟨M, hM⟩ : ∃ M, M = sput (sput m q1 (.dic (keysV ((z.gv.filter fun q => stays k many q.1).map fun q => (downBy k many q.1, q.2))) (valsV ((z.gv.filter fun q => stays k many q.1).map fun q => (downBy k many q.1, q.2))))) p (.ins c_Sizes (szF z q1 a2)) := ⟨_, rfl⟩
    have hMp : M p = some (.ins c_Sizes (szF z q1 a2)) := by rw [hM]; exact sput_same
    have hMq : M q1 = some (.dic (keysV ((z.gv.filter fun q => stays k many q.1).map fun q => (downBy k many q.1, q.2))) (valsV ((z.gv.filter fun q => stays k many q.1).map fun q => (downBy k many q.1, q.2)))) := by rw [hM]; exact (sput_ne (Ne.symm np3)).trans sput_same
    have hM2 : M a2 = some (.dic (keysN z.gn) (valsN z.gn)) := by rw [hM]; exact (sput_ne (Ne.symm np2)).trans ((sput_ne na3).trans h3)
    have hMo : ∀ b o, b ≠ p → m b = some o → M b = some o := fun b o nb e => by rw [hM, sput_ne nb, sput_ne (sne e hq1n)]; exact e
    rw [show sput (sput m q1 (.dic (keysV ((z.gv.filter fun q => stays k many q.1).map fun q => (downBy k many q.1, q.2))) (valsV ((z.gv.filter fun q => stays k many q.1).map fun q => (downBy k many q.1, q.2))))) p (.ins c_Sizes (putD "given" (.ref q1) (szF z a1 a2))) = M from hM.symm]
    refine dss_cons (ds_fld ?_)
    refine de_lock a2 hM2 (fun od kvs => ?_)
    refine de_dc [("k", 4)] (show blkC ["self", "number", "many", "end", "k", "size"] (defScope s_Sizes_cut) _ [("k", 4)] = true from by decide +kernel) ?_
    refine diw_dig ?_
    refine di_keys ?_
    refine de_fld ?_
    refine de_var 0 rfl (.inl rfl) rfl ?_
    refine ⟨_, _, _, _, rfl, by walk_at "st", ic_Sizes.cl, na_Sizes_gone, rfl, ?_⟩
    refine ⟨_, _, _, _, _, rfl, sput_same, ?_⟩
    refine ⟨fun i ks es m' => ks = keysN (((z.gn.take i).filter (stays k many)).map (downBy k many)) ∧ es = valsN (((z.gn.take i).filter (stays k many)).map (downBy k many)) ∧ sput M a2 (.lk od kvs (keysN z.gn) (valsN z.gn)) = m', ?_, ?_, ?_, ?_⟩
    · exact ⟨rfl, rfl, rfl⟩
    · rintro i d ks es m' hi ⟨rfl, rfl, rfl⟩
      obtain ⟨j, hj, rfl⟩ := gone_get hi
      refine dgv_name 4 (by decide) rfl (.inl rfl) ?_
      refine dts_one ?_
      refine dt_pt (pt_or2 (k0 := ?k181) (k1 := ?k182) (fun W B q => ?a183) (fun h185 W B q => ?a184)) ?b180
      case a183 =>
        refine dt_cmp od_lt ?_
        refine de_var 4 rfl (.inl rfl) rfl ?_
        refine de_var 1 rfl (by first | exact .inl rfl | exact .inr (.inl rfl) | exact .inr (.inr rfl)) rfl ?_
        walk_at "op"
        refine tb ?_
        exact q
      case a184 =>
        (try simp only [decide_eq_true_eq, decide_eq_false_iff_not, Bool.and_eq_true, Bool.or_eq_true, Bool.not_eq_true', Bool.and_eq_false_iff, Bool.or_eq_false_iff, Bool.not_eq_false', Bool.not_eq_true, Bool.not_eq_false, Int.not_lt, Int.not_le] at h185)
        refine dt_cmp od_ge ?_
        refine de_var 4 rfl (.inl rfl) rfl ?_
        refine de_var 3 rfl (by first | exact .inl rfl | exact .inr (.inl rfl) | exact .inr (.inr rfl)) rfl ?_
        walk_at "op"
        refine tb ?_
        exact q
      case b180 =>
        refine br.any (fun h186 => ?_) (fun h186 => ?_)
        · (try simp only [decide_eq_true_eq, decide_eq_false_iff_not, Bool.and_eq_true, Bool.or_eq_true, Bool.not_eq_true', Bool.and_eq_false_iff, Bool.or_eq_false_iff, Bool.not_eq_false', Bool.not_eq_true, Bool.not_eq_false, Int.not_lt, Int.not_le] at h186)
          have hx := h186
          refine de_bin od_sub ?_
          refine de_var 4 rfl (.inl rfl) rfl ?_
          refine de_bin od_mul ?_
          refine de_var 2 rfl (by first | exact .inl rfl | exact .inr (.inl rfl) | exact .inr (.inr rfl)) rfl ?_
          refine de_callTy cd_int rfl m_int bt_int ?_
          refine da_cons ?_
          refine de_cmp od_ge ?_
          refine de_var 4 rfl (.inl rfl) rfl ?_
          refine de_var 3 rfl (by first | exact .inl rfl | exact .inr (.inl rfl) | exact .inr (.inr rfl)) rfl ?_
          walk_at "op"
          refine da_nil ?_
          refine int_b ?_
          refine mul_ii (.inl (by omega)) ?_
          walk_at "op"
          refine de_bl ?_
          refine ⟨.inl (downBy k many j), by unfold downBy; simp [kD], few_takeN ok i _ _, ?_⟩
          obtain ⟨s1, s2⟩ := step_N (f := downBy k many) (p := stays k many) ok.dn (fun a b ha hb e => downBy_inj hm1 ha hb e) hj (decide_eq_true (by omega))
          exact ⟨s1, s2, rfl⟩
        · (try simp only [decide_eq_true_eq, decide_eq_false_iff_not, Bool.and_eq_true, Bool.or_eq_true, Bool.not_eq_true', Bool.and_eq_false_iff, Bool.or_eq_false_iff, Bool.not_eq_false', Bool.not_eq_true, Bool.not_eq_false, Int.not_lt, Int.not_le] at h186)
          have hx := h186
          refine ⟨?_, ?_, rfl⟩ <;> rw [skip_N hj (decide_eq_false (by omega))]
    · rintro i ks es m' ⟨rfl, rfl, rfl⟩
      exact sput_same
    · rintro ks es m' ⟨rfl, rfl, rfl⟩ q2 hq2
      have hq2n := new_put hq2
      have nq2 : q2 ≠ a2 := fun e => by rw [e, sput_same] at hq2; cases hq2
      have np4 : p ≠ q2 := sne hMp hq2n
      have na4 : q1 ≠ q2 := sne hMq hq2n
      refine ⟨(sput_ne (Ne.symm nq2)).trans sput_same, ?_⟩
      rw [lock_new hM2 nq2, gone_len, List.take_length]
      refine de_var 0 rfl (.inl rfl) rfl ?_
      refine ⟨_, _, _, rfl, by walk_at "st", ic_Sizes.cl, na_Sizes_gone, (Nat.le_of_ble_eq_true rfl), ?_⟩
      obtain ⟨M2, hN⟩ : ∃ M2, M2 = sput (sput M q2 (.dic (keysN ((z.gn.filter (stays k many)).map (downBy k many))) (valsN ((z.gn.filter (stays k many)).map (downBy k many))))) p (.ins c_Sizes (szF z q1 q2)) := ⟨_, rfl⟩
      have hNp : M2 p = some (.ins c_Sizes (szF z q1 q2)) := by rw [hN]; exact sput_same
      have hNq : M2 q1 = some (.dic (keysV ((z.gv.filter fun q => stays k many q.1).map fun q => (downBy k many q.1, q.2))) (valsV ((z.gv.filter fun q => stays k many q.1).map fun q => (downBy k many q.1, q.2)))) := by rw [hN]; exact (sput_ne (Ne.symm np3)).trans ((sput_ne na4).trans hMq)
      have hN2 : M2 q2 = some (.dic (keysN ((z.gn.filter (stays k many)).map (downBy k many))) (valsN ((z.gn.filter (stays k many)).map (downBy k many)))) := by rw [hN]; exact (sput_ne (Ne.symm np4)).trans sput_same
      have hNo : ∀ b o, b ≠ p → m b = some o → M2 b = some o := fun b o nb e => by rw [hN, sput_ne nb, sput_ne (sne (hMo b o nb e) hq2n)]; exact hMo b o nb e
      rw [show sput (sput M q2 (.dic (keysN ((z.gn.filter (stays k many)).map (downBy k many))) (valsN ((z.gn.filter (stays k many)).map (downBy k many))))) p (.ins c_Sizes (putD "gone" (.ref q2) (szF z q1 a2))) = M2 from hN.symm]
      have hq2m : m q2 = none := by
        cases e : m q2 with
        | none => rfl
        | some o => rw [hMo q2 o (Ne.symm np4) e] at hq2n; cases hq2n
      refine dss_cons (ds_fldaug od_subi ?_)
      refine de_var 0 rfl (.inl rfl) rfl ?_
      refine ⟨_, _, _, _, rfl, by walk_at "st", ic_Sizes.cl, na_Sizes_many, rfl, ?_⟩
      refine de_var 2 rfl (.inr (.inl rfl)) rfl ?_
      refine ⟨_, _, rfl, rfl, ?_⟩
      refine ⟨_, by walk_at "st", (Nat.le_of_ble_eq_true rfl), ?_⟩
      refine dss_nil ?_
      exact hq hk1 hk2 hm1 hm2 hm3 _ (kk (z.cut k many) q1 q2 _ ⟨sput_same, (sput_ne (Ne.symm np3)).trans hNq, (sput_ne (Ne.symm np4)).trans hN2, na4⟩ (fun b n1 n2 n3 o e => by rw [sput_ne n1]; exact hNo b o n1 e) (.inr hq1n) (.inr hq2m))

abbrev s_Sizes_twin : Stmt := inClass (topS 16) 22
theorem sc_Sizes_twin : FnScope ["self", "other"] ["self"] (defScope s_Sizes_twin) := ⟨rfl, rfl, rfl, by decide +kernel, rfl, by decide +kernel, by decide +kernel⟩
set_option maxHeartbeats 4000000 in
theorem km_Sizes_twin {f : Addr} {fd : FuncData} (Fn : FunD K "twin" "Sizes.twin" (defArgs s_Sizes_twin) (defBody s_Sizes_twin) (defScope s_Sizes_twin) [] [] f fd) (m_dict : mg "dict" = none) {c_BadMany : Addr} {c_BadSize : Addr} {c_Sizes : Addr} (ic_Sizes : InsC K c_Sizes) (na_Sizes_many : NoAttr K c_Sizes "many") (na_Sizes_common : NoAttr K c_Sizes "common") (na_Sizes_given : NoAttr K c_Sizes "given") (na_Sizes_gone : NoAttr K c_Sizes "gone") (ki_Sizes_common : KnI P w K mg base "Sizes" c_Sizes 2 (FInitH c_Sizes c_BadMany c_BadSize) 1 ["common"] (fun us zs => pickL [0, 1, 2] (us ++ zs ++ []))) (mh : Meth K c_Sizes "twin" f)  : KnM P w K mg base c_Sizes "twin" 4 (FTwin c_Sizes) := by
  have b : Binds K fd ["self"] [] := FunD.bindsN Fn fun _ _ _ _ _ _ us hl => match us, hl with | [_], _ => rfl
  refine ⟨f, fd, ["self"], ?_, mh, b⟩
  refine def_ok (N := ["self", "other"]) Fn sc_Sizes_twin FTwin.len ?_
  rintro ds m Q E ⟨h, p, z, rfl, A, hp, ok, hq⟩
  have hc1 := ok.c1
  have hc2 := ok.c2
  obtain ⟨b1, b2, g1, g2, g3, gne⟩ := A.sz hp
  refine dss_cons (ds_set 1 rfl (.inl rfl) ?_)
  refine de_make ki_Sizes_common rfl rfl ?_
  refine da_cons ?_
  refine de_int ?_
  refine da_nil ?_
  refine ⟨rfl, ?_⟩
  refine dks_cons ?_
  refine de_fld ?_
  refine de_var 0 rfl (.inl rfl) rfl ?_
  refine ⟨_, _, _, _, rfl, by walk_at "st", ic_Sizes.cl, na_Sizes_common, rfl, ?_⟩
  refine dks_nil ?_
  intro ps3 hps3
  refine ⟨_, _, _, rfl, sput_same, fun hr => absurd hr (by omega), fun _ _ hr => absurd hr (by omega), fun mi1 mi2 mi3 mi4 ms3 sa3 sb3 hk3 hsz3 hna3 hnb3 => ⟨rfl, ?_⟩⟩
  have Am3 := Abs.make A hps3 hk3 hsz3 hna3 hnb3
  clear hk3 hsz3 hna3 hnb3
  have hne : p ≠ ps3 := G.hne hp (Abs.none A hps3)
  have hn3 : h ps3 = .none := Abs.none A hps3
  obtain ⟨c1, c2, ⟨k1, k2, k3, kne⟩, kk⟩ := Am3.szO hput_same
  obtain ⟨a1, a2, h1, h2, h3, hne0⟩ := Am3.sz ((hput_ne hne).trans hp)
  have n1 : a1 ≠ ps3 := fun e => by rw [e, k1] at h2; cases h2
  have n2 : a2 ≠ ps3 := fun e => by rw [e, k1] at h3; cases h3
  refine dss_cons (ds_fld ?_)
  refine de_fld ?_
  refine de_var 0 rfl (.inl rfl) rfl ?_
  refine ⟨_, _, _, _, rfl, by walk_at "st", ic_Sizes.cl, na_Sizes_many, rfl, ?_⟩
  refine de_var 1 rfl (.inl rfl) rfl ?_
  refine ⟨_, _, _, rfl, by walk_at "st", ic_Sizes.cl, na_Sizes_many, (Nat.le_of_ble_eq_true rfl), ?_⟩
  obtain ⟨M1, hM1⟩ : ∃ X, X = sput ms3 ps3 (.ins c_Sizes (szF ⟨z.n, z.c, [], []⟩ c1 c2)) := ⟨_, rfl⟩
  have o1 : ∀ b o, b ≠ ps3 → ms3 b = some o → M1 b = some o := fun b o nb e => by rw [hM1, sput_ne nb]; exact e
  have i1 : M1 ps3 = some (.ins c_Sizes (szF ⟨z.n, z.c, [], []⟩ c1 c2)) := by rw [hM1]; exact sput_same
  have p1 := o1 _ _ hne h1
  have v1 := o1 _ _ n1 h2
  have w1 := o1 _ _ n2 h3
  rw [show sput ms3 ps3 (.ins c_Sizes (putD "many" (.int z.n) (szF ⟨1, z.c, [], []⟩ c1 c2))) = M1 from hM1.symm]
  refine dss_cons (ds_fld ?_)
  refine de_callTy cd_dictCV rfl m_dict bt_dict ?_
  refine da_cons ?_
  refine de_fld ?_
  refine de_var 0 rfl (.inl rfl) rfl ?_
  refine ⟨_, _, _, _, rfl, by walk_at "st", ic_Sizes.cl, na_Sizes_given, rfl, ?_⟩
  refine da_nil ?_
  refine ⟨_, _, _, rfl, by walk_at "dv", fun q1 hq1 => ?_⟩
  have f1 : ps3 ≠ q1 := sne i1 hq1
  refine de_var 1 rfl (.inl rfl) rfl ?_
  refine ⟨_, _, _, rfl, by walk_at "st", ic_Sizes.cl, na_Sizes_given, (Nat.le_of_ble_eq_true rfl), ?_⟩
  obtain ⟨M2, hM2⟩ : ∃ X, X = sput (sput M1 q1 (.dic (keysV z.gv) (valsV z.gv))) ps3 (.ins c_Sizes (szF ⟨z.n, z.c, [], []⟩ q1 c2)) := ⟨_, rfl⟩
  have o2 : ∀ b o, b ≠ ps3 → M1 b = some o → M2 b = some o := fun b o nb e => by rw [hM2, sput_ne nb, sput_ne (sne e hq1)]; exact e
  have i2 : M2 ps3 = some (.ins c_Sizes (szF ⟨z.n, z.c, [], []⟩ q1 c2)) := by rw [hM2]; exact sput_same
  have d2 : M2 q1 = some (.dic (keysV z.gv) (valsV z.gv)) := by rw [hM2, sput_ne (Ne.symm f1)]; exact sput_same
  have p2 := o2 _ _ hne p1
  have w2 := o2 _ _ n2 w1
  rw [show sput (sput M1 q1 (.dic (keysV z.gv) (valsV z.gv))) ps3 (.ins c_Sizes (putD "given" (.ref q1) (szF ⟨z.n, z.c, [], []⟩ c1 c2))) = M2 from hM2.symm]
  refine dss_cons (ds_fld ?_)
  refine de_callTy cd_dictCV rfl m_dict bt_dict ?_
  refine da_cons ?_
  refine de_fld ?_
  refine de_var 0 rfl (.inl rfl) rfl ?_
  refine ⟨_, _, _, _, rfl, by walk_at "st", ic_Sizes.cl, na_Sizes_gone, rfl, ?_⟩
  refine da_nil ?_
  refine ⟨_, _, _, rfl, by walk_at "dv", fun q2 hq2 => ?_⟩
  have f2 : ps3 ≠ q2 := sne i2 hq2
  refine de_var 1 rfl (.inl rfl) rfl ?_
  refine ⟨_, _, _, rfl, by walk_at "st", ic_Sizes.cl, na_Sizes_gone, (Nat.le_of_ble_eq_true rfl), ?_⟩
  have f3 : q1 ≠ q2 := sne d2 hq2
  obtain ⟨M3, hM3⟩ : ∃ X, X = sput (sput M2 q2 (.dic (keysN z.gn) (valsN z.gn))) ps3 (.ins c_Sizes (szF ⟨z.n, z.c, [], []⟩ q1 q2)) := ⟨_, rfl⟩
  have o3 : ∀ b o, b ≠ ps3 → M2 b = some o → M3 b = some o := fun b o nb e => by rw [hM3, sput_ne nb, sput_ne (sne e hq2)]; exact e
  have i3 : M3 ps3 = some (.ins c_Sizes (szF ⟨z.n, z.c, [], []⟩ q1 q2)) := by rw [hM3]; exact sput_same
  have d3 : M3 q1 = some (.dic (keysV z.gv) (valsV z.gv)) := o3 _ _ (Ne.symm f1) d2
  have e3 : M3 q2 = some (.dic (keysN z.gn) (valsN z.gn)) := by rw [hM3, sput_ne (Ne.symm f2)]; exact sput_same
  rw [show sput (sput M2 q2 (.dic (keysN z.gn) (valsN z.gn))) ps3 (.ins c_Sizes (putD "gone" (.ref q2) (szF ⟨z.n, z.c, [], []⟩ q1 c2))) = M3 from hM3.symm]
  refine dss_cons (ds_ret ?_)
  refine de_var 1 rfl (.inl rfl) rfl ?_
  have fresh : ∀ q, M1 q = none → q ≠ ps3 → ms3 q = none := fun q hq nq => by
    rw [hM1, sput_ne nq] at hq
    exact hq
  have fresh2 : M1 q2 = none := by
    rw [hM2, sput_ne (Ne.symm f2), sput_ne (Ne.symm f3)] at hq2
    exact hq2
  have w := kk z q1 q2 M3 ⟨i3, d3, e3, f3⟩ (fun b n1 n2 n3 o e => o3 b o n1 (o2 b o n1 (o1 b o n1 e))) (.inr (fresh q1 hq1 (Ne.symm f1))) (.inr (fresh q2 fresh2 (Ne.symm f2)))
  rw [hput_hput] at w
  exact hq ps3 M3 hn3 w

abbrev s_Sizes___eq__ : Stmt := inClass (topS 16) 1
theorem sc_Sizes___eq__ : FnScope ["self", "other"] ["self", "other"] (defScope s_Sizes___eq__) := ⟨rfl, rfl, rfl, by decide +kernel, rfl, by decide +kernel, by decide +kernel⟩
set_option maxHeartbeats 4000000 in
theorem km_Sizes___eq__ {f : Addr} {fd : FuncData} (Fn : FunD K "__eq__" "Sizes.__eq__" (defArgs s_Sizes___eq__) (defBody s_Sizes___eq__) (defScope s_Sizes___eq__) [] [] f fd) (m_isinstance : mg "isinstance" = none) {c_Sizes : Addr} (ic_Sizes : InsC K c_Sizes) (na_Sizes_many : NoAttr K c_Sizes "many") (na_Sizes_common : NoAttr K c_Sizes "common") (na_Sizes_given : NoAttr K c_Sizes "given") (na_Sizes_gone : NoAttr K c_Sizes "gone") (gc_Sizes : mg "Sizes" = some (.ref c_Sizes)) (kt_Sizes_Sizes : PySem.W.kitOne K (.ref c_Sizes) (.ref c_Sizes) = some true) (mh : Meth K c_Sizes "__eq__" f)  : KnM P w K mg base c_Sizes "__eq__" 1 (FEq c_Sizes) := by
  have b : Binds K fd ["self", "other"] [] := FunD.bindsN Fn fun _ _ _ _ _ _ us hl => match us, hl with | [_, _], _ => rfl
  refine ⟨f, fd, ["self", "other"], ?_, mh, b⟩
  refine def_ok (N := ["self", "other"]) Fn sc_Sizes___eq__ FEq.len ?_
  rintro ds m Q E ⟨p, q, z, y, rfl, ⟨a1, a2, h1, h2, h3, _⟩, ⟨b1, b2, g1, g2, g3, _⟩, hq⟩
  refine dss_cons (ds_if ?_)
  refine dt_not ?_
  refine dt_val ?_
  refine de_callB cd_isiI rfl m_isinstance bt_isinstance ?_
  refine da_cons ?_
  refine de_var 1 rfl (.inl rfl) rfl ?_
  refine da_cons ?_
  refine de_gref gc_Sizes rfl ?_
  refine da_nil ?_
  refine ⟨_, _, _, _, _, rfl, g1, ic_Sizes, kt_Sizes_Sizes, ?_⟩
  refine tb ?_
  refine br.f ?_
  refine dss_nil ?_
  refine dss_cons (ds_if ?_)
  refine dt_cmp od_ne ?_
  refine de_tup ?_
  refine da_cons ?_
  refine de_fld ?_
  refine de_var 0 rfl (.inl rfl) rfl ?_
  refine ⟨_, _, _, _, rfl, by walk_at "st", ic_Sizes.cl, na_Sizes_many, rfl, ?_⟩
  refine da_cons ?_
  refine de_fld ?_
  refine de_var 0 rfl (.inl rfl) rfl ?_
  refine ⟨_, _, _, _, rfl, by walk_at "st", ic_Sizes.cl, na_Sizes_common, rfl, ?_⟩
  refine da_nil ?_
  refine ⟨sz_lit rfl, ?_⟩
  refine de_tup ?_
  refine da_cons ?_
  refine de_fld ?_
  refine de_var 1 rfl (.inl rfl) rfl ?_
  refine ⟨_, _, _, _, rfl, by walk_at "st", ic_Sizes.cl, na_Sizes_many, rfl, ?_⟩
  refine da_cons ?_
  refine de_fld ?_
  refine de_var 1 rfl (.inl rfl) rfl ?_
  refine ⟨_, _, _, _, rfl, by walk_at "st", ic_Sizes.cl, na_Sizes_common, rfl, ?_⟩
  refine da_nil ?_
  refine ⟨sz_lit rfl, ?_⟩
  refine ⟨1, by omega, rfl, rfl, ?_⟩
  rw [eqvD_pair]
  refine tb ?_
  refine br.any (fun h188 => ?_) (fun h188 => ?_)
  · (try simp only [decide_eq_true_eq, decide_eq_false_iff_not, Bool.and_eq_true, Bool.or_eq_true, Bool.not_eq_true', Bool.and_eq_false_iff, Bool.or_eq_false_iff, Bool.not_eq_false', Bool.not_eq_true, Bool.not_eq_false, Int.not_lt, Int.not_le] at h188)
    have hx := h188
    refine dss_cons (ds_ret ?_)
    refine de_bl ?_
    have e : (decide (z.n = y.n) && decide (z.c = y.c)) = false := by rcases hx with hx | hx <;> simp [hx]
    rw [e, Bool.false_and, Bool.false_and] at hq
    exact hq
  · (try simp only [decide_eq_true_eq, decide_eq_false_iff_not, Bool.and_eq_true, Bool.or_eq_true, Bool.not_eq_true', Bool.and_eq_false_iff, Bool.or_eq_false_iff, Bool.not_eq_false', Bool.not_eq_true, Bool.not_eq_false, Int.not_lt, Int.not_le] at h188)
    have hx := h188
    refine dss_nil ?_
    refine dss_cons (ds_ret ?_)
    refine de_pe (pe_and2 (k0 := ?k191) (k1 := ?k192) (fun W Q q => ?a193) (fun h195 W Q q => ?a194)) ?b190
    case a193 =>
      refine de_cmp od_eqDic ?_
      refine de_fld ?_
      refine de_var 0 rfl (.inl rfl) rfl ?_
      refine ⟨_, _, _, _, rfl, by walk_at "st", ic_Sizes.cl, na_Sizes_given, rfl, ?_⟩
      refine de_fld ?_
      refine de_var 1 rfl (.inl rfl) rfl ?_
      refine ⟨_, _, _, _, rfl, by walk_at "st", ic_Sizes.cl, na_Sizes_given, rfl, ?_⟩
      refine ⟨_, _, _, _, _, _, rfl, rfl, .inl h2, .inl g2, sameI, ?_⟩
      exact q
    case a194 =>
      (try simp only [decide_eq_true_eq, decide_eq_false_iff_not, Bool.and_eq_true, Bool.or_eq_true, Bool.not_eq_true', Bool.and_eq_false_iff, Bool.or_eq_false_iff, Bool.not_eq_false', Bool.not_eq_true, Bool.not_eq_false, Int.not_lt, Int.not_le] at h195)
      refine de_cmp od_eqDic ?_
      refine de_fld ?_
      refine de_var 0 rfl (.inl rfl) rfl ?_
      refine ⟨_, _, _, _, rfl, by walk_at "st", ic_Sizes.cl, na_Sizes_gone, rfl, ?_⟩
      refine de_fld ?_
      refine de_var 1 rfl (.inl rfl) rfl ?_
      refine ⟨_, _, _, _, rfl, by walk_at "st", ic_Sizes.cl, na_Sizes_gone, rfl, ?_⟩
      refine ⟨_, _, _, _, _, _, rfl, rfl, .inl h3, .inl g3, sameB, ?_⟩
      exact q
    case b190 =>
      rw [decide_eq_true hx.1, decide_eq_true hx.2, Bool.true_and, Bool.true_and] at hq
      exact hq

set_option maxHeartbeats 4000000 in
theorem km_Sizes___eq___X {f : Addr} {fd : FuncData} (Fn : FunD K "__eq__" "Sizes.__eq__" (defArgs s_Sizes___eq__) (defBody s_Sizes___eq__) (defScope s_Sizes___eq__) [] [] f fd) (m_isinstance : mg "isinstance" = none) (gc_Sizes : mg "Sizes" = some (.ref c_Sizes)) (mh : Meth K c_Sizes "__eq__" f)  : KnM P w K mg base c_Sizes "__eq__" 1 (FEqX K c_Sizes) := by
  have b : Binds K fd ["self", "other"] [] := FunD.bindsN Fn fun _ _ _ _ _ _ us hl => match us, hl with | [_, _], _ => rfl
  refine ⟨f, fd, ["self", "other"], ?_, mh, b⟩
  refine def_ok (N := ["self", "other"]) Fn sc_Sizes___eq__ FEqX.len ?_
  rintro ds m Q E ⟨p, e, t, rfl, ht, hk, hq⟩
  refine dss_cons (ds_if ?_)
  refine dt_not ?_
  refine dt_val ?_
  refine de_callB cd_isiT rfl m_isinstance bt_isinstance ?_
  refine da_cons ?_
  refine de_var 1 rfl (.inl rfl) rfl ?_
  refine da_cons ?_
  refine de_gref gc_Sizes rfl ?_
  refine da_nil ?_
  refine ⟨_, _, _, _, rfl, ht, hk, ?_⟩
  refine tb ?_
  refine br.t ?_
  refine dss_cons (ds_ret ?_)
  refine de_bl ?_
  exact hq
end
end K06

namespace K06
open PySem PySem.Spec PyProof.Rows L2 G
local macro_rules | `(tactic| walk_at "op") => `(tactic| first | with_reducible refine add_ii ?_ | with_reducible refine sub_ii ?_ | with_reducible refine cmp_ii ?_ | with_reducible refine is_n ?_ | with_reducible refine isnt_n ?_ | with_reducible refine max_ii ?_ | with_reducible refine min_ii ?_ | with_reducible refine int_i ?_ | with_reducible refine int_b ?_ | refine len_l ?_ | refine len_t ?_ | refine isi rfl (by walk_at "kit") ?_)
local macro_rules | `(tactic| walk_at "kit") => `(tactic| first | exact kit_NoneType_bool | exact kit_NoneType_int | exact kit_NoneType_str | exact kit_NoneType_list | exact kit_NoneType_tuple | exact kit_NoneType_dict | exact kit_bool_bool | exact kit_bool_int | exact kit_bool_str | exact kit_bool_list | exact kit_bool_tuple | exact kit_bool_dict | exact kit_int_bool | exact kit_int_int | exact kit_int_str | exact kit_int_list | exact kit_int_tuple | exact kit_int_dict | exact kit_str_bool | exact kit_str_int | exact kit_str_str | exact kit_str_list | exact kit_str_tuple | exact kit_str_dict | exact kit_tuple_bool | exact kit_tuple_int | exact kit_tuple_str | exact kit_tuple_list | exact kit_tuple_tuple | exact kit_tuple_dict | exact kit_list_bool | exact kit_list_int | exact kit_list_str | exact kit_list_list | exact kit_list_tuple | exact kit_list_dict | exact kit_dict_bool | exact kit_dict_int | exact kit_dict_str | exact kit_dict_list | exact kit_dict_tuple | exact kit_dict_dict | exact kit2_NoneType_int_str | exact kit2_bool_int_str | exact kit2_int_int_str | exact kit2_str_int_str | exact kit2_tuple_int_str | exact kit2_list_int_str | exact kit2_dict_int_str)
local macro_rules | `(tactic| walk_at "side") => `(tactic| first | omega | (have hz := sizeLine_eq; omega))

local macro_rules | `(tactic| walk_at "st") => `(tactic| first | assumption | exact sput_same | exact (sput_ne (by assumption)).trans sput_same | exact (sput_ne (Ne.symm (by assumption))).trans sput_same | exact (sput_ne (by assumption)).trans (by assumption))
local macro_rules | `(tactic| walk_at "fslen") => `(tactic| (have hz := sizeLine_eq; simp only [Str.length_append]; omega))
local macro_rules | `(tactic| walk_at "fslog") => `(tactic| exact num_log (by omega) (by omega))

local macro_rules | `(tactic| walk_at "dv") => `(tactic| first | exact .inr rfl | exact .inl ⟨_, rfl, .inl (by walk_at "st")⟩)
local macro_rules | `(tactic| walk_at "dlen") => `(tactic| first | exact lenKV | exact lenKN)
local macro_rules | `(tactic| walk_at "dsz") => `(tactic| first | exact keysV_few (by assumption) | exact keysN_few (by assumption) | exact keysVd_few (by assumption) | exact keysNd_few (by assumption) | (show _ < sizeLine; decide))
local macro_rules | `(tactic| walk_at "insx") => `(tactic| first | exact ⟨_, by walk_at "st", rfl⟩ | exact Abs.szI (by assumption) (by walk_at "hst") (by intro _ _; rfl))
local macro_rules | `(tactic| walk_at "fldx") => `(tactic| first | exact ⟨_, by walk_at "st", rfl⟩ | exact Abs.szF (by assumption) (by walk_at "hst") (by intro _ _; rfl))
local macro_rules | `(tactic| walk_at "hst") => `(tactic| first | assumption | exact hput_same | (refine (hput_ne (by first | assumption | exact Ne.symm (by assumption))).trans ?_; walk_at "hst"))

local macro_rules | `(tactic| walk_at "st") => `(tactic| first | assumption | exact sput_same | (refine (sput_ne (by first | assumption | exact Ne.symm (by assumption))).trans ?_; walk_at "st") | (refine (sdel_ne (by first | assumption | exact Ne.symm (by assumption))).trans ?_; walk_at "st"))
section
variable {P : Program} {w : World} {K : PySem.W.Frag} {mg : Str → Option Value} {base : Heap}

abbrev s__law_z : Stmt := topS 22
theorem sc__law_z : FnScope ["_law_many", "_law_usual"] ["_law_many", "_law_usual"] (defScope s__law_z) := ⟨rfl, rfl, rfl, by decide +kernel, rfl, by decide +kernel, by decide +kernel⟩
set_option maxHeartbeats 4000000 in
theorem kn__law_z {f : Addr} {fd : FuncData} (Fn : FnP K "_law_z" s__law_z f fd) (g : mg "_law_z" = some (.ref f))   : Kn P w K mg base "_law_z" 1 (FZ) := by
  have b : Binds K fd ["_law_many", "_law_usual"] [] := FunD.bindsN Fn fun _ _ _ _ _ _ us hl => match us, hl with | [_, _], _ => rfl
  refine ⟨f, fd, ["_law_many", "_law_usual"], ?_, g, Fn.kp, b⟩
  refine def_ok (N := ["_law_many", "_law_usual"]) Fn sc__law_z FZ.len ?_
  rintro ds m Q E ⟨n, c, rfl, hq⟩
  refine dss_cons (ds_ret ?_)
  refine de_freezeD ?_
  refine de_fzIn ?_
  refine de_fzIn ?_
  refine de_disp (xs := ["many", "common", "own", "gone"]) (by repeat constructor) rfl (by decide) (List.cons_ne_nil _ _) rfl rfl (by decide) ?_
  intro p hp
  refine dvs_cons ?_
  refine de_var 0 rfl (.inl rfl) rfl ?_
  refine dvs_cons ?_
  refine de_var 1 rfl (.inl rfl) rfl ?_
  refine dvs_cons ?_
  refine de_dict0 ?_
  intro b1 hb1
  have hne1 := sne sput_same hb1
  refine dvs_cons ?_
  refine de_dict0 ?_
  intro b2 hb2
  have hne2 := sne ((sput_ne hne1).trans sput_same) hb2
  have hne3 := sne sput_same hb2
  refine dvs_nil ?_
  refine ⟨(sput_ne hne2).trans ((sput_ne hne1).trans sput_same), ?_⟩
  refine ⟨p, 2, b1, _, _, _, _, sput_same, rfl, by walk_at "st", hne1, ?_⟩
  refine ⟨p, 3, b2, _, _, _, _, sput_same, rfl, by walk_at "st", hne2, ?_⟩
  refine ⟨p, _, _, rfl, sput_same, ?_⟩
  rw [sto_z hp hb1 hb2]
  exact hq

abbrev s__law_z_odd : Stmt := topS 28
theorem sc__law_z_odd : FnScope ["_law_z_here", "_law_k"] ["_law_z_here"] (defScope s__law_z_odd) := ⟨rfl, rfl, rfl, by decide +kernel, rfl, by decide +kernel, by decide +kernel⟩
set_option maxHeartbeats 4000000 in
theorem kn__law_z_odd {f : Addr} {fd : FuncData} (Fn : FnP K "_law_z_odd" s__law_z_odd f fd) (g : mg "_law_z_odd" = some (.ref f)) (m_sorted : mg "sorted" = none) (m_list : mg "list" = none)  : Kn P w K mg base "_law_z_odd" 1 (FZOdd) := by
  have b : Binds K fd ["_law_z_here"] [] := FunD.bindsN Fn fun _ _ _ _ _ _ us hl => match us, hl with | [_], _ => rfl
  refine ⟨f, fd, ["_law_z_here"], ?_, g, Fn.kp, b⟩
  refine def_ok (N := ["_law_z_here", "_law_k"]) Fn sc__law_z_odd FZOdd.len ?_
  rintro ds m Q E ⟨z, rfl, ok, hq⟩
  refine dss_cons (ds_ret ?_)
  refine de_callB cd_sortedI rfl m_sorted bt_sorted ?_
  refine da_cons ?_
  refine de_bin od_add ?_
  refine de_callTy cd_listKV rfl m_list bt_list ?_
  refine da_cons ?_
  refine de_dgetV ?_
  refine de_var 0 rfl (.inr (.inl rfl)) rfl ?_
  refine de_str ?_
  refine ⟨_, _, .inr "own", _, rfl, by walk_at "dv", rfl, ?_⟩
  refine da_nil ?_
  refine ⟨_, _, _, rfl, .inr rfl, ?_⟩
  refine de_lc [("_law_k", 1)] (show blkC ["_law_z_here", "_law_k"] (defScope s__law_z_odd) _ [("_law_k", 1)] = true from by decide +kernel) ?_
  refine di_keysV ?_
  refine de_dgetV ?_
  refine de_var 0 rfl (.inr (.inl rfl)) rfl ?_
  refine de_str ?_
  refine ⟨_, _, .inr "gone", _, rfl, by walk_at "dv", rfl, ?_⟩
  refine ⟨_, _, rfl, ?_⟩
  refine ⟨fun i acc m' => acc = ((z.gn.take i).filter fun k => decide (¬ k ∈ z.gv.map Prod.fst)).map G.D.int ∧ m = m', ?_, ?_, ?_⟩
  · exact ⟨rfl, rfl⟩
  · rintro i d acc m' hi ⟨rfl, rfl⟩
    obtain ⟨j, hj, rfl⟩ := gone_get hi
    refine dgv_name 1 (by decide) rfl (.inl rfl) ?_
    refine dts_one ?_
    refine dt_dnotinV ?_
    refine de_var 1 rfl (.inl rfl) rfl ?_
    refine de_dgetV ?_
    refine de_var 0 rfl (by first | exact .inl rfl | exact .inr (.inl rfl) | exact .inr (.inr rfl)) rfl ?_
    refine de_str ?_
    refine ⟨_, _, .inr "own", _, rfl, by walk_at "dv", rfl, ?_⟩
    refine ⟨_, _, .inl _, rfl, .inr rfl, ?_⟩
    rw [val_has]
    refine br.any (fun h197 => ?_) (fun h197 => ?_)
    · (try simp only [decide_eq_true_eq, decide_eq_false_iff_not, Bool.and_eq_true, Bool.or_eq_true, Bool.not_eq_true', Bool.and_eq_false_iff, Bool.or_eq_false_iff, Bool.not_eq_false', Bool.not_eq_true, Bool.not_eq_false, Int.not_lt, Int.not_le] at h197)
      have hx := h197
      refine de_var 1 rfl (.inl rfl) rfl ?_
      refine ⟨?_, ?_, rfl⟩
      · have hz := sizeLine_eq
        have h7 := ok.fewN
        have h8 := List.length_filter_le (fun k => decide (¬ k ∈ z.gv.map Prod.fst)) (z.gn.take i)
        rw [List.length_map]
        rw [List.length_take] at h8
        omega
      · rw [List.take_succ, hj, List.filter_append, List.map_append]
        simp [hx]
    · (try simp only [decide_eq_true_eq, decide_eq_false_iff_not, Bool.and_eq_true, Bool.or_eq_true, Bool.not_eq_true', Bool.and_eq_false_iff, Bool.or_eq_false_iff, Bool.not_eq_false', Bool.not_eq_true, Bool.not_eq_false, Int.not_lt, Int.not_le] at h197)
      have hx := h197
      refine ⟨?_, rfl⟩
      rw [List.take_succ, hj, List.filter_append, List.map_append]
      simp [hx]
  · rintro acc m' ⟨rfl, rfl⟩
    rw [gone_len, List.take_length]
    refine add_ll (by have hz := sizeLine_eq; have h6 := ok.fewV; have h7 := ok.fewN; have h8 := List.length_filter_le (fun k => decide (¬ k ∈ z.gv.map Prod.fst)) z.gn; unfold keysV; simp only [List.length_map] at h6 h8 ⊢; omega) ?_
    refine da_nil ?_
    refine ⟨z.gv.map Prod.fst ++ z.gn.filter (fun k => decide (¬ k ∈ z.gv.map Prod.fst)), by unfold keysV; simp [kD, List.map_append, Function.comp_def], fun u hu1 hu2 => ?_⟩
    rw [Sz.law_odd ok hu1 hu2]
    exact hq

abbrev s__law_z_size : Stmt := topS 29
theorem sc__law_z_size : FnScope ["_law_z_here", "_law_k"] ["_law_z_here", "_law_k"] (defScope s__law_z_size) := ⟨rfl, rfl, rfl, by decide +kernel, rfl, by decide +kernel, by decide +kernel⟩
set_option maxHeartbeats 4000000 in
theorem kn__law_z_size {f : Addr} {fd : FuncData} (Fn : FnP K "_law_z_size" s__law_z_size f fd) (g : mg "_law_z_size" = some (.ref f))   : Kn P w K mg base "_law_z_size" 1 (FZSize) := by
  have b : Binds K fd ["_law_z_here", "_law_k"] [] := FunD.bindsN Fn fun _ _ _ _ _ _ us hl => match us, hl with | [_, _], _ => rfl
  refine ⟨f, fd, ["_law_z_here", "_law_k"], ?_, g, Fn.kp, b⟩
  refine def_ok (N := ["_law_z_here", "_law_k"]) Fn sc__law_z_size FZSize.len ?_
  rintro ds m Q E ⟨k, z, rfl, hq⟩
  refine dss_cons (ds_if ?_)
  refine dt_dinV ?_
  refine de_var 1 rfl (.inl rfl) rfl ?_
  refine de_dgetV ?_
  refine de_var 0 rfl (.inl rfl) rfl ?_
  refine de_str ?_
  refine ⟨_, _, .inr "gone", _, rfl, by walk_at "dv", rfl, ?_⟩
  refine ⟨_, _, .inl _, rfl, .inr rfl, ?_⟩
  rw [val_gone]
  refine br.any (fun h198 => ?_) (fun h198 => ?_)
  · (try simp only [decide_eq_true_eq, decide_eq_false_iff_not, Bool.and_eq_true, Bool.or_eq_true, Bool.not_eq_true', Bool.and_eq_false_iff, Bool.or_eq_false_iff, Bool.not_eq_false', Bool.not_eq_true, Bool.not_eq_false, Int.not_lt, Int.not_le] at h198)
    have hx := h198
    refine dss_cons (ds_ret ?_)
    refine de_int ?_
    rw [Sz.size_gone hx] at hq
    exact hq
  · (try simp only [decide_eq_true_eq, decide_eq_false_iff_not, Bool.and_eq_true, Bool.or_eq_true, Bool.not_eq_true', Bool.and_eq_false_iff, Bool.or_eq_false_iff, Bool.not_eq_false', Bool.not_eq_true, Bool.not_eq_false, Int.not_lt, Int.not_le] at h198)
    have hx := h198
    refine dss_nil ?_
    refine dss_cons (ds_ret ?_)
    refine de_dget2V ?_
    refine de_dgetV ?_
    refine de_var 0 rfl (.inl rfl) rfl ?_
    refine de_str ?_
    refine ⟨_, _, .inr "own", _, rfl, by walk_at "dv", rfl, ?_⟩
    refine ⟨⟨_, _, by walk_at "dv"⟩, ?_⟩
    refine de_var 1 rfl (.inl rfl) rfl ?_
    refine de_dgetV ?_
    refine de_var 0 rfl (.inl rfl) rfl ?_
    refine de_str ?_
    refine ⟨_, _, .inr "common", _, rfl, by walk_at "dv", rfl, ?_⟩
    refine ⟨_, _, .inl _, rfl, .inr rfl, ?_⟩
    rw [val_own]
    rw [Sz.size_own hx] at hq
    exact hq

abbrev s__law_z_ahead : Stmt := topS 30
theorem sc__law_z_ahead : FnScope ["_law_z_here", "_law_k", "_law_found", "_law_one"] ["_law_z_here", "_law_k"] (defScope s__law_z_ahead) := ⟨rfl, rfl, rfl, by decide +kernel, rfl, by decide +kernel, by decide +kernel⟩
set_option maxHeartbeats 4000000 in
theorem kn__law_z_ahead {f : Addr} {fd : FuncData} (Fn : FnP K "_law_z_ahead" s__law_z_ahead f fd) (g : mg "_law_z_ahead" = some (.ref f))  (kn__law_z_odd : Kn P w K mg base "_law_z_odd" 1 (FZOdd)) (kn__law_z_size : Kn P w K mg base "_law_z_size" 1 (FZSize)) : Kn P w K mg base "_law_z_ahead" 2 (FZAhead) := by
  have b : Binds K fd ["_law_z_here", "_law_k"] [] := FunD.bindsN Fn fun _ _ _ _ _ _ us hl => match us, hl with | [_, _], _ => rfl
  refine ⟨f, fd, ["_law_z_here", "_law_k"], ?_, g, Fn.kp, b⟩
  refine def_ok (N := ["_law_z_here", "_law_k", "_law_found", "_law_one"]) Fn sc__law_z_ahead FZAhead.len ?_
  rintro ds m Q E ⟨k, z, rfl, ok, hq⟩
  refine dss_cons (ds_set 2 rfl (.inl rfl) ?_)
  refine de_bin od_mul ?_
  refine de_var 1 rfl (.inl rfl) rfl ?_
  refine de_dgetV ?_
  refine de_var 0 rfl (.inl rfl) rfl ?_
  refine de_str ?_
  refine ⟨_, _, .inr "common", _, rfl, by walk_at "dv", rfl, ?_⟩
  refine mul_ii (.inr (by have := ok.c2; have := ok.c1; omega)) ?_
  rw [Sz.ahead_0]
  refine dss_cons (ds_for ?_)
  refine di_lst ?_
  refine de_call kn__law_z_odd rfl rfl ?_
  refine da_cons ?_
  refine de_var 0 rfl (.inl rfl) rfl ?_
  refine da_nil ?_
  refine ⟨z, rfl, ok, ?_⟩
  refine ⟨_, rfl, ?_⟩
  refine ⟨fun i δ' m' => ∃ x3, δ' = [some (zD z), some (.int k), some (.int (z.aheadTo k i)), x3] ∧ m = m', ?_, ?_, ?_⟩
  · exact ⟨_, rfl, rfl⟩
  · rintro i d δ' m' hi ⟨x3, rfl, rfl⟩
    obtain ⟨j, hj, rfl, hj3⟩ := odd_get hi
    refine dg_name 3 rfl (.inl rfl) ?_
    refine dss_cons (ds_if ?_)
    refine dt_cmp od_lt ?_
    refine de_var 3 rfl (.inl rfl) rfl ?_
    refine de_var 1 rfl (.inl rfl) rfl ?_
    walk_at "op"
    refine tb ?_
    refine br.any (fun h199 => ?_) (fun h199 => ?_)
    · (try simp only [decide_eq_true_eq, decide_eq_false_iff_not, Bool.and_eq_true, Bool.or_eq_true, Bool.not_eq_true', Bool.and_eq_false_iff, Bool.or_eq_false_iff, Bool.not_eq_false', Bool.not_eq_true, Bool.not_eq_false, Int.not_lt, Int.not_le] at h199)
      have hx := h199
      refine dss_cons (ds_set 2 rfl (.inl rfl) ?_)
      refine de_bin od_sub ?_
      refine de_bin od_add ?_
      refine de_var 2 rfl (.inl rfl) rfl ?_
      refine de_call kn__law_z_size rfl rfl ?_
      refine da_cons ?_
      refine de_var 0 rfl (.inl rfl) rfl ?_
      refine da_cons ?_
      refine de_var 3 rfl (.inl rfl) rfl ?_
      refine da_nil ?_
      refine ⟨_, z, rfl, ?_⟩
      walk_at "op"
      refine de_dgetV ?_
      refine de_var 0 rfl (.inl rfl) rfl ?_
      refine de_str ?_
      refine ⟨_, _, .inr "common", _, rfl, by walk_at "dv", rfl, ?_⟩
      walk_at "op"
      refine dss_nil ?_
      refine dss_nil ?_
      first | exact ⟨_, by rw [Sz.ahead_y hj hx]; rfl, rfl⟩ | exact ⟨_, by rw [← Sz.ahead_n hj (Int.not_lt.mpr hx)]; rfl, rfl⟩
    · (try simp only [decide_eq_true_eq, decide_eq_false_iff_not, Bool.and_eq_true, Bool.or_eq_true, Bool.not_eq_true', Bool.and_eq_false_iff, Bool.or_eq_false_iff, Bool.not_eq_false', Bool.not_eq_true, Bool.not_eq_false, Int.not_lt, Int.not_le] at h199)
      have hx := h199
      refine dss_nil ?_
      refine dss_nil ?_
      first | exact ⟨_, by rw [Sz.ahead_y hj hx]; rfl, rfl⟩ | exact ⟨_, by rw [← Sz.ahead_n hj (Int.not_lt.mpr hx)]; rfl, rfl⟩
  · rintro δ' m' ⟨x3, rfl, rfl⟩
    rw [show (z.odd.map G.D.int).length = z.odd.length from List.length_map .., Sz.ahead_all]
    refine dss_cons (ds_ret ?_)
    refine de_var 2 rfl (.inl rfl) rfl ?_
    exact hq

abbrev s__law_z_with : Stmt := topS 19
theorem sc__law_z_with : FnScope ["_law_z_here", "_law_k", "_law_size", "_law_hidden", "_law_made"] ["_law_z_here", "_law_k", "_law_size", "_law_hidden"] (defScope s__law_z_with) := ⟨rfl, rfl, rfl, by decide +kernel, rfl, by decide +kernel, by decide +kernel⟩
set_option maxHeartbeats 4000000 in
theorem kn__law_z_with {f : Addr} {fd : FuncData} (Fn : FnP K "_law_z_with" s__law_z_with f fd) (g : mg "_law_z_with" = some (.ref f)) (m_dict : mg "dict" = none)  : Kn P w K mg base "_law_z_with" 1 (FZWith) := by
  have b : Binds K fd ["_law_z_here", "_law_k", "_law_size", "_law_hidden"] [] := FunD.bindsN Fn fun _ _ _ _ _ _ us hl => match us, hl with | [_, _, _, _], _ => rfl
  refine ⟨f, fd, ["_law_z_here", "_law_k", "_law_size", "_law_hidden"], ?_, g, Fn.kp, b⟩
  refine def_ok (N := ["_law_z_here", "_law_k", "_law_size", "_law_hidden", "_law_made"]) Fn sc__law_z_with FZWith.len ?_
  rintro ds m Q E ⟨k, s, b, z, rfl, ok, hq⟩
  refine dss_cons (ds_set 4 rfl (.inl rfl) ?_)
  refine de_callTy cd_dictCV rfl m_dict bt_dict ?_
  refine da_cons ?_
  refine de_var 0 rfl (.inl rfl) rfl ?_
  refine da_nil ?_
  refine ⟨_, _, _, rfl, .inr rfl, fun p hp => ?_⟩
  refine dss_cons (ds_dput ?_)
  refine de_callTy cd_dictCV rfl m_dict bt_dict ?_
  refine da_cons ?_
  refine de_dgetV ?_
  refine de_var 0 rfl (.inl rfl) rfl ?_
  refine de_str ?_
  refine ⟨_, _, .inr "own", _, rfl, by walk_at "dv", rfl, ?_⟩
  refine da_nil ?_
  refine ⟨_, _, _, rfl, .inr rfl, fun b1 hb1 => ?_⟩
  have hne1 := sne sput_same hb1
  have hb1n := new_put hb1
  refine de_var 4 rfl (.inl rfl) rfl ?_
  refine de_str ?_
  refine ⟨_, _, _, .inr "own", rfl, rfl, by walk_at "st", by walk_at "dsz", ?_⟩
  rw [put_own]
  refine dss_cons (ds_dput ?_)
  refine de_callTy cd_dictCV rfl m_dict bt_dict ?_
  refine da_cons ?_
  refine de_dgetV ?_
  refine de_var 0 rfl (.inl rfl) rfl ?_
  refine de_str ?_
  refine ⟨_, _, .inr "gone", _, rfl, by walk_at "dv", rfl, ?_⟩
  refine da_nil ?_
  refine ⟨_, _, _, rfl, .inr rfl, fun b2 hb2 => ?_⟩
  have hne2 := sne sput_same hb2
  have hne3 : b1 ≠ b2 := sne ((sput_ne (Ne.symm hne1)).trans sput_same) hb2
  have hb2n := new_put (new_put (new_put hb2))
  refine de_var 4 rfl (.inl rfl) rfl ?_
  refine de_str ?_
  refine ⟨_, _, _, .inr "gone", rfl, rfl, by walk_at "st", by walk_at "dsz", ?_⟩
  rw [put_gone]
  refine dss_cons (ds_expr ?_)
  refine de_dpopN ?_
  refine de_dgetV ?_
  refine de_var 4 rfl (.inl rfl) rfl ?_
  refine de_str ?_
  refine ⟨_, _, .inr "own", _, rfl, by walk_at "dv", rfl, ?_⟩
  refine ⟨_, _, _, rfl, by walk_at "st", ?_⟩
  refine de_var 1 rfl (.inl rfl) rfl ?_
  refine de_non ?_
  refine ⟨_, _, .inl _, rfl, by walk_at "st", by walk_at "dlen", fun _ => ?_⟩
  rw [drop_keysV, drop_valsV]
  refine dss_cons (ds_expr ?_)
  refine de_dpopN ?_
  refine de_dgetV ?_
  refine de_var 4 rfl (.inl rfl) rfl ?_
  refine de_str ?_
  refine ⟨_, _, .inr "gone", _, rfl, by walk_at "dv", rfl, ?_⟩
  refine ⟨_, _, _, rfl, by walk_at "st", ?_⟩
  refine de_var 1 rfl (.inl rfl) rfl ?_
  refine de_non ?_
  refine ⟨_, _, .inl _, rfl, by walk_at "st", by walk_at "dlen", fun _ => ?_⟩
  rw [drop_keysN, drop_valsN]
  refine dss_cons (ds_if ?_)
  refine dt_cmp od_neF ?_
  refine de_var 2 rfl (.inl rfl) rfl ?_
  refine de_dgetV ?_
  refine de_var 0 rfl (.inl rfl) rfl ?_
  refine de_str ?_
  refine ⟨_, _, .inr "common", _, rfl, by walk_at "dv", rfl, ?_⟩
  refine ne_ii ?_
  refine tb ?_
  refine br.any (fun h200 => ?_) (fun h200 => ?_)
  · (try simp only [decide_eq_true_eq, decide_eq_false_iff_not, Bool.and_eq_true, Bool.or_eq_true, Bool.not_eq_true', Bool.and_eq_false_iff, Bool.or_eq_false_iff, Bool.not_eq_false', Bool.not_eq_true, Bool.not_eq_false, Int.not_lt, Int.not_le] at h200)
    have hs := h200
    refine dss_cons (ds_dput ?_)
    refine de_var 2 rfl (.inl rfl) rfl ?_
    refine de_dgetV ?_
    refine de_var 4 rfl (.inl rfl) rfl ?_
    refine de_str ?_
    refine ⟨_, _, .inr "own", _, rfl, by walk_at "dv", rfl, ?_⟩
    refine de_var 1 rfl (.inl rfl) rfl ?_
    refine ⟨_, _, _, .inl _, rfl, rfl, by walk_at "st", by walk_at "dsz", ?_⟩
    rw [put_keysV (s := s), put_valsV]
    refine dss_nil ?_
    refine dss_cons (ds_if ?_)
    refine dt_val ?_
    refine de_var 3 rfl (.inl rfl) rfl ?_
    refine tb ?_
    refine br.any (fun h201 => ?_) (fun h201 => ?_)
    · (try simp only [decide_eq_true_eq, decide_eq_false_iff_not, Bool.and_eq_true, Bool.or_eq_true, Bool.not_eq_true', Bool.and_eq_false_iff, Bool.or_eq_false_iff, Bool.not_eq_false', Bool.not_eq_true, Bool.not_eq_false, Int.not_lt, Int.not_le] at h201)
      have hb := h201
      refine dss_cons (ds_dput ?_)
      refine de_bl ?_
      refine de_dgetV ?_
      refine de_var 4 rfl (.inl rfl) rfl ?_
      refine de_str ?_
      refine ⟨_, _, .inr "gone", _, rfl, by walk_at "dv", rfl, ?_⟩
      refine de_var 1 rfl (.inl rfl) rfl ?_
      refine ⟨_, _, _, .inl _, rfl, rfl, by walk_at "st", by walk_at "dsz", ?_⟩
      rw [put_keysN, put_valsN]
      refine dss_nil ?_
      refine dss_frzIn p 2 (p := b1) (by walk_at "st") rfl (by walk_at "st") hne1 ?_
      refine dss_frzIn p 3 (p := b2) (by walk_at "st") rfl (by walk_at "st") hne2 ?_
      refine dss_frzD 4 (p := p) rfl (by walk_at "st") ?_
      refine dss_cons (ds_ret ?_)
      refine de_var 4 rfl (.inl rfl) rfl ?_
      refine q_sto hq ?_ ?_
      · funext x
        by_cases e0 : x = p
        · subst e0; simp [sdel, hp]
        · by_cases e1 : x = b1
          · subst e1; simp [sdel, sput, e0, hne3, hb1n]
          · by_cases e2 : x = b2
            · subst e2; simp [sdel, sput, e0, hb2n]
            · simp [sdel, sput, e0, e1, e2]
      · unfold zD Sz.withK
        first | rw [if_pos hs] | rw [if_neg hs]
        first | (rw [if_pos hb]; rfl) | (rw [if_neg (by rw [hb]; exact Bool.false_ne_true)]; rfl)
    · (try simp only [decide_eq_true_eq, decide_eq_false_iff_not, Bool.and_eq_true, Bool.or_eq_true, Bool.not_eq_true', Bool.and_eq_false_iff, Bool.or_eq_false_iff, Bool.not_eq_false', Bool.not_eq_true, Bool.not_eq_false, Int.not_lt, Int.not_le] at h201)
      have hb := h201
      refine dss_nil ?_
      refine dss_frzIn p 2 (p := b1) (by walk_at "st") rfl (by walk_at "st") hne1 ?_
      refine dss_frzIn p 3 (p := b2) (by walk_at "st") rfl (by walk_at "st") hne2 ?_
      refine dss_frzD 4 (p := p) rfl (by walk_at "st") ?_
      refine dss_cons (ds_ret ?_)
      refine de_var 4 rfl (.inl rfl) rfl ?_
      refine q_sto hq ?_ ?_
      · funext x
        by_cases e0 : x = p
        · subst e0; simp [sdel, hp]
        · by_cases e1 : x = b1
          · subst e1; simp [sdel, sput, e0, hne3, hb1n]
          · by_cases e2 : x = b2
            · subst e2; simp [sdel, sput, e0, hb2n]
            · simp [sdel, sput, e0, e1, e2]
      · unfold zD Sz.withK
        first | rw [if_pos hs] | rw [if_neg hs]
        first | (rw [if_pos hb]; rfl) | (rw [if_neg (by rw [hb]; exact Bool.false_ne_true)]; rfl)
  · (try simp only [decide_eq_true_eq, decide_eq_false_iff_not, Bool.and_eq_true, Bool.or_eq_true, Bool.not_eq_true', Bool.and_eq_false_iff, Bool.or_eq_false_iff, Bool.not_eq_false', Bool.not_eq_true, Bool.not_eq_false, Int.not_lt, Int.not_le] at h200)
    have hs := h200
    refine dss_nil ?_
    refine dss_cons (ds_if ?_)
    refine dt_val ?_
    refine de_var 3 rfl (.inl rfl) rfl ?_
    refine tb ?_
    refine br.any (fun h202 => ?_) (fun h202 => ?_)
    · (try simp only [decide_eq_true_eq, decide_eq_false_iff_not, Bool.and_eq_true, Bool.or_eq_true, Bool.not_eq_true', Bool.and_eq_false_iff, Bool.or_eq_false_iff, Bool.not_eq_false', Bool.not_eq_true, Bool.not_eq_false, Int.not_lt, Int.not_le] at h202)
      have hb := h202
      refine dss_cons (ds_dput ?_)
      refine de_bl ?_
      refine de_dgetV ?_
      refine de_var 4 rfl (.inl rfl) rfl ?_
      refine de_str ?_
      refine ⟨_, _, .inr "gone", _, rfl, by walk_at "dv", rfl, ?_⟩
      refine de_var 1 rfl (.inl rfl) rfl ?_
      refine ⟨_, _, _, .inl _, rfl, rfl, by walk_at "st", by walk_at "dsz", ?_⟩
      rw [put_keysN, put_valsN]
      refine dss_nil ?_
      refine dss_frzIn p 2 (p := b1) (by walk_at "st") rfl (by walk_at "st") hne1 ?_
      refine dss_frzIn p 3 (p := b2) (by walk_at "st") rfl (by walk_at "st") hne2 ?_
      refine dss_frzD 4 (p := p) rfl (by walk_at "st") ?_
      refine dss_cons (ds_ret ?_)
      refine de_var 4 rfl (.inl rfl) rfl ?_
      refine q_sto hq ?_ ?_
      · funext x
        by_cases e0 : x = p
        · subst e0; simp [sdel, hp]
        · by_cases e1 : x = b1
          · subst e1; simp [sdel, sput, e0, hne3, hb1n]
          · by_cases e2 : x = b2
            · subst e2; simp [sdel, sput, e0, hb2n]
            · simp [sdel, sput, e0, e1, e2]
      · unfold zD Sz.withK
        first | rw [if_pos hs] | rw [if_neg hs]
        first | (rw [if_pos hb]; rfl) | (rw [if_neg (by rw [hb]; exact Bool.false_ne_true)]; rfl)
    · (try simp only [decide_eq_true_eq, decide_eq_false_iff_not, Bool.and_eq_true, Bool.or_eq_true, Bool.not_eq_true', Bool.and_eq_false_iff, Bool.or_eq_false_iff, Bool.not_eq_false', Bool.not_eq_true, Bool.not_eq_false, Int.not_lt, Int.not_le] at h202)
      have hb := h202
      refine dss_nil ?_
      refine dss_frzIn p 2 (p := b1) (by walk_at "st") rfl (by walk_at "st") hne1 ?_
      refine dss_frzIn p 3 (p := b2) (by walk_at "st") rfl (by walk_at "st") hne2 ?_
      refine dss_frzD 4 (p := p) rfl (by walk_at "st") ?_
      refine dss_cons (ds_ret ?_)
      refine de_var 4 rfl (.inl rfl) rfl ?_
      refine q_sto hq ?_ ?_
      · funext x
        by_cases e0 : x = p
        · subst e0; simp [sdel, hp]
        · by_cases e1 : x = b1
          · subst e1; simp [sdel, sput, e0, hne3, hb1n]
          · by_cases e2 : x = b2
            · subst e2; simp [sdel, sput, e0, hb2n]
            · simp [sdel, sput, e0, e1, e2]
      · unfold zD Sz.withK
        first | rw [if_pos hs] | rw [if_neg hs]
        first | (rw [if_pos hb]; rfl) | (rw [if_neg (by rw [hb]; exact Bool.false_ne_true)]; rfl)

abbrev s__law_z_set : Stmt := topS 20
theorem sc__law_z_set : FnScope ["_law_z_here", "_law_k", "_law_size"] ["_law_z_here", "_law_k", "_law_size"] (defScope s__law_z_set) := ⟨rfl, rfl, rfl, by decide +kernel, rfl, by decide +kernel, by decide +kernel⟩
set_option maxHeartbeats 4000000 in
theorem kn__law_z_set {f : Addr} {fd : FuncData} (Fn : FnP K "_law_z_set" s__law_z_set f fd) (g : mg "_law_z_set" = some (.ref f))  (kn__law_z_with : Kn P w K mg base "_law_z_with" 1 (FZWith)) : Kn P w K mg base "_law_z_set" 2 (FZSet) := by
  have b : Binds K fd ["_law_z_here", "_law_k", "_law_size"] [] := FunD.bindsN Fn fun _ _ _ _ _ _ us hl => match us, hl with | [_, _, _], _ => rfl
  refine ⟨f, fd, ["_law_z_here", "_law_k", "_law_size"], ?_, g, Fn.kp, b⟩
  refine def_ok (N := ["_law_z_here", "_law_k", "_law_size"]) Fn sc__law_z_set FZSet.len ?_
  rintro ds m Q E ⟨k, s, z, rfl, ok, hq⟩
  refine dss_cons (ds_ret ?_)
  refine de_call kn__law_z_with rfl rfl ?_
  refine da_cons ?_
  refine de_var 0 rfl (.inl rfl) rfl ?_
  refine da_cons ?_
  refine de_var 1 rfl (.inl rfl) rfl ?_
  refine da_cons ?_
  refine de_var 2 rfl (.inl rfl) rfl ?_
  refine da_cons ?_
  refine de_dinV ?_
  refine de_var 1 rfl (.inl rfl) rfl ?_
  refine de_dgetV ?_
  refine de_var 0 rfl (.inl rfl) rfl ?_
  refine de_str ?_
  refine ⟨_, _, .inr "gone", _, rfl, by walk_at "dv", rfl, ?_⟩
  refine ⟨_, _, .inl _, rfl, .inr rfl, ?_⟩
  rw [val_gone]
  refine da_nil ?_
  refine ⟨_, _, _, z, rfl, ok, ?_⟩
  exact hq

abbrev s__law_z_hide : Stmt := topS 21
theorem sc__law_z_hide : FnScope ["_law_z_here", "_law_k", "_law_hidden"] ["_law_z_here", "_law_k", "_law_hidden"] (defScope s__law_z_hide) := ⟨rfl, rfl, rfl, by decide +kernel, rfl, by decide +kernel, by decide +kernel⟩
set_option maxHeartbeats 4000000 in
theorem kn__law_z_hide {f : Addr} {fd : FuncData} (Fn : FnP K "_law_z_hide" s__law_z_hide f fd) (g : mg "_law_z_hide" = some (.ref f))  (kn__law_z_with : Kn P w K mg base "_law_z_with" 1 (FZWith)) : Kn P w K mg base "_law_z_hide" 2 (FZHide) := by
  have b : Binds K fd ["_law_z_here", "_law_k", "_law_hidden"] [] := FunD.bindsN Fn fun _ _ _ _ _ _ us hl => match us, hl with | [_, _, _], _ => rfl
  refine ⟨f, fd, ["_law_z_here", "_law_k", "_law_hidden"], ?_, g, Fn.kp, b⟩
  refine def_ok (N := ["_law_z_here", "_law_k", "_law_hidden"]) Fn sc__law_z_hide FZHide.len ?_
  rintro ds m Q E ⟨k, b, z, rfl, ok, hq⟩
  refine dss_cons (ds_ret ?_)
  refine de_call kn__law_z_with rfl rfl ?_
  refine da_cons ?_
  refine de_var 0 rfl (.inl rfl) rfl ?_
  refine da_cons ?_
  refine de_var 1 rfl (.inl rfl) rfl ?_
  refine da_cons ?_
  refine de_dget2V ?_
  refine de_dgetV ?_
  refine de_var 0 rfl (.inl rfl) rfl ?_
  refine de_str ?_
  refine ⟨_, _, .inr "own", _, rfl, by walk_at "dv", rfl, ?_⟩
  refine ⟨⟨_, _, by walk_at "dv"⟩, ?_⟩
  refine de_var 1 rfl (.inl rfl) rfl ?_
  refine de_dgetV ?_
  refine de_var 0 rfl (.inl rfl) rfl ?_
  refine de_str ?_
  refine ⟨_, _, .inr "common", _, rfl, by walk_at "dv", rfl, ?_⟩
  refine ⟨_, _, .inl _, rfl, .inr rfl, ?_⟩
  rw [val_own]
  refine da_cons ?_
  refine de_var 2 rfl (.inl rfl) rfl ?_
  refine da_nil ?_
  refine ⟨_, _, _, z, rfl, ok, ?_⟩
  exact hq

set_option maxHeartbeats 4000000 in
theorem kn__law_z_M {f : Addr} {fd : FuncData} (Fn : FnP K "_law_z" s__law_z f fd) (g : mg "_law_z" = some (.ref f))   : Kn P w K mg base "_law_z" 1 (FZM) := by
  have b : Binds K fd ["_law_many", "_law_usual"] [] := FunD.bindsN Fn fun _ _ _ _ _ _ us hl => match us, hl with | [_, _], _ => rfl
  refine ⟨f, fd, ["_law_many", "_law_usual"], ?_, g, Fn.kp, b⟩
  refine def_ok (N := ["_law_many", "_law_usual"]) Fn sc__law_z FZM.len ?_
  rintro ds m Q E ⟨n, c, rfl, hq⟩
  refine dss_cons (ds_ret ?_)
  refine de_disp (xs := ["many", "common", "own", "gone"]) (by repeat constructor) rfl (by decide) (List.cons_ne_nil _ _) rfl rfl (by decide) ?_
  intro p hp
  refine dvs_cons ?_
  refine de_var 0 rfl (.inl rfl) rfl ?_
  refine dvs_cons ?_
  refine de_var 1 rfl (.inl rfl) rfl ?_
  refine dvs_cons ?_
  refine de_dict0 ?_
  intro b1 hb1
  have hne1 := sne sput_same hb1
  refine dvs_cons ?_
  refine de_dict0 ?_
  intro b2 hb2
  have hne2 := sne ((sput_ne hne1).trans sput_same) hb2
  have hne3 := sne sput_same hb2
  refine dvs_nil ?_
  refine ⟨(sput_ne hne2).trans ((sput_ne hne1).trans sput_same), ?_⟩
  obtain ⟨se, sb1, sb2⟩ := FZM_of (n := n) (c := c) hp hb1 hb2
  have q := hq p b1 b2 hp sb1 sb2 hne1 hne2 hne3
  rw [← se] at q
  exact q

abbrev s__law_go_on : Stmt := topS 23
theorem sc__law_go_on : FnScope ["_law_way", "_law_at", "_law_many", "_law_k"] ["_law_way", "_law_at", "_law_many", "_law_k"] (defScope s__law_go_on) := ⟨rfl, rfl, rfl, by decide +kernel, rfl, by decide +kernel, by decide +kernel⟩
set_option maxHeartbeats 4000000 in
theorem kn__law_go_on {f : Addr} {fd : FuncData} (Fn : FnP K "_law_go_on" s__law_go_on f fd) (g : mg "_law_go_on" = some (.ref f)) (m_int : mg "int" = none)  : Kn P w K mg base "_law_go_on" 1 (FGoOn) := by
  have b : Binds K fd ["_law_way", "_law_at", "_law_many", "_law_k"] [] := FunD.bindsN Fn fun _ _ _ _ _ _ us hl => match us, hl with | [_, _, _, _], _ => rfl
  refine ⟨f, fd, ["_law_way", "_law_at", "_law_many", "_law_k"], ?_, g, Fn.kp, b⟩
  refine def_ok (N := ["_law_way", "_law_at", "_law_many", "_law_k"]) Fn sc__law_go_on FGoOn.len ?_
  rintro ds m Q E ⟨put, a, b, k, rfl, hq⟩
  refine dss_cons (ds_if ?_)
  refine dt_cmp od_eqF ?_
  refine de_var 0 rfl (.inl rfl) rfl ?_
  refine de_str ?_
  refine eq_ss ?_
  rw [wayS_put]
  refine tb ?_
  refine br.any (fun h203 => ?_) (fun h203 => ?_)
  · (try simp only [decide_eq_true_eq, decide_eq_false_iff_not, Bool.and_eq_true, Bool.or_eq_true, Bool.not_eq_true', Bool.and_eq_false_iff, Bool.or_eq_false_iff, Bool.not_eq_false', Bool.not_eq_true, Bool.not_eq_false, Int.not_lt, Int.not_le] at h203)
    have hw := h203
    refine dss_cons (ds_ret ?_)
    refine de_bin od_add ?_
    refine de_var 3 rfl (.inl rfl) rfl ?_
    refine de_bin od_mul ?_
    refine de_var 2 rfl (.inl rfl) rfl ?_
    refine de_callTy cd_int rfl m_int bt_int ?_
    refine da_cons ?_
    refine de_cmp od_ge ?_
    refine de_var 3 rfl (.inl rfl) rfl ?_
    refine de_var 1 rfl (.inl rfl) rfl ?_
    walk_at "op"
    refine da_nil ?_
    refine int_b ?_
    refine mul_ii (.inr (by split <;> omega)) ?_
    walk_at "op"
    first
    | (subst hw; simp only [goOn, if_true] at hq; simpa [optI] using hq)
    | (subst hw; unfold goOn at hq; rw [if_neg Bool.false_ne_true, if_pos hx] at hq; exact hq)
    | (subst hw; unfold goOn at hq; rw [if_neg Bool.false_ne_true, if_neg (by omega)] at hq; simpa [optI] using hq)
  · (try simp only [decide_eq_true_eq, decide_eq_false_iff_not, Bool.and_eq_true, Bool.or_eq_true, Bool.not_eq_true', Bool.and_eq_false_iff, Bool.or_eq_false_iff, Bool.not_eq_false', Bool.not_eq_true, Bool.not_eq_false, Int.not_lt, Int.not_le] at h203)
    have hw := h203
    refine dss_nil ?_
    refine dss_cons (ds_ret ?_)
    refine de_if ?_
    refine dt_chainI (l := ?l204) od_le od_lt ?c207
    case c207 =>
      refine de_var 1 rfl (.inl rfl) rfl ?_
      refine de_var 3 rfl (.inl rfl) rfl ?_
      refine ⟨_, _, rfl, rfl, fun W Q q => ?a205, ?b206⟩
      case a205 =>
        refine de_bin od_add ?_
        refine de_var 1 rfl (.inl rfl) rfl ?_
        refine de_var 2 rfl (.inl rfl) rfl ?_
        walk_at "op"
        exact q
      case b206 =>
        refine br.any (fun h208 => ?_) (fun h208 => ?_)
        · (try simp only [decide_eq_true_eq, decide_eq_false_iff_not, Bool.and_eq_true, Bool.or_eq_true, Bool.not_eq_true', Bool.and_eq_false_iff, Bool.or_eq_false_iff, Bool.not_eq_false', Bool.not_eq_true, Bool.not_eq_false, Int.not_lt, Int.not_le] at h208)
          have hx := h208
          refine de_non ?_
          first
          | (subst hw; simp only [goOn, if_true] at hq; simpa [optI] using hq)
          | (subst hw; unfold goOn at hq; rw [if_neg Bool.false_ne_true, if_pos hx] at hq; exact hq)
          | (subst hw; unfold goOn at hq; rw [if_neg Bool.false_ne_true, if_neg (by omega)] at hq; simpa [optI] using hq)
        · (try simp only [decide_eq_true_eq, decide_eq_false_iff_not, Bool.and_eq_true, Bool.or_eq_true, Bool.not_eq_true', Bool.and_eq_false_iff, Bool.or_eq_false_iff, Bool.not_eq_false', Bool.not_eq_true, Bool.not_eq_false, Int.not_lt, Int.not_le] at h208)
          have hx := h208
          refine de_bin od_sub ?_
          refine de_var 3 rfl (.inl rfl) rfl ?_
          refine de_bin od_mul ?_
          refine de_var 2 rfl (.inl rfl) rfl ?_
          refine de_callTy cd_int rfl m_int bt_int ?_
          refine da_cons ?_
          refine de_cmp od_ge ?_
          refine de_var 3 rfl (.inl rfl) rfl ?_
          refine de_var 1 rfl (.inl rfl) rfl ?_
          walk_at "op"
          refine da_nil ?_
          refine int_b ?_
          refine mul_ii (.inr (by split <;> omega)) ?_
          walk_at "op"
          first
          | (subst hw; simp only [goOn, if_true] at hq; simpa [optI] using hq)
          | (subst hw; unfold goOn at hq; rw [if_neg Bool.false_ne_true, if_pos hx] at hq; exact hq)
          | (subst hw; unfold goOn at hq; rw [if_neg Bool.false_ne_true, if_neg (by omega)] at hq; simpa [optI] using hq)

abbrev s__law_z_on : Stmt := topS 24
theorem sc__law_z_on : FnScope ["_law_z_here", "_law_way", "_law_at", "_law_many", "_law_made", "_law_word", "_law_k"] ["_law_z_here", "_law_way", "_law_at", "_law_many"] (defScope s__law_z_on) := ⟨rfl, rfl, rfl, by decide +kernel, rfl, by decide +kernel, by decide +kernel⟩
set_option maxHeartbeats 4000000 in
theorem kn__law_z_on {f : Addr} {fd : FuncData} (Fn : FnP K "_law_z_on" s__law_z_on f fd) (g : mg "_law_z_on" = some (.ref f))  (kn__law_z_M : Kn P w K mg base "_law_z" 1 (FZM)) (kn__law_go_on : Kn P w K mg base "_law_go_on" 1 (FGoOn)) : Kn P w K mg base "_law_z_on" 2 (FZOn) := by
  have b : Binds K fd ["_law_z_here", "_law_way", "_law_at", "_law_many"] [] := FunD.bindsN Fn fun _ _ _ _ _ _ us hl => match us, hl with | [_, _, _, _], _ => rfl
  refine ⟨f, fd, ["_law_z_here", "_law_way", "_law_at", "_law_many"], ?_, g, Fn.kp, b⟩
  refine def_ok (N := ["_law_z_here", "_law_way", "_law_at", "_law_many", "_law_made", "_law_word", "_law_k"]) Fn sc__law_z_on FZOn.len ?_
  rintro ds m Q E ⟨put, a, b, z, rfl, ok, hb, hq⟩
  refine dss_cons (ds_set 4 rfl (.inl rfl) ?_)
  refine de_call kn__law_z_M rfl rfl ?_
  refine da_cons ?_
  refine de_bin od_add ?_
  refine de_dgetV ?_
  refine de_var 0 rfl (.inl rfl) rfl ?_
  refine de_str ?_
  refine ⟨_, _, .inr "many", _, rfl, by walk_at "dv", rfl, ?_⟩
  refine de_if ?_
  refine dt_cmp od_eqF ?_
  refine de_var 1 rfl (.inl rfl) rfl ?_
  refine de_str ?_
  refine eq_ss ?_
  rw [wayS_put]
  refine tb ?_
  refine br.any (fun h209 => ?_) (fun h209 => ?_)
  · (try simp only [decide_eq_true_eq, decide_eq_false_iff_not, Bool.and_eq_true, Bool.or_eq_true, Bool.not_eq_true', Bool.and_eq_false_iff, Bool.or_eq_false_iff, Bool.not_eq_false', Bool.not_eq_true, Bool.not_eq_false, Int.not_lt, Int.not_le] at h209)
    have hw := h209
    refine de_var 3 rfl (.inl rfl) rfl ?_
    walk_at "op"
    refine da_cons ?_
    refine de_dgetV ?_
    refine de_var 0 rfl (.inl rfl) rfl ?_
    refine de_str ?_
    refine ⟨_, _, .inr "common", _, rfl, by walk_at "dv", rfl, ?_⟩
    refine da_nil ?_
    refine ⟨(z.n + (if put = true then b else 0 - b)), z.c, (by first | rw [if_pos hw] | rw [if_neg (by rw [hw]; exact Bool.false_ne_true)]), fun p b1 b2 hp hb1 hb2 n1 n2 n12 => ?_⟩
    refine dss_cons (ds_for ?_)
    refine di_tup ?_
    refine de_tup ?_
    refine da_cons ?_
    refine de_str ?_
    refine da_cons ?_
    refine de_str ?_
    refine da_nil ?_
    refine ⟨sz_lit rfl, ?_⟩
    refine ⟨_, rfl, ?_⟩
    refine ⟨fun i δ' m' => ∃ x5 x6, δ' = [some (zD z), some (.str (wayS put)), some (.int a), some (.int b), some (.ref p), x5, x6] ∧ m' = stW m p b1 b2 (z.n + (if put = true then b else 0 - b)) z.c (Lt_ put a b z i), ?_, ?_, ?_⟩
    · exact ⟨_, _, rfl, rfl⟩
    · rintro i d δ' m' hi ⟨x5, x6, rfl, rfl⟩
      obtain ⟨hi2, rfl⟩ := word_get hi
      refine dg_name 5 rfl (.inl rfl) ?_
      refine dss_cons (ds_for ?_)
      refine di_keysV ?_
      refine de_dgetV ?_
      refine de_var 0 rfl (.inl rfl) rfl ?_
      refine de_var 5 rfl (.inl rfl) rfl ?_
      refine ⟨_, _, .inr _, _, rfl, .inr rfl, zD_word hi2, ?_⟩
      refine ⟨_, _, rfl, ?_⟩
      refine ⟨fun j δ' m' => ∃ x6, δ' = [some (zD z), some (.str (wayS put)), some (.int a), some (.int b), some (.ref p), some (.str (wordW i)), x6] ∧ m' = stW m p b1 b2 (z.n + (if put = true then b else 0 - b)) z.c (upL (Lt_ put a b z i) i (onP put a b ((pzW z i).take j))), ?_, ?_, ?_⟩
      · exact ⟨_, rfl, by rw [up_0]⟩
      · rintro j d δ' m' hjd ⟨x6, rfl, rfl⟩
        obtain ⟨q, hj, rfl⟩ := pz_get hjd
        refine dg_name 6 rfl (.inl rfl) ?_
        refine dss_cons (ds_if ?_)
        refine dt_cmp od_isnt ?_
        refine de_call kn__law_go_on rfl rfl ?_
        refine da_cons ?_
        refine de_var 1 rfl (.inl rfl) rfl ?_
        refine da_cons ?_
        refine de_var 2 rfl (.inl rfl) rfl ?_
        refine da_cons ?_
        refine de_var 3 rfl (.inl rfl) rfl ?_
        refine da_cons ?_
        refine de_var 6 rfl (.inl rfl) rfl ?_
        refine da_nil ?_
        refine ⟨put, _, _, _, rfl, ?_⟩
        refine de_non ?_
        refine isnt_n ?_
        rw [isN_opt]
        refine tb ?_
        refine br.any (fun h210 => ?_) (fun h210 => ?_)
        · (try simp only [decide_eq_true_eq, decide_eq_false_iff_not, Bool.and_eq_true, Bool.or_eq_true, Bool.not_eq_true', Bool.and_eq_false_iff, Bool.or_eq_false_iff, Bool.not_eq_false', Bool.not_eq_true, Bool.not_eq_false, Int.not_lt, Int.not_le] at h210)
          obtain ⟨k2, hgk⟩ : ∃ k2, goOn put a b q.1 = some k2 := by cases e : goOn put a b q.1 with | none => (rw [e] at h210; cases h210) | some k2 => exact ⟨k2, rfl⟩
          refine dss_cons (ds_dput ?_)
          refine de_dgetV ?_
          refine de_dgetV ?_
          refine de_var 0 rfl (.inl rfl) rfl ?_
          refine de_var 5 rfl (.inl rfl) rfl ?_
          refine ⟨_, _, .inr _, _, rfl, .inr rfl, zD_word hi2, ?_⟩
          refine de_var 6 rfl (.inl rfl) rfl ?_
          refine ⟨_, _, .inl _, _, rfl, .inr rfl, valP (pzW_nd ok i) (List.mem_of_getElem? hj : q ∈ pzW z i), ?_⟩
          refine de_dgetV ?_
          refine de_var 4 rfl (.inl rfl) rfl ?_
          refine de_var 5 rfl (.inl rfl) rfl ?_
          refine ⟨_, _, .inr _, _, rfl, .inl ⟨_, rfl, .inl sto3_p⟩, zM_word hi2, ?_⟩
          refine de_call kn__law_go_on rfl rfl ?_
          refine da_cons ?_
          refine de_var 1 rfl (.inl rfl) rfl ?_
          refine da_cons ?_
          refine de_var 2 rfl (.inl rfl) rfl ?_
          refine da_cons ?_
          refine de_var 3 rfl (.inl rfl) rfl ?_
          refine da_cons ?_
          refine de_var 6 rfl (.inl rfl) rfl ?_
          refine da_nil ?_
          refine ⟨put, _, _, _, rfl, ?_⟩
          rw [hgk]
          refine ⟨_, _, _, .inl _, rfl, rfl, stW_at hi2 n1 n2 n12, by rw [upL_i]; exact onP_few ok j, ?_⟩
          obtain ⟨o1, o2⟩ := onP_some (pzW_nd ok i) hb hj hgk
          obtain ⟨u1, u2⟩ := put_new (d := q.2) o2
          rw [upL_i, u1, u2, stW_put hi2 n1 n2 n12, upL_up, ← o1]
          refine dss_nil ?_
          refine dss_nil ?_
          first | exact ⟨_, rfl, rfl⟩ | exact ⟨_, rfl, by rw [onP_none hj hgn]⟩
        · (try simp only [decide_eq_true_eq, decide_eq_false_iff_not, Bool.and_eq_true, Bool.or_eq_true, Bool.not_eq_true', Bool.and_eq_false_iff, Bool.or_eq_false_iff, Bool.not_eq_false', Bool.not_eq_true, Bool.not_eq_false, Int.not_lt, Int.not_le] at h210)
          have hgn : goOn put a b q.1 = none := by cases e : goOn put a b q.1 with | none => rfl | some k2 => (rw [e] at h210; cases h210)
          refine dss_nil ?_
          refine dss_nil ?_
          first | exact ⟨_, rfl, rfl⟩ | exact ⟨_, rfl, by rw [onP_none hj hgn]⟩
      · rintro δ' m' ⟨x6, rfl, rfl⟩
        rw [pK_len, List.take_length, up_all hi2]
        refine dss_nil ?_
        exact ⟨_, _, rfl, rfl⟩
    · rintro δ' m' ⟨x5, x6, rfl, rfl⟩
      refine dss_frzIn p 2 (p := b1) sto3_p rfl (sto3_1 n1 n12) n1 ?_
      refine dss_frzIn p 3 (p := b2) sput_same rfl ((sput_ne (Ne.symm n2)).trans ((sdel_ne (Ne.symm n12)).trans (sto3_2 n2))) n2 ?_
      refine dss_frzD 4 (p := p) rfl sput_same ?_
      refine dss_cons (ds_ret ?_)
      refine de_var 4 rfl (.inl rfl) rfl ?_
      refine q_sto hq ?_ ?_
      · exact sto3_free hp hb1 hb2
      · exact onZ_D hb rfl
  · (try simp only [decide_eq_true_eq, decide_eq_false_iff_not, Bool.and_eq_true, Bool.or_eq_true, Bool.not_eq_true', Bool.and_eq_false_iff, Bool.or_eq_false_iff, Bool.not_eq_false', Bool.not_eq_true, Bool.not_eq_false, Int.not_lt, Int.not_le] at h209)
    have hw := h209
    refine de_bin od_sub ?_
    refine de_int ?_
    refine de_var 3 rfl (.inl rfl) rfl ?_
    walk_at "op"
    walk_at "op"
    refine da_cons ?_
    refine de_dgetV ?_
    refine de_var 0 rfl (.inl rfl) rfl ?_
    refine de_str ?_
    refine ⟨_, _, .inr "common", _, rfl, by walk_at "dv", rfl, ?_⟩
    refine da_nil ?_
    refine ⟨(z.n + (if put = true then b else 0 - b)), z.c, (by first | rw [if_pos hw] | rw [if_neg (by rw [hw]; exact Bool.false_ne_true)]), fun p b1 b2 hp hb1 hb2 n1 n2 n12 => ?_⟩
    refine dss_cons (ds_for ?_)
    refine di_tup ?_
    refine de_tup ?_
    refine da_cons ?_
    refine de_str ?_
    refine da_cons ?_
    refine de_str ?_
    refine da_nil ?_
    refine ⟨sz_lit rfl, ?_⟩
    refine ⟨_, rfl, ?_⟩
    refine ⟨fun i δ' m' => ∃ x5 x6, δ' = [some (zD z), some (.str (wayS put)), some (.int a), some (.int b), some (.ref p), x5, x6] ∧ m' = stW m p b1 b2 (z.n + (if put = true then b else 0 - b)) z.c (Lt_ put a b z i), ?_, ?_, ?_⟩
    · exact ⟨_, _, rfl, rfl⟩
    · rintro i d δ' m' hi ⟨x5, x6, rfl, rfl⟩
      obtain ⟨hi2, rfl⟩ := word_get hi
      refine dg_name 5 rfl (.inl rfl) ?_
      refine dss_cons (ds_for ?_)
      refine di_keysV ?_
      refine de_dgetV ?_
      refine de_var 0 rfl (.inl rfl) rfl ?_
      refine de_var 5 rfl (.inl rfl) rfl ?_
      refine ⟨_, _, .inr _, _, rfl, .inr rfl, zD_word hi2, ?_⟩
      refine ⟨_, _, rfl, ?_⟩
      refine ⟨fun j δ' m' => ∃ x6, δ' = [some (zD z), some (.str (wayS put)), some (.int a), some (.int b), some (.ref p), some (.str (wordW i)), x6] ∧ m' = stW m p b1 b2 (z.n + (if put = true then b else 0 - b)) z.c (upL (Lt_ put a b z i) i (onP put a b ((pzW z i).take j))), ?_, ?_, ?_⟩
      · exact ⟨_, rfl, by rw [up_0]⟩
      · rintro j d δ' m' hjd ⟨x6, rfl, rfl⟩
        obtain ⟨q, hj, rfl⟩ := pz_get hjd
        refine dg_name 6 rfl (.inl rfl) ?_
        refine dss_cons (ds_if ?_)
        refine dt_cmp od_isnt ?_
        refine de_call kn__law_go_on rfl rfl ?_
        refine da_cons ?_
        refine de_var 1 rfl (.inl rfl) rfl ?_
        refine da_cons ?_
        refine de_var 2 rfl (.inl rfl) rfl ?_
        refine da_cons ?_
        refine de_var 3 rfl (.inl rfl) rfl ?_
        refine da_cons ?_
        refine de_var 6 rfl (.inl rfl) rfl ?_
        refine da_nil ?_
        refine ⟨put, _, _, _, rfl, ?_⟩
        refine de_non ?_
        refine isnt_n ?_
        rw [isN_opt]
        refine tb ?_
        refine br.any (fun h211 => ?_) (fun h211 => ?_)
        · (try simp only [decide_eq_true_eq, decide_eq_false_iff_not, Bool.and_eq_true, Bool.or_eq_true, Bool.not_eq_true', Bool.and_eq_false_iff, Bool.or_eq_false_iff, Bool.not_eq_false', Bool.not_eq_true, Bool.not_eq_false, Int.not_lt, Int.not_le] at h211)
          obtain ⟨k2, hgk⟩ : ∃ k2, goOn put a b q.1 = some k2 := by cases e : goOn put a b q.1 with | none => (rw [e] at h211; cases h211) | some k2 => exact ⟨k2, rfl⟩
          refine dss_cons (ds_dput ?_)
          refine de_dgetV ?_
          refine de_dgetV ?_
          refine de_var 0 rfl (.inl rfl) rfl ?_
          refine de_var 5 rfl (.inl rfl) rfl ?_
          refine ⟨_, _, .inr _, _, rfl, .inr rfl, zD_word hi2, ?_⟩
          refine de_var 6 rfl (.inl rfl) rfl ?_
          refine ⟨_, _, .inl _, _, rfl, .inr rfl, valP (pzW_nd ok i) (List.mem_of_getElem? hj : q ∈ pzW z i), ?_⟩
          refine de_dgetV ?_
          refine de_var 4 rfl (.inl rfl) rfl ?_
          refine de_var 5 rfl (.inl rfl) rfl ?_
          refine ⟨_, _, .inr _, _, rfl, .inl ⟨_, rfl, .inl sto3_p⟩, zM_word hi2, ?_⟩
          refine de_call kn__law_go_on rfl rfl ?_
          refine da_cons ?_
          refine de_var 1 rfl (.inl rfl) rfl ?_
          refine da_cons ?_
          refine de_var 2 rfl (.inl rfl) rfl ?_
          refine da_cons ?_
          refine de_var 3 rfl (.inl rfl) rfl ?_
          refine da_cons ?_
          refine de_var 6 rfl (.inl rfl) rfl ?_
          refine da_nil ?_
          refine ⟨put, _, _, _, rfl, ?_⟩
          rw [hgk]
          refine ⟨_, _, _, .inl _, rfl, rfl, stW_at hi2 n1 n2 n12, by rw [upL_i]; exact onP_few ok j, ?_⟩
          obtain ⟨o1, o2⟩ := onP_some (pzW_nd ok i) hb hj hgk
          obtain ⟨u1, u2⟩ := put_new (d := q.2) o2
          rw [upL_i, u1, u2, stW_put hi2 n1 n2 n12, upL_up, ← o1]
          refine dss_nil ?_
          refine dss_nil ?_
          first | exact ⟨_, rfl, rfl⟩ | exact ⟨_, rfl, by rw [onP_none hj hgn]⟩
        · (try simp only [decide_eq_true_eq, decide_eq_false_iff_not, Bool.and_eq_true, Bool.or_eq_true, Bool.not_eq_true', Bool.and_eq_false_iff, Bool.or_eq_false_iff, Bool.not_eq_false', Bool.not_eq_true, Bool.not_eq_false, Int.not_lt, Int.not_le] at h211)
          have hgn : goOn put a b q.1 = none := by cases e : goOn put a b q.1 with | none => rfl | some k2 => (rw [e] at h211; cases h211)
          refine dss_nil ?_
          refine dss_nil ?_
          first | exact ⟨_, rfl, rfl⟩ | exact ⟨_, rfl, by rw [onP_none hj hgn]⟩
      · rintro δ' m' ⟨x6, rfl, rfl⟩
        rw [pK_len, List.take_length, up_all hi2]
        refine dss_nil ?_
        exact ⟨_, _, rfl, rfl⟩
    · rintro δ' m' ⟨x5, x6, rfl, rfl⟩
      refine dss_frzIn p 2 (p := b1) sto3_p rfl (sto3_1 n1 n12) n1 ?_
      refine dss_frzIn p 3 (p := b2) sput_same rfl ((sput_ne (Ne.symm n2)).trans ((sdel_ne (Ne.symm n12)).trans (sto3_2 n2))) n2 ?_
      refine dss_frzD 4 (p := p) rfl sput_same ?_
      refine dss_cons (ds_ret ?_)
      refine de_var 4 rfl (.inl rfl) rfl ?_
      refine q_sto hq ?_ ?_
      · exact sto3_free hp hb1 hb2
      · exact onZ_D hb rfl

abbrev s__law_z_put : Stmt := topS 25
theorem sc__law_z_put : FnScope ["_law_z_here", "_law_at", "_law_many"] ["_law_z_here", "_law_at", "_law_many"] (defScope s__law_z_put) := ⟨rfl, rfl, rfl, by decide +kernel, rfl, by decide +kernel, by decide +kernel⟩
set_option maxHeartbeats 4000000 in
theorem kn__law_z_put {f : Addr} {fd : FuncData} (Fn : FnP K "_law_z_put" s__law_z_put f fd) (g : mg "_law_z_put" = some (.ref f))  (kn__law_z_on : Kn P w K mg base "_law_z_on" 2 (FZOn)) : Kn P w K mg base "_law_z_put" 3 (FZPut) := by
  have b : Binds K fd ["_law_z_here", "_law_at", "_law_many"] [] := FunD.bindsN Fn fun _ _ _ _ _ _ us hl => match us, hl with | [_, _, _], _ => rfl
  refine ⟨f, fd, ["_law_z_here", "_law_at", "_law_many"], ?_, g, Fn.kp, b⟩
  refine def_ok (N := ["_law_z_here", "_law_at", "_law_many"]) Fn sc__law_z_put FZPut.len ?_
  rintro ds m Q E ⟨a, b, z, rfl, ok, hb, hq⟩
  refine dss_cons (ds_ret ?_)
  refine de_call kn__law_z_on rfl rfl ?_
  refine da_cons ?_
  refine de_var 0 rfl (.inl rfl) rfl ?_
  refine da_cons ?_
  refine de_str ?_
  refine da_cons ?_
  refine de_var 1 rfl (.inl rfl) rfl ?_
  refine da_cons ?_
  refine de_var 2 rfl (.inl rfl) rfl ?_
  refine da_nil ?_
  refine ⟨true, _, _, z, rfl, ok, hb, ?_⟩
  exact hq

abbrev s__law_z_cut : Stmt := topS 26
theorem sc__law_z_cut : FnScope ["_law_z_here", "_law_at", "_law_many"] ["_law_z_here", "_law_at", "_law_many"] (defScope s__law_z_cut) := ⟨rfl, rfl, rfl, by decide +kernel, rfl, by decide +kernel, by decide +kernel⟩
set_option maxHeartbeats 4000000 in
theorem kn__law_z_cut {f : Addr} {fd : FuncData} (Fn : FnP K "_law_z_cut" s__law_z_cut f fd) (g : mg "_law_z_cut" = some (.ref f))  (kn__law_z_on : Kn P w K mg base "_law_z_on" 2 (FZOn)) : Kn P w K mg base "_law_z_cut" 3 (FZCut) := by
  have b : Binds K fd ["_law_z_here", "_law_at", "_law_many"] [] := FunD.bindsN Fn fun _ _ _ _ _ _ us hl => match us, hl with | [_, _, _], _ => rfl
  refine ⟨f, fd, ["_law_z_here", "_law_at", "_law_many"], ?_, g, Fn.kp, b⟩
  refine def_ok (N := ["_law_z_here", "_law_at", "_law_many"]) Fn sc__law_z_cut FZCut.len ?_
  rintro ds m Q E ⟨a, b, z, rfl, ok, hb, hq⟩
  refine dss_cons (ds_ret ?_)
  refine de_call kn__law_z_on rfl rfl ?_
  refine da_cons ?_
  refine de_var 0 rfl (.inl rfl) rfl ?_
  refine da_cons ?_
  refine de_str ?_
  refine da_cons ?_
  refine de_var 1 rfl (.inl rfl) rfl ?_
  refine da_cons ?_
  refine de_var 2 rfl (.inl rfl) rfl ?_
  refine da_nil ?_
  refine ⟨false, _, _, z, rfl, ok, hb, ?_⟩
  exact hq

abbrev s__law_z_stands : Stmt := topS 32
theorem sc__law_z_stands : FnScope ["_law_sizes", "_law_z_here", "_law_some", "_law_rows", "_law_k", "_law_due"] ["_law_sizes", "_law_z_here", "_law_some"] (defScope s__law_z_stands) := ⟨rfl, rfl, rfl, by decide +kernel, rfl, by decide +kernel, by decide +kernel⟩
set_option maxHeartbeats 4000000 in
theorem kn__law_z_stands {f : Addr} {fd : FuncData} (Fn : FnP K "_law_z_stands" s__law_z_stands f fd) (g : mg "_law_z_stands" = some (.ref f)) (m_str : mg "str" = none) (m_repr : mg "repr" = none) {c_NoIndex : Addr} {c_Sizes : Addr} (ic_Sizes : InsC K c_Sizes) (na_Sizes_many : NoAttr K c_Sizes "many") (na_Sizes_common : NoAttr K c_Sizes "common") (km_Sizes_exceptions : KnM P w K mg base c_Sizes "exceptions" 2 (FExc c_Sizes)) (km_Sizes_total : KnM P w K mg base c_Sizes "total" 4 (FTotal c_Sizes)) (km_Sizes_size : KnM P w K mg base c_Sizes "size" 2 (FSize c_Sizes c_NoIndex)) (km_Sizes_own : KnM P w K mg base c_Sizes "own" 2 (FOwn c_Sizes c_NoIndex)) (km_Sizes_hidden : KnM P w K mg base c_Sizes "hidden" 2 (FHid c_Sizes c_NoIndex)) (km_Sizes_ahead : KnM P w K mg base c_Sizes "ahead" 3 (FAhead c_Sizes c_NoIndex)) (km_Sizes___repr__ : KnM P w K mg base c_Sizes "__repr__" 1 (FRepr c_Sizes)) (kn__law_same : Kn P w K mg base "_law_same" 4 (FSame 3)) (kn__law_z_odd : Kn P w K mg base "_law_z_odd" 1 (FZOdd)) (kn__law_z_size : Kn P w K mg base "_law_z_size" 1 (FZSize)) (kn__law_z_ahead : Kn P w K mg base "_law_z_ahead" 2 (FZAhead)) : Kn P w K mg base "_law_z_stands" 5 (FZStands c_Sizes) := by
  have b : Binds K fd ["_law_sizes", "_law_z_here", "_law_some"] [] := FunD.bindsN Fn fun _ _ _ _ _ _ us hl => match us, hl with | [_, _, _], _ => rfl
  refine ⟨f, fd, ["_law_sizes", "_law_z_here", "_law_some"], ?_, g, Fn.kp, b⟩
  refine def_ok (N := ["_law_sizes", "_law_z_here", "_law_some", "_law_rows", "_law_k", "_law_due"]) Fn sc__law_z_stands FZStands.len ?_
  rintro ds m Q E ⟨ps, ks, z, y, rfl, hks, ⟨a1, a2, h1, h2, h3, hne0⟩, hv, ok, ok2, hq⟩
  have hn1 := ok2.n1
  have hn2 := ok2.n2
  have hc1 := ok2.c1
  have hc2 := ok2.c2
  have hvn := hv.n
  have l1 := num_len (n := y.n) (by omega) (by omega)
  have l2 := num_len (n := y.c) (by omega) (by omega)
  have l3 : (Str.ofString "Sizes ").length = 6 := by decide +kernel
  have l4 : (Str.ofString " ").length = 1 := by decide +kernel
  refine dss_cons (ds_setLc 3 [("_law_k", 4)] (show blkC ["_law_sizes", "_law_z_here", "_law_some", "_law_rows", "_law_k", "_law_due"] (defScope s__law_z_stands) _ [("_law_k", 4)] = true from by decide +kernel) rfl rfl rfl (by decide +kernel) ?_)
  refine di_lst ?_
  refine de_call kn__law_z_odd rfl rfl ?_
  refine da_cons ?_
  refine de_var 1 rfl (.inr (.inl rfl)) rfl ?_
  refine da_nil ?_
  refine ⟨y, rfl, ok2, ?_⟩
  refine ⟨_, rfl, ?_⟩
  refine ⟨fun i acc m' => acc = (y.odd.take i).map (fun k => G.D.tup [.int k, .int (y.own k), .bl (y.hid k)]) ∧ m = m', ?_, ?_, ?_⟩
  · exact ⟨rfl, rfl⟩
  · rintro i d acc m' hi ⟨rfl, rfl⟩
    obtain ⟨j, hj, rfl, hj3⟩ := odd_get hi
    have hlt : i < y.odd.length := (List.getElem?_eq_some_iff.mp hj).1
    refine dgv_name 4 (by decide) rfl (.inl rfl) ?_
    refine dts_nil ?_
    refine br.t ?_
    refine de_tup ?_
    refine da_cons ?_
    refine de_var 4 rfl (.inl rfl) rfl ?_
    refine da_cons ?_
    refine de_dget2V ?_
    refine de_dgetV ?_
    refine de_var 1 rfl (by first | exact .inl rfl | exact .inr (.inl rfl) | exact .inr (.inr rfl)) rfl ?_
    refine de_str ?_
    refine ⟨_, _, .inr "own", _, rfl, by walk_at "dv", rfl, ?_⟩
    refine ⟨⟨_, _, by walk_at "dv"⟩, ?_⟩
    refine de_var 4 rfl (.inl rfl) rfl ?_
    refine de_dgetV ?_
    refine de_var 1 rfl (by first | exact .inl rfl | exact .inr (.inl rfl) | exact .inr (.inr rfl)) rfl ?_
    refine de_str ?_
    refine ⟨_, _, .inr "common", _, rfl, by walk_at "dv", rfl, ?_⟩
    refine ⟨_, _, .inl _, rfl, .inr rfl, ?_⟩
    rw [val_own]
    refine da_cons ?_
    refine de_dinV ?_
    refine de_var 4 rfl (.inl rfl) rfl ?_
    refine de_dgetV ?_
    refine de_var 1 rfl (by first | exact .inl rfl | exact .inr (.inl rfl) | exact .inr (.inr rfl)) rfl ?_
    refine de_str ?_
    refine ⟨_, _, .inr "gone", _, rfl, by walk_at "dv", rfl, ?_⟩
    refine ⟨_, _, .inl _, rfl, .inr rfl, ?_⟩
    rw [val_gone]
    refine da_nil ?_
    refine ⟨sz_lit rfl, ?_⟩
    refine ⟨?_, ?_, rfl⟩
    · have hz := sizeLine_eq
      have := ok2.few
      rw [List.length_map, List.length_take]
      omega
    · rw [List.take_succ, hj, List.map_append]
      rfl
  · rintro acc m' ⟨rfl, rfl⟩
    rw [show (y.odd.map G.D.int).length = y.odd.length from List.length_map .., List.take_length]
    refine dss_cons (ds_set 5 rfl (.inl rfl) ?_)
    refine de_lstM ?_
    refine da_cons ?_
    refine de_var 3 rfl (.inl rfl) rfl ?_
    refine da_cons ?_
    refine de_dgetV ?_
    refine de_var 1 rfl (.inr (.inl rfl)) rfl ?_
    refine de_str ?_
    refine ⟨_, _, .inr "many", _, rfl, by walk_at "dv", rfl, ?_⟩
    refine da_cons ?_
    refine de_dgetV ?_
    refine de_var 1 rfl (.inr (.inl rfl)) rfl ?_
    refine de_str ?_
    refine ⟨_, _, .inr "common", _, rfl, by walk_at "dv", rfl, ?_⟩
    refine da_cons ?_
    refine de_call kn__law_z_ahead rfl rfl ?_
    refine da_cons ?_
    refine de_var 1 rfl (.inr (.inl rfl)) rfl ?_
    refine da_cons ?_
    refine de_dgetV ?_
    refine de_var 1 rfl (.inr (.inl rfl)) rfl ?_
    refine de_str ?_
    refine ⟨_, _, .inr "many", _, rfl, by walk_at "dv", rfl, ?_⟩
    refine da_nil ?_
    refine ⟨_, y, rfl, ok2, ?_⟩
    refine da_nil ?_
    refine ⟨sz_lit rfl, ?_⟩
    intro pd hpd
    refine dss_cons (ds_expr ?_)
    refine de_bm md_append PySem.F.plainAttrs_list PySem.F.slot_list_append PySem.F.type_list_append ?_
    refine de_var 5 rfl (.inl rfl) rfl ?_
    refine ⟨(by first | exact rfl | exact ⟨rfl, _, by walk_at "st"⟩ | exact ⟨rfl, _, by first | exact sput_same | assumption | exact (sput_ne (by assumption)).trans sput_same⟩), ?_⟩
    refine da_cons ?_
    refine de_bin od_add ?_
    refine de_bin od_add ?_
    refine de_bin od_add ?_
    refine de_str ?_
    refine de_callTy cd_strI rfl m_str bt_str ?_
    refine da_cons ?_
    refine de_dgetV ?_
    refine de_var 1 rfl (.inr (.inl rfl)) rfl ?_
    refine de_str ?_
    refine ⟨_, _, .inr "many", _, rfl, by walk_at "dv", rfl, ?_⟩
    refine da_nil ?_
    refine ⟨_, rfl, num_log (by omega) (by omega), ?_⟩
    refine add_ss (by have hz := sizeLine_eq; omega) ?_
    refine de_str ?_
    refine add_ss (by have hz := sizeLine_eq; simp only [Str.length_append]; omega) ?_
    refine de_callTy cd_strI rfl m_str bt_str ?_
    refine da_cons ?_
    refine de_dgetV ?_
    refine de_var 1 rfl (.inr (.inl rfl)) rfl ?_
    refine de_str ?_
    refine ⟨_, _, .inr "common", _, rfl, by walk_at "dv", rfl, ?_⟩
    refine da_nil ?_
    refine ⟨_, rfl, num_log (by omega) (by omega), ?_⟩
    refine add_ss (by have hz := sizeLine_eq; simp only [Str.length_append]; omega) ?_
    refine da_nil ?_
    refine ⟨_, _, _, rfl, rfl, sput_same, by have hz := sizeLine_eq; simp only [List.length_cons, List.length_nil]; omega, ?_⟩
    rw [sput_sput]
    refine dss_frzS 5 rfl sput_same ?_
    rw [sdel_new hpd]
    refine dss_cons (ds_if ?_)
    refine dt_not ?_
    refine dt_val ?_
    refine de_call kn__law_same rfl rfl ?_
    refine da_cons ?_
    refine de_lst ?_
    refine da_cons ?_
    refine de_meth0 km_Sizes_exceptions ic_Sizes.cl rfl ?_
    refine de_var 0 rfl (.inl rfl) rfl ?_
    refine ⟨_, _, rfl, by walk_at "st", rfl, ?_⟩
    refine ⟨_, z, rfl, ⟨a1, a2, h1, h2, h3, hne0⟩, ok, ?_⟩
    rw [hv.exc ok ok2]
    refine da_cons ?_
    refine de_fld ?_
    refine de_var 0 rfl (.inl rfl) rfl ?_
    refine ⟨_, _, _, _, rfl, by walk_at "st", ic_Sizes.cl, na_Sizes_many, rfl, ?_⟩
    refine da_cons ?_
    refine de_fld ?_
    refine de_var 0 rfl (.inl rfl) rfl ?_
    refine ⟨_, _, _, _, rfl, by walk_at "st", ic_Sizes.cl, na_Sizes_common, rfl, ?_⟩
    refine da_cons ?_
    refine de_meth0 km_Sizes_total ic_Sizes.cl rfl ?_
    refine de_var 0 rfl (.inl rfl) rfl ?_
    refine ⟨_, _, rfl, by walk_at "st", rfl, ?_⟩
    refine ⟨_, z, rfl, ⟨a1, a2, h1, h2, h3, hne0⟩, ok, ?_⟩
    rw [hv.total ok ok2]
    refine da_cons ?_
    refine de_repr km_Sizes___repr__ rfl rfl m_repr ?_
    refine da_cons ?_
    refine de_var 0 rfl (.inl rfl) rfl ?_
    refine da_nil ?_
    refine ⟨_, _, rfl, by walk_at "st", ?_⟩
    refine ⟨_, z, rfl, ⟨a1, a2, h1, h2, h3, hne0⟩, ok, ⟨_, rfl, ?_⟩⟩
    rw [hv.text]
    refine da_nil ?_
    refine ⟨sz_lit rfl, ?_⟩
    refine da_cons ?_
    refine de_var 5 rfl (.inl rfl) rfl ?_
    refine da_nil ?_
    refine use_same (by rw [hv.n, hv.c]; rfl) (stand_ok y rfl) ?_
    refine tb ?_
    refine br.f ?_
    refine dss_nil ?_
    refine dss_cons (ds_for ?_)
    refine di_lst ?_
    refine de_lc [("_law_k", 4)] (show blkC ["_law_sizes", "_law_z_here", "_law_some", "_law_rows", "_law_k", "_law_due"] (defScope s__law_z_stands) _ [("_law_k", 4)] = true from by decide +kernel) ?_
    refine di_lst ?_
    refine de_var 2 rfl (.inl rfl) rfl ?_
    refine ⟨_, rfl, ?_⟩
    refine ⟨fun i acc m' => acc = ((ks.take i).filter fun k => decide (0 ≤ k ∧ k < y.n)).map G.D.int ∧ m = m', ?_, ?_, ?_⟩
    · exact ⟨rfl, rfl⟩
    · rintro i d acc m' hi ⟨rfl, rfl⟩
      rw [List.getElem?_map] at hi
      obtain ⟨j, hj, rfl⟩ := Option.map_eq_some_iff.mp hi
      refine dgv_name 4 (by decide) rfl (.inl rfl) ?_
      refine dts_one ?_
      refine dt_chainI (l := ?l213) od_le od_lt ?c216
      case c216 =>
        refine de_int ?_
        refine de_var 4 rfl (.inl rfl) rfl ?_
        refine ⟨_, _, rfl, rfl, fun W Q q => ?a214, ?b215⟩
        case a214 =>
          refine de_dgetV ?_
          refine de_var 1 rfl (by first | exact .inl rfl | exact .inr (.inl rfl) | exact .inr (.inr rfl)) rfl ?_
          refine de_str ?_
          refine ⟨_, _, .inr "many", _, rfl, by walk_at "dv", rfl, ?_⟩
          exact q
        case b215 =>
          refine br.any (fun h217 => ?_) (fun h217 => ?_)
          · (try simp only [decide_eq_true_eq, decide_eq_false_iff_not, Bool.and_eq_true, Bool.or_eq_true, Bool.not_eq_true', Bool.and_eq_false_iff, Bool.or_eq_false_iff, Bool.not_eq_false', Bool.not_eq_true, Bool.not_eq_false, Int.not_lt, Int.not_le] at h217)
            have hx := h217
            refine de_var 4 rfl (.inl rfl) rfl ?_
            refine ⟨?_, ?_, rfl⟩
            · have hz := sizeLine_eq
              have h8 := List.length_filter_le (fun k => decide (0 ≤ k ∧ k < y.n)) (ks.take i)
              rw [List.length_map]
              rw [List.length_take] at h8
              omega
            · rw [List.take_succ, hj, List.filter_append, List.map_append]
              simp [hx]
          · (try simp only [decide_eq_true_eq, decide_eq_false_iff_not, Bool.and_eq_true, Bool.or_eq_true, Bool.not_eq_true', Bool.and_eq_false_iff, Bool.or_eq_false_iff, Bool.not_eq_false', Bool.not_eq_true, Bool.not_eq_false, Int.not_lt, Int.not_le] at h217)
            have hx := h217
            refine ⟨?_, rfl⟩
            rw [List.take_succ, hj, List.filter_append, List.map_append]
            have hx2 : ¬ (0 ≤ j ∧ j < y.n) := by omega
            simp [hx2]
    · rintro acc m' ⟨rfl, rfl⟩
      rw [List.length_map, List.take_length]
      refine ⟨_, rfl, ?_⟩
      refine ⟨fun i δ' m' => ∃ x3 x4 x5, δ' = [some (.ref ps), some (zD y), some (.lst (ks.map G.D.int)), x3, x4, x5] ∧ m = m', ?_, ?_, ?_⟩
      · exact ⟨_, _, _, rfl, rfl⟩
      · rintro i d δ' m' hi ⟨x3, x4, x5, rfl, rfl⟩
        rw [List.getElem?_map] at hi
        obtain ⟨j, hj, rfl⟩ := Option.map_eq_some_iff.mp hi
        obtain ⟨hj1, hj2⟩ := of_decide_eq_true (List.mem_filter.mp (List.mem_of_getElem? hj)).2
        refine dg_name 4 rfl (.inl rfl) ?_
        refine dss_cons (ds_set 5 rfl (.inl rfl) ?_)
        refine de_lst ?_
        refine da_cons ?_
        refine de_call kn__law_z_size rfl rfl ?_
        refine da_cons ?_
        refine de_var 1 rfl (.inr (.inl rfl)) rfl ?_
        refine da_cons ?_
        refine de_var 4 rfl (.inl rfl) rfl ?_
        refine da_nil ?_
        refine ⟨_, y, rfl, ?_⟩
        refine da_cons ?_
        refine de_dget2V ?_
        refine de_dgetV ?_
        refine de_var 1 rfl (.inr (.inl rfl)) rfl ?_
        refine de_str ?_
        refine ⟨_, _, .inr "own", _, rfl, by walk_at "dv", rfl, ?_⟩
        refine ⟨⟨_, _, by walk_at "dv"⟩, ?_⟩
        refine de_var 4 rfl (.inl rfl) rfl ?_
        refine de_dgetV ?_
        refine de_var 1 rfl (.inr (.inl rfl)) rfl ?_
        refine de_str ?_
        refine ⟨_, _, .inr "common", _, rfl, by walk_at "dv", rfl, ?_⟩
        refine ⟨_, _, .inl _, rfl, .inr rfl, ?_⟩
        rw [val_own]
        refine da_cons ?_
        refine de_dinV ?_
        refine de_var 4 rfl (.inl rfl) rfl ?_
        refine de_dgetV ?_
        refine de_var 1 rfl (.inr (.inl rfl)) rfl ?_
        refine de_str ?_
        refine ⟨_, _, .inr "gone", _, rfl, by walk_at "dv", rfl, ?_⟩
        refine ⟨_, _, .inl _, rfl, .inr rfl, ?_⟩
        rw [val_gone]
        refine da_cons ?_
        refine de_call kn__law_z_ahead rfl rfl ?_
        refine da_cons ?_
        refine de_var 1 rfl (.inr (.inl rfl)) rfl ?_
        refine da_cons ?_
        refine de_var 4 rfl (.inl rfl) rfl ?_
        refine da_nil ?_
        refine ⟨_, y, rfl, ok2, ?_⟩
        refine da_nil ?_
        refine ⟨sz_lit rfl, ?_⟩
        refine dss_cons (ds_if ?_)
        refine dt_not ?_
        refine dt_val ?_
        refine de_call kn__law_same rfl rfl ?_
        refine da_cons ?_
        refine de_lst ?_
        refine da_cons ?_
        refine de_meth km_Sizes_size ic_Sizes.cl rfl ?_
        refine de_var 0 rfl (.inl rfl) rfl ?_
        refine ⟨_, _, rfl, by walk_at "st", rfl, ?_⟩
        refine da_cons ?_
        refine de_var 4 rfl (.inl rfl) rfl ?_
        refine da_nil ?_
        refine ⟨_, _, z, rfl, ⟨a1, a2, h1, h2, h3, hne0⟩, fun _ _ => ?_, fun hr => absurd hr (by omega)⟩
        rw [hv.size ok ok2]
        refine da_cons ?_
        refine de_meth km_Sizes_own ic_Sizes.cl rfl ?_
        refine de_var 0 rfl (.inl rfl) rfl ?_
        refine ⟨_, _, rfl, by walk_at "st", rfl, ?_⟩
        refine da_cons ?_
        refine de_var 4 rfl (.inl rfl) rfl ?_
        refine da_nil ?_
        refine ⟨_, _, z, rfl, ⟨a1, a2, h1, h2, h3, hne0⟩, fun _ _ => ?_, fun hr => absurd hr (by omega)⟩
        rw [hv.own ok ok2]
        refine da_cons ?_
        refine de_meth km_Sizes_hidden ic_Sizes.cl rfl ?_
        refine de_var 0 rfl (.inl rfl) rfl ?_
        refine ⟨_, _, rfl, by walk_at "st", rfl, ?_⟩
        refine da_cons ?_
        refine de_var 4 rfl (.inl rfl) rfl ?_
        refine da_nil ?_
        refine ⟨_, _, z, rfl, ⟨a1, a2, h1, h2, h3, hne0⟩, fun _ _ => ?_, fun hr => absurd hr (by omega)⟩
        rw [hv.hid]
        refine da_cons ?_
        refine de_meth km_Sizes_ahead ic_Sizes.cl rfl ?_
        refine de_var 0 rfl (.inl rfl) rfl ?_
        refine ⟨_, _, rfl, by walk_at "st", rfl, ?_⟩
        refine da_cons ?_
        refine de_var 4 rfl (.inl rfl) rfl ?_
        refine da_nil ?_
        refine ⟨_, _, z, rfl, ⟨a1, a2, h1, h2, h3, hne0⟩, ok, fun _ _ => ?_, fun hr => absurd hr (by omega)⟩
        rw [hv.ahead ok ok2]
        refine da_nil ?_
        refine ⟨sz_lit rfl, ?_⟩
        refine da_cons ?_
        refine de_var 5 rfl (.inl rfl) rfl ?_
        refine da_nil ?_
        refine use_same rfl (by rfl) ?_
        refine tb ?_
        refine br.f ?_
        refine dss_nil ?_
        refine dss_nil ?_
        exact ⟨_, _, _, rfl, rfl⟩
      · rintro δ' m' ⟨x3, x4, x5, rfl, rfl⟩
        refine dss_cons (ds_ret ?_)
        refine de_bl ?_
        exact hq

abbrev s__law_turned : Stmt := topS 33
theorem sc__law_turned : FnScope ["_law_draw", "_law_sizes", "_law_z_here", "_law_way", "_law_k", "_law_size"] ["_law_draw", "_law_sizes", "_law_z_here"] (defScope s__law_turned) := ⟨rfl, rfl, rfl, by decide +kernel, rfl, by decide +kernel, by decide +kernel⟩
set_option maxHeartbeats 4000000 in
theorem kn__law_turned {f : Addr} {fd : FuncData} (Fn : FnP K "_law_turned" s__law_turned f fd) (g : mg "_law_turned" = some (.ref f))  {c_NoIndex : Addr} {c_BadSize : Addr} {c_Full : Addr} {c_BadMany : Addr} {c_Sizes : Addr} (ic_Sizes : InsC K c_Sizes) (km_Sizes_give : KnM P w K mg base c_Sizes "give" 3 (FGive c_Sizes c_NoIndex c_BadSize c_Full)) (km_Sizes_hide : KnM P w K mg base c_Sizes "hide" 3 (FHide c_Sizes c_NoIndex c_Full)) (km_Sizes_show : KnM P w K mg base c_Sizes "show" 2 (FShow c_Sizes c_NoIndex)) (km_Sizes_put : KnM P w K mg base c_Sizes "put" 2 (FPut c_Sizes c_NoIndex c_BadMany)) (km_Sizes_cut : KnM P w K mg base c_Sizes "cut" 4 (FCut c_Sizes c_NoIndex c_BadMany)) (kn__law_pick : Kn P w K mg base "_law_pick" 1 (FPick)) (kn__law_z_set : Kn P w K mg base "_law_z_set" 2 (FZSet)) (kn__law_z_hide : Kn P w K mg base "_law_z_hide" 2 (FZHide)) (kn__law_z_put : Kn P w K mg base "_law_z_put" 3 (FZPut)) (kn__law_z_cut : Kn P w K mg base "_law_z_cut" 3 (FZCut)) : Kn P w K mg base "_law_turned" 5 (FTurned c_Sizes) := by
  have b : Binds K fd ["_law_draw", "_law_sizes", "_law_z_here"] [] := FunD.bindsN Fn fun _ _ _ _ _ _ us hl => match us, hl with | [_, _, _], _ => rfl
  refine ⟨f, fd, ["_law_draw", "_law_sizes", "_law_z_here"], ?_, g, Fn.kp, b⟩
  refine def_ok (N := ["_law_draw", "_law_sizes", "_law_z_here", "_law_way", "_law_k", "_law_size"]) Fn sc__law_turned FTurned.len ?_
  rintro ds m Q E ⟨h, p, ps, z, y, rfl, A, hd, hs, hne, hv, ok, ok2, hn, hq⟩
  have hvn := hv.n
  have hn1 := ok.n1
  refine dss_cons (ds_set 3 rfl (.inl rfl) ?_)
  refine de_call kn__law_pick rfl rfl ?_
  refine da_cons ?_
  refine de_var 0 rfl (.inl rfl) rfl ?_
  refine da_cons ?_
  refine de_int ?_
  refine da_nil ?_
  refine use_pickH (by assumption) (by walk_at "hst") (by walk_at "side") (by walk_at "side") (fun r1 m1 r1a r1b A1 => ?_)
  refine dss_cons (ds_set 4 rfl (.inl rfl) ?_)
  refine de_call kn__law_pick rfl rfl ?_
  refine da_cons ?_
  refine de_var 0 rfl (.inl rfl) rfl ?_
  refine da_cons ?_
  refine de_dgetV ?_
  refine de_var 2 rfl (.inl rfl) rfl ?_
  refine de_str ?_
  refine ⟨_, _, .inr "many", _, rfl, by walk_at "dv", rfl, ?_⟩
  refine da_nil ?_
  refine use_pickH (by assumption) (by walk_at "hst") (by walk_at "side") (by walk_at "side") (fun r2 m2 r2a r2b A2 => ?_)
  refine dss_cons (ds_set 5 rfl (.inl rfl) ?_)
  refine de_bin od_add ?_
  refine de_int ?_
  refine de_call kn__law_pick rfl rfl ?_
  refine da_cons ?_
  refine de_var 0 rfl (.inl rfl) rfl ?_
  refine da_cons ?_
  refine de_int ?_
  refine da_nil ?_
  refine use_pickH (by assumption) (by walk_at "hst") (by walk_at "side") (by walk_at "side") (fun r3 m3 r3a r3b A3 => ?_)
  walk_at "op"
  refine dss_cons (ds_if ?_)
  refine dt_cmp od_eqF ?_
  refine de_var 3 rfl (.inl rfl) rfl ?_
  refine de_int ?_
  (first | refine eq_ss ?_ | refine eq_ii ?_)
  refine tb ?_
  refine br.any (fun h219 => ?_) (fun h219 => ?_)
  · (try simp only [decide_eq_true_eq, decide_eq_false_iff_not, Bool.and_eq_true, Bool.or_eq_true, Bool.not_eq_true', Bool.and_eq_false_iff, Bool.or_eq_false_iff, Bool.not_eq_false', Bool.not_eq_true, Bool.not_eq_false, Int.not_lt, Int.not_le] at h219)
    refine dss_cons (ds_expr ?_)
    refine de_meth km_Sizes_give ic_Sizes.cl rfl ?_
    refine de_var 1 rfl (.inl rfl) rfl ?_
    refine meth_at (by walk_at "insx") ?_
    refine da_cons ?_
    refine de_var 4 rfl (.inl rfl) rfl ?_
    refine da_cons ?_
    refine de_var 5 rfl (.inl rfl) rfl ?_
    refine da_nil ?_
    refine ⟨_, _, _, _, z, rfl, by assumption, by walk_at "hst", ok, fun hr => absurd hr (by omega), fun _ _ hr => absurd hr (by omega), fun _ _ _ _ _ hf => absurd hf (Sz.not_full ok (by omega) _), fun hk1 hk2 hs1 hs2 hf mg Ag => ?_⟩
    have okg := ok.give hk1 hk2 hs1 hs2 hf
    refine dss_cons (ds_ret ?_)
    refine de_call kn__law_z_set rfl rfl ?_
    refine da_cons ?_
    refine de_var 2 rfl (.inl rfl) rfl ?_
    refine da_cons ?_
    refine de_var 4 rfl (.inl rfl) rfl ?_
    refine da_cons ?_
    refine de_var 5 rfl (.inl rfl) rfl ?_
    refine da_nil ?_
    refine ⟨_, _, y, rfl, ok2, ?_⟩
    first
    | exact hq (z.give _ _) _ _ (Sz.setK_eqv hv _ _) okg (Sz.setK_ok hv ok2 okg) (by rw [Sz.give_n]; exact hn) Ag
    | exact hq (z.hide _) _ _ (by rw [decide_eq_true g1]; exact Sz.hideK_eqv ok2 hv _ true) okh (by rw [decide_eq_true g1]; exact Sz.hideK_ok (b := true) hv ok2 okh) hn Ah
    | exact hq (z.showK _) _ _ (by rw [decide_eq_false g1]; exact Sz.hideK_eqv ok2 hv _ false) oks (by rw [decide_eq_false g1]; exact Sz.hideK_ok (b := false) hv ok2 oks) hn As
    | exact hq (z.put _ 1) _ _ (hv.put _ _) okp (ok2.put (by omega) (by omega) (by omega) (by omega)) (show z.n + 1 ≤ 20 by omega) Ap
    | exact hq (z.cut _ 1) _ _ (hv.cut _ _) okc (ok2.cut (by omega) (by omega) (by omega) (by omega)) (show z.n - 1 ≤ 20 by omega) Ac
    | exact hq z y _ hv ok ok2 hn (by rw [hput_id hs]; assumption)
  · (try simp only [decide_eq_true_eq, decide_eq_false_iff_not, Bool.and_eq_true, Bool.or_eq_true, Bool.not_eq_true', Bool.and_eq_false_iff, Bool.or_eq_false_iff, Bool.not_eq_false', Bool.not_eq_true, Bool.not_eq_false, Int.not_lt, Int.not_le] at h219)
    refine dss_nil ?_
    refine dss_cons (ds_if ?_)
    refine dt_cmp od_lt ?_
    refine de_var 3 rfl (.inl rfl) rfl ?_
    refine de_int ?_
    walk_at "op"
    refine tb ?_
    refine br.any (fun h220 => ?_) (fun h220 => ?_)
    · (try simp only [decide_eq_true_eq, decide_eq_false_iff_not, Bool.and_eq_true, Bool.or_eq_true, Bool.not_eq_true', Bool.and_eq_false_iff, Bool.or_eq_false_iff, Bool.not_eq_false', Bool.not_eq_true, Bool.not_eq_false, Int.not_lt, Int.not_le] at h220)
      refine dss_cons (ds_if ?_)
      refine dt_cmp od_eqF ?_
      refine de_var 3 rfl (.inl rfl) rfl ?_
      refine de_int ?_
      (first | refine eq_ss ?_ | refine eq_ii ?_)
      refine tb ?_
      refine br.any (fun h221 => ?_) (fun h221 => ?_)
      · (try simp only [decide_eq_true_eq, decide_eq_false_iff_not, Bool.and_eq_true, Bool.or_eq_true, Bool.not_eq_true', Bool.and_eq_false_iff, Bool.or_eq_false_iff, Bool.not_eq_false', Bool.not_eq_true, Bool.not_eq_false, Int.not_lt, Int.not_le] at h221)
        have g1 := h221
        refine dss_cons (ds_expr ?_)
        refine de_meth km_Sizes_hide ic_Sizes.cl rfl ?_
        refine de_var 1 rfl (.inl rfl) rfl ?_
        refine meth_at (by walk_at "insx") ?_
        refine da_cons ?_
        refine de_var 4 rfl (.inl rfl) rfl ?_
        refine da_nil ?_
        refine ⟨_, _, _, z, rfl, by assumption, by walk_at "hst", ok, fun hr => absurd hr (by omega), fun _ _ hf => absurd hf (Sz.not_full ok (by omega) _), fun hk1 hk2 hf mh Ah => ?_⟩
        have okh := ok.hide hk1 hk2 hf
        refine dss_nil ?_
        refine dss_cons (ds_ret ?_)
        refine de_call kn__law_z_hide rfl rfl ?_
        refine da_cons ?_
        refine de_var 2 rfl (.inl rfl) rfl ?_
        refine da_cons ?_
        refine de_var 4 rfl (.inl rfl) rfl ?_
        refine da_cons ?_
        refine de_cmp od_eqF ?_
        refine de_var 3 rfl (.inl rfl) rfl ?_
        refine de_int ?_
        (first | refine eq_ss ?_ | refine eq_ii ?_)
        refine da_nil ?_
        refine ⟨_, _, y, rfl, ok2, ?_⟩
        first
        | exact hq (z.give _ _) _ _ (Sz.setK_eqv hv _ _) okg (Sz.setK_ok hv ok2 okg) (by rw [Sz.give_n]; exact hn) Ag
        | exact hq (z.hide _) _ _ (by rw [decide_eq_true g1]; exact Sz.hideK_eqv ok2 hv _ true) okh (by rw [decide_eq_true g1]; exact Sz.hideK_ok (b := true) hv ok2 okh) hn Ah
        | exact hq (z.showK _) _ _ (by rw [decide_eq_false g1]; exact Sz.hideK_eqv ok2 hv _ false) oks (by rw [decide_eq_false g1]; exact Sz.hideK_ok (b := false) hv ok2 oks) hn As
        | exact hq (z.put _ 1) _ _ (hv.put _ _) okp (ok2.put (by omega) (by omega) (by omega) (by omega)) (show z.n + 1 ≤ 20 by omega) Ap
        | exact hq (z.cut _ 1) _ _ (hv.cut _ _) okc (ok2.cut (by omega) (by omega) (by omega) (by omega)) (show z.n - 1 ≤ 20 by omega) Ac
        | exact hq z y _ hv ok ok2 hn (by rw [hput_id hs]; assumption)
      · (try simp only [decide_eq_true_eq, decide_eq_false_iff_not, Bool.and_eq_true, Bool.or_eq_true, Bool.not_eq_true', Bool.and_eq_false_iff, Bool.or_eq_false_iff, Bool.not_eq_false', Bool.not_eq_true, Bool.not_eq_false, Int.not_lt, Int.not_le] at h221)
        have g1 := h221
        refine dss_cons (ds_expr ?_)
        refine de_meth km_Sizes_show ic_Sizes.cl rfl ?_
        refine de_var 1 rfl (.inl rfl) rfl ?_
        refine meth_at (by walk_at "insx") ?_
        refine da_cons ?_
        refine de_var 4 rfl (.inl rfl) rfl ?_
        refine da_nil ?_
        refine ⟨_, _, _, z, rfl, by assumption, by walk_at "hst", ok, fun hr => absurd hr (by omega), fun _ _ ms As => ?_⟩
        have oks := ok.showK r2
        refine dss_nil ?_
        refine dss_cons (ds_ret ?_)
        refine de_call kn__law_z_hide rfl rfl ?_
        refine da_cons ?_
        refine de_var 2 rfl (.inl rfl) rfl ?_
        refine da_cons ?_
        refine de_var 4 rfl (.inl rfl) rfl ?_
        refine da_cons ?_
        refine de_cmp od_eqF ?_
        refine de_var 3 rfl (.inl rfl) rfl ?_
        refine de_int ?_
        (first | refine eq_ss ?_ | refine eq_ii ?_)
        refine da_nil ?_
        refine ⟨_, _, y, rfl, ok2, ?_⟩
        first
        | exact hq (z.give _ _) _ _ (Sz.setK_eqv hv _ _) okg (Sz.setK_ok hv ok2 okg) (by rw [Sz.give_n]; exact hn) Ag
        | exact hq (z.hide _) _ _ (by rw [decide_eq_true g1]; exact Sz.hideK_eqv ok2 hv _ true) okh (by rw [decide_eq_true g1]; exact Sz.hideK_ok (b := true) hv ok2 okh) hn Ah
        | exact hq (z.showK _) _ _ (by rw [decide_eq_false g1]; exact Sz.hideK_eqv ok2 hv _ false) oks (by rw [decide_eq_false g1]; exact Sz.hideK_ok (b := false) hv ok2 oks) hn As
        | exact hq (z.put _ 1) _ _ (hv.put _ _) okp (ok2.put (by omega) (by omega) (by omega) (by omega)) (show z.n + 1 ≤ 20 by omega) Ap
        | exact hq (z.cut _ 1) _ _ (hv.cut _ _) okc (ok2.cut (by omega) (by omega) (by omega) (by omega)) (show z.n - 1 ≤ 20 by omega) Ac
        | exact hq z y _ hv ok ok2 hn (by rw [hput_id hs]; assumption)
    · (try simp only [decide_eq_true_eq, decide_eq_false_iff_not, Bool.and_eq_true, Bool.or_eq_true, Bool.not_eq_true', Bool.and_eq_false_iff, Bool.or_eq_false_iff, Bool.not_eq_false', Bool.not_eq_true, Bool.not_eq_false, Int.not_lt, Int.not_le] at h220)
      refine dss_nil ?_
      refine dss_cons (ds_if ?_)
      refine dt_pt (pt_and2 (k0 := ?k223) (k1 := ?k224) (fun W B q => ?a225) (fun h227 W B q => ?a226)) ?b222
      case a225 =>
        refine dt_cmp od_eqF ?_
        refine de_var 3 rfl (.inl rfl) rfl ?_
        refine de_int ?_
        (first | refine eq_ss ?_ | refine eq_ii ?_)
        refine tb ?_
        exact q
      case a226 =>
        (try simp only [decide_eq_true_eq, decide_eq_false_iff_not, Bool.and_eq_true, Bool.or_eq_true, Bool.not_eq_true', Bool.and_eq_false_iff, Bool.or_eq_false_iff, Bool.not_eq_false', Bool.not_eq_true, Bool.not_eq_false, Int.not_lt, Int.not_le] at h227)
        refine dt_cmp od_lt ?_
        refine de_dgetV ?_
        refine de_var 2 rfl (.inl rfl) rfl ?_
        refine de_str ?_
        refine ⟨_, _, .inr "many", _, rfl, by walk_at "dv", rfl, ?_⟩
        refine de_int ?_
        walk_at "op"
        refine tb ?_
        exact q
      case b222 =>
        refine br.any (fun h228 => ?_) (fun h228 => ?_)
        · (try simp only [decide_eq_true_eq, decide_eq_false_iff_not, Bool.and_eq_true, Bool.or_eq_true, Bool.not_eq_true', Bool.and_eq_false_iff, Bool.or_eq_false_iff, Bool.not_eq_false', Bool.not_eq_true, Bool.not_eq_false, Int.not_lt, Int.not_le] at h228)
          have g3 := h228
          refine dss_cons (ds_expr ?_)
          refine de_meth km_Sizes_put ic_Sizes.cl rfl ?_
          refine de_var 1 rfl (.inl rfl) rfl ?_
          refine meth_at (by walk_at "insx") ?_
          refine da_cons ?_
          refine de_var 4 rfl (.inl rfl) rfl ?_
          refine da_cons ?_
          refine de_int ?_
          refine da_nil ?_
          refine ⟨_, _, _, _, z, rfl, by assumption, by walk_at "hst", ok, fun hr => absurd hr (by omega), fun _ _ hr => absurd hr (by omega), fun hk1 hk2 hm1 hm2 mp Ap => ?_⟩
          have okp := ok.put hk1 hk2 hm1 (by omega)
          refine dss_cons (ds_ret ?_)
          refine de_call kn__law_z_put rfl rfl ?_
          refine da_cons ?_
          refine de_var 2 rfl (.inl rfl) rfl ?_
          refine da_cons ?_
          refine de_var 4 rfl (.inl rfl) rfl ?_
          refine da_cons ?_
          refine de_int ?_
          refine da_nil ?_
          refine ⟨_, _, y, rfl, ok2, by omega, ?_⟩
          first
          | exact hq (z.give _ _) _ _ (Sz.setK_eqv hv _ _) okg (Sz.setK_ok hv ok2 okg) (by rw [Sz.give_n]; exact hn) Ag
          | exact hq (z.hide _) _ _ (by rw [decide_eq_true g1]; exact Sz.hideK_eqv ok2 hv _ true) okh (by rw [decide_eq_true g1]; exact Sz.hideK_ok (b := true) hv ok2 okh) hn Ah
          | exact hq (z.showK _) _ _ (by rw [decide_eq_false g1]; exact Sz.hideK_eqv ok2 hv _ false) oks (by rw [decide_eq_false g1]; exact Sz.hideK_ok (b := false) hv ok2 oks) hn As
          | exact hq (z.put _ 1) _ _ (hv.put _ _) okp (ok2.put (by omega) (by omega) (by omega) (by omega)) (show z.n + 1 ≤ 20 by omega) Ap
          | exact hq (z.cut _ 1) _ _ (hv.cut _ _) okc (ok2.cut (by omega) (by omega) (by omega) (by omega)) (show z.n - 1 ≤ 20 by omega) Ac
          | exact hq z y _ hv ok ok2 hn (by rw [hput_id hs]; assumption)
        · (try simp only [decide_eq_true_eq, decide_eq_false_iff_not, Bool.and_eq_true, Bool.or_eq_true, Bool.not_eq_true', Bool.and_eq_false_iff, Bool.or_eq_false_iff, Bool.not_eq_false', Bool.not_eq_true, Bool.not_eq_false, Int.not_lt, Int.not_le] at h228)
          have g3 := h228
          refine dss_nil ?_
          refine dss_cons (ds_if ?_)
          refine dt_pt (pt_and2 (k0 := ?k230) (k1 := ?k231) (fun W B q => ?a232) (fun h234 W B q => ?a233)) ?b229
          case a232 =>
            refine dt_cmp od_eqF ?_
            refine de_var 3 rfl (.inl rfl) rfl ?_
            refine de_int ?_
            (first | refine eq_ss ?_ | refine eq_ii ?_)
            refine tb ?_
            exact q
          case a233 =>
            (try simp only [decide_eq_true_eq, decide_eq_false_iff_not, Bool.and_eq_true, Bool.or_eq_true, Bool.not_eq_true', Bool.and_eq_false_iff, Bool.or_eq_false_iff, Bool.not_eq_false', Bool.not_eq_true, Bool.not_eq_false, Int.not_lt, Int.not_le] at h234)
            refine dt_cmp od_gt ?_
            refine de_dgetV ?_
            refine de_var 2 rfl (.inl rfl) rfl ?_
            refine de_str ?_
            refine ⟨_, _, .inr "many", _, rfl, by walk_at "dv", rfl, ?_⟩
            refine de_int ?_
            walk_at "op"
            refine tb ?_
            exact q
          case b229 =>
            refine br.any (fun h235 => ?_) (fun h235 => ?_)
            · (try simp only [decide_eq_true_eq, decide_eq_false_iff_not, Bool.and_eq_true, Bool.or_eq_true, Bool.not_eq_true', Bool.and_eq_false_iff, Bool.or_eq_false_iff, Bool.not_eq_false', Bool.not_eq_true, Bool.not_eq_false, Int.not_lt, Int.not_le] at h235)
              have g4 := h235
              refine dss_cons (ds_expr ?_)
              refine de_meth km_Sizes_cut ic_Sizes.cl rfl ?_
              refine de_var 1 rfl (.inl rfl) rfl ?_
              refine meth_at (by walk_at "insx") ?_
              refine da_cons ?_
              refine de_var 4 rfl (.inl rfl) rfl ?_
              refine da_cons ?_
              refine de_int ?_
              refine da_nil ?_
              refine ⟨_, _, _, _, z, rfl, by assumption, by walk_at "hst", ok, fun hr => absurd hr (by omega), fun _ _ hr => absurd hr (by omega), fun hk1 hk2 hm1 hm2 hm3 mc Ac => ?_⟩
              have okc := ok.cut hk1 hm1 hm2 hm3
              refine dss_cons (ds_ret ?_)
              refine de_call kn__law_z_cut rfl rfl ?_
              refine da_cons ?_
              refine de_var 2 rfl (.inl rfl) rfl ?_
              refine da_cons ?_
              refine de_var 4 rfl (.inl rfl) rfl ?_
              refine da_cons ?_
              refine de_int ?_
              refine da_nil ?_
              refine ⟨_, _, y, rfl, ok2, by omega, ?_⟩
              first
              | exact hq (z.give _ _) _ _ (Sz.setK_eqv hv _ _) okg (Sz.setK_ok hv ok2 okg) (by rw [Sz.give_n]; exact hn) Ag
              | exact hq (z.hide _) _ _ (by rw [decide_eq_true g1]; exact Sz.hideK_eqv ok2 hv _ true) okh (by rw [decide_eq_true g1]; exact Sz.hideK_ok (b := true) hv ok2 okh) hn Ah
              | exact hq (z.showK _) _ _ (by rw [decide_eq_false g1]; exact Sz.hideK_eqv ok2 hv _ false) oks (by rw [decide_eq_false g1]; exact Sz.hideK_ok (b := false) hv ok2 oks) hn As
              | exact hq (z.put _ 1) _ _ (hv.put _ _) okp (ok2.put (by omega) (by omega) (by omega) (by omega)) (show z.n + 1 ≤ 20 by omega) Ap
              | exact hq (z.cut _ 1) _ _ (hv.cut _ _) okc (ok2.cut (by omega) (by omega) (by omega) (by omega)) (show z.n - 1 ≤ 20 by omega) Ac
              | exact hq z y _ hv ok ok2 hn (by rw [hput_id hs]; assumption)
            · (try simp only [decide_eq_true_eq, decide_eq_false_iff_not, Bool.and_eq_true, Bool.or_eq_true, Bool.not_eq_true', Bool.and_eq_false_iff, Bool.or_eq_false_iff, Bool.not_eq_false', Bool.not_eq_true, Bool.not_eq_false, Int.not_lt, Int.not_le] at h235)
              have g4 := h235
              refine dss_nil ?_
              refine dss_cons (ds_ret ?_)
              refine de_var 2 rfl (.inl rfl) rfl ?_
              first
              | exact hq (z.give _ _) _ _ (Sz.setK_eqv hv _ _) okg (Sz.setK_ok hv ok2 okg) (by rw [Sz.give_n]; exact hn) Ag
              | exact hq (z.hide _) _ _ (by rw [decide_eq_true g1]; exact Sz.hideK_eqv ok2 hv _ true) okh (by rw [decide_eq_true g1]; exact Sz.hideK_ok (b := true) hv ok2 okh) hn Ah
              | exact hq (z.showK _) _ _ (by rw [decide_eq_false g1]; exact Sz.hideK_eqv ok2 hv _ false) oks (by rw [decide_eq_false g1]; exact Sz.hideK_ok (b := false) hv ok2 oks) hn As
              | exact hq (z.put _ 1) _ _ (hv.put _ _) okp (ok2.put (by omega) (by omega) (by omega) (by omega)) (show z.n + 1 ≤ 20 by omega) Ap
              | exact hq (z.cut _ 1) _ _ (hv.cut _ _) okc (ok2.cut (by omega) (by omega) (by omega) (by omega)) (show z.n - 1 ≤ 20 by omega) Ac
              | exact hq z y _ hv ok ok2 hn (by rw [hput_id hs]; assumption)
end
end K06

namespace K06
open PySem PySem.Spec PyProof.Rows L2 G
local macro_rules | `(tactic| walk_at "op") => `(tactic| first | with_reducible refine add_ii ?_ | with_reducible refine sub_ii ?_ | with_reducible refine cmp_ii ?_ | with_reducible refine is_n ?_ | with_reducible refine isnt_n ?_ | with_reducible refine max_ii ?_ | with_reducible refine min_ii ?_ | with_reducible refine int_i ?_ | with_reducible refine int_b ?_ | refine len_l ?_ | refine len_t ?_ | refine isi rfl (by walk_at "kit") ?_)
local macro_rules | `(tactic| walk_at "kit") => `(tactic| first | exact kit_NoneType_bool | exact kit_NoneType_int | exact kit_NoneType_str | exact kit_NoneType_list | exact kit_NoneType_tuple | exact kit_NoneType_dict | exact kit_bool_bool | exact kit_bool_int | exact kit_bool_str | exact kit_bool_list | exact kit_bool_tuple | exact kit_bool_dict | exact kit_int_bool | exact kit_int_int | exact kit_int_str | exact kit_int_list | exact kit_int_tuple | exact kit_int_dict | exact kit_str_bool | exact kit_str_int | exact kit_str_str | exact kit_str_list | exact kit_str_tuple | exact kit_str_dict | exact kit_tuple_bool | exact kit_tuple_int | exact kit_tuple_str | exact kit_tuple_list | exact kit_tuple_tuple | exact kit_tuple_dict | exact kit_list_bool | exact kit_list_int | exact kit_list_str | exact kit_list_list | exact kit_list_tuple | exact kit_list_dict | exact kit_dict_bool | exact kit_dict_int | exact kit_dict_str | exact kit_dict_list | exact kit_dict_tuple | exact kit_dict_dict | exact kit2_NoneType_int_str | exact kit2_bool_int_str | exact kit2_int_int_str | exact kit2_str_int_str | exact kit2_tuple_int_str | exact kit2_list_int_str | exact kit2_dict_int_str)
local macro_rules | `(tactic| walk_at "side") => `(tactic| first | omega | (have hz := sizeLine_eq; omega))

local macro_rules | `(tactic| walk_at "st") => `(tactic| first | assumption | exact sput_same | exact (sput_ne (by assumption)).trans sput_same | exact (sput_ne (Ne.symm (by assumption))).trans sput_same | exact (sput_ne (by assumption)).trans (by assumption))
local macro_rules | `(tactic| walk_at "fslen") => `(tactic| (have hz := sizeLine_eq; simp only [Str.length_append]; omega))
local macro_rules | `(tactic| walk_at "fslog") => `(tactic| exact num_log (by omega) (by omega))

local macro_rules | `(tactic| walk_at "dv") => `(tactic| first | exact .inr rfl | exact .inl ⟨_, rfl, .inl (by walk_at "st")⟩)
local macro_rules | `(tactic| walk_at "dlen") => `(tactic| first | exact lenKV | exact lenKN)
local macro_rules | `(tactic| walk_at "dsz") => `(tactic| first | exact keysV_few (by assumption) | exact keysN_few (by assumption) | exact keysVd_few (by assumption) | exact keysNd_few (by assumption) | (show _ < sizeLine; decide))
local macro_rules | `(tactic| walk_at "insx") => `(tactic| first | exact ⟨_, by walk_at "st", rfl⟩ | exact Abs.szI (by assumption) (by walk_at "hst") (by intro _ _; rfl))
local macro_rules | `(tactic| walk_at "fldx") => `(tactic| first | exact ⟨_, by walk_at "st", rfl⟩ | exact Abs.szF (by assumption) (by walk_at "hst") (by intro _ _; rfl))
local macro_rules | `(tactic| walk_at "hst") => `(tactic| first | assumption | exact hput_same | (refine (hput_ne (by first | assumption | exact Ne.symm (by assumption))).trans ?_; walk_at "hst"))

local macro_rules | `(tactic| walk_at "st") => `(tactic| first | assumption | exact sput_same | (refine (sput_ne (by first | assumption | exact Ne.symm (by assumption))).trans ?_; walk_at "st") | (refine (sdel_ne (by first | assumption | exact Ne.symm (by assumption))).trans ?_; walk_at "st"))

local macro_rules | `(tactic| walk_at "side") => `(tactic| first | omega | (have hz := sizeLine_eq; omega) | (dsimp only; omega))
section
variable {P : Program} {w : World} {K : PySem.W.Frag} {mg : Str → Option Value} {base : Heap}

abbrev s_law : Stmt := topS 34
theorem sc_law : FnScope ["_law_script", "_law_draw", "_law_rows", "_law_models", "_law_turn", "_law_z_here", "_law_sizes", "_law_k", "_law_other", "_law_twins", "_law_kept", "_law_one", "_law_at"] ["_law_script"] (defScope s_law) := ⟨rfl, rfl, rfl, by decide +kernel, rfl, by decide +kernel, by decide +kernel⟩
set_option maxHeartbeats 4000000 in
theorem ok_law {f : Addr} {fd : FuncData} (Fn : FnP K "law" s_law f fd) (m_range : mg "range" = none) (m_any : mg "any" = none) (m_all : mg "all" = none) {c_BadMany : Addr} {c_BadSize : Addr} {c_Sizes : Addr} (ic_Sizes : InsC K c_Sizes) (kt_str_Sizes : PySem.W.kitOne K (.type "str") (.ref c_Sizes) = some false) (kt_int_Sizes : PySem.W.kitOne K (.type "int") (.ref c_Sizes) = some false) (kt_NoneType_Sizes : PySem.W.kitOne K (.type "NoneType") (.ref c_Sizes) = some false) (kt_list_Sizes : PySem.W.kitOne K (.type "list") (.ref c_Sizes) = some false) (ne_Sizes : NeC K c_Sizes) (km_Sizes_twin : KnM P w K mg base c_Sizes "twin" 4 (FTwin c_Sizes)) (km_Sizes___eq__ : KnM P w K mg base c_Sizes "__eq__" 1 (FEq c_Sizes)) (km_Sizes___eq___X : KnM P w K mg base c_Sizes "__eq__" 1 (FEqX K c_Sizes)) (ki_Sizes_common : KnI P w K mg base "Sizes" c_Sizes 2 (FInitH c_Sizes c_BadMany c_BadSize) 1 ["common"] (fun us zs => pickL [0, 1, 2] (us ++ zs ++ []))) (kn__law_begin : Kn P w K mg base "_law_begin" 1 (FBegin)) (kn__law_pick : Kn P w K mg base "_law_pick" 1 (FPick)) (kn__law_z : Kn P w K mg base "_law_z" 1 (FZ)) (kn__law_z_stands : Kn P w K mg base "_law_z_stands" 5 (FZStands c_Sizes)) (kn__law_turned : Kn P w K mg base "_law_turned" 5 (FTurned c_Sizes)) : FnOk P w K mg base (L2.CX P w) 7 f fd ["_law_script"] (spD K (FLaw)) := by
  refine def_ok (N := ["_law_script", "_law_draw", "_law_rows", "_law_models", "_law_turn", "_law_z_here", "_law_sizes", "_law_k", "_law_other", "_law_twins", "_law_kept", "_law_one", "_law_at"]) Fn sc_law FLaw.len ?_
  rintro ds m Q E ⟨ns, rfl, hl, hm0, hq⟩
  refine dss_cons (ds_set 1 rfl (.inl rfl) ?_)
  refine de_call kn__law_begin rfl rfl ?_
  refine da_cons ?_
  refine de_var 0 rfl (.inl rfl) rfl ?_
  refine da_nil ?_
  refine use_beginH Abs.nil (fun p m0 hp0 A0 => ?_)
  refine dss_cons (ds_set 2 rfl (.inr rfl) ?_)
  refine de_lstM ?_
  refine da_nil ?_
  refine ⟨sz_lit rfl, ?_⟩
  intro pr hpr
  have Ar := Abs.newRaw (o := .lst []) A0 hpr
  have hq1 : p ≠ pr := G.hne hput_same (Abs.none A0 hpr)
  refine dss_cons (ds_set 3 rfl (.inl rfl) ?_)
  refine de_lstM ?_
  refine da_nil ?_
  refine ⟨sz_lit rfl, ?_⟩
  intro pm hpm
  have Ap := Abs.newRaw (o := .lst []) Ar hpm
  have hpm0 := Abs.none Ar hpm
  have hq2 : p ≠ pm := G.hne (by walk_at "hst") hpm0
  have hq3 : pr ≠ pm := G.hne hput_same hpm0
  refine dss_cons (ds_for ?_)
  refine di_rng1 rfl m_range ?_
  refine de_int ?_
  refine ⟨_, rfl, ?_, ?_, ?_⟩
  · walk_at "side"
  · walk_at "side"
  refine ⟨fun i δ' m' => ∃ h, ∃ L : List (Addr × Sz × Sz), ∃ x4 x5 x6 x7 x8 x9 x10 x11 x12, δ' = [some (.frz (ns.map D.int)), some (.ref p), some (.ref pr), some (.ref pm), x4, x5, x6, x7, x8, x9, x10, x11, x12] ∧ Abs h m' ∧ h p = some bDraw ∧ h pr = some (bRaw (.lst (L.map fun t => D.ref t.1))) ∧ h pm = some (bRaw (.lst (L.map fun t => zD t.2.2))) ∧ (∀ t ∈ L, Row c_Sizes h t) ∧ L.length = i, ?_, ?_, ?_⟩
  · exact ⟨_, [], _, _, _, _, _, _, _, _, _, rfl, Ap, by walk_at "hst", by walk_at "hst", hput_same, fun t ht => (by cases ht), rfl⟩
  · rintro i d δ' m' hi' ⟨h, L, x4, x5, x6, x7, x8, x9, x10, x11, x12, rfl, A, hd, hpr2, hpm2, hrow, hlen⟩
    obtain ⟨hlt, rfl⟩ := rngD_get hi'
    refine dg_name 4 rfl (.inl rfl) ?_
    refine dss_cons (ds_set 5 rfl (.inl rfl) ?_)
    refine de_call kn__law_z rfl rfl ?_
    refine da_cons ?_
    refine de_bin od_add ?_
    refine de_int ?_
    refine de_call kn__law_pick rfl rfl ?_
    refine da_cons ?_
    refine de_var 1 rfl (.inl rfl) rfl ?_
    refine da_cons ?_
    refine de_int ?_
    refine da_nil ?_
    refine use_pickH (by assumption) (by walk_at "hst") (by walk_at "side") (by walk_at "side") (fun r1 m1 r1a r1b A1 => ?_)
    walk_at "op"
    refine da_cons ?_
    refine de_bin od_add ?_
    refine de_int ?_
    refine de_call kn__law_pick rfl rfl ?_
    refine da_cons ?_
    refine de_var 1 rfl (.inl rfl) rfl ?_
    refine da_cons ?_
    refine de_int ?_
    refine da_nil ?_
    refine use_pickH (by assumption) (by walk_at "hst") (by walk_at "side") (by walk_at "side") (fun r2 m2 r2a r2b A2 => ?_)
    walk_at "op"
    refine da_nil ?_
    refine ⟨_, _, rfl, ?_⟩
    obtain ⟨y0, hy0⟩ : ∃ y0 : Sz, y0 = ⟨1 + r1, 1 + r2, [], []⟩ := ⟨_, rfl⟩
    rw [← hy0]
    have hyn : y0.n = 1 + r1 := by rw [hy0]
    have hyc : y0.c = 1 + r2 := by rw [hy0]
    refine dss_cons (ds_set 6 rfl (.inl rfl) ?_)
    refine de_make ki_Sizes_common rfl rfl ?_
    refine da_cons ?_
    refine de_dgetV ?_
    refine de_var 5 rfl (.inl rfl) rfl ?_
    refine de_str ?_
    refine ⟨_, _, .inr "many", _, rfl, by walk_at "dv", rfl, ?_⟩
    refine da_nil ?_
    refine ⟨rfl, ?_⟩
    refine dks_cons ?_
    refine de_dgetV ?_
    refine de_var 5 rfl (.inl rfl) rfl ?_
    refine de_str ?_
    refine ⟨_, _, .inr "common", _, rfl, by walk_at "dv", rfl, ?_⟩
    refine dks_nil ?_
    intro ps3 hps3
    refine ⟨_, _, _, rfl, sput_same, fun hr => absurd hr (by walk_at "side"), fun _ _ hr => absurd hr (by walk_at "side"), fun mi1 mi2 mi3 mi4 ms3 sa3 sb3 hk3 hsz3 hna3 hnb3 => ⟨rfl, ?_⟩⟩
    have Am3 := Abs.make (by assumption) hps3 hk3 hsz3 hna3 hnb3
    clear hk3 hsz3 hna3 hnb3
    have hs0 := Abs.none A2 hps3
    have hne : p ≠ ps3 := G.hne (by walk_at "hst") hs0
    have hne1 : pr ≠ ps3 := G.hne (by walk_at "hst") hs0
    have hne2 : pm ≠ ps3 := G.hne (by walk_at "hst") hs0
    have hne3 : ∀ t ∈ L, t.1 ≠ ps3 := fun t ht => (hrow t ht).ne hs0
    have hrow2 : ∀ t ∈ L, Row c_Sizes (hput h ps3 (bSz c_Sizes y0)) t := fun t ht => (hrow t ht).put (hne3 t ht)
    rw [show (⟨y0.n, y0.c, [], []⟩ : Sz) = y0 from by rw [hyn, hyc, hy0]] at Am3
    refine dss_cons (ds_for ?_)
    refine di_rng1 rfl m_range ?_
    refine de_call kn__law_pick rfl rfl ?_
    refine da_cons ?_
    refine de_var 1 rfl (.inl rfl) rfl ?_
    refine da_cons ?_
    refine de_int ?_
    refine da_nil ?_
    refine use_pickH (by assumption) (by walk_at "hst") (by walk_at "side") (by walk_at "side") (fun r3 m3 r3a r3b A3 => ?_)
    refine ⟨_, rfl, ?_, ?_, ?_⟩
    · walk_at "side"
    · walk_at "side"
    refine ⟨fun j δ' m' => ∃ h2 z y x4 x7 x8 x9 x10 x11 x12, δ' = [some (.frz (ns.map D.int)), some (.ref p), some (.ref pr), some (.ref pm), x4, some (zD y), some (.ref ps3), x7, x8, x9, x10, x11, x12] ∧ Abs h2 m' ∧ h2 p = some bDraw ∧ h2 pr = some (bRaw (.lst (L.map fun t => D.ref t.1))) ∧ h2 pm = some (bRaw (.lst (L.map fun t => zD t.2.2))) ∧ (∀ t ∈ L, Row c_Sizes h2 t) ∧ h2 ps3 = some (bSz c_Sizes z) ∧ z.Eqv y ∧ z.Ok ∧ y.Ok ∧ z.n ≤ 20, ?_, ?_, ?_⟩
    · exact ⟨_, y0, y0, _, _, _, _, _, _, _, rfl, by assumption, by walk_at "hst", by walk_at "hst", by walk_at "hst", hrow2, hput_same, Sz.Eqv.refl _, by rw [hy0]; exact Sz.Ok.new (by omega) (by omega) (by omega) (by omega), by rw [hy0]; exact Sz.Ok.new (by omega) (by omega) (by omega) (by omega), by omega⟩
    · clear hrow2
      rintro j d δ' m' hj' ⟨h2, z, y, x4, x7, x8, x9, x10, x11, x12, rfl, A, hd, hpr2, hpm2, hrow3, hs, hv, ok, ok2, hn20⟩
      refine dg_name 7 rfl (.inl rfl) ?_
      refine dss_cons (ds_set 5 rfl (.inl rfl) ?_)
      refine de_call kn__law_turned rfl rfl ?_
      refine da_cons ?_
      refine de_var 1 rfl (.inl rfl) rfl ?_
      refine da_cons ?_
      refine de_var 6 rfl (.inl rfl) rfl ?_
      refine da_cons ?_
      refine de_var 5 rfl (.inl rfl) rfl ?_
      refine da_nil ?_
      refine ⟨_, _, _, z, y, rfl, A, hd, hs, hne, hv, ok, ok2, hn20, fun z2 y2 m4 hv2 okz oky hn2 A4 => ?_⟩
      refine dss_nil ?_
      exact ⟨_, z2, y2, _, _, _, _, _, _, _, rfl, A4, by walk_at "hst", by walk_at "hst", by walk_at "hst", fun t ht => (hrow3 t ht).put (hne3 t ht), hput_same, hv2, okz, oky, hn2⟩
    · rintro δ' m' ⟨h2, z, y, x4, x7, x8, x9, x10, x11, x12, rfl, A, hd, hpr2, hpm2, hrow3, hs, hv, ok, ok2, hn20⟩
      have hraw := A.raw hpr2
      refine dss_cons (ds_expr ?_)
      refine de_bm md_append PySem.F.plainAttrs_list PySem.F.slot_list_append PySem.F.type_list_append ?_
      refine de_var 2 rfl (.inr (.inl rfl)) rfl ?_
      refine ⟨(by first | exact rfl | exact ⟨rfl, _, by walk_at "st"⟩ | exact ⟨rfl, _, by first | exact sput_same | assumption | exact (sput_ne (by assumption)).trans sput_same⟩), ?_⟩
      refine da_cons ?_
      refine de_var 6 rfl (.inl rfl) rfl ?_
      refine da_nil ?_
      refine ⟨pr, _, _, rfl, rfl, (A.raw hpr2), by have hz := sizeLine_eq; rw [List.length_map]; omega, ?_⟩
      have Aq := A.put (o' := .lst ((L.map fun t => D.ref t.1) ++ [D.ref ps3])) (p := pr) hpr2
      have hraw2 := Aq.raw (p := pm) (by walk_at "hst")
      refine dss_cons (ds_expr ?_)
      refine de_bm md_append PySem.F.plainAttrs_list PySem.F.slot_list_append PySem.F.type_list_append ?_
      refine de_var 3 rfl (.inl rfl) rfl ?_
      refine ⟨(by first | exact rfl | exact ⟨rfl, _, by walk_at "st"⟩ | exact ⟨rfl, _, by first | exact sput_same | assumption | exact (sput_ne (by assumption)).trans sput_same⟩), ?_⟩
      refine da_cons ?_
      refine de_var 5 rfl (.inl rfl) rfl ?_
      refine da_nil ?_
      refine ⟨pm, _, _, rfl, rfl, hraw2, by have hz := sizeLine_eq; rw [List.length_map]; omega, ?_⟩
      have Aq2 := Aq.put (o' := .lst ((L.map fun t => zD t.2.2) ++ [zD y])) (p := pm) (by walk_at "hst")
      refine dss_nil ?_
      exact ⟨_, L ++ [(ps3, z, y)], _, _, _, _, _, _, _, _, _, rfl, Aq2, by walk_at "hst", by rw [List.map_append]; walk_at "hst", by rw [List.map_append]; exact hput_same, fun t ht => by
          rcases List.mem_append.mp ht with e | e
          · exact ((hrow3 t e).put ((hrow3 t e).neA A hpr2)).put ((hrow3 t e).neA A hpm2)
          · rw [List.mem_singleton] at e
            subst e
            exact ⟨by walk_at "hst", hv, ok, ok2, hn20⟩, by rw [List.length_append, hlen]; rfl⟩
  · rintro δ' m' ⟨h, L, x4, x5, x6, x7, x8, x9, x10, x11, x12, rfl, A, hd, hpr2, hpm2, hrow, hlen⟩
    rw [rngD_len] at hlen
    obtain ⟨⟨a0, z0, y0⟩, ⟨a1, z1, y1⟩, rfl⟩ : ∃ t u, L = [t, u] := by
      match L, hlen with
      | [t, u], _ => exact ⟨t, u, rfl⟩
    have r0 := hrow (a0, z0, y0) List.mem_cons_self
    have r1 := hrow (a1, z1, y1) (List.mem_cons_of_mem _ List.mem_cons_self)
    clear hrow
    obtain ⟨s0, v0, k0, l0, n0⟩ := r0
    obtain ⟨s1, v1, k1, l1, n1⟩ := r1
    have hraw := A.raw hpr2
    have hraw2 := A.raw hpm2
    have hZ0 := A.sz s0
    have hZ1 := A.sz s1
    have hcg := Sz.eqB_congr k0 k1 l0 l1 v0 v1
    have hpa := Row.neD A hd s0
    refine dss_cons (ds_if ?_)
    refine dt_W ?_
    refine dw_or ?_
    refine dt_cmp od_ne ?_
    refine de_cmp (od_eqI km_Sizes___eq__ rfl) ?_
    refine de_ix ?_
    refine de_var 2 rfl (.inr (.inl rfl)) rfl ?_
    refine de_int ?_
    first | refine ixO 0 hraw rfl ?_ | refine ixO 0 hrawb rfl ?_ | refine ixO 0 hrawd rfl ?_
    refine de_ix ?_
    refine de_var 2 rfl (.inr (.inl rfl)) rfl ?_
    refine de_int ?_
    refine ixO 1 hraw rfl ?_
    refine eqI_go hZ0 hZ1 ?_
    refine de_cmp od_eqN ?_
    refine de_ix ?_
    refine de_var 3 rfl (.inl rfl) rfl ?_
    refine de_int ?_
    first | refine ixO 0 hraw2 rfl ?_ | refine ixO 0 hrawc rfl ?_
    refine de_ix ?_
    refine de_var 3 rfl (.inl rfl) rfl ?_
    refine de_int ?_
    refine ixO 1 hraw2 rfl ?_
    refine eqZ_go l0 ?_
    refine ne_same hcg ?_
    refine tb ?_
    refine br.f ?_
    refine dw_one_or ?_
    refine dt_cmp od_ne ?_
    refine de_cmp (od_neI km_Sizes___eq__ ne_Sizes rfl) ?_
    refine de_ix ?_
    refine de_var 2 rfl (.inr (.inl rfl)) rfl ?_
    refine de_int ?_
    first | refine ixO 0 hraw rfl ?_ | refine ixO 0 hrawb rfl ?_ | refine ixO 0 hrawd rfl ?_
    refine de_ix ?_
    refine de_var 2 rfl (.inr (.inl rfl)) rfl ?_
    refine de_int ?_
    refine ixO 1 hraw rfl ?_
    obtain ⟨u1, u2, i1, i2, i3, i4⟩ := id hZ0
    obtain ⟨w1, w2, j1, j2, j3, j4⟩ := id hZ1
    refine ⟨_, _, _, _, rfl, rfl, i1, j1, _, _, z0, z1, rfl, hZ0, hZ1, _, rfl, ?_⟩
    refine de_cmp od_neN ?_
    refine de_ix ?_
    refine de_var 3 rfl (.inl rfl) rfl ?_
    refine de_int ?_
    first | refine ixO 0 hraw2 rfl ?_ | refine ixO 0 hrawc rfl ?_
    refine de_ix ?_
    refine de_var 3 rfl (.inl rfl) rfl ?_
    refine de_int ?_
    refine ixO 1 hraw2 rfl ?_
    refine neZ_go l0 ?_
    refine ne_same (congrArg not hcg) ?_
    refine tb ?_
    refine br.f ?_
    refine dss_nil ?_
    refine dss_cons (ds_if ?_)
    refine dt_W ?_
    refine dw_or ?_
    refine dt_val ?_
    refine de_callB cd_any rfl m_any bt_any ?_
    refine da_cons ?_
    refine de_lc [("_law_other", 8)] (show blkC ["_law_script", "_law_draw", "_law_rows", "_law_models", "_law_turn", "_law_z_here", "_law_sizes", "_law_k", "_law_other", "_law_twins", "_law_kept", "_law_one", "_law_at"] (defScope s_law) _ [("_law_other", 8)] = true from by decide +kernel) ?_
    refine di_tup ?_
    refine de_tup ?_
    refine da_cons ?_
    refine de_str ?_
    refine da_cons ?_
    refine de_int ?_
    refine da_cons ?_
    refine de_non ?_
    refine da_nil ?_
    refine ⟨sz_lit rfl, ?_⟩
    refine ⟨_, rfl, ?_⟩
    refine ⟨fun j acc m2 => acc = List.replicate j (D.bl false) ∧ m' = m2, ?_, ?_, ?_⟩
    · exact ⟨rfl, rfl⟩
    · rintro j d acc m2 hjd ⟨rfl, rfl⟩
      have hj3 := (List.getElem?_eq_some_iff.mp hjd).1
      simp only [List.length_cons, List.length_nil] at hj3
      obtain ⟨t, ht, hnf, hk⟩ : ∃ t, tyD d = some t ∧ TyNF t ∧ PySem.W.kitOne K (.type t) (.ref c_Sizes) = some false := by
        match j, hjd with
        | 0, h => cases Option.some.inj h; exact ⟨_, rfl, nf_str, kt_str_Sizes⟩
        | 1, h => cases Option.some.inj h; exact ⟨_, rfl, nf_int, kt_int_Sizes⟩
        | 2, h => cases Option.some.inj h; exact ⟨_, rfl, nf_none, kt_NoneType_Sizes⟩
      refine dgv_name 8 (by decide) rfl (.inl rfl) ?_
      refine dts_nil ?_
      refine br.t ?_
      refine de_cmp (od_eqX km_Sizes___eq___X rfl) ?_
      refine de_ix ?_
      refine de_var 2 rfl (by first | exact .inl rfl | exact .inr (.inl rfl) | exact .inr (.inr rfl)) rfl ?_
      refine de_int ?_
      first | refine ixO 0 hraw rfl ?_ | refine ixO 0 hrawb rfl ?_ | refine ixO 0 hrawd rfl ?_
      refine de_var 8 rfl (.inl rfl) rfl ?_
      refine eqX_go hZ0 ht hnf hk ?_
      refine ⟨by have hz := sizeLine_eq; rw [List.length_replicate]; omega, ?_, rfl⟩
      rw [List.replicate_succ']
    · rintro acc m2 ⟨rfl, rfl⟩
      refine da_nil ?_
      refine ⟨_, [false, false, false], rfl, rfl, ?_⟩
      refine tb ?_
      refine br.f ?_
      refine dw_or ?_
      refine dt_cmp (od_eqX km_Sizes___eq___X rfl) ?_
      refine de_ix ?_
      refine de_var 2 rfl (.inr (.inl rfl)) rfl ?_
      refine de_int ?_
      first | refine ixO 0 hraw rfl ?_ | refine ixO 0 hrawb rfl ?_ | refine ixO 0 hrawd rfl ?_
      refine de_lst ?_
      refine da_cons ?_
      refine de_int ?_
      refine da_nil ?_
      refine ⟨sz_lit rfl, ?_⟩
      refine eqX_go (t := "list") hZ0 rfl nf_list kt_list_Sizes ?_
      refine tb ?_
      refine br.f ?_
      refine dw_one_or ?_
      refine dt_not ?_
      refine dt_cmp (od_eqI km_Sizes___eq__ rfl) ?_
      refine de_ix ?_
      refine de_var 2 rfl (.inr (.inl rfl)) rfl ?_
      refine de_int ?_
      first | refine ixO 0 hraw rfl ?_ | refine ixO 0 hrawb rfl ?_ | refine ixO 0 hrawd rfl ?_
      refine de_ix ?_
      refine de_var 2 rfl (.inr (.inl rfl)) rfl ?_
      refine de_int ?_
      first | refine ixO 0 hraw rfl ?_ | refine ixO 0 hrawb rfl ?_ | refine ixO 0 hrawd rfl ?_
      refine eqI_go hZ0 hZ0 ?_
      rw [(Sz.eqB_iff k0 k0).mpr (Sz.Eqv.refl _)]
      refine tb ?_
      refine br.f ?_
      refine dss_nil ?_
      refine dss_cons (ds_set 9 rfl (.inr rfl) ?_)
      refine de_lst ?_
      refine da_cons ?_
      refine de_ix ?_
      refine de_var 2 rfl (.inr (.inl rfl)) rfl ?_
      refine de_int ?_
      first | refine ixO 0 hraw rfl ?_ | refine ixO 0 hrawb rfl ?_ | refine ixO 0 hrawd rfl ?_
      refine da_cons ?_
      refine de_meth0 km_Sizes_twin ic_Sizes.cl rfl ?_
      refine de_ix ?_
      refine de_var 2 rfl (.inr (.inl rfl)) rfl ?_
      refine de_int ?_
      first | refine ixO 0 hraw rfl ?_ | refine ixO 0 hrawb rfl ?_ | refine ixO 0 hrawd rfl ?_
      refine meth_at (by walk_at "insx") ?_
      refine ⟨_, _, z0, rfl, A, s0, k0, fun q1 mt1 hq1 At1 => ?_⟩
      have e1 : pr ≠ q1 := G.hne hpr2 hq1
      have e2 : a0 ≠ q1 := G.hne s0 hq1
      have hrawb := At1.raw (p := pr) ((hput_ne e1).trans hpr2)
      refine da_cons ?_
      refine de_meth0 km_Sizes_twin ic_Sizes.cl rfl ?_
      refine de_meth0 km_Sizes_twin ic_Sizes.cl rfl ?_
      refine de_ix ?_
      refine de_var 2 rfl (.inr (.inl rfl)) rfl ?_
      refine de_int ?_
      first | refine ixO 0 hraw rfl ?_ | refine ixO 0 hrawb rfl ?_ | refine ixO 0 hrawd rfl ?_
      refine meth_at (by walk_at "insx") ?_
      refine ⟨_, _, z0, rfl, At1, (hput_ne e2).trans s0, k0, fun q2 mt2 hq2 At2 => ?_⟩
      have e12 : q1 ≠ q2 := G.hne hput_same hq2
      have e4 : pr ≠ q2 := G.hne ((hput_ne e1).trans hpr2) hq2
      have e5 : a0 ≠ q2 := G.hne ((hput_ne e2).trans s0) hq2
      refine meth_at (by walk_at "insx") ?_
      refine ⟨_, _, z0, rfl, At2, hput_same, k0, fun q3 mt3 hq3 At3 => ?_⟩
      have e13 : q1 ≠ q3 := G.hne ((hput_ne e12).trans hput_same) hq3
      have e6 : a0 ≠ q3 := G.hne ((hput_ne e5).trans ((hput_ne e2).trans s0)) hq3
      have hpr4 := (hput_ne (b := bSz c_Sizes z0) (G.hne ((hput_ne e4).trans ((hput_ne e1).trans hpr2)) hq3)).trans ((hput_ne (b := bSz c_Sizes z0) e4).trans ((hput_ne (b := bSz c_Sizes z0) e1).trans hpr2))
      have f1 : pm ≠ q1 := G.hne hpm2 hq1
      have f2 : pm ≠ q2 := G.hne ((hput_ne f1).trans hpm2) hq2
      have f3 : pm ≠ q3 := G.hne ((hput_ne f2).trans ((hput_ne f1).trans hpm2)) hq3
      have hrawc := At3.raw (p := pm) ((hput_ne f3).trans ((hput_ne f2).trans ((hput_ne f1).trans hpm2)))
      have g1 : p ≠ q1 := G.hne hd hq1
      have g2 : p ≠ q2 := G.hne ((hput_ne g1).trans hd) hq2
      have g3 : p ≠ q3 := G.hne ((hput_ne g2).trans ((hput_ne g1).trans hd)) hq3
      have hd3 := (hput_ne (b := bSz c_Sizes z0) g3).trans ((hput_ne (b := bSz c_Sizes z0) g2).trans ((hput_ne (b := bSz c_Sizes z0) g1).trans hd))
      have sa := (hput_ne (b := bSz c_Sizes z0) e6).trans ((hput_ne (b := bSz c_Sizes z0) e5).trans ((hput_ne (b := bSz c_Sizes z0) e2).trans s0))
      have sb := (hput_ne (b := bSz c_Sizes z0) e13).trans ((hput_ne (b := bSz c_Sizes z0) e12).trans (hput_same (h := h) (p := q1) (b := bSz c_Sizes z0)))
      obtain ⟨h3, hh3⟩ : ∃ x, x = hput (hput (hput h q1 (bSz c_Sizes z0)) q2 (bSz c_Sizes z0)) q3 (bSz c_Sizes z0) := ⟨_, rfl⟩
      have sc : h3 q3 = some (bSz c_Sizes z0) := by rw [hh3]; exact hput_same
      rw [← hh3] at At3 hpr4 hd3 sa sb
      refine da_nil ?_
      refine ⟨sz_lit rfl, ?_⟩
      refine dss_cons (ds_set 10 rfl (.inr rfl) ?_)
      refine de_bin od_repM ?_
      refine de_lst ?_
      refine da_cons ?_
      refine de_ix ?_
      refine de_var 3 rfl (.inl rfl) rfl ?_
      refine de_int ?_
      first | refine ixO 0 hraw2 rfl ?_ | refine ixO 0 hrawc rfl ?_
      refine da_nil ?_
      refine ⟨sz_lit rfl, ?_⟩
      refine de_int ?_
      refine ⟨_, _, rfl, rfl, by omega, by omega, by have hz := sizeLine_eq; simp only [List.length_cons, List.length_nil]; omega, fun pk hpk => ?_⟩
      rw [show (List.replicate (3 : Int).toNat [zD y0]).flatten = [zD y0, zD y0, zD y0] from rfl]
      have Ak := At3.newRaw (o := .lst [zD y0, zD y0, zD y0]) hpk
      have hk0 := Abs.none At3 hpk
      have hrawd := Ak.raw (p := pr) ((hput_ne (G.hne hpr4 hk0)).trans hpr4)
      have ga : a0 ≠ pk := G.hne sa hk0
      have gb : q1 ≠ pk := G.hne sb hk0
      have gc : q3 ≠ pk := G.hne sc hk0
      have gp : p ≠ pk := G.hne hd3 hk0
      have za := Ak.sz ((hput_ne ga).trans sa)
      have zb := Ak.sz ((hput_ne gb).trans sb)
      have zc := Ak.sz ((hput_ne gc).trans sc)
      obtain ⟨m4, hm4⟩ : ∃ x, x = sput mt3 pk (.lst [zD y0, zD y0, zD y0]) := ⟨_, rfl⟩
      rw [← hm4] at Ak hrawd za zb zc ⊢
      refine dss_cons (ds_if ?_)
      refine dt_not ?_
      refine dt_val ?_
      refine de_callB cd_all rfl m_all bt_all ?_
      refine da_cons ?_
      refine de_lc [("_law_one", 11)] (show blkC ["_law_script", "_law_draw", "_law_rows", "_law_models", "_law_turn", "_law_z_here", "_law_sizes", "_law_k", "_law_other", "_law_twins", "_law_kept", "_law_one", "_law_at"] (defScope s_law) _ [("_law_one", 11)] = true from by decide +kernel) ?_
      refine di_lst ?_
      refine de_var 9 rfl (.inr (.inl rfl)) rfl ?_
      refine ⟨_, rfl, ?_⟩
      refine ⟨fun j acc m2 => acc = List.replicate j (D.bl true) ∧ m4 = m2, ?_, ?_, ?_⟩
      · exact ⟨rfl, rfl⟩
      · rintro j d acc m2 hjd ⟨rfl, rfl⟩
        have hj3 := (List.getElem?_eq_some_iff.mp hjd).1
        simp only [List.length_cons, List.length_nil] at hj3
        obtain ⟨t, rfl, hT⟩ : ∃ t, d = D.ref t ∧ SzAt c_Sizes m4 t z0 := by
          match j, hjd with
          | 0, h => exact ⟨_, (Option.some.inj h).symm, za⟩
          | 1, h => exact ⟨_, (Option.some.inj h).symm, zb⟩
          | 2, h => exact ⟨_, (Option.some.inj h).symm, zc⟩
        refine dgv_name 11 (by decide) rfl (.inl rfl) ?_
        refine dts_nil ?_
        refine br.t ?_
        refine de_pe (pe_and2 (k0 := ?k240) (k1 := ?k241) (fun W Q q => ?a242) (fun h244 W Q q => ?a243)) ?b239
        case a242 =>
          refine de_cmp (od_eqI km_Sizes___eq__ rfl) ?_
          refine de_var 11 rfl (.inl rfl) rfl ?_
          refine de_ix ?_
          refine de_var 2 rfl (by first | exact .inl rfl | exact .inr (.inl rfl) | exact .inr (.inr rfl)) rfl ?_
          refine de_int ?_
          first | refine ixO 0 hraw rfl ?_ | refine ixO 0 hrawb rfl ?_ | refine ixO 0 hrawd rfl ?_
          refine eqI_go hT za ?_
          rw [(Sz.eqB_iff k0 k0).mpr (Sz.Eqv.refl _)]
          exact q
        case a243 =>
          (try simp only [decide_eq_true_eq, decide_eq_false_iff_not, Bool.and_eq_true, Bool.or_eq_true, Bool.not_eq_true', Bool.and_eq_false_iff, Bool.or_eq_false_iff, Bool.not_eq_false', Bool.not_eq_true, Bool.not_eq_false, Int.not_lt, Int.not_le] at h244)
          refine de_cmp (od_eqI km_Sizes___eq__ rfl) ?_
          refine de_ix ?_
          refine de_var 2 rfl (by first | exact .inl rfl | exact .inr (.inl rfl) | exact .inr (.inr rfl)) rfl ?_
          refine de_int ?_
          first | refine ixO 0 hraw rfl ?_ | refine ixO 0 hrawb rfl ?_ | refine ixO 0 hrawd rfl ?_
          refine de_var 11 rfl (.inl rfl) rfl ?_
          refine eqI_go za hT ?_
          rw [(Sz.eqB_iff k0 k0).mpr (Sz.Eqv.refl _)]
          exact q
        case b239 =>
          refine ⟨by have hz := sizeLine_eq; rw [List.length_replicate]; omega, ?_, rfl⟩
          rw [List.replicate_succ']
          rfl
      · rintro acc m2 ⟨rfl, rfl⟩
        refine da_nil ?_
        refine ⟨_, [true, true, true], rfl, rfl, ?_⟩
        refine tb ?_
        refine br.f ?_
        refine dss_nil ?_
        refine dss_cons (ds_for ?_)
        refine di_rng1 rfl m_range ?_
        refine de_int ?_
        refine ⟨_, rfl, ?_, ?_, ?_⟩
        · walk_at "side"
        · walk_at "side"
        refine ⟨fun i δ' m' => ∃ h, ∃ L : List (Addr × Sz × Sz), ∃ x4 x5 x6 x7 x8 x11 x12, δ' = [some (.frz (ns.map D.int)), some (.ref p), some (.ref pr), some (.ref pm), x4, x5, x6, x7, x8, some (.lst [.ref a0, .ref q1, .ref q3]), some (.ref pk), x11, x12] ∧ Abs h m' ∧ h p = some bDraw ∧ h pk = some (bRaw (.lst (L.map fun t => zD t.2.2))) ∧ L.map (·.1) = [a0, q1, q3] ∧ ∀ t ∈ L, Row c_Sizes h t, ?_, ?_, ?_⟩
        · exact ⟨_, [(a0, z0, y0), (q1, z0, y0), (q3, z0, y0)], _, _, _, _, _, _, _, rfl, Ak, (hput_ne gp).trans hd3, hput_same, rfl, fun t ht => by
              simp only [List.mem_cons, List.not_mem_nil, or_false] at ht
              rcases ht with rfl | rfl | rfl
              · exact ⟨(hput_ne ga).trans sa, v0, k0, l0, n0⟩
              · exact ⟨(hput_ne gb).trans sb, v0, k0, l0, n0⟩
              · exact ⟨(hput_ne gc).trans sc, v0, k0, l0, n0⟩⟩
        · rintro i d δ' m' hi' ⟨h5, L, x4, x5, x6, x7, x8, x11, x12, rfl, A, hd5, hk5, hL, hrow⟩
          obtain ⟨hlt, rfl⟩ := rngD_get hi'
          have hl3 : L.length = 3 := by rw [← List.length_map (f := fun t : Addr × Sz × Sz => t.1), hL]; rfl
          refine dg_name 4 rfl (.inl rfl) ?_
          refine dss_cons (ds_set 7 rfl (.inl rfl) ?_)
          refine de_call kn__law_pick rfl rfl ?_
          refine da_cons ?_
          refine de_var 1 rfl (.inl rfl) rfl ?_
          refine da_cons ?_
          refine de_int ?_
          refine da_nil ?_
          refine use_pickH (by assumption) (by walk_at "hst") (by walk_at "side") (by walk_at "side") (fun r4 m4 r4a r4b A4 => ?_)
          refine dss_cons (ds_setitem ?_)
          refine de_call kn__law_turned rfl rfl ?_
          refine da_cons ?_
          refine de_var 1 rfl (.inl rfl) rfl ?_
          refine da_cons ?_
          refine de_ix ?_
          refine de_var 9 rfl (.inr (.inl rfl)) rfl ?_
          refine de_var 7 rfl (.inl rfl) rfl ?_
          obtain ⟨t, ht0⟩ : ∃ t, L[r4.toNat]? = some t := ⟨L[r4.toNat], List.getElem?_eq_getElem (by omega)⟩
          have htm := List.mem_of_getElem? ht0
          have hr := hrow t htm
          have hta : [a0, q1, q3][r4.toNat]? = some t.1 := by rw [← hL, List.getElem?_map, ht0]; rfl
          have hpt : p ≠ t.1 := Row.neD A hd5 hr.at_
          have hkt : t.1 ≠ pk := hr.neA A hk5
          refine ixLi (d := .ref t.1) r4a (by rw [show [D.ref a0, .ref q1, .ref q3] = [a0, q1, q3].map D.ref from rfl, List.getElem?_map, hta]; rfl) ?_
          refine da_cons ?_
          refine de_ix ?_
          refine de_var 10 rfl (.inr (.inl rfl)) rfl ?_
          refine de_var 7 rfl (.inl rfl) rfl ?_
          refine ixOi (d := zD t.2.2) r4a (A4.raw (p := pk) hk5) (by rw [List.getElem?_map, ht0]; rfl) ?_
          refine da_nil ?_
          refine ⟨_, _, _, t.2.1, t.2.2, rfl, A4, hd5, hr.at_, hpt, hr.eqv, hr.ok, hr.ok2, hr.n20, fun z2 y2 m6 hv2 okz oky hn2 A6 => ?_⟩
          refine de_var 10 rfl (.inr (.inl rfl)) rfl ?_
          refine de_var 7 rfl (.inl rfl) rfl ?_
          refine set_i r4a (A6.raw (p := pk) ((hput_ne (Ne.symm hkt)).trans hk5)) (by rw [List.length_map]; omega) ?_
          have A7 := A6.put (o' := .lst ((L.set r4.toNat (t.1, z2, y2)).map fun t => zD t.2.2)) (p := pk) ((hput_ne (Ne.symm hkt)).trans hk5)
          rw [show (L.map fun t => zD t.2.2).set r4.toNat (zD y2) = (L.set r4.toNat (t.1, z2, y2)).map fun t => zD t.2.2 from by simp only [List.map_set]]
          obtain ⟨hL7, hrow7⟩ := Row.turn (b := bRaw (.lst ((L.set r4.toNat (t.1, z2, y2)).map fun t => zD t.2.2))) hL (List.nodup_cons.mpr ⟨by simp [e2, e6], List.nodup_cons.mpr ⟨by simp [e13], by simp⟩⟩) ht0 hrow (fun u hu => (hrow u hu).neA A hk5) hv2 okz oky hn2
          obtain ⟨m7, hm7⟩ : ∃ x, x = sput m6 pk (.lst ((L.set r4.toNat (t.1, z2, y2)).map fun t => zD t.2.2)) := ⟨_, rfl⟩
          have hd7 : hput (hput h5 t.1 (bSz c_Sizes z2)) pk (bRaw (.lst ((L.set r4.toNat (t.1, z2, y2)).map fun t => zD t.2.2))) p = some bDraw := (hput_ne gp).trans ((hput_ne hpt).trans hd5)
          obtain ⟨L7, hL9⟩ : ∃ x, x = L.set r4.toNat (t.1, z2, y2) := ⟨_, rfl⟩
          obtain ⟨h7, hh7⟩ : ∃ x, x = hput (hput h5 t.1 (bSz c_Sizes z2)) pk (bRaw (.lst ((L.set r4.toNat (t.1, z2, y2)).map fun t => zD t.2.2))) := ⟨_, rfl⟩
          have hk7 : h7 pk = some (bRaw (.lst (L7.map fun t => zD t.2.2))) := by rw [hh7, hL9]; exact hput_same
          rw [← hm7, ← hh7] at A7
          rw [← hh7] at hd7 hrow7
          rw [← hL9] at hL7 hrow7
          rw [← hm7]
          have hl7 : L7.length = 3 := by rw [← List.length_map (f := fun t : Addr × Sz × Sz => t.1), hL7]; rfl
          refine dss_cons (ds_if ?_)
          refine dt_not ?_
          refine dt_val ?_
          refine de_callB cd_all rfl m_all bt_all ?_
          refine da_cons ?_
          refine de_lc [("_law_at", 12)] (show blkC ["_law_script", "_law_draw", "_law_rows", "_law_models", "_law_turn", "_law_z_here", "_law_sizes", "_law_k", "_law_other", "_law_twins", "_law_kept", "_law_one", "_law_at"] (defScope s_law) _ [("_law_at", 12)] = true from by decide +kernel) ?_
          refine di_rng1 rfl m_range ?_
          refine de_int ?_
          refine ⟨_, rfl, ?_, ?_, ?_⟩
          · walk_at "side"
          · walk_at "side"
          refine ⟨fun j acc m2 => acc = List.replicate j (D.bl true) ∧ m7 = m2, ?_, ?_, ?_⟩
          · exact ⟨rfl, rfl⟩
          · rintro j d acc m2 hjd ⟨rfl, rfl⟩
            obtain ⟨hlt3, rfl⟩ := rngD_get hjd
            have hj3 : j < 3 := by omega
            obtain ⟨t, ht0⟩ : ∃ t, L7[j]? = some t := ⟨L7[j], List.getElem?_eq_getElem (by omega)⟩
            have hr := hrow7 t (List.mem_of_getElem? ht0)
            have hta : [a0, q1, q3][j]? = some t.1 := by rw [← hL7, List.getElem?_map, ht0]; rfl
            refine dgv_name 12 (by decide) rfl (.inl rfl) ?_
            refine dts_nil ?_
            refine br.t ?_
            refine de_call kn__law_z_stands rfl rfl ?_
            refine da_cons ?_
            refine de_ix ?_
            refine de_var 9 rfl (by first | exact .inl rfl | exact .inr (.inl rfl) | exact .inr (.inr rfl)) rfl ?_
            refine de_var 12 rfl (.inl rfl) rfl ?_
            refine ixLi (d := .ref t.1) (by omega) (by rw [show (0 + (j : Int)).toNat = j by omega, show [D.ref a0, .ref q1, .ref q3] = [a0, q1, q3].map D.ref from rfl, List.getElem?_map, hta]; rfl) ?_
            refine da_cons ?_
            refine de_ix ?_
            refine de_var 10 rfl (by first | exact .inl rfl | exact .inr (.inl rfl) | exact .inr (.inr rfl)) rfl ?_
            refine de_var 12 rfl (.inl rfl) rfl ?_
            refine ixOi (d := zD t.2.2) (by omega) (A7.raw (p := pk) hk7) (by rw [show (0 + (j : Int)).toNat = j by omega, List.getElem?_map, ht0]; rfl) ?_
            refine da_cons ?_
            refine de_lst ?_
            refine da_cons ?_
            refine de_int ?_
            refine da_cons ?_
            refine de_int ?_
            refine da_cons ?_
            refine de_int ?_
            refine da_nil ?_
            refine ⟨sz_lit rfl, ?_⟩
            refine da_nil ?_
            refine ⟨_, [0, 1, 2], t.2.1, t.2.2, rfl, by decide, A7.sz hr.at_, hr.eqv, hr.ok, hr.ok2, ?_⟩
            refine ⟨by have hz := sizeLine_eq; rw [List.length_replicate]; omega, ?_, rfl⟩
            rw [List.replicate_succ']
          · rintro acc m2 ⟨rfl, rfl⟩
            refine da_nil ?_
            refine ⟨_, [true, true, true], rfl, rfl, ?_⟩
            refine tb ?_
            refine br.f ?_
            refine dss_nil ?_
            refine dss_nil ?_
            exact ⟨h7, L7, _, _, _, _, _, _, _, rfl, A7, hd7, hk7, hL7, hrow7⟩
        · rintro δ' m' ⟨h5, L, x4, x5, x6, x7, x8, x11, x12, rfl, A, hd5, hk5, hL, hrow⟩
          refine dss_cons (ds_ret ?_)
          refine de_bl ?_
          exact hq _
end
end K06

set_option maxHeartbeats 0
namespace K06
open PySem PySem.Spec PyProof.Rows L2 G
def d__law_begin : He.DefD := ⟨("_law_begin", none), "_law_begin", "_law_begin", defArgs s__law_begin, defBody s__law_begin, defScope s__law_begin, [], []⟩
def d__law_pick : He.DefD := ⟨("_law_pick", none), "_law_pick", "_law_pick", defArgs s__law_pick, defBody s__law_pick, defScope s__law_pick, [], []⟩
def d__law_same : He.DefD := ⟨("_law_same", none), "_law_same", "_law_same", defArgs s__law_same, defBody s__law_same, defScope s__law_same, [], []⟩
def d_need_size : He.DefD := ⟨("need_size", none), "need_size", "need_size", defArgs s_need_size, defBody s_need_size, defScope s_need_size, [], []⟩
def d_Sizes_need : He.DefD := ⟨("Sizes", some "need"), "need", "Sizes.need", defArgs s_Sizes_need, defBody s_Sizes_need, defScope s_Sizes_need, [], []⟩
def d_Sizes_odd : He.DefD := ⟨("Sizes", some "odd"), "odd", "Sizes.odd", defArgs s_Sizes_odd, defBody s_Sizes_odd, defScope s_Sizes_odd, [], []⟩
def d_Sizes_own : He.DefD := ⟨("Sizes", some "own"), "own", "Sizes.own", defArgs s_Sizes_own, defBody s_Sizes_own, defScope s_Sizes_own, [], []⟩
def d_Sizes_hidden : He.DefD := ⟨("Sizes", some "hidden"), "hidden", "Sizes.hidden", defArgs s_Sizes_hidden, defBody s_Sizes_hidden, defScope s_Sizes_hidden, [], []⟩
def d_Sizes_size : He.DefD := ⟨("Sizes", some "size"), "size", "Sizes.size", defArgs s_Sizes_size, defBody s_Sizes_size, defScope s_Sizes_size, [], []⟩
def d_Sizes_ahead : He.DefD := ⟨("Sizes", some "ahead"), "ahead", "Sizes.ahead", defArgs s_Sizes_ahead, defBody s_Sizes_ahead, defScope s_Sizes_ahead, [], []⟩
def d_Sizes_total : He.DefD := ⟨("Sizes", some "total"), "total", "Sizes.total", defArgs s_Sizes_total, defBody s_Sizes_total, defScope s_Sizes_total, [], []⟩
def d_Sizes_exceptions : He.DefD := ⟨("Sizes", some "exceptions"), "exceptions", "Sizes.exceptions", defArgs s_Sizes_exceptions, defBody s_Sizes_exceptions, defScope s_Sizes_exceptions, [], []⟩
def d_Sizes___repr__ : He.DefD := ⟨("Sizes", some "__repr__"), "__repr__", "Sizes.__repr__", defArgs s_Sizes___repr__, defBody s_Sizes___repr__, defScope s_Sizes___repr__, [], []⟩
def d_Sizes___init__ : He.DefD := ⟨("Sizes", some "__init__"), "__init__", "Sizes.__init__", defArgs s_Sizes___init__, defBody s_Sizes___init__, defScope s_Sizes___init__, [], [("common", .int 1)]⟩
def d_Sizes_need_room : He.DefD := ⟨("Sizes", some "need_room"), "need_room", "Sizes.need_room", defArgs s_Sizes_need_room, defBody s_Sizes_need_room, defScope s_Sizes_need_room, [], []⟩
def d_Sizes_give : He.DefD := ⟨("Sizes", some "give"), "give", "Sizes.give", defArgs s_Sizes_give, defBody s_Sizes_give, defScope s_Sizes_give, [], []⟩
def d_Sizes_hide : He.DefD := ⟨("Sizes", some "hide"), "hide", "Sizes.hide", defArgs s_Sizes_hide, defBody s_Sizes_hide, defScope s_Sizes_hide, [], []⟩
def d_Sizes_show : He.DefD := ⟨("Sizes", some "show"), "show", "Sizes.show", defArgs s_Sizes_show, defBody s_Sizes_show, defScope s_Sizes_show, [], []⟩
def d_Sizes_look_put : He.DefD := ⟨("Sizes", some "look_put"), "look_put", "Sizes.look_put", defArgs s_Sizes_look_put, defBody s_Sizes_look_put, defScope s_Sizes_look_put, [], []⟩
def d_Sizes_look_stretch : He.DefD := ⟨("Sizes", some "look_stretch"), "look_stretch", "Sizes.look_stretch", defArgs s_Sizes_look_stretch, defBody s_Sizes_look_stretch, defScope s_Sizes_look_stretch, [], []⟩
def d_Sizes_look_cut : He.DefD := ⟨("Sizes", some "look_cut"), "look_cut", "Sizes.look_cut", defArgs s_Sizes_look_cut, defBody s_Sizes_look_cut, defScope s_Sizes_look_cut, [], []⟩
def d_Sizes_put : He.DefD := ⟨("Sizes", some "put"), "put", "Sizes.put", defArgs s_Sizes_put, defBody s_Sizes_put, defScope s_Sizes_put, [], []⟩
def d_Sizes_cut : He.DefD := ⟨("Sizes", some "cut"), "cut", "Sizes.cut", defArgs s_Sizes_cut, defBody s_Sizes_cut, defScope s_Sizes_cut, [], []⟩
def d_Sizes_twin : He.DefD := ⟨("Sizes", some "twin"), "twin", "Sizes.twin", defArgs s_Sizes_twin, defBody s_Sizes_twin, defScope s_Sizes_twin, [], []⟩
def d_Sizes___eq__ : He.DefD := ⟨("Sizes", some "__eq__"), "__eq__", "Sizes.__eq__", defArgs s_Sizes___eq__, defBody s_Sizes___eq__, defScope s_Sizes___eq__, [], []⟩
def d__law_z : He.DefD := ⟨("_law_z", none), "_law_z", "_law_z", defArgs s__law_z, defBody s__law_z, defScope s__law_z, [], []⟩
def d__law_z_odd : He.DefD := ⟨("_law_z_odd", none), "_law_z_odd", "_law_z_odd", defArgs s__law_z_odd, defBody s__law_z_odd, defScope s__law_z_odd, [], []⟩
def d__law_z_size : He.DefD := ⟨("_law_z_size", none), "_law_z_size", "_law_z_size", defArgs s__law_z_size, defBody s__law_z_size, defScope s__law_z_size, [], []⟩
def d__law_z_ahead : He.DefD := ⟨("_law_z_ahead", none), "_law_z_ahead", "_law_z_ahead", defArgs s__law_z_ahead, defBody s__law_z_ahead, defScope s__law_z_ahead, [], []⟩
def d__law_z_with : He.DefD := ⟨("_law_z_with", none), "_law_z_with", "_law_z_with", defArgs s__law_z_with, defBody s__law_z_with, defScope s__law_z_with, [], []⟩
def d__law_z_set : He.DefD := ⟨("_law_z_set", none), "_law_z_set", "_law_z_set", defArgs s__law_z_set, defBody s__law_z_set, defScope s__law_z_set, [], []⟩
def d__law_z_hide : He.DefD := ⟨("_law_z_hide", none), "_law_z_hide", "_law_z_hide", defArgs s__law_z_hide, defBody s__law_z_hide, defScope s__law_z_hide, [], []⟩
def d__law_go_on : He.DefD := ⟨("_law_go_on", none), "_law_go_on", "_law_go_on", defArgs s__law_go_on, defBody s__law_go_on, defScope s__law_go_on, [], []⟩
def d__law_z_on : He.DefD := ⟨("_law_z_on", none), "_law_z_on", "_law_z_on", defArgs s__law_z_on, defBody s__law_z_on, defScope s__law_z_on, [], []⟩
def d__law_z_put : He.DefD := ⟨("_law_z_put", none), "_law_z_put", "_law_z_put", defArgs s__law_z_put, defBody s__law_z_put, defScope s__law_z_put, [], []⟩
def d__law_z_cut : He.DefD := ⟨("_law_z_cut", none), "_law_z_cut", "_law_z_cut", defArgs s__law_z_cut, defBody s__law_z_cut, defScope s__law_z_cut, [], []⟩
def d__law_z_stands : He.DefD := ⟨("_law_z_stands", none), "_law_z_stands", "_law_z_stands", defArgs s__law_z_stands, defBody s__law_z_stands, defScope s__law_z_stands, [], []⟩
def d__law_turned : He.DefD := ⟨("_law_turned", none), "_law_turned", "_law_turned", defArgs s__law_turned, defBody s__law_turned, defScope s__law_turned, [], []⟩
def d_law : He.DefD := ⟨("law", none), "law", "law", defArgs s_law, defBody s_law, defScope s_law, [], []⟩
def fn0 : List He.DefD := [d__law_begin, d__law_pick, d__law_same, d_need_size, d_Sizes_need, d_Sizes_odd, d_Sizes_own, d_Sizes_hidden, d_Sizes_size, d_Sizes_ahead, d_Sizes_total, d_Sizes_exceptions, d_Sizes___repr__, d_Sizes___init__, d_Sizes_need_room, d_Sizes_give, d_Sizes_hide, d_Sizes_show, d_Sizes_look_put, d_Sizes_look_stretch]
def fn1 : List He.DefD := [d_Sizes_look_cut, d_Sizes_put, d_Sizes_cut, d_Sizes_twin, d_Sizes___eq__, d__law_z, d__law_z_odd, d__law_z_size, d__law_z_ahead, d__law_z_with, d__law_z_set, d__law_z_hide, d__law_go_on, d__law_z_on, d__law_z_put, d__law_z_cut, d__law_z_stands, d__law_turned, d_law]
def fn : List He.DefD := fn0 ++ fn1
def fa0 : List He.Fa := [.glo "_law_begin", .glo "_law_pick", .glo "_law_same", .glo "need_size", .glo "_law_z", .glo "_law_z_odd", .glo "_law_z_size", .glo "_law_z_ahead", .glo "_law_z_with", .glo "_law_z_set", .glo "_law_z_hide", .glo "_law_go_on", .glo "_law_z_on", .glo "_law_z_put", .glo "_law_z_cut", .glo "_law_z_stands", .glo "_law_turned", .glo "law", .glo "BadSize", .glo "BadMany"]
def fa1 : List He.Fa := [.glo "Full", .glo "NoIndex", .glo "Sizes", .free "list", .free "len", .free "isinstance", .free "bool", .free "int", .free "str", .free "tuple", .free "all", .free "range", .free "sorted", .free "set", .free "sum", .free "dict", .free "repr", .free "any", .exc "BadSize", .exc "BadMany"]
def fa2 : List He.Fa := [.exc "Full", .int "LEAST" 1, .int "GREATEST" 60, .int "MOST_THINGS" 1000000, .int "MOST_ODD" 60, .int "MOST_PUT" 1000, .cls "Sizes", .mkr "Sizes", .noat "Sizes" "many", .noat "Sizes" "given", .noat "Sizes" "gone", .noat "Sizes" "common", .meth "Sizes" "need", .meth "Sizes" "odd", .meth "Sizes" "own", .meth "Sizes" "hidden", .meth "Sizes" "size", .meth "Sizes" "ahead", .meth "Sizes" "total", .meth "Sizes" "exceptions"]
def fa3 : List He.Fa := [.meth "Sizes" "__repr__", .meth "Sizes" "need_room", .meth "Sizes" "give", .meth "Sizes" "hide", .meth "Sizes" "show", .meth "Sizes" "look_put", .meth "Sizes" "look_stretch", .meth "Sizes" "look_cut", .meth "Sizes" "put", .meth "Sizes" "cut", .meth "Sizes" "twin", .meth "Sizes" "__eq__"]
def fa : List He.Fa := fa0 ++ fa1 ++ fa2 ++ fa3
def ex (K : PySem.W.Frag) : Bool := (decide (PySem.W.kitOne K (.ref (He.ga K "Sizes")) (.ref (He.ga K "Sizes")) = some true) && (decide (PySem.W.kitOne K (.type "str") (.ref (He.ga K "Sizes")) = some false) && (decide (PySem.W.kitOne K (.type "int") (.ref (He.ga K "Sizes")) = some false) && (decide (PySem.W.kitOne K (.type "NoneType") (.ref (He.ga K "Sizes")) = some false) && (decide (PySem.W.kitOne K (.type "list") (.ref (He.ga K "Sizes")) = some false) && (neB K "Sizes" && (insIsB K "Sizes" && (ecBB K "NoIndex" bmI "IndexError.__new__" && true))))))))
abbrev R : PySem.W.OpenRow := PySem.W.OpenLaw.row PySem.Challenge.rw_gridscope_k06_sizes_equal_and_twins
abbrev hk : PySem.W.Hook := He.hookX 4 fa fn [] [] ex
def ob (s : PySem.W.SharedT) : He.AlX := He.obsX 4 fa fn [] [] ex (HandSHeadRun.getT s)
theorem ob_eq (s : PySem.W.SharedT) : ob s = hk.obs s.abs := He.obsX_eq (HandSHeadRun.getT_eq s)
def loose0 : List Str := ["_wall", "GridError", "BadSize", "BadMany", "Full", "Beyond", "NoIndex", "COMMON", "LEAST", "GREATEST", "MOST_THINGS", "MOST_ODD", "MOST_PUT", "need_size", "Sizes", "_law_pick", "_law_z_with", "_law_z_set", "_law_z_hide", "_law_z"]
def loose1 : List Str := ["_law_go_on", "_law_z_on", "_law_z_put", "_law_z_cut", "_law_begin", "_law_z_odd", "_law_z_size", "_law_z_ahead", "_law_same", "_law_z_stands", "_law_turned"]
def loose : List Str := loose0 ++ loose1
theorem run (w : World) : HandSHeadRun.RunEq R (PySem.W.view R.prog [34]) hk ob 4000 loose w := by
  intro os
  kernel_rfl
theorem facts {P : Program} {w : World} {K : PySem.W.Frag} {h : Heap} {mg : Str → Option Value} {f : Addr} (X : K.In h) (G : h.Ns mainGlobals mg) (hfa : mg ("law" : Str) = some (.ref f)) (cx : He.SaysX fa fn [] [] ex w h K) :
    ∃ fd : FuncData, (∀ (s : Shared) (v : Value), BindsTo s fd ⟨[v], []⟩ [("_law_script", v)]) ∧ ∀ base : Heap, K.In base → base.Ns mainGlobals mg → FnOk P w K mg base (L2.CX P w) 7 f fd ["_law_script"] (spD K FLaw) := by
  have c := cx.t.d
  obtain ⟨fd__law_begin, F__law_begin⟩ := c.def_ 0 (d := d__law_begin) rfl
  obtain ⟨fd__law_pick, F__law_pick⟩ := c.def_ 1 (d := d__law_pick) rfl
  obtain ⟨fd__law_same, F__law_same⟩ := c.def_ 2 (d := d__law_same) rfl
  obtain ⟨fd_need_size, F_need_size⟩ := c.def_ 3 (d := d_need_size) rfl
  obtain ⟨fd_Sizes_need, F_Sizes_need⟩ := c.def_ 4 (d := d_Sizes_need) rfl
  obtain ⟨fd_Sizes_odd, F_Sizes_odd⟩ := c.def_ 5 (d := d_Sizes_odd) rfl
  obtain ⟨fd_Sizes_own, F_Sizes_own⟩ := c.def_ 6 (d := d_Sizes_own) rfl
  obtain ⟨fd_Sizes_hidden, F_Sizes_hidden⟩ := c.def_ 7 (d := d_Sizes_hidden) rfl
  obtain ⟨fd_Sizes_size, F_Sizes_size⟩ := c.def_ 8 (d := d_Sizes_size) rfl
  obtain ⟨fd_Sizes_ahead, F_Sizes_ahead⟩ := c.def_ 9 (d := d_Sizes_ahead) rfl
  obtain ⟨fd_Sizes_total, F_Sizes_total⟩ := c.def_ 10 (d := d_Sizes_total) rfl
  obtain ⟨fd_Sizes_exceptions, F_Sizes_exceptions⟩ := c.def_ 11 (d := d_Sizes_exceptions) rfl
  obtain ⟨fd_Sizes___repr__, F_Sizes___repr__⟩ := c.def_ 12 (d := d_Sizes___repr__) rfl
  obtain ⟨fd_Sizes___init__, F_Sizes___init__⟩ := c.def_ 13 (d := d_Sizes___init__) rfl
  obtain ⟨fd_Sizes_need_room, F_Sizes_need_room⟩ := c.def_ 14 (d := d_Sizes_need_room) rfl
  obtain ⟨fd_Sizes_give, F_Sizes_give⟩ := c.def_ 15 (d := d_Sizes_give) rfl
  obtain ⟨fd_Sizes_hide, F_Sizes_hide⟩ := c.def_ 16 (d := d_Sizes_hide) rfl
  obtain ⟨fd_Sizes_show, F_Sizes_show⟩ := c.def_ 17 (d := d_Sizes_show) rfl
  obtain ⟨fd_Sizes_look_put, F_Sizes_look_put⟩ := c.def_ 18 (d := d_Sizes_look_put) rfl
  obtain ⟨fd_Sizes_look_stretch, F_Sizes_look_stretch⟩ := c.def_ 19 (d := d_Sizes_look_stretch) rfl
  obtain ⟨fd_Sizes_look_cut, F_Sizes_look_cut⟩ := c.def_ 20 (d := d_Sizes_look_cut) rfl
  obtain ⟨fd_Sizes_put, F_Sizes_put⟩ := c.def_ 21 (d := d_Sizes_put) rfl
  obtain ⟨fd_Sizes_cut, F_Sizes_cut⟩ := c.def_ 22 (d := d_Sizes_cut) rfl
  obtain ⟨fd_Sizes_twin, F_Sizes_twin⟩ := c.def_ 23 (d := d_Sizes_twin) rfl
  obtain ⟨fd_Sizes___eq__, F_Sizes___eq__⟩ := c.def_ 24 (d := d_Sizes___eq__) rfl
  obtain ⟨fd__law_z, F__law_z⟩ := c.def_ 25 (d := d__law_z) rfl
  obtain ⟨fd__law_z_odd, F__law_z_odd⟩ := c.def_ 26 (d := d__law_z_odd) rfl
  obtain ⟨fd__law_z_size, F__law_z_size⟩ := c.def_ 27 (d := d__law_z_size) rfl
  obtain ⟨fd__law_z_ahead, F__law_z_ahead⟩ := c.def_ 28 (d := d__law_z_ahead) rfl
  obtain ⟨fd__law_z_with, F__law_z_with⟩ := c.def_ 29 (d := d__law_z_with) rfl
  obtain ⟨fd__law_z_set, F__law_z_set⟩ := c.def_ 30 (d := d__law_z_set) rfl
  obtain ⟨fd__law_z_hide, F__law_z_hide⟩ := c.def_ 31 (d := d__law_z_hide) rfl
  obtain ⟨fd__law_go_on, F__law_go_on⟩ := c.def_ 32 (d := d__law_go_on) rfl
  obtain ⟨fd__law_z_on, F__law_z_on⟩ := c.def_ 33 (d := d__law_z_on) rfl
  obtain ⟨fd__law_z_put, F__law_z_put⟩ := c.def_ 34 (d := d__law_z_put) rfl
  obtain ⟨fd__law_z_cut, F__law_z_cut⟩ := c.def_ 35 (d := d__law_z_cut) rfl
  obtain ⟨fd__law_z_stands, F__law_z_stands⟩ := c.def_ 36 (d := d__law_z_stands) rfl
  obtain ⟨fd__law_turned, F__law_turned⟩ := c.def_ 37 (d := d__law_turned) rfl
  obtain ⟨fd_law, F_law⟩ := c.def_ 38 (d := d_law) rfl
  have g__law_begin := He.glo_ok X G (c.fact 0 (f := .glo "_law_begin") rfl)
  have g__law_pick := He.glo_ok X G (c.fact 1 (f := .glo "_law_pick") rfl)
  have g__law_same := He.glo_ok X G (c.fact 2 (f := .glo "_law_same") rfl)
  have g_need_size := He.glo_ok X G (c.fact 3 (f := .glo "need_size") rfl)
  have g__law_z := He.glo_ok X G (c.fact 4 (f := .glo "_law_z") rfl)
  have g__law_z_odd := He.glo_ok X G (c.fact 5 (f := .glo "_law_z_odd") rfl)
  have g__law_z_size := He.glo_ok X G (c.fact 6 (f := .glo "_law_z_size") rfl)
  have g__law_z_ahead := He.glo_ok X G (c.fact 7 (f := .glo "_law_z_ahead") rfl)
  have g__law_z_with := He.glo_ok X G (c.fact 8 (f := .glo "_law_z_with") rfl)
  have g__law_z_set := He.glo_ok X G (c.fact 9 (f := .glo "_law_z_set") rfl)
  have g__law_z_hide := He.glo_ok X G (c.fact 10 (f := .glo "_law_z_hide") rfl)
  have g__law_go_on := He.glo_ok X G (c.fact 11 (f := .glo "_law_go_on") rfl)
  have g__law_z_on := He.glo_ok X G (c.fact 12 (f := .glo "_law_z_on") rfl)
  have g__law_z_put := He.glo_ok X G (c.fact 13 (f := .glo "_law_z_put") rfl)
  have g__law_z_cut := He.glo_ok X G (c.fact 14 (f := .glo "_law_z_cut") rfl)
  have g__law_z_stands := He.glo_ok X G (c.fact 15 (f := .glo "_law_z_stands") rfl)
  have g__law_turned := He.glo_ok X G (c.fact 16 (f := .glo "_law_turned") rfl)
  have g_law := He.glo_ok X G (c.fact 17 (f := .glo "law") rfl)
  have g_BadSize := He.glo_ok X G (c.fact 18 (f := .glo "BadSize") rfl)
  have g_BadMany := He.glo_ok X G (c.fact 19 (f := .glo "BadMany") rfl)
  have g_Full := He.glo_ok X G (c.fact 20 (f := .glo "Full") rfl)
  have g_NoIndex := He.glo_ok X G (c.fact 21 (f := .glo "NoIndex") rfl)
  have g_Sizes := He.glo_ok X G (c.fact 22 (f := .glo "Sizes") rfl)
  have m_list : mg "list" = none := He.free_ok X G (c.fact 23 (f := .free "list") rfl)
  have m_len : mg "len" = none := He.free_ok X G (c.fact 24 (f := .free "len") rfl)
  have m_isinstance : mg "isinstance" = none := He.free_ok X G (c.fact 25 (f := .free "isinstance") rfl)
  have m_bool : mg "bool" = none := He.free_ok X G (c.fact 26 (f := .free "bool") rfl)
  have m_int : mg "int" = none := He.free_ok X G (c.fact 27 (f := .free "int") rfl)
  have m_str : mg "str" = none := He.free_ok X G (c.fact 28 (f := .free "str") rfl)
  have m_tuple : mg "tuple" = none := He.free_ok X G (c.fact 29 (f := .free "tuple") rfl)
  have m_all : mg "all" = none := He.free_ok X G (c.fact 30 (f := .free "all") rfl)
  have m_range : mg "range" = none := He.free_ok X G (c.fact 31 (f := .free "range") rfl)
  have m_sorted : mg "sorted" = none := He.free_ok X G (c.fact 32 (f := .free "sorted") rfl)
  have m_set : mg "set" = none := He.free_ok X G (c.fact 33 (f := .free "set") rfl)
  have m_sum : mg "sum" = none := He.free_ok X G (c.fact 34 (f := .free "sum") rfl)
  have m_dict : mg "dict" = none := He.free_ok X G (c.fact 35 (f := .free "dict") rfl)
  have m_repr : mg "repr" = none := He.free_ok X G (c.fact 36 (f := .free "repr") rfl)
  have m_any : mg "any" = none := He.free_ok X G (c.fact 37 (f := .free "any") rfl)
  have ec_BadSize := ec_of (c.fact 38 (f := .exc "BadSize") rfl) g_BadSize
  have ec_BadMany := ec_of (c.fact 39 (f := .exc "BadMany") rfl) g_BadMany
  have ec_Full := ec_of (c.fact 40 (f := .exc "Full") rfl) g_Full
  have gi_LEAST := He.int_ok X G (c.fact 41 (f := .int "LEAST" 1) rfl)
  have gi_GREATEST := He.int_ok X G (c.fact 42 (f := .int "GREATEST" 60) rfl)
  have gi_MOST_THINGS := He.int_ok X G (c.fact 43 (f := .int "MOST_THINGS" 1000000) rfl)
  have gi_MOST_ODD := He.int_ok X G (c.fact 44 (f := .int "MOST_ODD" 60) rfl)
  have gi_MOST_PUT := He.int_ok X G (c.fact 45 (f := .int "MOST_PUT" 1000) rfl)
  have cl_Sizes := He.cls_ok (c.fact 46 (f := .cls "Sizes") rfl)
  have mk_Sizes := He.mkr_ok (c.fact 47 (f := .mkr "Sizes") rfl)
  have na_Sizes_many := He.noat_ok (c.fact 48 (f := .noat "Sizes" "many") rfl)
  have na_Sizes_given := He.noat_ok (c.fact 49 (f := .noat "Sizes" "given") rfl)
  have na_Sizes_gone := He.noat_ok (c.fact 50 (f := .noat "Sizes" "gone") rfl)
  have na_Sizes_common := He.noat_ok (c.fact 51 (f := .noat "Sizes" "common") rfl)
  have mh_Sizes_need := He.meth_ok (c.fact 52 (f := .meth "Sizes" "need") rfl)
  have mh_Sizes_odd := He.meth_ok (c.fact 53 (f := .meth "Sizes" "odd") rfl)
  have mh_Sizes_own := He.meth_ok (c.fact 54 (f := .meth "Sizes" "own") rfl)
  have mh_Sizes_hidden := He.meth_ok (c.fact 55 (f := .meth "Sizes" "hidden") rfl)
  have mh_Sizes_size := He.meth_ok (c.fact 56 (f := .meth "Sizes" "size") rfl)
  have mh_Sizes_ahead := He.meth_ok (c.fact 57 (f := .meth "Sizes" "ahead") rfl)
  have mh_Sizes_total := He.meth_ok (c.fact 58 (f := .meth "Sizes" "total") rfl)
  have mh_Sizes_exceptions := He.meth_ok (c.fact 59 (f := .meth "Sizes" "exceptions") rfl)
  have mh_Sizes___repr__ := He.meth_ok (c.fact 60 (f := .meth "Sizes" "__repr__") rfl)
  have mh_Sizes_need_room := He.meth_ok (c.fact 61 (f := .meth "Sizes" "need_room") rfl)
  have mh_Sizes_give := He.meth_ok (c.fact 62 (f := .meth "Sizes" "give") rfl)
  have mh_Sizes_hide := He.meth_ok (c.fact 63 (f := .meth "Sizes" "hide") rfl)
  have mh_Sizes_show := He.meth_ok (c.fact 64 (f := .meth "Sizes" "show") rfl)
  have mh_Sizes_look_put := He.meth_ok (c.fact 65 (f := .meth "Sizes" "look_put") rfl)
  have mh_Sizes_look_stretch := He.meth_ok (c.fact 66 (f := .meth "Sizes" "look_stretch") rfl)
  have mh_Sizes_look_cut := He.meth_ok (c.fact 67 (f := .meth "Sizes" "look_cut") rfl)
  have mh_Sizes_put := He.meth_ok (c.fact 68 (f := .meth "Sizes" "put") rfl)
  have mh_Sizes_cut := He.meth_ok (c.fact 69 (f := .meth "Sizes" "cut") rfl)
  have mh_Sizes_twin := He.meth_ok (c.fact 70 (f := .meth "Sizes" "twin") rfl)
  have mh_Sizes___eq__ := He.meth_ok (c.fact 71 (f := .meth "Sizes" "__eq__") rfl)
  have more : (decide (PySem.W.kitOne K (.ref (He.ga K "Sizes")) (.ref (He.ga K "Sizes")) = some true) && (decide (PySem.W.kitOne K (.type "str") (.ref (He.ga K "Sizes")) = some false) && (decide (PySem.W.kitOne K (.type "int") (.ref (He.ga K "Sizes")) = some false) && (decide (PySem.W.kitOne K (.type "NoneType") (.ref (He.ga K "Sizes")) = some false) && (decide (PySem.W.kitOne K (.type "list") (.ref (He.ga K "Sizes")) = some false) && (neB K "Sizes" && (insIsB K "Sizes" && (ecBB K "NoIndex" bmI "IndexError.__new__" && true)))))))) = true := cx.more
  obtain ⟨more0, more⟩ := He.ba more
  have kt_Sizes_Sizes := of_decide_eq_true more0
  obtain ⟨more1, more⟩ := He.ba more
  have kt_str_Sizes := of_decide_eq_true more1
  obtain ⟨more2, more⟩ := He.ba more
  have kt_int_Sizes := of_decide_eq_true more2
  obtain ⟨more3, more⟩ := He.ba more
  have kt_NoneType_Sizes := of_decide_eq_true more3
  obtain ⟨more4, more⟩ := He.ba more
  have kt_list_Sizes := of_decide_eq_true more4
  obtain ⟨more5, more⟩ := He.ba more
  have ne_Sizes := neB_ok more5
  obtain ⟨more6, more⟩ := He.ba more
  have ic_Sizes := insIsB_ok more6 cl_Sizes
  obtain ⟨more7, more⟩ := He.ba more
  have ec_NoIndex : EcI K mg "NoIndex" _ := ecBB_ok more7 g_NoIndex
  have e := hfa.symm.trans g_law
  cases e
  have b := FunD.bindsA (ps := ["_law_script"]) F_law fun _ _ _ _ _ _ us hl => match us, hl with | [_], _ => rfl
  refine ⟨fd_law, fun s v => b s [v] rfl, fun base _ _ => ?_⟩
  have k__law_begin := kn__law_begin (P := P) (w := w) (mg := mg) (base := base) F__law_begin g__law_begin m_list
  have k__law_pick := kn__law_pick (P := P) (w := w) (mg := mg) (base := base) F__law_pick g__law_pick m_len
  have k__law_same_FSame_3 := kn__law_same (P := P) (w := w) (mg := mg) (base := base) F__law_same g__law_same m_isinstance m_bool m_int m_str m_list m_tuple m_len m_all m_range 3 (by decide)
  have k_need_size := kn_need_size (P := P) (w := w) (mg := mg) (base := base) F_need_size g_need_size ec_BadSize gi_LEAST gi_GREATEST
  have km_Sizes_need := km_Sizes_need (P := P) (w := w) (mg := mg) (base := base) F_Sizes_need ec_NoIndex ic_Sizes na_Sizes_many mh_Sizes_need 
  have km_Sizes_odd := km_Sizes_odd (P := P) (w := w) (mg := mg) (base := base) F_Sizes_odd m_sorted m_set ic_Sizes na_Sizes_given na_Sizes_gone mh_Sizes_odd 
  have km_Sizes_own := km_Sizes_own (P := P) (w := w) (mg := mg) (base := base) F_Sizes_own ic_Sizes na_Sizes_given na_Sizes_common km_Sizes_need mh_Sizes_own 
  have km_Sizes_hidden := km_Sizes_hidden (P := P) (w := w) (mg := mg) (base := base) F_Sizes_hidden ic_Sizes na_Sizes_gone km_Sizes_need mh_Sizes_hidden 
  have km_Sizes_size := km_Sizes_size (P := P) (w := w) (mg := mg) (base := base) F_Sizes_size ic_Sizes na_Sizes_gone na_Sizes_given na_Sizes_common km_Sizes_need mh_Sizes_size 
  have km_Sizes_ahead := km_Sizes_ahead (P := P) (w := w) (mg := mg) (base := base) F_Sizes_ahead m_sum ec_NoIndex ic_Sizes na_Sizes_many na_Sizes_common km_Sizes_odd km_Sizes_size mh_Sizes_ahead 
  have km_Sizes_total := km_Sizes_total (P := P) (w := w) (mg := mg) (base := base) F_Sizes_total ic_Sizes na_Sizes_many km_Sizes_ahead mh_Sizes_total 
  have km_Sizes_exceptions := km_Sizes_exceptions (P := P) (w := w) (mg := mg) (base := base) F_Sizes_exceptions ic_Sizes na_Sizes_given na_Sizes_common na_Sizes_gone km_Sizes_odd mh_Sizes_exceptions 
  have km_Sizes___repr__ := km_Sizes___repr__ (P := P) (w := w) (mg := mg) (base := base) F_Sizes___repr__ ic_Sizes na_Sizes_many na_Sizes_common mh_Sizes___repr__ 
  have o_Sizes___init__ := ok_Sizes___init__ (P := P) (w := w) (mg := mg) (base := base) F_Sizes___init__ ec_BadMany ic_Sizes na_Sizes_many na_Sizes_common na_Sizes_given na_Sizes_gone gi_MOST_THINGS k_need_size
  have ki_Sizes_common : KnI P w K mg base "Sizes" (He.ga K "Sizes") 2 (FInitH (He.ga K "Sizes") (He.ga K "BadMany") (He.ga K "BadSize")) 1 ["common"] (fun us zs => pickL [0, 1, 2] (us ++ zs ++ [])) := by
    obtain ⟨mv, kb⟩ := FunD.kbinds0 (ps := ["self", "many", "common"]) F_Sizes___init__ 2 ["common"] [] (fun us mv ws => pickL [0, 1, 2] (us ++ ws ++ mv)) (List.cons_ne_nil _ _) (fun q h => (show List.Sublist ([] : List (Str × V)) _ from (.cons _ .slnil)).subset h) (fun r1 r2 r3 => pickL_vals [0, 1, 2] ((r1.append r3).append r2)) (fun D doc pm an cdv ct us mv ws l1 l2 l3 => match us, mv, ws, l1, l2, l3 with | [_, _], [], [_], _, _, _ => rfl)
    exact KnI.of (ix := [0, 1, 2]) mk_Sizes g_Sizes o_Sizes___init__ kb (fun Hi => .nil)
  have km_Sizes_need_room := km_Sizes_need_room (P := P) (w := w) (mg := mg) (base := base) F_Sizes_need_room m_len ec_Full ic_Sizes gi_MOST_ODD km_Sizes_odd mh_Sizes_need_room 
  have km_Sizes_give := km_Sizes_give (P := P) (w := w) (mg := mg) (base := base) F_Sizes_give ic_Sizes na_Sizes_common na_Sizes_given km_Sizes_need km_Sizes_need_room mh_Sizes_give k_need_size
  have km_Sizes_hide := km_Sizes_hide (P := P) (w := w) (mg := mg) (base := base) F_Sizes_hide ic_Sizes na_Sizes_gone km_Sizes_need km_Sizes_need_room mh_Sizes_hide 
  have km_Sizes_show := km_Sizes_show (P := P) (w := w) (mg := mg) (base := base) F_Sizes_show ic_Sizes na_Sizes_gone km_Sizes_need mh_Sizes_show 
  have km_Sizes_look_put := km_Sizes_look_put (P := P) (w := w) (mg := mg) (base := base) F_Sizes_look_put ec_BadMany ec_NoIndex ic_Sizes na_Sizes_many gi_MOST_PUT mh_Sizes_look_put 
  have km_Sizes_look_stretch := km_Sizes_look_stretch (P := P) (w := w) (mg := mg) (base := base) F_Sizes_look_stretch ec_BadMany ic_Sizes na_Sizes_many km_Sizes_need mh_Sizes_look_stretch 
  have km_Sizes_look_cut := km_Sizes_look_cut (P := P) (w := w) (mg := mg) (base := base) F_Sizes_look_cut ec_BadMany ic_Sizes na_Sizes_many km_Sizes_look_stretch mh_Sizes_look_cut 
  have km_Sizes_put := km_Sizes_put (P := P) (w := w) (mg := mg) (base := base) F_Sizes_put m_int ic_Sizes na_Sizes_many na_Sizes_given na_Sizes_gone km_Sizes_look_put mh_Sizes_put 
  have km_Sizes_cut := km_Sizes_cut (P := P) (w := w) (mg := mg) (base := base) F_Sizes_cut m_int ic_Sizes na_Sizes_many na_Sizes_given na_Sizes_gone km_Sizes_look_cut mh_Sizes_cut 
  have km_Sizes_twin := km_Sizes_twin (P := P) (w := w) (mg := mg) (base := base) F_Sizes_twin m_dict ic_Sizes na_Sizes_many na_Sizes_common na_Sizes_given na_Sizes_gone ki_Sizes_common mh_Sizes_twin 
  have km_Sizes___eq__ := km_Sizes___eq__ (P := P) (w := w) (mg := mg) (base := base) F_Sizes___eq__ m_isinstance ic_Sizes na_Sizes_many na_Sizes_common na_Sizes_given na_Sizes_gone g_Sizes kt_Sizes_Sizes mh_Sizes___eq__ 
  have km_Sizes___eq___X := km_Sizes___eq___X (P := P) (w := w) (mg := mg) (base := base) F_Sizes___eq__ m_isinstance g_Sizes mh_Sizes___eq__ 
  have k__law_z := kn__law_z (P := P) (w := w) (mg := mg) (base := base) F__law_z g__law_z 
  have k__law_z_odd := kn__law_z_odd (P := P) (w := w) (mg := mg) (base := base) F__law_z_odd g__law_z_odd m_sorted m_list
  have k__law_z_size := kn__law_z_size (P := P) (w := w) (mg := mg) (base := base) F__law_z_size g__law_z_size 
  have k__law_z_ahead := kn__law_z_ahead (P := P) (w := w) (mg := mg) (base := base) F__law_z_ahead g__law_z_ahead k__law_z_odd k__law_z_size
  have k__law_z_with := kn__law_z_with (P := P) (w := w) (mg := mg) (base := base) F__law_z_with g__law_z_with m_dict
  have k__law_z_set := kn__law_z_set (P := P) (w := w) (mg := mg) (base := base) F__law_z_set g__law_z_set k__law_z_with
  have k__law_z_hide := kn__law_z_hide (P := P) (w := w) (mg := mg) (base := base) F__law_z_hide g__law_z_hide k__law_z_with
  have k__law_z_M := kn__law_z_M (P := P) (w := w) (mg := mg) (base := base) F__law_z g__law_z 
  have k__law_go_on := kn__law_go_on (P := P) (w := w) (mg := mg) (base := base) F__law_go_on g__law_go_on m_int
  have k__law_z_on := kn__law_z_on (P := P) (w := w) (mg := mg) (base := base) F__law_z_on g__law_z_on k__law_z_M k__law_go_on
  have k__law_z_put := kn__law_z_put (P := P) (w := w) (mg := mg) (base := base) F__law_z_put g__law_z_put k__law_z_on
  have k__law_z_cut := kn__law_z_cut (P := P) (w := w) (mg := mg) (base := base) F__law_z_cut g__law_z_cut k__law_z_on
  have k__law_z_stands := kn__law_z_stands (P := P) (w := w) (mg := mg) (base := base) F__law_z_stands g__law_z_stands m_str m_repr ic_Sizes na_Sizes_many na_Sizes_common km_Sizes_exceptions km_Sizes_total km_Sizes_size km_Sizes_own km_Sizes_hidden km_Sizes_ahead km_Sizes___repr__ k__law_same_FSame_3 k__law_z_odd k__law_z_size k__law_z_ahead
  have k__law_turned := kn__law_turned (P := P) (w := w) (mg := mg) (base := base) F__law_turned g__law_turned ic_Sizes km_Sizes_give km_Sizes_hide km_Sizes_show km_Sizes_put km_Sizes_cut k__law_pick k__law_z_set k__law_z_hide k__law_z_put k__law_z_cut
  exact ok_law F_law m_range m_any m_all ic_Sizes kt_str_Sizes kt_int_Sizes kt_NoneType_Sizes kt_list_Sizes ne_Sizes km_Sizes_twin km_Sizes___eq__ km_Sizes___eq___X ki_Sizes_common k__law_begin k__law_pick k__law_z k__law_z_stands k__law_turned
end K06
open PySem PySem.W PySem.Calls PyProof.Rows
theorem PySem.Challenge.cw_gridscope_k06_sizes_equal_and_twins_holds : PySem.Challenge.rw_gridscope_k06_sizes_equal_and_twins.Holds := by
  w_on; o_law
  refine HandSHeadRun.head_any (r := K06.R) (q := view K06.R.prog [34]) (H := K06.hk) (ob := K06.ob) (M := 4000) (loose := K06.loose) (d := HandSHeadRun.topDef K06.R.prog 34) (kwd := []) K06.ob_eq
    (by kernel_rfl) (fun s => by kernel_rfl) K06.run (by kernel_rfl) (by kernel_rfl) (by kernel_rfl) (by rfl) (by first | assumption | decide +kernel) (by decide +kernel) ⟨rfl, rfl, rfl, rfl, rfl, by decide +kernel⟩ ?hw ?hc
  case hw => w_witness2
  case hc =>
    refine G.walk_w (l := PySem.Challenge.rw_gridscope_k06_sizes_equal_and_twins) (k := 7) (x := "_law_script") rfl (by kernel_rfl) ⟨rfl, by decide, by decide⟩ ?F
    intro w mg fa h Y gns at0
    obtain ⟨K, KX, c⟩ := Y
    have at1 : mg ("law" : PySem.Str) = some (.ref fa) := by
      have e : (HandSHeadRun.topDef K06.R.prog 34).name = ("law" : PySem.Str) := by kernel_rfl
      rw [← e]
      exact at0
    obtain ⟨fd, bind, ok⟩ := K06.facts (P := (PySem.Challenge.rw_gridscope_k06_sizes_equal_and_twins).prog) (w := w) KX gns at1 c
    exact ⟨K, fd, KX, bind, ok⟩

