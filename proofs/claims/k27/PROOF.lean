import PyProof.Rows.All
import Wide.All
import OpenK.AllK
import Wide.FinOn
import HandS.ForMost
import HandS.ForExc
import HandS.IsInst
import HandS.Defaults
import HandS.ExcIs
import HandS.TupAny
import HandS.TupMul
import HandS.TupLe
import HandS.Deep
import HandS.SortInts
import HandS.Comp
import HandS.HeadEnd
import HandS.TryOnly
import HandS.ExcOwn
import HandS.Strs
import HandS.Text
import HandS.CallSlots
import HandS.MakeKwOnly
import HandS.Iter
import PyProof.StrBlock2
import KE.KUnpackStar
import HandS.Head0
import HandS.Head1
import HandS.Head2
import HandS.HeadHook1
import HandS.HeadHook2
import HandS.HeadHook3
import HandS.HeadHook4
import HandS.Codes
import PySem.Challenge.RW_gridscope_k27_steps_done_on_drawings
set_option Elab.async false
set_option linter.all false
set_option maxRecDepth 100000
set_option maxHeartbeats 4000000
/-! The data layer: values as data, objects in a store; judgements over both. -/
namespace G
open PySem PySem.Spec PyProof.Rows L2

/-! ### the widest readings -/
def WE (X : Cx) (e : Expr) : TE := fun σ H Q => ∀ (pins : List (Addr × Obj)) (s : Shared), Inv X pins σ H s → wpAny (model X.prog X.w) X.A (eval e X.env) (EP X pins σ Q) X.xe s
def WT (X : Cx) (e : Expr) : TT := fun σ H Q => ∀ (pins : List (Addr × Obj)) (s : Shared), Inv X pins σ H s → wpAny (model X.prog X.w) X.A (isTrue e X.env (eval e X.env)) (TP X pins σ Q) X.xe s
def WA (X : Cx) (es : List Expr) : TA := fun σ H Q => ∀ (pos : Pos) (pins : List (Addr × Obj)) (s : Shared), Inv X pins σ H s → wpAny (model X.prog X.w) X.A (spliced (backTo pos (starEach es X.env))) (AP X pins σ Q) X.xe s
def WS (X : Cx) (st : Stmt) : TS := fun D σ H => ∀ (pins : List (Addr × Obj)) (s : Shared), Inv X pins σ H s → wpAny (model X.prog X.w) X.A (exec st X.env) (SP X pins D) X.xe s
def WSs (X : Cx) (st : List Stmt) : TS := fun D σ H => ∀ (pins : List (Addr × Obj)) (s : Shared), Inv X pins σ H s → wpAny (model X.prog X.w) X.A (execs st X.env) (SP X pins D) X.xe s
def WG (X : Cx) (tg : Expr) : TG := fun v σ H Q => ∀ (pins : List (Addr × Obj)) (s : Shared) (u : Value), Inv X pins σ H s → RelV v u → wpAny (model X.prog X.w) X.A (assign tg X.env u) (fun _ s' => ∃ σ' H', Inv X pins σ' H' s' ∧ Q σ' H') X.xe s
section
variable {X : Cx} {e : Expr} {es : List Expr} {st : Stmt} {sts : List Stmt} {tg : Expr} {σ : L2.St} {H : Hp}
theorem we : PE X e (WE X e) := ⟨fun pins s _ _ _ I h => h pins s I⟩
theorem wt : PT X e (WT X e) := ⟨fun pins s _ _ _ I h => h pins s I⟩
theorem wa : PA X es (WA X es) := ⟨fun pos pins s _ _ _ I h => h pos pins s I⟩
theorem ws : PS X st (WS X st) := ⟨fun pins s _ _ _ I h => h pins s I⟩
theorem wss : PSs X sts (WSs X sts) := ⟨fun pins s _ _ _ I h => h pins s I⟩
theorem wg : PG X tg (WG X tg) := ⟨fun pins s _ _ _ u _ I r h => h pins s u I r⟩
theorem WE.of {t : TE} {Q : VK} (p : PE X e t) (h : t σ H Q) : WE X e σ H Q := fun pins s I => p.run pins s σ H Q I h
theorem WT.of {t : TT} {Q : Bool → Hp → Prop} (p : PT X e t) (h : t σ H Q) : WT X e σ H Q := fun pins s I => p.run pins s σ H Q I h
theorem WA.of {t : TA} {Q : List V → Hp → Prop} (p : PA X es t) (h : t σ H Q) : WA X es σ H Q := fun pos pins s I => p.run pos pins s σ H Q I h
theorem WS.of {t : TS} {D : Ends} (p : PS X st t) (h : t D σ H) : WS X st D σ H := fun pins s I => p.run pins s σ H D I h
theorem WSs.of {t : TS} {D : Ends} (p : PSs X sts t) (h : t D σ H) : WSs X sts D σ H := fun pins s I => p.run pins s σ H D I h
theorem WG.of {t : TG} {v : V} {Q : L2.St → Hp → Prop} (p : PG X tg t) (h : t v σ H Q) : WG X tg v σ H Q := fun pins s u I r => p.run pins s σ H v u Q I r h
theorem WE.mono {Q Q' : VK} (h : WE X e σ H Q) (k : ∀ v H', Q v H' → Q' v H') : WE X e σ H Q' := fun pins s I => thn (h pins s I) fun _ _ ⟨v, H', I', r, q⟩ => ⟨v, H', I', r, k v H' q⟩
theorem WT.mono {Q Q' : Bool → Hp → Prop} (h : WT X e σ H Q) (k : ∀ v H', Q v H' → Q' v H') : WT X e σ H Q' := fun pins s I => thn (h pins s I) fun b _ ⟨H', I', q⟩ => ⟨H', I', k b H' q⟩
theorem WA.mono {Q Q' : List V → Hp → Prop} (h : WA X es σ H Q) (k : ∀ v H', Q v H' → Q' v H') : WA X es σ H Q' := fun pos pins s I => thn (h pos pins s I) fun _ _ ⟨v, H', I', r, q⟩ => ⟨v, H', I', r, k v H' q⟩
theorem sp_mono {pins : List (Addr × Obj)} {D D' : Ends} {f : Flow} {s : Shared} (h : SP X pins D f s) (n : ∀ σ H, D.nx σ H → D'.nx σ H) (r : ∀ v H, D.rt v H → D'.rt v H) (b : ∀ σ H, D.bk σ H → D'.bk σ H) (c : ∀ σ H, D.ct σ H → D'.ct σ H) : SP X pins D' f s := by
  cases f with
  | next => obtain ⟨σ', H', I, q⟩ := h; exact ⟨σ', H', I, n _ _ q⟩
  | brk => obtain ⟨σ', H', I, q⟩ := h; exact ⟨σ', H', I, b _ _ q⟩
  | cont => obtain ⟨σ', H', I, q⟩ := h; exact ⟨σ', H', I, c _ _ q⟩
  | ret u => obtain ⟨v, σ', H', I, rr, q⟩ := h; exact ⟨v, σ', H', I, rr, r _ _ q⟩
theorem WSs.mono {D D' : Ends} (h : WSs X sts D σ H) (n : ∀ σ H, D.nx σ H → D'.nx σ H) (r : ∀ v H, D.rt v H → D'.rt v H) (b : ∀ σ H, D.bk σ H → D'.bk σ H) (c : ∀ σ H, D.ct σ H → D'.ct σ H) : WSs X sts D' σ H :=
  fun pins s I => thn (h pins s I) fun _ _ q => sp_mono q n r b c
theorem WS.mono {D D' : Ends} (h : WS X st D σ H) (n : ∀ σ H, D.nx σ H → D'.nx σ H) (r : ∀ v H, D.rt v H → D'.rt v H) (b : ∀ σ H, D.bk σ H → D'.bk σ H) (c : ∀ σ H, D.ct σ H → D'.ct σ H) : WS X st D' σ H :=
  fun pins s I => thn (h pins s I) fun _ _ q => sp_mono q n r b c
theorem WG.mono {v : V} {Q Q' : L2.St → Hp → Prop} (h : WG X tg v σ H Q) (k : ∀ σ H', Q σ H' → Q' σ H') : WG X tg v σ H Q' := fun pins s u I r => thn (h pins s u I r) fun _ _ ⟨v, H', I', q⟩ => ⟨v, H', I', k v H' q⟩
end

/-! ### data -/
inductive D where
  | non | bl (b : Bool) | int (i : Int) | str (s : Str) | tup (l : List D) | lst (l : List D) | frz (l : List D) | dic (ks : List Key) (l : List D) | dit (ks : List (List Key)) (l : List D) | ref (a : Addr) | ty (n : String)
/-- what an object of the store is -/
inductive O where
  | lst (l : List D) | dic (ks : List Key) (l : List D) | dit (ks : List (List Key)) (l : List D) | ins (C : Addr) (fs : List (Str × D))
abbrev Sto := Addr → Option O
def sput (m : Sto) (a : Addr) (o : O) : Sto := fun b => if b = a then some o else m b
theorem sput_same {m : Sto} {a : Addr} {o : O} : sput m a o a = some o := if_pos rfl
theorem sput_ne {m : Sto} {a b : Addr} {o : O} (h : b ≠ a) : sput m a o b = m b := if_neg h
theorem sput_sput {m : Sto} {a : Addr} {o u : O} : sput (sput m a o) a u = sput m a u := by funext b; unfold sput; split <;> rfl
def sdel (m : Sto) (a : Addr) : Sto := fun b => if b = a then none else m b
theorem sdel_ne {m : Sto} {a b : Addr} (h : b ≠ a) : sdel m a b = m b := if_neg h
theorem sne {m : Sto} {a b : Addr} {o : O} (h : m a = some o) (h' : m b = none) : a ≠ b := by
  intro e; subst e; rw [h] at h'; cases h'
theorem sdel_new {m : Sto} {a : Addr} {o : O} (h : m a = none) : sdel (sput m a o) a = m := by
  funext b
  unfold sdel sput
  split
  · rename_i e; subst e; exact h.symm
  · rfl

mutual
inductive Rep (K : PySem.W.Frag) (H : Hp) : V → D → Prop
  | non : Rep K H .non .non
  | bl (b : Bool) : Rep K H (.bl b) (.bl b)
  | int (i : Int) : Rep K H (.int i) (.int i)
  | str (s : Str) : Rep K H (.str s) (.str s)
  | ty (n : String) : Rep K H (.ty n) (.ty n)
  | ref (a : Addr) : Rep K H (.ref a) (.ref a)
  | tup {a : Addr} {xs : List V} {ds : List D} : SqT K H a xs → RepL K H xs ds → Rep K H (.ref a) (.tup ds)
  | lst {a : Addr} {xs : List V} {ds : List D} : H a = some (.lst xs) → RepL K H xs ds → Rep K H (.ref a) (.lst ds)
  | frz {a : Addr} {xs : List V} {ds : List D} : SqL K H a xs → RepL K H xs ds → Rep K H (.ref a) (.frz ds)
  | dic {a : Addr} {kvs : List (Key × V)} {ks : List Key} {ds : List D} : H a = some (.dK kvs) → kvs.map (·.1) = ks → RepL K H (kvs.map (·.2)) ds → Rep K H (.ref a) (.dic ks ds)
  | dit {a : Addr} {kvs : List (List Key × V)} {ks : List (List Key)} {ds : List D} : H a = some (.dT kvs) → kvs.map (·.1) = ks → RepL K H (kvs.map (·.2)) ds → Rep K H (.ref a) (.dit ks ds)
inductive RepL (K : PySem.W.Frag) (H : Hp) : List V → List D → Prop
  | nil : RepL K H [] []
  | cons {v : V} {vs : List V} {d : D} {ds : List D} : Rep K H v d → RepL K H vs ds → RepL K H (v :: vs) (d :: ds)
end

theorem rd_mono {H H' : Hp} {a : Addr} {u : HO} (e : Same H H') (h : Rd H a u) : Rd H' a u := by
  rcases h with h | ⟨o, h⟩
  · exact .inl (e _ _ h)
  · exact .inr ⟨o, e _ _ h⟩
theorem sqt_mono {K : PySem.W.Frag} {H H' : Hp} {a : Addr} {xs : List V} (e : Same H H') (h : SqT K H a xs) : SqT K H' a xs := by
  rcases h with h | h
  · exact .inl (rd_mono e h)
  · exact .inr h
mutual
theorem Rep.mono {K : PySem.W.Frag} {H H' : Hp} (e : Same H H') : ∀ {v : V} {d : D}, Rep K H v d → Rep K H' v d
  | _, _, .non => .non
  | _, _, .bl b => .bl b
  | _, _, .int b => .int b
  | _, _, .str b => .str b
  | _, _, .ty b => .ty b
  | _, _, .ref b => .ref b
  | _, _, .tup h r => .tup (sqt_mono e h) (RepL.mono e r)
  | _, _, .lst h r => .lst (e _ _ h) (RepL.mono e r)
  | _, _, .frz h r => .frz (e.seq h) (RepL.mono e r)
  | _, _, .dic h k r => .dic (e _ _ h) k (RepL.mono e r)
  | _, _, .dit h k r => .dit (e _ _ h) k (RepL.mono e r)
theorem RepL.mono {K : PySem.W.Frag} {H H' : Hp} (e : Same H H') : ∀ {v : List V} {d : List D}, RepL K H v d → RepL K H' v d
  | _, _, .nil => .nil
  | _, _, .cons h r => .cons (Rep.mono e h) (RepL.mono e r)
end
section
variable {K : PySem.W.Frag} {H : Hp}
theorem RepL.length : ∀ {vs : List V} {ds : List D}, RepL K H vs ds → vs.length = ds.length
  | _, _, .nil => rfl
  | _, _, .cons _ r => by rw [List.length_cons, List.length_cons, r.length]
theorem RepL.get : ∀ {vs : List V} {ds : List D} {i : Nat} {v : V} {d : D}, RepL K H vs ds → vs[i]? = some v → ds[i]? = some d → Rep K H v d
  | _, _, _, _, _, .nil, h, _ => by simp at h
  | _, _, 0, _, _, .cons h _, e1, e2 => by
    cases (Option.some.inj e1 : _ = _); cases (Option.some.inj e2 : _ = _); exact h
  | _, _, i + 1, _, _, .cons _ r, e1, e2 => r.get (i := i) (by simpa using e1) (by simpa using e2)
theorem RepL.get' {vs : List V} {ds : List D} {i : Nat} {d : D} (r : RepL K H vs ds) (h : ds[i]? = some d) : ∃ v, vs[i]? = some v ∧ Rep K H v d := by
  have hl := r.length
  have hi : i < vs.length := by rw [hl]; exact (List.getElem?_eq_some_iff.mp h).1
  exact ⟨vs[i], List.getElem?_eq_getElem hi, r.get (List.getElem?_eq_getElem hi) h⟩
theorem RepL.getV {vs : List V} {ds : List D} {i : Nat} {v : V} (r : RepL K H vs ds) (h : vs[i]? = some v) : ∃ d, ds[i]? = some d ∧ Rep K H v d := by
  have hl := r.length
  have hi : i < ds.length := by rw [← hl]; exact (List.getElem?_eq_some_iff.mp h).1
  exact ⟨ds[i], List.getElem?_eq_getElem hi, r.get h (List.getElem?_eq_getElem hi)⟩
theorem RepL.append : ∀ {vs ws : List V} {ds es : List D}, RepL K H vs ds → RepL K H ws es → RepL K H (vs ++ ws) (ds ++ es)
  | _, _, _, _, .nil, r => r
  | _, _, _, _, .cons h t, r => .cons h (t.append r)
theorem RepL.take : ∀ {vs : List V} {ds : List D} (n : Nat), RepL K H vs ds → RepL K H (vs.take n) (ds.take n)
  | _, _, 0, _ => .nil
  | _, _, _ + 1, .nil => .nil
  | _, _, n + 1, .cons h t => .cons h (t.take n)
theorem RepL.drop : ∀ {vs : List V} {ds : List D} (n : Nat), RepL K H vs ds → RepL K H (vs.drop n) (ds.drop n)
  | _, _, 0, r => r
  | _, _, _ + 1, .nil => .nil
  | _, _, n + 1, .cons _ t => t.drop n
theorem RepL.set : ∀ {vs : List V} {ds : List D} (n : Nat) {v : V} {d : D}, RepL K H vs ds → Rep K H v d → RepL K H (vs.set n v) (ds.set n d)
  | _, _, _, _, _, .nil, _ => .nil
  | _, _, 0, _, _, .cons _ t, r => .cons r t
  | _, _, n + 1, _, _, .cons h t, r => .cons h (t.set n r)
theorem RepL.snoc {vs : List V} {ds : List D} {v : V} {d : D} (r : RepL K H vs ds) (h : Rep K H v d) : RepL K H (vs ++ [v]) (ds ++ [d]) := r.append (.cons h .nil)
/-- by a relation that holds item by item -/
theorem RepL.of_zip : ∀ {vs : List V} {ds : List D}, vs.length = ds.length → (∀ v d, (v, d) ∈ vs.zip ds → Rep K H v d) → RepL K H vs ds
  | [], [], _, _ => .nil
  | [], _ :: _, h, _ => by simp at h
  | _ :: _, [], h, _ => by simp at h
  | v :: vs, d :: ds, h, k => .cons (k v d (by simp)) (RepL.of_zip (by simpa using h) fun x y m => k x y (by rw [List.zip_cons_cons]; exact List.mem_cons_of_mem _ m))
end

def RepO (K : PySem.W.Frag) (H : Hp) : HO → O → Prop
  | .lst xs, .lst ds => RepL K H xs ds
  | .dK kvs, .dic ks ds => kvs.map (·.1) = ks ∧ RepL K H (kvs.map (·.2)) ds
  | .dT kvs, .dit ks ds => kvs.map (·.1) = ks ∧ RepL K H (kvs.map (·.2)) ds
  | .ins C _ fs, .ins C' gs => C = C' ∧ fs.map (·.1) = gs.map (·.1) ∧ RepL K H (fs.map (·.2)) (gs.map (·.2))
  | _, _ => False
theorem RepO.mono {K : PySem.W.Frag} {H H' : Hp} (e : Same H H') {u : HO} {o : O} (h : RepO K H u o) : RepO K H' u o := by
  cases u <;> cases o <;> first
    | exact RepL.mono e h
    | exact ⟨h.1, RepL.mono e h.2⟩
    | exact ⟨h.1, h.2.1, RepL.mono e h.2.2⟩
    | exact False.elim h

abbrev RT := V → D → Prop
def Pl (T : RT) (v : V) (d : D) : RT := fun x y => T x y ∨ (x = v ∧ y = d)
def PlL (T : RT) (vs : List V) (ds : List D) : RT := fun x y => T x y ∨ (x, y) ∈ vs.zip ds
def Le (A B : RT) : Prop := ∀ v d, A v d → B v d
theorem Le.refl (A : RT) : Le A A := fun _ _ h => h
theorem Le.trans {A B C : RT} (h : Le A B) (k : Le B C) : Le A C := fun v d x => k v d (h v d x)
theorem Pl.le {T : RT} {v : V} {d : D} : Le T (Pl T v d) := fun _ _ h => .inl h
theorem Pl.it {T : RT} {v : V} {d : D} : Pl T v d v d := .inr ⟨rfl, rfl⟩
theorem PlL.le {T : RT} {vs : List V} {ds : List D} : Le T (PlL T vs ds) := fun _ _ h => .inl h
theorem Pl.mono {T T' : RT} {v : V} {d : D} (h : Le T T') : Le (Pl T v d) (Pl T' v d) := fun x y q => q.elim (fun z => .inl (h x y z)) .inr
theorem PlL.mono {T T' : RT} {vs : List V} {ds : List D} (h : Le T T') : Le (PlL T vs ds) (PlL T' vs ds) := fun x y q => q.elim (fun z => .inl (h x y z)) .inr

/-- the heap holds the store and the facts T: Hi is its part that never changes -/
def Hd0 (K : PySem.W.Frag) (H : Hp) (m : Sto) (T : RT) : Prop :=
  ∃ Hi : Hp, Same Hi H ∧ (∀ a o, m a = some o → Hi a = none ∧ ∃ u, H a = some u ∧ RepO K Hi u o) ∧ ∀ v d, T v d → Rep K Hi v d
section
variable {K : PySem.W.Frag} {H : Hp} {m : Sto} {T T' : RT} {p : Addr}
theorem Hd0.le (h : Hd0 K H m T) (k : Le T' T) : Hd0 K H m T' := by
  obtain ⟨Hi, h1, h2, h3⟩ := h
  exact ⟨Hi, h1, h2, fun v d x => h3 v d (k v d x)⟩
theorem Hd0.pl {v : V} {d : D} (h : Hd0 K H m T) (r : ∀ Hi, (∀ v d, T v d → Rep K Hi v d) → Rep K Hi v d) : Hd0 K H m (Pl T v d) := by
  obtain ⟨Hi, h1, h2, h3⟩ := h
  refine ⟨Hi, h1, h2, fun x y q => q.elim (h3 x y) fun ⟨e1, e2⟩ => ?_⟩
  subst e1 e2
  exact r Hi h3
theorem same_upd {H : Hp} {p : Addr} {o : HO} (h : H p = none) : Same H (upd H p o) := fun b x e => by
  rw [upd_ne (ne_of_none e h)]
  exact e
theorem Hd0.free (h : Hd0 K H m T) (hp : H p = none) : m p = none := by
  obtain ⟨Hi, h1, h2, h3⟩ := h
  cases e : m p with
  | none => rfl
  | some o =>
    obtain ⟨_, u, q, _⟩ := h2 p o e
    rw [hp] at q; cases q
theorem Hd0.newI {d : D} {u : HO} (h : Hd0 K H m T) (hp : H p = none) (r : ∀ Hi, Hi p = none → (∀ v d, T v d → Rep K Hi v d) → Rep K (upd Hi p u) (.ref p) d) : Hd0 K (upd H p u) m (Pl T (.ref p) d) := by
  have hm := h.free hp
  obtain ⟨Hi, h1, h2, h3⟩ := h
  have hi : Hi p = none := by
    cases e : Hi p with
    | none => rfl
    | some o => rw [h1 _ _ e] at hp; cases hp
  refine ⟨upd Hi p u, fun b o e => ?_, fun a o e => ?_, fun x y q => q.elim (fun z => Rep.mono (same_upd hi) (h3 x y z)) fun ⟨e1, e2⟩ => ?_⟩
  · by_cases hb : b = p
    · subst hb; rw [upd_same] at e ⊢; exact e
    · rw [upd_ne hb] at e ⊢; exact h1 _ _ e
  · have ha : a ≠ p := fun z => by subst z; rw [hm] at e; cases e
    obtain ⟨q1, u', q2, q3⟩ := h2 a o e
    exact ⟨by rw [upd_ne ha]; exact q1, u', by rw [upd_ne ha]; exact q2, q3.mono (same_upd hi)⟩
  · subst e1 e2
    exact r Hi hi h3
theorem Hd0.newM {o : O} {u : HO} (h : Hd0 K H m T) (hp : H p = none) (r : ∀ Hi, (∀ v d, T v d → Rep K Hi v d) → RepO K Hi u o) : Hd0 K (upd H p u) (sput m p o) (Pl T (.ref p) (.ref p)) := by
  have hm := h.free hp
  obtain ⟨Hi, h1, h2, h3⟩ := h
  have hi : Hi p = none := by
    cases e : Hi p with
    | none => rfl
    | some o => rw [h1 _ _ e] at hp; cases hp
  refine ⟨Hi, fun b o e => (same_upd hp) _ _ (h1 b o e), fun a o' e => ?_, fun x y q => q.elim (h3 x y) fun ⟨e1, e2⟩ => by rw [e1, e2]; exact .ref p⟩
  by_cases ha : a = p
  · subst ha
    rw [sput_same] at e; cases e
    exact ⟨hi, u, upd_same, r Hi h3⟩
  · rw [sput_ne ha] at e
    obtain ⟨q1, u', q2, q3⟩ := h2 a o' e
    exact ⟨q1, u', by rw [upd_ne ha]; exact q2, q3⟩
theorem Hd0.mut {a : Addr} {o o' : O} {u u' : HO} (h : Hd0 K H m T) (hm : m a = some o) (hu : H a = some u) (r : ∀ Hi, RepO K Hi u o → (∀ v d, T v d → Rep K Hi v d) → RepO K Hi u' o') : Hd0 K (upd H a u') (sput m a o') T := by
  obtain ⟨Hi, h1, h2, h3⟩ := h
  obtain ⟨q1, u0, q2, q3⟩ := h2 a o hm
  rw [hu] at q2; cases q2
  refine ⟨Hi, fun b x e => ?_, fun b x e => ?_, h3⟩
  · have hb : b ≠ a := ne_of_none e q1
    rw [upd_ne hb]; exact h1 _ _ e
  · by_cases hb : b = a
    · subst hb
      rw [sput_same] at e; cases e
      exact ⟨q1, u', upd_same, r Hi q3 h3⟩
    · rw [sput_ne hb] at e
      obtain ⟨p1, u1, p2, p3⟩ := h2 b x e
      exact ⟨p1, u1, by rw [upd_ne hb]; exact p2, p3⟩
/-- a local list is data from now on -/
theorem Hd0.freezeL {a : Addr} {ds : List D} (h : Hd0 K H m T) (hm : m a = some (.lst ds)) : Hd0 K H (sdel m a) (Pl T (.ref a) (.lst ds)) := by
  obtain ⟨Hi, h1, h2, h3⟩ := h
  obtain ⟨q1, u0, q2, q3⟩ := h2 a _ hm
  cases u0 with
  | lst xs =>
    have sm : Same Hi (upd Hi a (.lst xs)) := same_upd q1
    refine ⟨upd Hi a (.lst xs), fun b o e => ?_, fun b o e => ?_, fun x y q => q.elim (fun z => Rep.mono sm (h3 x y z)) fun ⟨e1, e2⟩ => ?_⟩
    · by_cases hb : b = a
      · subst hb; rw [upd_same] at e; cases e; exact q2
      · rw [upd_ne hb] at e; exact h1 _ _ e
    · by_cases hb : b = a
      · subst hb; unfold sdel at e; rw [if_pos rfl] at e; cases e
      · rw [sdel_ne hb] at e
        obtain ⟨p1, u1, p2, p3⟩ := h2 b o e
        exact ⟨by rw [upd_ne hb]; exact p1, u1, p2, p3.mono sm⟩
    · subst e1 e2
      exact .lst upd_same (RepL.mono sm q3)
  | _ => exact False.elim q3
theorem Hd0.get {a : Addr} {o : O} (h : Hd0 K H m T) (hm : m a = some o) : ∃ Hi u, Same Hi H ∧ H a = some u ∧ RepO K Hi u o ∧ Hi a = none := by
  obtain ⟨Hi, h1, h2, h3⟩ := h
  obtain ⟨q1, u, q2, q3⟩ := h2 a o hm
  exact ⟨Hi, u, h1, q2, q3, q1⟩
theorem Hd0.rep {v : V} {d : D} (h : Hd0 K H m T) (t : T v d) : Rep K H v d := by
  obtain ⟨Hi, h1, h2, h3⟩ := h
  exact Rep.mono h1 (h3 v d t)
end


/-! ### with a frame: r is what nobody here touches -/
def sun (m r : Sto) : Sto := fun a => match m a with
  | some o => some o
  | none => r a
def sdj (m r : Sto) : Prop := ∀ a o, m a = some o → r a = none
theorem sun_l {m r : Sto} {a : Addr} {o : O} (h : m a = some o) : sun m r a = some o := by unfold sun; rw [h]
theorem sun_r {m r : Sto} {a : Addr} (h : m a = none) : sun m r a = r a := by unfold sun; rw [h]
theorem sun_put {m r : Sto} {a : Addr} {o : O} : sun (sput m a o) r = sput (sun m r) a o := by
  funext b
  by_cases h : b = a
  · subst h; rw [sput_same]; exact sun_l sput_same
  · rw [sput_ne h]; unfold sun; rw [sput_ne h]
theorem sun_del {m r : Sto} {a : Addr} (h : r a = none) : sun (sdel m a) r = sdel (sun m r) a := by
  funext b
  by_cases e : b = a
  · subst e
    have e1 : sdel m b b = none := if_pos rfl
    have e2 : sdel (sun m r) b b = none := if_pos rfl
    rw [e2, sun_r e1, h]
  · rw [sdel_ne e]; unfold sun; rw [sdel_ne e]
theorem sun_assoc {a b c : Sto} : sun (sun a b) c = sun a (sun b c) := by
  funext x
  unfold sun
  cases a x <;> rfl
theorem sun_none {m : Sto} : sun m (fun _ => none) = m := by
  funext x
  unfold sun
  cases m x <;> rfl
theorem none_sun {m : Sto} : sun (fun _ => none) m = m := rfl
theorem sdj.sym {m r : Sto} (h : sdj m r) : sdj r m := fun a o e => by
  cases q : m a with
  | none => rfl
  | some u => rw [h a u q] at e; cases e
theorem sun_comm {m r : Sto} (h : sdj m r) : sun m r = sun r m := by
  funext x
  cases q : m x with
  | none =>
    rw [sun_r q]
    cases e : r x with
    | none => rw [sun_r e, q]
    | some o => rw [sun_l e]
  | some o => rw [sun_l q, sun_r (h x o q), q]
def Hd (K : PySem.W.Frag) (r : Sto) (H : Hp) (m : Sto) (T : RT) : Prop := sdj m r ∧ Hd0 K H (sun m r) T
section
variable {K : PySem.W.Frag} {r : Sto} {H : Hp} {m : Sto} {T T' : RT} {p : Addr}
theorem Hd.le (h : Hd K r H m T) (k : Le T' T) : Hd K r H m T' := ⟨h.1, h.2.le k⟩
theorem Hd.pl {v : V} {d : D} (h : Hd K r H m T) (k : ∀ Hi, (∀ v d, T v d → Rep K Hi v d) → Rep K Hi v d) : Hd K r H m (Pl T v d) := ⟨h.1, h.2.pl k⟩
theorem Hd.free (h : Hd K r H m T) (hp : H p = none) : m p = none := by
  have q := h.2.free hp
  cases e : m p with
  | none => rfl
  | some o => rw [sun_l e] at q; cases q
theorem Hd.freeR (h : Hd K r H m T) (hp : H p = none) : r p = none := by
  have q := h.2.free hp
  rw [sun_r (h.free hp)] at q
  exact q
theorem Hd.newI {d : D} {u : HO} (h : Hd K r H m T) (hp : H p = none) (k : ∀ Hi, Hi p = none → (∀ v d, T v d → Rep K Hi v d) → Rep K (upd Hi p u) (.ref p) d) : Hd K r (upd H p u) m (Pl T (.ref p) d) := ⟨h.1, h.2.newI hp k⟩
theorem Hd.newM {o : O} {u : HO} (h : Hd K r H m T) (hp : H p = none) (k : ∀ Hi, (∀ v d, T v d → Rep K Hi v d) → RepO K Hi u o) : Hd K r (upd H p u) (sput m p o) (Pl T (.ref p) (.ref p)) := by
  refine ⟨fun a o' e => ?_, by rw [sun_put]; exact h.2.newM hp k⟩
  by_cases ha : a = p
  · subst ha; exact h.freeR hp
  · rw [sput_ne ha] at e; exact h.1 a o' e
theorem Hd.mut {a : Addr} {o o' : O} {u u' : HO} (h : Hd K r H m T) (hm : m a = some o) (hu : H a = some u) (k : ∀ Hi, RepO K Hi u o → (∀ v d, T v d → Rep K Hi v d) → RepO K Hi u' o') : Hd K r (upd H a u') (sput m a o') T := by
  refine ⟨fun b x e => ?_, by rw [sun_put]; exact h.2.mut (sun_l hm) hu k⟩
  by_cases hb : b = a
  · subst hb; exact h.1 b o hm
  · rw [sput_ne hb] at e; exact h.1 b x e
theorem Hd.freezeL {a : Addr} {ds : List D} (h : Hd K r H m T) (hm : m a = some (.lst ds)) : Hd K r H (sdel m a) (Pl T (.ref a) (.lst ds)) := by
  refine ⟨fun b x e => ?_, by rw [sun_del (h.1 a _ hm)]; exact h.2.freezeL (sun_l hm)⟩
  by_cases hb : b = a
  · subst hb; unfold sdel at e; rw [if_pos rfl] at e; cases e
  · rw [sdel_ne hb] at e; exact h.1 b x e
theorem Hd.get {a : Addr} {o : O} (h : Hd K r H m T) (hm : m a = some o) : ∃ Hi u, Same Hi H ∧ H a = some u ∧ RepO K Hi u o ∧ Hi a = none := h.2.get (sun_l hm)
theorem Hd.rep {v : V} {d : D} (h : Hd K r H m T) (t : T v d) : Rep K H v d := h.2.rep t
/-- a part of the store goes to the frame, comes back -/
theorem Hd.push {m1 m2 : Sto} (h : Hd K r H (sun m1 m2) T) (d : sdj m1 m2) : Hd K (sun m2 r) H m1 T := by
  refine ⟨fun a o e => ?_, by rw [← sun_assoc]; exact h.2⟩
  rw [sun_r (d a o e)]
  exact h.1 a o (sun_l e)
theorem Hd.pop {m1 m2 : Sto} (h : Hd K (sun m2 r) H m1 T) (d : sdj m2 r) : sdj m1 m2 ∧ Hd K r H (sun m1 m2) T := by
  have d1 : sdj m1 m2 := fun a o e => by
    have q := h.1 a o e
    cases x : m2 a with
    | none => rfl
    | some u => rw [sun_l x] at q; cases q
  refine ⟨d1, fun a o e => ?_, by rw [sun_assoc]; exact h.2⟩
  cases x : m1 a with
  | none => rw [sun_r x] at e; exact d a o e
  | some u =>
    have q := h.1 a u x
    rw [sun_r (d1 a u x)] at q
    exact q
end

/-! ### the judgements -/
/-- what does not change through a def's body -/
structure Ct where
  P : Program
  w : World
  K : PySem.W.Frag
  mg : Str → Option Value
  base : Heap
  N : List Str
  sc : Scope
  fn : Str → Bool
  k : Nat
  tr : Bool
  cm : Bool
  /-- the error that is in hand, its class -/
  ex : Option (Addr × Addr) := none
structure Fits (C : Ct) (X : Cx) : Prop where
  prog : X.prog = C.P
  w : X.w = C.w
  K : X.K = C.K
  mg : X.mg = C.mg
  base : X.base = C.base
  N : X.N = C.N
  sc : X.env.scope = C.sc
  fn : ∀ x, C.fn x = true → X.fn x = true
  nd : X.N.Nodup
  un : X.A.units + 200 < cLine
  room : C.cm = true → Room C.k X.A
  calm : C.cm = true → X.calm = true
  own : PassesOwn (model X.prog X.w) X.A X.env X.xe
  tr : C.tr = true → X.stack = X.env :: X.outer ∧ X.env.frame = some X.env.locals
  ex : ∀ a D, C.ex = some (a, D) → CallR X (.builtin "isinstance") (rIsE X.K D a)
abbrev Sl := List (Option D)
def SlotsIn (σ : L2.St) (δ : Sl) (T : RT) : Prop := σ.length = δ.length ∧ ∀ (i : Nat) (d : D), δ[i]? = some (some d) → ∃ v : V, σ[i]? = some (some v) ∧ T v d
theorem SlotsIn.le {σ : L2.St} {δ : Sl} {T T' : RT} (h : SlotsIn σ δ T) (k : Le T T') : SlotsIn σ δ T' := ⟨h.1, fun i d e => let ⟨v, a, b⟩ := h.2 i d e; ⟨v, a, k v d b⟩⟩
theorem SlotsIn.set {σ : L2.St} {δ : Sl} {T : RT} {i : Nat} {v : V} {d : D} (h : SlotsIn σ δ T) (t : T v d) : SlotsIn (σ.set i (some v)) (δ.set i (some d)) T := by
  refine ⟨by rw [List.length_set, List.length_set]; exact h.1, fun j e q => ?_⟩
  by_cases hj : i = j
  · subst hj
    have hi : i < δ.length := by
      have := (List.getElem?_eq_some_iff.mp q).1
      simpa using this
    rw [List.getElem?_set_self hi] at q
    cases q
    exact ⟨v, by rw [List.getElem?_set_self (by rw [h.1]; exact hi)], t⟩
  · rw [List.getElem?_set_ne hj] at q ⊢
    exact h.2 j e q
theorem SlotsIn.unset {σ : L2.St} {δ : Sl} {T : RT} {i : Nat} (h : SlotsIn σ δ T) : SlotsIn (σ.set i none) (δ.set i none) T := by
  refine ⟨by rw [List.length_set, List.length_set]; exact h.1, fun j e q => ?_⟩
  by_cases hj : i = j
  · subst hj
    have hi : i < δ.length := by
      have := (List.getElem?_eq_some_iff.mp q).1
      simpa using this
    rw [List.getElem?_set_self hi] at q
    cases q
  · rw [List.getElem?_set_ne hj] at q ⊢
    exact h.2 j e q

/-- the own dict of an exception -/
def ExcD (H : Hp) (T : RT) (d : Option Addr) (fs : List (Str × D)) : Prop :=
  (d = none ∧ fs = []) ∨ ∃ a vs, fs ≠ [] ∧ d = some a ∧ H a = some (.xd vs) ∧ vs.map (·.1) = fs.map (·.1) ∧ ∀ v x, (v, x) ∈ (vs.map (·.2)).zip (fs.map (·.2)) → T v x
/-- the wish of an exception: its class, its own fields, the slots, the store -/
abbrev DW := Value → List (Str × D) → Sl → Sto → Prop
structure Fr where
  t : RT
  r : Sto
def liftW (K : PySem.W.Frag) (W : DW) (S : Fr) : WX := fun cls d σ H => ∃ δ m T fs, Le S.t T ∧ SlotsIn σ δ T ∧ Hd K S.r H m T ∧ ExcD H T d fs ∧ W cls fs δ m
structure DEn where
  nx : Sl → Sto → Prop
  rt : D → Sto → Prop
  bk : Sl → Sto → Prop := fun _ _ => False
  ct : Sl → Sto → Prop := fun _ _ => False
def lift1 (K : PySem.W.Frag) (S : Fr) (n : Sl → Sto → Prop) : L2.St → Hp → Prop := fun σ H => ∃ δ m T, Le S.t T ∧ SlotsIn σ δ T ∧ Hd K S.r H m T ∧ n δ m
def liftR (K : PySem.W.Frag) (S : Fr) (r : D → Sto → Prop) : VK := fun v H => ∃ d m, Hd K S.r H m (Pl S.t v d) ∧ r d m
def liftD (K : PySem.W.Frag) (S : Fr) (D : DEn) : Ends := { nx := lift1 K S D.nx, rt := liftR K S D.rt, bk := lift1 K S D.bk, ct := lift1 K S D.ct }

def DE (C : Ct) (W : DW) (e : Expr) (δ : Sl) (m : Sto) (Q : D → Sto → Prop) : Prop :=
  ∀ (X : Cx) (S : Fr), Fits C X → Takes X (liftW C.K W S) → ∀ (σ : L2.St) (H : Hp) (T : RT), Le S.t T → SlotsIn σ δ T → Hd C.K S.r H m T → WE X e σ H fun v H' => ∃ d m', Hd C.K S.r H' m' (Pl T v d) ∧ Q d m'
def DT (C : Ct) (W : DW) (e : Expr) (δ : Sl) (m : Sto) (Q : Bool → Sto → Prop) : Prop :=
  ∀ (X : Cx) (S : Fr), Fits C X → Takes X (liftW C.K W S) → ∀ (σ : L2.St) (H : Hp) (T : RT), Le S.t T → SlotsIn σ δ T → Hd C.K S.r H m T → WT X e σ H fun b H' => ∃ m', Hd C.K S.r H' m' T ∧ Q b m'
def DA (C : Ct) (W : DW) (es : List Expr) (δ : Sl) (m : Sto) (Q : List D → Sto → Prop) : Prop :=
  ∀ (X : Cx) (S : Fr), Fits C X → Takes X (liftW C.K W S) → ∀ (σ : L2.St) (H : Hp) (T : RT), Le S.t T → SlotsIn σ δ T → Hd C.K S.r H m T → WA X es σ H fun vs H' => ∃ ds m', vs.length = ds.length ∧ Hd C.K S.r H' m' (PlL T vs ds) ∧ Q ds m'
def DS (C : Ct) (W : DW) (st : Stmt) (δ : Sl) (m : Sto) (D : DEn) : Prop :=
  ∀ (X : Cx) (S : Fr), Fits C X → Takes X (liftW C.K W S) → ∀ (σ : L2.St) (H : Hp) (T : RT), Le S.t T → SlotsIn σ δ T → Hd C.K S.r H m T → WS X st (liftD C.K S D) σ H
def DSs (C : Ct) (W : DW) (sts : List Stmt) (δ : Sl) (m : Sto) (D : DEn) : Prop :=
  ∀ (X : Cx) (S : Fr), Fits C X → Takes X (liftW C.K W S) → ∀ (σ : L2.St) (H : Hp) (T : RT), Le S.t T → SlotsIn σ δ T → Hd C.K S.r H m T → WSs X sts (liftD C.K S D) σ H
/-- a target -/
def DG (C : Ct) (W : DW) (tg : Expr) (d : D) (δ : Sl) (m : Sto) (Q : Sl → Sto → Prop) : Prop :=
  ∀ (X : Cx) (S : Fr), Fits C X → Takes X (liftW C.K W S) → ∀ (v : V) (σ : L2.St) (H : Hp) (T : RT), Le S.t T → SlotsIn σ δ T → T v d → Hd C.K S.r H m T → WG X tg v σ H fun σ' H' => ∃ δ' m' T', Le T T' ∧ SlotsIn σ' δ' T' ∧ Hd C.K S.r H' m' T' ∧ Q δ' m'
end G

/-! The data layer's rules: names, constants, operators, comparisons, tests, displays, subscripts. -/
namespace G
open PySem PySem.Spec PyProof.Rows L2

/-- by values -/
def WB (X : Cx) (f : Value → Value → Sem Value) (x y : V) (H : Hp) (Q : VK) : Prop := ∀ (pins : List (Addr × Obj)) (s : Shared) (σ : L2.St) (v u : Value), Inv X pins σ H s → RelV x v → RelV y u → wpAny (model X.prog X.w) X.A (f v u) (EP X pins σ Q) X.xe s
theorem wb_of {X : Cx} {f : Value → Value → Sem Value} {r : R2} {x y : V} {H : Hp} {Q : VK} (h : OpR X f r) (q : r x y H Q) : WB X f x y H Q := fun pins s σ v u I a b => h pins s σ H x y v u Q I a b q
/-- what is wanted of a value, as data -/
def dK (K : PySem.W.Frag) (r : Sto) (T : RT) (Q : D → Sto → Prop) : VK := fun v H' => ∃ d m', Hd K r H' m' (Pl T v d) ∧ Q d m'
abbrev R2D := D → D → Sto → (D → Sto → Prop) → Prop
def OpD (C : Ct) (f : Value → Value → Sem Value) (r : R2D) : Prop := ∀ (X : Cx), Fits C X → ∀ (fr : Sto) (H : Hp) (m : Sto) (T : RT) (x y : V) (d e : D) (Q : D → Sto → Prop), Hd C.K fr H m T → T x d → T y e → r d e m Q → WB X f x y H (dK C.K fr T Q)

section
variable {K : PySem.W.Frag} {fr : Sto} {H : Hp} {m : Sto} {T : RT}
theorem Hd.again {v : V} {d : D} (h : Hd K fr H m T) (t : T v d) : Hd K fr H m (Pl T v d) := h.le fun x y q => q.elim id fun ⟨a, b⟩ => by rw [a, b]; exact t
theorem dk {Q : D → Sto → Prop} {v : V} {d : D} (h : Hd K fr H m T) (r : ∀ Hi, (∀ v d, T v d → Rep K Hi v d) → Rep K Hi v d) (q : Q d m) : dK K fr T Q v H := ⟨d, m, h.pl r, q⟩
theorem dk_int {Q : D → Sto → Prop} {i : Int} (h : Hd K fr H m T) (q : Q (.int i) m) : dK K fr T Q (.int i) H := dk h (fun _ _ => .int i) q
theorem dk_bl {Q : D → Sto → Prop} {i : Bool} (h : Hd K fr H m T) (q : Q (.bl i) m) : dK K fr T Q (.bl i) H := dk h (fun _ _ => .bl i) q
theorem dk_str {Q : D → Sto → Prop} {i : Str} (h : Hd K fr H m T) (q : Q (.str i) m) : dK K fr T Q (.str i) H := dk h (fun _ _ => .str i) q
theorem dk_non {Q : D → Sto → Prop} (h : Hd K fr H m T) (q : Q .non m) : dK K fr T Q .non H := dk h (fun _ _ => .non) q
/-- a new tuple, a new list of what is known -/
theorem dk_tup {Q : D → Sto → Prop} {p : Addr} {xs : List V} {ds : List D} (h : Hd K fr H m T) (hp : H p = none) (r : ∀ Hi, (∀ v d, T v d → Rep K Hi v d) → RepL K Hi xs ds) (q : Q (.tup ds) m) : dK K fr T Q (.ref p) (upd H p (.tup xs)) :=
  ⟨.tup ds, m, h.newI hp fun Hi hi k => .tup (SqT.of upd_same) ((r Hi k).mono (same_upd hi)), q⟩
theorem dk_lst {Q : D → Sto → Prop} {p : Addr} {xs : List V} {ds : List D} (h : Hd K fr H m T) (hp : H p = none) (r : ∀ Hi, (∀ v d, T v d → Rep K Hi v d) → RepL K Hi xs ds) (q : Q (.lst ds) m) : dK K fr T Q (.ref p) (upd H p (.lst xs)) :=
  ⟨.lst ds, m, h.newI hp fun Hi hi k => .lst upd_same ((r Hi k).mono (same_upd hi)), q⟩
/-- .. as objects -/
theorem dk_lstM {Q : D → Sto → Prop} {p : Addr} {xs : List V} {ds : List D} (h : Hd K fr H m T) (hp : H p = none) (r : ∀ Hi, (∀ v d, T v d → Rep K Hi v d) → RepL K Hi xs ds) (q : ∀ p, m p = none → Q (.ref p) (sput m p (.lst ds))) : dK K fr T Q (.ref p) (upd H p (.lst xs)) :=
  ⟨.ref p, _, h.newM (o := .lst ds) hp fun Hi k => r Hi k, q p (h.free hp)⟩
/-- the same facts, the item known already -/
theorem dk_it {Q : D → Sto → Prop} {v : V} {d : D} (h : Hd K fr H m T) (r : ∀ Hi, (∀ v d, T v d → Rep K Hi v d) → Rep K Hi v d) (q : Q d m) : dK K fr T Q v H := dk h r q
theorem dK.le {T' : RT} {Q : D → Sto → Prop} {v : V} (h : dK K fr T Q v H) (k : Le T' T) : dK K fr T' Q v H := by
  obtain ⟨d, m, a, b⟩ := h
  exact ⟨d, m, a.le (Pl.mono k), b⟩
end

section
variable {C : Ct} {W : DW} {δ : Sl} {m : Sto} {Q : D → Sto → Prop} {a b c e : Expr} {pos : Pos}
theorem DE.mono {Q' : D → Sto → Prop} (h : DE C W e δ m Q) (k : ∀ d m', Q d m' → Q' d m') : DE C W e δ m Q' := fun X S f tk σ H T le sl hd => (h X S f tk σ H T le sl hd).mono fun _ _ ⟨d, m', a, b⟩ => ⟨d, m', a, k _ _ b⟩
theorem DT.mono {Q Q' : Bool → Sto → Prop} (h : DT C W e δ m Q) (k : ∀ d m', Q d m' → Q' d m') : DT C W e δ m Q' := fun X S f tk σ H T le sl hd => (h X S f tk σ H T le sl hd).mono fun _ _ ⟨m', a, b⟩ => ⟨m', a, k _ _ b⟩

/-! ### names, constants -/
theorem de_var (i : Nat) {x : Str} {d : D} (hN : C.N[i]? = some x) (hv : Vis C.sc x) (hd : δ[i]? = some (some d)) (q : Q d m) (hdb : (x == ("__debug__" : Str)) = false := by decide) (hcd : (x == ("__classdict__" : Str)) = false := by decide) : DE C W (.Name x pos) δ m Q := by
  intro X S f tk σ H T le sl hh
  obtain ⟨v, e, t⟩ := sl.2 i d hd
  exact WE.of (pe_var (i := i) (by rw [f.N]; exact hN) (by rw [f.sc]; exact hv) hdb hcd) ⟨v, e, d, m, hh.again t, q⟩
theorem de_int {i : Int} {j : Nat} (q : Q (.int i) m) : DE C W (.Constant (.int i) j pos) δ m Q := fun X S f tk σ H T le sl hh => WE.of pe_int (dk_int hh q)
theorem de_bl {i : Bool} {j : Nat} (q : Q (.bl i) m) : DE C W (.Constant (.bool i) j pos) δ m Q := fun X S f tk σ H T le sl hh => WE.of pe_bl (dk_bl hh q)
theorem de_non {j : Nat} (q : Q .non m) : DE C W (.Constant .none j pos) δ m Q := fun X S f tk σ H T le sl hh => WE.of pe_non (dk_non hh q)
theorem de_str {i : Str} {j : Nat} (q : Q (.str i) m) : DE C W (.Constant (.str i) j pos) δ m Q := fun X S f tk σ H T le sl hh => WE.of pe_str (dk_str hh q)
/-- a module's name -/
def GlC (C : Ct) (x : Str) : Prop := C.sc.names.lookup x = some .globalImplicit
theorem Fits.gl {X : Cx} {x : Str} (f : Fits C X) (h : GlC C x) : Gl X x := by
  show X.env.scope.names.lookup x = some .globalImplicit
  rw [f.sc]
  exact h
/-- data that stands in the written part, whatever the heap -/
def KRep (K : PySem.W.Frag) (v : V) (d : D) : Prop := ∀ H, Rep K H v d
theorem de_glob {x : Str} {v : V} {u : Value} {d : D} (hg : GlC C x) (hm : C.mg x = some u) (r : RelV v u) (k : KRep C.K v d) (q : Q d m) (hdb : (x == ("__debug__" : Str)) = false := by decide) : DE C W (.Name x pos) δ m Q :=
  fun X S f tk σ H T le sl hh => WE.of (pe_glob (f.gl hg) (by rw [f.mg]; exact hm) r hdb) (dk hh (fun Hi _ => k Hi) q)
/-- a built-in class as a value -/
theorem de_bty {x : Str} {n : String} (hg : GlC C x) (hm : C.mg x = none) (hv : bootBuiltins x = some (.type n)) (q : Q (.ty n) m) (hn : x ≠ "__name__" := by decide) (hdb : (x == ("__debug__" : Str)) = false := by decide) : DE C W (.Name x pos) δ m Q :=
  fun X S f tk σ H T le sl hh => WE.of (pe_bltn (v := .ty n) (f.gl hg) (by rw [f.mg]; exact hm) hv rfl hn hdb) (dk hh (fun Hi _ => .ty n) q)

/-! ### two values -/
theorem two {X : Cx} {S : Fr} (f : Fits C X) (tk : Takes X (liftW C.K W S)) {σ : L2.St} {H : Hp} {T : RT} (le : Le S.t T) (sl : SlotsIn σ δ T) (hh : Hd C.K S.r H m T)
    {R : D → D → Sto → Prop} (h : DE C W a δ m fun x m1 => DE C W b δ m1 fun y m2 => R x y m2) {pins : List (Addr × Obj)} {s : Shared} (I : Inv X pins σ H s) {Q : Value → Shared → Prop} {g : Value → Value → Sem Value}
    (hf : ∀ v u s2 x y H2 d e m2 T2, Inv X pins σ H2 s2 → RelV x v → RelV y u → Hd C.K S.r H2 m2 T2 → T2 x d → T2 y e → Le T T2 → R d e m2 → wpAny (model X.prog X.w) X.A (g v u) Q X.xe s2) :
    wpAny (model X.prog X.w) X.A (eval a X.env) (fun v s₁ => wpAny (model X.prog X.w) X.A (eval b X.env) (fun u s₂ => wpAny (model X.prog X.w) X.A (g v u) Q X.xe s₂) X.xe s₁) X.xe s := by
  refine thn (h X S f tk σ H T le sl hh pins s I) fun v s1 ⟨x, H1, I1, r1, d, m1, h1, q1⟩ => ?_
  refine thn (q1 X S f tk σ H1 (Pl T x d) (le.trans Pl.le) (sl.le Pl.le) h1 pins s1 I1) fun u s2 ⟨y, H2, I2, r2, e, m2, h2, q2⟩ => ?_
  exact hf v u s2 x y H2 d e m2 _ I2 r1 r2 h2 (.inl Pl.it) Pl.it (Pl.le.trans Pl.le) q2
theorem de_bin {op : Operator} {r : R2D} (ho : OpD C (binaryOp op) r) (h : DE C W a δ m fun x m1 => DE C W b δ m1 fun y m2 => r x y m2 Q) : DE C W (.BinOp a op b pos) δ m Q := by
  intro X S f tk σ H T le sl hh pins s I
  refine wpAny_BinOp (two f tk le sl hh h I fun v u s2 x y H2 d e m2 T2 I2 rx ry h2 tx ty l2 q => ?_)
  refine thn (ho X f S.r H2 m2 T2 x y d e Q h2 tx ty q pins s2 σ v u I2 rx ry) fun w s3 ⟨z, H3, I3, r3, q3⟩ => ⟨z, H3, I3, r3, ?_⟩
  exact dK.le q3 l2
theorem de_cmp {op : CmpOp} {r : R2D} (ho : OpD C (compareOp op) r) (h : DE C W a δ m fun x m1 => DE C W b δ m1 fun y m2 => r x y m2 Q) (hm : behindInMarks op b = false := by with_unfolding_all rfl) : DE C W (.Compare a [op] [b] pos) δ m Q := by
  intro X S f tk σ H T le sl hh pins s I
  refine wpAny_Compare1 (two f tk le sl hh h I fun v u s2 x y H2 d e m2 T2 I2 rx ry h2 tx ty l2 q => ?_) hm
  refine thn (ho X f S.r H2 m2 T2 x y d e Q h2 tx ty q pins s2 σ v u I2 rx ry) fun w s3 ⟨z, H3, I3, r3, q3⟩ => ⟨z, H3, I3, r3, ?_⟩
  exact dK.le q3 l2
/-- what a test wants of a bool -/
def tB (Q : Bool → Sto → Prop) : D → Sto → Prop := fun d m => ∃ k, d = .bl k ∧ Q k m
theorem tb {Q : Bool → Sto → Prop} {k : Bool} (q : Q k m) : tB Q (.bl k) m := ⟨k, rfl, q⟩
theorem Hd.isbl {K : PySem.W.Frag} {fr : Sto} {H : Hp} {m : Sto} {T : RT} {v : V} {k : Bool} (h : Hd K fr H m (Pl T v (.bl k))) : v = .bl k := by
  have r := h.rep Pl.it
  cases r
  rfl
theorem dt_cmp {Q : Bool → Sto → Prop} {op : CmpOp} {r : R2D} (ho : OpD C (compareOp op) r) (h : DE C W a δ m fun x m1 => DE C W b δ m1 fun y m2 => r x y m2 (tB Q)) (hm : behindInMarks op b = false := by with_unfolding_all rfl) : DT C W (.Compare a [op] [b] pos) δ m Q := by
  intro X S f tk σ H T le sl hh pins s I
  refine wpAny_isTrue_Compare1 ?_ hm
  refine thn (h X S f tk σ H T le sl hh pins s I) fun v s1 ⟨x, H1, I1, r1, d, m1, h1, q1⟩ => ?_
  refine thn (q1 X S f tk σ H1 (Pl T x d) (le.trans Pl.le) (sl.le Pl.le) h1 pins s1 I1) fun u s2 ⟨y, H2, I2, r2, e, m2, h2, q2⟩ => ?_
  refine thn (ho X f S.r H2 m2 _ x y d e _ h2 (.inl Pl.it) Pl.it q2 pins s2 σ v u I2 r1 r2) fun w s3 ⟨z, H3, I3, r3, d3, m3, h3, k, e3, q3⟩ => ?_
  subst e3
  have ez := h3.isbl
  subst ez
  cases r3
  exact wpAny_truthy_bool ⟨H3, I3, m3, h3.le ((Pl.le.trans Pl.le).trans Pl.le), q3⟩
/-- an expression that gives a bool, as a test -/
theorem dt_val {Q : Bool → Sto → Prop} (h : DE C W e δ m (tB Q)) (he : ∀ env whole, isTrue e env whole = (do let v ← whole; standAt e.pos; holding [v] (truthy v)) := by intro _ _; rfl) : DT C W e δ m Q := by
  intro X S f tk σ H T le sl hh pins s I
  refine isTrue_plain (thn (h X S f tk σ H T le sl hh pins s I) fun v s1 ⟨x, H1, I1, r1, d, m1, h1, k, e1, q1⟩ => ?_) (he _ _)
  subst e1
  have ez := h1.isbl
  subst ez
  cases r1
  exact wpAny_truthy_bool ⟨H1, I1, m1, h1.le Pl.le, q1⟩
/-- the truth of any data -/
def truD : D → Sto → (Bool → Sto → Prop) → Prop
  | .non, m, Q => Q false m
  | .bl b, m, Q => Q b m
  | .int i, m, Q => Q (i != 0) m
  | .str s, m, Q => s.length ≤ sizeLine ∧ Q ((s.length : Int) != 0) m
  | .tup l, m, Q => Q (!l.isEmpty) m
  | .lst l, m, Q => Q (!l.isEmpty) m
  | _, _, _ => False
theorem RepL.empty {K : PySem.W.Frag} {H : Hp} {vs : List V} {ds : List D} (r : RepL K H vs ds) : vs.isEmpty = ds.isEmpty := by cases r <;> rfl
theorem dt_truth {Q : Bool → Sto → Prop} (h : DE C W e δ m fun d m' => truD d m' Q) (he : ∀ env whole, isTrue e env whole = (do let v ← whole; standAt e.pos; holding [v] (truthy v)) := by intro _ _; rfl) : DT C W e δ m Q := by
  intro X S f tk σ H T le sl hh pins s I
  refine isTrue_plain (thn (h X S f tk σ H T le sl hh pins s I) fun v s1 ⟨x, H1, I1, r1, d, m1, h1, q1⟩ => ?_) (he _ _)
  have fin : ∀ k, TruV X.K x H1 k → Q k m1 → wpAny (model X.prog X.w) X.A (truthy v) (TP X pins σ fun b H' => ∃ m', Hd C.K S.r H' m' T ∧ Q b m') X.xe s1 := fun k t q => tru_ok pins s1 σ H1 x v _ I1 r1 ⟨k, t, m1, h1.le Pl.le, q⟩
  have rp := h1.rep Pl.it
  cases rp with
  | non => exact fin _ rfl q1
  | bl b => exact fin _ rfl q1
  | int b => exact fin _ rfl q1
  | str b => exact fin _ ⟨q1.1, rfl⟩ q1.2
  | tup h r => exact fin _ (.inr (.inl ⟨_, by rw [f.K]; exact h, by rw [r.empty]⟩)) q1
  | lst h r => exact fin _ (.inl ⟨_, SqL.of h, by rw [r.empty]⟩) q1
  | _ => exact False.elim q1

/-! ### and, or, not -/
def WW (X : Cx) (e : Expr) : TT := fun σ H Q => ∀ (whole : Sem Value) (pins : List (Addr × Obj)) (s : Shared), Inv X pins σ H s → wpAny (model X.prog X.w) X.A (isTrue e X.env whole) (TP X pins σ Q) X.xe s
theorem ww {X : Cx} : PW X e (WW X e) := ⟨fun whole pins s _ _ _ I h => h whole pins s I⟩
def DW' (C : Ct) (W : DW) (e : Expr) (δ : Sl) (m : Sto) (Q : Bool → Sto → Prop) : Prop :=
  ∀ (X : Cx) (S : Fr), Fits C X → Takes X (liftW C.K W S) → ∀ (σ : L2.St) (H : Hp) (T : RT), Le S.t T → SlotsIn σ δ T → Hd C.K S.r H m T → WW X e σ H fun b H' => ∃ m', Hd C.K S.r H' m' T ∧ Q b m'
theorem dt_W {Q : Bool → Sto → Prop} (h : DW' C W e δ m Q) : DT C W e δ m Q := fun X S f tk σ H T le sl hh pins s I => h X S f tk σ H T le sl hh _ pins s I
/-- the ways of a test -/
def br (b : Bool) (A B : Prop) : Prop := (b = true → A) ∧ (b = false → B)
theorem br.t {A B : Prop} (h : A) : br true A B := ⟨fun _ => h, fun e => nomatch e⟩
theorem br.f {A B : Prop} (h : B) : br false A B := ⟨(fun e => nomatch e), fun _ => h⟩
theorem br.dec {p : Prop} [Decidable p] {A B : Prop} (h : p → A) (k : ¬ p → B) : br (decide p) A B := ⟨fun e => h (of_decide_eq_true e), fun e => k (of_decide_eq_false e)⟩
theorem br.ndec {p : Prop} [Decidable p] {A B : Prop} (h : ¬ p → A) (k : p → B) : br (!decide p) A B := ⟨fun e => h (of_decide_eq_false (by simpa using e)), fun e => k (of_decide_eq_true (by simpa using e))⟩
theorem br.any {b : Bool} {A B : Prop} (h : b = true → A) (k : b = false → B) : br b A B := ⟨h, k⟩
theorem br.and {b c : Bool} {A B : Prop} (h : br b (br c A B) B) : br (b && c) A B := by
  cases b with
  | true => exact h.1 rfl
  | false => exact br.f (h.2 rfl)
theorem br.or {b c : Bool} {A B : Prop} (h : br b A (br c A B)) : br (b || c) A B := by
  cases b with
  | true => exact br.t (h.1 rfl)
  | false => exact h.2 rfl
theorem br.not {b : Bool} {A B : Prop} (h : br b B A) : br (!b) A B := by
  cases b with
  | true => exact br.f (h.1 rfl)
  | false => exact br.t (h.2 rfl)
variable {rest : List Expr} {B : Bool → Sto → Prop}
theorem dw_one_and (h : DT C W a δ m B) : DW' C W (.BoolOp .And [a] pos) δ m B := fun X S f tk σ H T le sl hh whole pins s I => (pw_and1 (pos := pos) wt).run whole pins s σ H _ I (h X S f tk σ H T le sl hh)
theorem dw_one_or (h : DT C W a δ m B) : DW' C W (.BoolOp .Or [a] pos) δ m B := fun X S f tk σ H T le sl hh whole pins s I => (pw_or1 (pos := pos) wt).run whole pins s σ H _ I (h X S f tk σ H T le sl hh)
theorem dw_and (h : DT C W a δ m fun k m1 => br k (DW' C W (.BoolOp .And (b :: rest) pos) δ m1 B) (B false m1)) : DW' C W (.BoolOp .And (a :: b :: rest) pos) δ m B := by
  intro X S f tk σ H T le sl hh whole pins s I
  refine isTrue_and (thn (h X S f tk σ H T le sl hh pins s I) fun k s1 ⟨H1, I1, m1, h1, q1⟩ => ?_)
  cases k with
  | true => exact q1.1 rfl X S f tk σ H1 T le sl h1 whole pins s1 I1
  | false => exact ⟨H1, I1, m1, h1, q1.2 rfl⟩
theorem dw_or (h : DT C W a δ m fun k m1 => br k (B true m1) (DW' C W (.BoolOp .Or (b :: rest) pos) δ m1 B)) : DW' C W (.BoolOp .Or (a :: b :: rest) pos) δ m B := by
  intro X S f tk σ H T le sl hh whole pins s I
  refine isTrue_or (thn (h X S f tk σ H T le sl hh pins s I) fun k s1 ⟨H1, I1, m1, h1, q1⟩ => ?_)
  cases k with
  | true => exact ⟨H1, I1, m1, h1, q1.1 rfl⟩
  | false => exact q1.2 rfl X S f tk σ H1 T le sl h1 whole pins s1 I1
theorem dt_not (h : DT C W a δ m fun k m1 => B (!k) m1) : DT C W (.UnaryOp .Not a pos) δ m B := fun X S f tk σ H T le sl hh => WT.of (pt_not wt) (h X S f tk σ H T le sl hh)
/-- .. where the parts change nothing: one way -/
def PT (C : Ct) (e : Expr) (δ : Sl) (m : Sto) (k : Bool) : Prop := ∀ (W : DW) (B : Bool → Sto → Prop), B k m → DT C W e δ m B
def PWp (C : Ct) (e : Expr) (δ : Sl) (m : Sto) (k : Bool) : Prop := ∀ (W : DW) (B : Bool → Sto → Prop), B k m → DW' C W e δ m B
theorem pw_one_and {k : Bool} (h : PT C a δ m k) : PWp C (.BoolOp .And [a] pos) δ m k := fun W B q => dw_one_and (h W B q)
theorem pw_one_or {k : Bool} (h : PT C a δ m k) : PWp C (.BoolOp .Or [a] pos) δ m k := fun W B q => dw_one_or (h W B q)
theorem pw_and' {k l : Bool} (h : PT C a δ m k) (h2 : k = true → PWp C (.BoolOp .And (b :: rest) pos) δ m l) : PWp C (.BoolOp .And (a :: b :: rest) pos) δ m (k && l) := fun W B q => dw_and (h W _ ⟨fun e => by subst e; exact h2 rfl W B q, fun e => by subst e; exact q⟩)
theorem pw_or' {k l : Bool} (h : PT C a δ m k) (h2 : k = false → PWp C (.BoolOp .Or (b :: rest) pos) δ m l) : PWp C (.BoolOp .Or (a :: b :: rest) pos) δ m (k || l) := fun W B q => dw_or (h W _ ⟨fun e => by subst e; exact q, fun e => by subst e; exact h2 rfl W B q⟩)
theorem dt_pw {k : Bool} (h : PWp C e δ m k) (q : B k m) : DT C W e δ m B := dt_W (h W B q)
/-- as values -/
theorem de_one {op : BoolOp} (h : DE C W a δ m Q) : DE C W (.BoolOp op [a] pos) δ m Q := fun X S f tk σ H T le sl hh => WE.of (pe_one we) (h X S f tk σ H T le sl hh)
theorem de_and (h : DE C W a δ m (tB fun k m1 => br k (DE C W (.BoolOp .And (b :: rest) pos) δ m1 Q) (Q (.bl false) m1))) : DE C W (.BoolOp .And (a :: b :: rest) pos) δ m Q := by
  intro X S f tk σ H T le sl hh
  refine WE.of (pe_and we we) ?_
  refine (h X S f tk σ H T le sl hh).mono fun v H1 ⟨d, m1, h1, k, e, q⟩ => ?_
  subst e
  refine ⟨k, h1.isbl, ?_⟩
  cases k with
  | true => exact q.1 rfl X S f tk σ H1 T le sl (h1.le Pl.le)
  | false => exact dk_bl (h1.le Pl.le) (q.2 rfl)
theorem de_or (h : DE C W a δ m (tB fun k m1 => br k (Q (.bl true) m1) (DE C W (.BoolOp .Or (b :: rest) pos) δ m1 Q))) : DE C W (.BoolOp .Or (a :: b :: rest) pos) δ m Q := by
  intro X S f tk σ H T le sl hh
  refine WE.of (pe_or we we) ?_
  refine (h X S f tk σ H T le sl hh).mono fun v H1 ⟨d, m1, h1, k, e, q⟩ => ?_
  subst e
  refine ⟨k, h1.isbl, ?_⟩
  cases k with
  | false => exact q.2 rfl X S f tk σ H1 T le sl (h1.le Pl.le)
  | true => exact dk_bl (h1.le Pl.le) (q.1 rfl)
theorem de_not (h : DE C W a δ m (tB fun k m1 => Q (.bl (!k)) m1)) : DE C W (.UnaryOp .Not a pos) δ m Q := by
  intro X S f tk σ H T le sl hh
  refine WE.of (pe_not we) ((h X S f tk σ H T le sl hh).mono fun v H1 ⟨d, m1, h1, k, e, q⟩ => ?_)
  subst e
  exact ⟨k, h1.isbl, dk_bl (h1.le Pl.le) q⟩
/-- .. one way -/
def PE' (C : Ct) (e : Expr) (δ : Sl) (m : Sto) (d : D) : Prop := ∀ (W : DW) (Q : D → Sto → Prop), Q d m → DE C W e δ m Q
theorem pe_and' {k l : Bool} (h : PE' C a δ m (.bl k)) (h2 : k = true → PE' C (.BoolOp .And (b :: rest) pos) δ m (.bl l)) : PE' C (.BoolOp .And (a :: b :: rest) pos) δ m (.bl (k && l)) :=
  fun W Q q => de_and (h W _ (tb ⟨fun e => by subst e; exact h2 rfl W Q q, fun e => by subst e; exact q⟩))
theorem pe_or' {k l : Bool} (h : PE' C a δ m (.bl k)) (h2 : k = false → PE' C (.BoolOp .Or (b :: rest) pos) δ m (.bl l)) : PE' C (.BoolOp .Or (a :: b :: rest) pos) δ m (.bl (k || l)) :=
  fun W Q q => de_or (h W _ (tb ⟨fun e => by subst e; exact q, fun e => by subst e; exact h2 rfl W Q q⟩))
theorem pe_one' {op : BoolOp} {d : D} (h : PE' C a δ m d) : PE' C (.BoolOp op [a] pos) δ m d := fun W Q q => de_one (h W Q q)
theorem de_pe {d : D} (h : PE' C e δ m d) (q : Q d m) : DE C W e δ m Q := h W Q q
theorem de_if (h : DT C W c δ m fun k m1 => br k (DE C W a δ m1 Q) (DE C W b δ m1 Q)) : DE C W (.IfExp c a b pos) δ m Q := by
  intro X S f tk σ H T le sl hh
  refine WE.of (pe_ifExp wt we we) ((h X S f tk σ H T le sl hh).mono fun k H1 ⟨m1, h1, q⟩ => ?_)
  cases k with
  | true => exact q.1 rfl X S f tk σ H1 T le sl h1
  | false => exact q.2 rfl X S f tk σ H1 T le sl h1
/-- a op b op' c -/
theorem de_chain {op op' : CmpOp} {r r' : R2D} (ho : OpD C (compareOp op) r) (ho' : OpD C (compareOp op') r') (h : DE C W a δ m fun x m1 => DE C W b δ m1 fun y m2 => r x y m2 (tB fun k m3 => br k (DE C W c δ m3 fun z m4 => r' y z m4 Q) (Q (.bl false) m3)))
    (hm : lastMarks [op, op'] [b, c] = false := by with_unfolding_all rfl) : DE C W (.Compare a [op, op'] [b, c] pos) δ m Q := by
  intro X S f tk σ H T le sl hh pins s I
  refine Compare_chain (thn (h X S f tk σ H T le sl hh pins s I) fun v s1 ⟨x, H1, I1, r1, d, m1, h1, q1⟩ => chain_link (thn (q1 X S f tk σ H1 (Pl T x d) (le.trans Pl.le) (sl.le Pl.le) h1 pins s1 I1) fun u s2 ⟨y, H2, I2, r2, e, m2, h2, q2⟩ =>
    thn (ho X f S.r H2 m2 _ x y d e _ h2 (.inl Pl.it) Pl.it q2 pins s2 σ v u I2 r1 r2) fun w s3 ⟨z, H3, I3, r3, d3, m3, h3, k, e3, q3⟩ => ?_)) hm
  subst e3
  have ez := h3.isbl
  subst ez
  cases r3
  refine wpAny_truthy_bool ?_
  cases k with
  | false => exact ite_ff ⟨.bl false, H3, I3, rfl, dk_bl (h3.le ((Pl.le.trans Pl.le).trans Pl.le)) (q3.2 rfl)⟩
  | true =>
    refine ite_tt (chain_last (thn (q3.1 rfl X S f tk σ H3 (Pl (Pl T x d) y e) (le.trans (Pl.le.trans Pl.le)) (sl.le (Pl.le.trans Pl.le)) (h3.le Pl.le) pins s3 I3) fun w' s4 ⟨z', H4, I4, r4, d4, m4, h4, q4⟩ => ?_))
    refine thn (ho' X f S.r H4 m4 _ y z' e d4 _ h4 (.inl Pl.it) Pl.it q4 pins s4 σ u w' I4 r2 r4) fun w5 s5 ⟨z5, H5, I5, r5, q5⟩ => ⟨z5, H5, I5, r5, q5.le ((Pl.le.trans Pl.le).trans Pl.le)⟩
theorem dt_chain {op op' : CmpOp} {r r' : R2D} (ho : OpD C (compareOp op) r) (ho' : OpD C (compareOp op') r') (h : DE C W a δ m fun x m1 => DE C W b δ m1 fun y m2 => r x y m2 (tB fun k m3 => br k (DE C W c δ m3 fun z m4 => r' y z m4 (tB B)) (B false m3)))
    (hm : lastMarks [op, op'] [b, c] = false := by with_unfolding_all rfl) : DT C W (.Compare a [op, op'] [b, c] pos) δ m B := by
  intro X S f tk σ H T le sl hh pins s I
  refine isTrue_chain (thn (h X S f tk σ H T le sl hh pins s I) fun v s1 ⟨x, H1, I1, r1, d, m1, h1, q1⟩ => test_link (thn (q1 X S f tk σ H1 (Pl T x d) (le.trans Pl.le) (sl.le Pl.le) h1 pins s1 I1) fun u s2 ⟨y, H2, I2, r2, e, m2, h2, q2⟩ =>
    thn (ho X f S.r H2 m2 _ x y d e _ h2 (.inl Pl.it) Pl.it q2 pins s2 σ v u I2 r1 r2) fun w s3 ⟨z, H3, I3, r3, d3, m3, h3, k, e3, q3⟩ => ?_)) hm
  subst e3
  have ez := h3.isbl
  subst ez
  cases r3
  refine wpAny_truthy_bool ?_
  cases k with
  | false => exact ite_ff ⟨H3, I3, m3, h3.le ((Pl.le.trans Pl.le).trans Pl.le), q3.2 rfl⟩
  | true =>
    refine ite_tt (test_last (thn (q3.1 rfl X S f tk σ H3 (Pl (Pl T x d) y e) (le.trans (Pl.le.trans Pl.le)) (sl.le (Pl.le.trans Pl.le)) (h3.le Pl.le) pins s3 I3) fun w' s4 ⟨z', H4, I4, r4, d4, m4, h4, q4⟩ => ?_))
    refine thn (ho' X f S.r H4 m4 _ y z' e d4 _ h4 (.inl Pl.it) Pl.it q4 pins s4 σ u w' I4 r2 r4) fun w5 s5 ⟨z5, H5, I5, r5, d5, m5, h5, k5, e5, q5⟩ => ?_
    subst e5
    have ez := h5.isbl
    subst ez
    cases r5
    exact wpAny_truthy_bool ⟨H5, I5, m5, h5.le (((Pl.le.trans Pl.le).trans Pl.le).trans Pl.le), q5⟩
end
end G

/-! The data layer's rules: operators by data; displays, subscripts, slices; built-ins by name. -/
namespace G
open PySem PySem.Spec PyProof.Rows L2

section
variable {K : PySem.W.Frag} {fr : Sto} {H : Hp} {m : Sto} {T : RT}
theorem RepL.mem_zip : ∀ {vs : List V} {ds : List D} {v : V} {d : D}, RepL K H vs ds → (v, d) ∈ vs.zip ds → Rep K H v d
  | _, _, _, _, .nil, h => by simp at h
  | _, _, _, _, .cons r t, h => by
    rw [List.zip_cons_cons] at h
    rcases List.mem_cons.mp h with e | h
    · cases e; exact r
    · exact t.mem_zip h
theorem Hd.tupl {a : Addr} {ds : List D} (h : Hd K fr H m T) (t : T (.ref a) (.tup ds)) : ∃ xs, SqT K H a xs ∧ (∀ Hi, Same Hi H → True) ∧ RepL K H xs ds := by
  have r := h.rep t
  cases r with
  | tup q r => exact ⟨_, q, fun _ _ => trivial, r⟩
/-- the items of known data, as facts that stay -/
theorem Hd.items {v : V} {ds : List D} (h : Hd K fr H m T) (t : T v (.tup ds)) : ∃ a xs, v = .ref a ∧ SqT K H a xs ∧ xs.length = ds.length ∧ Hd K fr H m (PlL T xs ds) := by
  obtain ⟨h0, Hi, h1, h2, h3⟩ := h
  have r := h3 _ _ t
  cases r with
  | tup q r =>
    refine ⟨_, _, rfl, sqt_mono h1 q, r.length, h0, Hi, h1, h2, fun v d x => x.elim (h3 v d) fun hm => ?_⟩
    exact r.mem_zip hm
theorem Hd.itemsL {v : V} {ds : List D} (h : Hd K fr H m T) (t : T v (.lst ds)) : ∃ a xs, v = .ref a ∧ H a = some (.lst xs) ∧ xs.length = ds.length ∧ Hd K fr H m (PlL T xs ds) := by
  obtain ⟨h0, Hi, h1, h2, h3⟩ := h
  have r := h3 _ _ t
  cases r with
  | lst q r =>
    refine ⟨_, _, rfl, h1 _ _ q, r.length, h0, Hi, h1, h2, fun v d x => x.elim (h3 v d) fun hm => ?_⟩
    exact r.mem_zip hm
theorem Hd.itemsF {v : V} {ds : List D} (h : Hd K fr H m T) (t : T v (.frz ds)) : ∃ a xs, v = .ref a ∧ SqL K H a xs ∧ xs.length = ds.length ∧ Hd K fr H m (PlL T xs ds) := by
  obtain ⟨h0, Hi, h1, h2, h3⟩ := h
  have r := h3 _ _ t
  cases r with
  | frz q r =>
    refine ⟨_, _, rfl, h1.seq q, r.length, h0, Hi, h1, h2, fun v d x => x.elim (h3 v d) fun hm => ?_⟩
    exact r.mem_zip hm
/-- the items of an object of the store -/
theorem Hd.itemsO {a : Addr} {ds : List D} (h : Hd K fr H m T) (t : m a = some (.lst ds)) : ∃ xs, H a = some (.lst xs) ∧ xs.length = ds.length ∧ Hd K fr H m (PlL T xs ds) := by
  obtain ⟨h0, Hi, h1, h2, h3⟩ := h
  obtain ⟨q0, u, q, r⟩ := h2 _ _ (sun_l t)
  cases u with
  | lst xs =>
    refine ⟨xs, q, RepL.length r, h0, Hi, h1, h2, fun v d x => x.elim (h3 v d) fun hm => ?_⟩
    exact RepL.mem_zip r hm
  | _ => exact False.elim r
theorem PlL.rep {vs : List V} {ds : List D} (hl : vs.length = ds.length) {Hi : Hp} (k : ∀ v d, PlL T vs ds v d → Rep K Hi v d) : RepL K Hi vs ds := RepL.of_zip hl fun v d q => k v d (.inr q)
theorem PlL.at {vs : List V} {ds : List D} {i : Nat} {v : V} {d : D} (h1 : vs[i]? = some v) (h2 : ds[i]? = some d) : PlL T vs ds v d := by
  refine .inr (List.mem_iff_getElem?.mpr ⟨i, ?_⟩)
  rw [List.getElem?_zip_eq_some]
  exact ⟨h1, h2⟩
theorem PlL.one {v : V} {d : D} : Le (PlL T [v] [d]) (Pl T v d) := fun x y q => q.elim .inl fun z => by
  simp only [List.zip_cons_cons, List.zip_nil_left, List.mem_singleton, Prod.mk.injEq] at z
  exact .inr z
end

theorem sz_le {n : Nat} (h : n ≤ 100000) : n ≤ sizeLine := Nat.le_trans h (by decide)
theorem sz_lt {n : Nat} (h : n < 100000) : n < sizeLine := Nat.lt_of_lt_of_le h (by decide)
theorem sz_lit {n : Nat} (h : Nat.ble n 1000 = true) : n ≤ sizeLine := sz_le (Nat.le_trans (Nat.le_of_ble_eq_true h) (by decide))

/-! ### operators -/
def addD : R2D
  | .int i, .int j, m, Q => Q (.int (i + j)) m
  | .str a, .str b, m, Q => a.length + b.length ≤ sizeLine ∧ Q (.str (a ++ b)) m
  | .tup xs, .tup ys, m, Q => xs.length + ys.length ≤ sizeLine ∧ Q (.tup (xs ++ ys)) m
  | .lst xs, .lst ys, m, Q => xs.length + ys.length ≤ sizeLine ∧ Q (.lst (xs ++ ys)) m
  | .int i, .bl k, m, Q => Q (.int (i + b2i k)) m
  | _, _, _, _ => False
def subD : R2D
  | .int i, .int j, m, Q => Q (.int (i - j)) m
  | _, _, _, _ => False
def mulD : R2D
  | .int i, .int j, m, Q => CMul i j ∧ Q (.int (i * j)) m
  | .lst xs, .int k, m, Q => -(2 ^ 63) ≤ k ∧ k < 2 ^ 63 ∧ xs.length * k.toNat ≤ sizeLine ∧ Q (.lst (List.replicate k.toNat xs).flatten) m
  | _, _, _, _ => False
def divD : R2D
  | .int i, .int j, m, Q => CDiv i j ∧ Q (.int (i / j)) m
  | _, _, _, _ => False
def modD : R2D
  | .int i, .int j, m, Q => 0 < j ∧ Q (.int (i % j)) m
  | _, _, _, _ => False
def powD : R2D
  | .int i, .int j, m, Q => CPow i j ∧ Q (.int (i ^ j.toNat)) m
  | _, _, _, _ => False
section
variable {C : Ct}
theorem od_sub : OpD C (binaryOp .Sub) subD := by
  intro X f fr H m T x y d e Q hh tx ty q
  have rx := hh.rep tx
  have ry := hh.rep ty
  cases rx <;> cases ry <;> first
    | exact wb_of op_sub ⟨_, _, rfl, rfl, dk_int hh q⟩
    | exact False.elim q
theorem od_div : OpD C (binaryOp .FloorDiv) divD := by
  intro X f fr H m T x y d e Q hh tx ty q
  have rx := hh.rep tx
  have ry := hh.rep ty
  cases rx <;> cases ry <;> first
    | exact wb_of op_fdiv ⟨_, _, rfl, rfl, q.1, dk_int hh q.2⟩
    | exact False.elim q
theorem od_mod : OpD C (binaryOp .Mod) modD := by
  intro X f fr H m T x y d e Q hh tx ty q
  have rx := hh.rep tx
  have ry := hh.rep ty
  cases rx <;> cases ry <;> first
    | exact wb_of op_mod ⟨_, _, rfl, rfl, q.1, dk_int hh q.2⟩
    | exact False.elim q
theorem od_pow : OpD C (binaryOp .Pow) powD := by
  intro X f fr H m T x y d e Q hh tx ty q
  have rx := hh.rep tx
  have ry := hh.rep ty
  cases rx <;> cases ry <;> first
    | exact wb_of op_pow ⟨_, _, rfl, rfl, q.1, dk_int hh q.2⟩
    | exact False.elim q
theorem od_add : OpD C (binaryOp .Add) addD := by
  intro X f fr H m T x y d e Q hh tx ty q
  cases d <;> cases e <;> first
    | exact False.elim q
    | skip
  · have rx := hh.rep tx; have ry := hh.rep ty; cases rx; cases ry
    exact wb_of op_add_ib ⟨_, _, rfl, rfl, dk_int hh q⟩
  · have rx := hh.rep tx; have ry := hh.rep ty; cases rx; cases ry
    exact wb_of op_add ⟨_, _, rfl, rfl, dk_int hh q⟩
  · have rx := hh.rep tx; have ry := hh.rep ty; cases rx; cases ry
    exact wb_of op_add_str ⟨_, _, rfl, rfl, q.1, dk_str hh q.2⟩
  · rename_i xs ys
    obtain ⟨a, us, rfl, hu, lu, h1⟩ := hh.items tx
    obtain ⟨b, vs, rfl, hv, lv, h2⟩ := h1.items (PlL.le _ _ ty)
    refine wb_of op_catA ⟨a, b, us, vs, rfl, rfl, by rw [f.K]; exact hu, by rw [f.K]; exact hv, by rw [lu, lv]; exact q.1, fun e => ?_, fun _ e => ?_, fun _ _ p hp => ?_⟩
    · have e2 : xs = [] := List.length_eq_zero_iff.mp (by rw [← lu, e]; rfl)
      subst e2
      exact ⟨_, _, hh.again ty, by simpa using q.2⟩
    · have e2 : ys = [] := List.length_eq_zero_iff.mp (by rw [← lv, e]; rfl)
      subst e2
      exact ⟨_, _, hh.again tx, by simpa using q.2⟩
    · refine dK.le (dk_tup h2 hp (fun Hi k => (PlL.rep lu fun v d z => k v d (.inl z)).append (PlL.rep (T := T) lv fun v d z => k v d (z.elim (fun w => .inl (.inl w)) .inr))) q.2) (PlL.le.trans PlL.le)
  · rename_i xs ys
    obtain ⟨a, us, rfl, hu, lu, h1⟩ := hh.itemsL tx
    obtain ⟨b, vs, rfl, hv, lv, h2⟩ := h1.itemsL (PlL.le _ _ ty)
    refine wb_of op_cat ⟨a, b, us, vs, rfl, rfl, hu, hv, by rw [lu, lv]; exact q.1, fun p hp => ?_⟩
    refine dK.le (dk_lst h2 hp (fun Hi k => (PlL.rep lu fun v d z => k v d (.inl z)).append (PlL.rep (T := T) lv fun v d z => k v d (z.elim (fun w => .inl (.inl w)) .inr))) q.2) (PlL.le.trans PlL.le)
theorem RepL.rep {K : PySem.W.Frag} {H : Hp} {vs : List V} {ds : List D} (r : RepL K H vs ds) : ∀ n : Nat, RepL K H (List.replicate n vs).flatten (List.replicate n ds).flatten
  | 0 => .nil
  | n + 1 => by
    rw [List.replicate_succ, List.replicate_succ, List.flatten_cons, List.flatten_cons]
    exact r.append (r.rep n)
theorem od_mul : OpD C (binaryOp .Mult) mulD := by
  intro X f fr H m T x y d e Q hh tx ty q
  cases d <;> cases e <;> first
    | exact False.elim q
    | skip
  · have rx := hh.rep tx; have ry := hh.rep ty; cases rx; cases ry
    exact wb_of op_mul ⟨_, _, rfl, rfl, q.1, dk_int hh q.2⟩
  · rename_i xs k
    obtain ⟨a, us, rfl, hu, lu, h1⟩ := hh.itemsL tx
    have ry := hh.rep ty
    cases ry
    refine wb_of op_rep ⟨a, k, us, rfl, rfl, hu, q.1, q.2.1, by rw [lu]; exact q.2.2.1, fun p hp => ?_⟩
    exact dK.le (dk_lst h1 hp (fun Hi kk => (PlL.rep lu kk).rep _) q.2.2.2) PlL.le

/-! ### comparisons of ints, texts; is None -/
def cmpI (p : Int → Int → Bool) : R2D
  | .int i, .int j, m, Q => Q (.bl (p i j)) m
  | _, _, _, _ => False
theorem od_cI {op : CmpOp} {p : Int → Int → Bool} (h : ∀ X : Cx, OpR X (compareOp op) (rI0 fun i j => .bl (p i j))) : OpD C (compareOp op) (cmpI p) := by
  intro X f fr H m T x y d e Q hh tx ty q
  cases d <;> cases e <;> first
    | exact False.elim q
    | skip
  have rx := hh.rep tx; have ry := hh.rep ty; cases rx; cases ry
  exact wb_of (h X) ⟨_, _, rfl, rfl, dk_bl hh q⟩
theorem od_lt : OpD C (compareOp .Lt) (cmpI fun i j => decide (i < j)) := od_cI fun _ => op_lt
theorem od_le : OpD C (compareOp .LtE) (cmpI fun i j => decide (i ≤ j)) := od_cI fun _ => op_le
theorem od_gt : OpD C (compareOp .Gt) (cmpI fun i j => decide (j < i)) := od_cI fun _ => op_gt
theorem od_ge : OpD C (compareOp .GtE) (cmpI fun i j => decide (j ≤ i)) := od_cI fun _ => op_ge
def isN : D → Bool
  | .non => true
  | _ => false
def isD : R2D := fun d e m Q => e = .non ∧ Q (.bl (isN d)) m
def isntD : R2D := fun d e m Q => e = .non ∧ Q (.bl (!isN d)) m
theorem Rep.isN {K : PySem.W.Frag} {H : Hp} {v : V} {d : D} (r : Rep K H v d) : decide (v = .non) = isN d := by
  cases r <;> first | rfl | exact decide_eq_false (by intro z; cases z)
theorem od_is : OpD C (compareOp .Is) isD := by
  intro X f fr H m T x y d e Q hh tx ty q
  obtain ⟨rfl, q⟩ := q
  have rx := hh.rep tx
  have ry := hh.rep ty
  cases ry
  exact wb_of op_isN ⟨rfl, by rw [rx.isN]; exact dk_bl hh q⟩
theorem od_isnt : OpD C (compareOp .IsNot) isntD := by
  intro X f fr H m T x y d e Q hh tx ty q
  obtain ⟨rfl, q⟩ := q
  have rx := hh.rep tx
  have ry := hh.rep ty
  cases ry
  exact wb_of op_notN ⟨rfl, by rw [rx.isN]; exact dk_bl hh q⟩

/-! ### == of data -/
mutual
/-- a datum as the library's own; what it has no word for is a text that nobody writes -/
def toPy : D → PyData
  | .non => .none
  | .bl b => .bool b
  | .int i => .int i
  | .str s => .str s
  | .tup l => .tuple (toPyL l)
  | .lst l => .list (toPyL l)
  | .frz l => .list (toPyL l)
  | _ => .none
def toPyL : List D → List PyData
  | [] => []
  | d :: l => toPy d :: toPyL l
end
mutual
/-- data that == may look at: n deep at most -/
def okD : Nat → D → Bool
  | _, .non => true
  | _, .bl _ => true
  | _, .int _ => true
  | _, .str s => PyData.strOk s
  | n + 1, .tup l => okDL n l
  | n + 1, .lst l => okDL n l
  | _, _ => false
def okDL : Nat → List D → Bool
  | _, [] => true
  | n, d :: l => okD n d && okDL n l
end
mutual
theorem okD_lay : ∀ (n : Nat) (d : D), okD n d = true → (toPy d).canLay0 = true
  | _, .non, _ => by simp [toPy, PyData.canLay0]
  | _, .bl _, _ => by simp [toPy, PyData.canLay0]
  | _, .int _, _ => by simp [toPy, PyData.canLay0]
  | _, .str s, h => by simpa [toPy, PyData.canLay0, okD] using h
  | n + 1, .tup l, h => by
    have := okDL_lay n l (by simpa [okD] using h)
    simpa [toPy, PyData.canLay0] using this
  | n + 1, .lst l, h => by
    have := okDL_lay n l (by simpa [okD] using h)
    simpa [toPy, PyData.canLay0] using this
  | 0, .tup _, h => by simp [okD] at h
  | 0, .lst _, h => by simp [okD] at h
  | _, .frz _, h => by simp [okD] at h
  | _, .dic _ _, h => by simp [okD] at h
  | _, .dit _ _, h => by simp [okD] at h
  | _, .ref _, h => by simp [okD] at h
  | _, .ty _, h => by simp [okD] at h
theorem okDL_lay : ∀ (n : Nat) (l : List D), okDL n l = true → PyData.canLayAll0 (toPyL l) = true
  | _, [], _ => by simp [toPyL, PyData.canLayAll0]
  | n, d :: l, h => by
    have h' : okD n d = true ∧ okDL n l = true := by simpa [okDL] using h
    simp [toPyL, PyData.canLayAll0, okD_lay n d h'.1, okDL_lay n l h'.2]
end
mutual
theorem okD_depth : ∀ (n : Nat) (d : D), okD n d = true → (toPy d).depth ≤ n + 1
  | _, .non, _ => by simp [toPy, PyData.depth]
  | _, .bl _, _ => by simp [toPy, PyData.depth]
  | _, .int _, _ => by simp [toPy, PyData.depth]
  | _, .str s, h => by simp [toPy, PyData.depth]
  | n + 1, .tup l, h => by
    have := okDL_depth n l (by simpa [okD] using h)
    simp [toPy, PyData.depth]; omega
  | n + 1, .lst l, h => by
    have := okDL_depth n l (by simpa [okD] using h)
    simp [toPy, PyData.depth]; omega
  | 0, .tup _, h => by simp [okD] at h
  | 0, .lst _, h => by simp [okD] at h
  | _, .frz _, h => by simp [okD] at h
  | _, .dic _ _, h => by simp [okD] at h
  | _, .dit _ _, h => by simp [okD] at h
  | _, .ref _, h => by simp [okD] at h
  | _, .ty _, h => by simp [okD] at h
theorem okDL_depth : ∀ (n : Nat) (l : List D), okDL n l = true → PyData.depthAll (toPyL l) ≤ n + 1
  | _, [], _ => by simp [toPyL, PyData.depthAll]
  | n, d :: l, h => by
    have h' : okD n d = true ∧ okDL n l = true := by simpa [okDL] using h
    have h1 := okD_depth n d h'.1
    have h2 := okDL_depth n l h'.2
    simp [toPyL, PyData.depthAll]; omega
end
theorem okD_shaped {n : Nat} {d : D} (h : okD n d = true) (hn : n ≤ 60) : SeqAt.shaped (toPy d) = true := by
  unfold SeqAt.shaped
  rw [okD_lay n d h, Bool.true_and]
  exact decide_eq_true (Nat.le_trans (okD_depth n d h) (by omega))
mutual
theorem Rep.dp {K : PySem.W.Frag} {H : Hp} : ∀ {v : V} {d : D} (n : Nat), Rep K H v d → okD n d = true → Dp K H v (toPy d)
  | _, _, _, .non, _ => by simp only [toPy]; exact .non
  | _, _, _, .bl b, _ => by simp only [toPy]; exact .bl b
  | _, _, _, .int b, _ => by simp only [toPy]; exact .int b
  | _, _, _, .str b, _ => by simp only [toPy]; exact .str b
  | _, _, n + 1, .tup h r, k => by simp only [toPy]; exact .tup h (RepL.dp n r (by simpa [okD] using k))
  | _, _, n + 1, .lst h r, k => by simp only [toPy]; exact .lst (SqL.of h) (RepL.dp n r (by simpa [okD] using k))
  | _, _, 0, .tup h r, k => by simp [okD] at k
  | _, _, 0, .lst h r, k => by simp [okD] at k
  | _, _, _, .frz h r, k => by simp [okD] at k
  | _, _, _, .dic _ _ _, k => by simp [okD] at k
  | _, _, _, .dit _ _ _, k => by simp [okD] at k
  | _, _, _, .ref _, k => by simp [okD] at k
  | _, _, _, .ty _, k => by simp [okD] at k
theorem RepL.dp {K : PySem.W.Frag} {H : Hp} : ∀ {v : List V} {d : List D} (n : Nat), RepL K H v d → okDL n d = true → DpAll K H v (toPyL d)
  | _, _, _, .nil, _ => by simp only [toPyL]; exact .nil
  | _, _, n, .cons h r, k => by
    simp only [toPyL]
    have h' := Bool.and_eq_true_iff.mp (show (okD n _ && okDL n _) = true from by simpa [okDL] using k)
    exact .cons (Rep.dp n h h'.1) (RepL.dp n r h'.2)
end
def eqvD (d e : D) : Bool := PyData.eqv (toPy d) (toPy e)
def eqD : R2D := fun d e m Q => ∃ n, n ≤ 60 ∧ okD n d = true ∧ okD n e = true ∧ Q (.bl (eqvD d e)) m
def neD : R2D := fun d e m Q => ∃ n, n ≤ 60 ∧ okD n d = true ∧ okD n e = true ∧ Q (.bl (!eqvD d e)) m
theorem od_eq : OpD C (compareOp .Eq) eqD := by
  intro X f fr H m T x y d e Q hh tx ty ⟨n, hn, o1, o2, q⟩
  exact wb_of (op_eqD (by have := f.un; omega)) ⟨_, _, by rw [f.K]; exact (hh.rep tx).dp n o1, by rw [f.K]; exact (hh.rep ty).dp n o2, okD_shaped o1 hn, okD_shaped o2 hn, dk_bl hh q⟩
theorem od_ne : OpD C (compareOp .NotEq) neD := by
  intro X f fr H m T x y d e Q hh tx ty ⟨n, hn, o1, o2, q⟩
  exact wb_of (op_neD (by have := f.un; omega)) ⟨_, _, by rw [f.K]; exact (hh.rep tx).dp n o1, by rw [f.K]; exact (hh.rep ty).dp n o2, okD_shaped o1 hn, okD_shaped o2 hn, dk_bl hh q⟩
end
end G

/-! The data layer's rules: displays, subscripts, slices; calls of built-ins. -/
namespace G
open PySem PySem.Spec PyProof.Rows L2

section
variable {C : Ct} {W : DW} {δ : Sl} {m : Sto} {Q : D → Sto → Prop} {a b c e : Expr} {es : List Expr} {pos : Pos}
/-! ### argument lists, displays -/
theorem da_nil {Q : List D → Sto → Prop} (q : Q [] m) : DA C W [] δ m Q := fun X S f tk σ H T le sl hh => WA.of pa_nil ⟨[], m, rfl, hh.le fun v d z => z.elim id fun h => by simp at h, q⟩
theorem da_cons {Q : List D → Sto → Prop} (h : DE C W e δ m fun d m1 => DA C W es δ m1 fun ds m2 => Q (d :: ds) m2) (hs : ∀ env, starEach (e :: es) env = (false, eval e env) :: starEach es env := by intro _; rfl) : DA C W (e :: es) δ m Q := by
  intro X S f tk σ H T le sl hh
  refine WA.of (pa_cons we wa (hs _)) ((h X S f tk σ H T le sl hh).mono fun v H1 ⟨d, m1, h1, q1⟩ => ?_)
  refine (q1 X S f tk σ H1 (Pl T v d) (le.trans Pl.le) (sl.le Pl.le) h1).mono fun vs H2 ⟨ds, m2, hl, h2, q2⟩ => ?_
  refine ⟨d :: ds, m2, by rw [List.length_cons, List.length_cons, hl], h2.le fun x y z => z.elim (fun z => .inl (.inl z)) fun z => ?_, q2⟩
  rw [List.zip_cons_cons] at z
  rcases List.mem_cons.mp z with z | z
  · cases z; exact .inl Pl.it
  · exact .inr z
theorem de_tup {k : Nat} (h : DA C W es δ m fun ds m1 => ds.length ≤ sizeLine ∧ Q (.tup ds) m1) : DE C W (.Tuple es k pos) δ m Q := by
  intro X S f tk σ H T le sl hh
  refine WE.of (pe_tup wa) ((h X S f tk σ H T le sl hh).mono fun vs H1 ⟨ds, m1, hl, h1, hz, q⟩ => ⟨by rw [hl]; exact hz, fun p hp => ?_⟩)
  exact dK.le (dk_tup h1 hp (fun Hi k => PlL.rep hl k) q) PlL.le
theorem de_lst (h : DA C W es δ m fun ds m1 => ds.length ≤ sizeLine ∧ Q (.lst ds) m1) : DE C W (.List es pos) δ m Q := by
  intro X S f tk σ H T le sl hh
  refine WE.of (pe_lst wa) ((h X S f tk σ H T le sl hh).mono fun vs H1 ⟨ds, m1, hl, h1, hz, q⟩ => ⟨by rw [hl]; exact hz, fun p hp => ?_⟩)
  exact dK.le (dk_lst h1 hp (fun Hi k => PlL.rep hl k) q) PlL.le
/-- .. an object -/
theorem de_lstM (h : DA C W es δ m fun ds m1 => ds.length ≤ sizeLine ∧ ∀ p, m1 p = none → Q (.ref p) (sput m1 p (.lst ds))) : DE C W (.List es pos) δ m Q := by
  intro X S f tk σ H T le sl hh
  refine WE.of (pe_lst wa) ((h X S f tk σ H T le sl hh).mono fun vs H1 ⟨ds, m1, hl, h1, hz, q⟩ => ⟨by rw [hl]; exact hz, fun p hp => ?_⟩)
  exact dK.le (dk_lstM h1 hp (fun Hi k => PlL.rep hl k) q) PlL.le
/-- a local list becomes data -/
theorem de_freeze (h : DE C W e δ m fun d m1 => ∃ p ds, d = .ref p ∧ m1 p = some (.lst ds) ∧ Q (.lst ds) (sdel m1 p)) : DE C W e δ m Q := by
  intro X S f tk σ H T le sl hh
  refine (h X S f tk σ H T le sl hh).mono fun v H1 ⟨d, m1, h1, p, ds, e, hm, q⟩ => ?_
  subst e
  have r := h1.rep Pl.it
  cases r
  exact ⟨_, _, (h1.le Pl.le).freezeL hm, q⟩

/-! ### subscripts -/
theorem atI_rep {α β : Type} {xs : List α} {ds : List β} {i : Int} {d : β} (hl : xs.length = ds.length) (h : atI ds i = some d) : ∃ (v : α) (j : Nat), atI xs i = some v ∧ xs[j]? = some v ∧ ds[j]? = some d := by
  unfold atI at h ⊢
  rw [← hl] at h
  cases e : ixN xs.length i with
  | none => rw [e] at h; cases h
  | some j =>
    rw [e] at h
    have hj : ds[j]? = some d := h
    have hlt : j < xs.length := by rw [hl]; exact (List.getElem?_eq_some_iff.mp hj).1
    exact ⟨xs[j], j, List.getElem?_eq_getElem hlt, List.getElem?_eq_getElem hlt, hj⟩
def ixD : R2D
  | .tup ds, .int i, m, Q => ∃ d, atI ds i = some d ∧ Q d m
  | .lst ds, .int i, m, Q => ∃ d, atI ds i = some d ∧ Q d m
  | .frz ds, .int i, m, Q => ∃ d, atI ds i = some d ∧ Q d m
  | .ref p, .int i, m, Q => ∃ ds d, m p = some (.lst ds) ∧ atI ds i = some d ∧ Q d m
  | .str z, .int i, m, Q => ∃ c, z.length ≤ sizeLine ∧ atI z.cps.toList i = some c ∧ Q (.str ⟨#[c]⟩) m
  | _, _, _, _ => False
theorem de_ix (h : DE C W a δ m fun x m1 => DE C W b δ m1 fun y m2 => ixD x y m2 Q) (hs : PlainIx b := by intro _ _; rfl) : DE C W (.Subscript a b pos) δ m Q := by
  intro X S f tk σ H T le sl hh
  refine WE.of (pe_ix ix_seq we we hs) ((h X S f tk σ H T le sl hh).mono fun v H1 ⟨d, m1, h1, q1⟩ => ?_)
  refine (q1 X S f tk σ H1 (Pl T v d) (le.trans Pl.le) (sl.le Pl.le) h1).mono fun u H2 ⟨e, m2, h2, q2⟩ => ?_
  have tv : Pl (Pl T v d) u e v d := .inl Pl.it
  have ru := h2.rep (Pl.it (T := Pl T v d) (v := u) (d := e))
  have lel : Le T (Pl (Pl T v d) u e) := Pl.le.trans Pl.le
  cases d with
  | tup ds =>
    cases e with
    | int i =>
      cases ru
      obtain ⟨d, ha, q⟩ := q2
      obtain ⟨p, xs, rfl, hq, hl, h3⟩ := h2.items tv
      obtain ⟨v', j, e1, e2, e3⟩ := atI_rep hl ha
      exact .inr (.inl ⟨p, xs, i, v', rfl, rfl, by rw [f.K]; exact hq, e1, d, m2, (h3.again (PlL.at e2 e3)).le (Pl.mono (lel.trans PlL.le)), q⟩)
    | _ => exact False.elim q2
  | lst ds =>
    cases e with
    | int i =>
      cases ru
      obtain ⟨d, ha, q⟩ := q2
      obtain ⟨p, xs, rfl, hq, hl, h3⟩ := h2.itemsL tv
      obtain ⟨v', j, e1, e2, e3⟩ := atI_rep hl ha
      exact .inl ⟨p, xs, i, v', rfl, rfl, SqL.of hq, e1, d, m2, (h3.again (PlL.at e2 e3)).le (Pl.mono (lel.trans PlL.le)), q⟩
    | _ => exact False.elim q2
  | frz ds =>
    cases e with
    | int i =>
      cases ru
      obtain ⟨d, ha, q⟩ := q2
      obtain ⟨p, xs, rfl, hq, hl, h3⟩ := h2.itemsF tv
      obtain ⟨v', j, e1, e2, e3⟩ := atI_rep hl ha
      exact .inl ⟨p, xs, i, v', rfl, rfl, by rw [f.K]; exact hq, e1, d, m2, (h3.again (PlL.at e2 e3)).le (Pl.mono (lel.trans PlL.le)), q⟩
    | _ => exact False.elim q2
  | ref p =>
    cases e with
    | int i =>
      cases ru
      have rv := h2.rep tv
      cases rv
      obtain ⟨ds, d, hm, ha, q⟩ := q2
      obtain ⟨xs, hq, hl, h3⟩ := h2.itemsO hm
      obtain ⟨v', j, e1, e2, e3⟩ := atI_rep hl ha
      exact .inl ⟨p, xs, i, v', rfl, rfl, SqL.of hq, e1, d, m2, (h3.again (PlL.at e2 e3)).le (Pl.mono (lel.trans PlL.le)), q⟩
    | _ => exact False.elim q2
  | str z =>
    cases e with
    | int i =>
      cases ru
      have rv := h2.rep tv
      cases rv
      obtain ⟨c, hz, hc, q⟩ := q2
      exact .inr (.inr ⟨z, i, c, rfl, rfl, hz, hc, dK.le (dk_str h2 q) lel⟩)
    | _ => exact False.elim q2
  | _ => exact False.elim q2

/-! ### slices -/
def cutL {α : Type} (xs : List α) (lo hi : Option Int) : List α := (xs.drop (HT.sIx xs.length 0 lo)).take (HT.sIx xs.length xs.length hi - HT.sIx xs.length 0 lo)
theorem RepL.cut {K : PySem.W.Frag} {H : Hp} {vs : List V} {ds : List D} (r : RepL K H vs ds) (lo hi : Option Int) : RepL K H (cutV vs lo hi) (cutL ds lo hi) := by
  unfold cutV cutL
  rw [r.length]
  exact (r.drop _).take _
def DO (C : Ct) (W : DW) (e : Option Expr) (δ : Sl) (m : Sto) (Q : Option Int → Sto → Prop) : Prop := match e with
  | none => Q none m
  | some e => DE C W e δ m fun d m1 => ∃ i, d = .int i ∧ Q (some i) m1
theorem do_run {e : Option Expr} {Q : Option Int → Sto → Prop} (h : DO C W e δ m Q) {X : Cx} {S : Fr} (f : Fits C X) (tk : Takes X (liftW C.K W S)) : ∃ t, PO X e t ∧ ∀ (σ : L2.St) (H : Hp) (T : RT), Le S.t T → SlotsIn σ δ T → Hd C.K S.r H m T → t σ H fun o H' => ∃ m', Hd C.K S.r H' m' T ∧ Q o m' := by
  cases e with
  | none => exact ⟨_, po_none, fun σ H T le sl hh => ⟨m, hh, h⟩⟩
  | some e =>
    refine ⟨_, po_some we, fun σ H T le sl hh => WE.mono (h X S f tk σ H T le sl hh) fun v H1 ⟨d, m1, h1, i, ed, q⟩ => ?_⟩
    subst ed
    have r := h1.rep Pl.it
    cases r
    exact ⟨i, rfl, m1, h1.le Pl.le, q⟩
def cutD : D → Option Int → Option Int → Sto → (D → Sto → Prop) → Prop
  | .str z, lo, hi, m, Q => z.length ≤ sizeLine ∧ Q (.str (cutS z lo hi)) m
  | .tup ds, lo, hi, m, Q => Q (.tup (cutL ds lo hi)) m
  | .lst ds, lo, hi, m, Q => Q (.lst (cutL ds lo hi)) m
  | .frz ds, lo, hi, m, Q => Q (.lst (cutL ds lo hi)) m
  | .ref p, lo, hi, m, Q => ∃ ds, m p = some (.lst ds) ∧ Q (.lst (cutL ds lo hi)) m
  | _, _, _, _, _ => False
/-- the reading of an optional part, the widest -/
def WO (X : Cx) (e : Option Expr) : TO := fun σ H Q => ∀ (pins : List (Addr × Obj)) (s : Shared), Inv X pins σ H s → wpAny (model X.prog X.w) X.A (evalPart e X.env) (fun u s' => ∃ o H', Inv X pins σ H' s' ∧ IsPart u o ∧ Q o H') X.xe s
theorem wo {X : Cx} {e : Option Expr} : PO X e (WO X e) := ⟨fun pins s _ _ _ I h => h pins s I⟩
theorem do_wo {e : Option Expr} {Q : Option Int → Sto → Prop} (h : DO C W e δ m Q) {X : Cx} {S : Fr} (f : Fits C X) (tk : Takes X (liftW C.K W S)) {σ : L2.St} {H : Hp} {T : RT} (le : Le S.t T) (sl : SlotsIn σ δ T) (hh : Hd C.K S.r H m T) :
    WO X e σ H fun o H' => ∃ m', Hd C.K S.r H' m' T ∧ Q o m' := by
  obtain ⟨t, p, k⟩ := do_run h f tk
  exact fun pins s I => p.run pins s σ H _ I (k σ H T le sl hh)
theorem WO.mono {X : Cx} {e : Option Expr} {σ : L2.St} {H : Hp} {Q Q' : Option Int → Hp → Prop} (h : WO X e σ H Q) (k : ∀ o H', Q o H' → Q' o H') : WO X e σ H Q' := fun pins s I => thn (h pins s I) fun _ _ ⟨o, H', a, b, c⟩ => ⟨o, H', a, b, k _ _ c⟩
theorem de_slice {lo hi : Option Expr} {p2 : Pos} (h : DE C W a δ m fun x m1 => DO C W lo δ m1 fun l m2 => DO C W hi δ m2 fun u m3 => cutD x l u m3 Q) : DE C W (.Subscript a (.Slice lo hi none p2) pos) δ m Q := by
  intro X S f tk σ H T le sl hh
  refine WE.of (pe_slice (sl_str.or (sl_tupA.or sl_list)) we wo wo) ((h X S f tk σ H T le sl hh).mono fun v H1 ⟨d, m1, h1, q1⟩ => ?_)
  refine (do_wo q1 f tk (le.trans Pl.le) (sl.le Pl.le) h1).mono fun l H2 ⟨m2, h2, q2⟩ => ?_
  refine (do_wo q2 f tk (le.trans Pl.le) (sl.le Pl.le) h2).mono fun u H3 ⟨m3, h3, q3⟩ => ?_
  cases d with
  | str z =>
    have r := h3.rep Pl.it
    cases r
    exact .inl ⟨z, rfl, q3.1, dK.le (dk_str h3 q3.2) Pl.le⟩
  | tup ds =>
    obtain ⟨p, xs, rfl, hq, hl, h4⟩ := h3.items Pl.it
    refine .inr (.inl ⟨p, xs, rfl, by rw [f.K]; exact hq, fun hw => ?_, fun _ p hp => ?_⟩)
    · have e : cutL ds l u = ds := by
        unfold cutL
        rw [hl] at hw
        rw [hw.1, hw.2, List.drop_zero, Nat.sub_zero]
        exact List.take_length
      have q4 : Q (.tup (cutL ds l u)) m3 := q3
      rw [e] at q4
      exact ⟨_, m3, (h3.again Pl.it).le (Pl.mono Pl.le), q4⟩
    · exact dK.le (dk_tup h4 hp (fun Hi k => (PlL.rep hl k).cut l u) q3) (Pl.le.trans PlL.le)
  | lst ds =>
    obtain ⟨p, xs, rfl, hq, hl, h4⟩ := h3.itemsL Pl.it
    refine .inr (.inr ⟨p, xs, rfl, SqL.of hq, fun p hp => ?_⟩)
    exact dK.le (dk_lst h4 hp (fun Hi k => (PlL.rep hl k).cut l u) q3) (Pl.le.trans PlL.le)
  | frz ds =>
    obtain ⟨p, xs, rfl, hq, hl, h4⟩ := h3.itemsF Pl.it
    refine .inr (.inr ⟨p, xs, rfl, by rw [f.K]; exact hq, fun p hp => ?_⟩)
    exact dK.le (dk_lst h4 hp (fun Hi k => (PlL.rep hl k).cut l u) q3) (Pl.le.trans PlL.le)
  | ref p =>
    obtain ⟨ds, hm, q⟩ := q3
    have r := h3.rep Pl.it
    cases r
    obtain ⟨xs, hq, hl, h4⟩ := h3.itemsO hm
    refine .inr (.inr ⟨p, xs, rfl, SqL.of hq, fun p hp => ?_⟩)
    exact dK.le (dk_lst h4 hp (fun Hi k => (PlL.rep hl k).cut l u) q) (Pl.le.trans PlL.le)
  | _ => exact False.elim q3

/-! ### calls of built-ins -/
def WC (X : Cx) (g : Value) : List V → Hp → VK → Prop := fun vs H Q => ∀ (pins : List (Addr × Obj)) (s : Shared) (σ : L2.St) (us : List Value), Inv X pins σ H s → Vals vs us → wpAny (model X.prog X.w) X.A (call g us) (EP X pins σ Q) X.xe s
theorem wc {X : Cx} {g : Value} : CallR X g (WC X g) := fun pins s σ H xs us Q I r h => h pins s σ us I r
theorem wc_of {X : Cx} {g : Value} {r : List V → Hp → VK → Prop} {vs : List V} {H : Hp} {Q : VK} (h : CallR X g r) (q : r vs H Q) : WC X g vs H Q := fun pins s σ us I rv => h pins s σ H vs us Q I rv q
abbrev RLD := List D → Sto → (D → Sto → Prop) → Prop
def CallD (C : Ct) (g : Value) (r : RLD) : Prop := ∀ (X : Cx), Fits C X → ∀ (fr : Sto) (H : Hp) (m : Sto) (T : RT) (vs : List V) (ds : List D) (Q : D → Sto → Prop), vs.length = ds.length → Hd C.K fr H m (PlL T vs ds) → r ds m Q → WC X g vs H (dK C.K fr T Q)
theorem de_callB {id : String} {x : Str} {p : Pos} {r : RLD} (hc : CallD C (.builtin id) r) (hg : GlC C x) (hm : C.mg x = none) (hv : bootBuiltins x = some (.builtin id)) (h : DA C W (e :: es) δ m fun ds m1 => r ds m1 Q) (hn : x ≠ "__name__" := by decide) (hdb : (x == ("__debug__" : Str)) = false := by decide)
    (he : ∀ env, starEach (e :: es) env = (false, eval e env) :: starEach es env := by intro _; rfl) (hpl : ∀ env, (backTo pos (starEach es env)).any (·.1) = false := by intro _; rfl) : DE C W (.Call (.Name x p) (e :: es) [] pos) δ m Q := by
  intro X S f tk σ H T le sl hh
  refine WE.of (pe_callB wc (f.gl hg) (by rw [f.mg]; exact hm) hv wa hn hdb (he _) (hpl _)) ((h X S f tk σ H T le sl hh).mono fun vs H1 ⟨ds, m1, hl, h1, q⟩ => ?_)
  exact hc X f S.r H1 m1 T vs ds Q hl h1 q
theorem de_callTy {n : String} {x : Str} {p : Pos} {r : RLD} (hc : CallD C (.type n) r) (hg : GlC C x) (hm : C.mg x = none) (hv : bootBuiltins x = some (.type n)) (h : DA C W (e :: es) δ m fun ds m1 => r ds m1 Q) (hn : x ≠ "__name__" := by decide) (hdb : (x == ("__debug__" : Str)) = false := by decide)
    (he : ∀ env, starEach (e :: es) env = (false, eval e env) :: starEach es env := by intro _; rfl) (hpl : ∀ env, (backTo pos (starEach es env)).any (·.1) = false := by intro _; rfl) : DE C W (.Call (.Name x p) (e :: es) [] pos) δ m Q := by
  intro X S f tk σ H T le sl hh
  refine WE.of (pe_callTy wc (f.gl hg) (by rw [f.mg]; exact hm) hv wa hn hdb (he _) (hpl _)) ((h X S f tk σ H T le sl hh).mono fun vs H1 ⟨ds, m1, hl, h1, q⟩ => ?_)
  exact hc X f S.r H1 m1 T vs ds Q hl h1 q

/-- len -/
def lenD : RLD
  | [.str z], m, Q => z.length ≤ sizeLine ∧ Q (.int z.length) m
  | [.tup l], m, Q => l.length ≤ sizeLine → Q (.int l.length) m
  | [.lst l], m, Q => l.length ≤ sizeLine → Q (.int l.length) m
  | [.frz l], m, Q => l.length ≤ sizeLine → Q (.int l.length) m
  | [.ref p], m, Q => ∃ l, m p = some (.lst l) ∧ (l.length ≤ sizeLine → Q (.int l.length) m)
  | _, _, _ => False
theorem one_of {vs : List V} {d : D} (h : vs.length = [d].length) : ∃ v, vs = [v] := match vs, h with | [v], _ => ⟨v, rfl⟩
theorem two_of {vs : List V} {d e : D} (h : vs.length = [d, e].length) : ∃ v u, vs = [v, u] := match vs, h with | [v, u], _ => ⟨v, u, rfl⟩
theorem wc_len {X : Cx} {a : Addr} {xs : List V} {H : Hp} {Q : VK} (h : SqL X.K H a xs ∨ SqT X.K H a xs) (q : xs.length ≤ sizeLine → Q (.int xs.length) H) : WC X (.builtin "len") [.ref a] H Q := by
  intro pins s σ us I rv
  refine call_len_seq pins s σ H _ us Q I rv ⟨a, xs, rfl, h, q ?_⟩
  rcases h with h | h
  · obtain ⟨_, _, _, z⟩ := I.list h
    exact z
  · obtain ⟨_, _, _, z⟩ := I.tuple h
    exact z
theorem cd_len : CallD C (.builtin "len") lenD := by
  intro X f fr H m T vs ds Q hl hh q
  match ds, q with
  | [.str z], q =>
    obtain ⟨v, rfl⟩ := one_of hl
    have r := hh.rep (PlL.at (i := 0) (v := v) (d := .str z) rfl rfl)
    cases r
    exact wc_of call_len ⟨_, z.length, rfl, ⟨q.1, rfl⟩, dK.le (dk_int hh q.2) PlL.le⟩
  | [.tup l], q =>
    obtain ⟨v, rfl⟩ := one_of hl
    obtain ⟨p, xs, rfl, hq, hl2, h4⟩ := hh.items (PlL.at (i := 0) (v := v) (d := .tup l) rfl rfl)
    exact wc_len (.inr (by rw [f.K]; exact hq)) fun z => by rw [hl2] at z ⊢; exact dK.le (dk_int hh (q z)) PlL.le
  | [.lst l], q =>
    obtain ⟨v, rfl⟩ := one_of hl
    obtain ⟨p, xs, rfl, hq, hl2, h4⟩ := hh.itemsL (PlL.at (i := 0) (v := v) (d := .lst l) rfl rfl)
    exact wc_len (.inl (SqL.of hq)) fun z => by rw [hl2] at z ⊢; exact dK.le (dk_int hh (q z)) PlL.le
  | [.frz l], q =>
    obtain ⟨v, rfl⟩ := one_of hl
    obtain ⟨p, xs, rfl, hq, hl2, h4⟩ := hh.itemsF (PlL.at (i := 0) (v := v) (d := .frz l) rfl rfl)
    exact wc_len (.inl (by rw [f.K]; exact hq)) fun z => by rw [hl2] at z ⊢; exact dK.le (dk_int hh (q z)) PlL.le
  | [.ref p], q =>
    obtain ⟨v, rfl⟩ := one_of hl
    have r := hh.rep (PlL.at (i := 0) (v := v) (d := .ref p) rfl rfl)
    cases r
    obtain ⟨l, hm, q⟩ := q
    obtain ⟨xs, hq, hl2, h4⟩ := hh.itemsO hm
    exact wc_len (.inl (SqL.of hq)) fun z => by rw [hl2] at z ⊢; exact dK.le (dk_int hh (q z)) PlL.le
/-- max, min of two -/
def maxD : RLD
  | [.int i, .int j], m, Q => Q (.int (max i j)) m
  | _, _, _ => False
def minD : RLD
  | [.int i, .int j], m, Q => Q (.int (min i j)) m
  | _, _, _ => False
theorem two_ints {K : PySem.W.Frag} {fr : Sto} {H : Hp} {m : Sto} {T : RT} {vs : List V} {i j : Int} (hl : vs.length = [D.int i, D.int j].length) (hh : Hd K fr H m (PlL T vs [.int i, .int j])) : vs = [.int i, .int j] := by
  obtain ⟨v, u, rfl⟩ := two_of hl
  have r1 := hh.rep (PlL.at (i := 0) (v := v) (d := .int i) rfl rfl)
  have r2 := hh.rep (PlL.at (i := 1) (v := u) (d := .int j) rfl rfl)
  cases r1
  cases r2
  rfl
theorem cd_max (hcm : C.cm = true := by rfl) : CallD C (.builtin "max") maxD := by
  intro X f fr H m T vs ds Q hl hh q
  match ds, q with
  | [.int i, .int j], q =>
    have e := two_ints hl hh
    subst e
    refine wc_of (call_max2 (f.calm hcm)) ⟨i, j, rfl, ?_⟩
    have e : (if j > i then j else i) = max i j := by rw [Int.max_def]; split <;> split <;> omega
    rw [e]
    exact dK.le (dk_int hh q) PlL.le
theorem cd_min (hcm : C.cm = true := by rfl) : CallD C (.builtin "min") minD := by
  intro X f fr H m T vs ds Q hl hh q
  match ds, q with
  | [.int i, .int j], q =>
    have e := two_ints hl hh
    subst e
    refine wc_of (call_min2 (f.calm hcm)) ⟨i, j, rfl, ?_⟩
    have e : (if j < i then j else i) = min i j := by rw [Int.min_def]; split <;> split <;> omega
    rw [e]
    exact dK.le (dk_int hh q) PlL.le
/-- int of an int, a bool -/
def intD : RLD
  | [.int i], m, Q => Q (.int i) m
  | [.bl k], m, Q => Q (.int (if k then 1 else 0)) m
  | _, _, _ => False
theorem cd_int : CallD C (.type "int") intD := by
  intro X f fr H m T vs ds Q hl hh q
  match ds, q with
  | [.int i], q =>
    obtain ⟨v, rfl⟩ := one_of hl
    have r := hh.rep (PlL.at (i := 0) (v := v) (d := .int i) rfl rfl)
    cases r
    exact wc_of call_int1 (.inl ⟨i, rfl, dK.le (dk_int hh q) PlL.le⟩)
  | [.bl i], q =>
    obtain ⟨v, rfl⟩ := one_of hl
    have r := hh.rep (PlL.at (i := 0) (v := v) (d := .bl i) rfl rfl)
    cases r
    exact wc_of call_int1 (.inr ⟨i, rfl, dK.le (dk_int hh q) PlL.le⟩)
/-- list of a list, a tuple: data; an object -/
def itemsD : D → Sto → Option (List D)
  | .tup l, _ => some l
  | .lst l, _ => some l
  | .frz l, _ => some l
  | .ref p, m => match m p with
    | some (.lst l) => some l
    | _ => none
  | _, _ => none
theorem Hd.seq {K : PySem.W.Frag} {fr : Sto} {H : Hp} {m : Sto} {T : RT} {v : V} {d : D} {l : List D} (h : Hd K fr H m T) (t : T v d) (e : itemsD d m = some l) : ∃ a xs, v = .ref a ∧ (SqL K H a xs ∨ SqT K H a xs) ∧ xs.length = l.length ∧ Hd K fr H m (PlL T xs l) := by
  cases d with
  | tup l' =>
    cases e
    obtain ⟨p, xs, rfl, hq, hl2, h4⟩ := h.items t
    exact ⟨p, xs, rfl, .inr hq, hl2, h4⟩
  | lst l' =>
    cases e
    obtain ⟨p, xs, rfl, hq, hl2, h4⟩ := h.itemsL t
    exact ⟨p, xs, rfl, .inl (SqL.of hq), hl2, h4⟩
  | frz l' =>
    cases e
    obtain ⟨p, xs, rfl, hq, hl2, h4⟩ := h.itemsF t
    exact ⟨p, xs, rfl, .inl hq, hl2, h4⟩
  | ref p =>
    have r := h.rep t
    cases r
    have e' : (match m p with | some (.lst l) => some l | _ => none) = some l := e
    split at e'
    · rename_i l' hm
      cases e'
      obtain ⟨xs, hq, hl2, h4⟩ := h.itemsO hm
      exact ⟨p, xs, rfl, .inl (SqL.of hq), hl2, h4⟩
    · cases e'
  | _ => cases e
def listD : RLD := fun ds m Q => ∃ d l, ds = [d] ∧ itemsD d m = some l ∧ Q (.lst l) m
def listDM : RLD := fun ds m Q => ∃ d l, ds = [d] ∧ itemsD d m = some l ∧ ∀ p, m p = none → Q (.ref p) (sput m p (.lst l))
theorem cd_list : CallD C (.type "list") listD := by
  rintro X f fr H m T vs ds Q hl hh ⟨d, l, rfl, hi, q⟩
  obtain ⟨v, rfl⟩ := one_of hl
  obtain ⟨a, xs, rfl, hq, hl2, h4⟩ := hh.seq (PlL.at (i := 0) (v := v) (d := d) rfl rfl) hi
  exact wc_of call_list_of ⟨a, xs, rfl, by rw [f.K]; exact hq, fun p hp => dK.le (dk_lst h4 hp (fun Hi k => PlL.rep hl2 k) q) (PlL.le.trans PlL.le)⟩
theorem cd_listM : CallD C (.type "list") listDM := by
  rintro X f fr H m T vs ds Q hl hh ⟨d, l, rfl, hi, q⟩
  obtain ⟨v, rfl⟩ := one_of hl
  obtain ⟨a, xs, rfl, hq, hl2, h4⟩ := hh.seq (PlL.at (i := 0) (v := v) (d := d) rfl rfl) hi
  exact wc_of call_list_of ⟨a, xs, rfl, by rw [f.K]; exact hq, fun p hp => dK.le (dk_lstM h4 hp (fun Hi k => PlL.rep hl2 k) q) (PlL.le.trans PlL.le)⟩
/-- all, any, sum of a list of truth values, ints -/
def blsD : List D → Option (List Bool)
  | [] => some []
  | .bl b :: l => (blsD l).map (b :: ·)
  | _ :: _ => none
theorem bls_vals {K : PySem.W.Frag} {H : Hp} : ∀ {vs : List V} {l : List D} {bs : List Bool}, RepL K H vs l → blsD l = some bs → vs = bs.map V.bl
  | _, _, _, .nil, e => by cases e; rfl
  | _, .bl b :: l, bs, .cons r t, e => by
    cases r
    have e' : (blsD l).map (b :: ·) = some bs := e
    cases h : blsD l with
    | none => rw [h] at e'; cases e'
    | some cs =>
      rw [h] at e'
      cases e'
      rw [bls_vals t h]
      rfl
  | _, .non :: l, bs, .cons r t, e => by cases e
  | _, .int _ :: l, bs, .cons r t, e => by cases e
  | _, .str _ :: l, bs, .cons r t, e => by cases e
  | _, .tup _ :: l, bs, .cons r t, e => by cases e
  | _, .lst _ :: l, bs, .cons r t, e => by cases e
  | _, .frz _ :: l, bs, .cons r t, e => by cases e
  | _, .dic _ _ :: l, bs, .cons r t, e => by cases e
  | _, .dit _ _ :: l, bs, .cons r t, e => by cases e
  | _, .ref _ :: l, bs, .cons r t, e => by cases e
  | _, .ty _ :: l, bs, .cons r t, e => by cases e
theorem blsD_map : ∀ bs : List Bool, blsD (bs.map D.bl) = some bs
  | [] => rfl
  | b :: bs => by
    show (blsD (bs.map D.bl)).map (b :: ·) = _
    rw [blsD_map bs]
    rfl
def allD : RLD := fun ds m Q => ∃ l bs, ds = [.lst l] ∧ blsD l = some bs ∧ Q (.bl (bs.all id)) m
def anyD : RLD := fun ds m Q => ∃ l bs, ds = [.lst l] ∧ blsD l = some bs ∧ Q (.bl (bs.any id)) m
theorem Hd.repsL {K : PySem.W.Frag} {fr : Sto} {H : Hp} {m : Sto} {T : RT} {v : V} {l : List D} (h : Hd K fr H m T) (t : T v (.lst l)) : ∃ a xs, v = .ref a ∧ H a = some (.lst xs) ∧ RepL K H xs l := by
  have r := h.rep t
  cases r with
  | lst q r => exact ⟨_, _, rfl, q, r⟩
theorem cd_all (hcm : C.cm = true := by rfl) : CallD C (.builtin "all") allD := by
  rintro X f fr H m T vs ds Q hl hh ⟨l, bs, rfl, hb, q⟩
  obtain ⟨v, rfl⟩ := one_of hl
  obtain ⟨a, xs, rfl, hq, r⟩ := hh.repsL (PlL.at (i := 0) (v := v) (d := .lst l) rfl rfl)
  have e := bls_vals r hb
  subst e
  exact wc_of (cr_all (f.calm hcm)) ⟨a, bs, rfl, SqL.of hq, dK.le (dk_bl hh q) PlL.le⟩
theorem cd_any (hcm : C.cm = true := by rfl) : CallD C (.builtin "any") anyD := by
  rintro X f fr H m T vs ds Q hl hh ⟨l, bs, rfl, hb, q⟩
  obtain ⟨v, rfl⟩ := one_of hl
  obtain ⟨a, xs, rfl, hq, r⟩ := hh.repsL (PlL.at (i := 0) (v := v) (d := .lst l) rfl rfl)
  have e := bls_vals r hb
  subst e
  exact wc_of (cr_any (f.calm hcm)) ⟨a, bs, rfl, SqL.of hq, dK.le (dk_bl hh q) PlL.le⟩
/-- isinstance against a built-in class -/
def tyD : D → Option String
  | .non => some "NoneType"
  | .bl _ => some "bool"
  | .int _ => some "int"
  | .str _ => some "str"
  | .tup _ => some "tuple"
  | .lst _ => some "list"
  | .dic _ _ => some "dict"
  | .dit _ _ => some "dict"
  | _ => none
theorem Hd.tyX {K : PySem.W.Frag} {fr : Sto} {H : Hp} {m : Sto} {T : RT} {v : V} {d : D} {t : String} (h : Hd K fr H m T) (x : T v d) (e : tyD d = some t) : TyX K H v (.type t) := by
  have r := h.rep x
  cases r with
  | non => cases e; exact .base .non
  | bl b => cases e; exact .base (.bl b)
  | int b => cases e; exact .base (.int b)
  | str b => cases e; exact .base (.str b)
  | tup q r =>
    cases e
    rcases q with (q | ⟨o, q⟩) | ⟨o, its, n, q, c, _⟩
    · exact .base (.tup q)
    · exact .fTuple q
    · exact .kTuple q c
  | lst q r => cases e; exact .base (.lst q)
  | dic q r => cases e; exact .base (.dK q)
  | dit q r => cases e; exact .base (.dT q)
  | _ => cases e
def isiD : RLD := fun ds m Q => ∃ d t n b, ds = [d, .ty n] ∧ tyD d = some t ∧ kitB t n = some b ∧ Q (.bl b) m
theorem cd_isi : CallD C (.builtin "isinstance") isiD := by
  rintro X f fr H m T vs ds Q hl hh ⟨d, t, n, b, rfl, ht, hk, q⟩
  obtain ⟨v, u, rfl⟩ := two_of hl
  have ty := hh.tyX (PlL.at (i := 0) (v := v) (d := d) rfl rfl) ht
  have r := hh.rep (PlL.at (i := 1) (v := u) (d := .ty n) rfl rfl)
  cases r
  exact wc_of call_isi ⟨v, .ty n, .type t, .type n, b, rfl, .ty n, by rw [f.K]; exact ty, kit_ty hk, dK.le (dk_bl hh q) PlL.le⟩
/-- .. against a written tuple of two: the tuple is made on the way -/
def kit2 (t a b : String) : Option Bool := match kitB t a with
  | some true => some true
  | some false => kitB t b
  | none => none
theorem kit2_any {K : PySem.W.Frag} {t a b : String} {k : Bool} (h : kit2 t a b = some k) : PySem.W.kitAny K (.type t) [.type a, .type b] = some k := by
  unfold kit2 at h
  split at h
  · rename_i h1
    cases h
    exact kitAny_cons (kit_ty h1) (fun e => nomatch e) fun _ => rfl
  · rename_i h1
    refine kitAny_cons (kit_ty h1) (fun _ => ?_) (fun e => nomatch e)
    cases k with
    | true => exact kitAny_cons (kit_ty h) (fun e => nomatch e) fun _ => rfl
    | false => exact kitAny_cons (kit_ty h) (fun _ => rfl) (fun e => nomatch e)
  · cases h
end
end G

/-! The data layer's rules: statements, targets, loops. -/
namespace G
open PySem PySem.Spec PyProof.Rows L2

section
variable {C : Ct} {W : DW} {δ : Sl} {m : Sto} {D : DEn} {a b c e : Expr} {es : List Expr} {st : Stmt} {sts : List Stmt} {pos pos' : Pos}
theorem dss_nil (q : D.nx δ m) : DSs C W [] δ m D := fun X S f tk σ H T le sl hh => WSs.of pss_nil ⟨δ, m, T, le, sl, hh, q⟩
theorem dss_cons (h : DS C W st δ m { D with nx := fun δ' m' => DSs C W sts δ' m' D }) : DSs C W (st :: sts) δ m D := by
  intro X S f tk σ H T le sl hh
  refine WSs.of (pss_cons ws wss) ?_
  refine (h X S f tk σ H T le sl hh).mono (fun σ' H' ⟨δ', m', T', le', sl', hh', q⟩ => q X S f tk σ' H' T' le' sl' hh') (fun _ _ q => q) (fun _ _ q => q) fun _ _ q => q
theorem dss_one (h : DS C W st δ m D) : DSs C W [st] δ m D := fun X S f tk σ H T le sl hh => WSs.of (pss_one ws) (h X S f tk σ H T le sl hh)
/-- a word between two parts of a block -/
theorem dss_cut (R : Sl → Sto → Prop) (h : DS C W st δ m { D with nx := R }) (k : ∀ δ' m', R δ' m' → DSs C W sts δ' m' D) : DSs C W (st :: sts) δ m D := by
  refine dss_cons ?_
  intro X S f tk σ H T le sl hh
  exact (h X S f tk σ H T le sl hh).mono (fun σ' H' ⟨δ', m', T', le', sl', hh', q⟩ => ⟨δ', m', T', le', sl', hh', k _ _ q⟩) (fun _ _ q => q) (fun _ _ q => q) fun _ _ q => q
theorem ds_pass (q : D.nx δ m) : DS C W (.Pass pos) δ m D := fun X S f tk σ H T le sl hh => WS.of ps_pass ⟨δ, m, T, le, sl, hh, q⟩
theorem ds_break (q : D.bk δ m) : DS C W (.Break pos) δ m D := fun X S f tk σ H T le sl hh => WS.of ps_break ⟨δ, m, T, le, sl, hh, q⟩
theorem ds_cont (q : D.ct δ m) : DS C W (.Continue pos) δ m D := fun X S f tk σ H T le sl hh => WS.of ps_continue ⟨δ, m, T, le, sl, hh, q⟩
theorem lift_nx {K : PySem.W.Frag} {S : Fr} {T : RT} {σ : L2.St} {H : Hp} {n : Sl → Sto → Prop} (le : Le S.t T) (sl : SlotsIn σ δ T) (hh : Hd K S.r H m T) (q : n δ m) : lift1 K S n σ H := ⟨δ, m, T, le, sl, hh, q⟩
theorem Fits.loc {X : Cx} {x : Str} (f : Fits C X) (h : Loc C.sc x) : Loc X.env.scope x := by rw [f.sc]; exact h
theorem Fits.fnl {X : Cx} {x : Str} (f : Fits C X) (h : C.fn x = true ∨ C.sc.names.lookup x = some .local) : X.fn x = true ∨ X.env.scope.names.lookup x = some .local := h.elim (fun z => .inl (f.fn x z)) fun z => .inr (by rw [f.sc]; exact z)
theorem ds_set (i : Nat) {x : Str} (hN : C.N[i]? = some x) (hx : Loc C.sc x) (h : DE C W e δ m fun d m1 => D.nx (δ.set i (some d)) m1) (hs : ∀ env, swapsWith e (some (.Name x pos')) pos.line env = pure false := by intro _; rfl) (hf : C.fn x = true ∨ C.sc.names.lookup x = some .local := by first | exact .inl rfl | exact .inr rfl | assumption) :
    DS C W (.Assign [.Name x pos'] e pos) δ m D := by
  intro X S f tk σ H T le sl hh
  refine WS.of (ps_set f.nd (i := i) (by rw [f.N]; exact hN) (f.loc hx) we (hs _) (f.fnl hf)) ((h X S f tk σ H T le sl hh).mono fun v H1 ⟨d, m1, h1, q⟩ => ?_)
  exact lift_nx (le.trans Pl.le) ((sl.le Pl.le).set Pl.it) h1 q
theorem ds_ret (h : DE C W e δ m D.rt) : DS C W (.Return (some e) pos) δ m D := fun X S f tk σ H T le sl hh => WS.of (ps_ret we) ((h X S f tk σ H T le sl hh).mono fun v H1 ⟨d, m1, h1, q⟩ => ⟨d, m1, h1.le (Pl.mono le), q⟩)
theorem ds_retN (q : D.rt .non m) : DS C W (.Return none pos) δ m D := fun X S f tk σ H T le sl hh => WS.of ps_retN ⟨.non, m, (hh.le le).pl fun _ _ => .non, q⟩
theorem ds_expr (h : DE C W e δ m fun _ m1 => D.nx δ m1) (hs : ∀ env, swapsWith e none pos.line env = pure false := by intro _; rfl) : DS C W (.Expr e pos) δ m D := fun X S f tk σ H T le sl hh => WS.of (ps_expr we (hs _)) ((h X S f tk σ H T le sl hh).mono fun v H1 ⟨d, m1, h1, q⟩ => lift_nx le sl (h1.le Pl.le) q)
theorem ds_if {as bs : List Stmt} (h : DT C W c δ m fun k m1 => br k (DSs C W as δ m1 D) (DSs C W bs δ m1 D)) : DS C W (.If c as bs pos) δ m D := by
  intro X S f tk σ H T le sl hh
  refine WS.of (ps_if wt wss wss) ((h X S f tk σ H T le sl hh).mono fun k H1 ⟨m1, h1, q⟩ => ?_)
  cases k with
  | true => exact q.1 rfl X S f tk σ H1 T le sl h1
  | false => exact q.2 rfl X S f tk σ H1 T le sl h1
/-- x op= e -/
def OpDi (C : Ct) (op : Operator) (r : R2D) : Prop := ∀ (X : Cx), Fits C X → ∀ (fr : Sto) (H : Hp) (m : Sto) (T : RT) (x y : V) (d e : G.D) (Q : G.D → Sto → Prop), Hd C.K fr H m T → T x d → T y e → r d e m Q → WB X (inplaceOp op) x y H (dK C.K fr T Q)
theorem ds_aug (i : Nat) {x : Str} {op : Operator} {r : R2D} {d0 : G.D} (ho : OpDi C op r) (hN : C.N[i]? = some x) (hx : Loc C.sc x) (hd : δ[i]? = some (some d0)) (h : DE C W e δ m fun d m1 => r d0 d m1 fun z m2 => D.nx (δ.set i (some z)) m2) (hf : C.fn x = true ∨ C.sc.names.lookup x = some .local := by first | exact .inl rfl | exact .inr rfl | assumption) :
    DS C W (.AugAssign (.Name x pos') op e pos) δ m D := by
  intro X S f tk σ H T le sl hh
  obtain ⟨v0, e0, t0⟩ := sl.2 i d0 hd
  refine WS.of (ps_aug (ti := fun x y H Q => WB X (inplaceOp op) x y H Q) f.nd (i := i) (by rw [f.N]; exact hN) (f.loc hx) we (fun pins s σ H x y v u Q I rx ry w => w pins s σ v u I rx ry) (f.fnl hf)) ⟨v0, e0, (h X S f tk σ H T le sl hh).mono fun v H1 ⟨d, m1, h1, q⟩ => ?_⟩
  have w := ho X f S.r H1 m1 _ v0 v d0 d _ h1 (.inl t0) Pl.it q
  exact fun pins s σ' v u I rx ry => thn (w pins s σ' v u I rx ry) fun z s' ⟨zv, H2, I2, r2, d2, m2, h2, q2⟩ => ⟨zv, H2, I2, r2, lift_nx (le.trans (Pl.le.trans Pl.le)) ((sl.le (Pl.le.trans Pl.le)).set Pl.it) h2 q2⟩

/-! ### targets -/
theorem dg_name (i : Nat) {x : Str} {d : G.D} {Q : Sl → Sto → Prop} (hN : C.N[i]? = some x) (hx : Loc C.sc x) (q : Q (δ.set i (some d)) m) (hf : C.fn x = true ∨ C.sc.names.lookup x = some .local := by first | exact .inl rfl | exact .inr rfl | assumption) : DG C W (.Name x pos) d δ m Q :=
  fun X S f tk v σ H T le sl t hh => WG.of (pg_name f.nd (i := i) (by rw [f.N]; exact hN) (f.loc hx) (f.fnl hf)) ⟨_, m, T, Le.refl T, sl.set t, hh, q⟩
/-- several targets -/
def WGs (X : Cx) (ts : List Expr) : TGs := fun vs σ H Q => ∀ (pins : List (Addr × Obj)) (s : Shared) (us : List Value), Inv X pins σ H s → Vals vs us → wpAny (model X.prog X.w) X.A (assignInOrder ((assignEach ts X.env).map (·.2)) us) (fun _ s' => ∃ σ' H', Inv X pins σ' H' s' ∧ Q σ' H') X.xe s
theorem wgs {X : Cx} {ts : List Expr} : PGs X ts (WGs X ts) := ⟨fun pins s σ H vs us Q I r h => h pins s us I r⟩
def DGs (C : Ct) (W : DW) (ts : List Expr) (ds : List G.D) (δ : Sl) (m : Sto) (Q : Sl → Sto → Prop) : Prop :=
  ∀ (X : Cx) (S : Fr), Fits C X → Takes X (liftW C.K W S) → ∀ (vs : List V) (σ : L2.St) (H : Hp) (T : RT), vs.length = ds.length → Le S.t T → SlotsIn σ δ T → Hd C.K S.r H m (PlL T vs ds) → WGs X ts vs σ H fun σ' H' => ∃ δ' m' T', Le T T' ∧ SlotsIn σ' δ' T' ∧ Hd C.K S.r H' m' T' ∧ Q δ' m'
theorem dgs_nil {Q : Sl → Sto → Prop} (q : Q δ m) : DGs C W [] [] δ m Q := fun X S f tk vs σ H T hl le sl hh pins s us I r => pgs_nil.run pins s σ H vs us _ I r ⟨List.length_eq_zero_iff.mp hl, δ, m, T, Le.refl T, sl, hh.le PlL.le, q⟩
theorem dgs_cons {d : G.D} {ds : List G.D} {Q : Sl → Sto → Prop} (h : DG C W e d δ m fun δ1 m1 => DGs C W es ds δ1 m1 Q) (hs : ∀ env, (assignEach (e :: es) env).map (·.2) = assign e env :: (assignEach es env).map (·.2) := by intro _; rfl) : DGs C W (e :: es) (d :: ds) δ m Q := by
  intro X S f tk vs σ H T hl le sl hh pins s us I r
  match vs, hl with
  | v :: vs, hl =>
    refine (pgs_cons wg wgs (hs _)).run pins s σ H (v :: vs) us _ I r ⟨v, vs, rfl, ?_⟩
    have lt : Le T (PlL T (v :: vs) (d :: ds)) := PlL.le
    refine (h X S f tk v σ H _ (le.trans lt) (sl.le lt) (PlL.at (i := 0) rfl rfl) hh).mono fun σ1 H1 ⟨δ1, m1, T1, le1, sl1, h1, q⟩ => ?_
    have l2 : vs.length = ds.length := by simpa using hl
    have hq := q X S f tk vs σ1 H1 T1 l2 (le.trans (lt.trans le1)) sl1 (h1.le fun x y z => z.elim id fun z => le1 x y (.inr (by rw [List.zip_cons_cons]; exact List.mem_cons_of_mem _ z)))
    exact fun pins s us I r => thn (hq pins s us I r) fun _ _ ⟨σ', H', I', δ', m', T', le', sl', hh', q'⟩ => ⟨σ', H', I', δ', m', T', lt.trans (le1.trans le'), sl', hh', q'⟩
theorem dg_tup {k : Nat} {ds : List G.D} {Q : Sl → Sto → Prop} (hl : ds.length = es.length) (h : DGs C W es ds δ m Q) (hn : ∀ env, (assignEach es env).length = es.length := by intro _; rfl) (hst : ∀ env, (assignEach es env).findIdx? (·.1) = none := by intro _; rfl) (hcm : C.cm = true := by rfl) : DG C W (.Tuple es k pos) (.tup ds) δ m Q := by
  intro X S f tk v σ H T le sl t hh
  obtain ⟨p, xs, rfl, hq, hl2, h4⟩ := hh.items t
  refine WG.of (pg_tup (f.calm hcm) wgs (n := es.length) (hn _) (hst _)) ⟨p, xs, rfl, by rw [f.K]; exact hq, by rw [hl2, hl], ?_⟩
  exact h X S f tk xs σ H T hl2 le sl h4
/-- target = value -/
theorem ds_asg {tg : Expr} (h : DE C W e δ m fun d m1 => DG C W tg d δ m1 D.nx) (hs : ∀ env, swapsWithSole [tg] e pos.line env = pure false := by intro _; rfl) (hw : ∀ env, swappedStores [tg] e env = pure none := by intro _; rfl)
    (h1 : ∀ env, (assignEach [tg] env).map (·.2) = [assign tg env] := by intro _; rfl) : DS C W (.Assign [tg] e pos) δ m D := by
  intro X S f tk σ H T le sl hh
  refine WS.of (ps_asg we wg (hs _) (hw _) (h1 _)) ((h X S f tk σ H T le sl hh).mono fun v H1 ⟨d, m1, h1, q⟩ => ?_)
  refine (q X S f tk v σ H1 _ (le.trans Pl.le) (sl.le Pl.le) Pl.it h1).mono fun σ2 H2 ⟨δ2, m2, T2, le2, sl2, h2, q2⟩ => ?_
  exact lift_nx (le.trans (Pl.le.trans le2)) sl2 h2 q2
/-- o[i] = e, o a list of the store -/
def setD (x y d : G.D) (m : Sto) (k : Sto → Prop) : Prop := ∃ p ds i j, x = .ref p ∧ y = .int i ∧ m p = some (.lst ds) ∧ ixN ds.length i = some j ∧ k (sput m p (.lst (ds.set j d)))
theorem ds_setitem {o i : Expr} (h : DE C W e δ m fun d m1 => DE C W o δ m1 fun x m2 => DE C W i δ m2 fun y m3 => setD x y d m3 (D.nx δ))
    (hs : ∀ env, swapsWithSole [.Subscript o i pos'] e pos.line env = pure false := by intro _; rfl) (hw : ∀ env, swappedStores [.Subscript o i pos'] e env = pure none := by intro _; rfl)
    (h1 : ∀ env, (assignEach [.Subscript o i pos'] env).map (·.2) = [assign (.Subscript o i pos') env] := by intro _; rfl)
    (ha : ∀ env v, assign (.Subscript o i pos') env v = (do
      let ov ← holding [v] (eval o env)
      let iv ← holding [v, ov] (eval i env)
      standAt pos'
      holding [v, ov, iv] (setItem ov iv v)
      release [v, ov, iv] []) := by intro _ _; rfl) : DS C W (.Assign [.Subscript o i pos'] e pos) δ m D := by
  intro X S f tk σ H T le sl hh
  refine WS.of (ps_asg we (pg_sub we we set_list (ha _)) (hs _) (hw _) (h1 _)) ((h X S f tk σ H T le sl hh).mono fun v H1 ⟨d, m1, h1, q⟩ => ?_)
  refine (q X S f tk σ H1 _ (le.trans Pl.le) (sl.le Pl.le) h1).mono fun u H2 ⟨x, m2, h2, q2⟩ => ?_
  refine (q2 X S f tk σ H2 _ (le.trans (Pl.le.trans Pl.le)) (sl.le (Pl.le.trans Pl.le)) h2).mono fun w H3 ⟨y, m3, h3, p, ds, k, j, ex, ey, hm, hj, q3⟩ => ?_
  subst ex ey
  have ru := h3.rep (.inl Pl.it : Pl (Pl (Pl T v d) u (.ref p)) w (.int k) u (.ref p))
  have rw' := h3.rep (Pl.it (T := Pl (Pl T v d) u (.ref p)) (v := w) (d := .int k))
  cases ru
  cases rw'
  obtain ⟨xs, hq, hl, _⟩ := h3.itemsO hm
  refine ⟨p, xs, k, j, rfl, rfl, hq, by rw [hl]; exact hj, ?_⟩
  have h4 := h3.mut (u' := .lst (xs.set j v)) (o' := .lst (ds.set j d)) hm hq fun Hi r kk => RepL.set j r (kk v d (.inl (.inl Pl.it)))
  exact lift_nx (le.trans (Pl.le.trans (Pl.le.trans Pl.le))) (sl.le (Pl.le.trans (Pl.le.trans Pl.le))) h4 q3

/-! ### what a for walks -/
def WI (X : Cx) (tg iter : Expr) : TI := fun σ H R => ∀ (pins : List (Addr × Obj)) (s : Shared), Inv X pins σ H s → wpAny (model X.prog X.w) X.A (eval iter X.env) (fun v s1 => wpAny (model X.prog X.w) X.A (pyIter v) (PIE X pins σ tg R) X.xe s1) X.xe s
theorem wi {X : Cx} {tg iter : Expr} : PI X tg iter (WI X tg iter) := ⟨fun pins s σ H R I h => h pins s I⟩
theorem WI.of {X : Cx} {tg iter : Expr} {w : TI} {σ : L2.St} {H : Hp} {R : It → Hp → Prop} (p : PI X tg iter w) (h : w σ H R) : WI X tg iter σ H R := fun pins s I => p.run pins s σ H R I h
theorem WI.mono {X : Cx} {tg iter : Expr} {σ : L2.St} {H : Hp} {R R' : It → Hp → Prop} (h : WI X tg iter σ H R) (k : ∀ J H', R J H' → R' J H') : WI X tg iter σ H R' := fun pins s I => thn (h pins s I) fun _ _ q => thn q fun _ _ ⟨it, fp, tn, J, H', e, I', Tn, t0, fr, r⟩ => ⟨it, fp, tn, J, H', e, I', Tn, t0, fr, k _ _ r⟩
/-- J walks the data ds, whatever else happens while T' holds -/
structure Walks (K : PySem.W.Frag) (J : It) (ds : List G.D) (T' : RT) : Prop where
  go : ∀ (i : Nat) (r : Sto) (H : Hp) (m : Sto) (T : RT), i < ds.length → Le T' T → Hd K r H m T → J.go i H
  yld : ∀ (i : Nat) (r : Sto) (H H' : Hp) (m : Sto) (T : RT) (x : V) (d : G.D), ds[i]? = some d → Le T' T → Hd K r H m T → J.yld i H x H' → Hd K r H' m (Pl T x d)
  stop : ∀ (i : Nat) (r : Sto) (H : Hp) (m : Sto) (T : RT), ds.length ≤ i → Le T' T → Hd K r H m T → J.stop i H
def DI (C : Ct) (W : DW) (tg iter : Expr) (δ : Sl) (m : Sto) (R : List G.D → Sto → Prop) : Prop :=
  ∀ (X : Cx) (S : Fr), Fits C X → Takes X (liftW C.K W S) → ∀ (σ : L2.St) (H : Hp) (T : RT), Le S.t T → SlotsIn σ δ T → Hd C.K S.r H m T → WI X tg iter σ H fun J H' => ∃ ds m' T', Le T T' ∧ Hd C.K S.r H' m' T' ∧ Walks C.K J ds T' ∧ R ds m'
variable {tg iter : Expr}
/-- a list, a tuple that is data -/
theorem di_lst {R : List G.D → Sto → Prop} (h : DE C W e δ m fun d m1 => ∃ ds, d = .lst ds ∧ R ds m1) : DI C W tg e δ m R := by
  intro X S f tk σ H T le sl hh
  refine WI.of (pi_list we) ((h X S f tk σ H T le sl hh).mono fun v H1 ⟨d, m1, h1, ds, ed, q⟩ => ?_)
  subst ed
  obtain ⟨p, xs, rfl, hq, hl, h4⟩ := h1.itemsL Pl.it
  refine ⟨p, rfl, ⟨xs, SqL.of hq⟩, ds, m1, _, Pl.le, h1, ?_, q⟩
  have at_ : ∀ (r : Sto) (H : Hp) (m : Sto) (T' : RT), Le (Pl T (.ref p) (.lst ds)) T' → Hd C.K r H m T' → ∃ ys, H p = some (.lst ys) ∧ ys.length = ds.length ∧ Hd C.K r H m (PlL T' ys ds) := fun r H m T' l hd => by
    obtain ⟨p', ys, e, hy, l2, h5⟩ := hd.itemsL (l _ _ Pl.it)
    cases e
    exact ⟨ys, hy, l2, h5⟩
  refine ⟨fun i r H m T' hi l hd => ?_, fun i r H H' m T' x d hi l hd y => ?_, fun i r H m T' hi l hd => ?_⟩
  · obtain ⟨ys, hy, l2, _⟩ := at_ r H m T' l hd
    exact ⟨ys, ys[i], SqL.of hy, List.getElem?_eq_getElem (by omega)⟩
  · obtain ⟨ys, hy, l2, h5⟩ := at_ r H m T' l hd
    obtain ⟨e, y⟩ := y
    subst e
    exact (h5.again (PlL.at (y ys (SqL.of hy)) hi)).le (Pl.mono PlL.le)
  · obtain ⟨ys, hy, l2, _⟩ := at_ r H m T' l hd
    exact ⟨ys, SqL.of hy, by omega⟩
theorem di_tup {R : List G.D → Sto → Prop} (h : DE C W e δ m fun d m1 => ∃ ds, d = .tup ds ∧ R ds m1) : DI C W tg e δ m R := by
  intro X S f tk σ H T le sl hh
  refine WI.of (pi_tup we) ((h X S f tk σ H T le sl hh).mono fun v H1 ⟨d, m1, h1, ds, ed, q⟩ => ?_)
  subst ed
  obtain ⟨p, xs, rfl, hq, hl, h4⟩ := h1.items Pl.it
  refine ⟨p, rfl, ⟨xs, by rw [f.K]; exact hq⟩, ds, m1, _, Pl.le, h1, ?_, q⟩
  have at_ : ∀ (r : Sto) (H : Hp) (m : Sto) (T' : RT), Le (Pl T (.ref p) (.tup ds)) T' → Hd C.K r H m T' → ∃ ys, SqT C.K H p ys ∧ ys.length = ds.length ∧ Hd C.K r H m (PlL T' ys ds) := fun r H m T' l hd => by
    obtain ⟨p', ys, e, hy, l2, h5⟩ := hd.items (l _ _ Pl.it)
    cases e
    exact ⟨ys, hy, l2, h5⟩
  rw [f.K]
  refine ⟨fun i r H m T' hi l hd => ?_, fun i r H H' m T' x d hi l hd y => ?_, fun i r H m T' hi l hd => ?_⟩
  · obtain ⟨ys, hy, l2, _⟩ := at_ r H m T' l hd
    exact ⟨ys, ys[i], hy, List.getElem?_eq_getElem (by omega)⟩
  · obtain ⟨ys, hy, l2, h5⟩ := at_ r H m T' l hd
    obtain ⟨e, y⟩ := y
    subst e
    exact (h5.again (PlL.at (y ys hy) hi)).le (Pl.mono PlL.le)
  · obtain ⟨ys, hy, l2, _⟩ := at_ r H m T' l hd
    exact ⟨ys, hy, by omega⟩
/-- lo, lo + 1, .. -/
def rngD (lo : Int) (n : Nat) : List G.D := (List.range n).map fun i => .int (lo + (i : Nat))
theorem rngD_len {lo : Int} {n : Nat} : (rngD lo n).length = n := by simp [rngD]
theorem rngD_get {lo : Int} {n i : Nat} {d : G.D} (h : (rngD lo n)[i]? = some d) : i < n ∧ d = .int (lo + (i : Nat)) := by
  have hi : i < n := by
    have := (List.getElem?_eq_some_iff.mp h).1
    rwa [rngD_len] at this
  refine ⟨hi, ?_⟩
  rw [rngD, List.getElem?_map, List.getElem?_range hi] at h
  exact (Option.some.inj h).symm
theorem walks_rng {K : PySem.W.Frag} {lo : Int} {n : Nat} {T : RT} : Walks K (Itr lo n) (rngD lo n) T :=
  ⟨fun i r H m T' hi l hd => by rw [rngD_len] at hi; exact hi, fun i r H H' m T' x d hi l hd y => by
    obtain ⟨e, ex⟩ := y
    subst e ex
    obtain ⟨_, ed⟩ := rngD_get hi
    subst ed
    exact hd.pl fun _ _ => .int _, fun i r H m T' hi l hd => by rw [rngD_len] at hi; exact hi⟩
theorem di_rng1 {R : List G.D → Sto → Prop} {p : Pos} (hg : GlC C "range") (hm : C.mg "range" = none) (h : DE C W a δ m fun d m1 => ∃ j : Int, d = .int j ∧ -(2 ^ 62) ≤ j ∧ j < 2 ^ 62 ∧ R (rngD 0 j.toNat) m1) (hs : ∀ env, starEach [a] env = [(false, eval a env)] := by intro _; rfl) : DI C W tg (.Call (.Name "range" p) [a] [] pos) δ m R := by
  intro X S f tk σ H T le sl hh
  refine WI.of (pi_range1 (f.gl hg) (by rw [f.mg]; exact hm) (pa_cons we pa_nil (by rw [hs]; rfl)) (hs _)) ((h X S f tk σ H T le sl hh).mono fun v H1 ⟨d, m1, h1, j, ed, b1, b2, q⟩ => ?_)
  subst ed
  have r := h1.rep Pl.it
  cases r
  exact ⟨j, rfl, b1, b2, _, m1, _, Pl.le, h1, walks_rng, q⟩
theorem di_rng2 {R : List G.D → Sto → Prop} {p : Pos} (hg : GlC C "range") (hm : C.mg "range" = none) (h : DE C W a δ m fun d m1 => DE C W b δ m1 fun d2 m2 => ∃ i j : Int, d = .int i ∧ d2 = .int j ∧ (-(2 ^ 62) ≤ i ∧ i < 2 ^ 62 ∧ -(2 ^ 62) ≤ j ∧ j < 2 ^ 62) ∧ R (rngD i (j - i).toNat) m2)
    (hs : ∀ env, starEach [a, b] env = [(false, eval a env), (false, eval b env)] := by intro _; rfl) (hs2 : ∀ env, starEach [b] env = [(false, eval b env)] := by intro _; rfl) : DI C W tg (.Call (.Name "range" p) [a, b] [] pos) δ m R := by
  intro X S f tk σ H T le sl hh
  refine WI.of (pi_range2 (f.gl hg) (by rw [f.mg]; exact hm) (pa_cons we (pa_cons we pa_nil (by rw [hs2]; rfl)) (by rw [hs, hs2])) (hs _) (hs2 _)) ((h X S f tk σ H T le sl hh).mono fun v H1 ⟨d, m1, h1, q1⟩ => ?_)
  refine (q1 X S f tk σ H1 _ (le.trans Pl.le) (sl.le Pl.le) h1).mono fun u H2 ⟨d2, m2, h2, i, j, e1, e2, bd, q⟩ => ?_
  subst e1 e2
  have r1 := h2.rep (.inl Pl.it : Pl (Pl T v (.int i)) u (.int j) v (.int i))
  have r2 := h2.rep (Pl.it (T := Pl T v (.int i)) (v := u) (d := .int j))
  cases r1
  cases r2
  exact ⟨i, j, rfl, bd, _, m2, _, Pl.le.trans Pl.le, h2, walks_rng, q⟩
/-- for: I holds behind i turns -/
theorem ds_for {body : List Stmt} (h : DI C W tg iter δ m fun ds m1 => ∃ I : Nat → Sl → Sto → Prop, I 0 δ m1 ∧ (∀ (i : Nat) (d : G.D) (δ' : Sl) (m' : Sto), ds[i]? = some d → I i δ' m' → DG C W tg d δ' m' fun δ2 m2 => DSs C W body δ2 m2 { D with nx := I (i + 1), ct := I (i + 1), bk := D.nx }) ∧ ∀ δ' m', I ds.length δ' m' → D.nx δ' m')
    (hs : ∀ env x, foldedSetIterable iter env x = pure x := by intro _ _; rfl) (hcm : C.cm = true := by rfl) : DS C W (.For tg iter body [] pos) δ m D := by
  intro X S f tk σ H T le sl hh
  refine WS.of (ps_for f.own (f.calm hcm) wi wg wss (hs _)) ((h X S f tk σ H T le sl hh).mono fun J H1 ⟨ds, m1, T1, le1, h1, wk, I, h0, hstep, hend⟩ => ?_)
  refine ⟨fun i n σ' H' => n = ds.length - i ∧ i ≤ ds.length ∧ ∃ δ' m' T', Le T1 T' ∧ SlotsIn σ' δ' T' ∧ Hd C.K S.r H' m' T' ∧ I i δ' m', ⟨ds.length, by simp, Nat.zero_le _, δ, m1, T1, Le.refl _, sl.le le1, h1, h0⟩, ?_⟩
  rintro i n σ' H' ⟨rfl, hi, δ', m', T', le', sl', hh', ih⟩
  by_cases hlt : i < ds.length
  · refine .inr ⟨wk.go i S.r H' m' T' hlt le' hh', fun σ2 H2 => i + 1 ≤ ds.length ∧ ∃ δ' m' T', Le T1 T' ∧ SlotsIn σ2 δ' T' ∧ Hd C.K S.r H2 m' T' ∧ I (i + 1) δ' m', fun σ2 H2 ⟨a, b⟩ => ⟨ds.length - (i + 1), by omega, rfl, a, b⟩, fun x H2 y => ?_⟩
    have hd := List.getElem?_eq_getElem hlt
    have h2 := wk.yld i S.r H' H2 m' T' x _ hd le' hh' y
    refine (hstep i _ δ' m' hd ih X S f tk x σ' H2 _ (le.trans (le1.trans (le'.trans Pl.le))) (sl'.le Pl.le) Pl.it h2).mono fun σ3 H3 ⟨δ3, m3, T3, le3, sl3, h3, q3⟩ => ?_
    -- the body keeps what holds: S is taken as wide as T1
    have tk1 : Takes X (liftW C.K W S) := tk
    refine (q3 X ⟨T1, S.r⟩ f ?_ σ3 H3 T3 (le'.trans (Pl.le.trans le3)) sl3 h3).mono (fun σ4 H4 ⟨δ4, m4, T4, le4, sl4, h4, q4⟩ => ⟨hlt, δ4, m4, T4, le4, sl4, h4, q4⟩) (fun v4 H4 ⟨d4, m4, h4, q4⟩ => ⟨d4, m4, h4.le (Pl.mono (le.trans le1)), q4⟩) (fun σ4 H4 ⟨δ4, m4, T4, le4, sl4, h4, q4⟩ => ⟨δ4, m4, T4, (le.trans le1).trans le4, sl4, h4, q4⟩) (fun σ4 H4 ⟨δ4, m4, T4, le4, sl4, h4, q4⟩ => ⟨hlt, δ4, m4, T4, le4, sl4, h4, q4⟩)
    exact tk.imp fun c d σ5 H5 ⟨δ5, m5, T5, fs, le5, r5⟩ => ⟨δ5, m5, T5, fs, (le.trans le1).trans le5, r5⟩
  · have e : i = ds.length := by omega
    subst e
    exact .inl ⟨wk.stop _ S.r H' m' T' (Nat.le_refl _) le' hh', lift_nx (le.trans (le1.trans le')) sl' hh' (hend _ _ ih)⟩
end
end G

/-! The data layer's rules: list comprehensions; defs and their calls; the law's own end. -/
namespace G
open PySem PySem.Spec PyProof.Rows L2

/-- nothing is raised -/
abbrev W0 : DW := fun _ _ _ _ => False
theorem takes_W0 {X : Cx} {K : PySem.W.Frag} {S : Fr} : Takes X (liftW K W0 S) := fun _ _ x => by
  obtain ⟨_, _, _, _, _, _, _, _, _, _, _, _, _, _, _, _, _, _, _, _, _, _, _, _, z⟩ := x
  exact z.elim
def wipeS (δ : Sl) : List Nat → Sl
  | [] => δ
  | v :: vs => (wipeS δ vs).set v none
theorem SlotsIn.wipe {σ : L2.St} {δ : Sl} {T : RT} (h : SlotsIn σ δ T) : ∀ vs : List Nat, SlotsIn (L2.wipe σ vs) (wipeS δ vs) T
  | [] => h
  | v :: vs => (h.wipe vs).unset
theorem wipe_set {σ : L2.St} {i : Nat} {x : Option V} : ∀ {vs : List Nat}, i ∈ vs → L2.wipe (σ.set i x) vs = L2.wipe σ vs
  | v :: vs, h => by
    show (L2.wipe (σ.set i x) vs).set v none = (L2.wipe σ vs).set v none
    by_cases hv : i ∈ vs
    · rw [wipe_set hv]
    · have e : i = v := by
        rcases List.mem_cons.mp h with e | e
        · exact e
        · exact absurd e hv
      subst e
      have q : ∀ (ws : List Nat), i ∉ ws → L2.wipe (σ.set i x) ws = (L2.wipe σ ws).set i x := by
        intro ws
        induction ws with
        | nil => intro _; rfl
        | cons w ws ih =>
          intro hw
          have hw1 : i ≠ w := fun e => hw (by rw [e]; exact List.mem_cons_self)
          show (L2.wipe (σ.set i x) ws).set w none = ((L2.wipe σ ws).set w none).set i x
          rw [ih fun z => hw (List.mem_cons_of_mem _ z), List.set_comm _ _ hw1]
      rw [q vs hv, List.set_set]
theorem wipe_sub {σ : L2.St} {vs : List Nat} : ∀ {ws : List Nat}, (∀ i ∈ ws, i ∈ vs) → L2.wipe (L2.wipe σ ws) vs = L2.wipe σ vs
  | [], _ => rfl
  | w :: ws, h => by
    show L2.wipe ((L2.wipe σ ws).set w none) vs = _
    rw [wipe_set (h w List.mem_cons_self), wipe_sub fun i hi => h i (List.mem_cons_of_mem _ hi)]
theorem wipe_idem {σ : L2.St} {vs : List Nat} : L2.wipe (L2.wipe σ vs) vs = L2.wipe σ vs := wipe_sub fun _ h => h
/-- the context of a comprehension's block -/
def Ct.blk (C : Ct) (scope : Scope) : Ct := { C with sc := relS scope C.sc, fn := fun x => scope.names.lookup x == some .cell, tr := false, ex := none }
theorem Fits.blk {C : Ct} {X : Cx} (f : Fits C X) {s : Shared} {H : Hp} {scope : Scope} {cl : List (Str × Addr)} {c : Addr} {fp : List Addr} : Fits (C.blk scope) (X.blk s H scope (compEnvC scope cl c X.env) fp) where
  prog := f.prog
  w := f.w
  K := f.K
  mg := f.mg
  base := f.base
  N := f.N
  sc := by show relS scope X.env.scope = relS scope C.sc; rw [f.sc]
  fn := fun x h => h
  nd := f.nd
  un := f.un
  room := f.room
  calm := f.calm
  own := PassesOwn.never
  tr := fun z => nomatch z
  ex := fun _ _ e => nomatch e

section
variable {C : Ct} {W : DW} {δ : Sl} {m : Sto} {a b c e : Expr} {es : List Expr} {pos pos' : Pos}
/-- a target of a comprehension: its own slots alone are stored -/
def DGv (C : Ct) (vs : List Nat) (tg : Expr) (d : D) (δ : Sl) (m : Sto) (Q : Sl → Sto → Prop) : Prop :=
  ∀ (X : Cx) (S : Fr), Fits C X → ∀ (v : V) (σ : L2.St) (H : Hp) (T : RT), Le S.t T → SlotsIn σ δ T → T v d → Hd C.K S.r H m T → WG X tg v σ H fun σ' H' => wipe σ' vs = wipe σ vs ∧ ∃ δ' m' T', Le T T' ∧ SlotsIn σ' δ' T' ∧ Hd C.K S.r H' m' T' ∧ Q δ' m'
theorem dgv_name {vs : List Nat} (i : Nat) (hi : i ∈ vs) {x : Str} {d : D} {Q : Sl → Sto → Prop} (hN : C.N[i]? = some x) (hx : Loc C.sc x) (q : Q (δ.set i (some d)) m) (hf : C.fn x = true ∨ C.sc.names.lookup x = some .local := by first | exact .inl rfl | exact .inr rfl | assumption) : DGv C vs (.Name x pos) d δ m Q :=
  fun X S f v σ H T le sl t hh => WG.of (pg_name f.nd (i := i) (by rw [f.N]; exact hN) (f.loc hx) (f.fnl hf)) ⟨wipe_set hi, _, m, T, Le.refl T, sl.set t, hh, q⟩
def DGsv (C : Ct) (vs : List Nat) (ts : List Expr) (ds : List D) (δ : Sl) (m : Sto) (Q : Sl → Sto → Prop) : Prop :=
  ∀ (X : Cx) (S : Fr), Fits C X → ∀ (us : List V) (σ : L2.St) (H : Hp) (T : RT), us.length = ds.length → Le S.t T → SlotsIn σ δ T → Hd C.K S.r H m (PlL T us ds) → WGs X ts us σ H fun σ' H' => wipe σ' vs = wipe σ vs ∧ ∃ δ' m' T', Le T T' ∧ SlotsIn σ' δ' T' ∧ Hd C.K S.r H' m' T' ∧ Q δ' m'
theorem dgsv_nil {vs : List Nat} {Q : Sl → Sto → Prop} (q : Q δ m) : DGsv C vs [] [] δ m Q := fun X S f us σ H T hl le sl hh pins s ws I r => pgs_nil.run pins s σ H us ws _ I r ⟨List.length_eq_zero_iff.mp hl, rfl, δ, m, T, Le.refl T, sl, hh.le PlL.le, q⟩
theorem dgsv_cons {vs : List Nat} {d : D} {ds : List D} {Q : Sl → Sto → Prop} (h : DGv C vs e d δ m fun δ1 m1 => DGsv C vs es ds δ1 m1 Q) (hs : ∀ env, (assignEach (e :: es) env).map (·.2) = assign e env :: (assignEach es env).map (·.2) := by intro _; rfl) : DGsv C vs (e :: es) (d :: ds) δ m Q := by
  intro X S f us σ H T hl le sl hh pins s ws I r
  match us, hl with
  | v :: us, hl =>
    refine (pgs_cons wg wgs (hs _)).run pins s σ H (v :: us) ws _ I r ⟨v, us, rfl, ?_⟩
    have lt : Le T (PlL T (v :: us) (d :: ds)) := PlL.le
    refine (h X S f v σ H _ (le.trans lt) (sl.le lt) (PlL.at (i := 0) rfl rfl) hh).mono fun σ1 H1 ⟨w1, δ1, m1, T1, le1, sl1, h1, q⟩ => ?_
    have l2 : us.length = ds.length := by simpa using hl
    have hq := q X S f us σ1 H1 T1 l2 (le.trans (lt.trans le1)) sl1 (h1.le fun x y z => z.elim id fun z => le1 x y (.inr (by rw [List.zip_cons_cons]; exact List.mem_cons_of_mem _ z)))
    exact fun pins s us I r => thn (hq pins s us I r) fun _ _ ⟨σ', H', I', w', δ', m', T', le', sl', hh', q'⟩ => ⟨σ', H', I', w'.trans w1, δ', m', T', lt.trans (le1.trans le'), sl', hh', q'⟩
theorem dgv_tup {vs : List Nat} {k : Nat} {ds : List D} {Q : Sl → Sto → Prop} (hl : ds.length = es.length) (h : DGsv C vs es ds δ m Q) (hn : ∀ env, (assignEach es env).length = es.length := by intro _; rfl) (hst : ∀ env, (assignEach es env).findIdx? (·.1) = none := by intro _; rfl) (hcm : C.cm = true := by rfl) : DGv C vs (.Tuple es k pos) (.tup ds) δ m Q := by
  intro X S f v σ H T le sl t hh
  obtain ⟨p, xs, rfl, hq, hl2, h4⟩ := hh.items t
  refine WG.of (pg_tup (f.calm hcm) wgs (n := es.length) (hn _) (hst _)) ⟨p, xs, rfl, by rw [f.K]; exact hq, by rw [hl2, hl], ?_⟩
  exact h X S f xs σ H T hl2 le sl h4
/-- the tests of a clause -/
def WTs (X : Cx) (ifs : List Expr) : TT := fun σ H Q => ∀ (pins : List (Addr × Obj)) (s : Shared), Inv X pins σ H s → wpAny (model X.prog X.w) X.A (forIn ifs true fun c r => if r = true then do let ok ← isTrue c X.env (eval c X.env); pure (ForInStep.yield ok) else pure (ForInStep.yield r)) (TP X pins σ Q) X.xe s
theorem WTs.mono {X : Cx} {ifs : List Expr} {σ : L2.St} {H : Hp} {Q Q' : Bool → Hp → Prop} (h : WTs X ifs σ H Q) (k : ∀ v H', Q v H' → Q' v H') : WTs X ifs σ H Q' := fun pins s I => thn (h pins s I) fun b _ ⟨H', I', q⟩ => ⟨H', I', k b H' q⟩
theorem wts {X : Cx} {ifs : List Expr} : PTs X ifs (WTs X ifs) := ⟨fun pins s _ _ _ I h => h pins s I⟩
def DTs (C : Ct) (W : DW) (ifs : List Expr) (δ : Sl) (m : Sto) (Q : Bool → Sto → Prop) : Prop :=
  ∀ (X : Cx) (S : Fr), Fits C X → Takes X (liftW C.K W S) → ∀ (σ : L2.St) (H : Hp) (T : RT), Le S.t T → SlotsIn σ δ T → Hd C.K S.r H m T → WTs X ifs σ H fun b H' => ∃ m', Hd C.K S.r H' m' T ∧ Q b m'
theorem dts_nil {Q : Bool → Sto → Prop} (q : Q true m) : DTs C W [] δ m Q := fun X S f tk σ H T le sl hh pins s I => pts_nil.run pins s σ H _ I ⟨m, hh, q⟩
theorem dts_one {Q : Bool → Sto → Prop} (h : DT C W c δ m Q) : DTs C W [c] δ m Q := fun X S f tk σ H T le sl hh pins s I => (pts_one wt).run pins s σ H _ I (h X S f tk σ H T le sl hh)
def sone (a : Addr) (o : O) : Sto := fun b => if b = a then some o else none
theorem sun_one {m : Sto} {p : Addr} {o : O} (h : m p = none) : sun m (sone p o) = sput m p o := by
  funext x
  by_cases e : x = p
  · subst e
    rw [sun_r h, sput_same]
    exact if_pos rfl
  · rw [sput_ne e]
    cases q : m x with
    | none => rw [sun_r q]; exact if_neg e
    | some u => rw [sun_l q]
theorem sdj_one {m : Sto} {p : Addr} {o : O} (h : m p = none) : sdj m (sone p o) := fun a u e => by
  refine if_neg fun z => ?_
  subst z
  rw [h] at e; cases e
theorem sput_del {m : Sto} {p : Addr} {o : O} : sdel (sput m p o) p = sdel m p := by
  funext x
  unfold sdel sput
  split <;> rfl
theorem sput_back {m : Sto} {p : Addr} {o : O} (h : m p = some o) : sput (sdel m p) p o = m := by
  funext x
  by_cases e : x = p
  · subst e; rw [sput_same, h]
  · rw [sput_ne e, sdel_ne e]

/-- the readings of a block, the widest -/
def rdE (X : Cx) (scope : Scope) (elt : Expr) : TE := fun σ H Q => ∀ (s : Shared) (H0 : Hp) (c : Addr) (cl : List (Str × Addr)) (fp : List Addr), WE (X.blk s H0 scope (compEnvC scope cl c X.env) fp) elt σ H Q
def rdT (X : Cx) (scope : Scope) (ifs : List Expr) : TT := fun σ H Q => ∀ (s : Shared) (H0 : Hp) (c : Addr) (cl : List (Str × Addr)) (fp : List Addr), WTs (X.blk s H0 scope (compEnvC scope cl c X.env) fp) ifs σ H Q
def rdG (X : Cx) (scope : Scope) (tg : Expr) : TG := fun v σ H Q => ∀ (s : Shared) (H0 : Hp) (c : Addr) (cl : List (Str × Addr)) (fp : List Addr), WG (X.blk s H0 scope (compEnvC scope cl c X.env) fp) tg v σ H Q
/-- what a list comprehension is to show: I of the turn, what is made so far, the store -/
def LcI (C : Ct) (W : DW) (elt tg iter : Expr) (ifs : List Expr) (scope : Scope) (own : List (Str × Nat)) (δ : Sl) (m : Sto) (Q : D → Sto → Prop) : Prop :=
  DI C W tg iter δ m fun ds m1 => ∃ I : Nat → List D → Sto → Prop, I 0 [] m1 ∧ (∀ (i : Nat) (d : D) (acc : List D) (m' : Sto), ds[i]? = some d → I i acc m' →
      DGv (C.blk scope) (own.map (·.2)) tg d (wipeS δ (own.map (·.2))) m' fun δ2 m2 => DTs (C.blk scope) W0 ifs δ2 m2 fun k m3 => br k (DE (C.blk scope) W0 elt δ2 m3 fun y m4 => acc.length < sizeLine ∧ I (i + 1) (acc ++ [y]) m4) (I (i + 1) acc m3)) ∧
      ∀ acc m', I ds.length acc m' → Q (.lst acc) m'
theorem lc_read {elt tg iter : Expr} {ifs : List Expr} {scope : Scope} {own : List (Str × Nat)} {Q : D → Sto → Prop} (h : LcI C W elt tg iter ifs scope own δ m Q)
    {X : Cx} {S : Fr} (f : Fits C X) (tk : Takes X (liftW C.K W S)) {σ : L2.St} {H : Hp} {T : RT} (le : Le S.t T) (sl : SlotsIn σ δ T) (hh : Hd C.K S.r H m T) {Qv : VK} (fin : ∀ p H' acc m' T', Le T T' → m' p = none → Hd C.K S.r H' (sput m' p (.lst acc)) T' → Q (.lst acc) m' → Qv (.ref p) H') :
    tLc (WI X tg iter) (rdG X scope tg) (rdT X scope ifs) (rdE X scope elt) (own.map (·.2)) σ H Qv := by
  refine WI.mono (h X S f tk σ H T le sl hh) fun J H1 ⟨ds, m1, T1, le1, h1, wk, I, i0, istep, iend⟩ Dp hD => ?_
  have hm1 := h1.free hD
  have h0 : Hd C.K S.r (upd H1 Dp (.lst [])) (sput m1 Dp (.lst [])) (Pl T1 (.ref Dp) (.ref Dp)) := h1.newM (o := .lst []) hD fun _ _ => RepL.nil
  show ∃ W : Nat → Nat → Hp → Prop, _
  refine Exists.intro (fun (i n : Nat) (H' : Hp) => n = ds.length - i ∧ i ≤ ds.length ∧ ∃ (acc : List D) (m' : Sto) (T' : RT), Le T1 T' ∧ m' Dp = none ∧ Hd C.K S.r H' (sput m' Dp (.lst acc)) T' ∧ I i acc m') (And.intro (Exists.intro ds.length ?_) ?_)
  · exact ⟨rfl, Nat.zero_le _, [], m1, _, Pl.le, hm1, h0, i0⟩
  rintro i n H' ⟨rfl, hi, acc, m', T', le', hm', hh', ih⟩
  have drop : Hd C.K S.r H' (sput m' Dp (.lst acc)) T' → Hd C.K (sun (sone Dp (.lst acc)) S.r) H' m' T' := fun z => by
    rw [← sun_one hm'] at z
    exact z.push (sdj_one hm')
  by_cases hlt : i < ds.length
  · refine .inr ⟨wk.go i S.r H' _ T' hlt le' hh', fun H2 => i + 1 ≤ ds.length ∧ ∃ acc m' T', Le T1 T' ∧ m' Dp = none ∧ Hd C.K S.r H2 (sput m' Dp (.lst acc)) T' ∧ I (i + 1) acc m', fun H2 ⟨u, v⟩ => ⟨ds.length - (i + 1), by omega, rfl, u, v⟩, fun x H2 y => ?_⟩
    have hd := List.getElem?_eq_getElem hlt
    have h2 := drop hh'
    have h2 : Hd C.K (sun (sone Dp (.lst acc)) S.r) H2 m' (Pl T' x _) := wk.yld i _ H' H2 m' T' x _ hd le' h2 y
    have dj1 : sdj (sone Dp (.lst acc)) S.r := fun b u eb => by
      unfold sone at eb
      split at eb
      · rename_i e
        subst e
        exact hh'.1 b _ sput_same
      · cases eb
    have slw := (sl.le (le1.trans le')).wipe (own.map (·.2))
    have st := istep i _ acc m' hd ih
    have leS : Le S.t (Pl T' x ds[i]) := le.trans (le1.trans (le'.trans Pl.le))
    -- behind the element, or behind the test alone
    intro s H0 cc cl fp
    have fb : Fits (C.blk scope) (X.blk s H0 scope (compEnvC scope cl cc X.env) fp) := f.blk
    refine WG.mono (st (X.blk s H0 scope (compEnvC scope cl cc X.env) fp) ⟨S.t, sun (sone Dp (.lst acc)) S.r⟩ fb x (wipe σ (own.map (·.2))) H2 _ leS (slw.le Pl.le) Pl.it h2) ?_
    rintro σ3 H3 ⟨w3, δ3, m3, T3, le3, sl3, h3, q3⟩
    refine ⟨w3.trans wipe_idem, ?_⟩
    intro s' H0' cc' cl' fp'
    have fb' : Fits (C.blk scope) (X.blk s' H0' scope (compEnvC scope cl' cc' X.env) fp') := f.blk
    refine WTs.mono (q3 (X.blk s' H0' scope (compEnvC scope cl' cc' X.env) fp') ⟨S.t, sun (sone Dp (.lst acc)) S.r⟩ fb' takes_W0 σ3 H3 T3 (leS.trans le3) sl3 h3) fun k H4 ⟨m4, h4, q4⟩ => ?_
    cases k with
    | true =>
      rw [if_pos rfl]
      intro s'' H0'' cc'' cl'' fp''
      have fb'' : Fits (C.blk scope) (X.blk s'' H0'' scope (compEnvC scope cl'' cc'' X.env) fp'') := f.blk
      refine (q4.1 rfl (X.blk s'' H0'' scope (compEnvC scope cl'' cc'' X.env) fp'') ⟨S.t, sun (sone Dp (.lst acc)) S.r⟩ fb'' takes_W0 σ3 H4 T3 (leS.trans le3) sl3 h4).mono fun yv H5 ⟨y, m5, h5, hz, q5⟩ => ?_
      obtain ⟨dj5, h6⟩ := Hd.pop h5 dj1
      have hm5 : m5 Dp = none := dj5.sym Dp _ (if_pos rfl)
      rw [sun_one hm5] at h6
      obtain ⟨xs, hx, hl, _⟩ := h6.itemsO sput_same
      refine ⟨xs, hx, by rw [hl]; exact hz, hlt, acc ++ [y], m5, Pl T3 yv y, le'.trans (Pl.le.trans (le3.trans Pl.le)), hm5, ?_, q5⟩
      have h7 := h6.mut (u' := .lst (xs ++ [yv])) (o' := .lst (acc ++ [y])) sput_same hx fun Hi r kk => RepL.snoc r (kk yv y Pl.it)
      rw [sput_sput] at h7
      exact h7
    | false =>
      rw [if_neg Bool.false_ne_true]
      obtain ⟨dj4, h6⟩ := Hd.pop h4 dj1
      have hm4 : m4 Dp = none := dj4.sym Dp _ (if_pos rfl)
      rw [sun_one hm4] at h6
      exact ⟨hlt, acc, m4, T3, le'.trans (Pl.le.trans le3), hm4, h6, q4.2 rfl⟩
  · have ei : i = ds.length := by omega
    subst ei
    exact .inl ⟨wk.stop _ S.r H' _ T' (Nat.le_refl _) le' hh', fin _ _ _ _ _ (le1.trans le') hm' hh' (iend acc m' ih)⟩
theorem lc_frozen {K : PySem.W.Frag} {r : Sto} {H' : Hp} {p : Addr} {acc : List D} {m' : Sto} {T T' : RT} (l : Le T T') (hm : m' p = none) (hd : Hd K r H' (sput m' p (.lst acc)) T') : Hd K r H' m' (Pl T (.ref p) (.lst acc)) := by
  have h8 := hd.freezeL sput_same
  rw [sdel_new hm] at h8
  exact h8.le (Pl.mono l)
/-- [elt for tg in iter if ..] -/
theorem de_lc {elt tg iter : Expr} {ifs : List Expr} {scope : Scope} (own : List (Str × Nat)) {Q : D → Sto → Prop} (ok : blkC C.N C.sc scope own = true)
    (h : LcI C W elt tg iter ifs scope own δ m Q) (hs : ∀ env x, foldedSetIterable iter env x = pure x := by intro _ _; rfl) (hcm : C.cm = true := by rfl) : DE C W (.ListComp elt [⟨tg, iter, ifs, 0⟩] scope pos) δ m Q := by
  intro X S f tk σ H T le sl hh
  have okB : BlkOk X.N X.env.scope scope own := by rw [f.N, f.sc]; exact blkOk_by ok
  exact WE.of (pe_lc (te := rdE X scope elt) (tt := rdT X scope ifs) (g := rdG X scope tg) (f.calm hcm) f.nd wi okB (fun s H c cl fp => ⟨fun pins t σ H v u Q I r q => q s _ c cl fp pins t u I r⟩) (fun s H c cl fp => ⟨fun pins t σ H Q I q => q s _ c cl fp pins t I⟩) (fun s H c cl fp => ⟨fun pins t σ H Q I q => q s _ c cl fp pins t I⟩) (hs _))
    (lc_read h f tk le sl hh fun p H' acc m' T' l hm hd q => ⟨.lst acc, m', lc_frozen l hm hd, q⟩)
/-- name = [..], the name a local that is no cell -/
theorem ds_setLc {D : DEn} (j : Nat) {y : Str} {py : Pos} {elt tg iter : Expr} {ifs : List Expr} {scope : Scope} (own : List (Str × Nat)) (ok : blkC C.N C.sc scope own = true) (hN : C.N[j]? = some y) (hy : C.sc.names.lookup y = some .local)
    (hl : (py.line == pos.line) = true) (hna : (scope.names.any fun (n, k) => n == y && (k == .local || k == .cell)) = false)
    (h : LcI C W elt tg iter ifs scope own δ m fun d m1 => D.nx (δ.set j (some d)) m1) (hs : ∀ env x, foldedSetIterable iter env x = pure x := by intro _ _; rfl) (hk : C.sc.kind = .function := by rfl) (hcm : C.cm = true := by rfl) :
    DS C W (.Assign [.Name y py] (.ListComp elt [⟨tg, iter, ifs, 0⟩] scope pos) pos') δ m D := by
  intro X S f tk σ H T le sl hh
  have okB : BlkOk X.N X.env.scope scope own := by rw [f.N, f.sc]; exact blkOk_by ok
  have hyl : X.env.scope.names.lookup y = some .local := by rw [f.sc]; exact hy
  refine WS.of (ps_setLc (te := rdE X scope elt) (tt := rdT X scope ifs) (g := rdG X scope tg) (f.calm hcm) f.nd (i := j) (by rw [f.N]; exact hN) hyl (sw_true (by rw [f.sc]; exact hk) hyl hl hna) wi okB (fun s H c cl fp => ⟨fun pins t σ H v u Q I r q => q s _ c cl fp pins t u I r⟩) (fun s H c cl fp => ⟨fun pins t σ H Q I q => q s _ c cl fp pins t I⟩) (fun s H c cl fp => ⟨fun pins t σ H Q I q => q s _ c cl fp pins t I⟩) (hs _)) ?_
  exact lc_read h f tk le sl hh fun p H' acc m' T' l hm hd q => ⟨_, m', _, le.trans Pl.le, (sl.le Pl.le).set Pl.it, lc_frozen l hm hd, q⟩
end
end G

/-! The data layer's rules: defs and their calls; the law's own end. -/
namespace G
open PySem PySem.Spec PyProof.Rows L2

/-- what a def does, by data: arguments, store, what is wanted of its value, of its exception -/
abbrev DF := List D → Sto → (D → Sto → Prop) → (Value → List (Str × D) → Sto → Prop) → Prop
def spD (K : PySem.W.Frag) (F : DF) : Sp := fun vs H Q E => ∃ ds m T r Qd Ed, vs.length = ds.length ∧ Hd K r H m (PlL T vs ds) ∧ F ds m Qd Ed ∧ (∀ d m', Qd d m' → ∀ v H', Hd K r H' m' (Pl T v d) → Q v H') ∧
  ∀ cls fs m', Ed cls fs m' → ∀ dd H' T', Le T T' → Hd K r H' m' T' → ExcD H' T' dd fs → E cls dd H'
def startD (N : List Str) (ds : List D) : Sl := ds.map some ++ List.replicate (N.length - ds.length) none
theorem startD_in {N : List Str} {vs : List V} {ds : List D} {T : RT} (hl : vs.length = ds.length) : SlotsIn (L2.start N vs) (startD N ds) (PlL T vs ds) := by
  refine ⟨by simp [L2.start, startD, hl], fun i d h => ?_⟩
  unfold startD at h
  have hi : i < ds.length := by
    by_cases hi : i < ds.length
    · exact hi
    · rw [List.getElem?_append_right (by simpa using hi), List.getElem?_replicate] at h
      split at h <;> cases h
  rw [List.getElem?_append_left (by simpa using hi), List.getElem?_map, List.getElem?_eq_getElem hi] at h
  have e : ds[i] = d := by simpa using h
  have hv : i < vs.length := by omega
  refine ⟨vs[i], ?_, PlL.at (i := i) (List.getElem?_eq_getElem hv) (by rw [List.getElem?_eq_getElem hi, e])⟩
  unfold L2.start
  rw [List.getElem?_append_left (by simpa using hv), List.getElem?_map, List.getElem?_eq_getElem hv]
  rfl
theorem _root_.L2.Room.un200 {k : Nat} {A : Around} (r : Room k A) : A.units + 200 < cLine := by
  have := r.un
  omega
/-- the context of a def's body -/
def ctOf (P : Program) (w : World) (K : PySem.W.Frag) (mg : Str → Option Value) (base : Heap) (N : List Str) (sc : Scope) (k : Nat) : Ct := ⟨P, w, K, mg, base, N, sc, fun _ => true, k, true, true, none⟩
section
variable {P : Program} {w : World} {K : PySem.W.Frag} {mg : Str → Option Value} {base : Heap} {x qual : Str} {params : Arguments} {body : List Stmt} {scope : Scope} {dvs : List V} {kws : List (Str × V)} {f : Addr} {fd : FuncData}
/-- THE RULE for a def -/
theorem def_ok {N ps : List Str} {k : Nat} {F : DF} (Fn : FunD K x qual params body scope dvs kws f fd) (S : FnScope N ps scope) (len : ∀ ds m Q E, F ds m Q E → ds.length = ps.length)
    (hbody : ∀ ds m Q E, F ds m Q E → DSs (ctOf P w K mg base N scope k) (fun cls fs _ m' => E cls fs m') body (startD N ds) m { nx := fun _ m' => Q .non m', rt := Q }) : FnOk P w K mg base (L2.CX P w) (k + 1) f fd ps (spD K F) := by
  refine Fn.ok S (fun vs H Q E h => ?_) fun cdv A outer s H vs Q E hr h => ?_
  · obtain ⟨ds, m, T, r, Qd, Ed, hl, _, hF, _⟩ := h
    rw [hl]
    exact len _ _ _ _ hF
  · obtain ⟨ds, m, T, r, Qd, Ed, hl, hh, hF, hq, he⟩ := h
    have fit : Fits (ctOf P w K mg base N scope k) (cxOf (L2.CX P w) P w K mg base N qual scope f cdv A outer s H E) := ⟨rfl, rfl, rfl, rfl, rfl, rfl, rfl, fun _ _ => rfl, S.nd, hr.un200, fun _ => hr, fun _ => rfl, passes_of rfl, fun _ => ⟨rfl, rfl⟩, fun _ _ e => nomatch e⟩
    have tk0 : Takes (cxOf (L2.CX P w) P w K mg base N qual scope f cdv A outer s H E) (fun cls d _ H => E cls d H) := takes_of rfl rfl rfl rfl
    refine ⟨_, wss, ?_⟩
    refine WSs.mono (hbody ds m Qd Ed hF _ ⟨T, r⟩ fit (tk0.imp ?_) (L2.start N vs) H _ PlL.le (startD_in hl) hh) ?_ ?_ ?_ ?_
    · rintro cls d σ H' ⟨δ', m', T', fs, le', sl', hh', xd, w'⟩
      exact he cls fs m' w' d H' T' le' hh' xd
    · rintro σ H' ⟨δ', m', T', le', sl', hh', q⟩
      exact hq .non m' q .non H' ((hh'.le le').pl fun _ _ => .non)
    · rintro v H' ⟨d, m', hh', q⟩
      exact hq d m' q v H' hh'
    · rintro σ H' ⟨_, _, _, _, _, _, z⟩
      exact z
    · rintro σ H' ⟨_, _, _, _, _, _, z⟩
      exact z
/-- what a caller knows of the def x -/
structure Kn (P : Program) (w : World) (K : PySem.W.Frag) (mg : Str → Option Value) (base : Heap) (x : Str) (k : Nat) (F : DF) : Prop where
  ex : ∃ f fd ps, FnOk P w K mg base (L2.CX P w) k f fd ps (spD K F) ∧ mg x = some (.ref f) ∧ PySem.W.keepIn K (.ref f) = true ∧ Binds K fd ps []
end
section
variable {C : Ct} {W : DW} {δ : Sl} {m : Sto} {a b c e : Expr} {es : List Expr} {pos pos' : Pos} {Q : D → Sto → Prop}
theorem spD_at {X : Cx} {S : Fr} {σ : L2.St} {H1 : Hp} {m1 : Sto} {T : RT} {vs : List V} {ds : List D} {F : DF} (le : Le S.t T) (sl : SlotsIn σ δ T) (hl : vs.length = ds.length) (h1 : Hd C.K S.r H1 m1 (PlL T vs ds)) (q : F ds m1 Q fun cls fs m' => W cls fs δ m') :
    spD C.K F vs H1 (fun v H' => ∃ d m', Hd C.K S.r H' m' (Pl T v d) ∧ Q d m') (L2.WE (liftW C.K W S) σ) :=
  ⟨ds, m1, T, S.r, Q, _, hl, h1, q, fun d m' q' v H' h' => ⟨d, m', h', q'⟩, fun cls fs m' w' dd H' T' l' h' xd => ⟨δ, m', T', fs, le.trans l', sl.le l', h', xd, w'⟩⟩
theorem de_call {x : Str} {p : Pos} {k : Nat} {F : DF} (kn : Kn C.P C.w C.K C.mg C.base x k F) (hk : Nat.ble k C.k = true) (hg : GlC C x) (h : DA C W (e :: es) δ m fun ds m1 => F ds m1 Q fun cls fs m' => W cls fs δ m') (hdb : (x == ("__debug__" : Str)) = false := by decide) (hcm : C.cm = true := by rfl)
    (he : ∀ env, starEach (e :: es) env = (false, eval e env) :: starEach es env := by intro _; rfl) (hpl : ∀ env, (backTo pos (starEach es env)).any (·.1) = false := by intro _; rfl) : DE C W (.Call (.Name x p) (e :: es) [] pos) δ m Q := by
  intro X S fX tk σ H T le sl hh pins s I
  obtain ⟨f, fd, ps, ok, hm, kp, hb⟩ := kn.ex
  rw [← fX.prog, ← fX.w, ← fX.K, ← fX.mg, ← fX.base] at ok
  rw [← fX.K] at kp hb
  refine wpAny_Call_Name_kw (ld_glob I (fX.gl hg) (by rw [fX.mg]; exact hm) ?_ hdb)
  refine PySem.W.callWith_K (h₀ := X.base) I.ok.mod.kin kp (thn (h X S fX tk σ H T le sl hh pos pins s I) fun us s1 ⟨vs, H1, I1, r, ds, m1, hl, h1, q⟩ => ⟨I1.kIn, ?_⟩) (he _) (hpl _)
  refine run_fnS (E := L2.WE (liftW C.K W S)) (ok.mono (Nat.le_of_ble_eq_true hk)) (fX.room hcm) hb (passAt tk σ) I1 r ?_
  have z := spD_at (X := X) (S := S) (σ := σ) (Q := Q) (W := W) (δ := δ) le sl hl h1 q
  rw [← fX.K] at z ⊢
  exact z
end
/-! ### the end -/
theorem hd_begin {K : PySem.W.Frag} {H : Hp} {T : RT} (hT : ∀ v d, T v d → Rep K H v d) : Hd K (fun _ => none) H (fun _ => none) T :=
  ⟨(fun _ _ e => nomatch e), H, (fun _ _ h => h), (fun _ _ e => nomatch e), hT⟩
theorem repL_ints {K : PySem.W.Frag} {H : Hp} : ∀ ns : List Int, RepL K H (ns.map V.int) (ns.map D.int)
  | [] => .nil
  | n :: ns => .cons (.int n) (repL_ints ns)
/-- the law's def: over every list of ints it hands back True -/
def FLaw : DF := fun ds m Q _ => ∃ ns : List Int, ds = [.frz (ns.map D.int)] ∧ ns.length ≤ 63 ∧ (∀ a, m a = none) ∧ ∀ m', Q (.bl true) m'
theorem law_sp {K : PySem.W.Frag} {H : Hp} {a : Addr} {ns : List Int} (hl : ns.length ≤ 63) (h : SqL K H a (ns.map V.int)) : spD K FLaw [.ref a] H (fun v _ => v = .bl true) fun _ _ _ => False := by
  refine ⟨[.frz (ns.map D.int)], fun _ => none, fun _ _ => False, fun _ => none, fun d _ => d = .bl true, fun _ _ _ => False, rfl, hd_begin fun v d z => ?_, ⟨ns, rfl, hl, fun _ => rfl, fun _ => rfl⟩, fun d m' e v H' h' => ?_, fun _ _ _ z => z.elim⟩
  · rcases z with z | z
    · exact z.elim
    · simp only [List.zip_cons_cons, List.zip_nil_left, List.mem_singleton, Prod.mk.injEq] at z
      obtain ⟨rfl, rfl⟩ := z
      exact .frz h (repL_ints ns)
  · subst e
    exact h'.isbl
theorem cx_never {P : Program} {w : World} {H : Hp} {s : Shared} {e : Value} {s' : Shared} (h : L2.CX P w [] H s (fun _ _ _ => False) e s') : False := by
  obtain ⟨_, _, _, _, _, _, _, _, _, _, _, _, z⟩ := h
  exact z
end G

/-! The data layer: more rules; short lemmas for the walk. -/
namespace G
open PySem PySem.Spec PyProof.Rows L2

section
variable {C : Ct} {W : DW} {δ : Sl} {m : Sto} {a b c e : Expr} {es : List Expr} {pos pos' : Pos} {Q : D → Sto → Prop}
/-! ### in, not in -/
def inD (neg : Bool) : R2D := fun d e m Q => ∃ n l, n ≤ 58 ∧ e = .lst l ∧ okD n d = true ∧ okDL n l = true ∧ Q (.bl (if neg then !l.any fun z => eqvD z d else l.any fun z => eqvD z d)) m
theorem any_toPy (d : D) : ∀ l : List D, ((toPyL l).any fun z => PyData.eqv z (toPy d)) = l.any fun z => eqvD z d
  | [] => rfl
  | x :: l => by
    show (PyData.eqv (toPy x) (toPy d) || (toPyL l).any fun z => PyData.eqv z (toPy d)) = (eqvD x d || l.any fun z => eqvD z d)
    rw [any_toPy d l]
    rfl
theorem units65 {C : Ct} {X : Cx} (f : Fits C X) : X.A.units + 65 < cLine := by have := f.un; omega
theorem od_in : OpD C (compareOp .In) (inD false) := by
  rintro X f fr H m T x y d e Q hh tx ty ⟨n, l, hn, rfl, o1, o2, q⟩
  have o3 : okD (n + 1) (.lst l) = true := by simpa [okD] using o2
  have dp := (hh.rep ty).dp (n + 1) o3
  refine wb_of (op_inD (units65 f)) ⟨toPy d, toPyL l, by rw [f.K]; exact (hh.rep tx).dp n o1, by rw [f.K]; simpa [toPy] using dp, okD_shaped o1 (by omega), by simpa [toPy] using okD_shaped o3 (by omega), ?_⟩
  rw [any_toPy]
  exact dk_bl hh q
theorem od_notin : OpD C (compareOp .NotIn) (inD true) := by
  rintro X f fr H m T x y d e Q hh tx ty ⟨n, l, hn, rfl, o1, o2, q⟩
  have o3 : okD (n + 1) (.lst l) = true := by simpa [okD] using o2
  have dp := (hh.rep ty).dp (n + 1) o3
  refine wb_of (op_notInD (units65 f)) ⟨toPy d, toPyL l, by rw [f.K]; exact (hh.rep tx).dp n o1, by rw [f.K]; simpa [toPy] using dp, okD_shaped o1 (by omega), by simpa [toPy] using okD_shaped o3 (by omega), ?_⟩
  rw [any_toPy]
  exact dk_bl hh q
/-! ### isinstance(x, (T1, T2)) -/
theorem de_isi2 {x1 x2 : Str} {p p1 p2 p3 : Pos} {k : Nat} {n1 n2 : String} (hg : GlC C "isinstance") (hm : C.mg "isinstance" = none) (g1 : GlC C x1) (m1 : C.mg x1 = none) (v1 : bootBuiltins x1 = some (.type n1)) (g2 : GlC C x2) (m2 : C.mg x2 = none) (v2 : bootBuiltins x2 = some (.type n2))
    (h : DE C W a δ m fun d m1 => ∃ t k, tyD d = some t ∧ kit2 t n1 n2 = some k ∧ Q (.bl k) m1) (h1 : x1 ≠ "__name__" := by decide) (h2 : x2 ≠ "__name__" := by decide) (d1 : (x1 == ("__debug__" : Str)) = false := by decide) (d2 : (x2 == ("__debug__" : Str)) = false := by decide)
    (he : ∀ env e es, starEach (a :: e :: es) env = (false, eval a env) :: starEach (e :: es) env := by intro _ _ _; rfl) : DE C W (.Call (.Name "isinstance" p) [a, .Tuple [.Name x1 p1, .Name x2 p2] k p3] [] pos) δ m Q := by
  intro X S f tk σ H T le sl hh
  refine WE.of (pe_callB call_isiT (f.gl hg) (by rw [f.mg]; exact hm) (by decide +kernel) (pa_cons we (pa_cons (pe_tup (pa_cons (pe_bltn (v := .ty n1) (f.gl g1) (by rw [f.mg]; exact m1) v1 rfl h1 d1) (pa_cons (pe_bltn (v := .ty n2) (f.gl g2) (by rw [f.mg]; exact m2) v2 rfl h2 d2) pa_nil))) pa_nil) (he _ _ _)) (by decide) (by decide) (he _ _ _)) ?_
  refine (h X S f tk σ H T le sl hh).mono fun v H1 ⟨d, m1, h1, t, k, ht, hk, q⟩ => ?_
  refine ⟨by show 2 ≤ sizeLine; decide, fun tp ht2 => ?_⟩
  have ty := h1.tyX Pl.it ht
  have h3 : Hd C.K S.r (upd H1 tp (.tup [.ty n1, .ty n2])) m1 (Pl (Pl T v d) (.ref tp) (.tup [.ty n1, .ty n2])) := h1.newI ht2 fun Hi hi kk => .tup (SqT.of upd_same) (.cons (.ty n1) (.cons (.ty n2) .nil))
  have ty2 := h3.tyX (.inl Pl.it) ht
  exact ⟨v, tp, [.ty n1, .ty n2], .type t, [.type n1, .type n2], k, rfl, upd_same, .cons (.ty n1) (.cons (.ty n2) .nil), by rw [f.K]; exact ty2, kit2_any hk, dK.le (dk_bl h3 q) (Pl.le.trans Pl.le)⟩
end
end G

/-! The data layer: short lemmas for the walk. -/
namespace G
open PySem PySem.Spec PyProof.Rows L2

theorem bt_len : bootBuiltins "len" = some (.builtin "len") := by decide +kernel
theorem bt_max : bootBuiltins "max" = some (.builtin "max") := by decide +kernel
theorem bt_min : bootBuiltins "min" = some (.builtin "min") := by decide +kernel
theorem bt_all : bootBuiltins "all" = some (.builtin "all") := by decide +kernel
theorem bt_any : bootBuiltins "any" = some (.builtin "any") := by decide +kernel
theorem bt_sum : bootBuiltins "sum" = some (.builtin "sum") := by decide +kernel
theorem bt_sorted : bootBuiltins "sorted" = some (.builtin "sorted") := by decide +kernel
theorem bt_isinstance : bootBuiltins "isinstance" = some (.builtin "isinstance") := by decide +kernel
theorem bt_abs : bootBuiltins "abs" = some (.builtin "abs") := by decide +kernel
theorem bt_repr : bootBuiltins "repr" = some (.builtin "repr") := by decide +kernel
theorem bt_int : bootBuiltins "int" = some (.type "int") := by decide +kernel
theorem bt_str : bootBuiltins "str" = some (.type "str") := by decide +kernel
theorem bt_bool : bootBuiltins "bool" = some (.type "bool") := by decide +kernel
theorem bt_list : bootBuiltins "list" = some (.type "list") := by decide +kernel
theorem bt_tuple : bootBuiltins "tuple" = some (.type "tuple") := by decide +kernel
theorem bt_dict : bootBuiltins "dict" = some (.type "dict") := by decide +kernel
theorem bt_set : bootBuiltins "set" = some (.type "set") := by decide +kernel
theorem bt_range : bootBuiltins "range" = some (.type "range") := by decide +kernel

section
variable {C : Ct} {W : DW} {δ : Sl} {m : Sto} {a b c e : Expr} {pos pos' p2 : Pos} {Q : D → Sto → Prop} {B : Bool → Sto → Prop}
theorem lt_lit {a b : Nat} (h : Nat.ble (a + 1) b = true) : a < b := Nat.le_of_ble_eq_true h
/-! ### operators on known data -/
theorem add_ii {i j : Int} (q : Q (.int (i + j)) m) : addD (.int i) (.int j) m Q := q
theorem add_ib {i : Int} {k : Bool} (q : Q (.int (i + b2i k)) m) : addD (.int i) (.bl k) m Q := q
theorem add_ss {x y : Str} (h : x.length + y.length ≤ sizeLine) (q : Q (.str (x ++ y)) m) : addD (.str x) (.str y) m Q := ⟨h, q⟩
theorem add_tt {x y : List D} (h : x.length + y.length ≤ sizeLine) (q : Q (.tup (x ++ y)) m) : addD (.tup x) (.tup y) m Q := ⟨h, q⟩
theorem add_ll {x y : List D} (h : x.length + y.length ≤ sizeLine) (q : Q (.lst (x ++ y)) m) : addD (.lst x) (.lst y) m Q := ⟨h, q⟩
theorem sub_ii {i j : Int} (q : Q (.int (i - j)) m) : subD (.int i) (.int j) m Q := q
theorem mul_ii {i j : Int} (h : CMul i j) (q : Q (.int (i * j)) m) : mulD (.int i) (.int j) m Q := ⟨h, q⟩
theorem div_ii {i j : Int} (h : CDiv i j) (q : Q (.int (i / j)) m) : divD (.int i) (.int j) m Q := ⟨h, q⟩
theorem mod_ii {i j : Int} (h : 0 < j) (q : Q (.int (i % j)) m) : modD (.int i) (.int j) m Q := ⟨h, q⟩
theorem pow_ii {i j : Int} (h : CPow i j) (q : Q (.int (i ^ j.toNat)) m) : powD (.int i) (.int j) m Q := ⟨h, q⟩
theorem cmp_ii {p : Int → Int → Bool} {i j : Int} (q : Q (.bl (p i j)) m) : cmpI p (.int i) (.int j) m Q := q
theorem is_n {d : D} (q : Q (.bl (isN d)) m) : isD d .non m Q := ⟨rfl, q⟩
theorem isnt_n {d : D} (q : Q (.bl (!isN d)) m) : isntD d .non m Q := ⟨rfl, q⟩
theorem isN_non : isN .non = true := rfl
theorem ix_of (k : Nat) {ds : List D} {d : D} (h : ds[k]? = some d) : atI ds ((k : Nat) : Int) = some d := atI_nat h
theorem ixT (k : Nat) {ds : List D} {d : D} (h : ds[k]? = some d) (q : Q d m) : ixD (.tup ds) (.int (k : Int)) m Q := ⟨d, atI_nat h, q⟩
theorem ixL (k : Nat) {ds : List D} {d : D} (h : ds[k]? = some d) (q : Q d m) : ixD (.lst ds) (.int (k : Int)) m Q := ⟨d, atI_nat h, q⟩
theorem ixF (k : Nat) {ds : List D} {d : D} (h : ds[k]? = some d) (q : Q d m) : ixD (.frz ds) (.int (k : Int)) m Q := ⟨d, atI_nat h, q⟩
theorem ixO (k : Nat) {p : Addr} {ds : List D} {d : D} (hm : m p = some (.lst ds)) (h : ds[k]? = some d) (q : Q d m) : ixD (.ref p) (.int (k : Int)) m Q := ⟨ds, d, hm, atI_nat h, q⟩
/-- at an open place -/
theorem ixTi {ds : List D} {i : Int} {d : D} (h0 : 0 ≤ i) (h : ds[i.toNat]? = some d) (q : Q d m) : ixD (.tup ds) (.int i) m Q := ⟨d, by
  obtain ⟨k, rfl⟩ : ∃ k : Nat, i = k := ⟨i.toNat, by omega⟩
  exact atI_nat (by simpa using h), q⟩
theorem ixLi {ds : List D} {i : Int} {d : D} (h0 : 0 ≤ i) (h : ds[i.toNat]? = some d) (q : Q d m) : ixD (.lst ds) (.int i) m Q := ⟨d, by
  obtain ⟨k, rfl⟩ : ∃ k : Nat, i = k := ⟨i.toNat, by omega⟩
  exact atI_nat (by simpa using h), q⟩
theorem atI_neg {α : Type} {xs : List α} {v : α} (h : xs.getLast? = some v) : atI xs (-1) = some v := by
  obtain ⟨ys, e⟩ := List.getLast?_eq_some_iff.mp h
  rw [e]
  exact atI_last _ _
theorem ixLn {ds : List D} {d : D} (h : ds.getLast? = some d) (q : Q d m) : ixD (.lst ds) (.int (-1)) m Q := ⟨d, atI_neg h, q⟩
theorem set_at (j : Nat) {p : Addr} {ds : List D} {d : D} {k : Sto → Prop} (hm : m p = some (.lst ds)) (hj : j < ds.length) (q : k (sput m p (.lst (ds.set j d)))) : setD (.ref p) (.int (j : Int)) d m k :=
  ⟨p, ds, j, j, rfl, rfl, hm, by
    unfold ixN
    rw [if_pos (by omega), if_pos (by omega)]
    simp, q⟩
theorem set_sput (j : Nat) {p : Addr} {ds : List D} {d : D} {k : Sto → Prop} (hj : j < ds.length) (q : k (sput m p (.lst (ds.set j d)))) : setD (.ref p) (.int (j : Int)) d (sput m p (.lst ds)) k :=
  set_at j sput_same hj (by rw [sput_sput]; exact q)
/-! ### negation, chains -/
theorem de_neg (h : DE C W a δ m fun d m1 => ∃ i, d = .int i ∧ Q (.int (-i)) m1) : DE C W (.UnaryOp .USub a pos) δ m Q := by
  intro X S f tk σ H T le sl hh
  refine WE.of (pe_un un_neg we) ((h X S f tk σ H T le sl hh).mono fun v H1 ⟨d, m1, h1, i, e, q⟩ => ?_)
  subst e
  have r := h1.rep Pl.it
  cases r
  exact ⟨i, rfl, dk_int (h1.le Pl.le) q⟩
theorem de_chainI {op op' : CmpOp} {p p' : Int → Int → Bool} {l : Int} (ho : OpD C (compareOp op) (cmpI p)) (ho' : OpD C (compareOp op') (cmpI p')) (h : DE C W a δ m fun x m1 => DE C W b δ m1 fun y m2 => ∃ i j, x = .int i ∧ y = .int j ∧ PE' C c δ m2 (.int l) ∧ Q (.bl (p i j && p' j l)) m2)
    (hm : lastMarks [op, op'] [b, c] = false := by with_unfolding_all rfl) : DE C W (.Compare a [op, op'] [b, c] pos) δ m Q := by
  refine de_chain ho ho' (h.mono fun x m1 q0 => q0.mono fun y m2 ⟨i, j, e1, e2, pc, q⟩ => ?_) hm
  subst e1 e2
  refine cmp_ii (tb ⟨fun e => pc W _ (cmp_ii ?_), fun e => ?_⟩)
  · rw [e, Bool.true_and] at q
    exact q
  · rw [e, Bool.false_and] at q
    exact q
theorem dt_chainI {op op' : CmpOp} {p p' : Int → Int → Bool} {l : Int} (ho : OpD C (compareOp op) (cmpI p)) (ho' : OpD C (compareOp op') (cmpI p')) (h : DE C W a δ m fun x m1 => DE C W b δ m1 fun y m2 => ∃ i j, x = .int i ∧ y = .int j ∧ PE' C c δ m2 (.int l) ∧ B (p i j && p' j l) m2)
    (hm : lastMarks [op, op'] [b, c] = false := by with_unfolding_all rfl) : DT C W (.Compare a [op, op'] [b, c] pos) δ m B := by
  refine dt_chain ho ho' (h.mono fun x m1 q0 => q0.mono fun y m2 ⟨i, j, e1, e2, pc, q⟩ => ?_) hm
  subst e1 e2
  refine cmp_ii (tb ⟨fun e => pc W _ (cmp_ii (tb ?_)), fun e => ?_⟩)
  · rw [e, Bool.true_and] at q
    exact q
  · rw [e, Bool.false_and] at q
    exact q
/-! ### and, or of several parts that change nothing -/
theorem pe_and2 {e0 e1 : Expr} {k0 k1 : Bool} (h0 : PE' C e0 δ m (.bl k0)) (h1 : k0 = true → PE' C e1 δ m (.bl k1)) : PE' C (.BoolOp .And [e0, e1] pos) δ m (.bl (k0 && k1)) := pe_and' h0 fun z1 => (pe_one' (h1 z1))
theorem pt_and2 {e0 e1 : Expr} {k0 k1 : Bool} (h0 : PT C e0 δ m k0) (h1 : k0 = true → PT C e1 δ m k1) : PT C (.BoolOp .And [e0, e1] pos) δ m (k0 && k1) := fun W B q => dt_pw (pw_and' h0 fun z1 => (pw_one_and (h1 z1))) q
theorem pe_and3 {e0 e1 e2 : Expr} {k0 k1 k2 : Bool} (h0 : PE' C e0 δ m (.bl k0)) (h1 : k0 = true → PE' C e1 δ m (.bl k1)) (h2 : k0 = true → k1 = true → PE' C e2 δ m (.bl k2)) : PE' C (.BoolOp .And [e0, e1, e2] pos) δ m (.bl (k0 && (k1 && k2))) := pe_and' h0 fun z1 => (pe_and' (h1 z1) fun z2 => (pe_one' (h2 z1 z2)))
theorem pt_and3 {e0 e1 e2 : Expr} {k0 k1 k2 : Bool} (h0 : PT C e0 δ m k0) (h1 : k0 = true → PT C e1 δ m k1) (h2 : k0 = true → k1 = true → PT C e2 δ m k2) : PT C (.BoolOp .And [e0, e1, e2] pos) δ m (k0 && (k1 && k2)) := fun W B q => dt_pw (pw_and' h0 fun z1 => (pw_and' (h1 z1) fun z2 => (pw_one_and (h2 z1 z2)))) q
theorem pe_and4 {e0 e1 e2 e3 : Expr} {k0 k1 k2 k3 : Bool} (h0 : PE' C e0 δ m (.bl k0)) (h1 : k0 = true → PE' C e1 δ m (.bl k1)) (h2 : k0 = true → k1 = true → PE' C e2 δ m (.bl k2)) (h3 : k0 = true → k1 = true → k2 = true → PE' C e3 δ m (.bl k3)) : PE' C (.BoolOp .And [e0, e1, e2, e3] pos) δ m (.bl (k0 && (k1 && (k2 && k3)))) := pe_and' h0 fun z1 => (pe_and' (h1 z1) fun z2 => (pe_and' (h2 z1 z2) fun z3 => (pe_one' (h3 z1 z2 z3))))
theorem pt_and4 {e0 e1 e2 e3 : Expr} {k0 k1 k2 k3 : Bool} (h0 : PT C e0 δ m k0) (h1 : k0 = true → PT C e1 δ m k1) (h2 : k0 = true → k1 = true → PT C e2 δ m k2) (h3 : k0 = true → k1 = true → k2 = true → PT C e3 δ m k3) : PT C (.BoolOp .And [e0, e1, e2, e3] pos) δ m (k0 && (k1 && (k2 && k3))) := fun W B q => dt_pw (pw_and' h0 fun z1 => (pw_and' (h1 z1) fun z2 => (pw_and' (h2 z1 z2) fun z3 => (pw_one_and (h3 z1 z2 z3))))) q
theorem pe_and5 {e0 e1 e2 e3 e4 : Expr} {k0 k1 k2 k3 k4 : Bool} (h0 : PE' C e0 δ m (.bl k0)) (h1 : k0 = true → PE' C e1 δ m (.bl k1)) (h2 : k0 = true → k1 = true → PE' C e2 δ m (.bl k2)) (h3 : k0 = true → k1 = true → k2 = true → PE' C e3 δ m (.bl k3)) (h4 : k0 = true → k1 = true → k2 = true → k3 = true → PE' C e4 δ m (.bl k4)) : PE' C (.BoolOp .And [e0, e1, e2, e3, e4] pos) δ m (.bl (k0 && (k1 && (k2 && (k3 && k4))))) := pe_and' h0 fun z1 => (pe_and' (h1 z1) fun z2 => (pe_and' (h2 z1 z2) fun z3 => (pe_and' (h3 z1 z2 z3) fun z4 => (pe_one' (h4 z1 z2 z3 z4)))))
theorem pt_and5 {e0 e1 e2 e3 e4 : Expr} {k0 k1 k2 k3 k4 : Bool} (h0 : PT C e0 δ m k0) (h1 : k0 = true → PT C e1 δ m k1) (h2 : k0 = true → k1 = true → PT C e2 δ m k2) (h3 : k0 = true → k1 = true → k2 = true → PT C e3 δ m k3) (h4 : k0 = true → k1 = true → k2 = true → k3 = true → PT C e4 δ m k4) : PT C (.BoolOp .And [e0, e1, e2, e3, e4] pos) δ m (k0 && (k1 && (k2 && (k3 && k4)))) := fun W B q => dt_pw (pw_and' h0 fun z1 => (pw_and' (h1 z1) fun z2 => (pw_and' (h2 z1 z2) fun z3 => (pw_and' (h3 z1 z2 z3) fun z4 => (pw_one_and (h4 z1 z2 z3 z4)))))) q
theorem pe_or2 {e0 e1 : Expr} {k0 k1 : Bool} (h0 : PE' C e0 δ m (.bl k0)) (h1 : k0 = false → PE' C e1 δ m (.bl k1)) : PE' C (.BoolOp .Or [e0, e1] pos) δ m (.bl (k0 || k1)) := pe_or' h0 fun z1 => (pe_one' (h1 z1))
theorem pt_or2 {e0 e1 : Expr} {k0 k1 : Bool} (h0 : PT C e0 δ m k0) (h1 : k0 = false → PT C e1 δ m k1) : PT C (.BoolOp .Or [e0, e1] pos) δ m (k0 || k1) := fun W B q => dt_pw (pw_or' h0 fun z1 => (pw_one_or (h1 z1))) q
theorem pe_or3 {e0 e1 e2 : Expr} {k0 k1 k2 : Bool} (h0 : PE' C e0 δ m (.bl k0)) (h1 : k0 = false → PE' C e1 δ m (.bl k1)) (h2 : k0 = false → k1 = false → PE' C e2 δ m (.bl k2)) : PE' C (.BoolOp .Or [e0, e1, e2] pos) δ m (.bl (k0 || (k1 || k2))) := pe_or' h0 fun z1 => (pe_or' (h1 z1) fun z2 => (pe_one' (h2 z1 z2)))
theorem pt_or3 {e0 e1 e2 : Expr} {k0 k1 k2 : Bool} (h0 : PT C e0 δ m k0) (h1 : k0 = false → PT C e1 δ m k1) (h2 : k0 = false → k1 = false → PT C e2 δ m k2) : PT C (.BoolOp .Or [e0, e1, e2] pos) δ m (k0 || (k1 || k2)) := fun W B q => dt_pw (pw_or' h0 fun z1 => (pw_or' (h1 z1) fun z2 => (pw_one_or (h2 z1 z2)))) q
theorem pe_or4 {e0 e1 e2 e3 : Expr} {k0 k1 k2 k3 : Bool} (h0 : PE' C e0 δ m (.bl k0)) (h1 : k0 = false → PE' C e1 δ m (.bl k1)) (h2 : k0 = false → k1 = false → PE' C e2 δ m (.bl k2)) (h3 : k0 = false → k1 = false → k2 = false → PE' C e3 δ m (.bl k3)) : PE' C (.BoolOp .Or [e0, e1, e2, e3] pos) δ m (.bl (k0 || (k1 || (k2 || k3)))) := pe_or' h0 fun z1 => (pe_or' (h1 z1) fun z2 => (pe_or' (h2 z1 z2) fun z3 => (pe_one' (h3 z1 z2 z3))))
theorem pt_or4 {e0 e1 e2 e3 : Expr} {k0 k1 k2 k3 : Bool} (h0 : PT C e0 δ m k0) (h1 : k0 = false → PT C e1 δ m k1) (h2 : k0 = false → k1 = false → PT C e2 δ m k2) (h3 : k0 = false → k1 = false → k2 = false → PT C e3 δ m k3) : PT C (.BoolOp .Or [e0, e1, e2, e3] pos) δ m (k0 || (k1 || (k2 || k3))) := fun W B q => dt_pw (pw_or' h0 fun z1 => (pw_or' (h1 z1) fun z2 => (pw_or' (h2 z1 z2) fun z3 => (pw_one_or (h3 z1 z2 z3))))) q
theorem pe_or5 {e0 e1 e2 e3 e4 : Expr} {k0 k1 k2 k3 k4 : Bool} (h0 : PE' C e0 δ m (.bl k0)) (h1 : k0 = false → PE' C e1 δ m (.bl k1)) (h2 : k0 = false → k1 = false → PE' C e2 δ m (.bl k2)) (h3 : k0 = false → k1 = false → k2 = false → PE' C e3 δ m (.bl k3)) (h4 : k0 = false → k1 = false → k2 = false → k3 = false → PE' C e4 δ m (.bl k4)) : PE' C (.BoolOp .Or [e0, e1, e2, e3, e4] pos) δ m (.bl (k0 || (k1 || (k2 || (k3 || k4))))) := pe_or' h0 fun z1 => (pe_or' (h1 z1) fun z2 => (pe_or' (h2 z1 z2) fun z3 => (pe_or' (h3 z1 z2 z3) fun z4 => (pe_one' (h4 z1 z2 z3 z4)))))
theorem pt_or5 {e0 e1 e2 e3 e4 : Expr} {k0 k1 k2 k3 k4 : Bool} (h0 : PT C e0 δ m k0) (h1 : k0 = false → PT C e1 δ m k1) (h2 : k0 = false → k1 = false → PT C e2 δ m k2) (h3 : k0 = false → k1 = false → k2 = false → PT C e3 δ m k3) (h4 : k0 = false → k1 = false → k2 = false → k3 = false → PT C e4 δ m k4) : PT C (.BoolOp .Or [e0, e1, e2, e3, e4] pos) δ m (k0 || (k1 || (k2 || (k3 || k4)))) := fun W B q => dt_pw (pw_or' h0 fun z1 => (pw_or' (h1 z1) fun z2 => (pw_or' (h2 z1 z2) fun z3 => (pw_or' (h3 z1 z2 z3) fun z4 => (pw_one_or (h4 z1 z2 z3 z4)))))) q
theorem dt_pt {k : Bool} (h : PT C e δ m k) (q : B k m) : DT C W e δ m B := h W B q
/-! ### slices by their parts -/
theorem de_sl00 (h : DE C W a δ m fun x m1 => cutD x none none m1 Q) : DE C W (.Subscript a (.Slice none none none p2) pos) δ m Q := de_slice h
theorem de_sl01 (h : DE C W a δ m fun x m1 => DE C W b δ m1 fun d m2 => ∃ i, d = .int i ∧ cutD x none (some i) m2 Q) : DE C W (.Subscript a (.Slice none (some b) none p2) pos) δ m Q := de_slice h
theorem de_sl10 (h : DE C W a δ m fun x m1 => DE C W b δ m1 fun d m2 => ∃ i, d = .int i ∧ cutD x (some i) none m2 Q) : DE C W (.Subscript a (.Slice (some b) none none p2) pos) δ m Q := de_slice h
theorem de_sl11 (h : DE C W a δ m fun x m1 => DE C W b δ m1 fun d m2 => ∃ i, d = .int i ∧ DE C W c δ m2 fun d' m3 => ∃ j, d' = .int j ∧ cutD x (some i) (some j) m3 Q) : DE C W (.Subscript a (.Slice (some b) (some c) none p2) pos) δ m Q := de_slice (h.mono fun x m1 q => q.mono fun d m2 ⟨i, e, q⟩ => ⟨i, e, q⟩)
theorem cut_s {z : Str} {lo hi : Option Int} (h : z.length ≤ sizeLine) (q : Q (.str (cutS z lo hi)) m) : cutD (.str z) lo hi m Q := ⟨h, q⟩
theorem cut_t {z : List D} {lo hi : Option Int} (q : Q (.tup (cutL z lo hi)) m) : cutD (.tup z) lo hi m Q := q
theorem cut_l {z : List D} {lo hi : Option Int} (q : Q (.lst (cutL z lo hi)) m) : cutD (.lst z) lo hi m Q := q
theorem cut_f {z : List D} {lo hi : Option Int} (q : Q (.lst (cutL z lo hi)) m) : cutD (.frz z) lo hi m Q := q
theorem cutL_to {α : Type} (xs : List α) (n : Nat) : cutL xs none (some (n : Int)) = xs.take n := by
  unfold cutL
  rw [show HT.sIx xs.length xs.length (some (n : Int)) = min n xs.length from HT.sIx_nat xs.length xs.length n, HT.sIx_none, List.drop_zero, Nat.sub_zero]
  by_cases h : n ≤ xs.length
  · rw [Nat.min_eq_left h]
  · rw [Nat.min_eq_right (by omega), List.take_length, List.take_of_length_le (by omega)]
theorem cutL_from {α : Type} (xs : List α) (n : Nat) : cutL xs (some (n : Int)) none = xs.drop n := by
  unfold cutL
  rw [show HT.sIx xs.length 0 (some (n : Int)) = min n xs.length from HT.sIx_nat xs.length 0 n, HT.sIx_none]
  by_cases h : n ≤ xs.length
  · rw [Nat.min_eq_left h]
    exact List.take_of_length_le (by rw [List.length_drop]; omega)
  · rw [Nat.min_eq_right (by omega), List.drop_length, List.drop_eq_nil_of_le (by omega)]
    simp
/-! ### built-ins on known data -/
theorem len_s {z : Str} (h : z.length ≤ sizeLine) (q : Q (.int z.length) m) : lenD [.str z] m Q := ⟨h, q⟩
theorem len_t {l : List D} (q : l.length ≤ sizeLine → Q (.int l.length) m) : lenD [.tup l] m Q := q
theorem len_l {l : List D} (q : l.length ≤ sizeLine → Q (.int l.length) m) : lenD [.lst l] m Q := q
theorem len_f {l : List D} (q : l.length ≤ sizeLine → Q (.int l.length) m) : lenD [.frz l] m Q := q
theorem len_o {p : Addr} {l : List D} (hm : m p = some (.lst l)) (q : l.length ≤ sizeLine → Q (.int l.length) m) : lenD [.ref p] m Q := ⟨l, hm, q⟩
theorem max_ii {i j : Int} (q : Q (.int (max i j)) m) : maxD [.int i, .int j] m Q := q
theorem min_ii {i j : Int} (q : Q (.int (min i j)) m) : minD [.int i, .int j] m Q := q
theorem int_i {i : Int} (q : Q (.int i) m) : intD [.int i] m Q := q
theorem int_b {k : Bool} (q : Q (.int (if k then 1 else 0)) m) : intD [.bl k] m Q := q
theorem list_l {d : D} {l : List D} (h : itemsD d m = some l) (q : Q (.lst l) m) : listD [d] m Q := ⟨d, l, rfl, h, q⟩
theorem list_m {d : D} {l : List D} (h : itemsD d m = some l) (q : ∀ p, m p = none → Q (.ref p) (sput m p (.lst l))) : listDM [d] m Q := ⟨d, l, rfl, h, q⟩
theorem isi {d : D} {t n : String} {k : Bool} (h : tyD d = some t) (hk : kitB t n = some k) (q : Q (.bl k) m) : isiD [d, .ty n] m Q := ⟨d, t, n, k, rfl, h, hk, q⟩
theorem isi2 {d : D} {t n1 n2 : String} {k : Bool} (h : tyD d = some t) (hk : kit2 t n1 n2 = some k) (q : Q (.bl k) m) : ∃ t k, tyD d = some t ∧ kit2 t n1 n2 = some k ∧ Q (.bl k) m := ⟨t, k, h, hk, q⟩
end
/-! ### what the classes are -/
theorem kit_NoneType_bool : kitB "NoneType" "bool" = some false := by decide +kernel
theorem kit_NoneType_int : kitB "NoneType" "int" = some false := by decide +kernel
theorem kit_NoneType_str : kitB "NoneType" "str" = some false := by decide +kernel
theorem kit_NoneType_list : kitB "NoneType" "list" = some false := by decide +kernel
theorem kit_NoneType_tuple : kitB "NoneType" "tuple" = some false := by decide +kernel
theorem kit_NoneType_dict : kitB "NoneType" "dict" = some false := by decide +kernel
theorem kit_bool_bool : kitB "bool" "bool" = some true := by decide +kernel
theorem kit_bool_int : kitB "bool" "int" = some true := by decide +kernel
theorem kit_bool_str : kitB "bool" "str" = some false := by decide +kernel
theorem kit_bool_list : kitB "bool" "list" = some false := by decide +kernel
theorem kit_bool_tuple : kitB "bool" "tuple" = some false := by decide +kernel
theorem kit_bool_dict : kitB "bool" "dict" = some false := by decide +kernel
theorem kit_int_bool : kitB "int" "bool" = some false := by decide +kernel
theorem kit_int_int : kitB "int" "int" = some true := by decide +kernel
theorem kit_int_str : kitB "int" "str" = some false := by decide +kernel
theorem kit_int_list : kitB "int" "list" = some false := by decide +kernel
theorem kit_int_tuple : kitB "int" "tuple" = some false := by decide +kernel
theorem kit_int_dict : kitB "int" "dict" = some false := by decide +kernel
theorem kit_str_bool : kitB "str" "bool" = some false := by decide +kernel
theorem kit_str_int : kitB "str" "int" = some false := by decide +kernel
theorem kit_str_str : kitB "str" "str" = some true := by decide +kernel
theorem kit_str_list : kitB "str" "list" = some false := by decide +kernel
theorem kit_str_tuple : kitB "str" "tuple" = some false := by decide +kernel
theorem kit_str_dict : kitB "str" "dict" = some false := by decide +kernel
theorem kit_tuple_bool : kitB "tuple" "bool" = some false := by decide +kernel
theorem kit_tuple_int : kitB "tuple" "int" = some false := by decide +kernel
theorem kit_tuple_str : kitB "tuple" "str" = some false := by decide +kernel
theorem kit_tuple_list : kitB "tuple" "list" = some false := by decide +kernel
theorem kit_tuple_tuple : kitB "tuple" "tuple" = some true := by decide +kernel
theorem kit_tuple_dict : kitB "tuple" "dict" = some false := by decide +kernel
theorem kit_list_bool : kitB "list" "bool" = some false := by decide +kernel
theorem kit_list_int : kitB "list" "int" = some false := by decide +kernel
theorem kit_list_str : kitB "list" "str" = some false := by decide +kernel
theorem kit_list_list : kitB "list" "list" = some true := by decide +kernel
theorem kit_list_tuple : kitB "list" "tuple" = some false := by decide +kernel
theorem kit_list_dict : kitB "list" "dict" = some false := by decide +kernel
theorem kit_dict_bool : kitB "dict" "bool" = some false := by decide +kernel
theorem kit_dict_int : kitB "dict" "int" = some false := by decide +kernel
theorem kit_dict_str : kitB "dict" "str" = some false := by decide +kernel
theorem kit_dict_list : kitB "dict" "list" = some false := by decide +kernel
theorem kit_dict_tuple : kitB "dict" "tuple" = some false := by decide +kernel
theorem kit_dict_dict : kitB "dict" "dict" = some true := by decide +kernel
theorem kit2_NoneType_int_str : kit2 "NoneType" "int" "str" = some false := by decide +kernel
theorem kit2_bool_int_str : kit2 "bool" "int" "str" = some true := by decide +kernel
theorem kit2_int_int_str : kit2 "int" "int" "str" = some true := by decide +kernel
theorem kit2_str_int_str : kit2 "str" "int" "str" = some true := by decide +kernel
theorem kit2_tuple_int_str : kit2 "tuple" "int" "str" = some false := by decide +kernel
theorem kit2_list_int_str : kit2 "list" "int" "str" = some false := by decide +kernel
theorem kit2_dict_int_str : kit2 "dict" "int" "str" = some false := by decide +kernel
theorem eqvD_bl {a b : Bool} : eqvD (.bl a) (.bl b) = (a == b) := by simp [eqvD, toPy, PyData.eqv]
theorem eqvD_int {a b : Int} : eqvD (.int a) (.int b) = (a == b) := by simp [eqvD, toPy, PyData.eqv]
theorem eqvD_str {a b : Str} : eqvD (.str a) (.str b) = (a == b) := by simp [eqvD, toPy, PyData.eqv]
theorem blsD_true : ∀ n : Nat, blsD (List.replicate n (.bl true)) = some (List.replicate n true)
  | 0 => rfl
  | n + 1 => by
    show (blsD (List.replicate n (.bl true))).map (true :: ·) = _
    rw [blsD_true n]
    rfl
theorem all_true : ∀ n : Nat, (List.replicate n true).all id = true
  | 0 => rfl
  | n + 1 => by
    rw [List.replicate_succ, List.all_cons, all_true n]
    rfl
end G

/-! The data layer: raise, try; methods of built-in classes; tuples of texts. -/
namespace G
open PySem PySem.Spec PyProof.Rows L2

/-! ### raise, try -/
/-- an own class of errors over ValueError, by its name -/
structure Ec (K : PySem.W.Frag) (mg : Str → Option Value) (x : Str) (c : Addr) : Prop where
  g : mg x = some (.ref c)
  kp : PySem.W.keepIn K (.ref c) = true
  ex : PySem.W.excIn K c [.type "ValueError", .type "Exception", .type "BaseException", .type "object"] "ValueError.__new__" = true
  sub : PySem.W.subIn K (.ref c) (.type "BaseException") = some true
  ty : PySem.W.typeIn K (.ref c) = some (.type "type")
/-- the context of an except suite -/
def Ct.hot (C : Ct) : Ct := { C with cm := false, ex := none }
section
variable {C : Ct} {W : DW} {δ : Sl} {m : Sto} {a b c e : Expr} {es : List Expr} {pos pos' np : Pos} {Q : D → Sto → Prop} {D : DEn}
theorem ds_raise {x z : Str} {j : Nat} {p p2 : Pos} {k : Addr} (E : Ec C.K C.mg x k) (hg : GlC C x) (w : W (.ref k) [] δ m) (hdb : (x == ("__debug__" : Str)) = false := by decide) (hcm : C.cm = true := by rfl) :
    DS C W (.Raise (some (.Call (.Name x p) [.Constant (.str z) j p2] [] pos)) none pos') δ m D := by
  intro X S f tk σ H T le sl hh
  refine WS.of (ps_raise (f.calm hcm) tk (pmk_own (PySem.F.excBase_ValueError) (by rw [f.K]; exact E.ex) (by rw [f.mg]; exact E.g) (by rw [f.K]; exact E.kp) (raises_own (by rw [f.K]; exact E.sub) (by rw [f.K]; exact E.ty)) (f.gl hg) hdb)) ?_
  exact ⟨δ, m, T, [], le, sl, hh, .inl ⟨rfl, rfl⟩, w⟩
theorem ds_try {x : Str} {body suite : List Stmt} {b₀ : Stmt} {k : Addr} (hm : C.mg x = some (.ref k)) (hg : GlC C x)
    (h : DSs C (fun cls fs δ' m' => ∃ b, PySem.W.exmOne C.K cls (.ref k) = some b ∧ (b = true → DSs C.hot W0 (b₀ :: suite) δ' m' D) ∧ (b = false → W cls fs δ' m')) body δ m D)
    (hdb : (x == ("__debug__" : Str)) = false := by decide) (htr : C.tr = true := by rfl) (hex : C.ex = none := by rfl) : DS C W (.Try body [.ExceptHandler (some (.Name x np)) none (b₀ :: suite) pos'] [] [] pos) δ m D := by
  intro X S f tk σ H T le sl hh
  refine WS.of (ps_try_only (c := .ref k)
    (tb := fun W' D' σ H => ∀ (pn : List (Addr × Obj)) (xe : Value → Shared → Prop), Takes (X.tr pn xe) W' → PassesOwn (model X.prog X.w) X.A X.env xe → WSs (X.tr pn xe) body D' σ H)
    (ts := fun a cls d D' σ H => ∀ (oe : Obj) (pn : List (Addr × Obj)), WSs (X.suite a ((a, oe) :: pn)) (b₀ :: suite) D' σ H)
    (f.tr htr).1 (f.tr htr).2 ⟨f.gl hg, hdb, .inl (by rw [f.mg]; exact hm)⟩ tk
    (fun W' pn xe t p => ⟨fun pins s σ H D I r => r pn xe t p pins s I⟩) (fun a oe cls d pn hz hv => ⟨fun pins s σ H D I r => r oe pn pins s I⟩)) ?_
  intro pn xe tk' po
  have fit : Fits C (X.tr pn xe) := ⟨f.prog, f.w, f.K, f.mg, f.base, f.N, f.sc, f.fn, f.nd, f.un, f.room, f.calm, po, f.tr, fun _ _ e => by rw [hex] at e; cases e⟩
  refine h (X.tr pn xe) S fit (tk'.imp ?_) σ H T le sl hh
  rintro cls d σ' H' ⟨δ', m', T', fs, le', sl', hh', xd, k', hk', h1, h2⟩
  refine ⟨k', by rw [f.K]; exact hk', fun e a _ oe pn2 => ?_, fun e => ⟨δ', m', T', fs, le', sl', hh', xd, h2 e⟩⟩
  have fit2 : Fits C.hot (X.suite a ((a, oe) :: pn2)) := ⟨f.prog, f.w, f.K, f.mg, f.base, f.N, f.sc, f.fn, f.nd, f.un, (fun z => nomatch z), (fun z => nomatch z), PassesOwn.never, f.tr, fun _ _ e => nomatch e⟩
  exact h1 e (X.suite a ((a, oe) :: pn2)) S fit2 takes_W0 σ' H' T' le' sl' hh'
end

/-! ### methods of built-in classes -/
def WM (X : Cx) (id : String) (ty : V → Hp → Prop) : V → List V → Hp → VK → Prop := fun v vs H Q => ∀ (pins : List (Addr × Obj)) (s : Shared) (σ : L2.St) (u : Value) (us : List Value), Inv X pins σ H s → RelV v u → Vals vs us → wpAny (model X.prog X.w) X.A (call (.builtin id) (u :: us)) (EP X pins σ Q) X.xe s
theorem wm {X : Cx} {id : String} {ty : V → Hp → Prop} : MtR X id (WM X id ty) := fun pins s σ H x xs v us Q I rx rs h => h pins s σ v us I rx rs
theorem wm_of {X : Cx} {id : String} {ty : V → Hp → Prop} {r : V → List V → Hp → VK → Prop} {v : V} {vs : List V} {H : Hp} {Q : VK} (h : MtR X id r) (q : r v vs H Q) : WM X id ty v vs H Q := fun pins s σ u us I rx rs => h pins s σ H v vs u us Q I rx rs q
/-- a method by data: the receiver, the arguments -/
abbrev RMD := D → List D → Sto → (D → Sto → Prop) → Prop
/-- what the receiver must be for the class to be found -/
def okR (T : String) : D → Sto → Prop
  | .str _, _ => T = "str"
  | .lst _, _ => T = "list"
  | .ref p, m => T = "list" ∧ ∃ ds, m p = some (.lst ds)
  | _, _ => False
def MtD (C : Ct) (id : String) (r : RMD) : Prop := ∀ (X : Cx), Fits C X → ∀ (fr : Sto) (H : Hp) (m : Sto) (T : RT) (v : V) (d : D) (vs : List V) (ds : List D) (Q : D → Sto → Prop), vs.length = ds.length → Hd C.K fr H m (PlL (Pl T v d) vs ds) → r d ds m Q → WM X id (fun _ _ => True) v vs H (dK C.K fr T Q)
theorem okR_ty {K : PySem.W.Frag} {fr : Sto} {H : Hp} {m : Sto} {T : RT} {v : V} {d : D} {t : String} (hh : Hd K fr H m T) (tv : T v d) (ok : okR t d m) : tyV K t v H := by
  have r := hh.rep tv
  cases d with
  | str z => cases r; exact ok
  | lst l =>
    cases r with
    | lst hp _ => exact .inl ⟨ok, _, SqL.of hp⟩
  | ref p =>
    cases r
    obtain ⟨e, ds, hm⟩ := ok
    obtain ⟨xs, hq, _⟩ := hh.itemsO hm
    exact .inl ⟨e, _, SqL.of hq⟩
  | _ => exact ok.elim
section
variable {C : Ct} {W : DW} {δ : Sl} {m : Sto} {a b c e o : Expr} {es : List Expr} {pos pos' apos cpos : Pos} {Q : D → Sto → Prop} {T id : String} {name : Str} {r : RMD}
theorem de_bm (hm : MtD C id r) (pa : PlainAttrs T) (slot : Slot T name id) (hty : typeOf (.builtin id) = pure (.type "method_descriptor"))
    (h : DE C W o δ m fun d m1 => okR T d m1 ∧ DA C W (e :: es) δ m1 fun ds m2 => r d ds m2 Q)
    (hbase : ∀ env, attributeBase o name env (eval o env) = eval o env := by intro _; rfl)
    (hfew : ∀ env, ((backTo cpos (starEach (e :: es) env)).all (fun x => !x.1) && (backToKw cpos (keywordEach [] env)).all (fun x => x.1.isSome)
      && decide ((e :: es).length + ([] : List Keyword).length + (if ([] : List Keyword).isEmpty then 0 else 1) < 30)) = true := by intro _; rfl)
    (hline : (apos.endLine == cpos.line) = true := by rfl) (hs : ∀ env, starEach (e :: es) env = (false, eval e env) :: starEach es env := by intro _; rfl) (hplain : ∀ env, (backTo cpos (starEach es env)).any (·.1) = false := by intro _; rfl) :
    DE C W (.Call (.Attribute o name apos) (e :: es) [] cpos) δ m Q := by
  intro X S f tk σ H T0 le sl hh
  refine WE.of (pe_bm pa slot hty (wm (ty := fun _ _ => True)) we wa (hbase _) (hfew _) hline (hs _) (hplain _)) ((h X S f tk σ H T0 le sl hh).mono fun v H1 ⟨d, m1, h1, ok, q⟩ => ?_)
  refine ⟨by rw [f.K]; exact okR_ty h1 Pl.it ok, ?_⟩
  refine (q X S f tk σ H1 _ (le.trans Pl.le) (sl.le Pl.le) h1).mono fun vs H2 ⟨ds, m2, hl, h2, q2⟩ => ?_
  exact hm X f S.r H2 m2 T0 v d vs ds Q hl h2 q2
theorem de_bm0 (hm : MtD C id r) (pa : PlainAttrs T) (slot : Slot T name id) (hty : typeOf (.builtin id) = pure (.type "method_descriptor"))
    (h : DE C W o δ m fun d m1 => okR T d m1 ∧ r d [] m1 Q)
    (hbase : ∀ env, attributeBase o name env (eval o env) = eval o env := by intro _; rfl) (hline : (apos.endLine == cpos.line) = true := by rfl) :
    DE C W (.Call (.Attribute o name apos) [] [] cpos) δ m Q := by
  intro X S f tk σ H T0 le sl hh
  refine WE.of (pe_bm0 pa slot hty (wm (ty := fun _ _ => True)) we (hbase _) hline) ((h X S f tk σ H T0 le sl hh).mono fun v H1 ⟨d, m1, h1, ok, q⟩ => ?_)
  exact ⟨by rw [f.K]; exact okR_ty h1 Pl.it ok, hm X f S.r H1 m1 T0 v d [] [] Q rfl (h1.le fun x y z => z.elim (fun h => h) fun z => by simp at z) q⟩
/-! ### lists that are objects -/
theorem pl0 {T : RT} {v : V} {d : D} {vs : List V} {ds : List D} : PlL (Pl T v d) vs ds v d := PlL.le _ _ Pl.it
/-- p.append(x) -/
def appendD : RMD := fun d ds m Q => ∃ p l x, d = .ref p ∧ ds = [x] ∧ m p = some (.lst l) ∧ l.length < sizeLine ∧ Q .non (sput m p (.lst (l ++ [x])))
theorem md_append : MtD C "list.append" appendD := by
  rintro X f fr H m T v d vs ds Q hl hh ⟨p, l, x, rfl, rfl, hm, hz, q⟩
  obtain ⟨w, rfl⟩ := one_of hl
  have rv := hh.rep pl0
  cases rv
  obtain ⟨xs, hq, hxl, _⟩ := hh.itemsO hm
  have h4 := hh.mut (u' := .lst (xs ++ [w])) (o' := .lst (l ++ [x])) hm hq fun Hi r kk => RepL.snoc r (kk w x (PlL.at (i := 0) rfl rfl))
  exact wm_of mt_append ⟨p, xs, w, rfl, rfl, hq, by rw [hxl]; exact hz, dK.le (dk_non h4 q) (Pl.le.trans PlL.le)⟩
/-- p.extend(l) -/
def extendD : RMD := fun d ds m Q => ∃ p l x, d = .ref p ∧ ds = [.lst x] ∧ m p = some (.lst l) ∧ l.length + x.length ≤ sizeLine ∧ Q .non (sput m p (.lst (l ++ x)))
theorem RepL.app {K : PySem.W.Frag} {H : Hp} : ∀ {vs us : List V} {ds es : List D}, RepL K H vs ds → RepL K H us es → RepL K H (vs ++ us) (ds ++ es)
  | _, _, _, _, .nil, h => h
  | _, _, _, _, .cons r t, h => .cons r (RepL.app t h)
theorem md_extend : MtD C "list.extend" extendD := by
  rintro X f fr H m T v d vs ds Q hl hh ⟨p, l, x, rfl, rfl, hm, hz, q⟩
  obtain ⟨w, rfl⟩ := one_of hl
  have rv := hh.rep pl0
  cases rv
  obtain ⟨xs, hq, hxl, _⟩ := hh.itemsO hm
  have tw : PlL (Pl T (.ref p) (.ref p)) [w] [.lst x] w (.lst x) := PlL.at (i := 0) rfl rfl
  obtain ⟨b, ys, rfl, hb, hyl, h4⟩ := hh.itemsL tw
  have h5 := h4.mut (u' := .lst (xs ++ ys)) (o' := .lst (l ++ x)) hm hq fun Hi r kk => RepL.app r (PlL.rep hyl fun v d t => kk v d t)
  exact wm_of mt_extend ⟨p, b, xs, ys, rfl, rfl, hq, hb, by rw [hxl, hyl]; exact hz, dK.le (dk_non h5 q) (Pl.le.trans (PlL.le.trans PlL.le))⟩
/-! ### texts -/
theorem repL_strs {K : PySem.W.Frag} {H : Hp} : ∀ ys : List Str, RepL K H (ys.map V.str) (ys.map D.str)
  | [] => .nil
  | y :: ys => .cons (.str y) (repL_strs ys)
theorem strs_of {K : PySem.W.Frag} {H : Hp} : ∀ {xs : List V} {ys : List Str}, RepL K H xs (ys.map D.str) → xs = ys.map V.str
  | [], [], _ => rfl
  | [], _ :: _, r => by cases r
  | _ :: _, [], r => by cases r
  | x :: xs, y :: ys, r => by
    cases r with
    | cons r t =>
      cases r
      rw [strs_of t]
      rfl
/-- a.split(b) -/
def splitD : RMD := fun d ds m Q => ∃ a b, d = .str a ∧ ds = [.str b] ∧ (b.length == 0) = false ∧ a.length + 2 ≤ sizeLine ∧ Q (.lst ((Txt.split a b).map D.str)) m
theorem md_split : MtD C "str.split" splitD := by
  rintro X f fr H m T v d vs ds Q hl hh ⟨a, b, rfl, rfl, hb, hz, q⟩
  obtain ⟨w, rfl⟩ := one_of hl
  have rv := hh.rep pl0
  have rw' := hh.rep (PlL.at (i := 0) (v := w) (d := .str b) rfl rfl)
  cases rv
  cases rw'
  exact wm_of mt_split ⟨a, b, rfl, rfl, hb, hz, fun p hp => dK.le (dk_lst hh hp (fun Hi _ => repL_strs _) q) (Pl.le.trans PlL.le)⟩
/-- a.join(l) -/
def joinD : RMD := fun d ds m Q => ∃ a ys, d = .str a ∧ ds = [.lst (ys.map D.str)] ∧ (ys.map (·.length)).sum + ys.length * a.length ≤ 16777216 ∧ Q (.str (Txt.join a ys)) m
theorem md_join : MtD C "str.join" joinD := by
  rintro X f fr H m T v d vs ds Q hl hh ⟨a, ys, rfl, rfl, hz, q⟩
  obtain ⟨w, rfl⟩ := one_of hl
  have rv := hh.rep pl0
  cases rv
  obtain ⟨p, xs, rfl, hq, r⟩ := hh.repsL (PlL.at (i := 0) (v := w) (d := .lst (ys.map D.str)) rfl rfl)
  have e := strs_of r
  subst e
  exact wm_of mt_join ⟨a, p, ys, rfl, rfl, .inl (SqL.of hq), hz, dK.le (dk_str hh q) (Pl.le.trans PlL.le)⟩
/-! ### tuples of texts -/
theorem any_strs (z : Str) : ∀ zs : List Str, inV (.str z) (zs.map V.str) = decide (z ∈ zs)
  | [] => rfl
  | y :: zs => by
    have ih := any_strs z zs
    unfold inV at ih ⊢
    rw [List.map_cons, List.any_cons, ih, Bool.eq_iff_iff, Bool.or_eq_true, decide_eq_true_eq, decide_eq_true_eq, List.mem_cons]
    show ((y == z) = true ∨ z ∈ zs) ↔ z = y ∨ z ∈ zs
    rw [beq_iff_eq]
    exact ⟨fun h => h.elim (fun h => .inl h.symm) .inr, fun h => h.elim (fun h => .inl h.symm) .inr⟩
def inT (neg : Bool) : R2D := fun d e m Q => ∃ (z : Str) (zs : List Str), d = .str z ∧ e = .tup (zs.map D.str) ∧ Q (.bl (if neg then !decide (z ∈ zs) else decide (z ∈ zs))) m
theorem Hd.repsT {K : PySem.W.Frag} {fr : Sto} {H : Hp} {m : Sto} {T : RT} {v : V} {l : List D} (h : Hd K fr H m T) (t : T v (.tup l)) : ∃ a xs, v = .ref a ∧ SqT K H a xs ∧ RepL K H xs l := by
  have r := h.rep t
  cases r with
  | tup q r => exact ⟨_, _, rfl, q, r⟩
theorem od_inT : OpD C (compareOp .In) (inT false) := by
  rintro X f fr H m T x y d e Q hh tx ty ⟨z, zs, rfl, rfl, q⟩
  have rx := hh.rep tx
  cases rx
  obtain ⟨p, xs, rfl, hq, r⟩ := hh.repsT ty
  have e := strs_of r
  subst e
  refine wb_of op_in_seq ⟨p, _, rfl, .inr (by rw [f.K]; exact hq), rfl, flat_strs zs, ?_⟩
  rw [any_strs]
  exact dk_bl hh q
theorem od_notinT : OpD C (compareOp .NotIn) (inT true) := by
  rintro X f fr H m T x y d e Q hh tx ty ⟨z, zs, rfl, rfl, q⟩
  have rx := hh.rep tx
  cases rx
  obtain ⟨p, xs, rfl, hq, r⟩ := hh.repsT ty
  have e := strs_of r
  subst e
  refine wb_of op_notIn_seq ⟨p, _, rfl, .inr (by rw [f.K]; exact hq), rfl, flat_strs zs, ?_⟩
  rw [any_strs]
  exact dk_bl hh q
/-! ### texts, numbers compared -/
def eqF (neg : Bool) : R2D := fun d e m Q => (∃ x y : Str, d = .str x ∧ e = .str y ∧ Q (.bl (if neg then !decide (x = y) else decide (x = y))) m) ∨ (∃ x y : Int, d = .int x ∧ e = .int y ∧ Q (.bl (if neg then !decide (x = y) else decide (x = y))) m)
theorem dec_inj {α β : Type} [DecidableEq α] [DecidableEq β] {f : α → β} (h : ∀ x y, f x = f y → x = y) (x y : α) : decide (f x = f y) = decide (x = y) := by
  rw [decide_eq_decide]
  exact ⟨h x y, fun e => by rw [e]⟩
theorem od_eqF : OpD C (compareOp .Eq) (eqF false) := by
  rintro X f fr H m T x y d e Q hh tx ty (⟨i, j, rfl, rfl, q⟩ | ⟨i, j, rfl, rfl, q⟩)
  all_goals
    have rx := hh.rep tx
    have ry := hh.rep ty
    cases rx
    cases ry
    refine wb_of op_eq ⟨rfl, ?_⟩
    refine dk_bl hh ?_
    rw [if_neg Bool.false_ne_true] at q
  · rw [dec_inj (f := V.str) fun x y e => by injection e]
    exact q
  · rw [dec_inj (f := V.int) fun x y e => by injection e]
    exact q
theorem od_neF : OpD C (compareOp .NotEq) (eqF true) := by
  rintro X f fr H m T x y d e Q hh tx ty (⟨i, j, rfl, rfl, q⟩ | ⟨i, j, rfl, rfl, q⟩)
  all_goals
    have rx := hh.rep tx
    have ry := hh.rep ty
    cases rx
    cases ry
    refine wb_of op_ne ⟨rfl, ?_⟩
    refine dk_bl hh ?_
    rw [if_pos rfl] at q
  · rw [dec_inj (f := V.str) fun x y e => by injection e]
    exact q
  · rw [dec_inj (f := V.int) fun x y e => by injection e]
    exact q
theorem eq_ss {x y : Str} (q : Q (.bl (decide (x = y))) m) : eqF false (.str x) (.str y) m Q := .inl ⟨x, y, rfl, rfl, q⟩
theorem eq_ii {x y : Int} (q : Q (.bl (decide (x = y))) m) : eqF false (.int x) (.int y) m Q := .inr ⟨x, y, rfl, rfl, q⟩
theorem ne_ss {x y : Str} (q : Q (.bl (!decide (x = y))) m) : eqF true (.str x) (.str y) m Q := .inl ⟨x, y, rfl, rfl, q⟩
theorem ne_ii {x y : Int} (q : Q (.bl (!decide (x = y))) m) : eqF true (.int x) (.int y) m Q := .inr ⟨x, y, rfl, rfl, q⟩
/-- a tuple of texts of the program's top -/
def TupK (K : PySem.W.Frag) (mg : Str → Option Value) (x : Str) (zs : List Str) : Prop := ∃ a o its n, mg x = some (.ref a) ∧ K.lookup a = some o ∧ o.cls = .type "tuple" ∧ o.dict = none ∧ o.data = .seq its n ∧ its.size ≤ sizeLine ∧ Vals (zs.map V.str) its.toList
theorem de_tupK {x : Str} {zs : List Str} (hk : TupK C.K C.mg x zs) (hg : GlC C x) (q : Q (.tup (zs.map D.str)) m) (hd : (x == ("__debug__" : Str)) = false := by decide) : DE C W (.Name x pos) δ m Q := by
  obtain ⟨a, o, its, n, h1, h2, h3, h4, h5, h6, h7⟩ := hk
  intro X S f tk σ H T0 le sl hh
  refine WE.of (pe_glob (v := .ref a) (f.gl hg) (by rw [f.mg]; exact h1) rfl hd) ?_
  exact dk hh (fun Hi _ => Rep.tup (.inr ⟨o, its, n, h2, h3, h5, h6, h7⟩) (repL_strs zs)) q
/-- x.index(e), x such a tuple -/
theorem de_tupIndex {x : Str} {zs : List Str} {p : Pos} (hk : TupK C.K C.mg x zs) (hg : GlC C x) (h : DE C W e δ m fun d m1 => ∃ z j, d = .str z ∧ zs[j]? = some z ∧ (∀ i, i < j → zs[i]? ≠ some z) ∧ Q (.int (j : Nat)) m1)
    (hd : (x == ("__debug__" : Str)) = false := by decide)
    (hbase : ∀ env, attributeBase (.Name x p) "index" env (eval (.Name x p) env) = eval (.Name x p) env := by intro _; rfl)
    (hfew : ∀ env, ((backTo cpos (starEach [e] env)).all (fun x => !x.1) && (backToKw cpos (keywordEach [] env)).all (fun x => x.1.isSome)
      && decide (([e] : List Expr).length + ([] : List Keyword).length + (if ([] : List Keyword).isEmpty then 0 else 1) < 30)) = true := by intro _; rfl)
    (hline : (apos.endLine == cpos.line) = true := by rfl) (hs : ∀ env, starEach [e] env = (false, eval e env) :: starEach [] env := by intro _; rfl) (hplain : ∀ env, (backTo cpos (starEach [] env)).any (·.1) = false := by intro _; rfl) :
    DE C W (.Call (.Attribute (.Name x p) "index" apos) [e] [] cpos) δ m Q := by
  obtain ⟨a, o, its, n, h1, h2, h3, h4, h5, h6, h7⟩ := hk
  intro X S f tk σ H T0 le sl hh
  refine WE.of (pe_bm PySem.F.plainAttrs_tuple PySem.F.slot_tuple_index PySem.F.type_tuple_index mt_tup_index (pe_glob (v := .ref a) (f.gl hg) (by rw [f.mg]; exact h1) rfl hd) (pa_cons we pa_nil (hs _)) (hbase _) (hfew _) hline (hs _) (hplain _)) ?_
  refine ⟨.inr (.inl ⟨rfl, o, by rw [f.K]; exact h2, h3, h4⟩), ?_⟩
  refine (h X S f tk σ H T0 le sl hh).mono fun v H1 ⟨d, m1, h1, z, j, ed, hj, hno, q⟩ => ?_
  subst ed
  have rv := h1.rep (Pl.it (T := T0) (v := v) (d := .str z))
  cases rv
  exact ⟨a, zs, z, j, rfl, rfl, .inr ⟨o, its, n, by rw [f.K]; exact h2, h3, h5, h6, h7⟩, hj, hno, dK.le (dk_int h1 q) Pl.le⟩
/-- one of some texts, at an open place -/
theorem ixTs (l : List Str) {i : Int} (h0 : 0 ≤ i) (h1 : i < l.length) (q : ∀ z, z ∈ l → Q (.str z) m) : ixD (.tup (l.map D.str)) (.int i) m Q := by
  have h2 : i.toNat < l.length := by omega
  exact ixTi h0 (d := .str l[i.toNat]) (by rw [List.getElem?_map, List.getElem?_eq_getElem h2]; rfl) (q _ (List.getElem_mem _))
/-- one of some numbers -/
theorem ixTn (l : List Int) {i : Int} (h0 : 0 ≤ i) (h1 : i < l.length) (q : ∀ z, z ∈ l → Q (.int z) m) : ixD (.tup (l.map D.int)) (.int i) m Q := by
  have h2 : i.toNat < l.length := by omega
  exact ixTi h0 (d := .int l[i.toNat]) (by rw [List.getElem?_map, List.getElem?_eq_getElem h2]; rfl) (q _ (List.getElem_mem _))
end
end G

/-! The data layer: keywords, defaults; ranges by steps; o[i] op= e; a comprehension as an object; isinstance of objects. -/
namespace G
open PySem PySem.Spec PyProof.Rows L2

theorem Hd.more {K : PySem.W.Frag} {r : Sto} {H : Hp} {m : Sto} {T T' : RT} (h : Hd K r H m T) (k : ∀ Hi, (∀ v d, T v d → Rep K Hi v d) → ∀ v d, T' v d → Rep K Hi v d) : Hd K r H m T' := by
  obtain ⟨h0, Hi, h1, h2, h3⟩ := h
  exact ⟨h0, Hi, h1, h2, k Hi h3⟩
theorem RepL.zip {K : PySem.W.Frag} {H : Hp} : ∀ {vs : List V} {ds : List D}, RepL K H vs ds → ∀ v d, (v, d) ∈ vs.zip ds → Rep K H v d
  | _, _, .nil, _, _, h => by simp at h
  | _, _, .cons r t, v, d, h => by
    rw [List.zip_cons_cons] at h
    rcases List.mem_cons.mp h with e | h
    · cases e; exact r
    · exact RepL.zip t v d h
theorem Hd.apps {K : PySem.W.Frag} {r : Sto} {H : Hp} {m : Sto} {T : RT} {vs us : List V} {ds es : List D} (h : Hd K r H m (PlL T vs ds)) (hl : vs.length = ds.length) (k : ∀ Hi, RepL K Hi us es) : Hd K r H m (PlL T (vs ++ us) (ds ++ es)) :=
  h.more fun Hi f v d t => by
    rcases t with t | t
    · exact f v d (.inl t)
    · rw [List.zip_append hl] at t
      rcases List.mem_append.mp t with t | t
      · exact f v d (.inr t)
      · exact RepL.zip (k Hi) v d t
/-- what a caller knows of the def x whose last parameters have the values dds -/
structure KnD (P : Program) (w : World) (K : PySem.W.Frag) (mg : Str → Option Value) (base : Heap) (x : Str) (k : Nat) (F : DF) (dds : List D) : Prop where
  ex : ∃ f fd ps its dvs, FnOk P w K mg base (L2.CX P w) k f fd ps (spD K F) ∧ mg x = some (.ref f) ∧ PySem.W.keepIn K (.ref f) = true ∧ Binds K fd ps its ∧ Vals dvs its ∧ dvs.length = dds.length ∧ ∀ Hi, RepL K Hi dvs dds
/-- .. called with n values and keywords ks behind them -/
structure KnK (P : Program) (w : World) (K : PySem.W.Frag) (mg : Str → Option Value) (base : Heap) (x : Str) (k : Nat) (F : DF) (n : Nat) (ks : List Str) : Prop where
  ex : ∃ f fd ps g, FnOk P w K mg base (L2.CX P w) k f fd ps (spD K F) ∧ mg x = some (.ref f) ∧ PySem.W.keepIn K (.ref f) = true ∧ KBn K fd ps n ks g (fun vs zs => vs ++ zs)
section
variable {C : Ct} {W : DW} {δ : Sl} {m : Sto} {a b c e : Expr} {es : List Expr} {pos pos' : Pos} {Q : D → Sto → Prop}
theorem de_callD {x : Str} {p : Pos} {k : Nat} {F : DF} {dds : List D} (kn : KnD C.P C.w C.K C.mg C.base x k F dds) (hk : Nat.ble k C.k = true) (hg : GlC C x) (h : DA C W (e :: es) δ m fun ds m1 => F (ds ++ dds) m1 Q fun cls fs m' => W cls fs δ m') (hdb : (x == ("__debug__" : Str)) = false := by decide) (hcm : C.cm = true := by rfl)
    (he : ∀ env, starEach (e :: es) env = (false, eval e env) :: starEach es env := by intro _; rfl) (hpl : ∀ env, (backTo pos (starEach es env)).any (·.1) = false := by intro _; rfl) : DE C W (.Call (.Name x p) (e :: es) [] pos) δ m Q := by
  intro X S fX tk σ H T le sl hh pins s I
  obtain ⟨f, fd, ps, its, dvs, ok, hm, kp, hb, hv, hlv, hrep⟩ := kn.ex
  rw [← fX.prog, ← fX.w, ← fX.K, ← fX.mg, ← fX.base] at ok
  rw [← fX.K] at kp hb
  refine wpAny_Call_Name_kw (ld_glob I (fX.gl hg) (by rw [fX.mg]; exact hm) ?_ hdb)
  refine PySem.W.callWith_K (h₀ := X.base) I.ok.mod.kin kp (thn (h X S fX tk σ H T le sl hh pos pins s I) fun us s1 ⟨vs, H1, I1, r, ds, m1, hl, h1, q⟩ => ⟨I1.kIn, ?_⟩) (he _) (hpl _)
  refine run_fnSD (E := L2.WE (liftW C.K W S)) (ok.mono (Nat.le_of_ble_eq_true hk)) (fX.room hcm) hb hv (passAt tk σ) I1 r ?_
  have z := spD_at (X := X) (S := S) (σ := σ) (Q := Q) (W := W) (δ := δ) le sl (vs := vs ++ dvs) (ds := ds ++ dds) (by rw [List.length_append, List.length_append, hl, hlv]) (h1.apps hl hrep) q
  rw [← fX.K] at z ⊢
  exact z
theorem run_kw {X : Cx} {CX : CXT} {pins : List (Addr × Obj)} {σ : L2.St} {H : Hp} {s : Shared} {Q : VK} {us ws : List Value} {vs zs : List V} {f : Addr} {fd : FuncData} {ps ks : List Str} {sp : Sp} {E : XK} {k n : Nat} {g : List Value → List Value → List Value} {gV : List V → List V → List V}
    (F : FnOk X.prog X.w X.K X.mg X.base CX k f fd ps sp) (room : Room k X.A) (hb : KBn X.K fd ps n ks g gV) (hx : PassesAt CX X σ E) (I : Inv X pins σ H s) (r : Vals vs us) (rz : Vals zs ws) (l1 : vs.length = n) (l2 : zs.length = ks.length) (h : sp (gV vs zs) H Q E) :
    wpAny (model X.prog X.w) X.A (call (.ref f) us (ks.zip ws)) (EP X pins σ Q) X.xe s := by
  have b := hb.to s us ws I.kIn (r.length.symm.trans l1) (rz.length.symm.trans l2)
  refine wpAny_call (codeAny_mono (F.run X.A X.stack s H ⟨us, ks.zip ws⟩ _ _ Q E room I.env0 b (hb.rel r rz) h) fun out s' hq => ?_)
  rcases out with err | fl
  · exact hx pins H s err s' I hq
  · cases fl <;> first | exact I.after hq | exact False.elim hq
/-- x(e, .., kw = v) -/
theorem de_callK {x kw : Str} {p kpos : Pos} {k n : Nat} {F : DF} {v : Expr} (kn : KnK C.P C.w C.K C.mg C.base x k F n [kw]) (hk : Nat.ble k C.k = true) (hg : GlC C x)
    (h : DA C W (e :: es) δ m fun ds m1 => ds.length = n ∧ DE C W v δ m1 fun d m2 => F (ds ++ [d]) m2 Q fun cls fs m' => W cls fs δ m') (hdb : (x == ("__debug__" : Str)) = false := by decide) (hcm : C.cm = true := by rfl)
    (he : ∀ env, starEach (e :: es) env = (false, eval e env) :: starEach es env := by intro _; rfl) (hall : ∀ env, (backToKw pos (keywordEach [⟨some kw, v, kpos⟩] env)).all (·.1.isSome) = true := by intro _; rfl)
    (hks : ∀ env, (backToKw pos (keywordEach [⟨some kw, v, kpos⟩] env)).filterMap (·.1) = [kw] := by intro _; rfl)
    (hpl : ∀ env, ((backTo pos (starEach (e :: es) env)).any (·.1) || (backToKw pos (keywordEach [⟨some kw, v, kpos⟩] env)).any (·.1.isNone)) = false := by intro _; rfl) : DE C W (.Call (.Name x p) (e :: es) [⟨some kw, v, kpos⟩] pos) δ m Q := by
  intro X S fX tk σ H T le sl hh pins s I
  obtain ⟨f, fd, ps, g, ok, hm, kp, hb⟩ := kn.ex
  rw [← fX.prog, ← fX.w, ← fX.K, ← fX.mg, ← fX.base] at ok
  rw [← fX.K] at kp hb
  refine wpAny_Call_Name_kw (ld_glob I (fX.gl hg) (by rw [fX.mg]; exact hm) ?_ hdb)
  refine PySem.W.callWith_KW (h₀ := X.base) I.ok.mod.kin kp (hall _) (thn (h X S fX tk σ H T le sl hh pos pins s I) fun us s1 ⟨vs, H1, I1, r, ds, m1, hl, h1, hn, q⟩ => ?_) (hpl _) (he _)
  have pk : PK X [⟨some kw, v, kpos⟩] (tCons (WE X v) tNil) := pk_cons we pk_nil
  have lel : Le T (PlL T vs ds) := PlL.le
  refine thn (pk.run pos pins s1 σ H1 (fun zs H2 => ∃ z d m2, zs = [z] ∧ Hd C.K S.r H2 m2 (Pl (PlL T vs ds) z d) ∧ F (ds ++ [d]) m2 Q fun cls fs m' => W cls fs δ m') I1 ?_) fun ws s2 ⟨zs, H2, I2, rz, z, d, m2, ez, h2, q2⟩ => ⟨I2.kIn, ?_⟩
  · exact WE.mono (q X S fX tk σ H1 (PlL T vs ds) (le.trans lel) (sl.le lel) h1) fun z H2 ⟨d, m2, h2, q2⟩ => ⟨z, d, m2, rfl, h2, q2⟩
  · subst ez
    rw [hks]
    refine run_kw (E := L2.WE (liftW C.K W S) σ) (ok.mono (Nat.le_of_ble_eq_true hk)) (fX.room hcm) hb (passAt tk σ) I2 r rz (hl.trans hn) rfl ?_
    have h3 : Hd C.K S.r H2 m2 (PlL T (vs ++ [z]) (ds ++ [d])) := h2.le fun x y t => by
      rcases t with t | t
      · exact .inl (.inl t)
      · rw [List.zip_append hl] at t
        rcases List.mem_append.mp t with t | t
        · exact .inl (.inr t)
        · rw [List.zip_cons_cons, List.zip_nil_left, List.mem_singleton] at t
          cases t
          exact Pl.it
    have w := spD_at (X := X) (S := S) (σ := σ) (Q := Q) (W := W) (δ := δ) le sl (vs := vs ++ [z]) (ds := ds ++ [d]) (by rw [List.length_append, List.length_append, hl]; rfl) h3 q2
    rw [← fX.K] at w ⊢
    exact w
/-! ### range(a, b, c) -/
def rngC (lo c : Int) (n : Nat) : List G.D := (List.range n).map fun i => .int (lo + (i : Nat) * c)
theorem rngC_len {lo c : Int} {n : Nat} : (rngC lo c n).length = n := by simp [rngC]
theorem rngC_get {lo c : Int} {n i : Nat} {d : G.D} (h : (rngC lo c n)[i]? = some d) : i < n ∧ d = .int (lo + (i : Nat) * c) := by
  have hi : i < n := by
    have := (List.getElem?_eq_some_iff.mp h).1
    rwa [rngC_len] at this
  refine ⟨hi, ?_⟩
  rw [rngC, List.getElem?_map, List.getElem?_range hi] at h
  exact (Option.some.inj h).symm
theorem walks_rngC {K : PySem.W.Frag} {lo c : Int} {n : Nat} {T : RT} : Walks K (Itc lo c n) (rngC lo c n) T :=
  ⟨fun i r H m T' hi l hd => by rw [rngC_len] at hi; exact hi, fun i r H H' m T' x d hi l hd y => by
    obtain ⟨e, ex⟩ := y
    subst e ex
    obtain ⟨_, ed⟩ := rngC_get hi
    subst ed
    exact hd.pl fun _ _ => .int _, fun i r H m T' hi l hd => by rw [rngC_len] at hi; exact hi⟩
variable {tg : Expr}
theorem di_rng3 {R : List G.D → Sto → Prop} {p : Pos} (hg : GlC C "range") (hm : C.mg "range" = none) (h : DA C W [a, b, c] δ m fun ds m1 => ∃ (i j k : Int) (n : Nat), ds = [.int i, .int j, .int k] ∧ RgC i j k n ∧ R (rngC i k n) m1)
    (hs : ∀ env, starEach [a, b, c] env = (false, eval a env) :: starEach [b, c] env := by intro _; rfl) (hpl : ∀ env, (backTo pos (starEach [b, c] env)).any (·.1) = false := by intro _; rfl) : DI C W tg (.Call (.Name "range" p) [a, b, c] [] pos) δ m R := by
  intro X S f tk σ H T le sl hh
  refine WI.of (pi_range3 (f.gl hg) (by rw [f.mg]; exact hm) wa (hs _) (hpl _)) ((h X S f tk σ H T le sl hh).mono fun vs H1 ⟨ds, m1, hl, h1, i, j, k, n, ed, hr, q⟩ => ?_)
  subst ed
  match vs, hl with
  | [u, v, w], _ =>
    have r1 := h1.rep (PlL.at (i := 0) (v := u) (d := .int i) rfl rfl)
    have r2 := h1.rep (PlL.at (i := 1) (v := v) (d := .int j) rfl rfl)
    have r3 := h1.rep (PlL.at (i := 2) (v := w) (d := .int k) rfl rfl)
    cases r1
    cases r2
    cases r3
    exact ⟨i, j, k, n, rfl, hr, _, m1, _, PlL.le, h1, walks_rngC, q⟩
/-- of a length -/
theorem rgC_len {l : Nat} {c : Int} (hl : l ≤ 16777216) (hc : 1 ≤ c) (hc2 : c < 1048576) : RgC 0 l c (((l : Int) + c - 1) / c).toNat := by
  have e := PyProof.Rows.rangeSize_pos (len := (l : Int)) (c := c) hc (by omega)
  have h0 : 0 ≤ ((l : Int) + c - 1) / c := Int.ediv_nonneg (by omega) (by omega)
  have h1 : ((l : Int) + c - 1) / c ≤ (l : Int) + c - 1 := Int.ediv_le_self _ (by omega)
  refine ⟨by omega, by omega, ?_, by rw [e]; omega⟩
  unfold Builtin.Range.small
  rw [e]
  simp only [Builtin.Range.rangeFitsLong, Bool.and_eq_true, Bool.or_eq_true, decide_eq_true_eq, beq_iff_eq]
  rw [if_pos (by omega)]
  simp only [Bool.and_eq_true, decide_eq_true_eq]
  omega
/-! ### o[i] += e -/
theorem get_list {X : Cx} : PGet X fun o i H Q => ∃ (p : Addr) (xs : List V) (k : Int) (z : V), o = V.ref p ∧ i = V.int k ∧ H p = some (.lst xs) ∧ atI xs k = some z ∧ Q z H := by
  intro pins s σ H o i ov iv Q I ro ri h
  obtain ⟨p, xs, k, z, rfl, rfl, hq, he, q⟩ := h
  cases ro
  obtain ⟨t, rfl⟩ := ri
  obtain ⟨its, r, pl, hz⟩ := I.list (SqL.of hq)
  obtain ⟨j, h1, h2, h3, h4, h5⟩ := atI_get he
  obtain ⟨w, ew, rw'⟩ := r.get h2
  have hl := r.length
  have hn := line63
  by_cases h0 : 0 ≤ k
  · have hj : k.toNat = j := by
      rw [seqIndex_of h0 h5] at h1
      exact Option.some.inj h1
    exact wpAny_getItem_list pl.isList h0 (by omega) (by rw [hj]; simpa using ew) ⟨z, H, I, rw', q⟩
  · have hj : (k + (its.toArray.size : Int)).toNat = j := by
      rw [seqIndex_neg (by omega) h4] at h1
      rw [List.size_toArray, ← hl]
      exact Option.some.inj h1
    exact wpAny_getItem_list_neg pl.isList (by omega) (by rw [List.size_toArray] <;> omega) (by omega) (by rw [hj]; simpa using ew) ⟨z, H, I, rw', q⟩
def augD (C : Ct) (x y d : G.D) (m : Sto) (k : G.D → Sto → Prop) : Prop := ∃ p ds j z, x = .ref p ∧ y = .int j ∧ m p = some (.lst ds) ∧ atI ds j = some z ∧ d = d ∧ k z m
/-- texts at p[i] -/
theorem ds_augS {o i : Expr} {tpos : Pos} {D : DEn} (h : DE C W o δ m fun x m1 => DE C W i δ m1 fun y m2 => ∃ p ds j n z, x = .ref p ∧ y = .int j ∧ m2 p = some (.lst ds) ∧ atI ds j = some (.str z) ∧ ixN ds.length j = some n ∧
      DE C W e δ m2 fun d m3 => ∃ u, d = .str u ∧ m3 p = some (.lst ds) ∧ z.length + u.length ≤ sizeLine ∧ D.nx δ (sput m3 p (.lst (ds.set n (.str (z ++ u))))))
    (ha : ∀ ov iv new, augStore i ov iv new = (do holding [new, ov, iv] (setItem ov iv new); release [new, ov, iv] []; pure .next) := by intros; rfl) : DS C W (.AugAssign (.Subscript o i tpos) .Add e pos) δ m D := by
  intro X S f tk σ H T le sl hh
  have hadd : PIp X .Add (fun x y H Q => ∃ i j : Str, x = V.str i ∧ y = V.str j ∧ i.length + j.length ≤ sizeLine ∧ Q (.str (i ++ j)) H) := fun pins s σ H x y u v Q I rx ry h => iop_add_str pins s σ H x y u v Q I rx ry h
  refine WS.of (ps_augS we we get_list we hadd set_list ha) ?_
  refine (h X S f tk σ H T le sl hh).mono fun v H1 ⟨x, m1, h1, q1⟩ => ?_
  refine (q1 X S f tk σ H1 _ (le.trans Pl.le) (sl.le Pl.le) h1).mono fun u H2 ⟨y, m2, h2, p, ds, j, n, z, ex, ey, hm, hz, hn, q2⟩ => ?_
  subst ex ey
  have rv := h2.rep (.inl Pl.it : Pl (Pl T v (.ref p)) u (.int j) v (.ref p))
  have ru := h2.rep (Pl.it (T := Pl T v (.ref p)) (v := u) (d := .int j))
  cases rv
  cases ru
  obtain ⟨xs, hq, hl, h3⟩ := h2.itemsO hm
  obtain ⟨zv, k, e1, e2, e3⟩ := atI_rep hl hz
  have tz := PlL.at (T := Pl (Pl T (.ref p) (.ref p)) (.int j) (.int j)) e2 e3
  have rz := h3.rep tz
  cases rz
  refine ⟨p, xs, j, _, rfl, rfl, hq, e1, ?_⟩
  have lel : Le T (PlL (Pl (Pl T (.ref p) (.ref p)) (.int j) (.int j)) xs ds) := (Pl.le.trans Pl.le).trans PlL.le
  refine (q2 X S f tk σ H2 _ (le.trans lel) (sl.le lel) h3).mono fun d H3 ⟨dd, m3, h4, w, ed, hm3, hsz, q3⟩ => ?_
  subst ed
  have rd := h4.rep Pl.it
  cases rd
  refine ⟨z, w, rfl, rfl, hsz, ?_⟩
  obtain ⟨ys, hq3, hl3, _⟩ := h4.itemsO hm3
  refine ⟨p, ys, j, n, rfl, rfl, hq3, by rw [hl3]; exact hn, ?_⟩
  have h5 := h4.mut (u' := .lst (ys.set n (.str (z ++ w)))) (o' := .lst (ds.set n (.str (z ++ w)))) hm3 hq3 fun Hi r kk => RepL.set n r (.str _)
  exact lift_nx (le.trans (lel.trans Pl.le)) (sl.le (lel.trans Pl.le)) h5 q3
/-! ### a comprehension as an object -/
theorem de_lcM {elt tg iter : Expr} {ifs : List Expr} {scope : Scope} (own : List (Str × Nat)) {Q : G.D → Sto → Prop} (ok : blkC C.N C.sc scope own = true)
    (h : LcI C W elt tg iter ifs scope own δ m fun d m1 => ∀ p acc, d = .lst acc → m1 p = none → Q (.ref p) (sput m1 p (.lst acc))) (hs : ∀ env x, foldedSetIterable iter env x = pure x := by intro _ _; rfl) (hcm : C.cm = true := by rfl) : DE C W (.ListComp elt [⟨tg, iter, ifs, 0⟩] scope pos) δ m Q := by
  intro X S f tk σ H T le sl hh
  have okB : BlkOk X.N X.env.scope scope own := by rw [f.N, f.sc]; exact blkOk_by ok
  refine WE.of (pe_lc (te := rdE X scope elt) (tt := rdT X scope ifs) (g := rdG X scope tg) (f.calm hcm) f.nd wi okB (fun s H c cl fp => ⟨fun pins t σ H v u Q I r q => q s _ c cl fp pins t u I r⟩) (fun s H c cl fp => ⟨fun pins t σ H Q I q => q s _ c cl fp pins t I⟩) (fun s H c cl fp => ⟨fun pins t σ H Q I q => q s _ c cl fp pins t I⟩) (hs _)) ?_
  exact lc_read h f tk le sl hh fun p H' acc m' T' l hm hd q => ⟨.ref p, _, (hd.pl fun _ _ => .ref p).le (Pl.mono l), q p acc rfl hm⟩
/-! ### isinstance of objects -/
def tyM (d : G.D) (m : Sto) : Option String := match d with
  | .ref p => (match m p with
    | some (.lst _) => some "list"
    | _ => none)
  | d => tyD d
theorem Hd.tyM {K : PySem.W.Frag} {fr : Sto} {H : Hp} {m : Sto} {T : RT} {v : V} {d : G.D} {t : String} (h : Hd K fr H m T) (x : T v d) (e : tyM d m = some t) : TyX K H v (.type t) := by
  cases d with
  | ref p =>
    have r := h.rep x
    cases r
    have e : (match m p with | some (.lst _) => some "list" | _ => none) = some t := e
    cases q : m p with
    | none =>
      rw [q] at e
      cases e
    | some o =>
      rw [q] at e
      cases o with
      | lst ds =>
        cases e
        obtain ⟨xs, hq, _⟩ := h.itemsO q
        exact .base (.lst hq)
      | _ => cases e
  | _ => exact h.tyX x e
def isiM : RLD := fun ds m Q => ∃ d t n b, ds = [d, .ty n] ∧ tyM d m = some t ∧ kitB t n = some b ∧ Q (.bl b) m
theorem cd_isiM : CallD C (.builtin "isinstance") isiM := by
  rintro X f fr H m T vs ds Q hl hh ⟨d, t, n, b, rfl, ht, hk, q⟩
  obtain ⟨v, u, rfl⟩ := two_of hl
  have ty := hh.tyM (PlL.at (i := 0) (v := v) (d := d) rfl rfl) ht
  have r := hh.rep (PlL.at (i := 1) (v := u) (d := .ty n) rfl rfl)
  cases r
  exact wc_of call_isi ⟨v, .ty n, .type t, .type n, b, rfl, .ty n, by rw [f.K]; exact ty, kit_ty hk, dK.le (dk_bl hh q) PlL.le⟩
/-! ### a list that is an object, compared with data -/
def eqM (neg : Bool) : R2D := fun d e m Q => ∃ p l n, d = .ref p ∧ m p = some (.lst l) ∧ n ≤ 60 ∧ okD n (.lst l) = true ∧ okD n e = true ∧ Q (.bl (if neg then !eqvD (.lst l) e else eqvD (.lst l) e)) m
theorem Hd.repO {K : PySem.W.Frag} {fr : Sto} {H : Hp} {m : Sto} {T : RT} {p : Addr} {l : List G.D} (hh : Hd K fr H m T) (hm : m p = some (.lst l)) : Rep K H (.ref p) (.lst l) := by
  obtain ⟨xs, hq, hl, h3⟩ := hh.itemsO hm
  have hr : ∀ (vs : List V) (ds : List G.D), vs.length = ds.length → (∀ v d, (v, d) ∈ vs.zip ds → Rep K H v d) → RepL K H vs ds := by
    intro vs
    induction vs with
    | nil =>
      intro ds hl _
      cases ds with
      | nil => exact .nil
      | cons => cases hl
    | cons v vs ih =>
      intro ds hl hz
      cases ds with
      | nil => cases hl
      | cons d ds => exact .cons (hz v d (by rw [List.zip_cons_cons]; exact List.mem_cons_self)) (ih ds (by simpa using hl) fun v' d' h => hz v' d' (by rw [List.zip_cons_cons]; exact List.mem_cons_of_mem _ h))
  exact .lst hq (hr xs l hl fun v d h => h3.rep (.inr h))
theorem od_neM : OpD C (compareOp .NotEq) (eqM true) := by
  rintro X f fr H m T x y d e Q hh tx ty ⟨p, l, n, rfl, hm, hn, o1, o2, q⟩
  have rx := hh.rep tx
  cases rx
  exact wb_of (op_neD (by have := f.un; omega)) ⟨_, _, by rw [f.K]; exact (hh.repO hm).dp n o1, by rw [f.K]; exact (hh.rep ty).dp n o2, okD_shaped o1 hn, okD_shaped o2 hn, dk_bl hh q⟩
theorem od_eqM : OpD C (compareOp .Eq) (eqM false) := by
  rintro X f fr H m T x y d e Q hh tx ty ⟨p, l, n, rfl, hm, hn, o1, o2, q⟩
  have rx := hh.rep tx
  cases rx
  exact wb_of (op_eqD (by have := f.un; omega)) ⟨_, _, by rw [f.K]; exact (hh.repO hm).dp n o1, by rw [f.K]; exact (hh.rep ty).dp n o2, okD_shaped o1 hn, okD_shaped o2 hn, dk_bl hh q⟩
theorem ixOn {Q : G.D → Sto → Prop} {p : Addr} {ds : List G.D} {d : G.D} (hm : m p = some (.lst ds)) (h : ds.getLast? = some d) (q : Q d m) : ixD (.ref p) (.int (-1)) m Q := ⟨ds, d, hm, atI_neg h, q⟩
theorem ixN_neg {n : Nat} (h : 1 ≤ n) : ixN n (-1) = some (n - 1) := by
  unfold ixN
  rw [if_neg (by omega), if_pos (by omega)]
  congr 1
  omega
end
end G

/-! The data layer: a list that is an object and data, joined; objects forgotten. -/
namespace G
open PySem PySem.Spec PyProof.Rows L2
theorem Hd.drop {K : PySem.W.Frag} {r : Sto} {H : Hp} {m : Sto} {T : RT} (p : Addr) (h : Hd K r H m T) : Hd K r H (sdel m p) T := by
  obtain ⟨h0, Hi, h1, h2, h3⟩ := h
  have key : ∀ a o, sdel m p a = some o → m a = some o := fun a o e => by
    unfold sdel at e
    split at e
    · cases e
    · exact e
  refine ⟨fun a o e => h0 a o (key a o e), Hi, h1, fun a o e => h2 a o ?_, h3⟩
  cases q : sdel m p a with
  | some u =>
    rw [sun_l q] at e
    rw [sun_l (key a u q)]
    exact e
  | none =>
    rw [sun_r q] at e
    cases q2 : m a with
    | none => rw [sun_r q2]; exact e
    | some u =>
      have := h0 a u q2
      rw [this] at e
      cases e
section
variable {C : Ct} {W : DW} {δ : Sl} {m : Sto} {sts : List Stmt} {D : DEn} {Q : G.D → Sto → Prop}
theorem dss_drop (p : Addr) (h : DSs C W sts δ (sdel m p) D) : DSs C W sts δ m D := fun X S f tk σ H T le sl hh => h X S f tk σ H T le sl (hh.drop p)
/-- p + l -/
def addM : R2D := fun d e m Q => ∃ p l x, d = .ref p ∧ e = .lst x ∧ m p = some (.lst l) ∧ l.length + x.length ≤ sizeLine ∧ ∀ q, m q = none → Q (.ref q) (sput m q (.lst (l ++ x)))
theorem od_addM : OpD C (binaryOp .Add) addM := by
  rintro X f fr H m T x y d e Q hh tx ty ⟨p, l, ys, rfl, rfl, hm, hz, q⟩
  have rx := hh.rep tx
  cases rx
  obtain ⟨us, hu, lu, h1⟩ := hh.itemsO hm
  obtain ⟨b, vs, rfl, hv, lv, h2⟩ := h1.itemsL (PlL.le _ _ ty)
  refine wb_of op_cat ⟨p, b, us, vs, rfl, rfl, hu, hv, by rw [lu, lv]; exact hz, fun p' hp => ?_⟩
  refine dK.le (dk_lstM h2 hp (fun Hi k => (PlL.rep lu fun v d z => k v d (.inl z)).append (PlL.rep (T := T) lv fun v d z => k v d (z.elim (fun w => .inl (.inl w)) .inr))) q) (PlL.le.trans PlL.le)
end
theorem drop_put {m : Sto} {q q2 : Addr} {o o2 : O} (h : m q = none) (h2 : sput m q o q2 = none) : sdel (sput (sput m q o) q2 o2) q = sput m q2 o2 := by
  have ne : q2 ≠ q := fun e => by
    subst e
    rw [sput_same] at h2
    cases h2
  funext x
  unfold sdel sput
  split
  · rename_i e
    subst e
    rw [if_neg (Ne.symm ne), h]
  · rfl
theorem new_put {m : Sto} {q q2 : Addr} {o : O} (h2 : sput m q o q2 = none) : m q2 = none := by
  unfold sput at h2
  split at h2
  · cases h2
  · exact h2
end G

/-! The data layer: sums and least ones of lists of numbers; slices between; signs at the ends. -/
namespace G
open PySem PySem.Spec PyProof.Rows L2
theorem ints_of {K : PySem.W.Frag} {H : Hp} : ∀ {xs : List V} {ns : List Int}, RepL K H xs (ns.map D.int) → xs = ns.map V.int
  | _, [], .nil => rfl
  | _, n :: ns, .cons r t => by
    cases r
    rw [ints_of t]
    rfl
section
variable {C : Ct} {W : DW} {δ : Sl} {m : Sto} {sts : List Stmt} {D : DEn} {Q : G.D → Sto → Prop}
theorem Hd.seqR {K : PySem.W.Frag} {fr : Sto} {H : Hp} {m : Sto} {T : RT} {v : V} {d : G.D} {l : List G.D} (h : Hd K fr H m T) (t : T v d) (e : itemsD d m = some l) : ∃ a xs, v = .ref a ∧ (SqL K H a xs ∨ SqT K H a xs) ∧ RepL K H xs l := by
  obtain ⟨a, xs, rfl, hq, hl, h4⟩ := h.seq t e
  exact ⟨a, xs, rfl, hq, RepL.of_zip hl fun v d z => h4.rep (.inr z)⟩
def sumD : RLD := fun ds m Q => ∃ ns : List Int, ds = [.lst (ns.map G.D.int)] ∧ Q (.int ns.sum) m
theorem cd_sum (hcm : C.cm = true := by rfl) : CallD C (.builtin "sum") sumD := by
  rintro X f fr H m T vs ds Q hl hh ⟨ns, rfl, q⟩
  obtain ⟨v, rfl⟩ := one_of hl
  obtain ⟨a, xs, rfl, hq, r⟩ := hh.repsL (PlL.at (i := 0) (v := v) (d := .lst (ns.map G.D.int)) rfl rfl)
  have e := ints_of r
  subst e
  exact wc_of (cr_sum (f.calm hcm)) ⟨a, ns, rfl, SqL.of hq, dK.le (dk_int hh q) PlL.le⟩
/-- the least of a list that is an object -/
def minM : RLD := fun ds m Q => ∃ (p : Addr) (ns : List Int), ds = [.ref p] ∧ m p = some (.lst (ns.map G.D.int)) ∧ 0 < ns.length ∧ ∀ z, z ∈ ns → (∀ y, y ∈ ns → z ≤ y) → Q (.int z) m
theorem cd_minM (hcm : C.cm = true := by rfl) : CallD C (.builtin "min") minM := by
  rintro X f fr H m T vs ds Q hl hh ⟨p, ns, rfl, hm, h0, q⟩
  obtain ⟨v, rfl⟩ := one_of hl
  have rv := hh.rep (PlL.at (i := 0) (v := v) (d := .ref p) rfl rfl)
  cases rv
  obtain ⟨xs, hq, hxl, h4⟩ := hh.itemsO hm
  have e := ints_of (RepL.of_zip hxl fun v d z => h4.rep (.inr z))
  subst e
  exact wc_of (cr_min (f.calm hcm)) ⟨p, ns, rfl, SqL.of hq, h0, fun z hz hle => dK.le (dk_int hh (q z hz hle)) PlL.le⟩
/-- an object is forgotten behind an expression -/
theorem de_drop {e : Expr} (p : Addr) (h : DE C W e δ m fun d m1 => Q d (sdel m1 p)) : DE C W e δ m Q := fun X S f tk σ H T le sl hh => (h X S f tk σ H T le sl hh).mono fun v H' ⟨d, m', a, b⟩ => ⟨d, sdel m' p, a.drop p, b⟩
theorem drop_tri {p q : Addr} {a b c : O} (h : sput m p a q = none) : sdel (sput (sput (sput m p a) q b) p c) q = sput m p c := by
  have ne : q ≠ p := fun e => by
    subst e
    rw [sput_same] at h
    cases h
  funext x
  unfold sdel
  by_cases hx : x = q
  · subst hx
    rw [if_pos rfl, sput_ne ne]
    rw [sput_ne ne] at h
    exact h.symm
  · rw [if_neg hx]
    unfold sput
    split
    · rfl
    · first | rfl | rw [if_neg hx]
theorem cutL_mid {α : Type} (xs : List α) {a b : Nat} (h : a ≤ b) (h2 : b ≤ xs.length) : cutL xs (some (a : Int)) (some (b : Int)) = (xs.drop a).take (b - a) := by
  unfold cutL
  rw [show HT.sIx xs.length xs.length (some (b : Int)) = min b xs.length from HT.sIx_nat xs.length xs.length b, show HT.sIx xs.length 0 (some (a : Int)) = min a xs.length from HT.sIx_nat xs.length 0 a]
  rw [Nat.min_eq_left h2, Nat.min_eq_left (by omega)]
theorem sg_ne {c d : Nat} (h : c ≠ d) : ¬ (⟨#[c]⟩ : Str) = ⟨#[d]⟩ := fun e => h (by
  have := congrArg TL.tl e
  exact (List.cons.inj (show [c] = [d] from this)).1)
theorem ix_first {z : Str} {c : Nat} (h : (TL.tl z).head? = some c) (h2 : z.length ≤ 1000000) (q : Q (.str ⟨#[c]⟩) m) : ixD (.str z) (.int 0) m Q := by
  have e : z.cps.toList[0]? = some c := by rw [← List.head?_eq_getElem?]; exact h
  exact ⟨c, by have hz := sizeLine_eq; omega, atI_nat (j := 0) e, q⟩
theorem ix_last {z : Str} {c : Nat} (h : (TL.tl z).getLast? = some c) (h2 : z.length ≤ 1000000) (q : Q (.str ⟨#[c]⟩) m) : ixD (.str z) (.int (-1)) m Q :=
  ⟨c, by have hz := sizeLine_eq; omega, atI_neg h, q⟩
end
end G

/-! The data layer: a caught error by its name; calls with several keywords; a text times a number. -/
namespace G
open PySem PySem.Spec PyProof.Rows L2
/-! ### text times number -/
theorem op_mul_str {X : Cx} : OpR X (binaryOp .Mult) (fun x y H Q => ∃ i k, x = .str i ∧ y = .int k ∧ MulOk i k ∧ Q (.str (Txt.mul i k)) H) := by
  intro pins s σ H x y v u Q I rx ry h
  obtain ⟨i, k, rfl, rfl, hz, q⟩ := h
  obtain ⟨t, rfl⟩ := rx
  obtain ⟨t', rfl⟩ := ry
  exact PySem.SB.mul hz fun t' tk => ⟨.str (Txt.mul i k), H, I.tok _, ⟨_, rfl⟩, q⟩
def mulS : R2D := fun x y m Q => ∃ i k, x = .str i ∧ y = .int k ∧ MulOk i k ∧ Q (.str (Txt.mul i k)) m
theorem od_mulS {C : Ct} : OpD C (binaryOp .Mult) mulS := by
  rintro X f fr H m T x y d e Q hh tx ty ⟨i, k, rfl, rfl, hz, q⟩
  have rx := hh.rep tx
  have ry := hh.rep ty
  cases rx
  cases ry
  exact wb_of op_mul_str ⟨_, _, rfl, rfl, hz, dk_str hh q⟩
theorem mulok {z : Str} {k : Int} (h1 : z.length ≤ 1000) (h2 : -5000 ≤ k) (h3 : k ≤ 5000) : MulOk z k := by
  refine ⟨by simp; omega, fun h4 _ => ?_, fun h4 _ => ?_⟩
  · have : (1000 : Int) ≤ (2 ^ 63 - 1) / k := by
      refine (Int.le_ediv_iff_mul_le (by omega)).mpr ?_
      omega
    omega
  · unfold PySem.Builtin.Str.tooLong
    have h5 : z.length * k.toNat ≤ 1000 * 5000 := Nat.mul_le_mul h1 (by omega)
    have hz := sizeLine_eq
    simp
    omega
theorem tl_rep (x : Array Nat) : ∀ (n : Nat) (acc : Array Nat), ((List.replicate n x).foldl (· ++ ·) acc).toList = acc.toList ++ (List.replicate n x.toList).flatten
  | 0, acc => by simp
  | n + 1, acc => by
    rw [List.replicate_succ, List.foldl_cons, tl_rep x n, List.replicate_succ, List.flatten_cons, Array.toList_append, List.append_assoc]
theorem mul_tl (z : Str) (k : Int) : TL.tl (Txt.mul z k) = (List.replicate k.toNat (TL.tl z)).flatten := by
  unfold Txt.mul
  split
  · rename_i h
    rw [show k.toNat = 0 from by omega]
    rfl
  · split
    · rename_i h1 h2
      simp only [Bool.or_eq_true, beq_iff_eq] at h2
      rcases h2 with h2 | h2
      · subst h2
        simp
      · have e := TL.len_tl z
        have : TL.tl z = [] := List.length_eq_zero_iff.mp (by omega)
        rw [this]
        simp
    · show ((List.replicate k.toNat z.cps).foldl (· ++ ·) #[]).toList = _
      rw [tl_rep]
      simp
/-! ### calls with several keywords -/
/-- called with n values and keywords ks; gD: the values in the order of the parameters -/
structure KnG (P : Program) (w : World) (K : PySem.W.Frag) (mg : Str → Option Value) (base : Heap) (x : Str) (k : Nat) (F : DF) (n : Nat) (ks : List Str) (gD : List D → List D → List D) : Prop where
  ex : ∃ f fd ps g gV, FnOk P w K mg base (L2.CX P w) k f fd ps (spD K F) ∧ mg x = some (.ref f) ∧ PySem.W.keepIn K (.ref f) = true ∧ KBn K fd ps n ks g gV ∧ ∀ Hi vs ds zs es, RepL K Hi vs ds → RepL K Hi zs es → ds.length = n → es.length = ks.length → RepL K Hi (gV vs zs) (gD ds es)
section
variable {C : Ct} {W : DW} {δ : Sl} {m : Sto} {a b c e : Expr} {es : List Expr} {pos pos' : Pos} {Q : D → Sto → Prop}
def DKs (C : Ct) (W : DW) (δ : Sl) : List Keyword → Sto → (List D → Sto → Prop) → Prop
  | [], m, Q => Q [] m
  | k :: ks, m, Q => DE C W k.value δ m fun d m1 => DKs C W δ ks m1 fun ds m2 => Q (d :: ds) m2
theorem dks_nil {Q : List D → Sto → Prop} (q : Q [] m) : DKs C W δ [] m Q := q
theorem dks_cons {k : Keyword} {ks : List Keyword} {Q : List D → Sto → Prop} (h : DE C W k.value δ m fun d m1 => DKs C W δ ks m1 fun ds m2 => Q (d :: ds) m2) : DKs C W δ (k :: ks) m Q := h
def pkT (X : Cx) : List Keyword → TA
  | [] => tNil
  | k :: ks => tCons (WE X k.value) (pkT X ks)
theorem pkT_ok {X : Cx} : ∀ ks : List Keyword, PK X ks (pkT X ks)
  | [] => pk_nil
  | ⟨_, _, _⟩ :: ks => pk_cons we (pkT_ok ks)
theorem pkT_run {X : Cx} {S : Fr} (f : Fits C X) (tk : Takes X (liftW C.K W S)) : ∀ (ks : List Keyword) {σ : L2.St} {H : Hp} {m : Sto} {T : RT} {Q : List D → Sto → Prop}, Le S.t T → SlotsIn σ δ T → Hd C.K S.r H m T → DKs C W δ ks m Q →
    pkT X ks σ H fun zs H2 => ∃ es m2, zs.length = es.length ∧ es.length = ks.length ∧ Hd C.K S.r H2 m2 (PlL T zs es) ∧ Q es m2
  | [], σ, H, m, T, Q, le, sl, hh, h => ⟨[], m, rfl, rfl, hh.le fun x y z => z.elim id fun w => by simp at w, h⟩
  | k :: ks, σ, H, m, T, Q, le, sl, hh, h => by
    refine (h X S f tk σ H T le sl hh).mono fun v H1 ⟨d, m1, h1, q⟩ => ?_
    have z := pkT_run f tk ks (T := Pl T v d) (le.trans Pl.le) (sl.le Pl.le) h1 q
    have mono : ∀ (ks : List Keyword) {σ : L2.St} {H : Hp} {Q Q' : List V → Hp → Prop}, (∀ zs H, Q zs H → Q' zs H) → pkT X ks σ H Q → pkT X ks σ H Q' := by
      intro ks
      induction ks with
      | nil => intro σ H Q Q' k h; exact k _ _ h
      | cons a l ih => intro σ H Q Q' k h; exact WE.mono h fun v H' q => ih (fun zs H q => k _ _ q) q
    refine mono ks (fun zs H2 => ?_) z
    rintro ⟨es, m2, hl, hlk, h2, q2⟩
    refine ⟨d :: es, m2, by rw [List.length_cons, List.length_cons, hl], by rw [List.length_cons, List.length_cons, hlk], h2.le fun x y t => ?_, q2⟩
    rcases t with t | t
    · exact .inl (.inl t)
    · rw [List.zip_cons_cons] at t
      rcases List.mem_cons.mp t with t | t
      · cases t
        exact .inl Pl.it
      · exact .inr t
theorem PlL.repOf {K : PySem.W.Frag} {T : RT} {vs zs : List V} {ds es : List D} {Hi : Hp} (hl : vs.length = ds.length) (f : ∀ v d, PlL (PlL T vs ds) zs es v d → Rep K Hi v d) : RepL K Hi vs ds := RepL.of_zip hl fun v d q => f v d (.inl (.inr q))
/-- x(e, .., k = v, ..) -/
theorem de_callG {x : Str} {p : Pos} {k n : Nat} {F : DF} {kws : List Keyword} {ks : List Str} {gD : List D → List D → List D} (kn : KnG C.P C.w C.K C.mg C.base x k F n ks gD) (hk : Nat.ble k C.k = true) (hg : GlC C x)
    (h : DA C W (e :: es) δ m fun ds m1 => ds.length = n ∧ DKs C W δ kws m1 fun es m2 => F (gD ds es) m2 Q fun cls fs m' => W cls fs δ m') (hkl : kws.length = ks.length := by rfl) (hdb : (x == ("__debug__" : Str)) = false := by decide) (hcm : C.cm = true := by rfl)
    (he : ∀ env, starEach (e :: es) env = (false, eval e env) :: starEach es env := by intro _; rfl) (hall : ∀ env, (backToKw pos (keywordEach kws env)).all (·.1.isSome) = true := by intro _; rfl)
    (hks : ∀ env, (backToKw pos (keywordEach kws env)).filterMap (·.1) = ks := by intro _; rfl)
    (hpl : ∀ env, ((backTo pos (starEach (e :: es) env)).any (·.1) || (backToKw pos (keywordEach kws env)).any (·.1.isNone)) = false := by intro _; rfl) : DE C W (.Call (.Name x p) (e :: es) kws pos) δ m Q := by
  intro X S fX tk σ H T le sl hh pins s I
  obtain ⟨f, fd, ps, g, gV, ok, hm, kp, hb, hrep⟩ := kn.ex
  rw [← fX.prog, ← fX.w, ← fX.K, ← fX.mg, ← fX.base] at ok
  rw [← fX.K] at kp hb
  refine wpAny_Call_Name_kw (ld_glob I (fX.gl hg) (by rw [fX.mg]; exact hm) ?_ hdb)
  refine PySem.W.callWith_KW (h₀ := X.base) I.ok.mod.kin kp (hall _) (thn (h X S fX tk σ H T le sl hh pos pins s I) fun us s1 ⟨vs, H1, I1, r, ds, m1, hl, h1, hn, q⟩ => ?_) (hpl _) (he _)
  have lel : Le T (PlL T vs ds) := PlL.le
  refine thn ((pkT_ok kws).run pos pins s1 σ H1 _ I1 (pkT_run fX tk kws (le.trans lel) (sl.le lel) h1 q)) fun ws s2 ⟨zs, H2, I2, rz, es2, m2, hl2, hlk2, h2, q2⟩ => ⟨I2.kIn, ?_⟩
  have hlz : zs.length = ks.length := hl2.trans (hlk2.trans hkl)
  rw [hks]
  refine run_kw (E := L2.WE (liftW C.K W S) σ) (ok.mono (Nat.le_of_ble_eq_true hk)) (fX.room hcm) hb (passAt tk σ) I2 r rz (hl.trans hn) hlz ?_
  have h3 : Hd C.K S.r H2 m2 (PlL T (gV vs zs) (gD ds es2)) := h2.more fun Hi f v d t => by
    rcases t with t | t
    · exact f v d (.inl (.inl t))
    · exact RepL.zip (hrep Hi vs ds zs es2 (PlL.repOf hl f) (RepL.of_zip hl2 fun v d q => f v d (.inr q)) hn (hl2.symm.trans hlz)) v d t
  have len : (gV vs zs).length = (gD ds es2).length := by
    obtain ⟨_, Hi, _, _, h5⟩ := h2
    exact (hrep Hi vs ds zs es2 (PlL.repOf hl h5) (RepL.of_zip hl2 fun v d q => h5 v d (.inr q)) hn (hl2.symm.trans hlz)).length
  have w := spD_at (X := X) (S := S) (σ := σ) (Q := Q) (W := W) (δ := δ) le sl (vs := gV vs zs) (ds := gD ds es2) len h3 q2
  rw [← fX.K] at w ⊢
  exact w
end
/-! ### except X as n -/
def Ct.hotE (C : Ct) (a cA : Addr) : Ct := { C with cm := false, ex := some (a, cA) }
section
variable {C : Ct} {W : DW} {δ : Sl} {m : Sto} {a b c e : Expr} {es : List Expr} {pos pos' np : Pos} {Q : D → Sto → Prop} {D : DEn}
/-- what an end is behind the suite: the name is gone -/
def DEn.un (D : DEn) (i : Nat) : DEn := { nx := fun δ m => D.nx (δ.set i none) m, rt := D.rt, bk := fun δ m => D.bk (δ.set i none) m, ct := fun δ m => D.ct (δ.set i none) m }
theorem ds_tryAs (i : Nat) {x n : Str} {body suite : List Stmt} {b₀ : Stmt} {u : Value} (hN : C.N[i]? = some n) (hl : C.sc.names.lookup n = some .local) (hm : C.mg x = some u) (hg : GlC C x)
    (h : DSs C (fun cls fs δ' m' => ∃ cA b, cls = .ref cA ∧ fs = [] ∧ PySem.W.exmOne C.K cls u = some b ∧ (b = true → ExcC C.K cA ∧ ∀ a, DSs (C.hotE a cA) W0 (b₀ :: suite) (δ'.set i (some (.ref a))) m' (D.un i)) ∧ (b = false → W cls fs δ' m')) body δ m D)
    (hdb : (x == ("__debug__" : Str)) = false := by decide) (htr : C.tr = true := by rfl) (hex : C.ex = none := by rfl) (hfk : C.sc.kind = .function := by rfl) : DS C W (.Try body [.ExceptHandler (some (.Name x np)) (some n) (b₀ :: suite) pos'] [] [] pos) δ m D := by
  intro X S f tk σ H T le sl hh
  refine WS.of (L2.ps_try_as (c := u) (i := i)
    (tb := fun W' D' σ H => ∀ (pn : List (Addr × Obj)) (xe : Value → Shared → Prop), Takes (X.tr pn xe) W' → PassesOwn (model X.prog X.w) X.A X.env xe → WSs (X.tr pn xe) body D' σ H)
    (ts := fun a cls d D' σ H => ∀ (oe : Obj) (pn : List (Addr × Obj)), Zc cls d oe → (∃ vs, oe.data = .fields vs) → WSs (X.suite a ((a, oe) :: pn)) (b₀ :: suite) D' σ H)
    (f.tr htr).1 (f.tr htr).2 f.nd (by rw [f.N]; exact hN) (by show X.env.scope.names.lookup n = _; rw [f.sc]; exact hl) ⟨f.gl hg, hdb, .inl (by rw [f.mg]; exact hm)⟩ tk
    (fun W' pn xe t p => ⟨fun pins s σ H D I r => r pn xe t p pins s I⟩) (fun a oe cls d pn hz hv => ⟨fun pins s σ H D I r => r oe pn hz hv pins s I⟩)) ?_
  intro pn xe tk' po
  have fit : Fits C (X.tr pn xe) := ⟨f.prog, f.w, f.K, f.mg, f.base, f.N, f.sc, f.fn, f.nd, f.un, f.room, f.calm, po, f.tr, fun _ _ e => by rw [hex] at e; cases e⟩
  refine h (X.tr pn xe) S fit (tk'.imp ?_) σ H T le sl hh
  rintro cls d σ' H' ⟨δ', m', T', fs, le', sl', hh', xd, cA, k', rfl, rfl, hk', h1, h2⟩
  refine ⟨k', by rw [f.K]; exact hk', fun e a ha oe pn2 hz hv => ?_, fun e => ⟨δ', m', T', [], le', sl', hh', xd, h2 e⟩⟩
  obtain ⟨hc, h3⟩ := h1 e
  have hd : d = none := by
    rcases xd with ⟨e, _⟩ | ⟨_, _, q, _⟩
    · exact e
    · exact absurd rfl q
  subst hd
  have fit2 : Fits (C.hotE a cA) (X.suite a ((a, oe) :: pn2)) := ⟨f.prog, f.w, f.K, f.mg, f.base, f.N, f.sc, f.fn, f.nd, f.un, (fun z => nomatch z), (fun z => nomatch z), PassesOwn.never, f.tr, fun a' D' e => by
    cases e
    exact call_isE (by rw [f.K]; exact hc) hz hv⟩
  have hh2 : Hd C.K S.r H' m' (Pl T' (.ref a) (.ref a)) := hh'.pl fun _ _ => .ref a
  refine WSs.mono (h3 a (X.suite a ((a, oe) :: pn2)) S fit2 takes_W0 (σ'.set i (some (.ref a))) H' _ (le'.trans Pl.le) ((sl'.le Pl.le).set Pl.it) hh2) ?_ (fun _ _ q => q) ?_ ?_
  all_goals
    rintro σ2 H2 ⟨δ2, m2, T2, l2, s2, hd2, q2⟩
    exact ⟨δ2.set i none, m2, T2, l2, s2.unset, hd2, q2⟩
/-- isinstance of the error in hand -/
def isiE (C : Ct) : RLD := fun ds m Q => ∃ a cA b, C.ex = some (a, cA) ∧ ((∃ k, ds = [.ref a, .ref k] ∧ PySem.W.kitOne C.K (.ref cA) (.ref k) = some b) ∨ ∃ n, ds = [.ref a, .ty n] ∧ PySem.W.kitOne C.K (.ref cA) (.type n) = some b) ∧ Q (.bl b) m
theorem cd_isiE : CallD C (.builtin "isinstance") (isiE C) := by
  rintro X f fr H m T vs ds Q hl hh ⟨a, cA, b, he, h, q⟩
  rcases h with ⟨k, rfl, hk⟩ | ⟨n, rfl, hk⟩
  · obtain ⟨v, u, rfl⟩ := two_of hl
    have r1 := hh.rep (PlL.at (i := 0) (v := v) (d := .ref a) rfl rfl)
    have r2 := hh.rep (PlL.at (i := 1) (v := u) (d := .ref k) rfl rfl)
    cases r1
    cases r2
    exact wc_of (f.ex a cA he) ⟨.ref k, .ref k, b, rfl, fun u r => by cases r; rfl, by rw [f.K]; exact hk, dK.le (dk_bl hh q) PlL.le⟩
  · obtain ⟨v, u, rfl⟩ := two_of hl
    have r1 := hh.rep (PlL.at (i := 0) (v := v) (d := .ref a) rfl rfl)
    have r2 := hh.rep (PlL.at (i := 1) (v := u) (d := .ty n) rfl rfl)
    cases r1
    cases r2
    exact wc_of (f.ex a cA he) ⟨.ty n, .type n, b, rfl, fun u r => by cases r; rfl, by rw [f.K]; exact hk, dK.le (dk_bl hh q) PlL.le⟩
theorem isiE_r {a cA k : Addr} {b : Bool} (he : C.ex = some (a, cA)) (h : PySem.W.kitOne C.K (.ref cA) (.ref k) = some b) (q : Q (.bl b) m) : isiE C [.ref a, .ref k] m Q := ⟨a, cA, b, he, .inl ⟨k, rfl, h⟩, q⟩
theorem isiE_t {a cA : Addr} {n : String} {b : Bool} (he : C.ex = some (a, cA)) (h : PySem.W.kitOne C.K (.ref cA) (.type n) = some b) (q : Q (.bl b) m) : isiE C [.ref a, .ty n] m Q := ⟨a, cA, b, he, .inr ⟨n, rfl, h⟩, q⟩
/-- a name of the program's top: an object -/
theorem de_gref {x : Str} {c : Addr} (hm : C.mg x = some (.ref c)) (hg : GlC C x) (q : Q (.ref c) m) (hdb : (x == ("__debug__" : Str)) = false := by decide) : DE C W (.Name x pos) δ m Q := de_glob hg hm (v := .ref c) rfl (fun H => .ref c) q hdb
end
end G
namespace G
open PySem PySem.Spec PyProof.Rows L2
/-! ### values in the order of the parameters -/
def pickL {α : Type} (ix : List Nat) (l : List α) : List α := ix.filterMap fun i => l[i]?
theorem paired_get {α β : Type} {F : α → β → Prop} : ∀ {l : List α} {k : List β} (i : Nat), Paired F l k → (l[i]? = none ∧ k[i]? = none) ∨ ∃ a b, l[i]? = some a ∧ k[i]? = some b ∧ F a b
  | _, _, i, .nil => .inl ⟨by simp, by simp⟩
  | _, _, 0, .cons r _ => .inr ⟨_, _, rfl, rfl, r⟩
  | _, _, i + 1, .cons _ t => by simpa using paired_get i t
theorem pickL_vals : ∀ (ix : List Nat) {vs : List V} {us : List Value}, Vals vs us → Vals (pickL ix vs) (pickL ix us)
  | [], _, _, _ => .nil
  | i :: ix, vs, us, h => by
    have ih := pickL_vals ix h
    unfold pickL at ih ⊢
    rcases paired_get i h with ⟨e1, e2⟩ | ⟨a, b, e1, e2, r⟩
    · rw [List.filterMap_cons_none e1, List.filterMap_cons_none e2]
      exact ih
    · rw [List.filterMap_cons_some e1, List.filterMap_cons_some e2]
      exact .cons r ih
theorem pickL_rep {K : PySem.W.Frag} {H : Hp} : ∀ (ix : List Nat) {vs : List V} {ds : List D}, RepL K H vs ds → RepL K H (pickL ix vs) (pickL ix ds)
  | [], _, _, _ => .nil
  | i :: ix, vs, ds, h => by
    have ih := pickL_rep ix h
    unfold pickL at ih ⊢
    cases e : vs[i]? with
    | none =>
      have e2 : ds[i]? = none := by
        have := List.getElem?_eq_none_iff.mp e
        exact List.getElem?_eq_none_iff.mpr (by rw [← h.length]; exact this)
      rw [List.filterMap_cons_none e, List.filterMap_cons_none e2]
      exact ih
    | some v =>
      obtain ⟨d, e2, r⟩ := h.getV e
      rw [List.filterMap_cons_some e, List.filterMap_cons_some e2]
      exact .cons r ih
theorem KnG.of {P : Program} {w : World} {K : PySem.W.Frag} {mg : Str → Option Value} {base : Heap} {x : Str} {k n : Nat} {F : DF} {f : Addr} {fd : FuncData} {ps ks : List Str} {ix : List Nat} {mv : List Value} {dvs : List V} {dds : List D}
    (ok : FnOk P w K mg base (L2.CX P w) k f fd ps (spD K F)) (g : mg x = some (.ref f)) (kp : PySem.W.keepIn K (.ref f) = true) (hb : KBn K fd ps n ks (fun us ws => pickL ix (us ++ ws ++ mv)) (fun vs zs => pickL ix (vs ++ zs ++ dvs))) (hd : ∀ Hi, RepL K Hi dvs dds) :
    KnG P w K mg base x k F n ks (fun us zs => pickL ix (us ++ zs ++ dds)) :=
  ⟨f, fd, ps, _, _, ok, g, kp, hb, fun Hi vs ds zs es r1 r2 _ _ => pickL_rep ix ((r1.append r2).append (hd Hi))⟩
end G

/-! The data layer: instances: fields, methods, making. -/
namespace G
open PySem PySem.Spec PyProof.Rows L2
/-! ### fields by name -/
theorem lookup_rep {K : PySem.W.Frag} {H : Hp} : ∀ {fs : List (Str × V)} {gs : List (Str × D)}, fs.map (·.1) = gs.map (·.1) → RepL K H (fs.map (·.2)) (gs.map (·.2)) → ∀ {f : Str} {d : D}, gs.lookup f = some d → ∃ v, fs.lookup f = some v ∧ (v, d) ∈ (fs.map (·.2)).zip (gs.map (·.2))
  | [], [], _, _, f, d, h => by cases h
  | [], _ :: _, e, _, _, _, _ => by simp at e
  | _ :: _, [], e, _, _, _, _ => by simp at e
  | (x, v) :: fs, (y, z) :: gs, e, r, f, d, h => by
    simp only [List.map_cons, List.cons.injEq] at e
    obtain ⟨e1, e2⟩ := e
    subst e1
    cases r with
    | cons r1 r2 =>
      by_cases hf : f == x
      · rw [List.lookup_cons, hf] at h ⊢
        cases h
        exact ⟨v, rfl, by simp⟩
      · rw [List.lookup_cons, Bool.eq_false_iff.mpr hf] at h ⊢
        obtain ⟨v', h1, h2⟩ := lookup_rep e2 r2 h
        exact ⟨v', h1, by rw [List.map_cons, List.map_cons, List.zip_cons_cons]; exact List.mem_cons_of_mem _ h2⟩
theorem lookup_none : ∀ {α β : Type} {fs : List (Str × α)} {gs : List (Str × β)}, fs.map (·.1) = gs.map (·.1) → ∀ {f : Str}, gs.lookup f = none → fs.lookup f = none
  | _, _, [], [], _, f, h => rfl
  | _, _, [], _ :: _, e, _, _ => by simp at e
  | _, _, _ :: _, [], e, _, _ => by simp at e
  | _, _, (x, v) :: fs, (y, z) :: gs, e, f, h => by
    simp only [List.map_cons, List.cons.injEq] at e
    obtain ⟨e1, e2⟩ := e
    subst e1
    by_cases hf : f == x
    · rw [List.lookup_cons, hf] at h
      cases h
    · rw [List.lookup_cons, Bool.eq_false_iff.mpr hf] at h ⊢
      exact lookup_none e2 h
def putD (f : Str) (v : D) : List (Str × D) → List (Str × D)
  | [] => [(f, v)]
  | (g, x) :: r => if g = f then (g, v) :: r else (g, x) :: putD f v r
theorem putD_rep {K : PySem.W.Frag} {H : Hp} {f : Str} {v : V} {d : D} (rv : Rep K H v d) : ∀ {fs : List (Str × V)} {gs : List (Str × D)}, fs.map (·.1) = gs.map (·.1) → RepL K H (fs.map (·.2)) (gs.map (·.2)) →
    (putF f v fs).map (·.1) = (putD f d gs).map (·.1) ∧ RepL K H ((putF f v fs).map (·.2)) ((putD f d gs).map (·.2))
  | [], [], _, _ => ⟨rfl, .cons rv .nil⟩
  | [], _ :: _, e, _ => by simp at e
  | _ :: _, [], e, _ => by simp at e
  | (x, u) :: fs, (y, z) :: gs, e, r => by
    simp only [List.map_cons, List.cons.injEq] at e
    obtain ⟨e1, e2⟩ := e
    subst e1
    cases r with
    | cons r1 r2 =>
      unfold putF putD
      by_cases hf : x = f
      · rw [if_pos hf, if_pos hf]
        exact ⟨by simp [e2], .cons rv r2⟩
      · rw [if_neg hf, if_neg hf]
        obtain ⟨h1, h2⟩ := putD_rep rv e2 r2
        exact ⟨by simp [h1], .cons r1 h2⟩
section
variable {K : PySem.W.Frag} {r : Sto} {H : Hp} {m : Sto} {T : RT} {a p : Addr}
/-- an instance of the store -/
theorem Hd.insO {cA : Addr} {gs : List (Str × D)} (h : Hd K r H m T) (t : m a = some (.ins cA gs)) : ∃ dx fs, H a = some (.ins cA dx fs) ∧ fs.map (·.1) = gs.map (·.1) ∧ (fs.map (·.2)).length = (gs.map (·.2)).length ∧ Hd K r H m (PlL T (fs.map (·.2)) (gs.map (·.2))) := by
  obtain ⟨h0, Hi, h1, h2, h3⟩ := h
  obtain ⟨q0, u, q, r⟩ := h2 _ _ (sun_l t)
  cases u with
  | ins C dx fs =>
    obtain ⟨e1, e2, e3⟩ := r
    subst e1
    exact ⟨dx, fs, q, e2, e3.length, h0, Hi, h1, h2, fun v d x => x.elim (h3 v d) fun hm => RepL.mem_zip e3 hm⟩
  | _ => exact False.elim r
theorem Hd.grow {u : HO} (h : Hd K r H m T) (hp : H p = none) : Hd K r (upd H p u) m T := by
  obtain ⟨h0, Hi, h1, h2, h3⟩ := h
  refine ⟨h0, Hi, fun b o e => (same_upd hp) _ _ (h1 b o e), fun a o e => ?_, h3⟩
  obtain ⟨q1, u', q2, q3⟩ := h2 a o e
  have ha : a ≠ p := fun z => by subst z; rw [hp] at q2; cases q2
  exact ⟨q1, u', by rw [upd_ne ha]; exact q2, q3⟩
end
/-- a method -/
structure KnM (P : Program) (w : World) (K : PySem.W.Frag) (mg : Str → Option Value) (base : Heap) (cA : Addr) (x : Str) (k : Nat) (F : DF) : Prop where
  ex : ∃ f fd ps, FnOk P w K mg base (L2.CX P w) k f fd ps (spD K F) ∧ Meth K cA x f ∧ Binds K fd ps []
/-- making: n values, keywords ks -/
structure KnI (P : Program) (w : World) (K : PySem.W.Frag) (mg : Str → Option Value) (base : Heap) (x : Str) (cA : Addr) (k : Nat) (F : DF) (n : Nat) (ks : List Str) (gD : List D → List D → List D) : Prop where
  ex : ∃ f fd ps g gV, Mk K cA f ∧ mg x = some (.ref cA) ∧ FnOk P w K mg base (L2.CX P w) k f fd ps (spD K F) ∧ KBn K fd ps (n + 1) ks g gV ∧ ∀ Hi vs ds zs es, RepL K Hi vs ds → RepL K Hi zs es → RepL K Hi (gV vs zs) (gD ds es)
theorem KnI.of {P : Program} {w : World} {K : PySem.W.Frag} {mg : Str → Option Value} {base : Heap} {x : Str} {cA : Addr} {k n : Nat} {F : DF} {f : Addr} {fd : FuncData} {ps ks : List Str} {ix : List Nat} {mv : List Value} {dvs : List V} {dds : List D}
    (M : Mk K cA f) (g : mg x = some (.ref cA)) (ok : FnOk P w K mg base (L2.CX P w) k f fd ps (spD K F)) (hb : KBn K fd ps (n + 1) ks (fun us ws => pickL ix (us ++ ws ++ mv)) (fun vs zs => pickL ix (vs ++ zs ++ dvs))) (hd : ∀ Hi, RepL K Hi dvs dds) :
    KnI P w K mg base x cA k F n ks (fun us zs => pickL ix (us ++ zs ++ dds)) :=
  ⟨f, fd, ps, _, _, M, g, ok, hb, fun Hi vs ds zs es r1 r2 => pickL_rep ix ((r1.append r2).append (hd Hi))⟩
theorem run_makeS {X : Cx} {CX : CXT} {k n : Nat} {f C : Addr} {fd : FuncData} {ps ks : List Str} {sp : Sp} {E : XK} {g : List Value → List Value → List Value} {gV : List V → List V → List V} {pins : List (Addr × Obj)} {σ : L2.St} {H : Hp} {s : Shared} {Q : VK} {us ws : List Value} {vs zs : List V}
    (M : Mk X.K C f) (F : FnOk X.prog X.w X.K X.mg X.base CX k f fd ps sp) (hr : Room (k + 1) X.A) (hb : KBn X.K fd ps (n + 1) ks g gV) (hx : PassesAt CX X σ E)
    (I : Inv X pins σ H s) (r : Vals vs us) (rz : Vals zs ws) (l1 : vs.length = n) (l2 : zs.length = ks.length)
    (h : ∀ x dx, H x = none → H dx = none → dx ≠ x → sp (gV (.ref x :: vs) zs) (upd (upd H dx (.own x)) x (.ins C dx [])) (fun v H2 => v = .non ∧ Q (.ref x) H2) E) :
    wpAny (model X.prog X.w) X.A (call (.ref C) us (ks.zip ws)) (EP X pins σ Q) X.xe s := by
  have hq := h (s.heap.objs.size + 1) s.heap.objs.size (I.hok.fresh (Nat.le_succ _)) (I.hok.fresh (Nat.le_refl _)) (Nat.ne_of_lt (Nat.lt_succ_self _))
  have I2 := Inv.made (C := C) I
  have r1 : Vals (V.ref (s.heap.objs.size + 1) :: vs) (Value.ref (s.heap.objs.size + 1) :: us) := .cons rfl r
  have r2 := hb.rel r1 rz
  have n1 : (Value.ref (s.heap.objs.size + 1) :: us).length = n + 1 := by
    rw [List.length_cons, ← r.length, l1]
  refine wpAny_call (make_map (f := f) I.kIn M.makes M.init (beq_iff_eq.mp M.fn) (codeAny_mono (F.run _ X.stack _ _ ⟨Value.ref (s.heap.objs.size + 1) :: us, ks.zip ws⟩ (g (Value.ref (s.heap.objs.size + 1) :: us) ws) _ _ E (hr.make C us (ks.zip ws))
    (I2.env0.make C us (ks.zip ws)) (hb.to _ (Value.ref (s.heap.objs.size + 1) :: us) ws I2.kIn n1 (rz.length.symm.trans l2)) r2 hq) fun r s' hq' => ?_))
  cases r with
  | error e => exact hx pins _ _ e s' I2 hq'
  | ok fl =>
    cases fl with
    | ret u =>
      obtain ⟨v, H', I3, rv, ev, q3⟩ := I2.after hq'
      subst ev
      exact ⟨rv, ⟨V.ref (s.heap.objs.size + 1), H', I3, rfl, q3⟩⟩
    | next => exact False.elim hq'
    | brk => exact False.elim hq'
    | cont => exact False.elim hq'
section
variable {C : Ct} {W : DW} {δ : Sl} {m : Sto} {a b c e o : Expr} {es : List Expr} {pos pos' apos : Pos} {Q : D → Sto → Prop} {D : DEn} {cA : Addr} {f x : Str}
/-- o.f -/
theorem de_fld (h : DE C W o δ m fun d m1 => ∃ a cA fs v, d = .ref a ∧ m1 a = some (.ins cA fs) ∧ Cls C.K cA ∧ NoAttr C.K cA f ∧ fs.lookup f = some v ∧ Q v m1) (hb : ∀ env, attributeBase o f env (eval o env) = eval o env := by intro _; rfl) :
    DE C W (.Attribute o f pos) δ m Q := by
  intro X S fx tk σ H T le sl hh
  refine WE.of (pe_fld we (hb _)) ((h X S fx tk σ H T le sl hh).mono fun v H1 ⟨d, m1, h1, a, cA, fs, x, ed, hm, c, n, l, q⟩ => ?_)
  subst ed
  have r := h1.rep Pl.it
  cases r
  obtain ⟨dx, gs, hu, hn, hl, h2⟩ := h1.insO hm
  obtain ⟨v', e1, e2⟩ := lookup_rep hn (RepL.of_zip hl fun v d z => h2.rep (.inr z)) l
  refine ⟨a, cA, dx, gs, v', rfl, hu, by rw [fx.K]; exact c, by rw [fx.K]; exact n, e1, x, m1, ?_, q⟩
  exact h2.le fun y z t => by
    rcases t with t | ⟨rfl, rfl⟩
    · exact .inl (.inl t)
    · exact .inr e2
/-- o.f = e -/
theorem ds_fld (h : DE C W e δ m fun d m1 => DE C W o δ m1 fun x m2 => ∃ a cA fs, x = .ref a ∧ m2 a = some (.ins cA fs) ∧ Cls C.K cA ∧ NoAttr C.K cA f ∧ fs.length < 1000 ∧ D.nx δ (sput m2 a (.ins cA (putD f d fs))))
    (hs : ∀ env, swapsWith e (some (.Attribute o f pos')) pos.line env = pure false := by intro _; rfl) : DS C W (.Assign [.Attribute o f pos'] e pos) δ m D := by
  intro X S fx tk σ H T le sl hh
  refine WS.of (ps_fld we we (hs _)) ((h X S fx tk σ H T le sl hh).mono fun v H1 ⟨d, m1, h1, q⟩ => ?_)
  refine (q X S fx tk σ H1 _ (le.trans Pl.le) (sl.le Pl.le) h1).mono fun u H2 ⟨x, m2, h2, a, cA, fs, ex, hm, c, n, l, q2⟩ => ?_
  subst ex
  have r := h2.rep Pl.it
  cases r
  obtain ⟨dx, gs, hu, hn, hl, _⟩ := h2.insO hm
  have hlen : gs.length = fs.length := by simpa using hl
  refine ⟨a, cA, dx, gs, rfl, hu, by rw [fx.K]; exact c, by rw [fx.K]; exact n, by rw [hlen]; exact l, ?_⟩
  have h4 := h2.mut (u' := .ins cA dx (putF f v gs)) (o' := .ins cA (putD f d fs)) hm hu fun Hi r kk => ⟨rfl, putD_rep (kk v d (.inl Pl.it)) r.2.1 r.2.2⟩
  exact lift_nx (le.trans (Pl.le.trans Pl.le)) (sl.le (Pl.le.trans Pl.le)) h4 q2
/-- o.m(e, ..) -/
theorem de_meth {k : Nat} {F : DF} {pl : Env → Sem Bool} (kn : KnM C.P C.w C.K C.mg C.base cA x k F) (hc : Cls C.K cA) (hk : Nat.ble k C.k = true)
    (h : DE C W o δ m fun d m1 => ∃ a fs, d = .ref a ∧ m1 a = some (.ins cA fs) ∧ fs.lookup x = none ∧ DA C W (e :: es) δ m1 fun ds m2 => F (.ref a :: ds) m2 Q fun cls fs m' => W cls fs δ m') (hcm : C.cm = true := by rfl)
    (he : ∀ env, starEach (e :: es) env = (false, eval e env) :: starEach es env := by intro _; rfl) (hpl : ∀ env, (backTo pos (starEach es env)).any (·.1) = false := by intro _; rfl)
    (ht : ∀ env, eval (.Call (.Attribute o x apos) (e :: es) [] pos) env = (do
      let ov ← eval o env
      standAt apos.atName
      let (f, first) ← holding [ov] (getMethod ov x (pl env))
      callWith pos f first (backTo pos (starEach (e :: es) env)) (backToKw pos (keywordEach [] env))) := by intro _; rfl) : DE C W (.Call (.Attribute o x apos) (e :: es) [] pos) δ m Q := by
  intro X S fX tk σ H T le sl hh pins s I
  obtain ⟨f, fd, ps, ok, hm, hb⟩ := kn.ex
  rw [← fX.prog, ← fX.w, ← fX.K, ← fX.mg, ← fX.base] at ok
  rw [← fX.K] at hm hb hc
  refine PySem.W.methodCall_KW (pl := pl X.env) (thn (h X S fX tk σ H T le sl hh pins s I) fun u s1 ⟨v, H1, I1, rx, d, m1, h1, a, fs, ed, hma, hln, q⟩ => ?_) (ht _)
  subst ed
  have r := h1.rep Pl.it
  cases r
  obtain rfl : u = Value.ref a := rx
  obtain ⟨dx, gs, hu, hn, hl, _⟩ := h1.insO hma
  refine getmeth_ok I1 hu hc hm (lookup_none hn hln) ?_
  refine PySem.W.callWith_K (first := [.ref a]) (h₀ := X.base) I.ok.mod.kin hm.kp (thn (q X S fX tk σ H1 _ (le.trans Pl.le) (sl.le Pl.le) h1 pos pins s1 I1) fun us s2 ⟨vs, H2, I2, r, ds, m2, hl2, h2, q2⟩ => ⟨I2.kIn, ?_⟩) (he _) (hpl _)
  refine run_fnS (us := .ref a :: us) (vs := .ref a :: vs) (E := L2.WE (liftW C.K W S)) (ok.mono (Nat.le_of_ble_eq_true hk)) (fX.room hcm) hb (passAt tk σ) I2 (.cons rfl r) ?_
  have h3 : Hd C.K S.r H2 m2 (PlL T (.ref a :: vs) (.ref a :: ds)) := h2.le fun y z t => by
    rcases t with t | t
    · exact .inl (.inl t)
    · rw [List.zip_cons_cons] at t
      rcases List.mem_cons.mp t with t | t
      · cases t
        exact .inl Pl.it
      · exact .inr t
  have z := spD_at (X := X) (S := S) (σ := σ) (Q := Q) (W := W) (δ := δ) le sl (vs := .ref a :: vs) (ds := .ref a :: ds) (by rw [List.length_cons, List.length_cons, hl2]) h3 q2
  rw [← fX.K] at z ⊢
  exact z
/-- o.m() -/
theorem de_meth0 {k : Nat} {F : DF} {pl : Env → Sem Bool} (kn : KnM C.P C.w C.K C.mg C.base cA x k F) (hc : Cls C.K cA) (hk : Nat.ble k C.k = true)
    (h : DE C W o δ m fun d m1 => ∃ a fs, d = .ref a ∧ m1 a = some (.ins cA fs) ∧ fs.lookup x = none ∧ F [.ref a] m1 Q fun cls fs m' => W cls fs δ m') (hcm : C.cm = true := by rfl)
    (ht : ∀ env, eval (.Call (.Attribute o x apos) [] [] pos) env = (do
      let ov ← eval o env
      standAt apos.atName
      let (f, first) ← holding [ov] (getMethod ov x (pl env))
      callWith pos f first (backTo pos (starEach [] env)) (backToKw pos (keywordEach [] env))) := by intro _; rfl) : DE C W (.Call (.Attribute o x apos) [] [] pos) δ m Q := by
  intro X S fX tk σ H T le sl hh pins s I
  obtain ⟨f, fd, ps, ok, hm, hb⟩ := kn.ex
  rw [← fX.prog, ← fX.w, ← fX.K, ← fX.mg, ← fX.base] at ok
  rw [← fX.K] at hm hb hc
  refine PySem.W.methodCall_KW (pl := pl X.env) (thn (h X S fX tk σ H T le sl hh pins s I) fun u s1 ⟨v, H1, I1, rx, d, m1, h1, a, fs, ed, hma, hln, q⟩ => ?_) (ht _)
  subst ed
  have r := h1.rep Pl.it
  cases r
  obtain rfl : u = Value.ref a := rx
  obtain ⟨dx, gs, hu, hn, hl, _⟩ := h1.insO hma
  refine getmeth_ok I1 hu hc hm (lookup_none hn hln) ?_
  refine PySem.W.callWith_K0 (first := [.ref a]) I1.kIn hm.kp (run_fnS (us := [.ref a]) (vs := [.ref a]) (E := L2.WE (liftW C.K W S)) (ok.mono (Nat.le_of_ble_eq_true hk)) (fX.room hcm) hb (passAt tk σ) I1 (.cons rfl .nil) ?_)
  have h3 : Hd C.K S.r H1 m1 (PlL T [.ref a] [.ref a]) := h1.le PlL.one
  have z := spD_at (X := X) (S := S) (σ := σ) (Q := Q) (W := W) (δ := δ) le sl (vs := [.ref a]) (ds := [.ref a]) rfl h3 q
  rw [← fX.K] at z ⊢
  exact z
/-- X(e, .., k = v, ..) -/
theorem de_make {p : Pos} {k n : Nat} {F : DF} {kws : List Keyword} {ks : List Str} {gD : List G.D → List G.D → List G.D} (kn : KnI C.P C.w C.K C.mg C.base x cA k F n ks gD) (hk : Nat.ble (k + 1) C.k = true) (hg : GlC C x)
    (h : DA C W (e :: es) δ m fun ds m1 => ds.length = n ∧ DKs C W δ kws m1 fun zs m2 => ∀ a, m2 a = none → F (gD (.ref a :: ds) zs) (sput m2 a (.ins cA [])) (fun d m3 => d = .non ∧ Q (.ref a) m3) fun cls fs m' => W cls fs δ m') (hkl : kws.length = ks.length := by rfl) (hdb : (x == ("__debug__" : Str)) = false := by decide) (hcm : C.cm = true := by rfl)
    (he : ∀ env, starEach (e :: es) env = (false, eval e env) :: starEach es env := by intro _; rfl) (hall : ∀ env, (backToKw pos (keywordEach kws env)).all (·.1.isSome) = true := by intro _; rfl)
    (hks : ∀ env, (backToKw pos (keywordEach kws env)).filterMap (·.1) = ks := by intro _; rfl)
    (hpl : ∀ env, ((backTo pos (starEach (e :: es) env)).any (·.1) || (backToKw pos (keywordEach kws env)).any (·.1.isNone)) = false := by intro _; rfl) : DE C W (.Call (.Name x p) (e :: es) kws pos) δ m Q := by
  intro X S fX tk σ H T le sl hh pins s I
  obtain ⟨f, fd, ps, g, gV, M, hm, ok, hb, hrep⟩ := kn.ex
  obtain ⟨j, hj⟩ : ∃ j, C.k = j + 1 := ⟨C.k - 1, by have := Nat.le_of_ble_eq_true hk; omega⟩
  have hkj : k ≤ j := by have := Nat.le_of_ble_eq_true hk; omega
  rw [← fX.prog, ← fX.w, ← fX.K, ← fX.mg, ← fX.base] at ok
  rw [← fX.K] at M hb
  refine wpAny_Call_Name_kw (ld_glob I (fX.gl hg) (by rw [fX.mg]; exact hm) ?_ hdb)
  refine PySem.W.callWith_KW (h₀ := X.base) I.ok.mod.kin M.kp (hall _) (thn (h X S fX tk σ H T le sl hh pos pins s I) fun us s1 ⟨vs, H1, I1, r, ds, m1, hl, h1, hn, q⟩ => ?_) (hpl _) (he _)
  have lel : Le T (PlL T vs ds) := PlL.le
  refine thn ((pkT_ok kws).run pos pins s1 σ H1 _ I1 (pkT_run fX tk kws (le.trans lel) (sl.le lel) h1 q)) fun ws s2 ⟨zs, H2, I2, rz, es2, m2, hl2, hlk2, h2, q2⟩ => ⟨I2.kIn, ?_⟩
  have hlz : zs.length = ks.length := hl2.trans (hlk2.trans hkl)
  rw [hks]
  have hr : Room (j + 1) X.A := by rw [← hj]; exact fX.room hcm
  refine run_makeS (E := L2.WE (liftW C.K W S) σ) M (ok.mono hkj) hr hb (passAt tk σ) I2 r rz (hl.trans hn) hlz fun x dx hx hdx hne => ?_
  have h4 : Hd C.K S.r (upd (upd H2 dx (.own x)) x (.ins cA dx [])) (sput m2 x (.ins cA [])) (Pl (PlL (PlL T vs ds) zs es2) (.ref x) (.ref x)) := (h2.grow hdx).newM (by rw [upd_ne (Ne.symm hne)]; exact hx) fun _ _ => ⟨rfl, rfl, .nil⟩
  have reps : ∀ Hi, (∀ v d, Pl (PlL (PlL T vs ds) zs es2) (.ref x) (.ref x) v d → Rep C.K Hi v d) → RepL C.K Hi (gV (.ref x :: vs) zs) (gD (.ref x :: ds) es2) := fun Hi f => hrep Hi _ _ _ _ (.cons (.ref x) (RepL.of_zip hl fun v d q => f v d (.inl (.inl (.inr q))))) (RepL.of_zip hl2 fun v d q => f v d (.inl (.inr q)))
  have h5 : Hd C.K S.r (upd (upd H2 dx (.own x)) x (.ins cA dx [])) (sput m2 x (.ins cA [])) (PlL T (gV (.ref x :: vs) zs) (gD (.ref x :: ds) es2)) := h4.more fun Hi f v d t => by
    rcases t with t | t
    · exact f v d (.inl (.inl (.inl t)))
    · exact RepL.zip (reps Hi f) v d t
  have len : (gV (.ref x :: vs) zs).length = (gD (.ref x :: ds) es2).length := by
    obtain ⟨_, Hi, _, _, h6⟩ := h4
    exact (reps Hi h6).length
  have z : spD C.K F (gV (.ref x :: vs) zs) (upd (upd H2 dx (.own x)) x (.ins cA dx [])) (fun v H' => v = .non ∧ ∃ d m', Hd C.K S.r H' m' (Pl T (.ref x) d) ∧ Q d m') (L2.WE (liftW C.K W S) σ) :=
    ⟨_, _, T, S.r, _, _, len, h5, q2 x (h2.free hx), fun d m' ⟨e, q'⟩ v H' h' => by
      subst e
      have rv := h'.rep Pl.it
      cases rv
      exact ⟨rfl, .ref x, m', (h'.le Pl.le).pl fun _ _ => .ref x, q'⟩, fun cls fs m' w' dd H' T' l' h' xd => ⟨δ, m', T', fs, le.trans l', sl.le l', h', xd, w'⟩⟩
  rw [← fX.K] at z ⊢
  exact z
end
end G

/-! The data layer: targets with a star, lists taken apart. -/
namespace G
open PySem PySem.Spec PyProof.Rows L2
theorem star_tuple {prog : Program} {w : World} {A : Around} {E : Value → Shared → Prop} {s : Shared} {l : Addr} {items : Array Value} {n i : Nat} {Q : List Value → Shared → Prop} (hl : IsTup s.heap l items) (hh : A.handled = none) (hi : i < n) (hn : n ≤ items.size + 1) (hz : items.size ≤ 16384)
    (h : ∀ h' tk, Heap.ExtBut s.heap.objs.size s.heap h' → Q (items.toList.take i ++ [.ref h'.objs.size] ++ (items.toList.drop i).drop (items.size + 1 - n)) { s with heap := h'.push { cls := .type "list", data := .seq ((items.toList.drop i).take (items.size + 1 - n)).toArray }, toks := tk }) :
    wpAny (model prog w) A (unpackItems (.ref l) n (some i)) Q E s := by
  have hlt : l ≠ s.heap.objs.size := by obtain ⟨o, ho, _⟩ := hl; exact Nat.ne_of_lt (Heap.lt_size ho)
  have hll : l < s.heap.objs.size := by obtain ⟨o, ho, _⟩ := hl; exact Heap.lt_size ho
  unfold unpackItems
  refine wpAny_bind ?_
  unfold notIterableAtAll
  refine wpAny_bind (wpAny_specialOf hl.typeIs slot_tuple_iter.lookup ?_)
  refine wpAny_pure ?_
  simp only [Bool.false_eq_true, if_false]
  refine wpAny_bind (wpAny_holding (iter_tuple hl ?_))
  refine wpAny_bind (wpAny_holding (draw_tuple hlt i 0 _ _ ⟨_, Heap.get?_push_size _ rfl, rfl, rfl⟩ (hl.push _) (by omega) fun h₁ hit₁ hs₁ => ?_))
  have hl₁ : IsTup h₁ l items := (hl.push _).extBut hs₁.extBut hlt
  rw [Nat.zero_add] at hit₁
  have hit₁' := hit₁
  obtain ⟨oi, hoi, _⟩ := hit₁'
  have hl₁' := hl₁
  obtain ⟨ol, hol, _⟩ := hl₁'
  rw [List.drop_zero]
  have hfl : (items.toList.take i).length = i := by rw [List.length_take, Array.length_toList]; omega
  rw [if_neg (show ¬ ((items.toList.take i).length < i) by rw [hfl]; omega)]
  refine wpAny_bind (wpAny_holding (PySem.W.kun_collect (s := { s with heap := h₁ }) (T := "tuple_iterator") (.inr (.inr (.inr rfl))) (Walks.tuple (A := A.in1) hh s.heap.objs.size l hlt items) (fun j u st => st.1.typeIs) (k := i) (by omega) ⟨hit₁, hl₁⟩ (Heap.lt_size hoi) (Heap.lt_size hol) (fun h₂ tk hk => ?_) (by rw [sizeLine_eq]; omega)))
  have hrl : (items.toList.drop i).length = items.size - i := by rw [List.length_drop, Array.length_toList]
  have hmid : (items.toList.drop i).length - (n - 1 - i) = items.size + 1 - n := by rw [hrl]; omega
  show wpAny _ _ (if (items.toList.drop i).length < n - 1 - i then _ else _) _ _ _
  rw [if_neg (by rw [hrl]; omega)]
  show wpAny _ _ (newList ((items.toList.drop i).take ((items.toList.drop i).length - (n - 1 - i))) >>= fun d => pure (items.toList.take i ++ [d] ++ (items.toList.drop i).drop ((items.toList.drop i).length - (n - 1 - i)))) _ _ _
  rw [hmid]
  have he : Heap.ExtBut s.heap.objs.size s.heap h₂ := fun b o hb e => hk b o hb (hs₁.extBut b o hb (Heap.get?_push_of_some _ e))
  refine wpAny_bind (wpAny_newObj_type ?_ (by have hq := sizeLine_eq; (first | (show _ ≤ sizeLine; simp only [List.size_toArray, List.length_take, hrl]; omega) | (simp [List.length_take, hrl]; omega))))
  exact wpAny_pure (h h₂ tk he)
theorem pg_star {X : Cx} {es : List Expr} {k n i : Nat} {pos : Pos} {t : TGs} (hc : X.calm = true) (h : PGs X es t) (hn : (assignEach es X.env).length = n) (hst : (assignEach es X.env).findIdx? (·.1) = some i) (hi : i < n) :
    PG X (.Tuple es k pos) (fun v σ H Q => ∃ a xs, v = V.ref a ∧ SqT X.K H a xs ∧ n ≤ xs.length + 1 ∧ xs.length ≤ 16384 ∧ ∀ p, H p = none → t (xs.take i ++ [.ref p] ++ (xs.drop i).drop (xs.length + 1 - n)) σ (upd H p (.lst ((xs.drop i).take (xs.length + 1 - n)))) Q) := by
  refine ⟨fun pins s σ H v u Q I r hw => ?_⟩
  obtain ⟨a, xs, e1, hq, hl, hz2, hw⟩ := hw
  subst e1
  cases r
  obtain ⟨its, rv, ht, hz⟩ := I.tuple hq
  have hlen : its.length = xs.length := rv.length.symm
  rw [PyProof.Rows.assign_Tuple]
  refine wpAny_bind (wpAny_standAt ?_)
  unfold unpack
  rw [hn, hst]
  refine wpAny_bind (wpAny_holding (star_tuple ht (I.ok.hd hc) hi (by simp [hlen]; omega) (by simp [hlen]; omega) fun h' tk hx => ?_))
  have I1 : Inv X pins σ H { s with heap := h', toks := tk } := I.kept (t' := tk) fun b o e => hx b o (Nat.ne_of_lt (Heap.lt_size e)) e
  have hf : H h'.objs.size = none := I1.hok.fresh (Nat.le_refl _)
  have e3 : its.toArray.size + 1 - n = xs.length + 1 - n := by simp [hlen]
  have rm : Vals ((xs.drop i).take (xs.length + 1 - n)) ((its.toArray.toList.drop i).take (its.toArray.size + 1 - n)) := by
    rw [e3]
    exact (rv.drop i).take _
  have I2 : Inv X pins σ (upd H h'.objs.size (.lst ((xs.drop i).take (xs.length + 1 - n)))) { s with heap := h'.push { cls := .type "list", data := .seq ((its.toArray.toList.drop i).take (its.toArray.size + 1 - n)).toArray }, toks := tk } := by
    refine I1.laid (a := h'.objs.size) (t' := tk) (fun b u e => Heap.get?_push_of_some _ e) (Nat.le_refl _) ?_
    exact ⟨by rw [List.length_take, List.length_drop]; have hz := sizeLine_eq; omega, _, 0, rm, Heap.get?_push_size _ rfl⟩
  refine h.run pins _ σ _ _ _ Q I2 ?_ (hw _ hf)
  have r1 : Vals (xs.take i) (its.toArray.toList.take i) := rv.take i
  have r3 : Vals ((xs.drop i).drop (xs.length + 1 - n)) ((its.toArray.toList.drop i).drop (its.toArray.size + 1 - n)) := by
    rw [e3]
    exact (rv.drop i).drop _
  exact (r1.append (.cons (show RelV (.ref h'.objs.size) (.ref h'.objs.size) from rfl) .nil)).append r3
section
variable {C : Ct} {W : DW} {δ : Sl} {m : Sto} {e : Expr} {es : List Expr} {pos : Pos} {k : Nat}
theorem dgs_star {t : Expr} {p : Pos} {ds : List D} {Q : Sl → Sto → Prop} (h : DGs C W (t :: es) ds δ m Q) (hs : ∀ env, (assignEach (.Starred t p :: es) env).map (·.2) = (assignEach (t :: es) env).map (·.2) := by intro _; rfl) : DGs C W (.Starred t p :: es) ds δ m Q := by
  intro X S f tk us σ H T hl le sl hh pins s ws I r
  have z := h X S f tk us σ H T hl le sl hh pins s ws I r
  rw [← hs] at z
  exact z
theorem dg_star (n i : Nat) {ds ds' : List D} {Q : Sl → Sto → Prop} (hd : ds.take i ++ [.lst ((ds.drop i).take (ds.length + 1 - n))] ++ (ds.drop i).drop (ds.length + 1 - n) = ds') (hl : n ≤ ds.length + 1) (hz : ds.length ≤ 16384) (h : DGs C W es ds' δ m Q) (hi : i < n := by decide)
    (hn : ∀ env, (assignEach es env).length = n := by intro _; rfl) (hst : ∀ env, (assignEach es env).findIdx? (·.1) = some i := by intro _; rfl) (hcm : C.cm = true := by rfl) : DG C W (.Tuple es k pos) (.tup ds) δ m Q := by
  subst hd
  intro X S f tk v σ H T le sl t hh
  obtain ⟨a, xs, rfl, hq, hlx, h4⟩ := hh.items t
  refine WG.of (pg_star (f.calm hcm) wgs (hn _) (hst _) hi) ⟨a, xs, rfl, by rw [f.K]; exact hq, by rw [hlx]; exact hl, by rw [hlx]; exact hz, fun p hp => ?_⟩
  have hL : ∀ (l : List V) (j : Nat), l.length ≤ j ∨ j ≤ l.length := fun l j => by omega
  have h5 : Hd C.K S.r (upd H p (.lst ((xs.drop i).take (xs.length + 1 - n)))) m (Pl (PlL T xs ds) (.ref p) (.lst ((ds.drop i).take (ds.length + 1 - n)))) :=
    h4.newI hp fun Hi hi k => by
      rw [hlx]
      exact .lst upd_same (RepL.mono (same_upd hi) (((PlL.rep hlx k).drop i).take _))
  have h6 : Hd C.K S.r (upd H p (.lst ((xs.drop i).take (xs.length + 1 - n)))) m (PlL T (xs.take i ++ [.ref p] ++ (xs.drop i).drop (xs.length + 1 - n)) (ds.take i ++ [.lst ((ds.drop i).take (ds.length + 1 - n))] ++ (ds.drop i).drop (ds.length + 1 - n))) := h5.more fun Hi f v d t => by
    rcases t with t | t
    · exact f v d (.inl (.inl t))
    · have r0 : RepL C.K Hi xs ds := RepL.of_zip hlx fun v d q => f v d (.inl (.inr q))
      have r1 : Rep C.K Hi (.ref p) (.lst ((ds.drop i).take (ds.length + 1 - n))) := f _ _ Pl.it
      rw [hlx] at t
      exact RepL.zip (((r0.take i).append (.cons r1 .nil)).append ((r0.drop i).drop _)) v d t
  have hlen : (xs.take i ++ [V.ref p] ++ (xs.drop i).drop (xs.length + 1 - n)).length = (ds.take i ++ [D.lst ((ds.drop i).take (ds.length + 1 - n))] ++ (ds.drop i).drop (ds.length + 1 - n)).length := by simp [hlx]
  exact h X S f tk _ σ _ T hlen le sl h6
/-- a list that is data, taken apart -/
theorem dg_lst {ds : List D} {Q : Sl → Sto → Prop} (hl : ds.length = es.length) (h : DGs C W es ds δ m Q) (hn : ∀ env, (assignEach es env).length = es.length := by intro _; rfl) (hst : ∀ env, (assignEach es env).findIdx? (·.1) = none := by intro _; rfl) (hcm : C.cm = true := by rfl) : DG C W (.Tuple es k pos) (.lst ds) δ m Q := by
  intro X S f tk v σ H T le sl t hh
  obtain ⟨a, xs, rfl, hq, hlx, h4⟩ := hh.itemsL t
  refine WG.of (pg_lst (f.calm hcm) wgs (hn _) (hst _)) ⟨a, xs, rfl, SqL.of hq, hlx.trans hl, ?_⟩
  exact h X S f tk xs σ H T hlx le sl h4
end
end G
namespace G
open PySem PySem.Spec PyProof.Rows L2
section
variable {C : Ct} {W : DW} {δ : Sl} {m : Sto} {a b e : Expr} {es : List Expr} {sts : List Stmt} {pos : Pos} {k : Nat} {D : DEn}
/-- x, y = a, b -/
theorem ds_par (i j : Nat) {x y : Str} {px py pt pt2 : Pos} {kt k2 : Nat} (hi : C.N[i]? = some x) (hj : C.N[j]? = some y) (hij : i ≠ j) (hx : C.sc.names.lookup x = some .local) (hy : C.sc.names.lookup y = some .local)
    (h : DA C W [a, b] δ m fun ds m1 => ∃ d d2, ds = [d, d2] ∧ D.nx ((δ.set i (some d)).set j (some d2)) m1)
    (hw : ∀ env : Env, env.scope = C.sc → swappedStores [.Tuple [.Name x px, .Name y py] kt pt] (.Tuple [a, b] k2 pt2) env = pure (some [x, y]))
    (hs : ∀ env, swapsWithSole [.Tuple [.Name x px, .Name y py] kt pt] (.Tuple [a, b] k2 pt2) pos.line env = pure false := by intro _; rfl) (hcm : C.cm = true := by rfl) :
    DS C W (.Assign [.Tuple [.Name x px, .Name y py] kt pt] (.Tuple [a, b] k2 pt2) pos) δ m D := by
  intro X S f tk σ H T le sl hh
  refine WS.of (ps_par (f.calm hcm) f.nd (i := i) (j := j) (by rw [f.N]; exact hi) (by rw [f.N]; exact hj) hij (by rw [f.sc]; exact hx) (by rw [f.sc]; exact hy) wa (hw _ f.sc) (hs _)) ((h X S f tk σ H T le sl hh).mono fun vs H1 ⟨ds, m1, hl, h1, d, d2, e, q⟩ => ?_)
  subst e
  obtain ⟨v, u, rfl⟩ := two_of hl
  have t1 : PlL T [v, u] [d, d2] v d := PlL.at (i := 0) rfl rfl
  have t2 : PlL T [v, u] [d, d2] u d2 := PlL.at (i := 1) rfl rfl
  exact ⟨v, u, rfl, lift_nx (le.trans PlL.le) (((sl.le PlL.le).set t1).set t2) h1 q⟩
/-- a slot's list is data from now on -/
theorem dss_frzS (i : Nat) {p : Addr} {ds : List G.D} (hd : δ[i]? = some (some (.ref p))) (hm : m p = some (.lst ds)) (h : DSs C W sts (δ.set i (some (.lst ds))) (sdel m p) D) : DSs C W sts δ m D := by
  intro X S f tk σ H T le sl hh
  obtain ⟨v, hv, tv⟩ := sl.2 i _ hd
  have r := hh.rep tv
  cases r
  have h2 := hh.freezeL hm
  have hi : i < σ.length := (List.getElem?_eq_some_iff.mp hv).1
  have sl2 := (sl.le (Pl.le (v := .ref p) (d := .lst ds))).set (i := i) (Pl.it (T := T) (v := .ref p) (d := .lst ds))
  have e : σ.set i (some (V.ref p)) = σ := by
    refine List.ext_getElem? fun j => ?_
    by_cases hj : i = j
    · subst hj
      rw [List.getElem?_set_self hi, hv]
    · rw [List.getElem?_set_ne hj]
  rw [e] at sl2
  exact h X S f tk σ H _ (le.trans Pl.le) sl2 h2
end
theorem sput_comm {m : Sto} {p q : Addr} {a b : O} (h : p ≠ q) : sput (sput m p a) q b = sput (sput m q b) p a := by
  funext x
  unfold sput
  by_cases h1 : x = q
  · subst h1
    rw [if_pos rfl, if_neg (Ne.symm h), if_pos rfl]
  · rw [if_neg h1]
    by_cases h2 : x = p
    · rw [if_pos h2, if_pos h2]
    · rw [if_neg h2, if_neg h2, if_neg h1]
theorem sput_mid {m : Sto} {p q : Addr} {a b c : O} (h : p ≠ q) : sput (sput (sput m q a) p b) q c = sput (sput m q c) p b := by
  rw [sput_comm h, sput_sput]
theorem sdel_mid {m : Sto} {p q : Addr} {a b : O} (h : p ≠ q) (hq : m q = none) : sdel (sput (sput m q a) p b) q = sput m p b := by
  rw [← sput_comm h]
  refine sdel_new ?_
  rw [sput_ne (Ne.symm h)]
  exact hq
theorem new_ne {m : Sto} {p q : Addr} {a : O} (h : sput m p a q = none) : p ≠ q := fun e => by
  subst e
  rw [sput_same] at h
  cases h
section
variable {C : Ct} {m : Sto} {Q : D → Sto → Prop}
theorem ix_at {z : Str} {i : Int} {c : Nat} (h0 : 0 ≤ i) (h : (TL.tl z)[i.toNat]? = some c) (h2 : z.length ≤ 1000000) (q : Q (.str ⟨#[c]⟩) m) : ixD (.str z) (.int i) m Q := by
  obtain ⟨k, rfl⟩ : ∃ k : Nat, i = k := ⟨i.toNat, by omega⟩
  exact ⟨c, by have hz := sizeLine_eq; omega, atI_nat (by simpa using h), q⟩
def addSi : R2D := fun x y m Q => ∃ i j, x = .str i ∧ y = .str j ∧ i.length + j.length ≤ sizeLine ∧ Q (.str (i ++ j)) m
theorem od_addSi : OpDi C .Add addSi := by
  rintro X f fr H m T x y d e Q hh tx ty ⟨i, k, rfl, rfl, hz, q⟩
  have rx := hh.rep tx
  have ry := hh.rep ty
  cases rx
  cases ry
  exact wb_of iop_add_str ⟨_, _, rfl, rfl, hz, dk_str hh q⟩
end
end G
namespace G
open PySem PySem.Spec PyProof.Rows L2
section
variable {C : Ct} {W : DW} {δ : Sl} {m : Sto} {e t : Expr} {es : List Expr} {pos p : Pos} {k : Nat}
/-- tuple of a list -/
def tupleD : RLD := fun ds m Q => ∃ l, ds = [.lst l] ∧ Q (.tup l) m
theorem cd_tuple : CallD C (.type "tuple") tupleD := by
  rintro X f fr H m T vs ds Q hl hh ⟨l, rfl, q⟩
  obtain ⟨v, rfl⟩ := one_of hl
  obtain ⟨a, xs, rfl, hq, hl2, h4⟩ := hh.itemsL (PlL.at (i := 0) (v := v) (d := .lst l) rfl rfl)
  exact wc_of call_tuple_of ⟨a, xs, rfl, .inl ⟨SqL.of hq, fun p hp => dK.le (dk_tup h4 hp (fun Hi k => PlL.rep hl2 k) q) (PlL.le.trans PlL.le)⟩⟩
/-- x, *r = .. -/
theorem dg_star1 {x : D} {l : List D} {Q : Sl → Sto → Prop} (hz : l.length ≤ 16000) (h : DGs C W [t, .Starred e p] [x, .lst l] δ m Q)
    (hn : ∀ env, (assignEach [t, .Starred e p] env).length = 2 := by intro _; rfl) (hst : ∀ env, (assignEach [t, .Starred e p] env).findIdx? (·.1) = some 1 := by intro _; rfl) (hcm : C.cm = true := by rfl) : DG C W (.Tuple [t, .Starred e p] k pos) (.tup (x :: l)) δ m Q := by
  refine dg_star 2 1 (ds' := [x, .lst l]) ?_ (by simp) (by simp; omega) h (by decide) hn hst hcm
  simp
end
end G
namespace G
open PySem PySem.Spec PyProof.Rows L2
section
variable {C : Ct} {W : DW} {δ : Sl} {m : Sto} {e : Expr} {pos : Pos} {D : DEn}
theorem ds_asgS {tg : Expr} (h : DE C W e δ m fun d m1 => DG C W tg d δ m1 D.nx) (hw : ∀ env : Env, env.scope = C.sc → swappedStores [tg] e env = pure none) (hs : ∀ env, swapsWithSole [tg] e pos.line env = pure false := by intro _; rfl)
    (h1 : ∀ env, (assignEach [tg] env).map (·.2) = [assign tg env] := by intro _; rfl) : DS C W (.Assign [tg] e pos) δ m D := by
  intro X S f tk σ H T le sl hh
  refine WS.of (ps_asg we wg (hs _) (hw _ f.sc) (h1 _)) ((h X S f tk σ H T le sl hh).mono fun v H1 ⟨d, m1, h1, q⟩ => ?_)
  exact (q X S f tk v σ H1 _ (le.trans Pl.le) (sl.le Pl.le) Pl.it h1).mono fun σ' H' ⟨δ', m', T', le', sl', hh', q'⟩ => ⟨δ', m', T', le.trans (Pl.le.trans le'), sl', hh', q'⟩
end
end G

/-! What the laws' own small defs do: the draws, sameness. -/
namespace G
open PySem PySem.Spec PyProof.Rows L2

/-! ### draws -/
def drawO (ns : List Int) (i b s c : Int) : O := .lst [.lst (ns.map D.int), .int i, .int b, .int s, .int c]
def IsDraw (o : O) : Prop := ∃ ns i b s c, o = drawO ns i b s c ∧ 0 ≤ i ∧ 0 ≤ b ∧ 0 ≤ s ∧ s < 1000000007
def FBegin : DF := fun ds m Q _ => ∃ ns : List Int, ds = [.frz (ns.map D.int)] ∧ ∀ p o, m p = none → IsDraw o → Q (.ref p) (sput m p o)
theorem FBegin.len : ∀ ds m Q E, FBegin ds m Q E → ds.length = (["_law_script"] : List Str).length := by
  rintro ds m Q E ⟨ns, rfl, _⟩
  rfl
theorem begin_draw (ns : List Int) : IsDraw (.lst [.lst (cutL (ns.map D.int) none (some 63)), .int 0, .int 0, .int 1, .int 0]) :=
  ⟨ns.take 63, 0, 0, 1, 0, by
    have e := cutL_to (ns.map D.int) 63
    unfold drawO
    rw [List.map_take]
    exact congrArg (fun z => O.lst [.lst z, .int 0, .int 0, .int 1, .int 0]) e, by omega, by omega, by omega, by omega⟩
theorem use_begin {m : Sto} {Q : D → Sto → Prop} {E : Value → List (Str × D) → Sto → Prop} {ns : List Int} (h : ∀ p o, m p = none → IsDraw o → Q (.ref p) (sput m p o)) : FBegin [.frz (ns.map D.int)] m Q E := ⟨ns, rfl, h⟩
def FPick : DF := fun ds m Q _ => ∃ p n o, ds = [.ref p, .int n] ∧ m p = some o ∧ IsDraw o ∧ 0 < n ∧ n < 1073741824 ∧ ∀ r o', 0 ≤ r → r < n → IsDraw o' → Q (.int r) (sput m p o')
theorem FPick.len : ∀ ds m Q E, FPick ds m Q E → ds.length = (["_law_draw", "_law_many"] : List Str).length := by
  rintro ds m Q E ⟨p, n, o, rfl, _⟩
  rfl
/-- a draw, where the store is known as one with the draw put in -/
theorem use_pick {m : Sto} {Q : D → Sto → Prop} {E : Value → List (Str × D) → Sto → Prop} {p : Addr} {n : Int} {o : O} (hd : IsDraw o) (h0 : 0 < n) (h1 : n < 1073741824) (h : ∀ r o', 0 ≤ r → r < n → IsDraw o' → Q (.int r) (sput m p o')) : FPick [.ref p, .int n] (sput m p o) Q E :=
  ⟨p, n, o, rfl, sput_same, hd, h0, h1, fun r o' a b c => by rw [sput_sput]; exact h r o' a b c⟩
theorem draw_cell {ns : List Int} {i : Int} (h0 : 0 ≤ i) (h : i < ((ns.map D.int).length : Int)) : ∃ z : Int, (ns.map D.int)[i.toNat]? = some (.int z) := by
  have hi : i.toNat < ns.length := by rw [List.length_map] at h; omega
  exact ⟨ns[i.toNat], by rw [List.getElem?_map, List.getElem?_eq_getElem hi]; rfl⟩
theorem cube {s : Int} (h0 : 0 ≤ s) (h : s < 1000000007) : CPow s 3 := ⟨by omega, by omega, by omega⟩

theorem FLaw.len : ∀ ds m Q E, FLaw ds m Q E → ds.length = (["_law_script"] : List Str).length := by
  rintro ds m Q E ⟨ns, rfl, _⟩
  rfl
/-! ### sameness -/
theorem okDL_all {n : Nat} : ∀ {l : List D}, (∀ d ∈ l, okD n d = true) → okDL n l = true
  | [], _ => by simp [okDL]
  | d :: l, h => by
    simp only [okDL, Bool.and_eq_true]
    exact ⟨h d List.mem_cons_self, okDL_all fun x hx => h x (List.mem_cons_of_mem _ hx)⟩
theorem okDL_mem {n : Nat} : ∀ {l : List D}, okDL n l = true → ∀ d ∈ l, okD n d = true
  | [], _, d, hd => by cases hd
  | x :: l, h, d, hd => by
    simp only [okDL, Bool.and_eq_true] at h
    rcases List.mem_cons.mp hd with e | hd
    · rw [e]; exact h.1
    · exact okDL_mem h.2 d hd
theorem okDL_map {α : Type} {n : Nat} {f : α → D} {l : List α} (h : ∀ x, okD n (f x) = true) : okDL n (l.map f) = true := okDL_all fun d hd => by
  obtain ⟨x, _, rfl⟩ := List.mem_map.mp hd
  exact h x
mutual
theorem eqv_refl : ∀ d : PyData, d.canLay0 = true → PyData.eqv d d = true
  | .none, _ => by simp [PyData.eqv]
  | .bool _, _ => by simp [PyData.eqv]
  | .int _, _ => by simp [PyData.eqv]
  | .str _, _ => by simp [PyData.eqv]
  | .list xs, h => by
    simp only [PyData.eqv]
    exact eqvAll_refl xs (by simpa [PyData.canLay0] using h)
  | .tuple xs, h => by
    simp only [PyData.eqv]
    exact eqvAll_refl xs (by simpa [PyData.canLay0] using h)
  | .dict _, h => by simp [PyData.canLay0] at h
theorem eqvAll_refl : ∀ l : List PyData, PyData.canLayAll0 l = true → PyData.eqvAll l l = true
  | [], _ => by simp [PyData.eqvAll]
  | d :: l, h => by
    simp only [PyData.canLayAll0, Bool.and_eq_true] at h
    simp only [PyData.eqvAll, Bool.and_eq_true]
    exact ⟨eqv_refl d h.1, eqvAll_refl l h.2⟩
end
theorem eqvD_refl {n : Nat} {d : D} (h : okD n d = true) : eqvD d d = true := eqv_refl _ (okD_lay n d h)
def FSame (n : Nat) : DF := fun ds m Q _ => ∃ d, ds = [d, d] ∧ okD n d = true ∧ Q (.bl true) m
theorem FSame.len {n : Nat} : ∀ ds m Q E, FSame n ds m Q E → ds.length = (["_law_found", "_law_due"] : List Str).length := by
  rintro ds m Q E ⟨d, rfl, _⟩
  rfl
theorem use_same {n : Nat} {m : Sto} {Q : D → Sto → Prop} {E : Value → List (Str × D) → Sto → Prop} {x y : D} (e : x = y) (ok : okD n y = true) (h : Q (.bl true) m) : FSame n [x, y] m Q E := by
  subst e
  exact ⟨x, rfl, ok, h⟩
end G

/-! Boxes as data; a box drawn; lists of numbers as data. -/
namespace G
open PySem PySem.Spec PyProof.Rows L2
abbrev boxD (a b h w : Int) : D := .tup [.int a, .int b, .int h, .int w]
def FBox : DF := fun ds m Q _ => ∃ p n o, ds = [.ref p, .int n] ∧ m p = some o ∧ IsDraw o ∧ 0 < n ∧ n < 1073741824 ∧ ∀ a b h w o', 0 ≤ a → a < 1073741824 → 0 ≤ b → b < 6 → 1 ≤ h → h ≤ 5 → 1 ≤ w → w ≤ 5 → IsDraw o' → Q (boxD a b h w) (sput m p o')
theorem FBox.len : ∀ ds m Q E, FBox ds m Q E → ds.length = (["_law_draw", "_law_far"] : List Str).length := by
  rintro ds m Q E ⟨_, _, _, rfl, _⟩
  rfl
theorem use_box {m : Sto} {Q : D → Sto → Prop} {E : Value → List (Str × D) → Sto → Prop} {p : Addr} {n : Int} {o : O} (hd : IsDraw o) (h0 : 0 < n) (h1 : n < 1073741824) (h : ∀ a b h w o', 0 ≤ a → a < 1073741824 → 0 ≤ b → b < 6 → 1 ≤ h → h ≤ 5 → 1 ≤ w → w ≤ 5 → IsDraw o' → Q (boxD a b h w) (sput m p o')) : FBox [.ref p, .int n] (sput m p o) Q E :=
  ⟨p, n, o, rfl, sput_same, hd, h0, h1, fun a b x w o' u1 u2 u3 u4 u5 u6 u7 u8 d => by rw [sput_sput]; exact h a b x w o' u1 u2 u3 u4 u5 u6 u7 u8 d⟩
theorem ixT2i {m : Sto} {Q : D → Sto → Prop} {x y i : Int} (h0 : 0 ≤ i) (h1 : i < 2) (q : ∀ z, (z = x ∨ z = y) → Q (.int z) m) : ixD (.tup [.int x, .int y]) (.int i) m Q := by
  obtain rfl | rfl : i = 0 ∨ i = 1 := by omega
  · exact ixT 0 rfl (q x (.inl rfl))
  · exact ixT 1 rfl (q y (.inr rfl))
theorem ixBox {m : Sto} {Q : D → Sto → Prop} {a b h w i : Int} (h0 : 0 ≤ i) (h1 : i < 4) (q : ∀ z, ((i = 0 → z = a) ∧ (i = 1 → z = b)) ∧ ((i = 2 → z = h) ∧ (i = 3 → z = w)) → Q (.int z) m) : ixD (boxD a b h w) (.int i) m Q := by
  obtain rfl | rfl | rfl | rfl : i = 0 ∨ i = 1 ∨ i = 2 ∨ i = 3 := by omega
  · exact ixT 0 rfl (q a (by omega))
  · exact ixT 1 rfl (q b (by omega))
  · exact ixT 2 rfl (q h (by omega))
  · exact ixT 3 rfl (q w (by omega))
def rngI (lo : Int) (n : Nat) : List Int := (List.range n).map fun i => lo + (i : Nat)
theorem rngI_succ (lo : Int) (n : Nat) : rngI lo (n + 1) = rngI lo n ++ [lo + (n : Nat)] := by
  unfold rngI
  rw [List.range_succ, List.map_append]
  rfl
theorem rngI_len (lo : Int) (n : Nat) : (rngI lo n).length = n := by simp [rngI]
theorem rngI_first (b : Int) (k : Nat) (hk : 1 ≤ k) : (rngI b k)[0]? = some b := by
  obtain ⟨k, rfl⟩ : ∃ j, k = j + 1 := ⟨k - 1, by omega⟩
  unfold rngI
  rw [List.range_succ_eq_map]
  simp
theorem rngI_last (b : Int) (k : Nat) (hk : 1 ≤ k) : (rngI b k).getLast? = some (b + (k : Nat) - 1) := by
  obtain ⟨k, rfl⟩ : ∃ j, k = j + 1 := ⟨k - 1, by omega⟩
  rw [rngI_succ, List.getLast?_append]
  have e : b + (k : Nat) = b + ((k + 1 : Nat) : Int) - 1 := by omega
  rw [e]
  simp
end G

/-! The law's end, over the data layer. -/
namespace G
open PySem PySem.Spec PyProof.Rows L2
theorem walk_w {l : PySem.W.OpenLaw} {k : Nat} {q : Program} {loose : List Str} {XP : (Str → Option Value) → Heap → Prop} {YP : World → Heap → Prop} {d : DefRec} {x : Str}
    (most : l.most = some 63) (plain : d.params.defaults = []) (room : Room k callerA)
    (F : ∀ (w : World) (g : Str → Option Value) (a : Addr) (h : Heap), YP w h → h.Ns mainGlobals g → g d.name = some (.ref a) →
      ∃ (K : PySem.W.Frag) (fd : FuncData), K.In h ∧ (∀ (s : Shared) (u : Value), BindsTo s fd ⟨[u], []⟩ [(x, u)]) ∧
        ∀ base : Heap, K.In base → base.Ns mainGlobals g → FnOk l.prog w K g base (L2.CX l.prog w) k a fd [x] (spD K FLaw)) :
    PySem.W.WalkO q loose XP YP l.row.toRowW d [] (fun f vs => PySem.call f vs) :=
  Att.attach_call most plain fun w s₀ s₁ g mb fa o pm cd doc a vs ns G Y own hd hcd at_ ob isI len gens => by
    obtain ⟨K, fd, KX, bind, ok⟩ := F w g fa _ Y G.T.g at_
    have len2 : ns.length ≤ sizeLine := Nat.le_trans len (by decide)
    exact law_call KX G.T.g G.T.b G.T.builtins G.T.nolimit gens ob isI len2 room ok bind (fun H _ hS => law_sp len hS) fun H e s' => cx_never
end G

/-! The head's facts beyond the hook's own: tuples of texts, classes of errors. -/
namespace G
open PySem PySem.Spec PyProof.Rows L2
def strsB : List Value → List Str → Bool
  | [], [] => true
  | .str y _ :: vs, z :: zs => decide (y = z) && strsB vs zs
  | _, _ => false
theorem strsB_ok : ∀ {vs : List Value} {zs : List Str}, strsB vs zs = true → Vals (zs.map V.str) vs
  | [], [], _ => .nil
  | .str y t :: vs, z :: zs, h => by
    have h2 : (decide (y = z) && strsB vs zs) = true := h
    obtain ⟨h3, h4⟩ := He.ba h2
    have e : y = z := of_decide_eq_true h3
    subst e
    exact .cons ⟨t, rfl⟩ (strsB_ok h4)
  | [], _ :: _, h => by cases h
  | .none :: _, [], h => by cases h
  | .str _ _ :: _, [], h => by cases h
  | .none :: _, _ :: _, h => by cases h
  | .bool _ :: _, [], h => by cases h
  | .bool _ :: _, _ :: _, h => by cases h
  | .int _ _ :: _, [], h => by cases h
  | .int _ _ :: _, _ :: _, h => by cases h
  | .ref _ :: _, [], h => by cases h
  | .ref _ :: _, _ :: _, h => by cases h
  | .type _ :: _, [], h => by cases h
  | .type _ :: _, _ :: _, h => by cases h
  | .builtin _ :: _, [], h => by cases h
  | .builtin _ :: _, _ :: _, h => by cases h
def tupB (K : PySem.W.Frag) (x : Str) (zs : List Str) : Bool := match K.lookup (He.ga K x) with
  | some ⟨.type c, none, .seq its _, _⟩ => decide (c = "tuple") && (decide (its.size ≤ sizeLine) && strsB its.toList zs)
  | _ => false
theorem tupB_ok {K : PySem.W.Frag} {mg : Str → Option Value} {x : Str} {zs : List Str} (h : tupB K x zs = true) (hm : mg x = some (.ref (He.ga K x))) : TupK K mg x zs := by
  unfold tupB at h
  cases q : K.lookup (He.ga K x) with
  | none =>
    rw [q] at h
    cases h
  | some o =>
    obtain ⟨oc, od, dt, osl⟩ := o
    rw [q] at h
    cases oc with
    | type c =>
      cases od with
      | none =>
        cases dt with
        | seq its n =>
          obtain ⟨h1, h2⟩ := He.ba h
          obtain ⟨h3, h4⟩ := He.ba h2
          have e : c = "tuple" := of_decide_eq_true h1
          exact ⟨_, _, its, n, hm, q, congrArg Value.type e, rfl, rfl, of_decide_eq_true h3, strsB_ok h4⟩
        | _ => cases h
      | some d => cases dt <;> cases h
    | _ => cases od <;> cases dt <;> cases h
theorem ec_of {K : PySem.W.Frag} {mg : Str → Option Value} {x : Str} (c : (He.Fa.exc x).ok K = true) (hm : mg x = some (.ref (He.ga K x))) : Ec K mg x (He.ga K x) := by
  obtain ⟨h1, h2, h3, h4⟩ := He.exc_ok c
  exact ⟨hm, h2, h1, h3, h4⟩
end G

/-! Facts at the head: classes of errors, as isinstance asks for them. -/
namespace G
open PySem PySem.Spec PyProof.Rows L2
def exIsB (K : PySem.W.Frag) (x : Str) : Bool :=
  He.eqO (PySem.W.findIn K (.ref (He.ga K x)) "__getattribute__") (some (some (.builtin "BaseException.__getattribute__"))) &&
  (He.eqO (PySem.W.findIn K (.ref (He.ga K x)) "__getattr__") (some none) &&
  (decide (PySem.W.subIn K (.ref (He.ga K x)) (.type "BaseException") = some true) &&
  (PySem.W.hasDictIn K (He.ga K x) &&
  (He.eqO (PySem.W.findIn K (.ref (He.ga K x)) "__class__") (some (some (.builtin "object.__class__"))) &&
  (He.eqO (PySem.W.specialIn K (.builtin "object.__class__") "__get__") (some (some (.builtin "getset_descriptor.__get__"))) &&
  (decide (PySem.W.takesIn K (.builtin "object.__class__") = some true) &&
  decide (PySem.W.mroIn K (He.ga K x) (.type "object") = some true)))))))
theorem exIsB_ok {K : PySem.W.Frag} {x : Str} (h : exIsB K x = true) : ExcC K (He.ga K x) := by
  unfold exIsB at h
  obtain ⟨h1, h⟩ := He.ba h
  obtain ⟨h2, h⟩ := He.ba h
  obtain ⟨h3, h⟩ := He.ba h
  obtain ⟨h4, h⟩ := He.ba h
  obtain ⟨h5, h⟩ := He.ba h
  obtain ⟨h6, h⟩ := He.ba h
  obtain ⟨h7, h8⟩ := He.ba h
  exact ⟨He.eqO_ok h1, He.eqO_ok h2, of_decide_eq_true h3, h4, He.eqO_ok h5, He.eqO_ok h6, of_decide_eq_true h7, of_decide_eq_true h8⟩
end G

/-! Texts: words, lines; the plain law of k11. -/
namespace G
open PySem PySem.Spec PyProof.Rows L2
/-! ### split at blanks -/
def sp1 : Str := " "
theorem spl_sum : ∀ (l acc : List Nat), ((TL.spl [32] 0 acc l).map fun w => w.length + 1).sum = acc.length + l.length + 1
  | [], acc => by
    rw [TL.spl_nil]
    simp
  | c :: r, acc => by
    cases h : TL.pre [32] (c :: r) with
    | true =>
      rw [TL.spl_hit h]
      show acc.length + 1 + ((TL.spl [32] ([32].length - 1) [] r).map _).sum = _
      have ih := spl_sum r []
      rw [show ([32] : List Nat).length - 1 = 0 from rfl, ih]
      simp
      omega
    | false =>
      rw [TL.spl_miss h, spl_sum r (acc ++ [c])]
      simp
      omega
theorem split_sum (x : Str) : ((Txt.split x sp1).map fun w => w.length + 1).sum = x.length + 1 := by
  have e := TL.split_spl x sp1 (by decide) (TL.kind_ok (by decide +kernel))
  have e1 : ((Txt.split x sp1).map fun w => w.length + 1) = ((Txt.split x sp1).map TL.tl).map fun w => w.length + 1 := by
    rw [List.map_map]
    refine List.map_congr_left fun w _ => ?_
    show w.length + 1 = (TL.tl w).length + 1
    rw [TL.len_tl w]
  rw [e1, e]
  have e2 := spl_sum (TL.tl x) []
  rw [TL.len_tl x]
  exact e2.trans (by simp)
theorem sum_len : ∀ l : List Str, l.length ≤ (l.map fun w => w.length + 1).sum
  | [] => Nat.le_refl _
  | w :: l => by
    have := sum_len l
    simp only [List.length_cons, List.map_cons, List.sum_cons]
    omega
theorem sum_mem {w : Str} : ∀ {l : List Str}, w ∈ l → w.length + 1 ≤ (l.map fun w => w.length + 1).sum
  | x :: l, h => by
    simp only [List.map_cons, List.sum_cons]
    rcases List.mem_cons.mp h with rfl | h
    · omega
    · have := sum_mem h
      omega
theorem sum_filter (p : Str → Bool) : ∀ l : List Str, ((l.filter p).map fun w => w.length + 1).sum ≤ (l.map fun w => w.length + 1).sum
  | [] => Nat.le_refl _
  | w :: l => by
    have ih := sum_filter p l
    rw [List.filter_cons]
    split
    · simp only [List.map_cons, List.sum_cons]
      omega
    · simp only [List.map_cons, List.sum_cons]
      omega
theorem sum_take (i : Nat) : ∀ l : List Str, ((l.take i).map fun w => w.length + 1).sum ≤ (l.map fun w => w.length + 1).sum := by
  induction i with
  | zero => intro l; simp
  | succ i ih =>
    intro l
    cases l with
    | nil => simp
    | cons w l =>
      have := ih l
      simp only [List.take_succ_cons, List.map_cons, List.sum_cons]
      omega
/-- the words of a text -/
def wordsL (x : Str) : List Str := (Txt.split x sp1).filter fun w => decide (¬ w = "")
theorem words_sum (x : Str) : ((wordsL x).map fun w => w.length + 1).sum ≤ x.length + 1 := by
  have h := sum_filter (fun w => decide (¬ w = "")) (Txt.split x sp1)
  rw [split_sum] at h
  exact h
/-! ### pieces of a word -/
def manyP (r : Int) (w : Str) : Nat := (((w.length : Int) + r - 1) / r).toNat
def pieceAt (r : Int) (w : Str) (k : Nat) : Str := cutS w (some (0 + (k : Nat) * r)) (some (0 + (k : Nat) * r + r))
def pieces (r : Int) (w : Str) : List Str := (List.range (manyP r w)).map (pieceAt r w)
theorem manyP_le {r : Int} {w : Str} (hr : 1 ≤ r) : manyP r w ≤ w.length := by
  unfold manyP
  by_cases h : w.length = 0
  · rw [h, Int.ediv_eq_zero_of_lt (by omega) (by omega)]
    exact Nat.le_refl 0
  · have h1 : ((w.length : Int) + r - 1) / r ≤ (w.length : Int) := by
      refine Int.ediv_le_of_le_mul (by omega) ?_
      have h2 : (w.length : Int) * r = (w.length : Int) + (w.length : Int) * (r - 1) := by
        rw [Int.mul_sub, Int.mul_one]
        omega
      have h3 : 1 * (r - 1) ≤ (w.length : Int) * (r - 1) := Int.mul_le_mul_of_nonneg_right (by omega) (by omega)
      omega
    omega
theorem cutS_len (w : Str) (a b : Option Int) : (cutS w a b).length ≤ w.length := by
  have e := TL.len_tl (cutS w a b)
  have e2 := TL.len_tl w
  rw [e, e2]
  show (List.take _ (List.drop _ w.cps.toList)).length ≤ _
  have h1 := List.length_take_le' (HT.sIx w.length w.length b - HT.sIx w.length 0 a) (w.cps.toList.drop (HT.sIx w.length 0 a))
  have h2 : (w.cps.toList.drop (HT.sIx w.length 0 a)).length ≤ w.cps.toList.length := by rw [List.length_drop]; omega
  exact Nat.le_trans h1 h2
theorem pieces_len {r : Int} {w : Str} (hr : 1 ≤ r) : (pieces r w).length ≤ w.length := by
  unfold pieces
  rw [List.length_map, List.length_range]
  exact manyP_le hr
theorem pieces_mem {r : Int} {w z : Str} (h : z ∈ pieces r w) : z.length ≤ w.length := by
  obtain ⟨k, _, rfl⟩ := List.mem_map.mp h
  exact cutS_len _ _ _
/-- a short word is one piece -/
theorem one_piece {r : Int} {w : Str} (h1 : 1 ≤ w.length) (h2 : (w.length : Int) ≤ r) : pieces r w = [w] := by
  have e1 : manyP r w = 1 := by
    unfold manyP
    rw [show (w.length : Int) + r - 1 = ((w.length : Int) - 1) + 1 * r from by omega, Int.add_mul_ediv_right _ _ (by omega), Int.ediv_eq_zero_of_lt (by omega) (by omega)]
    rfl
  have e2 : pieceAt r w 0 = w := by
    unfold pieceAt
    rw [show (0 : Int) + ((0 : Nat) : Int) * r = ((0 : Nat) : Int) from by simp]
    rw [show ((0 : Nat) : Int) + r = ((r.toNat : Nat) : Int) from by omega]
    refine TL.ext_tl ?_
    show List.take _ (List.drop _ w.cps.toList) = w.cps.toList
    rw [HT.sIx_nat, HT.sIx_nat]
    have e3 := TL.len_tl w
    have e4 : w.cps.toList.length = w.length := e3.symm
    rw [Nat.zero_min, List.drop_zero, List.take_of_length_le (by omega)]
  unfold pieces
  rw [e1]
  show [pieceAt r w 0] = [w]
  rw [e2]
/-! ### lines -/
def stepW (r : Int) (rows : List Str) (w : Str) : List Str :=
  if (w.length : Int) > r then rows ++ pieces r w
  else match rows.getLast? with
    | some a => if (a.length : Int) + 1 + w.length ≤ r then rows.set (rows.length - 1) (a ++ (" " ++ w)) else rows ++ [w]
    | none => rows ++ [w]
def linesW (r : Int) (x : Str) : List Str := (wordsL x).foldl (stepW r) []
def Bnd (n : Nat) (rows : List Str) : Prop := rows.length ≤ n ∧ ∀ z ∈ rows, z.length ≤ n
theorem bnd_app {n k : Nat} {a b : List Str} (ha : Bnd n a) (h1 : b.length ≤ k) (h2 : ∀ z ∈ b, z.length ≤ k) : Bnd (n + k) (a ++ b) := by
  refine ⟨by rw [List.length_append]; have := ha.1; omega, fun z hz => ?_⟩
  rcases List.mem_append.mp hz with hz | hz
  · have := ha.2 z hz; omega
  · have := h2 z hz; omega
theorem bnd_step {n : Nat} {r : Int} {rows : List Str} {w : Str} (hr : 1 ≤ r) (h : Bnd n rows) : Bnd (n + (w.length + 1)) (stepW r rows w) := by
  have one : Bnd (n + (w.length + 1)) (rows ++ [w]) := bnd_app h (by simp) fun z hz => by
    rw [List.mem_singleton.mp hz]
    omega
  unfold stepW
  split
  · exact bnd_app h (by have := pieces_len (w := w) hr; omega) fun z hz => by have := pieces_mem hz; omega
  · split
    · rename_i a ha
      split
      · refine ⟨by rw [List.length_set]; have := h.1; omega, fun z hz => ?_⟩
        rcases List.mem_or_eq_of_mem_set hz with hz | rfl
        · have := h.2 z hz; omega
        · have ha2 := h.2 a (List.mem_of_getLast? ha)
          have e1 := TL.len_tl (a ++ (" " ++ w))
          rw [TL.tl_append, TL.tl_append, List.length_append, List.length_append, ← TL.len_tl a, ← TL.len_tl w] at e1
          have e2 : (TL.tl (" " : Str)).length = 1 := by decide +kernel
          omega
      · exact one
    · exact one
theorem bnd_fold {r : Int} (hr : 1 ≤ r) : ∀ (l : List Str) (n : Nat) (rows : List Str), Bnd n rows → Bnd (n + (l.map fun w => w.length + 1).sum) (l.foldl (stepW r) rows)
  | [], n, rows, h => h
  | w :: l, n, rows, h => by
    have := bnd_fold hr l _ _ (bnd_step (w := w) hr h)
    simp only [List.map_cons, List.sum_cons, List.foldl_cons]
    rw [← Nat.add_assoc]
    exact this
theorem bnd_some {r : Int} (hr : 1 ≤ r) (x : Str) (i : Nat) : Bnd (x.length + 1) (((wordsL x).take i).foldl (stepW r) []) := by
  have h := bnd_fold hr ((wordsL x).take i) 0 [] ⟨Nat.le_refl 0, fun z hz => by cases hz⟩
  have h2 := Nat.le_trans (sum_take i (wordsL x)) (words_sum x)
  exact ⟨by have := h.1; omega, fun z hz => by have := h.2 z hz; omega⟩
theorem fold_succ {r : Int} {l : List Str} {i : Nat} {w : Str} (h : l[i]? = some w) : (l.take (i + 1)).foldl (stepW r) [] = stepW r ((l.take i).foldl (stepW r) []) w := by
  rw [List.take_succ, h, List.foldl_append]
  rfl
/-! the step, case by case -/
theorem step_long {r : Int} {rows : List Str} {w : Str} (h : (w.length : Int) > r) : stepW r rows w = rows ++ pieces r w := if_pos h
theorem step_join {r : Int} {rows : List Str} {w a : Str} (h : ¬ (w.length : Int) > r) (ha : rows.getLast? = some a) (h2 : (a.length : Int) + 1 + w.length ≤ r) : stepW r rows w = rows.set (rows.length - 1) (a ++ (" " ++ w)) := by
  unfold stepW
  rw [if_neg h, ha]
  exact if_pos h2
theorem step_new {r : Int} {rows : List Str} {w : Str} (h : ¬ (w.length : Int) > r) (ha : ∀ a, rows.getLast? = some a → ¬ (a.length : Int) + 1 + w.length ≤ r) : stepW r rows w = rows ++ [w] := by
  unfold stepW
  rw [if_neg h]
  cases e : rows.getLast? with
  | none => rfl
  | some a => exact if_neg (ha a e)
theorem word_len {x w : Str} {i : Nat} (h : (wordsL x)[i]? = some w) : 1 ≤ w.length ∧ w.length ≤ x.length := by
  have hm := List.mem_of_getElem? h
  have h2 := Nat.le_trans (sum_mem hm) (words_sum x)
  have h3 : decide (¬ w = "") = true := (List.mem_filter.mp hm).2
  refine ⟨?_, by omega⟩
  have h4 := of_decide_eq_true h3
  have e := TL.len_tl w
  have : TL.tl w ≠ [] := fun q => h4 (TL.ext_tl q)
  have := List.length_pos_iff.mpr this
  omega
theorem join_assoc (a w : Str) : (a ++ " ") ++ w = a ++ ((" " : Str) ++ w) := TL.ext_tl (by rw [TL.tl_append, TL.tl_append, TL.tl_append, TL.tl_append, List.append_assoc])
theorem ok_strs (n : Nat) (l : List Str) (h : ∀ z ∈ l, PyData.strOk z = true) : okDL n (l.map D.str) = true := okDL_all fun d hd => by
  obtain ⟨z, hz, rfl⟩ := List.mem_map.mp hd
  simp [okD, h z hz]
/-! ### signs that are signs -/
def Sg (l : List Nat) : Prop := ∀ c ∈ l, c < 1114112
theorem strOk_iff {z : Str} : PyData.strOk z = true ↔ Sg (TL.tl z) := by
  unfold PyData.strOk Sg
  rw [← Array.all_toList, List.all_eq_true]
  constructor
  · intro h c hc
    exact of_decide_eq_true (h c hc)
  · intro h c hc
    exact decide_eq_true (h c hc)
theorem spl_mem : ∀ (l acc w : List Nat), w ∈ TL.spl [32] 0 acc l → ∀ c ∈ w, c ∈ acc ∨ c ∈ l
  | [], acc, w, h, c, hc => by
    rw [TL.spl_nil, List.mem_singleton] at h
    subst h
    exact .inl hc
  | x :: r, acc, w, h, c, hc => by
    cases q : TL.pre [32] (x :: r) with
    | true =>
      rw [TL.spl_hit q] at h
      rcases List.mem_cons.mp h with rfl | h
      · exact .inl hc
      · rcases spl_mem r [] w h c hc with e | e
        · cases e
        · exact .inr (List.mem_cons_of_mem _ e)
    | false =>
      rw [TL.spl_miss q] at h
      rcases spl_mem r (acc ++ [x]) w h c hc with e | e
      · rcases List.mem_append.mp e with e | e
        · exact .inl e
        · exact .inr (by rw [List.mem_singleton.mp e]; exact List.mem_cons_self)
      · exact .inr (List.mem_cons_of_mem _ e)
theorem split_ok {x w : Str} (hx : PyData.strOk x = true) (h : w ∈ Txt.split x sp1) : PyData.strOk w = true := by
  rw [strOk_iff] at hx ⊢
  have e := TL.split_spl x sp1 (by decide) (TL.kind_ok (by decide +kernel))
  have h2 : TL.tl w ∈ TL.spl [32] 0 [] (TL.tl x) := by
    have e2 : TL.spl (TL.tl sp1) 0 [] (TL.tl x) = TL.spl [32] 0 [] (TL.tl x) := rfl
    rw [← e2, ← e]
    exact List.mem_map_of_mem h
  intro c hc
  rcases spl_mem _ _ _ h2 c hc with e | e
  · cases e
  · exact hx c e
theorem cutS_ok {w : Str} {a b : Option Int} (h : PyData.strOk w = true) : PyData.strOk (cutS w a b) = true := by
  rw [strOk_iff] at h ⊢
  intro c hc
  exact h c (List.mem_of_mem_drop (List.mem_of_mem_take hc))
theorem app_ok {a b : Str} (ha : PyData.strOk a = true) (hb : PyData.strOk b = true) : PyData.strOk (a ++ b) = true := by
  rw [strOk_iff] at ha hb ⊢
  rw [TL.tl_append]
  intro c hc
  rcases List.mem_append.mp hc with h | h
  · exact ha c h
  · exact hb c h
def OkR (rows : List Str) : Prop := ∀ z ∈ rows, PyData.strOk z = true
theorem step_ok {r : Int} {rows : List Str} {w : Str} (h : OkR rows) (hw : PyData.strOk w = true) : OkR (stepW r rows w) := by
  have one : OkR (rows ++ [w]) := fun z hz => by
    rcases List.mem_append.mp hz with hz | hz
    · exact h z hz
    · rw [List.mem_singleton.mp hz]; exact hw
  unfold stepW
  split
  · intro z hz
    rcases List.mem_append.mp hz with hz | hz
    · exact h z hz
    · obtain ⟨k, _, rfl⟩ := List.mem_map.mp hz
      exact cutS_ok hw
  · split
    · rename_i a ha
      split
      · intro z hz
        rcases List.mem_or_eq_of_mem_set hz with hz | rfl
        · exact h z hz
        · exact app_ok (h a (List.mem_of_getLast? ha)) (app_ok (by decide +kernel) hw)
      · exact one
    · exact one
theorem fold_ok {r : Int} : ∀ (l rows : List Str), OkR rows → OkR l → OkR (l.foldl (stepW r) rows)
  | [], rows, h, _ => h
  | w :: l, rows, h, hl => fold_ok l _ (step_ok h (hl w List.mem_cons_self)) fun z hz => hl z (List.mem_cons_of_mem _ hz)
theorem words_ok {x : Str} (hx : PyData.strOk x = true) : OkR (wordsL x) := fun z hz => split_ok hx ((List.mem_filter.mp hz).1)
theorem lines_ok {r : Int} {x : Str} (hx : PyData.strOk x = true) : OkR (linesW r x) := fold_ok _ _ (fun z hz => by cases hz) (words_ok hx)
/-! ### what the defs do -/
def FWords : DF := fun ds m Q _ => ∃ x : Str, ds = [.str x] ∧ x.length ≤ 1000000 ∧ ∀ p, m p = none → Q (.ref p) (sput m p (.lst ((wordsL x).map D.str)))
theorem FWords.len : ∀ ds m Q E, FWords ds m Q E → ds.length = (["text"] : List Str).length := by
  rintro ds m Q E ⟨_, rfl, _⟩
  rfl
def FPieces : DF := fun ds m Q _ => ∃ (w : Str) (r : Int), ds = [.str w, .int r] ∧ w.length ≤ 1000000 ∧ 1 ≤ r ∧ r < 1000000 ∧ Q (.lst ((pieces r w).map D.str)) m
theorem FPieces.len : ∀ ds m Q E, FPieces ds m Q E → ds.length = (["word", "wide"] : List Str).length := by
  rintro ds m Q E ⟨_, _, rfl, _⟩
  rfl
def FLines : DF := fun ds m Q _ => ∃ (x : Str) (r : Int), ds = [.str x, .int r] ∧ PyData.strOk x = true ∧ x.length ≤ 1000000 ∧ 1 ≤ r ∧ r < 1000000 ∧ Q (.lst ((linesW r x).map D.str)) m
theorem FLines.len : ∀ ds m Q E, FLines ds m Q E → ds.length = (["text", "wide"] : List Str).length := by
  rintro ds m Q E ⟨_, _, rfl, _⟩
  rfl
def setL (x : Str) (r : Int) (b : Bool) : List Str := if b = true then linesW r x else [cutS x none (some r)]
def FSet (c : Addr) : DF := fun ds m Q E => ∃ (x : Str) (r : Int) (b : Bool), ds = [.str x, .int r, .bl b] ∧ PyData.strOk x = true ∧ x.length ≤ 1000000 ∧ r < 1000000 ∧ (1 ≤ r → Q (.lst ((setL x r b).map D.str)) m) ∧ (r < 1 → E (.ref c) [] m)
theorem FSet.len {c : Addr} : ∀ ds m Q E, FSet c ds m Q E → ds.length = (["text", "wide", "wrap"] : List Str).length := by
  rintro ds m Q E ⟨_, _, _, rfl, _⟩
  rfl
theorem set_ok {x : Str} {r : Int} {b : Bool} (hx : PyData.strOk x = true) : OkR (setL x r b) := by
  unfold setL
  split
  · exact lines_ok hx
  · intro z hz
    rw [List.mem_singleton.mp hz]
    exact cutS_ok hx
def lastS (rows : List Str) : Str := rows.getLast?.getD ""
theorem last_is {rows : List Str} (h : rows.isEmpty = false) : rows.getLast? = some (lastS rows) := by
  cases rows with
  | nil => cases h
  | cons a l =>
    unfold lastS
    rw [List.getLast?_cons]
    rfl
theorem last_mem {rows : List Str} (h : rows.isEmpty = false) : lastS rows ∈ rows := List.mem_of_getLast? (last_is h)
theorem len_pos {rows : List Str} (h : rows.isEmpty = false) : 1 ≤ rows.length := by
  cases rows with
  | nil => cases h
  | cons a l => simp
theorem eqv_nilS (l : List Str) : eqvD (.lst (l.map D.str)) (.lst []) = l.isEmpty := by
  cases l <;> simp [eqvD, toPy, toPyL, PyData.eqv, PyData.eqvAll]
theorem some_ok {r : Int} {x : Str} (hx : PyData.strOk x = true) (i : Nat) : OkR (((wordsL x).take i).foldl (stepW r) []) := fold_ok _ _ (fun z hz => by cases hz) fun z hz => words_ok hx z (List.mem_of_mem_take hz)
theorem step_join' {r : Int} {rows : List Str} {w : Str} (h : (w.length : Int) ≤ r) (ne : rows.isEmpty = false ∧ ((lastS rows).length : Int) + 1 + w.length ≤ r) : stepW r rows w = rows.set (rows.length - 1) (lastS rows ++ (" " ++ w)) := step_join (by omega) (last_is ne.1) ne.2
theorem step_new' {r : Int} {rows : List Str} {w : Str} (h : (w.length : Int) ≤ r) (ne : rows.isEmpty = true ∨ r < ((lastS rows).length : Int) + 1 + w.length) : stepW r rows w = rows ++ [w] := step_new (by omega) fun a ha => by
  rcases ne with ne | ne
  · rw [List.isEmpty_iff.mp ne] at ha
    cases ha
  · unfold lastS at ne
    rw [ha] at ne
    have ne : r < (a.length : Int) + 1 + w.length := ne
    omega
end G

/-! Sameness of an object and data; drawn texts. -/
namespace G
open PySem PySem.Spec PyProof.Rows L2
section
variable {m : Sto} {Q : D → Sto → Prop}
theorem tyM_ref {p : Addr} {l : List D} (hm : m p = some (.lst l)) : tyM (.ref p) m = some "list" := by
  show (match m p with | some (.lst _) => some "list" | _ => none) = some "list"
  rw [hm]
theorem isiM' {d : D} {t n : String} {k : Bool} (h : tyM d m = some t) (hk : kitB t n = some k) (q : Q (.bl k) m) : isiM [d, .ty n] m Q := ⟨d, t, n, k, rfl, h, hk, q⟩
theorem ixOi {p : Addr} {ds : List D} {i : Int} {d : D} (hm : m p = some (.lst ds)) (h0 : 0 ≤ i) (h : ds[i.toNat]? = some d) (q : Q d m) : ixD (.ref p) (.int i) m Q := ⟨ds, d, hm, by
  obtain ⟨k, rfl⟩ : ∃ k : Nat, i = k := ⟨i.toNat, by omega⟩
  exact atI_nat (by simpa using h), q⟩
end
def FSameO (n : Nat) : DF := fun ds m Q _ => ∃ p l, ds = [.ref p, .lst l] ∧ m p = some (.lst l) ∧ okD n (.lst l) = true ∧ Q (.bl true) m
theorem FSameO.len {n : Nat} : ∀ ds m Q E, FSameO n ds m Q E → ds.length = (["_law_found", "_law_due"] : List Str).length := by
  rintro ds m Q E ⟨_, _, rfl, _⟩
  rfl
/-! ### drawn texts -/
def FOne : DF := fun ds m Q _ => ∃ (p : Addr) (z : Str) (o : O), ds = [.ref p, .str z] ∧ m p = some o ∧ IsDraw o ∧ 1 ≤ z.length ∧ z.length ≤ 1000 ∧ PyData.strOk z = true ∧ ∀ (c : Nat) o', PyData.strOk ⟨#[c]⟩ = true → IsDraw o' → Q (.str ⟨#[c]⟩) (sput m p o')
theorem FOne.len : ∀ ds m Q E, FOne ds m Q E → ds.length = (["_law_draw", "_law_some"] : List Str).length := by
  rintro ds m Q E ⟨_, _, _, rfl, _⟩
  rfl
theorem use_one {m : Sto} {Q : D → Sto → Prop} {E : Value → List (Str × D) → Sto → Prop} {p : Addr} {z : Str} {o : O} (hd : IsDraw o) (h1 : 1 ≤ z.length) (h2 : z.length ≤ 1000) (h3 : PyData.strOk z = true)
    (h : ∀ (c : Nat) o', PyData.strOk ⟨#[c]⟩ = true → IsDraw o' → Q (.str ⟨#[c]⟩) (sput m p o')) : FOne [.ref p, .str z] (sput m p o) Q E := ⟨p, z, o, rfl, sput_same, hd, h1, h2, h3, fun c o' a b => by rw [sput_sput]; exact h c o' a b⟩
theorem ix_sign {m : Sto} {Q : D → Sto → Prop} {z : Str} {i : Int} (h0 : 0 ≤ i) (h1 : i < z.length) (h2 : z.length ≤ 1000) (hz : PyData.strOk z = true) (q : ∀ c : Nat, PyData.strOk ⟨#[c]⟩ = true → Q (.str ⟨#[c]⟩) m) : ixD (.str z) (.int i) m Q := by
  have e : z.length = z.cps.toList.length := TL.len_tl z
  obtain ⟨k, rfl⟩ : ∃ k : Nat, i = k := ⟨i.toNat, by omega⟩
  have hk : k < z.cps.toList.length := by omega
  refine ⟨z.cps.toList[k], by have hz := sizeLine_eq; omega, atI_nat (List.getElem?_eq_getElem hk), q _ ?_⟩
  rw [strOk_iff] at hz ⊢
  intro c hc
  have hc : c ∈ [z.cps.toList[k]] := hc
  rw [List.mem_singleton.mp hc]
  exact hz _ (List.getElem_mem _)
theorem joinL_nil : ∀ ps : List (List Nat), TL.joinL [] ps = ps.flatten
  | [] => rfl
  | [p] => by simp [TL.joinL]
  | p :: q :: r => by
    show p ++ ([] ++ TL.joinL [] (q :: r)) = _
    rw [joinL_nil (q :: r)]
    simp
theorem tl_join0 (ys : List Str) : TL.tl (Txt.join "" ys) = (ys.map TL.tl).flatten := by
  rw [TL.join_eq, TL.tl_join, show TL.tl ("" : Str) = [] from rfl, joinL_nil]
theorem join_signs {ys : List Str} (h : ∀ y ∈ ys, y.length = 1 ∧ PyData.strOk y = true) : (Txt.join "" ys).length = ys.length ∧ PyData.strOk (Txt.join "" ys) = true := by
  constructor
  · rw [TL.len_tl, tl_join0]
    induction ys with
    | nil => rfl
    | cons y ys ih =>
      rw [List.map_cons, List.flatten_cons, List.length_append, ih fun z hz => h z (List.mem_cons_of_mem _ hz), ← TL.len_tl, (h y List.mem_cons_self).1, List.length_cons]
      omega
  · rw [strOk_iff, tl_join0]
    intro c hc
    obtain ⟨l, hl, hc⟩ := List.mem_flatten.mp hc
    obtain ⟨y, hy, rfl⟩ := List.mem_map.mp hl
    exact strOk_iff.mp (h y hy).2 c hc
theorem join_room {ys : List Str} (h : ∀ y ∈ ys, y.length = 1 ∧ PyData.strOk y = true) : (ys.map (·.length)).sum + ys.length * ("" : Str).length = ys.length := by
  rw [show ("" : Str).length = 0 from rfl, Nat.mul_zero, Nat.add_zero]
  induction ys with
  | nil => rfl
  | cons y ys ih =>
    rw [List.map_cons, List.sum_cons, ih fun z hz => h z (List.mem_cons_of_mem _ hz), (h y List.mem_cons_self).1, List.length_cons]
    omega
def FText : DF := fun ds m Q _ => ∃ (p : Addr) (n : Int) (o : O), ds = [.ref p, .int n] ∧ m p = some o ∧ IsDraw o ∧ 0 ≤ n ∧ n ≤ 1000 ∧ ∀ (s : Str) o', PyData.strOk s = true → s.length ≤ 1010 → IsDraw o' → Q (.str s) (sput m p o')
theorem FText.len : ∀ ds m Q E, FText ds m Q E → ds.length = (["_law_draw", "_law_most"] : List Str).length := by
  rintro ds m Q E ⟨_, _, _, rfl, _⟩
  rfl
theorem use_text {m : Sto} {Q : D → Sto → Prop} {E : Value → List (Str × D) → Sto → Prop} {p : Addr} {n : Int} {o : O} (hd : IsDraw o) (h1 : 0 ≤ n) (h2 : n ≤ 1000)
    (h : ∀ (s : Str) o', PyData.strOk s = true → s.length ≤ 1010 → IsDraw o' → Q (.str s) (sput m p o')) : FText [.ref p, .int n] (sput m p o) Q E := ⟨p, n, o, rfl, sput_same, hd, h1, h2, fun s o' a b c => by rw [sput_sput]; exact h s o' a b c⟩
def signs : List Str := ["ab ", "abcdefg  .", "x", " ", "AZ az 09 ~!#$"]
theorem signs_ok : ∀ z ∈ signs, (1 ≤ z.length ∧ z.length ≤ 1000) ∧ PyData.strOk z = true := by decide +kernel
theorem ne_of_len {w : Str} (h : (w.length : Int) > 0) : ¬ w = "" := by
  rintro rfl
  have e : ("" : Str).length = 0 := rfl
  omega
theorem len_of_ne {w : Str} (h : (w.length : Int) ≤ 0) : w = "" := by
  refine TL.ext_tl ?_
  have e := TL.len_tl w
  have : (TL.tl w).length = 0 := by omega
  rw [List.length_eq_zero_iff.mp this]
  rfl
def FParts : DF := fun ds m Q _ => ∃ x : Str, ds = [.str x] ∧ x.length ≤ 1000000 ∧ Q (.lst ((wordsL x).map D.str)) m
theorem FParts.len : ∀ ds m Q E, FParts ds m Q E → ds.length = (["_law_text_here"] : List Str).length := by
  rintro ds m Q E ⟨_, rfl, _⟩
  rfl
def FLLines : DF := fun ds m Q _ => ∃ (x : Str) (r : Int) (b : Bool), ds = [.str x, .int r, .bl b] ∧ PyData.strOk x = true ∧ x.length ≤ 1000000 ∧ 1 ≤ r ∧ r < 1000000 ∧ Q (.lst ((setL x r b).map D.str)) m
theorem FLLines.len : ∀ ds m Q E, FLLines ds m Q E → ds.length = (["_law_text_here", "_law_room", "_law_broken"] : List Str).length := by
  rintro ds m Q E ⟨_, _, _, rfl, _⟩
  rfl
theorem step_else {r : Int} {rows : List Str} {w : Str} (h1 : 1 ≤ w.length) (h : rows.isEmpty = true ∨ r < (w.length : Int) ∨ r ≤ ((lastS rows).length : Int) + w.length) : stepW r rows w = rows ++ pieces r w := by
  by_cases hl : (w.length : Int) > r
  · exact step_long hl
  · rw [one_piece h1 (by omega)]
    refine step_new' (by omega) ?_
    rcases h with h | h | h
    · exact .inl h
    · omega
    · exact .inr (by omega)
theorem step_joinL {r : Int} {rows : List Str} {w : Str} (h : rows.isEmpty = false ∧ (w.length : Int) ≤ r ∧ ((lastS rows).length : Int) + w.length < r) : stepW r rows w = rows.set (rows.length - 1) ((lastS rows ++ " ") ++ w) := by
  rw [join_assoc]
  exact step_join' h.2.1 ⟨h.1, by omega⟩
def toldD (x : Str) (r : Int) (b : Bool) : D := if r < 1 then .str "BadSize" else .lst ((setL x r b).map D.str)
def FToldL : DF := fun ds m Q _ => ∃ (x : Str) (r : Int) (b : Bool), ds = [.str x, .int r, .bl b] ∧ PyData.strOk x = true ∧ x.length ≤ 1000000 ∧ r < 1000000 ∧ Q (toldD x r b) m
theorem FToldL.len : ∀ ds m Q E, FToldL ds m Q E → ds.length = (["_law_text_here", "_law_wide", "_law_broken"] : List Str).length := by
  rintro ds m Q E ⟨_, _, _, rfl, _⟩
  rfl
theorem ok_told {x : Str} {r : Int} {b : Bool} (hx : PyData.strOk x = true) : okD 2 (toldD x r b) = true := by
  unfold toldD
  split
  · decide +kernel
  · simpa [okD] using ok_strs 1 _ (set_ok hx)
theorem bl_pair {i : Nat} {d : D} (h : ([.bl true, .bl false] : List D)[i]? = some d) : ∃ b, d = .bl b := by
  match i, h with
  | 0, h => exact ⟨true, (Option.some.inj h).symm⟩
  | 1, h => exact ⟨false, (Option.some.inj h).symm⟩
  | n + 2, h => simp at h
end G

/-! Drawings and steps: the plain law of k27. -/
namespace G
open PySem PySem.Spec PyProof.Rows L2
/-! ### texts by their signs -/
def mkS (l : List Nat) : Str := ⟨l.toArray⟩
theorem tl_mk (l : List Nat) : TL.tl (mkS l) = l := by
  show l.toArray.toList = l
  simp
theorem mk_snoc (l : List Nat) (c : Nat) : mkS l ++ (⟨#[c]⟩ : Str) = mkS (l ++ [c]) := TL.ext_tl (by rw [TL.tl_append, tl_mk, tl_mk])
theorem mk_len (l : List Nat) : (mkS l).length = l.length := by rw [TL.len_tl, tl_mk]
theorem mk_nil : mkS [] = "" := TL.ext_tl rfl
theorem mk_tl (z : Str) : mkS (TL.tl z) = z := TL.ext_tl (tl_mk _)
theorem app_len (a b : Str) : (a ++ b).length = a.length + b.length := by
  rw [TL.len_tl, TL.tl_append, List.length_append, ← TL.len_tl, ← TL.len_tl]
theorem cut_to (z : Str) (n : Nat) : TL.tl (cutS z none (some (n : Int))) = (TL.tl z).take n := by
  show List.take _ (List.drop _ z.cps.toList) = _
  have e := TL.len_tl z
  rw [show HT.sIx z.length z.length (some (n : Int)) = min n z.length from HT.sIx_nat z.length z.length n, HT.sIx_none, List.drop_zero, Nat.sub_zero]
  show List.take (min n z.length) (TL.tl z) = _
  rw [e]
  by_cases h : n ≤ (TL.tl z).length
  · rw [Nat.min_eq_left h]
  · rw [Nat.min_eq_right (by omega), List.take_length, List.take_of_length_le (by omega)]
theorem cut_from (z : Str) (n : Nat) : TL.tl (cutS z (some (n : Int)) none) = (TL.tl z).drop n := by
  show List.take _ (List.drop _ z.cps.toList) = _
  have e := TL.len_tl z
  rw [show HT.sIx z.length 0 (some (n : Int)) = min n z.length from HT.sIx_nat z.length 0 n, HT.sIx_none]
  show List.take (z.length - min n z.length) (List.drop (min n z.length) (TL.tl z)) = _
  rw [List.take_of_length_le (by rw [List.length_drop]; omega)]
  by_cases h : n ≤ z.length
  · rw [Nat.min_eq_left h]
  · rw [Nat.min_eq_right (by omega), e, List.drop_length, List.drop_of_length_le (by omega)]
/-! ### drawings -/
def Draw (h w : Nat) (rows : List Str) : Prop := rows.length = h ∧ ∀ z ∈ rows, z.length = w ∧ PyData.strOk z = true
theorem Draw.ok {h w : Nat} {rows : List Str} (d : Draw h w rows) : OkR rows := fun z hz => (d.2 z hz).2
/-- a row, a sign -/
def rowN (rows : List Str) (v : Nat) : List Nat := TL.tl (rows.getD v "")
def sgn (rows : List Str) (v u : Int) : Nat := (rowN rows v.toNat).getD u.toNat 0
theorem Draw.row {h w : Nat} {rows : List Str} (d : Draw h w rows) {v : Nat} (hv : v < h) : ∃ z, rows[v]? = some z ∧ rowN rows v = TL.tl z ∧ z.length = w ∧ PyData.strOk z = true := by
  have hv2 : v < rows.length := by rw [d.1]; exact hv
  refine ⟨rows[v], List.getElem?_eq_getElem hv2, ?_, d.2 _ (List.getElem_mem _)⟩
  unfold rowN
  rw [List.getD_eq_getElem?_getD, List.getElem?_eq_getElem hv2]
  rfl
theorem Draw.sg {h w : Nat} {rows : List Str} (d : Draw h w rows) {v u : Int} (h0 : 0 ≤ v) (h1 : v < h) (h2 : 0 ≤ u) (h3 : u < w) : ∃ z, rows[v.toNat]? = some z ∧ z.length = w ∧ (TL.tl z)[u.toNat]? = some (sgn rows v u) ∧ sgn rows v u < 1114112 := by
  obtain ⟨z, hz, e, hl, ho⟩ := d.row (v := v.toNat) (by omega)
  have hu : u.toNat < (TL.tl z).length := by rw [← TL.len_tl, hl]; omega
  have e2 : sgn rows v u = (TL.tl z)[u.toNat] := by
    unfold sgn
    rw [e, List.getD_eq_getElem?_getD, List.getElem?_eq_getElem hu]
    rfl
  refine ⟨z, hz, hl, by rw [e2]; exact List.getElem?_eq_getElem hu, ?_⟩
  rw [e2]
  exact strOk_iff.mp ho _ (List.getElem_mem _)
theorem d_at {rows : List Str} {v : Nat} {z : Str} (h : rows[v]? = some z) : (rows.map D.str)[v]? = some (.str z) := by rw [List.getElem?_map, h]; rfl
/-! ### putting -/
inductive Stp where
  | put (v u : Int) (t : Str)
  | shift (a b h w d c : Int)
def Stp.D : Stp → G.D
  | .put v u t => .tup [.str "put", .int v, .int u, .str t]
  | .shift a b h w d c => .tup [.str "shift", .int a, .int b, .int h, .int w, .int d, .int c]
def Stp.Ok (h w : Nat) : Stp → Prop
  | .put v u t => 0 ≤ v ∧ v < h ∧ 0 ≤ u ∧ u + t.length ≤ w ∧ PyData.strOk t = true
  | .shift a b p q d c => (0 ≤ a ∧ 1 ≤ p ∧ a + p ≤ h) ∧ (0 ≤ b ∧ 1 ≤ q ∧ b + q ≤ w) ∧ (-20 ≤ d ∧ d ≤ 20 ∧ -20 ≤ c ∧ c ≤ 20)
def putLine (z : Str) (u : Int) (t : Str) : Str := (cutS z none (some u) ++ t) ++ cutS z (some (u + t.length)) none
def putR (rows : List Str) (v u : Int) (t : Str) : List Str := (cutL rows none (some v) ++ [putLine (rows.getD v.toNat "") u t]) ++ cutL rows (some (v + 1)) none
theorem putLine_len {z t : Str} {u : Int} {w : Nat} (hz : z.length = w) (h0 : 0 ≤ u) (h1 : u + t.length ≤ w) : (putLine z u t).length = w := by
  obtain ⟨n, rfl⟩ : ∃ n : Nat, u = n := ⟨u.toNat, by omega⟩
  unfold putLine
  rw [show ((n : Nat) : Int) + (t.length : Nat) = ((n + t.length : Nat) : Int) from by omega, TL.len_tl, TL.tl_append, TL.tl_append, cut_to, cut_from, List.length_append, List.length_append, List.length_take, List.length_drop, ← TL.len_tl, ← TL.len_tl]
  omega
theorem putLine_ok {z t : Str} {u : Int} (hz : PyData.strOk z = true) (ht : PyData.strOk t = true) : PyData.strOk (putLine z u t) = true := app_ok (app_ok (cutS_ok hz) ht) (cutS_ok hz)
theorem putR_eq {rows : List Str} {v u : Int} {t : Str} {h : Nat} (hr : rows.length = h) (h0 : 0 ≤ v) (h1 : v < h) : putR rows v u t = rows.set v.toNat (putLine (rows.getD v.toNat "") u t) := by
  obtain ⟨n, rfl⟩ : ∃ n : Nat, v = n := ⟨v.toNat, by omega⟩
  unfold putR
  rw [show ((n : Nat) : Int) + 1 = ((n + 1 : Nat) : Int) from by omega, cutL_to, cutL_from, Int.toNat_natCast, List.append_assoc, List.set_eq_take_append_cons_drop, if_pos (by omega)]
  rfl
theorem put_draw {h w : Nat} {rows : List Str} (d : Draw h w rows) {v u : Int} {t : Str} (ok : (Stp.put v u t).Ok h w) : Draw h w (putR rows v u t) := by
  obtain ⟨h0, h1, h2, h3, h4⟩ := ok
  rw [putR_eq d.1 h0 h1]
  obtain ⟨z, hz, _, hl, ho⟩ := d.row (v := v.toNat) (by omega)
  refine ⟨by rw [List.length_set]; exact d.1, fun y hy => ?_⟩
  rcases List.mem_or_eq_of_mem_set hy with hy | rfl
  · exact d.2 y hy
  · rw [List.getD_eq_getElem?_getD, hz]
    exact ⟨putLine_len hl h2 h3, putLine_ok ho h4⟩
/-! ### shifting -/
section
variable (rows : List Str) (a b p q d c : Int)
def goodS (v u : Int) : Bool := (decide (a ≤ v) && decide (v < a + p) && (decide (b ≤ u) && decide (u < b + q))) && ((decide (a ≤ v + d) && decide (v + d < a + p)) && (decide (b ≤ u + c) && decide (u + c < b + q)))
def shS (v u : Int) : Nat := if goodS a b p q d c v u = true then sgn rows (v + d) (u + c) else sgn rows v u
def shLine (v : Int) (w : Nat) : Str := mkS ((List.range w).map fun u => shS rows a b p q d c v (u : Nat))
def shiftR (w : Nat) : List Str := (List.range rows.length).map fun v => shLine rows a b p q d c (v : Nat) w
end
theorem good_in {a b p q d c v u : Int} (h : goodS a b p q d c v u = true) : (a ≤ v ∧ v < a + p) ∧ (b ≤ u ∧ u < b + q) ∧ (a ≤ v + d ∧ v + d < a + p) ∧ (b ≤ u + c ∧ u + c < b + q) := by
  unfold goodS at h
  simp only [Bool.and_eq_true, decide_eq_true_eq] at h
  omega
theorem good_of {a b p q d c v u : Int} (h : (a ≤ v ∧ v < a + p) ∧ (b ≤ u ∧ u < b + q) ∧ (a ≤ v + d ∧ v + d < a + p) ∧ (b ≤ u + c ∧ u + c < b + q)) : goodS a b p q d c v u = true := by
  unfold goodS
  simp only [Bool.and_eq_true, decide_eq_true_eq]
  omega
theorem shS_lt {h w : Nat} {rows : List Str} (dr : Draw h w rows) {a b p q d c : Int} (ok : (Stp.shift a b p q d c).Ok h w) {v u : Int} (h0 : 0 ≤ v) (h1 : v < h) (h2 : 0 ≤ u) (h3 : u < w) : shS rows a b p q d c v u < 1114112 := by
  obtain ⟨⟨k1, k2, k3⟩, ⟨k4, k5, k6⟩, _⟩ := ok
  unfold shS
  split
  · rename_i g
    have g2 := good_in g
    obtain ⟨_, _, _, _, z⟩ := dr.sg (v := v + d) (u := u + c) (by omega) (by omega) (by omega) (by omega)
    exact z
  · obtain ⟨_, _, _, _, z⟩ := dr.sg h0 h1 h2 h3
    exact z
theorem shLine_ok {h w : Nat} {rows : List Str} (dr : Draw h w rows) {a b p q d c : Int} (ok : (Stp.shift a b p q d c).Ok h w) {v : Nat} (h1 : v < h) : (shLine rows a b p q d c (v : Nat) w).length = w ∧ PyData.strOk (shLine rows a b p q d c (v : Nat) w) = true := by
  unfold shLine
  refine ⟨by rw [mk_len, List.length_map, List.length_range], ?_⟩
  rw [strOk_iff, tl_mk]
  intro x hx
  obtain ⟨u, hu, rfl⟩ := List.mem_map.mp hx
  have := List.mem_range.mp hu
  exact shS_lt dr ok (by omega) (by omega) (by omega) (by omega)
theorem shift_draw {h w : Nat} {rows : List Str} (dr : Draw h w rows) {a b p q d c : Int} (ok : (Stp.shift a b p q d c).Ok h w) : Draw h w (shiftR rows a b p q d c w) := by
  refine ⟨by unfold shiftR; rw [List.length_map, List.length_range]; exact dr.1, fun z hz => ?_⟩
  obtain ⟨v, hv, rfl⟩ := List.mem_map.mp hz
  exact shLine_ok dr ok (by rw [← dr.1]; exact List.mem_range.mp hv)
theorem sgn_row {h w : Nat} {rows : List Str} (dr : Draw h w rows) {v : Nat} (hv : v < h) {z : Str} (hz : rows[v]? = some z) : (List.range w).map (fun u => sgn rows (v : Nat) (u : Nat)) = TL.tl z := by
  obtain ⟨z', hz', e, hl, _⟩ := dr.row hv
  rw [hz] at hz'
  cases hz'
  have hw : (TL.tl z).length = w := by rw [← TL.len_tl, hl]
  refine List.ext_getElem? fun j => ?_
  rw [List.getElem?_map]
  by_cases hj : j < w
  · rw [List.getElem?_range hj]
    show some (sgn rows (v : Nat) (j : Nat)) = _
    unfold sgn
    rw [Int.toNat_natCast, Int.toNat_natCast, e, List.getD_eq_getElem?_getD, List.getElem?_eq_getElem (by omega)]
    rfl
  · rw [List.getElem?_eq_none (by rw [List.length_range]; omega), List.getElem?_eq_none (by omega)]
    rfl
/-- a row that stays -/
theorem shLine_same {h w : Nat} {rows : List Str} (dr : Draw h w rows) {a b p q d c : Int} {v : Nat} (hv : v < h) {z : Str} (hz : rows[v]? = some z) (hn : ¬ ((a ≤ (v : Int) ∧ (v : Int) < a + p) ∧ a ≤ (v : Int) + d ∧ (v : Int) + d < a + p)) : shLine rows a b p q d c (v : Nat) w = z := by
  rw [← mk_tl z, ← sgn_row dr hv hz]
  unfold shLine
  congr 1
  refine List.map_congr_left fun u _ => ?_
  unfold shS
  rw [if_neg fun g => hn ?_]
  have := good_in g
  exact ⟨this.1, this.2.2.1⟩
/-- the signs within the stretch -/
def inS (rows : List Str) (b q d c v u : Int) : Nat := if b ≤ u + c ∧ u + c < b + q then sgn rows (v + d) (u + c) else sgn rows v u
theorem shLine_in {h w : Nat} {rows : List Str} (dr : Draw h w rows) {a b p q d c : Int} (ok : (Stp.shift a b p q d c).Ok h w) {v : Nat} (hv : v < h) {z : Str} (hz : rows[v]? = some z) (h1 : a ≤ (v : Int) ∧ (v : Int) < a + p) (h2 : a ≤ (v : Int) + d ∧ (v : Int) + d < a + p) :
    (cutS z none (some b) ++ mkS ((List.range q.toNat).map fun k => inS rows b q d c (v : Nat) (b + (k : Nat)))) ++ cutS z (some (b + q)) none = shLine rows a b p q d c (v : Nat) w := by
  obtain ⟨⟨k1, k2, k3⟩, ⟨k4, k5, k6⟩, _⟩ := ok
  obtain ⟨B, rfl⟩ : ∃ B : Nat, b = B := ⟨b.toNat, by omega⟩
  obtain ⟨Q, rfl⟩ : ∃ Q : Nat, q = Q := ⟨q.toNat, by omega⟩
  refine TL.ext_tl ?_
  rw [show ((B : Nat) : Int) + (Q : Nat) = ((B + Q : Nat) : Int) from by omega, TL.tl_append, TL.tl_append, cut_to, cut_from, tl_mk, ← sgn_row dr hv hz]
  unfold shLine
  rw [tl_mk, Int.toNat_natCast]
  refine List.ext_getElem? fun j => ?_
  have hb : ((List.range w).map fun u => sgn rows (v : Nat) (u : Nat)).length = w := by simp
  by_cases hj : j < w
  · have rhs : ((List.range w).map fun u => shS rows a B p Q d c (v : Nat) (u : Nat))[j]? = some (shS rows a B p Q d c (v : Nat) (j : Nat)) := by rw [List.getElem?_map, List.getElem?_range hj]; rfl
    rw [rhs]
    by_cases j1 : j < B
    · rw [List.append_assoc, List.getElem?_append_left (by rw [List.length_take, hb]; omega), List.getElem?_take_of_lt j1, List.getElem?_map, List.getElem?_range hj]
      show some (sgn rows (v : Nat) (j : Nat)) = _
      unfold shS
      rw [if_neg fun g => by have := good_in g; omega]
    · by_cases j2 : j < B + Q
      · rw [List.append_assoc, List.getElem?_append_right (by rw [List.length_take, hb]; omega), List.length_take, hb, Nat.min_eq_left (by omega), List.getElem?_append_left (by rw [List.length_map, List.length_range]; omega), List.getElem?_map, List.getElem?_range (by omega)]
        show some (inS rows B Q d c (v : Nat) ((B : Int) + ((j - B : Nat) : Int))) = _
        rw [show ((B : Nat) : Int) + ((j - B : Nat) : Int) = (j : Nat) from by omega]
        unfold inS shS
        by_cases g : (B : Int) ≤ (j : Nat) + c ∧ ((j : Nat) : Int) + c < (B : Int) + (Q : Nat)
        · rw [if_pos g, if_pos (good_of ⟨h1, ⟨by omega, by omega⟩, h2, g⟩)]
        · rw [if_neg g, if_neg fun g2 => g (good_in g2).2.2.2]
      · rw [List.getElem?_append_right (by rw [List.length_append, List.length_take, hb, List.length_map, List.length_range]; omega), List.length_append, List.length_take, hb, List.length_map, List.length_range, Nat.min_eq_left (by omega), List.getElem?_drop, List.getElem?_map, List.getElem?_range (by omega)]
        rw [show B + Q + (j - (B + Q)) = j from by omega]
        show some (sgn rows (v : Nat) (j : Nat)) = _
        unfold shS
        rw [if_neg fun g => by have := good_in g; omega]
  · rw [List.getElem?_eq_none (by simp only [List.length_append, List.length_take, List.length_map, List.length_range, List.length_drop]; omega), List.getElem?_eq_none (by rw [List.length_map, List.length_range]; omega)]
/-! ### the rows done so far -/
def doneR (rows S : List Str) (k : Nat) : List Str := S.take k ++ rows.drop k
theorem done_succ {rows S : List Str} {k : Nat} (hl : S.length = rows.length) (hk : k < rows.length) : (doneR rows S k).set k (S.getD k "") = doneR rows S (k + 1) := by
  unfold doneR
  have h1 : (S.take k).length = k := by rw [List.length_take]; omega
  have e : S.take (k + 1) = S.take k ++ [S[k]'(by omega)] := by
    rw [List.take_succ, List.getElem?_eq_getElem (by omega)]
    rfl
  rw [List.set_append_right _ _ (by omega), h1, Nat.sub_self, List.drop_eq_getElem_cons hk, List.set_cons_zero, e, List.getD_eq_getElem?_getD, List.getElem?_eq_getElem (by omega), List.append_assoc]
  rfl
theorem done_stay {rows S : List Str} {k : Nat} (hl : S.length = rows.length) (hk : k < rows.length) (h : S[k]? = rows[k]?) : doneR rows S k = doneR rows S (k + 1) := by
  unfold doneR
  rw [List.drop_eq_getElem_cons hk, List.take_succ, h, List.getElem?_eq_getElem hk]
  simp
theorem done_0 {rows S : List Str} {k : Nat} (h : ∀ j, j < k → S[j]? = rows[j]?) : doneR rows S k = rows := by
  unfold doneR
  have : S.take k = rows.take k := by
    refine List.ext_getElem? fun j => ?_
    by_cases hj : j < k
    · rw [List.getElem?_take_of_lt hj, List.getElem?_take_of_lt hj, h j hj]
    · rw [List.getElem?_eq_none (by rw [List.length_take]; omega), List.getElem?_eq_none (by rw [List.length_take]; omega)]
  rw [this, List.take_append_drop]
theorem done_end {rows S : List Str} {k : Nat} (h : ∀ j, k ≤ j → S[j]? = rows[j]?) : doneR rows S k = S := by
  unfold doneR
  have : S.drop k = rows.drop k := by
    refine List.ext_getElem? fun j => ?_
    rw [List.getElem?_drop, List.getElem?_drop, h _ (by omega)]
  rw [← this, List.take_append_drop]
theorem done_len {rows S : List Str} {k : Nat} (hl : S.length = rows.length) : (doneR rows S k).length = rows.length := by
  unfold doneR
  rw [List.length_append, List.length_take, List.length_drop]
  omega
theorem shift_at {rows : List Str} {a b p q d c : Int} {w v : Nat} (hv : v < rows.length) : (shiftR rows a b p q d c w)[v]? = some (shLine rows a b p q d c (v : Nat) w) := by
  unfold shiftR
  rw [List.getElem?_map, List.getElem?_range hv]
  rfl
theorem shift_same {h w : Nat} {rows : List Str} (dr : Draw h w rows) {a b p q d c : Int} {v : Nat} (hn : ¬ ((a ≤ (v : Int) ∧ (v : Int) < a + p) ∧ a ≤ (v : Int) + d ∧ (v : Int) + d < a + p)) : (shiftR rows a b p q d c w)[v]? = rows[v]? := by
  by_cases hv : v < rows.length
  · obtain ⟨z, hz, _⟩ := dr.row (v := v) (by rw [← dr.1]; exact hv)
    rw [shift_at hv, hz, shLine_same dr (by rw [← dr.1]; exact hv) hz hn]
  · rw [List.getElem?_eq_none (by unfold shiftR; rw [List.length_map, List.length_range]; omega), List.getElem?_eq_none (by omega)]
theorem shiftR_len (rows : List Str) (a b p q d c : Int) (w : Nat) : (shiftR rows a b p q d c w).length = rows.length := by
  unfold shiftR
  rw [List.length_map, List.length_range]
/-! ### a step, steps -/
def stepR (w : Nat) (rows : List Str) : Stp → List Str
  | .put v u t => putR rows v u t
  | .shift a b p q d c => shiftR rows a b p q d c w
theorem step_draw {h w : Nat} {rows : List Str} (dr : Draw h w rows) {s : Stp} (ok : s.Ok h w) : Draw h w (stepR w rows s) := by
  cases s with
  | put v u t => exact put_draw dr ok
  | shift a b p q d c => exact shift_draw dr ok
theorem steps_draw {h w : Nat} : ∀ (l : List Stp) {rows : List Str}, Draw h w rows → (∀ s ∈ l, s.Ok h w) → Draw h w (l.foldl (stepR w) rows)
  | [], _, dr, _ => dr
  | s :: l, _, dr, ok => steps_draw l (step_draw dr (ok s List.mem_cons_self)) fun z hz => ok z (List.mem_cons_of_mem _ hz)
theorem steps_succ {w : Nat} {l : List Stp} {rows : List Str} {i : Nat} {s : Stp} (h : l[i]? = some s) : (l.take (i + 1)).foldl (stepR w) rows = stepR w ((l.take i).foldl (stepR w) rows) s := by
  rw [List.take_succ, h, List.foldl_append]
  rfl
def Stp.word : Stp → Str
  | .put _ _ _ => "put"
  | .shift _ _ _ _ _ _ => "shift"
def Stp.rest : Stp → List G.D
  | .put v u t => [.int v, .int u, .str t]
  | .shift a b p q d c => [.int a, .int b, .int p, .int q, .int d, .int c]
theorem Stp.D_eq (s : Stp) : s.D = .tup (.str s.word :: s.rest) := by cases s <;> rfl
theorem Stp.rest_len (s : Stp) : s.rest.length ≤ 6 := by cases s <;> simp [Stp.rest]
theorem is_put {s : Stp} (h : s.word = "put") : ∃ v u t, s = .put v u t := by
  cases s with
  | put v u t => exact ⟨v, u, t, rfl⟩
  | shift a b p q d c => exact absurd (show ("shift" : Str) = "put" from h) (by decide +kernel)
theorem is_shift {s : Stp} (h : ¬ s.word = "put") : ∃ a b p q d c, s = .shift a b p q d c := by
  cases s with
  | put v u t => exact absurd rfl h
  | shift a b p q d c => exact ⟨a, b, p, q, d, c, rfl⟩
theorem cutL_map {α β : Type} (f : α → β) (l : List α) (a b : Option Int) : cutL (l.map f) a b = (cutL l a b).map f := by
  unfold cutL
  rw [List.length_map, ← List.map_drop, ← List.map_take]
theorem cutL_le {α : Type} (l : List α) (a b : Option Int) : (cutL l a b).length ≤ l.length := by
  unfold cutL
  have h1 := List.length_take_le' (HT.sIx l.length l.length b - HT.sIx l.length 0 a) (l.drop (HT.sIx l.length 0 a))
  have h2 : (l.drop (HT.sIx l.length 0 a)).length ≤ l.length := by rw [List.length_drop]; omega
  exact Nat.le_trans h1 h2
/-! ### what the defs do -/
def rowsD (rows : List Str) : D := .lst (rows.map D.str)
def FPutT : DF := fun ds m Q _ => ∃ (h w : Nat) (rows : List Str) (v u : Int) (t : Str), ds = [.lst (rows.map D.str), .int v, .int u, .str t] ∧ h ≤ 100 ∧ w ≤ 100 ∧ Draw h w rows ∧ (Stp.put v u t).Ok h w ∧ Q (.lst ((putR rows v u t).map D.str)) m
theorem FPutT.len : ∀ ds m Q E, FPutT ds m Q E → ds.length = (["rows", "v", "u", "text"] : List Str).length := by
  rintro ds m Q E ⟨_, _, _, _, _, _, rfl, _⟩
  rfl
def FShT : DF := fun ds m Q _ => ∃ (h w : Nat) (rows : List Str) (a b p q d c : Int), ds = [.lst (rows.map D.str), .tup [.int a, .int b, .int p, .int q], .int d, .int c] ∧ h ≤ 100 ∧ w ≤ 100 ∧ Draw h w rows ∧ (Stp.shift a b p q d c).Ok h w ∧ Q (.lst ((shiftR rows a b p q d c w).map D.str)) m
theorem FShT.len : ∀ ds m Q E, FShT ds m Q E → ds.length = (["rows", "stretch", "down", "across"] : List Str).length := by
  rintro ds m Q E ⟨_, _, _, _, _, _, _, _, _, rfl, _⟩
  rfl
def FBehind : DF := fun ds m Q _ => ∃ (h w : Nat) (rows : List Str) (l : List Stp), ds = [.lst (rows.map D.str), .lst (l.map Stp.D)] ∧ h ≤ 100 ∧ w ≤ 100 ∧ Draw h w rows ∧ (∀ s ∈ l, s.Ok h w) ∧ Q (.lst ((l.foldl (stepR w) rows).map D.str)) m
theorem FBehind.len : ∀ ds m Q E, FBehind ds m Q E → ds.length = (["rows", "some"] : List Str).length := by
  rintro ds m Q E ⟨_, _, _, _, rfl, _⟩
  rfl
def FStepOn : DF := fun ds m Q _ => ∃ (h w : Nat) (rows : List Str) (s : Stp), ds = [.lst (rows.map D.str), s.D] ∧ h ≤ 100 ∧ w ≤ 100 ∧ Draw h w rows ∧ s.Ok h w ∧ Q (.lst ((stepR w rows s).map D.str)) m
theorem FStepOn.len : ∀ ds m Q E, FStepOn ds m Q E → ds.length = (["_law_rows", "_law_one_here"] : List Str).length := by
  rintro ds m Q E ⟨_, _, _, _, rfl, _⟩
  rfl
theorem ok_stp {h w : Nat} {s : Stp} (ok : s.Ok h w) : okD 1 s.D = true := by
  cases s with
  | put v u t =>
    obtain ⟨_, _, _, _, h4⟩ := ok
    have e : PyData.strOk "put" = true := by decide +kernel
    simp [Stp.D, okD, okDL, h4, e]
  | shift a b p q d c =>
    have e : PyData.strOk "shift" = true := by decide +kernel
    simp [Stp.D, okD, okDL, e]
theorem ok_stps {h w : Nat} {l : List Stp} (ok : ∀ s ∈ l, s.Ok h w) : okDL 1 (l.map Stp.D) = true := okDL_all fun d hd => by
  obtain ⟨s, hs, rfl⟩ := List.mem_map.mp hd
  exact ok_stp (ok s hs)
theorem ok_handed {h w : Nat} {rows : List Str} {l : List Stp} (dr : Draw h w rows) (ok : ∀ s ∈ l, s.Ok h w) : okD 3 (.lst [.lst (rows.map D.str), .lst (l.map Stp.D)]) = true := by
  have h1 := ok_strs 1 rows dr.ok
  have h2 := ok_stps ok
  simp [okD, okDL, h1, h2]
end G
namespace G
open PySem PySem.Spec PyProof.Rows L2
theorem cut_tail {x : D} {l : List D} : cutL (x :: l) (some 1) none = l := cutL_from (x :: l) 1
theorem cut_four {a b c d e f : D} : cutL [a, b, c, d, e, f] none (some 4) = [a, b, c, d] := cutL_to [a, b, c, d, e, f] 4
def FStepsOn : DF := fun ds m Q _ => ∃ (h w : Nat) (rows : List Str) (l : List Stp), ds = [.lst (rows.map D.str), .lst (l.map Stp.D)] ∧ h ≤ 100 ∧ w ≤ 100 ∧ Draw h w rows ∧ (∀ s ∈ l, s.Ok h w) ∧ Q (.lst ((l.foldl (stepR w) rows).map D.str)) m
theorem FStepsOn.len : ∀ ds m Q E, FStepsOn ds m Q E → ds.length = (["_law_rows", "_law_some"] : List Str).length := by
  rintro ds m Q E ⟨_, _, _, _, rfl, _⟩
  rfl
theorem xyz_len {r : Int} (h0 : 0 ≤ r) (h1 : r < 3) : ((cutS "xyz" none (some (1 + r))).length : Int) = 1 + r := by
  obtain ⟨n, rfl⟩ : ∃ n : Nat, r = n := ⟨r.toNat, by omega⟩
  rw [show (1 : Int) + (n : Nat) = ((1 + n : Nat) : Int) from by omega, TL.len_tl, cut_to, List.length_take, ← TL.len_tl, show ("xyz" : Str).length = 3 from by decide +kernel]
  omega
theorem xyz_size : ("xyz" : Str).length ≤ sizeLine := by
  have e : ("xyz" : Str).length = 3 := by decide +kernel
  have hz := sizeLine_eq
  omega
theorem xyz_ok (b : Option Int) : PyData.strOk (cutS "xyz" none b) = true := cutS_ok (by decide +kernel)
theorem sg1_ok {c : Nat} (h : c < 1114112) : PyData.strOk ⟨#[c]⟩ = true := by
  rw [strOk_iff]
  intro x hx
  have hx : x ∈ [c] := hx
  rw [List.mem_singleton.mp hx]
  exact h
theorem sg1_len (c : Nat) : (⟨#[c]⟩ : Str).length = 1 := rfl
end G

namespace K27
open PySem PySem.Spec PyProof.Rows L2 G
def topS (i : Nat) : Stmt := PySem.Challenge.pw_gridscope_k27_steps_done_on_drawings.main.body.getD i (.Pass ⟨0, 0, 0, 0⟩)
abbrev FnP (K : PySem.W.Frag) (x : Str) (st : Stmt) (f : Addr) (fd : FuncData) : Prop := FunD K x x (defArgs st) (defBody st) (defScope st) [] [] f fd
local macro_rules | `(tactic| walk_at "op") => `(tactic| first | with_reducible refine add_ii ?_ | with_reducible refine sub_ii ?_ | with_reducible refine cmp_ii ?_ | with_reducible refine is_n ?_ | with_reducible refine isnt_n ?_ | with_reducible refine max_ii ?_ | with_reducible refine min_ii ?_ | with_reducible refine int_i ?_ | with_reducible refine int_b ?_ | refine len_l ?_ | refine len_t ?_ | refine isi rfl (by walk_at "kit") ?_)
local macro_rules | `(tactic| walk_at "kit") => `(tactic| first | exact kit_NoneType_bool | exact kit_NoneType_int | exact kit_NoneType_str | exact kit_NoneType_list | exact kit_NoneType_tuple | exact kit_NoneType_dict | exact kit_bool_bool | exact kit_bool_int | exact kit_bool_str | exact kit_bool_list | exact kit_bool_tuple | exact kit_bool_dict | exact kit_int_bool | exact kit_int_int | exact kit_int_str | exact kit_int_list | exact kit_int_tuple | exact kit_int_dict | exact kit_str_bool | exact kit_str_int | exact kit_str_str | exact kit_str_list | exact kit_str_tuple | exact kit_str_dict | exact kit_tuple_bool | exact kit_tuple_int | exact kit_tuple_str | exact kit_tuple_list | exact kit_tuple_tuple | exact kit_tuple_dict | exact kit_list_bool | exact kit_list_int | exact kit_list_str | exact kit_list_list | exact kit_list_tuple | exact kit_list_dict | exact kit_dict_bool | exact kit_dict_int | exact kit_dict_str | exact kit_dict_list | exact kit_dict_tuple | exact kit_dict_dict | exact kit2_NoneType_int_str | exact kit2_bool_int_str | exact kit2_int_int_str | exact kit2_str_int_str | exact kit2_tuple_int_str | exact kit2_list_int_str | exact kit2_dict_int_str)
local macro_rules | `(tactic| walk_at "side") => `(tactic| first | omega | (have hz := sizeLine_eq; omega))
section
variable {P : Program} {w : World} {K : PySem.W.Frag} {mg : Str → Option Value} {base : Heap}

abbrev s__law_begin : Stmt := topS 5
theorem sc__law_begin : FnScope ["_law_script"] ["_law_script"] (defScope s__law_begin) := ⟨rfl, rfl, rfl, by decide +kernel, rfl, by decide +kernel, by decide +kernel⟩
set_option maxHeartbeats 4000000 in
theorem kn__law_begin {f : Addr} {fd : FuncData} (Fn : FnP K "_law_begin" s__law_begin f fd) (g : mg "_law_begin" = some (.ref f)) (m_list : mg "list" = none)  : Kn P w K mg base "_law_begin" 1 (FBegin) := by
  have b : Binds K fd ["_law_script"] [] := FunD.bindsN Fn fun _ _ _ _ _ _ us hl => match us, hl with | [_], _ => rfl
  refine ⟨f, fd, ["_law_script"], ?_, g, Fn.kp, b⟩
  refine def_ok (N := ["_law_script"]) Fn sc__law_begin FBegin.len ?_
  rintro ds m Q E ⟨ns, rfl, hq⟩
  refine dss_cons (ds_ret ?_)
  refine de_lstM ?_
  refine da_cons ?_
  refine de_callTy cd_list rfl m_list bt_list ?_
  refine da_cons ?_
  refine de_sl01 ?_
  refine de_var 0 rfl (.inl rfl) rfl ?_
  refine de_int ?_
  refine ⟨_, rfl, ?_⟩
  refine cut_f ?_
  refine da_nil ?_
  refine list_l rfl ?_
  refine da_cons ?_
  refine de_int ?_
  refine da_cons ?_
  refine de_int ?_
  refine da_cons ?_
  refine de_int ?_
  refine da_cons ?_
  refine de_int ?_
  refine da_nil ?_
  refine ⟨sz_lit rfl, ?_⟩
  intro p hp
  exact hq p _ hp (begin_draw ns)

abbrev s__law_pick : Stmt := topS 6
theorem sc__law_pick : FnScope ["_law_draw", "_law_many", "_law_cell", "_law_got"] ["_law_draw", "_law_many"] (defScope s__law_pick) := ⟨rfl, rfl, rfl, by decide +kernel, rfl, by decide +kernel, by decide +kernel⟩
set_option maxHeartbeats 4000000 in
theorem kn__law_pick {f : Addr} {fd : FuncData} (Fn : FnP K "_law_pick" s__law_pick f fd) (g : mg "_law_pick" = some (.ref f)) (m_len : mg "len" = none)  : Kn P w K mg base "_law_pick" 1 (FPick) := by
  have b : Binds K fd ["_law_draw", "_law_many"] [] := FunD.bindsN Fn fun _ _ _ _ _ _ us hl => match us, hl with | [_, _], _ => rfl
  refine ⟨f, fd, ["_law_draw", "_law_many"], ?_, g, Fn.kp, b⟩
  refine def_ok (N := ["_law_draw", "_law_many", "_law_cell", "_law_got"]) Fn sc__law_pick FPick.len ?_
  rintro ds m Q E ⟨p, n, o, rfl, hm, ⟨ns, i, b, s, c, rfl, hi, hb, hs, hs2⟩, hn, hn2, hq⟩
  obtain ⟨m0, rfl⟩ : ∃ m0, m = sput m0 p (drawO ns i b s c) := ⟨m, by funext a; unfold sput; split; (next e => rw [e, hm]); rfl⟩
  clear hm
  simp only [sput_sput] at hq
  unfold drawO
  refine dss_cut (fun δ' m' => ∃ x2 x3 ns i b s c, δ' = [some (.ref p), some (.int n), x2, x3] ∧ 0 ≤ i ∧ 0 ≤ b ∧ 0 ≤ s ∧ s < 1000000007 ∧ m' = sput m0 p (drawO ns i b s c)) ?_ ?_
  · refine ds_if ?_
    refine dt_pt (pt_and2 (k0 := ?k2) (k1 := ?k3) (fun W B q => ?a4) (fun h6 W B q => ?a5)) ?b1
    case a4 =>
      refine dt_cmp od_lt ?_
      refine de_ix ?_
      refine de_var 0 rfl (.inl rfl) rfl ?_
      refine de_int ?_
      refine ixO 2 (by first | exact sput_same | assumption) rfl ?_
      refine de_var 1 rfl (.inl rfl) rfl ?_
      walk_at "op"
      refine tb ?_
      exact q
    case a5 =>
      (try simp only [decide_eq_true_eq, decide_eq_false_iff_not, Bool.and_eq_true, Bool.or_eq_true, Bool.not_eq_true', Bool.and_eq_false_iff, Bool.or_eq_false_iff, Bool.not_eq_false', Bool.not_eq_true, Bool.not_eq_false, Int.not_lt, Int.not_le] at h6)
      refine dt_cmp od_lt ?_
      refine de_ix ?_
      refine de_var 0 rfl (.inl rfl) rfl ?_
      refine de_int ?_
      refine ixO 1 (by first | exact sput_same | assumption) rfl ?_
      refine de_callB cd_len rfl m_len bt_len ?_
      refine da_cons ?_
      refine de_ix ?_
      refine de_var 0 rfl (.inl rfl) rfl ?_
      refine de_int ?_
      refine ixO 0 (by first | exact sput_same | assumption) rfl ?_
      refine da_nil ?_
      (first | (refine len_l ?_; intro _) | (refine len_t ?_; intro _) | (refine len_f ?_; intro _) | refine len_s (by walk_at "side") ?_ | (refine len_o (by first | exact sput_same | assumption) ?_; intro _))
      walk_at "op"
      refine tb ?_
      exact q
    case b1 =>
      refine br.any (fun h7 => ?_) (fun h7 => ?_)
      · (try simp only [decide_eq_true_eq, decide_eq_false_iff_not, Bool.and_eq_true, Bool.or_eq_true, Bool.not_eq_true', Bool.and_eq_false_iff, Bool.or_eq_false_iff, Bool.not_eq_false', Bool.not_eq_true, Bool.not_eq_false, Int.not_lt, Int.not_le] at h7)
        obtain ⟨h7, hlt⟩ := h7
        refine dss_cons (ds_set 2 rfl (.inl rfl) ?_)
        refine de_ix ?_
        refine de_ix ?_
        refine de_var 0 rfl (.inl rfl) rfl ?_
        refine de_int ?_
        refine ixO 0 (by first | exact sput_same | assumption) rfl ?_
        refine de_ix ?_
        refine de_var 0 rfl (.inl rfl) rfl ?_
        refine de_int ?_
        refine ixO 1 (by first | exact sput_same | assumption) rfl ?_
        obtain ⟨z, hz⟩ := draw_cell hi hlt
        refine ixLi hi hz ?_
        refine dss_cons (ds_setitem ?_)
        refine de_bin od_add ?_
        refine de_ix ?_
        refine de_var 0 rfl (.inl rfl) rfl ?_
        refine de_int ?_
        refine ixO 1 (by first | exact sput_same | assumption) rfl ?_
        refine de_int ?_
        walk_at "op"
        refine de_var 0 rfl (.inl rfl) rfl ?_
        refine de_int ?_
        refine set_sput 1 (lt_lit rfl) ?_
        refine dss_cons (ds_setitem ?_)
        refine de_int ?_
        refine de_var 0 rfl (.inl rfl) rfl ?_
        refine de_int ?_
        refine set_sput 2 (lt_lit rfl) ?_
        refine dss_cons (ds_if ?_)
        refine dt_cmp od_ge ?_
        refine de_var 2 rfl (.inl rfl) rfl ?_
        refine de_bin od_pow ?_
        refine de_int ?_
        refine de_int ?_
        refine pow_ii (by unfold CPow; decide) ?_
        walk_at "op"
        refine tb ?_
        refine br.any (fun h8 => ?_) (fun h8 => ?_)
        · (try simp only [decide_eq_true_eq, decide_eq_false_iff_not, Bool.and_eq_true, Bool.or_eq_true, Bool.not_eq_true', Bool.and_eq_false_iff, Bool.or_eq_false_iff, Bool.not_eq_false', Bool.not_eq_true, Bool.not_eq_false, Int.not_lt, Int.not_le] at h8)
          replace h8 : (1000000000000000000 : Int) ≤ z := h8
          refine dss_cons (ds_setitem ?_)
          refine de_var 2 rfl (.inl rfl) rfl ?_
          refine de_var 0 rfl (.inl rfl) rfl ?_
          refine de_int ?_
          refine set_sput 2 (lt_lit rfl) ?_
          refine dss_nil ?_
          refine dss_nil ?_
          refine ⟨_, _, ns, _, _, _, _, rfl, ?_, ?_, ?_, ?_, rfl⟩ <;> first | omega | exact Int.emod_nonneg _ (by omega) | exact Int.emod_lt_of_pos _ (by omega)
        · (try simp only [decide_eq_true_eq, decide_eq_false_iff_not, Bool.and_eq_true, Bool.or_eq_true, Bool.not_eq_true', Bool.and_eq_false_iff, Bool.or_eq_false_iff, Bool.not_eq_false', Bool.not_eq_true, Bool.not_eq_false, Int.not_lt, Int.not_le] at h8)
          refine dss_cons (ds_setitem ?_)
          refine de_bin od_mod ?_
          refine de_bin od_add ?_
          refine de_ix ?_
          refine de_var 0 rfl (.inl rfl) rfl ?_
          refine de_int ?_
          refine ixO 3 (by first | exact sput_same | assumption) rfl ?_
          refine de_var 2 rfl (.inl rfl) rfl ?_
          walk_at "op"
          refine de_int ?_
          refine mod_ii (by decide) ?_
          refine de_var 0 rfl (.inl rfl) rfl ?_
          refine de_int ?_
          refine set_sput 3 (lt_lit rfl) ?_
          refine dss_nil ?_
          refine dss_nil ?_
          refine ⟨_, _, ns, _, _, _, _, rfl, ?_, ?_, ?_, ?_, rfl⟩ <;> first | omega | exact Int.emod_nonneg _ (by omega) | exact Int.emod_lt_of_pos _ (by omega)
      · (try simp only [decide_eq_true_eq, decide_eq_false_iff_not, Bool.and_eq_true, Bool.or_eq_true, Bool.not_eq_true', Bool.and_eq_false_iff, Bool.or_eq_false_iff, Bool.not_eq_false', Bool.not_eq_true, Bool.not_eq_false, Int.not_lt, Int.not_le] at h7)
        refine dss_nil ?_
        refine ⟨_, _, ns, _, _, _, _, rfl, ?_, ?_, ?_, ?_, rfl⟩ <;> first | omega | exact Int.emod_nonneg _ (by omega) | exact Int.emod_lt_of_pos _ (by omega)
  · clear hi hb hs hs2 ns i b s c
    rintro δ' m' ⟨x2, x3, ns, i, b, s, c, rfl, hi, hb, hs, hs2, rfl⟩
    unfold drawO
    refine dss_cons (ds_if ?_)
    refine dt_cmp od_ge ?_
    refine de_ix ?_
    refine de_var 0 rfl (.inl rfl) rfl ?_
    refine de_int ?_
    refine ixO 2 (by first | exact sput_same | assumption) rfl ?_
    refine de_var 1 rfl (.inl rfl) rfl ?_
    walk_at "op"
    refine tb ?_
    refine br.any (fun h9 => ?_) (fun h9 => ?_)
    · (try simp only [decide_eq_true_eq, decide_eq_false_iff_not, Bool.and_eq_true, Bool.or_eq_true, Bool.not_eq_true', Bool.and_eq_false_iff, Bool.or_eq_false_iff, Bool.not_eq_false', Bool.not_eq_true, Bool.not_eq_false, Int.not_lt, Int.not_le] at h9)
      refine dss_cons (ds_set 3 rfl (.inl rfl) ?_)
      refine de_bin od_mod ?_
      refine de_ix ?_
      refine de_var 0 rfl (.inl rfl) rfl ?_
      refine de_int ?_
      refine ixO 2 (by first | exact sput_same | assumption) rfl ?_
      refine de_var 1 rfl (.inl rfl) rfl ?_
      refine mod_ii hn ?_
      refine dss_cons (ds_setitem ?_)
      refine de_bin od_div ?_
      refine de_ix ?_
      refine de_var 0 rfl (.inl rfl) rfl ?_
      refine de_int ?_
      refine ixO 2 (by first | exact sput_same | assumption) rfl ?_
      refine de_var 1 rfl (.inl rfl) rfl ?_
      refine div_ii ⟨hn, hn2⟩ ?_
      refine de_var 0 rfl (.inl rfl) rfl ?_
      refine de_int ?_
      refine set_sput 2 (lt_lit rfl) ?_
      refine dss_cons (ds_ret ?_)
      refine de_var 3 rfl (.inl rfl) rfl ?_
      refine hq _ _ (Int.emod_nonneg _ (by omega)) (Int.emod_lt_of_pos _ hn) ⟨ns, _, _, _, _, rfl, hi, Int.ediv_nonneg hb (by omega), hs, hs2⟩
    · (try simp only [decide_eq_true_eq, decide_eq_false_iff_not, Bool.and_eq_true, Bool.or_eq_true, Bool.not_eq_true', Bool.and_eq_false_iff, Bool.or_eq_false_iff, Bool.not_eq_false', Bool.not_eq_true, Bool.not_eq_false, Int.not_lt, Int.not_le] at h9)
      refine dss_nil ?_
      refine dss_cons (ds_setitem ?_)
      refine de_bin od_add ?_
      refine de_ix ?_
      refine de_var 0 rfl (.inl rfl) rfl ?_
      refine de_int ?_
      refine ixO 4 (by first | exact sput_same | assumption) rfl ?_
      refine de_int ?_
      walk_at "op"
      refine de_var 0 rfl (.inl rfl) rfl ?_
      refine de_int ?_
      refine set_sput 4 (lt_lit rfl) ?_
      refine dss_cons (ds_setitem ?_)
      refine de_bin od_mod ?_
      refine de_bin od_add ?_
      refine de_bin od_add ?_
      refine de_bin od_pow ?_
      refine de_ix ?_
      refine de_var 0 rfl (.inl rfl) rfl ?_
      refine de_int ?_
      refine ixO 3 (by first | exact sput_same | assumption) rfl ?_
      refine de_int ?_
      refine pow_ii (cube hs hs2) ?_
      refine de_bin od_mul ?_
      refine de_int ?_
      refine de_ix ?_
      refine de_var 0 rfl (.inl rfl) rfl ?_
      refine de_int ?_
      refine ixO 4 (by first | exact sput_same | assumption) rfl ?_
      refine mul_ii (.inl (by decide)) ?_
      walk_at "op"
      refine de_int ?_
      walk_at "op"
      refine de_int ?_
      refine mod_ii (by decide) ?_
      refine de_var 0 rfl (.inl rfl) rfl ?_
      refine de_int ?_
      refine set_sput 3 (lt_lit rfl) ?_
      refine dss_cons (ds_ret ?_)
      refine de_bin od_mod ?_
      refine de_bin od_div ?_
      refine de_ix ?_
      refine de_var 0 rfl (.inl rfl) rfl ?_
      refine de_int ?_
      refine ixO 3 (by first | exact sput_same | assumption) rfl ?_
      refine de_int ?_
      refine div_ii (by unfold CDiv; decide) ?_
      refine de_var 1 rfl (.inl rfl) rfl ?_
      refine mod_ii hn ?_
      refine hq _ _ (Int.emod_nonneg _ (by omega)) (Int.emod_lt_of_pos _ hn) ⟨ns, _, _, _, _, rfl, hi, hb, Int.emod_nonneg _ (by decide), Int.emod_lt_of_pos _ (by decide)⟩

abbrev s__law_same : Stmt := topS 8
theorem sc__law_same : FnScope ["_law_found", "_law_due", "_law_k"] ["_law_found", "_law_due"] (defScope s__law_same) := ⟨rfl, rfl, rfl, by decide +kernel, rfl, by decide +kernel, by decide +kernel⟩

set_option maxHeartbeats 8000000 in
theorem kn__law_same {f : Addr} {fd : FuncData} (Fn : FnP K "_law_same" s__law_same f fd) (g : mg "_law_same" = some (.ref f)) (m_isinstance : mg "isinstance" = none) (m_bool : mg "bool" = none) (m_int : mg "int" = none) (m_str : mg "str" = none) (m_list : mg "list" = none) (m_tuple : mg "tuple" = none) (m_len : mg "len" = none) (m_all : mg "all" = none) (m_range : mg "range" = none) : ∀ n, n ≤ 50 → Kn P w K mg base "_law_same" (n + 1) (FSame n) := by
  have b : Binds K fd ["_law_found", "_law_due"] [] := FunD.bindsN Fn fun _ _ _ _ _ _ us hl => match us, hl with | [_, _], _ => rfl
  have step : ∀ n, n ≤ 50 → (∀ j, n = j + 1 → Kn P w K mg base "_law_same" (j + 1) (FSame j)) → Kn P w K mg base "_law_same" (n + 1) (FSame n) := by
    intro n hn ih
    refine ⟨f, fd, ["_law_found", "_law_due"], ?_, g, Fn.kp, b⟩
    refine def_ok (N := ["_law_found", "_law_due", "_law_k"]) Fn sc__law_same FSame.len ?_
    rintro ds m Q E ⟨d, rfl, ok, hq⟩
    cases d with
    | non =>
      refine dss_cons (ds_if ?_)
      refine dt_cmp od_is ?_
      refine de_var 1 rfl (.inr (.inl rfl)) rfl ?_
      refine de_non ?_
      walk_at "op"
      refine tb ?_
      refine br.t ?_
      refine dss_cons (ds_ret ?_)
      refine de_cmp od_is ?_
      refine de_var 0 rfl (.inr (.inl rfl)) rfl ?_
      refine de_non ?_
      walk_at "op"
      exact hq
    | bl v =>
      refine dss_cons (ds_if ?_)
      refine dt_cmp od_is ?_
      refine de_var 1 rfl (.inr (.inl rfl)) rfl ?_
      refine de_non ?_
      walk_at "op"
      refine tb ?_
      refine br.f ?_
      refine dss_nil ?_
      refine dss_cons (ds_if ?_)
      refine dt_pt (pt_or2 (k0 := ?k13) (k1 := ?k14) (fun W B q => ?a15) (fun h17 W B q => ?a16)) ?b12
      case a15 =>
        refine dt_val ?_
        refine de_callB cd_isi rfl m_isinstance bt_isinstance ?_
        refine da_cons ?_
        refine de_var 1 rfl (.inr (.inl rfl)) rfl ?_
        refine da_cons ?_
        refine de_bty rfl m_bool bt_bool ?_
        refine da_nil ?_
        walk_at "op"
        refine tb ?_
        exact q
      case a16 =>
        (try simp only [decide_eq_true_eq, decide_eq_false_iff_not, Bool.and_eq_true, Bool.or_eq_true, Bool.not_eq_true', Bool.and_eq_false_iff, Bool.or_eq_false_iff, Bool.not_eq_false', Bool.not_eq_true, Bool.not_eq_false, Int.not_lt, Int.not_le] at h17)
        refine dt_val ?_
        refine de_callB cd_isi rfl m_isinstance bt_isinstance ?_
        refine da_cons ?_
        refine de_var 0 rfl (.inr (.inl rfl)) rfl ?_
        refine da_cons ?_
        refine de_bty rfl m_bool bt_bool ?_
        refine da_nil ?_
        walk_at "op"
        refine tb ?_
        exact q
      case b12 =>
        refine br.t ?_
        refine dss_cons (ds_ret ?_)
        refine de_pe (pe_and3 (k0 := ?k21) (k1 := ?k22) (k2 := ?k23) (fun W Q q => ?a24) (fun h27 W Q q => ?a25) (fun h27 h28 W Q q => ?a26)) ?b20
        case a24 =>
          refine de_callB cd_isi rfl m_isinstance bt_isinstance ?_
          refine da_cons ?_
          refine de_var 1 rfl (.inr (.inl rfl)) rfl ?_
          refine da_cons ?_
          refine de_bty rfl m_bool bt_bool ?_
          refine da_nil ?_
          walk_at "op"
          exact q
        case a25 =>
          (try simp only [decide_eq_true_eq, decide_eq_false_iff_not, Bool.and_eq_true, Bool.or_eq_true, Bool.not_eq_true', Bool.and_eq_false_iff, Bool.or_eq_false_iff, Bool.not_eq_false', Bool.not_eq_true, Bool.not_eq_false, Int.not_lt, Int.not_le] at h27)
          refine de_callB cd_isi rfl m_isinstance bt_isinstance ?_
          refine da_cons ?_
          refine de_var 0 rfl (.inr (.inl rfl)) rfl ?_
          refine da_cons ?_
          refine de_bty rfl m_bool bt_bool ?_
          refine da_nil ?_
          walk_at "op"
          exact q
        case a26 =>
          (try simp only [decide_eq_true_eq, decide_eq_false_iff_not, Bool.and_eq_true, Bool.or_eq_true, Bool.not_eq_true', Bool.and_eq_false_iff, Bool.or_eq_false_iff, Bool.not_eq_false', Bool.not_eq_true, Bool.not_eq_false, Int.not_lt, Int.not_le] at h27)
          (try simp only [decide_eq_true_eq, decide_eq_false_iff_not, Bool.and_eq_true, Bool.or_eq_true, Bool.not_eq_true', Bool.and_eq_false_iff, Bool.or_eq_false_iff, Bool.not_eq_false', Bool.not_eq_true, Bool.not_eq_false, Int.not_lt, Int.not_le] at h28)
          refine de_cmp od_eq ?_
          refine de_var 0 rfl (.inr (.inl rfl)) rfl ?_
          refine de_var 1 rfl (.inr (.inl rfl)) rfl ?_
          refine ⟨n, by omega, ok, ok, ?_⟩
          exact q
        case b20 =>
          simpa [eqvD_refl ok] using hq
    | int v =>
      refine dss_cons (ds_if ?_)
      refine dt_cmp od_is ?_
      refine de_var 1 rfl (.inr (.inl rfl)) rfl ?_
      refine de_non ?_
      walk_at "op"
      refine tb ?_
      refine br.f ?_
      refine dss_nil ?_
      refine dss_cons (ds_if ?_)
      refine dt_pt (pt_or2 (k0 := ?k31) (k1 := ?k32) (fun W B q => ?a33) (fun h35 W B q => ?a34)) ?b30
      case a33 =>
        refine dt_val ?_
        refine de_callB cd_isi rfl m_isinstance bt_isinstance ?_
        refine da_cons ?_
        refine de_var 1 rfl (.inr (.inl rfl)) rfl ?_
        refine da_cons ?_
        refine de_bty rfl m_bool bt_bool ?_
        refine da_nil ?_
        walk_at "op"
        refine tb ?_
        exact q
      case a34 =>
        (try simp only [decide_eq_true_eq, decide_eq_false_iff_not, Bool.and_eq_true, Bool.or_eq_true, Bool.not_eq_true', Bool.and_eq_false_iff, Bool.or_eq_false_iff, Bool.not_eq_false', Bool.not_eq_true, Bool.not_eq_false, Int.not_lt, Int.not_le] at h35)
        refine dt_val ?_
        refine de_callB cd_isi rfl m_isinstance bt_isinstance ?_
        refine da_cons ?_
        refine de_var 0 rfl (.inr (.inl rfl)) rfl ?_
        refine da_cons ?_
        refine de_bty rfl m_bool bt_bool ?_
        refine da_nil ?_
        walk_at "op"
        refine tb ?_
        exact q
      case b30 =>
        refine br.f ?_
        refine dss_nil ?_
        refine dss_cons (ds_if ?_)
        refine dt_val ?_
        refine de_isi2 rfl m_isinstance rfl m_int bt_int rfl m_str bt_str ?_
        refine de_var 1 rfl (.inr (.inl rfl)) rfl ?_
        refine isi2 rfl (by walk_at "kit") ?_
        refine tb ?_
        refine br.t ?_
        refine dss_cons (ds_ret ?_)
        refine de_pe (pe_and3 (k0 := ?k40) (k1 := ?k41) (k2 := ?k42) (fun W Q q => ?a43) (fun h46 W Q q => ?a44) (fun h46 h47 W Q q => ?a45)) ?b39
        case a43 =>
          refine de_cmp od_eq ?_
          refine de_callB cd_isi rfl m_isinstance bt_isinstance ?_
          refine da_cons ?_
          refine de_var 0 rfl (.inr (.inl rfl)) rfl ?_
          refine da_cons ?_
          refine de_bty rfl m_int bt_int ?_
          refine da_nil ?_
          walk_at "op"
          refine de_callB cd_isi rfl m_isinstance bt_isinstance ?_
          refine da_cons ?_
          refine de_var 1 rfl (.inr (.inl rfl)) rfl ?_
          refine da_cons ?_
          refine de_bty rfl m_int bt_int ?_
          refine da_nil ?_
          walk_at "op"
          refine ⟨0, by omega, rfl, rfl, ?_⟩
          exact q
        case a44 =>
          (try simp only [decide_eq_true_eq, decide_eq_false_iff_not, Bool.and_eq_true, Bool.or_eq_true, Bool.not_eq_true', Bool.and_eq_false_iff, Bool.or_eq_false_iff, Bool.not_eq_false', Bool.not_eq_true, Bool.not_eq_false, Int.not_lt, Int.not_le] at h46)
          refine de_isi2 rfl m_isinstance rfl m_int bt_int rfl m_str bt_str ?_
          refine de_var 0 rfl (.inr (.inl rfl)) rfl ?_
          refine isi2 rfl (by walk_at "kit") ?_
          exact q
        case a45 =>
          (try simp only [decide_eq_true_eq, decide_eq_false_iff_not, Bool.and_eq_true, Bool.or_eq_true, Bool.not_eq_true', Bool.and_eq_false_iff, Bool.or_eq_false_iff, Bool.not_eq_false', Bool.not_eq_true, Bool.not_eq_false, Int.not_lt, Int.not_le] at h46)
          (try simp only [decide_eq_true_eq, decide_eq_false_iff_not, Bool.and_eq_true, Bool.or_eq_true, Bool.not_eq_true', Bool.and_eq_false_iff, Bool.or_eq_false_iff, Bool.not_eq_false', Bool.not_eq_true, Bool.not_eq_false, Int.not_lt, Int.not_le] at h47)
          refine de_cmp od_eq ?_
          refine de_var 0 rfl (.inr (.inl rfl)) rfl ?_
          refine de_var 1 rfl (.inr (.inl rfl)) rfl ?_
          refine ⟨n, by omega, ok, ok, ?_⟩
          exact q
        case b39 =>
          simpa [eqvD_refl ok, eqvD_bl] using hq
    | str v =>
      refine dss_cons (ds_if ?_)
      refine dt_cmp od_is ?_
      refine de_var 1 rfl (.inr (.inl rfl)) rfl ?_
      refine de_non ?_
      walk_at "op"
      refine tb ?_
      refine br.f ?_
      refine dss_nil ?_
      refine dss_cons (ds_if ?_)
      refine dt_pt (pt_or2 (k0 := ?k50) (k1 := ?k51) (fun W B q => ?a52) (fun h54 W B q => ?a53)) ?b49
      case a52 =>
        refine dt_val ?_
        refine de_callB cd_isi rfl m_isinstance bt_isinstance ?_
        refine da_cons ?_
        refine de_var 1 rfl (.inr (.inl rfl)) rfl ?_
        refine da_cons ?_
        refine de_bty rfl m_bool bt_bool ?_
        refine da_nil ?_
        walk_at "op"
        refine tb ?_
        exact q
      case a53 =>
        (try simp only [decide_eq_true_eq, decide_eq_false_iff_not, Bool.and_eq_true, Bool.or_eq_true, Bool.not_eq_true', Bool.and_eq_false_iff, Bool.or_eq_false_iff, Bool.not_eq_false', Bool.not_eq_true, Bool.not_eq_false, Int.not_lt, Int.not_le] at h54)
        refine dt_val ?_
        refine de_callB cd_isi rfl m_isinstance bt_isinstance ?_
        refine da_cons ?_
        refine de_var 0 rfl (.inr (.inl rfl)) rfl ?_
        refine da_cons ?_
        refine de_bty rfl m_bool bt_bool ?_
        refine da_nil ?_
        walk_at "op"
        refine tb ?_
        exact q
      case b49 =>
        refine br.f ?_
        refine dss_nil ?_
        refine dss_cons (ds_if ?_)
        refine dt_val ?_
        refine de_isi2 rfl m_isinstance rfl m_int bt_int rfl m_str bt_str ?_
        refine de_var 1 rfl (.inr (.inl rfl)) rfl ?_
        refine isi2 rfl (by walk_at "kit") ?_
        refine tb ?_
        refine br.t ?_
        refine dss_cons (ds_ret ?_)
        refine de_pe (pe_and3 (k0 := ?k59) (k1 := ?k60) (k2 := ?k61) (fun W Q q => ?a62) (fun h65 W Q q => ?a63) (fun h65 h66 W Q q => ?a64)) ?b58
        case a62 =>
          refine de_cmp od_eq ?_
          refine de_callB cd_isi rfl m_isinstance bt_isinstance ?_
          refine da_cons ?_
          refine de_var 0 rfl (.inr (.inl rfl)) rfl ?_
          refine da_cons ?_
          refine de_bty rfl m_int bt_int ?_
          refine da_nil ?_
          walk_at "op"
          refine de_callB cd_isi rfl m_isinstance bt_isinstance ?_
          refine da_cons ?_
          refine de_var 1 rfl (.inr (.inl rfl)) rfl ?_
          refine da_cons ?_
          refine de_bty rfl m_int bt_int ?_
          refine da_nil ?_
          walk_at "op"
          refine ⟨0, by omega, rfl, rfl, ?_⟩
          exact q
        case a63 =>
          (try simp only [decide_eq_true_eq, decide_eq_false_iff_not, Bool.and_eq_true, Bool.or_eq_true, Bool.not_eq_true', Bool.and_eq_false_iff, Bool.or_eq_false_iff, Bool.not_eq_false', Bool.not_eq_true, Bool.not_eq_false, Int.not_lt, Int.not_le] at h65)
          refine de_isi2 rfl m_isinstance rfl m_int bt_int rfl m_str bt_str ?_
          refine de_var 0 rfl (.inr (.inl rfl)) rfl ?_
          refine isi2 rfl (by walk_at "kit") ?_
          exact q
        case a64 =>
          (try simp only [decide_eq_true_eq, decide_eq_false_iff_not, Bool.and_eq_true, Bool.or_eq_true, Bool.not_eq_true', Bool.and_eq_false_iff, Bool.or_eq_false_iff, Bool.not_eq_false', Bool.not_eq_true, Bool.not_eq_false, Int.not_lt, Int.not_le] at h65)
          (try simp only [decide_eq_true_eq, decide_eq_false_iff_not, Bool.and_eq_true, Bool.or_eq_true, Bool.not_eq_true', Bool.and_eq_false_iff, Bool.or_eq_false_iff, Bool.not_eq_false', Bool.not_eq_true, Bool.not_eq_false, Int.not_lt, Int.not_le] at h66)
          refine de_cmp od_eq ?_
          refine de_var 0 rfl (.inr (.inl rfl)) rfl ?_
          refine de_var 1 rfl (.inr (.inl rfl)) rfl ?_
          refine ⟨n, by omega, ok, ok, ?_⟩
          exact q
        case b58 =>
          simpa [eqvD_refl ok, eqvD_bl] using hq
    | tup l =>
      obtain ⟨j, rfl⟩ : ∃ j, n = j + 1 := by cases n with | zero => (simp [okD] at ok) | succ j => exact ⟨j, rfl⟩
      have ok' : okDL j l = true := by simpa [okD] using ok
      have kn__law_same := ih j rfl
      refine dss_cons (ds_if ?_)
      refine dt_cmp od_is ?_
      refine de_var 1 rfl (.inr (.inl rfl)) rfl ?_
      refine de_non ?_
      walk_at "op"
      refine tb ?_
      refine br.f ?_
      refine dss_nil ?_
      refine dss_cons (ds_if ?_)
      refine dt_pt (pt_or2 (k0 := ?k69) (k1 := ?k70) (fun W B q => ?a71) (fun h73 W B q => ?a72)) ?b68
      case a71 =>
        refine dt_val ?_
        refine de_callB cd_isi rfl m_isinstance bt_isinstance ?_
        refine da_cons ?_
        refine de_var 1 rfl (.inr (.inl rfl)) rfl ?_
        refine da_cons ?_
        refine de_bty rfl m_bool bt_bool ?_
        refine da_nil ?_
        walk_at "op"
        refine tb ?_
        exact q
      case a72 =>
        (try simp only [decide_eq_true_eq, decide_eq_false_iff_not, Bool.and_eq_true, Bool.or_eq_true, Bool.not_eq_true', Bool.and_eq_false_iff, Bool.or_eq_false_iff, Bool.not_eq_false', Bool.not_eq_true, Bool.not_eq_false, Int.not_lt, Int.not_le] at h73)
        refine dt_val ?_
        refine de_callB cd_isi rfl m_isinstance bt_isinstance ?_
        refine da_cons ?_
        refine de_var 0 rfl (.inr (.inl rfl)) rfl ?_
        refine da_cons ?_
        refine de_bty rfl m_bool bt_bool ?_
        refine da_nil ?_
        walk_at "op"
        refine tb ?_
        exact q
      case b68 =>
        refine br.f ?_
        refine dss_nil ?_
        refine dss_cons (ds_if ?_)
        refine dt_val ?_
        refine de_isi2 rfl m_isinstance rfl m_int bt_int rfl m_str bt_str ?_
        refine de_var 1 rfl (.inr (.inl rfl)) rfl ?_
        refine isi2 rfl (by walk_at "kit") ?_
        refine tb ?_
        refine br.f ?_
        refine dss_nil ?_
        refine dss_cons (ds_if ?_)
        refine dt_pt (pt_or2 (k0 := ?k77) (k1 := ?k78) (fun W B q => ?a79) (fun h81 W B q => ?a80)) ?b76
        case a79 =>
          refine dt_cmp od_ne ?_
          refine de_callB cd_isi rfl m_isinstance bt_isinstance ?_
          refine da_cons ?_
          refine de_var 0 rfl (.inr (.inl rfl)) rfl ?_
          refine da_cons ?_
          refine de_bty rfl m_list bt_list ?_
          refine da_nil ?_
          walk_at "op"
          refine de_callB cd_isi rfl m_isinstance bt_isinstance ?_
          refine da_cons ?_
          refine de_var 1 rfl (.inr (.inl rfl)) rfl ?_
          refine da_cons ?_
          refine de_bty rfl m_list bt_list ?_
          refine da_nil ?_
          walk_at "op"
          refine ⟨0, by omega, rfl, rfl, ?_⟩
          refine tb ?_
          exact q
        case a80 =>
          (try simp only [decide_eq_true_eq, decide_eq_false_iff_not, Bool.and_eq_true, Bool.or_eq_true, Bool.not_eq_true', Bool.and_eq_false_iff, Bool.or_eq_false_iff, Bool.not_eq_false', Bool.not_eq_true, Bool.not_eq_false, Int.not_lt, Int.not_le] at h81)
          refine dt_cmp od_ne ?_
          refine de_callB cd_isi rfl m_isinstance bt_isinstance ?_
          refine da_cons ?_
          refine de_var 0 rfl (.inr (.inl rfl)) rfl ?_
          refine da_cons ?_
          refine de_bty rfl m_tuple bt_tuple ?_
          refine da_nil ?_
          walk_at "op"
          refine de_callB cd_isi rfl m_isinstance bt_isinstance ?_
          refine da_cons ?_
          refine de_var 1 rfl (.inr (.inl rfl)) rfl ?_
          refine da_cons ?_
          refine de_bty rfl m_tuple bt_tuple ?_
          refine da_nil ?_
          walk_at "op"
          refine ⟨0, by omega, rfl, rfl, ?_⟩
          refine tb ?_
          exact q
        case b76 =>
          simp only [eqvD_bl]
          refine br.f ?_
          refine dss_nil ?_
          refine dss_cons (ds_ret ?_)
          refine de_pe (pe_and2 (k0 := ?k85) (k1 := ?k86) (fun W Q q => ?a87) (fun h89 W Q q => ?a88)) ?b84
          case a87 =>
            refine de_cmp od_eq ?_
            refine de_callB cd_len rfl m_len bt_len ?_
            refine da_cons ?_
            refine de_var 0 rfl (.inr (.inl rfl)) rfl ?_
            refine da_nil ?_
            (first | (refine len_l ?_; intro _) | (refine len_t ?_; intro _) | (refine len_f ?_; intro _) | refine len_s (by walk_at "side") ?_ | (refine len_o (by first | exact sput_same | assumption) ?_; intro _))
            refine de_callB cd_len rfl m_len bt_len ?_
            refine da_cons ?_
            refine de_var 1 rfl (.inr (.inl rfl)) rfl ?_
            refine da_nil ?_
            (first | (refine len_l ?_; intro _) | (refine len_t ?_; intro _) | (refine len_f ?_; intro _) | refine len_s (by walk_at "side") ?_ | (refine len_o (by first | exact sput_same | assumption) ?_; intro _))
            refine ⟨0, by omega, rfl, rfl, ?_⟩
            exact q
          case a88 =>
            (try simp only [decide_eq_true_eq, decide_eq_false_iff_not, Bool.and_eq_true, Bool.or_eq_true, Bool.not_eq_true', Bool.and_eq_false_iff, Bool.or_eq_false_iff, Bool.not_eq_false', Bool.not_eq_true, Bool.not_eq_false, Int.not_lt, Int.not_le] at h89)
            refine de_callB cd_all rfl m_all bt_all ?_
            refine da_cons ?_
            refine de_lc [("_law_k", 2)] (show blkC ["_law_found", "_law_due", "_law_k"] (defScope s__law_same) _ [("_law_k", 2)] = true from by decide +kernel) ?_
            refine di_rng1 rfl m_range ?_
            refine de_callB cd_len rfl m_len bt_len ?_
            refine da_cons ?_
            refine de_var 1 rfl (.inr (.inl rfl)) rfl ?_
            refine da_nil ?_
            (first | (refine len_l ?_; intro _) | (refine len_t ?_; intro _) | (refine len_f ?_; intro _) | refine len_s (by walk_at "side") ?_ | (refine len_o (by first | exact sput_same | assumption) ?_; intro _))
            refine ⟨_, rfl, ?_, ?_, ?_⟩
            · walk_at "side"
            · walk_at "side"
            refine ⟨fun i acc m' => acc = List.replicate i (.bl true) ∧ m' = m, ?_, ?_, ?_⟩
            · exact ⟨rfl, rfl⟩
            · rintro i d acc m' hi ⟨rfl, rfl⟩
              obtain ⟨hlt, rfl⟩ := rngD_get hi
              have hlt2 : i < l.length := by simpa using hlt
              have e0 : ((0 : Int) + (i : Nat)).toNat = i := by omega
              have hd : l[i]? = some l[i] := List.getElem?_eq_getElem hlt2
              refine dgv_name 2 (by decide) rfl (.inl rfl) ?_
              refine dts_nil ?_
              refine br.t ?_
              refine de_call kn__law_same (Nat.ble_self_eq_true _) rfl ?_
              refine da_cons ?_
              refine de_ix ?_
              refine de_var 0 rfl (by first | exact .inl rfl | exact .inr (.inl rfl) | exact .inr (.inr rfl)) rfl ?_
              refine de_var 2 rfl (.inl rfl) rfl ?_
              refine ixTi (by omega) (d := l[i]) (by rw [e0]; exact hd) ?_
              refine da_cons ?_
              refine de_ix ?_
              refine de_var 1 rfl (by first | exact .inl rfl | exact .inr (.inl rfl) | exact .inr (.inr rfl)) rfl ?_
              refine de_var 2 rfl (.inl rfl) rfl ?_
              refine ixTi (by omega) (d := l[i]) (by rw [e0]; exact hd) ?_
              refine da_nil ?_
              refine use_same rfl (okDL_mem ok' _ (List.getElem_mem _)) ?_
              refine ⟨?_, ?_, rfl⟩
              · rw [List.length_replicate]
                show i < sizeLine
                omega
              · rw [List.replicate_succ']
            · intro acc m' hI
              obtain ⟨hI, rfl⟩ := hI
              refine da_nil ?_
              refine ⟨_, _, rfl, by rw [hI]; exact blsD_true _, ?_⟩
              exact q
          case b84 =>
            simpa [eqvD_int, all_true] using hq
    | lst l =>
      obtain ⟨j, rfl⟩ : ∃ j, n = j + 1 := by cases n with | zero => (simp [okD] at ok) | succ j => exact ⟨j, rfl⟩
      have ok' : okDL j l = true := by simpa [okD] using ok
      have kn__law_same := ih j rfl
      refine dss_cons (ds_if ?_)
      refine dt_cmp od_is ?_
      refine de_var 1 rfl (.inr (.inl rfl)) rfl ?_
      refine de_non ?_
      walk_at "op"
      refine tb ?_
      refine br.f ?_
      refine dss_nil ?_
      refine dss_cons (ds_if ?_)
      refine dt_pt (pt_or2 (k0 := ?k92) (k1 := ?k93) (fun W B q => ?a94) (fun h96 W B q => ?a95)) ?b91
      case a94 =>
        refine dt_val ?_
        refine de_callB cd_isi rfl m_isinstance bt_isinstance ?_
        refine da_cons ?_
        refine de_var 1 rfl (.inr (.inl rfl)) rfl ?_
        refine da_cons ?_
        refine de_bty rfl m_bool bt_bool ?_
        refine da_nil ?_
        walk_at "op"
        refine tb ?_
        exact q
      case a95 =>
        (try simp only [decide_eq_true_eq, decide_eq_false_iff_not, Bool.and_eq_true, Bool.or_eq_true, Bool.not_eq_true', Bool.and_eq_false_iff, Bool.or_eq_false_iff, Bool.not_eq_false', Bool.not_eq_true, Bool.not_eq_false, Int.not_lt, Int.not_le] at h96)
        refine dt_val ?_
        refine de_callB cd_isi rfl m_isinstance bt_isinstance ?_
        refine da_cons ?_
        refine de_var 0 rfl (.inr (.inl rfl)) rfl ?_
        refine da_cons ?_
        refine de_bty rfl m_bool bt_bool ?_
        refine da_nil ?_
        walk_at "op"
        refine tb ?_
        exact q
      case b91 =>
        refine br.f ?_
        refine dss_nil ?_
        refine dss_cons (ds_if ?_)
        refine dt_val ?_
        refine de_isi2 rfl m_isinstance rfl m_int bt_int rfl m_str bt_str ?_
        refine de_var 1 rfl (.inr (.inl rfl)) rfl ?_
        refine isi2 rfl (by walk_at "kit") ?_
        refine tb ?_
        refine br.f ?_
        refine dss_nil ?_
        refine dss_cons (ds_if ?_)
        refine dt_pt (pt_or2 (k0 := ?k100) (k1 := ?k101) (fun W B q => ?a102) (fun h104 W B q => ?a103)) ?b99
        case a102 =>
          refine dt_cmp od_ne ?_
          refine de_callB cd_isi rfl m_isinstance bt_isinstance ?_
          refine da_cons ?_
          refine de_var 0 rfl (.inr (.inl rfl)) rfl ?_
          refine da_cons ?_
          refine de_bty rfl m_list bt_list ?_
          refine da_nil ?_
          walk_at "op"
          refine de_callB cd_isi rfl m_isinstance bt_isinstance ?_
          refine da_cons ?_
          refine de_var 1 rfl (.inr (.inl rfl)) rfl ?_
          refine da_cons ?_
          refine de_bty rfl m_list bt_list ?_
          refine da_nil ?_
          walk_at "op"
          refine ⟨0, by omega, rfl, rfl, ?_⟩
          refine tb ?_
          exact q
        case a103 =>
          (try simp only [decide_eq_true_eq, decide_eq_false_iff_not, Bool.and_eq_true, Bool.or_eq_true, Bool.not_eq_true', Bool.and_eq_false_iff, Bool.or_eq_false_iff, Bool.not_eq_false', Bool.not_eq_true, Bool.not_eq_false, Int.not_lt, Int.not_le] at h104)
          refine dt_cmp od_ne ?_
          refine de_callB cd_isi rfl m_isinstance bt_isinstance ?_
          refine da_cons ?_
          refine de_var 0 rfl (.inr (.inl rfl)) rfl ?_
          refine da_cons ?_
          refine de_bty rfl m_tuple bt_tuple ?_
          refine da_nil ?_
          walk_at "op"
          refine de_callB cd_isi rfl m_isinstance bt_isinstance ?_
          refine da_cons ?_
          refine de_var 1 rfl (.inr (.inl rfl)) rfl ?_
          refine da_cons ?_
          refine de_bty rfl m_tuple bt_tuple ?_
          refine da_nil ?_
          walk_at "op"
          refine ⟨0, by omega, rfl, rfl, ?_⟩
          refine tb ?_
          exact q
        case b99 =>
          simp only [eqvD_bl]
          refine br.f ?_
          refine dss_nil ?_
          refine dss_cons (ds_ret ?_)
          refine de_pe (pe_and2 (k0 := ?k108) (k1 := ?k109) (fun W Q q => ?a110) (fun h112 W Q q => ?a111)) ?b107
          case a110 =>
            refine de_cmp od_eq ?_
            refine de_callB cd_len rfl m_len bt_len ?_
            refine da_cons ?_
            refine de_var 0 rfl (.inr (.inl rfl)) rfl ?_
            refine da_nil ?_
            (first | (refine len_l ?_; intro _) | (refine len_t ?_; intro _) | (refine len_f ?_; intro _) | refine len_s (by walk_at "side") ?_ | (refine len_o (by first | exact sput_same | assumption) ?_; intro _))
            refine de_callB cd_len rfl m_len bt_len ?_
            refine da_cons ?_
            refine de_var 1 rfl (.inr (.inl rfl)) rfl ?_
            refine da_nil ?_
            (first | (refine len_l ?_; intro _) | (refine len_t ?_; intro _) | (refine len_f ?_; intro _) | refine len_s (by walk_at "side") ?_ | (refine len_o (by first | exact sput_same | assumption) ?_; intro _))
            refine ⟨0, by omega, rfl, rfl, ?_⟩
            exact q
          case a111 =>
            (try simp only [decide_eq_true_eq, decide_eq_false_iff_not, Bool.and_eq_true, Bool.or_eq_true, Bool.not_eq_true', Bool.and_eq_false_iff, Bool.or_eq_false_iff, Bool.not_eq_false', Bool.not_eq_true, Bool.not_eq_false, Int.not_lt, Int.not_le] at h112)
            refine de_callB cd_all rfl m_all bt_all ?_
            refine da_cons ?_
            refine de_lc [("_law_k", 2)] (show blkC ["_law_found", "_law_due", "_law_k"] (defScope s__law_same) _ [("_law_k", 2)] = true from by decide +kernel) ?_
            refine di_rng1 rfl m_range ?_
            refine de_callB cd_len rfl m_len bt_len ?_
            refine da_cons ?_
            refine de_var 1 rfl (.inr (.inl rfl)) rfl ?_
            refine da_nil ?_
            (first | (refine len_l ?_; intro _) | (refine len_t ?_; intro _) | (refine len_f ?_; intro _) | refine len_s (by walk_at "side") ?_ | (refine len_o (by first | exact sput_same | assumption) ?_; intro _))
            refine ⟨_, rfl, ?_, ?_, ?_⟩
            · walk_at "side"
            · walk_at "side"
            refine ⟨fun i acc m' => acc = List.replicate i (.bl true) ∧ m' = m, ?_, ?_, ?_⟩
            · exact ⟨rfl, rfl⟩
            · rintro i d acc m' hi ⟨rfl, rfl⟩
              obtain ⟨hlt, rfl⟩ := rngD_get hi
              have hlt2 : i < l.length := by simpa using hlt
              have e0 : ((0 : Int) + (i : Nat)).toNat = i := by omega
              have hd : l[i]? = some l[i] := List.getElem?_eq_getElem hlt2
              refine dgv_name 2 (by decide) rfl (.inl rfl) ?_
              refine dts_nil ?_
              refine br.t ?_
              refine de_call kn__law_same (Nat.ble_self_eq_true _) rfl ?_
              refine da_cons ?_
              refine de_ix ?_
              refine de_var 0 rfl (by first | exact .inl rfl | exact .inr (.inl rfl) | exact .inr (.inr rfl)) rfl ?_
              refine de_var 2 rfl (.inl rfl) rfl ?_
              refine ixLi (by omega) (d := l[i]) (by rw [e0]; exact hd) ?_
              refine da_cons ?_
              refine de_ix ?_
              refine de_var 1 rfl (by first | exact .inl rfl | exact .inr (.inl rfl) | exact .inr (.inr rfl)) rfl ?_
              refine de_var 2 rfl (.inl rfl) rfl ?_
              refine ixLi (by omega) (d := l[i]) (by rw [e0]; exact hd) ?_
              refine da_nil ?_
              refine use_same rfl (okDL_mem ok' _ (List.getElem_mem _)) ?_
              refine ⟨?_, ?_, rfl⟩
              · rw [List.length_replicate]
                show i < sizeLine
                omega
              · rw [List.replicate_succ']
            · intro acc m' hI
              obtain ⟨hI, rfl⟩ := hI
              refine da_nil ?_
              refine ⟨_, _, rfl, by rw [hI]; exact blsD_true _, ?_⟩
              exact q
          case b107 =>
            simpa [eqvD_int, all_true] using hq
    | frz _ => simp [okD] at ok
    | dic _ _ => simp [okD] at ok
    | dit _ _ => simp [okD] at ok
    | ref _ => simp [okD] at ok
    | ty _ => simp [okD] at ok
  intro n
  induction n with
  | zero => exact fun h => step 0 h fun j e => by omega
  | succ n ih =>
    intro h
    refine step (n + 1) h fun j e => ?_
    obtain rfl : n = j := by omega
    exact ih (by omega)

end
end K27

namespace K27
open PySem PySem.Spec PyProof.Rows L2 G
local macro_rules | `(tactic| walk_at "op") => `(tactic| first | with_reducible refine add_ii ?_ | with_reducible refine sub_ii ?_ | with_reducible refine cmp_ii ?_ | with_reducible refine is_n ?_ | with_reducible refine isnt_n ?_ | with_reducible refine max_ii ?_ | with_reducible refine min_ii ?_ | with_reducible refine int_i ?_ | with_reducible refine int_b ?_ | refine len_l ?_ | refine len_t ?_ | refine isi rfl (by walk_at "kit") ?_)
local macro_rules | `(tactic| walk_at "kit") => `(tactic| first | exact kit_NoneType_bool | exact kit_NoneType_int | exact kit_NoneType_str | exact kit_NoneType_list | exact kit_NoneType_tuple | exact kit_NoneType_dict | exact kit_bool_bool | exact kit_bool_int | exact kit_bool_str | exact kit_bool_list | exact kit_bool_tuple | exact kit_bool_dict | exact kit_int_bool | exact kit_int_int | exact kit_int_str | exact kit_int_list | exact kit_int_tuple | exact kit_int_dict | exact kit_str_bool | exact kit_str_int | exact kit_str_str | exact kit_str_list | exact kit_str_tuple | exact kit_str_dict | exact kit_tuple_bool | exact kit_tuple_int | exact kit_tuple_str | exact kit_tuple_list | exact kit_tuple_tuple | exact kit_tuple_dict | exact kit_list_bool | exact kit_list_int | exact kit_list_str | exact kit_list_list | exact kit_list_tuple | exact kit_list_dict | exact kit_dict_bool | exact kit_dict_int | exact kit_dict_str | exact kit_dict_list | exact kit_dict_tuple | exact kit_dict_dict | exact kit2_NoneType_int_str | exact kit2_bool_int_str | exact kit2_int_int_str | exact kit2_str_int_str | exact kit2_tuple_int_str | exact kit2_list_int_str | exact kit2_dict_int_str)
local macro_rules | `(tactic| walk_at "side") => `(tactic| first | omega | (have hz := sizeLine_eq; omega))
section
variable {P : Program} {w : World} {K : PySem.W.Frag} {mg : Str → Option Value} {base : Heap}

abbrev s__law_one : Stmt := topS 7
theorem sc__law_one : FnScope ["_law_draw", "_law_some"] ["_law_draw", "_law_some"] (defScope s__law_one) := ⟨rfl, rfl, rfl, by decide +kernel, rfl, by decide +kernel, by decide +kernel⟩
set_option maxHeartbeats 4000000 in
theorem kn__law_one {f : Addr} {fd : FuncData} (Fn : FnP K "_law_one" s__law_one f fd) (g : mg "_law_one" = some (.ref f)) (m_len : mg "len" = none) (kn__law_pick : Kn P w K mg base "_law_pick" 1 (FPick)) : Kn P w K mg base "_law_one" 2 (FOne) := by
  have b : Binds K fd ["_law_draw", "_law_some"] [] := FunD.bindsN Fn fun _ _ _ _ _ _ us hl => match us, hl with | [_, _], _ => rfl
  refine ⟨f, fd, ["_law_draw", "_law_some"], ?_, g, Fn.kp, b⟩
  refine def_ok (N := ["_law_draw", "_law_some"]) Fn sc__law_one FOne.len ?_
  rintro ds m Q E ⟨p, z, o, rfl, hm, hd, h1, h2, h3, hq⟩
  obtain ⟨m0, rfl⟩ : ∃ m0, m = sput m0 p o := ⟨m, by funext a; unfold sput; split; (next e => rw [e, hm]); rfl⟩
  clear hm
  simp only [sput_sput] at hq
  refine dss_cons (ds_ret ?_)
  refine de_ix ?_
  refine de_var 1 rfl (.inl rfl) rfl ?_
  refine de_call kn__law_pick rfl rfl ?_
  refine da_cons ?_
  refine de_var 0 rfl (.inl rfl) rfl ?_
  refine da_cons ?_
  refine de_callB cd_len rfl m_len bt_len ?_
  refine da_cons ?_
  refine de_var 1 rfl (.inl rfl) rfl ?_
  refine da_nil ?_
  refine len_s (by have hz := sizeLine_eq; omega) ?_
  refine da_nil ?_
  refine use_pick (by assumption) (by walk_at "side") (by walk_at "side") (fun r1 o1 r1a r1b d1 => ?_)
  refine ix_sign (by assumption) (by assumption) h2 h3 (fun c hc => ?_)
  exact hq _ _ hc (by assumption)

abbrev s_with_text : Stmt := topS 1
theorem sc_with_text : FnScope ["rows", "v", "u", "text", "line"] ["rows", "v", "u", "text"] (defScope s_with_text) := ⟨rfl, rfl, rfl, by decide +kernel, rfl, by decide +kernel, by decide +kernel⟩
set_option maxHeartbeats 4000000 in
theorem kn_with_text {f : Addr} {fd : FuncData} (Fn : FnP K "with_text" s_with_text f fd) (g : mg "with_text" = some (.ref f)) (m_len : mg "len" = none)  : Kn P w K mg base "with_text" 1 (FPutT) := by
  have b : Binds K fd ["rows", "v", "u", "text"] [] := FunD.bindsN Fn fun _ _ _ _ _ _ us hl => match us, hl with | [_, _, _, _], _ => rfl
  refine ⟨f, fd, ["rows", "v", "u", "text"], ?_, g, Fn.kp, b⟩
  refine def_ok (N := ["rows", "v", "u", "text", "line"]) Fn sc_with_text FPutT.len ?_
  rintro ds m Q E ⟨h, w, rows, v, u, t, rfl, hh, hw, dr, ok, hq⟩
  obtain ⟨h0, h1, h2, h3, h4⟩ := id ok
  obtain ⟨z, hz1, -, hl, ho⟩ := dr.row (v := v.toNat) (by omega)
  have hg : rows.getD v.toNat "" = z := by
    rw [List.getD_eq_getElem?_getD, hz1]
    rfl
  have c1 := cutS_len z none (some u)
  have c2 := cutS_len z (some (u + t.length)) none
  have c3 := cutL_le (rows.map D.str) none (some v)
  have c4 := cutL_le (rows.map D.str) (some (v + 1)) none
  rw [List.length_map] at c3 c4
  have hrl := dr.1
  refine dss_cons (ds_set 4 rfl (.inl rfl) ?_)
  refine de_ix ?_
  refine de_var 0 rfl (.inl rfl) rfl ?_
  refine de_var 1 rfl (.inl rfl) rfl ?_
  refine ixLi (d := .str z) h0 (d_at hz1) ?_
  refine dss_cons (ds_ret ?_)
  refine de_bin od_add ?_
  refine de_bin od_add ?_
  refine de_sl01 ?_
  refine de_var 0 rfl (.inl rfl) rfl ?_
  refine de_var 1 rfl (.inl rfl) rfl ?_
  refine ⟨_, rfl, ?_⟩
  refine cut_l ?_
  refine de_lst ?_
  refine da_cons ?_
  refine de_bin od_add ?_
  refine de_bin od_add ?_
  refine de_sl01 ?_
  refine de_var 4 rfl (.inl rfl) rfl ?_
  refine de_var 2 rfl (.inl rfl) rfl ?_
  refine ⟨_, rfl, ?_⟩
  refine cut_s (by have hz := sizeLine_eq; omega) ?_
  refine de_var 3 rfl (.inl rfl) rfl ?_
  refine add_ss (by have hz := sizeLine_eq; omega) ?_
  refine de_sl10 ?_
  refine de_var 4 rfl (.inl rfl) rfl ?_
  refine de_bin od_add ?_
  refine de_var 2 rfl (.inl rfl) rfl ?_
  refine de_callB cd_len rfl m_len bt_len ?_
  refine da_cons ?_
  refine de_var 3 rfl (.inl rfl) rfl ?_
  refine da_nil ?_
  refine len_s (by have hz := sizeLine_eq; omega) ?_
  walk_at "op"
  refine ⟨_, rfl, ?_⟩
  refine cut_s (by have hz := sizeLine_eq; omega) ?_
  refine add_ss (by have hz := sizeLine_eq; rw [app_len]; omega) ?_
  refine da_nil ?_
  refine ⟨sz_lit rfl, ?_⟩
  refine add_ll (by have hz := sizeLine_eq; simp only [List.length_cons, List.length_nil]; omega) ?_
  refine de_sl10 ?_
  refine de_var 0 rfl (.inl rfl) rfl ?_
  refine de_bin od_add ?_
  refine de_var 1 rfl (.inl rfl) rfl ?_
  refine de_int ?_
  walk_at "op"
  refine ⟨_, rfl, ?_⟩
  refine cut_l ?_
  refine add_ll (by have hz := sizeLine_eq; simp only [List.length_append, List.length_cons, List.length_nil]; omega) ?_
  unfold putR putLine at hq
  rw [hg, List.map_append, List.map_append, ← cutL_map, ← cutL_map] at hq
  exact hq

abbrev s_with_shift : Stmt := topS 2
theorem sc_with_shift : FnScope ["rows", "stretch", "down", "across", "top", "left", "high", "wide", "found", "v", "line", "u", "far"] ["rows", "stretch", "down", "across"] (defScope s_with_shift) := ⟨rfl, rfl, rfl, by decide +kernel, rfl, by decide +kernel, by decide +kernel⟩
set_option maxHeartbeats 4000000 in
theorem kn_with_shift {f : Addr} {fd : FuncData} (Fn : FnP K "with_shift" s_with_shift f fd) (g : mg "with_shift" = some (.ref f)) (m_range : mg "range" = none) (m_list : mg "list" = none)  : Kn P w K mg base "with_shift" 1 (FShT) := by
  have b : Binds K fd ["rows", "stretch", "down", "across"] [] := FunD.bindsN Fn fun _ _ _ _ _ _ us hl => match us, hl with | [_, _, _, _], _ => rfl
  refine ⟨f, fd, ["rows", "stretch", "down", "across"], ?_, g, Fn.kp, b⟩
  refine def_ok (N := ["rows", "stretch", "down", "across", "top", "left", "high", "wide", "found", "v", "line", "u", "far"]) Fn sc_with_shift FShT.len ?_
  rintro ds m Q E ⟨h, w, rows, a, b, p, n, d, c, rfl, hh, hw, dr, ok, hq⟩
  obtain ⟨⟨k1, k2, k3⟩, ⟨k4, k5, k6⟩, k7⟩ := id ok
  obtain ⟨A, rfl⟩ : ∃ A : Nat, a = A := ⟨a.toNat, by omega⟩
  have hrl := dr.1
  have hsl := shiftR_len rows A b p n d c w
  refine dss_cons (ds_asg ?_)
  refine de_var 1 rfl (.inl rfl) rfl ?_
  refine dg_tup rfl ?_
  refine dgs_cons ?_
  refine dg_name 4 rfl (.inl rfl) ?_
  refine dgs_cons ?_
  refine dg_name 5 rfl (.inl rfl) ?_
  refine dgs_cons ?_
  refine dg_name 6 rfl (.inl rfl) ?_
  refine dgs_cons ?_
  refine dg_name 7 rfl (.inl rfl) ?_
  refine dgs_nil ?_
  refine dss_cons (ds_set 8 rfl (.inl rfl) ?_)
  refine de_callTy cd_listM rfl m_list bt_list ?_
  refine da_cons ?_
  refine de_var 0 rfl (.inl rfl) rfl ?_
  refine da_nil ?_
  refine list_m rfl (fun f hf => ?_)
  refine dss_cons (ds_for ?_)
  refine di_rng2 rfl m_range ?_
  refine de_var 4 rfl (.inl rfl) rfl ?_
  refine de_bin od_add ?_
  refine de_var 4 rfl (.inl rfl) rfl ?_
  refine de_var 6 rfl (.inl rfl) rfl ?_
  walk_at "op"
  refine ⟨_, _, rfl, rfl, ?_, ?_⟩
  · walk_at "side"
  refine ⟨fun i δ' m' => ∃ x9 x10 x11 x12, δ' = [some (.lst (rows.map D.str)), some (.tup [.int (A : Int), .int b, .int p, .int n]), some (.int d), some (.int c), some (.int (A : Int)), some (.int b), some (.int p), some (.int n), some (.ref f), x9, x10, x11, x12] ∧ m' = sput m f (.lst ((doneR rows (shiftR rows (A : Int) b p n d c w) (A + i)).map D.str)), ?_, ?_, ?_⟩
  · refine ⟨_, _, _, _, rfl, ?_⟩
    rw [done_0 (fun j hj => shift_same dr (by omega))]
  · rintro i dd δ' m' hi' ⟨x9, x10, x11, x12, rfl, rfl⟩
    obtain ⟨hit, rfl⟩ := rngD_get hi'
    rw [show (A : Int) + (i : Nat) = ((A + i : Nat) : Int) from by omega]
    obtain ⟨z, hzv, -, hzl, hzo⟩ := dr.row (v := A + i) (by omega)
    refine dg_name 9 rfl (.inl rfl) ?_
    refine dss_cons (ds_if ?_)
    refine dt_chainI (l := ?l113) od_le od_lt ?c116
    case c116 =>
      refine de_var 4 rfl (.inl rfl) rfl ?_
      refine de_bin od_add ?_
      refine de_var 9 rfl (.inl rfl) rfl ?_
      refine de_var 2 rfl (.inl rfl) rfl ?_
      walk_at "op"
      refine ⟨_, _, rfl, rfl, fun W Q q => ?a114, ?b115⟩
      case a114 =>
        refine de_bin od_add ?_
        refine de_var 4 rfl (.inl rfl) rfl ?_
        refine de_var 6 rfl (.inl rfl) rfl ?_
        walk_at "op"
        exact q
      case b115 =>
        refine br.any (fun h117 => ?_) (fun h117 => ?_)
        · (try simp only [decide_eq_true_eq, decide_eq_false_iff_not, Bool.and_eq_true, Bool.or_eq_true, Bool.not_eq_true', Bool.and_eq_false_iff, Bool.or_eq_false_iff, Bool.not_eq_false', Bool.not_eq_true, Bool.not_eq_false, Int.not_lt, Int.not_le] at h117)
          have hv := h117
          refine dss_cons (ds_set 10 rfl (.inl rfl) ?_)
          refine de_str ?_
          refine dss_cons (ds_for ?_)
          refine di_rng2 rfl m_range ?_
          refine de_var 5 rfl (.inl rfl) rfl ?_
          refine de_bin od_add ?_
          refine de_var 5 rfl (.inl rfl) rfl ?_
          refine de_var 7 rfl (.inl rfl) rfl ?_
          walk_at "op"
          refine ⟨_, _, rfl, rfl, ?_, ?_⟩
          · walk_at "side"
          refine ⟨fun j δ' m' => ∃ x11 x12, δ' = [some (.lst (rows.map D.str)), some (.tup [.int (A : Int), .int b, .int p, .int n]), some (.int d), some (.int c), some (.int (A : Int)), some (.int b), some (.int p), some (.int n), some (.ref f), some (.int ((A + i : Nat) : Int)), some (.str (mkS ((List.range j).map fun k => inS rows b n d c (A + i : Nat) (b + (k : Nat))))), x11, x12] ∧ m' = sput m f (.lst ((doneR rows (shiftR rows (A : Int) b p n d c w) (A + i)).map D.str)), ?_, ?_, ?_⟩
          · exact ⟨_, _, rfl, rfl⟩
          · rintro j dd δ' m' hj' ⟨x11, x12, rfl, rfl⟩
            obtain ⟨hjt, rfl⟩ := rngD_get hj'
            refine dg_name 11 rfl (.inl rfl) ?_
            refine dss_cons (ds_set 12 rfl (.inl rfl) ?_)
            refine de_bin od_add ?_
            refine de_var 11 rfl (.inl rfl) rfl ?_
            refine de_var 3 rfl (.inl rfl) rfl ?_
            walk_at "op"
            refine dss_cons (ds_aug 10 od_addSi rfl (.inl rfl) rfl ?_)
            refine de_if ?_
            refine dt_chainI (l := ?l118) od_le od_lt ?c121
            case c121 =>
              refine de_var 5 rfl (.inl rfl) rfl ?_
              refine de_var 12 rfl (.inl rfl) rfl ?_
              refine ⟨_, _, rfl, rfl, fun W Q q => ?a119, ?b120⟩
              case a119 =>
                refine de_bin od_add ?_
                refine de_var 5 rfl (.inl rfl) rfl ?_
                refine de_var 7 rfl (.inl rfl) rfl ?_
                walk_at "op"
                exact q
              case b120 =>
                refine br.any (fun h122 => ?_) (fun h122 => ?_)
                · (try simp only [decide_eq_true_eq, decide_eq_false_iff_not, Bool.and_eq_true, Bool.or_eq_true, Bool.not_eq_true', Bool.and_eq_false_iff, Bool.or_eq_false_iff, Bool.not_eq_false', Bool.not_eq_true, Bool.not_eq_false, Int.not_lt, Int.not_le] at h122)
                  have hu := h122
                  obtain ⟨z1, hz1, hzl1, hs1, hsb⟩ := dr.sg (v := ((A + i : Nat) : Int) + d) (u := b + (j : Nat) + c) (by omega) (by omega) (by omega) (by omega)
                  have hch : inS rows b n d c ((A + i : Nat) : Int) (b + (j : Nat)) = sgn rows (((A + i : Nat) : Int) + d) (b + (j : Nat) + c) := if_pos hu
                  refine de_ix ?_
                  refine de_ix ?_
                  refine de_var 0 rfl (.inl rfl) rfl ?_
                  refine de_bin od_add ?_
                  refine de_var 9 rfl (.inl rfl) rfl ?_
                  refine de_var 2 rfl (.inl rfl) rfl ?_
                  walk_at "op"
                  refine ixLi (d := .str z1) (by omega) (d_at hz1) ?_
                  refine de_var 12 rfl (.inl rfl) rfl ?_
                  refine ix_at (by omega) hs1 (by omega) ?_
                  refine ⟨_, _, rfl, rfl, (by have hz := sizeLine_eq; rw [mk_len, sg1_len, List.length_map, List.length_range]; omega), ?_⟩
                  rw [mk_snoc]
                  refine dss_nil ?_
                  show ∃ (x11 x12 : Option D), _
                  rw [← hch, List.range_succ, List.map_append]
                  exact ⟨_, _, rfl, rfl⟩
                · (try simp only [decide_eq_true_eq, decide_eq_false_iff_not, Bool.and_eq_true, Bool.or_eq_true, Bool.not_eq_true', Bool.and_eq_false_iff, Bool.or_eq_false_iff, Bool.not_eq_false', Bool.not_eq_true, Bool.not_eq_false, Int.not_lt, Int.not_le] at h122)
                  have hu := h122
                  obtain ⟨z2, hz2, hzl2, hs2, hsb⟩ := dr.sg (v := ((A + i : Nat) : Int)) (u := b + (j : Nat)) (by omega) (by omega) (by omega) (by omega)
                  have hch : inS rows b n d c ((A + i : Nat) : Int) (b + (j : Nat)) = sgn rows ((A + i : Nat) : Int) (b + (j : Nat)) := if_neg (by omega)
                  refine de_ix ?_
                  refine de_ix ?_
                  refine de_var 0 rfl (.inl rfl) rfl ?_
                  refine de_var 9 rfl (.inl rfl) rfl ?_
                  first | refine ixLi (d := .str z2) (by omega) (d_at hz2) ?_ | refine ixLi (d := .str z) (by omega) (d_at (by rw [Int.toNat_natCast]; exact hzv)) ?_
                  refine de_var 11 rfl (.inl rfl) rfl ?_
                  refine ix_at (by omega) hs2 (by omega) ?_
                  refine ⟨_, _, rfl, rfl, (by have hz := sizeLine_eq; rw [mk_len, sg1_len, List.length_map, List.length_range]; omega), ?_⟩
                  rw [mk_snoc]
                  refine dss_nil ?_
                  show ∃ (x11 x12 : Option D), _
                  rw [← hch, List.range_succ, List.map_append]
                  exact ⟨_, _, rfl, rfl⟩
          · rintro δ' m' ⟨x11, x12, rfl, rfl⟩
            rw [rngD_len]
            refine dss_cons (ds_setitem ?_)
            refine de_bin od_add ?_
            refine de_bin od_add ?_
            refine de_sl01 ?_
            refine de_ix ?_
            refine de_var 0 rfl (.inl rfl) rfl ?_
            refine de_var 9 rfl (.inl rfl) rfl ?_
            first | refine ixLi (d := .str z2) (by omega) (d_at hz2) ?_ | refine ixLi (d := .str z) (by omega) (d_at (by rw [Int.toNat_natCast]; exact hzv)) ?_
            refine de_var 5 rfl (.inl rfl) rfl ?_
            refine ⟨_, rfl, ?_⟩
            refine cut_s (by have hz := sizeLine_eq; omega) ?_
            refine de_var 10 rfl (.inl rfl) rfl ?_
            have c1 := cutS_len z none (some b)
            refine add_ss (by have hz := sizeLine_eq; rw [mk_len, List.length_map, List.length_range]; omega) ?_
            refine de_sl10 ?_
            refine de_ix ?_
            refine de_var 0 rfl (.inl rfl) rfl ?_
            refine de_var 9 rfl (.inl rfl) rfl ?_
            first | refine ixLi (d := .str z2) (by omega) (d_at hz2) ?_ | refine ixLi (d := .str z) (by omega) (d_at (by rw [Int.toNat_natCast]; exact hzv)) ?_
            refine de_bin od_add ?_
            refine de_var 5 rfl (.inl rfl) rfl ?_
            refine de_var 7 rfl (.inl rfl) rfl ?_
            walk_at "op"
            refine ⟨_, rfl, ?_⟩
            refine cut_s (by have hz := sizeLine_eq; omega) ?_
            have c2 := cutS_len z (some (b + n)) none
            refine add_ss (by have hz := sizeLine_eq; rw [app_len, mk_len, List.length_map, List.length_range]; omega) ?_
            rw [show (b + n - b).toNat = n.toNat from by omega, shLine_in dr ok (by omega) hzv ⟨by omega, by omega⟩ ⟨by omega, by omega⟩]
            refine de_var 8 rfl (.inl rfl) rfl ?_
            refine de_var 9 rfl (.inl rfl) rfl ?_
            refine set_sput (A + i) (by rw [List.length_map, done_len hsl]; omega) ?_
            refine dss_nil ?_
            refine dss_nil ?_
            first
              | (refine ⟨_, _, _, _, rfl, ?_⟩
                 rw [← List.map_set, ← Nat.add_assoc, ← done_succ hsl (by omega), List.getD_eq_getElem?_getD, shift_at (by omega)]
                 rfl)
              | (refine ⟨_, _, _, _, rfl, ?_⟩
                 rw [← Nat.add_assoc, ← done_stay hsl (by omega) (shift_same dr (by omega))])
        · (try simp only [decide_eq_true_eq, decide_eq_false_iff_not, Bool.and_eq_true, Bool.or_eq_true, Bool.not_eq_true', Bool.and_eq_false_iff, Bool.or_eq_false_iff, Bool.not_eq_false', Bool.not_eq_true, Bool.not_eq_false, Int.not_lt, Int.not_le] at h117)
          have hv := h117
          refine dss_nil ?_
          refine dss_nil ?_
          first
            | (refine ⟨_, _, _, _, rfl, ?_⟩
               rw [← List.map_set, ← Nat.add_assoc, ← done_succ hsl (by omega), List.getD_eq_getElem?_getD, shift_at (by omega)]
               rfl)
            | (refine ⟨_, _, _, _, rfl, ?_⟩
               rw [← Nat.add_assoc, ← done_stay hsl (by omega) (shift_same dr (by omega))])
  · rintro δ' m' ⟨x9, x10, x11, x12, rfl, rfl⟩
    rw [rngD_len, done_end (fun j hj => shift_same dr (by omega))]
    refine dss_cons (ds_ret ?_)
    refine de_freeze ?_
    refine de_var 8 rfl (.inl rfl) rfl ?_
    refine ⟨_, _, rfl, sput_same, ?_⟩
    rw [sdel_new hf]
    exact hq

abbrev s_behind_steps : Stmt := topS 3
theorem sc_behind_steps : FnScope ["rows", "some", "word", "rest", "v", "u", "text"] ["rows", "some"] (defScope s_behind_steps) := ⟨rfl, rfl, rfl, by decide +kernel, rfl, by decide +kernel, by decide +kernel⟩
set_option maxHeartbeats 4000000 in
theorem kn_behind_steps {f : Addr} {fd : FuncData} (Fn : FnP K "behind_steps" s_behind_steps f fd) (g : mg "behind_steps" = some (.ref f)) (m_list : mg "list" = none) (m_tuple : mg "tuple" = none) (kn_with_text : Kn P w K mg base "with_text" 1 (FPutT)) (kn_with_shift : Kn P w K mg base "with_shift" 1 (FShT)) : Kn P w K mg base "behind_steps" 2 (FBehind) := by
  have b : Binds K fd ["rows", "some"] [] := FunD.bindsN Fn fun _ _ _ _ _ _ us hl => match us, hl with | [_, _], _ => rfl
  refine ⟨f, fd, ["rows", "some"], ?_, g, Fn.kp, b⟩
  refine def_ok (N := ["rows", "some", "word", "rest", "v", "u", "text"]) Fn sc_behind_steps FBehind.len ?_
  rintro ds m Q E ⟨h, w, rows, l, rfl, hh, hw, dr, ok, hq⟩
  refine dss_cons (ds_for ?_)
  refine di_lst ?_
  refine de_var 1 rfl (.inl rfl) rfl ?_
  refine ⟨_, rfl, ?_⟩
  refine ⟨fun i δ' m' => ∃ x1 x2 x3 x4 x5 x6, δ' = [some (.lst (((l.take i).foldl (stepR w) rows).map D.str)), x1, x2, x3, x4, x5, x6] ∧ m' = m, ?_, ?_, ?_⟩
  · exact ⟨_, _, _, _, _, _, rfl, rfl⟩
  · rintro i dd δ' m' hi' ⟨x1, x2, x3, x4, x5, x6, rfl, rfl⟩
    rw [List.getElem?_map] at hi'
    obtain ⟨s, hs, rfl⟩ := Option.map_eq_some_iff.mp hi'
    have ok2 := ok s (List.mem_of_getElem? hs)
    have dr2 := steps_draw (l.take i) dr fun z hz => ok z (List.mem_of_mem_take hz)
    have he := steps_succ (w := w) (rows := rows) hs
    have hrest := s.rest_len
    rw [Stp.D_eq]
    generalize ((l.take i).foldl (stepR w) rows) = rs at dr2 he ⊢
    refine dg_star1 (by walk_at "side") ?_
    refine dgs_cons ?_
    refine dg_name 2 rfl (.inl rfl) ?_
    refine dgs_star ?_
    refine dgs_cons ?_
    refine dg_name 3 rfl (.inl rfl) ?_
    refine dgs_nil ?_
    refine dss_cons (ds_if ?_)
    refine dt_cmp od_eqF ?_
    refine de_var 2 rfl (.inl rfl) rfl ?_
    refine de_str ?_
    (first | refine eq_ss ?_ | refine eq_ii ?_)
    refine tb ?_
    refine br.any (fun h123 => ?_) (fun h123 => ?_)
    · (try simp only [decide_eq_true_eq, decide_eq_false_iff_not, Bool.and_eq_true, Bool.or_eq_true, Bool.not_eq_true', Bool.and_eq_false_iff, Bool.or_eq_false_iff, Bool.not_eq_false', Bool.not_eq_true, Bool.not_eq_false, Int.not_lt, Int.not_le] at h123)
      obtain ⟨v, u, t, rfl⟩ := is_put h123
      rw [show (Stp.put v u t).rest = [.int v, .int u, .str t] from rfl]
      refine dss_cons (ds_asg ?_)
      refine de_var 3 rfl (.inl rfl) rfl ?_
      refine dg_lst rfl ?_
      refine dgs_cons ?_
      refine dg_name 4 rfl (.inl rfl) ?_
      refine dgs_cons ?_
      refine dg_name 5 rfl (.inl rfl) ?_
      refine dgs_cons ?_
      refine dg_name 6 rfl (.inl rfl) ?_
      refine dgs_nil ?_
      refine dss_cons (ds_set 0 rfl (.inl rfl) ?_)
      refine de_call kn_with_text rfl rfl ?_
      refine da_cons ?_
      refine de_var 0 rfl (.inl rfl) rfl ?_
      refine da_cons ?_
      refine de_var 4 rfl (.inl rfl) rfl ?_
      refine da_cons ?_
      refine de_var 5 rfl (.inl rfl) rfl ?_
      refine da_cons ?_
      refine de_var 6 rfl (.inl rfl) rfl ?_
      refine da_nil ?_
      refine ⟨h, w, _, _, _, _, rfl, hh, hw, dr2, ok2, ?_⟩
      refine dss_nil ?_
      refine dss_nil ?_
      show ∃ (x1 x2 x3 x4 x5 x6 : Option D), _
      rw [he]
      exact ⟨_, _, _, _, _, _, rfl, rfl⟩
    · (try simp only [decide_eq_true_eq, decide_eq_false_iff_not, Bool.and_eq_true, Bool.or_eq_true, Bool.not_eq_true', Bool.and_eq_false_iff, Bool.or_eq_false_iff, Bool.not_eq_false', Bool.not_eq_true, Bool.not_eq_false, Int.not_lt, Int.not_le] at h123)
      obtain ⟨a, b, p, n, d, c, rfl⟩ := is_shift h123
      rw [show (Stp.shift a b p n d c).rest = [.int a, .int b, .int p, .int n, .int d, .int c] from rfl]
      refine dss_cons (ds_set 0 rfl (.inl rfl) ?_)
      refine de_call kn_with_shift rfl rfl ?_
      refine da_cons ?_
      refine de_var 0 rfl (.inl rfl) rfl ?_
      refine da_cons ?_
      refine de_callTy cd_tuple rfl m_tuple bt_tuple ?_
      refine da_cons ?_
      refine de_sl01 ?_
      refine de_var 3 rfl (.inl rfl) rfl ?_
      refine de_int ?_
      refine ⟨_, rfl, ?_⟩
      refine cut_l ?_
      rw [cut_four]
      refine da_nil ?_
      refine ⟨_, rfl, ?_⟩
      refine da_cons ?_
      refine de_ix ?_
      refine de_var 3 rfl (.inl rfl) rfl ?_
      refine de_int ?_
      (first | refine ixT 4 rfl ?_ | refine ixL 4 rfl ?_ | refine ixO 4 rfl rfl ?_ | walk_at "ix")
      refine da_cons ?_
      refine de_ix ?_
      refine de_var 3 rfl (.inl rfl) rfl ?_
      refine de_int ?_
      (first | refine ixT 5 rfl ?_ | refine ixL 5 rfl ?_ | refine ixO 5 rfl rfl ?_ | walk_at "ix")
      refine da_nil ?_
      refine ⟨h, w, _, _, _, _, _, _, _, rfl, hh, hw, dr2, ok2, ?_⟩
      refine dss_nil ?_
      refine dss_nil ?_
      show ∃ (x1 x2 x3 x4 x5 x6 : Option D), _
      rw [he]
      exact ⟨_, _, _, _, _, _, rfl, rfl⟩
  · rintro δ' m' ⟨x1, x2, x3, x4, x5, x6, rfl, rfl⟩
    rw [List.length_map, List.take_length]
    refine dss_cons (ds_ret ?_)
    refine de_callTy cd_list rfl m_list bt_list ?_
    refine da_cons ?_
    refine de_var 0 rfl (.inl rfl) rfl ?_
    refine da_nil ?_
    refine list_l rfl ?_
    exact hq
end
end K27

namespace K27
open PySem PySem.Spec PyProof.Rows L2 G
local macro_rules | `(tactic| walk_at "op") => `(tactic| first | with_reducible refine add_ii ?_ | with_reducible refine sub_ii ?_ | with_reducible refine cmp_ii ?_ | with_reducible refine is_n ?_ | with_reducible refine isnt_n ?_ | with_reducible refine max_ii ?_ | with_reducible refine min_ii ?_ | with_reducible refine int_i ?_ | with_reducible refine int_b ?_ | refine len_l ?_ | refine len_t ?_ | refine isi rfl (by walk_at "kit") ?_)
local macro_rules | `(tactic| walk_at "kit") => `(tactic| first | exact kit_NoneType_bool | exact kit_NoneType_int | exact kit_NoneType_str | exact kit_NoneType_list | exact kit_NoneType_tuple | exact kit_NoneType_dict | exact kit_bool_bool | exact kit_bool_int | exact kit_bool_str | exact kit_bool_list | exact kit_bool_tuple | exact kit_bool_dict | exact kit_int_bool | exact kit_int_int | exact kit_int_str | exact kit_int_list | exact kit_int_tuple | exact kit_int_dict | exact kit_str_bool | exact kit_str_int | exact kit_str_str | exact kit_str_list | exact kit_str_tuple | exact kit_str_dict | exact kit_tuple_bool | exact kit_tuple_int | exact kit_tuple_str | exact kit_tuple_list | exact kit_tuple_tuple | exact kit_tuple_dict | exact kit_list_bool | exact kit_list_int | exact kit_list_str | exact kit_list_list | exact kit_list_tuple | exact kit_list_dict | exact kit_dict_bool | exact kit_dict_int | exact kit_dict_str | exact kit_dict_list | exact kit_dict_tuple | exact kit_dict_dict | exact kit2_NoneType_int_str | exact kit2_bool_int_str | exact kit2_int_int_str | exact kit2_str_int_str | exact kit2_tuple_int_str | exact kit2_list_int_str | exact kit2_dict_int_str)
local macro_rules | `(tactic| walk_at "side") => `(tactic| first | omega | (have hz := sizeLine_eq; omega))
section
variable {P : Program} {w : World} {K : PySem.W.Frag} {mg : Str → Option Value} {base : Heap}

abbrev s__law_step_on : Stmt := topS 9
theorem sc__law_step_on : FnScope ["_law_rows", "_law_one_here", "_law_v", "_law_u", "_law_text", "_law_line", "_law_top", "_law_left", "_law_tall", "_law_room", "_law_down", "_law_across", "_law_found", "_law_good", "_law_y", "_law_x"] ["_law_rows", "_law_one_here"] (defScope s__law_step_on) := ⟨rfl, rfl, rfl, by decide +kernel, rfl, by decide +kernel, by decide +kernel⟩
set_option maxHeartbeats 4000000 in
theorem kn__law_step_on {f : Addr} {fd : FuncData} (Fn : FnP K "_law_step_on" s__law_step_on f fd) (g : mg "_law_step_on" = some (.ref f)) (m_len : mg "len" = none) (m_range : mg "range" = none)  : Kn P w K mg base "_law_step_on" 1 (FStepOn) := by
  have b : Binds K fd ["_law_rows", "_law_one_here"] [] := FunD.bindsN Fn fun _ _ _ _ _ _ us hl => match us, hl with | [_, _], _ => rfl
  refine ⟨f, fd, ["_law_rows", "_law_one_here"], ?_, g, Fn.kp, b⟩
  refine def_ok (N := ["_law_rows", "_law_one_here", "_law_v", "_law_u", "_law_text", "_law_line", "_law_top", "_law_left", "_law_tall", "_law_room", "_law_down", "_law_across", "_law_found", "_law_good", "_law_y", "_law_x"]) Fn sc__law_step_on FStepOn.len ?_
  rintro ds m Q E ⟨h, w, rows, s, rfl, hh, hw, dr, ok, hq⟩
  rw [Stp.D_eq]
  refine dss_cons (ds_if ?_)
  refine dt_cmp od_eqF ?_
  refine de_ix ?_
  refine de_var 1 rfl (.inl rfl) rfl ?_
  refine de_int ?_
  (first | refine ixT 0 rfl ?_ | refine ixL 0 rfl ?_ | refine ixO 0 rfl rfl ?_ | walk_at "ix")
  refine de_str ?_
  (first | refine eq_ss ?_ | refine eq_ii ?_)
  refine tb ?_
  refine br.any (fun h124 => ?_) (fun h124 => ?_)
  · (try simp only [decide_eq_true_eq, decide_eq_false_iff_not, Bool.and_eq_true, Bool.or_eq_true, Bool.not_eq_true', Bool.and_eq_false_iff, Bool.or_eq_false_iff, Bool.not_eq_false', Bool.not_eq_true, Bool.not_eq_false, Int.not_lt, Int.not_le] at h124)
    obtain ⟨v, u, t, rfl⟩ := is_put h124
    rw [show stepR w rows (.put v u t) = putR rows v u t from rfl] at hq
    obtain ⟨h0, h1, h2, h3, h4⟩ := id ok
    obtain ⟨z, hz1, -, hl, ho⟩ := dr.row (v := v.toNat) (by omega)
    have hg : rows.getD v.toNat "" = z := by
      rw [List.getD_eq_getElem?_getD, hz1]
      rfl
    have c1 := cutS_len z none (some u)
    have c2 := cutS_len z (some (u + t.length)) none
    have c3 := cutL_le (rows.map D.str) none (some v)
    have c4 := cutL_le (rows.map D.str) (some (v + 1)) none
    rw [List.length_map] at c3 c4
    have hrl := dr.1
    refine dss_cons (ds_asg ?_)
    refine de_sl10 ?_
    refine de_var 1 rfl (.inl rfl) rfl ?_
    refine de_int ?_
    refine ⟨_, rfl, ?_⟩
    refine cut_t ?_
    rw [cut_tail]
    first | rw [show (Stp.put _ _ _).rest = [.int _, .int _, .str _] from rfl] | rw [show (Stp.shift _ _ _ _ _ _).rest = [.int _, .int _, .int _, .int _, .int _, .int _] from rfl]
    refine dg_tup rfl ?_
    refine dgs_cons ?_
    refine dg_name 2 rfl (.inl rfl) ?_
    refine dgs_cons ?_
    refine dg_name 3 rfl (.inl rfl) ?_
    refine dgs_cons ?_
    refine dg_name 4 rfl (.inl rfl) ?_
    refine dgs_nil ?_
    refine dss_cons (ds_set 5 rfl (.inl rfl) ?_)
    refine de_bin od_add ?_
    refine de_bin od_add ?_
    refine de_sl01 ?_
    refine de_ix ?_
    refine de_var 0 rfl (.inl rfl) rfl ?_
    refine de_var 2 rfl (.inl rfl) rfl ?_
    first | refine ixLi (d := .str z) h0 (d_at hz1) ?_ | refine ixLi (d := .str z) (by omega) (d_at (by rw [Int.toNat_natCast]; exact hzv)) ?_
    refine de_var 3 rfl (.inl rfl) rfl ?_
    refine ⟨_, rfl, ?_⟩
    refine cut_s (by have hz := sizeLine_eq; omega) ?_
    refine de_var 4 rfl (.inl rfl) rfl ?_
    refine add_ss (by have hz := sizeLine_eq; omega) ?_
    refine de_sl10 ?_
    refine de_ix ?_
    refine de_var 0 rfl (.inl rfl) rfl ?_
    refine de_var 2 rfl (.inl rfl) rfl ?_
    first | refine ixLi (d := .str z) h0 (d_at hz1) ?_ | refine ixLi (d := .str z) (by omega) (d_at (by rw [Int.toNat_natCast]; exact hzv)) ?_
    refine de_bin od_add ?_
    refine de_var 3 rfl (.inl rfl) rfl ?_
    refine de_callB cd_len rfl m_len bt_len ?_
    refine da_cons ?_
    refine de_var 4 rfl (.inl rfl) rfl ?_
    refine da_nil ?_
    refine len_s (by have hz := sizeLine_eq; omega) ?_
    walk_at "op"
    refine ⟨_, rfl, ?_⟩
    refine cut_s (by have hz := sizeLine_eq; omega) ?_
    refine add_ss (by have hz := sizeLine_eq; rw [app_len]; omega) ?_
    refine dss_cons (ds_ret ?_)
    refine de_bin od_add ?_
    refine de_bin od_add ?_
    refine de_sl01 ?_
    refine de_var 0 rfl (.inl rfl) rfl ?_
    refine de_var 2 rfl (.inl rfl) rfl ?_
    refine ⟨_, rfl, ?_⟩
    refine cut_l ?_
    refine de_lst ?_
    refine da_cons ?_
    refine de_var 5 rfl (.inl rfl) rfl ?_
    refine da_nil ?_
    refine ⟨sz_lit rfl, ?_⟩
    refine add_ll (by have hz := sizeLine_eq; simp only [List.length_cons, List.length_nil]; omega) ?_
    refine de_sl10 ?_
    refine de_var 0 rfl (.inl rfl) rfl ?_
    refine de_bin od_add ?_
    refine de_var 2 rfl (.inl rfl) rfl ?_
    refine de_int ?_
    walk_at "op"
    refine ⟨_, rfl, ?_⟩
    refine cut_l ?_
    refine add_ll (by have hz := sizeLine_eq; simp only [List.length_append, List.length_cons, List.length_nil]; omega) ?_
    unfold putR putLine at hq
    rw [hg, List.map_append, List.map_append, ← cutL_map, ← cutL_map] at hq
    exact hq
  · (try simp only [decide_eq_true_eq, decide_eq_false_iff_not, Bool.and_eq_true, Bool.or_eq_true, Bool.not_eq_true', Bool.and_eq_false_iff, Bool.or_eq_false_iff, Bool.not_eq_false', Bool.not_eq_true, Bool.not_eq_false, Int.not_lt, Int.not_le] at h124)
    obtain ⟨a, b, p, n, d, c, rfl⟩ := is_shift h124
    rw [show stepR w rows (.shift a b p n d c) = shiftR rows a b p n d c w from rfl] at hq
    obtain ⟨⟨k1, k2, k3⟩, ⟨k4, k5, k6⟩, k7⟩ := id ok
    have hrl := dr.1
    refine dss_nil ?_
    refine dss_cons (ds_asg ?_)
    refine de_sl10 ?_
    refine de_var 1 rfl (.inl rfl) rfl ?_
    refine de_int ?_
    refine ⟨_, rfl, ?_⟩
    refine cut_t ?_
    rw [cut_tail]
    first | rw [show (Stp.put _ _ _).rest = [.int _, .int _, .str _] from rfl] | rw [show (Stp.shift _ _ _ _ _ _).rest = [.int _, .int _, .int _, .int _, .int _, .int _] from rfl]
    refine dg_tup rfl ?_
    refine dgs_cons ?_
    refine dg_name 6 rfl (.inl rfl) ?_
    refine dgs_cons ?_
    refine dg_name 7 rfl (.inl rfl) ?_
    refine dgs_cons ?_
    refine dg_name 8 rfl (.inl rfl) ?_
    refine dgs_cons ?_
    refine dg_name 9 rfl (.inl rfl) ?_
    refine dgs_cons ?_
    refine dg_name 10 rfl (.inl rfl) ?_
    refine dgs_cons ?_
    refine dg_name 11 rfl (.inl rfl) ?_
    refine dgs_nil ?_
    refine dss_cons (ds_set 12 rfl (.inl rfl) ?_)
    refine de_lstM ?_
    refine da_nil ?_
    refine ⟨sz_lit rfl, ?_⟩
    intro f hf
    refine dss_cons (ds_for ?_)
    refine di_rng1 rfl m_range ?_
    refine de_callB cd_len rfl m_len bt_len ?_
    refine da_cons ?_
    refine de_var 0 rfl (.inl rfl) rfl ?_
    refine da_nil ?_
    (refine len_l ?_; intro _)
    rw [List.length_map]
    refine ⟨_, rfl, ?_, ?_, ?_⟩
    · walk_at "side"
    · walk_at "side"
    refine ⟨fun i δ' m' => ∃ x2 x3 x4 x5 x13 x14 x15, δ' = [some (.lst (rows.map D.str)), some (.tup (.str (Stp.shift a b p n d c).word :: (Stp.shift a b p n d c).rest)), x2, x3, x4, x5, some (.int a), some (.int b), some (.int p), some (.int n), some (.int d), some (.int c), some (.ref f), x13, x14, x15] ∧ m' = sput m f (.lst (((List.range i).map fun v => shLine rows a b p n d c (v : Nat) w).map D.str)), ?_, ?_, ?_⟩
    · exact ⟨_, _, _, _, _, _, _, rfl, rfl⟩
    · rintro i dd δ' m' hi' ⟨x2, x3, x4, x5, x13, x14, x15, rfl, rfl⟩
      obtain ⟨hit, rfl⟩ := rngD_get hi'
      rw [Int.zero_add]
      obtain ⟨z, hzv, -, hzl, hzo⟩ := dr.row (v := i) (by omega)
      refine dg_name 2 rfl (.inl rfl) ?_
      refine dss_cons (ds_set 5 rfl (.inl rfl) ?_)
      refine de_str ?_
      refine dss_cons (ds_for ?_)
      refine di_rng1 rfl m_range ?_
      refine de_callB cd_len rfl m_len bt_len ?_
      refine da_cons ?_
      refine de_ix ?_
      refine de_var 0 rfl (.inl rfl) rfl ?_
      refine de_var 2 rfl (.inl rfl) rfl ?_
      first | refine ixLi (d := .str z) h0 (d_at hz1) ?_ | refine ixLi (d := .str z) (by omega) (d_at (by rw [Int.toNat_natCast]; exact hzv)) ?_
      refine da_nil ?_
      refine len_s (by have hz := sizeLine_eq; omega) ?_
      rw [hzl]
      refine ⟨_, rfl, ?_, ?_, ?_⟩
      · walk_at "side"
      · walk_at "side"
      refine ⟨fun j δ' m' => ∃ x3 x4 x13 x14 x15, δ' = [some (.lst (rows.map D.str)), some (.tup (.str (Stp.shift a b p n d c).word :: (Stp.shift a b p n d c).rest)), some (.int (i : Nat)), x3, x4, some (.str (mkS ((List.range j).map fun u => shS rows a b p n d c (i : Nat) (u : Nat)))), some (.int a), some (.int b), some (.int p), some (.int n), some (.int d), some (.int c), some (.ref f), x13, x14, x15] ∧ m' = sput m f (.lst (((List.range i).map fun v => shLine rows a b p n d c (v : Nat) w).map D.str)), ?_, ?_, ?_⟩
      · exact ⟨_, _, _, _, _, rfl, rfl⟩
      · rintro j dd δ' m' hj' ⟨x3, x4, x13, x14, x15, rfl, rfl⟩
        obtain ⟨hjt, rfl⟩ := rngD_get hj'
        rw [Int.zero_add]
        refine dg_name 3 rfl (.inl rfl) ?_
        refine dss_cons (ds_set 13 rfl (.inl rfl) ?_)
        refine de_pe (pe_and2 (k0 := ?k127) (k1 := ?k128) (fun W Q q => ?a129) (fun h131 W Q q => ?a130)) ?b126
        case a129 =>
          refine de_chainI (l := ?l132) od_le od_lt ?c135
          case c135 =>
            refine de_var 6 rfl (.inl rfl) rfl ?_
            refine de_var 2 rfl (.inl rfl) rfl ?_
            refine ⟨_, _, rfl, rfl, fun W Q q => ?a133, ?b134⟩
            case a133 =>
              refine de_bin od_add ?_
              refine de_var 6 rfl (.inl rfl) rfl ?_
              refine de_var 8 rfl (.inl rfl) rfl ?_
              walk_at "op"
              exact q
            case b134 =>
              exact q
        case a130 =>
          (try simp only [decide_eq_true_eq, decide_eq_false_iff_not, Bool.and_eq_true, Bool.or_eq_true, Bool.not_eq_true', Bool.and_eq_false_iff, Bool.or_eq_false_iff, Bool.not_eq_false', Bool.not_eq_true, Bool.not_eq_false, Int.not_lt, Int.not_le] at h131)
          refine de_chainI (l := ?l136) od_le od_lt ?c139
          case c139 =>
            refine de_var 7 rfl (.inl rfl) rfl ?_
            refine de_var 3 rfl (.inl rfl) rfl ?_
            refine ⟨_, _, rfl, rfl, fun W Q q => ?a137, ?b138⟩
            case a137 =>
              refine de_bin od_add ?_
              refine de_var 7 rfl (.inl rfl) rfl ?_
              refine de_var 9 rfl (.inl rfl) rfl ?_
              walk_at "op"
              exact q
            case b138 =>
              exact q
        case b126 =>
          refine dss_cons (ds_set 13 rfl (.inl rfl) ?_)
          refine de_pe (pe_and3 (k0 := ?k142) (k1 := ?k143) (k2 := ?k144) (fun W Q q => ?a145) (fun h148 W Q q => ?a146) (fun h148 h149 W Q q => ?a147)) ?b141
          case a145 =>
            refine de_var 13 rfl (.inl rfl) rfl ?_
            exact q
          case a146 =>
            (try simp only [decide_eq_true_eq, decide_eq_false_iff_not, Bool.and_eq_true, Bool.or_eq_true, Bool.not_eq_true', Bool.and_eq_false_iff, Bool.or_eq_false_iff, Bool.not_eq_false', Bool.not_eq_true, Bool.not_eq_false, Int.not_lt, Int.not_le] at h148)
            refine de_chainI (l := ?l150) od_le od_lt ?c153
            case c153 =>
              refine de_var 6 rfl (.inl rfl) rfl ?_
              refine de_bin od_add ?_
              refine de_var 2 rfl (.inl rfl) rfl ?_
              refine de_var 10 rfl (.inl rfl) rfl ?_
              walk_at "op"
              refine ⟨_, _, rfl, rfl, fun W Q q => ?a151, ?b152⟩
              case a151 =>
                refine de_bin od_add ?_
                refine de_var 6 rfl (.inl rfl) rfl ?_
                refine de_var 8 rfl (.inl rfl) rfl ?_
                walk_at "op"
                exact q
              case b152 =>
                exact q
          case a147 =>
            (try simp only [decide_eq_true_eq, decide_eq_false_iff_not, Bool.and_eq_true, Bool.or_eq_true, Bool.not_eq_true', Bool.and_eq_false_iff, Bool.or_eq_false_iff, Bool.not_eq_false', Bool.not_eq_true, Bool.not_eq_false, Int.not_lt, Int.not_le] at h148)
            (try simp only [decide_eq_true_eq, decide_eq_false_iff_not, Bool.and_eq_true, Bool.or_eq_true, Bool.not_eq_true', Bool.and_eq_false_iff, Bool.or_eq_false_iff, Bool.not_eq_false', Bool.not_eq_true, Bool.not_eq_false, Int.not_lt, Int.not_le] at h149)
            refine de_chainI (l := ?l154) od_le od_lt ?c157
            case c157 =>
              refine de_var 7 rfl (.inl rfl) rfl ?_
              refine de_bin od_add ?_
              refine de_var 3 rfl (.inl rfl) rfl ?_
              refine de_var 11 rfl (.inl rfl) rfl ?_
              walk_at "op"
              refine ⟨_, _, rfl, rfl, fun W Q q => ?a155, ?b156⟩
              case a155 =>
                refine de_bin od_add ?_
                refine de_var 7 rfl (.inl rfl) rfl ?_
                refine de_var 9 rfl (.inl rfl) rfl ?_
                walk_at "op"
                exact q
              case b156 =>
                exact q
          case b141 =>
            refine dss_cons (ds_asg ?_)
            refine de_if ?_
            refine dt_val ?_
            refine de_var 13 rfl (.inl rfl) rfl ?_
            refine tb ?_
            refine br.any (fun h158 => ?_) (fun h158 => ?_)
            · (try simp only [decide_eq_true_eq, decide_eq_false_iff_not, Bool.and_eq_true, Bool.or_eq_true, Bool.not_eq_true', Bool.and_eq_false_iff, Bool.or_eq_false_iff, Bool.not_eq_false', Bool.not_eq_true, Bool.not_eq_false, Int.not_lt, Int.not_le] at h158)
              have hg : goodS a b p n d c (i : Nat) (j : Nat) = true := good_of (by omega)
              have hg2 := good_in hg
              obtain ⟨z1, hz1, hzl1, hs1, hsb⟩ := dr.sg (v := ((i : Nat) : Int) + d) (u := ((j : Nat) : Int) + c) (by omega) (by omega) (by omega) (by omega)
              have hch : shS rows a b p n d c (i : Nat) (j : Nat) = sgn rows (((i : Nat) : Int) + d) (((j : Nat) : Int) + c) := if_pos hg
              refine de_tup ?_
              refine da_cons ?_
              refine de_bin od_add ?_
              refine de_var 2 rfl (.inl rfl) rfl ?_
              refine de_var 10 rfl (.inl rfl) rfl ?_
              walk_at "op"
              refine da_cons ?_
              refine de_bin od_add ?_
              refine de_var 3 rfl (.inl rfl) rfl ?_
              refine de_var 11 rfl (.inl rfl) rfl ?_
              walk_at "op"
              refine da_nil ?_
              refine ⟨sz_lit rfl, ?_⟩
              refine dg_tup rfl ?_
              refine dgs_cons ?_
              refine dg_name 14 rfl (.inl rfl) ?_
              refine dgs_cons ?_
              refine dg_name 15 rfl (.inl rfl) ?_
              refine dgs_nil ?_
              refine dss_cons (ds_set 5 rfl (.inl rfl) ?_)
              refine de_bin od_add ?_
              refine de_var 5 rfl (.inl rfl) rfl ?_
              refine de_ix ?_
              refine de_ix ?_
              refine de_var 0 rfl (.inl rfl) rfl ?_
              refine de_var 14 rfl (.inl rfl) rfl ?_
              refine ixLi (d := .str z1) (by omega) (d_at hz1) ?_
              refine de_var 15 rfl (.inl rfl) rfl ?_
              refine ix_at (by omega) hs1 (by omega) ?_
              refine add_ss (by have hz := sizeLine_eq; rw [mk_len, sg1_len, List.length_map, List.length_range]; omega) ?_
              rw [mk_snoc]
              refine dss_nil ?_
              show ∃ (x3 x4 x13 x14 x15 : Option D), _
              rw [← hch, List.range_succ (n := j), List.map_append]
              exact ⟨_, _, _, _, _, rfl, rfl⟩
            · (try simp only [decide_eq_true_eq, decide_eq_false_iff_not, Bool.and_eq_true, Bool.or_eq_true, Bool.not_eq_true', Bool.and_eq_false_iff, Bool.or_eq_false_iff, Bool.not_eq_false', Bool.not_eq_true, Bool.not_eq_false, Int.not_lt, Int.not_le] at h158)
              have hg : ¬ goodS a b p n d c (i : Nat) (j : Nat) = true := fun g => by
                have := good_in g
                omega
              obtain ⟨z1, hz1, hzl1, hs1, hsb⟩ := dr.sg (v := ((i : Nat) : Int)) (u := ((j : Nat) : Int)) (by omega) (by omega) (by omega) (by omega)
              have hch : shS rows a b p n d c (i : Nat) (j : Nat) = sgn rows ((i : Nat) : Int) ((j : Nat) : Int) := if_neg hg
              refine de_tup ?_
              refine da_cons ?_
              refine de_var 2 rfl (.inl rfl) rfl ?_
              refine da_cons ?_
              refine de_var 3 rfl (.inl rfl) rfl ?_
              refine da_nil ?_
              refine ⟨sz_lit rfl, ?_⟩
              refine dg_tup rfl ?_
              refine dgs_cons ?_
              refine dg_name 14 rfl (.inl rfl) ?_
              refine dgs_cons ?_
              refine dg_name 15 rfl (.inl rfl) ?_
              refine dgs_nil ?_
              refine dss_cons (ds_set 5 rfl (.inl rfl) ?_)
              refine de_bin od_add ?_
              refine de_var 5 rfl (.inl rfl) rfl ?_
              refine de_ix ?_
              refine de_ix ?_
              refine de_var 0 rfl (.inl rfl) rfl ?_
              refine de_var 14 rfl (.inl rfl) rfl ?_
              refine ixLi (d := .str z1) (by omega) (d_at hz1) ?_
              refine de_var 15 rfl (.inl rfl) rfl ?_
              refine ix_at (by omega) hs1 (by omega) ?_
              refine add_ss (by have hz := sizeLine_eq; rw [mk_len, sg1_len, List.length_map, List.length_range]; omega) ?_
              rw [mk_snoc]
              refine dss_nil ?_
              show ∃ (x3 x4 x13 x14 x15 : Option D), _
              rw [← hch, List.range_succ (n := j), List.map_append]
              exact ⟨_, _, _, _, _, rfl, rfl⟩
      · rintro δ' m' ⟨x3, x4, x13, x14, x15, rfl, rfl⟩
        rw [rngD_len, show ((w : Int)).toNat = w from by omega]
        refine dss_cons (ds_expr ?_)
        refine de_bm md_append PySem.F.plainAttrs_list PySem.F.slot_list_append PySem.F.type_list_append ?_
        refine de_var 12 rfl (.inl rfl) rfl ?_
        refine ⟨⟨rfl, _, by first | exact sput_same | assumption | exact (sput_ne (by assumption)).trans sput_same⟩, ?_⟩
        refine da_cons ?_
        refine de_var 5 rfl (.inl rfl) rfl ?_
        refine da_nil ?_
        refine ⟨_, _, _, rfl, rfl, sput_same, (by have hz := sizeLine_eq; rw [List.length_map, List.length_map, List.length_range]; omega), ?_⟩
        rw [sput_sput]
        refine dss_nil ?_
        refine ⟨_, _, _, _, _, _, _, rfl, ?_⟩
        rw [List.range_succ, List.map_append, List.map_append]
        rfl
    · rintro δ' m' ⟨x2, x3, x4, x5, x13, x14, x15, rfl, rfl⟩
      rw [rngD_len, show ((rows.length : Int)).toNat = rows.length from by omega]
      refine dss_cons (ds_ret ?_)
      refine de_freeze ?_
      refine de_var 12 rfl (.inl rfl) rfl ?_
      refine ⟨_, _, rfl, sput_same, ?_⟩
      rw [sdel_new hf]
      exact hq

abbrev s__law_steps_on : Stmt := topS 10
theorem sc__law_steps_on : FnScope ["_law_rows", "_law_some", "_law_found", "_law_one_here"] ["_law_rows", "_law_some"] (defScope s__law_steps_on) := ⟨rfl, rfl, rfl, by decide +kernel, rfl, by decide +kernel, by decide +kernel⟩
set_option maxHeartbeats 4000000 in
theorem kn__law_steps_on {f : Addr} {fd : FuncData} (Fn : FnP K "_law_steps_on" s__law_steps_on f fd) (g : mg "_law_steps_on" = some (.ref f)) (m_list : mg "list" = none) (kn__law_step_on : Kn P w K mg base "_law_step_on" 1 (FStepOn)) : Kn P w K mg base "_law_steps_on" 2 (FStepsOn) := by
  have b : Binds K fd ["_law_rows", "_law_some"] [] := FunD.bindsN Fn fun _ _ _ _ _ _ us hl => match us, hl with | [_, _], _ => rfl
  refine ⟨f, fd, ["_law_rows", "_law_some"], ?_, g, Fn.kp, b⟩
  refine def_ok (N := ["_law_rows", "_law_some", "_law_found", "_law_one_here"]) Fn sc__law_steps_on FStepsOn.len ?_
  rintro ds m Q E ⟨h, w, rows, l, rfl, hh, hw, dr, ok, hq⟩
  refine dss_cons (ds_set 2 rfl (.inl rfl) ?_)
  refine de_callTy cd_list rfl m_list bt_list ?_
  refine da_cons ?_
  refine de_var 0 rfl (.inl rfl) rfl ?_
  refine da_nil ?_
  refine list_l rfl ?_
  refine dss_cons (ds_for ?_)
  refine di_lst ?_
  refine de_var 1 rfl (.inl rfl) rfl ?_
  refine ⟨_, rfl, ?_⟩
  refine ⟨fun i δ' m' => ∃ x3, δ' = [some (.lst (rows.map D.str)), some (.lst (l.map Stp.D)), some (.lst (((l.take i).foldl (stepR w) rows).map D.str)), x3] ∧ m' = m, ?_, ?_, ?_⟩
  · exact ⟨_, rfl, rfl⟩
  · rintro i dd δ' m' hi' ⟨x3, rfl, rfl⟩
    rw [List.getElem?_map] at hi'
    obtain ⟨s, hs, rfl⟩ := Option.map_eq_some_iff.mp hi'
    have ok2 := ok s (List.mem_of_getElem? hs)
    have dr2 := steps_draw (l.take i) dr fun z hz => ok z (List.mem_of_mem_take hz)
    have he := steps_succ (w := w) (rows := rows) hs
    refine dg_name 3 rfl (.inl rfl) ?_
    refine dss_cons (ds_set 2 rfl (.inl rfl) ?_)
    refine de_call kn__law_step_on rfl rfl ?_
    refine da_cons ?_
    refine de_var 2 rfl (.inl rfl) rfl ?_
    refine da_cons ?_
    refine de_var 3 rfl (.inl rfl) rfl ?_
    refine da_nil ?_
    refine ⟨h, w, _, _, rfl, hh, hw, dr2, ok2, ?_⟩
    refine dss_nil ?_
    show ∃ (x3 : Option D), _
    rw [he]
    exact ⟨_, rfl, rfl⟩
  · rintro δ' m' ⟨x3, rfl, rfl⟩
    rw [List.length_map, List.take_length]
    refine dss_cons (ds_ret ?_)
    refine de_var 2 rfl (.inl rfl) rfl ?_
    exact hq
end
end K27

namespace K27
open PySem PySem.Spec PyProof.Rows L2 G
local macro_rules | `(tactic| walk_at "op") => `(tactic| first | with_reducible refine add_ii ?_ | with_reducible refine sub_ii ?_ | with_reducible refine cmp_ii ?_ | with_reducible refine is_n ?_ | with_reducible refine isnt_n ?_ | with_reducible refine max_ii ?_ | with_reducible refine min_ii ?_ | with_reducible refine int_i ?_ | with_reducible refine int_b ?_ | refine len_l ?_ | refine len_t ?_ | refine isi rfl (by walk_at "kit") ?_)
local macro_rules | `(tactic| walk_at "kit") => `(tactic| first | exact kit_NoneType_bool | exact kit_NoneType_int | exact kit_NoneType_str | exact kit_NoneType_list | exact kit_NoneType_tuple | exact kit_NoneType_dict | exact kit_bool_bool | exact kit_bool_int | exact kit_bool_str | exact kit_bool_list | exact kit_bool_tuple | exact kit_bool_dict | exact kit_int_bool | exact kit_int_int | exact kit_int_str | exact kit_int_list | exact kit_int_tuple | exact kit_int_dict | exact kit_str_bool | exact kit_str_int | exact kit_str_str | exact kit_str_list | exact kit_str_tuple | exact kit_str_dict | exact kit_tuple_bool | exact kit_tuple_int | exact kit_tuple_str | exact kit_tuple_list | exact kit_tuple_tuple | exact kit_tuple_dict | exact kit_list_bool | exact kit_list_int | exact kit_list_str | exact kit_list_list | exact kit_list_tuple | exact kit_list_dict | exact kit_dict_bool | exact kit_dict_int | exact kit_dict_str | exact kit_dict_list | exact kit_dict_tuple | exact kit_dict_dict | exact kit2_NoneType_int_str | exact kit2_bool_int_str | exact kit2_int_int_str | exact kit2_str_int_str | exact kit2_tuple_int_str | exact kit2_list_int_str | exact kit2_dict_int_str)
local macro_rules | `(tactic| walk_at "side") => `(tactic| first | omega | (have hz := sizeLine_eq; omega))
section
variable {P : Program} {w : World} {K : PySem.W.Frag} {mg : Str → Option Value} {base : Heap}

abbrev s_law : Stmt := topS 11
theorem sc_law : FnScope ["_law_script", "_law_draw", "_law_turn", "_law_tall", "_law_room", "_law_rows", "_law_u", "_law_v", "_law_some", "_law_k", "_law_stretch", "_law_handed"] ["_law_script"] (defScope s_law) := ⟨rfl, rfl, rfl, by decide +kernel, rfl, by decide +kernel, by decide +kernel⟩
set_option maxHeartbeats 4000000 in
theorem ok_law {f : Addr} {fd : FuncData} (Fn : FnP K "law" s_law f fd) (m_range : mg "range" = none) (m_list : mg "list" = none) (m_min : mg "min" = none) (kn__law_begin : Kn P w K mg base "_law_begin" 1 (FBegin)) (kn__law_pick : Kn P w K mg base "_law_pick" 1 (FPick)) (kn__law_one : Kn P w K mg base "_law_one" 2 (FOne)) (kn__law_same : Kn P w K mg base "_law_same" 3 (FSame 2)) (kn_behind_steps : Kn P w K mg base "behind_steps" 2 (FBehind)) (kn__law_steps_on : Kn P w K mg base "_law_steps_on" 2 (FStepsOn)) : FnOk P w K mg base (L2.CX P w) 5 f fd ["_law_script"] (spD K (FLaw)) := by
  refine def_ok (N := ["_law_script", "_law_draw", "_law_turn", "_law_tall", "_law_room", "_law_rows", "_law_u", "_law_v", "_law_some", "_law_k", "_law_stretch", "_law_handed"]) Fn sc_law FLaw.len ?_
  rintro ds m Q E ⟨ns, rfl, hl, hm0, hq⟩
  refine dss_cons (ds_set 1 rfl (.inr rfl) ?_)
  refine de_call kn__law_begin rfl rfl ?_
  refine da_cons ?_
  refine de_var 0 rfl (.inl rfl) rfl ?_
  refine da_nil ?_
  refine use_begin (fun p o hp hd => ?_)
  refine dss_cons (ds_for ?_)
  refine di_rng1 rfl m_range ?_
  refine de_int ?_
  refine ⟨_, rfl, ?_, ?_, ?_⟩
  · walk_at "side"
  · walk_at "side"
  refine ⟨fun _ δ' m' => ∃ x2 x3 x4 x5 x6 x7 x8 x9 x10 x11 o, δ' = [some (.frz (ns.map D.int)), some (.ref p), x2, x3, x4, x5, x6, x7, x8, x9, x10, x11] ∧ m' = sput m p o ∧ IsDraw o, ?_, ?_, ?_⟩
  · exact ⟨_, _, _, _, _, _, _, _, _, _, _, rfl, rfl, by assumption⟩
  · clear hd
    rintro i d δ' m' hi' ⟨x2, x3, x4, x5, x6, x7, x8, x9, x10, x11, o, rfl, rfl, hd⟩
    obtain ⟨hlt, rfl⟩ := rngD_get hi'
    generalize (0 : Int) + (i : Nat) = turn
    refine dg_name 2 rfl (.inl rfl) ?_
    refine dss_cons (ds_asgS ?_ ?_)
    · refine de_tup ?_
      refine da_cons ?_
      refine de_bin od_add ?_
      refine de_int ?_
      refine de_call kn__law_pick rfl rfl ?_
      refine da_cons ?_
      refine de_var 1 rfl (.inr (.inl rfl)) rfl ?_
      refine da_cons ?_
      refine de_int ?_
      refine da_nil ?_
      refine use_pick (by assumption) (by walk_at "side") (by walk_at "side") (fun r0 o0 r0a r0b d0 => ?_)
      walk_at "op"
      refine da_cons ?_
      refine de_bin od_add ?_
      refine de_int ?_
      refine de_call kn__law_pick rfl rfl ?_
      refine da_cons ?_
      refine de_var 1 rfl (.inr (.inl rfl)) rfl ?_
      refine da_cons ?_
      refine de_int ?_
      refine da_nil ?_
      refine use_pick (by assumption) (by walk_at "side") (by walk_at "side") (fun r1 o1 r1a r1b d1 => ?_)
      walk_at "op"
      refine da_nil ?_
      refine ⟨sz_lit rfl, ?_⟩
      refine dg_tup rfl ?_
      refine dgs_cons ?_
      refine dg_name 3 rfl (.inl rfl) ?_
      refine dgs_cons ?_
      refine dg_name 4 rfl (.inr rfl) ?_
      refine dgs_nil ?_
      obtain ⟨T, hT⟩ : ∃ T : Nat, 1 + r0 = (T : Int) := ⟨(1 + r0).toNat, by omega⟩
      obtain ⟨R, hR⟩ : ∃ R : Nat, 1 + r1 = (R : Int) := ⟨(1 + r1).toNat, by omega⟩
      rw [hT, hR]
      have hT2 : 1 ≤ T ∧ T ≤ 7 := by omega
      have hR2 : 1 ≤ R ∧ R ≤ 10 := by omega
      clear hT hR r0a r0b r1a r1b
      refine dss_cons (ds_setLc 5 [("_law_v", 7)] (show blkC ["_law_script", "_law_draw", "_law_turn", "_law_tall", "_law_room", "_law_rows", "_law_u", "_law_v", "_law_some", "_law_k", "_law_stretch", "_law_handed"] (defScope s_law) _ [("_law_v", 7)] = true from by decide +kernel) rfl rfl rfl (by decide +kernel) ?_)
      refine di_rng1 rfl m_range ?_
      refine de_var 3 rfl (.inl rfl) rfl ?_
      refine ⟨_, rfl, ?_, ?_, ?_⟩
      · walk_at "side"
      · walk_at "side"
      refine ⟨fun i acc m' => ∃ (rs : List Str) (o' : O), acc = rs.map D.str ∧ rs.length = i ∧ (∀ z ∈ rs, z.length = R ∧ PyData.strOk z = true) ∧ m' = sput m p o' ∧ IsDraw o', ?_, ?_, ?_⟩
      · exact ⟨[], _, rfl, rfl, (fun y hy => by cases hy), rfl, by assumption⟩
      · rintro i1 dd acc m' hi1 ⟨rs, o', rfl, hrl, hrs, rfl, hd'⟩
        obtain ⟨hit, rfl⟩ := rngD_get hi1
        refine dgv_name 7 (by decide) rfl (.inl rfl) ?_
        refine dts_nil ?_
        refine br.t ?_
        refine de_bm md_join PySem.F.plainAttrs_str PySem.F.slot_str_join PySem.F.type_str_join ?_
        refine de_str ?_
        refine ⟨rfl, ?_⟩
        refine da_cons ?_
        refine de_lc [("_law_u", 6)] (show blkC ["_law_script", "_law_draw", "_law_turn", "_law_tall", "_law_room", "_law_rows", "_law_u", "_law_v", "_law_some", "_law_k", "_law_stretch", "_law_handed"] (relS _ (defScope s_law)) _ [("_law_u", 6)] = true from by decide +kernel) ?_
        refine di_rng1 rfl m_range ?_
        refine de_var 4 rfl (by first | exact .inl rfl | exact .inr (.inl rfl) | exact .inr (.inr rfl)) rfl ?_
        refine ⟨_, rfl, ?_, ?_, ?_⟩
        · walk_at "side"
        · walk_at "side"
        refine ⟨fun j acc m' => ∃ (ys : List Str) (o' : O), acc = ys.map D.str ∧ ys.length = j ∧ (∀ y ∈ ys, y.length = 1 ∧ PyData.strOk y = true) ∧ m' = sput m p o' ∧ IsDraw o', ?_, ?_, ?_⟩
        · exact ⟨[], _, rfl, rfl, (fun y hy => by cases hy), rfl, by assumption⟩
        · rintro j1 dd acc m' hj1 ⟨ys, o8, rfl, hyl, hys, rfl, hd8⟩
          obtain ⟨hjt, rfl⟩ := rngD_get hj1
          refine dgv_name 6 (by decide) rfl (.inl rfl) ?_
          refine dts_nil ?_
          refine br.t ?_
          refine de_call kn__law_one rfl rfl ?_
          refine da_cons ?_
          refine de_var 1 rfl (by first | exact .inl rfl | exact .inr (.inl rfl) | exact .inr (.inr rfl)) rfl ?_
          refine da_cons ?_
          refine de_str ?_
          refine da_nil ?_
          refine use_one (by assumption) (by decide) (by decide) (by decide +kernel) (fun c o5 hc5 hd5 => ?_)
          refine ⟨?_, ys ++ [⟨#[c]⟩], _, by rw [List.map_append]; rfl, by rw [List.length_append, hyl]; rfl, ?_, rfl, by assumption⟩
          · rw [List.length_map]
            have hz := sizeLine_eq
            omega
          · intro y hy
            rcases List.mem_append.mp hy with hy | hy
            · exact hys y hy
            · rw [List.mem_singleton.mp hy]
              exact ⟨rfl, hc5⟩
        · rintro acc m' ⟨ys, o8, rfl, hyl, hys, rfl, hd8⟩
          rw [rngD_len] at hyl
          refine da_nil ?_
          refine ⟨_, ys, rfl, rfl, by rw [join_room hys]; omega, ?_⟩
          obtain ⟨j1, j2⟩ := join_signs hys
          refine ⟨?_, rs ++ [Txt.join "" ys], _, by rw [List.map_append]; rfl, by rw [List.length_append, hrl]; rfl, ?_, rfl, by assumption⟩
          · rw [List.length_map]
            have hz := sizeLine_eq
            omega
          · intro y hy
            rcases List.mem_append.mp hy with hy | hy
            · exact hrs y hy
            · rw [List.mem_singleton.mp hy]
              exact ⟨by omega, j2⟩
      · rintro acc m' ⟨rs, o', rfl, hrl, hrs, rfl, hd'⟩
        rw [rngD_len] at hrl
        have dr : Draw T R rs := ⟨by omega, hrs⟩
        refine dss_cons (ds_set 8 rfl (.inl rfl) ?_)
        refine de_lstM ?_
        refine da_nil ?_
        refine ⟨sz_lit rfl, ?_⟩
        intro q hq1
        have hqp : q ≠ p := Ne.symm (new_ne hq1)
        have hq0 := new_put hq1
        rw [sput_comm (Ne.symm hqp)]
        refine dss_cons (ds_for ?_)
        refine di_rng1 rfl m_range ?_
        refine de_call kn__law_pick rfl rfl ?_
        refine da_cons ?_
        refine de_var 1 rfl (.inr (.inl rfl)) rfl ?_
        refine da_cons ?_
        refine de_int ?_
        refine da_nil ?_
        refine use_pick (by assumption) (by walk_at "side") (by walk_at "side") (fun r2 o2 r2a r2b d2 => ?_)
        refine ⟨_, rfl, ?_, ?_, ?_⟩
        · walk_at "side"
        · walk_at "side"
        refine ⟨fun j δ' m' => ∃ (l : List Stp) (x6 x7 x9 x10 x11 : Option D) (o : O), δ' = [some (.frz (ns.map D.int)), some (.ref p), some (.int turn), some (.int (T : Nat)), some (.int (R : Nat)), some (.lst (rs.map D.str)), x6, x7, some (.ref q), x9, x10, x11] ∧ (∀ s ∈ l, s.Ok T R) ∧ l.length = j ∧ m' = sput (sput m q (.lst (l.map Stp.D))) p o ∧ IsDraw o, ?_, ?_, ?_⟩
        · exact ⟨[], _, _, _, _, _, _, rfl, (fun s hs => by cases hs), rfl, rfl, by assumption⟩
        · rintro j dd δ' m' hj' ⟨l, x6, x7, x9, x10, x11, o9, rfl, hok, hlj, rfl, hd9⟩
          obtain ⟨hjt, rfl⟩ := rngD_get hj'
          refine dg_name 9 rfl (.inl rfl) ?_
          refine dss_cons (ds_par 7 6 rfl rfl (by decide) rfl rfl ?_ ?_)
          · refine da_cons ?_
            refine de_call kn__law_pick rfl rfl ?_
            refine da_cons ?_
            refine de_var 1 rfl (.inr (.inl rfl)) rfl ?_
            refine da_cons ?_
            refine de_var 3 rfl (.inl rfl) rfl ?_
            refine da_nil ?_
            refine use_pick (by assumption) (by walk_at "side") (by walk_at "side") (fun r3 o3 r3a r3b d3 => ?_)
            refine da_cons ?_
            refine de_call kn__law_pick rfl rfl ?_
            refine da_cons ?_
            refine de_var 1 rfl (.inr (.inl rfl)) rfl ?_
            refine da_cons ?_
            refine de_var 4 rfl (.inr (.inl rfl)) rfl ?_
            refine da_nil ?_
            refine use_pick (by assumption) (by walk_at "side") (by walk_at "side") (fun r4 o4 r4a r4b d4 => ?_)
            refine da_nil ?_
            refine ⟨_, _, rfl, ?_⟩
            refine dss_cons (ds_if ?_)
            refine dt_cmp od_eqF ?_
            refine de_call kn__law_pick rfl rfl ?_
            refine da_cons ?_
            refine de_var 1 rfl (.inr (.inl rfl)) rfl ?_
            refine da_cons ?_
            refine de_int ?_
            refine da_nil ?_
            refine use_pick (by assumption) (by walk_at "side") (by walk_at "side") (fun r5 o5 r5a r5b d5 => ?_)
            refine de_int ?_
            (first | refine eq_ss ?_ | refine eq_ii ?_)
            refine tb ?_
            refine br.any (fun h159 => ?_) (fun h159 => ?_)
            · (try simp only [decide_eq_true_eq, decide_eq_false_iff_not, Bool.and_eq_true, Bool.or_eq_true, Bool.not_eq_true', Bool.and_eq_false_iff, Bool.or_eq_false_iff, Bool.not_eq_false', Bool.not_eq_true, Bool.not_eq_false, Int.not_lt, Int.not_le] at h159)
              refine dss_cons (ds_expr ?_)
              refine de_bm md_append PySem.F.plainAttrs_list PySem.F.slot_list_append PySem.F.type_list_append ?_
              refine de_var 8 rfl (.inl rfl) rfl ?_
              refine ⟨⟨rfl, _, by first | exact sput_same | assumption | exact (sput_ne (by assumption)).trans sput_same⟩, ?_⟩
              refine da_cons ?_
              refine de_tup ?_
              refine da_cons ?_
              refine de_str ?_
              refine da_cons ?_
              refine de_var 7 rfl (.inl rfl) rfl ?_
              refine da_cons ?_
              refine de_var 6 rfl (.inl rfl) rfl ?_
              refine da_cons ?_
              refine de_sl01 ?_
              refine de_str ?_
              refine de_bin od_add ?_
              refine de_int ?_
              refine de_call kn__law_pick rfl rfl ?_
              refine da_cons ?_
              refine de_var 1 rfl (.inr (.inl rfl)) rfl ?_
              refine da_cons ?_
              refine de_callB cd_min rfl m_min bt_min ?_
              refine da_cons ?_
              refine de_int ?_
              refine da_cons ?_
              refine de_bin od_sub ?_
              refine de_var 4 rfl (.inr (.inl rfl)) rfl ?_
              refine de_var 6 rfl (.inl rfl) rfl ?_
              walk_at "op"
              refine da_nil ?_
              walk_at "op"
              refine da_nil ?_
              refine use_pick (by assumption) (by walk_at "side") (by walk_at "side") (fun r6 o6 r6a r6b d6 => ?_)
              walk_at "op"
              refine ⟨_, rfl, ?_⟩
              refine cut_s xyz_size ?_
              refine da_nil ?_
              refine ⟨sz_lit rfl, ?_⟩
              refine da_nil ?_
              refine ⟨_, _, _, rfl, rfl, (sput_ne hqp).trans sput_same, (by have hz := sizeLine_eq; rw [List.length_map]; omega), ?_⟩
              rw [sput_mid (Ne.symm hqp)]
              refine dss_nil ?_
              refine dss_nil ?_
              first
                | exact ⟨l ++ [.put r3 r4 (cutS "xyz" none (some (1 + r6)))], _, _, _, _, _, _, rfl, (fun s hs => by
                    rcases List.mem_append.mp hs with hs | hs
                    · exact hok s hs
                    · rw [List.mem_singleton.mp hs]
                      have hx := xyz_len (r := r6) (by omega) (by omega)
                      exact ⟨by omega, by omega, by omega, by omega, xyz_ok _⟩), by rw [List.length_append, hlj]; rfl, by rw [List.map_append]; rfl, by assumption⟩
                | exact ⟨l ++ [.shift r3 r4 (1 + r7) (1 + r8) (r9 - 3) (r10 - 4)], _, _, _, _, _, _, rfl, (fun s hs => by
                    rcases List.mem_append.mp hs with hs | hs
                    · exact hok s hs
                    · rw [List.mem_singleton.mp hs]
                      exact ⟨by omega, by omega, by omega⟩), by rw [List.length_append, hlj]; rfl, by rw [List.map_append]; rfl, by assumption⟩
            · (try simp only [decide_eq_true_eq, decide_eq_false_iff_not, Bool.and_eq_true, Bool.or_eq_true, Bool.not_eq_true', Bool.and_eq_false_iff, Bool.or_eq_false_iff, Bool.not_eq_false', Bool.not_eq_true, Bool.not_eq_false, Int.not_lt, Int.not_le] at h159)
              refine dss_cons (ds_set 10 rfl (.inl rfl) ?_)
              refine de_tup ?_
              refine da_cons ?_
              refine de_var 7 rfl (.inl rfl) rfl ?_
              refine da_cons ?_
              refine de_var 6 rfl (.inl rfl) rfl ?_
              refine da_cons ?_
              refine de_bin od_add ?_
              refine de_int ?_
              refine de_call kn__law_pick rfl rfl ?_
              refine da_cons ?_
              refine de_var 1 rfl (.inr (.inl rfl)) rfl ?_
              refine da_cons ?_
              refine de_bin od_sub ?_
              refine de_var 3 rfl (.inl rfl) rfl ?_
              refine de_var 7 rfl (.inl rfl) rfl ?_
              walk_at "op"
              refine da_nil ?_
              refine use_pick (by assumption) (by walk_at "side") (by walk_at "side") (fun r7 o7 r7a r7b d7 => ?_)
              walk_at "op"
              refine da_cons ?_
              refine de_bin od_add ?_
              refine de_int ?_
              refine de_call kn__law_pick rfl rfl ?_
              refine da_cons ?_
              refine de_var 1 rfl (.inr (.inl rfl)) rfl ?_
              refine da_cons ?_
              refine de_bin od_sub ?_
              refine de_var 4 rfl (.inr (.inl rfl)) rfl ?_
              refine de_var 6 rfl (.inl rfl) rfl ?_
              walk_at "op"
              refine da_nil ?_
              refine use_pick (by assumption) (by walk_at "side") (by walk_at "side") (fun r8 o8 r8a r8b d8 => ?_)
              walk_at "op"
              refine da_nil ?_
              refine ⟨sz_lit rfl, ?_⟩
              refine dss_cons (ds_expr ?_)
              refine de_bm md_append PySem.F.plainAttrs_list PySem.F.slot_list_append PySem.F.type_list_append ?_
              refine de_var 8 rfl (.inl rfl) rfl ?_
              refine ⟨⟨rfl, _, by first | exact sput_same | assumption | exact (sput_ne (by assumption)).trans sput_same⟩, ?_⟩
              refine da_cons ?_
              refine de_bin od_add ?_
              refine de_bin od_add ?_
              refine de_tup ?_
              refine da_cons ?_
              refine de_str ?_
              refine da_nil ?_
              refine ⟨sz_lit rfl, ?_⟩
              refine de_var 10 rfl (.inl rfl) rfl ?_
              refine add_tt (by have hz := sizeLine_eq; simp only [List.length_cons, List.length_nil]; omega) ?_
              refine de_tup ?_
              refine da_cons ?_
              refine de_bin od_sub ?_
              refine de_call kn__law_pick rfl rfl ?_
              refine da_cons ?_
              refine de_var 1 rfl (.inr (.inl rfl)) rfl ?_
              refine da_cons ?_
              refine de_int ?_
              refine da_nil ?_
              refine use_pick (by assumption) (by walk_at "side") (by walk_at "side") (fun r9 o9 r9a r9b d9 => ?_)
              refine de_int ?_
              walk_at "op"
              refine da_cons ?_
              refine de_bin od_sub ?_
              refine de_call kn__law_pick rfl rfl ?_
              refine da_cons ?_
              refine de_var 1 rfl (.inr (.inl rfl)) rfl ?_
              refine da_cons ?_
              refine de_int ?_
              refine da_nil ?_
              refine use_pick (by assumption) (by walk_at "side") (by walk_at "side") (fun r10 o10 r10a r10b d10 => ?_)
              refine de_int ?_
              walk_at "op"
              refine da_nil ?_
              refine ⟨sz_lit rfl, ?_⟩
              refine add_tt (by have hz := sizeLine_eq; simp only [List.length_append, List.length_cons, List.length_nil]; omega) ?_
              refine da_nil ?_
              refine ⟨_, _, _, rfl, rfl, (sput_ne hqp).trans sput_same, (by have hz := sizeLine_eq; rw [List.length_map]; omega), ?_⟩
              rw [sput_mid (Ne.symm hqp)]
              refine dss_nil ?_
              refine dss_nil ?_
              first
                | exact ⟨l ++ [.put r3 r4 (cutS "xyz" none (some (1 + r6)))], _, _, _, _, _, _, rfl, (fun s hs => by
                    rcases List.mem_append.mp hs with hs | hs
                    · exact hok s hs
                    · rw [List.mem_singleton.mp hs]
                      have hx := xyz_len (r := r6) (by omega) (by omega)
                      exact ⟨by omega, by omega, by omega, by omega, xyz_ok _⟩), by rw [List.length_append, hlj]; rfl, by rw [List.map_append]; rfl, by assumption⟩
                | exact ⟨l ++ [.shift r3 r4 (1 + r7) (1 + r8) (r9 - 3) (r10 - 4)], _, _, _, _, _, _, rfl, (fun s hs => by
                    rcases List.mem_append.mp hs with hs | hs
                    · exact hok s hs
                    · rw [List.mem_singleton.mp hs]
                      exact ⟨by omega, by omega, by omega⟩), by rw [List.length_append, hlj]; rfl, by rw [List.map_append]; rfl, by assumption⟩
          · intro env h
            obtain ⟨_⟩ := env
            cases h
            kernel_rfl
        · rintro δ' m' ⟨l, x6, x7, x9, x10, x11, o9, rfl, hok, hlj, rfl, hd9⟩
          rw [rngD_len] at hlj
          refine dss_frzS 8 rfl ((sput_ne hqp).trans sput_same) ?_
          rw [sdel_mid (Ne.symm hqp) hq0]
          refine dss_cons (ds_set 11 rfl (.inl rfl) ?_)
          refine de_lst ?_
          refine da_cons ?_
          refine de_callTy cd_list rfl m_list bt_list ?_
          refine da_cons ?_
          refine de_var 5 rfl (.inl rfl) rfl ?_
          refine da_nil ?_
          refine list_l rfl ?_
          refine da_cons ?_
          refine de_callTy cd_list rfl m_list bt_list ?_
          refine da_cons ?_
          refine de_var 8 rfl (.inl rfl) rfl ?_
          refine da_nil ?_
          refine list_l rfl ?_
          refine da_nil ?_
          refine ⟨sz_lit rfl, ?_⟩
          refine dss_cons (ds_if ?_)
          refine dt_pt (pt_or2 (k0 := ?k161) (k1 := ?k162) (fun W B q => ?a163) (fun h165 W B q => ?a164)) ?b160
          case a163 =>
            refine dt_not ?_
            refine dt_val ?_
            refine de_call kn__law_same rfl rfl ?_
            refine da_cons ?_
            refine de_call kn_behind_steps rfl rfl ?_
            refine da_cons ?_
            refine de_ix ?_
            refine de_var 11 rfl (.inl rfl) rfl ?_
            refine de_int ?_
            (first | refine ixT 0 rfl ?_ | refine ixL 0 rfl ?_ | refine ixO 0 rfl rfl ?_ | walk_at "ix")
            refine da_cons ?_
            refine de_ix ?_
            refine de_var 11 rfl (.inl rfl) rfl ?_
            refine de_int ?_
            (first | refine ixT 1 rfl ?_ | refine ixL 1 rfl ?_ | refine ixO 1 rfl rfl ?_ | walk_at "ix")
            refine da_nil ?_
            refine ⟨T, R, _, l, rfl, by omega, by omega, dr, hok, ?_⟩
            refine da_cons ?_
            refine de_call kn__law_steps_on rfl rfl ?_
            refine da_cons ?_
            refine de_var 5 rfl (.inl rfl) rfl ?_
            refine da_cons ?_
            refine de_var 8 rfl (.inl rfl) rfl ?_
            refine da_nil ?_
            refine ⟨T, R, _, l, rfl, by omega, by omega, dr, hok, ?_⟩
            refine da_nil ?_
            refine use_same rfl (by simpa [okD] using ok_strs 1 _ (steps_draw l dr hok).ok) ?_
            refine tb ?_
            exact q
          case a164 =>
            (try simp only [decide_eq_true_eq, decide_eq_false_iff_not, Bool.and_eq_true, Bool.or_eq_true, Bool.not_eq_true', Bool.and_eq_false_iff, Bool.or_eq_false_iff, Bool.not_eq_false', Bool.not_eq_true, Bool.not_eq_false, Int.not_lt, Int.not_le] at h165)
            refine dt_cmp od_ne ?_
            refine de_var 11 rfl (.inl rfl) rfl ?_
            refine de_lst ?_
            refine da_cons ?_
            refine de_var 5 rfl (.inl rfl) rfl ?_
            refine da_cons ?_
            refine de_var 8 rfl (.inl rfl) rfl ?_
            refine da_nil ?_
            refine ⟨sz_lit rfl, ?_⟩
            refine ⟨3, by omega, ok_handed dr hok, ok_handed dr hok, ?_⟩
            rw [eqvD_refl (ok_handed dr hok)]
            refine tb ?_
            exact q
          case b160 =>
            refine br.f ?_
            refine dss_nil ?_
            refine dss_nil ?_
            exact ⟨_, _, _, _, _, _, _, _, _, _, _, rfl, rfl, by assumption⟩
    · intro env h
      obtain ⟨_⟩ := env
      cases h
      kernel_rfl
  · rintro δ' m' ⟨x2, x3, x4, x5, x6, x7, x8, x9, x10, x11, o, rfl, rfl, hd⟩
    refine dss_cons (ds_ret ?_)
    refine de_bl ?_
    exact hq _
end
end K27

set_option maxHeartbeats 0
namespace K27
open PySem PySem.Spec PyProof.Rows L2 G
def d_with_text : He.DefD := ⟨("with_text", none), "with_text", "with_text", defArgs s_with_text, defBody s_with_text, defScope s_with_text, [], []⟩
def d_with_shift : He.DefD := ⟨("with_shift", none), "with_shift", "with_shift", defArgs s_with_shift, defBody s_with_shift, defScope s_with_shift, [], []⟩
def d_behind_steps : He.DefD := ⟨("behind_steps", none), "behind_steps", "behind_steps", defArgs s_behind_steps, defBody s_behind_steps, defScope s_behind_steps, [], []⟩
def d__law_begin : He.DefD := ⟨("_law_begin", none), "_law_begin", "_law_begin", defArgs s__law_begin, defBody s__law_begin, defScope s__law_begin, [], []⟩
def d__law_pick : He.DefD := ⟨("_law_pick", none), "_law_pick", "_law_pick", defArgs s__law_pick, defBody s__law_pick, defScope s__law_pick, [], []⟩
def d__law_one : He.DefD := ⟨("_law_one", none), "_law_one", "_law_one", defArgs s__law_one, defBody s__law_one, defScope s__law_one, [], []⟩
def d__law_same : He.DefD := ⟨("_law_same", none), "_law_same", "_law_same", defArgs s__law_same, defBody s__law_same, defScope s__law_same, [], []⟩
def d__law_step_on : He.DefD := ⟨("_law_step_on", none), "_law_step_on", "_law_step_on", defArgs s__law_step_on, defBody s__law_step_on, defScope s__law_step_on, [], []⟩
def d__law_steps_on : He.DefD := ⟨("_law_steps_on", none), "_law_steps_on", "_law_steps_on", defArgs s__law_steps_on, defBody s__law_steps_on, defScope s__law_steps_on, [], []⟩
def d_law : He.DefD := ⟨("law", none), "law", "law", defArgs s_law, defBody s_law, defScope s_law, [], []⟩
def fn : List He.DefD := [d_with_text, d_with_shift, d_behind_steps, d__law_begin, d__law_pick, d__law_one, d__law_same, d__law_step_on, d__law_steps_on, d_law]
def fa : List He.Fa := [.glo "with_text", .glo "with_shift", .glo "behind_steps", .glo "_law_begin", .glo "_law_pick", .glo "_law_one", .glo "_law_same", .glo "_law_step_on", .glo "_law_steps_on", .glo "law", .free "list", .free "len", .free "isinstance", .free "bool", .free "int", .free "str", .free "tuple", .free "all", .free "range", .free "min"]
def ex (K : PySem.W.Frag) : Bool := true
abbrev R : PySem.W.OpenRow := PySem.W.OpenLaw.row PySem.Challenge.rw_gridscope_k27_steps_done_on_drawings
abbrev hk : PySem.W.Hook := He.hookX 4 fa fn [] [] ex
def ob (s : PySem.W.SharedT) : He.AlX := He.obsX 4 fa fn [] [] ex (HandSHeadRun.getT s)
theorem ob_eq (s : PySem.W.SharedT) : ob s = hk.obs s.abs := He.obsX_eq (HandSHeadRun.getT_eq s)
def loose : List Str := ["with_text", "with_shift", "behind_steps", "_law_begin", "_law_pick", "_law_one", "_law_same", "_law_step_on", "_law_steps_on"]
theorem run (w : World) : HandSHeadRun.RunEq R (PySem.W.view R.prog [11]) hk ob 4000 loose w := by
  intro os
  kernel_rfl
theorem facts {P : Program} {w : World} {K : PySem.W.Frag} {h : Heap} {mg : Str → Option Value} {f : Addr} (X : K.In h) (G : h.Ns mainGlobals mg) (hfa : mg ("law" : Str) = some (.ref f)) (cx : He.SaysX fa fn [] [] ex w h K) :
    ∃ fd : FuncData, (∀ (s : Shared) (v : Value), BindsTo s fd ⟨[v], []⟩ [("_law_script", v)]) ∧ ∀ base : Heap, K.In base → base.Ns mainGlobals mg → FnOk P w K mg base (L2.CX P w) 5 f fd ["_law_script"] (spD K FLaw) := by
  have c := cx.t.d
  obtain ⟨fd_with_text, F_with_text⟩ := c.def_ 0 (d := d_with_text) rfl
  obtain ⟨fd_with_shift, F_with_shift⟩ := c.def_ 1 (d := d_with_shift) rfl
  obtain ⟨fd_behind_steps, F_behind_steps⟩ := c.def_ 2 (d := d_behind_steps) rfl
  obtain ⟨fd__law_begin, F__law_begin⟩ := c.def_ 3 (d := d__law_begin) rfl
  obtain ⟨fd__law_pick, F__law_pick⟩ := c.def_ 4 (d := d__law_pick) rfl
  obtain ⟨fd__law_one, F__law_one⟩ := c.def_ 5 (d := d__law_one) rfl
  obtain ⟨fd__law_same, F__law_same⟩ := c.def_ 6 (d := d__law_same) rfl
  obtain ⟨fd__law_step_on, F__law_step_on⟩ := c.def_ 7 (d := d__law_step_on) rfl
  obtain ⟨fd__law_steps_on, F__law_steps_on⟩ := c.def_ 8 (d := d__law_steps_on) rfl
  obtain ⟨fd_law, F_law⟩ := c.def_ 9 (d := d_law) rfl
  have g_with_text := He.glo_ok X G (c.fact 0 (f := .glo "with_text") rfl)
  have g_with_shift := He.glo_ok X G (c.fact 1 (f := .glo "with_shift") rfl)
  have g_behind_steps := He.glo_ok X G (c.fact 2 (f := .glo "behind_steps") rfl)
  have g__law_begin := He.glo_ok X G (c.fact 3 (f := .glo "_law_begin") rfl)
  have g__law_pick := He.glo_ok X G (c.fact 4 (f := .glo "_law_pick") rfl)
  have g__law_one := He.glo_ok X G (c.fact 5 (f := .glo "_law_one") rfl)
  have g__law_same := He.glo_ok X G (c.fact 6 (f := .glo "_law_same") rfl)
  have g__law_step_on := He.glo_ok X G (c.fact 7 (f := .glo "_law_step_on") rfl)
  have g__law_steps_on := He.glo_ok X G (c.fact 8 (f := .glo "_law_steps_on") rfl)
  have g_law := He.glo_ok X G (c.fact 9 (f := .glo "law") rfl)
  have m_list : mg "list" = none := He.free_ok X G (c.fact 10 (f := .free "list") rfl)
  have m_len : mg "len" = none := He.free_ok X G (c.fact 11 (f := .free "len") rfl)
  have m_isinstance : mg "isinstance" = none := He.free_ok X G (c.fact 12 (f := .free "isinstance") rfl)
  have m_bool : mg "bool" = none := He.free_ok X G (c.fact 13 (f := .free "bool") rfl)
  have m_int : mg "int" = none := He.free_ok X G (c.fact 14 (f := .free "int") rfl)
  have m_str : mg "str" = none := He.free_ok X G (c.fact 15 (f := .free "str") rfl)
  have m_tuple : mg "tuple" = none := He.free_ok X G (c.fact 16 (f := .free "tuple") rfl)
  have m_all : mg "all" = none := He.free_ok X G (c.fact 17 (f := .free "all") rfl)
  have m_range : mg "range" = none := He.free_ok X G (c.fact 18 (f := .free "range") rfl)
  have m_min : mg "min" = none := He.free_ok X G (c.fact 19 (f := .free "min") rfl)
  have e := hfa.symm.trans g_law
  cases e
  have b := FunD.bindsA (ps := ["_law_script"]) F_law fun _ _ _ _ _ _ us hl => match us, hl with | [_], _ => rfl
  refine ⟨fd_law, fun s v => b s [v] rfl, fun base _ _ => ?_⟩
  have k_begin := kn__law_begin (P := P) (w := w) (base := base) F__law_begin g__law_begin m_list
  have k_pick := kn__law_pick (P := P) (w := w) (base := base) F__law_pick g__law_pick m_len
  have k_same1 := kn__law_same (P := P) (w := w) (base := base) F__law_same g__law_same m_isinstance m_bool m_int m_str m_list m_tuple m_len m_all m_range 1 (by decide)
  have k_same := kn__law_same (P := P) (w := w) (base := base) F__law_same g__law_same m_isinstance m_bool m_int m_str m_list m_tuple m_len m_all m_range 2 (by decide)
  have k_one := kn__law_one (P := P) (w := w) (base := base) F__law_one g__law_one m_len k_pick
  have k_put := kn_with_text (P := P) (w := w) (base := base) F_with_text g_with_text m_len
  have k_sh := kn_with_shift (P := P) (w := w) (base := base) F_with_shift g_with_shift m_range m_list
  have k_beh := kn_behind_steps (P := P) (w := w) (base := base) F_behind_steps g_behind_steps m_list m_tuple k_put k_sh
  have k_on := kn__law_step_on (P := P) (w := w) (base := base) F__law_step_on g__law_step_on m_len m_range
  have k_ons := kn__law_steps_on (P := P) (w := w) (base := base) F__law_steps_on g__law_steps_on m_list k_on
  exact ok_law F_law m_range m_list m_min k_begin k_pick k_one k_same k_beh k_ons
end K27
open PySem PySem.W PySem.Calls PyProof.Rows
theorem PySem.Challenge.cw_gridscope_k27_steps_done_on_drawings_holds : PySem.Challenge.rw_gridscope_k27_steps_done_on_drawings.Holds := by
  w_on; o_law
  refine HandSHeadRun.head_any (r := K27.R) (q := view K27.R.prog [11]) (H := K27.hk) (ob := K27.ob) (M := 4000) (loose := K27.loose) (d := HandSHeadRun.topDef K27.R.prog 11) (kwd := []) K27.ob_eq
    (by kernel_rfl) (fun s => by kernel_rfl) K27.run (by kernel_rfl) (by kernel_rfl) (by kernel_rfl) (by rfl) (by first | assumption | decide +kernel) (by decide +kernel) ⟨rfl, rfl, rfl, rfl, rfl, by decide +kernel⟩ ?hw ?hc
  case hw => w_witness2
  case hc =>
    refine G.walk_w (l := PySem.Challenge.rw_gridscope_k27_steps_done_on_drawings) (k := 5) (x := "_law_script") rfl (by kernel_rfl) ⟨rfl, by decide, by decide⟩ ?F
    intro w mg fa h Y gns at0
    obtain ⟨K, KX, c⟩ := Y
    have at1 : mg ("law" : PySem.Str) = some (.ref fa) := by
      have e : (HandSHeadRun.topDef K27.R.prog 11).name = ("law" : PySem.Str) := by kernel_rfl
      rw [← e]
      exact at0
    obtain ⟨fd, bind, ok⟩ := K27.facts (P := (PySem.Challenge.rw_gridscope_k27_steps_done_on_drawings).prog) (w := w) KX gns at1 c
    exact ⟨K, fd, KX, bind, ok⟩

