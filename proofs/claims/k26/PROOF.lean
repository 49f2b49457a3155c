import PyProof.Rows.All
import Wide.All
import OpenK.AllK
import Wide.FinOn
import HandS.ForMost
import HandS.ForExc
import HandS.IsInst
import HandS.Defaults
import HandS.ExcIs
import HandS.HotCalls
import HandS.ExcField
import HandS.TupAny
import HandS.TupMul
import HandS.TupLe
import HandS.Deep
import HandS.SortInts
import HandS.Comp
import HandS.HeadEnd
import HandS.TryOnly
import HandS.ExcOwn
import HandS.Strs
import HandS.Text
import HandS.CallSlots
import HandS.MakeKwOnly
import HandS.Iter
import HandS.Codes
import PyProof.StrBlock2
import KE.KUnpackStar
import KE.GoesZip
import KE.GoesEnum
import HandS.More
import HandS.Conv
import PySem.Challenge.RW_gridscope_k26_puts_between_drawings
import HandS.Head0
import HandS.Head1
import HandS.Head2
import HandS.HeadHook1
import HandS.HeadHook2
import HandS.HeadHook3
import HandS.HeadHook4
import HandS.TupSets
import HandS.OwnEq
import HandS.FStr
import HandS.DictEq
import HandS.DictComp
import HandS.Flow
import HandS.DictTup
import HandS.TupLen
set_option Elab.async false
set_option linter.all false
set_option maxRecDepth 100000
set_option maxHeartbeats 4000000
/-! The data layer: values as data, objects in a store; judgements over both. -/
namespace G
open PySem PySem.Spec PyProof.Rows L2

/-! ### the widest readings -/
def WE (X : Cx) (e : Expr) : TE := fun σ H Q => ∀ (pins : List (Addr × Obj)) (s : Shared), Inv X pins σ H s → wpAny (model X.prog X.w) X.A (eval e X.env) (EP X pins σ Q) X.xe s
def WT (X : Cx) (e : Expr) : TT := fun σ H Q => ∀ (pins : List (Addr × Obj)) (s : Shared), Inv X pins σ H s → wpAny (model X.prog X.w) X.A (isTrue e X.env (eval e X.env)) (TP X pins σ Q) X.xe s
def WA (X : Cx) (es : List Expr) : TA := fun σ H Q => ∀ (pos : Pos) (pins : List (Addr × Obj)) (s : Shared), Inv X pins σ H s → wpAny (model X.prog X.w) X.A (spliced (backTo pos (starEach es X.env))) (AP X pins σ Q) X.xe s
def WS (X : Cx) (st : Stmt) : TS := fun D σ H => ∀ (pins : List (Addr × Obj)) (s : Shared), Inv X pins σ H s → wpAny (model X.prog X.w) X.A (exec st X.env) (SP X pins D) X.xe s
def WSs (X : Cx) (st : List Stmt) : TS := fun D σ H => ∀ (pins : List (Addr × Obj)) (s : Shared), Inv X pins σ H s → wpAny (model X.prog X.w) X.A (execs st X.env) (SP X pins D) X.xe s
def WG (X : Cx) (tg : Expr) : TG := fun v σ H Q => ∀ (pins : List (Addr × Obj)) (s : Shared) (u : Value), Inv X pins σ H s → RelV v u → wpAny (model X.prog X.w) X.A (assign tg X.env u) (fun _ s' => ∃ σ' H', Inv X pins σ' H' s' ∧ Q σ' H') X.xe s
section
variable {X : Cx} {e : Expr} {es : List Expr} {st : Stmt} {sts : List Stmt} {tg : Expr} {σ : L2.St} {H : Hp}
theorem we : PE X e (WE X e) := ⟨fun pins s _ _ _ I h => h pins s I⟩
theorem wt : PT X e (WT X e) := ⟨fun pins s _ _ _ I h => h pins s I⟩
theorem wa : PA X es (WA X es) := ⟨fun pos pins s _ _ _ I h => h pos pins s I⟩
theorem ws : PS X st (WS X st) := ⟨fun pins s _ _ _ I h => h pins s I⟩
theorem wss : PSs X sts (WSs X sts) := ⟨fun pins s _ _ _ I h => h pins s I⟩
theorem wg : PG X tg (WG X tg) := ⟨fun pins s _ _ _ u _ I r h => h pins s u I r⟩
theorem WE.of {t : TE} {Q : VK} (p : PE X e t) (h : t σ H Q) : WE X e σ H Q := fun pins s I => p.run pins s σ H Q I h
theorem WT.of {t : TT} {Q : Bool → Hp → Prop} (p : PT X e t) (h : t σ H Q) : WT X e σ H Q := fun pins s I => p.run pins s σ H Q I h
theorem WA.of {t : TA} {Q : List V → Hp → Prop} (p : PA X es t) (h : t σ H Q) : WA X es σ H Q := fun pos pins s I => p.run pos pins s σ H Q I h
theorem WS.of {t : TS} {D : Ends} (p : PS X st t) (h : t D σ H) : WS X st D σ H := fun pins s I => p.run pins s σ H D I h
theorem WSs.of {t : TS} {D : Ends} (p : PSs X sts t) (h : t D σ H) : WSs X sts D σ H := fun pins s I => p.run pins s σ H D I h
theorem WG.of {t : TG} {v : V} {Q : L2.St → Hp → Prop} (p : PG X tg t) (h : t v σ H Q) : WG X tg v σ H Q := fun pins s u I r => p.run pins s σ H v u Q I r h
theorem WE.mono {Q Q' : VK} (h : WE X e σ H Q) (k : ∀ v H', Q v H' → Q' v H') : WE X e σ H Q' := fun pins s I => thn (h pins s I) fun _ _ ⟨v, H', I', r, q⟩ => ⟨v, H', I', r, k v H' q⟩
theorem WT.mono {Q Q' : Bool → Hp → Prop} (h : WT X e σ H Q) (k : ∀ v H', Q v H' → Q' v H') : WT X e σ H Q' := fun pins s I => thn (h pins s I) fun b _ ⟨H', I', q⟩ => ⟨H', I', k b H' q⟩
theorem WA.mono {Q Q' : List V → Hp → Prop} (h : WA X es σ H Q) (k : ∀ v H', Q v H' → Q' v H') : WA X es σ H Q' := fun pos pins s I => thn (h pos pins s I) fun _ _ ⟨v, H', I', r, q⟩ => ⟨v, H', I', r, k v H' q⟩
theorem sp_mono {pins : List (Addr × Obj)} {D D' : Ends} {f : Flow} {s : Shared} (h : SP X pins D f s) (n : ∀ σ H, D.nx σ H → D'.nx σ H) (r : ∀ v H, D.rt v H → D'.rt v H) (b : ∀ σ H, D.bk σ H → D'.bk σ H) (c : ∀ σ H, D.ct σ H → D'.ct σ H) : SP X pins D' f s := by
  cases f with
  | next => obtain ⟨σ', H', I, q⟩ := h; exact ⟨σ', H', I, n _ _ q⟩
  | brk => obtain ⟨σ', H', I, q⟩ := h; exact ⟨σ', H', I, b _ _ q⟩
  | cont => obtain ⟨σ', H', I, q⟩ := h; exact ⟨σ', H', I, c _ _ q⟩
  | ret u => obtain ⟨v, σ', H', I, rr, q⟩ := h; exact ⟨v, σ', H', I, rr, r _ _ q⟩
theorem WSs.mono {D D' : Ends} (h : WSs X sts D σ H) (n : ∀ σ H, D.nx σ H → D'.nx σ H) (r : ∀ v H, D.rt v H → D'.rt v H) (b : ∀ σ H, D.bk σ H → D'.bk σ H) (c : ∀ σ H, D.ct σ H → D'.ct σ H) : WSs X sts D' σ H :=
  fun pins s I => thn (h pins s I) fun _ _ q => sp_mono q n r b c
theorem WS.mono {D D' : Ends} (h : WS X st D σ H) (n : ∀ σ H, D.nx σ H → D'.nx σ H) (r : ∀ v H, D.rt v H → D'.rt v H) (b : ∀ σ H, D.bk σ H → D'.bk σ H) (c : ∀ σ H, D.ct σ H → D'.ct σ H) : WS X st D' σ H :=
  fun pins s I => thn (h pins s I) fun _ _ q => sp_mono q n r b c
theorem WG.mono {v : V} {Q Q' : L2.St → Hp → Prop} (h : WG X tg v σ H Q) (k : ∀ σ H', Q σ H' → Q' σ H') : WG X tg v σ H Q' := fun pins s u I r => thn (h pins s u I r) fun _ _ ⟨v, H', I', q⟩ => ⟨v, H', I', k v H' q⟩
end

/-! ### data -/
/-- a dict with tuples for keys; or the very thing that stands at a place, for good -/
inductive DitK where | t (ks : List (List Int)) | pin (u : HO) | exc (a dd : Addr) (ks : List Str)
/-- tuples of whole numbers as keys -/
def keyT (k : List Int) : List Key := k.map Sum.inl
def upT (ws : List (List Int × V)) : List (List Key × V) := ws.map fun q => (keyT q.1, q.2)
inductive D where
  | non | bl (b : Bool) | int (i : Int) | str (s : Str) | tup (l : List D) | lst (l : List D) | frz (l : List D) | dic (ks : List Key) (l : List D) | dit (ks : DitK) (l : List D) | ref (a : Addr) | ty (n : String)
/-- what an object of the store is -/
inductive O where
  | lst (l : List D) | dic (ks : List Key) (l : List D) | dit (ks : List (List Int)) (l : List D) | ins (C : Addr) (fs : List (Str × D)) | lk (od : Obj) (kvs : List (Key × V)) (ks : List Key) (l : List D) | lkT (od : Obj) (ws : List (List Int × V)) (ks : List (List Int)) (l : List D)
abbrev Sto := Addr → Option O
def sput (m : Sto) (a : Addr) (o : O) : Sto := fun b => if b = a then some o else m b
theorem sput_same {m : Sto} {a : Addr} {o : O} : sput m a o a = some o := if_pos rfl
theorem sput_ne {m : Sto} {a b : Addr} {o : O} (h : b ≠ a) : sput m a o b = m b := if_neg h
theorem sput_sput {m : Sto} {a : Addr} {o u : O} : sput (sput m a o) a u = sput m a u := by funext b; unfold sput; split <;> rfl
def sdel (m : Sto) (a : Addr) : Sto := fun b => if b = a then none else m b
theorem sdel_ne {m : Sto} {a b : Addr} (h : b ≠ a) : sdel m a b = m b := if_neg h
theorem sne {m : Sto} {a b : Addr} {o : O} (h : m a = some o) (h' : m b = none) : a ≠ b := by
  intro e; subst e; rw [h] at h'; cases h'
theorem sdel_new {m : Sto} {a : Addr} {o : O} (h : m a = none) : sdel (sput m a o) a = m := by
  funext b
  unfold sdel sput
  split
  · rename_i e; subst e; exact h.symm
  · rfl

mutual
inductive Rep (K : PySem.W.Frag) (H : Hp) : V → D → Prop
  | non : Rep K H .non .non
  | bl (b : Bool) : Rep K H (.bl b) (.bl b)
  | int (i : Int) : Rep K H (.int i) (.int i)
  | str (s : Str) : Rep K H (.str s) (.str s)
  | ty (n : String) : Rep K H (.ty n) (.ty n)
  | ref (a : Addr) : Rep K H (.ref a) (.ref a)
  | tup {a : Addr} {xs : List V} {ds : List D} : SqT K H a xs → (∀ ns : List Int, ds = ns.map D.int → H a = some (.tup xs)) → RepL K H xs ds → Rep K H (.ref a) (.tup ds)
  | lst {a : Addr} {xs : List V} {ds : List D} : H a = some (.lst xs) → RepL K H xs ds → Rep K H (.ref a) (.lst ds)
  | frz {a : Addr} {xs : List V} {ds : List D} : SqL K H a xs → RepL K H xs ds → Rep K H (.ref a) (.frz ds)
  | dic {a : Addr} {ob : Obj} {kvs : List (Key × V)} {ks : List Key} {ds : List D} : H a = some (.frz ob (.dK kvs)) → kvs.map (·.1) = ks → RepL K H (kvs.map (·.2)) ds → Rep K H (.ref a) (.dic ks ds)
  | dit {a : Addr} {ob : Obj} {ws : List (List Int × V)} {ks : List (List Int)} {ds : List D} : H a = some (.frz ob (.dT (upT ws))) → ws.map (·.1) = ks → RepL K H (ws.map (·.2)) ds → Rep K H (.ref a) (.dit (.t ks) ds)
  | pin {a : Addr} {u : HO} : H a = some u → Rep K H (.ref a) (.dit (.pin u) [])
  | exc {a dd : Addr} {ws : List (Str × V)} {ks : List Str} {ds : List D} : H dd = some (.xd ws) → ws.map (·.1) = ks → RepL K H (ws.map (·.2)) ds → Rep K H (.ref a) (.dit (.exc a dd ks) ds)
inductive RepL (K : PySem.W.Frag) (H : Hp) : List V → List D → Prop
  | nil : RepL K H [] []
  | cons {v : V} {vs : List V} {d : D} {ds : List D} : Rep K H v d → RepL K H vs ds → RepL K H (v :: vs) (d :: ds)
end

theorem rd_mono {H H' : Hp} {a : Addr} {u : HO} (e : Same H H') (h : Rd H a u) : Rd H' a u := by
  rcases h with h | ⟨o, h⟩
  · exact .inl (e _ _ h)
  · exact .inr ⟨o, e _ _ h⟩
theorem sqt_mono {K : PySem.W.Frag} {H H' : Hp} {a : Addr} {xs : List V} (e : Same H H') (h : SqT K H a xs) : SqT K H' a xs := by
  rcases h with h | h
  · exact .inl (rd_mono e h)
  · exact .inr h
mutual
theorem Rep.mono {K : PySem.W.Frag} {H H' : Hp} (e : Same H H') : ∀ {v : V} {d : D}, Rep K H v d → Rep K H' v d
  | _, _, .non => .non
  | _, _, .bl b => .bl b
  | _, _, .int b => .int b
  | _, _, .str b => .str b
  | _, _, .ty b => .ty b
  | _, _, .ref b => .ref b
  | _, _, .pin h => .pin (e _ _ h)
  | _, _, .exc h k r => .exc (e _ _ h) k (RepL.mono e r)
  | _, _, .tup h t r => .tup (sqt_mono e h) (fun ns q => e _ _ (t ns q)) (RepL.mono e r)
  | _, _, .lst h r => .lst (e _ _ h) (RepL.mono e r)
  | _, _, .frz h r => .frz (e.seq h) (RepL.mono e r)
  | _, _, .dic h k r => .dic (e _ _ h) k (RepL.mono e r)
  | _, _, .dit h k r => .dit (e _ _ h) k (RepL.mono e r)
theorem RepL.mono {K : PySem.W.Frag} {H H' : Hp} (e : Same H H') : ∀ {v : List V} {d : List D}, RepL K H v d → RepL K H' v d
  | _, _, .nil => .nil
  | _, _, .cons h r => .cons (Rep.mono e h) (RepL.mono e r)
end
section
variable {K : PySem.W.Frag} {H : Hp}
theorem RepL.length : ∀ {vs : List V} {ds : List D}, RepL K H vs ds → vs.length = ds.length
  | _, _, .nil => rfl
  | _, _, .cons _ r => by rw [List.length_cons, List.length_cons, r.length]
theorem RepL.get : ∀ {vs : List V} {ds : List D} {i : Nat} {v : V} {d : D}, RepL K H vs ds → vs[i]? = some v → ds[i]? = some d → Rep K H v d
  | _, _, _, _, _, .nil, h, _ => by simp at h
  | _, _, 0, _, _, .cons h _, e1, e2 => by
    cases (Option.some.inj e1 : _ = _); cases (Option.some.inj e2 : _ = _); exact h
  | _, _, i + 1, _, _, .cons _ r, e1, e2 => r.get (i := i) (by simpa using e1) (by simpa using e2)
theorem RepL.get' {vs : List V} {ds : List D} {i : Nat} {d : D} (r : RepL K H vs ds) (h : ds[i]? = some d) : ∃ v, vs[i]? = some v ∧ Rep K H v d := by
  have hl := r.length
  have hi : i < vs.length := by rw [hl]; exact (List.getElem?_eq_some_iff.mp h).1
  exact ⟨vs[i], List.getElem?_eq_getElem hi, r.get (List.getElem?_eq_getElem hi) h⟩
theorem RepL.getV {vs : List V} {ds : List D} {i : Nat} {v : V} (r : RepL K H vs ds) (h : vs[i]? = some v) : ∃ d, ds[i]? = some d ∧ Rep K H v d := by
  have hl := r.length
  have hi : i < ds.length := by rw [← hl]; exact (List.getElem?_eq_some_iff.mp h).1
  exact ⟨ds[i], List.getElem?_eq_getElem hi, r.get h (List.getElem?_eq_getElem hi)⟩
theorem RepL.append : ∀ {vs ws : List V} {ds es : List D}, RepL K H vs ds → RepL K H ws es → RepL K H (vs ++ ws) (ds ++ es)
  | _, _, _, _, .nil, r => r
  | _, _, _, _, .cons h t, r => .cons h (t.append r)
theorem RepL.take : ∀ {vs : List V} {ds : List D} (n : Nat), RepL K H vs ds → RepL K H (vs.take n) (ds.take n)
  | _, _, 0, _ => .nil
  | _, _, _ + 1, .nil => .nil
  | _, _, n + 1, .cons h t => .cons h (t.take n)
theorem RepL.drop : ∀ {vs : List V} {ds : List D} (n : Nat), RepL K H vs ds → RepL K H (vs.drop n) (ds.drop n)
  | _, _, 0, r => r
  | _, _, _ + 1, .nil => .nil
  | _, _, n + 1, .cons _ t => t.drop n
theorem RepL.set : ∀ {vs : List V} {ds : List D} (n : Nat) {v : V} {d : D}, RepL K H vs ds → Rep K H v d → RepL K H (vs.set n v) (ds.set n d)
  | _, _, _, _, _, .nil, _ => .nil
  | _, _, 0, _, _, .cons _ t, r => .cons r t
  | _, _, n + 1, _, _, .cons h t, r => .cons h (t.set n r)
theorem RepL.snoc {vs : List V} {ds : List D} {v : V} {d : D} (r : RepL K H vs ds) (h : Rep K H v d) : RepL K H (vs ++ [v]) (ds ++ [d]) := r.append (.cons h .nil)
/-- by a relation that holds item by item -/
theorem RepL.of_zip : ∀ {vs : List V} {ds : List D}, vs.length = ds.length → (∀ v d, (v, d) ∈ vs.zip ds → Rep K H v d) → RepL K H vs ds
  | [], [], _, _ => .nil
  | [], _ :: _, h, _ => by simp at h
  | _ :: _, [], h, _ => by simp at h
  | v :: vs, d :: ds, h, k => .cons (k v d (by simp)) (RepL.of_zip (by simpa using h) fun x y m => k x y (by rw [List.zip_cons_cons]; exact List.mem_cons_of_mem _ m))
end

def RepO (K : PySem.W.Frag) (H : Hp) : HO → O → Prop
  | .lst xs, .lst ds => RepL K H xs ds
  | .dK kvs, .dic ks ds => kvs.map (·.1) = ks ∧ RepL K H (kvs.map (·.2)) ds
  | .dT kvs, .dit ks ds => ∃ ws, kvs = upT ws ∧ ws.map (·.1) = ks ∧ RepL K H (ws.map (·.2)) ds
  | .ins C _ fs, .ins C' gs => C = C' ∧ fs.map (·.1) = gs.map (·.1) ∧ RepL K H (fs.map (·.2)) (gs.map (·.2))
  | .frz ob u, .lk od kvs ks ds => ob = od ∧ u = .dK kvs ∧ kvs.map (·.1) = ks ∧ RepL K H (kvs.map (·.2)) ds
  | .frz ob u, .lkT od ws ks ds => ob = od ∧ u = .dT (upT ws) ∧ ws.map (·.1) = ks ∧ RepL K H (ws.map (·.2)) ds
  | _, _ => False
theorem RepO.mono {K : PySem.W.Frag} {H H' : Hp} (e : Same H H') {u : HO} {o : O} (h : RepO K H u o) : RepO K H' u o := by
  cases u <;> cases o <;> first
    | exact RepL.mono e h
    | exact ⟨h.1, RepL.mono e h.2⟩
    | exact ⟨h.1, h.2.1, RepL.mono e h.2.2⟩
    | exact ⟨h.1, h.2.1, h.2.2.1, RepL.mono e h.2.2.2⟩
    | (obtain ⟨ws, q1, q2, q3⟩ := h; exact ⟨ws, q1, q2, RepL.mono e q3⟩)
    | exact False.elim h

abbrev RT := V → D → Prop
def Pl (T : RT) (v : V) (d : D) : RT := fun x y => T x y ∨ (x = v ∧ y = d)
def PlL (T : RT) (vs : List V) (ds : List D) : RT := fun x y => T x y ∨ (x, y) ∈ vs.zip ds
def Le (A B : RT) : Prop := ∀ v d, A v d → B v d
theorem Le.refl (A : RT) : Le A A := fun _ _ h => h
theorem Le.trans {A B C : RT} (h : Le A B) (k : Le B C) : Le A C := fun v d x => k v d (h v d x)
theorem Pl.le {T : RT} {v : V} {d : D} : Le T (Pl T v d) := fun _ _ h => .inl h
theorem Pl.it {T : RT} {v : V} {d : D} : Pl T v d v d := .inr ⟨rfl, rfl⟩
theorem PlL.le {T : RT} {vs : List V} {ds : List D} : Le T (PlL T vs ds) := fun _ _ h => .inl h
theorem Pl.mono {T T' : RT} {v : V} {d : D} (h : Le T T') : Le (Pl T v d) (Pl T' v d) := fun x y q => q.elim (fun z => .inl (h x y z)) .inr
theorem PlL.mono {T T' : RT} {vs : List V} {ds : List D} (h : Le T T') : Le (PlL T vs ds) (PlL T' vs ds) := fun x y q => q.elim (fun z => .inl (h x y z)) .inr

/-- the heap holds the store and the facts T: Hi is its part that never changes -/
def Hd0 (K : PySem.W.Frag) (H : Hp) (m : Sto) (T : RT) : Prop :=
  ∃ Hi : Hp, Same Hi H ∧ (∀ a o, m a = some o → Hi a = none ∧ ∃ u, H a = some u ∧ RepO K Hi u o) ∧ ∀ v d, T v d → Rep K Hi v d
section
variable {K : PySem.W.Frag} {H : Hp} {m : Sto} {T T' : RT} {p : Addr}
theorem Hd0.le (h : Hd0 K H m T) (k : Le T' T) : Hd0 K H m T' := by
  obtain ⟨Hi, h1, h2, h3⟩ := h
  exact ⟨Hi, h1, h2, fun v d x => h3 v d (k v d x)⟩
theorem Hd0.pl {v : V} {d : D} (h : Hd0 K H m T) (r : ∀ Hi, (∀ v d, T v d → Rep K Hi v d) → Rep K Hi v d) : Hd0 K H m (Pl T v d) := by
  obtain ⟨Hi, h1, h2, h3⟩ := h
  refine ⟨Hi, h1, h2, fun x y q => q.elim (h3 x y) fun ⟨e1, e2⟩ => ?_⟩
  subst e1 e2
  exact r Hi h3
theorem same_upd {H : Hp} {p : Addr} {o : HO} (h : H p = none) : Same H (upd H p o) := fun b x e => by
  rw [upd_ne (ne_of_none e h)]
  exact e
theorem Hd0.free (h : Hd0 K H m T) (hp : H p = none) : m p = none := by
  obtain ⟨Hi, h1, h2, h3⟩ := h
  cases e : m p with
  | none => rfl
  | some o =>
    obtain ⟨_, u, q, _⟩ := h2 p o e
    rw [hp] at q; cases q
theorem Hd0.newI {d : D} {u : HO} (h : Hd0 K H m T) (hp : H p = none) (r : ∀ Hi, Hi p = none → (∀ v d, T v d → Rep K Hi v d) → Rep K (upd Hi p u) (.ref p) d) : Hd0 K (upd H p u) m (Pl T (.ref p) d) := by
  have hm := h.free hp
  obtain ⟨Hi, h1, h2, h3⟩ := h
  have hi : Hi p = none := by
    cases e : Hi p with
    | none => rfl
    | some o => rw [h1 _ _ e] at hp; cases hp
  refine ⟨upd Hi p u, fun b o e => ?_, fun a o e => ?_, fun x y q => q.elim (fun z => Rep.mono (same_upd hi) (h3 x y z)) fun ⟨e1, e2⟩ => ?_⟩
  · by_cases hb : b = p
    · subst hb; rw [upd_same] at e ⊢; exact e
    · rw [upd_ne hb] at e ⊢; exact h1 _ _ e
  · have ha : a ≠ p := fun z => by subst z; rw [hm] at e; cases e
    obtain ⟨q1, u', q2, q3⟩ := h2 a o e
    exact ⟨by rw [upd_ne ha]; exact q1, u', by rw [upd_ne ha]; exact q2, q3.mono (same_upd hi)⟩
  · subst e1 e2
    exact r Hi hi h3
theorem Hd0.newM {o : O} {u : HO} (h : Hd0 K H m T) (hp : H p = none) (r : ∀ Hi, (∀ v d, T v d → Rep K Hi v d) → RepO K Hi u o) : Hd0 K (upd H p u) (sput m p o) (Pl T (.ref p) (.ref p)) := by
  have hm := h.free hp
  obtain ⟨Hi, h1, h2, h3⟩ := h
  have hi : Hi p = none := by
    cases e : Hi p with
    | none => rfl
    | some o => rw [h1 _ _ e] at hp; cases hp
  refine ⟨Hi, fun b o e => (same_upd hp) _ _ (h1 b o e), fun a o' e => ?_, fun x y q => q.elim (h3 x y) fun ⟨e1, e2⟩ => by rw [e1, e2]; exact .ref p⟩
  by_cases ha : a = p
  · subst ha
    rw [sput_same] at e; cases e
    exact ⟨hi, u, upd_same, r Hi h3⟩
  · rw [sput_ne ha] at e
    obtain ⟨q1, u', q2, q3⟩ := h2 a o' e
    exact ⟨q1, u', by rw [upd_ne ha]; exact q2, q3⟩
theorem Hd0.mut {a : Addr} {o o' : O} {u u' : HO} (h : Hd0 K H m T) (hm : m a = some o) (hu : H a = some u) (r : ∀ Hi, RepO K Hi u o → (∀ v d, T v d → Rep K Hi v d) → RepO K Hi u' o') : Hd0 K (upd H a u') (sput m a o') T := by
  obtain ⟨Hi, h1, h2, h3⟩ := h
  obtain ⟨q1, u0, q2, q3⟩ := h2 a o hm
  rw [hu] at q2; cases q2
  refine ⟨Hi, fun b x e => ?_, fun b x e => ?_, h3⟩
  · have hb : b ≠ a := ne_of_none e q1
    rw [upd_ne hb]; exact h1 _ _ e
  · by_cases hb : b = a
    · subst hb
      rw [sput_same] at e; cases e
      exact ⟨q1, u', upd_same, r Hi q3 h3⟩
    · rw [sput_ne hb] at e
      obtain ⟨p1, u1, p2, p3⟩ := h2 b x e
      exact ⟨p1, u1, by rw [upd_ne hb]; exact p2, p3⟩
/-- a local list is data from now on -/
theorem Hd0.freezeL {a : Addr} {ds : List D} (h : Hd0 K H m T) (hm : m a = some (.lst ds)) : Hd0 K H (sdel m a) (Pl T (.ref a) (.lst ds)) := by
  obtain ⟨Hi, h1, h2, h3⟩ := h
  obtain ⟨q1, u0, q2, q3⟩ := h2 a _ hm
  cases u0 with
  | lst xs =>
    have sm : Same Hi (upd Hi a (.lst xs)) := same_upd q1
    refine ⟨upd Hi a (.lst xs), fun b o e => ?_, fun b o e => ?_, fun x y q => q.elim (fun z => Rep.mono sm (h3 x y z)) fun ⟨e1, e2⟩ => ?_⟩
    · by_cases hb : b = a
      · subst hb; rw [upd_same] at e; cases e; exact q2
      · rw [upd_ne hb] at e; exact h1 _ _ e
    · by_cases hb : b = a
      · subst hb; unfold sdel at e; rw [if_pos rfl] at e; cases e
      · rw [sdel_ne hb] at e
        obtain ⟨p1, u1, p2, p3⟩ := h2 b o e
        exact ⟨by rw [upd_ne hb]; exact p1, u1, p2, p3.mono sm⟩
    · subst e1 e2
      exact .lst upd_same (RepL.mono sm q3)
  | _ => exact False.elim q3
theorem Hd0.get {a : Addr} {o : O} (h : Hd0 K H m T) (hm : m a = some o) : ∃ Hi u, Same Hi H ∧ H a = some u ∧ RepO K Hi u o ∧ Hi a = none := by
  obtain ⟨Hi, h1, h2, h3⟩ := h
  obtain ⟨q1, u, q2, q3⟩ := h2 a o hm
  exact ⟨Hi, u, h1, q2, q3, q1⟩
theorem Hd0.rep {v : V} {d : D} (h : Hd0 K H m T) (t : T v d) : Rep K H v d := by
  obtain ⟨Hi, h1, h2, h3⟩ := h
  exact Rep.mono h1 (h3 v d t)
end


/-! ### with a frame: r is what nobody here touches -/
def sun (m r : Sto) : Sto := fun a => match m a with
  | some o => some o
  | none => r a
def sdj (m r : Sto) : Prop := ∀ a o, m a = some o → r a = none
theorem sun_l {m r : Sto} {a : Addr} {o : O} (h : m a = some o) : sun m r a = some o := by unfold sun; rw [h]
theorem sun_r {m r : Sto} {a : Addr} (h : m a = none) : sun m r a = r a := by unfold sun; rw [h]
theorem sun_put {m r : Sto} {a : Addr} {o : O} : sun (sput m a o) r = sput (sun m r) a o := by
  funext b
  by_cases h : b = a
  · subst h; rw [sput_same]; exact sun_l sput_same
  · rw [sput_ne h]; unfold sun; rw [sput_ne h]
theorem sun_del {m r : Sto} {a : Addr} (h : r a = none) : sun (sdel m a) r = sdel (sun m r) a := by
  funext b
  by_cases e : b = a
  · subst e
    have e1 : sdel m b b = none := if_pos rfl
    have e2 : sdel (sun m r) b b = none := if_pos rfl
    rw [e2, sun_r e1, h]
  · rw [sdel_ne e]; unfold sun; rw [sdel_ne e]
theorem sun_assoc {a b c : Sto} : sun (sun a b) c = sun a (sun b c) := by
  funext x
  unfold sun
  cases a x <;> rfl
theorem sun_none {m : Sto} : sun m (fun _ => none) = m := by
  funext x
  unfold sun
  cases m x <;> rfl
theorem none_sun {m : Sto} : sun (fun _ => none) m = m := rfl
theorem sdj.sym {m r : Sto} (h : sdj m r) : sdj r m := fun a o e => by
  cases q : m a with
  | none => rfl
  | some u => rw [h a u q] at e; cases e
theorem sun_comm {m r : Sto} (h : sdj m r) : sun m r = sun r m := by
  funext x
  cases q : m x with
  | none =>
    rw [sun_r q]
    cases e : r x with
    | none => rw [sun_r e, q]
    | some o => rw [sun_l e]
  | some o => rw [sun_l q, sun_r (h x o q), q]
def Hd (K : PySem.W.Frag) (r : Sto) (H : Hp) (m : Sto) (T : RT) : Prop := sdj m r ∧ Hd0 K H (sun m r) T
section
variable {K : PySem.W.Frag} {r : Sto} {H : Hp} {m : Sto} {T T' : RT} {p : Addr}
theorem Hd.le (h : Hd K r H m T) (k : Le T' T) : Hd K r H m T' := ⟨h.1, h.2.le k⟩
theorem Hd.pl {v : V} {d : D} (h : Hd K r H m T) (k : ∀ Hi, (∀ v d, T v d → Rep K Hi v d) → Rep K Hi v d) : Hd K r H m (Pl T v d) := ⟨h.1, h.2.pl k⟩
theorem Hd.free (h : Hd K r H m T) (hp : H p = none) : m p = none := by
  have q := h.2.free hp
  cases e : m p with
  | none => rfl
  | some o => rw [sun_l e] at q; cases q
theorem Hd.freeR (h : Hd K r H m T) (hp : H p = none) : r p = none := by
  have q := h.2.free hp
  rw [sun_r (h.free hp)] at q
  exact q
theorem Hd.newI {d : D} {u : HO} (h : Hd K r H m T) (hp : H p = none) (k : ∀ Hi, Hi p = none → (∀ v d, T v d → Rep K Hi v d) → Rep K (upd Hi p u) (.ref p) d) : Hd K r (upd H p u) m (Pl T (.ref p) d) := ⟨h.1, h.2.newI hp k⟩
theorem Hd.newM {o : O} {u : HO} (h : Hd K r H m T) (hp : H p = none) (k : ∀ Hi, (∀ v d, T v d → Rep K Hi v d) → RepO K Hi u o) : Hd K r (upd H p u) (sput m p o) (Pl T (.ref p) (.ref p)) := by
  refine ⟨fun a o' e => ?_, by rw [sun_put]; exact h.2.newM hp k⟩
  by_cases ha : a = p
  · subst ha; exact h.freeR hp
  · rw [sput_ne ha] at e; exact h.1 a o' e
theorem Hd.mut {a : Addr} {o o' : O} {u u' : HO} (h : Hd K r H m T) (hm : m a = some o) (hu : H a = some u) (k : ∀ Hi, RepO K Hi u o → (∀ v d, T v d → Rep K Hi v d) → RepO K Hi u' o') : Hd K r (upd H a u') (sput m a o') T := by
  refine ⟨fun b x e => ?_, by rw [sun_put]; exact h.2.mut (sun_l hm) hu k⟩
  by_cases hb : b = a
  · subst hb; exact h.1 b o hm
  · rw [sput_ne hb] at e; exact h.1 b x e
theorem Hd.freezeL {a : Addr} {ds : List D} (h : Hd K r H m T) (hm : m a = some (.lst ds)) : Hd K r H (sdel m a) (Pl T (.ref a) (.lst ds)) := by
  refine ⟨fun b x e => ?_, by rw [sun_del (h.1 a _ hm)]; exact h.2.freezeL (sun_l hm)⟩
  by_cases hb : b = a
  · subst hb; unfold sdel at e; rw [if_pos rfl] at e; cases e
  · rw [sdel_ne hb] at e; exact h.1 b x e
theorem Hd.get {a : Addr} {o : O} (h : Hd K r H m T) (hm : m a = some o) : ∃ Hi u, Same Hi H ∧ H a = some u ∧ RepO K Hi u o ∧ Hi a = none := h.2.get (sun_l hm)
theorem Hd.rep {v : V} {d : D} (h : Hd K r H m T) (t : T v d) : Rep K H v d := h.2.rep t
/-- a part of the store goes to the frame, comes back -/
theorem Hd.push {m1 m2 : Sto} (h : Hd K r H (sun m1 m2) T) (d : sdj m1 m2) : Hd K (sun m2 r) H m1 T := by
  refine ⟨fun a o e => ?_, by rw [← sun_assoc]; exact h.2⟩
  rw [sun_r (d a o e)]
  exact h.1 a o (sun_l e)
theorem Hd.pop {m1 m2 : Sto} (h : Hd K (sun m2 r) H m1 T) (d : sdj m2 r) : sdj m1 m2 ∧ Hd K r H (sun m1 m2) T := by
  have d1 : sdj m1 m2 := fun a o e => by
    have q := h.1 a o e
    cases x : m2 a with
    | none => rfl
    | some u => rw [sun_l x] at q; cases q
  refine ⟨d1, fun a o e => ?_, by rw [sun_assoc]; exact h.2⟩
  cases x : m1 a with
  | none => rw [sun_r x] at e; exact d a o e
  | some u =>
    have q := h.1 a u x
    rw [sun_r (d1 a u x)] at q
    exact q
end

/-! ### the judgements -/
/-- what does not change through a def's body -/
structure Ct where
  P : Program
  w : World
  K : PySem.W.Frag
  mg : Str → Option Value
  base : Heap
  N : List Str
  sc : Scope
  fn : Str → Bool
  k : Nat
  tr : Bool
  cm : Bool
  /-- the error that is in hand, its class -/
  ex : Option (Addr × Addr × Option Addr) := none
/-- the error in hand: an object that stays, of the class at D, its dict at d -/
def ExF (X : Cx) (a D : Addr) (d : Option Addr) : Prop := ExcC X.K D ∧ ∃ oe, (a, oe) ∈ X.pn ∧ Zc (.ref D) d oe ∧ ∃ vs, oe.data = .fields vs
structure Fits (C : Ct) (X : Cx) : Prop where
  prog : X.prog = C.P
  w : X.w = C.w
  K : X.K = C.K
  mg : X.mg = C.mg
  base : X.base = C.base
  N : X.N = C.N
  sc : X.env.scope = C.sc
  fn : ∀ x, C.fn x = true → X.fn x = true
  nd : X.N.Nodup
  un : X.A.units + 200 < cLine
  room : C.cm = true → Room C.k X.A
  calm : C.cm = true → X.calm = true
  own : PassesOwn (model X.prog X.w) X.A X.env X.xe
  tr : C.tr = true → X.stack = X.env :: X.outer ∧ X.env.frame = some X.env.locals
  ex : ∀ a D d, C.ex = some (a, D, d) → ExF X a D d
  rh : L2H.RoomH C.k X.A
abbrev Sl := List (Option D)
def SlotsIn (σ : L2.St) (δ : Sl) (T : RT) : Prop := σ.length = δ.length ∧ ∀ (i : Nat) (d : D), δ[i]? = some (some d) → ∃ v : V, σ[i]? = some (some v) ∧ T v d
theorem SlotsIn.le {σ : L2.St} {δ : Sl} {T T' : RT} (h : SlotsIn σ δ T) (k : Le T T') : SlotsIn σ δ T' := ⟨h.1, fun i d e => let ⟨v, a, b⟩ := h.2 i d e; ⟨v, a, k v d b⟩⟩
theorem SlotsIn.set {σ : L2.St} {δ : Sl} {T : RT} {i : Nat} {v : V} {d : D} (h : SlotsIn σ δ T) (t : T v d) : SlotsIn (σ.set i (some v)) (δ.set i (some d)) T := by
  refine ⟨by rw [List.length_set, List.length_set]; exact h.1, fun j e q => ?_⟩
  by_cases hj : i = j
  · subst hj
    have hi : i < δ.length := by
      have := (List.getElem?_eq_some_iff.mp q).1
      simpa using this
    rw [List.getElem?_set_self hi] at q
    cases q
    exact ⟨v, by rw [List.getElem?_set_self (by rw [h.1]; exact hi)], t⟩
  · rw [List.getElem?_set_ne hj] at q ⊢
    exact h.2 j e q
theorem SlotsIn.unset {σ : L2.St} {δ : Sl} {T : RT} {i : Nat} (h : SlotsIn σ δ T) : SlotsIn (σ.set i none) (δ.set i none) T := by
  refine ⟨by rw [List.length_set, List.length_set]; exact h.1, fun j e q => ?_⟩
  by_cases hj : i = j
  · subst hj
    have hi : i < δ.length := by
      have := (List.getElem?_eq_some_iff.mp q).1
      simpa using this
    rw [List.getElem?_set_self hi] at q
    cases q
  · rw [List.getElem?_set_ne hj] at q ⊢
    exact h.2 j e q

/-- the own dict of an exception -/
def ExcD (H : Hp) (T : RT) (d : Option Addr) (fs : List (Str × D)) : Prop :=
  (d = none ∧ fs = []) ∨ ∃ a vs, fs ≠ [] ∧ d = some a ∧ H a = some (.xd vs) ∧ vs.map (·.1) = fs.map (·.1) ∧ ∀ v x, (v, x) ∈ (vs.map (·.2)).zip (fs.map (·.2)) → T v x
/-- the wish of an exception: its class, its own fields, the slots, the store -/
abbrev DW := Value → List (Str × D) → Sl → Sto → Prop
structure Fr where
  t : RT
  r : Sto
def liftW (K : PySem.W.Frag) (W : DW) (S : Fr) : WX := fun cls d σ H => ∃ δ m T fs, Le S.t T ∧ SlotsIn σ δ T ∧ Hd K S.r H m T ∧ ExcD H T d fs ∧ W cls fs δ m
structure DEn where
  nx : Sl → Sto → Prop
  rt : D → Sto → Prop
  bk : Sl → Sto → Prop := fun _ _ => False
  ct : Sl → Sto → Prop := fun _ _ => False
def lift1 (K : PySem.W.Frag) (S : Fr) (n : Sl → Sto → Prop) : L2.St → Hp → Prop := fun σ H => ∃ δ m T, Le S.t T ∧ SlotsIn σ δ T ∧ Hd K S.r H m T ∧ n δ m
def liftR (K : PySem.W.Frag) (S : Fr) (r : D → Sto → Prop) : VK := fun v H => ∃ d m, Hd K S.r H m (Pl S.t v d) ∧ r d m
def liftD (K : PySem.W.Frag) (S : Fr) (D : DEn) : Ends := { nx := lift1 K S D.nx, rt := liftR K S D.rt, bk := lift1 K S D.bk, ct := lift1 K S D.ct }

def DE (C : Ct) (W : DW) (e : Expr) (δ : Sl) (m : Sto) (Q : D → Sto → Prop) : Prop :=
  ∀ (X : Cx) (S : Fr), Fits C X → Takes X (liftW C.K W S) → ∀ (σ : L2.St) (H : Hp) (T : RT), Le S.t T → SlotsIn σ δ T → Hd C.K S.r H m T → WE X e σ H fun v H' => ∃ d m', Hd C.K S.r H' m' (Pl T v d) ∧ Q d m'
def DT (C : Ct) (W : DW) (e : Expr) (δ : Sl) (m : Sto) (Q : Bool → Sto → Prop) : Prop :=
  ∀ (X : Cx) (S : Fr), Fits C X → Takes X (liftW C.K W S) → ∀ (σ : L2.St) (H : Hp) (T : RT), Le S.t T → SlotsIn σ δ T → Hd C.K S.r H m T → WT X e σ H fun b H' => ∃ m', Hd C.K S.r H' m' T ∧ Q b m'
def DA (C : Ct) (W : DW) (es : List Expr) (δ : Sl) (m : Sto) (Q : List D → Sto → Prop) : Prop :=
  ∀ (X : Cx) (S : Fr), Fits C X → Takes X (liftW C.K W S) → ∀ (σ : L2.St) (H : Hp) (T : RT), Le S.t T → SlotsIn σ δ T → Hd C.K S.r H m T → WA X es σ H fun vs H' => ∃ ds m', vs.length = ds.length ∧ Hd C.K S.r H' m' (PlL T vs ds) ∧ Q ds m'
def DS (C : Ct) (W : DW) (st : Stmt) (δ : Sl) (m : Sto) (D : DEn) : Prop :=
  ∀ (X : Cx) (S : Fr), Fits C X → Takes X (liftW C.K W S) → ∀ (σ : L2.St) (H : Hp) (T : RT), Le S.t T → SlotsIn σ δ T → Hd C.K S.r H m T → WS X st (liftD C.K S D) σ H
def DSs (C : Ct) (W : DW) (sts : List Stmt) (δ : Sl) (m : Sto) (D : DEn) : Prop :=
  ∀ (X : Cx) (S : Fr), Fits C X → Takes X (liftW C.K W S) → ∀ (σ : L2.St) (H : Hp) (T : RT), Le S.t T → SlotsIn σ δ T → Hd C.K S.r H m T → WSs X sts (liftD C.K S D) σ H
/-- a target -/
def DG (C : Ct) (W : DW) (tg : Expr) (d : D) (δ : Sl) (m : Sto) (Q : Sl → Sto → Prop) : Prop :=
  ∀ (X : Cx) (S : Fr), Fits C X → Takes X (liftW C.K W S) → ∀ (v : V) (σ : L2.St) (H : Hp) (T : RT), Le S.t T → SlotsIn σ δ T → T v d → Hd C.K S.r H m T → WG X tg v σ H fun σ' H' => ∃ δ' m' T', Le T T' ∧ SlotsIn σ' δ' T' ∧ Hd C.K S.r H' m' T' ∧ Q δ' m'
end G

/-! The data layer's rules: names, constants, operators, comparisons, tests, displays, subscripts. -/
namespace G
open PySem PySem.Spec PyProof.Rows L2

/-- by values -/
def WB (X : Cx) (f : Value → Value → Sem Value) (x y : V) (H : Hp) (Q : VK) : Prop := ∀ (pins : List (Addr × Obj)) (s : Shared) (σ : L2.St) (v u : Value), Inv X pins σ H s → RelV x v → RelV y u → wpAny (model X.prog X.w) X.A (f v u) (EP X pins σ Q) X.xe s
theorem wb_of {X : Cx} {f : Value → Value → Sem Value} {r : R2} {x y : V} {H : Hp} {Q : VK} (h : OpR X f r) (q : r x y H Q) : WB X f x y H Q := fun pins s σ v u I a b => h pins s σ H x y v u Q I a b q
/-- what is wanted of a value, as data -/
def dK (K : PySem.W.Frag) (r : Sto) (T : RT) (Q : D → Sto → Prop) : VK := fun v H' => ∃ d m', Hd K r H' m' (Pl T v d) ∧ Q d m'
abbrev R2D := D → D → Sto → (D → Sto → Prop) → Prop
def OpD (C : Ct) (f : Value → Value → Sem Value) (r : R2D) : Prop := ∀ (X : Cx), Fits C X → ∀ (fr : Sto) (H : Hp) (m : Sto) (T : RT) (x y : V) (d e : D) (Q : D → Sto → Prop), Hd C.K fr H m T → T x d → T y e → r d e m Q → WB X f x y H (dK C.K fr T Q)

section
variable {K : PySem.W.Frag} {fr : Sto} {H : Hp} {m : Sto} {T : RT}
theorem Hd.again {v : V} {d : D} (h : Hd K fr H m T) (t : T v d) : Hd K fr H m (Pl T v d) := h.le fun x y q => q.elim id fun ⟨a, b⟩ => by rw [a, b]; exact t
theorem dk {Q : D → Sto → Prop} {v : V} {d : D} (h : Hd K fr H m T) (r : ∀ Hi, (∀ v d, T v d → Rep K Hi v d) → Rep K Hi v d) (q : Q d m) : dK K fr T Q v H := ⟨d, m, h.pl r, q⟩
theorem dk_int {Q : D → Sto → Prop} {i : Int} (h : Hd K fr H m T) (q : Q (.int i) m) : dK K fr T Q (.int i) H := dk h (fun _ _ => .int i) q
theorem dk_bl {Q : D → Sto → Prop} {i : Bool} (h : Hd K fr H m T) (q : Q (.bl i) m) : dK K fr T Q (.bl i) H := dk h (fun _ _ => .bl i) q
theorem dk_str {Q : D → Sto → Prop} {i : Str} (h : Hd K fr H m T) (q : Q (.str i) m) : dK K fr T Q (.str i) H := dk h (fun _ _ => .str i) q
theorem dk_non {Q : D → Sto → Prop} (h : Hd K fr H m T) (q : Q .non m) : dK K fr T Q .non H := dk h (fun _ _ => .non) q
/-- a new tuple, a new list of what is known -/
theorem dk_tup {Q : D → Sto → Prop} {p : Addr} {xs : List V} {ds : List D} (h : Hd K fr H m T) (hp : H p = none) (r : ∀ Hi, (∀ v d, T v d → Rep K Hi v d) → RepL K Hi xs ds) (q : Q (.tup ds) m) : dK K fr T Q (.ref p) (upd H p (.tup xs)) :=
  ⟨.tup ds, m, h.newI hp fun Hi hi k => .tup (SqT.of upd_same) (fun _ _ => upd_same) ((r Hi k).mono (same_upd hi)), q⟩
theorem dk_lst {Q : D → Sto → Prop} {p : Addr} {xs : List V} {ds : List D} (h : Hd K fr H m T) (hp : H p = none) (r : ∀ Hi, (∀ v d, T v d → Rep K Hi v d) → RepL K Hi xs ds) (q : Q (.lst ds) m) : dK K fr T Q (.ref p) (upd H p (.lst xs)) :=
  ⟨.lst ds, m, h.newI hp fun Hi hi k => .lst upd_same ((r Hi k).mono (same_upd hi)), q⟩
/-- .. as objects -/
theorem dk_lstM {Q : D → Sto → Prop} {p : Addr} {xs : List V} {ds : List D} (h : Hd K fr H m T) (hp : H p = none) (r : ∀ Hi, (∀ v d, T v d → Rep K Hi v d) → RepL K Hi xs ds) (q : ∀ p, m p = none → Q (.ref p) (sput m p (.lst ds))) : dK K fr T Q (.ref p) (upd H p (.lst xs)) :=
  ⟨.ref p, _, h.newM (o := .lst ds) hp fun Hi k => r Hi k, q p (h.free hp)⟩
/-- the same facts, the item known already -/
theorem dk_it {Q : D → Sto → Prop} {v : V} {d : D} (h : Hd K fr H m T) (r : ∀ Hi, (∀ v d, T v d → Rep K Hi v d) → Rep K Hi v d) (q : Q d m) : dK K fr T Q v H := dk h r q
theorem dK.le {T' : RT} {Q : D → Sto → Prop} {v : V} (h : dK K fr T Q v H) (k : Le T' T) : dK K fr T' Q v H := by
  obtain ⟨d, m, a, b⟩ := h
  exact ⟨d, m, a.le (Pl.mono k), b⟩
end

section
variable {C : Ct} {W : DW} {δ : Sl} {m : Sto} {Q : D → Sto → Prop} {a b c e : Expr} {pos : Pos}
theorem DE.mono {Q' : D → Sto → Prop} (h : DE C W e δ m Q) (k : ∀ d m', Q d m' → Q' d m') : DE C W e δ m Q' := fun X S f tk σ H T le sl hd => (h X S f tk σ H T le sl hd).mono fun _ _ ⟨d, m', a, b⟩ => ⟨d, m', a, k _ _ b⟩
theorem DT.mono {Q Q' : Bool → Sto → Prop} (h : DT C W e δ m Q) (k : ∀ d m', Q d m' → Q' d m') : DT C W e δ m Q' := fun X S f tk σ H T le sl hd => (h X S f tk σ H T le sl hd).mono fun _ _ ⟨m', a, b⟩ => ⟨m', a, k _ _ b⟩

/-! ### names, constants -/
theorem de_var (i : Nat) {x : Str} {d : D} (hN : C.N[i]? = some x) (hv : Vis C.sc x) (hd : δ[i]? = some (some d)) (q : Q d m) (hdb : (x == ("__debug__" : Str)) = false := by decide) (hcd : (x == ("__classdict__" : Str)) = false := by decide) : DE C W (.Name x pos) δ m Q := by
  intro X S f tk σ H T le sl hh
  obtain ⟨v, e, t⟩ := sl.2 i d hd
  exact WE.of (pe_var (i := i) (by rw [f.N]; exact hN) (by rw [f.sc]; exact hv) hdb hcd) ⟨v, e, d, m, hh.again t, q⟩
theorem de_int {i : Int} {j : Nat} (q : Q (.int i) m) : DE C W (.Constant (.int i) j pos) δ m Q := fun X S f tk σ H T le sl hh => WE.of pe_int (dk_int hh q)
theorem de_bl {i : Bool} {j : Nat} (q : Q (.bl i) m) : DE C W (.Constant (.bool i) j pos) δ m Q := fun X S f tk σ H T le sl hh => WE.of pe_bl (dk_bl hh q)
theorem de_non {j : Nat} (q : Q .non m) : DE C W (.Constant .none j pos) δ m Q := fun X S f tk σ H T le sl hh => WE.of pe_non (dk_non hh q)
theorem de_str {i : Str} {j : Nat} (q : Q (.str i) m) : DE C W (.Constant (.str i) j pos) δ m Q := fun X S f tk σ H T le sl hh => WE.of pe_str (dk_str hh q)
/-- a module's name -/
def GlC (C : Ct) (x : Str) : Prop := C.sc.names.lookup x = some .globalImplicit
theorem Fits.gl {X : Cx} {x : Str} (f : Fits C X) (h : GlC C x) : Gl X x := by
  show X.env.scope.names.lookup x = some .globalImplicit
  rw [f.sc]
  exact h
/-- data that stands in the written part, whatever the heap -/
def KRep (K : PySem.W.Frag) (v : V) (d : D) : Prop := ∀ H, Rep K H v d
theorem de_glob {x : Str} {v : V} {u : Value} {d : D} (hg : GlC C x) (hm : C.mg x = some u) (r : RelV v u) (k : KRep C.K v d) (q : Q d m) (hdb : (x == ("__debug__" : Str)) = false := by decide) : DE C W (.Name x pos) δ m Q :=
  fun X S f tk σ H T le sl hh => WE.of (pe_glob (f.gl hg) (by rw [f.mg]; exact hm) r hdb) (dk hh (fun Hi _ => k Hi) q)
/-- a built-in class as a value -/
theorem de_bty {x : Str} {n : String} (hg : GlC C x) (hm : C.mg x = none) (hv : bootBuiltins x = some (.type n)) (q : Q (.ty n) m) (hn : x ≠ "__name__" := by decide) (hdb : (x == ("__debug__" : Str)) = false := by decide) : DE C W (.Name x pos) δ m Q :=
  fun X S f tk σ H T le sl hh => WE.of (pe_bltn (v := .ty n) (f.gl hg) (by rw [f.mg]; exact hm) hv rfl hn hdb) (dk hh (fun Hi _ => .ty n) q)

/-! ### two values -/
theorem two {X : Cx} {S : Fr} (f : Fits C X) (tk : Takes X (liftW C.K W S)) {σ : L2.St} {H : Hp} {T : RT} (le : Le S.t T) (sl : SlotsIn σ δ T) (hh : Hd C.K S.r H m T)
    {R : D → D → Sto → Prop} (h : DE C W a δ m fun x m1 => DE C W b δ m1 fun y m2 => R x y m2) {pins : List (Addr × Obj)} {s : Shared} (I : Inv X pins σ H s) {Q : Value → Shared → Prop} {g : Value → Value → Sem Value}
    (hf : ∀ v u s2 x y H2 d e m2 T2, Inv X pins σ H2 s2 → RelV x v → RelV y u → Hd C.K S.r H2 m2 T2 → T2 x d → T2 y e → Le T T2 → R d e m2 → wpAny (model X.prog X.w) X.A (g v u) Q X.xe s2) :
    wpAny (model X.prog X.w) X.A (eval a X.env) (fun v s₁ => wpAny (model X.prog X.w) X.A (eval b X.env) (fun u s₂ => wpAny (model X.prog X.w) X.A (g v u) Q X.xe s₂) X.xe s₁) X.xe s := by
  refine thn (h X S f tk σ H T le sl hh pins s I) fun v s1 ⟨x, H1, I1, r1, d, m1, h1, q1⟩ => ?_
  refine thn (q1 X S f tk σ H1 (Pl T x d) (le.trans Pl.le) (sl.le Pl.le) h1 pins s1 I1) fun u s2 ⟨y, H2, I2, r2, e, m2, h2, q2⟩ => ?_
  exact hf v u s2 x y H2 d e m2 _ I2 r1 r2 h2 (.inl Pl.it) Pl.it (Pl.le.trans Pl.le) q2
theorem de_bin {op : Operator} {r : R2D} (ho : OpD C (binaryOp op) r) (h : DE C W a δ m fun x m1 => DE C W b δ m1 fun y m2 => r x y m2 Q) : DE C W (.BinOp a op b pos) δ m Q := by
  intro X S f tk σ H T le sl hh pins s I
  refine wpAny_BinOp (two f tk le sl hh h I fun v u s2 x y H2 d e m2 T2 I2 rx ry h2 tx ty l2 q => ?_)
  refine thn (ho X f S.r H2 m2 T2 x y d e Q h2 tx ty q pins s2 σ v u I2 rx ry) fun w s3 ⟨z, H3, I3, r3, q3⟩ => ⟨z, H3, I3, r3, ?_⟩
  exact dK.le q3 l2
theorem de_cmp {op : CmpOp} {r : R2D} (ho : OpD C (compareOp op) r) (h : DE C W a δ m fun x m1 => DE C W b δ m1 fun y m2 => r x y m2 Q) (hm : behindInMarks op b = false := by with_unfolding_all rfl) : DE C W (.Compare a [op] [b] pos) δ m Q := by
  intro X S f tk σ H T le sl hh pins s I
  refine wpAny_Compare1 (two f tk le sl hh h I fun v u s2 x y H2 d e m2 T2 I2 rx ry h2 tx ty l2 q => ?_) hm
  refine thn (ho X f S.r H2 m2 T2 x y d e Q h2 tx ty q pins s2 σ v u I2 rx ry) fun w s3 ⟨z, H3, I3, r3, q3⟩ => ⟨z, H3, I3, r3, ?_⟩
  exact dK.le q3 l2
/-- what a test wants of a bool -/
def tB (Q : Bool → Sto → Prop) : D → Sto → Prop := fun d m => ∃ k, d = .bl k ∧ Q k m
theorem tb {Q : Bool → Sto → Prop} {k : Bool} (q : Q k m) : tB Q (.bl k) m := ⟨k, rfl, q⟩
theorem Hd.isbl {K : PySem.W.Frag} {fr : Sto} {H : Hp} {m : Sto} {T : RT} {v : V} {k : Bool} (h : Hd K fr H m (Pl T v (.bl k))) : v = .bl k := by
  have r := h.rep Pl.it
  cases r
  rfl
theorem dt_cmp {Q : Bool → Sto → Prop} {op : CmpOp} {r : R2D} (ho : OpD C (compareOp op) r) (h : DE C W a δ m fun x m1 => DE C W b δ m1 fun y m2 => r x y m2 (tB Q)) (hm : behindInMarks op b = false := by with_unfolding_all rfl) : DT C W (.Compare a [op] [b] pos) δ m Q := by
  intro X S f tk σ H T le sl hh pins s I
  refine wpAny_isTrue_Compare1 ?_ hm
  refine thn (h X S f tk σ H T le sl hh pins s I) fun v s1 ⟨x, H1, I1, r1, d, m1, h1, q1⟩ => ?_
  refine thn (q1 X S f tk σ H1 (Pl T x d) (le.trans Pl.le) (sl.le Pl.le) h1 pins s1 I1) fun u s2 ⟨y, H2, I2, r2, e, m2, h2, q2⟩ => ?_
  refine thn (ho X f S.r H2 m2 _ x y d e _ h2 (.inl Pl.it) Pl.it q2 pins s2 σ v u I2 r1 r2) fun w s3 ⟨z, H3, I3, r3, d3, m3, h3, k, e3, q3⟩ => ?_
  subst e3
  have ez := h3.isbl
  subst ez
  cases r3
  exact wpAny_truthy_bool ⟨H3, I3, m3, h3.le ((Pl.le.trans Pl.le).trans Pl.le), q3⟩
/-- an expression that gives a bool, as a test -/
theorem dt_val {Q : Bool → Sto → Prop} (h : DE C W e δ m (tB Q)) (he : ∀ env whole, isTrue e env whole = (do let v ← whole; standAt e.pos; holding [v] (truthy v)) := by intro _ _; rfl) : DT C W e δ m Q := by
  intro X S f tk σ H T le sl hh pins s I
  refine isTrue_plain (thn (h X S f tk σ H T le sl hh pins s I) fun v s1 ⟨x, H1, I1, r1, d, m1, h1, k, e1, q1⟩ => ?_) (he _ _)
  subst e1
  have ez := h1.isbl
  subst ez
  cases r1
  exact wpAny_truthy_bool ⟨H1, I1, m1, h1.le Pl.le, q1⟩
/-- the truth of any data -/
def truD : D → Sto → (Bool → Sto → Prop) → Prop
  | .non, m, Q => Q false m
  | .bl b, m, Q => Q b m
  | .int i, m, Q => Q (i != 0) m
  | .str s, m, Q => s.length ≤ sizeLine ∧ Q ((s.length : Int) != 0) m
  | .tup l, m, Q => Q (!l.isEmpty) m
  | .lst l, m, Q => Q (!l.isEmpty) m
  | _, _, _ => False
theorem RepL.empty {K : PySem.W.Frag} {H : Hp} {vs : List V} {ds : List D} (r : RepL K H vs ds) : vs.isEmpty = ds.isEmpty := by cases r <;> rfl
theorem dt_truth {Q : Bool → Sto → Prop} (h : DE C W e δ m fun d m' => truD d m' Q) (he : ∀ env whole, isTrue e env whole = (do let v ← whole; standAt e.pos; holding [v] (truthy v)) := by intro _ _; rfl) : DT C W e δ m Q := by
  intro X S f tk σ H T le sl hh pins s I
  refine isTrue_plain (thn (h X S f tk σ H T le sl hh pins s I) fun v s1 ⟨x, H1, I1, r1, d, m1, h1, q1⟩ => ?_) (he _ _)
  have fin : ∀ k, TruV X.K x H1 k → Q k m1 → wpAny (model X.prog X.w) X.A (truthy v) (TP X pins σ fun b H' => ∃ m', Hd C.K S.r H' m' T ∧ Q b m') X.xe s1 := fun k t q => tru_ok pins s1 σ H1 x v _ I1 r1 ⟨k, t, m1, h1.le Pl.le, q⟩
  have rp := h1.rep Pl.it
  cases rp with
  | non => exact fin _ rfl q1
  | bl b => exact fin _ rfl q1
  | int b => exact fin _ rfl q1
  | str b => exact fin _ ⟨q1.1, rfl⟩ q1.2
  | tup h _ r => exact fin _ (.inr (.inl ⟨_, by rw [f.K]; exact h, by rw [r.empty]⟩)) q1
  | lst h r => exact fin _ (.inl ⟨_, SqL.of h, by rw [r.empty]⟩) q1
  | _ => exact False.elim q1

/-! ### and, or, not -/
def WW (X : Cx) (e : Expr) : TT := fun σ H Q => ∀ (whole : Sem Value) (pins : List (Addr × Obj)) (s : Shared), Inv X pins σ H s → wpAny (model X.prog X.w) X.A (isTrue e X.env whole) (TP X pins σ Q) X.xe s
theorem ww {X : Cx} : PW X e (WW X e) := ⟨fun whole pins s _ _ _ I h => h whole pins s I⟩
def DW' (C : Ct) (W : DW) (e : Expr) (δ : Sl) (m : Sto) (Q : Bool → Sto → Prop) : Prop :=
  ∀ (X : Cx) (S : Fr), Fits C X → Takes X (liftW C.K W S) → ∀ (σ : L2.St) (H : Hp) (T : RT), Le S.t T → SlotsIn σ δ T → Hd C.K S.r H m T → WW X e σ H fun b H' => ∃ m', Hd C.K S.r H' m' T ∧ Q b m'
theorem dt_W {Q : Bool → Sto → Prop} (h : DW' C W e δ m Q) : DT C W e δ m Q := fun X S f tk σ H T le sl hh pins s I => h X S f tk σ H T le sl hh _ pins s I
/-- the ways of a test -/
def br (b : Bool) (A B : Prop) : Prop := (b = true → A) ∧ (b = false → B)
theorem br.t {A B : Prop} (h : A) : br true A B := ⟨fun _ => h, fun e => nomatch e⟩
theorem br.f {A B : Prop} (h : B) : br false A B := ⟨(fun e => nomatch e), fun _ => h⟩
theorem br.dec {p : Prop} [Decidable p] {A B : Prop} (h : p → A) (k : ¬ p → B) : br (decide p) A B := ⟨fun e => h (of_decide_eq_true e), fun e => k (of_decide_eq_false e)⟩
theorem br.ndec {p : Prop} [Decidable p] {A B : Prop} (h : ¬ p → A) (k : p → B) : br (!decide p) A B := ⟨fun e => h (of_decide_eq_false (by simpa using e)), fun e => k (of_decide_eq_true (by simpa using e))⟩
theorem br.any {b : Bool} {A B : Prop} (h : b = true → A) (k : b = false → B) : br b A B := ⟨h, k⟩
theorem br.and {b c : Bool} {A B : Prop} (h : br b (br c A B) B) : br (b && c) A B := by
  cases b with
  | true => exact h.1 rfl
  | false => exact br.f (h.2 rfl)
theorem br.or {b c : Bool} {A B : Prop} (h : br b A (br c A B)) : br (b || c) A B := by
  cases b with
  | true => exact br.t (h.1 rfl)
  | false => exact h.2 rfl
theorem br.not {b : Bool} {A B : Prop} (h : br b B A) : br (!b) A B := by
  cases b with
  | true => exact br.f (h.1 rfl)
  | false => exact br.t (h.2 rfl)
variable {rest : List Expr} {B : Bool → Sto → Prop}
theorem dw_one_and (h : DT C W a δ m B) : DW' C W (.BoolOp .And [a] pos) δ m B := fun X S f tk σ H T le sl hh whole pins s I => (pw_and1 (pos := pos) wt).run whole pins s σ H _ I (h X S f tk σ H T le sl hh)
theorem dw_one_or (h : DT C W a δ m B) : DW' C W (.BoolOp .Or [a] pos) δ m B := fun X S f tk σ H T le sl hh whole pins s I => (pw_or1 (pos := pos) wt).run whole pins s σ H _ I (h X S f tk σ H T le sl hh)
theorem dw_and (h : DT C W a δ m fun k m1 => br k (DW' C W (.BoolOp .And (b :: rest) pos) δ m1 B) (B false m1)) : DW' C W (.BoolOp .And (a :: b :: rest) pos) δ m B := by
  intro X S f tk σ H T le sl hh whole pins s I
  refine isTrue_and (thn (h X S f tk σ H T le sl hh pins s I) fun k s1 ⟨H1, I1, m1, h1, q1⟩ => ?_)
  cases k with
  | true => exact q1.1 rfl X S f tk σ H1 T le sl h1 whole pins s1 I1
  | false => exact ⟨H1, I1, m1, h1, q1.2 rfl⟩
theorem dw_or (h : DT C W a δ m fun k m1 => br k (B true m1) (DW' C W (.BoolOp .Or (b :: rest) pos) δ m1 B)) : DW' C W (.BoolOp .Or (a :: b :: rest) pos) δ m B := by
  intro X S f tk σ H T le sl hh whole pins s I
  refine isTrue_or (thn (h X S f tk σ H T le sl hh pins s I) fun k s1 ⟨H1, I1, m1, h1, q1⟩ => ?_)
  cases k with
  | true => exact ⟨H1, I1, m1, h1, q1.1 rfl⟩
  | false => exact q1.2 rfl X S f tk σ H1 T le sl h1 whole pins s1 I1
theorem dt_not (h : DT C W a δ m fun k m1 => B (!k) m1) : DT C W (.UnaryOp .Not a pos) δ m B := fun X S f tk σ H T le sl hh => WT.of (pt_not wt) (h X S f tk σ H T le sl hh)
/-- .. where the parts change nothing: one way -/
def PT (C : Ct) (e : Expr) (δ : Sl) (m : Sto) (k : Bool) : Prop := ∀ (W : DW) (B : Bool → Sto → Prop), B k m → DT C W e δ m B
def PWp (C : Ct) (e : Expr) (δ : Sl) (m : Sto) (k : Bool) : Prop := ∀ (W : DW) (B : Bool → Sto → Prop), B k m → DW' C W e δ m B
theorem pw_one_and {k : Bool} (h : PT C a δ m k) : PWp C (.BoolOp .And [a] pos) δ m k := fun W B q => dw_one_and (h W B q)
theorem pw_one_or {k : Bool} (h : PT C a δ m k) : PWp C (.BoolOp .Or [a] pos) δ m k := fun W B q => dw_one_or (h W B q)
theorem pw_and' {k l : Bool} (h : PT C a δ m k) (h2 : k = true → PWp C (.BoolOp .And (b :: rest) pos) δ m l) : PWp C (.BoolOp .And (a :: b :: rest) pos) δ m (k && l) := fun W B q => dw_and (h W _ ⟨fun e => by subst e; exact h2 rfl W B q, fun e => by subst e; exact q⟩)
theorem pw_or' {k l : Bool} (h : PT C a δ m k) (h2 : k = false → PWp C (.BoolOp .Or (b :: rest) pos) δ m l) : PWp C (.BoolOp .Or (a :: b :: rest) pos) δ m (k || l) := fun W B q => dw_or (h W _ ⟨fun e => by subst e; exact q, fun e => by subst e; exact h2 rfl W B q⟩)
theorem dt_pw {k : Bool} (h : PWp C e δ m k) (q : B k m) : DT C W e δ m B := dt_W (h W B q)
/-- as values -/
theorem de_one {op : BoolOp} (h : DE C W a δ m Q) : DE C W (.BoolOp op [a] pos) δ m Q := fun X S f tk σ H T le sl hh => WE.of (pe_one we) (h X S f tk σ H T le sl hh)
theorem de_and (h : DE C W a δ m (tB fun k m1 => br k (DE C W (.BoolOp .And (b :: rest) pos) δ m1 Q) (Q (.bl false) m1))) : DE C W (.BoolOp .And (a :: b :: rest) pos) δ m Q := by
  intro X S f tk σ H T le sl hh
  refine WE.of (pe_and we we) ?_
  refine (h X S f tk σ H T le sl hh).mono fun v H1 ⟨d, m1, h1, k, e, q⟩ => ?_
  subst e
  refine ⟨k, h1.isbl, ?_⟩
  cases k with
  | true => exact q.1 rfl X S f tk σ H1 T le sl (h1.le Pl.le)
  | false => exact dk_bl (h1.le Pl.le) (q.2 rfl)
theorem de_or (h : DE C W a δ m (tB fun k m1 => br k (Q (.bl true) m1) (DE C W (.BoolOp .Or (b :: rest) pos) δ m1 Q))) : DE C W (.BoolOp .Or (a :: b :: rest) pos) δ m Q := by
  intro X S f tk σ H T le sl hh
  refine WE.of (pe_or we we) ?_
  refine (h X S f tk σ H T le sl hh).mono fun v H1 ⟨d, m1, h1, k, e, q⟩ => ?_
  subst e
  refine ⟨k, h1.isbl, ?_⟩
  cases k with
  | false => exact q.2 rfl X S f tk σ H1 T le sl (h1.le Pl.le)
  | true => exact dk_bl (h1.le Pl.le) (q.1 rfl)
theorem de_not (h : DE C W a δ m (tB fun k m1 => Q (.bl (!k)) m1)) : DE C W (.UnaryOp .Not a pos) δ m Q := by
  intro X S f tk σ H T le sl hh
  refine WE.of (pe_not we) ((h X S f tk σ H T le sl hh).mono fun v H1 ⟨d, m1, h1, k, e, q⟩ => ?_)
  subst e
  exact ⟨k, h1.isbl, dk_bl (h1.le Pl.le) q⟩
/-- .. one way -/
def PE' (C : Ct) (e : Expr) (δ : Sl) (m : Sto) (d : D) : Prop := ∀ (W : DW) (Q : D → Sto → Prop), Q d m → DE C W e δ m Q
theorem pe_and' {k l : Bool} (h : PE' C a δ m (.bl k)) (h2 : k = true → PE' C (.BoolOp .And (b :: rest) pos) δ m (.bl l)) : PE' C (.BoolOp .And (a :: b :: rest) pos) δ m (.bl (k && l)) :=
  fun W Q q => de_and (h W _ (tb ⟨fun e => by subst e; exact h2 rfl W Q q, fun e => by subst e; exact q⟩))
theorem pe_or' {k l : Bool} (h : PE' C a δ m (.bl k)) (h2 : k = false → PE' C (.BoolOp .Or (b :: rest) pos) δ m (.bl l)) : PE' C (.BoolOp .Or (a :: b :: rest) pos) δ m (.bl (k || l)) :=
  fun W Q q => de_or (h W _ (tb ⟨fun e => by subst e; exact q, fun e => by subst e; exact h2 rfl W Q q⟩))
theorem pe_one' {op : BoolOp} {d : D} (h : PE' C a δ m d) : PE' C (.BoolOp op [a] pos) δ m d := fun W Q q => de_one (h W Q q)
theorem de_pe {d : D} (h : PE' C e δ m d) (q : Q d m) : DE C W e δ m Q := h W Q q
theorem de_if (h : DT C W c δ m fun k m1 => br k (DE C W a δ m1 Q) (DE C W b δ m1 Q)) : DE C W (.IfExp c a b pos) δ m Q := by
  intro X S f tk σ H T le sl hh
  refine WE.of (pe_ifExp wt we we) ((h X S f tk σ H T le sl hh).mono fun k H1 ⟨m1, h1, q⟩ => ?_)
  cases k with
  | true => exact q.1 rfl X S f tk σ H1 T le sl h1
  | false => exact q.2 rfl X S f tk σ H1 T le sl h1
/-- a op b op' c -/
theorem de_chain {op op' : CmpOp} {r r' : R2D} (ho : OpD C (compareOp op) r) (ho' : OpD C (compareOp op') r') (h : DE C W a δ m fun x m1 => DE C W b δ m1 fun y m2 => r x y m2 (tB fun k m3 => br k (DE C W c δ m3 fun z m4 => r' y z m4 Q) (Q (.bl false) m3)))
    (hm : lastMarks [op, op'] [b, c] = false := by with_unfolding_all rfl) : DE C W (.Compare a [op, op'] [b, c] pos) δ m Q := by
  intro X S f tk σ H T le sl hh pins s I
  refine Compare_chain (thn (h X S f tk σ H T le sl hh pins s I) fun v s1 ⟨x, H1, I1, r1, d, m1, h1, q1⟩ => chain_link (thn (q1 X S f tk σ H1 (Pl T x d) (le.trans Pl.le) (sl.le Pl.le) h1 pins s1 I1) fun u s2 ⟨y, H2, I2, r2, e, m2, h2, q2⟩ =>
    thn (ho X f S.r H2 m2 _ x y d e _ h2 (.inl Pl.it) Pl.it q2 pins s2 σ v u I2 r1 r2) fun w s3 ⟨z, H3, I3, r3, d3, m3, h3, k, e3, q3⟩ => ?_)) hm
  subst e3
  have ez := h3.isbl
  subst ez
  cases r3
  refine wpAny_truthy_bool ?_
  cases k with
  | false => exact ite_ff ⟨.bl false, H3, I3, rfl, dk_bl (h3.le ((Pl.le.trans Pl.le).trans Pl.le)) (q3.2 rfl)⟩
  | true =>
    refine ite_tt (chain_last (thn (q3.1 rfl X S f tk σ H3 (Pl (Pl T x d) y e) (le.trans (Pl.le.trans Pl.le)) (sl.le (Pl.le.trans Pl.le)) (h3.le Pl.le) pins s3 I3) fun w' s4 ⟨z', H4, I4, r4, d4, m4, h4, q4⟩ => ?_))
    refine thn (ho' X f S.r H4 m4 _ y z' e d4 _ h4 (.inl Pl.it) Pl.it q4 pins s4 σ u w' I4 r2 r4) fun w5 s5 ⟨z5, H5, I5, r5, q5⟩ => ⟨z5, H5, I5, r5, q5.le ((Pl.le.trans Pl.le).trans Pl.le)⟩
theorem dt_chain {op op' : CmpOp} {r r' : R2D} (ho : OpD C (compareOp op) r) (ho' : OpD C (compareOp op') r') (h : DE C W a δ m fun x m1 => DE C W b δ m1 fun y m2 => r x y m2 (tB fun k m3 => br k (DE C W c δ m3 fun z m4 => r' y z m4 (tB B)) (B false m3)))
    (hm : lastMarks [op, op'] [b, c] = false := by with_unfolding_all rfl) : DT C W (.Compare a [op, op'] [b, c] pos) δ m B := by
  intro X S f tk σ H T le sl hh pins s I
  refine isTrue_chain (thn (h X S f tk σ H T le sl hh pins s I) fun v s1 ⟨x, H1, I1, r1, d, m1, h1, q1⟩ => test_link (thn (q1 X S f tk σ H1 (Pl T x d) (le.trans Pl.le) (sl.le Pl.le) h1 pins s1 I1) fun u s2 ⟨y, H2, I2, r2, e, m2, h2, q2⟩ =>
    thn (ho X f S.r H2 m2 _ x y d e _ h2 (.inl Pl.it) Pl.it q2 pins s2 σ v u I2 r1 r2) fun w s3 ⟨z, H3, I3, r3, d3, m3, h3, k, e3, q3⟩ => ?_)) hm
  subst e3
  have ez := h3.isbl
  subst ez
  cases r3
  refine wpAny_truthy_bool ?_
  cases k with
  | false => exact ite_ff ⟨H3, I3, m3, h3.le ((Pl.le.trans Pl.le).trans Pl.le), q3.2 rfl⟩
  | true =>
    refine ite_tt (test_last (thn (q3.1 rfl X S f tk σ H3 (Pl (Pl T x d) y e) (le.trans (Pl.le.trans Pl.le)) (sl.le (Pl.le.trans Pl.le)) (h3.le Pl.le) pins s3 I3) fun w' s4 ⟨z', H4, I4, r4, d4, m4, h4, q4⟩ => ?_))
    refine thn (ho' X f S.r H4 m4 _ y z' e d4 _ h4 (.inl Pl.it) Pl.it q4 pins s4 σ u w' I4 r2 r4) fun w5 s5 ⟨z5, H5, I5, r5, d5, m5, h5, k5, e5, q5⟩ => ?_
    subst e5
    have ez := h5.isbl
    subst ez
    cases r5
    exact wpAny_truthy_bool ⟨H5, I5, m5, h5.le (((Pl.le.trans Pl.le).trans Pl.le).trans Pl.le), q5⟩
end
end G

/-! The data layer's rules: operators by data; displays, subscripts, slices; built-ins by name. -/
namespace G
open PySem PySem.Spec PyProof.Rows L2

section
variable {K : PySem.W.Frag} {fr : Sto} {H : Hp} {m : Sto} {T : RT}
theorem RepL.mem_zip : ∀ {vs : List V} {ds : List D} {v : V} {d : D}, RepL K H vs ds → (v, d) ∈ vs.zip ds → Rep K H v d
  | _, _, _, _, .nil, h => by simp at h
  | _, _, _, _, .cons r t, h => by
    rw [List.zip_cons_cons] at h
    rcases List.mem_cons.mp h with e | h
    · cases e; exact r
    · exact t.mem_zip h
theorem Hd.tupl {a : Addr} {ds : List D} (h : Hd K fr H m T) (t : T (.ref a) (.tup ds)) : ∃ xs, SqT K H a xs ∧ (∀ Hi, Same Hi H → True) ∧ RepL K H xs ds := by
  have r := h.rep t
  cases r with
  | tup q _ r => exact ⟨_, q, fun _ _ => trivial, r⟩
/-- the items of known data, as facts that stay -/
theorem Hd.items {v : V} {ds : List D} (h : Hd K fr H m T) (t : T v (.tup ds)) : ∃ a xs, v = .ref a ∧ SqT K H a xs ∧ xs.length = ds.length ∧ Hd K fr H m (PlL T xs ds) := by
  obtain ⟨h0, Hi, h1, h2, h3⟩ := h
  have r := h3 _ _ t
  cases r with
  | tup q _ r =>
    refine ⟨_, _, rfl, sqt_mono h1 q, r.length, h0, Hi, h1, h2, fun v d x => x.elim (h3 v d) fun hm => ?_⟩
    exact r.mem_zip hm
theorem Hd.itemsL {v : V} {ds : List D} (h : Hd K fr H m T) (t : T v (.lst ds)) : ∃ a xs, v = .ref a ∧ H a = some (.lst xs) ∧ xs.length = ds.length ∧ Hd K fr H m (PlL T xs ds) := by
  obtain ⟨h0, Hi, h1, h2, h3⟩ := h
  have r := h3 _ _ t
  cases r with
  | lst q r =>
    refine ⟨_, _, rfl, h1 _ _ q, r.length, h0, Hi, h1, h2, fun v d x => x.elim (h3 v d) fun hm => ?_⟩
    exact r.mem_zip hm
theorem Hd.itemsF {v : V} {ds : List D} (h : Hd K fr H m T) (t : T v (.frz ds)) : ∃ a xs, v = .ref a ∧ SqL K H a xs ∧ xs.length = ds.length ∧ Hd K fr H m (PlL T xs ds) := by
  obtain ⟨h0, Hi, h1, h2, h3⟩ := h
  have r := h3 _ _ t
  cases r with
  | frz q r =>
    refine ⟨_, _, rfl, h1.seq q, r.length, h0, Hi, h1, h2, fun v d x => x.elim (h3 v d) fun hm => ?_⟩
    exact r.mem_zip hm
/-- the items of an object of the store -/
theorem Hd.itemsO {a : Addr} {ds : List D} (h : Hd K fr H m T) (t : m a = some (.lst ds)) : ∃ xs, H a = some (.lst xs) ∧ xs.length = ds.length ∧ Hd K fr H m (PlL T xs ds) := by
  obtain ⟨h0, Hi, h1, h2, h3⟩ := h
  obtain ⟨q0, u, q, r⟩ := h2 _ _ (sun_l t)
  cases u with
  | lst xs =>
    refine ⟨xs, q, RepL.length r, h0, Hi, h1, h2, fun v d x => x.elim (h3 v d) fun hm => ?_⟩
    exact RepL.mem_zip r hm
  | _ => exact False.elim r
theorem PlL.rep {vs : List V} {ds : List D} (hl : vs.length = ds.length) {Hi : Hp} (k : ∀ v d, PlL T vs ds v d → Rep K Hi v d) : RepL K Hi vs ds := RepL.of_zip hl fun v d q => k v d (.inr q)
theorem PlL.at {vs : List V} {ds : List D} {i : Nat} {v : V} {d : D} (h1 : vs[i]? = some v) (h2 : ds[i]? = some d) : PlL T vs ds v d := by
  refine .inr (List.mem_iff_getElem?.mpr ⟨i, ?_⟩)
  rw [List.getElem?_zip_eq_some]
  exact ⟨h1, h2⟩
theorem PlL.one {v : V} {d : D} : Le (PlL T [v] [d]) (Pl T v d) := fun x y q => q.elim .inl fun z => by
  simp only [List.zip_cons_cons, List.zip_nil_left, List.mem_singleton, Prod.mk.injEq] at z
  exact .inr z
end

theorem sz_le {n : Nat} (h : n ≤ 100000) : n ≤ sizeLine := Nat.le_trans h (by decide)
theorem sz_lt {n : Nat} (h : n < 100000) : n < sizeLine := Nat.lt_of_lt_of_le h (by decide)
theorem sz_lit {n : Nat} (h : Nat.ble n 1000 = true) : n ≤ sizeLine := sz_le (Nat.le_trans (Nat.le_of_ble_eq_true h) (by decide))

/-! ### operators -/
def addD : R2D
  | .int i, .int j, m, Q => Q (.int (i + j)) m
  | .str a, .str b, m, Q => a.length + b.length ≤ sizeLine ∧ Q (.str (a ++ b)) m
  | .tup xs, .tup ys, m, Q => xs.length + ys.length ≤ sizeLine ∧ Q (.tup (xs ++ ys)) m
  | .lst xs, .lst ys, m, Q => xs.length + ys.length ≤ sizeLine ∧ Q (.lst (xs ++ ys)) m
  | .int i, .bl k, m, Q => Q (.int (i + b2i k)) m
  | _, _, _, _ => False
def subD : R2D
  | .int i, .int j, m, Q => Q (.int (i - j)) m
  | _, _, _, _ => False
def mulD : R2D
  | .int i, .int j, m, Q => CMul i j ∧ Q (.int (i * j)) m
  | .lst xs, .int k, m, Q => -(2 ^ 63) ≤ k ∧ k < 2 ^ 63 ∧ xs.length * k.toNat ≤ sizeLine ∧ Q (.lst (List.replicate k.toNat xs).flatten) m
  | _, _, _, _ => False
def divD : R2D
  | .int i, .int j, m, Q => CDiv i j ∧ Q (.int (i / j)) m
  | _, _, _, _ => False
def modD : R2D
  | .int i, .int j, m, Q => 0 < j ∧ Q (.int (i % j)) m
  | _, _, _, _ => False
def powD : R2D
  | .int i, .int j, m, Q => CPow i j ∧ Q (.int (i ^ j.toNat)) m
  | _, _, _, _ => False
section
variable {C : Ct}
theorem od_sub : OpD C (binaryOp .Sub) subD := by
  intro X f fr H m T x y d e Q hh tx ty q
  have rx := hh.rep tx
  have ry := hh.rep ty
  cases rx <;> cases ry <;> first
    | exact wb_of op_sub ⟨_, _, rfl, rfl, dk_int hh q⟩
    | exact False.elim q
theorem od_div : OpD C (binaryOp .FloorDiv) divD := by
  intro X f fr H m T x y d e Q hh tx ty q
  have rx := hh.rep tx
  have ry := hh.rep ty
  cases rx <;> cases ry <;> first
    | exact wb_of op_fdiv ⟨_, _, rfl, rfl, q.1, dk_int hh q.2⟩
    | exact False.elim q
theorem od_mod : OpD C (binaryOp .Mod) modD := by
  intro X f fr H m T x y d e Q hh tx ty q
  have rx := hh.rep tx
  have ry := hh.rep ty
  cases rx <;> cases ry <;> first
    | exact wb_of op_mod ⟨_, _, rfl, rfl, q.1, dk_int hh q.2⟩
    | exact False.elim q
theorem od_pow : OpD C (binaryOp .Pow) powD := by
  intro X f fr H m T x y d e Q hh tx ty q
  have rx := hh.rep tx
  have ry := hh.rep ty
  cases rx <;> cases ry <;> first
    | exact wb_of op_pow ⟨_, _, rfl, rfl, q.1, dk_int hh q.2⟩
    | exact False.elim q
theorem od_add : OpD C (binaryOp .Add) addD := by
  intro X f fr H m T x y d e Q hh tx ty q
  cases d <;> cases e <;> first
    | exact False.elim q
    | skip
  · have rx := hh.rep tx; have ry := hh.rep ty; cases rx; cases ry
    exact wb_of op_add_ib ⟨_, _, rfl, rfl, dk_int hh q⟩
  · have rx := hh.rep tx; have ry := hh.rep ty; cases rx; cases ry
    exact wb_of op_add ⟨_, _, rfl, rfl, dk_int hh q⟩
  · have rx := hh.rep tx; have ry := hh.rep ty; cases rx; cases ry
    exact wb_of op_add_str ⟨_, _, rfl, rfl, q.1, dk_str hh q.2⟩
  · rename_i xs ys
    obtain ⟨a, us, rfl, hu, lu, h1⟩ := hh.items tx
    obtain ⟨b, vs, rfl, hv, lv, h2⟩ := h1.items (PlL.le _ _ ty)
    refine wb_of op_catA ⟨a, b, us, vs, rfl, rfl, by rw [f.K]; exact hu, by rw [f.K]; exact hv, by rw [lu, lv]; exact q.1, fun e => ?_, fun _ e => ?_, fun _ _ p hp => ?_⟩
    · have e2 : xs = [] := List.length_eq_zero_iff.mp (by rw [← lu, e]; rfl)
      subst e2
      exact ⟨_, _, hh.again ty, by simpa using q.2⟩
    · have e2 : ys = [] := List.length_eq_zero_iff.mp (by rw [← lv, e]; rfl)
      subst e2
      exact ⟨_, _, hh.again tx, by simpa using q.2⟩
    · refine dK.le (dk_tup h2 hp (fun Hi k => (PlL.rep lu fun v d z => k v d (.inl z)).append (PlL.rep (T := T) lv fun v d z => k v d (z.elim (fun w => .inl (.inl w)) .inr))) q.2) (PlL.le.trans PlL.le)
  · rename_i xs ys
    obtain ⟨a, us, rfl, hu, lu, h1⟩ := hh.itemsL tx
    obtain ⟨b, vs, rfl, hv, lv, h2⟩ := h1.itemsL (PlL.le _ _ ty)
    refine wb_of op_cat ⟨a, b, us, vs, rfl, rfl, hu, hv, by rw [lu, lv]; exact q.1, fun p hp => ?_⟩
    refine dK.le (dk_lst h2 hp (fun Hi k => (PlL.rep lu fun v d z => k v d (.inl z)).append (PlL.rep (T := T) lv fun v d z => k v d (z.elim (fun w => .inl (.inl w)) .inr))) q.2) (PlL.le.trans PlL.le)
theorem RepL.rep {K : PySem.W.Frag} {H : Hp} {vs : List V} {ds : List D} (r : RepL K H vs ds) : ∀ n : Nat, RepL K H (List.replicate n vs).flatten (List.replicate n ds).flatten
  | 0 => .nil
  | n + 1 => by
    rw [List.replicate_succ, List.replicate_succ, List.flatten_cons, List.flatten_cons]
    exact r.append (r.rep n)
theorem od_mul : OpD C (binaryOp .Mult) mulD := by
  intro X f fr H m T x y d e Q hh tx ty q
  cases d <;> cases e <;> first
    | exact False.elim q
    | skip
  · have rx := hh.rep tx; have ry := hh.rep ty; cases rx; cases ry
    exact wb_of op_mul ⟨_, _, rfl, rfl, q.1, dk_int hh q.2⟩
  · rename_i xs k
    obtain ⟨a, us, rfl, hu, lu, h1⟩ := hh.itemsL tx
    have ry := hh.rep ty
    cases ry
    refine wb_of op_rep ⟨a, k, us, rfl, rfl, hu, q.1, q.2.1, by rw [lu]; exact q.2.2.1, fun p hp => ?_⟩
    exact dK.le (dk_lst h1 hp (fun Hi kk => (PlL.rep lu kk).rep _) q.2.2.2) PlL.le

/-! ### comparisons of ints, texts; is None -/
def cmpI (p : Int → Int → Bool) : R2D
  | .int i, .int j, m, Q => Q (.bl (p i j)) m
  | _, _, _, _ => False
theorem od_cI {op : CmpOp} {p : Int → Int → Bool} (h : ∀ X : Cx, OpR X (compareOp op) (rI0 fun i j => .bl (p i j))) : OpD C (compareOp op) (cmpI p) := by
  intro X f fr H m T x y d e Q hh tx ty q
  cases d <;> cases e <;> first
    | exact False.elim q
    | skip
  have rx := hh.rep tx; have ry := hh.rep ty; cases rx; cases ry
  exact wb_of (h X) ⟨_, _, rfl, rfl, dk_bl hh q⟩
theorem od_lt : OpD C (compareOp .Lt) (cmpI fun i j => decide (i < j)) := od_cI fun _ => op_lt
theorem od_le : OpD C (compareOp .LtE) (cmpI fun i j => decide (i ≤ j)) := od_cI fun _ => op_le
theorem od_gt : OpD C (compareOp .Gt) (cmpI fun i j => decide (j < i)) := od_cI fun _ => op_gt
theorem od_ge : OpD C (compareOp .GtE) (cmpI fun i j => decide (j ≤ i)) := od_cI fun _ => op_ge
def isN : D → Bool
  | .non => true
  | _ => false
def isD : R2D := fun d e m Q => e = .non ∧ Q (.bl (isN d)) m
def isntD : R2D := fun d e m Q => e = .non ∧ Q (.bl (!isN d)) m
theorem Rep.isN {K : PySem.W.Frag} {H : Hp} {v : V} {d : D} (r : Rep K H v d) : decide (v = .non) = isN d := by
  cases r <;> first | rfl | exact decide_eq_false (by intro z; cases z)
theorem od_is : OpD C (compareOp .Is) isD := by
  intro X f fr H m T x y d e Q hh tx ty q
  obtain ⟨rfl, q⟩ := q
  have rx := hh.rep tx
  have ry := hh.rep ty
  cases ry
  exact wb_of op_isN ⟨rfl, by rw [rx.isN]; exact dk_bl hh q⟩
theorem od_isnt : OpD C (compareOp .IsNot) isntD := by
  intro X f fr H m T x y d e Q hh tx ty q
  obtain ⟨rfl, q⟩ := q
  have rx := hh.rep tx
  have ry := hh.rep ty
  cases ry
  exact wb_of op_notN ⟨rfl, by rw [rx.isN]; exact dk_bl hh q⟩

/-! ### == of data -/
mutual
/-- a datum as the library's own; what it has no word for is a text that nobody writes -/
def toPy : D → PyData
  | .non => .none
  | .bl b => .bool b
  | .int i => .int i
  | .str s => .str s
  | .tup l => .tuple (toPyL l)
  | .lst l => .list (toPyL l)
  | .frz l => .list (toPyL l)
  | _ => .none
def toPyL : List D → List PyData
  | [] => []
  | d :: l => toPy d :: toPyL l
end
mutual
/-- data that == may look at: n deep at most -/
def okD : Nat → D → Bool
  | _, .non => true
  | _, .bl _ => true
  | _, .int _ => true
  | _, .str s => PyData.strOk s
  | n + 1, .tup l => okDL n l
  | n + 1, .lst l => okDL n l
  | _, _ => false
def okDL : Nat → List D → Bool
  | _, [] => true
  | n, d :: l => okD n d && okDL n l
end
mutual
theorem okD_lay : ∀ (n : Nat) (d : D), okD n d = true → (toPy d).canLay0 = true
  | _, .non, _ => by simp [toPy, PyData.canLay0]
  | _, .bl _, _ => by simp [toPy, PyData.canLay0]
  | _, .int _, _ => by simp [toPy, PyData.canLay0]
  | _, .str s, h => by simpa [toPy, PyData.canLay0, okD] using h
  | n + 1, .tup l, h => by
    have := okDL_lay n l (by simpa [okD] using h)
    simpa [toPy, PyData.canLay0] using this
  | n + 1, .lst l, h => by
    have := okDL_lay n l (by simpa [okD] using h)
    simpa [toPy, PyData.canLay0] using this
  | 0, .tup _, h => by simp [okD] at h
  | 0, .lst _, h => by simp [okD] at h
  | _, .frz _, h => by simp [okD] at h
  | _, .dic _ _, h => by simp [okD] at h
  | _, .dit _ _, h => by simp [okD] at h
  | _, .ref _, h => by simp [okD] at h
  | _, .ty _, h => by simp [okD] at h
theorem okDL_lay : ∀ (n : Nat) (l : List D), okDL n l = true → PyData.canLayAll0 (toPyL l) = true
  | _, [], _ => by simp [toPyL, PyData.canLayAll0]
  | n, d :: l, h => by
    have h' : okD n d = true ∧ okDL n l = true := by simpa [okDL] using h
    simp [toPyL, PyData.canLayAll0, okD_lay n d h'.1, okDL_lay n l h'.2]
end
mutual
theorem okD_depth : ∀ (n : Nat) (d : D), okD n d = true → (toPy d).depth ≤ n + 1
  | _, .non, _ => by simp [toPy, PyData.depth]
  | _, .bl _, _ => by simp [toPy, PyData.depth]
  | _, .int _, _ => by simp [toPy, PyData.depth]
  | _, .str s, h => by simp [toPy, PyData.depth]
  | n + 1, .tup l, h => by
    have := okDL_depth n l (by simpa [okD] using h)
    simp [toPy, PyData.depth]; omega
  | n + 1, .lst l, h => by
    have := okDL_depth n l (by simpa [okD] using h)
    simp [toPy, PyData.depth]; omega
  | 0, .tup _, h => by simp [okD] at h
  | 0, .lst _, h => by simp [okD] at h
  | _, .frz _, h => by simp [okD] at h
  | _, .dic _ _, h => by simp [okD] at h
  | _, .dit _ _, h => by simp [okD] at h
  | _, .ref _, h => by simp [okD] at h
  | _, .ty _, h => by simp [okD] at h
theorem okDL_depth : ∀ (n : Nat) (l : List D), okDL n l = true → PyData.depthAll (toPyL l) ≤ n + 1
  | _, [], _ => by simp [toPyL, PyData.depthAll]
  | n, d :: l, h => by
    have h' : okD n d = true ∧ okDL n l = true := by simpa [okDL] using h
    have h1 := okD_depth n d h'.1
    have h2 := okDL_depth n l h'.2
    simp [toPyL, PyData.depthAll]; omega
end
theorem okD_shaped {n : Nat} {d : D} (h : okD n d = true) (hn : n ≤ 60) : SeqAt.shaped (toPy d) = true := by
  unfold SeqAt.shaped
  rw [okD_lay n d h, Bool.true_and]
  exact decide_eq_true (Nat.le_trans (okD_depth n d h) (by omega))
mutual
theorem Rep.dp {K : PySem.W.Frag} {H : Hp} : ∀ {v : V} {d : D} (n : Nat), Rep K H v d → okD n d = true → Dp K H v (toPy d)
  | _, _, _, .non, _ => by simp only [toPy]; exact .non
  | _, _, _, .bl b, _ => by simp only [toPy]; exact .bl b
  | _, _, _, .int b, _ => by simp only [toPy]; exact .int b
  | _, _, _, .str b, _ => by simp only [toPy]; exact .str b
  | _, _, n + 1, .tup h _ r, k => by simp only [toPy]; exact .tup h (RepL.dp n r (by simpa [okD] using k))
  | _, _, n + 1, .lst h r, k => by simp only [toPy]; exact .lst (SqL.of h) (RepL.dp n r (by simpa [okD] using k))
  | _, _, 0, .tup h _ r, k => by simp [okD] at k
  | _, _, 0, .lst h r, k => by simp [okD] at k
  | _, _, _, .frz h r, k => by simp [okD] at k
  | _, _, _, .dic _ _ _, k => by simp [okD] at k
  | _, _, _, .dit _ _ _, k => by simp [okD] at k
  | _, _, _, .pin _, k => by simp [okD] at k
  | _, _, _, .ref _, k => by simp [okD] at k
  | _, _, _, .ty _, k => by simp [okD] at k
theorem RepL.dp {K : PySem.W.Frag} {H : Hp} : ∀ {v : List V} {d : List D} (n : Nat), RepL K H v d → okDL n d = true → DpAll K H v (toPyL d)
  | _, _, _, .nil, _ => by simp only [toPyL]; exact .nil
  | _, _, n, .cons h r, k => by
    simp only [toPyL]
    have h' := Bool.and_eq_true_iff.mp (show (okD n _ && okDL n _) = true from by simpa [okDL] using k)
    exact .cons (Rep.dp n h h'.1) (RepL.dp n r h'.2)
end
def eqvD (d e : D) : Bool := PyData.eqv (toPy d) (toPy e)
def eqD : R2D := fun d e m Q => ∃ n, n ≤ 60 ∧ okD n d = true ∧ okD n e = true ∧ Q (.bl (eqvD d e)) m
def neD : R2D := fun d e m Q => ∃ n, n ≤ 60 ∧ okD n d = true ∧ okD n e = true ∧ Q (.bl (!eqvD d e)) m
theorem od_eq : OpD C (compareOp .Eq) eqD := by
  intro X f fr H m T x y d e Q hh tx ty ⟨n, hn, o1, o2, q⟩
  exact wb_of (op_eqD (by have := f.un; omega)) ⟨_, _, by rw [f.K]; exact (hh.rep tx).dp n o1, by rw [f.K]; exact (hh.rep ty).dp n o2, okD_shaped o1 hn, okD_shaped o2 hn, dk_bl hh q⟩
theorem od_ne : OpD C (compareOp .NotEq) neD := by
  intro X f fr H m T x y d e Q hh tx ty ⟨n, hn, o1, o2, q⟩
  exact wb_of (op_neD (by have := f.un; omega)) ⟨_, _, by rw [f.K]; exact (hh.rep tx).dp n o1, by rw [f.K]; exact (hh.rep ty).dp n o2, okD_shaped o1 hn, okD_shaped o2 hn, dk_bl hh q⟩
end
end G

/-! The data layer's rules: displays, subscripts, slices; calls of built-ins. -/
namespace G
open PySem PySem.Spec PyProof.Rows L2

section
variable {C : Ct} {W : DW} {δ : Sl} {m : Sto} {Q : D → Sto → Prop} {a b c e : Expr} {es : List Expr} {pos : Pos}
/-! ### argument lists, displays -/
theorem da_nil {Q : List D → Sto → Prop} (q : Q [] m) : DA C W [] δ m Q := fun X S f tk σ H T le sl hh => WA.of pa_nil ⟨[], m, rfl, hh.le fun v d z => z.elim id fun h => by simp at h, q⟩
theorem da_cons {Q : List D → Sto → Prop} (h : DE C W e δ m fun d m1 => DA C W es δ m1 fun ds m2 => Q (d :: ds) m2) (hs : ∀ env, starEach (e :: es) env = (false, eval e env) :: starEach es env := by intro _; rfl) : DA C W (e :: es) δ m Q := by
  intro X S f tk σ H T le sl hh
  refine WA.of (pa_cons we wa (hs _)) ((h X S f tk σ H T le sl hh).mono fun v H1 ⟨d, m1, h1, q1⟩ => ?_)
  refine (q1 X S f tk σ H1 (Pl T v d) (le.trans Pl.le) (sl.le Pl.le) h1).mono fun vs H2 ⟨ds, m2, hl, h2, q2⟩ => ?_
  refine ⟨d :: ds, m2, by rw [List.length_cons, List.length_cons, hl], h2.le fun x y z => z.elim (fun z => .inl (.inl z)) fun z => ?_, q2⟩
  rw [List.zip_cons_cons] at z
  rcases List.mem_cons.mp z with z | z
  · cases z; exact .inl Pl.it
  · exact .inr z
theorem de_tup {k : Nat} (h : DA C W es δ m fun ds m1 => ds.length ≤ sizeLine ∧ Q (.tup ds) m1) : DE C W (.Tuple es k pos) δ m Q := by
  intro X S f tk σ H T le sl hh
  refine WE.of (pe_tup wa) ((h X S f tk σ H T le sl hh).mono fun vs H1 ⟨ds, m1, hl, h1, hz, q⟩ => ⟨by rw [hl]; exact hz, fun p hp => ?_⟩)
  exact dK.le (dk_tup h1 hp (fun Hi k => PlL.rep hl k) q) PlL.le
theorem de_lst (h : DA C W es δ m fun ds m1 => ds.length ≤ sizeLine ∧ Q (.lst ds) m1) : DE C W (.List es pos) δ m Q := by
  intro X S f tk σ H T le sl hh
  refine WE.of (pe_lst wa) ((h X S f tk σ H T le sl hh).mono fun vs H1 ⟨ds, m1, hl, h1, hz, q⟩ => ⟨by rw [hl]; exact hz, fun p hp => ?_⟩)
  exact dK.le (dk_lst h1 hp (fun Hi k => PlL.rep hl k) q) PlL.le
/-- .. an object -/
theorem de_lstM (h : DA C W es δ m fun ds m1 => ds.length ≤ sizeLine ∧ ∀ p, m1 p = none → Q (.ref p) (sput m1 p (.lst ds))) : DE C W (.List es pos) δ m Q := by
  intro X S f tk σ H T le sl hh
  refine WE.of (pe_lst wa) ((h X S f tk σ H T le sl hh).mono fun vs H1 ⟨ds, m1, hl, h1, hz, q⟩ => ⟨by rw [hl]; exact hz, fun p hp => ?_⟩)
  exact dK.le (dk_lstM h1 hp (fun Hi k => PlL.rep hl k) q) PlL.le
/-- a local list becomes data -/
theorem de_freeze (h : DE C W e δ m fun d m1 => ∃ p ds, d = .ref p ∧ m1 p = some (.lst ds) ∧ Q (.lst ds) (sdel m1 p)) : DE C W e δ m Q := by
  intro X S f tk σ H T le sl hh
  refine (h X S f tk σ H T le sl hh).mono fun v H1 ⟨d, m1, h1, p, ds, e, hm, q⟩ => ?_
  subst e
  have r := h1.rep Pl.it
  cases r
  exact ⟨_, _, (h1.le Pl.le).freezeL hm, q⟩

/-! ### subscripts -/
theorem atI_rep {α β : Type} {xs : List α} {ds : List β} {i : Int} {d : β} (hl : xs.length = ds.length) (h : atI ds i = some d) : ∃ (v : α) (j : Nat), atI xs i = some v ∧ xs[j]? = some v ∧ ds[j]? = some d := by
  unfold atI at h ⊢
  rw [← hl] at h
  cases e : ixN xs.length i with
  | none => rw [e] at h; cases h
  | some j =>
    rw [e] at h
    have hj : ds[j]? = some d := h
    have hlt : j < xs.length := by rw [hl]; exact (List.getElem?_eq_some_iff.mp hj).1
    exact ⟨xs[j], j, List.getElem?_eq_getElem hlt, List.getElem?_eq_getElem hlt, hj⟩
def ixD : R2D
  | .tup ds, .int i, m, Q => ∃ d, atI ds i = some d ∧ Q d m
  | .lst ds, .int i, m, Q => ∃ d, atI ds i = some d ∧ Q d m
  | .frz ds, .int i, m, Q => ∃ d, atI ds i = some d ∧ Q d m
  | .ref p, .int i, m, Q => ∃ ds d, m p = some (.lst ds) ∧ atI ds i = some d ∧ Q d m
  | .str z, .int i, m, Q => ∃ c, z.length ≤ sizeLine ∧ atI z.cps.toList i = some c ∧ Q (.str ⟨#[c]⟩) m
  | _, _, _, _ => False
theorem de_ix (h : DE C W a δ m fun x m1 => DE C W b δ m1 fun y m2 => ixD x y m2 Q) (hs : PlainIx b := by intro _ _; rfl) : DE C W (.Subscript a b pos) δ m Q := by
  intro X S f tk σ H T le sl hh
  refine WE.of (pe_ix ix_seq we we hs) ((h X S f tk σ H T le sl hh).mono fun v H1 ⟨d, m1, h1, q1⟩ => ?_)
  refine (q1 X S f tk σ H1 (Pl T v d) (le.trans Pl.le) (sl.le Pl.le) h1).mono fun u H2 ⟨e, m2, h2, q2⟩ => ?_
  have tv : Pl (Pl T v d) u e v d := .inl Pl.it
  have ru := h2.rep (Pl.it (T := Pl T v d) (v := u) (d := e))
  have lel : Le T (Pl (Pl T v d) u e) := Pl.le.trans Pl.le
  cases d with
  | tup ds =>
    cases e with
    | int i =>
      cases ru
      obtain ⟨d, ha, q⟩ := q2
      obtain ⟨p, xs, rfl, hq, hl, h3⟩ := h2.items tv
      obtain ⟨v', j, e1, e2, e3⟩ := atI_rep hl ha
      exact .inr (.inl ⟨p, xs, i, v', rfl, rfl, by rw [f.K]; exact hq, e1, d, m2, (h3.again (PlL.at e2 e3)).le (Pl.mono (lel.trans PlL.le)), q⟩)
    | _ => exact False.elim q2
  | lst ds =>
    cases e with
    | int i =>
      cases ru
      obtain ⟨d, ha, q⟩ := q2
      obtain ⟨p, xs, rfl, hq, hl, h3⟩ := h2.itemsL tv
      obtain ⟨v', j, e1, e2, e3⟩ := atI_rep hl ha
      exact .inl ⟨p, xs, i, v', rfl, rfl, SqL.of hq, e1, d, m2, (h3.again (PlL.at e2 e3)).le (Pl.mono (lel.trans PlL.le)), q⟩
    | _ => exact False.elim q2
  | frz ds =>
    cases e with
    | int i =>
      cases ru
      obtain ⟨d, ha, q⟩ := q2
      obtain ⟨p, xs, rfl, hq, hl, h3⟩ := h2.itemsF tv
      obtain ⟨v', j, e1, e2, e3⟩ := atI_rep hl ha
      exact .inl ⟨p, xs, i, v', rfl, rfl, by rw [f.K]; exact hq, e1, d, m2, (h3.again (PlL.at e2 e3)).le (Pl.mono (lel.trans PlL.le)), q⟩
    | _ => exact False.elim q2
  | ref p =>
    cases e with
    | int i =>
      cases ru
      have rv := h2.rep tv
      cases rv
      obtain ⟨ds, d, hm, ha, q⟩ := q2
      obtain ⟨xs, hq, hl, h3⟩ := h2.itemsO hm
      obtain ⟨v', j, e1, e2, e3⟩ := atI_rep hl ha
      exact .inl ⟨p, xs, i, v', rfl, rfl, SqL.of hq, e1, d, m2, (h3.again (PlL.at e2 e3)).le (Pl.mono (lel.trans PlL.le)), q⟩
    | _ => exact False.elim q2
  | str z =>
    cases e with
    | int i =>
      cases ru
      have rv := h2.rep tv
      cases rv
      obtain ⟨c, hz, hc, q⟩ := q2
      exact .inr (.inr ⟨z, i, c, rfl, rfl, hz, hc, dK.le (dk_str h2 q) lel⟩)
    | _ => exact False.elim q2
  | _ => exact False.elim q2

/-! ### slices -/
def cutL {α : Type} (xs : List α) (lo hi : Option Int) : List α := (xs.drop (HT.sIx xs.length 0 lo)).take (HT.sIx xs.length xs.length hi - HT.sIx xs.length 0 lo)
theorem RepL.cut {K : PySem.W.Frag} {H : Hp} {vs : List V} {ds : List D} (r : RepL K H vs ds) (lo hi : Option Int) : RepL K H (cutV vs lo hi) (cutL ds lo hi) := by
  unfold cutV cutL
  rw [r.length]
  exact (r.drop _).take _
def DO (C : Ct) (W : DW) (e : Option Expr) (δ : Sl) (m : Sto) (Q : Option Int → Sto → Prop) : Prop := match e with
  | none => Q none m
  | some e => DE C W e δ m fun d m1 => ∃ i, d = .int i ∧ Q (some i) m1
theorem do_run {e : Option Expr} {Q : Option Int → Sto → Prop} (h : DO C W e δ m Q) {X : Cx} {S : Fr} (f : Fits C X) (tk : Takes X (liftW C.K W S)) : ∃ t, PO X e t ∧ ∀ (σ : L2.St) (H : Hp) (T : RT), Le S.t T → SlotsIn σ δ T → Hd C.K S.r H m T → t σ H fun o H' => ∃ m', Hd C.K S.r H' m' T ∧ Q o m' := by
  cases e with
  | none => exact ⟨_, po_none, fun σ H T le sl hh => ⟨m, hh, h⟩⟩
  | some e =>
    refine ⟨_, po_some we, fun σ H T le sl hh => WE.mono (h X S f tk σ H T le sl hh) fun v H1 ⟨d, m1, h1, i, ed, q⟩ => ?_⟩
    subst ed
    have r := h1.rep Pl.it
    cases r
    exact ⟨i, rfl, m1, h1.le Pl.le, q⟩
def cutD : D → Option Int → Option Int → Sto → (D → Sto → Prop) → Prop
  | .str z, lo, hi, m, Q => z.length ≤ sizeLine ∧ Q (.str (cutS z lo hi)) m
  | .tup ds, lo, hi, m, Q => Q (.tup (cutL ds lo hi)) m
  | .lst ds, lo, hi, m, Q => Q (.lst (cutL ds lo hi)) m
  | .frz ds, lo, hi, m, Q => Q (.lst (cutL ds lo hi)) m
  | .ref p, lo, hi, m, Q => ∃ ds, m p = some (.lst ds) ∧ Q (.lst (cutL ds lo hi)) m
  | _, _, _, _, _ => False
/-- the reading of an optional part, the widest -/
def WO (X : Cx) (e : Option Expr) : TO := fun σ H Q => ∀ (pins : List (Addr × Obj)) (s : Shared), Inv X pins σ H s → wpAny (model X.prog X.w) X.A (evalPart e X.env) (fun u s' => ∃ o H', Inv X pins σ H' s' ∧ IsPart u o ∧ Q o H') X.xe s
theorem wo {X : Cx} {e : Option Expr} : PO X e (WO X e) := ⟨fun pins s _ _ _ I h => h pins s I⟩
theorem do_wo {e : Option Expr} {Q : Option Int → Sto → Prop} (h : DO C W e δ m Q) {X : Cx} {S : Fr} (f : Fits C X) (tk : Takes X (liftW C.K W S)) {σ : L2.St} {H : Hp} {T : RT} (le : Le S.t T) (sl : SlotsIn σ δ T) (hh : Hd C.K S.r H m T) :
    WO X e σ H fun o H' => ∃ m', Hd C.K S.r H' m' T ∧ Q o m' := by
  obtain ⟨t, p, k⟩ := do_run h f tk
  exact fun pins s I => p.run pins s σ H _ I (k σ H T le sl hh)
theorem WO.mono {X : Cx} {e : Option Expr} {σ : L2.St} {H : Hp} {Q Q' : Option Int → Hp → Prop} (h : WO X e σ H Q) (k : ∀ o H', Q o H' → Q' o H') : WO X e σ H Q' := fun pins s I => thn (h pins s I) fun _ _ ⟨o, H', a, b, c⟩ => ⟨o, H', a, b, k _ _ c⟩
theorem de_slice {lo hi : Option Expr} {p2 : Pos} (h : DE C W a δ m fun x m1 => DO C W lo δ m1 fun l m2 => DO C W hi δ m2 fun u m3 => cutD x l u m3 Q) : DE C W (.Subscript a (.Slice lo hi none p2) pos) δ m Q := by
  intro X S f tk σ H T le sl hh
  refine WE.of (pe_slice (sl_str.or (sl_tupA.or sl_list)) we wo wo) ((h X S f tk σ H T le sl hh).mono fun v H1 ⟨d, m1, h1, q1⟩ => ?_)
  refine (do_wo q1 f tk (le.trans Pl.le) (sl.le Pl.le) h1).mono fun l H2 ⟨m2, h2, q2⟩ => ?_
  refine (do_wo q2 f tk (le.trans Pl.le) (sl.le Pl.le) h2).mono fun u H3 ⟨m3, h3, q3⟩ => ?_
  cases d with
  | str z =>
    have r := h3.rep Pl.it
    cases r
    exact .inl ⟨z, rfl, q3.1, dK.le (dk_str h3 q3.2) Pl.le⟩
  | tup ds =>
    obtain ⟨p, xs, rfl, hq, hl, h4⟩ := h3.items Pl.it
    refine .inr (.inl ⟨p, xs, rfl, by rw [f.K]; exact hq, fun hw => ?_, fun _ p hp => ?_⟩)
    · have e : cutL ds l u = ds := by
        unfold cutL
        rw [hl] at hw
        rw [hw.1, hw.2, List.drop_zero, Nat.sub_zero]
        exact List.take_length
      have q4 : Q (.tup (cutL ds l u)) m3 := q3
      rw [e] at q4
      exact ⟨_, m3, (h3.again Pl.it).le (Pl.mono Pl.le), q4⟩
    · exact dK.le (dk_tup h4 hp (fun Hi k => (PlL.rep hl k).cut l u) q3) (Pl.le.trans PlL.le)
  | lst ds =>
    obtain ⟨p, xs, rfl, hq, hl, h4⟩ := h3.itemsL Pl.it
    refine .inr (.inr ⟨p, xs, rfl, SqL.of hq, fun p hp => ?_⟩)
    exact dK.le (dk_lst h4 hp (fun Hi k => (PlL.rep hl k).cut l u) q3) (Pl.le.trans PlL.le)
  | frz ds =>
    obtain ⟨p, xs, rfl, hq, hl, h4⟩ := h3.itemsF Pl.it
    refine .inr (.inr ⟨p, xs, rfl, by rw [f.K]; exact hq, fun p hp => ?_⟩)
    exact dK.le (dk_lst h4 hp (fun Hi k => (PlL.rep hl k).cut l u) q3) (Pl.le.trans PlL.le)
  | ref p =>
    obtain ⟨ds, hm, q⟩ := q3
    have r := h3.rep Pl.it
    cases r
    obtain ⟨xs, hq, hl, h4⟩ := h3.itemsO hm
    refine .inr (.inr ⟨p, xs, rfl, SqL.of hq, fun p hp => ?_⟩)
    exact dK.le (dk_lst h4 hp (fun Hi k => (PlL.rep hl k).cut l u) q) (Pl.le.trans PlL.le)
  | _ => exact False.elim q3

/-! ### calls of built-ins -/
def WC (X : Cx) (g : Value) : List V → Hp → VK → Prop := fun vs H Q => ∀ (pins : List (Addr × Obj)) (s : Shared) (σ : L2.St) (us : List Value), Inv X pins σ H s → Vals vs us → wpAny (model X.prog X.w) X.A (call g us) (EP X pins σ Q) X.xe s
theorem wc {X : Cx} {g : Value} : CallR X g (WC X g) := fun pins s σ H xs us Q I r h => h pins s σ us I r
theorem wc_of {X : Cx} {g : Value} {r : List V → Hp → VK → Prop} {vs : List V} {H : Hp} {Q : VK} (h : CallR X g r) (q : r vs H Q) : WC X g vs H Q := fun pins s σ us I rv => h pins s σ H vs us Q I rv q
abbrev RLD := List D → Sto → (D → Sto → Prop) → Prop
def CallD (C : Ct) (g : Value) (r : RLD) : Prop := ∀ (X : Cx), Fits C X → ∀ (fr : Sto) (H : Hp) (m : Sto) (T : RT) (vs : List V) (ds : List D) (Q : D → Sto → Prop), vs.length = ds.length → Hd C.K fr H m (PlL T vs ds) → r ds m Q → WC X g vs H (dK C.K fr T Q)
theorem de_callB {id : String} {x : Str} {p : Pos} {r : RLD} (hc : CallD C (.builtin id) r) (hg : GlC C x) (hm : C.mg x = none) (hv : bootBuiltins x = some (.builtin id)) (h : DA C W (e :: es) δ m fun ds m1 => r ds m1 Q) (hn : x ≠ "__name__" := by decide) (hdb : (x == ("__debug__" : Str)) = false := by decide)
    (he : ∀ env, starEach (e :: es) env = (false, eval e env) :: starEach es env := by intro _; rfl) (hpl : ∀ env, (backTo pos (starEach es env)).any (·.1) = false := by intro _; rfl) : DE C W (.Call (.Name x p) (e :: es) [] pos) δ m Q := by
  intro X S f tk σ H T le sl hh
  refine WE.of (pe_callB wc (f.gl hg) (by rw [f.mg]; exact hm) hv wa hn hdb (he _) (hpl _)) ((h X S f tk σ H T le sl hh).mono fun vs H1 ⟨ds, m1, hl, h1, q⟩ => ?_)
  exact hc X f S.r H1 m1 T vs ds Q hl h1 q
theorem de_callTy {n : String} {x : Str} {p : Pos} {r : RLD} (hc : CallD C (.type n) r) (hg : GlC C x) (hm : C.mg x = none) (hv : bootBuiltins x = some (.type n)) (h : DA C W (e :: es) δ m fun ds m1 => r ds m1 Q) (hn : x ≠ "__name__" := by decide) (hdb : (x == ("__debug__" : Str)) = false := by decide)
    (he : ∀ env, starEach (e :: es) env = (false, eval e env) :: starEach es env := by intro _; rfl) (hpl : ∀ env, (backTo pos (starEach es env)).any (·.1) = false := by intro _; rfl) : DE C W (.Call (.Name x p) (e :: es) [] pos) δ m Q := by
  intro X S f tk σ H T le sl hh
  refine WE.of (pe_callTy wc (f.gl hg) (by rw [f.mg]; exact hm) hv wa hn hdb (he _) (hpl _)) ((h X S f tk σ H T le sl hh).mono fun vs H1 ⟨ds, m1, hl, h1, q⟩ => ?_)
  exact hc X f S.r H1 m1 T vs ds Q hl h1 q

/-- len -/
def lenD : RLD
  | [.str z], m, Q => z.length ≤ sizeLine ∧ Q (.int z.length) m
  | [.tup l], m, Q => l.length ≤ sizeLine → Q (.int l.length) m
  | [.lst l], m, Q => l.length ≤ sizeLine → Q (.int l.length) m
  | [.frz l], m, Q => l.length ≤ sizeLine → Q (.int l.length) m
  | [.ref p], m, Q => ∃ l, m p = some (.lst l) ∧ (l.length ≤ sizeLine → Q (.int l.length) m)
  | _, _, _ => False
theorem one_of {vs : List V} {d : D} (h : vs.length = [d].length) : ∃ v, vs = [v] := match vs, h with | [v], _ => ⟨v, rfl⟩
theorem two_of {vs : List V} {d e : D} (h : vs.length = [d, e].length) : ∃ v u, vs = [v, u] := match vs, h with | [v, u], _ => ⟨v, u, rfl⟩
theorem wc_len {X : Cx} {a : Addr} {xs : List V} {H : Hp} {Q : VK} (h : SqL X.K H a xs ∨ SqT X.K H a xs) (q : xs.length ≤ sizeLine → Q (.int xs.length) H) : WC X (.builtin "len") [.ref a] H Q := by
  intro pins s σ us I rv
  refine call_len_seq pins s σ H _ us Q I rv ⟨a, xs, rfl, h, q ?_⟩
  rcases h with h | h
  · obtain ⟨_, _, _, z⟩ := I.list h
    exact z
  · obtain ⟨_, _, _, z⟩ := I.tuple h
    exact z
theorem cd_len : CallD C (.builtin "len") lenD := by
  intro X f fr H m T vs ds Q hl hh q
  match ds, q with
  | [.str z], q =>
    obtain ⟨v, rfl⟩ := one_of hl
    have r := hh.rep (PlL.at (i := 0) (v := v) (d := .str z) rfl rfl)
    cases r
    exact wc_of call_len ⟨_, z.length, rfl, ⟨q.1, rfl⟩, dK.le (dk_int hh q.2) PlL.le⟩
  | [.tup l], q =>
    obtain ⟨v, rfl⟩ := one_of hl
    obtain ⟨p, xs, rfl, hq, hl2, h4⟩ := hh.items (PlL.at (i := 0) (v := v) (d := .tup l) rfl rfl)
    exact wc_len (.inr (by rw [f.K]; exact hq)) fun z => by rw [hl2] at z ⊢; exact dK.le (dk_int hh (q z)) PlL.le
  | [.lst l], q =>
    obtain ⟨v, rfl⟩ := one_of hl
    obtain ⟨p, xs, rfl, hq, hl2, h4⟩ := hh.itemsL (PlL.at (i := 0) (v := v) (d := .lst l) rfl rfl)
    exact wc_len (.inl (SqL.of hq)) fun z => by rw [hl2] at z ⊢; exact dK.le (dk_int hh (q z)) PlL.le
  | [.frz l], q =>
    obtain ⟨v, rfl⟩ := one_of hl
    obtain ⟨p, xs, rfl, hq, hl2, h4⟩ := hh.itemsF (PlL.at (i := 0) (v := v) (d := .frz l) rfl rfl)
    exact wc_len (.inl (by rw [f.K]; exact hq)) fun z => by rw [hl2] at z ⊢; exact dK.le (dk_int hh (q z)) PlL.le
  | [.ref p], q =>
    obtain ⟨v, rfl⟩ := one_of hl
    have r := hh.rep (PlL.at (i := 0) (v := v) (d := .ref p) rfl rfl)
    cases r
    obtain ⟨l, hm, q⟩ := q
    obtain ⟨xs, hq, hl2, h4⟩ := hh.itemsO hm
    exact wc_len (.inl (SqL.of hq)) fun z => by rw [hl2] at z ⊢; exact dK.le (dk_int hh (q z)) PlL.le
/-- max, min of two -/
def maxD : RLD
  | [.int i, .int j], m, Q => Q (.int (max i j)) m
  | _, _, _ => False
def minD : RLD
  | [.int i, .int j], m, Q => Q (.int (min i j)) m
  | _, _, _ => False
theorem two_ints {K : PySem.W.Frag} {fr : Sto} {H : Hp} {m : Sto} {T : RT} {vs : List V} {i j : Int} (hl : vs.length = [D.int i, D.int j].length) (hh : Hd K fr H m (PlL T vs [.int i, .int j])) : vs = [.int i, .int j] := by
  obtain ⟨v, u, rfl⟩ := two_of hl
  have r1 := hh.rep (PlL.at (i := 0) (v := v) (d := .int i) rfl rfl)
  have r2 := hh.rep (PlL.at (i := 1) (v := u) (d := .int j) rfl rfl)
  cases r1
  cases r2
  rfl
theorem cd_max (hcm : C.cm = true := by rfl) : CallD C (.builtin "max") maxD := by
  intro X f fr H m T vs ds Q hl hh q
  match ds, q with
  | [.int i, .int j], q =>
    have e := two_ints hl hh
    subst e
    refine wc_of (call_max2 (f.calm hcm)) ⟨i, j, rfl, ?_⟩
    have e : (if j > i then j else i) = max i j := by rw [Int.max_def]; split <;> split <;> omega
    rw [e]
    exact dK.le (dk_int hh q) PlL.le
theorem cd_min (hcm : C.cm = true := by rfl) : CallD C (.builtin "min") minD := by
  intro X f fr H m T vs ds Q hl hh q
  match ds, q with
  | [.int i, .int j], q =>
    have e := two_ints hl hh
    subst e
    refine wc_of (call_min2 (f.calm hcm)) ⟨i, j, rfl, ?_⟩
    have e : (if j < i then j else i) = min i j := by rw [Int.min_def]; split <;> split <;> omega
    rw [e]
    exact dK.le (dk_int hh q) PlL.le
/-- int of an int, a bool -/
def intD : RLD
  | [.int i], m, Q => Q (.int i) m
  | [.bl k], m, Q => Q (.int (if k then 1 else 0)) m
  | _, _, _ => False
theorem cd_int : CallD C (.type "int") intD := by
  intro X f fr H m T vs ds Q hl hh q
  match ds, q with
  | [.int i], q =>
    obtain ⟨v, rfl⟩ := one_of hl
    have r := hh.rep (PlL.at (i := 0) (v := v) (d := .int i) rfl rfl)
    cases r
    exact wc_of call_int1 (.inl ⟨i, rfl, dK.le (dk_int hh q) PlL.le⟩)
  | [.bl i], q =>
    obtain ⟨v, rfl⟩ := one_of hl
    have r := hh.rep (PlL.at (i := 0) (v := v) (d := .bl i) rfl rfl)
    cases r
    exact wc_of call_int1 (.inr ⟨i, rfl, dK.le (dk_int hh q) PlL.le⟩)
/-- list of a list, a tuple: data; an object -/
def itemsD : D → Sto → Option (List D)
  | .tup l, _ => some l
  | .lst l, _ => some l
  | .frz l, _ => some l
  | .ref p, m => match m p with
    | some (.lst l) => some l
    | _ => none
  | _, _ => none
theorem Hd.seq {K : PySem.W.Frag} {fr : Sto} {H : Hp} {m : Sto} {T : RT} {v : V} {d : D} {l : List D} (h : Hd K fr H m T) (t : T v d) (e : itemsD d m = some l) : ∃ a xs, v = .ref a ∧ (SqL K H a xs ∨ SqT K H a xs) ∧ xs.length = l.length ∧ Hd K fr H m (PlL T xs l) := by
  cases d with
  | tup l' =>
    cases e
    obtain ⟨p, xs, rfl, hq, hl2, h4⟩ := h.items t
    exact ⟨p, xs, rfl, .inr hq, hl2, h4⟩
  | lst l' =>
    cases e
    obtain ⟨p, xs, rfl, hq, hl2, h4⟩ := h.itemsL t
    exact ⟨p, xs, rfl, .inl (SqL.of hq), hl2, h4⟩
  | frz l' =>
    cases e
    obtain ⟨p, xs, rfl, hq, hl2, h4⟩ := h.itemsF t
    exact ⟨p, xs, rfl, .inl hq, hl2, h4⟩
  | ref p =>
    have r := h.rep t
    cases r
    have e' : (match m p with | some (.lst l) => some l | _ => none) = some l := e
    split at e'
    · rename_i l' hm
      cases e'
      obtain ⟨xs, hq, hl2, h4⟩ := h.itemsO hm
      exact ⟨p, xs, rfl, .inl (SqL.of hq), hl2, h4⟩
    · cases e'
  | _ => cases e
def listD : RLD := fun ds m Q => ∃ d l, ds = [d] ∧ itemsD d m = some l ∧ Q (.lst l) m
def listDM : RLD := fun ds m Q => ∃ d l, ds = [d] ∧ itemsD d m = some l ∧ ∀ p, m p = none → Q (.ref p) (sput m p (.lst l))
theorem cd_list : CallD C (.type "list") listD := by
  rintro X f fr H m T vs ds Q hl hh ⟨d, l, rfl, hi, q⟩
  obtain ⟨v, rfl⟩ := one_of hl
  obtain ⟨a, xs, rfl, hq, hl2, h4⟩ := hh.seq (PlL.at (i := 0) (v := v) (d := d) rfl rfl) hi
  exact wc_of call_list_of ⟨a, xs, rfl, by rw [f.K]; exact hq, fun p hp => dK.le (dk_lst h4 hp (fun Hi k => PlL.rep hl2 k) q) (PlL.le.trans PlL.le)⟩
theorem cd_listM : CallD C (.type "list") listDM := by
  rintro X f fr H m T vs ds Q hl hh ⟨d, l, rfl, hi, q⟩
  obtain ⟨v, rfl⟩ := one_of hl
  obtain ⟨a, xs, rfl, hq, hl2, h4⟩ := hh.seq (PlL.at (i := 0) (v := v) (d := d) rfl rfl) hi
  exact wc_of call_list_of ⟨a, xs, rfl, by rw [f.K]; exact hq, fun p hp => dK.le (dk_lstM h4 hp (fun Hi k => PlL.rep hl2 k) q) (PlL.le.trans PlL.le)⟩
/-- all, any, sum of a list of truth values, ints -/
def blsD : List D → Option (List Bool)
  | [] => some []
  | .bl b :: l => (blsD l).map (b :: ·)
  | _ :: _ => none
theorem bls_vals {K : PySem.W.Frag} {H : Hp} : ∀ {vs : List V} {l : List D} {bs : List Bool}, RepL K H vs l → blsD l = some bs → vs = bs.map V.bl
  | _, _, _, .nil, e => by cases e; rfl
  | _, .bl b :: l, bs, .cons r t, e => by
    cases r
    have e' : (blsD l).map (b :: ·) = some bs := e
    cases h : blsD l with
    | none => rw [h] at e'; cases e'
    | some cs =>
      rw [h] at e'
      cases e'
      rw [bls_vals t h]
      rfl
  | _, .non :: l, bs, .cons r t, e => by cases e
  | _, .int _ :: l, bs, .cons r t, e => by cases e
  | _, .str _ :: l, bs, .cons r t, e => by cases e
  | _, .tup _ :: l, bs, .cons r t, e => by cases e
  | _, .lst _ :: l, bs, .cons r t, e => by cases e
  | _, .frz _ :: l, bs, .cons r t, e => by cases e
  | _, .dic _ _ :: l, bs, .cons r t, e => by cases e
  | _, .dit _ _ :: l, bs, .cons r t, e => by cases e
  | _, .ref _ :: l, bs, .cons r t, e => by cases e
  | _, .ty _ :: l, bs, .cons r t, e => by cases e
theorem blsD_map : ∀ bs : List Bool, blsD (bs.map D.bl) = some bs
  | [] => rfl
  | b :: bs => by
    show (blsD (bs.map D.bl)).map (b :: ·) = _
    rw [blsD_map bs]
    rfl
def allD : RLD := fun ds m Q => ∃ l bs, ds = [.lst l] ∧ blsD l = some bs ∧ Q (.bl (bs.all id)) m
def anyD : RLD := fun ds m Q => ∃ l bs, ds = [.lst l] ∧ blsD l = some bs ∧ Q (.bl (bs.any id)) m
theorem Hd.repsL {K : PySem.W.Frag} {fr : Sto} {H : Hp} {m : Sto} {T : RT} {v : V} {l : List D} (h : Hd K fr H m T) (t : T v (.lst l)) : ∃ a xs, v = .ref a ∧ H a = some (.lst xs) ∧ RepL K H xs l := by
  have r := h.rep t
  cases r with
  | lst q r => exact ⟨_, _, rfl, q, r⟩
theorem cd_all (hcm : C.cm = true := by rfl) : CallD C (.builtin "all") allD := by
  rintro X f fr H m T vs ds Q hl hh ⟨l, bs, rfl, hb, q⟩
  obtain ⟨v, rfl⟩ := one_of hl
  obtain ⟨a, xs, rfl, hq, r⟩ := hh.repsL (PlL.at (i := 0) (v := v) (d := .lst l) rfl rfl)
  have e := bls_vals r hb
  subst e
  exact wc_of (cr_all (f.calm hcm)) ⟨a, bs, rfl, SqL.of hq, dK.le (dk_bl hh q) PlL.le⟩
theorem cd_any (hcm : C.cm = true := by rfl) : CallD C (.builtin "any") anyD := by
  rintro X f fr H m T vs ds Q hl hh ⟨l, bs, rfl, hb, q⟩
  obtain ⟨v, rfl⟩ := one_of hl
  obtain ⟨a, xs, rfl, hq, r⟩ := hh.repsL (PlL.at (i := 0) (v := v) (d := .lst l) rfl rfl)
  have e := bls_vals r hb
  subst e
  exact wc_of (cr_any (f.calm hcm)) ⟨a, bs, rfl, SqL.of hq, dK.le (dk_bl hh q) PlL.le⟩
/-- isinstance against a built-in class -/
def tyD : D → Option String
  | .non => some "NoneType"
  | .bl _ => some "bool"
  | .int _ => some "int"
  | .str _ => some "str"
  | .tup _ => some "tuple"
  | .lst _ => some "list"
  | .dic _ _ => some "dict"
  | _ => none
theorem Hd.tyX {K : PySem.W.Frag} {fr : Sto} {H : Hp} {m : Sto} {T : RT} {v : V} {d : D} {t : String} (h : Hd K fr H m T) (x : T v d) (e : tyD d = some t) : TyX K H v (.type t) := by
  have r := h.rep x
  cases r with
  | non => cases e; exact .base .non
  | bl b => cases e; exact .base (.bl b)
  | int b => cases e; exact .base (.int b)
  | str b => cases e; exact .base (.str b)
  | tup q _ r =>
    cases e
    rcases q with (q | ⟨o, q⟩) | ⟨o, its, n, q, c, _⟩
    · exact .base (.tup q)
    · exact .fTuple q
    · exact .kTuple q c
  | lst q r => cases e; exact .base (.lst q)
  | dic q r => cases e; exact .fDict q
  | _ => cases e
def isiD : RLD := fun ds m Q => ∃ d t n b, ds = [d, .ty n] ∧ tyD d = some t ∧ kitB t n = some b ∧ Q (.bl b) m
theorem cd_isi : CallD C (.builtin "isinstance") isiD := by
  rintro X f fr H m T vs ds Q hl hh ⟨d, t, n, b, rfl, ht, hk, q⟩
  obtain ⟨v, u, rfl⟩ := two_of hl
  have ty := hh.tyX (PlL.at (i := 0) (v := v) (d := d) rfl rfl) ht
  have r := hh.rep (PlL.at (i := 1) (v := u) (d := .ty n) rfl rfl)
  cases r
  exact wc_of call_isi ⟨v, .ty n, .type t, .type n, b, rfl, .ty n, by rw [f.K]; exact ty, kit_ty hk, dK.le (dk_bl hh q) PlL.le⟩
/-- .. against a written tuple of two: the tuple is made on the way -/
def kit2 (t a b : String) : Option Bool := match kitB t a with
  | some true => some true
  | some false => kitB t b
  | none => none
theorem kit2_any {K : PySem.W.Frag} {t a b : String} {k : Bool} (h : kit2 t a b = some k) : PySem.W.kitAny K (.type t) [.type a, .type b] = some k := by
  unfold kit2 at h
  split at h
  · rename_i h1
    cases h
    exact kitAny_cons (kit_ty h1) (fun e => nomatch e) fun _ => rfl
  · rename_i h1
    refine kitAny_cons (kit_ty h1) (fun _ => ?_) (fun e => nomatch e)
    cases k with
    | true => exact kitAny_cons (kit_ty h) (fun e => nomatch e) fun _ => rfl
    | false => exact kitAny_cons (kit_ty h) (fun _ => rfl) (fun e => nomatch e)
  · cases h
end
end G

/-! The data layer's rules: statements, targets, loops. -/
namespace G
open PySem PySem.Spec PyProof.Rows L2

section
variable {C : Ct} {W : DW} {δ : Sl} {m : Sto} {D : DEn} {a b c e : Expr} {es : List Expr} {st : Stmt} {sts : List Stmt} {pos pos' : Pos}
theorem dss_nil (q : D.nx δ m) : DSs C W [] δ m D := fun X S f tk σ H T le sl hh => WSs.of pss_nil ⟨δ, m, T, le, sl, hh, q⟩
theorem dss_cons (h : DS C W st δ m { D with nx := fun δ' m' => DSs C W sts δ' m' D }) : DSs C W (st :: sts) δ m D := by
  intro X S f tk σ H T le sl hh
  refine WSs.of (pss_cons ws wss) ?_
  refine (h X S f tk σ H T le sl hh).mono (fun σ' H' ⟨δ', m', T', le', sl', hh', q⟩ => q X S f tk σ' H' T' le' sl' hh') (fun _ _ q => q) (fun _ _ q => q) fun _ _ q => q
theorem dss_one (h : DS C W st δ m D) : DSs C W [st] δ m D := fun X S f tk σ H T le sl hh => WSs.of (pss_one ws) (h X S f tk σ H T le sl hh)
/-- a word between two parts of a block -/
theorem dss_cut (R : Sl → Sto → Prop) (h : DS C W st δ m { D with nx := R }) (k : ∀ δ' m', R δ' m' → DSs C W sts δ' m' D) : DSs C W (st :: sts) δ m D := by
  refine dss_cons ?_
  intro X S f tk σ H T le sl hh
  exact (h X S f tk σ H T le sl hh).mono (fun σ' H' ⟨δ', m', T', le', sl', hh', q⟩ => ⟨δ', m', T', le', sl', hh', k _ _ q⟩) (fun _ _ q => q) (fun _ _ q => q) fun _ _ q => q
theorem ds_pass (q : D.nx δ m) : DS C W (.Pass pos) δ m D := fun X S f tk σ H T le sl hh => WS.of ps_pass ⟨δ, m, T, le, sl, hh, q⟩
theorem ds_break (q : D.bk δ m) : DS C W (.Break pos) δ m D := fun X S f tk σ H T le sl hh => WS.of ps_break ⟨δ, m, T, le, sl, hh, q⟩
theorem ds_cont (q : D.ct δ m) : DS C W (.Continue pos) δ m D := fun X S f tk σ H T le sl hh => WS.of ps_continue ⟨δ, m, T, le, sl, hh, q⟩
theorem lift_nx {K : PySem.W.Frag} {S : Fr} {T : RT} {σ : L2.St} {H : Hp} {n : Sl → Sto → Prop} (le : Le S.t T) (sl : SlotsIn σ δ T) (hh : Hd K S.r H m T) (q : n δ m) : lift1 K S n σ H := ⟨δ, m, T, le, sl, hh, q⟩
theorem Fits.loc {X : Cx} {x : Str} (f : Fits C X) (h : Loc C.sc x) : Loc X.env.scope x := by rw [f.sc]; exact h
theorem Fits.fnl {X : Cx} {x : Str} (f : Fits C X) (h : C.fn x = true ∨ C.sc.names.lookup x = some .local) : X.fn x = true ∨ X.env.scope.names.lookup x = some .local := h.elim (fun z => .inl (f.fn x z)) fun z => .inr (by rw [f.sc]; exact z)
theorem ds_set (i : Nat) {x : Str} (hN : C.N[i]? = some x) (hx : Loc C.sc x) (h : DE C W e δ m fun d m1 => D.nx (δ.set i (some d)) m1) (hs : ∀ env, swapsWith e (some (.Name x pos')) pos.line env = pure false := by intro _; rfl) (hf : C.fn x = true ∨ C.sc.names.lookup x = some .local := by first | exact .inl rfl | exact .inr rfl | assumption) :
    DS C W (.Assign [.Name x pos'] e pos) δ m D := by
  intro X S f tk σ H T le sl hh
  refine WS.of (ps_set f.nd (i := i) (by rw [f.N]; exact hN) (f.loc hx) we (hs _) (f.fnl hf)) ((h X S f tk σ H T le sl hh).mono fun v H1 ⟨d, m1, h1, q⟩ => ?_)
  exact lift_nx (le.trans Pl.le) ((sl.le Pl.le).set Pl.it) h1 q
theorem ds_ret (h : DE C W e δ m D.rt) : DS C W (.Return (some e) pos) δ m D := fun X S f tk σ H T le sl hh => WS.of (ps_ret we) ((h X S f tk σ H T le sl hh).mono fun v H1 ⟨d, m1, h1, q⟩ => ⟨d, m1, h1.le (Pl.mono le), q⟩)
theorem ds_retN (q : D.rt .non m) : DS C W (.Return none pos) δ m D := fun X S f tk σ H T le sl hh => WS.of ps_retN ⟨.non, m, (hh.le le).pl fun _ _ => .non, q⟩
theorem ds_expr (h : DE C W e δ m fun _ m1 => D.nx δ m1) (hs : ∀ env, swapsWith e none pos.line env = pure false := by intro _; rfl) : DS C W (.Expr e pos) δ m D := fun X S f tk σ H T le sl hh => WS.of (ps_expr we (hs _)) ((h X S f tk σ H T le sl hh).mono fun v H1 ⟨d, m1, h1, q⟩ => lift_nx le sl (h1.le Pl.le) q)
theorem ds_if {as bs : List Stmt} (h : DT C W c δ m fun k m1 => br k (DSs C W as δ m1 D) (DSs C W bs δ m1 D)) : DS C W (.If c as bs pos) δ m D := by
  intro X S f tk σ H T le sl hh
  refine WS.of (ps_if wt wss wss) ((h X S f tk σ H T le sl hh).mono fun k H1 ⟨m1, h1, q⟩ => ?_)
  cases k with
  | true => exact q.1 rfl X S f tk σ H1 T le sl h1
  | false => exact q.2 rfl X S f tk σ H1 T le sl h1
/-- x op= e -/
def OpDi (C : Ct) (op : Operator) (r : R2D) : Prop := ∀ (X : Cx), Fits C X → ∀ (fr : Sto) (H : Hp) (m : Sto) (T : RT) (x y : V) (d e : G.D) (Q : G.D → Sto → Prop), Hd C.K fr H m T → T x d → T y e → r d e m Q → WB X (inplaceOp op) x y H (dK C.K fr T Q)
theorem ds_aug (i : Nat) {x : Str} {op : Operator} {r : R2D} {d0 : G.D} (ho : OpDi C op r) (hN : C.N[i]? = some x) (hx : Loc C.sc x) (hd : δ[i]? = some (some d0)) (h : DE C W e δ m fun d m1 => r d0 d m1 fun z m2 => D.nx (δ.set i (some z)) m2) (hf : C.fn x = true ∨ C.sc.names.lookup x = some .local := by first | exact .inl rfl | exact .inr rfl | assumption) :
    DS C W (.AugAssign (.Name x pos') op e pos) δ m D := by
  intro X S f tk σ H T le sl hh
  obtain ⟨v0, e0, t0⟩ := sl.2 i d0 hd
  refine WS.of (ps_aug (ti := fun x y H Q => WB X (inplaceOp op) x y H Q) f.nd (i := i) (by rw [f.N]; exact hN) (f.loc hx) we (fun pins s σ H x y v u Q I rx ry w => w pins s σ v u I rx ry) (f.fnl hf)) ⟨v0, e0, (h X S f tk σ H T le sl hh).mono fun v H1 ⟨d, m1, h1, q⟩ => ?_⟩
  have w := ho X f S.r H1 m1 _ v0 v d0 d _ h1 (.inl t0) Pl.it q
  exact fun pins s σ' v u I rx ry => thn (w pins s σ' v u I rx ry) fun z s' ⟨zv, H2, I2, r2, d2, m2, h2, q2⟩ => ⟨zv, H2, I2, r2, lift_nx (le.trans (Pl.le.trans Pl.le)) ((sl.le (Pl.le.trans Pl.le)).set Pl.it) h2 q2⟩

/-! ### targets -/
theorem dg_name (i : Nat) {x : Str} {d : G.D} {Q : Sl → Sto → Prop} (hN : C.N[i]? = some x) (hx : Loc C.sc x) (q : Q (δ.set i (some d)) m) (hf : C.fn x = true ∨ C.sc.names.lookup x = some .local := by first | exact .inl rfl | exact .inr rfl | assumption) : DG C W (.Name x pos) d δ m Q :=
  fun X S f tk v σ H T le sl t hh => WG.of (pg_name f.nd (i := i) (by rw [f.N]; exact hN) (f.loc hx) (f.fnl hf)) ⟨_, m, T, Le.refl T, sl.set t, hh, q⟩
/-- several targets -/
def WGs (X : Cx) (ts : List Expr) : TGs := fun vs σ H Q => ∀ (pins : List (Addr × Obj)) (s : Shared) (us : List Value), Inv X pins σ H s → Vals vs us → wpAny (model X.prog X.w) X.A (assignInOrder ((assignEach ts X.env).map (·.2)) us) (fun _ s' => ∃ σ' H', Inv X pins σ' H' s' ∧ Q σ' H') X.xe s
theorem wgs {X : Cx} {ts : List Expr} : PGs X ts (WGs X ts) := ⟨fun pins s σ H vs us Q I r h => h pins s us I r⟩
def DGs (C : Ct) (W : DW) (ts : List Expr) (ds : List G.D) (δ : Sl) (m : Sto) (Q : Sl → Sto → Prop) : Prop :=
  ∀ (X : Cx) (S : Fr), Fits C X → Takes X (liftW C.K W S) → ∀ (vs : List V) (σ : L2.St) (H : Hp) (T : RT), vs.length = ds.length → Le S.t T → SlotsIn σ δ T → Hd C.K S.r H m (PlL T vs ds) → WGs X ts vs σ H fun σ' H' => ∃ δ' m' T', Le T T' ∧ SlotsIn σ' δ' T' ∧ Hd C.K S.r H' m' T' ∧ Q δ' m'
theorem dgs_nil {Q : Sl → Sto → Prop} (q : Q δ m) : DGs C W [] [] δ m Q := fun X S f tk vs σ H T hl le sl hh pins s us I r => pgs_nil.run pins s σ H vs us _ I r ⟨List.length_eq_zero_iff.mp hl, δ, m, T, Le.refl T, sl, hh.le PlL.le, q⟩
theorem dgs_cons {d : G.D} {ds : List G.D} {Q : Sl → Sto → Prop} (h : DG C W e d δ m fun δ1 m1 => DGs C W es ds δ1 m1 Q) (hs : ∀ env, (assignEach (e :: es) env).map (·.2) = assign e env :: (assignEach es env).map (·.2) := by intro _; rfl) : DGs C W (e :: es) (d :: ds) δ m Q := by
  intro X S f tk vs σ H T hl le sl hh pins s us I r
  match vs, hl with
  | v :: vs, hl =>
    refine (pgs_cons wg wgs (hs _)).run pins s σ H (v :: vs) us _ I r ⟨v, vs, rfl, ?_⟩
    have lt : Le T (PlL T (v :: vs) (d :: ds)) := PlL.le
    refine (h X S f tk v σ H _ (le.trans lt) (sl.le lt) (PlL.at (i := 0) rfl rfl) hh).mono fun σ1 H1 ⟨δ1, m1, T1, le1, sl1, h1, q⟩ => ?_
    have l2 : vs.length = ds.length := by simpa using hl
    have hq := q X S f tk vs σ1 H1 T1 l2 (le.trans (lt.trans le1)) sl1 (h1.le fun x y z => z.elim id fun z => le1 x y (.inr (by rw [List.zip_cons_cons]; exact List.mem_cons_of_mem _ z)))
    exact fun pins s us I r => thn (hq pins s us I r) fun _ _ ⟨σ', H', I', δ', m', T', le', sl', hh', q'⟩ => ⟨σ', H', I', δ', m', T', lt.trans (le1.trans le'), sl', hh', q'⟩
theorem dg_tup {k : Nat} {ds : List G.D} {Q : Sl → Sto → Prop} (hl : ds.length = es.length) (h : DGs C W es ds δ m Q) (hn : ∀ env, (assignEach es env).length = es.length := by intro _; rfl) (hst : ∀ env, (assignEach es env).findIdx? (·.1) = none := by intro _; rfl) (hcm : C.cm = true := by rfl) : DG C W (.Tuple es k pos) (.tup ds) δ m Q := by
  intro X S f tk v σ H T le sl t hh
  obtain ⟨p, xs, rfl, hq, hl2, h4⟩ := hh.items t
  refine WG.of (pg_tup (f.calm hcm) wgs (n := es.length) (hn _) (hst _)) ⟨p, xs, rfl, by rw [f.K]; exact hq, by rw [hl2, hl], ?_⟩
  exact h X S f tk xs σ H T hl2 le sl h4
/-- target = value -/
theorem ds_asg {tg : Expr} (h : DE C W e δ m fun d m1 => DG C W tg d δ m1 D.nx) (hs : ∀ env, swapsWithSole [tg] e pos.line env = pure false := by intro _; rfl) (hw : ∀ env, swappedStores [tg] e env = pure none := by intro _; rfl)
    (h1 : ∀ env, (assignEach [tg] env).map (·.2) = [assign tg env] := by intro _; rfl) : DS C W (.Assign [tg] e pos) δ m D := by
  intro X S f tk σ H T le sl hh
  refine WS.of (ps_asg we wg (hs _) (hw _) (h1 _)) ((h X S f tk σ H T le sl hh).mono fun v H1 ⟨d, m1, h1, q⟩ => ?_)
  refine (q X S f tk v σ H1 _ (le.trans Pl.le) (sl.le Pl.le) Pl.it h1).mono fun σ2 H2 ⟨δ2, m2, T2, le2, sl2, h2, q2⟩ => ?_
  exact lift_nx (le.trans (Pl.le.trans le2)) sl2 h2 q2
/-- o[i] = e, o a list of the store -/
def setD (x y d : G.D) (m : Sto) (k : Sto → Prop) : Prop := ∃ p ds i j, x = .ref p ∧ y = .int i ∧ m p = some (.lst ds) ∧ ixN ds.length i = some j ∧ k (sput m p (.lst (ds.set j d)))
theorem ds_setitem {o i : Expr} (h : DE C W e δ m fun d m1 => DE C W o δ m1 fun x m2 => DE C W i δ m2 fun y m3 => setD x y d m3 (D.nx δ))
    (hs : ∀ env, swapsWithSole [.Subscript o i pos'] e pos.line env = pure false := by intro _; rfl) (hw : ∀ env, swappedStores [.Subscript o i pos'] e env = pure none := by intro _; rfl)
    (h1 : ∀ env, (assignEach [.Subscript o i pos'] env).map (·.2) = [assign (.Subscript o i pos') env] := by intro _; rfl)
    (ha : ∀ env v, assign (.Subscript o i pos') env v = (do
      let ov ← holding [v] (eval o env)
      let iv ← holding [v, ov] (eval i env)
      standAt pos'
      holding [v, ov, iv] (setItem ov iv v)
      release [v, ov, iv] []) := by intro _ _; rfl) : DS C W (.Assign [.Subscript o i pos'] e pos) δ m D := by
  intro X S f tk σ H T le sl hh
  refine WS.of (ps_asg we (pg_sub we we set_list (ha _)) (hs _) (hw _) (h1 _)) ((h X S f tk σ H T le sl hh).mono fun v H1 ⟨d, m1, h1, q⟩ => ?_)
  refine (q X S f tk σ H1 _ (le.trans Pl.le) (sl.le Pl.le) h1).mono fun u H2 ⟨x, m2, h2, q2⟩ => ?_
  refine (q2 X S f tk σ H2 _ (le.trans (Pl.le.trans Pl.le)) (sl.le (Pl.le.trans Pl.le)) h2).mono fun w H3 ⟨y, m3, h3, p, ds, k, j, ex, ey, hm, hj, q3⟩ => ?_
  subst ex ey
  have ru := h3.rep (.inl Pl.it : Pl (Pl (Pl T v d) u (.ref p)) w (.int k) u (.ref p))
  have rw' := h3.rep (Pl.it (T := Pl (Pl T v d) u (.ref p)) (v := w) (d := .int k))
  cases ru
  cases rw'
  obtain ⟨xs, hq, hl, _⟩ := h3.itemsO hm
  refine ⟨p, xs, k, j, rfl, rfl, hq, by rw [hl]; exact hj, ?_⟩
  have h4 := h3.mut (u' := .lst (xs.set j v)) (o' := .lst (ds.set j d)) hm hq fun Hi r kk => RepL.set j r (kk v d (.inl (.inl Pl.it)))
  exact lift_nx (le.trans (Pl.le.trans (Pl.le.trans Pl.le))) (sl.le (Pl.le.trans (Pl.le.trans Pl.le))) h4 q3

/-! ### what a for walks -/
def WI (X : Cx) (tg iter : Expr) : TI := fun σ H R => ∀ (pins : List (Addr × Obj)) (s : Shared), Inv X pins σ H s → wpAny (model X.prog X.w) X.A (eval iter X.env) (fun v s1 => wpAny (model X.prog X.w) X.A (pyIter v) (PIE X pins σ tg R) X.xe s1) X.xe s
theorem wi {X : Cx} {tg iter : Expr} : PI X tg iter (WI X tg iter) := ⟨fun pins s σ H R I h => h pins s I⟩
theorem WI.of {X : Cx} {tg iter : Expr} {w : TI} {σ : L2.St} {H : Hp} {R : It → Hp → Prop} (p : PI X tg iter w) (h : w σ H R) : WI X tg iter σ H R := fun pins s I => p.run pins s σ H R I h
theorem WI.mono {X : Cx} {tg iter : Expr} {σ : L2.St} {H : Hp} {R R' : It → Hp → Prop} (h : WI X tg iter σ H R) (k : ∀ J H', R J H' → R' J H') : WI X tg iter σ H R' := fun pins s I => thn (h pins s I) fun _ _ q => thn q fun _ _ ⟨it, fp, tn, J, H', e, I', Tn, t0, fr, r⟩ => ⟨it, fp, tn, J, H', e, I', Tn, t0, fr, k _ _ r⟩
/-- J walks the data ds, whatever else happens while T' holds -/
structure Walks (K : PySem.W.Frag) (J : It) (ds : List G.D) (T' : RT) : Prop where
  go : ∀ (i : Nat) (r : Sto) (H : Hp) (m : Sto) (T : RT), i < ds.length → Le T' T → Hd K r H m T → J.go i H
  yld : ∀ (i : Nat) (r : Sto) (H H' : Hp) (m : Sto) (T : RT) (x : V) (d : G.D), ds[i]? = some d → Le T' T → Hd K r H m T → J.yld i H x H' → Hd K r H' m (Pl T x d)
  stop : ∀ (i : Nat) (r : Sto) (H : Hp) (m : Sto) (T : RT), ds.length ≤ i → Le T' T → Hd K r H m T → J.stop i H
def DI (C : Ct) (W : DW) (tg iter : Expr) (δ : Sl) (m : Sto) (R : List G.D → Sto → Prop) : Prop :=
  ∀ (X : Cx) (S : Fr), Fits C X → Takes X (liftW C.K W S) → ∀ (σ : L2.St) (H : Hp) (T : RT), Le S.t T → SlotsIn σ δ T → Hd C.K S.r H m T → WI X tg iter σ H fun J H' => ∃ ds m' T', Le T T' ∧ Hd C.K S.r H' m' T' ∧ Walks C.K J ds T' ∧ R ds m'
variable {tg iter : Expr}
/-- a list, a tuple that is data -/
theorem di_lst {R : List G.D → Sto → Prop} (h : DE C W e δ m fun d m1 => ∃ ds, d = .lst ds ∧ R ds m1) : DI C W tg e δ m R := by
  intro X S f tk σ H T le sl hh
  refine WI.of (pi_list we) ((h X S f tk σ H T le sl hh).mono fun v H1 ⟨d, m1, h1, ds, ed, q⟩ => ?_)
  subst ed
  obtain ⟨p, xs, rfl, hq, hl, h4⟩ := h1.itemsL Pl.it
  refine ⟨p, rfl, ⟨xs, SqL.of hq⟩, ds, m1, _, Pl.le, h1, ?_, q⟩
  have at_ : ∀ (r : Sto) (H : Hp) (m : Sto) (T' : RT), Le (Pl T (.ref p) (.lst ds)) T' → Hd C.K r H m T' → ∃ ys, H p = some (.lst ys) ∧ ys.length = ds.length ∧ Hd C.K r H m (PlL T' ys ds) := fun r H m T' l hd => by
    obtain ⟨p', ys, e, hy, l2, h5⟩ := hd.itemsL (l _ _ Pl.it)
    cases e
    exact ⟨ys, hy, l2, h5⟩
  refine ⟨fun i r H m T' hi l hd => ?_, fun i r H H' m T' x d hi l hd y => ?_, fun i r H m T' hi l hd => ?_⟩
  · obtain ⟨ys, hy, l2, _⟩ := at_ r H m T' l hd
    exact ⟨ys, ys[i], SqL.of hy, List.getElem?_eq_getElem (by omega)⟩
  · obtain ⟨ys, hy, l2, h5⟩ := at_ r H m T' l hd
    obtain ⟨e, y⟩ := y
    subst e
    exact (h5.again (PlL.at (y ys (SqL.of hy)) hi)).le (Pl.mono PlL.le)
  · obtain ⟨ys, hy, l2, _⟩ := at_ r H m T' l hd
    exact ⟨ys, SqL.of hy, by omega⟩
theorem di_tup {R : List G.D → Sto → Prop} (h : DE C W e δ m fun d m1 => ∃ ds, d = .tup ds ∧ R ds m1) : DI C W tg e δ m R := by
  intro X S f tk σ H T le sl hh
  refine WI.of (pi_tup we) ((h X S f tk σ H T le sl hh).mono fun v H1 ⟨d, m1, h1, ds, ed, q⟩ => ?_)
  subst ed
  obtain ⟨p, xs, rfl, hq, hl, h4⟩ := h1.items Pl.it
  refine ⟨p, rfl, ⟨xs, by rw [f.K]; exact hq⟩, ds, m1, _, Pl.le, h1, ?_, q⟩
  have at_ : ∀ (r : Sto) (H : Hp) (m : Sto) (T' : RT), Le (Pl T (.ref p) (.tup ds)) T' → Hd C.K r H m T' → ∃ ys, SqT C.K H p ys ∧ ys.length = ds.length ∧ Hd C.K r H m (PlL T' ys ds) := fun r H m T' l hd => by
    obtain ⟨p', ys, e, hy, l2, h5⟩ := hd.items (l _ _ Pl.it)
    cases e
    exact ⟨ys, hy, l2, h5⟩
  rw [f.K]
  refine ⟨fun i r H m T' hi l hd => ?_, fun i r H H' m T' x d hi l hd y => ?_, fun i r H m T' hi l hd => ?_⟩
  · obtain ⟨ys, hy, l2, _⟩ := at_ r H m T' l hd
    exact ⟨ys, ys[i], hy, List.getElem?_eq_getElem (by omega)⟩
  · obtain ⟨ys, hy, l2, h5⟩ := at_ r H m T' l hd
    obtain ⟨e, y⟩ := y
    subst e
    exact (h5.again (PlL.at (y ys hy) hi)).le (Pl.mono PlL.le)
  · obtain ⟨ys, hy, l2, _⟩ := at_ r H m T' l hd
    exact ⟨ys, hy, by omega⟩
/-- lo, lo + 1, .. -/
def rngD (lo : Int) (n : Nat) : List G.D := (List.range n).map fun i => .int (lo + (i : Nat))
theorem rngD_len {lo : Int} {n : Nat} : (rngD lo n).length = n := by simp [rngD]
theorem rngD_get {lo : Int} {n i : Nat} {d : G.D} (h : (rngD lo n)[i]? = some d) : i < n ∧ d = .int (lo + (i : Nat)) := by
  have hi : i < n := by
    have := (List.getElem?_eq_some_iff.mp h).1
    rwa [rngD_len] at this
  refine ⟨hi, ?_⟩
  rw [rngD, List.getElem?_map, List.getElem?_range hi] at h
  exact (Option.some.inj h).symm
theorem walks_rng {K : PySem.W.Frag} {lo : Int} {n : Nat} {T : RT} : Walks K (Itr lo n) (rngD lo n) T :=
  ⟨fun i r H m T' hi l hd => by rw [rngD_len] at hi; exact hi, fun i r H H' m T' x d hi l hd y => by
    obtain ⟨e, ex⟩ := y
    subst e ex
    obtain ⟨_, ed⟩ := rngD_get hi
    subst ed
    exact hd.pl fun _ _ => .int _, fun i r H m T' hi l hd => by rw [rngD_len] at hi; exact hi⟩
theorem di_rng1 {R : List G.D → Sto → Prop} {p : Pos} (hg : GlC C "range") (hm : C.mg "range" = none) (h : DE C W a δ m fun d m1 => ∃ j : Int, d = .int j ∧ -(2 ^ 62) ≤ j ∧ j < 2 ^ 62 ∧ R (rngD 0 j.toNat) m1) (hs : ∀ env, starEach [a] env = [(false, eval a env)] := by intro _; rfl) : DI C W tg (.Call (.Name "range" p) [a] [] pos) δ m R := by
  intro X S f tk σ H T le sl hh
  refine WI.of (pi_range1 (f.gl hg) (by rw [f.mg]; exact hm) (pa_cons we pa_nil (by rw [hs]; rfl)) (hs _)) ((h X S f tk σ H T le sl hh).mono fun v H1 ⟨d, m1, h1, j, ed, b1, b2, q⟩ => ?_)
  subst ed
  have r := h1.rep Pl.it
  cases r
  exact ⟨j, rfl, b1, b2, _, m1, _, Pl.le, h1, walks_rng, q⟩
theorem di_rng2 {R : List G.D → Sto → Prop} {p : Pos} (hg : GlC C "range") (hm : C.mg "range" = none) (h : DE C W a δ m fun d m1 => DE C W b δ m1 fun d2 m2 => ∃ i j : Int, d = .int i ∧ d2 = .int j ∧ (-(2 ^ 62) ≤ i ∧ i < 2 ^ 62 ∧ -(2 ^ 62) ≤ j ∧ j < 2 ^ 62) ∧ R (rngD i (j - i).toNat) m2)
    (hs : ∀ env, starEach [a, b] env = [(false, eval a env), (false, eval b env)] := by intro _; rfl) (hs2 : ∀ env, starEach [b] env = [(false, eval b env)] := by intro _; rfl) : DI C W tg (.Call (.Name "range" p) [a, b] [] pos) δ m R := by
  intro X S f tk σ H T le sl hh
  refine WI.of (pi_range2 (f.gl hg) (by rw [f.mg]; exact hm) (pa_cons we (pa_cons we pa_nil (by rw [hs2]; rfl)) (by rw [hs, hs2])) (hs _) (hs2 _)) ((h X S f tk σ H T le sl hh).mono fun v H1 ⟨d, m1, h1, q1⟩ => ?_)
  refine (q1 X S f tk σ H1 _ (le.trans Pl.le) (sl.le Pl.le) h1).mono fun u H2 ⟨d2, m2, h2, i, j, e1, e2, bd, q⟩ => ?_
  subst e1 e2
  have r1 := h2.rep (.inl Pl.it : Pl (Pl T v (.int i)) u (.int j) v (.int i))
  have r2 := h2.rep (Pl.it (T := Pl T v (.int i)) (v := u) (d := .int j))
  cases r1
  cases r2
  exact ⟨i, j, rfl, bd, _, m2, _, Pl.le.trans Pl.le, h2, walks_rng, q⟩
/-- for: I holds behind i turns -/
theorem ds_for {body : List Stmt} (h : DI C W tg iter δ m fun ds m1 => ∃ I : Nat → Sl → Sto → Prop, I 0 δ m1 ∧ (∀ (i : Nat) (d : G.D) (δ' : Sl) (m' : Sto), ds[i]? = some d → I i δ' m' → DG C W tg d δ' m' fun δ2 m2 => DSs C W body δ2 m2 { D with nx := I (i + 1), ct := I (i + 1), bk := D.nx }) ∧ ∀ δ' m', I ds.length δ' m' → D.nx δ' m')
    (hs : ∀ env x, foldedSetIterable iter env x = pure x := by intro _ _; rfl) (hcm : C.cm = true := by rfl) : DS C W (.For tg iter body [] pos) δ m D := by
  intro X S f tk σ H T le sl hh
  refine WS.of (ps_for f.own (f.calm hcm) wi wg wss (hs _)) ((h X S f tk σ H T le sl hh).mono fun J H1 ⟨ds, m1, T1, le1, h1, wk, I, h0, hstep, hend⟩ => ?_)
  refine ⟨fun i n σ' H' => n = ds.length - i ∧ i ≤ ds.length ∧ ∃ δ' m' T', Le T1 T' ∧ SlotsIn σ' δ' T' ∧ Hd C.K S.r H' m' T' ∧ I i δ' m', ⟨ds.length, by simp, Nat.zero_le _, δ, m1, T1, Le.refl _, sl.le le1, h1, h0⟩, ?_⟩
  rintro i n σ' H' ⟨rfl, hi, δ', m', T', le', sl', hh', ih⟩
  by_cases hlt : i < ds.length
  · refine .inr ⟨wk.go i S.r H' m' T' hlt le' hh', fun σ2 H2 => i + 1 ≤ ds.length ∧ ∃ δ' m' T', Le T1 T' ∧ SlotsIn σ2 δ' T' ∧ Hd C.K S.r H2 m' T' ∧ I (i + 1) δ' m', fun σ2 H2 ⟨a, b⟩ => ⟨ds.length - (i + 1), by omega, rfl, a, b⟩, fun x H2 y => ?_⟩
    have hd := List.getElem?_eq_getElem hlt
    have h2 := wk.yld i S.r H' H2 m' T' x _ hd le' hh' y
    refine (hstep i _ δ' m' hd ih X S f tk x σ' H2 _ (le.trans (le1.trans (le'.trans Pl.le))) (sl'.le Pl.le) Pl.it h2).mono fun σ3 H3 ⟨δ3, m3, T3, le3, sl3, h3, q3⟩ => ?_
    -- the body keeps what holds: S is taken as wide as T1
    have tk1 : Takes X (liftW C.K W S) := tk
    refine (q3 X ⟨T1, S.r⟩ f ?_ σ3 H3 T3 (le'.trans (Pl.le.trans le3)) sl3 h3).mono (fun σ4 H4 ⟨δ4, m4, T4, le4, sl4, h4, q4⟩ => ⟨hlt, δ4, m4, T4, le4, sl4, h4, q4⟩) (fun v4 H4 ⟨d4, m4, h4, q4⟩ => ⟨d4, m4, h4.le (Pl.mono (le.trans le1)), q4⟩) (fun σ4 H4 ⟨δ4, m4, T4, le4, sl4, h4, q4⟩ => ⟨δ4, m4, T4, (le.trans le1).trans le4, sl4, h4, q4⟩) (fun σ4 H4 ⟨δ4, m4, T4, le4, sl4, h4, q4⟩ => ⟨hlt, δ4, m4, T4, le4, sl4, h4, q4⟩)
    exact tk.imp fun c d σ5 H5 ⟨δ5, m5, T5, fs, le5, r5⟩ => ⟨δ5, m5, T5, fs, (le.trans le1).trans le5, r5⟩
  · have e : i = ds.length := by omega
    subst e
    exact .inl ⟨wk.stop _ S.r H' m' T' (Nat.le_refl _) le' hh', lift_nx (le.trans (le1.trans le')) sl' hh' (hend _ _ ih)⟩
end
end G

/-! The data layer's rules: list comprehensions; defs and their calls; the law's own end. -/
namespace G
open PySem PySem.Spec PyProof.Rows L2

/-- nothing is raised -/
abbrev W0 : DW := fun _ _ _ _ => False
theorem takes_W0 {X : Cx} {K : PySem.W.Frag} {S : Fr} : Takes X (liftW K W0 S) := fun _ _ x => by
  obtain ⟨_, _, _, _, _, _, _, _, _, _, _, _, _, _, _, _, _, _, _, _, _, _, _, _, z⟩ := x
  exact z.elim
def wipeS (δ : Sl) : List Nat → Sl
  | [] => δ
  | v :: vs => (wipeS δ vs).set v none
theorem SlotsIn.wipe {σ : L2.St} {δ : Sl} {T : RT} (h : SlotsIn σ δ T) : ∀ vs : List Nat, SlotsIn (L2.wipe σ vs) (wipeS δ vs) T
  | [] => h
  | v :: vs => (h.wipe vs).unset
theorem wipe_set {σ : L2.St} {i : Nat} {x : Option V} : ∀ {vs : List Nat}, i ∈ vs → L2.wipe (σ.set i x) vs = L2.wipe σ vs
  | v :: vs, h => by
    show (L2.wipe (σ.set i x) vs).set v none = (L2.wipe σ vs).set v none
    by_cases hv : i ∈ vs
    · rw [wipe_set hv]
    · have e : i = v := by
        rcases List.mem_cons.mp h with e | e
        · exact e
        · exact absurd e hv
      subst e
      have q : ∀ (ws : List Nat), i ∉ ws → L2.wipe (σ.set i x) ws = (L2.wipe σ ws).set i x := by
        intro ws
        induction ws with
        | nil => intro _; rfl
        | cons w ws ih =>
          intro hw
          have hw1 : i ≠ w := fun e => hw (by rw [e]; exact List.mem_cons_self)
          show (L2.wipe (σ.set i x) ws).set w none = ((L2.wipe σ ws).set w none).set i x
          rw [ih fun z => hw (List.mem_cons_of_mem _ z), List.set_comm _ _ hw1]
      rw [q vs hv, List.set_set]
theorem wipe_sub {σ : L2.St} {vs : List Nat} : ∀ {ws : List Nat}, (∀ i ∈ ws, i ∈ vs) → L2.wipe (L2.wipe σ ws) vs = L2.wipe σ vs
  | [], _ => rfl
  | w :: ws, h => by
    show L2.wipe ((L2.wipe σ ws).set w none) vs = _
    rw [wipe_set (h w List.mem_cons_self), wipe_sub fun i hi => h i (List.mem_cons_of_mem _ hi)]
theorem wipe_idem {σ : L2.St} {vs : List Nat} : L2.wipe (L2.wipe σ vs) vs = L2.wipe σ vs := wipe_sub fun _ h => h
/-- the context of a comprehension's block -/
def Ct.blk (C : Ct) (scope : Scope) : Ct := { C with sc := relS scope C.sc, fn := fun x => scope.names.lookup x == some .cell, tr := false, ex := none }
theorem Fits.blk {C : Ct} {X : Cx} (f : Fits C X) {s : Shared} {H : Hp} {scope : Scope} {cl : List (Str × Addr)} {c : Addr} {fp : List Addr} : Fits (C.blk scope) (X.blk s H scope (compEnvC scope cl c X.env) fp) where
  prog := f.prog
  w := f.w
  K := f.K
  mg := f.mg
  base := f.base
  N := f.N
  sc := by show relS scope X.env.scope = relS scope C.sc; rw [f.sc]
  fn := fun x h => h
  nd := f.nd
  un := f.un
  room := f.room
  calm := f.calm
  own := PassesOwn.never
  tr := fun z => nomatch z
  ex := fun _ _ _ e => nomatch e
  rh := f.rh

section
variable {C : Ct} {W : DW} {δ : Sl} {m : Sto} {a b c e : Expr} {es : List Expr} {pos pos' : Pos}
/-- a target of a comprehension: its own slots alone are stored -/
def DGv (C : Ct) (vs : List Nat) (tg : Expr) (d : D) (δ : Sl) (m : Sto) (Q : Sl → Sto → Prop) : Prop :=
  ∀ (X : Cx) (S : Fr), Fits C X → ∀ (v : V) (σ : L2.St) (H : Hp) (T : RT), Le S.t T → SlotsIn σ δ T → T v d → Hd C.K S.r H m T → WG X tg v σ H fun σ' H' => wipe σ' vs = wipe σ vs ∧ ∃ δ' m' T', Le T T' ∧ SlotsIn σ' δ' T' ∧ Hd C.K S.r H' m' T' ∧ Q δ' m'
theorem dgv_name {vs : List Nat} (i : Nat) (hi : i ∈ vs) {x : Str} {d : D} {Q : Sl → Sto → Prop} (hN : C.N[i]? = some x) (hx : Loc C.sc x) (q : Q (δ.set i (some d)) m) (hf : C.fn x = true ∨ C.sc.names.lookup x = some .local := by first | exact .inl rfl | exact .inr rfl | assumption) : DGv C vs (.Name x pos) d δ m Q :=
  fun X S f v σ H T le sl t hh => WG.of (pg_name f.nd (i := i) (by rw [f.N]; exact hN) (f.loc hx) (f.fnl hf)) ⟨wipe_set hi, _, m, T, Le.refl T, sl.set t, hh, q⟩
def DGsv (C : Ct) (vs : List Nat) (ts : List Expr) (ds : List D) (δ : Sl) (m : Sto) (Q : Sl → Sto → Prop) : Prop :=
  ∀ (X : Cx) (S : Fr), Fits C X → ∀ (us : List V) (σ : L2.St) (H : Hp) (T : RT), us.length = ds.length → Le S.t T → SlotsIn σ δ T → Hd C.K S.r H m (PlL T us ds) → WGs X ts us σ H fun σ' H' => wipe σ' vs = wipe σ vs ∧ ∃ δ' m' T', Le T T' ∧ SlotsIn σ' δ' T' ∧ Hd C.K S.r H' m' T' ∧ Q δ' m'
theorem dgsv_nil {vs : List Nat} {Q : Sl → Sto → Prop} (q : Q δ m) : DGsv C vs [] [] δ m Q := fun X S f us σ H T hl le sl hh pins s ws I r => pgs_nil.run pins s σ H us ws _ I r ⟨List.length_eq_zero_iff.mp hl, rfl, δ, m, T, Le.refl T, sl, hh.le PlL.le, q⟩
theorem dgsv_cons {vs : List Nat} {d : D} {ds : List D} {Q : Sl → Sto → Prop} (h : DGv C vs e d δ m fun δ1 m1 => DGsv C vs es ds δ1 m1 Q) (hs : ∀ env, (assignEach (e :: es) env).map (·.2) = assign e env :: (assignEach es env).map (·.2) := by intro _; rfl) : DGsv C vs (e :: es) (d :: ds) δ m Q := by
  intro X S f us σ H T hl le sl hh pins s ws I r
  match us, hl with
  | v :: us, hl =>
    refine (pgs_cons wg wgs (hs _)).run pins s σ H (v :: us) ws _ I r ⟨v, us, rfl, ?_⟩
    have lt : Le T (PlL T (v :: us) (d :: ds)) := PlL.le
    refine (h X S f v σ H _ (le.trans lt) (sl.le lt) (PlL.at (i := 0) rfl rfl) hh).mono fun σ1 H1 ⟨w1, δ1, m1, T1, le1, sl1, h1, q⟩ => ?_
    have l2 : us.length = ds.length := by simpa using hl
    have hq := q X S f us σ1 H1 T1 l2 (le.trans (lt.trans le1)) sl1 (h1.le fun x y z => z.elim id fun z => le1 x y (.inr (by rw [List.zip_cons_cons]; exact List.mem_cons_of_mem _ z)))
    exact fun pins s us I r => thn (hq pins s us I r) fun _ _ ⟨σ', H', I', w', δ', m', T', le', sl', hh', q'⟩ => ⟨σ', H', I', w'.trans w1, δ', m', T', lt.trans (le1.trans le'), sl', hh', q'⟩
theorem dgv_tup {vs : List Nat} {k : Nat} {ds : List D} {Q : Sl → Sto → Prop} (hl : ds.length = es.length) (h : DGsv C vs es ds δ m Q) (hn : ∀ env, (assignEach es env).length = es.length := by intro _; rfl) (hst : ∀ env, (assignEach es env).findIdx? (·.1) = none := by intro _; rfl) (hcm : C.cm = true := by rfl) : DGv C vs (.Tuple es k pos) (.tup ds) δ m Q := by
  intro X S f v σ H T le sl t hh
  obtain ⟨p, xs, rfl, hq, hl2, h4⟩ := hh.items t
  refine WG.of (pg_tup (f.calm hcm) wgs (n := es.length) (hn _) (hst _)) ⟨p, xs, rfl, by rw [f.K]; exact hq, by rw [hl2, hl], ?_⟩
  exact h X S f xs σ H T hl2 le sl h4
/-- the tests of a clause -/
def WTs (X : Cx) (ifs : List Expr) : TT := fun σ H Q => ∀ (pins : List (Addr × Obj)) (s : Shared), Inv X pins σ H s → wpAny (model X.prog X.w) X.A (forIn ifs true fun c r => if r = true then do let ok ← isTrue c X.env (eval c X.env); pure (ForInStep.yield ok) else pure (ForInStep.yield r)) (TP X pins σ Q) X.xe s
theorem WTs.mono {X : Cx} {ifs : List Expr} {σ : L2.St} {H : Hp} {Q Q' : Bool → Hp → Prop} (h : WTs X ifs σ H Q) (k : ∀ v H', Q v H' → Q' v H') : WTs X ifs σ H Q' := fun pins s I => thn (h pins s I) fun b _ ⟨H', I', q⟩ => ⟨H', I', k b H' q⟩
theorem wts {X : Cx} {ifs : List Expr} : PTs X ifs (WTs X ifs) := ⟨fun pins s _ _ _ I h => h pins s I⟩
def DTs (C : Ct) (W : DW) (ifs : List Expr) (δ : Sl) (m : Sto) (Q : Bool → Sto → Prop) : Prop :=
  ∀ (X : Cx) (S : Fr), Fits C X → Takes X (liftW C.K W S) → ∀ (σ : L2.St) (H : Hp) (T : RT), Le S.t T → SlotsIn σ δ T → Hd C.K S.r H m T → WTs X ifs σ H fun b H' => ∃ m', Hd C.K S.r H' m' T ∧ Q b m'
theorem dts_nil {Q : Bool → Sto → Prop} (q : Q true m) : DTs C W [] δ m Q := fun X S f tk σ H T le sl hh pins s I => pts_nil.run pins s σ H _ I ⟨m, hh, q⟩
theorem dts_one {Q : Bool → Sto → Prop} (h : DT C W c δ m Q) : DTs C W [c] δ m Q := fun X S f tk σ H T le sl hh pins s I => (pts_one wt).run pins s σ H _ I (h X S f tk σ H T le sl hh)
def sone (a : Addr) (o : O) : Sto := fun b => if b = a then some o else none
theorem sun_one {m : Sto} {p : Addr} {o : O} (h : m p = none) : sun m (sone p o) = sput m p o := by
  funext x
  by_cases e : x = p
  · subst e
    rw [sun_r h, sput_same]
    exact if_pos rfl
  · rw [sput_ne e]
    cases q : m x with
    | none => rw [sun_r q]; exact if_neg e
    | some u => rw [sun_l q]
theorem sdj_one {m : Sto} {p : Addr} {o : O} (h : m p = none) : sdj m (sone p o) := fun a u e => by
  refine if_neg fun z => ?_
  subst z
  rw [h] at e; cases e
theorem sput_del {m : Sto} {p : Addr} {o : O} : sdel (sput m p o) p = sdel m p := by
  funext x
  unfold sdel sput
  split <;> rfl
theorem sput_back {m : Sto} {p : Addr} {o : O} (h : m p = some o) : sput (sdel m p) p o = m := by
  funext x
  by_cases e : x = p
  · subst e; rw [sput_same, h]
  · rw [sput_ne e, sdel_ne e]

/-- the readings of a block, the widest -/
def rdE (X : Cx) (scope : Scope) (elt : Expr) : TE := fun σ H Q => ∀ (s : Shared) (H0 : Hp) (c : Addr) (cl : List (Str × Addr)) (fp : List Addr), WE (X.blk s H0 scope (compEnvC scope cl c X.env) fp) elt σ H Q
def rdT (X : Cx) (scope : Scope) (ifs : List Expr) : TT := fun σ H Q => ∀ (s : Shared) (H0 : Hp) (c : Addr) (cl : List (Str × Addr)) (fp : List Addr), WTs (X.blk s H0 scope (compEnvC scope cl c X.env) fp) ifs σ H Q
def rdG (X : Cx) (scope : Scope) (tg : Expr) : TG := fun v σ H Q => ∀ (s : Shared) (H0 : Hp) (c : Addr) (cl : List (Str × Addr)) (fp : List Addr), WG (X.blk s H0 scope (compEnvC scope cl c X.env) fp) tg v σ H Q
/-- what a list comprehension is to show: I of the turn, what is made so far, the store -/
def LcI (C : Ct) (W : DW) (elt tg iter : Expr) (ifs : List Expr) (scope : Scope) (own : List (Str × Nat)) (δ : Sl) (m : Sto) (Q : D → Sto → Prop) : Prop :=
  DI C W tg iter δ m fun ds m1 => ∃ I : Nat → List D → Sto → Prop, I 0 [] m1 ∧ (∀ (i : Nat) (d : D) (acc : List D) (m' : Sto), ds[i]? = some d → I i acc m' →
      DGv (C.blk scope) (own.map (·.2)) tg d (wipeS δ (own.map (·.2))) m' fun δ2 m2 => DTs (C.blk scope) W0 ifs δ2 m2 fun k m3 => br k (DE (C.blk scope) W0 elt δ2 m3 fun y m4 => acc.length < sizeLine ∧ I (i + 1) (acc ++ [y]) m4) (I (i + 1) acc m3)) ∧
      ∀ acc m', I ds.length acc m' → Q (.lst acc) m'
theorem lc_read {elt tg iter : Expr} {ifs : List Expr} {scope : Scope} {own : List (Str × Nat)} {Q : D → Sto → Prop} (h : LcI C W elt tg iter ifs scope own δ m Q)
    {X : Cx} {S : Fr} (f : Fits C X) (tk : Takes X (liftW C.K W S)) {σ : L2.St} {H : Hp} {T : RT} (le : Le S.t T) (sl : SlotsIn σ δ T) (hh : Hd C.K S.r H m T) {Qv : VK} (fin : ∀ p H' acc m' T', Le T T' → m' p = none → Hd C.K S.r H' (sput m' p (.lst acc)) T' → Q (.lst acc) m' → Qv (.ref p) H') :
    tLc (WI X tg iter) (rdG X scope tg) (rdT X scope ifs) (rdE X scope elt) (own.map (·.2)) σ H Qv := by
  refine WI.mono (h X S f tk σ H T le sl hh) fun J H1 ⟨ds, m1, T1, le1, h1, wk, I, i0, istep, iend⟩ Dp hD => ?_
  have hm1 := h1.free hD
  have h0 : Hd C.K S.r (upd H1 Dp (.lst [])) (sput m1 Dp (.lst [])) (Pl T1 (.ref Dp) (.ref Dp)) := h1.newM (o := .lst []) hD fun _ _ => RepL.nil
  show ∃ W : Nat → Nat → Hp → Prop, _
  refine Exists.intro (fun (i n : Nat) (H' : Hp) => n = ds.length - i ∧ i ≤ ds.length ∧ ∃ (acc : List D) (m' : Sto) (T' : RT), Le T1 T' ∧ m' Dp = none ∧ Hd C.K S.r H' (sput m' Dp (.lst acc)) T' ∧ I i acc m') (And.intro (Exists.intro ds.length ?_) ?_)
  · exact ⟨rfl, Nat.zero_le _, [], m1, _, Pl.le, hm1, h0, i0⟩
  rintro i n H' ⟨rfl, hi, acc, m', T', le', hm', hh', ih⟩
  have drop : Hd C.K S.r H' (sput m' Dp (.lst acc)) T' → Hd C.K (sun (sone Dp (.lst acc)) S.r) H' m' T' := fun z => by
    rw [← sun_one hm'] at z
    exact z.push (sdj_one hm')
  by_cases hlt : i < ds.length
  · refine .inr ⟨wk.go i S.r H' _ T' hlt le' hh', fun H2 => i + 1 ≤ ds.length ∧ ∃ acc m' T', Le T1 T' ∧ m' Dp = none ∧ Hd C.K S.r H2 (sput m' Dp (.lst acc)) T' ∧ I (i + 1) acc m', fun H2 ⟨u, v⟩ => ⟨ds.length - (i + 1), by omega, rfl, u, v⟩, fun x H2 y => ?_⟩
    have hd := List.getElem?_eq_getElem hlt
    have h2 := drop hh'
    have h2 : Hd C.K (sun (sone Dp (.lst acc)) S.r) H2 m' (Pl T' x _) := wk.yld i _ H' H2 m' T' x _ hd le' h2 y
    have dj1 : sdj (sone Dp (.lst acc)) S.r := fun b u eb => by
      unfold sone at eb
      split at eb
      · rename_i e
        subst e
        exact hh'.1 b _ sput_same
      · cases eb
    have slw := (sl.le (le1.trans le')).wipe (own.map (·.2))
    have st := istep i _ acc m' hd ih
    have leS : Le S.t (Pl T' x ds[i]) := le.trans (le1.trans (le'.trans Pl.le))
    -- behind the element, or behind the test alone
    intro s H0 cc cl fp
    have fb : Fits (C.blk scope) (X.blk s H0 scope (compEnvC scope cl cc X.env) fp) := f.blk
    refine WG.mono (st (X.blk s H0 scope (compEnvC scope cl cc X.env) fp) ⟨S.t, sun (sone Dp (.lst acc)) S.r⟩ fb x (wipe σ (own.map (·.2))) H2 _ leS (slw.le Pl.le) Pl.it h2) ?_
    rintro σ3 H3 ⟨w3, δ3, m3, T3, le3, sl3, h3, q3⟩
    refine ⟨w3.trans wipe_idem, ?_⟩
    intro s' H0' cc' cl' fp'
    have fb' : Fits (C.blk scope) (X.blk s' H0' scope (compEnvC scope cl' cc' X.env) fp') := f.blk
    refine WTs.mono (q3 (X.blk s' H0' scope (compEnvC scope cl' cc' X.env) fp') ⟨S.t, sun (sone Dp (.lst acc)) S.r⟩ fb' takes_W0 σ3 H3 T3 (leS.trans le3) sl3 h3) fun k H4 ⟨m4, h4, q4⟩ => ?_
    cases k with
    | true =>
      rw [if_pos rfl]
      intro s'' H0'' cc'' cl'' fp''
      have fb'' : Fits (C.blk scope) (X.blk s'' H0'' scope (compEnvC scope cl'' cc'' X.env) fp'') := f.blk
      refine (q4.1 rfl (X.blk s'' H0'' scope (compEnvC scope cl'' cc'' X.env) fp'') ⟨S.t, sun (sone Dp (.lst acc)) S.r⟩ fb'' takes_W0 σ3 H4 T3 (leS.trans le3) sl3 h4).mono fun yv H5 ⟨y, m5, h5, hz, q5⟩ => ?_
      obtain ⟨dj5, h6⟩ := Hd.pop h5 dj1
      have hm5 : m5 Dp = none := dj5.sym Dp _ (if_pos rfl)
      rw [sun_one hm5] at h6
      obtain ⟨xs, hx, hl, _⟩ := h6.itemsO sput_same
      refine ⟨xs, hx, by rw [hl]; exact hz, hlt, acc ++ [y], m5, Pl T3 yv y, le'.trans (Pl.le.trans (le3.trans Pl.le)), hm5, ?_, q5⟩
      have h7 := h6.mut (u' := .lst (xs ++ [yv])) (o' := .lst (acc ++ [y])) sput_same hx fun Hi r kk => RepL.snoc r (kk yv y Pl.it)
      rw [sput_sput] at h7
      exact h7
    | false =>
      rw [if_neg Bool.false_ne_true]
      obtain ⟨dj4, h6⟩ := Hd.pop h4 dj1
      have hm4 : m4 Dp = none := dj4.sym Dp _ (if_pos rfl)
      rw [sun_one hm4] at h6
      exact ⟨hlt, acc, m4, T3, le'.trans (Pl.le.trans le3), hm4, h6, q4.2 rfl⟩
  · have ei : i = ds.length := by omega
    subst ei
    exact .inl ⟨wk.stop _ S.r H' _ T' (Nat.le_refl _) le' hh', fin _ _ _ _ _ (le1.trans le') hm' hh' (iend acc m' ih)⟩
theorem lc_frozen {K : PySem.W.Frag} {r : Sto} {H' : Hp} {p : Addr} {acc : List D} {m' : Sto} {T T' : RT} (l : Le T T') (hm : m' p = none) (hd : Hd K r H' (sput m' p (.lst acc)) T') : Hd K r H' m' (Pl T (.ref p) (.lst acc)) := by
  have h8 := hd.freezeL sput_same
  rw [sdel_new hm] at h8
  exact h8.le (Pl.mono l)
/-- [elt for tg in iter if ..] -/
theorem de_lc {elt tg iter : Expr} {ifs : List Expr} {scope : Scope} (own : List (Str × Nat)) {Q : D → Sto → Prop} (ok : blkC C.N C.sc scope own = true)
    (h : LcI C W elt tg iter ifs scope own δ m Q) (hs : ∀ env x, foldedSetIterable iter env x = pure x := by intro _ _; rfl) (hcm : C.cm = true := by rfl) : DE C W (.ListComp elt [⟨tg, iter, ifs, 0⟩] scope pos) δ m Q := by
  intro X S f tk σ H T le sl hh
  have okB : BlkOk X.N X.env.scope scope own := by rw [f.N, f.sc]; exact blkOk_by ok
  exact WE.of (pe_lc (te := rdE X scope elt) (tt := rdT X scope ifs) (g := rdG X scope tg) (f.calm hcm) f.nd wi okB (fun s H c cl fp => ⟨fun pins t σ H v u Q I r q => q s _ c cl fp pins t u I r⟩) (fun s H c cl fp => ⟨fun pins t σ H Q I q => q s _ c cl fp pins t I⟩) (fun s H c cl fp => ⟨fun pins t σ H Q I q => q s _ c cl fp pins t I⟩) (hs _))
    (lc_read h f tk le sl hh fun p H' acc m' T' l hm hd q => ⟨.lst acc, m', lc_frozen l hm hd, q⟩)
/-- name = [..], the name a local that is no cell -/
theorem ds_setLc {D : DEn} (j : Nat) {y : Str} {py : Pos} {elt tg iter : Expr} {ifs : List Expr} {scope : Scope} (own : List (Str × Nat)) (ok : blkC C.N C.sc scope own = true) (hN : C.N[j]? = some y) (hy : C.sc.names.lookup y = some .local)
    (hl : (py.line == pos.line) = true) (hna : (scope.names.any fun (n, k) => n == y && (k == .local || k == .cell)) = false)
    (h : LcI C W elt tg iter ifs scope own δ m fun d m1 => D.nx (δ.set j (some d)) m1) (hs : ∀ env x, foldedSetIterable iter env x = pure x := by intro _ _; rfl) (hk : C.sc.kind = .function := by rfl) (hcm : C.cm = true := by rfl) :
    DS C W (.Assign [.Name y py] (.ListComp elt [⟨tg, iter, ifs, 0⟩] scope pos) pos') δ m D := by
  intro X S f tk σ H T le sl hh
  have okB : BlkOk X.N X.env.scope scope own := by rw [f.N, f.sc]; exact blkOk_by ok
  have hyl : X.env.scope.names.lookup y = some .local := by rw [f.sc]; exact hy
  refine WS.of (ps_setLc (te := rdE X scope elt) (tt := rdT X scope ifs) (g := rdG X scope tg) (f.calm hcm) f.nd (i := j) (by rw [f.N]; exact hN) hyl (sw_true (by rw [f.sc]; exact hk) hyl hl hna) wi okB (fun s H c cl fp => ⟨fun pins t σ H v u Q I r q => q s _ c cl fp pins t u I r⟩) (fun s H c cl fp => ⟨fun pins t σ H Q I q => q s _ c cl fp pins t I⟩) (fun s H c cl fp => ⟨fun pins t σ H Q I q => q s _ c cl fp pins t I⟩) (hs _)) ?_
  exact lc_read h f tk le sl hh fun p H' acc m' T' l hm hd q => ⟨_, m', _, le.trans Pl.le, (sl.le Pl.le).set Pl.it, lc_frozen l hm hd, q⟩
end
end G

/-! The data layer's rules: defs and their calls; the law's own end. -/
namespace G
open PySem PySem.Spec PyProof.Rows L2

/-- what a def does, by data: arguments, store, what is wanted of its value, of its exception -/
abbrev DF := List D → Sto → (D → Sto → Prop) → (Value → List (Str × D) → Sto → Prop) → Prop
def spD (K : PySem.W.Frag) (F : DF) : Sp := fun vs H Q E => ∃ ds m T r Qd Ed, vs.length = ds.length ∧ Hd K r H m (PlL T vs ds) ∧ F ds m Qd Ed ∧ (∀ d m', Qd d m' → ∀ v H', Hd K r H' m' (Pl T v d) → Q v H') ∧
  ∀ cls fs m', Ed cls fs m' → ∀ dd H' T', Le T T' → Hd K r H' m' T' → ExcD H' T' dd fs → E cls dd H'
def startD (N : List Str) (ds : List D) : Sl := ds.map some ++ List.replicate (N.length - ds.length) none
theorem startD_in {N : List Str} {vs : List V} {ds : List D} {T : RT} (hl : vs.length = ds.length) : SlotsIn (L2.start N vs) (startD N ds) (PlL T vs ds) := by
  refine ⟨by simp [L2.start, startD, hl], fun i d h => ?_⟩
  unfold startD at h
  have hi : i < ds.length := by
    by_cases hi : i < ds.length
    · exact hi
    · rw [List.getElem?_append_right (by simpa using hi), List.getElem?_replicate] at h
      split at h <;> cases h
  rw [List.getElem?_append_left (by simpa using hi), List.getElem?_map, List.getElem?_eq_getElem hi] at h
  have e : ds[i] = d := by simpa using h
  have hv : i < vs.length := by omega
  refine ⟨vs[i], ?_, PlL.at (i := i) (List.getElem?_eq_getElem hv) (by rw [List.getElem?_eq_getElem hi, e])⟩
  unfold L2.start
  rw [List.getElem?_append_left (by simpa using hv), List.getElem?_map, List.getElem?_eq_getElem hv]
  rfl
theorem _root_.L2.Room.un200 {k : Nat} {A : Around} (r : Room k A) : A.units + 200 < cLine := by
  have := r.un
  omega
/-- the context of a def's body -/
def ctOf (P : Program) (w : World) (K : PySem.W.Frag) (mg : Str → Option Value) (base : Heap) (N : List Str) (sc : Scope) (k : Nat) : Ct := ⟨P, w, K, mg, base, N, sc, fun _ => true, k, true, true, none⟩
section
variable {P : Program} {w : World} {K : PySem.W.Frag} {mg : Str → Option Value} {base : Heap} {x qual : Str} {params : Arguments} {body : List Stmt} {scope : Scope} {dvs : List V} {kws : List (Str × V)} {f : Addr} {fd : FuncData}
/-- THE RULE for a def -/
theorem def_ok {N ps : List Str} {k : Nat} {F : DF} (Fn : FunD K x qual params body scope dvs kws f fd) (S : FnScope N ps scope) (len : ∀ ds m Q E, F ds m Q E → ds.length = ps.length)
    (hbody : ∀ ds m Q E, F ds m Q E → DSs (ctOf P w K mg base N scope k) (fun cls fs _ m' => E cls fs m') body (startD N ds) m { nx := fun _ m' => Q .non m', rt := Q }) : FnOk P w K mg base (L2.CX P w) (k + 1) f fd ps (spD K F) := by
  refine Fn.ok S (fun vs H Q E h => ?_) fun cdv A outer s H vs Q E hr h => ?_
  · obtain ⟨ds, m, T, r, Qd, Ed, hl, _, hF, _⟩ := h
    rw [hl]
    exact len _ _ _ _ hF
  · obtain ⟨ds, m, T, r, Qd, Ed, hl, hh, hF, hq, he⟩ := h
    have fit : Fits (ctOf P w K mg base N scope k) (cxOf (L2.CX P w) P w K mg base N qual scope f cdv A outer s H E) := ⟨rfl, rfl, rfl, rfl, rfl, rfl, rfl, fun _ _ => rfl, S.nd, hr.un200, fun _ => hr, fun _ => rfl, passes_of rfl, fun _ => ⟨rfl, rfl⟩, (fun _ _ _ e => nomatch e), L2H.roomH_of hr⟩
    have tk0 : Takes (cxOf (L2.CX P w) P w K mg base N qual scope f cdv A outer s H E) (fun cls d _ H => E cls d H) := takes_of rfl rfl rfl rfl
    refine ⟨_, wss, ?_⟩
    refine WSs.mono (hbody ds m Qd Ed hF _ ⟨T, r⟩ fit (tk0.imp ?_) (L2.start N vs) H _ PlL.le (startD_in hl) hh) ?_ ?_ ?_ ?_
    · rintro cls d σ H' ⟨δ', m', T', fs, le', sl', hh', xd, w'⟩
      exact he cls fs m' w' d H' T' le' hh' xd
    · rintro σ H' ⟨δ', m', T', le', sl', hh', q⟩
      exact hq .non m' q .non H' ((hh'.le le').pl fun _ _ => .non)
    · rintro v H' ⟨d, m', hh', q⟩
      exact hq d m' q v H' hh'
    · rintro σ H' ⟨_, _, _, _, _, _, z⟩
      exact z
    · rintro σ H' ⟨_, _, _, _, _, _, z⟩
      exact z
/-- what a caller knows of the def x -/
structure Kn (P : Program) (w : World) (K : PySem.W.Frag) (mg : Str → Option Value) (base : Heap) (x : Str) (k : Nat) (F : DF) : Prop where
  ex : ∃ f fd ps, FnOk P w K mg base (L2.CX P w) k f fd ps (spD K F) ∧ mg x = some (.ref f) ∧ PySem.W.keepIn K (.ref f) = true ∧ Binds K fd ps []
end
section
variable {C : Ct} {W : DW} {δ : Sl} {m : Sto} {a b c e : Expr} {es : List Expr} {pos pos' : Pos} {Q : D → Sto → Prop}
theorem spD_at {X : Cx} {S : Fr} {σ : L2.St} {H1 : Hp} {m1 : Sto} {T : RT} {vs : List V} {ds : List D} {F : DF} (le : Le S.t T) (sl : SlotsIn σ δ T) (hl : vs.length = ds.length) (h1 : Hd C.K S.r H1 m1 (PlL T vs ds)) (q : F ds m1 Q fun cls fs m' => W cls fs δ m') :
    spD C.K F vs H1 (fun v H' => ∃ d m', Hd C.K S.r H' m' (Pl T v d) ∧ Q d m') (L2.WE (liftW C.K W S) σ) :=
  ⟨ds, m1, T, S.r, Q, _, hl, h1, q, fun d m' q' v H' h' => ⟨d, m', h', q'⟩, fun cls fs m' w' dd H' T' l' h' xd => ⟨δ, m', T', fs, le.trans l', sl.le l', h', xd, w'⟩⟩
theorem de_call {x : Str} {p : Pos} {k : Nat} {F : DF} (kn : Kn C.P C.w C.K C.mg C.base x k F) (hk : Nat.ble k C.k = true) (hg : GlC C x) (h : DA C W (e :: es) δ m fun ds m1 => F ds m1 Q fun cls fs m' => W cls fs δ m') (hdb : (x == ("__debug__" : Str)) = false := by decide) (hcm : C.cm = true := by rfl)
    (he : ∀ env, starEach (e :: es) env = (false, eval e env) :: starEach es env := by intro _; rfl) (hpl : ∀ env, (backTo pos (starEach es env)).any (·.1) = false := by intro _; rfl) : DE C W (.Call (.Name x p) (e :: es) [] pos) δ m Q := by
  intro X S fX tk σ H T le sl hh pins s I
  obtain ⟨f, fd, ps, ok, hm, kp, hb⟩ := kn.ex
  rw [← fX.prog, ← fX.w, ← fX.K, ← fX.mg, ← fX.base] at ok
  rw [← fX.K] at kp hb
  refine wpAny_Call_Name_kw (ld_glob I (fX.gl hg) (by rw [fX.mg]; exact hm) ?_ hdb)
  refine PySem.W.callWith_K (h₀ := X.base) I.ok.mod.kin kp (thn (h X S fX tk σ H T le sl hh pos pins s I) fun us s1 ⟨vs, H1, I1, r, ds, m1, hl, h1, q⟩ => ⟨I1.kIn, ?_⟩) (he _) (hpl _)
  refine run_fnS (E := L2.WE (liftW C.K W S)) (ok.mono (Nat.le_of_ble_eq_true hk)) (fX.room hcm) hb (passAt tk σ) I1 r ?_
  have z := spD_at (X := X) (S := S) (σ := σ) (Q := Q) (W := W) (δ := δ) le sl hl h1 q
  rw [← fX.K] at z ⊢
  exact z
end
/-! ### the end -/
theorem hd_begin {K : PySem.W.Frag} {H : Hp} {T : RT} (hT : ∀ v d, T v d → Rep K H v d) : Hd K (fun _ => none) H (fun _ => none) T :=
  ⟨(fun _ _ e => nomatch e), H, (fun _ _ h => h), (fun _ _ e => nomatch e), hT⟩
theorem repL_ints {K : PySem.W.Frag} {H : Hp} : ∀ ns : List Int, RepL K H (ns.map V.int) (ns.map D.int)
  | [] => .nil
  | n :: ns => .cons (.int n) (repL_ints ns)
/-- the law's def: over every list of ints it hands back True -/
def FLaw : DF := fun ds m Q _ => ∃ ns : List Int, ds = [.frz (ns.map D.int)] ∧ ns.length ≤ 63 ∧ (∀ a, m a = none) ∧ ∀ m', Q (.bl true) m'
theorem law_sp {K : PySem.W.Frag} {H : Hp} {a : Addr} {ns : List Int} (hl : ns.length ≤ 63) (h : SqL K H a (ns.map V.int)) : spD K FLaw [.ref a] H (fun v _ => v = .bl true) fun _ _ _ => False := by
  refine ⟨[.frz (ns.map D.int)], fun _ => none, fun _ _ => False, fun _ => none, fun d _ => d = .bl true, fun _ _ _ => False, rfl, hd_begin fun v d z => ?_, ⟨ns, rfl, hl, fun _ => rfl, fun _ => rfl⟩, fun d m' e v H' h' => ?_, fun _ _ _ z => z.elim⟩
  · rcases z with z | z
    · exact z.elim
    · simp only [List.zip_cons_cons, List.zip_nil_left, List.mem_singleton, Prod.mk.injEq] at z
      obtain ⟨rfl, rfl⟩ := z
      exact .frz h (repL_ints ns)
  · subst e
    exact h'.isbl
theorem cx_never {P : Program} {w : World} {H : Hp} {s : Shared} {e : Value} {s' : Shared} (h : L2.CX P w [] H s (fun _ _ _ => False) e s') : False := by
  obtain ⟨_, _, _, _, _, _, _, _, _, _, _, _, z⟩ := h
  exact z
end G

/-! The data layer: more rules; short lemmas for the walk. -/
namespace G
open PySem PySem.Spec PyProof.Rows L2

section
variable {C : Ct} {W : DW} {δ : Sl} {m : Sto} {a b c e : Expr} {es : List Expr} {pos pos' : Pos} {Q : D → Sto → Prop}
/-! ### in, not in -/
def inD (neg : Bool) : R2D := fun d e m Q => ∃ n l, n ≤ 58 ∧ e = .lst l ∧ okD n d = true ∧ okDL n l = true ∧ Q (.bl (if neg then !l.any fun z => eqvD z d else l.any fun z => eqvD z d)) m
theorem any_toPy (d : D) : ∀ l : List D, ((toPyL l).any fun z => PyData.eqv z (toPy d)) = l.any fun z => eqvD z d
  | [] => rfl
  | x :: l => by
    show (PyData.eqv (toPy x) (toPy d) || (toPyL l).any fun z => PyData.eqv z (toPy d)) = (eqvD x d || l.any fun z => eqvD z d)
    rw [any_toPy d l]
    rfl
theorem units65 {C : Ct} {X : Cx} (f : Fits C X) : X.A.units + 65 < cLine := by have := f.un; omega
theorem od_in : OpD C (compareOp .In) (inD false) := by
  rintro X f fr H m T x y d e Q hh tx ty ⟨n, l, hn, rfl, o1, o2, q⟩
  have o3 : okD (n + 1) (.lst l) = true := by simpa [okD] using o2
  have dp := (hh.rep ty).dp (n + 1) o3
  refine wb_of (op_inD (units65 f)) ⟨toPy d, toPyL l, by rw [f.K]; exact (hh.rep tx).dp n o1, by rw [f.K]; simpa [toPy] using dp, okD_shaped o1 (by omega), by simpa [toPy] using okD_shaped o3 (by omega), ?_⟩
  rw [any_toPy]
  exact dk_bl hh q
theorem od_notin : OpD C (compareOp .NotIn) (inD true) := by
  rintro X f fr H m T x y d e Q hh tx ty ⟨n, l, hn, rfl, o1, o2, q⟩
  have o3 : okD (n + 1) (.lst l) = true := by simpa [okD] using o2
  have dp := (hh.rep ty).dp (n + 1) o3
  refine wb_of (op_notInD (units65 f)) ⟨toPy d, toPyL l, by rw [f.K]; exact (hh.rep tx).dp n o1, by rw [f.K]; simpa [toPy] using dp, okD_shaped o1 (by omega), by simpa [toPy] using okD_shaped o3 (by omega), ?_⟩
  rw [any_toPy]
  exact dk_bl hh q
/-! ### isinstance(x, (T1, T2)) -/
theorem de_isi2 {x1 x2 : Str} {p p1 p2 p3 : Pos} {k : Nat} {n1 n2 : String} (hg : GlC C "isinstance") (hm : C.mg "isinstance" = none) (g1 : GlC C x1) (m1 : C.mg x1 = none) (v1 : bootBuiltins x1 = some (.type n1)) (g2 : GlC C x2) (m2 : C.mg x2 = none) (v2 : bootBuiltins x2 = some (.type n2))
    (h : DE C W a δ m fun d m1 => ∃ t k, tyD d = some t ∧ kit2 t n1 n2 = some k ∧ Q (.bl k) m1) (h1 : x1 ≠ "__name__" := by decide) (h2 : x2 ≠ "__name__" := by decide) (d1 : (x1 == ("__debug__" : Str)) = false := by decide) (d2 : (x2 == ("__debug__" : Str)) = false := by decide)
    (he : ∀ env e es, starEach (a :: e :: es) env = (false, eval a env) :: starEach (e :: es) env := by intro _ _ _; rfl) : DE C W (.Call (.Name "isinstance" p) [a, .Tuple [.Name x1 p1, .Name x2 p2] k p3] [] pos) δ m Q := by
  intro X S f tk σ H T le sl hh
  refine WE.of (pe_callB call_isiT (f.gl hg) (by rw [f.mg]; exact hm) (by decide +kernel) (pa_cons we (pa_cons (pe_tup (pa_cons (pe_bltn (v := .ty n1) (f.gl g1) (by rw [f.mg]; exact m1) v1 rfl h1 d1) (pa_cons (pe_bltn (v := .ty n2) (f.gl g2) (by rw [f.mg]; exact m2) v2 rfl h2 d2) pa_nil))) pa_nil) (he _ _ _)) (by decide) (by decide) (he _ _ _)) ?_
  refine (h X S f tk σ H T le sl hh).mono fun v H1 ⟨d, m1, h1, t, k, ht, hk, q⟩ => ?_
  refine ⟨by show 2 ≤ sizeLine; decide, fun tp ht2 => ?_⟩
  have ty := h1.tyX Pl.it ht
  have h3 : Hd C.K S.r (upd H1 tp (.tup [.ty n1, .ty n2])) m1 (Pl (Pl T v d) (.ref tp) (.tup [.ty n1, .ty n2])) := h1.newI ht2 fun Hi hi kk => .tup (SqT.of upd_same) (fun _ _ => upd_same) (.cons (.ty n1) (.cons (.ty n2) .nil))
  have ty2 := h3.tyX (.inl Pl.it) ht
  exact ⟨v, tp, [.ty n1, .ty n2], .type t, [.type n1, .type n2], k, rfl, upd_same, .cons (.ty n1) (.cons (.ty n2) .nil), by rw [f.K]; exact ty2, kit2_any hk, dK.le (dk_bl h3 q) (Pl.le.trans Pl.le)⟩
end
end G

/-! The data layer: short lemmas for the walk. -/
namespace G
open PySem PySem.Spec PyProof.Rows L2

theorem bt_len : bootBuiltins "len" = some (.builtin "len") := by decide +kernel
theorem bt_max : bootBuiltins "max" = some (.builtin "max") := by decide +kernel
theorem bt_min : bootBuiltins "min" = some (.builtin "min") := by decide +kernel
theorem bt_all : bootBuiltins "all" = some (.builtin "all") := by decide +kernel
theorem bt_any : bootBuiltins "any" = some (.builtin "any") := by decide +kernel
theorem bt_sum : bootBuiltins "sum" = some (.builtin "sum") := by decide +kernel
theorem bt_sorted : bootBuiltins "sorted" = some (.builtin "sorted") := by decide +kernel
theorem bt_isinstance : bootBuiltins "isinstance" = some (.builtin "isinstance") := by decide +kernel
theorem bt_abs : bootBuiltins "abs" = some (.builtin "abs") := by decide +kernel
theorem bt_repr : bootBuiltins "repr" = some (.builtin "repr") := by decide +kernel
theorem bt_int : bootBuiltins "int" = some (.type "int") := by decide +kernel
theorem bt_str : bootBuiltins "str" = some (.type "str") := by decide +kernel
theorem bt_bool : bootBuiltins "bool" = some (.type "bool") := by decide +kernel
theorem bt_list : bootBuiltins "list" = some (.type "list") := by decide +kernel
theorem bt_tuple : bootBuiltins "tuple" = some (.type "tuple") := by decide +kernel
theorem bt_dict : bootBuiltins "dict" = some (.type "dict") := by decide +kernel
theorem bt_set : bootBuiltins "set" = some (.type "set") := by decide +kernel
theorem bt_range : bootBuiltins "range" = some (.type "range") := by decide +kernel

section
variable {C : Ct} {W : DW} {δ : Sl} {m : Sto} {a b c e : Expr} {pos pos' p2 : Pos} {Q : D → Sto → Prop} {B : Bool → Sto → Prop}
theorem lt_lit {a b : Nat} (h : Nat.ble (a + 1) b = true) : a < b := Nat.le_of_ble_eq_true h
/-! ### operators on known data -/
theorem add_ii {i j : Int} (q : Q (.int (i + j)) m) : addD (.int i) (.int j) m Q := q
theorem add_ib {i : Int} {k : Bool} (q : Q (.int (i + b2i k)) m) : addD (.int i) (.bl k) m Q := q
theorem add_ss {x y : Str} (h : x.length + y.length ≤ sizeLine) (q : Q (.str (x ++ y)) m) : addD (.str x) (.str y) m Q := ⟨h, q⟩
theorem add_tt {x y : List D} (h : x.length + y.length ≤ sizeLine) (q : Q (.tup (x ++ y)) m) : addD (.tup x) (.tup y) m Q := ⟨h, q⟩
theorem add_ll {x y : List D} (h : x.length + y.length ≤ sizeLine) (q : Q (.lst (x ++ y)) m) : addD (.lst x) (.lst y) m Q := ⟨h, q⟩
theorem sub_ii {i j : Int} (q : Q (.int (i - j)) m) : subD (.int i) (.int j) m Q := q
theorem mul_ii {i j : Int} (h : CMul i j) (q : Q (.int (i * j)) m) : mulD (.int i) (.int j) m Q := ⟨h, q⟩
theorem div_ii {i j : Int} (h : CDiv i j) (q : Q (.int (i / j)) m) : divD (.int i) (.int j) m Q := ⟨h, q⟩
theorem mod_ii {i j : Int} (h : 0 < j) (q : Q (.int (i % j)) m) : modD (.int i) (.int j) m Q := ⟨h, q⟩
theorem pow_ii {i j : Int} (h : CPow i j) (q : Q (.int (i ^ j.toNat)) m) : powD (.int i) (.int j) m Q := ⟨h, q⟩
theorem cmp_ii {p : Int → Int → Bool} {i j : Int} (q : Q (.bl (p i j)) m) : cmpI p (.int i) (.int j) m Q := q
theorem is_n {d : D} (q : Q (.bl (isN d)) m) : isD d .non m Q := ⟨rfl, q⟩
theorem isnt_n {d : D} (q : Q (.bl (!isN d)) m) : isntD d .non m Q := ⟨rfl, q⟩
theorem isN_non : isN .non = true := rfl
theorem ix_of (k : Nat) {ds : List D} {d : D} (h : ds[k]? = some d) : atI ds ((k : Nat) : Int) = some d := atI_nat h
theorem ixT (k : Nat) {ds : List D} {d : D} (h : ds[k]? = some d) (q : Q d m) : ixD (.tup ds) (.int (k : Int)) m Q := ⟨d, atI_nat h, q⟩
theorem ixL (k : Nat) {ds : List D} {d : D} (h : ds[k]? = some d) (q : Q d m) : ixD (.lst ds) (.int (k : Int)) m Q := ⟨d, atI_nat h, q⟩
theorem ixF (k : Nat) {ds : List D} {d : D} (h : ds[k]? = some d) (q : Q d m) : ixD (.frz ds) (.int (k : Int)) m Q := ⟨d, atI_nat h, q⟩
theorem ixO (k : Nat) {p : Addr} {ds : List D} {d : D} (hm : m p = some (.lst ds)) (h : ds[k]? = some d) (q : Q d m) : ixD (.ref p) (.int (k : Int)) m Q := ⟨ds, d, hm, atI_nat h, q⟩
/-- at an open place -/
theorem ixTi {ds : List D} {i : Int} {d : D} (h0 : 0 ≤ i) (h : ds[i.toNat]? = some d) (q : Q d m) : ixD (.tup ds) (.int i) m Q := ⟨d, by
  obtain ⟨k, rfl⟩ : ∃ k : Nat, i = k := ⟨i.toNat, by omega⟩
  exact atI_nat (by simpa using h), q⟩
theorem ixLi {ds : List D} {i : Int} {d : D} (h0 : 0 ≤ i) (h : ds[i.toNat]? = some d) (q : Q d m) : ixD (.lst ds) (.int i) m Q := ⟨d, by
  obtain ⟨k, rfl⟩ : ∃ k : Nat, i = k := ⟨i.toNat, by omega⟩
  exact atI_nat (by simpa using h), q⟩
theorem atI_neg {α : Type} {xs : List α} {v : α} (h : xs.getLast? = some v) : atI xs (-1) = some v := by
  obtain ⟨ys, e⟩ := List.getLast?_eq_some_iff.mp h
  rw [e]
  exact atI_last _ _
theorem ixLn {ds : List D} {d : D} (h : ds.getLast? = some d) (q : Q d m) : ixD (.lst ds) (.int (-1)) m Q := ⟨d, atI_neg h, q⟩
theorem set_at (j : Nat) {p : Addr} {ds : List D} {d : D} {k : Sto → Prop} (hm : m p = some (.lst ds)) (hj : j < ds.length) (q : k (sput m p (.lst (ds.set j d)))) : setD (.ref p) (.int (j : Int)) d m k :=
  ⟨p, ds, j, j, rfl, rfl, hm, by
    unfold ixN
    rw [if_pos (by omega), if_pos (by omega)]
    simp, q⟩
theorem set_sput (j : Nat) {p : Addr} {ds : List D} {d : D} {k : Sto → Prop} (hj : j < ds.length) (q : k (sput m p (.lst (ds.set j d)))) : setD (.ref p) (.int (j : Int)) d (sput m p (.lst ds)) k :=
  set_at j sput_same hj (by rw [sput_sput]; exact q)
/-! ### negation, chains -/
theorem de_neg (h : DE C W a δ m fun d m1 => ∃ i, d = .int i ∧ Q (.int (-i)) m1) : DE C W (.UnaryOp .USub a pos) δ m Q := by
  intro X S f tk σ H T le sl hh
  refine WE.of (pe_un un_neg we) ((h X S f tk σ H T le sl hh).mono fun v H1 ⟨d, m1, h1, i, e, q⟩ => ?_)
  subst e
  have r := h1.rep Pl.it
  cases r
  exact ⟨i, rfl, dk_int (h1.le Pl.le) q⟩
theorem de_chainI {op op' : CmpOp} {p p' : Int → Int → Bool} {l : Int} (ho : OpD C (compareOp op) (cmpI p)) (ho' : OpD C (compareOp op') (cmpI p')) (h : DE C W a δ m fun x m1 => DE C W b δ m1 fun y m2 => ∃ i j, x = .int i ∧ y = .int j ∧ PE' C c δ m2 (.int l) ∧ Q (.bl (p i j && p' j l)) m2)
    (hm : lastMarks [op, op'] [b, c] = false := by with_unfolding_all rfl) : DE C W (.Compare a [op, op'] [b, c] pos) δ m Q := by
  refine de_chain ho ho' (h.mono fun x m1 q0 => q0.mono fun y m2 ⟨i, j, e1, e2, pc, q⟩ => ?_) hm
  subst e1 e2
  refine cmp_ii (tb ⟨fun e => pc W _ (cmp_ii ?_), fun e => ?_⟩)
  · rw [e, Bool.true_and] at q
    exact q
  · rw [e, Bool.false_and] at q
    exact q
theorem dt_chainI {op op' : CmpOp} {p p' : Int → Int → Bool} {l : Int} (ho : OpD C (compareOp op) (cmpI p)) (ho' : OpD C (compareOp op') (cmpI p')) (h : DE C W a δ m fun x m1 => DE C W b δ m1 fun y m2 => ∃ i j, x = .int i ∧ y = .int j ∧ PE' C c δ m2 (.int l) ∧ B (p i j && p' j l) m2)
    (hm : lastMarks [op, op'] [b, c] = false := by with_unfolding_all rfl) : DT C W (.Compare a [op, op'] [b, c] pos) δ m B := by
  refine dt_chain ho ho' (h.mono fun x m1 q0 => q0.mono fun y m2 ⟨i, j, e1, e2, pc, q⟩ => ?_) hm
  subst e1 e2
  refine cmp_ii (tb ⟨fun e => pc W _ (cmp_ii (tb ?_)), fun e => ?_⟩)
  · rw [e, Bool.true_and] at q
    exact q
  · rw [e, Bool.false_and] at q
    exact q
/-! ### and, or of several parts that change nothing -/
theorem pe_and2 {e0 e1 : Expr} {k0 k1 : Bool} (h0 : PE' C e0 δ m (.bl k0)) (h1 : k0 = true → PE' C e1 δ m (.bl k1)) : PE' C (.BoolOp .And [e0, e1] pos) δ m (.bl (k0 && k1)) := pe_and' h0 fun z1 => (pe_one' (h1 z1))
theorem pt_and2 {e0 e1 : Expr} {k0 k1 : Bool} (h0 : PT C e0 δ m k0) (h1 : k0 = true → PT C e1 δ m k1) : PT C (.BoolOp .And [e0, e1] pos) δ m (k0 && k1) := fun W B q => dt_pw (pw_and' h0 fun z1 => (pw_one_and (h1 z1))) q
theorem pe_and3 {e0 e1 e2 : Expr} {k0 k1 k2 : Bool} (h0 : PE' C e0 δ m (.bl k0)) (h1 : k0 = true → PE' C e1 δ m (.bl k1)) (h2 : k0 = true → k1 = true → PE' C e2 δ m (.bl k2)) : PE' C (.BoolOp .And [e0, e1, e2] pos) δ m (.bl (k0 && (k1 && k2))) := pe_and' h0 fun z1 => (pe_and' (h1 z1) fun z2 => (pe_one' (h2 z1 z2)))
theorem pt_and3 {e0 e1 e2 : Expr} {k0 k1 k2 : Bool} (h0 : PT C e0 δ m k0) (h1 : k0 = true → PT C e1 δ m k1) (h2 : k0 = true → k1 = true → PT C e2 δ m k2) : PT C (.BoolOp .And [e0, e1, e2] pos) δ m (k0 && (k1 && k2)) := fun W B q => dt_pw (pw_and' h0 fun z1 => (pw_and' (h1 z1) fun z2 => (pw_one_and (h2 z1 z2)))) q
theorem pe_and4 {e0 e1 e2 e3 : Expr} {k0 k1 k2 k3 : Bool} (h0 : PE' C e0 δ m (.bl k0)) (h1 : k0 = true → PE' C e1 δ m (.bl k1)) (h2 : k0 = true → k1 = true → PE' C e2 δ m (.bl k2)) (h3 : k0 = true → k1 = true → k2 = true → PE' C e3 δ m (.bl k3)) : PE' C (.BoolOp .And [e0, e1, e2, e3] pos) δ m (.bl (k0 && (k1 && (k2 && k3)))) := pe_and' h0 fun z1 => (pe_and' (h1 z1) fun z2 => (pe_and' (h2 z1 z2) fun z3 => (pe_one' (h3 z1 z2 z3))))
theorem pt_and4 {e0 e1 e2 e3 : Expr} {k0 k1 k2 k3 : Bool} (h0 : PT C e0 δ m k0) (h1 : k0 = true → PT C e1 δ m k1) (h2 : k0 = true → k1 = true → PT C e2 δ m k2) (h3 : k0 = true → k1 = true → k2 = true → PT C e3 δ m k3) : PT C (.BoolOp .And [e0, e1, e2, e3] pos) δ m (k0 && (k1 && (k2 && k3))) := fun W B q => dt_pw (pw_and' h0 fun z1 => (pw_and' (h1 z1) fun z2 => (pw_and' (h2 z1 z2) fun z3 => (pw_one_and (h3 z1 z2 z3))))) q
theorem pe_and5 {e0 e1 e2 e3 e4 : Expr} {k0 k1 k2 k3 k4 : Bool} (h0 : PE' C e0 δ m (.bl k0)) (h1 : k0 = true → PE' C e1 δ m (.bl k1)) (h2 : k0 = true → k1 = true → PE' C e2 δ m (.bl k2)) (h3 : k0 = true → k1 = true → k2 = true → PE' C e3 δ m (.bl k3)) (h4 : k0 = true → k1 = true → k2 = true → k3 = true → PE' C e4 δ m (.bl k4)) : PE' C (.BoolOp .And [e0, e1, e2, e3, e4] pos) δ m (.bl (k0 && (k1 && (k2 && (k3 && k4))))) := pe_and' h0 fun z1 => (pe_and' (h1 z1) fun z2 => (pe_and' (h2 z1 z2) fun z3 => (pe_and' (h3 z1 z2 z3) fun z4 => (pe_one' (h4 z1 z2 z3 z4)))))
theorem pt_and5 {e0 e1 e2 e3 e4 : Expr} {k0 k1 k2 k3 k4 : Bool} (h0 : PT C e0 δ m k0) (h1 : k0 = true → PT C e1 δ m k1) (h2 : k0 = true → k1 = true → PT C e2 δ m k2) (h3 : k0 = true → k1 = true → k2 = true → PT C e3 δ m k3) (h4 : k0 = true → k1 = true → k2 = true → k3 = true → PT C e4 δ m k4) : PT C (.BoolOp .And [e0, e1, e2, e3, e4] pos) δ m (k0 && (k1 && (k2 && (k3 && k4)))) := fun W B q => dt_pw (pw_and' h0 fun z1 => (pw_and' (h1 z1) fun z2 => (pw_and' (h2 z1 z2) fun z3 => (pw_and' (h3 z1 z2 z3) fun z4 => (pw_one_and (h4 z1 z2 z3 z4)))))) q
theorem pe_or2 {e0 e1 : Expr} {k0 k1 : Bool} (h0 : PE' C e0 δ m (.bl k0)) (h1 : k0 = false → PE' C e1 δ m (.bl k1)) : PE' C (.BoolOp .Or [e0, e1] pos) δ m (.bl (k0 || k1)) := pe_or' h0 fun z1 => (pe_one' (h1 z1))
theorem pt_or2 {e0 e1 : Expr} {k0 k1 : Bool} (h0 : PT C e0 δ m k0) (h1 : k0 = false → PT C e1 δ m k1) : PT C (.BoolOp .Or [e0, e1] pos) δ m (k0 || k1) := fun W B q => dt_pw (pw_or' h0 fun z1 => (pw_one_or (h1 z1))) q
theorem pe_or3 {e0 e1 e2 : Expr} {k0 k1 k2 : Bool} (h0 : PE' C e0 δ m (.bl k0)) (h1 : k0 = false → PE' C e1 δ m (.bl k1)) (h2 : k0 = false → k1 = false → PE' C e2 δ m (.bl k2)) : PE' C (.BoolOp .Or [e0, e1, e2] pos) δ m (.bl (k0 || (k1 || k2))) := pe_or' h0 fun z1 => (pe_or' (h1 z1) fun z2 => (pe_one' (h2 z1 z2)))
theorem pt_or3 {e0 e1 e2 : Expr} {k0 k1 k2 : Bool} (h0 : PT C e0 δ m k0) (h1 : k0 = false → PT C e1 δ m k1) (h2 : k0 = false → k1 = false → PT C e2 δ m k2) : PT C (.BoolOp .Or [e0, e1, e2] pos) δ m (k0 || (k1 || k2)) := fun W B q => dt_pw (pw_or' h0 fun z1 => (pw_or' (h1 z1) fun z2 => (pw_one_or (h2 z1 z2)))) q
theorem pe_or4 {e0 e1 e2 e3 : Expr} {k0 k1 k2 k3 : Bool} (h0 : PE' C e0 δ m (.bl k0)) (h1 : k0 = false → PE' C e1 δ m (.bl k1)) (h2 : k0 = false → k1 = false → PE' C e2 δ m (.bl k2)) (h3 : k0 = false → k1 = false → k2 = false → PE' C e3 δ m (.bl k3)) : PE' C (.BoolOp .Or [e0, e1, e2, e3] pos) δ m (.bl (k0 || (k1 || (k2 || k3)))) := pe_or' h0 fun z1 => (pe_or' (h1 z1) fun z2 => (pe_or' (h2 z1 z2) fun z3 => (pe_one' (h3 z1 z2 z3))))
theorem pt_or4 {e0 e1 e2 e3 : Expr} {k0 k1 k2 k3 : Bool} (h0 : PT C e0 δ m k0) (h1 : k0 = false → PT C e1 δ m k1) (h2 : k0 = false → k1 = false → PT C e2 δ m k2) (h3 : k0 = false → k1 = false → k2 = false → PT C e3 δ m k3) : PT C (.BoolOp .Or [e0, e1, e2, e3] pos) δ m (k0 || (k1 || (k2 || k3))) := fun W B q => dt_pw (pw_or' h0 fun z1 => (pw_or' (h1 z1) fun z2 => (pw_or' (h2 z1 z2) fun z3 => (pw_one_or (h3 z1 z2 z3))))) q
theorem pe_or5 {e0 e1 e2 e3 e4 : Expr} {k0 k1 k2 k3 k4 : Bool} (h0 : PE' C e0 δ m (.bl k0)) (h1 : k0 = false → PE' C e1 δ m (.bl k1)) (h2 : k0 = false → k1 = false → PE' C e2 δ m (.bl k2)) (h3 : k0 = false → k1 = false → k2 = false → PE' C e3 δ m (.bl k3)) (h4 : k0 = false → k1 = false → k2 = false → k3 = false → PE' C e4 δ m (.bl k4)) : PE' C (.BoolOp .Or [e0, e1, e2, e3, e4] pos) δ m (.bl (k0 || (k1 || (k2 || (k3 || k4))))) := pe_or' h0 fun z1 => (pe_or' (h1 z1) fun z2 => (pe_or' (h2 z1 z2) fun z3 => (pe_or' (h3 z1 z2 z3) fun z4 => (pe_one' (h4 z1 z2 z3 z4)))))
theorem pt_or5 {e0 e1 e2 e3 e4 : Expr} {k0 k1 k2 k3 k4 : Bool} (h0 : PT C e0 δ m k0) (h1 : k0 = false → PT C e1 δ m k1) (h2 : k0 = false → k1 = false → PT C e2 δ m k2) (h3 : k0 = false → k1 = false → k2 = false → PT C e3 δ m k3) (h4 : k0 = false → k1 = false → k2 = false → k3 = false → PT C e4 δ m k4) : PT C (.BoolOp .Or [e0, e1, e2, e3, e4] pos) δ m (k0 || (k1 || (k2 || (k3 || k4)))) := fun W B q => dt_pw (pw_or' h0 fun z1 => (pw_or' (h1 z1) fun z2 => (pw_or' (h2 z1 z2) fun z3 => (pw_or' (h3 z1 z2 z3) fun z4 => (pw_one_or (h4 z1 z2 z3 z4)))))) q
theorem dt_pt {k : Bool} (h : PT C e δ m k) (q : B k m) : DT C W e δ m B := h W B q
/-! ### slices by their parts -/
theorem de_sl00 (h : DE C W a δ m fun x m1 => cutD x none none m1 Q) : DE C W (.Subscript a (.Slice none none none p2) pos) δ m Q := de_slice h
theorem de_sl01 (h : DE C W a δ m fun x m1 => DE C W b δ m1 fun d m2 => ∃ i, d = .int i ∧ cutD x none (some i) m2 Q) : DE C W (.Subscript a (.Slice none (some b) none p2) pos) δ m Q := de_slice h
theorem de_sl10 (h : DE C W a δ m fun x m1 => DE C W b δ m1 fun d m2 => ∃ i, d = .int i ∧ cutD x (some i) none m2 Q) : DE C W (.Subscript a (.Slice (some b) none none p2) pos) δ m Q := de_slice h
theorem de_sl11 (h : DE C W a δ m fun x m1 => DE C W b δ m1 fun d m2 => ∃ i, d = .int i ∧ DE C W c δ m2 fun d' m3 => ∃ j, d' = .int j ∧ cutD x (some i) (some j) m3 Q) : DE C W (.Subscript a (.Slice (some b) (some c) none p2) pos) δ m Q := de_slice (h.mono fun x m1 q => q.mono fun d m2 ⟨i, e, q⟩ => ⟨i, e, q⟩)
theorem cut_s {z : Str} {lo hi : Option Int} (h : z.length ≤ sizeLine) (q : Q (.str (cutS z lo hi)) m) : cutD (.str z) lo hi m Q := ⟨h, q⟩
theorem cut_t {z : List D} {lo hi : Option Int} (q : Q (.tup (cutL z lo hi)) m) : cutD (.tup z) lo hi m Q := q
theorem cut_l {z : List D} {lo hi : Option Int} (q : Q (.lst (cutL z lo hi)) m) : cutD (.lst z) lo hi m Q := q
theorem cut_f {z : List D} {lo hi : Option Int} (q : Q (.lst (cutL z lo hi)) m) : cutD (.frz z) lo hi m Q := q
theorem cutL_to {α : Type} (xs : List α) (n : Nat) : cutL xs none (some (n : Int)) = xs.take n := by
  unfold cutL
  rw [show HT.sIx xs.length xs.length (some (n : Int)) = min n xs.length from HT.sIx_nat xs.length xs.length n, HT.sIx_none, List.drop_zero, Nat.sub_zero]
  by_cases h : n ≤ xs.length
  · rw [Nat.min_eq_left h]
  · rw [Nat.min_eq_right (by omega), List.take_length, List.take_of_length_le (by omega)]
theorem cutL_from {α : Type} (xs : List α) (n : Nat) : cutL xs (some (n : Int)) none = xs.drop n := by
  unfold cutL
  rw [show HT.sIx xs.length 0 (some (n : Int)) = min n xs.length from HT.sIx_nat xs.length 0 n, HT.sIx_none]
  by_cases h : n ≤ xs.length
  · rw [Nat.min_eq_left h]
    exact List.take_of_length_le (by rw [List.length_drop]; omega)
  · rw [Nat.min_eq_right (by omega), List.drop_length, List.drop_eq_nil_of_le (by omega)]
    simp
/-! ### built-ins on known data -/
theorem len_s {z : Str} (h : z.length ≤ sizeLine) (q : Q (.int z.length) m) : lenD [.str z] m Q := ⟨h, q⟩
theorem len_t {l : List D} (q : l.length ≤ sizeLine → Q (.int l.length) m) : lenD [.tup l] m Q := q
theorem len_l {l : List D} (q : l.length ≤ sizeLine → Q (.int l.length) m) : lenD [.lst l] m Q := q
theorem len_f {l : List D} (q : l.length ≤ sizeLine → Q (.int l.length) m) : lenD [.frz l] m Q := q
theorem len_o {p : Addr} {l : List D} (hm : m p = some (.lst l)) (q : l.length ≤ sizeLine → Q (.int l.length) m) : lenD [.ref p] m Q := ⟨l, hm, q⟩
theorem max_ii {i j : Int} (q : Q (.int (max i j)) m) : maxD [.int i, .int j] m Q := q
theorem min_ii {i j : Int} (q : Q (.int (min i j)) m) : minD [.int i, .int j] m Q := q
theorem int_i {i : Int} (q : Q (.int i) m) : intD [.int i] m Q := q
theorem int_b {k : Bool} (q : Q (.int (if k then 1 else 0)) m) : intD [.bl k] m Q := q
theorem list_l {d : D} {l : List D} (h : itemsD d m = some l) (q : Q (.lst l) m) : listD [d] m Q := ⟨d, l, rfl, h, q⟩
theorem list_m {d : D} {l : List D} (h : itemsD d m = some l) (q : ∀ p, m p = none → Q (.ref p) (sput m p (.lst l))) : listDM [d] m Q := ⟨d, l, rfl, h, q⟩
theorem isi {d : D} {t n : String} {k : Bool} (h : tyD d = some t) (hk : kitB t n = some k) (q : Q (.bl k) m) : isiD [d, .ty n] m Q := ⟨d, t, n, k, rfl, h, hk, q⟩
theorem isi2 {d : D} {t n1 n2 : String} {k : Bool} (h : tyD d = some t) (hk : kit2 t n1 n2 = some k) (q : Q (.bl k) m) : ∃ t k, tyD d = some t ∧ kit2 t n1 n2 = some k ∧ Q (.bl k) m := ⟨t, k, h, hk, q⟩
end
/-! ### what the classes are -/
theorem kit_NoneType_bool : kitB "NoneType" "bool" = some false := by decide +kernel
theorem kit_NoneType_int : kitB "NoneType" "int" = some false := by decide +kernel
theorem kit_NoneType_str : kitB "NoneType" "str" = some false := by decide +kernel
theorem kit_NoneType_list : kitB "NoneType" "list" = some false := by decide +kernel
theorem kit_NoneType_tuple : kitB "NoneType" "tuple" = some false := by decide +kernel
theorem kit_NoneType_dict : kitB "NoneType" "dict" = some false := by decide +kernel
theorem kit_bool_bool : kitB "bool" "bool" = some true := by decide +kernel
theorem kit_bool_int : kitB "bool" "int" = some true := by decide +kernel
theorem kit_bool_str : kitB "bool" "str" = some false := by decide +kernel
theorem kit_bool_list : kitB "bool" "list" = some false := by decide +kernel
theorem kit_bool_tuple : kitB "bool" "tuple" = some false := by decide +kernel
theorem kit_bool_dict : kitB "bool" "dict" = some false := by decide +kernel
theorem kit_int_bool : kitB "int" "bool" = some false := by decide +kernel
theorem kit_int_int : kitB "int" "int" = some true := by decide +kernel
theorem kit_int_str : kitB "int" "str" = some false := by decide +kernel
theorem kit_int_list : kitB "int" "list" = some false := by decide +kernel
theorem kit_int_tuple : kitB "int" "tuple" = some false := by decide +kernel
theorem kit_int_dict : kitB "int" "dict" = some false := by decide +kernel
theorem kit_str_bool : kitB "str" "bool" = some false := by decide +kernel
theorem kit_str_int : kitB "str" "int" = some false := by decide +kernel
theorem kit_str_str : kitB "str" "str" = some true := by decide +kernel
theorem kit_str_list : kitB "str" "list" = some false := by decide +kernel
theorem kit_str_tuple : kitB "str" "tuple" = some false := by decide +kernel
theorem kit_str_dict : kitB "str" "dict" = some false := by decide +kernel
theorem kit_tuple_bool : kitB "tuple" "bool" = some false := by decide +kernel
theorem kit_tuple_int : kitB "tuple" "int" = some false := by decide +kernel
theorem kit_tuple_str : kitB "tuple" "str" = some false := by decide +kernel
theorem kit_tuple_list : kitB "tuple" "list" = some false := by decide +kernel
theorem kit_tuple_tuple : kitB "tuple" "tuple" = some true := by decide +kernel
theorem kit_tuple_dict : kitB "tuple" "dict" = some false := by decide +kernel
theorem kit_list_bool : kitB "list" "bool" = some false := by decide +kernel
theorem kit_list_int : kitB "list" "int" = some false := by decide +kernel
theorem kit_list_str : kitB "list" "str" = some false := by decide +kernel
theorem kit_list_list : kitB "list" "list" = some true := by decide +kernel
theorem kit_list_tuple : kitB "list" "tuple" = some false := by decide +kernel
theorem kit_list_dict : kitB "list" "dict" = some false := by decide +kernel
theorem kit_dict_bool : kitB "dict" "bool" = some false := by decide +kernel
theorem kit_dict_int : kitB "dict" "int" = some false := by decide +kernel
theorem kit_dict_str : kitB "dict" "str" = some false := by decide +kernel
theorem kit_dict_list : kitB "dict" "list" = some false := by decide +kernel
theorem kit_dict_tuple : kitB "dict" "tuple" = some false := by decide +kernel
theorem kit_dict_dict : kitB "dict" "dict" = some true := by decide +kernel
theorem kit2_NoneType_int_str : kit2 "NoneType" "int" "str" = some false := by decide +kernel
theorem kit2_bool_int_str : kit2 "bool" "int" "str" = some true := by decide +kernel
theorem kit2_int_int_str : kit2 "int" "int" "str" = some true := by decide +kernel
theorem kit2_str_int_str : kit2 "str" "int" "str" = some true := by decide +kernel
theorem kit2_tuple_int_str : kit2 "tuple" "int" "str" = some false := by decide +kernel
theorem kit2_list_int_str : kit2 "list" "int" "str" = some false := by decide +kernel
theorem kit2_dict_int_str : kit2 "dict" "int" "str" = some false := by decide +kernel
theorem eqvD_bl {a b : Bool} : eqvD (.bl a) (.bl b) = (a == b) := by simp [eqvD, toPy, PyData.eqv]
theorem eqvD_int {a b : Int} : eqvD (.int a) (.int b) = (a == b) := by simp [eqvD, toPy, PyData.eqv]
theorem eqvD_str {a b : Str} : eqvD (.str a) (.str b) = (a == b) := by simp [eqvD, toPy, PyData.eqv]
theorem blsD_true : ∀ n : Nat, blsD (List.replicate n (.bl true)) = some (List.replicate n true)
  | 0 => rfl
  | n + 1 => by
    show (blsD (List.replicate n (.bl true))).map (true :: ·) = _
    rw [blsD_true n]
    rfl
theorem all_true : ∀ n : Nat, (List.replicate n true).all id = true
  | 0 => rfl
  | n + 1 => by
    rw [List.replicate_succ, List.all_cons, all_true n]
    rfl
end G

/-! What the laws' own small defs do: the draws, sameness. -/
namespace G
open PySem PySem.Spec PyProof.Rows L2

/-! ### draws -/
def drawO (ns : List Int) (i b s c : Int) : O := .lst [.lst (ns.map D.int), .int i, .int b, .int s, .int c]
def IsDraw (o : O) : Prop := ∃ ns i b s c, o = drawO ns i b s c ∧ 0 ≤ i ∧ 0 ≤ b ∧ 0 ≤ s ∧ s < 1000000007
def FBegin : DF := fun ds m Q _ => ∃ ns : List Int, ds = [.frz (ns.map D.int)] ∧ ∀ p o, m p = none → IsDraw o → Q (.ref p) (sput m p o)
theorem FBegin.len : ∀ ds m Q E, FBegin ds m Q E → ds.length = (["_law_script"] : List Str).length := by
  rintro ds m Q E ⟨ns, rfl, _⟩
  rfl
theorem begin_draw (ns : List Int) : IsDraw (.lst [.lst (cutL (ns.map D.int) none (some 63)), .int 0, .int 0, .int 1, .int 0]) :=
  ⟨ns.take 63, 0, 0, 1, 0, by
    have e := cutL_to (ns.map D.int) 63
    unfold drawO
    rw [List.map_take]
    exact congrArg (fun z => O.lst [.lst z, .int 0, .int 0, .int 1, .int 0]) e, by omega, by omega, by omega, by omega⟩
theorem use_begin {m : Sto} {Q : D → Sto → Prop} {E : Value → List (Str × D) → Sto → Prop} {ns : List Int} (h : ∀ p o, m p = none → IsDraw o → Q (.ref p) (sput m p o)) : FBegin [.frz (ns.map D.int)] m Q E := ⟨ns, rfl, h⟩
def FPick : DF := fun ds m Q _ => ∃ p n o, ds = [.ref p, .int n] ∧ m p = some o ∧ IsDraw o ∧ 0 < n ∧ n < 1073741824 ∧ ∀ r o', 0 ≤ r → r < n → IsDraw o' → Q (.int r) (sput m p o')
theorem FPick.len : ∀ ds m Q E, FPick ds m Q E → ds.length = (["_law_draw", "_law_many"] : List Str).length := by
  rintro ds m Q E ⟨p, n, o, rfl, _⟩
  rfl
/-- a draw, where the store is known as one with the draw put in -/
theorem use_pick {m : Sto} {Q : D → Sto → Prop} {E : Value → List (Str × D) → Sto → Prop} {p : Addr} {n : Int} {o : O} (hd : IsDraw o) (h0 : 0 < n) (h1 : n < 1073741824) (h : ∀ r o', 0 ≤ r → r < n → IsDraw o' → Q (.int r) (sput m p o')) : FPick [.ref p, .int n] (sput m p o) Q E :=
  ⟨p, n, o, rfl, sput_same, hd, h0, h1, fun r o' a b c => by rw [sput_sput]; exact h r o' a b c⟩
theorem draw_cell {ns : List Int} {i : Int} (h0 : 0 ≤ i) (h : i < ((ns.map D.int).length : Int)) : ∃ z : Int, (ns.map D.int)[i.toNat]? = some (.int z) := by
  have hi : i.toNat < ns.length := by rw [List.length_map] at h; omega
  exact ⟨ns[i.toNat], by rw [List.getElem?_map, List.getElem?_eq_getElem hi]; rfl⟩
theorem cube {s : Int} (h0 : 0 ≤ s) (h : s < 1000000007) : CPow s 3 := ⟨by omega, by omega, by omega⟩

theorem FLaw.len : ∀ ds m Q E, FLaw ds m Q E → ds.length = (["_law_script"] : List Str).length := by
  rintro ds m Q E ⟨ns, rfl, _⟩
  rfl
/-! ### sameness -/
theorem okDL_all {n : Nat} : ∀ {l : List D}, (∀ d ∈ l, okD n d = true) → okDL n l = true
  | [], _ => by simp [okDL]
  | d :: l, h => by
    simp only [okDL, Bool.and_eq_true]
    exact ⟨h d List.mem_cons_self, okDL_all fun x hx => h x (List.mem_cons_of_mem _ hx)⟩
theorem okDL_mem {n : Nat} : ∀ {l : List D}, okDL n l = true → ∀ d ∈ l, okD n d = true
  | [], _, d, hd => by cases hd
  | x :: l, h, d, hd => by
    simp only [okDL, Bool.and_eq_true] at h
    rcases List.mem_cons.mp hd with e | hd
    · rw [e]; exact h.1
    · exact okDL_mem h.2 d hd
theorem okDL_map {α : Type} {n : Nat} {f : α → D} {l : List α} (h : ∀ x, okD n (f x) = true) : okDL n (l.map f) = true := okDL_all fun d hd => by
  obtain ⟨x, _, rfl⟩ := List.mem_map.mp hd
  exact h x
mutual
theorem eqv_refl : ∀ d : PyData, d.canLay0 = true → PyData.eqv d d = true
  | .none, _ => by simp [PyData.eqv]
  | .bool _, _ => by simp [PyData.eqv]
  | .int _, _ => by simp [PyData.eqv]
  | .str _, _ => by simp [PyData.eqv]
  | .list xs, h => by
    simp only [PyData.eqv]
    exact eqvAll_refl xs (by simpa [PyData.canLay0] using h)
  | .tuple xs, h => by
    simp only [PyData.eqv]
    exact eqvAll_refl xs (by simpa [PyData.canLay0] using h)
  | .dict _, h => by simp [PyData.canLay0] at h
theorem eqvAll_refl : ∀ l : List PyData, PyData.canLayAll0 l = true → PyData.eqvAll l l = true
  | [], _ => by simp [PyData.eqvAll]
  | d :: l, h => by
    simp only [PyData.canLayAll0, Bool.and_eq_true] at h
    simp only [PyData.eqvAll, Bool.and_eq_true]
    exact ⟨eqv_refl d h.1, eqvAll_refl l h.2⟩
end
theorem eqvD_refl {n : Nat} {d : D} (h : okD n d = true) : eqvD d d = true := eqv_refl _ (okD_lay n d h)
def FSame (n : Nat) : DF := fun ds m Q _ => ∃ d, ds = [d, d] ∧ okD n d = true ∧ Q (.bl true) m
theorem FSame.len {n : Nat} : ∀ ds m Q E, FSame n ds m Q E → ds.length = (["_law_found", "_law_due"] : List Str).length := by
  rintro ds m Q E ⟨d, rfl, _⟩
  rfl
theorem use_same {n : Nat} {m : Sto} {Q : D → Sto → Prop} {E : Value → List (Str × D) → Sto → Prop} {x y : D} (e : x = y) (ok : okD n y = true) (h : Q (.bl true) m) : FSame n [x, y] m Q E := by
  subst e
  exact ⟨x, rfl, ok, h⟩
end G

/-! The data layer: raise, try; methods of built-in classes; tuples of texts. -/
namespace G
open PySem PySem.Spec PyProof.Rows L2

/-! ### raise, try -/
/-- an own class of errors over ValueError, by its name -/
structure Ec (K : PySem.W.Frag) (mg : Str → Option Value) (x : Str) (c : Addr) : Prop where
  g : mg x = some (.ref c)
  kp : PySem.W.keepIn K (.ref c) = true
  ex : PySem.W.excIn K c [.type "ValueError", .type "Exception", .type "BaseException", .type "object"] "ValueError.__new__" = true
  sub : PySem.W.subIn K (.ref c) (.type "BaseException") = some true
  ty : PySem.W.typeIn K (.ref c) = some (.type "type")
/-- the context of an except suite -/
def Ct.hot (C : Ct) : Ct := { C with cm := false, ex := none }
section
variable {C : Ct} {W : DW} {δ : Sl} {m : Sto} {a b c e : Expr} {es : List Expr} {pos pos' np : Pos} {Q : D → Sto → Prop} {D : DEn}
theorem ds_raise {x z : Str} {j : Nat} {p p2 : Pos} {k : Addr} (E : Ec C.K C.mg x k) (hg : GlC C x) (w : W (.ref k) [] δ m) (hdb : (x == ("__debug__" : Str)) = false := by decide) (hcm : C.cm = true := by rfl) :
    DS C W (.Raise (some (.Call (.Name x p) [.Constant (.str z) j p2] [] pos)) none pos') δ m D := by
  intro X S f tk σ H T le sl hh
  refine WS.of (ps_raise (f.calm hcm) tk (pmk_own (PySem.F.excBase_ValueError) (by rw [f.K]; exact E.ex) (by rw [f.mg]; exact E.g) (by rw [f.K]; exact E.kp) (raises_own (by rw [f.K]; exact E.sub) (by rw [f.K]; exact E.ty)) (f.gl hg) hdb)) ?_
  exact ⟨δ, m, T, [], le, sl, hh, .inl ⟨rfl, rfl⟩, w⟩
theorem ds_try {x : Str} {body suite : List Stmt} {b₀ : Stmt} {k : Addr} (hm : C.mg x = some (.ref k)) (hg : GlC C x)
    (h : DSs C (fun cls fs δ' m' => ∃ b, PySem.W.exmOne C.K cls (.ref k) = some b ∧ (b = true → DSs C.hot W0 (b₀ :: suite) δ' m' D) ∧ (b = false → W cls fs δ' m')) body δ m D)
    (hdb : (x == ("__debug__" : Str)) = false := by decide) (htr : C.tr = true := by rfl) (hex : C.ex = none := by rfl) : DS C W (.Try body [.ExceptHandler (some (.Name x np)) none (b₀ :: suite) pos'] [] [] pos) δ m D := by
  intro X S f tk σ H T le sl hh
  refine WS.of (ps_try_only (c := .ref k)
    (tb := fun W' D' σ H => ∀ (pn : List (Addr × Obj)) (xe : Value → Shared → Prop), Takes (X.tr pn xe) W' → PassesOwn (model X.prog X.w) X.A X.env xe → WSs (X.tr pn xe) body D' σ H)
    (ts := fun a cls d D' σ H => ∀ (oe : Obj) (pn : List (Addr × Obj)), WSs (X.suite a ((a, oe) :: pn)) (b₀ :: suite) D' σ H)
    (f.tr htr).1 (f.tr htr).2 ⟨f.gl hg, hdb, .inl (by rw [f.mg]; exact hm)⟩ tk
    (fun W' pn xe t p => ⟨fun pins s σ H D I r => r pn xe t p pins s I⟩) (fun a oe cls d pn hz hv => ⟨fun pins s σ H D I r => r oe pn pins s I⟩)) ?_
  intro pn xe tk' po
  have fit : Fits C (X.tr pn xe) := ⟨f.prog, f.w, f.K, f.mg, f.base, f.N, f.sc, f.fn, f.nd, f.un, f.room, f.calm, po, f.tr, (fun _ _ _ e => by rw [hex] at e; cases e), f.rh⟩
  refine h (X.tr pn xe) S fit (tk'.imp ?_) σ H T le sl hh
  rintro cls d σ' H' ⟨δ', m', T', fs, le', sl', hh', xd, k', hk', h1, h2⟩
  refine ⟨k', by rw [f.K]; exact hk', fun e a _ oe pn2 => ?_, fun e => ⟨δ', m', T', fs, le', sl', hh', xd, h2 e⟩⟩
  have fit2 : Fits C.hot (X.suite a ((a, oe) :: pn2)) := ⟨f.prog, f.w, f.K, f.mg, f.base, f.N, f.sc, f.fn, f.nd, f.un, (fun z => nomatch z), (fun z => nomatch z), PassesOwn.never, f.tr, (fun _ _ _ e => nomatch e), ⟨f.rh.dp, f.rh.un⟩⟩
  exact h1 e (X.suite a ((a, oe) :: pn2)) S fit2 takes_W0 σ' H' T' le' sl' hh'
end

/-! ### methods of built-in classes -/
def WM (X : Cx) (id : String) (ty : V → Hp → Prop) : V → List V → Hp → VK → Prop := fun v vs H Q => ∀ (pins : List (Addr × Obj)) (s : Shared) (σ : L2.St) (u : Value) (us : List Value), Inv X pins σ H s → RelV v u → Vals vs us → wpAny (model X.prog X.w) X.A (call (.builtin id) (u :: us)) (EP X pins σ Q) X.xe s
theorem wm {X : Cx} {id : String} {ty : V → Hp → Prop} : MtR X id (WM X id ty) := fun pins s σ H x xs v us Q I rx rs h => h pins s σ v us I rx rs
theorem wm_of {X : Cx} {id : String} {ty : V → Hp → Prop} {r : V → List V → Hp → VK → Prop} {v : V} {vs : List V} {H : Hp} {Q : VK} (h : MtR X id r) (q : r v vs H Q) : WM X id ty v vs H Q := fun pins s σ u us I rx rs => h pins s σ H v vs u us Q I rx rs q
/-- a method by data: the receiver, the arguments -/
abbrev RMD := D → List D → Sto → (D → Sto → Prop) → Prop
/-- what the receiver must be for the class to be found -/
def okR (T : String) : D → Sto → Prop
  | .str _, _ => T = "str"
  | .lst _, _ => T = "list"
  | .ref p, m => T = "list" ∧ ∃ ds, m p = some (.lst ds)
  | _, _ => False
def MtD (C : Ct) (id : String) (r : RMD) : Prop := ∀ (X : Cx), Fits C X → ∀ (fr : Sto) (H : Hp) (m : Sto) (T : RT) (v : V) (d : D) (vs : List V) (ds : List D) (Q : D → Sto → Prop), vs.length = ds.length → Hd C.K fr H m (PlL (Pl T v d) vs ds) → r d ds m Q → WM X id (fun _ _ => True) v vs H (dK C.K fr T Q)
theorem okR_ty {K : PySem.W.Frag} {fr : Sto} {H : Hp} {m : Sto} {T : RT} {v : V} {d : D} {t : String} (hh : Hd K fr H m T) (tv : T v d) (ok : okR t d m) : tyV K t v H := by
  have r := hh.rep tv
  cases d with
  | str z => cases r; exact ok
  | lst l =>
    cases r with
    | lst hp _ => exact .inl ⟨ok, _, SqL.of hp⟩
  | ref p =>
    cases r
    obtain ⟨e, ds, hm⟩ := ok
    obtain ⟨xs, hq, _⟩ := hh.itemsO hm
    exact .inl ⟨e, _, SqL.of hq⟩
  | _ => exact ok.elim
section
variable {C : Ct} {W : DW} {δ : Sl} {m : Sto} {a b c e o : Expr} {es : List Expr} {pos pos' apos cpos : Pos} {Q : D → Sto → Prop} {T id : String} {name : Str} {r : RMD}
theorem de_bm (hm : MtD C id r) (pa : PlainAttrs T) (slot : Slot T name id) (hty : typeOf (.builtin id) = pure (.type "method_descriptor"))
    (h : DE C W o δ m fun d m1 => okR T d m1 ∧ DA C W (e :: es) δ m1 fun ds m2 => r d ds m2 Q)
    (hbase : ∀ env, attributeBase o name env (eval o env) = eval o env := by intro _; rfl)
    (hfew : ∀ env, ((backTo cpos (starEach (e :: es) env)).all (fun x => !x.1) && (backToKw cpos (keywordEach [] env)).all (fun x => x.1.isSome)
      && decide ((e :: es).length + ([] : List Keyword).length + (if ([] : List Keyword).isEmpty then 0 else 1) < 30)) = true := by intro _; rfl)
    (hline : (apos.endLine == cpos.line) = true := by rfl) (hs : ∀ env, starEach (e :: es) env = (false, eval e env) :: starEach es env := by intro _; rfl) (hplain : ∀ env, (backTo cpos (starEach es env)).any (·.1) = false := by intro _; rfl) :
    DE C W (.Call (.Attribute o name apos) (e :: es) [] cpos) δ m Q := by
  intro X S f tk σ H T0 le sl hh
  refine WE.of (pe_bm pa slot hty (wm (ty := fun _ _ => True)) we wa (hbase _) (hfew _) hline (hs _) (hplain _)) ((h X S f tk σ H T0 le sl hh).mono fun v H1 ⟨d, m1, h1, ok, q⟩ => ?_)
  refine ⟨by rw [f.K]; exact okR_ty h1 Pl.it ok, ?_⟩
  refine (q X S f tk σ H1 _ (le.trans Pl.le) (sl.le Pl.le) h1).mono fun vs H2 ⟨ds, m2, hl, h2, q2⟩ => ?_
  exact hm X f S.r H2 m2 T0 v d vs ds Q hl h2 q2
theorem de_bm0 (hm : MtD C id r) (pa : PlainAttrs T) (slot : Slot T name id) (hty : typeOf (.builtin id) = pure (.type "method_descriptor"))
    (h : DE C W o δ m fun d m1 => okR T d m1 ∧ r d [] m1 Q)
    (hbase : ∀ env, attributeBase o name env (eval o env) = eval o env := by intro _; rfl) (hline : (apos.endLine == cpos.line) = true := by rfl) :
    DE C W (.Call (.Attribute o name apos) [] [] cpos) δ m Q := by
  intro X S f tk σ H T0 le sl hh
  refine WE.of (pe_bm0 pa slot hty (wm (ty := fun _ _ => True)) we (hbase _) hline) ((h X S f tk σ H T0 le sl hh).mono fun v H1 ⟨d, m1, h1, ok, q⟩ => ?_)
  exact ⟨by rw [f.K]; exact okR_ty h1 Pl.it ok, hm X f S.r H1 m1 T0 v d [] [] Q rfl (h1.le fun x y z => z.elim (fun h => h) fun z => by simp at z) q⟩
/-! ### lists that are objects -/
theorem pl0 {T : RT} {v : V} {d : D} {vs : List V} {ds : List D} : PlL (Pl T v d) vs ds v d := PlL.le _ _ Pl.it
/-- p.append(x) -/
def appendD : RMD := fun d ds m Q => ∃ p l x, d = .ref p ∧ ds = [x] ∧ m p = some (.lst l) ∧ l.length < sizeLine ∧ Q .non (sput m p (.lst (l ++ [x])))
theorem md_append : MtD C "list.append" appendD := by
  rintro X f fr H m T v d vs ds Q hl hh ⟨p, l, x, rfl, rfl, hm, hz, q⟩
  obtain ⟨w, rfl⟩ := one_of hl
  have rv := hh.rep pl0
  cases rv
  obtain ⟨xs, hq, hxl, _⟩ := hh.itemsO hm
  have h4 := hh.mut (u' := .lst (xs ++ [w])) (o' := .lst (l ++ [x])) hm hq fun Hi r kk => RepL.snoc r (kk w x (PlL.at (i := 0) rfl rfl))
  exact wm_of mt_append ⟨p, xs, w, rfl, rfl, hq, by rw [hxl]; exact hz, dK.le (dk_non h4 q) (Pl.le.trans PlL.le)⟩
/-- p.extend(l) -/
def extendD : RMD := fun d ds m Q => ∃ p l x, d = .ref p ∧ ds = [.lst x] ∧ m p = some (.lst l) ∧ l.length + x.length ≤ sizeLine ∧ Q .non (sput m p (.lst (l ++ x)))
theorem RepL.app {K : PySem.W.Frag} {H : Hp} : ∀ {vs us : List V} {ds es : List D}, RepL K H vs ds → RepL K H us es → RepL K H (vs ++ us) (ds ++ es)
  | _, _, _, _, .nil, h => h
  | _, _, _, _, .cons r t, h => .cons r (RepL.app t h)
theorem md_extend : MtD C "list.extend" extendD := by
  rintro X f fr H m T v d vs ds Q hl hh ⟨p, l, x, rfl, rfl, hm, hz, q⟩
  obtain ⟨w, rfl⟩ := one_of hl
  have rv := hh.rep pl0
  cases rv
  obtain ⟨xs, hq, hxl, _⟩ := hh.itemsO hm
  have tw : PlL (Pl T (.ref p) (.ref p)) [w] [.lst x] w (.lst x) := PlL.at (i := 0) rfl rfl
  obtain ⟨b, ys, rfl, hb, hyl, h4⟩ := hh.itemsL tw
  have h5 := h4.mut (u' := .lst (xs ++ ys)) (o' := .lst (l ++ x)) hm hq fun Hi r kk => RepL.app r (PlL.rep hyl fun v d t => kk v d t)
  exact wm_of mt_extend ⟨p, b, xs, ys, rfl, rfl, hq, hb, by rw [hxl, hyl]; exact hz, dK.le (dk_non h5 q) (Pl.le.trans (PlL.le.trans PlL.le))⟩
/-! ### texts -/
theorem repL_strs {K : PySem.W.Frag} {H : Hp} : ∀ ys : List Str, RepL K H (ys.map V.str) (ys.map D.str)
  | [] => .nil
  | y :: ys => .cons (.str y) (repL_strs ys)
theorem strs_of {K : PySem.W.Frag} {H : Hp} : ∀ {xs : List V} {ys : List Str}, RepL K H xs (ys.map D.str) → xs = ys.map V.str
  | [], [], _ => rfl
  | [], _ :: _, r => by cases r
  | _ :: _, [], r => by cases r
  | x :: xs, y :: ys, r => by
    cases r with
    | cons r t =>
      cases r
      rw [strs_of t]
      rfl
/-- a.split(b) -/
def splitD : RMD := fun d ds m Q => ∃ a b, d = .str a ∧ ds = [.str b] ∧ (b.length == 0) = false ∧ a.length + 2 ≤ sizeLine ∧ Q (.lst ((Txt.split a b).map D.str)) m
theorem md_split : MtD C "str.split" splitD := by
  rintro X f fr H m T v d vs ds Q hl hh ⟨a, b, rfl, rfl, hb, hz, q⟩
  obtain ⟨w, rfl⟩ := one_of hl
  have rv := hh.rep pl0
  have rw' := hh.rep (PlL.at (i := 0) (v := w) (d := .str b) rfl rfl)
  cases rv
  cases rw'
  exact wm_of mt_split ⟨a, b, rfl, rfl, hb, hz, fun p hp => dK.le (dk_lst hh hp (fun Hi _ => repL_strs _) q) (Pl.le.trans PlL.le)⟩
/-- a.join(l) -/
def joinD : RMD := fun d ds m Q => ∃ a ys, d = .str a ∧ ds = [.lst (ys.map D.str)] ∧ (ys.map (·.length)).sum + ys.length * a.length ≤ 16777216 ∧ Q (.str (Txt.join a ys)) m
theorem md_join : MtD C "str.join" joinD := by
  rintro X f fr H m T v d vs ds Q hl hh ⟨a, ys, rfl, rfl, hz, q⟩
  obtain ⟨w, rfl⟩ := one_of hl
  have rv := hh.rep pl0
  cases rv
  obtain ⟨p, xs, rfl, hq, r⟩ := hh.repsL (PlL.at (i := 0) (v := w) (d := .lst (ys.map D.str)) rfl rfl)
  have e := strs_of r
  subst e
  exact wm_of mt_join ⟨a, p, ys, rfl, rfl, .inl (SqL.of hq), hz, dK.le (dk_str hh q) (Pl.le.trans PlL.le)⟩
/-! ### tuples of texts -/
theorem any_strs (z : Str) : ∀ zs : List Str, inV (.str z) (zs.map V.str) = decide (z ∈ zs)
  | [] => rfl
  | y :: zs => by
    have ih := any_strs z zs
    unfold inV at ih ⊢
    rw [List.map_cons, List.any_cons, ih, Bool.eq_iff_iff, Bool.or_eq_true, decide_eq_true_eq, decide_eq_true_eq, List.mem_cons]
    show ((y == z) = true ∨ z ∈ zs) ↔ z = y ∨ z ∈ zs
    rw [beq_iff_eq]
    exact ⟨fun h => h.elim (fun h => .inl h.symm) .inr, fun h => h.elim (fun h => .inl h.symm) .inr⟩
def inT (neg : Bool) : R2D := fun d e m Q => ∃ (z : Str) (zs : List Str), d = .str z ∧ e = .tup (zs.map D.str) ∧ Q (.bl (if neg then !decide (z ∈ zs) else decide (z ∈ zs))) m
theorem Hd.repsT {K : PySem.W.Frag} {fr : Sto} {H : Hp} {m : Sto} {T : RT} {v : V} {l : List D} (h : Hd K fr H m T) (t : T v (.tup l)) : ∃ a xs, v = .ref a ∧ SqT K H a xs ∧ RepL K H xs l := by
  have r := h.rep t
  cases r with
  | tup q _ r => exact ⟨_, _, rfl, q, r⟩
theorem od_inT : OpD C (compareOp .In) (inT false) := by
  rintro X f fr H m T x y d e Q hh tx ty ⟨z, zs, rfl, rfl, q⟩
  have rx := hh.rep tx
  cases rx
  obtain ⟨p, xs, rfl, hq, r⟩ := hh.repsT ty
  have e := strs_of r
  subst e
  refine wb_of op_in_seq ⟨p, _, rfl, .inr (by rw [f.K]; exact hq), rfl, flat_strs zs, ?_⟩
  rw [any_strs]
  exact dk_bl hh q
theorem od_notinT : OpD C (compareOp .NotIn) (inT true) := by
  rintro X f fr H m T x y d e Q hh tx ty ⟨z, zs, rfl, rfl, q⟩
  have rx := hh.rep tx
  cases rx
  obtain ⟨p, xs, rfl, hq, r⟩ := hh.repsT ty
  have e := strs_of r
  subst e
  refine wb_of op_notIn_seq ⟨p, _, rfl, .inr (by rw [f.K]; exact hq), rfl, flat_strs zs, ?_⟩
  rw [any_strs]
  exact dk_bl hh q
/-! ### texts, numbers compared -/
def eqF (neg : Bool) : R2D := fun d e m Q => (∃ x y : Str, d = .str x ∧ e = .str y ∧ Q (.bl (if neg then !decide (x = y) else decide (x = y))) m) ∨ (∃ x y : Int, d = .int x ∧ e = .int y ∧ Q (.bl (if neg then !decide (x = y) else decide (x = y))) m)
theorem dec_inj {α β : Type} [DecidableEq α] [DecidableEq β] {f : α → β} (h : ∀ x y, f x = f y → x = y) (x y : α) : decide (f x = f y) = decide (x = y) := by
  rw [decide_eq_decide]
  exact ⟨h x y, fun e => by rw [e]⟩
theorem od_eqF : OpD C (compareOp .Eq) (eqF false) := by
  rintro X f fr H m T x y d e Q hh tx ty (⟨i, j, rfl, rfl, q⟩ | ⟨i, j, rfl, rfl, q⟩)
  all_goals
    have rx := hh.rep tx
    have ry := hh.rep ty
    cases rx
    cases ry
    refine wb_of op_eq ⟨rfl, ?_⟩
    refine dk_bl hh ?_
    rw [if_neg Bool.false_ne_true] at q
  · rw [dec_inj (f := V.str) fun x y e => by injection e]
    exact q
  · rw [dec_inj (f := V.int) fun x y e => by injection e]
    exact q
theorem od_neF : OpD C (compareOp .NotEq) (eqF true) := by
  rintro X f fr H m T x y d e Q hh tx ty (⟨i, j, rfl, rfl, q⟩ | ⟨i, j, rfl, rfl, q⟩)
  all_goals
    have rx := hh.rep tx
    have ry := hh.rep ty
    cases rx
    cases ry
    refine wb_of op_ne ⟨rfl, ?_⟩
    refine dk_bl hh ?_
    rw [if_pos rfl] at q
  · rw [dec_inj (f := V.str) fun x y e => by injection e]
    exact q
  · rw [dec_inj (f := V.int) fun x y e => by injection e]
    exact q
theorem eq_ss {x y : Str} (q : Q (.bl (decide (x = y))) m) : eqF false (.str x) (.str y) m Q := .inl ⟨x, y, rfl, rfl, q⟩
theorem eq_ii {x y : Int} (q : Q (.bl (decide (x = y))) m) : eqF false (.int x) (.int y) m Q := .inr ⟨x, y, rfl, rfl, q⟩
theorem ne_ss {x y : Str} (q : Q (.bl (!decide (x = y))) m) : eqF true (.str x) (.str y) m Q := .inl ⟨x, y, rfl, rfl, q⟩
theorem ne_ii {x y : Int} (q : Q (.bl (!decide (x = y))) m) : eqF true (.int x) (.int y) m Q := .inr ⟨x, y, rfl, rfl, q⟩
/-- a tuple of texts of the program's top -/
def TupK (K : PySem.W.Frag) (mg : Str → Option Value) (x : Str) (zs : List Str) : Prop := ∃ a o its n, mg x = some (.ref a) ∧ K.lookup a = some o ∧ o.cls = .type "tuple" ∧ o.dict = none ∧ o.data = .seq its n ∧ its.size ≤ sizeLine ∧ Vals (zs.map V.str) its.toList
theorem strs_ints {zs : List Str} (h : zs ≠ []) {ns : List Int} : ¬ zs.map D.str = ns.map D.int := by
  cases zs with
  | nil => exact absurd rfl h
  | cons z zs => cases ns <;> simp
theorem de_tupK {x : Str} {zs : List Str} (hk : TupK C.K C.mg x zs) (hg : GlC C x) (q : Q (.tup (zs.map D.str)) m) (hz : zs ≠ [] := by simp) (hd : (x == ("__debug__" : Str)) = false := by decide) : DE C W (.Name x pos) δ m Q := by
  obtain ⟨a, o, its, n, h1, h2, h3, h4, h5, h6, h7⟩ := hk
  intro X S f tk σ H T0 le sl hh
  refine WE.of (pe_glob (v := .ref a) (f.gl hg) (by rw [f.mg]; exact h1) rfl hd) ?_
  exact dk hh (fun Hi _ => Rep.tup (.inr ⟨o, its, n, h2, h3, h5, h6, h7⟩) (fun ns e => absurd e (strs_ints hz)) (repL_strs zs)) q
/-- x.index(e), x such a tuple -/
theorem de_tupIndex {x : Str} {zs : List Str} {p : Pos} (hk : TupK C.K C.mg x zs) (hg : GlC C x) (h : DE C W e δ m fun d m1 => ∃ z j, d = .str z ∧ zs[j]? = some z ∧ (∀ i, i < j → zs[i]? ≠ some z) ∧ Q (.int (j : Nat)) m1)
    (hd : (x == ("__debug__" : Str)) = false := by decide)
    (hbase : ∀ env, attributeBase (.Name x p) "index" env (eval (.Name x p) env) = eval (.Name x p) env := by intro _; rfl)
    (hfew : ∀ env, ((backTo cpos (starEach [e] env)).all (fun x => !x.1) && (backToKw cpos (keywordEach [] env)).all (fun x => x.1.isSome)
      && decide (([e] : List Expr).length + ([] : List Keyword).length + (if ([] : List Keyword).isEmpty then 0 else 1) < 30)) = true := by intro _; rfl)
    (hline : (apos.endLine == cpos.line) = true := by rfl) (hs : ∀ env, starEach [e] env = (false, eval e env) :: starEach [] env := by intro _; rfl) (hplain : ∀ env, (backTo cpos (starEach [] env)).any (·.1) = false := by intro _; rfl) :
    DE C W (.Call (.Attribute (.Name x p) "index" apos) [e] [] cpos) δ m Q := by
  obtain ⟨a, o, its, n, h1, h2, h3, h4, h5, h6, h7⟩ := hk
  intro X S f tk σ H T0 le sl hh
  refine WE.of (pe_bm PySem.F.plainAttrs_tuple PySem.F.slot_tuple_index PySem.F.type_tuple_index mt_tup_index (pe_glob (v := .ref a) (f.gl hg) (by rw [f.mg]; exact h1) rfl hd) (pa_cons we pa_nil (hs _)) (hbase _) (hfew _) hline (hs _) (hplain _)) ?_
  refine ⟨.inr (.inl ⟨rfl, o, by rw [f.K]; exact h2, h3, h4⟩), ?_⟩
  refine (h X S f tk σ H T0 le sl hh).mono fun v H1 ⟨d, m1, h1, z, j, ed, hj, hno, q⟩ => ?_
  subst ed
  have rv := h1.rep (Pl.it (T := T0) (v := v) (d := .str z))
  cases rv
  exact ⟨a, zs, z, j, rfl, rfl, .inr ⟨o, its, n, by rw [f.K]; exact h2, h3, h5, h6, h7⟩, hj, hno, dK.le (dk_int h1 q) Pl.le⟩
/-- one of some texts, at an open place -/
theorem ixTs (l : List Str) {i : Int} (h0 : 0 ≤ i) (h1 : i < l.length) (q : ∀ z, z ∈ l → Q (.str z) m) : ixD (.tup (l.map D.str)) (.int i) m Q := by
  have h2 : i.toNat < l.length := by omega
  exact ixTi h0 (d := .str l[i.toNat]) (by rw [List.getElem?_map, List.getElem?_eq_getElem h2]; rfl) (q _ (List.getElem_mem _))
/-- one of some numbers -/
theorem ixTn (l : List Int) {i : Int} (h0 : 0 ≤ i) (h1 : i < l.length) (q : ∀ z, z ∈ l → Q (.int z) m) : ixD (.tup (l.map D.int)) (.int i) m Q := by
  have h2 : i.toNat < l.length := by omega
  exact ixTi h0 (d := .int l[i.toNat]) (by rw [List.getElem?_map, List.getElem?_eq_getElem h2]; rfl) (q _ (List.getElem_mem _))
end
end G

/-! Boxes as data; a box drawn; lists of numbers as data. -/
namespace G
open PySem PySem.Spec PyProof.Rows L2
abbrev boxD (a b h w : Int) : D := .tup [.int a, .int b, .int h, .int w]
def FBox : DF := fun ds m Q _ => ∃ p n o, ds = [.ref p, .int n] ∧ m p = some o ∧ IsDraw o ∧ 0 < n ∧ n < 1073741824 ∧ ∀ a b h w o', 0 ≤ a → a < 1073741824 → 0 ≤ b → b < 6 → 1 ≤ h → h ≤ 5 → 1 ≤ w → w ≤ 5 → IsDraw o' → Q (boxD a b h w) (sput m p o')
theorem FBox.len : ∀ ds m Q E, FBox ds m Q E → ds.length = (["_law_draw", "_law_far"] : List Str).length := by
  rintro ds m Q E ⟨_, _, _, rfl, _⟩
  rfl
theorem use_box {m : Sto} {Q : D → Sto → Prop} {E : Value → List (Str × D) → Sto → Prop} {p : Addr} {n : Int} {o : O} (hd : IsDraw o) (h0 : 0 < n) (h1 : n < 1073741824) (h : ∀ a b h w o', 0 ≤ a → a < 1073741824 → 0 ≤ b → b < 6 → 1 ≤ h → h ≤ 5 → 1 ≤ w → w ≤ 5 → IsDraw o' → Q (boxD a b h w) (sput m p o')) : FBox [.ref p, .int n] (sput m p o) Q E :=
  ⟨p, n, o, rfl, sput_same, hd, h0, h1, fun a b x w o' u1 u2 u3 u4 u5 u6 u7 u8 d => by rw [sput_sput]; exact h a b x w o' u1 u2 u3 u4 u5 u6 u7 u8 d⟩
theorem ixT2i {m : Sto} {Q : D → Sto → Prop} {x y i : Int} (h0 : 0 ≤ i) (h1 : i < 2) (q : ∀ z, (z = x ∨ z = y) → Q (.int z) m) : ixD (.tup [.int x, .int y]) (.int i) m Q := by
  obtain rfl | rfl : i = 0 ∨ i = 1 := by omega
  · exact ixT 0 rfl (q x (.inl rfl))
  · exact ixT 1 rfl (q y (.inr rfl))
theorem ixBox {m : Sto} {Q : D → Sto → Prop} {a b h w i : Int} (h0 : 0 ≤ i) (h1 : i < 4) (q : ∀ z, ((i = 0 → z = a) ∧ (i = 1 → z = b)) ∧ ((i = 2 → z = h) ∧ (i = 3 → z = w)) → Q (.int z) m) : ixD (boxD a b h w) (.int i) m Q := by
  obtain rfl | rfl | rfl | rfl : i = 0 ∨ i = 1 ∨ i = 2 ∨ i = 3 := by omega
  · exact ixT 0 rfl (q a (by omega))
  · exact ixT 1 rfl (q b (by omega))
  · exact ixT 2 rfl (q h (by omega))
  · exact ixT 3 rfl (q w (by omega))
def rngI (lo : Int) (n : Nat) : List Int := (List.range n).map fun i => lo + (i : Nat)
theorem rngI_succ (lo : Int) (n : Nat) : rngI lo (n + 1) = rngI lo n ++ [lo + (n : Nat)] := by
  unfold rngI
  rw [List.range_succ, List.map_append]
  rfl
theorem rngI_len (lo : Int) (n : Nat) : (rngI lo n).length = n := by simp [rngI]
theorem rngI_first (b : Int) (k : Nat) (hk : 1 ≤ k) : (rngI b k)[0]? = some b := by
  obtain ⟨k, rfl⟩ : ∃ j, k = j + 1 := ⟨k - 1, by omega⟩
  unfold rngI
  rw [List.range_succ_eq_map]
  simp
theorem rngI_last (b : Int) (k : Nat) (hk : 1 ≤ k) : (rngI b k).getLast? = some (b + (k : Nat) - 1) := by
  obtain ⟨k, rfl⟩ : ∃ j, k = j + 1 := ⟨k - 1, by omega⟩
  rw [rngI_succ, List.getLast?_append]
  have e : b + (k : Nat) = b + ((k + 1 : Nat) : Int) - 1 := by omega
  rw [e]
  simp
end G

/-! The data layer: keywords, defaults; ranges by steps; o[i] op= e; a comprehension as an object; isinstance of objects. -/
namespace G
open PySem PySem.Spec PyProof.Rows L2

theorem Hd.more {K : PySem.W.Frag} {r : Sto} {H : Hp} {m : Sto} {T T' : RT} (h : Hd K r H m T) (k : ∀ Hi, (∀ v d, T v d → Rep K Hi v d) → ∀ v d, T' v d → Rep K Hi v d) : Hd K r H m T' := by
  obtain ⟨h0, Hi, h1, h2, h3⟩ := h
  exact ⟨h0, Hi, h1, h2, k Hi h3⟩
theorem RepL.zip {K : PySem.W.Frag} {H : Hp} : ∀ {vs : List V} {ds : List D}, RepL K H vs ds → ∀ v d, (v, d) ∈ vs.zip ds → Rep K H v d
  | _, _, .nil, _, _, h => by simp at h
  | _, _, .cons r t, v, d, h => by
    rw [List.zip_cons_cons] at h
    rcases List.mem_cons.mp h with e | h
    · cases e; exact r
    · exact RepL.zip t v d h
theorem Hd.apps {K : PySem.W.Frag} {r : Sto} {H : Hp} {m : Sto} {T : RT} {vs us : List V} {ds es : List D} (h : Hd K r H m (PlL T vs ds)) (hl : vs.length = ds.length) (k : ∀ Hi, RepL K Hi us es) : Hd K r H m (PlL T (vs ++ us) (ds ++ es)) :=
  h.more fun Hi f v d t => by
    rcases t with t | t
    · exact f v d (.inl t)
    · rw [List.zip_append hl] at t
      rcases List.mem_append.mp t with t | t
      · exact f v d (.inr t)
      · exact RepL.zip (k Hi) v d t
/-- what a caller knows of the def x whose last parameters have the values dds -/
structure KnD (P : Program) (w : World) (K : PySem.W.Frag) (mg : Str → Option Value) (base : Heap) (x : Str) (k : Nat) (F : DF) (dds : List D) : Prop where
  ex : ∃ f fd ps its dvs, FnOk P w K mg base (L2.CX P w) k f fd ps (spD K F) ∧ mg x = some (.ref f) ∧ PySem.W.keepIn K (.ref f) = true ∧ Binds K fd ps its ∧ Vals dvs its ∧ dvs.length = dds.length ∧ ∀ Hi, RepL K Hi dvs dds
/-- .. called with n values and keywords ks behind them -/
structure KnK (P : Program) (w : World) (K : PySem.W.Frag) (mg : Str → Option Value) (base : Heap) (x : Str) (k : Nat) (F : DF) (n : Nat) (ks : List Str) : Prop where
  ex : ∃ f fd ps g, FnOk P w K mg base (L2.CX P w) k f fd ps (spD K F) ∧ mg x = some (.ref f) ∧ PySem.W.keepIn K (.ref f) = true ∧ KBn K fd ps n ks g (fun vs zs => vs ++ zs)
section
variable {C : Ct} {W : DW} {δ : Sl} {m : Sto} {a b c e : Expr} {es : List Expr} {pos pos' : Pos} {Q : D → Sto → Prop}
theorem de_callD {x : Str} {p : Pos} {k : Nat} {F : DF} {dds : List D} (kn : KnD C.P C.w C.K C.mg C.base x k F dds) (hk : Nat.ble k C.k = true) (hg : GlC C x) (h : DA C W (e :: es) δ m fun ds m1 => F (ds ++ dds) m1 Q fun cls fs m' => W cls fs δ m') (hdb : (x == ("__debug__" : Str)) = false := by decide) (hcm : C.cm = true := by rfl)
    (he : ∀ env, starEach (e :: es) env = (false, eval e env) :: starEach es env := by intro _; rfl) (hpl : ∀ env, (backTo pos (starEach es env)).any (·.1) = false := by intro _; rfl) : DE C W (.Call (.Name x p) (e :: es) [] pos) δ m Q := by
  intro X S fX tk σ H T le sl hh pins s I
  obtain ⟨f, fd, ps, its, dvs, ok, hm, kp, hb, hv, hlv, hrep⟩ := kn.ex
  rw [← fX.prog, ← fX.w, ← fX.K, ← fX.mg, ← fX.base] at ok
  rw [← fX.K] at kp hb
  refine wpAny_Call_Name_kw (ld_glob I (fX.gl hg) (by rw [fX.mg]; exact hm) ?_ hdb)
  refine PySem.W.callWith_K (h₀ := X.base) I.ok.mod.kin kp (thn (h X S fX tk σ H T le sl hh pos pins s I) fun us s1 ⟨vs, H1, I1, r, ds, m1, hl, h1, q⟩ => ⟨I1.kIn, ?_⟩) (he _) (hpl _)
  refine run_fnSD (E := L2.WE (liftW C.K W S)) (ok.mono (Nat.le_of_ble_eq_true hk)) (fX.room hcm) hb hv (passAt tk σ) I1 r ?_
  have z := spD_at (X := X) (S := S) (σ := σ) (Q := Q) (W := W) (δ := δ) le sl (vs := vs ++ dvs) (ds := ds ++ dds) (by rw [List.length_append, List.length_append, hl, hlv]) (h1.apps hl hrep) q
  rw [← fX.K] at z ⊢
  exact z
theorem run_kw {X : Cx} {CX : CXT} {pins : List (Addr × Obj)} {σ : L2.St} {H : Hp} {s : Shared} {Q : VK} {us ws : List Value} {vs zs : List V} {f : Addr} {fd : FuncData} {ps ks : List Str} {sp : Sp} {E : XK} {k n : Nat} {g : List Value → List Value → List Value} {gV : List V → List V → List V}
    (F : FnOk X.prog X.w X.K X.mg X.base CX k f fd ps sp) (room : Room k X.A) (hb : KBn X.K fd ps n ks g gV) (hx : PassesAt CX X σ E) (I : Inv X pins σ H s) (r : Vals vs us) (rz : Vals zs ws) (l1 : vs.length = n) (l2 : zs.length = ks.length) (h : sp (gV vs zs) H Q E) :
    wpAny (model X.prog X.w) X.A (call (.ref f) us (ks.zip ws)) (EP X pins σ Q) X.xe s := by
  have b := hb.to s us ws I.kIn (r.length.symm.trans l1) (rz.length.symm.trans l2)
  refine wpAny_call (codeAny_mono (F.run X.A X.stack s H ⟨us, ks.zip ws⟩ _ _ Q E room I.env0 b (hb.rel r rz) h) fun out s' hq => ?_)
  rcases out with err | fl
  · exact hx pins H s err s' I hq
  · cases fl <;> first | exact I.after hq | exact False.elim hq
/-- x(e, .., kw = v) -/
theorem de_callK {x kw : Str} {p kpos : Pos} {k n : Nat} {F : DF} {v : Expr} (kn : KnK C.P C.w C.K C.mg C.base x k F n [kw]) (hk : Nat.ble k C.k = true) (hg : GlC C x)
    (h : DA C W (e :: es) δ m fun ds m1 => ds.length = n ∧ DE C W v δ m1 fun d m2 => F (ds ++ [d]) m2 Q fun cls fs m' => W cls fs δ m') (hdb : (x == ("__debug__" : Str)) = false := by decide) (hcm : C.cm = true := by rfl)
    (he : ∀ env, starEach (e :: es) env = (false, eval e env) :: starEach es env := by intro _; rfl) (hall : ∀ env, (backToKw pos (keywordEach [⟨some kw, v, kpos⟩] env)).all (·.1.isSome) = true := by intro _; rfl)
    (hks : ∀ env, (backToKw pos (keywordEach [⟨some kw, v, kpos⟩] env)).filterMap (·.1) = [kw] := by intro _; rfl)
    (hpl : ∀ env, ((backTo pos (starEach (e :: es) env)).any (·.1) || (backToKw pos (keywordEach [⟨some kw, v, kpos⟩] env)).any (·.1.isNone)) = false := by intro _; rfl) : DE C W (.Call (.Name x p) (e :: es) [⟨some kw, v, kpos⟩] pos) δ m Q := by
  intro X S fX tk σ H T le sl hh pins s I
  obtain ⟨f, fd, ps, g, ok, hm, kp, hb⟩ := kn.ex
  rw [← fX.prog, ← fX.w, ← fX.K, ← fX.mg, ← fX.base] at ok
  rw [← fX.K] at kp hb
  refine wpAny_Call_Name_kw (ld_glob I (fX.gl hg) (by rw [fX.mg]; exact hm) ?_ hdb)
  refine PySem.W.callWith_KW (h₀ := X.base) I.ok.mod.kin kp (hall _) (thn (h X S fX tk σ H T le sl hh pos pins s I) fun us s1 ⟨vs, H1, I1, r, ds, m1, hl, h1, hn, q⟩ => ?_) (hpl _) (he _)
  have pk : PK X [⟨some kw, v, kpos⟩] (tCons (WE X v) tNil) := pk_cons we pk_nil
  have lel : Le T (PlL T vs ds) := PlL.le
  refine thn (pk.run pos pins s1 σ H1 (fun zs H2 => ∃ z d m2, zs = [z] ∧ Hd C.K S.r H2 m2 (Pl (PlL T vs ds) z d) ∧ F (ds ++ [d]) m2 Q fun cls fs m' => W cls fs δ m') I1 ?_) fun ws s2 ⟨zs, H2, I2, rz, z, d, m2, ez, h2, q2⟩ => ⟨I2.kIn, ?_⟩
  · exact WE.mono (q X S fX tk σ H1 (PlL T vs ds) (le.trans lel) (sl.le lel) h1) fun z H2 ⟨d, m2, h2, q2⟩ => ⟨z, d, m2, rfl, h2, q2⟩
  · subst ez
    rw [hks]
    refine run_kw (E := L2.WE (liftW C.K W S) σ) (ok.mono (Nat.le_of_ble_eq_true hk)) (fX.room hcm) hb (passAt tk σ) I2 r rz (hl.trans hn) rfl ?_
    have h3 : Hd C.K S.r H2 m2 (PlL T (vs ++ [z]) (ds ++ [d])) := h2.le fun x y t => by
      rcases t with t | t
      · exact .inl (.inl t)
      · rw [List.zip_append hl] at t
        rcases List.mem_append.mp t with t | t
        · exact .inl (.inr t)
        · rw [List.zip_cons_cons, List.zip_nil_left, List.mem_singleton] at t
          cases t
          exact Pl.it
    have w := spD_at (X := X) (S := S) (σ := σ) (Q := Q) (W := W) (δ := δ) le sl (vs := vs ++ [z]) (ds := ds ++ [d]) (by rw [List.length_append, List.length_append, hl]; rfl) h3 q2
    rw [← fX.K] at w ⊢
    exact w
/-! ### range(a, b, c) -/
def rngC (lo c : Int) (n : Nat) : List G.D := (List.range n).map fun i => .int (lo + (i : Nat) * c)
theorem rngC_len {lo c : Int} {n : Nat} : (rngC lo c n).length = n := by simp [rngC]
theorem rngC_get {lo c : Int} {n i : Nat} {d : G.D} (h : (rngC lo c n)[i]? = some d) : i < n ∧ d = .int (lo + (i : Nat) * c) := by
  have hi : i < n := by
    have := (List.getElem?_eq_some_iff.mp h).1
    rwa [rngC_len] at this
  refine ⟨hi, ?_⟩
  rw [rngC, List.getElem?_map, List.getElem?_range hi] at h
  exact (Option.some.inj h).symm
theorem walks_rngC {K : PySem.W.Frag} {lo c : Int} {n : Nat} {T : RT} : Walks K (Itc lo c n) (rngC lo c n) T :=
  ⟨fun i r H m T' hi l hd => by rw [rngC_len] at hi; exact hi, fun i r H H' m T' x d hi l hd y => by
    obtain ⟨e, ex⟩ := y
    subst e ex
    obtain ⟨_, ed⟩ := rngC_get hi
    subst ed
    exact hd.pl fun _ _ => .int _, fun i r H m T' hi l hd => by rw [rngC_len] at hi; exact hi⟩
variable {tg : Expr}
theorem di_rng3 {R : List G.D → Sto → Prop} {p : Pos} (hg : GlC C "range") (hm : C.mg "range" = none) (h : DA C W [a, b, c] δ m fun ds m1 => ∃ (i j k : Int) (n : Nat), ds = [.int i, .int j, .int k] ∧ RgC i j k n ∧ R (rngC i k n) m1)
    (hs : ∀ env, starEach [a, b, c] env = (false, eval a env) :: starEach [b, c] env := by intro _; rfl) (hpl : ∀ env, (backTo pos (starEach [b, c] env)).any (·.1) = false := by intro _; rfl) : DI C W tg (.Call (.Name "range" p) [a, b, c] [] pos) δ m R := by
  intro X S f tk σ H T le sl hh
  refine WI.of (pi_range3 (f.gl hg) (by rw [f.mg]; exact hm) wa (hs _) (hpl _)) ((h X S f tk σ H T le sl hh).mono fun vs H1 ⟨ds, m1, hl, h1, i, j, k, n, ed, hr, q⟩ => ?_)
  subst ed
  match vs, hl with
  | [u, v, w], _ =>
    have r1 := h1.rep (PlL.at (i := 0) (v := u) (d := .int i) rfl rfl)
    have r2 := h1.rep (PlL.at (i := 1) (v := v) (d := .int j) rfl rfl)
    have r3 := h1.rep (PlL.at (i := 2) (v := w) (d := .int k) rfl rfl)
    cases r1
    cases r2
    cases r3
    exact ⟨i, j, k, n, rfl, hr, _, m1, _, PlL.le, h1, walks_rngC, q⟩
/-- of a length -/
theorem rgC_len {l : Nat} {c : Int} (hl : l ≤ 16777216) (hc : 1 ≤ c) (hc2 : c < 1048576) : RgC 0 l c (((l : Int) + c - 1) / c).toNat := by
  have e := PyProof.Rows.rangeSize_pos (len := (l : Int)) (c := c) hc (by omega)
  have h0 : 0 ≤ ((l : Int) + c - 1) / c := Int.ediv_nonneg (by omega) (by omega)
  have h1 : ((l : Int) + c - 1) / c ≤ (l : Int) + c - 1 := Int.ediv_le_self _ (by omega)
  refine ⟨by omega, by omega, ?_, by rw [e]; omega⟩
  unfold Builtin.Range.small
  rw [e]
  simp only [Builtin.Range.rangeFitsLong, Bool.and_eq_true, Bool.or_eq_true, decide_eq_true_eq, beq_iff_eq]
  rw [if_pos (by omega)]
  simp only [Bool.and_eq_true, decide_eq_true_eq]
  omega
/-! ### o[i] += e -/
theorem get_list {X : Cx} : PGet X fun o i H Q => ∃ (p : Addr) (xs : List V) (k : Int) (z : V), o = V.ref p ∧ i = V.int k ∧ H p = some (.lst xs) ∧ atI xs k = some z ∧ Q z H := by
  intro pins s σ H o i ov iv Q I ro ri h
  obtain ⟨p, xs, k, z, rfl, rfl, hq, he, q⟩ := h
  cases ro
  obtain ⟨t, rfl⟩ := ri
  obtain ⟨its, r, pl, hz⟩ := I.list (SqL.of hq)
  obtain ⟨j, h1, h2, h3, h4, h5⟩ := atI_get he
  obtain ⟨w, ew, rw'⟩ := r.get h2
  have hl := r.length
  have hn := line63
  by_cases h0 : 0 ≤ k
  · have hj : k.toNat = j := by
      rw [seqIndex_of h0 h5] at h1
      exact Option.some.inj h1
    exact wpAny_getItem_list pl.isList h0 (by omega) (by rw [hj]; simpa using ew) ⟨z, H, I, rw', q⟩
  · have hj : (k + (its.toArray.size : Int)).toNat = j := by
      rw [seqIndex_neg (by omega) h4] at h1
      rw [List.size_toArray, ← hl]
      exact Option.some.inj h1
    exact wpAny_getItem_list_neg pl.isList (by omega) (by rw [List.size_toArray] <;> omega) (by omega) (by rw [hj]; simpa using ew) ⟨z, H, I, rw', q⟩
def augD (C : Ct) (x y d : G.D) (m : Sto) (k : G.D → Sto → Prop) : Prop := ∃ p ds j z, x = .ref p ∧ y = .int j ∧ m p = some (.lst ds) ∧ atI ds j = some z ∧ d = d ∧ k z m
/-- texts at p[i] -/
theorem ds_augS {o i : Expr} {tpos : Pos} {D : DEn} (h : DE C W o δ m fun x m1 => DE C W i δ m1 fun y m2 => ∃ p ds j n z, x = .ref p ∧ y = .int j ∧ m2 p = some (.lst ds) ∧ atI ds j = some (.str z) ∧ ixN ds.length j = some n ∧
      DE C W e δ m2 fun d m3 => ∃ u, d = .str u ∧ m3 p = some (.lst ds) ∧ z.length + u.length ≤ sizeLine ∧ D.nx δ (sput m3 p (.lst (ds.set n (.str (z ++ u))))))
    (ha : ∀ ov iv new, augStore i ov iv new = (do holding [new, ov, iv] (setItem ov iv new); release [new, ov, iv] []; pure .next) := by intros; rfl) : DS C W (.AugAssign (.Subscript o i tpos) .Add e pos) δ m D := by
  intro X S f tk σ H T le sl hh
  have hadd : PIp X .Add (fun x y H Q => ∃ i j : Str, x = V.str i ∧ y = V.str j ∧ i.length + j.length ≤ sizeLine ∧ Q (.str (i ++ j)) H) := fun pins s σ H x y u v Q I rx ry h => iop_add_str pins s σ H x y u v Q I rx ry h
  refine WS.of (ps_augS we we get_list we hadd set_list ha) ?_
  refine (h X S f tk σ H T le sl hh).mono fun v H1 ⟨x, m1, h1, q1⟩ => ?_
  refine (q1 X S f tk σ H1 _ (le.trans Pl.le) (sl.le Pl.le) h1).mono fun u H2 ⟨y, m2, h2, p, ds, j, n, z, ex, ey, hm, hz, hn, q2⟩ => ?_
  subst ex ey
  have rv := h2.rep (.inl Pl.it : Pl (Pl T v (.ref p)) u (.int j) v (.ref p))
  have ru := h2.rep (Pl.it (T := Pl T v (.ref p)) (v := u) (d := .int j))
  cases rv
  cases ru
  obtain ⟨xs, hq, hl, h3⟩ := h2.itemsO hm
  obtain ⟨zv, k, e1, e2, e3⟩ := atI_rep hl hz
  have tz := PlL.at (T := Pl (Pl T (.ref p) (.ref p)) (.int j) (.int j)) e2 e3
  have rz := h3.rep tz
  cases rz
  refine ⟨p, xs, j, _, rfl, rfl, hq, e1, ?_⟩
  have lel : Le T (PlL (Pl (Pl T (.ref p) (.ref p)) (.int j) (.int j)) xs ds) := (Pl.le.trans Pl.le).trans PlL.le
  refine (q2 X S f tk σ H2 _ (le.trans lel) (sl.le lel) h3).mono fun d H3 ⟨dd, m3, h4, w, ed, hm3, hsz, q3⟩ => ?_
  subst ed
  have rd := h4.rep Pl.it
  cases rd
  refine ⟨z, w, rfl, rfl, hsz, ?_⟩
  obtain ⟨ys, hq3, hl3, _⟩ := h4.itemsO hm3
  refine ⟨p, ys, j, n, rfl, rfl, hq3, by rw [hl3]; exact hn, ?_⟩
  have h5 := h4.mut (u' := .lst (ys.set n (.str (z ++ w)))) (o' := .lst (ds.set n (.str (z ++ w)))) hm3 hq3 fun Hi r kk => RepL.set n r (.str _)
  exact lift_nx (le.trans (lel.trans Pl.le)) (sl.le (lel.trans Pl.le)) h5 q3
/-! ### a comprehension as an object -/
theorem de_lcM {elt tg iter : Expr} {ifs : List Expr} {scope : Scope} (own : List (Str × Nat)) {Q : G.D → Sto → Prop} (ok : blkC C.N C.sc scope own = true)
    (h : LcI C W elt tg iter ifs scope own δ m fun d m1 => ∀ p acc, d = .lst acc → m1 p = none → Q (.ref p) (sput m1 p (.lst acc))) (hs : ∀ env x, foldedSetIterable iter env x = pure x := by intro _ _; rfl) (hcm : C.cm = true := by rfl) : DE C W (.ListComp elt [⟨tg, iter, ifs, 0⟩] scope pos) δ m Q := by
  intro X S f tk σ H T le sl hh
  have okB : BlkOk X.N X.env.scope scope own := by rw [f.N, f.sc]; exact blkOk_by ok
  refine WE.of (pe_lc (te := rdE X scope elt) (tt := rdT X scope ifs) (g := rdG X scope tg) (f.calm hcm) f.nd wi okB (fun s H c cl fp => ⟨fun pins t σ H v u Q I r q => q s _ c cl fp pins t u I r⟩) (fun s H c cl fp => ⟨fun pins t σ H Q I q => q s _ c cl fp pins t I⟩) (fun s H c cl fp => ⟨fun pins t σ H Q I q => q s _ c cl fp pins t I⟩) (hs _)) ?_
  exact lc_read h f tk le sl hh fun p H' acc m' T' l hm hd q => ⟨.ref p, _, (hd.pl fun _ _ => .ref p).le (Pl.mono l), q p acc rfl hm⟩
/-! ### isinstance of objects -/
def tyM (d : G.D) (m : Sto) : Option String := match d with
  | .ref p => (match m p with
    | some (.lst _) => some "list"
    | _ => none)
  | d => tyD d
theorem Hd.tyM {K : PySem.W.Frag} {fr : Sto} {H : Hp} {m : Sto} {T : RT} {v : V} {d : G.D} {t : String} (h : Hd K fr H m T) (x : T v d) (e : tyM d m = some t) : TyX K H v (.type t) := by
  cases d with
  | ref p =>
    have r := h.rep x
    cases r
    have e : (match m p with | some (.lst _) => some "list" | _ => none) = some t := e
    cases q : m p with
    | none =>
      rw [q] at e
      cases e
    | some o =>
      rw [q] at e
      cases o with
      | lst ds =>
        cases e
        obtain ⟨xs, hq, _⟩ := h.itemsO q
        exact .base (.lst hq)
      | _ => cases e
  | _ => exact h.tyX x e
def isiM : RLD := fun ds m Q => ∃ d t n b, ds = [d, .ty n] ∧ tyM d m = some t ∧ kitB t n = some b ∧ Q (.bl b) m
theorem cd_isiM : CallD C (.builtin "isinstance") isiM := by
  rintro X f fr H m T vs ds Q hl hh ⟨d, t, n, b, rfl, ht, hk, q⟩
  obtain ⟨v, u, rfl⟩ := two_of hl
  have ty := hh.tyM (PlL.at (i := 0) (v := v) (d := d) rfl rfl) ht
  have r := hh.rep (PlL.at (i := 1) (v := u) (d := .ty n) rfl rfl)
  cases r
  exact wc_of call_isi ⟨v, .ty n, .type t, .type n, b, rfl, .ty n, by rw [f.K]; exact ty, kit_ty hk, dK.le (dk_bl hh q) PlL.le⟩
/-! ### a list that is an object, compared with data -/
def eqM (neg : Bool) : R2D := fun d e m Q => ∃ p l n, d = .ref p ∧ m p = some (.lst l) ∧ n ≤ 60 ∧ okD n (.lst l) = true ∧ okD n e = true ∧ Q (.bl (if neg then !eqvD (.lst l) e else eqvD (.lst l) e)) m
theorem Hd.repO {K : PySem.W.Frag} {fr : Sto} {H : Hp} {m : Sto} {T : RT} {p : Addr} {l : List G.D} (hh : Hd K fr H m T) (hm : m p = some (.lst l)) : Rep K H (.ref p) (.lst l) := by
  obtain ⟨xs, hq, hl, h3⟩ := hh.itemsO hm
  have hr : ∀ (vs : List V) (ds : List G.D), vs.length = ds.length → (∀ v d, (v, d) ∈ vs.zip ds → Rep K H v d) → RepL K H vs ds := by
    intro vs
    induction vs with
    | nil =>
      intro ds hl _
      cases ds with
      | nil => exact .nil
      | cons => cases hl
    | cons v vs ih =>
      intro ds hl hz
      cases ds with
      | nil => cases hl
      | cons d ds => exact .cons (hz v d (by rw [List.zip_cons_cons]; exact List.mem_cons_self)) (ih ds (by simpa using hl) fun v' d' h => hz v' d' (by rw [List.zip_cons_cons]; exact List.mem_cons_of_mem _ h))
  exact .lst hq (hr xs l hl fun v d h => h3.rep (.inr h))
theorem od_neM : OpD C (compareOp .NotEq) (eqM true) := by
  rintro X f fr H m T x y d e Q hh tx ty ⟨p, l, n, rfl, hm, hn, o1, o2, q⟩
  have rx := hh.rep tx
  cases rx
  exact wb_of (op_neD (by have := f.un; omega)) ⟨_, _, by rw [f.K]; exact (hh.repO hm).dp n o1, by rw [f.K]; exact (hh.rep ty).dp n o2, okD_shaped o1 hn, okD_shaped o2 hn, dk_bl hh q⟩
theorem od_eqM : OpD C (compareOp .Eq) (eqM false) := by
  rintro X f fr H m T x y d e Q hh tx ty ⟨p, l, n, rfl, hm, hn, o1, o2, q⟩
  have rx := hh.rep tx
  cases rx
  exact wb_of (op_eqD (by have := f.un; omega)) ⟨_, _, by rw [f.K]; exact (hh.repO hm).dp n o1, by rw [f.K]; exact (hh.rep ty).dp n o2, okD_shaped o1 hn, okD_shaped o2 hn, dk_bl hh q⟩
theorem ixOn {Q : G.D → Sto → Prop} {p : Addr} {ds : List G.D} {d : G.D} (hm : m p = some (.lst ds)) (h : ds.getLast? = some d) (q : Q d m) : ixD (.ref p) (.int (-1)) m Q := ⟨ds, d, hm, atI_neg h, q⟩
theorem ixN_neg {n : Nat} (h : 1 ≤ n) : ixN n (-1) = some (n - 1) := by
  unfold ixN
  rw [if_neg (by omega), if_pos (by omega)]
  congr 1
  omega
end
end G

/-! Texts: words, lines; the plain law of k11. -/
namespace G
open PySem PySem.Spec PyProof.Rows L2
/-! ### split at blanks -/
def sp1 : Str := " "
theorem spl_sum : ∀ (l acc : List Nat), ((TL.spl [32] 0 acc l).map fun w => w.length + 1).sum = acc.length + l.length + 1
  | [], acc => by
    rw [TL.spl_nil]
    simp
  | c :: r, acc => by
    cases h : TL.pre [32] (c :: r) with
    | true =>
      rw [TL.spl_hit h]
      show acc.length + 1 + ((TL.spl [32] ([32].length - 1) [] r).map _).sum = _
      have ih := spl_sum r []
      rw [show ([32] : List Nat).length - 1 = 0 from rfl, ih]
      simp
      omega
    | false =>
      rw [TL.spl_miss h, spl_sum r (acc ++ [c])]
      simp
      omega
theorem split_sum (x : Str) : ((Txt.split x sp1).map fun w => w.length + 1).sum = x.length + 1 := by
  have e := TL.split_spl x sp1 (by decide) (TL.kind_ok (by decide +kernel))
  have e1 : ((Txt.split x sp1).map fun w => w.length + 1) = ((Txt.split x sp1).map TL.tl).map fun w => w.length + 1 := by
    rw [List.map_map]
    refine List.map_congr_left fun w _ => ?_
    show w.length + 1 = (TL.tl w).length + 1
    rw [TL.len_tl w]
  rw [e1, e]
  have e2 := spl_sum (TL.tl x) []
  rw [TL.len_tl x]
  exact e2.trans (by simp)
theorem sum_len : ∀ l : List Str, l.length ≤ (l.map fun w => w.length + 1).sum
  | [] => Nat.le_refl _
  | w :: l => by
    have := sum_len l
    simp only [List.length_cons, List.map_cons, List.sum_cons]
    omega
theorem sum_mem {w : Str} : ∀ {l : List Str}, w ∈ l → w.length + 1 ≤ (l.map fun w => w.length + 1).sum
  | x :: l, h => by
    simp only [List.map_cons, List.sum_cons]
    rcases List.mem_cons.mp h with rfl | h
    · omega
    · have := sum_mem h
      omega
theorem sum_filter (p : Str → Bool) : ∀ l : List Str, ((l.filter p).map fun w => w.length + 1).sum ≤ (l.map fun w => w.length + 1).sum
  | [] => Nat.le_refl _
  | w :: l => by
    have ih := sum_filter p l
    rw [List.filter_cons]
    split
    · simp only [List.map_cons, List.sum_cons]
      omega
    · simp only [List.map_cons, List.sum_cons]
      omega
theorem sum_take (i : Nat) : ∀ l : List Str, ((l.take i).map fun w => w.length + 1).sum ≤ (l.map fun w => w.length + 1).sum := by
  induction i with
  | zero => intro l; simp
  | succ i ih =>
    intro l
    cases l with
    | nil => simp
    | cons w l =>
      have := ih l
      simp only [List.take_succ_cons, List.map_cons, List.sum_cons]
      omega
/-- the words of a text -/
def wordsL (x : Str) : List Str := (Txt.split x sp1).filter fun w => decide (¬ w = "")
theorem words_sum (x : Str) : ((wordsL x).map fun w => w.length + 1).sum ≤ x.length + 1 := by
  have h := sum_filter (fun w => decide (¬ w = "")) (Txt.split x sp1)
  rw [split_sum] at h
  exact h
/-! ### pieces of a word -/
def manyP (r : Int) (w : Str) : Nat := (((w.length : Int) + r - 1) / r).toNat
def pieceAt (r : Int) (w : Str) (k : Nat) : Str := cutS w (some (0 + (k : Nat) * r)) (some (0 + (k : Nat) * r + r))
def pieces (r : Int) (w : Str) : List Str := (List.range (manyP r w)).map (pieceAt r w)
theorem manyP_le {r : Int} {w : Str} (hr : 1 ≤ r) : manyP r w ≤ w.length := by
  unfold manyP
  by_cases h : w.length = 0
  · rw [h, Int.ediv_eq_zero_of_lt (by omega) (by omega)]
    exact Nat.le_refl 0
  · have h1 : ((w.length : Int) + r - 1) / r ≤ (w.length : Int) := by
      refine Int.ediv_le_of_le_mul (by omega) ?_
      have h2 : (w.length : Int) * r = (w.length : Int) + (w.length : Int) * (r - 1) := by
        rw [Int.mul_sub, Int.mul_one]
        omega
      have h3 : 1 * (r - 1) ≤ (w.length : Int) * (r - 1) := Int.mul_le_mul_of_nonneg_right (by omega) (by omega)
      omega
    omega
theorem cutS_len (w : Str) (a b : Option Int) : (cutS w a b).length ≤ w.length := by
  have e := TL.len_tl (cutS w a b)
  have e2 := TL.len_tl w
  rw [e, e2]
  show (List.take _ (List.drop _ w.cps.toList)).length ≤ _
  have h1 := List.length_take_le' (HT.sIx w.length w.length b - HT.sIx w.length 0 a) (w.cps.toList.drop (HT.sIx w.length 0 a))
  have h2 : (w.cps.toList.drop (HT.sIx w.length 0 a)).length ≤ w.cps.toList.length := by rw [List.length_drop]; omega
  exact Nat.le_trans h1 h2
theorem pieces_len {r : Int} {w : Str} (hr : 1 ≤ r) : (pieces r w).length ≤ w.length := by
  unfold pieces
  rw [List.length_map, List.length_range]
  exact manyP_le hr
theorem pieces_mem {r : Int} {w z : Str} (h : z ∈ pieces r w) : z.length ≤ w.length := by
  obtain ⟨k, _, rfl⟩ := List.mem_map.mp h
  exact cutS_len _ _ _
/-- a short word is one piece -/
theorem one_piece {r : Int} {w : Str} (h1 : 1 ≤ w.length) (h2 : (w.length : Int) ≤ r) : pieces r w = [w] := by
  have e1 : manyP r w = 1 := by
    unfold manyP
    rw [show (w.length : Int) + r - 1 = ((w.length : Int) - 1) + 1 * r from by omega, Int.add_mul_ediv_right _ _ (by omega), Int.ediv_eq_zero_of_lt (by omega) (by omega)]
    rfl
  have e2 : pieceAt r w 0 = w := by
    unfold pieceAt
    rw [show (0 : Int) + ((0 : Nat) : Int) * r = ((0 : Nat) : Int) from by simp]
    rw [show ((0 : Nat) : Int) + r = ((r.toNat : Nat) : Int) from by omega]
    refine TL.ext_tl ?_
    show List.take _ (List.drop _ w.cps.toList) = w.cps.toList
    rw [HT.sIx_nat, HT.sIx_nat]
    have e3 := TL.len_tl w
    have e4 : w.cps.toList.length = w.length := e3.symm
    rw [Nat.zero_min, List.drop_zero, List.take_of_length_le (by omega)]
  unfold pieces
  rw [e1]
  show [pieceAt r w 0] = [w]
  rw [e2]
/-! ### lines -/
def stepW (r : Int) (rows : List Str) (w : Str) : List Str :=
  if (w.length : Int) > r then rows ++ pieces r w
  else match rows.getLast? with
    | some a => if (a.length : Int) + 1 + w.length ≤ r then rows.set (rows.length - 1) (a ++ (" " ++ w)) else rows ++ [w]
    | none => rows ++ [w]
def linesW (r : Int) (x : Str) : List Str := (wordsL x).foldl (stepW r) []
def Bnd (n : Nat) (rows : List Str) : Prop := rows.length ≤ n ∧ ∀ z ∈ rows, z.length ≤ n
theorem bnd_app {n k : Nat} {a b : List Str} (ha : Bnd n a) (h1 : b.length ≤ k) (h2 : ∀ z ∈ b, z.length ≤ k) : Bnd (n + k) (a ++ b) := by
  refine ⟨by rw [List.length_append]; have := ha.1; omega, fun z hz => ?_⟩
  rcases List.mem_append.mp hz with hz | hz
  · have := ha.2 z hz; omega
  · have := h2 z hz; omega
theorem bnd_step {n : Nat} {r : Int} {rows : List Str} {w : Str} (hr : 1 ≤ r) (h : Bnd n rows) : Bnd (n + (w.length + 1)) (stepW r rows w) := by
  have one : Bnd (n + (w.length + 1)) (rows ++ [w]) := bnd_app h (by simp) fun z hz => by
    rw [List.mem_singleton.mp hz]
    omega
  unfold stepW
  split
  · exact bnd_app h (by have := pieces_len (w := w) hr; omega) fun z hz => by have := pieces_mem hz; omega
  · split
    · rename_i a ha
      split
      · refine ⟨by rw [List.length_set]; have := h.1; omega, fun z hz => ?_⟩
        rcases List.mem_or_eq_of_mem_set hz with hz | rfl
        · have := h.2 z hz; omega
        · have ha2 := h.2 a (List.mem_of_getLast? ha)
          have e1 := TL.len_tl (a ++ (" " ++ w))
          rw [TL.tl_append, TL.tl_append, List.length_append, List.length_append, ← TL.len_tl a, ← TL.len_tl w] at e1
          have e2 : (TL.tl (" " : Str)).length = 1 := by decide +kernel
          omega
      · exact one
    · exact one
theorem bnd_fold {r : Int} (hr : 1 ≤ r) : ∀ (l : List Str) (n : Nat) (rows : List Str), Bnd n rows → Bnd (n + (l.map fun w => w.length + 1).sum) (l.foldl (stepW r) rows)
  | [], n, rows, h => h
  | w :: l, n, rows, h => by
    have := bnd_fold hr l _ _ (bnd_step (w := w) hr h)
    simp only [List.map_cons, List.sum_cons, List.foldl_cons]
    rw [← Nat.add_assoc]
    exact this
theorem bnd_some {r : Int} (hr : 1 ≤ r) (x : Str) (i : Nat) : Bnd (x.length + 1) (((wordsL x).take i).foldl (stepW r) []) := by
  have h := bnd_fold hr ((wordsL x).take i) 0 [] ⟨Nat.le_refl 0, fun z hz => by cases hz⟩
  have h2 := Nat.le_trans (sum_take i (wordsL x)) (words_sum x)
  exact ⟨by have := h.1; omega, fun z hz => by have := h.2 z hz; omega⟩
theorem fold_succ {r : Int} {l : List Str} {i : Nat} {w : Str} (h : l[i]? = some w) : (l.take (i + 1)).foldl (stepW r) [] = stepW r ((l.take i).foldl (stepW r) []) w := by
  rw [List.take_succ, h, List.foldl_append]
  rfl
/-! the step, case by case -/
theorem step_long {r : Int} {rows : List Str} {w : Str} (h : (w.length : Int) > r) : stepW r rows w = rows ++ pieces r w := if_pos h
theorem step_join {r : Int} {rows : List Str} {w a : Str} (h : ¬ (w.length : Int) > r) (ha : rows.getLast? = some a) (h2 : (a.length : Int) + 1 + w.length ≤ r) : stepW r rows w = rows.set (rows.length - 1) (a ++ (" " ++ w)) := by
  unfold stepW
  rw [if_neg h, ha]
  exact if_pos h2
theorem step_new {r : Int} {rows : List Str} {w : Str} (h : ¬ (w.length : Int) > r) (ha : ∀ a, rows.getLast? = some a → ¬ (a.length : Int) + 1 + w.length ≤ r) : stepW r rows w = rows ++ [w] := by
  unfold stepW
  rw [if_neg h]
  cases e : rows.getLast? with
  | none => rfl
  | some a => exact if_neg (ha a e)
theorem word_len {x w : Str} {i : Nat} (h : (wordsL x)[i]? = some w) : 1 ≤ w.length ∧ w.length ≤ x.length := by
  have hm := List.mem_of_getElem? h
  have h2 := Nat.le_trans (sum_mem hm) (words_sum x)
  have h3 : decide (¬ w = "") = true := (List.mem_filter.mp hm).2
  refine ⟨?_, by omega⟩
  have h4 := of_decide_eq_true h3
  have e := TL.len_tl w
  have : TL.tl w ≠ [] := fun q => h4 (TL.ext_tl q)
  have := List.length_pos_iff.mpr this
  omega
theorem join_assoc (a w : Str) : (a ++ " ") ++ w = a ++ ((" " : Str) ++ w) := TL.ext_tl (by rw [TL.tl_append, TL.tl_append, TL.tl_append, TL.tl_append, List.append_assoc])
theorem ok_strs (n : Nat) (l : List Str) (h : ∀ z ∈ l, PyData.strOk z = true) : okDL n (l.map D.str) = true := okDL_all fun d hd => by
  obtain ⟨z, hz, rfl⟩ := List.mem_map.mp hd
  simp [okD, h z hz]
/-! ### signs that are signs -/
def Sg (l : List Nat) : Prop := ∀ c ∈ l, c < 1114112
theorem strOk_iff {z : Str} : PyData.strOk z = true ↔ Sg (TL.tl z) := by
  unfold PyData.strOk Sg
  rw [← Array.all_toList, List.all_eq_true]
  constructor
  · intro h c hc
    exact of_decide_eq_true (h c hc)
  · intro h c hc
    exact decide_eq_true (h c hc)
theorem spl_mem : ∀ (l acc w : List Nat), w ∈ TL.spl [32] 0 acc l → ∀ c ∈ w, c ∈ acc ∨ c ∈ l
  | [], acc, w, h, c, hc => by
    rw [TL.spl_nil, List.mem_singleton] at h
    subst h
    exact .inl hc
  | x :: r, acc, w, h, c, hc => by
    cases q : TL.pre [32] (x :: r) with
    | true =>
      rw [TL.spl_hit q] at h
      rcases List.mem_cons.mp h with rfl | h
      · exact .inl hc
      · rcases spl_mem r [] w h c hc with e | e
        · cases e
        · exact .inr (List.mem_cons_of_mem _ e)
    | false =>
      rw [TL.spl_miss q] at h
      rcases spl_mem r (acc ++ [x]) w h c hc with e | e
      · rcases List.mem_append.mp e with e | e
        · exact .inl e
        · exact .inr (by rw [List.mem_singleton.mp e]; exact List.mem_cons_self)
      · exact .inr (List.mem_cons_of_mem _ e)
theorem split_ok {x w : Str} (hx : PyData.strOk x = true) (h : w ∈ Txt.split x sp1) : PyData.strOk w = true := by
  rw [strOk_iff] at hx ⊢
  have e := TL.split_spl x sp1 (by decide) (TL.kind_ok (by decide +kernel))
  have h2 : TL.tl w ∈ TL.spl [32] 0 [] (TL.tl x) := by
    have e2 : TL.spl (TL.tl sp1) 0 [] (TL.tl x) = TL.spl [32] 0 [] (TL.tl x) := rfl
    rw [← e2, ← e]
    exact List.mem_map_of_mem h
  intro c hc
  rcases spl_mem _ _ _ h2 c hc with e | e
  · cases e
  · exact hx c e
theorem cutS_ok {w : Str} {a b : Option Int} (h : PyData.strOk w = true) : PyData.strOk (cutS w a b) = true := by
  rw [strOk_iff] at h ⊢
  intro c hc
  exact h c (List.mem_of_mem_drop (List.mem_of_mem_take hc))
theorem app_ok {a b : Str} (ha : PyData.strOk a = true) (hb : PyData.strOk b = true) : PyData.strOk (a ++ b) = true := by
  rw [strOk_iff] at ha hb ⊢
  rw [TL.tl_append]
  intro c hc
  rcases List.mem_append.mp hc with h | h
  · exact ha c h
  · exact hb c h
def OkR (rows : List Str) : Prop := ∀ z ∈ rows, PyData.strOk z = true
theorem step_ok {r : Int} {rows : List Str} {w : Str} (h : OkR rows) (hw : PyData.strOk w = true) : OkR (stepW r rows w) := by
  have one : OkR (rows ++ [w]) := fun z hz => by
    rcases List.mem_append.mp hz with hz | hz
    · exact h z hz
    · rw [List.mem_singleton.mp hz]; exact hw
  unfold stepW
  split
  · intro z hz
    rcases List.mem_append.mp hz with hz | hz
    · exact h z hz
    · obtain ⟨k, _, rfl⟩ := List.mem_map.mp hz
      exact cutS_ok hw
  · split
    · rename_i a ha
      split
      · intro z hz
        rcases List.mem_or_eq_of_mem_set hz with hz | rfl
        · exact h z hz
        · exact app_ok (h a (List.mem_of_getLast? ha)) (app_ok (by decide +kernel) hw)
      · exact one
    · exact one
theorem fold_ok {r : Int} : ∀ (l rows : List Str), OkR rows → OkR l → OkR (l.foldl (stepW r) rows)
  | [], rows, h, _ => h
  | w :: l, rows, h, hl => fold_ok l _ (step_ok h (hl w List.mem_cons_self)) fun z hz => hl z (List.mem_cons_of_mem _ hz)
theorem words_ok {x : Str} (hx : PyData.strOk x = true) : OkR (wordsL x) := fun z hz => split_ok hx ((List.mem_filter.mp hz).1)
theorem lines_ok {r : Int} {x : Str} (hx : PyData.strOk x = true) : OkR (linesW r x) := fold_ok _ _ (fun z hz => by cases hz) (words_ok hx)
/-! ### what the defs do -/
def FWords : DF := fun ds m Q _ => ∃ x : Str, ds = [.str x] ∧ x.length ≤ 1000000 ∧ ∀ p, m p = none → Q (.ref p) (sput m p (.lst ((wordsL x).map D.str)))
theorem FWords.len : ∀ ds m Q E, FWords ds m Q E → ds.length = (["text"] : List Str).length := by
  rintro ds m Q E ⟨_, rfl, _⟩
  rfl
def FPieces : DF := fun ds m Q _ => ∃ (w : Str) (r : Int), ds = [.str w, .int r] ∧ w.length ≤ 1000000 ∧ 1 ≤ r ∧ r < 1000000 ∧ Q (.lst ((pieces r w).map D.str)) m
theorem FPieces.len : ∀ ds m Q E, FPieces ds m Q E → ds.length = (["word", "wide"] : List Str).length := by
  rintro ds m Q E ⟨_, _, rfl, _⟩
  rfl
def FLines : DF := fun ds m Q _ => ∃ (x : Str) (r : Int), ds = [.str x, .int r] ∧ PyData.strOk x = true ∧ x.length ≤ 1000000 ∧ 1 ≤ r ∧ r < 1000000 ∧ Q (.lst ((linesW r x).map D.str)) m
theorem FLines.len : ∀ ds m Q E, FLines ds m Q E → ds.length = (["text", "wide"] : List Str).length := by
  rintro ds m Q E ⟨_, _, rfl, _⟩
  rfl
def setL (x : Str) (r : Int) (b : Bool) : List Str := if b = true then linesW r x else [cutS x none (some r)]
def FSet (c : Addr) : DF := fun ds m Q E => ∃ (x : Str) (r : Int) (b : Bool), ds = [.str x, .int r, .bl b] ∧ PyData.strOk x = true ∧ x.length ≤ 1000000 ∧ r < 1000000 ∧ (1 ≤ r → Q (.lst ((setL x r b).map D.str)) m) ∧ (r < 1 → E (.ref c) [] m)
theorem FSet.len {c : Addr} : ∀ ds m Q E, FSet c ds m Q E → ds.length = (["text", "wide", "wrap"] : List Str).length := by
  rintro ds m Q E ⟨_, _, _, rfl, _⟩
  rfl
theorem set_ok {x : Str} {r : Int} {b : Bool} (hx : PyData.strOk x = true) : OkR (setL x r b) := by
  unfold setL
  split
  · exact lines_ok hx
  · intro z hz
    rw [List.mem_singleton.mp hz]
    exact cutS_ok hx
def lastS (rows : List Str) : Str := rows.getLast?.getD ""
theorem last_is {rows : List Str} (h : rows.isEmpty = false) : rows.getLast? = some (lastS rows) := by
  cases rows with
  | nil => cases h
  | cons a l =>
    unfold lastS
    rw [List.getLast?_cons]
    rfl
theorem last_mem {rows : List Str} (h : rows.isEmpty = false) : lastS rows ∈ rows := List.mem_of_getLast? (last_is h)
theorem len_pos {rows : List Str} (h : rows.isEmpty = false) : 1 ≤ rows.length := by
  cases rows with
  | nil => cases h
  | cons a l => simp
theorem eqv_nilS (l : List Str) : eqvD (.lst (l.map D.str)) (.lst []) = l.isEmpty := by
  cases l <;> simp [eqvD, toPy, toPyL, PyData.eqv, PyData.eqvAll]
theorem some_ok {r : Int} {x : Str} (hx : PyData.strOk x = true) (i : Nat) : OkR (((wordsL x).take i).foldl (stepW r) []) := fold_ok _ _ (fun z hz => by cases hz) fun z hz => words_ok hx z (List.mem_of_mem_take hz)
theorem step_join' {r : Int} {rows : List Str} {w : Str} (h : (w.length : Int) ≤ r) (ne : rows.isEmpty = false ∧ ((lastS rows).length : Int) + 1 + w.length ≤ r) : stepW r rows w = rows.set (rows.length - 1) (lastS rows ++ (" " ++ w)) := step_join (by omega) (last_is ne.1) ne.2
theorem step_new' {r : Int} {rows : List Str} {w : Str} (h : (w.length : Int) ≤ r) (ne : rows.isEmpty = true ∨ r < ((lastS rows).length : Int) + 1 + w.length) : stepW r rows w = rows ++ [w] := step_new (by omega) fun a ha => by
  rcases ne with ne | ne
  · rw [List.isEmpty_iff.mp ne] at ha
    cases ha
  · unfold lastS at ne
    rw [ha] at ne
    have ne : r < (a.length : Int) + 1 + w.length := ne
    omega
end G

/-! The data layer: a list that is an object and data, joined; objects forgotten. -/
namespace G
open PySem PySem.Spec PyProof.Rows L2
theorem Hd.drop {K : PySem.W.Frag} {r : Sto} {H : Hp} {m : Sto} {T : RT} (p : Addr) (h : Hd K r H m T) : Hd K r H (sdel m p) T := by
  obtain ⟨h0, Hi, h1, h2, h3⟩ := h
  have key : ∀ a o, sdel m p a = some o → m a = some o := fun a o e => by
    unfold sdel at e
    split at e
    · cases e
    · exact e
  refine ⟨fun a o e => h0 a o (key a o e), Hi, h1, fun a o e => h2 a o ?_, h3⟩
  cases q : sdel m p a with
  | some u =>
    rw [sun_l q] at e
    rw [sun_l (key a u q)]
    exact e
  | none =>
    rw [sun_r q] at e
    cases q2 : m a with
    | none => rw [sun_r q2]; exact e
    | some u =>
      have := h0 a u q2
      rw [this] at e
      cases e
section
variable {C : Ct} {W : DW} {δ : Sl} {m : Sto} {sts : List Stmt} {D : DEn} {Q : G.D → Sto → Prop}
theorem dss_drop (p : Addr) (h : DSs C W sts δ (sdel m p) D) : DSs C W sts δ m D := fun X S f tk σ H T le sl hh => h X S f tk σ H T le sl (hh.drop p)
/-- p + l -/
def addM : R2D := fun d e m Q => ∃ p l x, d = .ref p ∧ e = .lst x ∧ m p = some (.lst l) ∧ l.length + x.length ≤ sizeLine ∧ ∀ q, m q = none → Q (.ref q) (sput m q (.lst (l ++ x)))
theorem od_addM : OpD C (binaryOp .Add) addM := by
  rintro X f fr H m T x y d e Q hh tx ty ⟨p, l, ys, rfl, rfl, hm, hz, q⟩
  have rx := hh.rep tx
  cases rx
  obtain ⟨us, hu, lu, h1⟩ := hh.itemsO hm
  obtain ⟨b, vs, rfl, hv, lv, h2⟩ := h1.itemsL (PlL.le _ _ ty)
  refine wb_of op_cat ⟨p, b, us, vs, rfl, rfl, hu, hv, by rw [lu, lv]; exact hz, fun p' hp => ?_⟩
  refine dK.le (dk_lstM h2 hp (fun Hi k => (PlL.rep lu fun v d z => k v d (.inl z)).append (PlL.rep (T := T) lv fun v d z => k v d (z.elim (fun w => .inl (.inl w)) .inr))) q) (PlL.le.trans PlL.le)
end
theorem drop_put {m : Sto} {q q2 : Addr} {o o2 : O} (h : m q = none) (h2 : sput m q o q2 = none) : sdel (sput (sput m q o) q2 o2) q = sput m q2 o2 := by
  have ne : q2 ≠ q := fun e => by
    subst e
    rw [sput_same] at h2
    cases h2
  funext x
  unfold sdel sput
  split
  · rename_i e
    subst e
    rw [if_neg (Ne.symm ne), h]
  · rfl
theorem new_put {m : Sto} {q q2 : Addr} {o : O} (h2 : sput m q o q2 = none) : m q2 = none := by
  unfold sput at h2
  split at h2
  · cases h2
  · exact h2
end G

/-! Sameness of an object and data; drawn texts. -/
namespace G
open PySem PySem.Spec PyProof.Rows L2
section
variable {m : Sto} {Q : D → Sto → Prop}
theorem tyM_ref {p : Addr} {l : List D} (hm : m p = some (.lst l)) : tyM (.ref p) m = some "list" := by
  show (match m p with | some (.lst _) => some "list" | _ => none) = some "list"
  rw [hm]
theorem isiM' {d : D} {t n : String} {k : Bool} (h : tyM d m = some t) (hk : kitB t n = some k) (q : Q (.bl k) m) : isiM [d, .ty n] m Q := ⟨d, t, n, k, rfl, h, hk, q⟩
theorem ixOi {p : Addr} {ds : List D} {i : Int} {d : D} (hm : m p = some (.lst ds)) (h0 : 0 ≤ i) (h : ds[i.toNat]? = some d) (q : Q d m) : ixD (.ref p) (.int i) m Q := ⟨ds, d, hm, by
  obtain ⟨k, rfl⟩ : ∃ k : Nat, i = k := ⟨i.toNat, by omega⟩
  exact atI_nat (by simpa using h), q⟩
end
def FSameO (n : Nat) : DF := fun ds m Q _ => ∃ p l, ds = [.ref p, .lst l] ∧ m p = some (.lst l) ∧ okD n (.lst l) = true ∧ Q (.bl true) m
theorem FSameO.len {n : Nat} : ∀ ds m Q E, FSameO n ds m Q E → ds.length = (["_law_found", "_law_due"] : List Str).length := by
  rintro ds m Q E ⟨_, _, rfl, _⟩
  rfl
/-! ### drawn texts -/
def FOne : DF := fun ds m Q _ => ∃ (p : Addr) (z : Str) (o : O), ds = [.ref p, .str z] ∧ m p = some o ∧ IsDraw o ∧ 1 ≤ z.length ∧ z.length ≤ 1000 ∧ PyData.strOk z = true ∧ ∀ (c : Nat) o', PyData.strOk ⟨#[c]⟩ = true → IsDraw o' → Q (.str ⟨#[c]⟩) (sput m p o')
theorem FOne.len : ∀ ds m Q E, FOne ds m Q E → ds.length = (["_law_draw", "_law_some"] : List Str).length := by
  rintro ds m Q E ⟨_, _, _, rfl, _⟩
  rfl
theorem use_one {m : Sto} {Q : D → Sto → Prop} {E : Value → List (Str × D) → Sto → Prop} {p : Addr} {z : Str} {o : O} (hd : IsDraw o) (h1 : 1 ≤ z.length) (h2 : z.length ≤ 1000) (h3 : PyData.strOk z = true)
    (h : ∀ (c : Nat) o', PyData.strOk ⟨#[c]⟩ = true → IsDraw o' → Q (.str ⟨#[c]⟩) (sput m p o')) : FOne [.ref p, .str z] (sput m p o) Q E := ⟨p, z, o, rfl, sput_same, hd, h1, h2, h3, fun c o' a b => by rw [sput_sput]; exact h c o' a b⟩
theorem ix_sign {m : Sto} {Q : D → Sto → Prop} {z : Str} {i : Int} (h0 : 0 ≤ i) (h1 : i < z.length) (h2 : z.length ≤ 1000) (hz : PyData.strOk z = true) (q : ∀ c : Nat, PyData.strOk ⟨#[c]⟩ = true → Q (.str ⟨#[c]⟩) m) : ixD (.str z) (.int i) m Q := by
  have e : z.length = z.cps.toList.length := TL.len_tl z
  obtain ⟨k, rfl⟩ : ∃ k : Nat, i = k := ⟨i.toNat, by omega⟩
  have hk : k < z.cps.toList.length := by omega
  refine ⟨z.cps.toList[k], by have hz := sizeLine_eq; omega, atI_nat (List.getElem?_eq_getElem hk), q _ ?_⟩
  rw [strOk_iff] at hz ⊢
  intro c hc
  have hc : c ∈ [z.cps.toList[k]] := hc
  rw [List.mem_singleton.mp hc]
  exact hz _ (List.getElem_mem _)
theorem joinL_nil : ∀ ps : List (List Nat), TL.joinL [] ps = ps.flatten
  | [] => rfl
  | [p] => by simp [TL.joinL]
  | p :: q :: r => by
    show p ++ ([] ++ TL.joinL [] (q :: r)) = _
    rw [joinL_nil (q :: r)]
    simp
theorem tl_join0 (ys : List Str) : TL.tl (Txt.join "" ys) = (ys.map TL.tl).flatten := by
  rw [TL.join_eq, TL.tl_join, show TL.tl ("" : Str) = [] from rfl, joinL_nil]
theorem join_signs {ys : List Str} (h : ∀ y ∈ ys, y.length = 1 ∧ PyData.strOk y = true) : (Txt.join "" ys).length = ys.length ∧ PyData.strOk (Txt.join "" ys) = true := by
  constructor
  · rw [TL.len_tl, tl_join0]
    induction ys with
    | nil => rfl
    | cons y ys ih =>
      rw [List.map_cons, List.flatten_cons, List.length_append, ih fun z hz => h z (List.mem_cons_of_mem _ hz), ← TL.len_tl, (h y List.mem_cons_self).1, List.length_cons]
      omega
  · rw [strOk_iff, tl_join0]
    intro c hc
    obtain ⟨l, hl, hc⟩ := List.mem_flatten.mp hc
    obtain ⟨y, hy, rfl⟩ := List.mem_map.mp hl
    exact strOk_iff.mp (h y hy).2 c hc
theorem join_room {ys : List Str} (h : ∀ y ∈ ys, y.length = 1 ∧ PyData.strOk y = true) : (ys.map (·.length)).sum + ys.length * ("" : Str).length = ys.length := by
  rw [show ("" : Str).length = 0 from rfl, Nat.mul_zero, Nat.add_zero]
  induction ys with
  | nil => rfl
  | cons y ys ih =>
    rw [List.map_cons, List.sum_cons, ih fun z hz => h z (List.mem_cons_of_mem _ hz), (h y List.mem_cons_self).1, List.length_cons]
    omega
def FText : DF := fun ds m Q _ => ∃ (p : Addr) (n : Int) (o : O), ds = [.ref p, .int n] ∧ m p = some o ∧ IsDraw o ∧ 0 ≤ n ∧ n ≤ 1000 ∧ ∀ (s : Str) o', PyData.strOk s = true → s.length ≤ 1010 → IsDraw o' → Q (.str s) (sput m p o')
theorem FText.len : ∀ ds m Q E, FText ds m Q E → ds.length = (["_law_draw", "_law_most"] : List Str).length := by
  rintro ds m Q E ⟨_, _, _, rfl, _⟩
  rfl
theorem use_text {m : Sto} {Q : D → Sto → Prop} {E : Value → List (Str × D) → Sto → Prop} {p : Addr} {n : Int} {o : O} (hd : IsDraw o) (h1 : 0 ≤ n) (h2 : n ≤ 1000)
    (h : ∀ (s : Str) o', PyData.strOk s = true → s.length ≤ 1010 → IsDraw o' → Q (.str s) (sput m p o')) : FText [.ref p, .int n] (sput m p o) Q E := ⟨p, n, o, rfl, sput_same, hd, h1, h2, fun s o' a b c => by rw [sput_sput]; exact h s o' a b c⟩
def signs : List Str := ["ab ", "abcdefg  .", "x", " ", "AZ az 09 ~!#$"]
theorem signs_ok : ∀ z ∈ signs, (1 ≤ z.length ∧ z.length ≤ 1000) ∧ PyData.strOk z = true := by decide +kernel
theorem ne_of_len {w : Str} (h : (w.length : Int) > 0) : ¬ w = "" := by
  rintro rfl
  have e : ("" : Str).length = 0 := rfl
  omega
theorem len_of_ne {w : Str} (h : (w.length : Int) ≤ 0) : w = "" := by
  refine TL.ext_tl ?_
  have e := TL.len_tl w
  have : (TL.tl w).length = 0 := by omega
  rw [List.length_eq_zero_iff.mp this]
  rfl
def FParts : DF := fun ds m Q _ => ∃ x : Str, ds = [.str x] ∧ x.length ≤ 1000000 ∧ Q (.lst ((wordsL x).map D.str)) m
theorem FParts.len : ∀ ds m Q E, FParts ds m Q E → ds.length = (["_law_text_here"] : List Str).length := by
  rintro ds m Q E ⟨_, rfl, _⟩
  rfl
def FLLines : DF := fun ds m Q _ => ∃ (x : Str) (r : Int) (b : Bool), ds = [.str x, .int r, .bl b] ∧ PyData.strOk x = true ∧ x.length ≤ 1000000 ∧ 1 ≤ r ∧ r < 1000000 ∧ Q (.lst ((setL x r b).map D.str)) m
theorem FLLines.len : ∀ ds m Q E, FLLines ds m Q E → ds.length = (["_law_text_here", "_law_room", "_law_broken"] : List Str).length := by
  rintro ds m Q E ⟨_, _, _, rfl, _⟩
  rfl
theorem step_else {r : Int} {rows : List Str} {w : Str} (h1 : 1 ≤ w.length) (h : rows.isEmpty = true ∨ r < (w.length : Int) ∨ r ≤ ((lastS rows).length : Int) + w.length) : stepW r rows w = rows ++ pieces r w := by
  by_cases hl : (w.length : Int) > r
  · exact step_long hl
  · rw [one_piece h1 (by omega)]
    refine step_new' (by omega) ?_
    rcases h with h | h | h
    · exact .inl h
    · omega
    · exact .inr (by omega)
theorem step_joinL {r : Int} {rows : List Str} {w : Str} (h : rows.isEmpty = false ∧ (w.length : Int) ≤ r ∧ ((lastS rows).length : Int) + w.length < r) : stepW r rows w = rows.set (rows.length - 1) ((lastS rows ++ " ") ++ w) := by
  rw [join_assoc]
  exact step_join' h.2.1 ⟨h.1, by omega⟩
def toldD (x : Str) (r : Int) (b : Bool) : D := if r < 1 then .str "BadSize" else .lst ((setL x r b).map D.str)
def FToldL : DF := fun ds m Q _ => ∃ (x : Str) (r : Int) (b : Bool), ds = [.str x, .int r, .bl b] ∧ PyData.strOk x = true ∧ x.length ≤ 1000000 ∧ r < 1000000 ∧ Q (toldD x r b) m
theorem FToldL.len : ∀ ds m Q E, FToldL ds m Q E → ds.length = (["_law_text_here", "_law_wide", "_law_broken"] : List Str).length := by
  rintro ds m Q E ⟨_, _, _, rfl, _⟩
  rfl
theorem ok_told {x : Str} {r : Int} {b : Bool} (hx : PyData.strOk x = true) : okD 2 (toldD x r b) = true := by
  unfold toldD
  split
  · decide +kernel
  · simpa [okD] using ok_strs 1 _ (set_ok hx)
theorem bl_pair {i : Nat} {d : D} (h : ([.bl true, .bl false] : List D)[i]? = some d) : ∃ b, d = .bl b := by
  match i, h with
  | 0, h => exact ⟨true, (Option.some.inj h).symm⟩
  | 1, h => exact ⟨false, (Option.some.inj h).symm⟩
  | n + 2, h => simp at h
end G

/-! The data layer: sums and least ones of lists of numbers; slices between; signs at the ends. -/
namespace G
open PySem PySem.Spec PyProof.Rows L2
theorem ints_of {K : PySem.W.Frag} {H : Hp} : ∀ {xs : List V} {ns : List Int}, RepL K H xs (ns.map D.int) → xs = ns.map V.int
  | _, [], .nil => rfl
  | _, n :: ns, .cons r t => by
    cases r
    rw [ints_of t]
    rfl
section
variable {C : Ct} {W : DW} {δ : Sl} {m : Sto} {sts : List Stmt} {D : DEn} {Q : G.D → Sto → Prop}
theorem Hd.seqR {K : PySem.W.Frag} {fr : Sto} {H : Hp} {m : Sto} {T : RT} {v : V} {d : G.D} {l : List G.D} (h : Hd K fr H m T) (t : T v d) (e : itemsD d m = some l) : ∃ a xs, v = .ref a ∧ (SqL K H a xs ∨ SqT K H a xs) ∧ RepL K H xs l := by
  obtain ⟨a, xs, rfl, hq, hl, h4⟩ := h.seq t e
  exact ⟨a, xs, rfl, hq, RepL.of_zip hl fun v d z => h4.rep (.inr z)⟩
def sumD : RLD := fun ds m Q => ∃ ns : List Int, ds = [.lst (ns.map G.D.int)] ∧ Q (.int ns.sum) m
theorem cd_sum (hcm : C.cm = true := by rfl) : CallD C (.builtin "sum") sumD := by
  rintro X f fr H m T vs ds Q hl hh ⟨ns, rfl, q⟩
  obtain ⟨v, rfl⟩ := one_of hl
  obtain ⟨a, xs, rfl, hq, r⟩ := hh.repsL (PlL.at (i := 0) (v := v) (d := .lst (ns.map G.D.int)) rfl rfl)
  have e := ints_of r
  subst e
  exact wc_of (cr_sum (f.calm hcm)) ⟨a, ns, rfl, SqL.of hq, dK.le (dk_int hh q) PlL.le⟩
/-- the least of a list that is an object -/
def minM : RLD := fun ds m Q => ∃ (p : Addr) (ns : List Int), ds = [.ref p] ∧ m p = some (.lst (ns.map G.D.int)) ∧ 0 < ns.length ∧ ∀ z, z ∈ ns → (∀ y, y ∈ ns → z ≤ y) → Q (.int z) m
theorem cd_minM (hcm : C.cm = true := by rfl) : CallD C (.builtin "min") minM := by
  rintro X f fr H m T vs ds Q hl hh ⟨p, ns, rfl, hm, h0, q⟩
  obtain ⟨v, rfl⟩ := one_of hl
  have rv := hh.rep (PlL.at (i := 0) (v := v) (d := .ref p) rfl rfl)
  cases rv
  obtain ⟨xs, hq, hxl, h4⟩ := hh.itemsO hm
  have e := ints_of (RepL.of_zip hxl fun v d z => h4.rep (.inr z))
  subst e
  exact wc_of (cr_min (f.calm hcm)) ⟨p, ns, rfl, SqL.of hq, h0, fun z hz hle => dK.le (dk_int hh (q z hz hle)) PlL.le⟩
/-- an object is forgotten behind an expression -/
theorem de_drop {e : Expr} (p : Addr) (h : DE C W e δ m fun d m1 => Q d (sdel m1 p)) : DE C W e δ m Q := fun X S f tk σ H T le sl hh => (h X S f tk σ H T le sl hh).mono fun v H' ⟨d, m', a, b⟩ => ⟨d, sdel m' p, a.drop p, b⟩
theorem drop_tri {p q : Addr} {a b c : O} (h : sput m p a q = none) : sdel (sput (sput (sput m p a) q b) p c) q = sput m p c := by
  have ne : q ≠ p := fun e => by
    subst e
    rw [sput_same] at h
    cases h
  funext x
  unfold sdel
  by_cases hx : x = q
  · subst hx
    rw [if_pos rfl, sput_ne ne]
    rw [sput_ne ne] at h
    exact h.symm
  · rw [if_neg hx]
    unfold sput
    split
    · rfl
    · first | rfl | rw [if_neg hx]
theorem cutL_mid {α : Type} (xs : List α) {a b : Nat} (h : a ≤ b) (h2 : b ≤ xs.length) : cutL xs (some (a : Int)) (some (b : Int)) = (xs.drop a).take (b - a) := by
  unfold cutL
  rw [show HT.sIx xs.length xs.length (some (b : Int)) = min b xs.length from HT.sIx_nat xs.length xs.length b, show HT.sIx xs.length 0 (some (a : Int)) = min a xs.length from HT.sIx_nat xs.length 0 a]
  rw [Nat.min_eq_left h2, Nat.min_eq_left (by omega)]
theorem sg_ne {c d : Nat} (h : c ≠ d) : ¬ (⟨#[c]⟩ : Str) = ⟨#[d]⟩ := fun e => h (by
  have := congrArg TL.tl e
  exact (List.cons.inj (show [c] = [d] from this)).1)
theorem ix_first {z : Str} {c : Nat} (h : (TL.tl z).head? = some c) (h2 : z.length ≤ 1000000) (q : Q (.str ⟨#[c]⟩) m) : ixD (.str z) (.int 0) m Q := by
  have e : z.cps.toList[0]? = some c := by rw [← List.head?_eq_getElem?]; exact h
  exact ⟨c, by have hz := sizeLine_eq; omega, atI_nat (j := 0) e, q⟩
theorem ix_last {z : Str} {c : Nat} (h : (TL.tl z).getLast? = some c) (h2 : z.length ≤ 1000000) (q : Q (.str ⟨#[c]⟩) m) : ixD (.str z) (.int (-1)) m Q :=
  ⟨c, by have hz := sizeLine_eq; omega, atI_neg h, q⟩
end
end G

/-! The data layer: a caught error by its name; calls with several keywords; a text times a number. -/
namespace G
open PySem PySem.Spec PyProof.Rows L2
/-! ### text times number -/
theorem op_mul_str {X : Cx} : OpR X (binaryOp .Mult) (fun x y H Q => ∃ i k, x = .str i ∧ y = .int k ∧ MulOk i k ∧ Q (.str (Txt.mul i k)) H) := by
  intro pins s σ H x y v u Q I rx ry h
  obtain ⟨i, k, rfl, rfl, hz, q⟩ := h
  obtain ⟨t, rfl⟩ := rx
  obtain ⟨t', rfl⟩ := ry
  exact PySem.SB.mul hz fun t' tk => ⟨.str (Txt.mul i k), H, I.tok _, ⟨_, rfl⟩, q⟩
def mulS : R2D := fun x y m Q => ∃ i k, x = .str i ∧ y = .int k ∧ MulOk i k ∧ Q (.str (Txt.mul i k)) m
theorem od_mulS {C : Ct} : OpD C (binaryOp .Mult) mulS := by
  rintro X f fr H m T x y d e Q hh tx ty ⟨i, k, rfl, rfl, hz, q⟩
  have rx := hh.rep tx
  have ry := hh.rep ty
  cases rx
  cases ry
  exact wb_of op_mul_str ⟨_, _, rfl, rfl, hz, dk_str hh q⟩
theorem mulok {z : Str} {k : Int} (h1 : z.length ≤ 1000) (h2 : -5000 ≤ k) (h3 : k ≤ 5000) : MulOk z k := by
  refine ⟨by simp; omega, fun h4 _ => ?_, fun h4 _ => ?_⟩
  · have : (1000 : Int) ≤ (2 ^ 63 - 1) / k := by
      refine (Int.le_ediv_iff_mul_le (by omega)).mpr ?_
      omega
    omega
  · unfold PySem.Builtin.Str.tooLong
    have h5 : z.length * k.toNat ≤ 1000 * 5000 := Nat.mul_le_mul h1 (by omega)
    have hz := sizeLine_eq
    simp
    omega
theorem tl_rep (x : Array Nat) : ∀ (n : Nat) (acc : Array Nat), ((List.replicate n x).foldl (· ++ ·) acc).toList = acc.toList ++ (List.replicate n x.toList).flatten
  | 0, acc => by simp
  | n + 1, acc => by
    rw [List.replicate_succ, List.foldl_cons, tl_rep x n, List.replicate_succ, List.flatten_cons, Array.toList_append, List.append_assoc]
theorem mul_tl (z : Str) (k : Int) : TL.tl (Txt.mul z k) = (List.replicate k.toNat (TL.tl z)).flatten := by
  unfold Txt.mul
  split
  · rename_i h
    rw [show k.toNat = 0 from by omega]
    rfl
  · split
    · rename_i h1 h2
      simp only [Bool.or_eq_true, beq_iff_eq] at h2
      rcases h2 with h2 | h2
      · subst h2
        simp
      · have e := TL.len_tl z
        have : TL.tl z = [] := List.length_eq_zero_iff.mp (by omega)
        rw [this]
        simp
    · show ((List.replicate k.toNat z.cps).foldl (· ++ ·) #[]).toList = _
      rw [tl_rep]
      simp
/-! ### calls with several keywords -/
/-- called with n values and keywords ks; gD: the values in the order of the parameters -/
structure KnG (P : Program) (w : World) (K : PySem.W.Frag) (mg : Str → Option Value) (base : Heap) (x : Str) (k : Nat) (F : DF) (n : Nat) (ks : List Str) (gD : List D → List D → List D) : Prop where
  ex : ∃ f fd ps g gV, FnOk P w K mg base (L2.CX P w) k f fd ps (spD K F) ∧ mg x = some (.ref f) ∧ PySem.W.keepIn K (.ref f) = true ∧ KBn K fd ps n ks g gV ∧ ∀ Hi vs ds zs es, RepL K Hi vs ds → RepL K Hi zs es → ds.length = n → es.length = ks.length → RepL K Hi (gV vs zs) (gD ds es)
section
variable {C : Ct} {W : DW} {δ : Sl} {m : Sto} {a b c e : Expr} {es : List Expr} {pos pos' : Pos} {Q : D → Sto → Prop}
def DKs (C : Ct) (W : DW) (δ : Sl) : List Keyword → Sto → (List D → Sto → Prop) → Prop
  | [], m, Q => Q [] m
  | k :: ks, m, Q => DE C W k.value δ m fun d m1 => DKs C W δ ks m1 fun ds m2 => Q (d :: ds) m2
theorem dks_nil {Q : List D → Sto → Prop} (q : Q [] m) : DKs C W δ [] m Q := q
theorem dks_cons {k : Keyword} {ks : List Keyword} {Q : List D → Sto → Prop} (h : DE C W k.value δ m fun d m1 => DKs C W δ ks m1 fun ds m2 => Q (d :: ds) m2) : DKs C W δ (k :: ks) m Q := h
def pkT (X : Cx) : List Keyword → TA
  | [] => tNil
  | k :: ks => tCons (WE X k.value) (pkT X ks)
theorem pkT_ok {X : Cx} : ∀ ks : List Keyword, PK X ks (pkT X ks)
  | [] => pk_nil
  | ⟨_, _, _⟩ :: ks => pk_cons we (pkT_ok ks)
theorem pkT_run {X : Cx} {S : Fr} (f : Fits C X) (tk : Takes X (liftW C.K W S)) : ∀ (ks : List Keyword) {σ : L2.St} {H : Hp} {m : Sto} {T : RT} {Q : List D → Sto → Prop}, Le S.t T → SlotsIn σ δ T → Hd C.K S.r H m T → DKs C W δ ks m Q →
    pkT X ks σ H fun zs H2 => ∃ es m2, zs.length = es.length ∧ es.length = ks.length ∧ Hd C.K S.r H2 m2 (PlL T zs es) ∧ Q es m2
  | [], σ, H, m, T, Q, le, sl, hh, h => ⟨[], m, rfl, rfl, hh.le fun x y z => z.elim id fun w => by simp at w, h⟩
  | k :: ks, σ, H, m, T, Q, le, sl, hh, h => by
    refine (h X S f tk σ H T le sl hh).mono fun v H1 ⟨d, m1, h1, q⟩ => ?_
    have z := pkT_run f tk ks (T := Pl T v d) (le.trans Pl.le) (sl.le Pl.le) h1 q
    have mono : ∀ (ks : List Keyword) {σ : L2.St} {H : Hp} {Q Q' : List V → Hp → Prop}, (∀ zs H, Q zs H → Q' zs H) → pkT X ks σ H Q → pkT X ks σ H Q' := by
      intro ks
      induction ks with
      | nil => intro σ H Q Q' k h; exact k _ _ h
      | cons a l ih => intro σ H Q Q' k h; exact WE.mono h fun v H' q => ih (fun zs H q => k _ _ q) q
    refine mono ks (fun zs H2 => ?_) z
    rintro ⟨es, m2, hl, hlk, h2, q2⟩
    refine ⟨d :: es, m2, by rw [List.length_cons, List.length_cons, hl], by rw [List.length_cons, List.length_cons, hlk], h2.le fun x y t => ?_, q2⟩
    rcases t with t | t
    · exact .inl (.inl t)
    · rw [List.zip_cons_cons] at t
      rcases List.mem_cons.mp t with t | t
      · cases t
        exact .inl Pl.it
      · exact .inr t
theorem PlL.repOf {K : PySem.W.Frag} {T : RT} {vs zs : List V} {ds es : List D} {Hi : Hp} (hl : vs.length = ds.length) (f : ∀ v d, PlL (PlL T vs ds) zs es v d → Rep K Hi v d) : RepL K Hi vs ds := RepL.of_zip hl fun v d q => f v d (.inl (.inr q))
/-- x(e, .., k = v, ..) -/
theorem de_callG {x : Str} {p : Pos} {k n : Nat} {F : DF} {kws : List Keyword} {ks : List Str} {gD : List D → List D → List D} (kn : KnG C.P C.w C.K C.mg C.base x k F n ks gD) (hk : Nat.ble k C.k = true) (hg : GlC C x)
    (h : DA C W (e :: es) δ m fun ds m1 => ds.length = n ∧ DKs C W δ kws m1 fun es m2 => F (gD ds es) m2 Q fun cls fs m' => W cls fs δ m') (hkl : kws.length = ks.length := by rfl) (hdb : (x == ("__debug__" : Str)) = false := by decide) (hcm : C.cm = true := by rfl)
    (he : ∀ env, starEach (e :: es) env = (false, eval e env) :: starEach es env := by intro _; rfl) (hall : ∀ env, (backToKw pos (keywordEach kws env)).all (·.1.isSome) = true := by intro _; rfl)
    (hks : ∀ env, (backToKw pos (keywordEach kws env)).filterMap (·.1) = ks := by intro _; rfl)
    (hpl : ∀ env, ((backTo pos (starEach (e :: es) env)).any (·.1) || (backToKw pos (keywordEach kws env)).any (·.1.isNone)) = false := by intro _; rfl) : DE C W (.Call (.Name x p) (e :: es) kws pos) δ m Q := by
  intro X S fX tk σ H T le sl hh pins s I
  obtain ⟨f, fd, ps, g, gV, ok, hm, kp, hb, hrep⟩ := kn.ex
  rw [← fX.prog, ← fX.w, ← fX.K, ← fX.mg, ← fX.base] at ok
  rw [← fX.K] at kp hb
  refine wpAny_Call_Name_kw (ld_glob I (fX.gl hg) (by rw [fX.mg]; exact hm) ?_ hdb)
  refine PySem.W.callWith_KW (h₀ := X.base) I.ok.mod.kin kp (hall _) (thn (h X S fX tk σ H T le sl hh pos pins s I) fun us s1 ⟨vs, H1, I1, r, ds, m1, hl, h1, hn, q⟩ => ?_) (hpl _) (he _)
  have lel : Le T (PlL T vs ds) := PlL.le
  refine thn ((pkT_ok kws).run pos pins s1 σ H1 _ I1 (pkT_run fX tk kws (le.trans lel) (sl.le lel) h1 q)) fun ws s2 ⟨zs, H2, I2, rz, es2, m2, hl2, hlk2, h2, q2⟩ => ⟨I2.kIn, ?_⟩
  have hlz : zs.length = ks.length := hl2.trans (hlk2.trans hkl)
  rw [hks]
  refine run_kw (E := L2.WE (liftW C.K W S) σ) (ok.mono (Nat.le_of_ble_eq_true hk)) (fX.room hcm) hb (passAt tk σ) I2 r rz (hl.trans hn) hlz ?_
  have h3 : Hd C.K S.r H2 m2 (PlL T (gV vs zs) (gD ds es2)) := h2.more fun Hi f v d t => by
    rcases t with t | t
    · exact f v d (.inl (.inl t))
    · exact RepL.zip (hrep Hi vs ds zs es2 (PlL.repOf hl f) (RepL.of_zip hl2 fun v d q => f v d (.inr q)) hn (hl2.symm.trans hlz)) v d t
  have len : (gV vs zs).length = (gD ds es2).length := by
    obtain ⟨_, Hi, _, _, h5⟩ := h2
    exact (hrep Hi vs ds zs es2 (PlL.repOf hl h5) (RepL.of_zip hl2 fun v d q => h5 v d (.inr q)) hn (hl2.symm.trans hlz)).length
  have w := spD_at (X := X) (S := S) (σ := σ) (Q := Q) (W := W) (δ := δ) le sl (vs := gV vs zs) (ds := gD ds es2) len h3 q2
  rw [← fX.K] at w ⊢
  exact w
end
end G
/-! isinstance of an error with a dict of its own -/
namespace PySem.W
open PySem PySem.Spec PySem.Calls PyProof.Rows
section
variable {prog : Program} {w : World} {A : Around} {E : Value → Shared → Prop} {s : Shared} {K : Frag} {x D : Addr} {ox : Obj} {oy : Option Obj}
theorem fobj_any {C : Addr} {nm : Str} {a g : Value} (hc : (clsIn K C).isSome = true) (ha : findIn K (.ref C) nm = some (some a)) (hg : specialIn K a "__get__" = some (some g)) (ht : takesIn K a = some true) : findObj K C oy nm = some (.bind g a) := by
  obtain ⟨cd, hc⟩ := Option.isSome_iff_exists.mp hc
  unfold findObj
  rw [hc, Option.bind_some, ha, Option.bind_some]
  simp [hg, ht]
theorem kin_clsF {R : Option Value → Shared → Prop} (ga : findIn K (.ref D) "__getattribute__" = some (some (.builtin "BaseException.__getattribute__"))) (gt : findIn K (.ref D) "__getattr__" = some none) (hs : subIn K (.ref D) (.type "BaseException") = some true)
    (hd : hasDictIn K D = true) (ha : findIn K (.ref D) "__class__" = some (some (.builtin "object.__class__")))
    (gn : specialIn K (.builtin "object.__class__") "__get__" = some (some (.builtin "getset_descriptor.__get__"))) (tk : takesIn K (.builtin "object.__class__") = some true) (mm : mroIn K D (.type "object") = some true)
    (X : K.In s.heap) (I : InstAt s.heap x ox D oy) (h : R (some (.ref D)) { s with toks := s.toks + 1 }) : wpAny (model prog w) A (getAttr? (.ref x) "__class__") R E s := by
  have ff : findObj K D oy "__class__" = some (.bind (.builtin "getset_descriptor.__get__") (.builtin "object.__class__")) := fobj_any (by obtain ⟨cd, hc, _⟩ := any_some hd; rw [hc]; rfl) ha gn tk
  obtain ⟨hpp, g, d, t, os⟩ := s
  have t0 := I.type (M := model prog w)
  have t1 := looks_findIn (M := model prog w) X ga
  have t2 := looks_findIn (M := model prog w) X gt
  have t3 := looks_find (M := model prog w) X I ff
  have sb : Looks (model prog w) hpp (isInstance (.ref x) (.type "BaseException")) true := t0.andThen (looks_subIn X hs)
  have z0 : (false && onTheHeap (Value.builtin "BaseException.__getattribute__")) = false := rfl
  have z2 : (Value.builtin "BaseException.__getattribute__" == Value.builtin "object.__getattribute__") = false := by decide +kernel
  have z1 : (onTheHeap (Value.ref D) && Value.builtin "BaseException.__getattribute__" == Value.builtin "object.__getattribute__") = false := by rw [z2]; rfl
  unfold getAttr? getAttrBy? getAttrBy; refine wpAny_bind (wpAny_mkText (wpAny_bind (wpAny_attempt (wpAny_holding (wpAny_bind (t0.at (wpAny_bind (t1.at ?_))))))))
  show wpAny _ _ (if (onTheHeap (Value.ref D) && Value.builtin "BaseException.__getattribute__" == Value.builtin "object.__getattribute__") = true then _ else _) _ _ _
  rw [z1, if_neg Bool.false_ne_true]
  unfold getAttrByItsOwn hookBefore; refine wpAny_bind ?_
  rw [if_pos (show onTheHeap (Value.ref D) = true from rfl)]
  refine t2.at ?_; refine wpAny_bind (wpAny_attempt (wpAny_holding ?_))
  unfold callGetattribute
  rw [z0, if_neg Bool.false_ne_true]
  unfold boundAndCalled; rw [PySem.F.excAttr_ValueError.ga.bind (.ref x)]
  refine wpAny_bind (wpAny_pure ?_)
  show wpAny _ _ (call (.builtin "BaseException.__getattribute__") [.ref x, .str "__class__" t]) _ _ _
  refine wpAny_call (codeAny_call_builtin PySem.F.excAttr_ValueError.ga.plain PySem.F.entry_bexc_ga ?_)
  refine @check_slot (model prog w) _ _ ⟨hpp, g, d, t + 1, os⟩ "BaseException.__getattribute__" "BaseException" "__getattribute__" (.ref x) [.str "__class__" t] [] _ (by decide +kernel) (by decide +kernel) sb (PySem.F.args_bexc_ga (.ref x) (.str "__class__" t)) ?_
  unfold Builtin.«object.__getattribute__»
  refine wpAny_bind (wpAny_of_eq (a := ((Value.ref x : Value), [Value.str "__class__" t])) (by first | rfl | (simp only [slotArgs]; rfl)) ?_)
  refine wpAny_bind (wpAny_pure (wpAny_bind (t0.at (wpAny_bind (t3.at ?_)))))
  show wpAny _ _ (holding [Value.builtin "object.__class__"] (call (.builtin "getset_descriptor.__get__") [.builtin "object.__class__", .ref x, .ref D]) >>= ret) _ _ _
  refine wpAny_bind (wpAny_holding (wpAny_call (class_get (s := ⟨hpp, g, d, t + 1, os⟩) (ox := ox) (od := oy) X I mm ?_)))
  refine wpAny_pure ?_
  show wpAny _ _ (handedOut (.ref D)) _ _ _
  rw [handedOut_of (v := .ref D) rfl]
  first
    | exact wpAny_pure (wpAny_pure h)
    | exact wpAny_pure h
    | exact wpAny_pure (wpAny_bind (wpAny_pure (wpAny_pure h)))
theorem kitx_excF (ga : findIn K (.ref D) "__getattribute__" = some (some (.builtin "BaseException.__getattribute__"))) (gt : findIn K (.ref D) "__getattr__" = some none) (hs : subIn K (.ref D) (.type "BaseException") = some true) (hd : hasDictIn K D = true) (ha : findIn K (.ref D) "__class__" = some (some (.builtin "object.__class__")))
    (gn : specialIn K (.builtin "object.__class__") "__get__" = some (some (.builtin "getset_descriptor.__get__"))) (tk : takesIn K (.builtin "object.__class__") = some true) (mm : mroIn K D (.type "object") = some true) :
    KitX K (.ref x) (.ref D) (fun h => InstAt h x ox D oy) where
  ty := fun _ _ _ I => I.type
  it := fun _ _ X _ => by
    obtain ⟨cc, hcc, _⟩ := any_some hd
    unfold clsIn at hcc
    split at hcc
    · rename_i c' d' cd' sl' hoo
      intro A' R' E' s' k q
      unfold isType loadHead
      exact wpAny_bind (wpAny_loadPart (k _ _ (X _ _ hoo)) (wpAny_pure q))
    · cases hcc
  ne := fun h tp dd its n sl X htp => by
    obtain ⟨cc, hcc, _⟩ := any_some hd
    refine Bool.eq_false_iff.mpr fun q => ?_
    have e : D = tp := Value.ref.inj (beq_iff_eq.mp q)
    subst e
    unfold clsIn at hcc
    split at hcc
    · rename_i c' d' cd' sl' hoo
      have z := (X _ _ hoo).symm.trans htp
      cases z
    · cases hcc
  ca := fun X I k => kin_clsF ga gt hs hd ha gn tk mm X I k
end
end PySem.W
namespace G
open PySem PySem.Spec PyProof.Rows L2
/-! ### except X as n -/
def Ct.hotE (C : Ct) (a cA : Addr) : Ct := { C with cm := false, ex := some (a, cA, none) }
/-- .. with fields -/
def Ct.hotF (C : Ct) (a cA : Addr) (d : Option Addr) : Ct := { C with cm := false, ex := some (a, cA, d) }
section
variable {C : Ct} {W : DW} {δ : Sl} {m : Sto} {a b c e : Expr} {es : List Expr} {pos pos' np : Pos} {Q : D → Sto → Prop} {D : DEn}
/-- what an end is behind the suite: the name is gone -/
def DEn.un (D : DEn) (i : Nat) : DEn := { nx := fun δ m => D.nx (δ.set i none) m, rt := D.rt, bk := fun δ m => D.bk (δ.set i none) m, ct := fun δ m => D.ct (δ.set i none) m }
theorem ds_tryAs (i : Nat) {x n : Str} {body suite : List Stmt} {b₀ : Stmt} {u : Value} (hN : C.N[i]? = some n) (hl : C.sc.names.lookup n = some .local) (hm : C.mg x = some u) (hg : GlC C x)
    (h : DSs C (fun cls fs δ' m' => ∃ cA b, cls = .ref cA ∧ fs = [] ∧ PySem.W.exmOne C.K cls u = some b ∧ (b = true → ExcC C.K cA ∧ ∀ a, DSs (C.hotE a cA) W0 (b₀ :: suite) (δ'.set i (some (.ref a))) m' (D.un i)) ∧ (b = false → W cls fs δ' m')) body δ m D)
    (hdb : (x == ("__debug__" : Str)) = false := by decide) (htr : C.tr = true := by rfl) (hex : C.ex = none := by rfl) (hfk : C.sc.kind = .function := by rfl) : DS C W (.Try body [.ExceptHandler (some (.Name x np)) (some n) (b₀ :: suite) pos'] [] [] pos) δ m D := by
  intro X S f tk σ H T le sl hh
  refine WS.of (L2.ps_try_as (c := u) (i := i)
    (tb := fun W' D' σ H => ∀ (pn : List (Addr × Obj)) (xe : Value → Shared → Prop), Takes (X.tr pn xe) W' → PassesOwn (model X.prog X.w) X.A X.env xe → WSs (X.tr pn xe) body D' σ H)
    (ts := fun a cls d D' σ H => ∀ (oe : Obj) (pn : List (Addr × Obj)), Zc cls d oe → (∃ vs, oe.data = .fields vs) → WSs (X.suite a ((a, oe) :: pn)) (b₀ :: suite) D' σ H)
    (f.tr htr).1 (f.tr htr).2 f.nd (by rw [f.N]; exact hN) (by show X.env.scope.names.lookup n = _; rw [f.sc]; exact hl) ⟨f.gl hg, hdb, .inl (by rw [f.mg]; exact hm)⟩ tk
    (fun W' pn xe t p => ⟨fun pins s σ H D I r => r pn xe t p pins s I⟩) (fun a oe cls d pn hz hv => ⟨fun pins s σ H D I r => r oe pn hz hv pins s I⟩)) ?_
  intro pn xe tk' po
  have fit : Fits C (X.tr pn xe) := ⟨f.prog, f.w, f.K, f.mg, f.base, f.N, f.sc, f.fn, f.nd, f.un, f.room, f.calm, po, f.tr, (fun _ _ _ e => by rw [hex] at e; cases e), f.rh⟩
  refine h (X.tr pn xe) S fit (tk'.imp ?_) σ H T le sl hh
  rintro cls d σ' H' ⟨δ', m', T', fs, le', sl', hh', xd, cA, k', rfl, rfl, hk', h1, h2⟩
  refine ⟨k', by rw [f.K]; exact hk', fun e a ha oe pn2 hz hv => ?_, fun e => ⟨δ', m', T', [], le', sl', hh', xd, h2 e⟩⟩
  obtain ⟨hc, h3⟩ := h1 e
  have hd : d = none := by
    rcases xd with ⟨e, _⟩ | ⟨_, _, q, _⟩
    · exact e
    · exact absurd rfl q
  subst hd
  have fit2 : Fits (C.hotE a cA) (X.suite a ((a, oe) :: pn2)) := ⟨f.prog, f.w, f.K, f.mg, f.base, f.N, f.sc, f.fn, f.nd, f.un, (fun z => nomatch z), (fun z => nomatch z), PassesOwn.never, f.tr, (fun a' D' d' e => by
    cases e
    exact ⟨by show ExcC X.K cA; rw [f.K]; exact hc, oe, List.mem_cons_self, hz, hv⟩), ⟨f.rh.dp, f.rh.un⟩⟩
  have hh2 : Hd C.K S.r H' m' (Pl T' (.ref a) (.ref a)) := hh'.pl fun _ _ => .ref a
  refine WSs.mono (h3 a (X.suite a ((a, oe) :: pn2)) S fit2 takes_W0 (σ'.set i (some (.ref a))) H' _ (le'.trans Pl.le) ((sl'.le Pl.le).set Pl.it) hh2) ?_ (fun _ _ q => q) ?_ ?_
  all_goals
    rintro σ2 H2 ⟨δ2, m2, T2, l2, s2, hd2, q2⟩
    exact ⟨δ2.set i none, m2, T2, l2, s2.unset, hd2, q2⟩
/-- isinstance of the error in hand -/
def isiE (C : Ct) : RLD := fun ds m Q => ∃ a cA d0 d b, C.ex = some (a, cA, d0) ∧ (d0 = none ∧ d = .ref a ∨ ∃ dd ks es, d0 = some dd ∧ d = .dit (.exc a dd ks) es) ∧ ((∃ k, ds = [d, .ref k] ∧ PySem.W.kitOne C.K (.ref cA) (.ref k) = some b) ∨ ∃ n, ds = [d, .ty n] ∧ PySem.W.kitOne C.K (.ref cA) (.type n) = some b) ∧ Q (.bl b) m
/-- isinstance of an object that stays -/
theorem raw_isE {X : Cx} {a D : Addr} {d : Option Addr} (F : ExF X a D d) : CallR X (.builtin "isinstance") fun xs H Q => ∃ (c : V) (cv : Value) (b : Bool), xs = [.ref a, c] ∧ (∀ u, RelV c u → u = cv) ∧ PySem.W.kitOne X.K (.ref D) cv = some b ∧ (∀ dd, d = some dd → ∃ ws, H dd = some (.xd ws)) ∧ Q (.bl b) H := by
  obtain ⟨hc, oe, hin, hz, vs, hv⟩ := F
  intro pins s σ H xs us Q I r h
  obtain ⟨c, cv, b, rfl, hcv, hk, hd, q⟩ := h
  obtain ⟨u1, u2, rfl, ra, rb⟩ := vals2 r
  cases ra
  have e2 := hcv _ rb
  subst e2
  obtain ⟨hget, _⟩ := I.pin (a, oe) (List.mem_append.mpr (.inl hin))
  have J : ∃ od, PySem.W.InstAt s.heap a oe D od := by
    obtain ⟨oc, odd, oda, osl⟩ := oe
    obtain ⟨h1, h2⟩ := hz
    dsimp only at h1 h2 hv
    subst h1 h2 hv
    cases odd with
    | none => exact ⟨none, hget, rfl, rfl, trivial⟩
    | some dd =>
      obtain ⟨ws, hw⟩ := hd dd rfl
      obtain ⟨mA, hns, _⟩ : ObjOk X.prog X.w H s.heap dd (.xd ws) := I.hok dd _ hw
      obtain ⟨od, ho, _⟩ := lookIn_ns hns
      exact ⟨some od, hget, rfl, rfl, ho⟩
  obtain ⟨od, J⟩ := J
  exact PySem.W.kia_one (PySem.W.kitx_excF hc.hg hc.hk hc.hs hc.hd hc.ha hc.hn hc.ht hc.hm) I.kIn J hk (fun z => nomatch z) fun tk => ⟨.bl b, H, I.kept (t' := tk) fun _ _ z => z, rfl, q⟩
theorem excV_rep {K : PySem.W.Frag} {H : Hp} {v : V} {a : Addr} {d0 : Option Addr} {d : G.D} (hd : d0 = none ∧ d = .ref a ∨ ∃ dd ks es, d0 = some dd ∧ d = .dit (.exc a dd ks) es) (r : Rep K H v d) : v = .ref a ∧ ∀ dd, d0 = some dd → ∃ ws, H dd = some (.xd ws) := by
  rcases hd with ⟨rfl, rfl⟩ | ⟨dd, ks, es, rfl, rfl⟩
  · cases r
    exact ⟨rfl, fun _ e => nomatch e⟩
  · cases r with
    | exc h1 h2 h3 => exact ⟨rfl, fun _ e => by cases e; exact ⟨_, h1⟩⟩
theorem cd_isiE : CallD C (.builtin "isinstance") (isiE C) := by
  rintro X f fr H m T vs ds Q hl hh ⟨a, cA, d0, d, b, he, hd, h, q⟩
  rcases h with ⟨k, rfl, hk⟩ | ⟨n, rfl, hk⟩
  · obtain ⟨v, u, rfl⟩ := two_of hl
    have r1 := hh.rep (PlL.at (i := 0) (v := v) (d := d) rfl rfl)
    have r2 := hh.rep (PlL.at (i := 1) (v := u) (d := .ref k) rfl rfl)
    obtain ⟨rfl, hx⟩ := excV_rep hd r1
    cases r2
    exact wc_of (raw_isE (f.ex a cA d0 he)) ⟨.ref k, .ref k, b, rfl, fun u r => by cases r; rfl, by rw [f.K]; exact hk, hx, dK.le (dk_bl hh q) PlL.le⟩
  · obtain ⟨v, u, rfl⟩ := two_of hl
    have r1 := hh.rep (PlL.at (i := 0) (v := v) (d := d) rfl rfl)
    have r2 := hh.rep (PlL.at (i := 1) (v := u) (d := .ty n) rfl rfl)
    obtain ⟨rfl, hx⟩ := excV_rep hd r1
    cases r2
    exact wc_of (raw_isE (f.ex a cA d0 he)) ⟨.ty n, .type n, b, rfl, fun u r => by cases r; rfl, by rw [f.K]; exact hk, hx, dK.le (dk_bl hh q) PlL.le⟩
theorem isiE_r {a cA k : Addr} {b : Bool} (he : C.ex = some (a, cA, none)) (h : PySem.W.kitOne C.K (.ref cA) (.ref k) = some b) (q : Q (.bl b) m) : isiE C [.ref a, .ref k] m Q := ⟨a, cA, none, _, b, he, .inl ⟨rfl, rfl⟩, .inl ⟨k, rfl, h⟩, q⟩
theorem isiE_t {a cA : Addr} {n : String} {b : Bool} (he : C.ex = some (a, cA, none)) (h : PySem.W.kitOne C.K (.ref cA) (.type n) = some b) (q : Q (.bl b) m) : isiE C [.ref a, .ty n] m Q := ⟨a, cA, none, _, b, he, .inl ⟨rfl, rfl⟩, .inr ⟨n, rfl, h⟩, q⟩
/-- what stands for an error in hand -/
def excV (a : Addr) (d : Option Addr) (fs : List (Str × G.D)) : G.D := match d with
  | none => .ref a
  | some dd => .dit (.exc a dd (fs.map (·.1))) (fs.map (·.2))
theorem isiE_v {a cA k : Addr} {d : Option Addr} {fs : List (Str × G.D)} {b : Bool} (he : C.ex = some (a, cA, d)) (h : PySem.W.kitOne C.K (.ref cA) (.ref k) = some b) (q : Q (.bl b) m) : isiE C [excV a d fs, .ref k] m Q := by
  refine ⟨a, cA, d, _, b, he, ?_, .inl ⟨k, rfl, h⟩, q⟩
  cases d with
  | none => exact .inl ⟨rfl, rfl⟩
  | some dd => exact .inr ⟨dd, _, _, rfl, rfl⟩
/-- a name of the program's top: an object -/
theorem de_gref {x : Str} {c : Addr} (hm : C.mg x = some (.ref c)) (hg : GlC C x) (q : Q (.ref c) m) (hdb : (x == ("__debug__" : Str)) = false := by decide) : DE C W (.Name x pos) δ m Q := de_glob hg hm (v := .ref c) rfl (fun H => .ref c) q hdb
end
end G
namespace G
open PySem PySem.Spec PyProof.Rows L2
/-! ### values in the order of the parameters -/
def pickL {α : Type} (ix : List Nat) (l : List α) : List α := ix.filterMap fun i => l[i]?
theorem paired_get {α β : Type} {F : α → β → Prop} : ∀ {l : List α} {k : List β} (i : Nat), Paired F l k → (l[i]? = none ∧ k[i]? = none) ∨ ∃ a b, l[i]? = some a ∧ k[i]? = some b ∧ F a b
  | _, _, i, .nil => .inl ⟨by simp, by simp⟩
  | _, _, 0, .cons r _ => .inr ⟨_, _, rfl, rfl, r⟩
  | _, _, i + 1, .cons _ t => by simpa using paired_get i t
theorem pickL_vals : ∀ (ix : List Nat) {vs : List V} {us : List Value}, Vals vs us → Vals (pickL ix vs) (pickL ix us)
  | [], _, _, _ => .nil
  | i :: ix, vs, us, h => by
    have ih := pickL_vals ix h
    unfold pickL at ih ⊢
    rcases paired_get i h with ⟨e1, e2⟩ | ⟨a, b, e1, e2, r⟩
    · rw [List.filterMap_cons_none e1, List.filterMap_cons_none e2]
      exact ih
    · rw [List.filterMap_cons_some e1, List.filterMap_cons_some e2]
      exact .cons r ih
theorem pickL_rep {K : PySem.W.Frag} {H : Hp} : ∀ (ix : List Nat) {vs : List V} {ds : List D}, RepL K H vs ds → RepL K H (pickL ix vs) (pickL ix ds)
  | [], _, _, _ => .nil
  | i :: ix, vs, ds, h => by
    have ih := pickL_rep ix h
    unfold pickL at ih ⊢
    cases e : vs[i]? with
    | none =>
      have e2 : ds[i]? = none := by
        have := List.getElem?_eq_none_iff.mp e
        exact List.getElem?_eq_none_iff.mpr (by rw [← h.length]; exact this)
      rw [List.filterMap_cons_none e, List.filterMap_cons_none e2]
      exact ih
    | some v =>
      obtain ⟨d, e2, r⟩ := h.getV e
      rw [List.filterMap_cons_some e, List.filterMap_cons_some e2]
      exact .cons r ih
theorem KnG.of {P : Program} {w : World} {K : PySem.W.Frag} {mg : Str → Option Value} {base : Heap} {x : Str} {k n : Nat} {F : DF} {f : Addr} {fd : FuncData} {ps ks : List Str} {ix : List Nat} {mv : List Value} {dvs : List V} {dds : List D}
    (ok : FnOk P w K mg base (L2.CX P w) k f fd ps (spD K F)) (g : mg x = some (.ref f)) (kp : PySem.W.keepIn K (.ref f) = true) (hb : KBn K fd ps n ks (fun us ws => pickL ix (us ++ ws ++ mv)) (fun vs zs => pickL ix (vs ++ zs ++ dvs))) (hd : ∀ Hi, RepL K Hi dvs dds) :
    KnG P w K mg base x k F n ks (fun us zs => pickL ix (us ++ zs ++ dds)) :=
  ⟨f, fd, ps, _, _, ok, g, kp, hb, fun Hi vs ds zs es r1 r2 _ _ => pickL_rep ix ((r1.append r2).append (hd Hi))⟩
end G

/-! The data layer: instances: fields, methods, making. -/
namespace G
open PySem PySem.Spec PyProof.Rows L2
/-! ### fields by name -/
theorem lookup_rep {K : PySem.W.Frag} {H : Hp} : ∀ {fs : List (Str × V)} {gs : List (Str × D)}, fs.map (·.1) = gs.map (·.1) → RepL K H (fs.map (·.2)) (gs.map (·.2)) → ∀ {f : Str} {d : D}, gs.lookup f = some d → ∃ v, fs.lookup f = some v ∧ (v, d) ∈ (fs.map (·.2)).zip (gs.map (·.2))
  | [], [], _, _, f, d, h => by cases h
  | [], _ :: _, e, _, _, _, _ => by simp at e
  | _ :: _, [], e, _, _, _, _ => by simp at e
  | (x, v) :: fs, (y, z) :: gs, e, r, f, d, h => by
    simp only [List.map_cons, List.cons.injEq] at e
    obtain ⟨e1, e2⟩ := e
    subst e1
    cases r with
    | cons r1 r2 =>
      by_cases hf : f == x
      · rw [List.lookup_cons, hf] at h ⊢
        cases h
        exact ⟨v, rfl, by simp⟩
      · rw [List.lookup_cons, Bool.eq_false_iff.mpr hf] at h ⊢
        obtain ⟨v', h1, h2⟩ := lookup_rep e2 r2 h
        exact ⟨v', h1, by rw [List.map_cons, List.map_cons, List.zip_cons_cons]; exact List.mem_cons_of_mem _ h2⟩
theorem lookup_none : ∀ {α β : Type} {fs : List (Str × α)} {gs : List (Str × β)}, fs.map (·.1) = gs.map (·.1) → ∀ {f : Str}, gs.lookup f = none → fs.lookup f = none
  | _, _, [], [], _, f, h => rfl
  | _, _, [], _ :: _, e, _, _ => by simp at e
  | _, _, _ :: _, [], e, _, _ => by simp at e
  | _, _, (x, v) :: fs, (y, z) :: gs, e, f, h => by
    simp only [List.map_cons, List.cons.injEq] at e
    obtain ⟨e1, e2⟩ := e
    subst e1
    by_cases hf : f == x
    · rw [List.lookup_cons, hf] at h
      cases h
    · rw [List.lookup_cons, Bool.eq_false_iff.mpr hf] at h ⊢
      exact lookup_none e2 h
def putD (f : Str) (v : D) : List (Str × D) → List (Str × D)
  | [] => [(f, v)]
  | (g, x) :: r => if g = f then (g, v) :: r else (g, x) :: putD f v r
theorem putD_rep {K : PySem.W.Frag} {H : Hp} {f : Str} {v : V} {d : D} (rv : Rep K H v d) : ∀ {fs : List (Str × V)} {gs : List (Str × D)}, fs.map (·.1) = gs.map (·.1) → RepL K H (fs.map (·.2)) (gs.map (·.2)) →
    (putF f v fs).map (·.1) = (putD f d gs).map (·.1) ∧ RepL K H ((putF f v fs).map (·.2)) ((putD f d gs).map (·.2))
  | [], [], _, _ => ⟨rfl, .cons rv .nil⟩
  | [], _ :: _, e, _ => by simp at e
  | _ :: _, [], e, _ => by simp at e
  | (x, u) :: fs, (y, z) :: gs, e, r => by
    simp only [List.map_cons, List.cons.injEq] at e
    obtain ⟨e1, e2⟩ := e
    subst e1
    cases r with
    | cons r1 r2 =>
      unfold putF putD
      by_cases hf : x = f
      · rw [if_pos hf, if_pos hf]
        exact ⟨by simp [e2], .cons rv r2⟩
      · rw [if_neg hf, if_neg hf]
        obtain ⟨h1, h2⟩ := putD_rep rv e2 r2
        exact ⟨by simp [h1], .cons r1 h2⟩
section
variable {K : PySem.W.Frag} {r : Sto} {H : Hp} {m : Sto} {T : RT} {a p : Addr}
/-- an instance of the store -/
theorem Hd.insO {cA : Addr} {gs : List (Str × D)} (h : Hd K r H m T) (t : m a = some (.ins cA gs)) : ∃ dx fs, H a = some (.ins cA dx fs) ∧ fs.map (·.1) = gs.map (·.1) ∧ (fs.map (·.2)).length = (gs.map (·.2)).length ∧ Hd K r H m (PlL T (fs.map (·.2)) (gs.map (·.2))) := by
  obtain ⟨h0, Hi, h1, h2, h3⟩ := h
  obtain ⟨q0, u, q, r⟩ := h2 _ _ (sun_l t)
  cases u with
  | ins C dx fs =>
    obtain ⟨e1, e2, e3⟩ := r
    subst e1
    exact ⟨dx, fs, q, e2, e3.length, h0, Hi, h1, h2, fun v d x => x.elim (h3 v d) fun hm => RepL.mem_zip e3 hm⟩
  | _ => exact False.elim r
theorem Hd.grow {u : HO} (h : Hd K r H m T) (hp : H p = none) : Hd K r (upd H p u) m T := by
  obtain ⟨h0, Hi, h1, h2, h3⟩ := h
  refine ⟨h0, Hi, fun b o e => (same_upd hp) _ _ (h1 b o e), fun a o e => ?_, h3⟩
  obtain ⟨q1, u', q2, q3⟩ := h2 a o e
  have ha : a ≠ p := fun z => by subst z; rw [hp] at q2; cases q2
  exact ⟨q1, u', by rw [upd_ne ha]; exact q2, q3⟩
end
/-- a method -/
structure KnM (P : Program) (w : World) (K : PySem.W.Frag) (mg : Str → Option Value) (base : Heap) (cA : Addr) (x : Str) (k : Nat) (F : DF) : Prop where
  ex : ∃ f fd ps, FnOk P w K mg base (L2.CX P w) k f fd ps (spD K F) ∧ Meth K cA x f ∧ Binds K fd ps []
/-- making: n values, keywords ks -/
structure KnI (P : Program) (w : World) (K : PySem.W.Frag) (mg : Str → Option Value) (base : Heap) (x : Str) (cA : Addr) (k : Nat) (F : DF) (n : Nat) (ks : List Str) (gD : List D → List D → List D) : Prop where
  ex : ∃ f fd ps g gV, Mk K cA f ∧ mg x = some (.ref cA) ∧ FnOk P w K mg base (L2.CX P w) k f fd ps (spD K F) ∧ KBn K fd ps (n + 1) ks g gV ∧ ∀ Hi vs ds zs es, RepL K Hi vs ds → RepL K Hi zs es → RepL K Hi (gV vs zs) (gD ds es)
theorem KnI.of {P : Program} {w : World} {K : PySem.W.Frag} {mg : Str → Option Value} {base : Heap} {x : Str} {cA : Addr} {k n : Nat} {F : DF} {f : Addr} {fd : FuncData} {ps ks : List Str} {ix : List Nat} {mv : List Value} {dvs : List V} {dds : List D}
    (M : Mk K cA f) (g : mg x = some (.ref cA)) (ok : FnOk P w K mg base (L2.CX P w) k f fd ps (spD K F)) (hb : KBn K fd ps (n + 1) ks (fun us ws => pickL ix (us ++ ws ++ mv)) (fun vs zs => pickL ix (vs ++ zs ++ dvs))) (hd : ∀ Hi, RepL K Hi dvs dds) :
    KnI P w K mg base x cA k F n ks (fun us zs => pickL ix (us ++ zs ++ dds)) :=
  ⟨f, fd, ps, _, _, M, g, ok, hb, fun Hi vs ds zs es r1 r2 => pickL_rep ix ((r1.append r2).append (hd Hi))⟩
theorem run_makeS {X : Cx} {CX : CXT} {k n : Nat} {f C : Addr} {fd : FuncData} {ps ks : List Str} {sp : Sp} {E : XK} {g : List Value → List Value → List Value} {gV : List V → List V → List V} {pins : List (Addr × Obj)} {σ : L2.St} {H : Hp} {s : Shared} {Q : VK} {us ws : List Value} {vs zs : List V}
    (M : Mk X.K C f) (F : FnOk X.prog X.w X.K X.mg X.base CX k f fd ps sp) (hr : Room (k + 1) X.A) (hb : KBn X.K fd ps (n + 1) ks g gV) (hx : PassesAt CX X σ E)
    (I : Inv X pins σ H s) (r : Vals vs us) (rz : Vals zs ws) (l1 : vs.length = n) (l2 : zs.length = ks.length)
    (h : ∀ x dx, H x = none → H dx = none → dx ≠ x → sp (gV (.ref x :: vs) zs) (upd (upd H dx (.own x)) x (.ins C dx [])) (fun v H2 => v = .non ∧ Q (.ref x) H2) E) :
    wpAny (model X.prog X.w) X.A (call (.ref C) us (ks.zip ws)) (EP X pins σ Q) X.xe s := by
  have hq := h (s.heap.objs.size + 1) s.heap.objs.size (I.hok.fresh (Nat.le_succ _)) (I.hok.fresh (Nat.le_refl _)) (Nat.ne_of_lt (Nat.lt_succ_self _))
  have I2 := Inv.made (C := C) I
  have r1 : Vals (V.ref (s.heap.objs.size + 1) :: vs) (Value.ref (s.heap.objs.size + 1) :: us) := .cons rfl r
  have r2 := hb.rel r1 rz
  have n1 : (Value.ref (s.heap.objs.size + 1) :: us).length = n + 1 := by
    rw [List.length_cons, ← r.length, l1]
  refine wpAny_call (make_map (f := f) I.kIn M.makes M.init (beq_iff_eq.mp M.fn) (codeAny_mono (F.run _ X.stack _ _ ⟨Value.ref (s.heap.objs.size + 1) :: us, ks.zip ws⟩ (g (Value.ref (s.heap.objs.size + 1) :: us) ws) _ _ E (hr.make C us (ks.zip ws))
    (I2.env0.make C us (ks.zip ws)) (hb.to _ (Value.ref (s.heap.objs.size + 1) :: us) ws I2.kIn n1 (rz.length.symm.trans l2)) r2 hq) fun r s' hq' => ?_))
  cases r with
  | error e => exact hx pins _ _ e s' I2 hq'
  | ok fl =>
    cases fl with
    | ret u =>
      obtain ⟨v, H', I3, rv, ev, q3⟩ := I2.after hq'
      subst ev
      exact ⟨rv, ⟨V.ref (s.heap.objs.size + 1), H', I3, rfl, q3⟩⟩
    | next => exact False.elim hq'
    | brk => exact False.elim hq'
    | cont => exact False.elim hq'
section
variable {C : Ct} {W : DW} {δ : Sl} {m : Sto} {a b c e o : Expr} {es : List Expr} {pos pos' apos : Pos} {Q : D → Sto → Prop} {D : DEn} {cA : Addr} {f x : Str}
/-- o.f -/
theorem de_fld (h : DE C W o δ m fun d m1 => ∃ a cA fs v, d = .ref a ∧ m1 a = some (.ins cA fs) ∧ Cls C.K cA ∧ NoAttr C.K cA f ∧ fs.lookup f = some v ∧ Q v m1) (hb : ∀ env, attributeBase o f env (eval o env) = eval o env := by intro _; rfl) :
    DE C W (.Attribute o f pos) δ m Q := by
  intro X S fx tk σ H T le sl hh
  refine WE.of (pe_fld we (hb _)) ((h X S fx tk σ H T le sl hh).mono fun v H1 ⟨d, m1, h1, a, cA, fs, x, ed, hm, c, n, l, q⟩ => ?_)
  subst ed
  have r := h1.rep Pl.it
  cases r
  obtain ⟨dx, gs, hu, hn, hl, h2⟩ := h1.insO hm
  obtain ⟨v', e1, e2⟩ := lookup_rep hn (RepL.of_zip hl fun v d z => h2.rep (.inr z)) l
  refine ⟨a, cA, dx, gs, v', rfl, hu, by rw [fx.K]; exact c, by rw [fx.K]; exact n, e1, x, m1, ?_, q⟩
  exact h2.le fun y z t => by
    rcases t with t | ⟨rfl, rfl⟩
    · exact .inl (.inl t)
    · exact .inr e2
/-- o.f = e -/
theorem ds_fld (h : DE C W e δ m fun d m1 => DE C W o δ m1 fun x m2 => ∃ a cA fs, x = .ref a ∧ m2 a = some (.ins cA fs) ∧ Cls C.K cA ∧ NoAttr C.K cA f ∧ fs.length < 1000 ∧ D.nx δ (sput m2 a (.ins cA (putD f d fs))))
    (hs : ∀ env, swapsWith e (some (.Attribute o f pos')) pos.line env = pure false := by intro _; rfl) : DS C W (.Assign [.Attribute o f pos'] e pos) δ m D := by
  intro X S fx tk σ H T le sl hh
  refine WS.of (ps_fld we we (hs _)) ((h X S fx tk σ H T le sl hh).mono fun v H1 ⟨d, m1, h1, q⟩ => ?_)
  refine (q X S fx tk σ H1 _ (le.trans Pl.le) (sl.le Pl.le) h1).mono fun u H2 ⟨x, m2, h2, a, cA, fs, ex, hm, c, n, l, q2⟩ => ?_
  subst ex
  have r := h2.rep Pl.it
  cases r
  obtain ⟨dx, gs, hu, hn, hl, _⟩ := h2.insO hm
  have hlen : gs.length = fs.length := by simpa using hl
  refine ⟨a, cA, dx, gs, rfl, hu, by rw [fx.K]; exact c, by rw [fx.K]; exact n, by rw [hlen]; exact l, ?_⟩
  have h4 := h2.mut (u' := .ins cA dx (putF f v gs)) (o' := .ins cA (putD f d fs)) hm hu fun Hi r kk => ⟨rfl, putD_rep (kk v d (.inl Pl.it)) r.2.1 r.2.2⟩
  exact lift_nx (le.trans (Pl.le.trans Pl.le)) (sl.le (Pl.le.trans Pl.le)) h4 q2
/-- o.m(e, ..) -/
theorem de_meth {k : Nat} {F : DF} {pl : Env → Sem Bool} (kn : KnM C.P C.w C.K C.mg C.base cA x k F) (hc : Cls C.K cA) (hk : Nat.ble k C.k = true)
    (h : DE C W o δ m fun d m1 => ∃ a fs, d = .ref a ∧ m1 a = some (.ins cA fs) ∧ fs.lookup x = none ∧ DA C W (e :: es) δ m1 fun ds m2 => F (.ref a :: ds) m2 Q fun cls fs m' => W cls fs δ m') (hcm : C.cm = true := by rfl)
    (he : ∀ env, starEach (e :: es) env = (false, eval e env) :: starEach es env := by intro _; rfl) (hpl : ∀ env, (backTo pos (starEach es env)).any (·.1) = false := by intro _; rfl)
    (ht : ∀ env, eval (.Call (.Attribute o x apos) (e :: es) [] pos) env = (do
      let ov ← eval o env
      standAt apos.atName
      let (f, first) ← holding [ov] (getMethod ov x (pl env))
      callWith pos f first (backTo pos (starEach (e :: es) env)) (backToKw pos (keywordEach [] env))) := by intro _; rfl) : DE C W (.Call (.Attribute o x apos) (e :: es) [] pos) δ m Q := by
  intro X S fX tk σ H T le sl hh pins s I
  obtain ⟨f, fd, ps, ok, hm, hb⟩ := kn.ex
  rw [← fX.prog, ← fX.w, ← fX.K, ← fX.mg, ← fX.base] at ok
  rw [← fX.K] at hm hb hc
  refine PySem.W.methodCall_KW (pl := pl X.env) (thn (h X S fX tk σ H T le sl hh pins s I) fun u s1 ⟨v, H1, I1, rx, d, m1, h1, a, fs, ed, hma, hln, q⟩ => ?_) (ht _)
  subst ed
  have r := h1.rep Pl.it
  cases r
  obtain rfl : u = Value.ref a := rx
  obtain ⟨dx, gs, hu, hn, hl, _⟩ := h1.insO hma
  refine getmeth_ok I1 hu hc hm (lookup_none hn hln) ?_
  refine PySem.W.callWith_K (first := [.ref a]) (h₀ := X.base) I.ok.mod.kin hm.kp (thn (q X S fX tk σ H1 _ (le.trans Pl.le) (sl.le Pl.le) h1 pos pins s1 I1) fun us s2 ⟨vs, H2, I2, r, ds, m2, hl2, h2, q2⟩ => ⟨I2.kIn, ?_⟩) (he _) (hpl _)
  refine run_fnS (us := .ref a :: us) (vs := .ref a :: vs) (E := L2.WE (liftW C.K W S)) (ok.mono (Nat.le_of_ble_eq_true hk)) (fX.room hcm) hb (passAt tk σ) I2 (.cons rfl r) ?_
  have h3 : Hd C.K S.r H2 m2 (PlL T (.ref a :: vs) (.ref a :: ds)) := h2.le fun y z t => by
    rcases t with t | t
    · exact .inl (.inl t)
    · rw [List.zip_cons_cons] at t
      rcases List.mem_cons.mp t with t | t
      · cases t
        exact .inl Pl.it
      · exact .inr t
  have z := spD_at (X := X) (S := S) (σ := σ) (Q := Q) (W := W) (δ := δ) le sl (vs := .ref a :: vs) (ds := .ref a :: ds) (by rw [List.length_cons, List.length_cons, hl2]) h3 q2
  rw [← fX.K] at z ⊢
  exact z
/-- o.m() -/
theorem de_meth0 {k : Nat} {F : DF} {pl : Env → Sem Bool} (kn : KnM C.P C.w C.K C.mg C.base cA x k F) (hc : Cls C.K cA) (hk : Nat.ble k C.k = true)
    (h : DE C W o δ m fun d m1 => ∃ a fs, d = .ref a ∧ m1 a = some (.ins cA fs) ∧ fs.lookup x = none ∧ F [.ref a] m1 Q fun cls fs m' => W cls fs δ m') (hcm : C.cm = true := by rfl)
    (ht : ∀ env, eval (.Call (.Attribute o x apos) [] [] pos) env = (do
      let ov ← eval o env
      standAt apos.atName
      let (f, first) ← holding [ov] (getMethod ov x (pl env))
      callWith pos f first (backTo pos (starEach [] env)) (backToKw pos (keywordEach [] env))) := by intro _; rfl) : DE C W (.Call (.Attribute o x apos) [] [] pos) δ m Q := by
  intro X S fX tk σ H T le sl hh pins s I
  obtain ⟨f, fd, ps, ok, hm, hb⟩ := kn.ex
  rw [← fX.prog, ← fX.w, ← fX.K, ← fX.mg, ← fX.base] at ok
  rw [← fX.K] at hm hb hc
  refine PySem.W.methodCall_KW (pl := pl X.env) (thn (h X S fX tk σ H T le sl hh pins s I) fun u s1 ⟨v, H1, I1, rx, d, m1, h1, a, fs, ed, hma, hln, q⟩ => ?_) (ht _)
  subst ed
  have r := h1.rep Pl.it
  cases r
  obtain rfl : u = Value.ref a := rx
  obtain ⟨dx, gs, hu, hn, hl, _⟩ := h1.insO hma
  refine getmeth_ok I1 hu hc hm (lookup_none hn hln) ?_
  refine PySem.W.callWith_K0 (first := [.ref a]) I1.kIn hm.kp (run_fnS (us := [.ref a]) (vs := [.ref a]) (E := L2.WE (liftW C.K W S)) (ok.mono (Nat.le_of_ble_eq_true hk)) (fX.room hcm) hb (passAt tk σ) I1 (.cons rfl .nil) ?_)
  have h3 : Hd C.K S.r H1 m1 (PlL T [.ref a] [.ref a]) := h1.le PlL.one
  have z := spD_at (X := X) (S := S) (σ := σ) (Q := Q) (W := W) (δ := δ) le sl (vs := [.ref a]) (ds := [.ref a]) rfl h3 q
  rw [← fX.K] at z ⊢
  exact z
/-- X(e, .., k = v, ..) -/
theorem de_make {p : Pos} {k n : Nat} {F : DF} {kws : List Keyword} {ks : List Str} {gD : List G.D → List G.D → List G.D} (kn : KnI C.P C.w C.K C.mg C.base x cA k F n ks gD) (hk : Nat.ble (k + 1) C.k = true) (hg : GlC C x)
    (h : DA C W (e :: es) δ m fun ds m1 => ds.length = n ∧ DKs C W δ kws m1 fun zs m2 => ∀ a, m2 a = none → F (gD (.ref a :: ds) zs) (sput m2 a (.ins cA [])) (fun d m3 => d = .non ∧ Q (.ref a) m3) fun cls fs m' => W cls fs δ m') (hkl : kws.length = ks.length := by rfl) (hdb : (x == ("__debug__" : Str)) = false := by decide) (hcm : C.cm = true := by rfl)
    (he : ∀ env, starEach (e :: es) env = (false, eval e env) :: starEach es env := by intro _; rfl) (hall : ∀ env, (backToKw pos (keywordEach kws env)).all (·.1.isSome) = true := by intro _; rfl)
    (hks : ∀ env, (backToKw pos (keywordEach kws env)).filterMap (·.1) = ks := by intro _; rfl)
    (hpl : ∀ env, ((backTo pos (starEach (e :: es) env)).any (·.1) || (backToKw pos (keywordEach kws env)).any (·.1.isNone)) = false := by intro _; rfl) : DE C W (.Call (.Name x p) (e :: es) kws pos) δ m Q := by
  intro X S fX tk σ H T le sl hh pins s I
  obtain ⟨f, fd, ps, g, gV, M, hm, ok, hb, hrep⟩ := kn.ex
  obtain ⟨j, hj⟩ : ∃ j, C.k = j + 1 := ⟨C.k - 1, by have := Nat.le_of_ble_eq_true hk; omega⟩
  have hkj : k ≤ j := by have := Nat.le_of_ble_eq_true hk; omega
  rw [← fX.prog, ← fX.w, ← fX.K, ← fX.mg, ← fX.base] at ok
  rw [← fX.K] at M hb
  refine wpAny_Call_Name_kw (ld_glob I (fX.gl hg) (by rw [fX.mg]; exact hm) ?_ hdb)
  refine PySem.W.callWith_KW (h₀ := X.base) I.ok.mod.kin M.kp (hall _) (thn (h X S fX tk σ H T le sl hh pos pins s I) fun us s1 ⟨vs, H1, I1, r, ds, m1, hl, h1, hn, q⟩ => ?_) (hpl _) (he _)
  have lel : Le T (PlL T vs ds) := PlL.le
  refine thn ((pkT_ok kws).run pos pins s1 σ H1 _ I1 (pkT_run fX tk kws (le.trans lel) (sl.le lel) h1 q)) fun ws s2 ⟨zs, H2, I2, rz, es2, m2, hl2, hlk2, h2, q2⟩ => ⟨I2.kIn, ?_⟩
  have hlz : zs.length = ks.length := hl2.trans (hlk2.trans hkl)
  rw [hks]
  have hr : Room (j + 1) X.A := by rw [← hj]; exact fX.room hcm
  refine run_makeS (E := L2.WE (liftW C.K W S) σ) M (ok.mono hkj) hr hb (passAt tk σ) I2 r rz (hl.trans hn) hlz fun x dx hx hdx hne => ?_
  have h4 : Hd C.K S.r (upd (upd H2 dx (.own x)) x (.ins cA dx [])) (sput m2 x (.ins cA [])) (Pl (PlL (PlL T vs ds) zs es2) (.ref x) (.ref x)) := (h2.grow hdx).newM (by rw [upd_ne (Ne.symm hne)]; exact hx) fun _ _ => ⟨rfl, rfl, .nil⟩
  have reps : ∀ Hi, (∀ v d, Pl (PlL (PlL T vs ds) zs es2) (.ref x) (.ref x) v d → Rep C.K Hi v d) → RepL C.K Hi (gV (.ref x :: vs) zs) (gD (.ref x :: ds) es2) := fun Hi f => hrep Hi _ _ _ _ (.cons (.ref x) (RepL.of_zip hl fun v d q => f v d (.inl (.inl (.inr q))))) (RepL.of_zip hl2 fun v d q => f v d (.inl (.inr q)))
  have h5 : Hd C.K S.r (upd (upd H2 dx (.own x)) x (.ins cA dx [])) (sput m2 x (.ins cA [])) (PlL T (gV (.ref x :: vs) zs) (gD (.ref x :: ds) es2)) := h4.more fun Hi f v d t => by
    rcases t with t | t
    · exact f v d (.inl (.inl (.inl t)))
    · exact RepL.zip (reps Hi f) v d t
  have len : (gV (.ref x :: vs) zs).length = (gD (.ref x :: ds) es2).length := by
    obtain ⟨_, Hi, _, _, h6⟩ := h4
    exact (reps Hi h6).length
  have z : spD C.K F (gV (.ref x :: vs) zs) (upd (upd H2 dx (.own x)) x (.ins cA dx [])) (fun v H' => v = .non ∧ ∃ d m', Hd C.K S.r H' m' (Pl T (.ref x) d) ∧ Q d m') (L2.WE (liftW C.K W S) σ) :=
    ⟨_, _, T, S.r, _, _, len, h5, q2 x (h2.free hx), fun d m' ⟨e, q'⟩ v H' h' => by
      subst e
      have rv := h'.rep Pl.it
      cases rv
      exact ⟨rfl, .ref x, m', (h'.le Pl.le).pl fun _ _ => .ref x, q'⟩, fun cls fs m' w' dd H' T' l' h' xd => ⟨δ, m', T', fs, le.trans l', sl.le l', h', xd, w'⟩⟩
  rw [← fX.K] at z ⊢
  exact z
end
end G

/-! The data layer: targets with a star, lists taken apart. -/
namespace G
open PySem PySem.Spec PyProof.Rows L2
theorem star_tuple {prog : Program} {w : World} {A : Around} {E : Value → Shared → Prop} {s : Shared} {l : Addr} {items : Array Value} {n i : Nat} {Q : List Value → Shared → Prop} (hl : IsTup s.heap l items) (hh : A.handled = none) (hi : i < n) (hn : n ≤ items.size + 1) (hz : items.size ≤ 16384)
    (h : ∀ h' tk, Heap.ExtBut s.heap.objs.size s.heap h' → Q (items.toList.take i ++ [.ref h'.objs.size] ++ (items.toList.drop i).drop (items.size + 1 - n)) { s with heap := h'.push { cls := .type "list", data := .seq ((items.toList.drop i).take (items.size + 1 - n)).toArray }, toks := tk }) :
    wpAny (model prog w) A (unpackItems (.ref l) n (some i)) Q E s := by
  have hlt : l ≠ s.heap.objs.size := by obtain ⟨o, ho, _⟩ := hl; exact Nat.ne_of_lt (Heap.lt_size ho)
  have hll : l < s.heap.objs.size := by obtain ⟨o, ho, _⟩ := hl; exact Heap.lt_size ho
  unfold unpackItems
  refine wpAny_bind ?_
  unfold notIterableAtAll
  refine wpAny_bind (wpAny_specialOf hl.typeIs slot_tuple_iter.lookup ?_)
  refine wpAny_pure ?_
  simp only [Bool.false_eq_true, if_false]
  refine wpAny_bind (wpAny_holding (iter_tuple hl ?_))
  refine wpAny_bind (wpAny_holding (draw_tuple hlt i 0 _ _ ⟨_, Heap.get?_push_size _ rfl, rfl, rfl⟩ (hl.push _) (by omega) fun h₁ hit₁ hs₁ => ?_))
  have hl₁ : IsTup h₁ l items := (hl.push _).extBut hs₁.extBut hlt
  rw [Nat.zero_add] at hit₁
  have hit₁' := hit₁
  obtain ⟨oi, hoi, _⟩ := hit₁'
  have hl₁' := hl₁
  obtain ⟨ol, hol, _⟩ := hl₁'
  rw [List.drop_zero]
  have hfl : (items.toList.take i).length = i := by rw [List.length_take, Array.length_toList]; omega
  rw [if_neg (show ¬ ((items.toList.take i).length < i) by rw [hfl]; omega)]
  refine wpAny_bind (wpAny_holding (PySem.W.kun_collect (s := { s with heap := h₁ }) (T := "tuple_iterator") (.inr (.inr (.inr rfl))) (Walks.tuple (A := A.in1) hh s.heap.objs.size l hlt items) (fun j u st => st.1.typeIs) (k := i) (by omega) ⟨hit₁, hl₁⟩ (Heap.lt_size hoi) (Heap.lt_size hol) (fun h₂ tk hk => ?_) (by rw [sizeLine_eq]; omega)))
  have hrl : (items.toList.drop i).length = items.size - i := by rw [List.length_drop, Array.length_toList]
  have hmid : (items.toList.drop i).length - (n - 1 - i) = items.size + 1 - n := by rw [hrl]; omega
  show wpAny _ _ (if (items.toList.drop i).length < n - 1 - i then _ else _) _ _ _
  rw [if_neg (by rw [hrl]; omega)]
  show wpAny _ _ (newList ((items.toList.drop i).take ((items.toList.drop i).length - (n - 1 - i))) >>= fun d => pure (items.toList.take i ++ [d] ++ (items.toList.drop i).drop ((items.toList.drop i).length - (n - 1 - i)))) _ _ _
  rw [hmid]
  have he : Heap.ExtBut s.heap.objs.size s.heap h₂ := fun b o hb e => hk b o hb (hs₁.extBut b o hb (Heap.get?_push_of_some _ e))
  refine wpAny_bind (wpAny_newObj_type ?_ (by have hq := sizeLine_eq; (first | (show _ ≤ sizeLine; simp only [List.size_toArray, List.length_take, hrl]; omega) | (simp [List.length_take, hrl]; omega))))
  exact wpAny_pure (h h₂ tk he)
theorem pg_star {X : Cx} {es : List Expr} {k n i : Nat} {pos : Pos} {t : TGs} (hc : X.calm = true) (h : PGs X es t) (hn : (assignEach es X.env).length = n) (hst : (assignEach es X.env).findIdx? (·.1) = some i) (hi : i < n) :
    PG X (.Tuple es k pos) (fun v σ H Q => ∃ a xs, v = V.ref a ∧ SqT X.K H a xs ∧ n ≤ xs.length + 1 ∧ xs.length ≤ 16384 ∧ ∀ p, H p = none → t (xs.take i ++ [.ref p] ++ (xs.drop i).drop (xs.length + 1 - n)) σ (upd H p (.lst ((xs.drop i).take (xs.length + 1 - n)))) Q) := by
  refine ⟨fun pins s σ H v u Q I r hw => ?_⟩
  obtain ⟨a, xs, e1, hq, hl, hz2, hw⟩ := hw
  subst e1
  cases r
  obtain ⟨its, rv, ht, hz⟩ := I.tuple hq
  have hlen : its.length = xs.length := rv.length.symm
  rw [PyProof.Rows.assign_Tuple]
  refine wpAny_bind (wpAny_standAt ?_)
  unfold unpack
  rw [hn, hst]
  refine wpAny_bind (wpAny_holding (star_tuple ht (I.ok.hd hc) hi (by simp [hlen]; omega) (by simp [hlen]; omega) fun h' tk hx => ?_))
  have I1 : Inv X pins σ H { s with heap := h', toks := tk } := I.kept (t' := tk) fun b o e => hx b o (Nat.ne_of_lt (Heap.lt_size e)) e
  have hf : H h'.objs.size = none := I1.hok.fresh (Nat.le_refl _)
  have e3 : its.toArray.size + 1 - n = xs.length + 1 - n := by simp [hlen]
  have rm : Vals ((xs.drop i).take (xs.length + 1 - n)) ((its.toArray.toList.drop i).take (its.toArray.size + 1 - n)) := by
    rw [e3]
    exact (rv.drop i).take _
  have I2 : Inv X pins σ (upd H h'.objs.size (.lst ((xs.drop i).take (xs.length + 1 - n)))) { s with heap := h'.push { cls := .type "list", data := .seq ((its.toArray.toList.drop i).take (its.toArray.size + 1 - n)).toArray }, toks := tk } := by
    refine I1.laid (a := h'.objs.size) (t' := tk) (fun b u e => Heap.get?_push_of_some _ e) (Nat.le_refl _) ?_
    exact ⟨by rw [List.length_take, List.length_drop]; have hz := sizeLine_eq; omega, _, 0, rm, Heap.get?_push_size _ rfl⟩
  refine h.run pins _ σ _ _ _ Q I2 ?_ (hw _ hf)
  have r1 : Vals (xs.take i) (its.toArray.toList.take i) := rv.take i
  have r3 : Vals ((xs.drop i).drop (xs.length + 1 - n)) ((its.toArray.toList.drop i).drop (its.toArray.size + 1 - n)) := by
    rw [e3]
    exact (rv.drop i).drop _
  exact (r1.append (.cons (show RelV (.ref h'.objs.size) (.ref h'.objs.size) from rfl) .nil)).append r3
section
variable {C : Ct} {W : DW} {δ : Sl} {m : Sto} {e : Expr} {es : List Expr} {pos : Pos} {k : Nat}
theorem dgs_star {t : Expr} {p : Pos} {ds : List D} {Q : Sl → Sto → Prop} (h : DGs C W (t :: es) ds δ m Q) (hs : ∀ env, (assignEach (.Starred t p :: es) env).map (·.2) = (assignEach (t :: es) env).map (·.2) := by intro _; rfl) : DGs C W (.Starred t p :: es) ds δ m Q := by
  intro X S f tk us σ H T hl le sl hh pins s ws I r
  have z := h X S f tk us σ H T hl le sl hh pins s ws I r
  rw [← hs] at z
  exact z
theorem dg_star (n i : Nat) {ds ds' : List D} {Q : Sl → Sto → Prop} (hd : ds.take i ++ [.lst ((ds.drop i).take (ds.length + 1 - n))] ++ (ds.drop i).drop (ds.length + 1 - n) = ds') (hl : n ≤ ds.length + 1) (hz : ds.length ≤ 16384) (h : DGs C W es ds' δ m Q) (hi : i < n := by decide)
    (hn : ∀ env, (assignEach es env).length = n := by intro _; rfl) (hst : ∀ env, (assignEach es env).findIdx? (·.1) = some i := by intro _; rfl) (hcm : C.cm = true := by rfl) : DG C W (.Tuple es k pos) (.tup ds) δ m Q := by
  subst hd
  intro X S f tk v σ H T le sl t hh
  obtain ⟨a, xs, rfl, hq, hlx, h4⟩ := hh.items t
  refine WG.of (pg_star (f.calm hcm) wgs (hn _) (hst _) hi) ⟨a, xs, rfl, by rw [f.K]; exact hq, by rw [hlx]; exact hl, by rw [hlx]; exact hz, fun p hp => ?_⟩
  have hL : ∀ (l : List V) (j : Nat), l.length ≤ j ∨ j ≤ l.length := fun l j => by omega
  have h5 : Hd C.K S.r (upd H p (.lst ((xs.drop i).take (xs.length + 1 - n)))) m (Pl (PlL T xs ds) (.ref p) (.lst ((ds.drop i).take (ds.length + 1 - n)))) :=
    h4.newI hp fun Hi hi k => by
      rw [hlx]
      exact .lst upd_same (RepL.mono (same_upd hi) (((PlL.rep hlx k).drop i).take _))
  have h6 : Hd C.K S.r (upd H p (.lst ((xs.drop i).take (xs.length + 1 - n)))) m (PlL T (xs.take i ++ [.ref p] ++ (xs.drop i).drop (xs.length + 1 - n)) (ds.take i ++ [.lst ((ds.drop i).take (ds.length + 1 - n))] ++ (ds.drop i).drop (ds.length + 1 - n))) := h5.more fun Hi f v d t => by
    rcases t with t | t
    · exact f v d (.inl (.inl t))
    · have r0 : RepL C.K Hi xs ds := RepL.of_zip hlx fun v d q => f v d (.inl (.inr q))
      have r1 : Rep C.K Hi (.ref p) (.lst ((ds.drop i).take (ds.length + 1 - n))) := f _ _ Pl.it
      rw [hlx] at t
      exact RepL.zip (((r0.take i).append (.cons r1 .nil)).append ((r0.drop i).drop _)) v d t
  have hlen : (xs.take i ++ [V.ref p] ++ (xs.drop i).drop (xs.length + 1 - n)).length = (ds.take i ++ [D.lst ((ds.drop i).take (ds.length + 1 - n))] ++ (ds.drop i).drop (ds.length + 1 - n)).length := by simp [hlx]
  exact h X S f tk _ σ _ T hlen le sl h6
/-- a list that is data, taken apart -/
theorem dg_lst {ds : List D} {Q : Sl → Sto → Prop} (hl : ds.length = es.length) (h : DGs C W es ds δ m Q) (hn : ∀ env, (assignEach es env).length = es.length := by intro _; rfl) (hst : ∀ env, (assignEach es env).findIdx? (·.1) = none := by intro _; rfl) (hcm : C.cm = true := by rfl) : DG C W (.Tuple es k pos) (.lst ds) δ m Q := by
  intro X S f tk v σ H T le sl t hh
  obtain ⟨a, xs, rfl, hq, hlx, h4⟩ := hh.itemsL t
  refine WG.of (pg_lst (f.calm hcm) wgs (hn _) (hst _)) ⟨a, xs, rfl, SqL.of hq, hlx.trans hl, ?_⟩
  exact h X S f tk xs σ H T hlx le sl h4
end
end G
namespace G
open PySem PySem.Spec PyProof.Rows L2
section
variable {C : Ct} {W : DW} {δ : Sl} {m : Sto} {a b e : Expr} {es : List Expr} {sts : List Stmt} {pos : Pos} {k : Nat} {D : DEn}
/-- x, y = a, b -/
theorem ds_par (i j : Nat) {x y : Str} {px py pt pt2 : Pos} {kt k2 : Nat} (hi : C.N[i]? = some x) (hj : C.N[j]? = some y) (hij : i ≠ j) (hx : C.sc.names.lookup x = some .local) (hy : C.sc.names.lookup y = some .local)
    (h : DA C W [a, b] δ m fun ds m1 => ∃ d d2, ds = [d, d2] ∧ D.nx ((δ.set i (some d)).set j (some d2)) m1)
    (hw : ∀ env : Env, env.scope = C.sc → swappedStores [.Tuple [.Name x px, .Name y py] kt pt] (.Tuple [a, b] k2 pt2) env = pure (some [x, y]))
    (hs : ∀ env, swapsWithSole [.Tuple [.Name x px, .Name y py] kt pt] (.Tuple [a, b] k2 pt2) pos.line env = pure false := by intro _; rfl) (hcm : C.cm = true := by rfl) :
    DS C W (.Assign [.Tuple [.Name x px, .Name y py] kt pt] (.Tuple [a, b] k2 pt2) pos) δ m D := by
  intro X S f tk σ H T le sl hh
  refine WS.of (ps_par (f.calm hcm) f.nd (i := i) (j := j) (by rw [f.N]; exact hi) (by rw [f.N]; exact hj) hij (by rw [f.sc]; exact hx) (by rw [f.sc]; exact hy) wa (hw _ f.sc) (hs _)) ((h X S f tk σ H T le sl hh).mono fun vs H1 ⟨ds, m1, hl, h1, d, d2, e, q⟩ => ?_)
  subst e
  obtain ⟨v, u, rfl⟩ := two_of hl
  have t1 : PlL T [v, u] [d, d2] v d := PlL.at (i := 0) rfl rfl
  have t2 : PlL T [v, u] [d, d2] u d2 := PlL.at (i := 1) rfl rfl
  exact ⟨v, u, rfl, lift_nx (le.trans PlL.le) (((sl.le PlL.le).set t1).set t2) h1 q⟩
/-- a slot's list is data from now on -/
theorem dss_frzS (i : Nat) {p : Addr} {ds : List G.D} (hd : δ[i]? = some (some (.ref p))) (hm : m p = some (.lst ds)) (h : DSs C W sts (δ.set i (some (.lst ds))) (sdel m p) D) : DSs C W sts δ m D := by
  intro X S f tk σ H T le sl hh
  obtain ⟨v, hv, tv⟩ := sl.2 i _ hd
  have r := hh.rep tv
  cases r
  have h2 := hh.freezeL hm
  have hi : i < σ.length := (List.getElem?_eq_some_iff.mp hv).1
  have sl2 := (sl.le (Pl.le (v := .ref p) (d := .lst ds))).set (i := i) (Pl.it (T := T) (v := .ref p) (d := .lst ds))
  have e : σ.set i (some (V.ref p)) = σ := by
    refine List.ext_getElem? fun j => ?_
    by_cases hj : i = j
    · subst hj
      rw [List.getElem?_set_self hi, hv]
    · rw [List.getElem?_set_ne hj]
  rw [e] at sl2
  exact h X S f tk σ H _ (le.trans Pl.le) sl2 h2
end
theorem sput_comm {m : Sto} {p q : Addr} {a b : O} (h : p ≠ q) : sput (sput m p a) q b = sput (sput m q b) p a := by
  funext x
  unfold sput
  by_cases h1 : x = q
  · subst h1
    rw [if_pos rfl, if_neg (Ne.symm h), if_pos rfl]
  · rw [if_neg h1]
    by_cases h2 : x = p
    · rw [if_pos h2, if_pos h2]
    · rw [if_neg h2, if_neg h2, if_neg h1]
theorem sput_mid {m : Sto} {p q : Addr} {a b c : O} (h : p ≠ q) : sput (sput (sput m q a) p b) q c = sput (sput m q c) p b := by
  rw [sput_comm h, sput_sput]
theorem sdel_mid {m : Sto} {p q : Addr} {a b : O} (h : p ≠ q) (hq : m q = none) : sdel (sput (sput m q a) p b) q = sput m p b := by
  rw [← sput_comm h]
  refine sdel_new ?_
  rw [sput_ne (Ne.symm h)]
  exact hq
theorem new_ne {m : Sto} {p q : Addr} {a : O} (h : sput m p a q = none) : p ≠ q := fun e => by
  subst e
  rw [sput_same] at h
  cases h
section
variable {C : Ct} {m : Sto} {Q : D → Sto → Prop}
theorem ix_at {z : Str} {i : Int} {c : Nat} (h0 : 0 ≤ i) (h : (TL.tl z)[i.toNat]? = some c) (h2 : z.length ≤ 1000000) (q : Q (.str ⟨#[c]⟩) m) : ixD (.str z) (.int i) m Q := by
  obtain ⟨k, rfl⟩ : ∃ k : Nat, i = k := ⟨i.toNat, by omega⟩
  exact ⟨c, by have hz := sizeLine_eq; omega, atI_nat (by simpa using h), q⟩
def addSi : R2D := fun x y m Q => ∃ i j, x = .str i ∧ y = .str j ∧ i.length + j.length ≤ sizeLine ∧ Q (.str (i ++ j)) m
theorem od_addSi : OpDi C .Add addSi := by
  rintro X f fr H m T x y d e Q hh tx ty ⟨i, k, rfl, rfl, hz, q⟩
  have rx := hh.rep tx
  have ry := hh.rep ty
  cases rx
  cases ry
  exact wb_of iop_add_str ⟨_, _, rfl, rfl, hz, dk_str hh q⟩
end
end G
namespace G
open PySem PySem.Spec PyProof.Rows L2
section
variable {C : Ct} {W : DW} {δ : Sl} {m : Sto} {e t : Expr} {es : List Expr} {pos p : Pos} {k : Nat}
/-- tuple of a list -/
def tupleD : RLD := fun ds m Q => ∃ l, ds = [.lst l] ∧ Q (.tup l) m
theorem cd_tuple : CallD C (.type "tuple") tupleD := by
  rintro X f fr H m T vs ds Q hl hh ⟨l, rfl, q⟩
  obtain ⟨v, rfl⟩ := one_of hl
  obtain ⟨a, xs, rfl, hq, hl2, h4⟩ := hh.itemsL (PlL.at (i := 0) (v := v) (d := .lst l) rfl rfl)
  exact wc_of call_tuple_of ⟨a, xs, rfl, .inl ⟨SqL.of hq, fun p hp => dK.le (dk_tup h4 hp (fun Hi k => PlL.rep hl2 k) q) (PlL.le.trans PlL.le)⟩⟩
/-- x, *r = .. -/
theorem dg_star1 {x : D} {l : List D} {Q : Sl → Sto → Prop} (hz : l.length ≤ 16000) (h : DGs C W [t, .Starred e p] [x, .lst l] δ m Q)
    (hn : ∀ env, (assignEach [t, .Starred e p] env).length = 2 := by intro _; rfl) (hst : ∀ env, (assignEach [t, .Starred e p] env).findIdx? (·.1) = some 1 := by intro _; rfl) (hcm : C.cm = true := by rfl) : DG C W (.Tuple [t, .Starred e p] k pos) (.tup (x :: l)) δ m Q := by
  refine dg_star 2 1 (ds' := [x, .lst l]) ?_ (by simp) (by simp; omega) h (by decide) hn hst hcm
  simp
end
end G
namespace G
open PySem PySem.Spec PyProof.Rows L2
section
variable {C : Ct} {W : DW} {δ : Sl} {m : Sto} {e : Expr} {pos : Pos} {D : DEn}
theorem ds_asgS {tg : Expr} (h : DE C W e δ m fun d m1 => DG C W tg d δ m1 D.nx) (hw : ∀ env : Env, env.scope = C.sc → swappedStores [tg] e env = pure none) (hs : ∀ env, swapsWithSole [tg] e pos.line env = pure false := by intro _; rfl)
    (h1 : ∀ env, (assignEach [tg] env).map (·.2) = [assign tg env] := by intro _; rfl) : DS C W (.Assign [tg] e pos) δ m D := by
  intro X S f tk σ H T le sl hh
  refine WS.of (ps_asg we wg (hs _) (hw _ f.sc) (h1 _)) ((h X S f tk σ H T le sl hh).mono fun v H1 ⟨d, m1, h1, q⟩ => ?_)
  exact (q X S f tk v σ H1 _ (le.trans Pl.le) (sl.le Pl.le) Pl.it h1).mono fun σ' H' ⟨δ', m', T', le', sl', hh', q'⟩ => ⟨δ', m', T', le.trans (Pl.le.trans le'), sl', hh', q'⟩
end
end G

/-! Drawings and steps: the plain law of k27. -/
namespace G
open PySem PySem.Spec PyProof.Rows L2
/-! ### texts by their signs -/
def mkS (l : List Nat) : Str := ⟨l.toArray⟩
theorem tl_mk (l : List Nat) : TL.tl (mkS l) = l := by
  show l.toArray.toList = l
  simp
theorem mk_snoc (l : List Nat) (c : Nat) : mkS l ++ (⟨#[c]⟩ : Str) = mkS (l ++ [c]) := TL.ext_tl (by rw [TL.tl_append, tl_mk, tl_mk])
theorem mk_len (l : List Nat) : (mkS l).length = l.length := by rw [TL.len_tl, tl_mk]
theorem mk_nil : mkS [] = "" := TL.ext_tl rfl
theorem mk_tl (z : Str) : mkS (TL.tl z) = z := TL.ext_tl (tl_mk _)
theorem app_len (a b : Str) : (a ++ b).length = a.length + b.length := by
  rw [TL.len_tl, TL.tl_append, List.length_append, ← TL.len_tl, ← TL.len_tl]
theorem cut_to (z : Str) (n : Nat) : TL.tl (cutS z none (some (n : Int))) = (TL.tl z).take n := by
  show List.take _ (List.drop _ z.cps.toList) = _
  have e := TL.len_tl z
  rw [show HT.sIx z.length z.length (some (n : Int)) = min n z.length from HT.sIx_nat z.length z.length n, HT.sIx_none, List.drop_zero, Nat.sub_zero]
  show List.take (min n z.length) (TL.tl z) = _
  rw [e]
  by_cases h : n ≤ (TL.tl z).length
  · rw [Nat.min_eq_left h]
  · rw [Nat.min_eq_right (by omega), List.take_length, List.take_of_length_le (by omega)]
theorem cut_from (z : Str) (n : Nat) : TL.tl (cutS z (some (n : Int)) none) = (TL.tl z).drop n := by
  show List.take _ (List.drop _ z.cps.toList) = _
  have e := TL.len_tl z
  rw [show HT.sIx z.length 0 (some (n : Int)) = min n z.length from HT.sIx_nat z.length 0 n, HT.sIx_none]
  show List.take (z.length - min n z.length) (List.drop (min n z.length) (TL.tl z)) = _
  rw [List.take_of_length_le (by rw [List.length_drop]; omega)]
  by_cases h : n ≤ z.length
  · rw [Nat.min_eq_left h]
  · rw [Nat.min_eq_right (by omega), e, List.drop_length, List.drop_of_length_le (by omega)]
/-! ### drawings -/
def Draw (h w : Nat) (rows : List Str) : Prop := rows.length = h ∧ ∀ z ∈ rows, z.length = w ∧ PyData.strOk z = true
theorem Draw.ok {h w : Nat} {rows : List Str} (d : Draw h w rows) : OkR rows := fun z hz => (d.2 z hz).2
/-- a row, a sign -/
def rowN (rows : List Str) (v : Nat) : List Nat := TL.tl (rows.getD v "")
def sgn (rows : List Str) (v u : Int) : Nat := (rowN rows v.toNat).getD u.toNat 0
theorem Draw.row {h w : Nat} {rows : List Str} (d : Draw h w rows) {v : Nat} (hv : v < h) : ∃ z, rows[v]? = some z ∧ rowN rows v = TL.tl z ∧ z.length = w ∧ PyData.strOk z = true := by
  have hv2 : v < rows.length := by rw [d.1]; exact hv
  refine ⟨rows[v], List.getElem?_eq_getElem hv2, ?_, d.2 _ (List.getElem_mem _)⟩
  unfold rowN
  rw [List.getD_eq_getElem?_getD, List.getElem?_eq_getElem hv2]
  rfl
theorem Draw.sg {h w : Nat} {rows : List Str} (d : Draw h w rows) {v u : Int} (h0 : 0 ≤ v) (h1 : v < h) (h2 : 0 ≤ u) (h3 : u < w) : ∃ z, rows[v.toNat]? = some z ∧ z.length = w ∧ (TL.tl z)[u.toNat]? = some (sgn rows v u) ∧ sgn rows v u < 1114112 := by
  obtain ⟨z, hz, e, hl, ho⟩ := d.row (v := v.toNat) (by omega)
  have hu : u.toNat < (TL.tl z).length := by rw [← TL.len_tl, hl]; omega
  have e2 : sgn rows v u = (TL.tl z)[u.toNat] := by
    unfold sgn
    rw [e, List.getD_eq_getElem?_getD, List.getElem?_eq_getElem hu]
    rfl
  refine ⟨z, hz, hl, by rw [e2]; exact List.getElem?_eq_getElem hu, ?_⟩
  rw [e2]
  exact strOk_iff.mp ho _ (List.getElem_mem _)
theorem d_at {rows : List Str} {v : Nat} {z : Str} (h : rows[v]? = some z) : (rows.map D.str)[v]? = some (.str z) := by rw [List.getElem?_map, h]; rfl
/-! ### putting -/
inductive Stp where
  | put (v u : Int) (t : Str)
  | shift (a b h w d c : Int)
def Stp.D : Stp → G.D
  | .put v u t => .tup [.str "put", .int v, .int u, .str t]
  | .shift a b h w d c => .tup [.str "shift", .int a, .int b, .int h, .int w, .int d, .int c]
def Stp.Ok (h w : Nat) : Stp → Prop
  | .put v u t => 0 ≤ v ∧ v < h ∧ 0 ≤ u ∧ u + t.length ≤ w ∧ PyData.strOk t = true
  | .shift a b p q d c => (0 ≤ a ∧ 1 ≤ p ∧ a + p ≤ h) ∧ (0 ≤ b ∧ 1 ≤ q ∧ b + q ≤ w) ∧ (-20 ≤ d ∧ d ≤ 20 ∧ -20 ≤ c ∧ c ≤ 20)
def putLine (z : Str) (u : Int) (t : Str) : Str := (cutS z none (some u) ++ t) ++ cutS z (some (u + t.length)) none
def putR (rows : List Str) (v u : Int) (t : Str) : List Str := (cutL rows none (some v) ++ [putLine (rows.getD v.toNat "") u t]) ++ cutL rows (some (v + 1)) none
theorem putLine_len {z t : Str} {u : Int} {w : Nat} (hz : z.length = w) (h0 : 0 ≤ u) (h1 : u + t.length ≤ w) : (putLine z u t).length = w := by
  obtain ⟨n, rfl⟩ : ∃ n : Nat, u = n := ⟨u.toNat, by omega⟩
  unfold putLine
  rw [show ((n : Nat) : Int) + (t.length : Nat) = ((n + t.length : Nat) : Int) from by omega, TL.len_tl, TL.tl_append, TL.tl_append, cut_to, cut_from, List.length_append, List.length_append, List.length_take, List.length_drop, ← TL.len_tl, ← TL.len_tl]
  omega
theorem putLine_ok {z t : Str} {u : Int} (hz : PyData.strOk z = true) (ht : PyData.strOk t = true) : PyData.strOk (putLine z u t) = true := app_ok (app_ok (cutS_ok hz) ht) (cutS_ok hz)
theorem putR_eq {rows : List Str} {v u : Int} {t : Str} {h : Nat} (hr : rows.length = h) (h0 : 0 ≤ v) (h1 : v < h) : putR rows v u t = rows.set v.toNat (putLine (rows.getD v.toNat "") u t) := by
  obtain ⟨n, rfl⟩ : ∃ n : Nat, v = n := ⟨v.toNat, by omega⟩
  unfold putR
  rw [show ((n : Nat) : Int) + 1 = ((n + 1 : Nat) : Int) from by omega, cutL_to, cutL_from, Int.toNat_natCast, List.append_assoc, List.set_eq_take_append_cons_drop, if_pos (by omega)]
  rfl
theorem put_draw {h w : Nat} {rows : List Str} (d : Draw h w rows) {v u : Int} {t : Str} (ok : (Stp.put v u t).Ok h w) : Draw h w (putR rows v u t) := by
  obtain ⟨h0, h1, h2, h3, h4⟩ := ok
  rw [putR_eq d.1 h0 h1]
  obtain ⟨z, hz, _, hl, ho⟩ := d.row (v := v.toNat) (by omega)
  refine ⟨by rw [List.length_set]; exact d.1, fun y hy => ?_⟩
  rcases List.mem_or_eq_of_mem_set hy with hy | rfl
  · exact d.2 y hy
  · rw [List.getD_eq_getElem?_getD, hz]
    exact ⟨putLine_len hl h2 h3, putLine_ok ho h4⟩
/-! ### shifting -/
section
variable (rows : List Str) (a b p q d c : Int)
def goodS (v u : Int) : Bool := (decide (a ≤ v) && decide (v < a + p) && (decide (b ≤ u) && decide (u < b + q))) && ((decide (a ≤ v + d) && decide (v + d < a + p)) && (decide (b ≤ u + c) && decide (u + c < b + q)))
def shS (v u : Int) : Nat := if goodS a b p q d c v u = true then sgn rows (v + d) (u + c) else sgn rows v u
def shLine (v : Int) (w : Nat) : Str := mkS ((List.range w).map fun u => shS rows a b p q d c v (u : Nat))
def shiftR (w : Nat) : List Str := (List.range rows.length).map fun v => shLine rows a b p q d c (v : Nat) w
end
theorem good_in {a b p q d c v u : Int} (h : goodS a b p q d c v u = true) : (a ≤ v ∧ v < a + p) ∧ (b ≤ u ∧ u < b + q) ∧ (a ≤ v + d ∧ v + d < a + p) ∧ (b ≤ u + c ∧ u + c < b + q) := by
  unfold goodS at h
  simp only [Bool.and_eq_true, decide_eq_true_eq] at h
  omega
theorem good_of {a b p q d c v u : Int} (h : (a ≤ v ∧ v < a + p) ∧ (b ≤ u ∧ u < b + q) ∧ (a ≤ v + d ∧ v + d < a + p) ∧ (b ≤ u + c ∧ u + c < b + q)) : goodS a b p q d c v u = true := by
  unfold goodS
  simp only [Bool.and_eq_true, decide_eq_true_eq]
  omega
theorem shS_lt {h w : Nat} {rows : List Str} (dr : Draw h w rows) {a b p q d c : Int} (ok : (Stp.shift a b p q d c).Ok h w) {v u : Int} (h0 : 0 ≤ v) (h1 : v < h) (h2 : 0 ≤ u) (h3 : u < w) : shS rows a b p q d c v u < 1114112 := by
  obtain ⟨⟨k1, k2, k3⟩, ⟨k4, k5, k6⟩, _⟩ := ok
  unfold shS
  split
  · rename_i g
    have g2 := good_in g
    obtain ⟨_, _, _, _, z⟩ := dr.sg (v := v + d) (u := u + c) (by omega) (by omega) (by omega) (by omega)
    exact z
  · obtain ⟨_, _, _, _, z⟩ := dr.sg h0 h1 h2 h3
    exact z
theorem shLine_ok {h w : Nat} {rows : List Str} (dr : Draw h w rows) {a b p q d c : Int} (ok : (Stp.shift a b p q d c).Ok h w) {v : Nat} (h1 : v < h) : (shLine rows a b p q d c (v : Nat) w).length = w ∧ PyData.strOk (shLine rows a b p q d c (v : Nat) w) = true := by
  unfold shLine
  refine ⟨by rw [mk_len, List.length_map, List.length_range], ?_⟩
  rw [strOk_iff, tl_mk]
  intro x hx
  obtain ⟨u, hu, rfl⟩ := List.mem_map.mp hx
  have := List.mem_range.mp hu
  exact shS_lt dr ok (by omega) (by omega) (by omega) (by omega)
theorem shift_draw {h w : Nat} {rows : List Str} (dr : Draw h w rows) {a b p q d c : Int} (ok : (Stp.shift a b p q d c).Ok h w) : Draw h w (shiftR rows a b p q d c w) := by
  refine ⟨by unfold shiftR; rw [List.length_map, List.length_range]; exact dr.1, fun z hz => ?_⟩
  obtain ⟨v, hv, rfl⟩ := List.mem_map.mp hz
  exact shLine_ok dr ok (by rw [← dr.1]; exact List.mem_range.mp hv)
theorem sgn_row {h w : Nat} {rows : List Str} (dr : Draw h w rows) {v : Nat} (hv : v < h) {z : Str} (hz : rows[v]? = some z) : (List.range w).map (fun u => sgn rows (v : Nat) (u : Nat)) = TL.tl z := by
  obtain ⟨z', hz', e, hl, _⟩ := dr.row hv
  rw [hz] at hz'
  cases hz'
  have hw : (TL.tl z).length = w := by rw [← TL.len_tl, hl]
  refine List.ext_getElem? fun j => ?_
  rw [List.getElem?_map]
  by_cases hj : j < w
  · rw [List.getElem?_range hj]
    show some (sgn rows (v : Nat) (j : Nat)) = _
    unfold sgn
    rw [Int.toNat_natCast, Int.toNat_natCast, e, List.getD_eq_getElem?_getD, List.getElem?_eq_getElem (by omega)]
    rfl
  · rw [List.getElem?_eq_none (by rw [List.length_range]; omega), List.getElem?_eq_none (by omega)]
    rfl
/-- a row that stays -/
theorem shLine_same {h w : Nat} {rows : List Str} (dr : Draw h w rows) {a b p q d c : Int} {v : Nat} (hv : v < h) {z : Str} (hz : rows[v]? = some z) (hn : ¬ ((a ≤ (v : Int) ∧ (v : Int) < a + p) ∧ a ≤ (v : Int) + d ∧ (v : Int) + d < a + p)) : shLine rows a b p q d c (v : Nat) w = z := by
  rw [← mk_tl z, ← sgn_row dr hv hz]
  unfold shLine
  congr 1
  refine List.map_congr_left fun u _ => ?_
  unfold shS
  rw [if_neg fun g => hn ?_]
  have := good_in g
  exact ⟨this.1, this.2.2.1⟩
/-- the signs within the stretch -/
def inS (rows : List Str) (b q d c v u : Int) : Nat := if b ≤ u + c ∧ u + c < b + q then sgn rows (v + d) (u + c) else sgn rows v u
theorem shLine_in {h w : Nat} {rows : List Str} (dr : Draw h w rows) {a b p q d c : Int} (ok : (Stp.shift a b p q d c).Ok h w) {v : Nat} (hv : v < h) {z : Str} (hz : rows[v]? = some z) (h1 : a ≤ (v : Int) ∧ (v : Int) < a + p) (h2 : a ≤ (v : Int) + d ∧ (v : Int) + d < a + p) :
    (cutS z none (some b) ++ mkS ((List.range q.toNat).map fun k => inS rows b q d c (v : Nat) (b + (k : Nat)))) ++ cutS z (some (b + q)) none = shLine rows a b p q d c (v : Nat) w := by
  obtain ⟨⟨k1, k2, k3⟩, ⟨k4, k5, k6⟩, _⟩ := ok
  obtain ⟨B, rfl⟩ : ∃ B : Nat, b = B := ⟨b.toNat, by omega⟩
  obtain ⟨Q, rfl⟩ : ∃ Q : Nat, q = Q := ⟨q.toNat, by omega⟩
  refine TL.ext_tl ?_
  rw [show ((B : Nat) : Int) + (Q : Nat) = ((B + Q : Nat) : Int) from by omega, TL.tl_append, TL.tl_append, cut_to, cut_from, tl_mk, ← sgn_row dr hv hz]
  unfold shLine
  rw [tl_mk, Int.toNat_natCast]
  refine List.ext_getElem? fun j => ?_
  have hb : ((List.range w).map fun u => sgn rows (v : Nat) (u : Nat)).length = w := by simp
  by_cases hj : j < w
  · have rhs : ((List.range w).map fun u => shS rows a B p Q d c (v : Nat) (u : Nat))[j]? = some (shS rows a B p Q d c (v : Nat) (j : Nat)) := by rw [List.getElem?_map, List.getElem?_range hj]; rfl
    rw [rhs]
    by_cases j1 : j < B
    · rw [List.append_assoc, List.getElem?_append_left (by rw [List.length_take, hb]; omega), List.getElem?_take_of_lt j1, List.getElem?_map, List.getElem?_range hj]
      show some (sgn rows (v : Nat) (j : Nat)) = _
      unfold shS
      rw [if_neg fun g => by have := good_in g; omega]
    · by_cases j2 : j < B + Q
      · rw [List.append_assoc, List.getElem?_append_right (by rw [List.length_take, hb]; omega), List.length_take, hb, Nat.min_eq_left (by omega), List.getElem?_append_left (by rw [List.length_map, List.length_range]; omega), List.getElem?_map, List.getElem?_range (by omega)]
        show some (inS rows B Q d c (v : Nat) ((B : Int) + ((j - B : Nat) : Int))) = _
        rw [show ((B : Nat) : Int) + ((j - B : Nat) : Int) = (j : Nat) from by omega]
        unfold inS shS
        by_cases g : (B : Int) ≤ (j : Nat) + c ∧ ((j : Nat) : Int) + c < (B : Int) + (Q : Nat)
        · rw [if_pos g, if_pos (good_of ⟨h1, ⟨by omega, by omega⟩, h2, g⟩)]
        · rw [if_neg g, if_neg fun g2 => g (good_in g2).2.2.2]
      · rw [List.getElem?_append_right (by rw [List.length_append, List.length_take, hb, List.length_map, List.length_range]; omega), List.length_append, List.length_take, hb, List.length_map, List.length_range, Nat.min_eq_left (by omega), List.getElem?_drop, List.getElem?_map, List.getElem?_range (by omega)]
        rw [show B + Q + (j - (B + Q)) = j from by omega]
        show some (sgn rows (v : Nat) (j : Nat)) = _
        unfold shS
        rw [if_neg fun g => by have := good_in g; omega]
  · rw [List.getElem?_eq_none (by simp only [List.length_append, List.length_take, List.length_map, List.length_range, List.length_drop]; omega), List.getElem?_eq_none (by rw [List.length_map, List.length_range]; omega)]
/-! ### the rows done so far -/
def doneR (rows S : List Str) (k : Nat) : List Str := S.take k ++ rows.drop k
theorem done_succ {rows S : List Str} {k : Nat} (hl : S.length = rows.length) (hk : k < rows.length) : (doneR rows S k).set k (S.getD k "") = doneR rows S (k + 1) := by
  unfold doneR
  have h1 : (S.take k).length = k := by rw [List.length_take]; omega
  have e : S.take (k + 1) = S.take k ++ [S[k]'(by omega)] := by
    rw [List.take_succ, List.getElem?_eq_getElem (by omega)]
    rfl
  rw [List.set_append_right _ _ (by omega), h1, Nat.sub_self, List.drop_eq_getElem_cons hk, List.set_cons_zero, e, List.getD_eq_getElem?_getD, List.getElem?_eq_getElem (by omega), List.append_assoc]
  rfl
theorem done_stay {rows S : List Str} {k : Nat} (hl : S.length = rows.length) (hk : k < rows.length) (h : S[k]? = rows[k]?) : doneR rows S k = doneR rows S (k + 1) := by
  unfold doneR
  rw [List.drop_eq_getElem_cons hk, List.take_succ, h, List.getElem?_eq_getElem hk]
  simp
theorem done_0 {rows S : List Str} {k : Nat} (h : ∀ j, j < k → S[j]? = rows[j]?) : doneR rows S k = rows := by
  unfold doneR
  have : S.take k = rows.take k := by
    refine List.ext_getElem? fun j => ?_
    by_cases hj : j < k
    · rw [List.getElem?_take_of_lt hj, List.getElem?_take_of_lt hj, h j hj]
    · rw [List.getElem?_eq_none (by rw [List.length_take]; omega), List.getElem?_eq_none (by rw [List.length_take]; omega)]
  rw [this, List.take_append_drop]
theorem done_end {rows S : List Str} {k : Nat} (h : ∀ j, k ≤ j → S[j]? = rows[j]?) : doneR rows S k = S := by
  unfold doneR
  have : S.drop k = rows.drop k := by
    refine List.ext_getElem? fun j => ?_
    rw [List.getElem?_drop, List.getElem?_drop, h _ (by omega)]
  rw [← this, List.take_append_drop]
theorem done_len {rows S : List Str} {k : Nat} (hl : S.length = rows.length) : (doneR rows S k).length = rows.length := by
  unfold doneR
  rw [List.length_append, List.length_take, List.length_drop]
  omega
theorem shift_at {rows : List Str} {a b p q d c : Int} {w v : Nat} (hv : v < rows.length) : (shiftR rows a b p q d c w)[v]? = some (shLine rows a b p q d c (v : Nat) w) := by
  unfold shiftR
  rw [List.getElem?_map, List.getElem?_range hv]
  rfl
theorem shift_same {h w : Nat} {rows : List Str} (dr : Draw h w rows) {a b p q d c : Int} {v : Nat} (hn : ¬ ((a ≤ (v : Int) ∧ (v : Int) < a + p) ∧ a ≤ (v : Int) + d ∧ (v : Int) + d < a + p)) : (shiftR rows a b p q d c w)[v]? = rows[v]? := by
  by_cases hv : v < rows.length
  · obtain ⟨z, hz, _⟩ := dr.row (v := v) (by rw [← dr.1]; exact hv)
    rw [shift_at hv, hz, shLine_same dr (by rw [← dr.1]; exact hv) hz hn]
  · rw [List.getElem?_eq_none (by unfold shiftR; rw [List.length_map, List.length_range]; omega), List.getElem?_eq_none (by omega)]
theorem shiftR_len (rows : List Str) (a b p q d c : Int) (w : Nat) : (shiftR rows a b p q d c w).length = rows.length := by
  unfold shiftR
  rw [List.length_map, List.length_range]
/-! ### a step, steps -/
def stepR (w : Nat) (rows : List Str) : Stp → List Str
  | .put v u t => putR rows v u t
  | .shift a b p q d c => shiftR rows a b p q d c w
theorem step_draw {h w : Nat} {rows : List Str} (dr : Draw h w rows) {s : Stp} (ok : s.Ok h w) : Draw h w (stepR w rows s) := by
  cases s with
  | put v u t => exact put_draw dr ok
  | shift a b p q d c => exact shift_draw dr ok
theorem steps_draw {h w : Nat} : ∀ (l : List Stp) {rows : List Str}, Draw h w rows → (∀ s ∈ l, s.Ok h w) → Draw h w (l.foldl (stepR w) rows)
  | [], _, dr, _ => dr
  | s :: l, _, dr, ok => steps_draw l (step_draw dr (ok s List.mem_cons_self)) fun z hz => ok z (List.mem_cons_of_mem _ hz)
theorem steps_succ {w : Nat} {l : List Stp} {rows : List Str} {i : Nat} {s : Stp} (h : l[i]? = some s) : (l.take (i + 1)).foldl (stepR w) rows = stepR w ((l.take i).foldl (stepR w) rows) s := by
  rw [List.take_succ, h, List.foldl_append]
  rfl
def Stp.word : Stp → Str
  | .put _ _ _ => "put"
  | .shift _ _ _ _ _ _ => "shift"
def Stp.rest : Stp → List G.D
  | .put v u t => [.int v, .int u, .str t]
  | .shift a b p q d c => [.int a, .int b, .int p, .int q, .int d, .int c]
theorem Stp.D_eq (s : Stp) : s.D = .tup (.str s.word :: s.rest) := by cases s <;> rfl
theorem Stp.rest_len (s : Stp) : s.rest.length ≤ 6 := by cases s <;> simp [Stp.rest]
theorem is_put {s : Stp} (h : s.word = "put") : ∃ v u t, s = .put v u t := by
  cases s with
  | put v u t => exact ⟨v, u, t, rfl⟩
  | shift a b p q d c => exact absurd (show ("shift" : Str) = "put" from h) (by decide +kernel)
theorem is_shift {s : Stp} (h : ¬ s.word = "put") : ∃ a b p q d c, s = .shift a b p q d c := by
  cases s with
  | put v u t => exact absurd rfl h
  | shift a b p q d c => exact ⟨a, b, p, q, d, c, rfl⟩
theorem cutL_map {α β : Type} (f : α → β) (l : List α) (a b : Option Int) : cutL (l.map f) a b = (cutL l a b).map f := by
  unfold cutL
  rw [List.length_map, ← List.map_drop, ← List.map_take]
theorem cutL_le {α : Type} (l : List α) (a b : Option Int) : (cutL l a b).length ≤ l.length := by
  unfold cutL
  have h1 := List.length_take_le' (HT.sIx l.length l.length b - HT.sIx l.length 0 a) (l.drop (HT.sIx l.length 0 a))
  have h2 : (l.drop (HT.sIx l.length 0 a)).length ≤ l.length := by rw [List.length_drop]; omega
  exact Nat.le_trans h1 h2
/-! ### what the defs do -/
def rowsD (rows : List Str) : D := .lst (rows.map D.str)
def FPutT : DF := fun ds m Q _ => ∃ (h w : Nat) (rows : List Str) (v u : Int) (t : Str), ds = [.lst (rows.map D.str), .int v, .int u, .str t] ∧ h ≤ 100 ∧ w ≤ 100 ∧ Draw h w rows ∧ (Stp.put v u t).Ok h w ∧ Q (.lst ((putR rows v u t).map D.str)) m
theorem FPutT.len : ∀ ds m Q E, FPutT ds m Q E → ds.length = (["rows", "v", "u", "text"] : List Str).length := by
  rintro ds m Q E ⟨_, _, _, _, _, _, rfl, _⟩
  rfl
def FShT : DF := fun ds m Q _ => ∃ (h w : Nat) (rows : List Str) (a b p q d c : Int), ds = [.lst (rows.map D.str), .tup [.int a, .int b, .int p, .int q], .int d, .int c] ∧ h ≤ 100 ∧ w ≤ 100 ∧ Draw h w rows ∧ (Stp.shift a b p q d c).Ok h w ∧ Q (.lst ((shiftR rows a b p q d c w).map D.str)) m
theorem FShT.len : ∀ ds m Q E, FShT ds m Q E → ds.length = (["rows", "stretch", "down", "across"] : List Str).length := by
  rintro ds m Q E ⟨_, _, _, _, _, _, _, _, _, rfl, _⟩
  rfl
def FBehind : DF := fun ds m Q _ => ∃ (h w : Nat) (rows : List Str) (l : List Stp), ds = [.lst (rows.map D.str), .lst (l.map Stp.D)] ∧ h ≤ 100 ∧ w ≤ 100 ∧ Draw h w rows ∧ (∀ s ∈ l, s.Ok h w) ∧ Q (.lst ((l.foldl (stepR w) rows).map D.str)) m
theorem FBehind.len : ∀ ds m Q E, FBehind ds m Q E → ds.length = (["rows", "some"] : List Str).length := by
  rintro ds m Q E ⟨_, _, _, _, rfl, _⟩
  rfl
def FStepOn : DF := fun ds m Q _ => ∃ (h w : Nat) (rows : List Str) (s : Stp), ds = [.lst (rows.map D.str), s.D] ∧ h ≤ 100 ∧ w ≤ 100 ∧ Draw h w rows ∧ s.Ok h w ∧ Q (.lst ((stepR w rows s).map D.str)) m
theorem FStepOn.len : ∀ ds m Q E, FStepOn ds m Q E → ds.length = (["_law_rows", "_law_one_here"] : List Str).length := by
  rintro ds m Q E ⟨_, _, _, _, rfl, _⟩
  rfl
theorem ok_stp {h w : Nat} {s : Stp} (ok : s.Ok h w) : okD 1 s.D = true := by
  cases s with
  | put v u t =>
    obtain ⟨_, _, _, _, h4⟩ := ok
    have e : PyData.strOk "put" = true := by decide +kernel
    simp [Stp.D, okD, okDL, h4, e]
  | shift a b p q d c =>
    have e : PyData.strOk "shift" = true := by decide +kernel
    simp [Stp.D, okD, okDL, e]
theorem ok_stps {h w : Nat} {l : List Stp} (ok : ∀ s ∈ l, s.Ok h w) : okDL 1 (l.map Stp.D) = true := okDL_all fun d hd => by
  obtain ⟨s, hs, rfl⟩ := List.mem_map.mp hd
  exact ok_stp (ok s hs)
theorem ok_handed {h w : Nat} {rows : List Str} {l : List Stp} (dr : Draw h w rows) (ok : ∀ s ∈ l, s.Ok h w) : okD 3 (.lst [.lst (rows.map D.str), .lst (l.map Stp.D)]) = true := by
  have h1 := ok_strs 1 rows dr.ok
  have h2 := ok_stps ok
  simp [okD, okDL, h1, h2]
end G
namespace G
open PySem PySem.Spec PyProof.Rows L2
theorem cut_tail {x : D} {l : List D} : cutL (x :: l) (some 1) none = l := cutL_from (x :: l) 1
theorem cut_four {a b c d e f : D} : cutL [a, b, c, d, e, f] none (some 4) = [a, b, c, d] := cutL_to [a, b, c, d, e, f] 4
def FStepsOn : DF := fun ds m Q _ => ∃ (h w : Nat) (rows : List Str) (l : List Stp), ds = [.lst (rows.map D.str), .lst (l.map Stp.D)] ∧ h ≤ 100 ∧ w ≤ 100 ∧ Draw h w rows ∧ (∀ s ∈ l, s.Ok h w) ∧ Q (.lst ((l.foldl (stepR w) rows).map D.str)) m
theorem FStepsOn.len : ∀ ds m Q E, FStepsOn ds m Q E → ds.length = (["_law_rows", "_law_some"] : List Str).length := by
  rintro ds m Q E ⟨_, _, _, _, rfl, _⟩
  rfl
theorem xyz_len {r : Int} (h0 : 0 ≤ r) (h1 : r < 3) : ((cutS "xyz" none (some (1 + r))).length : Int) = 1 + r := by
  obtain ⟨n, rfl⟩ : ∃ n : Nat, r = n := ⟨r.toNat, by omega⟩
  rw [show (1 : Int) + (n : Nat) = ((1 + n : Nat) : Int) from by omega, TL.len_tl, cut_to, List.length_take, ← TL.len_tl, show ("xyz" : Str).length = 3 from by decide +kernel]
  omega
theorem xyz_size : ("xyz" : Str).length ≤ sizeLine := by
  have e : ("xyz" : Str).length = 3 := by decide +kernel
  have hz := sizeLine_eq
  omega
theorem xyz_ok (b : Option Int) : PyData.strOk (cutS "xyz" none b) = true := cutS_ok (by decide +kernel)
theorem sg1_ok {c : Nat} (h : c < 1114112) : PyData.strOk ⟨#[c]⟩ = true := by
  rw [strOk_iff]
  intro x hx
  have hx : x ∈ [c] := hx
  rw [List.mem_singleton.mp hx]
  exact h
theorem sg1_len (c : Nat) : (⟨#[c]⟩ : Str).length = 1 := rfl
end G

/-! Signs put between two drawings: the plain law of k26. -/
namespace G
open PySem PySem.Spec PyProof.Rows L2
abbrev s1 (c : Nat) : Str := ⟨#[c]⟩
theorem tl_s1 (c : Nat) : TL.tl (s1 c) = [c] := rfl
/-! ### lines -/
def mixL (x y : Str) (j : Nat) : Str := mkS ((TL.tl y).take j ++ (TL.tl x).drop j)
theorem mixL_0 (x y : Str) : mixL x y 0 = x := by
  unfold mixL
  rw [List.take_zero, List.nil_append, List.drop_zero, mk_tl]
theorem mixL_end {x y : Str} {w : Nat} (hx : x.length = w) (hy : y.length = w) : mixL x y w = y := by
  unfold mixL
  rw [List.take_of_length_le (by rw [← TL.len_tl, hy]; exact Nat.le_refl _), List.drop_of_length_le (by rw [← TL.len_tl, hx]; exact Nat.le_refl _), List.append_nil, mk_tl]
theorem mixL_even {x y : Str} {j c : Nat} (hx : (TL.tl x)[j]? = some c) (hy : (TL.tl y)[j]? = some c) : mixL x y (j + 1) = mixL x y j := by
  unfold mixL
  obtain ⟨h1, h2⟩ := List.getElem?_eq_some_iff.mp hx
  rw [List.take_succ, hy, List.append_assoc]
  congr 2
  rw [List.drop_eq_getElem_cons h1, h2]
  rfl
theorem putLine_tl {z t : Str} {n : Nat} : TL.tl (putLine z n t) = (TL.tl z).take n ++ TL.tl t ++ (TL.tl z).drop (n + (TL.tl t).length) := by
  unfold putLine
  rw [TL.tl_append, TL.tl_append, cut_to, show ((n : Nat) : Int) + (t.length : Nat) = ((n + (TL.tl t).length : Nat) : Int) from by rw [TL.len_tl]; omega, cut_from]
theorem tk_app {α : Type} {A B : List α} {n : Nat} (h : A.length = n) : (A ++ B).take n = A := by
  subst h
  rw [List.take_append, List.take_length, Nat.sub_self, List.take_zero, List.append_nil]
theorem dr_app {α : Type} {A B : List α} {n k : Nat} (h : A.length = n) : (A ++ B).drop (n + k) = B.drop k := by
  subst h
  rw [List.drop_append, List.drop_of_length_le (by omega), List.nil_append]
  congr 1
  omega
theorem put_mix {x y : Str} {j c : Nat} (hj : j < x.length) (hy : (TL.tl y)[j]? = some c) : putLine (mixL x y j) j (s1 c) = mixL x y (j + 1) := by
  refine TL.ext_tl ?_
  have hl : ((TL.tl y).take j).length = j := by
    have := (List.getElem?_eq_some_iff.mp hy).1
    rw [List.length_take]; omega
  rw [putLine_tl, tl_s1]
  unfold mixL
  rw [tl_mk, tl_mk, tk_app hl, List.length_singleton, dr_app hl, List.drop_drop, List.take_succ, hy]
  rfl
theorem putLine_ext {z t : Str} {n c : Nat} (hz : n + t.length < z.length) : putLine z n (t ++ s1 c) = putLine (putLine z n t) (n + t.length : Nat) (s1 c) := by
  refine TL.ext_tl ?_
  have e : t.length = (TL.tl t).length := TL.len_tl t
  have e2 := TL.len_tl z
  have hl : ((TL.tl z).take n).length = n := by rw [List.length_take]; omega
  have hl2 : ((TL.tl z).take n ++ TL.tl t).length = n + t.length := by rw [List.length_append, hl, e]
  rw [putLine_tl, putLine_tl, putLine_tl, TL.tl_append, tl_s1, tk_app hl2, List.length_singleton, dr_app hl2, List.drop_drop, List.length_append, List.length_singleton, ← List.append_assoc, show n + ((TL.tl t).length + 1) = n + (TL.tl t).length + 1 from by omega]
/-! ### rows -/
def mixR (a b : List Str) (v j : Nat) : List Str := (doneR a b v).set v (mixL (a.getD v "") (b.getD v "") j)
section
variable {h w : Nat} {a b : List Str}
theorem drw_get {rows : List Str} (dr : Draw h w rows) {v : Nat} (hv : v < h) : rows[v]? = some (rows.getD v "") ∧ (rows.getD v "").length = w := by
  obtain ⟨z, hz, _, hl, _⟩ := dr.row hv
  rw [List.getD_eq_getElem?_getD, hz]
  exact ⟨rfl, hl⟩
theorem done_at (da : Draw h w a) (db : Draw h w b) {v : Nat} (hv : v < h) : (doneR a b v)[v]? = a[v]? := by
  unfold doneR
  rw [List.getElem?_append_right (by rw [List.length_take, db.1]; omega), List.length_take, db.1, Nat.min_eq_left (by omega), Nat.sub_self, List.getElem?_drop, Nat.add_zero]
theorem mixR_0 (da : Draw h w a) (db : Draw h w b) {v : Nat} (hv : v ≤ h) : mixR a b v 0 = doneR a b v := by
  unfold mixR
  rw [mixL_0]
  by_cases h1 : v < h
  · refine List.ext_getElem? fun k => ?_
    rw [List.getElem?_set]
    split
    · rename_i e
      subst e
      rw [done_at da db h1]
      split
      · exact ((drw_get da h1).1).symm
      · rename_i hk
        exact absurd (by rw [done_len (by rw [da.1, db.1]), da.1]; exact h1) hk
    · rfl
  · rw [List.set_eq_of_length_le (by rw [done_len (by rw [da.1, db.1]), da.1]; omega)]
theorem mixR_end (da : Draw h w a) (db : Draw h w b) {v : Nat} (hv : v < h) : mixR a b v w = mixR a b (v + 1) 0 := by
  rw [mixR_0 da db (by omega)]
  unfold mixR
  rw [mixL_end (drw_get da hv).2 (drw_get db hv).2]
  exact done_succ (by rw [da.1, db.1]) (by rw [da.1]; exact hv)
theorem mixR_first (da : Draw h w a) (db : Draw h w b) : mixR a b 0 0 = a := by
  rw [mixR_0 da db (Nat.zero_le _)]
  exact done_0 fun j hj => absurd hj (Nat.not_lt_zero _)
theorem mixR_last (da : Draw h w a) (db : Draw h w b) : mixR a b h 0 = b := by
  rw [mixR_0 da db (Nat.le_refl _)]
  exact done_end fun j hj => by rw [List.getElem?_eq_none (by rw [db.1]; exact hj), List.getElem?_eq_none (by rw [da.1]; exact hj)]
theorem sgn_at {rows : List Str} (dr : Draw h w rows) {v u : Nat} (hv : v < h) (hu : u < w) : (TL.tl (rows.getD v ""))[u]? = some (sgn rows (v : Nat) (u : Nat)) := by
  obtain ⟨z, hz, hl, hs, _⟩ := dr.sg (v := (v : Int)) (u := (u : Int)) (by omega) (by omega) (by omega) (by omega)
  rw [Int.toNat_natCast] at hz hs
  rw [List.getD_eq_getElem?_getD, hz]
  exact hs
def oddS (a b : List Str) (v u : Nat) : Bool := sgn a (v : Nat) (u : Nat) != sgn b (v : Nat) (u : Nat)
theorem mixR_even (da : Draw h w a) (db : Draw h w b) {v j : Nat} (hv : v < h) (hj : j < w) (he : oddS a b v j = false) : mixR a b v (j + 1) = mixR a b v j := by
  unfold mixR
  have e1 := sgn_at da hv hj
  have e2 := sgn_at db hv hj
  have e3 : sgn a (v : Nat) (j : Nat) = sgn b (v : Nat) (j : Nat) := by simpa [oddS] using he
  rw [← e3] at e2
  rw [mixL_even e1 e2]
theorem mixR_len (da : Draw h w a) (db : Draw h w b) {v j : Nat} : (mixR a b v j).length = h := by
  unfold mixR
  rw [List.length_set, done_len (by rw [da.1, db.1]), da.1]
theorem mixR_put (da : Draw h w a) (db : Draw h w b) {v j : Nat} (hv : v < h) (hj : j < w) : putR (mixR a b v j) (v : Nat) (j : Nat) (s1 (sgn b (v : Nat) (j : Nat))) = mixR a b v (j + 1) := by
  rw [putR_eq (mixR_len da db) (by omega) (by omega), Int.toNat_natCast]
  have e : (mixR a b v j).getD v "" = mixL (a.getD v "") (b.getD v "") j := by
    unfold mixR
    rw [List.getD_eq_getElem?_getD, List.getElem?_set_self (by rw [done_len (by rw [da.1, db.1]), da.1]; exact hv)]
    rfl
  rw [e, put_mix (by rw [(drw_get da hv).2]; exact hj) (sgn_at db hv hj)]
  unfold mixR
  rw [List.set_set]
theorem put_ext {rows : List Str} (dr : Draw h w rows) {v n c : Nat} {t : Str} (hv : v < h) (hn : n + t.length < w) : putR rows (v : Nat) (n : Nat) (t ++ s1 c) = putR (putR rows (v : Nat) (n : Nat) t) (v : Nat) ((n + t.length : Nat) : Int) (s1 c) := by
  rw [putR_eq dr.1 (by omega) (by omega), putR_eq dr.1 (by omega) (by omega), putR_eq (h := h) (by rw [List.length_set]; exact dr.1) (by omega) (by omega), Int.toNat_natCast, List.set_set]
  congr 1
  rw [putLine_ext (by rw [(drw_get dr hv).2]; exact hn), List.getD_eq_getElem?_getD (l := rows.set _ _), List.getElem?_set_self (by rw [dr.1]; exact hv)]
  rfl
/-! ### the steps -/
def grow (c : Nat) : Stp → Stp
  | .put v u t => .put v u (t ++ s1 c)
  | s => s
def extL (acc : List Stp) (c : Nat) : List Stp := acc.set (acc.length - 1) (grow c (acc.getD (acc.length - 1) (.put 0 0 "")))
def joined (a b : List Str) (v u : Nat) : Bool := decide (1 ≤ u) && oddS a b v (u - 1)
def stepQ (a b : List Str) (v : Nat) (acc : List Stp) (u : Nat) : List Stp := if joined a b v u = true then extL acc (sgn b (v : Nat) (u : Nat)) else acc ++ [.put v u (s1 (sgn b (v : Nat) (u : Nat)))]
structure PutInv (h w : Nat) (a b : List Str) (v j : Nat) (L : List Stp) : Prop where
  ok : ∀ s ∈ L, s.Ok h w
  res : L.foldl (stepR w) a = mixR a b v j
  len : L.length ≤ v * w + j
  last : 1 ≤ j → oddS a b v (j - 1) = true → ∃ (L' : List Stp) (u : Nat) (t : Str), L = L' ++ [.put v u t] ∧ u + t.length = j ∧ PyData.strOk t = true
theorem ext_snoc {L' : List Stp} {v u : Int} {t : Str} {c : Nat} : extL (L' ++ [.put v u t]) c = L' ++ [.put v u (t ++ s1 c)] := by
  unfold extL
  rw [List.length_append, List.length_singleton, Nat.add_sub_cancel, List.set_append_right _ _ (Nat.le_refl _), Nat.sub_self, List.getD_eq_getElem?_getD, List.getElem?_append_right (Nat.le_refl _), Nat.sub_self]
  rfl
theorem s1_ok {rows : List Str} (dr : Draw h w rows) {v u : Nat} (hv : v < h) (hu : u < w) : PyData.strOk (s1 (sgn rows (v : Nat) (u : Nat))) = true := by
  obtain ⟨_, _, _, _, hb⟩ := dr.sg (v := (v : Int)) (u := (u : Int)) (by omega) (by omega) (by omega) (by omega)
  exact sg1_ok hb
theorem PutInv.start (da : Draw h w a) (db : Draw h w b) : PutInv h w a b 0 0 [] := ⟨(fun s hs => by cases hs), (mixR_first da db).symm, Nat.zero_le _, fun h => absurd h (by omega)⟩
theorem PutInv.row {v : Nat} {L : List Stp} (p : PutInv h w a b v w L) (da : Draw h w a) (db : Draw h w b) (hv : v < h) : PutInv h w a b (v + 1) 0 L :=
  ⟨p.ok, by rw [p.res, mixR_end da db hv], by have := p.len; rw [Nat.add_mul]; omega, fun h => absurd h (by omega)⟩
theorem PutInv.even {v j : Nat} {L : List Stp} (p : PutInv h w a b v j L) (da : Draw h w a) (db : Draw h w b) (hv : v < h) (hj : j < w) (he : oddS a b v j = false) : PutInv h w a b v (j + 1) L :=
  ⟨p.ok, by rw [p.res, mixR_even da db hv hj he], by have := p.len; omega, fun _ o => by rw [Nat.add_sub_cancel, he] at o; cases o⟩
theorem PutInv.odd {v j : Nat} {L : List Stp} (p : PutInv h w a b v j L) (da : Draw h w a) (db : Draw h w b) (hv : v < h) (hj : j < w) : PutInv h w a b v (j + 1) (stepQ a b v L j) := by
  have so := s1_ok db hv hj
  unfold stepQ
  split
  · rename_i g
    obtain ⟨g1, g2⟩ := Bool.and_eq_true_iff.mp g
    obtain ⟨L', u, t, eL, eu, ot⟩ := p.last (of_decide_eq_true g1) g2
    subst eL
    rw [ext_snoc]
    have ok1 := p.ok (.put v u t) (by simp)
    obtain ⟨q1, q2, q3, q4, q5⟩ := ok1
    have hl : (t ++ s1 (sgn b (v : Nat) (j : Nat))).length = t.length + 1 := app_len _ _
    refine ⟨fun s hs => ?_, ?_, ?_, fun _ _ => ⟨L', u, _, rfl, by rw [hl]; omega, app_ok ot so⟩⟩
    · rcases List.mem_append.mp hs with hs | hs
      · exact p.ok s (by simp [hs])
      · rw [List.mem_singleton.mp hs]
        exact ⟨q1, q2, q3, by rw [hl]; omega, app_ok ot so⟩
    · have r := p.res
      rw [List.foldl_append] at r ⊢
      have dL := steps_draw L' da fun s hs => p.ok s (by simp [hs])
      show putR (L'.foldl (stepR w) a) v u _ = _
      rw [put_ext dL hv (by omega)]
      rw [show putR (L'.foldl (stepR w) a) v u t = mixR a b v j from r, eu]
      exact mixR_put da db hv hj
    · have := p.len
      simp only [List.length_append, List.length_singleton] at this ⊢
      omega
  · refine ⟨fun s hs => ?_, ?_, ?_, fun _ _ => ⟨L, j, _, rfl, rfl, so⟩⟩
    · rcases List.mem_append.mp hs with hs | hs
      · exact p.ok s hs
      · rw [List.mem_singleton.mp hs]
        exact ⟨by omega, by omega, by omega, by rw [show (s1 (sgn b (v : Nat) (j : Nat))).length = 1 from rfl]; omega, so⟩
    · rw [List.foldl_append, p.res]
      exact mixR_put da db hv hj
    · have := p.len
      simp only [List.length_append, List.length_singleton]
      omega
def oddsQ (a b : List Str) (v j : Nat) : List Nat := (List.range j).filter (oddS a b v)
def rowQ (a b : List Str) (v : Nat) (acc : List Stp) (us : List Nat) : List Stp := us.foldl (stepQ a b v) acc
theorem odds_succ {v j : Nat} : oddsQ a b v (j + 1) = oddsQ a b v j ++ (if oddS a b v j = true then [j] else []) := by
  unfold oddsQ
  rw [List.range_succ, List.filter_append]
  congr 1
  by_cases e : oddS a b v j = true <;> simp [e]
theorem rowQ_odd {v j : Nat} {acc : List Stp} (e : oddS a b v j = true) : rowQ a b v acc (oddsQ a b v (j + 1)) = stepQ a b v (rowQ a b v acc (oddsQ a b v j)) j := by
  rw [odds_succ, if_pos e]
  unfold rowQ
  rw [List.foldl_append]
  rfl
theorem rowQ_even {v j : Nat} {acc : List Stp} (e : oddS a b v j = false) : rowQ a b v acc (oddsQ a b v (j + 1)) = rowQ a b v acc (oddsQ a b v j) := by
  rw [odds_succ, if_neg (by rw [e]; exact Bool.false_ne_true), List.append_nil]
theorem PutInv.upto {v : Nat} {acc : List Stp} (p : PutInv h w a b v 0 acc) (da : Draw h w a) (db : Draw h w b) (hv : v < h) : ∀ {j : Nat}, j ≤ w → PutInv h w a b v j (rowQ a b v acc (oddsQ a b v j))
  | 0, _ => p
  | j + 1, hj => by
    have ih := p.upto da db hv (j := j) (by omega)
    cases e : oddS a b v j with
    | true => rw [rowQ_odd e]; exact ih.odd da db hv (by omega)
    | false => rw [rowQ_even e]; exact ih.even da db hv (by omega) e
def allQ (a b : List Str) (w : Nat) : Nat → List Stp
  | 0 => []
  | v + 1 => rowQ a b v (allQ a b w v) (oddsQ a b v w)
theorem allQ_inv (da : Draw h w a) (db : Draw h w b) : ∀ {v : Nat}, v ≤ h → PutInv h w a b v 0 (allQ a b w v)
  | 0, _ => PutInv.start da db
  | v + 1, hv => ((allQ_inv da db (v := v) (by omega)).upto da db (by omega) (Nat.le_refl w)).row da db (by omega)
theorem allQ_done (da : Draw h w a) (db : Draw h w b) : (allQ a b w h).foldl (stepR w) a = b := by rw [(allQ_inv da db (Nat.le_refl h)).res, mixR_last da db]
theorem allQ_same : ∀ {v : Nat}, allQ a a w v = []
  | 0 => rfl
  | v + 1 => by
    have e : oddsQ a a v w = [] := by
      unfold oddsQ
      rw [List.filter_eq_nil_iff]
      intro u _
      simp [oddS]
    rw [allQ, e, allQ_same]
    rfl
/-- the k-th odd one: what lies ahead of it -/
theorem odds_take {v : Nat} {u k : Nat} (hk : (oddsQ a b v w)[k]? = some u) : (oddsQ a b v w).take k = oddsQ a b v u ∧ (oddsQ a b v w).take (k + 1) = oddsQ a b v (u + 1) ∧ u < w ∧ oddS a b v u = true := by
  have hm := List.mem_of_getElem? hk
  unfold oddsQ at hm
  obtain ⟨hm1, hm2⟩ := List.mem_filter.mp hm
  have hu : u < w := List.mem_range.mp hm1
  have sp : oddsQ a b v w = oddsQ a b v u ++ (u :: ((List.range (w - u - 1)).map (fun i => u + 1 + i)).filter (oddS a b v)) := by
    unfold oddsQ
    rw [show List.range w = List.range u ++ (u :: (List.range (w - u - 1)).map (fun i => u + 1 + i)) from ?_, List.filter_append, List.filter_cons_of_pos (by exact hm2)]
    conv => lhs; rw [show w = u + (1 + (w - u - 1)) from by omega, List.range_add, List.range_add]
    simp [Function.comp_def, Nat.add_assoc]
  have nd : (oddsQ a b v w).Nodup := List.Pairwise.filter _ List.nodup_range
  have hk2 : (oddsQ a b v w)[(oddsQ a b v u).length]? = some u := by
    rw [sp, List.getElem?_append_right (Nat.le_refl _), Nat.sub_self]
    rfl
  have ek : k = (oddsQ a b v u).length := (List.getElem?_inj (by exact (List.getElem?_eq_some_iff.mp hk).1) nd).mp (hk.trans hk2.symm)
  subst ek
  refine ⟨?_, ?_, hu, hm2⟩
  · rw [sp, List.take_append_of_le_length (Nat.le_refl _), List.take_length]
  · rw [odds_succ, if_pos hm2, sp, List.take_append, List.take_of_length_le (by omega), show (oddsQ a b v u).length + 1 - (oddsQ a b v u).length = 1 from by omega]
    rfl
/-- the last odd one ahead of j, -2 where there is none -/
def lastQ (a b : List Str) (v : Nat) : Nat → Int
  | 0 => -2
  | j + 1 => if oddS a b v j = true then j else lastQ a b v j
theorem lastQ_lt {v : Nat} : ∀ {j : Nat}, lastQ a b v j < (j : Nat) ∧ (lastQ a b v j = -2 ∨ 0 ≤ lastQ a b v j)
  | 0 => by unfold lastQ; omega
  | j + 1 => by
    have := lastQ_lt (v := v) (j := j)
    unfold lastQ
    split
    · omega
    · omega
theorem lastQ_is {v j : Nat} : lastQ a b v j = (j : Int) - 1 ↔ joined a b v j = true := by
  unfold joined
  rw [Bool.and_eq_true, decide_eq_true_eq]
  cases j with
  | zero => unfold lastQ; constructor <;> intro h <;> omega
  | succ j =>
    have := lastQ_lt (a := a) (b := b) (v := v) (j := j)
    rw [Nat.add_sub_cancel]
    unfold lastQ
    split
    · rename_i e
      exact ⟨fun _ => ⟨by omega, e⟩, fun _ => by omega⟩
    · rename_i e
      exact ⟨fun h => by omega, fun h => absurd h.2 e⟩
end
end G

/-! enumerate(zip(a, b)): pairs within pairs, over two lists or two texts. -/
namespace G
open PySem PySem.Spec PyProof.Rows L2

/-- the walk's own objects -/
abbrev ZipZ (h : Heap) (z TI TO : Addr) (mk : Value) (f : Bool) : Prop :=
  h.get? z = some { cls := .type "zip", dict := none, data := .fields #[mk, .bool f, .bool false, .ref TI, .ref TO], slots := #[] }
def MarkV (v : Value) : Prop := v = .none ∨ ∃ T : Addr, v = rawInt T
section
variable {prog : Program} {w : World} {A : Around} {E : Value → Shared → Prop} {s : Shared} {z TI TO i1 i2 : Addr} {fpA fpB : List Addr} {nA nB i : Nat} {PA1 PB1 : Nat → Value → Prop} {StA StB : Nat → Heap → Prop} {mk u1 u2 : Value} {fl : Bool}
theorem zz_alive {a : Addr} {Q : Option Obj → Shared → Prop} (h : Q (s.heap.get? a) s) : wpAny (model prog w) A (loadIfAlive a) Q E s := fun _ _ _ => h
/-- its pair may be used again or not: either way -/
theorem zz_free {Q : Bool → Shared → Prop} (hz : ZipZ s.heap z TI TO mk fl) (hm : MarkV mk) (yes : Q true s) (no : ∀ h', ZipZ h' z TI TO mk true → Heap.SameBut z s.heap h' → Q false { s with heap := h' }) :
    wpAny (model prog w) A (Builtin.SmallTypes.ownedTupleIsFree (.ref z)) Q E s := by
  unfold Builtin.SmallTypes.ownedTupleIsFree
  rcases hm with rfl | ⟨T, rfl⟩
  · exact wpAny_bind (wpAny_field hz rfl (x := .none) rfl (wpAny_pure yes))
  refine wpAny_bind (wpAny_field hz rfl (x := rawInt T) rfl ?_)
  show wpAny _ _ (loadIfAlive ((T : Int).toNat) >>= _) _ _ _
  rw [Int.toNat_natCast]
  refine wpAny_bind (zz_alive ?_)
  cases hT : s.heap.get? T with
  | none => exact wpAny_pure yes
  | some oT =>
    simp only [Option.isNone_some, Bool.false_eq_true, if_false]
    refine wpAny_bind (wpAny_field hz rfl (x := .bool fl) rfl ?_)
    cases fl with
    | true =>
      rw [if_neg (show ¬ ((Value.bool true != Value.bool true) = true) from Bool.false_ne_true)]
      exact wpAny_pure (no s.heap hz (Heap.SameBut.refl _ _))
    | false =>
      rw [if_pos (show (Value.bool false != Value.bool true) = true from rfl)]
      exact wpAny_bind (wpAny_setField_rec hz (by simp) fun hx hzx hsx => wpAny_pure (no hx hzx hsx))
theorem zz_item {Q : Value → Shared → Prop} (S : ZipSep2 z TI TO i1 i2 fpA fpB) (DA : Draws prog w A i1 fpA nA PA1 StA) (DB : Draws prog w A i2 fpB nB PB1 StB)
    (hz : ZipZ s.heap z TI TO mk fl) (hm : MarkV mk) (hTI : IsTupOf2 s.heap TI (.ref i1) (.ref i2)) (hTO : IsTupOf2 s.heap TO u1 u2) (stA : StA i s.heap) (stB : StB i s.heap) (ltA : i < nA) (ltB : i < nB)
    (hQ : ∀ x1 x2 h' tk mk' fl' v1 v2, PA1 i x1 → PB1 i x2 → ZipZ h' z TI TO mk' fl' → MarkV mk' → IsTupOf2 h' TO v1 v2 → StA (i + 1) h' → StB (i + 1) h' → IsTupOf2 h' s.heap.objs.size x1 x2 → h'.objs.size = s.heap.objs.size + 1 →
      (∀ c o, c ∉ [z, TO, i1, i2] → s.heap.get? c = some o → h'.get? c = some o) → Q (.ref s.heap.objs.size) { s with heap := h', toks := tk }) :
    wpAny (model prog w) A (Builtin.«zip.__next__» ⟨[.ref z], []⟩) (fun fin s' => ∃ v, fin = .done (.ret v) ∧ Q v s') E s := by
  obtain ⟨hp, g, d, tkz, os⟩ := s
  show wpAny _ _ (field (.ref z) 2 >>= _) _ _ _
  refine wpAny_bind (wpAny_field hz rfl (x := .bool false) rfl ?_)
  show wpAny _ _ (field (.ref z) 3 >>= _) _ _ _
  refine wpAny_bind (wpAny_field hz rfl (x := .ref TI) rfl ?_)
  refine wpAny_bind (wpAny_seqItems hTI rfl ?_)
  show wpAny _ _ (Builtin.SmallTypes.ownedTupleIsFree (.ref z) >>= _) _ _ _
  refine wpAny_bind (zz_free hz hm ?_ fun hu hzu hsu => ?_)
  · simp only [if_true]
    refine wpAny_bind (wpAny_rule ?_)
    refine wpAny_bind (wpAny_field hz rfl (x := .ref TO) rfl ?_)
    refine wpAny_bind (wpAny_setField_rec hz (by simp) fun ha hza hsa => ?_)
    replace hza : ZipZ ha z TI TO .ellipsis fl := hza
    replace hsa : Heap.SameBut z hp ha := hsa
    refine wpAny_bind ?_
    simp only [List.zipIdx_cons, List.zipIdx_nil, List.forIn_cons, List.forIn_nil]
    refine wpAny_bind (wpAny_bind (wpAny_onRaise ?_))
    show wpAny _ _ (Builtin.SmallTypes.nextOf (.ref i1) >>= _) _ _ ⟨ha, g, d, tkz, os⟩
    refine wpAny_bind (DA.item i _ _ _ ltA (DA.over stA hsa S.zf1) fun x1 hb tkb px1 sb1 sbb => wpAny_pure ?_)
    replace sbb : Heap.SameBut i1 ha hb := sbb
    have ub : IsTupOf2 hb TO u1 u2 := sbb.extBut _ _ S.Ti1 (hsa.extBut _ _ S.TOz hTO)
    refine wpAny_bind (wpAny_seqItems (s := ⟨hb, g, d, tkb, os⟩) ub rfl ?_)
    refine wpAny_bind (updateSeq_IsTupOf2 (s := ⟨hb, g, d, tkb, os⟩) ub fun hc uc sc => ?_)
    replace uc : IsTupOf2 hc TO x1 u2 := uc
    replace sc : Heap.SameBut TO hb hc := sc
    refine wpAny_bind (wpAny_letGo (wpAny_pure ?_))
    refine wpAny_bind (wpAny_bind (wpAny_onRaise ?_))
    show wpAny _ _ (Builtin.SmallTypes.nextOf (.ref i2) >>= _) _ _ ⟨hc, g, d, tkb, os⟩
    refine wpAny_bind (DB.item i _ _ _ ltB (DB.over (DB.over (DB.over stB hsa S.zf2) sbb S.sep1_2) sc S.Tf2) fun x2 hd tkd px2 sd1 sdd => wpAny_pure ?_)
    replace sdd : Heap.SameBut i2 hc hd := sdd
    have ud : IsTupOf2 hd TO x1 u2 := sdd.extBut _ _ S.Ti2 uc
    refine wpAny_bind (wpAny_seqItems (s := ⟨hd, g, d, tkd, os⟩) ud rfl ?_)
    refine wpAny_bind (updateSeq_IsTupOf2 (s := ⟨hd, g, d, tkd, os⟩) ud fun he ue se => ?_)
    replace ue : IsTupOf2 he TO x1 x2 := ue
    replace se : Heap.SameBut TO hd he := se
    refine wpAny_bind (wpAny_letGo (wpAny_pure (wpAny_pure ?_)))
    refine wpAny_bind (wpAny_seqItems (s := ⟨he, g, d, tkd, os⟩) ue rfl ?_)
    refine wpAny_bind (wpAny_newTuple ?_)
    have sz5 : he.objs.size = hp.objs.size := by rw [se.1, sdd.1, sc.1, sbb.1, hsa.1]
    have z5 : ZipZ he z TI TO .ellipsis fl := se.extBut _ _ S.TOz.symm (sdd.extBut _ _ S.zi2 (sc.extBut _ _ S.TOz.symm (sbb.extBut _ _ S.zi1 hza)))
    have k5 : ∀ c o, c ∉ [z, TO, i1, i2] → hp.get? c = some o → he.get? c = some o := fun c o hc e => by
      simp only [List.mem_cons, List.not_mem_nil, or_false, not_or] at hc
      exact se.extBut _ _ hc.2.1 (sdd.extBut _ _ hc.2.2.2 (sc.extBut _ _ hc.2.1 (sbb.extBut _ _ hc.2.2.1 (hsa.extBut _ _ hc.1 e))))
    have jA : StA (i + 1) he := DA.over (DA.over (DA.over sb1 sc S.Tf1) sdd S.sep2_1) se S.Tf1
    have jB : StB (i + 1) he := DB.over sd1 se S.Tf2
    have ltz : z < he.objs.size := Heap.lt_size z5
    show wpAny _ _ (Builtin.SmallTypes.ownedTupleHandOut (.ref z) (.ref he.objs.size) >>= _) _ _ ⟨he.push { cls := .type "tuple", data := .seq #[x1, x2] }, g, d, tkd, os⟩
    refine wpAny_bind ?_
    unfold Builtin.SmallTypes.ownedTupleHandOut
    have z6 : ZipZ (he.push { cls := .type "tuple", data := .seq #[x1, x2] }) z TI TO .ellipsis fl := Heap.get?_push_of_some _ z5
    refine wpAny_bind (wpAny_setField_rec z6 (by simp) fun hf z7 s7 => ?_)
    replace z7 : ZipZ hf z TI TO (rawInt he.objs.size) fl := z7
    refine wpAny_setField_rec z7 (by simp) fun hg z8 s8 => ?_
    replace z8 : ZipZ hg z TI TO (rawInt he.objs.size) false := z8
    replace s7 : Heap.SameBut z (he.push { cls := .type "tuple", data := .seq #[x1, x2] }) hf := s7
    replace s8 : Heap.SameBut z hf hg := s8
    have up : ∀ c o, c ≠ z → he.get? c = some o → hg.get? c = some o := fun c o hc e => s8.extBut _ _ hc (s7.extBut _ _ hc (Heap.get?_push_of_some _ e))
    have t8 : IsTupOf2 hg he.objs.size x1 x2 := s8.extBut _ _ (Nat.ne_of_gt ltz) (s7.extBut _ _ (Nat.ne_of_gt ltz) (Heap.get?_push_size _ rfl))
    have zs8 : hg.objs.size = he.objs.size + 1 := by rw [s8.1, s7.1, Heap.size_push]
    refine wpAny_pure ⟨_, rfl, ?_⟩
    show Q (.ref he.objs.size) ⟨hg, g, d, tkd, os⟩
    rw [sz5] at z8 t8 zs8 ⊢
    exact hQ x1 x2 hg tkd _ _ _ _ px1 px2 z8 (.inr ⟨_, rfl⟩) (up _ _ S.TOz ue) (DA.frame _ _ _ jA fun b hb o e => up b o (fun q => S.zf1 (q ▸ hb)) e) (DB.frame _ _ _ jB fun b hb o e => up b o (fun q => S.zf2 (q ▸ hb)) e) t8 zs8
      fun c o hc e => up c o (fun q => hc (by simp [q])) (k5 c o hc e)
  · replace hsu : Heap.SameBut z hp hu := hsu
    simp only [Bool.false_eq_true, if_false]
    refine wpAny_bind ?_
    rw [← Array.forIn_toList]
    simp only [List.forIn_cons, List.forIn_nil]
    refine wpAny_bind (wpAny_bind (wpAny_holding ?_))
    show wpAny _ _ (Builtin.SmallTypes.nextOf (.ref i1) >>= _) _ _ ⟨hu, g, d, tkz, os⟩
    refine wpAny_bind (DA.item i _ _ _ ltA (DA.over stA hsu S.zf1) fun x1 hb tkb px1 sb1 sbb => wpAny_pure ?_)
    replace sbb : Heap.SameBut i1 hu hb := sbb
    refine wpAny_pure ?_
    refine wpAny_bind (wpAny_bind (wpAny_holding ?_))
    show wpAny _ _ (Builtin.SmallTypes.nextOf (.ref i2) >>= _) _ _ ⟨hb, g, d, tkb, os⟩
    refine wpAny_bind (DB.item i _ _ _ ltB (DB.over (DB.over stB hsu S.zf2) sbb S.sep1_2) fun x2 hd tkd px2 sd1 sdd => wpAny_pure ?_)
    replace sdd : Heap.SameBut i2 hb hd := sdd
    refine wpAny_pure (wpAny_pure ?_)
    show wpAny _ _ (newTuple [x1, x2] >>= _) _ _ ⟨hd, g, d, tkd, os⟩
    refine wpAny_bind (wpAny_newTuple ?_)
    have sz5 : hd.objs.size = hp.objs.size := by rw [sdd.1, sbb.1, hsu.1]
    have z5 : ZipZ hd z TI TO mk true := sdd.extBut _ _ S.zi2 (sbb.extBut _ _ S.zi1 hzu)
    have up : ∀ c o, hd.get? c = some o → (hd.push { cls := .type "tuple", data := .seq #[x1, x2] }).get? c = some o := fun c o e => Heap.get?_push_of_some _ e
    have t8 : IsTupOf2 (hd.push { cls := .type "tuple", data := .seq #[x1, x2] }) hd.objs.size x1 x2 := Heap.get?_push_size _ rfl
    have zs8 : (hd.push { cls := .type "tuple", data := .seq #[x1, x2] }).objs.size = hd.objs.size + 1 := Heap.size_push ..
    refine wpAny_pure ⟨_, rfl, ?_⟩
    show Q (.ref hd.objs.size) ⟨hd.push { cls := .type "tuple", data := .seq #[x1, x2] }, g, d, tkd, os⟩
    rw [sz5] at t8 zs8 ⊢
    refine hQ x1 x2 _ tkd _ _ _ _ px1 px2 (up _ _ z5) hm (up _ _ (sdd.extBut _ _ S.Ti2 (sbb.extBut _ _ S.Ti1 (hsu.extBut _ _ S.TOz hTO)))) (DA.frame _ _ _ (DA.over sb1 sdd S.sep2_1) fun b _ o e => up b o e) (DB.frame _ _ _ sd1 fun b _ o e => up b o e) t8 zs8 fun c o hc e => ?_
    simp only [List.mem_cons, List.not_mem_nil, or_false, not_or] at hc
    exact up c o (sdd.extBut _ _ hc.2.2.2 (sbb.extBut _ _ hc.2.2.1 (hsu.extBut _ _ hc.1 e)))
/-- at the end the first of the two ends -/
theorem zz_end {Q : Fin → Shared → Prop} (S : ZipSep2 z TI TO i1 i2 fpA fpB) (DA : Draws prog w A i1 fpA nA PA1 StA)
    (hz : ZipZ s.heap z TI TO mk fl) (hm : MarkV mk) (hTI : IsTupOf2 s.heap TI (.ref i1) (.ref i2)) (stA : StA nA s.heap)
    (hE : ∀ h' tk e, (∀ c o, c ∉ [z, TO, i1, i2] → s.heap.get? c = some o → h'.get? c = some o) → (∃ o, h'.get? e = some o ∧ o.cls = .type "StopIteration") → E (.ref e) { s with heap := h', toks := tk }) :
    wpAny (model prog w) A (Builtin.«zip.__next__» ⟨[.ref z], []⟩) Q E s := by
  obtain ⟨hp, g, d, tkz, os⟩ := s
  show wpAny _ _ (field (.ref z) 2 >>= _) _ _ _
  refine wpAny_bind (wpAny_field hz rfl (x := .bool false) rfl ?_)
  show wpAny _ _ (field (.ref z) 3 >>= _) _ _ _
  refine wpAny_bind (wpAny_field hz rfl (x := .ref TI) rfl ?_)
  refine wpAny_bind (wpAny_seqItems hTI rfl ?_)
  show wpAny _ _ (Builtin.SmallTypes.ownedTupleIsFree (.ref z) >>= _) _ _ _
  refine wpAny_bind (zz_free hz hm ?_ fun hu hzu hsu => ?_)
  · simp only [if_true]
    refine wpAny_bind (wpAny_rule ?_)
    refine wpAny_bind (wpAny_field hz rfl (x := .ref TO) rfl ?_)
    refine wpAny_bind (wpAny_setField_rec hz (by simp) fun ha hza hsa => ?_)
    replace hza : ZipZ ha z TI TO .ellipsis fl := hza
    replace hsa : Heap.SameBut z hp ha := hsa
    refine wpAny_bind ?_
    simp only [List.zipIdx_cons, List.zipIdx_nil, List.forIn_cons, List.forIn_nil]
    refine wpAny_bind (wpAny_bind (wpAny_onRaise ?_))
    show wpAny _ _ (Builtin.SmallTypes.nextOf (.ref i1) >>= _) _ _ ⟨ha, g, d, tkz, os⟩
    refine wpAny_bind (DA.done ⟨ha, g, d, tkz, os⟩ _ _ (DA.over stA hsa S.zf1) fun hq e sq he => ?_)
    replace sq : Heap.ExtBut i1 ha hq := sq
    obtain ⟨oe, hoe, hce⟩ := he
    replace hoe : hq.get? e = some oe := hoe
    have zq : ZipZ hq z TI TO .ellipsis fl := sq _ _ S.zi1 hza
    have ez : e ≠ z := fun x => by subst x; rw [zq] at hoe; cases hoe; simp at hce
    refine wpAny_setField_rec (s := ⟨hq, g, d, tkz, os⟩) zq (by simp) fun hr _ sr => ?_
    replace sr : Heap.SameBut z hq hr := sr
    refine hE hr tkz e (fun c o hc x => ?_) ⟨oe, sr.extBut _ _ ez hoe, hce⟩
    simp only [List.mem_cons, List.not_mem_nil, or_false, not_or] at hc
    exact sr.extBut _ _ hc.1 (sq _ _ hc.2.2.1 (hsa.extBut _ _ hc.1 x))
  · replace hsu : Heap.SameBut z hp hu := hsu
    simp only [Bool.false_eq_true, if_false]
    refine wpAny_bind ?_
    rw [← Array.forIn_toList]
    simp only [List.forIn_cons, List.forIn_nil]
    refine wpAny_bind (wpAny_bind (wpAny_holding ?_))
    show wpAny _ _ (Builtin.SmallTypes.nextOf (.ref i1) >>= _) _ _ ⟨hu, g, d, tkz, os⟩
    refine wpAny_bind (DA.done ⟨hu, g, d, tkz, os⟩ _ _ (DA.over stA hsu S.zf1) fun hq e sq he => ?_)
    refine hE hq tkz e (fun c o hc x => ?_) he
    simp only [List.mem_cons, List.not_mem_nil, or_false, not_or] at hc
    exact sq _ _ hc.2.2.1 (hsu.extBut _ _ hc.1 x)
theorem zz_typ (hz : ZipZ s.heap z TI TO mk fl) : s.TypeIs (.ref z) "zip" := ⟨_, hz, rfl⟩
/-- drawn from by another iterator -/
theorem zz_next {Q : Value → Shared → Prop} (S : ZipSep2 z TI TO i1 i2 fpA fpB) (DA : ∀ B : Around, B.handled = none → Draws prog w B i1 fpA nA PA1 StA) (DB : ∀ B : Around, B.handled = none → Draws prog w B i2 fpB nB PB1 StB) (hh : A.handled = none)
    (hz : ZipZ s.heap z TI TO mk fl) (hm : MarkV mk) (hTI : IsTupOf2 s.heap TI (.ref i1) (.ref i2)) (hTO : IsTupOf2 s.heap TO u1 u2) (stA : StA i s.heap) (stB : StB i s.heap) (ltA : i < nA) (ltB : i < nB)
    (hQ : ∀ x1 x2 h' tk mk' fl' v1 v2, PA1 i x1 → PB1 i x2 → ZipZ h' z TI TO mk' fl' → MarkV mk' → IsTupOf2 h' TO v1 v2 → StA (i + 1) h' → StB (i + 1) h' → IsTupOf2 h' s.heap.objs.size x1 x2 → h'.objs.size = s.heap.objs.size + 1 →
      (∀ c o, c ∉ [z, TO, i1, i2] → s.heap.get? c = some o → h'.get? c = some o) → Q (.ref s.heap.objs.size) { s with heap := h', toks := tk }) :
    wpAny (model prog w) A (Builtin.SmallTypes.nextOf (.ref z)) Q E s := by
  unfold Builtin.SmallTypes.nextOf
  refine wpAny_bind (wpAny_callSpecial?_slot (name := Str.ofString "__next__") (zz_typ hz) F.slot_zip_next
    (wpAny_call_entry F.slot_zip_next (zz_typ hz) F.entry_zip_next
      (zz_item S (DA _ hh) (DB _ hh) hz hm hTI hTO stA stB ltA ltB fun x1 x2 h' tk mk' fl' v1 v2 q1 q2 q3 q4 q5 q6 q7 q8 q9 qa => wpAny_pure (hQ x1 x2 h' tk mk' fl' v1 v2 q1 q2 q3 q4 q5 q6 q7 q8 q9 qa)) (F.args_zip_next_1 _)))
theorem zz_stop {Q : Value → Shared → Prop} (S : ZipSep2 z TI TO i1 i2 fpA fpB) (DA : ∀ B : Around, B.handled = none → Draws prog w B i1 fpA nA PA1 StA) (hh : A.handled = none)
    (hz : ZipZ s.heap z TI TO mk fl) (hm : MarkV mk) (hTI : IsTupOf2 s.heap TI (.ref i1) (.ref i2)) (stA : StA nA s.heap)
    (hE : ∀ h' tk e, (∀ c o, c ∉ [z, TO, i1, i2] → s.heap.get? c = some o → h'.get? c = some o) → (∃ o, h'.get? e = some o ∧ o.cls = .type "StopIteration") → E (.ref e) { s with heap := h', toks := tk }) :
    wpAny (model prog w) A (Builtin.SmallTypes.nextOf (.ref z)) Q E s := by
  unfold Builtin.SmallTypes.nextOf
  exact wpAny_bind (wpAny_callSpecial?_slot (name := Str.ofString "__next__") (zz_typ hz) F.slot_zip_next
    (wpAny_call_entry F.slot_zip_next (zz_typ hz) F.entry_zip_next (zz_end S (DA _ hh) hz hm hTI stA hE) (F.args_zip_next_1 _)))
end
end G

/-! enumerate(zip(a, b)): the walk. -/
namespace G
open PySem PySem.Spec PyProof.Rows L2

section
variable {prog : Program} {w : World} {A : Around} {E : Value → Shared → Prop} {s : Shared} {e z : Addr} {c : Int} {old : Value} {wr : List Addr} {P1 : Value → Heap → Prop}
/-- what one step of the inner iterator does -/
def StepZ (prog : Program) (w : World) (s : Shared) (z : Addr) (wr : List Addr) (P1 : Value → Heap → Prop) : Prop :=
  ∀ (B : Around) (Q : Value → Shared → Prop) (E : Value → Shared → Prop), B.handled = none → (∀ x h' tk, P1 x h' → h'.objs.size = s.heap.objs.size + 1 → (∀ b o, b ∉ wr → s.heap.get? b = some o → h'.get? b = some o) → Q x { s with heap := h', toks := tk }) →
    wpAny (model prog w) B (Builtin.SmallTypes.nextOf (.ref z)) Q E s
theorem ez_item {Q : Value → Shared → Prop} (hn : StepZ prog w s z wr P1) (hh : A.handled = none) (he : IsEnum s.heap e z c old) (hew : e ∉ wr)
    (hQ : ∀ x h1 h' tk, P1 x h1 → h1.objs.size = s.heap.objs.size + 1 → (∀ b o, b ∉ wr → s.heap.get? b = some o → h1.get? b = some o) → IsEnumOut h' e z (c + 1) x h1.objs.size →
      h'.get? h1.objs.size = some { cls := .type "tuple", data := .seq #[.int c tk, x] } → h'.objs.size = h1.objs.size + 1 → (∀ b o, b ≠ e → h1.get? b = some o → h'.get? b = some o) →
      Q (.ref h1.objs.size) { s with heap := h', toks := tk + 1 }) :
    wpAny (model prog w) A (Builtin.«enumerate.__next__» ⟨[.ref e], []⟩) (fun fin s' => ∃ v, fin = .done (.ret v) ∧ Q v s') E s := by
  obtain ⟨hp, g, d, tk0, os⟩ := s
  show wpAny _ _ (field (.ref e) 2 >>= _) _ _ _
  refine wpAny_bind (wpAny_field he rfl (x := .ref z) rfl ?_)
  refine wpAny_bind (hn _ _ _ hh fun x ha tk hP hsz hka => ?_)
  replace hsz : ha.objs.size = hp.objs.size + 1 := hsz
  replace hka : ∀ b o, b ∉ wr → hp.get? b = some o → ha.get? b = some o := hka
  have ea : IsEnum ha e z c old := hka _ _ hew he
  show wpAny _ _ (field (.ref e) 3 >>= _) _ _ ⟨ha, g, d, tk, os⟩
  refine wpAny_bind (wpAny_field ea rfl (x := rawInt c) rfl ?_)
  show wpAny _ _ (field (.ref e) 4 >>= _) _ _ ⟨ha, g, d, tk, os⟩
  refine wpAny_bind (wpAny_field ea rfl (x := .none) rfl ?_)
  show wpAny _ _ (mkInt c >>= _) _ _ ⟨ha, g, d, tk, os⟩
  refine wpAny_bind (wpAny_mkInt ?_)
  show wpAny _ _ (setField (.ref e) 3 (rawInt (c + 1)) >>= _) _ _ ⟨ha, g, d, tk + 1, os⟩
  refine wpAny_bind (wpAny_setField_rec ea (by simp) fun hb eb sb => ?_)
  replace sb : Heap.SameBut e ha hb := sb
  replace eb : IsEnum hb e z (c + 1) old := eb
  show wpAny _ _ (setField (.ref e) 4 .none >>= _) _ _ ⟨hb, g, d, tk + 1, os⟩
  refine wpAny_bind (wpAny_setField_rec eb (by simp) fun hc ec sc => ?_)
  replace sc : Heap.SameBut e hb hc := sc
  replace ec : IsEnum hc e z (c + 1) old := ec
  show wpAny _ _ (newTuple [.int c tk, x] >>= _) _ _ ⟨hc, g, d, tk + 1, os⟩
  refine wpAny_bind (wpAny_newTuple ?_)
  have ed : IsEnum (hc.push { cls := .type "tuple", data := .seq #[.int c tk, x] }) e z (c + 1) old := Heap.get?_push_of_some _ ec
  have szc : hc.objs.size = ha.objs.size := by rw [sc.1, sb.1]
  have ela : e < ha.objs.size := Heap.lt_size ea
  generalize hq : hc.push { cls := .type "tuple", data := .seq #[.int c tk, x] } = hd at ed
  have td : hd.get? ha.objs.size = some { cls := .type "tuple", data := .seq #[.int c tk, x] } := by rw [← hq, ← szc]; exact Heap.get?_push_size _ rfl
  have zd : hd.objs.size = ha.objs.size + 1 := by rw [← hq, Heap.size_push, szc]
  have kd : ∀ b o, b ≠ e → ha.get? b = some o → hd.get? b = some o := fun b o hb q => by
    rw [← hq]; exact Heap.get?_push_of_some _ (sc.extBut b o hb (sb.extBut b o hb q))
  show wpAny _ _ (Builtin.SmallTypes.ownedTupleIsFree (.ref e) >>= _) _ _ ⟨hd, g, d, tk + 1, os⟩
  rw [szc]
  refine wpAny_bind ?_
  unfold Builtin.SmallTypes.ownedTupleIsFree
  refine wpAny_bind (wpAny_field ed rfl (x := .none) rfl (wpAny_pure ?_))
  simp only [if_true]
  refine wpAny_bind (wpAny_rule ?_)
  refine wpAny_bind (wpAny_field ed rfl (x := old) rfl ?_)
  refine wpAny_bind (wpAny_setField_rec ed (by simp) fun hf ef sf => ?_)
  replace sf : Heap.SameBut e hd hf := sf
  replace ef : IsEnum hf e z (c + 1) x := ef
  show wpAny _ _ (Builtin.SmallTypes.ownedTupleHandOut (.ref e) (.ref ha.objs.size) >>= _) _ _ ⟨hf, g, d, tk + 1, os⟩
  refine wpAny_bind ?_
  unfold Builtin.SmallTypes.ownedTupleHandOut
  refine wpAny_bind (wpAny_setField_rec ef (by simp) fun hg eg sg => ?_)
  replace sg : Heap.SameBut e hf hg := sg
  replace eg : IsEnumOut hg e z (c + 1) x ha.objs.size := eg
  refine wpAny_setField_rec eg (by simp) fun hi ei si => ?_
  replace si : Heap.SameBut e hg hi := si
  replace ei : IsEnumOut hi e z (c + 1) x ha.objs.size := ei
  have up : ∀ b o, b ≠ e → hd.get? b = some o → hi.get? b = some o := fun b o hb q => si.extBut b o hb (sg.extBut b o hb (sf.extBut b o hb q))
  exact wpAny_bind (wpAny_letGo (wpAny_pure ⟨_, rfl, hQ x ha hi tk hP hsz hka ei (up _ _ (Nat.ne_of_gt ela) td) (by rw [si.1, sg.1, sf.1, zd]) fun b o hb q => up b o hb (kd b o hb q)⟩))
theorem ez_typ (he : IsEnum s.heap e z c old) : s.TypeIs (.ref e) "enumerate" := ⟨_, he, rfl⟩
theorem ez_next {Q : Option Value → Shared → Prop} (hn : StepZ prog w s z wr P1) (hh : A.handled = none) (he : IsEnum s.heap e z c old) (hew : e ∉ wr)
    (hQ : ∀ x h1 h' tk, P1 x h1 → h1.objs.size = s.heap.objs.size + 1 → (∀ b o, b ∉ wr → s.heap.get? b = some o → h1.get? b = some o) → IsEnumOut h' e z (c + 1) x h1.objs.size →
      h'.get? h1.objs.size = some { cls := .type "tuple", data := .seq #[.int c tk, x] } → h'.objs.size = h1.objs.size + 1 → (∀ b o, b ≠ e → h1.get? b = some o → h'.get? b = some o) →
      Q (some (.ref h1.objs.size)) { s with heap := h', toks := tk + 1 }) :
    wpAny (model prog w) A (pyNext (.ref e)) Q E s := by
  unfold pyNext
  exact wpAny_bind (wpAny_attempt (wpAny_callSpecial?_slot (name := Str.ofString "__next__") (ez_typ he) F.slot_enumerate_next
    (wpAny_call_entry F.slot_enumerate_next (ez_typ he) F.entry_enumerate_next
      (ez_item hn hh he hew fun x h1 h' tk a1 a2 a3 a4 a5 a6 a7 => wpAny_pure (hQ x h1 h' tk a1 a2 a3 a4 a5 a6 a7)) (F.args_enumerate_next_1 _))))
theorem ez_stop {Q : Option Value → Shared → Prop} (hh : A.handled = none) (he : IsEnum s.heap e z c old)
    (hn : ∀ (B : Around) (Q : Value → Shared → Prop) (E : Value → Shared → Prop), B.handled = none → (∀ h' tk x, (∀ b o, b ∉ wr → s.heap.get? b = some o → h'.get? b = some o) → (∃ o, h'.get? x = some o ∧ o.cls = .type "StopIteration") → E (.ref x) { s with heap := h', toks := tk }) → wpAny (model prog w) B (Builtin.SmallTypes.nextOf (.ref z)) Q E s)
    (hQ : ∀ h' tk, (∀ b o, b ∉ wr → s.heap.get? b = some o → h'.get? b = some o) → Q none { s with heap := h', toks := tk }) : wpAny (model prog w) A (pyNext (.ref e)) Q E s := by
  unfold pyNext
  refine wpAny_bind (wpAny_attempt (wpAny_callSpecial?_slot (name := Str.ofString "__next__") (ez_typ he) F.slot_enumerate_next
    (wpAny_call_entry F.slot_enumerate_next (ez_typ he) F.entry_enumerate_next ?_ (F.args_enumerate_next_1 _))))
  show wpAny _ _ (field (.ref e) 2 >>= _) _ _ _
  refine wpAny_bind (wpAny_field he rfl (x := .ref z) rfl ?_)
  refine wpAny_bind (hn _ _ _ hh fun h' tk x hk hx => ?_)
  obtain ⟨o, ho, hc⟩ := hx
  refine wpAny_bind (wpAny_isInstance (T := "StopIteration") (b := true) ⟨o, ho, hc⟩ isSubtype_stop ?_)
  exact wpAny_pure (hQ _ _ hk)
end

/-- one of the two things walked -/
structure Side (P : Program) (w : World) (K : PySem.W.Frag) (it : Addr) (n : Nat) (go : Hp → Prop) (val : Hp → Nat → V → Prop) (tn : Nat → Heap → Prop) : Prop where
  obj : ∀ i h, tn i h → ∃ o, h.get? it = some o ∧ ∀ v, o.data ≠ .cell v
  keep : ∀ i h h', tn i h → (∀ o, h.get? it = some o → h'.get? it = some o) → tn i h'
  drw : ∀ (X : Cx) (pins : List (Addr × Obj)) (σ : L2.St) (H : Hp) (s : Shared), X.prog = P → X.w = w → X.K = K → Inv X pins σ H s → H it = none → go H →
    ∃ (fp : List Addr) (Pv : Nat → Value → Prop) (St : Nat → Heap → Prop), (∀ B : Around, B.handled = none → Draws P w B it fp n Pv St) ∧ it ∈ fp ∧ (∀ b ∈ fp, b = it ∨ ∃ u, H b = some u) ∧ (∀ i, tn i s.heap → St i s.heap) ∧ (∀ i h, St i h → tn i h) ∧ ∀ i v, Pv i v → ∃ x, RelV x v ∧ val H i x
theorem side_list {P : Program} {w : World} {K : PySem.W.Frag} {it a : Addr} {n : Nat} : Side P w K it n (fun H => ∃ xs, H a = some (.lst xs) ∧ xs.length = n) (fun H i x => ∀ xs, H a = some (.lst xs) → xs[i]? = some x) (fun i h => h.IsListIter it a i) where
  obj := fun i h st => let ⟨o, e, _, q⟩ := st; ⟨o, e, fun v z => by rw [q] at z; cases z⟩
  keep := fun i h h' st k => let ⟨o, ho, r⟩ := st; ⟨o, k o ho, r⟩
  drw := fun X pins σ H s hP hw hK I hn ⟨xs, hq, hl⟩ => by
    subst hP hw hK
    obtain ⟨its, rv, p, hz⟩ := I.list (SqL.of hq)
    have hne : a ≠ it := fun e => by rw [e, hn] at hq; cases hq
    have hlen := rv.length
    have e1 : its.toArray.size = n := by rw [← hl]; simp; omega
    refine ⟨[it, a], fun i v => its.toArray[i]? = some v, fun i h => h.IsListIter it a i ∧ h.IsList a its.toArray, fun B hB => by rw [← e1]; exact Draws.list hB it a hne its.toArray, by simp, fun b hb => ?_, fun i st => ⟨st, p.isList⟩, fun i h st => st.1, fun i v hv => ?_⟩
    · have e' : b = it ∨ b = a := by simpa using hb
      exact e'.imp id fun z => ⟨_, z ▸ hq⟩
    · have hi : i < its.length := by
        have := (Array.getElem?_eq_some_iff.mp hv).1
        simpa using this
      have hx : xs[i]? = some (xs[i]'(by omega)) := List.getElem?_eq_getElem (by omega)
      obtain ⟨u, hu, ru⟩ := rv.get hx
      have eu : u = v := by simpa [hu] using hv
      subst eu
      exact ⟨_, ru, fun ys hy => by rw [hq] at hy; cases hy; exact hx⟩
theorem side_str {P : Program} {w : World} {K : PySem.W.Frag} {it : Addr} {x : Str} {t : Tok} : Side P w K it x.cps.size (fun _ => True) (fun _ i v => ∃ c, x.cps[i]? = some c ∧ v = .str ⟨#[c]⟩) (fun i h => h.IsStrIter it (strIterType x) x t i) where
  obj := fun i h st => let ⟨o, e, _, q⟩ := st; ⟨o, e, fun v z => by rw [q] at z; cases z⟩
  keep := fun i h h' st k => let ⟨o, ho, r⟩ := st; ⟨o, k o ho, r⟩
  drw := fun X pins σ H s hP hw hK I hn _ => by
    refine ⟨[it], fun i v => ∃ c u, x.cps[i]? = some c ∧ v = .str ⟨#[c]⟩ u, fun i h => h.IsStrIter it (strIterType x) x t i, fun B hB => ?_, by simp, fun b hb => .inl (by simpa using hb), fun i st => st, fun i h st => st, fun i v ⟨c, u, hc, e⟩ => ⟨.str ⟨#[c]⟩, ⟨u, e⟩, c, hc, rfl⟩⟩
    unfold strIterType
    split
    · exact Draws.strAscii hB it x t
    · exact Draws.strWide hB it x t
/-- i, (x, y) by the turn -/
def Itez (n : Nat) (goA goB : Hp → Prop) (valA valB : Hp → Nat → V → Prop) : It :=
  ⟨fun i H => i < n ∧ goA H ∧ goB H, fun i H v H' => ∃ U T x y, v = .ref T ∧ H U = none ∧ upd H U (.tup [x, y]) T = none ∧ H' = upd (upd H U (.tup [x, y])) T (.tup [.int (i : Nat), .ref U]) ∧ valA H i x ∧ valB H i y, fun i H => n ≤ i ∧ goA H ∧ goB H⟩
theorem turn_ez {P : Program} {w : World} {K : PySem.W.Frag} {elts : List Expr} {kk : Nat} {tpos : Pos} {e z TI TO i1 i2 : Addr} {n : Nat} {goA goB : Hp → Prop} {valA valB : Hp → Nat → V → Prop} {tA tB : Nat → Heap → Prop}
    (SA : Side P w K i1 n goA valA tA) (SB : Side P w K i2 n goB valB tB) (nd : [e, z, TI, TO, i1, i2].Nodup) :
    Turn P w K (.Tuple elts kk tpos) (Itez n goA goB valA valB) [e, z, TI, TO, i1, i2] e (fun i h => i ≤ n ∧ (∃ old, IsEnum h e z ((i : Nat) : Int) old) ∧ (∃ mk fl, ZipZ h z TI TO mk fl ∧ MarkV mk) ∧ IsTupOf2 h TI (.ref i1) (.ref i2) ∧ (∃ x y, IsTupOf2 h TO x y) ∧ tA i h ∧ tB i h) where
  mem := by simp
  obj := fun i h st c hc => by
    obtain ⟨_, ⟨old, he⟩, ⟨mk, fl, hz, _⟩, hTI, ⟨x, y, hTO⟩, h1, h2⟩ := st
    have e' : c = e ∨ c = z ∨ c = TI ∨ c = TO ∨ c = i1 ∨ c = i2 := by simpa using hc
    rcases e' with q | q | q | q | q | q
    · rw [q]; exact ⟨_, he, fun v q => nomatch q⟩
    · rw [q]; exact ⟨_, hz, fun v q => nomatch q⟩
    · rw [q]; exact ⟨_, hTI, fun v q => nomatch q⟩
    · rw [q]; exact ⟨_, hTO, fun v q => nomatch q⟩
    · rw [q]; exact SA.obj i h h1
    · rw [q]; exact SB.obj i h h2
  keep := fun i h h' st k => by
    obtain ⟨hin, ⟨old, he⟩, ⟨mk, fl, hz, hm⟩, hTI, ⟨x, y, hTO⟩, h1, h2⟩ := st
    exact ⟨hin, ⟨old, k e (by simp) _ he⟩, ⟨mk, fl, k z (by simp) _ hz, hm⟩, k TI (by simp) _ hTI, ⟨x, y, k TO (by simp) _ hTO⟩, SA.keep i h h' h1 fun o q => k i1 (by simp) o q, SB.keep i h h' h2 fun o q => k i2 (by simp) o q⟩
  item := by
    intro X hP hw hK hc i pins s σ H E I hf st hg
    subst hP hw hK
    obtain ⟨hin, ⟨old, he⟩, ⟨mk, fl, hz, hm⟩, hTI, ⟨x0, y0, hTO⟩, h1, h2⟩ := st
    obtain ⟨hi, gA, gB⟩ := hg
    obtain ⟨fA, PA1, StA, DA, mA, sA, tA1, tA2, vA⟩ := SA.drw X pins σ H s rfl rfl rfl I (hf i1 (by simp)).1 gA
    obtain ⟨fB, PB1, StB, DB, mB, sB, tB1, tB2, vB⟩ := SB.drw X pins σ H s rfl rfl rfl I (hf i2 (by simp)).1 gB
    simp only [List.nodup_cons, List.mem_cons, List.not_mem_nil, or_false, not_or, List.nodup_nil, not_false_eq_true, and_true] at nd
    obtain ⟨⟨n1, n2, n3, n4, n5⟩, ⟨n6, n7, n8, n9⟩, ⟨n10, n11, n12⟩, ⟨n13, n14⟩, n15⟩ := nd
    have outA : ∀ b, b ≠ i1 → H b = none → b ∉ fA := fun b hb hn q => by
      rcases sA b q with u | ⟨u, hu⟩
      · exact hb u
      · rw [hn] at hu; cases hu
    have outB : ∀ b, b ≠ i2 → H b = none → b ∉ fB := fun b hb hn q => by
      rcases sB b q with u | ⟨u, hu⟩
      · exact hb u
      · rw [hn] at hu; cases hu
    have hzn := (hf z (by simp)).1
    have hTn := (hf TO (by simp)).1
    have S : ZipSep2 z TI TO i1 i2 fA fB := ⟨fun q => n6 q.symm, fun q => n7 q.symm, n10, n11, mA, outA z n8 hzn, outA TO n13 hTn, n12, mB, outB z n9 hzn, outB TO n14 hTn, outB i1 n15 (hf i1 (by simp)).1, outA i2 (fun q => n15 q.symm) (hf i2 (by simp)).1⟩
    have hzl : z < s.heap.objs.size := Heap.lt_size hz
    have hel : e < s.heap.objs.size := Heap.lt_size he
    have step : StepZ X.prog X.w s z [z, TO, i1, i2] (fun v h' => ∃ a b mk' fl' u1 u2, v = .ref s.heap.objs.size ∧ PA1 i a ∧ PB1 i b ∧ ZipZ h' z TI TO mk' fl' ∧ MarkV mk' ∧ IsTupOf2 h' TO u1 u2 ∧ StA (i + 1) h' ∧ StB (i + 1) h' ∧ IsTupOf2 h' s.heap.objs.size a b) := fun B Q E hB k =>
      zz_next S DA DB hB hz hm hTI hTO (tA1 i h1) (tB1 i h2) hi hi fun a b h' tk mk' fl' u1 u2 q1 q2 q3 q4 q5 q6 q7 q8 q9 qa => k _ h' tk ⟨a, b, mk', fl', u1, u2, rfl, q1, q2, q3, q4, q5, q6, q7, q8⟩ q9 qa
    refine ez_next step (I.ok.hd hc) he (by simp [n1, n3, n4, n5]) fun v ha hb tk ⟨a, b, mk', fl', u1, u2, ev, pa, pb, zA, zm, TO1, sA1, sB1, tU⟩ sz1 k1 eo tT sz2 k2 => ?_
    subst ev
    refine ⟨_, rfl, wpAny_letOwnedTupleGo_enum (s := { s with heap := hb, toks := tk + 1 }) eo fun hd ed sd => ?_⟩
    replace sd : Heap.SameBut e hb hd := sd
    obtain ⟨x, rx, vx⟩ := vA i a pa
    obtain ⟨y, ry, vy⟩ := vB i b pb
    have newU : ObjOk X.prog X.w (upd H s.heap.objs.size (.tup [x, y])) ha s.heap.objs.size (.tup [x, y]) := ⟨by show 2 ≤ sizeLine; decide, [a, b], .cons rx (.cons ry .nil), ⟨_, tU, rfl, _, rfl⟩⟩
    have hU0 := I.hok.fresh (Nat.le_refl s.heap.objs.size)
    have I1 : Inv X pins σ (upd H s.heap.objs.size (.tup [x, y])) { s with heap := ha, toks := tk } :=
      I.turnedNew (ch := [z, TO, i1, i2]) k1 (fun c hcm => hf c (by rcases (by simpa using hcm : c = z ∨ c = TO ∨ c = i1 ∨ c = i2) with q | q | q | q <;> simp [q])) (Nat.le_refl _) newU
    have lt : ∀ c ∈ [e, z, TI, TO, i1, i2], c < s.heap.objs.size := fun c hcm => by
      have e' : c = e ∨ c = z ∨ c = TI ∨ c = TO ∨ c = i1 ∨ c = i2 := by simpa using hcm
      rcases e' with q | q | q | q | q | q
      · rw [q]; exact hel
      · rw [q]; exact hzl
      · rw [q]; exact Heap.lt_size hTI
      · rw [q]; exact Heap.lt_size hTO
      · rw [q]; obtain ⟨_, u, _⟩ := SA.obj i _ h1; exact Heap.lt_size u
      · rw [q]; obtain ⟨_, u, _⟩ := SB.obj i _ h2; exact Heap.lt_size u
    have fresh1 : upd H s.heap.objs.size (.tup [x, y]) ha.objs.size = none := I1.hok.fresh (Nat.le_refl _)
    have hf1 : ∀ c ∈ [e, z, TI, TO, i1, i2], upd H s.heap.objs.size (.tup [x, y]) c = none := fun c hcm => by rw [upd_ne (Nat.ne_of_lt (lt c hcm))]; exact (hf c hcm).1
    have up : ∀ b o, b ≠ e → ha.get? b = some o → hd.get? b = some o := fun b o hbe q => sd.extBut b o hbe (k2 b o hbe q)
    have elA : e < ha.objs.size := by rw [sz1]; exact Nat.lt_succ_of_lt hel
    have tT2 : hd.get? ha.objs.size = some { cls := .type "tuple", data := .seq #[.int i tk, .ref s.heap.objs.size] } := (sd.2 _ (Nat.ne_of_gt elA)).trans tT
    have newT : ObjOk X.prog X.w (upd (upd H s.heap.objs.size (.tup [x, y])) ha.objs.size (.tup [.int (i : Nat), .ref s.heap.objs.size])) hd ha.objs.size (.tup [.int (i : Nat), .ref s.heap.objs.size]) :=
      ⟨by show 2 ≤ sizeLine; decide, [.int i tk, .ref s.heap.objs.size], .cons ⟨_, rfl⟩ (.cons rfl .nil), ⟨_, tT2, rfl, _, rfl⟩⟩
    have I2 : Inv X pins σ (upd (upd H s.heap.objs.size (.tup [x, y])) ha.objs.size (.tup [.int (i : Nat), .ref s.heap.objs.size])) { s with heap := hd, toks := tk + 1 } :=
      I1.turnedNew (ch := [e]) (fun b o hbe q => up b o (fun w => hbe (by simp [w])) q) (fun c hcm => by
        have ec : c = e := by simpa using hcm
        subst ec
        obtain ⟨q1, q2, q3, q4, q5, q6⟩ := hf c (by simp)
        exact ⟨hf1 c (by simp), q2, q3, q4, q5, q6⟩) (Nat.le_refl _) newT
    refine ⟨.ref ha.objs.size, _, I2, rfl, ⟨s.heap.objs.size, ha.objs.size, x, y, rfl, hU0, fresh1, rfl, vx, vy⟩, ⟨hi, ⟨.ref s.heap.objs.size, ?_⟩, ⟨mk', fl', up _ _ (fun q => n1 q.symm) zA, zm⟩, up _ _ (fun q => n2 q.symm) (k1 _ _ (by simp [n10, n11, n12]; exact fun q => n6 q.symm) hTI), ⟨u1, u2, up _ _ (fun q => n3 q.symm) TO1⟩, ?_, ?_⟩, fun c hcm => ?_⟩
    · have e1 : ((i + 1 : Nat) : Int) = (i : Int) + 1 := by omega
      rw [e1]; exact ed
    · exact SA.keep _ _ _ (tA2 _ _ sA1) fun o q => up _ o (fun q => n4 q.symm) q
    · exact SB.keep _ _ _ (tB2 _ _ sB1) fun o q => up _ o (fun q => n5 q.symm) q
    · have hl := lt c hcm
      rw [upd_ne (by rw [sz1]; exact Nat.ne_of_lt (Nat.lt_succ_of_lt hl))]
      exact hf1 c hcm
  done := by
    intro X hP hw hK hc i pins s σ H E I hf st hg
    subst hP hw hK
    obtain ⟨hin, ⟨old, he⟩, ⟨mk, fl, hz, hm⟩, hTI, ⟨x0, y0, hTO⟩, h1, h2⟩ := st
    obtain ⟨hi, gA, gB⟩ := hg
    obtain ⟨fA, PA1, StA, DA, mA, sA, tA1, tA2, vA⟩ := SA.drw X pins σ H s rfl rfl rfl I (hf i1 (by simp)).1 gA
    obtain ⟨fB, PB1, StB, DB, mB, sB, tB1, tB2, vB⟩ := SB.drw X pins σ H s rfl rfl rfl I (hf i2 (by simp)).1 gB
    simp only [List.nodup_cons, List.mem_cons, List.not_mem_nil, or_false, not_or, List.nodup_nil, not_false_eq_true, and_true] at nd
    obtain ⟨⟨n1, n2, n3, n4, n5⟩, ⟨n6, n7, n8, n9⟩, ⟨n10, n11, n12⟩, ⟨n13, n14⟩, n15⟩ := nd
    have outA : ∀ b, b ≠ i1 → H b = none → b ∉ fA := fun b hb hn q => by
      rcases sA b q with u | ⟨u, hu⟩
      · exact hb u
      · rw [hn] at hu; cases hu
    have outB : ∀ b, b ≠ i2 → H b = none → b ∉ fB := fun b hb hn q => by
      rcases sB b q with u | ⟨u, hu⟩
      · exact hb u
      · rw [hn] at hu; cases hu
    have hzn := (hf z (by simp)).1
    have hTn := (hf TO (by simp)).1
    have S : ZipSep2 z TI TO i1 i2 fA fB := ⟨fun q => n6 q.symm, fun q => n7 q.symm, n10, n11, mA, outA z n8 hzn, outA TO n13 hTn, n12, mB, outB z n9 hzn, outB TO n14 hTn, outB i1 n15 (hf i1 (by simp)).1, outA i2 (fun q => n15 q.symm) (hf i2 (by simp)).1⟩
    have hi2 : i = n := Nat.le_antisymm hin hi
    subst hi2
    refine ez_stop (wr := [z, TO, i1, i2]) (I.ok.hd hc) he (fun B Q E hB k => zz_stop S DA hB hz hm hTI (tA1 _ h1) k) fun h' tk hk => ⟨rfl, I.turnedL (t' := tk) (ch := [z, TO, i1, i2]) hk fun c hcm => hf c (by rcases (by simpa using hcm : c = z ∨ c = TO ∨ c = i1 ∨ c = i2) with q | q | q | q <;> simp [q])⟩
  self := fun A i s Q E st h => let ⟨_, ⟨_, he⟩, _⟩ := st; wpAny_pyIter_enum he h
end G

/-! enumerate(zip(a, b)): how it begins, and as data. -/
namespace G
open PySem PySem.Spec PyProof.Rows L2
abbrev enuOf (z : Addr) : Obj := { cls := .type "enumerate", data := .fields #[.none, .bool false, .ref z, rawInt 0, .none, .none] }
theorem meets_ez (z TI TO : Addr) : Meets (Builtin.«enumerate.__new__» ⟨[.type "enumerate", .ref z], []⟩) (fun _ R s => IsZip s.heap z TI TO .none ∧ R (.ok (.ret (.ref s.heap.objs.size))) { s with heap := s.heap.push (enuOf z) }) :=
  .of_wp fun prog w A R s h => by
    obtain ⟨hp, g, d, tk, os⟩ := s
    obtain ⟨hz, h⟩ := h
    have hsub := sub_enumerate
    have qz : ∀ {A' : Around} {E : Value → Shared → Prop} {Q : Value → Shared → Prop}, Q (.ref z) ⟨hp, g, d, tk, os⟩ → wpAny (model prog w) A' (pyIter (.ref z)) Q E ⟨hp, g, d, tk, os⟩ := fun q => wpAny_pyIter_zip hz q
    wp_walk using qz
    refine wpAny_stack_any fun st => wpAny_pure ?_
    split
    · rename_i c _ _ _ _ _
      cases (c == Value.type "enumerate")
      · wp_walk using qz
        exact ⟨_, rfl, h⟩
      · wp_walk using qz
        exact ⟨_, rfl, h⟩
    · wp_walk using qz
      exact ⟨_, rfl, h⟩
abbrev zsH1 (h : Heap) (x : Str) (t : Tok) : Heap := h.push { cls := .type (strIterType x), data := .fields #[.str x t, .int 0 0] }
abbrev zsH2 (h : Heap) (x y : Str) (t u : Tok) : Heap := (zsH1 h x t).push { cls := .type (strIterType y), data := .fields #[.str y u, .int 0 0] }
abbrev zsH3 (h : Heap) (x y : Str) (t u : Tok) : Heap := (zsH2 h x y t u).push { cls := .type "tuple", data := .seq #[.ref h.objs.size, .ref (zsH1 h x t).objs.size] }
abbrev zsH4 (h : Heap) (x y : Str) (t u : Tok) : Heap := (zsH3 h x y t u).push { cls := .type "tuple", data := .seq #[.none, .none] }
abbrev zsH5 (h : Heap) (x y : Str) (t u : Tok) : Heap := (zsH4 h x y t u).push { cls := .type "zip", data := .fields #[.none, .bool false, .bool false, .ref (zsH2 h x y t u).objs.size, .ref (zsH3 h x y t u).objs.size] }
set_option maxHeartbeats 4000000 in
theorem meets_zs_new (x y : Str) (t u : Tok) : Meets (Builtin.«zip.__new__» ⟨[.type "zip", .str x t, .str y u], []⟩) (fun _ R s => R (.ok (.ret (.ref (zsH4 s.heap x y t u).objs.size))) { s with heap := zsH5 s.heap x y t u }) :=
  .of_wp fun prog w A R s h => by
    obtain ⟨hp, g, d, tk, os⟩ := s
    have hsub := sub_zip
    wp_walk using wpAny_pyIter_strU
    exact ⟨_, rfl, h⟩
section
variable {prog : Program} {w : World} {A : Around} {E : Value → Shared → Prop} {s : Shared}
theorem call_ez {z TI TO : Addr} {Q : Value → Shared → Prop} (hz : IsZip s.heap z TI TO .none)
    (h : ∀ h', IsEnum h' s.heap.objs.size z 0 .none → h'.objs.size = s.heap.objs.size + 1 → (∀ b o, s.heap.get? b = some o → h'.get? b = some o) → Q (.ref s.heap.objs.size) { s with heap := h' }) :
    wpAny (model prog w) A (call (.type "enumerate") [.ref z]) Q E s := by
  refine callType_new F.called_enumerate (by decide) (F.typeCall_enumerate_1 _) (F.newCall_enumerate_1 _) (fun obj => F.args_object_init_2 obj _) F.entry_enumerate_new (meets_ez z TI TO) ⟨hz, ?_⟩
  have he : IsEnum (s.heap.push (enuOf z)) s.heap.objs.size z 0 .none := Heap.get?_push_size _ rfl
  exact ⟨⟨_, he, rfl⟩, h _ he (Heap.size_push ..) fun b o q => Heap.get?_push_of_some _ q⟩
theorem call_zs {x y : Str} {t u : Tok} {Q : Value → Shared → Prop}
    (h : ∀ h', IsZip h' (s.heap.objs.size + 4) (s.heap.objs.size + 2) (s.heap.objs.size + 3) .none → IsTupOf2 h' (s.heap.objs.size + 2) (.ref s.heap.objs.size) (.ref (s.heap.objs.size + 1)) →
      IsTupOf2 h' (s.heap.objs.size + 3) .none .none → h'.IsStrIter s.heap.objs.size (strIterType x) x t 0 → h'.IsStrIter (s.heap.objs.size + 1) (strIterType y) y u 0 → h'.objs.size = s.heap.objs.size + 5 →
      (∀ c o, s.heap.get? c = some o → h'.get? c = some o) → Q (.ref (s.heap.objs.size + 4)) { s with heap := h' }) :
    wpAny (model prog w) A (call (.type "zip") [.str x t, .str y u]) Q E s := by
  refine callType_new F.called_zip (by decide) (F.typeCall_zip_2 _ _) (F.newCall_zip_2 _ _) (fun obj => F.args_object_init_3 obj _ _) F.entry_zip_new (meets_zs_new x y t u) ?_
  have za : (zsH1 s.heap x t).objs.size = s.heap.objs.size + 1 := Heap.size_push ..
  have zb : (zsH2 s.heap x y t u).objs.size = s.heap.objs.size + 2 := by rw [Heap.size_push, za]
  have zc : (zsH3 s.heap x y t u).objs.size = s.heap.objs.size + 3 := by rw [Heap.size_push, zb]
  have zd : (zsH4 s.heap x y t u).objs.size = s.heap.objs.size + 4 := by rw [Heap.size_push, zc]
  have ze : (zsH5 s.heap x y t u).objs.size = s.heap.objs.size + 5 := by rw [Heap.size_push, zd]
  have ge : (zsH5 s.heap x y t u).get? (zsH4 s.heap x y t u).objs.size = some _ := Heap.get?_push_size _ rfl
  have gd : (zsH5 s.heap x y t u).get? (zsH3 s.heap x y t u).objs.size = some _ := Heap.get?_push_of_some _ (Heap.get?_push_size _ rfl)
  have gc : (zsH5 s.heap x y t u).get? (zsH2 s.heap x y t u).objs.size = some _ := Heap.get?_push_of_some _ (Heap.get?_push_of_some _ (Heap.get?_push_size _ rfl))
  have gb : (zsH5 s.heap x y t u).get? (zsH1 s.heap x t).objs.size = some _ := Heap.get?_push_of_some _ (Heap.get?_push_of_some _ (Heap.get?_push_of_some _ (Heap.get?_push_size _ rfl)))
  have ga : (zsH5 s.heap x y t u).get? s.heap.objs.size = some _ := Heap.get?_push_of_some _ (Heap.get?_push_of_some _ (Heap.get?_push_of_some _ (Heap.get?_push_of_some _ (Heap.get?_push_size _ rfl))))
  show _ ∧ _
  rw [zb, zc, zd] at ge
  rw [za, zb] at gc
  rw [zc] at gd
  rw [za] at gb
  rw [zd]
  exact ⟨⟨_, ge, rfl⟩, h _ ge gc gd ⟨_, ga, rfl, rfl⟩ ⟨_, gb, rfl, rfl⟩ ze fun c o q =>
    Heap.get?_push_of_some _ (Heap.get?_push_of_some _ (Heap.get?_push_of_some _ (Heap.get?_push_of_some _ (Heap.get?_push_of_some _ q))))⟩
end
def goL (a : Addr) (n : Nat) (H : Hp) : Prop := ∃ xs, H a = some (.lst xs) ∧ xs.length = n
def valL (a : Addr) (H : Hp) (i : Nat) (x : V) : Prop := ∀ xs, H a = some (.lst xs) → xs[i]? = some x
def valS (z : Str) (_ : Hp) (i : Nat) (v : V) : Prop := ∃ c, z.cps[i]? = some c ∧ v = .str ⟨#[c]⟩
def iEz (ta : TA) : TI := fun σ H R => ta σ H fun vs H1 =>
  (∃ a b xs ys, vs = [.ref a, .ref b] ∧ H1 a = some (.lst xs) ∧ H1 b = some (.lst ys) ∧ xs.length = ys.length ∧ R (Itez xs.length (goL a xs.length) (goL b xs.length) (valL a) (valL b)) H1) ∨
  (∃ x y, vs = [.str x, .str y] ∧ x.cps.size = y.cps.size ∧ R (Itez x.cps.size (fun _ => True) (fun _ => True) (valS x) (valS y)) H1)
theorem nd6 (n : Nat) : [n + 5, n + 4, n + 2, n + 3, n, n + 1].Nodup := by
  simp only [List.nodup_cons, List.mem_cons, List.not_mem_nil, or_false, not_or, List.nodup_nil, not_false_eq_true, and_true]
  refine ⟨⟨?_, ?_, ?_, ?_, ?_⟩, ⟨?_, ?_, ?_, ?_⟩, ⟨?_, ?_, ?_⟩, ⟨?_, ?_⟩, ?_⟩ <;> omega
theorem pi_ez {X : Cx} {e e2 : Expr} {ta : TA} {p p2 pos pos2 tpos : Pos} {elts : List Expr} {kk : Nat} (hgE : Gl X "enumerate") (hmE : X.mg "enumerate" = none) (hgZ : Gl X "zip") (hmZ : X.mg "zip" = none) (ha : PA X [e, e2] ta)
    (hs : starEach [e, e2] X.env = (false, eval e X.env) :: starEach [e2] X.env := by rfl) (hpl : (backTo pos2 (starEach [e2] X.env)).any (·.1) = false := by rfl)
    (hz1 : starEach [Expr.Call (.Name "zip" p2) [e, e2] [] pos2] X.env = [(false, eval (.Call (.Name "zip" p2) [e, e2] [] pos2) X.env)] := by rfl) :
    PI X (.Tuple elts kk tpos) (.Call (.Name "enumerate" p) [.Call (.Name "zip" p2) [e, e2] [] pos2] [] pos) (iEz ta) := by
  refine ⟨fun pins s σ H R I h => ?_⟩
  refine Call_ (ld_blt I hgE hmE boot_enumerate (PyProof.Rows.callWith_type1 ?_ hz1 rfl))
  rw [hz1]
  refine Calls.spliced_cons ?_
  refine Call_ (ld_blt I hgZ hmZ PyProof.Rows.boot_zip (PyProof.Rows.callWith_type1 (thn (ha.run pos2 pins s σ H _ I h) fun us s1 ⟨vs, H1, I1, r1, q1⟩ => ?_) hs hpl))
  have wrap : ∀ (h' : Heap) (J : It) (n : Nat) (goA goB : Hp → Prop) (valA valB : Hp → Nat → V → Prop) (tA tB : Nat → Heap → Prop), Side X.prog X.w X.K s1.heap.objs.size n goA valA tA → Side X.prog X.w X.K (s1.heap.objs.size + 1) n goB valB tB →
      IsZip h' (s1.heap.objs.size + 4) (s1.heap.objs.size + 2) (s1.heap.objs.size + 3) .none → IsTupOf2 h' (s1.heap.objs.size + 2) (.ref s1.heap.objs.size) (.ref (s1.heap.objs.size + 1)) →
      IsTupOf2 h' (s1.heap.objs.size + 3) .none .none → tA 0 h' → tB 0 h' → h'.objs.size = s1.heap.objs.size + 5 → (∀ c o, s1.heap.get? c = some o → h'.get? c = some o) → R (Itez n goA goB valA valB) H1 →
      wpAny (model X.prog X.w) X.A (spliced (backTo pos [])) (fun us s2 => wpAny (model X.prog X.w) X.A (call (.type "enumerate") (.ref (s1.heap.objs.size + 4) :: us)) (fun v s3 => wpAny (model X.prog X.w) X.A (pyIter v) (PIE X pins σ (.Tuple elts kk tpos) R) X.xe s3) X.xe s2) X.xe { s1 with heap := h' } := by
    intro h' J n goA goB valA valB tA tB SA SB hz hTI hTO h1 h2 hsz hk q
    refine Calls.spliced_nil ?_
    refine call_ez (s := { s1 with heap := h' }) hz fun h2' he hsz2 hk2 => wpAny_pyIter_enum he ?_
    replace he : IsEnum h2' h'.objs.size (s1.heap.objs.size + 4) 0 .none := he
    replace hk2 : ∀ b o, h'.get? b = some o → h2'.get? b = some o := hk2
    rw [hsz] at he
    have I2 : Inv X pins σ H1 { s1 with heap := h2' } := I1.kept (t' := s1.toks) fun b o q => hk2 b o (hk b o q)
    refine ⟨s1.heap.objs.size + 5, [s1.heap.objs.size + 5, s1.heap.objs.size + 4, s1.heap.objs.size + 2, s1.heap.objs.size + 3, s1.heap.objs.size, s1.heap.objs.size + 1], _, _, H1, by show Value.ref h'.objs.size = _; rw [hsz], I2, turn_ez SA SB (nd6 _), ⟨Nat.zero_le _, ⟨.none, he⟩, ⟨.none, false, hk2 _ _ hz, .inl rfl⟩, hk2 _ _ hTI, ⟨_, _, hk2 _ _ hTO⟩, SA.keep _ _ _ h1 fun o q => hk2 _ o q, SB.keep _ _ _ h2 fun o q => hk2 _ o q⟩, fun c hcm => ?_, q⟩
    have hle : s1.heap.objs.size ≤ c := by
      rcases (by simpa using hcm : c = s1.heap.objs.size + 5 ∨ c = s1.heap.objs.size + 4 ∨ c = s1.heap.objs.size + 2 ∨ c = s1.heap.objs.size + 3 ∨ c = s1.heap.objs.size ∨ c = s1.heap.objs.size + 1) with z | z | z | z | z | z <;> rw [z]
      all_goals first | exact Nat.le_refl _ | exact Nat.le_add_right _ _
    exact I1.fpOk hle (I1.hok.fresh hle)
  rcases q1 with ⟨a, b, xs, ys, ex, hqx, hqy, hl, q⟩ | ⟨x, y, ex, hl, q⟩
  · subst ex
    cases r1 with
    | cons r rr =>
      cases rr with
      | cons r' rr =>
        cases rr
        cases r
        cases r'
        obtain ⟨its, rv, p1, _⟩ := I1.list (SqL.of hqx)
        obtain ⟨its2, rv2, p2', _⟩ := I1.list (SqL.of hqy)
        exact call_zip_2 p1.isList p2'.isList fun h' hz hTI hTO h1 h2 hsz hk => wrap h' (Itez xs.length (goL a xs.length) (goL b xs.length) (valL a) (valL b)) _ _ _ _ _ _ _ side_list side_list hz hTI hTO h1 h2 hsz hk q
  · subst ex
    cases r1 with
    | cons r rr =>
      cases rr with
      | cons r' rr =>
        cases rr
        obtain ⟨t, rfl⟩ := r
        obtain ⟨u, rfl⟩ := r'
        have sb : Side X.prog X.w X.K (s1.heap.objs.size + 1) y.cps.size (fun _ => True) (valS y) (fun i h => h.IsStrIter (s1.heap.objs.size + 1) (strIterType y) y u i) := side_str
        rw [← hl] at sb
        exact call_zs fun h' hz hTI hTO h1 h2 hsz hk => wrap h' (Itez x.cps.size (fun _ => True) (fun _ => True) (valS x) (valS y)) x.cps.size _ _ _ _ _ _ side_str sb hz hTI hTO h1 h2 hsz hk q
end G

/-! The data layer: dicts. -/
namespace G
open PySem PySem.Spec PyProof.Rows L2
def kD : Key → D
  | .inl i => .int i
  | .inr x => .str x
theorem kV_rep {K : PySem.W.Frag} {H : Hp} : ∀ k : Key, Rep K H (kV k) (kD k)
  | .inl i => .int i
  | .inr x => .str x
theorem kV_of {K : PySem.W.Frag} {H : Hp} {v : V} : ∀ {k : Key}, Rep K H v (kD k) → v = kV k
  | .inl i, r => by
    have r' : Rep K H v (.int i) := r
    cases r'
    rfl
  | .inr x, r => by
    have r' : Rep K H v (.str x) := r
    cases r'
    rfl
/-- what stands at a key -/
def valD {κ : Type} [DecidableEq κ] : List κ → List D → κ → Option D
  | k :: ks, d :: ds, x => if k = x then some d else valD ks ds x
  | _, _, _ => none
theorem val_rep {κ : Type} [DecidableEq κ] {K : PySem.W.Frag} {H : Hp} : ∀ {kvs : List (κ × V)} {ds : List D}, RepL K H (kvs.map (·.2)) ds → ∀ {k : κ}, (valD (kvs.map (·.1)) ds k = none → valV kvs k = none) ∧ ∀ {d : D}, valD (kvs.map (·.1)) ds k = some d → ∃ v, valV kvs k = some v ∧ (v, d) ∈ (kvs.map (·.2)).zip ds
  | [], [], _, k => ⟨fun _ => rfl, fun h => by cases h⟩
  | [], _ :: _, r, _ => by cases r
  | _ :: _, [], r, _ => by cases r
  | (x, v) :: kvs, d :: ds, r, k => by
    cases r with
    | cons r1 r2 =>
      obtain ⟨ih1, ih2⟩ := val_rep r2 (k := k)
      by_cases hk : x = k
      · refine ⟨fun h => ?_, fun h => ?_⟩
        · have h' : (if x = k then some d else valD (kvs.map (·.1)) ds k) = none := h
          rw [if_pos hk] at h'
          cases h'
        · have h' : (if x = k then some d else valD (kvs.map (·.1)) ds k) = some _ := h
          rw [if_pos hk] at h'
          cases h'
          exact ⟨v, valV_pos hk, by simp⟩
      · refine ⟨fun h => ?_, fun h => ?_⟩
        · have h' : (if x = k then some d else valD (kvs.map (·.1)) ds k) = none := h
          rw [if_neg hk] at h'
          rw [valV_neg hk]
          exact ih1 h'
        · have h' : (if x = k then some d else valD (kvs.map (·.1)) ds k) = some _ := h
          rw [if_neg hk] at h'
          obtain ⟨v', e1, e2⟩ := ih2 h'
          exact ⟨v', by rw [valV_neg hk]; exact e1, by rw [List.map_cons, List.zip_cons_cons]; exact List.mem_cons_of_mem _ e2⟩
/-- the dict of the store, be it locked or not -/
def DicAt (m : Sto) (a : Addr) (ks : List Key) (ds : List D) : Prop := m a = some (.dic ks ds) ∨ ∃ od kvs, m a = some (.lk od kvs ks ds)
section
variable {K : PySem.W.Frag} {r : Sto} {H : Hp} {m : Sto} {T : RT} {a : Addr} {ks : List Key} {ds : List D}
theorem Hd.dicO (h : Hd K r H m T) (t : m a = some (.dic ks ds)) : ∃ kvs, H a = some (.dK kvs) ∧ kvs.map (·.1) = ks ∧ (kvs.map (·.2)).length = ds.length ∧ Hd K r H m (PlL T (kvs.map (·.2)) ds) := by
  obtain ⟨h0, Hi, h1, h2, h3⟩ := h
  obtain ⟨q0, u, q, r⟩ := h2 _ _ (sun_l t)
  cases u with
  | dK kvs =>
    obtain ⟨e1, e2⟩ := r
    exact ⟨kvs, q, e1, e2.length, h0, Hi, h1, h2, fun v d x => x.elim (h3 v d) fun hm => RepL.mem_zip e2 hm⟩
  | _ => exact False.elim r
theorem Hd.lkO {od : Obj} {kvs : List (Key × V)} (h : Hd K r H m T) (t : m a = some (.lk od kvs ks ds)) : H a = some (.frz od (.dK kvs)) ∧ kvs.map (·.1) = ks ∧ (kvs.map (·.2)).length = ds.length ∧ Hd K r H m (PlL T (kvs.map (·.2)) ds) := by
  obtain ⟨h0, Hi, h1, h2, h3⟩ := h
  obtain ⟨q0, u, q, r⟩ := h2 _ _ (sun_l t)
  cases u with
  | frz ob u =>
    obtain ⟨rfl, rfl, e1, e2⟩ := r
    exact ⟨q, e1, e2.length, h0, Hi, h1, h2, fun v d x => x.elim (h3 v d) fun hm => RepL.mem_zip e2 hm⟩
  | _ => exact False.elim r
theorem Hd.dicR (h : Hd K r H m T) (t : DicAt m a ks ds) : ∃ kvs, Rd H a (.dK kvs) ∧ kvs.map (·.1) = ks ∧ (kvs.map (·.2)).length = ds.length ∧ Hd K r H m (PlL T (kvs.map (·.2)) ds) := by
  rcases t with t | ⟨od, kvs, t⟩
  · obtain ⟨kvs, q, rest⟩ := h.dicO t
    exact ⟨kvs, .inl q, rest⟩
  · obtain ⟨q, rest⟩ := h.lkO t
    exact ⟨kvs, .inr ⟨od, q⟩, rest⟩
/-- a read of a dict -/
theorem Hd.dget {v : V} {k : Key} (h : Hd K r H m T) (t : DicAt m a ks ds) (tv : T v (kD k)) : (valD ks ds k = none → DGet H a v none) ∧ ∀ d, valD ks ds k = some d → ∃ u, DGet H a v (some u) ∧ Hd K r H m (Pl T u d) := by
  obtain ⟨kvs, hr, e, hl, h2⟩ := h.dicR t
  subst e
  have ek := kV_of (h.rep tv)
  subst ek
  obtain ⟨z1, z2⟩ := val_rep (RepL.of_zip hl fun v d z => h2.rep (.inr z)) (k := k)
  refine ⟨fun e => .inl ⟨kvs, k, hr, rfl, (z1 e).symm⟩, fun d e => ?_⟩
  obtain ⟨u, e1, e2⟩ := z2 e
  exact ⟨u, .inl ⟨kvs, k, hr, rfl, e1.symm⟩, h2.le fun x y t => by
    rcases t with t | ⟨rfl, rfl⟩
    · exact .inl t
    · exact .inr e2⟩
end
section
variable {C : Ct} {W : DW} {δ : Sl} {m : Sto} {b c e o i f : Expr} {es : List Expr} {pos pos' apos cpos : Pos} {Q : D → Sto → Prop} {D : DEn}
theorem units1 {X : Cx} (f : Fits C X) : X.A.units + 1 < cLine := by have := f.un; omega
/-- {} -/
theorem de_dict0 (q : ∀ p, m p = none → Q (.ref p) (sput m p (.dic [] []))) : DE C W (.Dict [] [] pos) δ m Q := fun X S fx tk σ H T le sl hh => WE.of pe_dnewK fun p hp => ⟨.ref p, sput m p (.dic [] []), hh.newM hp fun _ _ => ⟨rfl, .nil⟩, q p (hh.free hp)⟩
/-- d[k] -/
theorem de_dget (h : DE C W o δ m fun d m1 => DE C W i δ m1 fun y m2 => ∃ a ks ds k v, d = .ref a ∧ y = kD k ∧ DicAt m2 a ks ds ∧ valD ks ds k = some v ∧ Q v m2) (hs : NoSl i := by intro _ _; rfl) : DE C W (.Subscript o i pos) δ m Q := by
  intro X S fx tk σ H T le sl hh
  refine WE.of (pe_dget (units1 fx) we we hs) ((h X S fx tk σ H T le sl hh).mono fun v H1 ⟨d, m1, h1, q⟩ => ?_)
  refine (q X S fx tk σ H1 _ (le.trans Pl.le) (sl.le Pl.le) h1).mono fun u H2 ⟨y, m2, h2, a, ks, ds, k, z, ed, ey, hm, hv, q2⟩ => ?_
  subst ed ey
  have r := h2.rep (.inl Pl.it : Pl (Pl T v (.ref a)) u (kD k) v (.ref a))
  cases r
  obtain ⟨w, g, h3⟩ := (h2.dget hm Pl.it).2 z hv
  exact ⟨a, w, rfl, g, z, m2, h3.le (Pl.mono (Pl.le.trans Pl.le)), q2⟩
/-- d.get(k, x) -/
theorem de_dget2 (h : DE C W o δ m fun d m1 => ∃ a ks0 ds0, d = .ref a ∧ DicAt m1 a ks0 ds0 ∧ DE C W e δ m1 fun y m2 => DE C W f δ m2 fun x m3 => ∃ ks ds k, y = kD k ∧ DicAt m3 a ks ds ∧ Q ((valD ks ds k).getD x) m3)
    (hm : ∀ X : Cx, M2 X o "get" apos e f cpos := by intro _; exact ⟨rfl, rfl, rfl, rfl⟩) : DE C W (.Call (.Attribute o "get" apos) [e, f] [] cpos) δ m Q := by
  intro X S fx tk σ H T le sl hh
  refine WE.of (pe_dget2 (units1 fx) we we we (hm X)) ((h X S fx tk σ H T le sl hh).mono fun v H1 ⟨d, m1, h1, a, ks0, ds0, ed, hm0, q⟩ => ?_)
  subst ed
  have r := h1.rep Pl.it
  cases r
  obtain ⟨kvs0, hr0, _⟩ := h1.dicR hm0
  refine ⟨a, rfl, .inl ⟨kvs0, hr0⟩, (q X S fx tk σ H1 _ (le.trans Pl.le) (sl.le Pl.le) h1).mono fun u H2 ⟨y, m2, h2, q2⟩ => ?_⟩
  refine (q2 X S fx tk σ H2 _ (le.trans (Pl.le.trans Pl.le)) (sl.le (Pl.le.trans Pl.le)) h2).mono fun w H3 ⟨x, m3, h3, ks, ds, k, ey, hm3, q3⟩ => ?_
  subst ey
  obtain ⟨g1, g2⟩ := h3.dget (k := k) (v := u) hm3 (.inl Pl.it)
  cases hv : valD ks ds k with
  | none =>
    rw [hv] at q3
    exact ⟨none, g1 hv, x, m3, h3.le (Pl.mono (Pl.le.trans Pl.le)), q3⟩
  | some z =>
    rw [hv] at q3
    obtain ⟨w2, g, h4⟩ := g2 z hv
    exact ⟨some w2, g, z, m3, h4.le (Pl.mono (Pl.le.trans (Pl.le.trans Pl.le))), q3⟩
/-- k in d, k not in d -/
theorem de_din (h : DE C W i δ m fun y m1 => DE C W o δ m1 fun d m2 => ∃ a ks ds k, y = kD k ∧ d = .ref a ∧ DicAt m2 a ks ds ∧ Q (.bl (valD ks ds k).isSome) m2) (hb : behindInMarks .In o = false := by with_unfolding_all rfl) : DE C W (.Compare i [.In] [o] pos) δ m Q := by
  intro X S fx tk σ H T le sl hh
  refine WE.of (L2.pe_cmp (pc_din (units1 fx) we we) hb) ((h X S fx tk σ H T le sl hh).mono fun u H1 ⟨y, m1, h1, q⟩ => ?_)
  refine (q X S fx tk σ H1 _ (le.trans Pl.le) (sl.le Pl.le) h1).mono fun v H2 ⟨d, m2, h2, a, ks, ds, k, ey, ed, hm, q2⟩ => ?_
  subst ed ey
  have r := h2.rep Pl.it
  cases r
  obtain ⟨g1, g2⟩ := h2.dget (k := k) (v := u) hm (.inl Pl.it)
  cases hv : valD ks ds k with
  | none =>
    rw [hv] at q2
    exact ⟨a, none, rfl, g1 hv, dK.le (dk_bl h2 q2) (Pl.le.trans Pl.le)⟩
  | some z =>
    rw [hv] at q2
    obtain ⟨w2, g, _⟩ := g2 z hv
    exact ⟨a, some w2, rfl, g, dK.le (dk_bl h2 q2) (Pl.le.trans Pl.le)⟩
theorem de_dnotin (h : DE C W i δ m fun y m1 => DE C W o δ m1 fun d m2 => ∃ a ks ds k, y = kD k ∧ d = .ref a ∧ DicAt m2 a ks ds ∧ Q (.bl (!(valD ks ds k).isSome)) m2) (hb : behindInMarks .NotIn o = false := by with_unfolding_all rfl) : DE C W (.Compare i [.NotIn] [o] pos) δ m Q := by
  intro X S fx tk σ H T le sl hh
  refine WE.of (L2.pe_cmp (pc_dnotin (units1 fx) we we) hb) ((h X S fx tk σ H T le sl hh).mono fun u H1 ⟨y, m1, h1, q⟩ => ?_)
  refine (q X S fx tk σ H1 _ (le.trans Pl.le) (sl.le Pl.le) h1).mono fun v H2 ⟨d, m2, h2, a, ks, ds, k, ey, ed, hm, q2⟩ => ?_
  subst ed ey
  have r := h2.rep Pl.it
  cases r
  obtain ⟨g1, g2⟩ := h2.dget (k := k) (v := u) hm (.inl Pl.it)
  cases hv : valD ks ds k with
  | none =>
    rw [hv] at q2
    exact ⟨a, none, rfl, g1 hv, dK.le (dk_bl h2 q2) (Pl.le.trans Pl.le)⟩
  | some z =>
    rw [hv] at q2
    obtain ⟨w2, g, _⟩ := g2 z hv
    exact ⟨a, some w2, rfl, g, dK.le (dk_bl h2 q2) (Pl.le.trans Pl.le)⟩
/-- list(d) -/
def listKD : RLD := fun ds m Q => ∃ a ks es, ds = [.ref a] ∧ DicAt m a ks es ∧ Q (.lst (ks.map kD)) m
theorem cd_listK (hcm : C.cm = true := by rfl) : CallD C (.type "list") listKD := by
  rintro X fx fr H m T vs ds Q hl hh ⟨a, ks, es, rfl, hm, q⟩
  obtain ⟨v, rfl⟩ := one_of hl
  have r := hh.rep (PlL.at (i := 0) (v := v) (d := .ref a) rfl rfl)
  cases r
  obtain ⟨kvs, hr, e, _, h2⟩ := hh.dicR hm
  subst e
  refine wc_of (call_listD (fx.calm hcm)) ⟨a, kvs, rfl, hr, fun p hp => dK.le (dk_lst hh hp (fun Hi k => ?_) q) PlL.le⟩
  have : ∀ kvs : List (Key × V), RepL C.K Hi (kvs.map fun kv => kV kv.1) ((kvs.map (·.1)).map kD) := fun kvs => by
    induction kvs with
    | nil => exact .nil
    | cons p l ih => exact .cons (kV_rep p.1) ih
  exact this kvs
/-- sorted of a list of whole numbers that is data -/
def sortedD : RLD := fun ds m Q => ∃ ns : List Int, ds = [.lst (ns.map G.D.int)] ∧ ∀ ns' : List Int, ns'.Perm ns → ns'.Pairwise (· ≤ ·) → Q (.lst (ns'.map G.D.int)) m
/-- an expression while a dict is locked -/
theorem de_lock (a : Addr) {ks : List Key} {ds : List G.D} (hm : m a = some (.dic ks ds)) (h : ∀ od kvs, DE C W e δ (sput m a (.lk od kvs ks ds)) fun d m1 => m1 a = some (.lk od kvs ks ds) ∧ Q d (sput m1 a (.dic ks ds))) : DE C W e δ m Q := by
  intro X S fx tk σ H T le sl hh
  obtain ⟨kvs, hu, ek, hl, _⟩ := hh.dicO hm
  refine WE.of (pe_lock we) ⟨a, .dK kvs, hu, trivial, fun od => ?_⟩
  have h1 := hh.mut (u' := .frz od (.dK kvs)) (o' := .lk od kvs ks ds) hm hu fun Hi r _ => ⟨rfl, rfl, r.1, r.2⟩
  refine (h od kvs X S fx tk σ _ T le sl h1).mono fun v H2 ⟨d, m2, h2, hm2, q⟩ => ?_
  obtain ⟨hu2, _⟩ := h2.lkO hm2
  exact ⟨hu2, d, _, h2.mut (u' := .dK kvs) (o' := .dic ks ds) hm2 hu2 fun Hi r _ => ⟨r.2.2.1, r.2.2.2⟩, q⟩
end
end G

/-! The data layer: walks over dicts (the dict stands locked in the store). -/
namespace G
open PySem PySem.Spec PyProof.Rows L2
/-- J walks the data ds, while T' holds and the store has o at a -/
structure WalksG (K : PySem.W.Frag) (J : It) (ds : List D) (T' : RT) (a : Addr) (o : O) : Prop where
  go : ∀ (i : Nat) (r : Sto) (H : Hp) (m : Sto) (T : RT), i < ds.length → Le T' T → m a = some o → Hd K r H m T → J.go i H
  yld : ∀ (i : Nat) (r : Sto) (H H' : Hp) (m : Sto) (T : RT) (x : V) (d : D), ds[i]? = some d → Le T' T → m a = some o → Hd K r H m T → J.yld i H x H' → Hd K r H' m (Pl T x d)
  stop : ∀ (i : Nat) (r : Sto) (H : Hp) (m : Sto) (T : RT), ds.length ≤ i → Le T' T → m a = some o → Hd K r H m T → J.stop i H
section
variable {C : Ct} {W : DW} {δ : Sl} {m : Sto} {tg iter e : Expr} {pos pos' apos cpos : Pos}
def DIg (C : Ct) (W : DW) (tg iter : Expr) (δ : Sl) (m : Sto) (R : List D → Addr → O → Sto → Prop) : Prop :=
  ∀ (X : Cx) (S : Fr), Fits C X → Takes X (liftW C.K W S) → ∀ (σ : L2.St) (H : Hp) (T : RT), Le S.t T → SlotsIn σ δ T → Hd C.K S.r H m T → WI X tg iter σ H fun J H' => ∃ ds a o m' T', Le T T' ∧ Hd C.K S.r H' m' T' ∧ WalksG C.K J ds T' a o ∧ R ds a o m'
/-- the keys of a locked dict -/
theorem di_keys {R : List D → Addr → O → Sto → Prop} (h : DE C W e δ m fun d m1 => ∃ a od kvs ks ds, d = .ref a ∧ m1 a = some (.lk od kvs ks ds) ∧ R (ks.map kD) a (.lk od kvs ks ds) m1) : DIg C W tg e δ m R := by
  intro X S f tk σ H T le sl hh
  refine WI.of (pi_keys we) ((h X S f tk σ H T le sl hh).mono fun v H1 ⟨d, m1, h1, a, od, kvs, ks, ds, ed, hm, q⟩ => ?_)
  subst ed
  have r := h1.rep Pl.it
  cases r
  obtain ⟨hu, ek, _, _⟩ := h1.lkO hm
  subst ek
  refine ⟨a, od, rfl, .inl ⟨kvs, hu, _, a, _, m1, _, Pl.le, h1, ?_, q⟩⟩
  refine ⟨fun i r H m T' hi l hm hd => ?_, fun i r H H' m T' x d hi l hm hd y => ?_, fun i r H m T' hi l hm hd => ?_⟩
  · exact ⟨(hd.lkO hm).1, by simpa using hi⟩
  · obtain ⟨e, k, v, hk, ex⟩ := y
    subst e ex
    rw [List.map_map, List.getElem?_map, hk] at hi
    have hi2 : kD k = d := Option.some.inj hi
    subst hi2
    exact hd.pl fun _ _ => kV_rep k
  · exact ⟨(hd.lkO hm).1, by simpa using hi⟩
end
section
variable {C : Ct} {W : DW} {δ : Sl} {m : Sto} {a b c e : Expr} {es : List Expr} {pos pos' : Pos}
def LcIg (C : Ct) (W : DW) (elt tg iter : Expr) (ifs : List Expr) (scope : Scope) (own : List (Str × Nat)) (δ : Sl) (m : Sto) (Q : D → Sto → Prop) : Prop :=
  DIg C W tg iter δ m fun ds ga go m1 => ∃ I : Nat → List D → Sto → Prop, I 0 [] m1 ∧ (∀ (i : Nat) (d : D) (acc : List D) (m' : Sto), ds[i]? = some d → I i acc m' →
      DGv (C.blk scope) (own.map (·.2)) tg d (wipeS δ (own.map (·.2))) m' fun δ2 m2 => DTs (C.blk scope) W0 ifs δ2 m2 fun k m3 => br k (DE (C.blk scope) W0 elt δ2 m3 fun y m4 => acc.length < sizeLine ∧ I (i + 1) (acc ++ [y]) m4) (I (i + 1) acc m3)) ∧
      (∀ i acc m', I i acc m' → m' ga = some go) ∧ ∀ acc m', I ds.length acc m' → Q (.lst acc) m'
theorem lc_readg {elt tg iter : Expr} {ifs : List Expr} {scope : Scope} {own : List (Str × Nat)} {Q : D → Sto → Prop} (h : LcIg C W elt tg iter ifs scope own δ m Q)
    {X : Cx} {S : Fr} (f : Fits C X) (tk : Takes X (liftW C.K W S)) {σ : L2.St} {H : Hp} {T : RT} (le : Le S.t T) (sl : SlotsIn σ δ T) (hh : Hd C.K S.r H m T) {Qv : VK} (fin : ∀ p H' acc m' T', Le T T' → m' p = none → Hd C.K S.r H' (sput m' p (.lst acc)) T' → Q (.lst acc) m' → Qv (.ref p) H') :
    tLc (WI X tg iter) (rdG X scope tg) (rdT X scope ifs) (rdE X scope elt) (own.map (·.2)) σ H Qv := by
  refine WI.mono (h X S f tk σ H T le sl hh) fun J H1 ⟨ds, ga, go, m1, T1, le1, h1, wk, I, i0, istep, ig, iend⟩ Dp hD => ?_
  have hm1 := h1.free hD
  have h0 : Hd C.K S.r (upd H1 Dp (.lst [])) (sput m1 Dp (.lst [])) (Pl T1 (.ref Dp) (.ref Dp)) := h1.newM (o := .lst []) hD fun _ _ => RepL.nil
  show ∃ W : Nat → Nat → Hp → Prop, _
  refine Exists.intro (fun (i n : Nat) (H' : Hp) => n = ds.length - i ∧ i ≤ ds.length ∧ ∃ (acc : List D) (m' : Sto) (T' : RT), Le T1 T' ∧ m' Dp = none ∧ Hd C.K S.r H' (sput m' Dp (.lst acc)) T' ∧ I i acc m') (And.intro (Exists.intro ds.length ?_) ?_)
  · exact ⟨rfl, Nat.zero_le _, [], m1, _, Pl.le, hm1, h0, i0⟩
  rintro i n H' ⟨rfl, hi, acc, m', T', le', hm', hh', ih⟩
  have drop : Hd C.K S.r H' (sput m' Dp (.lst acc)) T' → Hd C.K (sun (sone Dp (.lst acc)) S.r) H' m' T' := fun z => by
    rw [← sun_one hm'] at z
    exact z.push (sdj_one hm')
  have hga := ig i acc m' ih
  have hgp : (sput m' Dp (.lst acc)) ga = some go := by
    rw [sput_ne fun e => by rw [e, hm'] at hga; cases hga]
    exact hga
  by_cases hlt : i < ds.length
  · refine .inr ⟨wk.go i S.r H' _ T' hlt le' hgp hh', fun H2 => i + 1 ≤ ds.length ∧ ∃ acc m' T', Le T1 T' ∧ m' Dp = none ∧ Hd C.K S.r H2 (sput m' Dp (.lst acc)) T' ∧ I (i + 1) acc m', fun H2 ⟨u, v⟩ => ⟨ds.length - (i + 1), by omega, rfl, u, v⟩, fun x H2 y => ?_⟩
    have hd := List.getElem?_eq_getElem hlt
    have h2 := drop hh'
    have h2 : Hd C.K (sun (sone Dp (.lst acc)) S.r) H2 m' (Pl T' x _) := wk.yld i _ H' H2 m' T' x _ hd le' hga h2 y
    have dj1 : sdj (sone Dp (.lst acc)) S.r := fun b u eb => by
      unfold sone at eb
      split at eb
      · rename_i e
        subst e
        exact hh'.1 b _ sput_same
      · cases eb
    have slw := (sl.le (le1.trans le')).wipe (own.map (·.2))
    have st := istep i _ acc m' hd ih
    have leS : Le S.t (Pl T' x ds[i]) := le.trans (le1.trans (le'.trans Pl.le))
    -- behind the element, or behind the test alone
    intro s H0 cc cl fp
    have fb : Fits (C.blk scope) (X.blk s H0 scope (compEnvC scope cl cc X.env) fp) := f.blk
    refine WG.mono (st (X.blk s H0 scope (compEnvC scope cl cc X.env) fp) ⟨S.t, sun (sone Dp (.lst acc)) S.r⟩ fb x (wipe σ (own.map (·.2))) H2 _ leS (slw.le Pl.le) Pl.it h2) ?_
    rintro σ3 H3 ⟨w3, δ3, m3, T3, le3, sl3, h3, q3⟩
    refine ⟨w3.trans wipe_idem, ?_⟩
    intro s' H0' cc' cl' fp'
    have fb' : Fits (C.blk scope) (X.blk s' H0' scope (compEnvC scope cl' cc' X.env) fp') := f.blk
    refine WTs.mono (q3 (X.blk s' H0' scope (compEnvC scope cl' cc' X.env) fp') ⟨S.t, sun (sone Dp (.lst acc)) S.r⟩ fb' takes_W0 σ3 H3 T3 (leS.trans le3) sl3 h3) fun k H4 ⟨m4, h4, q4⟩ => ?_
    cases k with
    | true =>
      rw [if_pos rfl]
      intro s'' H0'' cc'' cl'' fp''
      have fb'' : Fits (C.blk scope) (X.blk s'' H0'' scope (compEnvC scope cl'' cc'' X.env) fp'') := f.blk
      refine (q4.1 rfl (X.blk s'' H0'' scope (compEnvC scope cl'' cc'' X.env) fp'') ⟨S.t, sun (sone Dp (.lst acc)) S.r⟩ fb'' takes_W0 σ3 H4 T3 (leS.trans le3) sl3 h4).mono fun yv H5 ⟨y, m5, h5, hz, q5⟩ => ?_
      obtain ⟨dj5, h6⟩ := Hd.pop h5 dj1
      have hm5 : m5 Dp = none := dj5.sym Dp _ (if_pos rfl)
      rw [sun_one hm5] at h6
      obtain ⟨xs, hx, hl, _⟩ := h6.itemsO sput_same
      refine ⟨xs, hx, by rw [hl]; exact hz, hlt, acc ++ [y], m5, Pl T3 yv y, le'.trans (Pl.le.trans (le3.trans Pl.le)), hm5, ?_, q5⟩
      have h7 := h6.mut (u' := .lst (xs ++ [yv])) (o' := .lst (acc ++ [y])) sput_same hx fun Hi r kk => RepL.snoc r (kk yv y Pl.it)
      rw [sput_sput] at h7
      exact h7
    | false =>
      rw [if_neg Bool.false_ne_true]
      obtain ⟨dj4, h6⟩ := Hd.pop h4 dj1
      have hm4 : m4 Dp = none := dj4.sym Dp _ (if_pos rfl)
      rw [sun_one hm4] at h6
      exact ⟨hlt, acc, m4, T3, le'.trans (Pl.le.trans le3), hm4, h6, q4.2 rfl⟩
  · have ei : i = ds.length := by omega
    subst ei
    exact .inl ⟨wk.stop _ S.r H' _ T' (Nat.le_refl _) le' hgp hh', fin _ _ _ _ _ (le1.trans le') hm' hh' (iend acc m' ih)⟩
/-- [elt for tg in iter if ..] -/
theorem de_lcg {elt tg iter : Expr} {ifs : List Expr} {scope : Scope} (own : List (Str × Nat)) {Q : D → Sto → Prop} (ok : blkC C.N C.sc scope own = true)
    (h : LcIg C W elt tg iter ifs scope own δ m Q) (hs : ∀ env x, foldedSetIterable iter env x = pure x := by intro _ _; rfl) (hcm : C.cm = true := by rfl) : DE C W (.ListComp elt [⟨tg, iter, ifs, 0⟩] scope pos) δ m Q := by
  intro X S f tk σ H T le sl hh
  have okB : BlkOk X.N X.env.scope scope own := by rw [f.N, f.sc]; exact blkOk_by ok
  exact WE.of (pe_lc (te := rdE X scope elt) (tt := rdT X scope ifs) (g := rdG X scope tg) (f.calm hcm) f.nd wi okB (fun s H c cl fp => ⟨fun pins t σ H v u Q I r q => q s _ c cl fp pins t u I r⟩) (fun s H c cl fp => ⟨fun pins t σ H Q I q => q s _ c cl fp pins t I⟩) (fun s H c cl fp => ⟨fun pins t σ H Q I q => q s _ c cl fp pins t I⟩) (hs _))
    (lc_readg h f tk le sl hh fun p H' acc m' T' l hm hd q => ⟨.lst acc, m', lc_frozen l hm hd, q⟩)
end
section
variable {C : Ct} {W : DW} {δ : Sl} {m : Sto} {tg iter : Expr} {pos : Pos} {D : DEn}
/-- for: I holds behind i turns -/
theorem ds_forg {body : List Stmt} (h : DIg C W tg iter δ m fun ds ga go m1 => ∃ I : Nat → Sl → Sto → Prop, I 0 δ m1 ∧ (∀ (i : Nat) (d : G.D) (δ' : Sl) (m' : Sto), ds[i]? = some d → I i δ' m' → DG C W tg d δ' m' fun δ2 m2 => DSs C W body δ2 m2 { D with nx := I (i + 1), ct := I (i + 1), bk := D.nx }) ∧ (∀ i δ' m', I i δ' m' → m' ga = some go) ∧ ∀ δ' m', I ds.length δ' m' → D.nx δ' m')
    (hs : ∀ env x, foldedSetIterable iter env x = pure x := by intro _ _; rfl) (hcm : C.cm = true := by rfl) : DS C W (.For tg iter body [] pos) δ m D := by
  intro X S f tk σ H T le sl hh
  refine WS.of (ps_for f.own (f.calm hcm) wi wg wss (hs _)) ((h X S f tk σ H T le sl hh).mono fun J H1 ⟨ds, ga, go, m1, T1, le1, h1, wk, I, h0, hstep, hg, hend⟩ => ?_)
  refine ⟨fun i n σ' H' => n = ds.length - i ∧ i ≤ ds.length ∧ ∃ δ' m' T', Le T1 T' ∧ SlotsIn σ' δ' T' ∧ Hd C.K S.r H' m' T' ∧ I i δ' m', ⟨ds.length, by simp, Nat.zero_le _, δ, m1, T1, Le.refl _, sl.le le1, h1, h0⟩, ?_⟩
  rintro i n σ' H' ⟨rfl, hi, δ', m', T', le', sl', hh', ih⟩
  by_cases hlt : i < ds.length
  · refine .inr ⟨wk.go i S.r H' m' T' hlt le' (hg i _ _ ih) hh', fun σ2 H2 => i + 1 ≤ ds.length ∧ ∃ δ' m' T', Le T1 T' ∧ SlotsIn σ2 δ' T' ∧ Hd C.K S.r H2 m' T' ∧ I (i + 1) δ' m', fun σ2 H2 ⟨a, b⟩ => ⟨ds.length - (i + 1), by omega, rfl, a, b⟩, fun x H2 y => ?_⟩
    have hd := List.getElem?_eq_getElem hlt
    have h2 := wk.yld i S.r H' H2 m' T' x _ hd le' (hg i _ _ ih) hh' y
    refine (hstep i _ δ' m' hd ih X S f tk x σ' H2 _ (le.trans (le1.trans (le'.trans Pl.le))) (sl'.le Pl.le) Pl.it h2).mono fun σ3 H3 ⟨δ3, m3, T3, le3, sl3, h3, q3⟩ => ?_
    -- the body keeps what holds: S is taken as wide as T1
    have tk1 : Takes X (liftW C.K W S) := tk
    refine (q3 X ⟨T1, S.r⟩ f ?_ σ3 H3 T3 (le'.trans (Pl.le.trans le3)) sl3 h3).mono (fun σ4 H4 ⟨δ4, m4, T4, le4, sl4, h4, q4⟩ => ⟨hlt, δ4, m4, T4, le4, sl4, h4, q4⟩) (fun v4 H4 ⟨d4, m4, h4, q4⟩ => ⟨d4, m4, h4.le (Pl.mono (le.trans le1)), q4⟩) (fun σ4 H4 ⟨δ4, m4, T4, le4, sl4, h4, q4⟩ => ⟨δ4, m4, T4, (le.trans le1).trans le4, sl4, h4, q4⟩) (fun σ4 H4 ⟨δ4, m4, T4, le4, sl4, h4, q4⟩ => ⟨hlt, δ4, m4, T4, le4, sl4, h4, q4⟩)
    exact tk.imp fun c d σ5 H5 ⟨δ5, m5, T5, fs, le5, r5⟩ => ⟨δ5, m5, T5, fs, (le.trans le1).trans le5, r5⟩
  · have e : i = ds.length := by omega
    subst e
    exact .inl ⟨wk.stop _ S.r H' m' T' (Nat.le_refl _) le' (hg _ _ _ ih) hh', lift_nx (le.trans (le1.trans le')) sl' hh' (hend _ _ ih)⟩
end
end G

/-! enumerate(zip(a, b)) as data; walks over a list that is an object. -/
namespace G
open PySem PySem.Spec PyProof.Rows L2
def ezAt (i : Nat) : List D → List D → List D
  | x :: xs, y :: ys => .tup [.int (i : Nat), .tup [x, y]] :: ezAt (i + 1) xs ys
  | _, _ => []
theorem ezAt_len : ∀ {xs ys : List D} {i : Nat}, xs.length = ys.length → (ezAt i xs ys).length = xs.length
  | [], [], _, _ => rfl
  | [], _ :: _, _, h => by simp at h
  | _ :: _, [], _, h => by simp at h
  | x :: xs, y :: ys, i, h => by simp [ezAt, ezAt_len (i := i + 1) (by simpa using h : xs.length = ys.length)]
theorem ezAt_get : ∀ {xs ys : List D} {i k : Nat} {d : D}, (ezAt i xs ys)[k]? = some d → ∃ x y, xs[k]? = some x ∧ ys[k]? = some y ∧ d = .tup [.int ((i + k : Nat) : Int), .tup [x, y]]
  | [], _, _, _, _, h => by simp [ezAt] at h
  | _ :: _, [], _, _, _, h => by simp [ezAt] at h
  | x :: xs, y :: ys, i, 0, d, h => by
    simp only [ezAt, List.getElem?_cons_zero, Option.some.injEq] at h
    exact ⟨x, y, rfl, rfl, h.symm⟩
  | x :: xs, y :: ys, i, k + 1, d, h => by
    simp only [ezAt, List.getElem?_cons_succ] at h
    obtain ⟨a, b, h1, h2, h3⟩ := ezAt_get h
    exact ⟨a, b, h1, h2, by rw [h3, show i + 1 + k = i + (k + 1) from by omega]⟩
def sgD (z : Str) : List D := z.cps.toList.map fun c => .str ⟨#[c]⟩
section
variable {C : Ct} {W : DW} {δ : Sl} {m : Sto} {tg iter e a b : Expr} {pos pos' apos cpos : Pos}
theorem walks_ez {K : PySem.W.Frag} {n : Nat} {goA goB : Hp → Prop} {valA valB : Hp → Nat → V → Prop} {xs ys : List D} {T' : RT} (hl : xs.length = n) (hl2 : ys.length = n)
    (gA : ∀ (r : Sto) (H : Hp) (m : Sto) (T : RT), Le T' T → Hd K r H m T → goA H) (gB : ∀ (r : Sto) (H : Hp) (m : Sto) (T : RT), Le T' T → Hd K r H m T → goB H)
    (vA : ∀ (r : Sto) (H : Hp) (m : Sto) (T : RT) (i : Nat) (v : V) (d : D), Le T' T → Hd K r H m T → valA H i v → xs[i]? = some d → Hd K r H m (Pl T v d))
    (vB : ∀ (r : Sto) (H : Hp) (m : Sto) (T : RT) (i : Nat) (v : V) (d : D), Le T' T → Hd K r H m T → valB H i v → ys[i]? = some d → Hd K r H m (Pl T v d)) : Walks K (Itez n goA goB valA valB) (ezAt 0 xs ys) T' := by
  have hlen : (ezAt 0 xs ys).length = n := by rw [ezAt_len (by rw [hl, hl2]), hl]
  refine ⟨fun i r H m T hi le hd => ⟨by rw [← hlen]; exact hi, gA r H m T le hd, gB r H m T le hd⟩, fun i r H H' m T v d hi le hd y => ?_, fun i r H m T hi le hd => ?_⟩
  · obtain ⟨U, Tt, x, z, e1, e2, e3, e4, e5, e6⟩ := y
    subst e1 e4
    obtain ⟨dx, dy, g1, g2, ed⟩ := ezAt_get hi
    subst ed
    have h1 := vA r H m T i x dx le hd e5 g1
    have h2 := vB r H m _ i z dy (le.trans Pl.le) h1 e6 g2
    have h3 : Hd K r (upd H U (.tup [x, z])) m (Pl (Pl (Pl T x dx) z dy) (.ref U) (.tup [dx, dy])) := h2.newI e2 fun Hi hi kk => .tup (.inl (.inl upd_same)) (fun _ _ => upd_same) (.cons (Rep.mono (same_upd hi) (kk _ _ (.inl Pl.it))) (.cons (Rep.mono (same_upd hi) (kk _ _ Pl.it)) .nil))
    have h4 := h3.newI (u := .tup [.int (i : Nat), .ref U]) (d := .tup [.int ((0 + i : Nat) : Int), .tup [dx, dy]]) e3 fun Hi hi kk => .tup (.inl (.inl upd_same)) (fun _ _ => upd_same) (.cons (by rw [Nat.zero_add]; exact .int _) (.cons (Rep.mono (same_upd hi) (kk _ _ Pl.it)) .nil))
    exact h4.le (Pl.mono (Pl.le.trans (Pl.le.trans Pl.le)))
  · exact ⟨by rw [← hlen]; exact hi, gA r H m T le hd, gB r H m T le hd⟩
theorem di_ezL {R : List D → Sto → Prop} {p p2 tpos : Pos} {elts : List Expr} {kk : Nat} (hgE : GlC C "enumerate") (hmE : C.mg "enumerate" = none) (hgZ : GlC C "zip") (hmZ : C.mg "zip" = none)
    (h : DA C W [a, b] δ m fun ds m1 => ∃ xs ys, ds = [.lst xs, .lst ys] ∧ xs.length = ys.length ∧ R (ezAt 0 xs ys) m1)
    (hs : ∀ env, starEach [a, b] env = (false, eval a env) :: starEach [b] env := by intro _; rfl) (hpl : ∀ env, (backTo pos' (starEach [b] env)).any (·.1) = false := by intro _; rfl) :
    DI C W (.Tuple elts kk tpos) (.Call (.Name "enumerate" p) [.Call (.Name "zip" p2) [a, b] [] pos'] [] pos) δ m R := by
  intro X S f tk σ H T le sl hh
  refine WI.of (pi_ez (f.gl hgE) (by rw [f.mg]; exact hmE) (f.gl hgZ) (by rw [f.mg]; exact hmZ) wa (hs _) (hpl _)) ((h X S f tk σ H T le sl hh).mono fun vs H1 ⟨ds, m1, hl, h1, xs, ys, ed, he, q⟩ => ?_)
  subst ed
  match vs, hl with
  | [u, v], _ =>
    obtain ⟨pa, us, rfl, hqa, hla, _⟩ := h1.itemsL (PlL.at (i := 0) (v := u) (d := .lst xs) rfl rfl)
    obtain ⟨pb, vs, rfl, hqb, hlb, _⟩ := h1.itemsL (PlL.at (i := 1) (v := v) (d := .lst ys) rfl rfl)
    refine .inl ⟨pa, pb, us, vs, rfl, hqa, hqb, by omega, ezAt 0 xs ys, m1, _, PlL.le, h1, ?_, q⟩
    have atA : ∀ (r : Sto) (H : Hp) (m : Sto) (T' : RT), Le (PlL T [.ref pa, .ref pb] [.lst xs, .lst ys]) T' → Hd C.K r H m T' → ∃ zs, H pa = some (.lst zs) ∧ zs.length = xs.length ∧ Hd C.K r H m (PlL T' zs xs) := fun r H m T' l hd => by
      obtain ⟨p', zs, e, hy, l2, h5⟩ := hd.itemsL (l _ _ (PlL.at (i := 0) (v := .ref pa) (d := .lst xs) rfl rfl))
      cases e
      exact ⟨zs, hy, l2, h5⟩
    have atB : ∀ (r : Sto) (H : Hp) (m : Sto) (T' : RT), Le (PlL T [.ref pa, .ref pb] [.lst xs, .lst ys]) T' → Hd C.K r H m T' → ∃ zs, H pb = some (.lst zs) ∧ zs.length = ys.length ∧ Hd C.K r H m (PlL T' zs ys) := fun r H m T' l hd => by
      obtain ⟨p', zs, e, hy, l2, h5⟩ := hd.itemsL (l _ _ (PlL.at (i := 1) (v := .ref pb) (d := .lst ys) rfl rfl))
      cases e
      exact ⟨zs, hy, l2, h5⟩
    refine walks_ez hla.symm (by omega) (fun r H m T' l hd => ?_) (fun r H m T' l hd => ?_) (fun r H m T' i x d l hd hv hx => ?_) (fun r H m T' i x d l hd hv hx => ?_)
    · obtain ⟨zs, hy, l2, _⟩ := atA r H m T' l hd
      exact ⟨zs, hy, by omega⟩
    · obtain ⟨zs, hy, l2, _⟩ := atB r H m T' l hd
      exact ⟨zs, hy, by omega⟩
    · obtain ⟨zs, hy, l2, h5⟩ := atA r H m T' l hd
      exact (h5.again (PlL.at (hv zs hy) hx)).le (Pl.mono PlL.le)
    · obtain ⟨zs, hy, l2, h5⟩ := atB r H m T' l hd
      exact (h5.again (PlL.at (hv zs hy) hx)).le (Pl.mono PlL.le)
theorem di_ezS {R : List D → Sto → Prop} {p p2 tpos : Pos} {elts : List Expr} {kk : Nat} (hgE : GlC C "enumerate") (hmE : C.mg "enumerate" = none) (hgZ : GlC C "zip") (hmZ : C.mg "zip" = none)
    (h : DA C W [a, b] δ m fun ds m1 => ∃ x y : Str, ds = [.str x, .str y] ∧ x.length = y.length ∧ R (ezAt 0 (sgD x) (sgD y)) m1)
    (hs : ∀ env, starEach [a, b] env = (false, eval a env) :: starEach [b] env := by intro _; rfl) (hpl : ∀ env, (backTo pos' (starEach [b] env)).any (·.1) = false := by intro _; rfl) :
    DI C W (.Tuple elts kk tpos) (.Call (.Name "enumerate" p) [.Call (.Name "zip" p2) [a, b] [] pos'] [] pos) δ m R := by
  intro X S f tk σ H T le sl hh
  refine WI.of (pi_ez (f.gl hgE) (by rw [f.mg]; exact hmE) (f.gl hgZ) (by rw [f.mg]; exact hmZ) wa (hs _) (hpl _)) ((h X S f tk σ H T le sl hh).mono fun vs H1 ⟨ds, m1, hl, h1, x, y, ed, he, q⟩ => ?_)
  subst ed
  match vs, hl with
  | [u, v], _ =>
    have ra := h1.rep (PlL.at (i := 0) (v := u) (d := .str x) rfl rfl)
    have rb := h1.rep (PlL.at (i := 1) (v := v) (d := .str y) rfl rfl)
    cases ra
    cases rb
    have he' : x.cps.size = y.cps.size := he
    have sig : ∀ (z : Str) (r : Sto) (H : Hp) (m : Sto) (T' : RT) (i : Nat) (v : V) (d : D), Hd C.K r H m T' → valS z H i v → (sgD z)[i]? = some d → Hd C.K r H m (Pl T' v d) := fun z r H m T' i v d hd hv hx => by
      obtain ⟨c, hc, rfl⟩ := hv
      unfold sgD at hx
      rw [List.getElem?_map, Array.getElem?_toList, hc] at hx
      cases hx
      exact hd.pl fun _ _ => .str _
    refine .inr ⟨x, y, rfl, he', ezAt 0 (sgD x) (sgD y), m1, _, PlL.le, h1, ?_, q⟩
    exact walks_ez (by simp [sgD]) (by simp [sgD, he']) (fun _ _ _ _ _ _ => trivial) (fun _ _ _ _ _ _ => trivial) (fun r H m T' i v d _ hd hv hx => sig x r H m T' i v d hd hv hx) (fun r H m T' i v d _ hd hv hx => sig y r H m T' i v d hd hv hx)
/-- a list that is an object, its place as the guard -/
theorem dig_lst {R : List D → Addr → O → Sto → Prop} (h : DE C W e δ m fun d m1 => ∃ p ds, d = .ref p ∧ m1 p = some (.lst ds) ∧ R ds p (.lst ds) m1) : DIg C W tg e δ m R := by
  intro X S f tk σ H T le sl hh
  refine WI.of (pi_list we) ((h X S f tk σ H T le sl hh).mono fun v H1 ⟨d, m1, h1, p, ds, ed, hm, q⟩ => ?_)
  subst ed
  have r := h1.rep Pl.it
  cases r
  obtain ⟨xs, hq, hl, _⟩ := h1.itemsO hm
  refine ⟨p, rfl, ⟨xs, SqL.of hq⟩, ds, p, .lst ds, m1, _, Pl.le, h1, ?_, q⟩
  refine ⟨fun i r H m T' hi l hg hd => ?_, fun i r H H' m T' x d hi l hg hd y => ?_, fun i r H m T' hi l hg hd => ?_⟩
  · obtain ⟨ys, hy, l2, _⟩ := hd.itemsO hg
    exact ⟨ys, ys[i]'(by omega), SqL.of hy, List.getElem?_eq_getElem (by omega)⟩
  · obtain ⟨ys, hy, l2, h5⟩ := hd.itemsO hg
    obtain ⟨e, y⟩ := y
    subst e
    exact (h5.again (PlL.at (y ys (SqL.of hy)) hi)).le (Pl.mono PlL.le)
  · obtain ⟨ys, hy, l2, _⟩ := hd.itemsO hg
    exact ⟨ys, SqL.of hy, by omega⟩
end
end G

/-! k26: what its defs do. -/
namespace G
open PySem PySem.Spec PyProof.Rows L2
def FPutsP : DF := fun ds m Q _ => ∃ (h w : Nat) (a b : List Str), ds = [.lst (a.map D.str), .lst (b.map D.str)] ∧ h ≤ 100 ∧ w ≤ 100 ∧ Draw h w a ∧ Draw h w b ∧ ∀ p, m p = none → Q (.ref p) (sput m p (.lst ((allQ a b w h).map Stp.D)))
theorem FPutsP.len : ∀ ds m Q E, FPutsP ds m Q E → ds.length = (["old", "new"] : List Str).length := by
  rintro ds m Q E ⟨_, _, _, _, rfl, _⟩
  rfl
def FPutsL : DF := fun ds m Q _ => ∃ (h w : Nat) (a b : List Str), ds = [.lst (a.map D.str), .lst (b.map D.str)] ∧ 1 ≤ h ∧ h ≤ 100 ∧ w ≤ 100 ∧ Draw h w a ∧ Draw h w b ∧ Q (.lst ((allQ a b w h).map Stp.D)) m
theorem FPutsL.len : ∀ ds m Q E, FPutsL ds m Q E → ds.length = (["_law_old", "_law_new"] : List Str).length := by
  rintro ds m Q E ⟨_, _, _, _, rfl, _⟩
  rfl
def FBehindO : DF := fun ds m Q _ => ∃ (h w : Nat) (rows : List Str) (l : List Stp) (q : Addr), ds = [.lst (rows.map D.str), .ref q] ∧ m q = some (.lst (l.map Stp.D)) ∧ h ≤ 100 ∧ w ≤ 100 ∧ Draw h w rows ∧ (∀ s ∈ l, s.Ok h w) ∧ Q (.lst ((l.foldl (stepR w) rows).map D.str)) m
theorem FBehindO.len : ∀ ds m Q E, FBehindO ds m Q E → ds.length = (["rows", "some"] : List Str).length := by
  rintro ds m Q E ⟨_, _, _, _, _, rfl, _⟩
  rfl
def FRows : DF := fun ds m Q _ => ∃ (p : Addr) (T R : Nat) (o : O), ds = [.ref p, .int (T : Nat), .int (R : Nat)] ∧ m p = some o ∧ IsDraw o ∧ T ≤ 100 ∧ R ≤ 100 ∧ ∀ (rs : List Str) (q : Addr) (o' : O), Draw T R rs → IsDraw o' → sput m p o' q = none → Q (.ref q) (sput (sput m p o') q (.lst (rs.map D.str)))
theorem FRows.len : ∀ ds m Q E, FRows ds m Q E → ds.length = (["_law_draw", "_law_tall", "_law_room"] : List Str).length := by
  rintro ds m Q E ⟨_, _, _, _, rfl, _⟩
  rfl
theorem use_rows {M : Sto} {Q : D → Sto → Prop} {E : Value → List (Str × D) → Sto → Prop} {p : Addr} {T R : Nat} {o : O} (hd : IsDraw o) (hT : T ≤ 100) (hR : R ≤ 100)
    (h : ∀ rs q o', Draw T R rs → IsDraw o' → q ≠ p → M q = none → Q (.ref q) (sput (sput M q (.lst (rs.map D.str))) p o')) : FRows [.ref p, .int (T : Nat), .int (R : Nat)] (sput M p o) Q E := by
  refine ⟨p, T, R, o, rfl, sput_same, hd, hT, hR, fun rs q o' dr hd' hq => ?_⟩
  rw [sput_sput] at hq ⊢
  have hpq : p ≠ q := new_ne hq
  rw [sput_comm hpq]
  exact h rs q o' dr hd' hpq.symm (new_put hq)
theorem any_intsQ {k : Int} (ns : List Int) : ((ns.map G.D.int).any fun z => eqvD z (.int k)) = decide (k ∈ ns) := by
  rw [Bool.eq_iff_iff, List.any_map, decide_eq_true_eq, List.any_eq_true]
  refine ⟨fun ⟨j, hj, e⟩ => ?_, fun h => ⟨k, h, ?_⟩⟩
  · have q : eqvD (.int j) (.int k) = true := e
    rw [eqvD_int, beq_iff_eq] at q
    exact q ▸ hj
  · show eqvD (.int k) (.int k) = true
    rw [eqvD_int]
    exact beq_self_eq_true k
theorem in_intsQ {m : Sto} {Q : D → Sto → Prop} {k : Int} {ns : List Int} (q : Q (.bl (decide (k ∈ ns))) m) : inD false (.int k) (.lst (ns.map G.D.int)) m Q := ⟨0, _, Nat.zero_le _, rfl, rfl, okDL_all (fun d hd => by
  obtain ⟨j, _, rfl⟩ := List.mem_map.mp hd
  simp [okD]), by
  rw [if_neg Bool.false_ne_true, any_intsQ]
  exact q⟩
section
variable {h w : Nat} {a b : List Str}
theorem sgD_get {z : Str} {v j : Nat} {x : D} (dr : Draw h w a) (hz : a[v]? = some z) (hj : (sgD z)[j]? = some x) : j < w ∧ x = .str (s1 (sgn a (v : Nat) (j : Nat))) := by
  have hv : v < h := by rw [← dr.1]; exact (List.getElem?_eq_some_iff.mp hz).1
  unfold sgD at hj
  rw [List.getElem?_map] at hj
  obtain ⟨c, hc, rfl⟩ := Option.map_eq_some_iff.mp hj
  have hl := (drw_get dr hv).2
  have hg : a.getD v "" = z := by rw [List.getD_eq_getElem?_getD, hz]; rfl
  rw [hg, TL.len_tl] at hl
  have hjw : j < w := by rw [← hl]; exact (List.getElem?_eq_some_iff.mp hc).1
  have e := sgn_at dr hv hjw
  rw [hg] at e
  have e2 : (TL.tl z)[j]? = some c := hc
  rw [e] at e2
  cases e2
  exact ⟨hjw, rfl⟩
theorem sgD_len {z : Str} : (sgD z).length = z.length := by unfold sgD; rw [List.length_map]; rfl
theorem str_at {v : Nat} {x : D} (hx : (a.map D.str)[v]? = some x) : ∃ z, x = .str z ∧ a[v]? = some z := by
  rw [List.getElem?_map] at hx
  obtain ⟨z, hz, rfl⟩ := Option.map_eq_some_iff.mp hx
  exact ⟨z, rfl, hz⟩
theorem s1_inj {c d : Nat} (h : s1 c = s1 d) : c = d := by
  have := congrArg TL.tl h
  rw [tl_s1, tl_s1] at this
  exact List.head_eq_of_cons_eq this
theorem odd_of {v j : Nat} (h : ¬ s1 (sgn a (v : Nat) (j : Nat)) = s1 (sgn b (v : Nat) (j : Nat))) : oddS a b v j = true := by
  unfold oddS
  rw [bne_iff_ne]
  exact fun e => h (by rw [e])
theorem even_of {v j : Nat} (h : s1 (sgn a (v : Nat) (j : Nat)) = s1 (sgn b (v : Nat) (j : Nat))) : oddS a b v j = false := by
  unfold oddS
  rw [s1_inj h]
  simp
theorem lastQ_odd {v j : Nat} (h : oddS a b v j = true) : lastQ a b v (j + 1) = (j : Nat) := if_pos h
theorem lastQ_even {v j : Nat} (h : oddS a b v j = false) : lastQ a b v (j + 1) = lastQ a b v j := if_neg (by rw [h]; exact Bool.false_ne_true)
theorem step_t {v u : Nat} {acc : List Stp} (h : joined a b v u = true) : stepQ a b v acc u = extL acc (sgn b (v : Nat) (u : Nat)) := if_pos h
theorem step_f {v u : Nat} {acc : List Stp} (h : ¬ joined a b v u = true) : stepQ a b v acc u = acc ++ [.put v u (s1 (sgn b (v : Nat) (u : Nat)))] := if_neg h
theorem PutInv.end_ {v j : Nat} {L : List Stp} (p : PutInv h w a b v j L) (g : joined a b v j = true) : ∃ (L' : List Stp) (u : Nat) (t : Str), L = L' ++ [.put v u t] ∧ u + t.length = j := by
  obtain ⟨g1, g2⟩ := Bool.and_eq_true_iff.mp g
  obtain ⟨L', u, t, e1, e2, _⟩ := p.last (of_decide_eq_true g1) g2
  exact ⟨L', u, t, e1, e2⟩
theorem last_put {L' : List Stp} {v u : Int} {t : Str} : ((L' ++ [Stp.put v u t]).map Stp.D).getLast? = some (.tup [.str "put", .int v, .int u, .str t]) := by
  rw [List.map_append, List.getLast?_append]
  rfl
theorem cut_three {x y z t : D} : cutL [x, y, z, t] none (some 3) = [x, y, z] := cutL_to [x, y, z, t] 3
theorem set_put {L' : List Stp} {v u : Int} {t : Str} {c : Nat} : ((L' ++ [Stp.put v u t]).map Stp.D).set ((L' ++ [Stp.put v u t]).length - 1) (.tup ([.str "put", .int v, .int u] ++ [.str (t ++ s1 c)])) = (extL (L' ++ [Stp.put v u t]) c).map Stp.D := by
  rw [ext_snoc, List.length_append, List.length_singleton, Nat.add_sub_cancel, List.map_append, List.map_append, List.set_append_right _ _ (by rw [List.length_map]; exact Nat.le_refl _), List.length_map, Nat.sub_self]
  rfl
theorem app_put {L : List Stp} {v u : Int} {t : Str} : L.map Stp.D ++ [.tup [.str "put", .int v, .int u, .str t]] = (L ++ [Stp.put v u t]).map Stp.D := by rw [List.map_append]; rfl
theorem mem_odds {v u : Nat} (hu : u < w) : ((u : Int) - 1 ∈ (oddsQ a b v w).map (fun n : Nat => (n : Int))) ↔ joined a b v u = true := by
  unfold joined
  rw [Bool.and_eq_true, decide_eq_true_eq, List.mem_map]
  constructor
  · rintro ⟨n, hn, e⟩
    unfold oddsQ at hn
    obtain ⟨_, h2⟩ := List.mem_filter.mp hn
    have : n = u - 1 := by omega
    subst this
    exact ⟨by omega, h2⟩
  · rintro ⟨h1, h2⟩
    exact ⟨u - 1, List.mem_filter.mpr ⟨List.mem_range.mpr (by omega), h2⟩, by omega⟩
theorem small_len {k : Nat} (hh : h ≤ 100) (hw : w ≤ 100) {v j : Nat} (hv : v ≤ h) (hj : j ≤ w) (hk : k ≤ v * w + j) : k ≤ 20000 := by
  have h1 : v * w ≤ 100 * 100 := Nat.mul_le_mul (by omega) hw
  omega
theorem zz_len : ("zz" : Str).length = 2 := by decide +kernel
def zzLine (z : Str) (u R : Int) : Str := cutS ((cutS z none (some u) ++ "zz") ++ cutS z (some (u + 2)) none) none (some R)
theorem zzLine_ok {z : Str} {u R : Nat} (hz : z.length = R) (ho : PyData.strOk z = true) (hu : u < R) : (zzLine z u R).length = R ∧ PyData.strOk (zzLine z u R) = true := by
  constructor
  · unfold zzLine
    rw [TL.len_tl, cut_to, TL.tl_append, TL.tl_append, cut_to, show ((u : Nat) : Int) + 2 = ((u + 2 : Nat) : Int) from by omega, cut_from, List.length_take, List.length_append, List.length_append, List.length_take, List.length_drop, ← TL.len_tl, ← TL.len_tl, zz_len]
    omega
  · exact cutS_ok (app_ok (app_ok (cutS_ok ho) (by decide +kernel)) (cutS_ok ho))
theorem set_draw {rows : List Str} (dr : Draw h w rows) {v : Nat} {z : Str} (hz : z.length = w ∧ PyData.strOk z = true) : Draw h w (rows.set v z) := by
  refine ⟨by rw [List.length_set]; exact dr.1, fun y hy => ?_⟩
  rcases List.mem_or_eq_of_mem_set hy with hy | rfl
  · exact dr.2 y hy
  · exact hz
theorem ok_rows {rows : List Str} (dr : Draw h w rows) : okD 2 (.lst (rows.map D.str)) = true := by simpa [okD] using ok_strs 1 _ dr.ok
theorem ok_two {r1 r2 : List Str} (d1 : Draw h w r1) (d2 : Draw h w r2) : okD 3 (.lst [.lst (r1.map D.str), .lst (r2.map D.str)]) = true := by
  simpa [okD, okDL] using ⟨ok_rows d1, ok_rows d2⟩
theorem ok_puts (da : Draw h w a) (db : Draw h w b) : okD 2 (.lst ((allQ a b w h).map Stp.D)) = true := by
  simpa [okD] using ok_stps (allQ_inv da db (Nat.le_refl h)).ok
end
end G

namespace K26
open PySem PySem.Spec PyProof.Rows L2 G
def topS (i : Nat) : Stmt := PySem.Challenge.pw_gridscope_k26_puts_between_drawings.main.body.getD i (.Pass ⟨0, 0, 0, 0⟩)
abbrev FnP (K : PySem.W.Frag) (x : Str) (st : Stmt) (f : Addr) (fd : FuncData) : Prop := FunD K x x (defArgs st) (defBody st) (defScope st) [] [] f fd
local macro_rules | `(tactic| walk_at "op") => `(tactic| first | with_reducible refine add_ii ?_ | with_reducible refine sub_ii ?_ | with_reducible refine cmp_ii ?_ | with_reducible refine is_n ?_ | with_reducible refine isnt_n ?_ | with_reducible refine max_ii ?_ | with_reducible refine min_ii ?_ | with_reducible refine int_i ?_ | with_reducible refine int_b ?_ | refine len_l ?_ | refine len_t ?_ | refine isi rfl (by walk_at "kit") ?_)
local macro_rules | `(tactic| walk_at "kit") => `(tactic| first | exact kit_NoneType_bool | exact kit_NoneType_int | exact kit_NoneType_str | exact kit_NoneType_list | exact kit_NoneType_tuple | exact kit_NoneType_dict | exact kit_bool_bool | exact kit_bool_int | exact kit_bool_str | exact kit_bool_list | exact kit_bool_tuple | exact kit_bool_dict | exact kit_int_bool | exact kit_int_int | exact kit_int_str | exact kit_int_list | exact kit_int_tuple | exact kit_int_dict | exact kit_str_bool | exact kit_str_int | exact kit_str_str | exact kit_str_list | exact kit_str_tuple | exact kit_str_dict | exact kit_tuple_bool | exact kit_tuple_int | exact kit_tuple_str | exact kit_tuple_list | exact kit_tuple_tuple | exact kit_tuple_dict | exact kit_list_bool | exact kit_list_int | exact kit_list_str | exact kit_list_list | exact kit_list_tuple | exact kit_list_dict | exact kit_dict_bool | exact kit_dict_int | exact kit_dict_str | exact kit_dict_list | exact kit_dict_tuple | exact kit_dict_dict | exact kit2_NoneType_int_str | exact kit2_bool_int_str | exact kit2_int_int_str | exact kit2_str_int_str | exact kit2_tuple_int_str | exact kit2_list_int_str | exact kit2_dict_int_str)
local macro_rules | `(tactic| walk_at "side") => `(tactic| first | omega | (have hz := sizeLine_eq; omega))

local macro_rules | `(tactic| walk_at "ezlen") => `(tactic| first | (rw [la, lb]) | (rw [List.length_map, List.length_map, da.1, db.1]))
local macro_rules | `(tactic| walk_at "st") => `(tactic| first | exact sput_same | assumption | exact (sput_ne (by assumption)).trans sput_same)
section
variable {P : Program} {w : World} {K : PySem.W.Frag} {mg : Str → Option Value} {base : Heap}

abbrev s__law_begin : Stmt := topS 8
theorem sc__law_begin : FnScope ["_law_script"] ["_law_script"] (defScope s__law_begin) := ⟨rfl, rfl, rfl, by decide +kernel, rfl, by decide +kernel, by decide +kernel⟩
set_option maxHeartbeats 4000000 in
theorem kn__law_begin {f : Addr} {fd : FuncData} (Fn : FnP K "_law_begin" s__law_begin f fd) (g : mg "_law_begin" = some (.ref f)) (m_list : mg "list" = none)  : Kn P w K mg base "_law_begin" 1 (FBegin) := by
  have b : Binds K fd ["_law_script"] [] := FunD.bindsN Fn fun _ _ _ _ _ _ us hl => match us, hl with | [_], _ => rfl
  refine ⟨f, fd, ["_law_script"], ?_, g, Fn.kp, b⟩
  refine def_ok (N := ["_law_script"]) Fn sc__law_begin FBegin.len ?_
  rintro ds m Q E ⟨ns, rfl, hq⟩
  refine dss_cons (ds_ret ?_)
  refine de_lstM ?_
  refine da_cons ?_
  refine de_callTy cd_list rfl m_list bt_list ?_
  refine da_cons ?_
  refine de_sl01 ?_
  refine de_var 0 rfl (.inl rfl) rfl ?_
  refine de_int ?_
  refine ⟨_, rfl, ?_⟩
  refine cut_f ?_
  refine da_nil ?_
  refine list_l rfl ?_
  refine da_cons ?_
  refine de_int ?_
  refine da_cons ?_
  refine de_int ?_
  refine da_cons ?_
  refine de_int ?_
  refine da_cons ?_
  refine de_int ?_
  refine da_nil ?_
  refine ⟨sz_lit rfl, ?_⟩
  intro p hp
  exact hq p _ hp (begin_draw ns)

abbrev s__law_pick : Stmt := topS 6
theorem sc__law_pick : FnScope ["_law_draw", "_law_many", "_law_cell", "_law_got"] ["_law_draw", "_law_many"] (defScope s__law_pick) := ⟨rfl, rfl, rfl, by decide +kernel, rfl, by decide +kernel, by decide +kernel⟩
set_option maxHeartbeats 4000000 in
theorem kn__law_pick {f : Addr} {fd : FuncData} (Fn : FnP K "_law_pick" s__law_pick f fd) (g : mg "_law_pick" = some (.ref f)) (m_len : mg "len" = none)  : Kn P w K mg base "_law_pick" 1 (FPick) := by
  have b : Binds K fd ["_law_draw", "_law_many"] [] := FunD.bindsN Fn fun _ _ _ _ _ _ us hl => match us, hl with | [_, _], _ => rfl
  refine ⟨f, fd, ["_law_draw", "_law_many"], ?_, g, Fn.kp, b⟩
  refine def_ok (N := ["_law_draw", "_law_many", "_law_cell", "_law_got"]) Fn sc__law_pick FPick.len ?_
  rintro ds m Q E ⟨p, n, o, rfl, hm, ⟨ns, i, b, s, c, rfl, hi, hb, hs, hs2⟩, hn, hn2, hq⟩
  obtain ⟨m0, rfl⟩ : ∃ m0, m = sput m0 p (drawO ns i b s c) := ⟨m, by funext a; unfold sput; split; (next e => rw [e, hm]); rfl⟩
  clear hm
  simp only [sput_sput] at hq
  unfold drawO
  refine dss_cut (fun δ' m' => ∃ x2 x3 ns i b s c, δ' = [some (.ref p), some (.int n), x2, x3] ∧ 0 ≤ i ∧ 0 ≤ b ∧ 0 ≤ s ∧ s < 1000000007 ∧ m' = sput m0 p (drawO ns i b s c)) ?_ ?_
  · refine ds_if ?_
    refine dt_pt (pt_and2 (k0 := ?k2) (k1 := ?k3) (fun W B q => ?a4) (fun h6 W B q => ?a5)) ?b1
    case a4 =>
      refine dt_cmp od_lt ?_
      refine de_ix ?_
      refine de_var 0 rfl (.inl rfl) rfl ?_
      refine de_int ?_
      refine ixO 2 (by first | exact sput_same | assumption) rfl ?_
      refine de_var 1 rfl (.inl rfl) rfl ?_
      walk_at "op"
      refine tb ?_
      exact q
    case a5 =>
      (try simp only [decide_eq_true_eq, decide_eq_false_iff_not, Bool.and_eq_true, Bool.or_eq_true, Bool.not_eq_true', Bool.and_eq_false_iff, Bool.or_eq_false_iff, Bool.not_eq_false', Bool.not_eq_true, Bool.not_eq_false, Int.not_lt, Int.not_le] at h6)
      refine dt_cmp od_lt ?_
      refine de_ix ?_
      refine de_var 0 rfl (.inl rfl) rfl ?_
      refine de_int ?_
      refine ixO 1 (by first | exact sput_same | assumption) rfl ?_
      refine de_callB cd_len rfl m_len bt_len ?_
      refine da_cons ?_
      refine de_ix ?_
      refine de_var 0 rfl (.inl rfl) rfl ?_
      refine de_int ?_
      refine ixO 0 (by first | exact sput_same | assumption) rfl ?_
      refine da_nil ?_
      (first | (refine len_l ?_; intro _) | (refine len_t ?_; intro _) | (refine len_f ?_; intro _) | refine len_s (by walk_at "side") ?_ | (refine len_o (by first | exact sput_same | assumption) ?_; intro _))
      walk_at "op"
      refine tb ?_
      exact q
    case b1 =>
      refine br.any (fun h7 => ?_) (fun h7 => ?_)
      · (try simp only [decide_eq_true_eq, decide_eq_false_iff_not, Bool.and_eq_true, Bool.or_eq_true, Bool.not_eq_true', Bool.and_eq_false_iff, Bool.or_eq_false_iff, Bool.not_eq_false', Bool.not_eq_true, Bool.not_eq_false, Int.not_lt, Int.not_le] at h7)
        obtain ⟨h7, hlt⟩ := h7
        refine dss_cons (ds_set 2 rfl (.inl rfl) ?_)
        refine de_ix ?_
        refine de_ix ?_
        refine de_var 0 rfl (.inl rfl) rfl ?_
        refine de_int ?_
        refine ixO 0 (by first | exact sput_same | assumption) rfl ?_
        refine de_ix ?_
        refine de_var 0 rfl (.inl rfl) rfl ?_
        refine de_int ?_
        refine ixO 1 (by first | exact sput_same | assumption) rfl ?_
        obtain ⟨z, hz⟩ := draw_cell hi hlt
        refine ixLi hi hz ?_
        refine dss_cons (ds_setitem ?_)
        refine de_bin od_add ?_
        refine de_ix ?_
        refine de_var 0 rfl (.inl rfl) rfl ?_
        refine de_int ?_
        refine ixO 1 (by first | exact sput_same | assumption) rfl ?_
        refine de_int ?_
        walk_at "op"
        refine de_var 0 rfl (.inl rfl) rfl ?_
        refine de_int ?_
        refine set_sput 1 (lt_lit rfl) ?_
        refine dss_cons (ds_setitem ?_)
        refine de_int ?_
        refine de_var 0 rfl (.inl rfl) rfl ?_
        refine de_int ?_
        refine set_sput 2 (lt_lit rfl) ?_
        refine dss_cons (ds_if ?_)
        refine dt_cmp od_ge ?_
        refine de_var 2 rfl (.inl rfl) rfl ?_
        refine de_bin od_pow ?_
        refine de_int ?_
        refine de_int ?_
        refine pow_ii (by unfold CPow; decide) ?_
        walk_at "op"
        refine tb ?_
        refine br.any (fun h8 => ?_) (fun h8 => ?_)
        · (try simp only [decide_eq_true_eq, decide_eq_false_iff_not, Bool.and_eq_true, Bool.or_eq_true, Bool.not_eq_true', Bool.and_eq_false_iff, Bool.or_eq_false_iff, Bool.not_eq_false', Bool.not_eq_true, Bool.not_eq_false, Int.not_lt, Int.not_le] at h8)
          replace h8 : (1000000000000000000 : Int) ≤ z := h8
          refine dss_cons (ds_setitem ?_)
          refine de_var 2 rfl (.inl rfl) rfl ?_
          refine de_var 0 rfl (.inl rfl) rfl ?_
          refine de_int ?_
          refine set_sput 2 (lt_lit rfl) ?_
          refine dss_nil ?_
          refine dss_nil ?_
          refine ⟨_, _, ns, _, _, _, _, rfl, ?_, ?_, ?_, ?_, rfl⟩ <;> first | omega | exact Int.emod_nonneg _ (by omega) | exact Int.emod_lt_of_pos _ (by omega)
        · (try simp only [decide_eq_true_eq, decide_eq_false_iff_not, Bool.and_eq_true, Bool.or_eq_true, Bool.not_eq_true', Bool.and_eq_false_iff, Bool.or_eq_false_iff, Bool.not_eq_false', Bool.not_eq_true, Bool.not_eq_false, Int.not_lt, Int.not_le] at h8)
          refine dss_cons (ds_setitem ?_)
          refine de_bin od_mod ?_
          refine de_bin od_add ?_
          refine de_ix ?_
          refine de_var 0 rfl (.inl rfl) rfl ?_
          refine de_int ?_
          refine ixO 3 (by first | exact sput_same | assumption) rfl ?_
          refine de_var 2 rfl (.inl rfl) rfl ?_
          walk_at "op"
          refine de_int ?_
          refine mod_ii (by decide) ?_
          refine de_var 0 rfl (.inl rfl) rfl ?_
          refine de_int ?_
          refine set_sput 3 (lt_lit rfl) ?_
          refine dss_nil ?_
          refine dss_nil ?_
          refine ⟨_, _, ns, _, _, _, _, rfl, ?_, ?_, ?_, ?_, rfl⟩ <;> first | omega | exact Int.emod_nonneg _ (by omega) | exact Int.emod_lt_of_pos _ (by omega)
      · (try simp only [decide_eq_true_eq, decide_eq_false_iff_not, Bool.and_eq_true, Bool.or_eq_true, Bool.not_eq_true', Bool.and_eq_false_iff, Bool.or_eq_false_iff, Bool.not_eq_false', Bool.not_eq_true, Bool.not_eq_false, Int.not_lt, Int.not_le] at h7)
        refine dss_nil ?_
        refine ⟨_, _, ns, _, _, _, _, rfl, ?_, ?_, ?_, ?_, rfl⟩ <;> first | omega | exact Int.emod_nonneg _ (by omega) | exact Int.emod_lt_of_pos _ (by omega)
  · clear hi hb hs hs2 ns i b s c
    rintro δ' m' ⟨x2, x3, ns, i, b, s, c, rfl, hi, hb, hs, hs2, rfl⟩
    unfold drawO
    refine dss_cons (ds_if ?_)
    refine dt_cmp od_ge ?_
    refine de_ix ?_
    refine de_var 0 rfl (.inl rfl) rfl ?_
    refine de_int ?_
    refine ixO 2 (by first | exact sput_same | assumption) rfl ?_
    refine de_var 1 rfl (.inl rfl) rfl ?_
    walk_at "op"
    refine tb ?_
    refine br.any (fun h9 => ?_) (fun h9 => ?_)
    · (try simp only [decide_eq_true_eq, decide_eq_false_iff_not, Bool.and_eq_true, Bool.or_eq_true, Bool.not_eq_true', Bool.and_eq_false_iff, Bool.or_eq_false_iff, Bool.not_eq_false', Bool.not_eq_true, Bool.not_eq_false, Int.not_lt, Int.not_le] at h9)
      refine dss_cons (ds_set 3 rfl (.inl rfl) ?_)
      refine de_bin od_mod ?_
      refine de_ix ?_
      refine de_var 0 rfl (.inl rfl) rfl ?_
      refine de_int ?_
      refine ixO 2 (by first | exact sput_same | assumption) rfl ?_
      refine de_var 1 rfl (.inl rfl) rfl ?_
      refine mod_ii hn ?_
      refine dss_cons (ds_setitem ?_)
      refine de_bin od_div ?_
      refine de_ix ?_
      refine de_var 0 rfl (.inl rfl) rfl ?_
      refine de_int ?_
      refine ixO 2 (by first | exact sput_same | assumption) rfl ?_
      refine de_var 1 rfl (.inl rfl) rfl ?_
      refine div_ii ⟨hn, hn2⟩ ?_
      refine de_var 0 rfl (.inl rfl) rfl ?_
      refine de_int ?_
      refine set_sput 2 (lt_lit rfl) ?_
      refine dss_cons (ds_ret ?_)
      refine de_var 3 rfl (.inl rfl) rfl ?_
      refine hq _ _ (Int.emod_nonneg _ (by omega)) (Int.emod_lt_of_pos _ hn) ⟨ns, _, _, _, _, rfl, hi, Int.ediv_nonneg hb (by omega), hs, hs2⟩
    · (try simp only [decide_eq_true_eq, decide_eq_false_iff_not, Bool.and_eq_true, Bool.or_eq_true, Bool.not_eq_true', Bool.and_eq_false_iff, Bool.or_eq_false_iff, Bool.not_eq_false', Bool.not_eq_true, Bool.not_eq_false, Int.not_lt, Int.not_le] at h9)
      refine dss_nil ?_
      refine dss_cons (ds_setitem ?_)
      refine de_bin od_add ?_
      refine de_ix ?_
      refine de_var 0 rfl (.inl rfl) rfl ?_
      refine de_int ?_
      refine ixO 4 (by first | exact sput_same | assumption) rfl ?_
      refine de_int ?_
      walk_at "op"
      refine de_var 0 rfl (.inl rfl) rfl ?_
      refine de_int ?_
      refine set_sput 4 (lt_lit rfl) ?_
      refine dss_cons (ds_setitem ?_)
      refine de_bin od_mod ?_
      refine de_bin od_add ?_
      refine de_bin od_add ?_
      refine de_bin od_pow ?_
      refine de_ix ?_
      refine de_var 0 rfl (.inl rfl) rfl ?_
      refine de_int ?_
      refine ixO 3 (by first | exact sput_same | assumption) rfl ?_
      refine de_int ?_
      refine pow_ii (cube hs hs2) ?_
      refine de_bin od_mul ?_
      refine de_int ?_
      refine de_ix ?_
      refine de_var 0 rfl (.inl rfl) rfl ?_
      refine de_int ?_
      refine ixO 4 (by first | exact sput_same | assumption) rfl ?_
      refine mul_ii (.inl (by decide)) ?_
      walk_at "op"
      refine de_int ?_
      walk_at "op"
      refine de_int ?_
      refine mod_ii (by decide) ?_
      refine de_var 0 rfl (.inl rfl) rfl ?_
      refine de_int ?_
      refine set_sput 3 (lt_lit rfl) ?_
      refine dss_cons (ds_ret ?_)
      refine de_bin od_mod ?_
      refine de_bin od_div ?_
      refine de_ix ?_
      refine de_var 0 rfl (.inl rfl) rfl ?_
      refine de_int ?_
      refine ixO 3 (by first | exact sput_same | assumption) rfl ?_
      refine de_int ?_
      refine div_ii (by unfold CDiv; decide) ?_
      refine de_var 1 rfl (.inl rfl) rfl ?_
      refine mod_ii hn ?_
      refine hq _ _ (Int.emod_nonneg _ (by omega)) (Int.emod_lt_of_pos _ hn) ⟨ns, _, _, _, _, rfl, hi, hb, Int.emod_nonneg _ (by decide), Int.emod_lt_of_pos _ (by decide)⟩

abbrev s__law_same : Stmt := topS 9
theorem sc__law_same : FnScope ["_law_found", "_law_due", "_law_k"] ["_law_found", "_law_due"] (defScope s__law_same) := ⟨rfl, rfl, rfl, by decide +kernel, rfl, by decide +kernel, by decide +kernel⟩

set_option maxHeartbeats 8000000 in
theorem kn__law_same {f : Addr} {fd : FuncData} (Fn : FnP K "_law_same" s__law_same f fd) (g : mg "_law_same" = some (.ref f)) (m_isinstance : mg "isinstance" = none) (m_bool : mg "bool" = none) (m_int : mg "int" = none) (m_str : mg "str" = none) (m_list : mg "list" = none) (m_tuple : mg "tuple" = none) (m_len : mg "len" = none) (m_all : mg "all" = none) (m_range : mg "range" = none) : ∀ n, n ≤ 50 → Kn P w K mg base "_law_same" (n + 1) (FSame n) := by
  have b : Binds K fd ["_law_found", "_law_due"] [] := FunD.bindsN Fn fun _ _ _ _ _ _ us hl => match us, hl with | [_, _], _ => rfl
  have step : ∀ n, n ≤ 50 → (∀ j, n = j + 1 → Kn P w K mg base "_law_same" (j + 1) (FSame j)) → Kn P w K mg base "_law_same" (n + 1) (FSame n) := by
    intro n hn ih
    refine ⟨f, fd, ["_law_found", "_law_due"], ?_, g, Fn.kp, b⟩
    refine def_ok (N := ["_law_found", "_law_due", "_law_k"]) Fn sc__law_same FSame.len ?_
    rintro ds m Q E ⟨d, rfl, ok, hq⟩
    cases d with
    | non =>
      refine dss_cons (ds_if ?_)
      refine dt_cmp od_is ?_
      refine de_var 1 rfl (.inr (.inl rfl)) rfl ?_
      refine de_non ?_
      walk_at "op"
      refine tb ?_
      refine br.t ?_
      refine dss_cons (ds_ret ?_)
      refine de_cmp od_is ?_
      refine de_var 0 rfl (.inr (.inl rfl)) rfl ?_
      refine de_non ?_
      walk_at "op"
      exact hq
    | bl v =>
      refine dss_cons (ds_if ?_)
      refine dt_cmp od_is ?_
      refine de_var 1 rfl (.inr (.inl rfl)) rfl ?_
      refine de_non ?_
      walk_at "op"
      refine tb ?_
      refine br.f ?_
      refine dss_nil ?_
      refine dss_cons (ds_if ?_)
      refine dt_pt (pt_or2 (k0 := ?k13) (k1 := ?k14) (fun W B q => ?a15) (fun h17 W B q => ?a16)) ?b12
      case a15 =>
        refine dt_val ?_
        refine de_callB cd_isi rfl m_isinstance bt_isinstance ?_
        refine da_cons ?_
        refine de_var 1 rfl (.inr (.inl rfl)) rfl ?_
        refine da_cons ?_
        refine de_bty rfl m_bool bt_bool ?_
        refine da_nil ?_
        walk_at "op"
        refine tb ?_
        exact q
      case a16 =>
        (try simp only [decide_eq_true_eq, decide_eq_false_iff_not, Bool.and_eq_true, Bool.or_eq_true, Bool.not_eq_true', Bool.and_eq_false_iff, Bool.or_eq_false_iff, Bool.not_eq_false', Bool.not_eq_true, Bool.not_eq_false, Int.not_lt, Int.not_le] at h17)
        refine dt_val ?_
        refine de_callB cd_isi rfl m_isinstance bt_isinstance ?_
        refine da_cons ?_
        refine de_var 0 rfl (.inr (.inl rfl)) rfl ?_
        refine da_cons ?_
        refine de_bty rfl m_bool bt_bool ?_
        refine da_nil ?_
        walk_at "op"
        refine tb ?_
        exact q
      case b12 =>
        refine br.t ?_
        refine dss_cons (ds_ret ?_)
        refine de_pe (pe_and3 (k0 := ?k21) (k1 := ?k22) (k2 := ?k23) (fun W Q q => ?a24) (fun h27 W Q q => ?a25) (fun h27 h28 W Q q => ?a26)) ?b20
        case a24 =>
          refine de_callB cd_isi rfl m_isinstance bt_isinstance ?_
          refine da_cons ?_
          refine de_var 1 rfl (.inr (.inl rfl)) rfl ?_
          refine da_cons ?_
          refine de_bty rfl m_bool bt_bool ?_
          refine da_nil ?_
          walk_at "op"
          exact q
        case a25 =>
          (try simp only [decide_eq_true_eq, decide_eq_false_iff_not, Bool.and_eq_true, Bool.or_eq_true, Bool.not_eq_true', Bool.and_eq_false_iff, Bool.or_eq_false_iff, Bool.not_eq_false', Bool.not_eq_true, Bool.not_eq_false, Int.not_lt, Int.not_le] at h27)
          refine de_callB cd_isi rfl m_isinstance bt_isinstance ?_
          refine da_cons ?_
          refine de_var 0 rfl (.inr (.inl rfl)) rfl ?_
          refine da_cons ?_
          refine de_bty rfl m_bool bt_bool ?_
          refine da_nil ?_
          walk_at "op"
          exact q
        case a26 =>
          (try simp only [decide_eq_true_eq, decide_eq_false_iff_not, Bool.and_eq_true, Bool.or_eq_true, Bool.not_eq_true', Bool.and_eq_false_iff, Bool.or_eq_false_iff, Bool.not_eq_false', Bool.not_eq_true, Bool.not_eq_false, Int.not_lt, Int.not_le] at h27)
          (try simp only [decide_eq_true_eq, decide_eq_false_iff_not, Bool.and_eq_true, Bool.or_eq_true, Bool.not_eq_true', Bool.and_eq_false_iff, Bool.or_eq_false_iff, Bool.not_eq_false', Bool.not_eq_true, Bool.not_eq_false, Int.not_lt, Int.not_le] at h28)
          refine de_cmp od_eq ?_
          refine de_var 0 rfl (.inr (.inl rfl)) rfl ?_
          refine de_var 1 rfl (.inr (.inl rfl)) rfl ?_
          refine ⟨n, by omega, ok, ok, ?_⟩
          exact q
        case b20 =>
          simpa [eqvD_refl ok] using hq
    | int v =>
      refine dss_cons (ds_if ?_)
      refine dt_cmp od_is ?_
      refine de_var 1 rfl (.inr (.inl rfl)) rfl ?_
      refine de_non ?_
      walk_at "op"
      refine tb ?_
      refine br.f ?_
      refine dss_nil ?_
      refine dss_cons (ds_if ?_)
      refine dt_pt (pt_or2 (k0 := ?k31) (k1 := ?k32) (fun W B q => ?a33) (fun h35 W B q => ?a34)) ?b30
      case a33 =>
        refine dt_val ?_
        refine de_callB cd_isi rfl m_isinstance bt_isinstance ?_
        refine da_cons ?_
        refine de_var 1 rfl (.inr (.inl rfl)) rfl ?_
        refine da_cons ?_
        refine de_bty rfl m_bool bt_bool ?_
        refine da_nil ?_
        walk_at "op"
        refine tb ?_
        exact q
      case a34 =>
        (try simp only [decide_eq_true_eq, decide_eq_false_iff_not, Bool.and_eq_true, Bool.or_eq_true, Bool.not_eq_true', Bool.and_eq_false_iff, Bool.or_eq_false_iff, Bool.not_eq_false', Bool.not_eq_true, Bool.not_eq_false, Int.not_lt, Int.not_le] at h35)
        refine dt_val ?_
        refine de_callB cd_isi rfl m_isinstance bt_isinstance ?_
        refine da_cons ?_
        refine de_var 0 rfl (.inr (.inl rfl)) rfl ?_
        refine da_cons ?_
        refine de_bty rfl m_bool bt_bool ?_
        refine da_nil ?_
        walk_at "op"
        refine tb ?_
        exact q
      case b30 =>
        refine br.f ?_
        refine dss_nil ?_
        refine dss_cons (ds_if ?_)
        refine dt_val ?_
        refine de_isi2 rfl m_isinstance rfl m_int bt_int rfl m_str bt_str ?_
        refine de_var 1 rfl (.inr (.inl rfl)) rfl ?_
        refine isi2 rfl (by walk_at "kit") ?_
        refine tb ?_
        refine br.t ?_
        refine dss_cons (ds_ret ?_)
        refine de_pe (pe_and3 (k0 := ?k40) (k1 := ?k41) (k2 := ?k42) (fun W Q q => ?a43) (fun h46 W Q q => ?a44) (fun h46 h47 W Q q => ?a45)) ?b39
        case a43 =>
          refine de_cmp od_eq ?_
          refine de_callB cd_isi rfl m_isinstance bt_isinstance ?_
          refine da_cons ?_
          refine de_var 0 rfl (.inr (.inl rfl)) rfl ?_
          refine da_cons ?_
          refine de_bty rfl m_int bt_int ?_
          refine da_nil ?_
          walk_at "op"
          refine de_callB cd_isi rfl m_isinstance bt_isinstance ?_
          refine da_cons ?_
          refine de_var 1 rfl (.inr (.inl rfl)) rfl ?_
          refine da_cons ?_
          refine de_bty rfl m_int bt_int ?_
          refine da_nil ?_
          walk_at "op"
          refine ⟨0, by omega, rfl, rfl, ?_⟩
          exact q
        case a44 =>
          (try simp only [decide_eq_true_eq, decide_eq_false_iff_not, Bool.and_eq_true, Bool.or_eq_true, Bool.not_eq_true', Bool.and_eq_false_iff, Bool.or_eq_false_iff, Bool.not_eq_false', Bool.not_eq_true, Bool.not_eq_false, Int.not_lt, Int.not_le] at h46)
          refine de_isi2 rfl m_isinstance rfl m_int bt_int rfl m_str bt_str ?_
          refine de_var 0 rfl (.inr (.inl rfl)) rfl ?_
          refine isi2 rfl (by walk_at "kit") ?_
          exact q
        case a45 =>
          (try simp only [decide_eq_true_eq, decide_eq_false_iff_not, Bool.and_eq_true, Bool.or_eq_true, Bool.not_eq_true', Bool.and_eq_false_iff, Bool.or_eq_false_iff, Bool.not_eq_false', Bool.not_eq_true, Bool.not_eq_false, Int.not_lt, Int.not_le] at h46)
          (try simp only [decide_eq_true_eq, decide_eq_false_iff_not, Bool.and_eq_true, Bool.or_eq_true, Bool.not_eq_true', Bool.and_eq_false_iff, Bool.or_eq_false_iff, Bool.not_eq_false', Bool.not_eq_true, Bool.not_eq_false, Int.not_lt, Int.not_le] at h47)
          refine de_cmp od_eq ?_
          refine de_var 0 rfl (.inr (.inl rfl)) rfl ?_
          refine de_var 1 rfl (.inr (.inl rfl)) rfl ?_
          refine ⟨n, by omega, ok, ok, ?_⟩
          exact q
        case b39 =>
          simpa [eqvD_refl ok, eqvD_bl] using hq
    | str v =>
      refine dss_cons (ds_if ?_)
      refine dt_cmp od_is ?_
      refine de_var 1 rfl (.inr (.inl rfl)) rfl ?_
      refine de_non ?_
      walk_at "op"
      refine tb ?_
      refine br.f ?_
      refine dss_nil ?_
      refine dss_cons (ds_if ?_)
      refine dt_pt (pt_or2 (k0 := ?k50) (k1 := ?k51) (fun W B q => ?a52) (fun h54 W B q => ?a53)) ?b49
      case a52 =>
        refine dt_val ?_
        refine de_callB cd_isi rfl m_isinstance bt_isinstance ?_
        refine da_cons ?_
        refine de_var 1 rfl (.inr (.inl rfl)) rfl ?_
        refine da_cons ?_
        refine de_bty rfl m_bool bt_bool ?_
        refine da_nil ?_
        walk_at "op"
        refine tb ?_
        exact q
      case a53 =>
        (try simp only [decide_eq_true_eq, decide_eq_false_iff_not, Bool.and_eq_true, Bool.or_eq_true, Bool.not_eq_true', Bool.and_eq_false_iff, Bool.or_eq_false_iff, Bool.not_eq_false', Bool.not_eq_true, Bool.not_eq_false, Int.not_lt, Int.not_le] at h54)
        refine dt_val ?_
        refine de_callB cd_isi rfl m_isinstance bt_isinstance ?_
        refine da_cons ?_
        refine de_var 0 rfl (.inr (.inl rfl)) rfl ?_
        refine da_cons ?_
        refine de_bty rfl m_bool bt_bool ?_
        refine da_nil ?_
        walk_at "op"
        refine tb ?_
        exact q
      case b49 =>
        refine br.f ?_
        refine dss_nil ?_
        refine dss_cons (ds_if ?_)
        refine dt_val ?_
        refine de_isi2 rfl m_isinstance rfl m_int bt_int rfl m_str bt_str ?_
        refine de_var 1 rfl (.inr (.inl rfl)) rfl ?_
        refine isi2 rfl (by walk_at "kit") ?_
        refine tb ?_
        refine br.t ?_
        refine dss_cons (ds_ret ?_)
        refine de_pe (pe_and3 (k0 := ?k59) (k1 := ?k60) (k2 := ?k61) (fun W Q q => ?a62) (fun h65 W Q q => ?a63) (fun h65 h66 W Q q => ?a64)) ?b58
        case a62 =>
          refine de_cmp od_eq ?_
          refine de_callB cd_isi rfl m_isinstance bt_isinstance ?_
          refine da_cons ?_
          refine de_var 0 rfl (.inr (.inl rfl)) rfl ?_
          refine da_cons ?_
          refine de_bty rfl m_int bt_int ?_
          refine da_nil ?_
          walk_at "op"
          refine de_callB cd_isi rfl m_isinstance bt_isinstance ?_
          refine da_cons ?_
          refine de_var 1 rfl (.inr (.inl rfl)) rfl ?_
          refine da_cons ?_
          refine de_bty rfl m_int bt_int ?_
          refine da_nil ?_
          walk_at "op"
          refine ⟨0, by omega, rfl, rfl, ?_⟩
          exact q
        case a63 =>
          (try simp only [decide_eq_true_eq, decide_eq_false_iff_not, Bool.and_eq_true, Bool.or_eq_true, Bool.not_eq_true', Bool.and_eq_false_iff, Bool.or_eq_false_iff, Bool.not_eq_false', Bool.not_eq_true, Bool.not_eq_false, Int.not_lt, Int.not_le] at h65)
          refine de_isi2 rfl m_isinstance rfl m_int bt_int rfl m_str bt_str ?_
          refine de_var 0 rfl (.inr (.inl rfl)) rfl ?_
          refine isi2 rfl (by walk_at "kit") ?_
          exact q
        case a64 =>
          (try simp only [decide_eq_true_eq, decide_eq_false_iff_not, Bool.and_eq_true, Bool.or_eq_true, Bool.not_eq_true', Bool.and_eq_false_iff, Bool.or_eq_false_iff, Bool.not_eq_false', Bool.not_eq_true, Bool.not_eq_false, Int.not_lt, Int.not_le] at h65)
          (try simp only [decide_eq_true_eq, decide_eq_false_iff_not, Bool.and_eq_true, Bool.or_eq_true, Bool.not_eq_true', Bool.and_eq_false_iff, Bool.or_eq_false_iff, Bool.not_eq_false', Bool.not_eq_true, Bool.not_eq_false, Int.not_lt, Int.not_le] at h66)
          refine de_cmp od_eq ?_
          refine de_var 0 rfl (.inr (.inl rfl)) rfl ?_
          refine de_var 1 rfl (.inr (.inl rfl)) rfl ?_
          refine ⟨n, by omega, ok, ok, ?_⟩
          exact q
        case b58 =>
          simpa [eqvD_refl ok, eqvD_bl] using hq
    | tup l =>
      obtain ⟨j, rfl⟩ : ∃ j, n = j + 1 := by cases n with | zero => (simp [okD] at ok) | succ j => exact ⟨j, rfl⟩
      have ok' : okDL j l = true := by simpa [okD] using ok
      have kn__law_same := ih j rfl
      refine dss_cons (ds_if ?_)
      refine dt_cmp od_is ?_
      refine de_var 1 rfl (.inr (.inl rfl)) rfl ?_
      refine de_non ?_
      walk_at "op"
      refine tb ?_
      refine br.f ?_
      refine dss_nil ?_
      refine dss_cons (ds_if ?_)
      refine dt_pt (pt_or2 (k0 := ?k69) (k1 := ?k70) (fun W B q => ?a71) (fun h73 W B q => ?a72)) ?b68
      case a71 =>
        refine dt_val ?_
        refine de_callB cd_isi rfl m_isinstance bt_isinstance ?_
        refine da_cons ?_
        refine de_var 1 rfl (.inr (.inl rfl)) rfl ?_
        refine da_cons ?_
        refine de_bty rfl m_bool bt_bool ?_
        refine da_nil ?_
        walk_at "op"
        refine tb ?_
        exact q
      case a72 =>
        (try simp only [decide_eq_true_eq, decide_eq_false_iff_not, Bool.and_eq_true, Bool.or_eq_true, Bool.not_eq_true', Bool.and_eq_false_iff, Bool.or_eq_false_iff, Bool.not_eq_false', Bool.not_eq_true, Bool.not_eq_false, Int.not_lt, Int.not_le] at h73)
        refine dt_val ?_
        refine de_callB cd_isi rfl m_isinstance bt_isinstance ?_
        refine da_cons ?_
        refine de_var 0 rfl (.inr (.inl rfl)) rfl ?_
        refine da_cons ?_
        refine de_bty rfl m_bool bt_bool ?_
        refine da_nil ?_
        walk_at "op"
        refine tb ?_
        exact q
      case b68 =>
        refine br.f ?_
        refine dss_nil ?_
        refine dss_cons (ds_if ?_)
        refine dt_val ?_
        refine de_isi2 rfl m_isinstance rfl m_int bt_int rfl m_str bt_str ?_
        refine de_var 1 rfl (.inr (.inl rfl)) rfl ?_
        refine isi2 rfl (by walk_at "kit") ?_
        refine tb ?_
        refine br.f ?_
        refine dss_nil ?_
        refine dss_cons (ds_if ?_)
        refine dt_pt (pt_or2 (k0 := ?k77) (k1 := ?k78) (fun W B q => ?a79) (fun h81 W B q => ?a80)) ?b76
        case a79 =>
          refine dt_cmp od_ne ?_
          refine de_callB cd_isi rfl m_isinstance bt_isinstance ?_
          refine da_cons ?_
          refine de_var 0 rfl (.inr (.inl rfl)) rfl ?_
          refine da_cons ?_
          refine de_bty rfl m_list bt_list ?_
          refine da_nil ?_
          walk_at "op"
          refine de_callB cd_isi rfl m_isinstance bt_isinstance ?_
          refine da_cons ?_
          refine de_var 1 rfl (.inr (.inl rfl)) rfl ?_
          refine da_cons ?_
          refine de_bty rfl m_list bt_list ?_
          refine da_nil ?_
          walk_at "op"
          refine ⟨0, by omega, rfl, rfl, ?_⟩
          refine tb ?_
          exact q
        case a80 =>
          (try simp only [decide_eq_true_eq, decide_eq_false_iff_not, Bool.and_eq_true, Bool.or_eq_true, Bool.not_eq_true', Bool.and_eq_false_iff, Bool.or_eq_false_iff, Bool.not_eq_false', Bool.not_eq_true, Bool.not_eq_false, Int.not_lt, Int.not_le] at h81)
          refine dt_cmp od_ne ?_
          refine de_callB cd_isi rfl m_isinstance bt_isinstance ?_
          refine da_cons ?_
          refine de_var 0 rfl (.inr (.inl rfl)) rfl ?_
          refine da_cons ?_
          refine de_bty rfl m_tuple bt_tuple ?_
          refine da_nil ?_
          walk_at "op"
          refine de_callB cd_isi rfl m_isinstance bt_isinstance ?_
          refine da_cons ?_
          refine de_var 1 rfl (.inr (.inl rfl)) rfl ?_
          refine da_cons ?_
          refine de_bty rfl m_tuple bt_tuple ?_
          refine da_nil ?_
          walk_at "op"
          refine ⟨0, by omega, rfl, rfl, ?_⟩
          refine tb ?_
          exact q
        case b76 =>
          simp only [eqvD_bl]
          refine br.f ?_
          refine dss_nil ?_
          refine dss_cons (ds_ret ?_)
          refine de_pe (pe_and2 (k0 := ?k85) (k1 := ?k86) (fun W Q q => ?a87) (fun h89 W Q q => ?a88)) ?b84
          case a87 =>
            refine de_cmp od_eq ?_
            refine de_callB cd_len rfl m_len bt_len ?_
            refine da_cons ?_
            refine de_var 0 rfl (.inr (.inl rfl)) rfl ?_
            refine da_nil ?_
            (first | (refine len_l ?_; intro _) | (refine len_t ?_; intro _) | (refine len_f ?_; intro _) | refine len_s (by walk_at "side") ?_ | (refine len_o (by first | exact sput_same | assumption) ?_; intro _))
            refine de_callB cd_len rfl m_len bt_len ?_
            refine da_cons ?_
            refine de_var 1 rfl (.inr (.inl rfl)) rfl ?_
            refine da_nil ?_
            (first | (refine len_l ?_; intro _) | (refine len_t ?_; intro _) | (refine len_f ?_; intro _) | refine len_s (by walk_at "side") ?_ | (refine len_o (by first | exact sput_same | assumption) ?_; intro _))
            refine ⟨0, by omega, rfl, rfl, ?_⟩
            exact q
          case a88 =>
            (try simp only [decide_eq_true_eq, decide_eq_false_iff_not, Bool.and_eq_true, Bool.or_eq_true, Bool.not_eq_true', Bool.and_eq_false_iff, Bool.or_eq_false_iff, Bool.not_eq_false', Bool.not_eq_true, Bool.not_eq_false, Int.not_lt, Int.not_le] at h89)
            refine de_callB cd_all rfl m_all bt_all ?_
            refine da_cons ?_
            refine de_lc [("_law_k", 2)] (show blkC ["_law_found", "_law_due", "_law_k"] (defScope s__law_same) _ [("_law_k", 2)] = true from by decide +kernel) ?_
            refine di_rng1 rfl m_range ?_
            refine de_callB cd_len rfl m_len bt_len ?_
            refine da_cons ?_
            refine de_var 1 rfl (.inr (.inl rfl)) rfl ?_
            refine da_nil ?_
            (first | (refine len_l ?_; intro _) | (refine len_t ?_; intro _) | (refine len_f ?_; intro _) | refine len_s (by walk_at "side") ?_ | (refine len_o (by first | exact sput_same | assumption) ?_; intro _))
            refine ⟨_, rfl, ?_, ?_, ?_⟩
            · walk_at "side"
            · walk_at "side"
            refine ⟨fun i acc m' => acc = List.replicate i (.bl true) ∧ m' = m, ?_, ?_, ?_⟩
            · exact ⟨rfl, rfl⟩
            · rintro i d acc m' hi ⟨rfl, rfl⟩
              obtain ⟨hlt, rfl⟩ := rngD_get hi
              have hlt2 : i < l.length := by simpa using hlt
              have e0 : ((0 : Int) + (i : Nat)).toNat = i := by omega
              have hd : l[i]? = some l[i] := List.getElem?_eq_getElem hlt2
              refine dgv_name 2 (by decide) rfl (.inl rfl) ?_
              refine dts_nil ?_
              refine br.t ?_
              refine de_call kn__law_same (Nat.ble_self_eq_true _) rfl ?_
              refine da_cons ?_
              refine de_ix ?_
              refine de_var 0 rfl (by first | exact .inl rfl | exact .inr (.inl rfl) | exact .inr (.inr rfl)) rfl ?_
              refine de_var 2 rfl (.inl rfl) rfl ?_
              refine ixTi (by omega) (d := l[i]) (by rw [e0]; exact hd) ?_
              refine da_cons ?_
              refine de_ix ?_
              refine de_var 1 rfl (by first | exact .inl rfl | exact .inr (.inl rfl) | exact .inr (.inr rfl)) rfl ?_
              refine de_var 2 rfl (.inl rfl) rfl ?_
              refine ixTi (by omega) (d := l[i]) (by rw [e0]; exact hd) ?_
              refine da_nil ?_
              refine use_same rfl (okDL_mem ok' _ (List.getElem_mem _)) ?_
              refine ⟨?_, ?_, rfl⟩
              · rw [List.length_replicate]
                show i < sizeLine
                omega
              · rw [List.replicate_succ']
            · intro acc m' hI
              obtain ⟨hI, rfl⟩ := hI
              refine da_nil ?_
              refine ⟨_, _, rfl, by rw [hI]; exact blsD_true _, ?_⟩
              exact q
          case b84 =>
            simpa [eqvD_int, all_true] using hq
    | lst l =>
      obtain ⟨j, rfl⟩ : ∃ j, n = j + 1 := by cases n with | zero => (simp [okD] at ok) | succ j => exact ⟨j, rfl⟩
      have ok' : okDL j l = true := by simpa [okD] using ok
      have kn__law_same := ih j rfl
      refine dss_cons (ds_if ?_)
      refine dt_cmp od_is ?_
      refine de_var 1 rfl (.inr (.inl rfl)) rfl ?_
      refine de_non ?_
      walk_at "op"
      refine tb ?_
      refine br.f ?_
      refine dss_nil ?_
      refine dss_cons (ds_if ?_)
      refine dt_pt (pt_or2 (k0 := ?k92) (k1 := ?k93) (fun W B q => ?a94) (fun h96 W B q => ?a95)) ?b91
      case a94 =>
        refine dt_val ?_
        refine de_callB cd_isi rfl m_isinstance bt_isinstance ?_
        refine da_cons ?_
        refine de_var 1 rfl (.inr (.inl rfl)) rfl ?_
        refine da_cons ?_
        refine de_bty rfl m_bool bt_bool ?_
        refine da_nil ?_
        walk_at "op"
        refine tb ?_
        exact q
      case a95 =>
        (try simp only [decide_eq_true_eq, decide_eq_false_iff_not, Bool.and_eq_true, Bool.or_eq_true, Bool.not_eq_true', Bool.and_eq_false_iff, Bool.or_eq_false_iff, Bool.not_eq_false', Bool.not_eq_true, Bool.not_eq_false, Int.not_lt, Int.not_le] at h96)
        refine dt_val ?_
        refine de_callB cd_isi rfl m_isinstance bt_isinstance ?_
        refine da_cons ?_
        refine de_var 0 rfl (.inr (.inl rfl)) rfl ?_
        refine da_cons ?_
        refine de_bty rfl m_bool bt_bool ?_
        refine da_nil ?_
        walk_at "op"
        refine tb ?_
        exact q
      case b91 =>
        refine br.f ?_
        refine dss_nil ?_
        refine dss_cons (ds_if ?_)
        refine dt_val ?_
        refine de_isi2 rfl m_isinstance rfl m_int bt_int rfl m_str bt_str ?_
        refine de_var 1 rfl (.inr (.inl rfl)) rfl ?_
        refine isi2 rfl (by walk_at "kit") ?_
        refine tb ?_
        refine br.f ?_
        refine dss_nil ?_
        refine dss_cons (ds_if ?_)
        refine dt_pt (pt_or2 (k0 := ?k100) (k1 := ?k101) (fun W B q => ?a102) (fun h104 W B q => ?a103)) ?b99
        case a102 =>
          refine dt_cmp od_ne ?_
          refine de_callB cd_isi rfl m_isinstance bt_isinstance ?_
          refine da_cons ?_
          refine de_var 0 rfl (.inr (.inl rfl)) rfl ?_
          refine da_cons ?_
          refine de_bty rfl m_list bt_list ?_
          refine da_nil ?_
          walk_at "op"
          refine de_callB cd_isi rfl m_isinstance bt_isinstance ?_
          refine da_cons ?_
          refine de_var 1 rfl (.inr (.inl rfl)) rfl ?_
          refine da_cons ?_
          refine de_bty rfl m_list bt_list ?_
          refine da_nil ?_
          walk_at "op"
          refine ⟨0, by omega, rfl, rfl, ?_⟩
          refine tb ?_
          exact q
        case a103 =>
          (try simp only [decide_eq_true_eq, decide_eq_false_iff_not, Bool.and_eq_true, Bool.or_eq_true, Bool.not_eq_true', Bool.and_eq_false_iff, Bool.or_eq_false_iff, Bool.not_eq_false', Bool.not_eq_true, Bool.not_eq_false, Int.not_lt, Int.not_le] at h104)
          refine dt_cmp od_ne ?_
          refine de_callB cd_isi rfl m_isinstance bt_isinstance ?_
          refine da_cons ?_
          refine de_var 0 rfl (.inr (.inl rfl)) rfl ?_
          refine da_cons ?_
          refine de_bty rfl m_tuple bt_tuple ?_
          refine da_nil ?_
          walk_at "op"
          refine de_callB cd_isi rfl m_isinstance bt_isinstance ?_
          refine da_cons ?_
          refine de_var 1 rfl (.inr (.inl rfl)) rfl ?_
          refine da_cons ?_
          refine de_bty rfl m_tuple bt_tuple ?_
          refine da_nil ?_
          walk_at "op"
          refine ⟨0, by omega, rfl, rfl, ?_⟩
          refine tb ?_
          exact q
        case b99 =>
          simp only [eqvD_bl]
          refine br.f ?_
          refine dss_nil ?_
          refine dss_cons (ds_ret ?_)
          refine de_pe (pe_and2 (k0 := ?k108) (k1 := ?k109) (fun W Q q => ?a110) (fun h112 W Q q => ?a111)) ?b107
          case a110 =>
            refine de_cmp od_eq ?_
            refine de_callB cd_len rfl m_len bt_len ?_
            refine da_cons ?_
            refine de_var 0 rfl (.inr (.inl rfl)) rfl ?_
            refine da_nil ?_
            (first | (refine len_l ?_; intro _) | (refine len_t ?_; intro _) | (refine len_f ?_; intro _) | refine len_s (by walk_at "side") ?_ | (refine len_o (by first | exact sput_same | assumption) ?_; intro _))
            refine de_callB cd_len rfl m_len bt_len ?_
            refine da_cons ?_
            refine de_var 1 rfl (.inr (.inl rfl)) rfl ?_
            refine da_nil ?_
            (first | (refine len_l ?_; intro _) | (refine len_t ?_; intro _) | (refine len_f ?_; intro _) | refine len_s (by walk_at "side") ?_ | (refine len_o (by first | exact sput_same | assumption) ?_; intro _))
            refine ⟨0, by omega, rfl, rfl, ?_⟩
            exact q
          case a111 =>
            (try simp only [decide_eq_true_eq, decide_eq_false_iff_not, Bool.and_eq_true, Bool.or_eq_true, Bool.not_eq_true', Bool.and_eq_false_iff, Bool.or_eq_false_iff, Bool.not_eq_false', Bool.not_eq_true, Bool.not_eq_false, Int.not_lt, Int.not_le] at h112)
            refine de_callB cd_all rfl m_all bt_all ?_
            refine da_cons ?_
            refine de_lc [("_law_k", 2)] (show blkC ["_law_found", "_law_due", "_law_k"] (defScope s__law_same) _ [("_law_k", 2)] = true from by decide +kernel) ?_
            refine di_rng1 rfl m_range ?_
            refine de_callB cd_len rfl m_len bt_len ?_
            refine da_cons ?_
            refine de_var 1 rfl (.inr (.inl rfl)) rfl ?_
            refine da_nil ?_
            (first | (refine len_l ?_; intro _) | (refine len_t ?_; intro _) | (refine len_f ?_; intro _) | refine len_s (by walk_at "side") ?_ | (refine len_o (by first | exact sput_same | assumption) ?_; intro _))
            refine ⟨_, rfl, ?_, ?_, ?_⟩
            · walk_at "side"
            · walk_at "side"
            refine ⟨fun i acc m' => acc = List.replicate i (.bl true) ∧ m' = m, ?_, ?_, ?_⟩
            · exact ⟨rfl, rfl⟩
            · rintro i d acc m' hi ⟨rfl, rfl⟩
              obtain ⟨hlt, rfl⟩ := rngD_get hi
              have hlt2 : i < l.length := by simpa using hlt
              have e0 : ((0 : Int) + (i : Nat)).toNat = i := by omega
              have hd : l[i]? = some l[i] := List.getElem?_eq_getElem hlt2
              refine dgv_name 2 (by decide) rfl (.inl rfl) ?_
              refine dts_nil ?_
              refine br.t ?_
              refine de_call kn__law_same (Nat.ble_self_eq_true _) rfl ?_
              refine da_cons ?_
              refine de_ix ?_
              refine de_var 0 rfl (by first | exact .inl rfl | exact .inr (.inl rfl) | exact .inr (.inr rfl)) rfl ?_
              refine de_var 2 rfl (.inl rfl) rfl ?_
              refine ixLi (by omega) (d := l[i]) (by rw [e0]; exact hd) ?_
              refine da_cons ?_
              refine de_ix ?_
              refine de_var 1 rfl (by first | exact .inl rfl | exact .inr (.inl rfl) | exact .inr (.inr rfl)) rfl ?_
              refine de_var 2 rfl (.inl rfl) rfl ?_
              refine ixLi (by omega) (d := l[i]) (by rw [e0]; exact hd) ?_
              refine da_nil ?_
              refine use_same rfl (okDL_mem ok' _ (List.getElem_mem _)) ?_
              refine ⟨?_, ?_, rfl⟩
              · rw [List.length_replicate]
                show i < sizeLine
                omega
              · rw [List.replicate_succ']
            · intro acc m' hI
              obtain ⟨hI, rfl⟩ := hI
              refine da_nil ?_
              refine ⟨_, _, rfl, by rw [hI]; exact blsD_true _, ?_⟩
              exact q
          case b107 =>
            simpa [eqvD_int, all_true] using hq
    | frz _ => simp [okD] at ok
    | dic _ _ => simp [okD] at ok
    | dit _ _ => simp [okD] at ok
    | ref _ => simp [okD] at ok
    | ty _ => simp [okD] at ok
  intro n
  induction n with
  | zero => exact fun h => step 0 h fun j e => by omega
  | succ n ih =>
    intro h
    refine step (n + 1) h fun j e => ?_
    obtain rfl : n = j := by omega
    exact ih (by omega)



set_option maxHeartbeats 8000000 in
theorem kn__law_sameO {f : Addr} {fd : FuncData} (Fn : FnP K "_law_same" s__law_same f fd) (g : mg "_law_same" = some (.ref f)) (m_isinstance : mg "isinstance" = none) (m_bool : mg "bool" = none) (m_int : mg "int" = none) (m_str : mg "str" = none) (m_list : mg "list" = none) (m_tuple : mg "tuple" = none) (m_len : mg "len" = none) (m_all : mg "all" = none) (m_range : mg "range" = none) (n : Nat) (kn__law_same : Kn P w K mg base "_law_same" (n + 1) (FSame n)) : Kn P w K mg base "_law_same" (n + 2) (FSameO (n + 1)) := by
  have b : Binds K fd ["_law_found", "_law_due"] [] := FunD.bindsN Fn fun _ _ _ _ _ _ us hl => match us, hl with | [_, _], _ => rfl
  refine ⟨f, fd, ["_law_found", "_law_due"], ?_, g, Fn.kp, b⟩
  refine def_ok (N := ["_law_found", "_law_due", "_law_k"]) Fn sc__law_same FSameO.len ?_
  rintro ds m Q E ⟨p, l, rfl, hm, ok, hq⟩
  have ok' : okDL n l = true := by simpa [okD] using ok
  refine dss_cons (ds_if ?_)
  refine dt_cmp od_is ?_
  refine de_var 1 rfl (.inr (.inl rfl)) rfl ?_
  refine de_non ?_
  walk_at "op"
  refine tb ?_
  refine br.f ?_
  refine dss_nil ?_
  refine dss_cons (ds_if ?_)
  refine dt_pt (pt_or2 (k0 := ?k115) (k1 := ?k116) (fun W B q => ?a117) (fun h119 W B q => ?a118)) ?b114
  case a117 =>
    refine dt_val ?_
    refine de_callB cd_isiM rfl m_isinstance bt_isinstance ?_
    refine da_cons ?_
    refine de_var 1 rfl (.inr (.inl rfl)) rfl ?_
    refine da_cons ?_
    refine de_bty rfl m_bool bt_bool ?_
    refine da_nil ?_
    (first | refine isiM' rfl (by walk_at "kit") ?_ | refine isiM' (tyM_ref hm) (by walk_at "kit") ?_)
    refine tb ?_
    exact q
  case a118 =>
    (try simp only [decide_eq_true_eq, decide_eq_false_iff_not, Bool.and_eq_true, Bool.or_eq_true, Bool.not_eq_true', Bool.and_eq_false_iff, Bool.or_eq_false_iff, Bool.not_eq_false', Bool.not_eq_true, Bool.not_eq_false, Int.not_lt, Int.not_le] at h119)
    refine dt_val ?_
    refine de_callB cd_isiM rfl m_isinstance bt_isinstance ?_
    refine da_cons ?_
    refine de_var 0 rfl (.inr (.inl rfl)) rfl ?_
    refine da_cons ?_
    refine de_bty rfl m_bool bt_bool ?_
    refine da_nil ?_
    (first | refine isiM' rfl (by walk_at "kit") ?_ | refine isiM' (tyM_ref hm) (by walk_at "kit") ?_)
    refine tb ?_
    exact q
  case b114 =>
    refine br.f ?_
    refine dss_nil ?_
    refine dss_cons (ds_if ?_)
    refine dt_val ?_
    refine de_isi2 rfl m_isinstance rfl m_int bt_int rfl m_str bt_str ?_
    refine de_var 1 rfl (.inr (.inl rfl)) rfl ?_
    refine isi2 rfl (by walk_at "kit") ?_
    refine tb ?_
    refine br.f ?_
    refine dss_nil ?_
    refine dss_cons (ds_if ?_)
    refine dt_pt (pt_or2 (k0 := ?k123) (k1 := ?k124) (fun W B q => ?a125) (fun h127 W B q => ?a126)) ?b122
    case a125 =>
      refine dt_cmp od_ne ?_
      refine de_callB cd_isiM rfl m_isinstance bt_isinstance ?_
      refine da_cons ?_
      refine de_var 0 rfl (.inr (.inl rfl)) rfl ?_
      refine da_cons ?_
      refine de_bty rfl m_list bt_list ?_
      refine da_nil ?_
      (first | refine isiM' rfl (by walk_at "kit") ?_ | refine isiM' (tyM_ref hm) (by walk_at "kit") ?_)
      refine de_callB cd_isiM rfl m_isinstance bt_isinstance ?_
      refine da_cons ?_
      refine de_var 1 rfl (.inr (.inl rfl)) rfl ?_
      refine da_cons ?_
      refine de_bty rfl m_list bt_list ?_
      refine da_nil ?_
      (first | refine isiM' rfl (by walk_at "kit") ?_ | refine isiM' (tyM_ref hm) (by walk_at "kit") ?_)
      refine ⟨0, by omega, rfl, rfl, ?_⟩
      refine tb ?_
      exact q
    case a126 =>
      (try simp only [decide_eq_true_eq, decide_eq_false_iff_not, Bool.and_eq_true, Bool.or_eq_true, Bool.not_eq_true', Bool.and_eq_false_iff, Bool.or_eq_false_iff, Bool.not_eq_false', Bool.not_eq_true, Bool.not_eq_false, Int.not_lt, Int.not_le] at h127)
      refine dt_cmp od_ne ?_
      refine de_callB cd_isiM rfl m_isinstance bt_isinstance ?_
      refine da_cons ?_
      refine de_var 0 rfl (.inr (.inl rfl)) rfl ?_
      refine da_cons ?_
      refine de_bty rfl m_tuple bt_tuple ?_
      refine da_nil ?_
      (first | refine isiM' rfl (by walk_at "kit") ?_ | refine isiM' (tyM_ref hm) (by walk_at "kit") ?_)
      refine de_callB cd_isiM rfl m_isinstance bt_isinstance ?_
      refine da_cons ?_
      refine de_var 1 rfl (.inr (.inl rfl)) rfl ?_
      refine da_cons ?_
      refine de_bty rfl m_tuple bt_tuple ?_
      refine da_nil ?_
      (first | refine isiM' rfl (by walk_at "kit") ?_ | refine isiM' (tyM_ref hm) (by walk_at "kit") ?_)
      refine ⟨0, by omega, rfl, rfl, ?_⟩
      refine tb ?_
      exact q
    case b122 =>
      simp only [eqvD_bl]
      refine br.f ?_
      refine dss_nil ?_
      refine dss_cons (ds_ret ?_)
      refine de_pe (pe_and2 (k0 := ?k131) (k1 := ?k132) (fun W Q q => ?a133) (fun h135 W Q q => ?a134)) ?b130
      case a133 =>
        refine de_cmp od_eq ?_
        refine de_callB cd_len rfl m_len bt_len ?_
        refine da_cons ?_
        refine de_var 0 rfl (.inr (.inl rfl)) rfl ?_
        refine da_nil ?_
        (first | (refine len_l ?_; intro _) | (refine len_t ?_; intro _) | (refine len_f ?_; intro _) | refine len_s (by walk_at "side") ?_ | (refine len_o (by first | exact sput_same | assumption) ?_; intro _))
        refine de_callB cd_len rfl m_len bt_len ?_
        refine da_cons ?_
        refine de_var 1 rfl (.inr (.inl rfl)) rfl ?_
        refine da_nil ?_
        (first | (refine len_l ?_; intro _) | (refine len_t ?_; intro _) | (refine len_f ?_; intro _) | refine len_s (by walk_at "side") ?_ | (refine len_o (by first | exact sput_same | assumption) ?_; intro _))
        refine ⟨0, by omega, rfl, rfl, ?_⟩
        exact q
      case a134 =>
        (try simp only [decide_eq_true_eq, decide_eq_false_iff_not, Bool.and_eq_true, Bool.or_eq_true, Bool.not_eq_true', Bool.and_eq_false_iff, Bool.or_eq_false_iff, Bool.not_eq_false', Bool.not_eq_true, Bool.not_eq_false, Int.not_lt, Int.not_le] at h135)
        refine de_callB cd_all rfl m_all bt_all ?_
        refine da_cons ?_
        refine de_lc [("_law_k", 2)] (show blkC ["_law_found", "_law_due", "_law_k"] (defScope s__law_same) _ [("_law_k", 2)] = true from by decide +kernel) ?_
        refine di_rng1 rfl m_range ?_
        refine de_callB cd_len rfl m_len bt_len ?_
        refine da_cons ?_
        refine de_var 1 rfl (.inr (.inl rfl)) rfl ?_
        refine da_nil ?_
        (first | (refine len_l ?_; intro _) | (refine len_t ?_; intro _) | (refine len_f ?_; intro _) | refine len_s (by walk_at "side") ?_ | (refine len_o (by first | exact sput_same | assumption) ?_; intro _))
        refine ⟨_, rfl, ?_, ?_, ?_⟩
        · walk_at "side"
        · walk_at "side"
        refine ⟨fun i acc m' => acc = List.replicate i (.bl true) ∧ m = m', ?_, ?_, ?_⟩
        · exact ⟨rfl, rfl⟩
        · rintro i d acc m' hi ⟨rfl, rfl⟩
          obtain ⟨hlt, rfl⟩ := rngD_get hi
          have hlt2 : i < l.length := by simpa using hlt
          have e0 : ((0 : Int) + (i : Nat)).toNat = i := by omega
          have hd : l[i]? = some l[i] := List.getElem?_eq_getElem hlt2
          refine dgv_name 2 (by decide) rfl (.inl rfl) ?_
          refine dts_nil ?_
          refine br.t ?_
          refine de_call kn__law_same (Nat.ble_self_eq_true _) rfl ?_
          refine da_cons ?_
          refine de_ix ?_
          refine de_var 0 rfl (by first | exact .inl rfl | exact .inr (.inl rfl) | exact .inr (.inr rfl)) rfl ?_
          refine de_var 2 rfl (.inl rfl) rfl ?_
          refine ixOi hm (by omega) (d := l[i]) (by rw [e0]; exact hd) ?_
          refine da_cons ?_
          refine de_ix ?_
          refine de_var 1 rfl (by first | exact .inl rfl | exact .inr (.inl rfl) | exact .inr (.inr rfl)) rfl ?_
          refine de_var 2 rfl (.inl rfl) rfl ?_
          refine ixLi (by omega) (d := l[i]) (by rw [e0]; exact hd) ?_
          refine da_nil ?_
          refine use_same rfl (okDL_mem ok' _ (List.getElem_mem _)) ?_
          refine ⟨?_, ?_, rfl⟩
          · rw [List.length_replicate]
            show i < sizeLine
            omega
          · rw [List.replicate_succ']
        · intro acc m' hI
          obtain ⟨hI, rfl⟩ := hI
          refine da_nil ?_
          refine ⟨_, _, rfl, by rw [hI]; exact blsD_true _, ?_⟩
          exact q
      case b130 =>
        simpa [eqvD_int, all_true] using hq

end
end K26

namespace K26
open PySem PySem.Spec PyProof.Rows L2 G
local macro_rules | `(tactic| walk_at "op") => `(tactic| first | with_reducible refine add_ii ?_ | with_reducible refine sub_ii ?_ | with_reducible refine cmp_ii ?_ | with_reducible refine is_n ?_ | with_reducible refine isnt_n ?_ | with_reducible refine max_ii ?_ | with_reducible refine min_ii ?_ | with_reducible refine int_i ?_ | with_reducible refine int_b ?_ | refine len_l ?_ | refine len_t ?_ | refine isi rfl (by walk_at "kit") ?_)
local macro_rules | `(tactic| walk_at "kit") => `(tactic| first | exact kit_NoneType_bool | exact kit_NoneType_int | exact kit_NoneType_str | exact kit_NoneType_list | exact kit_NoneType_tuple | exact kit_NoneType_dict | exact kit_bool_bool | exact kit_bool_int | exact kit_bool_str | exact kit_bool_list | exact kit_bool_tuple | exact kit_bool_dict | exact kit_int_bool | exact kit_int_int | exact kit_int_str | exact kit_int_list | exact kit_int_tuple | exact kit_int_dict | exact kit_str_bool | exact kit_str_int | exact kit_str_str | exact kit_str_list | exact kit_str_tuple | exact kit_str_dict | exact kit_tuple_bool | exact kit_tuple_int | exact kit_tuple_str | exact kit_tuple_list | exact kit_tuple_tuple | exact kit_tuple_dict | exact kit_list_bool | exact kit_list_int | exact kit_list_str | exact kit_list_list | exact kit_list_tuple | exact kit_list_dict | exact kit_dict_bool | exact kit_dict_int | exact kit_dict_str | exact kit_dict_list | exact kit_dict_tuple | exact kit_dict_dict | exact kit2_NoneType_int_str | exact kit2_bool_int_str | exact kit2_int_int_str | exact kit2_str_int_str | exact kit2_tuple_int_str | exact kit2_list_int_str | exact kit2_dict_int_str)
local macro_rules | `(tactic| walk_at "side") => `(tactic| first | omega | (have hz := sizeLine_eq; omega))

local macro_rules | `(tactic| walk_at "ezlen") => `(tactic| first | (rw [la, lb]) | (rw [List.length_map, List.length_map, da.1, db.1]))
local macro_rules | `(tactic| walk_at "st") => `(tactic| first | exact sput_same | assumption | exact (sput_ne (by assumption)).trans sput_same)
section
variable {P : Program} {w : World} {K : PySem.W.Frag} {mg : Str → Option Value} {base : Heap}

abbrev s__law_one : Stmt := topS 7
theorem sc__law_one : FnScope ["_law_draw", "_law_some"] ["_law_draw", "_law_some"] (defScope s__law_one) := ⟨rfl, rfl, rfl, by decide +kernel, rfl, by decide +kernel, by decide +kernel⟩
set_option maxHeartbeats 4000000 in
theorem kn__law_one {f : Addr} {fd : FuncData} (Fn : FnP K "_law_one" s__law_one f fd) (g : mg "_law_one" = some (.ref f)) (m_len : mg "len" = none) (kn__law_pick : Kn P w K mg base "_law_pick" 1 (FPick)) : Kn P w K mg base "_law_one" 2 (FOne) := by
  have b : Binds K fd ["_law_draw", "_law_some"] [] := FunD.bindsN Fn fun _ _ _ _ _ _ us hl => match us, hl with | [_, _], _ => rfl
  refine ⟨f, fd, ["_law_draw", "_law_some"], ?_, g, Fn.kp, b⟩
  refine def_ok (N := ["_law_draw", "_law_some"]) Fn sc__law_one FOne.len ?_
  rintro ds m Q E ⟨p, z, o, rfl, hm, hd, h1, h2, h3, hq⟩
  obtain ⟨m0, rfl⟩ : ∃ m0, m = sput m0 p o := ⟨m, by funext a; unfold sput; split; (next e => rw [e, hm]); rfl⟩
  clear hm
  simp only [sput_sput] at hq
  refine dss_cons (ds_ret ?_)
  refine de_ix ?_
  refine de_var 1 rfl (.inl rfl) rfl ?_
  refine de_call kn__law_pick rfl rfl ?_
  refine da_cons ?_
  refine de_var 0 rfl (.inl rfl) rfl ?_
  refine da_cons ?_
  refine de_callB cd_len rfl m_len bt_len ?_
  refine da_cons ?_
  refine de_var 1 rfl (.inl rfl) rfl ?_
  refine da_nil ?_
  refine len_s (by have hz := sizeLine_eq; omega) ?_
  refine da_nil ?_
  refine use_pick (by assumption) (by walk_at "side") (by walk_at "side") (fun r1 o1 r1a r1b d1 => ?_)
  refine ix_sign (by assumption) (by assumption) h2 h3 (fun c hc => ?_)
  exact hq _ _ hc (by assumption)

abbrev s__law_rows : Stmt := topS 11
theorem sc__law_rows : FnScope ["_law_draw", "_law_tall", "_law_room", "_law_u", "_law_v"] ["_law_draw", "_law_tall", "_law_room"] (defScope s__law_rows) := ⟨rfl, rfl, rfl, by decide +kernel, rfl, by decide +kernel, by decide +kernel⟩
set_option maxHeartbeats 4000000 in
theorem kn__law_rows {f : Addr} {fd : FuncData} (Fn : FnP K "_law_rows" s__law_rows f fd) (g : mg "_law_rows" = some (.ref f)) (m_range : mg "range" = none) (kn__law_one : Kn P w K mg base "_law_one" 2 (FOne)) : Kn P w K mg base "_law_rows" 3 (FRows) := by
  have b : Binds K fd ["_law_draw", "_law_tall", "_law_room"] [] := FunD.bindsN Fn fun _ _ _ _ _ _ us hl => match us, hl with | [_, _, _], _ => rfl
  refine ⟨f, fd, ["_law_draw", "_law_tall", "_law_room"], ?_, g, Fn.kp, b⟩
  refine def_ok (N := ["_law_draw", "_law_tall", "_law_room", "_law_u", "_law_v"]) Fn sc__law_rows FRows.len ?_
  rintro ds m Q E ⟨p, T, R, o, rfl, hm, hd, hT, hR, hq⟩
  obtain ⟨m0, rfl⟩ : ∃ m0, m = sput m0 p o := ⟨m, by funext a; unfold sput; split; (next e => rw [e, hm]); rfl⟩
  clear hm
  simp only [sput_sput] at hq
  refine dss_cons (ds_ret ?_)
  refine de_lcM [("_law_v", 4)] (show blkC ["_law_draw", "_law_tall", "_law_room", "_law_u", "_law_v"] (defScope s__law_rows) _ [("_law_v", 4)] = true from by decide +kernel) ?_
  refine di_rng1 rfl m_range ?_
  refine de_var 1 rfl (.inl rfl) rfl ?_
  refine ⟨_, rfl, ?_, ?_, ?_⟩
  · walk_at "side"
  · walk_at "side"
  refine ⟨fun i acc m' => ∃ (rs : List Str) (o' : O), acc = rs.map D.str ∧ rs.length = i ∧ (∀ z ∈ rs, z.length = R ∧ PyData.strOk z = true) ∧ m' = sput m0 p o' ∧ IsDraw o', ?_, ?_, ?_⟩
  · exact ⟨[], _, rfl, rfl, (fun y hy => by cases hy), rfl, by assumption⟩
  · rintro i1 dd acc m' hi1 ⟨rs, o', rfl, hrl, hrs, rfl, hd'⟩
    obtain ⟨hit, rfl⟩ := rngD_get hi1
    refine dgv_name 4 (by decide) rfl (.inl rfl) ?_
    refine dts_nil ?_
    refine br.t ?_
    refine de_bm md_join PySem.F.plainAttrs_str PySem.F.slot_str_join PySem.F.type_str_join ?_
    refine de_str ?_
    refine ⟨rfl, ?_⟩
    refine da_cons ?_
    refine de_lc [("_law_u", 3)] (show blkC ["_law_draw", "_law_tall", "_law_room", "_law_u", "_law_v"] (relS _ (defScope s__law_rows)) _ [("_law_u", 3)] = true from by decide +kernel) ?_
    refine di_rng1 rfl m_range ?_
    refine de_var 2 rfl (by first | exact .inl rfl | exact .inr (.inl rfl) | exact .inr (.inr rfl)) rfl ?_
    refine ⟨_, rfl, ?_, ?_, ?_⟩
    · walk_at "side"
    · walk_at "side"
    refine ⟨fun j acc m' => ∃ (ys : List Str) (o' : O), acc = ys.map D.str ∧ ys.length = j ∧ (∀ y ∈ ys, y.length = 1 ∧ PyData.strOk y = true) ∧ m' = sput m0 p o' ∧ IsDraw o', ?_, ?_, ?_⟩
    · exact ⟨[], _, rfl, rfl, (fun y hy => by cases hy), rfl, by assumption⟩
    · rintro j1 dd acc m' hj1 ⟨ys, o8, rfl, hyl, hys, rfl, hd8⟩
      obtain ⟨hjt, rfl⟩ := rngD_get hj1
      refine dgv_name 3 (by decide) rfl (.inl rfl) ?_
      refine dts_nil ?_
      refine br.t ?_
      refine de_call kn__law_one rfl rfl ?_
      refine da_cons ?_
      refine de_var 0 rfl (by first | exact .inl rfl | exact .inr (.inl rfl) | exact .inr (.inr rfl)) rfl ?_
      refine da_cons ?_
      refine de_str ?_
      refine da_nil ?_
      refine use_one (by assumption) (by decide) (by decide) (by decide +kernel) (fun c o5 hc5 hd5 => ?_)
      refine ⟨?_, ys ++ [⟨#[c]⟩], _, by rw [List.map_append]; rfl, by rw [List.length_append, hyl]; rfl, ?_, rfl, by assumption⟩
      · rw [List.length_map]
        have hz := sizeLine_eq
        omega
      · intro y hy
        rcases List.mem_append.mp hy with hy | hy
        · exact hys y hy
        · rw [List.mem_singleton.mp hy]
          exact ⟨rfl, hc5⟩
    · rintro acc m' ⟨ys, o8, rfl, hyl, hys, rfl, hd8⟩
      rw [rngD_len] at hyl
      refine da_nil ?_
      refine ⟨_, ys, rfl, rfl, by rw [join_room hys]; omega, ?_⟩
      obtain ⟨j1, j2⟩ := join_signs hys
      refine ⟨?_, rs ++ [Txt.join "" ys], _, by rw [List.map_append]; rfl, by rw [List.length_append, hrl]; rfl, ?_, rfl, by assumption⟩
      · rw [List.length_map]
        have hz := sizeLine_eq
        omega
      · intro y hy
        rcases List.mem_append.mp hy with hy | hy
        · exact hrs y hy
        · rw [List.mem_singleton.mp hy]
          exact ⟨by omega, j2⟩
  · rintro acc m' ⟨rs, o', rfl, hrl, hrs, rfl, hd'⟩ q acc2 e hq1
    rw [rngD_len] at hrl
    obtain rfl : _ = acc2 := by injection e
    have dr : Draw T R rs := ⟨by omega, hrs⟩
    exact hq rs q o' dr hd' hq1

abbrev s_with_text : Stmt := topS 2
theorem sc_with_text : FnScope ["rows", "v", "u", "text", "line"] ["rows", "v", "u", "text"] (defScope s_with_text) := ⟨rfl, rfl, rfl, by decide +kernel, rfl, by decide +kernel, by decide +kernel⟩
set_option maxHeartbeats 4000000 in
theorem kn_with_text {f : Addr} {fd : FuncData} (Fn : FnP K "with_text" s_with_text f fd) (g : mg "with_text" = some (.ref f)) (m_len : mg "len" = none)  : Kn P w K mg base "with_text" 1 (FPutT) := by
  have b : Binds K fd ["rows", "v", "u", "text"] [] := FunD.bindsN Fn fun _ _ _ _ _ _ us hl => match us, hl with | [_, _, _, _], _ => rfl
  refine ⟨f, fd, ["rows", "v", "u", "text"], ?_, g, Fn.kp, b⟩
  refine def_ok (N := ["rows", "v", "u", "text", "line"]) Fn sc_with_text FPutT.len ?_
  rintro ds m Q E ⟨h, w, rows, v, u, t, rfl, hh, hw, dr, ok, hq⟩
  obtain ⟨h0, h1, h2, h3, h4⟩ := id ok
  obtain ⟨z, hz1, -, hl, ho⟩ := dr.row (v := v.toNat) (by omega)
  have hg : rows.getD v.toNat "" = z := by
    rw [List.getD_eq_getElem?_getD, hz1]
    rfl
  have c1 := cutS_len z none (some u)
  have c2 := cutS_len z (some (u + t.length)) none
  have c3 := cutL_le (rows.map D.str) none (some v)
  have c4 := cutL_le (rows.map D.str) (some (v + 1)) none
  rw [List.length_map] at c3 c4
  have hrl := dr.1
  refine dss_cons (ds_set 4 rfl (.inl rfl) ?_)
  refine de_ix ?_
  refine de_var 0 rfl (.inl rfl) rfl ?_
  refine de_var 1 rfl (.inl rfl) rfl ?_
  refine ixLi (d := .str z) h0 (d_at hz1) ?_
  refine dss_cons (ds_ret ?_)
  refine de_bin od_add ?_
  refine de_bin od_add ?_
  refine de_sl01 ?_
  refine de_var 0 rfl (.inl rfl) rfl ?_
  refine de_var 1 rfl (.inl rfl) rfl ?_
  refine ⟨_, rfl, ?_⟩
  refine cut_l ?_
  refine de_lst ?_
  refine da_cons ?_
  refine de_bin od_add ?_
  refine de_bin od_add ?_
  refine de_sl01 ?_
  refine de_var 4 rfl (.inl rfl) rfl ?_
  refine de_var 2 rfl (.inl rfl) rfl ?_
  refine ⟨_, rfl, ?_⟩
  refine cut_s (by have hz := sizeLine_eq; omega) ?_
  refine de_var 3 rfl (.inl rfl) rfl ?_
  refine add_ss (by have hz := sizeLine_eq; omega) ?_
  refine de_sl10 ?_
  refine de_var 4 rfl (.inl rfl) rfl ?_
  refine de_bin od_add ?_
  refine de_var 2 rfl (.inl rfl) rfl ?_
  refine de_callB cd_len rfl m_len bt_len ?_
  refine da_cons ?_
  refine de_var 3 rfl (.inl rfl) rfl ?_
  refine da_nil ?_
  refine len_s (by have hz := sizeLine_eq; omega) ?_
  walk_at "op"
  refine ⟨_, rfl, ?_⟩
  refine cut_s (by have hz := sizeLine_eq; omega) ?_
  refine add_ss (by have hz := sizeLine_eq; rw [app_len]; omega) ?_
  refine da_nil ?_
  refine ⟨sz_lit rfl, ?_⟩
  refine add_ll (by have hz := sizeLine_eq; simp only [List.length_cons, List.length_nil]; omega) ?_
  refine de_sl10 ?_
  refine de_var 0 rfl (.inl rfl) rfl ?_
  refine de_bin od_add ?_
  refine de_var 1 rfl (.inl rfl) rfl ?_
  refine de_int ?_
  walk_at "op"
  refine ⟨_, rfl, ?_⟩
  refine cut_l ?_
  refine add_ll (by have hz := sizeLine_eq; simp only [List.length_append, List.length_cons, List.length_nil]; omega) ?_
  unfold putR putLine at hq
  rw [hg, List.map_append, List.map_append, ← cutL_map, ← cutL_map] at hq
  exact hq

abbrev s_with_shift : Stmt := topS 3
theorem sc_with_shift : FnScope ["rows", "stretch", "down", "across", "top", "left", "high", "wide", "found", "v", "line", "u", "far"] ["rows", "stretch", "down", "across"] (defScope s_with_shift) := ⟨rfl, rfl, rfl, by decide +kernel, rfl, by decide +kernel, by decide +kernel⟩
set_option maxHeartbeats 4000000 in
theorem kn_with_shift {f : Addr} {fd : FuncData} (Fn : FnP K "with_shift" s_with_shift f fd) (g : mg "with_shift" = some (.ref f)) (m_range : mg "range" = none) (m_list : mg "list" = none)  : Kn P w K mg base "with_shift" 1 (FShT) := by
  have b : Binds K fd ["rows", "stretch", "down", "across"] [] := FunD.bindsN Fn fun _ _ _ _ _ _ us hl => match us, hl with | [_, _, _, _], _ => rfl
  refine ⟨f, fd, ["rows", "stretch", "down", "across"], ?_, g, Fn.kp, b⟩
  refine def_ok (N := ["rows", "stretch", "down", "across", "top", "left", "high", "wide", "found", "v", "line", "u", "far"]) Fn sc_with_shift FShT.len ?_
  rintro ds m Q E ⟨h, w, rows, a, b, p, n, d, c, rfl, hh, hw, dr, ok, hq⟩
  obtain ⟨⟨k1, k2, k3⟩, ⟨k4, k5, k6⟩, k7⟩ := id ok
  obtain ⟨A, rfl⟩ : ∃ A : Nat, a = A := ⟨a.toNat, by omega⟩
  have hrl := dr.1
  have hsl := shiftR_len rows A b p n d c w
  refine dss_cons (ds_asg ?_)
  refine de_var 1 rfl (.inl rfl) rfl ?_
  refine dg_tup rfl ?_
  refine dgs_cons ?_
  refine dg_name 4 rfl (.inl rfl) ?_
  refine dgs_cons ?_
  refine dg_name 5 rfl (.inl rfl) ?_
  refine dgs_cons ?_
  refine dg_name 6 rfl (.inl rfl) ?_
  refine dgs_cons ?_
  refine dg_name 7 rfl (.inl rfl) ?_
  refine dgs_nil ?_
  refine dss_cons (ds_set 8 rfl (.inl rfl) ?_)
  refine de_callTy cd_listM rfl m_list bt_list ?_
  refine da_cons ?_
  refine de_var 0 rfl (.inl rfl) rfl ?_
  refine da_nil ?_
  refine list_m rfl (fun f hf => ?_)
  refine dss_cons (ds_for ?_)
  refine di_rng2 rfl m_range ?_
  refine de_var 4 rfl (.inl rfl) rfl ?_
  refine de_bin od_add ?_
  refine de_var 4 rfl (.inl rfl) rfl ?_
  refine de_var 6 rfl (.inl rfl) rfl ?_
  walk_at "op"
  refine ⟨_, _, rfl, rfl, ?_, ?_⟩
  · walk_at "side"
  refine ⟨fun i δ' m' => ∃ x9 x10 x11 x12, δ' = [some (.lst (rows.map D.str)), some (.tup [.int (A : Int), .int b, .int p, .int n]), some (.int d), some (.int c), some (.int (A : Int)), some (.int b), some (.int p), some (.int n), some (.ref f), x9, x10, x11, x12] ∧ m' = sput m f (.lst ((doneR rows (shiftR rows (A : Int) b p n d c w) (A + i)).map D.str)), ?_, ?_, ?_⟩
  · refine ⟨_, _, _, _, rfl, ?_⟩
    rw [done_0 (fun j hj => shift_same dr (by omega))]
  · rintro i dd δ' m' hi' ⟨x9, x10, x11, x12, rfl, rfl⟩
    obtain ⟨hit, rfl⟩ := rngD_get hi'
    rw [show (A : Int) + (i : Nat) = ((A + i : Nat) : Int) from by omega]
    obtain ⟨z, hzv, -, hzl, hzo⟩ := dr.row (v := A + i) (by omega)
    refine dg_name 9 rfl (.inl rfl) ?_
    refine dss_cons (ds_if ?_)
    refine dt_chainI (l := ?l136) od_le od_lt ?c139
    case c139 =>
      refine de_var 4 rfl (.inl rfl) rfl ?_
      refine de_bin od_add ?_
      refine de_var 9 rfl (.inl rfl) rfl ?_
      refine de_var 2 rfl (.inl rfl) rfl ?_
      walk_at "op"
      refine ⟨_, _, rfl, rfl, fun W Q q => ?a137, ?b138⟩
      case a137 =>
        refine de_bin od_add ?_
        refine de_var 4 rfl (.inl rfl) rfl ?_
        refine de_var 6 rfl (.inl rfl) rfl ?_
        walk_at "op"
        exact q
      case b138 =>
        refine br.any (fun h140 => ?_) (fun h140 => ?_)
        · (try simp only [decide_eq_true_eq, decide_eq_false_iff_not, Bool.and_eq_true, Bool.or_eq_true, Bool.not_eq_true', Bool.and_eq_false_iff, Bool.or_eq_false_iff, Bool.not_eq_false', Bool.not_eq_true, Bool.not_eq_false, Int.not_lt, Int.not_le] at h140)
          have hv := h140
          refine dss_cons (ds_set 10 rfl (.inl rfl) ?_)
          refine de_str ?_
          refine dss_cons (ds_for ?_)
          refine di_rng2 rfl m_range ?_
          refine de_var 5 rfl (.inl rfl) rfl ?_
          refine de_bin od_add ?_
          refine de_var 5 rfl (.inl rfl) rfl ?_
          refine de_var 7 rfl (.inl rfl) rfl ?_
          walk_at "op"
          refine ⟨_, _, rfl, rfl, ?_, ?_⟩
          · walk_at "side"
          refine ⟨fun j δ' m' => ∃ x11 x12, δ' = [some (.lst (rows.map D.str)), some (.tup [.int (A : Int), .int b, .int p, .int n]), some (.int d), some (.int c), some (.int (A : Int)), some (.int b), some (.int p), some (.int n), some (.ref f), some (.int ((A + i : Nat) : Int)), some (.str (mkS ((List.range j).map fun k => inS rows b n d c (A + i : Nat) (b + (k : Nat))))), x11, x12] ∧ m' = sput m f (.lst ((doneR rows (shiftR rows (A : Int) b p n d c w) (A + i)).map D.str)), ?_, ?_, ?_⟩
          · exact ⟨_, _, rfl, rfl⟩
          · rintro j dd δ' m' hj' ⟨x11, x12, rfl, rfl⟩
            obtain ⟨hjt, rfl⟩ := rngD_get hj'
            refine dg_name 11 rfl (.inl rfl) ?_
            refine dss_cons (ds_set 12 rfl (.inl rfl) ?_)
            refine de_bin od_add ?_
            refine de_var 11 rfl (.inl rfl) rfl ?_
            refine de_var 3 rfl (.inl rfl) rfl ?_
            walk_at "op"
            refine dss_cons (ds_aug 10 od_addSi rfl (.inl rfl) rfl ?_)
            refine de_if ?_
            refine dt_chainI (l := ?l141) od_le od_lt ?c144
            case c144 =>
              refine de_var 5 rfl (.inl rfl) rfl ?_
              refine de_var 12 rfl (.inl rfl) rfl ?_
              refine ⟨_, _, rfl, rfl, fun W Q q => ?a142, ?b143⟩
              case a142 =>
                refine de_bin od_add ?_
                refine de_var 5 rfl (.inl rfl) rfl ?_
                refine de_var 7 rfl (.inl rfl) rfl ?_
                walk_at "op"
                exact q
              case b143 =>
                refine br.any (fun h145 => ?_) (fun h145 => ?_)
                · (try simp only [decide_eq_true_eq, decide_eq_false_iff_not, Bool.and_eq_true, Bool.or_eq_true, Bool.not_eq_true', Bool.and_eq_false_iff, Bool.or_eq_false_iff, Bool.not_eq_false', Bool.not_eq_true, Bool.not_eq_false, Int.not_lt, Int.not_le] at h145)
                  have hu := h145
                  obtain ⟨z1, hz1, hzl1, hs1, hsb⟩ := dr.sg (v := ((A + i : Nat) : Int) + d) (u := b + (j : Nat) + c) (by omega) (by omega) (by omega) (by omega)
                  have hch : inS rows b n d c ((A + i : Nat) : Int) (b + (j : Nat)) = sgn rows (((A + i : Nat) : Int) + d) (b + (j : Nat) + c) := if_pos hu
                  refine de_ix ?_
                  refine de_ix ?_
                  refine de_var 0 rfl (.inl rfl) rfl ?_
                  refine de_bin od_add ?_
                  refine de_var 9 rfl (.inl rfl) rfl ?_
                  refine de_var 2 rfl (.inl rfl) rfl ?_
                  walk_at "op"
                  refine ixLi (d := .str z1) (by omega) (d_at hz1) ?_
                  refine de_var 12 rfl (.inl rfl) rfl ?_
                  refine ix_at (by omega) hs1 (by omega) ?_
                  refine ⟨_, _, rfl, rfl, (by have hz := sizeLine_eq; rw [mk_len, sg1_len, List.length_map, List.length_range]; omega), ?_⟩
                  rw [mk_snoc]
                  refine dss_nil ?_
                  show ∃ (x11 x12 : Option D), _
                  rw [← hch, List.range_succ, List.map_append]
                  exact ⟨_, _, rfl, rfl⟩
                · (try simp only [decide_eq_true_eq, decide_eq_false_iff_not, Bool.and_eq_true, Bool.or_eq_true, Bool.not_eq_true', Bool.and_eq_false_iff, Bool.or_eq_false_iff, Bool.not_eq_false', Bool.not_eq_true, Bool.not_eq_false, Int.not_lt, Int.not_le] at h145)
                  have hu := h145
                  obtain ⟨z2, hz2, hzl2, hs2, hsb⟩ := dr.sg (v := ((A + i : Nat) : Int)) (u := b + (j : Nat)) (by omega) (by omega) (by omega) (by omega)
                  have hch : inS rows b n d c ((A + i : Nat) : Int) (b + (j : Nat)) = sgn rows ((A + i : Nat) : Int) (b + (j : Nat)) := if_neg (by omega)
                  refine de_ix ?_
                  refine de_ix ?_
                  refine de_var 0 rfl (.inl rfl) rfl ?_
                  refine de_var 9 rfl (.inl rfl) rfl ?_
                  first | refine ixLi (d := .str z2) (by omega) (d_at hz2) ?_ | refine ixLi (d := .str z) (by omega) (d_at (by rw [Int.toNat_natCast]; exact hzv)) ?_
                  refine de_var 11 rfl (.inl rfl) rfl ?_
                  refine ix_at (by omega) hs2 (by omega) ?_
                  refine ⟨_, _, rfl, rfl, (by have hz := sizeLine_eq; rw [mk_len, sg1_len, List.length_map, List.length_range]; omega), ?_⟩
                  rw [mk_snoc]
                  refine dss_nil ?_
                  show ∃ (x11 x12 : Option D), _
                  rw [← hch, List.range_succ, List.map_append]
                  exact ⟨_, _, rfl, rfl⟩
          · rintro δ' m' ⟨x11, x12, rfl, rfl⟩
            rw [rngD_len]
            refine dss_cons (ds_setitem ?_)
            refine de_bin od_add ?_
            refine de_bin od_add ?_
            refine de_sl01 ?_
            refine de_ix ?_
            refine de_var 0 rfl (.inl rfl) rfl ?_
            refine de_var 9 rfl (.inl rfl) rfl ?_
            first | refine ixLi (d := .str z2) (by omega) (d_at hz2) ?_ | refine ixLi (d := .str z) (by omega) (d_at (by rw [Int.toNat_natCast]; exact hzv)) ?_
            refine de_var 5 rfl (.inl rfl) rfl ?_
            refine ⟨_, rfl, ?_⟩
            refine cut_s (by have hz := sizeLine_eq; omega) ?_
            refine de_var 10 rfl (.inl rfl) rfl ?_
            have c1 := cutS_len z none (some b)
            refine add_ss (by have hz := sizeLine_eq; rw [mk_len, List.length_map, List.length_range]; omega) ?_
            refine de_sl10 ?_
            refine de_ix ?_
            refine de_var 0 rfl (.inl rfl) rfl ?_
            refine de_var 9 rfl (.inl rfl) rfl ?_
            first | refine ixLi (d := .str z2) (by omega) (d_at hz2) ?_ | refine ixLi (d := .str z) (by omega) (d_at (by rw [Int.toNat_natCast]; exact hzv)) ?_
            refine de_bin od_add ?_
            refine de_var 5 rfl (.inl rfl) rfl ?_
            refine de_var 7 rfl (.inl rfl) rfl ?_
            walk_at "op"
            refine ⟨_, rfl, ?_⟩
            refine cut_s (by have hz := sizeLine_eq; omega) ?_
            have c2 := cutS_len z (some (b + n)) none
            refine add_ss (by have hz := sizeLine_eq; rw [app_len, mk_len, List.length_map, List.length_range]; omega) ?_
            rw [show (b + n - b).toNat = n.toNat from by omega, shLine_in dr ok (by omega) hzv ⟨by omega, by omega⟩ ⟨by omega, by omega⟩]
            refine de_var 8 rfl (.inl rfl) rfl ?_
            refine de_var 9 rfl (.inl rfl) rfl ?_
            refine set_sput (A + i) (by rw [List.length_map, done_len hsl]; omega) ?_
            refine dss_nil ?_
            refine dss_nil ?_
            first
              | (refine ⟨_, _, _, _, rfl, ?_⟩
                 rw [← List.map_set, ← Nat.add_assoc, ← done_succ hsl (by omega), List.getD_eq_getElem?_getD, shift_at (by omega)]
                 rfl)
              | (refine ⟨_, _, _, _, rfl, ?_⟩
                 rw [← Nat.add_assoc, ← done_stay hsl (by omega) (shift_same dr (by omega))])
        · (try simp only [decide_eq_true_eq, decide_eq_false_iff_not, Bool.and_eq_true, Bool.or_eq_true, Bool.not_eq_true', Bool.and_eq_false_iff, Bool.or_eq_false_iff, Bool.not_eq_false', Bool.not_eq_true, Bool.not_eq_false, Int.not_lt, Int.not_le] at h140)
          have hv := h140
          refine dss_nil ?_
          refine dss_nil ?_
          first
            | (refine ⟨_, _, _, _, rfl, ?_⟩
               rw [← List.map_set, ← Nat.add_assoc, ← done_succ hsl (by omega), List.getD_eq_getElem?_getD, shift_at (by omega)]
               rfl)
            | (refine ⟨_, _, _, _, rfl, ?_⟩
               rw [← Nat.add_assoc, ← done_stay hsl (by omega) (shift_same dr (by omega))])
  · rintro δ' m' ⟨x9, x10, x11, x12, rfl, rfl⟩
    rw [rngD_len, done_end (fun j hj => shift_same dr (by omega))]
    refine dss_cons (ds_ret ?_)
    refine de_freeze ?_
    refine de_var 8 rfl (.inl rfl) rfl ?_
    refine ⟨_, _, rfl, sput_same, ?_⟩
    rw [sdel_new hf]
    exact hq

abbrev s_behind_steps : Stmt := topS 4
theorem sc_behind_steps : FnScope ["rows", "some", "word", "rest", "v", "u", "text"] ["rows", "some"] (defScope s_behind_steps) := ⟨rfl, rfl, rfl, by decide +kernel, rfl, by decide +kernel, by decide +kernel⟩
set_option maxHeartbeats 4000000 in
theorem kn_behind_steps {f : Addr} {fd : FuncData} (Fn : FnP K "behind_steps" s_behind_steps f fd) (g : mg "behind_steps" = some (.ref f)) (m_list : mg "list" = none) (m_tuple : mg "tuple" = none) (kn_with_text : Kn P w K mg base "with_text" 1 (FPutT)) (kn_with_shift : Kn P w K mg base "with_shift" 1 (FShT)) : Kn P w K mg base "behind_steps" 2 (FBehindO) := by
  have b : Binds K fd ["rows", "some"] [] := FunD.bindsN Fn fun _ _ _ _ _ _ us hl => match us, hl with | [_, _], _ => rfl
  refine ⟨f, fd, ["rows", "some"], ?_, g, Fn.kp, b⟩
  refine def_ok (N := ["rows", "some", "word", "rest", "v", "u", "text"]) Fn sc_behind_steps FBehindO.len ?_
  rintro ds m Q E ⟨h, w, rows, l, q, rfl, hmq, hh, hw, dr, ok, hq⟩
  refine dss_cons (ds_forg ?_)
  refine dig_lst ?_
  refine de_var 1 rfl (.inl rfl) rfl ?_
  refine ⟨_, _, rfl, by walk_at "st", ?_⟩
  refine ⟨fun i δ' m' => ∃ x2 x3 x4 x5 x6, δ' = [some (.lst (((l.take i).foldl (stepR w) rows).map D.str)), some (.ref q), x2, x3, x4, x5, x6] ∧ m' = m, ?_, ?_, ?_, ?_⟩
  · exact ⟨_, _, _, _, _, rfl, rfl⟩
  · rintro i dd δ' m' hi' ⟨x2, x3, x4, x5, x6, rfl, rfl⟩
    rw [List.getElem?_map] at hi'
    obtain ⟨s, hs, rfl⟩ := Option.map_eq_some_iff.mp hi'
    have ok2 := ok s (List.mem_of_getElem? hs)
    have dr2 := steps_draw (l.take i) dr fun z hz => ok z (List.mem_of_mem_take hz)
    have he := steps_succ (w := w) (rows := rows) hs
    have hrest := s.rest_len
    rw [Stp.D_eq]
    generalize ((l.take i).foldl (stepR w) rows) = rs at dr2 he ⊢
    refine dg_star1 (by walk_at "side") ?_
    refine dgs_cons ?_
    refine dg_name 2 rfl (.inl rfl) ?_
    refine dgs_star ?_
    refine dgs_cons ?_
    refine dg_name 3 rfl (.inl rfl) ?_
    refine dgs_nil ?_
    refine dss_cons (ds_if ?_)
    refine dt_cmp od_eqF ?_
    refine de_var 2 rfl (.inl rfl) rfl ?_
    refine de_str ?_
    (first | refine eq_ss ?_ | refine eq_ii ?_)
    refine tb ?_
    refine br.any (fun h146 => ?_) (fun h146 => ?_)
    · (try simp only [decide_eq_true_eq, decide_eq_false_iff_not, Bool.and_eq_true, Bool.or_eq_true, Bool.not_eq_true', Bool.and_eq_false_iff, Bool.or_eq_false_iff, Bool.not_eq_false', Bool.not_eq_true, Bool.not_eq_false, Int.not_lt, Int.not_le] at h146)
      obtain ⟨v, u, t, rfl⟩ := is_put h146
      rw [show (Stp.put v u t).rest = [.int v, .int u, .str t] from rfl]
      refine dss_cons (ds_asg ?_)
      refine de_var 3 rfl (.inl rfl) rfl ?_
      refine dg_lst rfl ?_
      refine dgs_cons ?_
      refine dg_name 4 rfl (.inl rfl) ?_
      refine dgs_cons ?_
      refine dg_name 5 rfl (.inl rfl) ?_
      refine dgs_cons ?_
      refine dg_name 6 rfl (.inl rfl) ?_
      refine dgs_nil ?_
      refine dss_cons (ds_set 0 rfl (.inl rfl) ?_)
      refine de_call kn_with_text rfl rfl ?_
      refine da_cons ?_
      refine de_var 0 rfl (.inl rfl) rfl ?_
      refine da_cons ?_
      refine de_var 4 rfl (.inl rfl) rfl ?_
      refine da_cons ?_
      refine de_var 5 rfl (.inl rfl) rfl ?_
      refine da_cons ?_
      refine de_var 6 rfl (.inl rfl) rfl ?_
      refine da_nil ?_
      refine ⟨h, w, _, _, _, _, rfl, hh, hw, dr2, ok2, ?_⟩
      refine dss_nil ?_
      refine dss_nil ?_
      show ∃ (x2 x3 x4 x5 x6 : Option D), _
      rw [he]
      exact ⟨_, _, _, _, _, rfl, rfl⟩
    · (try simp only [decide_eq_true_eq, decide_eq_false_iff_not, Bool.and_eq_true, Bool.or_eq_true, Bool.not_eq_true', Bool.and_eq_false_iff, Bool.or_eq_false_iff, Bool.not_eq_false', Bool.not_eq_true, Bool.not_eq_false, Int.not_lt, Int.not_le] at h146)
      obtain ⟨a, b, p, n, d, c, rfl⟩ := is_shift h146
      rw [show (Stp.shift a b p n d c).rest = [.int a, .int b, .int p, .int n, .int d, .int c] from rfl]
      refine dss_cons (ds_set 0 rfl (.inl rfl) ?_)
      refine de_call kn_with_shift rfl rfl ?_
      refine da_cons ?_
      refine de_var 0 rfl (.inl rfl) rfl ?_
      refine da_cons ?_
      refine de_callTy cd_tuple rfl m_tuple bt_tuple ?_
      refine da_cons ?_
      refine de_sl01 ?_
      refine de_var 3 rfl (.inl rfl) rfl ?_
      refine de_int ?_
      refine ⟨_, rfl, ?_⟩
      refine cut_l ?_
      rw [cut_four]
      refine da_nil ?_
      refine ⟨_, rfl, ?_⟩
      refine da_cons ?_
      refine de_ix ?_
      refine de_var 3 rfl (.inl rfl) rfl ?_
      refine de_int ?_
      (first | refine ixT 4 rfl ?_ | refine ixL 4 rfl ?_ | refine ixO 4 rfl rfl ?_ | walk_at "ix")
      refine da_cons ?_
      refine de_ix ?_
      refine de_var 3 rfl (.inl rfl) rfl ?_
      refine de_int ?_
      (first | refine ixT 5 rfl ?_ | refine ixL 5 rfl ?_ | refine ixO 5 rfl rfl ?_ | walk_at "ix")
      refine da_nil ?_
      refine ⟨h, w, _, _, _, _, _, _, _, rfl, hh, hw, dr2, ok2, ?_⟩
      refine dss_nil ?_
      refine dss_nil ?_
      show ∃ (x2 x3 x4 x5 x6 : Option D), _
      rw [he]
      exact ⟨_, _, _, _, _, rfl, rfl⟩
  · rintro i δ' m' ⟨x2, x3, x4, x5, x6, rfl, rfl⟩
    exact hmq
  · rintro δ' m' ⟨x2, x3, x4, x5, x6, rfl, rfl⟩
    rw [List.length_map, List.take_length]
    refine dss_cons (ds_ret ?_)
    refine de_callTy cd_list rfl m_list bt_list ?_
    refine da_cons ?_
    refine de_var 0 rfl (.inl rfl) rfl ?_
    refine da_nil ?_
    refine list_l rfl ?_
    exact hq
end
end K26

namespace K26
open PySem PySem.Spec PyProof.Rows L2 G
local macro_rules | `(tactic| walk_at "op") => `(tactic| first | with_reducible refine add_ii ?_ | with_reducible refine sub_ii ?_ | with_reducible refine cmp_ii ?_ | with_reducible refine is_n ?_ | with_reducible refine isnt_n ?_ | with_reducible refine max_ii ?_ | with_reducible refine min_ii ?_ | with_reducible refine int_i ?_ | with_reducible refine int_b ?_ | refine len_l ?_ | refine len_t ?_ | refine isi rfl (by walk_at "kit") ?_)
local macro_rules | `(tactic| walk_at "kit") => `(tactic| first | exact kit_NoneType_bool | exact kit_NoneType_int | exact kit_NoneType_str | exact kit_NoneType_list | exact kit_NoneType_tuple | exact kit_NoneType_dict | exact kit_bool_bool | exact kit_bool_int | exact kit_bool_str | exact kit_bool_list | exact kit_bool_tuple | exact kit_bool_dict | exact kit_int_bool | exact kit_int_int | exact kit_int_str | exact kit_int_list | exact kit_int_tuple | exact kit_int_dict | exact kit_str_bool | exact kit_str_int | exact kit_str_str | exact kit_str_list | exact kit_str_tuple | exact kit_str_dict | exact kit_tuple_bool | exact kit_tuple_int | exact kit_tuple_str | exact kit_tuple_list | exact kit_tuple_tuple | exact kit_tuple_dict | exact kit_list_bool | exact kit_list_int | exact kit_list_str | exact kit_list_list | exact kit_list_tuple | exact kit_list_dict | exact kit_dict_bool | exact kit_dict_int | exact kit_dict_str | exact kit_dict_list | exact kit_dict_tuple | exact kit_dict_dict | exact kit2_NoneType_int_str | exact kit2_bool_int_str | exact kit2_int_int_str | exact kit2_str_int_str | exact kit2_tuple_int_str | exact kit2_list_int_str | exact kit2_dict_int_str)
local macro_rules | `(tactic| walk_at "side") => `(tactic| first | omega | (have hz := sizeLine_eq; omega))

local macro_rules | `(tactic| walk_at "ezlen") => `(tactic| first | (rw [la, lb]) | (rw [List.length_map, List.length_map, da.1, db.1]))
local macro_rules | `(tactic| walk_at "st") => `(tactic| first | exact sput_same | assumption | exact (sput_ne (by assumption)).trans sput_same)
section
variable {P : Program} {w : World} {K : PySem.W.Frag} {mg : Str → Option Value} {base : Heap}

abbrev s_puts : Stmt := topS 1
theorem sc_puts : FnScope ["old", "new", "found", "v", "was", "now", "last", "u", "one", "other"] ["old", "new"] (defScope s_puts) := ⟨rfl, rfl, rfl, by decide +kernel, rfl, by decide +kernel, by decide +kernel⟩
set_option maxHeartbeats 4000000 in
theorem kn_puts {f : Addr} {fd : FuncData} (Fn : FnP K "puts" s_puts f fd) (g : mg "puts" = some (.ref f)) (m_enumerate : mg "enumerate" = none) (m_zip : mg "zip" = none)  : Kn P w K mg base "puts" 1 (FPutsP) := by
  have b : Binds K fd ["old", "new"] [] := FunD.bindsN Fn fun _ _ _ _ _ _ us hl => match us, hl with | [_, _], _ => rfl
  refine ⟨f, fd, ["old", "new"], ?_, g, Fn.kp, b⟩
  refine def_ok (N := ["old", "new", "found", "v", "was", "now", "last", "u", "one", "other"]) Fn sc_puts FPutsP.len ?_
  rintro ds m Q E ⟨h, w, a, b, rfl, hh, hw, da, db, hq⟩
  refine dss_cons (ds_set 2 rfl (.inl rfl) ?_)
  refine de_lstM ?_
  refine da_nil ?_
  refine ⟨sz_lit rfl, ?_⟩
  intro p hp
  refine dss_cons (ds_for ?_)
  refine di_ezL rfl m_enumerate rfl m_zip ?_
  refine da_cons ?_
  refine de_var 0 rfl (.inl rfl) rfl ?_
  refine da_cons ?_
  refine de_var 1 rfl (.inl rfl) rfl ?_
  refine da_nil ?_
  refine ⟨_, _, rfl, by rw [List.length_map, List.length_map, da.1, db.1], ?_⟩
  refine ⟨fun i δ' m' => ∃ x3 x4 x5 x6 x7 x8 x9, δ' = [some (.lst (a.map D.str)), some (.lst (b.map D.str)), some (.ref p), x3, x4, x5, x6, x7, x8, x9] ∧ m' = sput m p (.lst ((allQ a b w i).map Stp.D)), ?_, ?_, ?_⟩
  · exact ⟨_, _, _, _, _, _, _, rfl, rfl⟩
  · rintro i dd δ' m' hi ⟨x3, x4, x5, x6, x7, x8, x9, rfl, rfl⟩
    obtain ⟨x, y, e1, e2, rfl⟩ := ezAt_get hi
    rw [Nat.zero_add]
    obtain ⟨za, rfl, hza⟩ := str_at e1
    obtain ⟨zb, rfl, hzb⟩ := str_at e2
    have hiH : i < h := by rw [← da.1]; exact (List.getElem?_eq_some_iff.mp hza).1
    have pi := allQ_inv da db (v := i) (Nat.le_of_lt hiH)
    have la : za.length = w := (da.2 za (List.mem_of_getElem? hza)).1
    have lb : zb.length = w := (db.2 zb (List.mem_of_getElem? hzb)).1
    refine dg_tup rfl ?_
    refine dgs_cons ?_
    refine dg_name 3 rfl (.inl rfl) ?_
    refine dgs_cons ?_
    refine dg_tup rfl ?_
    refine dgs_cons ?_
    refine dg_name 4 rfl (.inl rfl) ?_
    refine dgs_cons ?_
    refine dg_name 5 rfl (.inl rfl) ?_
    refine dgs_nil ?_
    refine dgs_nil ?_
    refine dss_cons (ds_set 6 rfl (.inl rfl) ?_)
    refine de_neg ?_
    refine de_int ?_
    refine ⟨_, rfl, ?_⟩
    refine dss_cons (ds_for ?_)
    refine di_ezS rfl m_enumerate rfl m_zip ?_
    refine da_cons ?_
    refine de_var 4 rfl (.inl rfl) rfl ?_
    refine da_cons ?_
    refine de_var 5 rfl (.inl rfl) rfl ?_
    refine da_nil ?_
    refine ⟨_, _, rfl, by rw [la, lb], ?_⟩
    refine ⟨fun j δ' m' => ∃ x7 x8 x9, δ' = [some (.lst (a.map D.str)), some (.lst (b.map D.str)), some (.ref p), some (.int (i : Nat)), some (.str za), some (.str zb), some (.int (lastQ a b i j)), x7, x8, x9] ∧ m' = sput m p (.lst ((rowQ a b i (allQ a b w i) (oddsQ a b i j)).map Stp.D)), ?_, ?_, ?_⟩
    · exact ⟨_, _, _, rfl, rfl⟩
    · rintro j dd δ' m' hj ⟨x7, x8, x9, rfl, rfl⟩
      obtain ⟨x, y, e1, e2, rfl⟩ := ezAt_get hj
      rw [Nat.zero_add]
      obtain ⟨hjw, rfl⟩ := sgD_get da hza e1
      obtain ⟨-, rfl⟩ := sgD_get db hzb e2
      refine dg_tup rfl ?_
      refine dgs_cons ?_
      refine dg_name 7 rfl (.inl rfl) ?_
      refine dgs_cons ?_
      refine dg_tup rfl ?_
      refine dgs_cons ?_
      refine dg_name 8 rfl (.inl rfl) ?_
      refine dgs_cons ?_
      refine dg_name 9 rfl (.inl rfl) ?_
      refine dgs_nil ?_
      refine dgs_nil ?_
      refine dss_cons (ds_if ?_)
      refine dt_cmp od_neF ?_
      refine de_var 8 rfl (.inl rfl) rfl ?_
      refine de_var 9 rfl (.inl rfl) rfl ?_
      refine ne_ss ?_
      refine tb ?_
      refine br.any (fun h147 => ?_) (fun h147 => ?_)
      · (try simp only [decide_eq_true_eq, decide_eq_false_iff_not, Bool.and_eq_true, Bool.or_eq_true, Bool.not_eq_true', Bool.and_eq_false_iff, Bool.or_eq_false_iff, Bool.not_eq_false', Bool.not_eq_true, Bool.not_eq_false, Int.not_lt, Int.not_le] at h147)
        have ho : oddS a b i j = true := odd_of h147
        have pj := pi.upto da db hiH (Nat.le_of_lt hjw)
        have hs := rowQ_odd (acc := (allQ a b w i)) ho
        have hl2 := lastQ_odd ho
        have hlen := small_len hh hw (Nat.le_of_lt hiH) (Nat.le_of_lt hjw) pj.len
        refine dss_cons (ds_if ?_)
        refine dt_cmp od_eqF ?_
        refine de_var 6 rfl (.inl rfl) rfl ?_
        refine de_bin od_sub ?_
        refine de_var 7 rfl (.inl rfl) rfl ?_
        refine de_int ?_
        walk_at "op"
        refine eq_ii ?_
        refine tb ?_
        refine br.any (fun h148 => ?_) (fun h148 => ?_)
        · (try simp only [decide_eq_true_eq, decide_eq_false_iff_not, Bool.and_eq_true, Bool.or_eq_true, Bool.not_eq_true', Bool.and_eq_false_iff, Bool.or_eq_false_iff, Bool.not_eq_false', Bool.not_eq_true, Bool.not_eq_false, Int.not_lt, Int.not_le] at h148)
          have hg := lastQ_is.mp h148
          rw [step_t hg] at hs
          obtain ⟨L', u', t', eL, eu⟩ := pj.end_ hg
          generalize (rowQ a b i (allQ a b w i) (oddsQ a b i j)) = L at pj hs eL hlen ⊢
          subst eL
          have okp := pj.ok (.put i u' t') (by simp)
          obtain ⟨_, _, _, hput, _⟩ := okp
          refine dss_cons (ds_setitem ?_)
          refine de_bin od_add ?_
          refine de_sl01 ?_
          refine de_ix ?_
          refine de_var 2 rfl (.inl rfl) rfl ?_
          refine de_neg ?_
          refine de_int ?_
          refine ⟨_, rfl, ?_⟩
          refine ixOn sput_same last_put ?_
          refine de_int ?_
          refine ⟨_, rfl, ?_⟩
          refine cut_t ?_
          rw [cut_three]
          refine de_tup ?_
          refine da_cons ?_
          refine de_bin od_add ?_
          refine de_ix ?_
          refine de_ix ?_
          refine de_var 2 rfl (.inl rfl) rfl ?_
          refine de_neg ?_
          refine de_int ?_
          refine ⟨_, rfl, ?_⟩
          refine ixOn sput_same last_put ?_
          refine de_int ?_
          refine ixT 3 rfl ?_
          refine de_var 9 rfl (.inl rfl) rfl ?_
          refine add_ss (by have hz := sizeLine_eq; rw [sg1_len]; omega) ?_
          refine da_nil ?_
          refine ⟨sz_lit rfl, ?_⟩
          refine add_tt (by have hz := sizeLine_eq; simp only [List.length_cons, List.length_nil]; omega) ?_
          refine de_var 2 rfl (.inl rfl) rfl ?_
          refine de_neg ?_
          refine de_int ?_
          refine ⟨_, rfl, ?_⟩
          refine ⟨p, _, _, (L' ++ [Stp.put i u' t']).length - 1, rfl, rfl, sput_same, (by rw [List.length_map]; exact ixN_neg (by rw [List.length_append]; exact Nat.le_add_left 1 _)), ?_⟩
          refine dss_nil ?_
          refine dss_cons (ds_set 6 rfl (.inl rfl) ?_)
          refine de_var 7 rfl (.inl rfl) rfl ?_
          refine dss_nil ?_
          refine dss_nil ?_
          show ∃ (x7 x8 x9 : Option D), _
          rw [hl2, hs]
          first
            | exact ⟨_, _, _, rfl, rfl⟩
            | (rw [sput_sput]
               first
                 | (rw [set_put]; exact ⟨_, _, _, rfl, rfl⟩)
                 | (rw [app_put]; exact ⟨_, _, _, rfl, rfl⟩))
        · (try simp only [decide_eq_true_eq, decide_eq_false_iff_not, Bool.and_eq_true, Bool.or_eq_true, Bool.not_eq_true', Bool.and_eq_false_iff, Bool.or_eq_false_iff, Bool.not_eq_false', Bool.not_eq_true, Bool.not_eq_false, Int.not_lt, Int.not_le] at h148)
          have hg := fun e => h148 (lastQ_is.mpr e)
          rw [step_f hg] at hs
          generalize (rowQ a b i (allQ a b w i) (oddsQ a b i j)) = L at pj hs hlen ⊢
          refine dss_cons (ds_expr ?_)
          refine de_bm md_append PySem.F.plainAttrs_list PySem.F.slot_list_append PySem.F.type_list_append ?_
          refine de_var 2 rfl (.inl rfl) rfl ?_
          refine ⟨(by first | exact rfl | exact ⟨rfl, _, by walk_at "st"⟩ | exact ⟨rfl, _, by first | exact sput_same | assumption | exact (sput_ne (by assumption)).trans sput_same⟩), ?_⟩
          refine da_cons ?_
          refine de_tup ?_
          refine da_cons ?_
          refine de_str ?_
          refine da_cons ?_
          refine de_var 3 rfl (.inl rfl) rfl ?_
          refine da_cons ?_
          refine de_var 7 rfl (.inl rfl) rfl ?_
          refine da_cons ?_
          refine de_var 9 rfl (.inl rfl) rfl ?_
          refine da_nil ?_
          refine ⟨sz_lit rfl, ?_⟩
          refine da_nil ?_
          refine ⟨_, _, _, rfl, rfl, sput_same, (by have hz := sizeLine_eq; rw [List.length_map]; omega), ?_⟩
          refine dss_nil ?_
          refine dss_cons (ds_set 6 rfl (.inl rfl) ?_)
          refine de_var 7 rfl (.inl rfl) rfl ?_
          refine dss_nil ?_
          refine dss_nil ?_
          show ∃ (x7 x8 x9 : Option D), _
          rw [hl2, hs]
          first
            | exact ⟨_, _, _, rfl, rfl⟩
            | (rw [sput_sput]
               first
                 | (rw [set_put]; exact ⟨_, _, _, rfl, rfl⟩)
                 | (rw [app_put]; exact ⟨_, _, _, rfl, rfl⟩))
      · (try simp only [decide_eq_true_eq, decide_eq_false_iff_not, Bool.and_eq_true, Bool.or_eq_true, Bool.not_eq_true', Bool.and_eq_false_iff, Bool.or_eq_false_iff, Bool.not_eq_false', Bool.not_eq_true, Bool.not_eq_false, Int.not_lt, Int.not_le] at h147)
        have ho : oddS a b i j = false := even_of h147
        have hs := rowQ_even (acc := (allQ a b w i)) ho
        have hl2 := lastQ_even ho
        refine dss_nil ?_
        refine dss_nil ?_
        show ∃ (x7 x8 x9 : Option D), _
        rw [hl2, hs]
        first
          | exact ⟨_, _, _, rfl, rfl⟩
          | (rw [sput_sput]
             first
               | (rw [set_put]; exact ⟨_, _, _, rfl, rfl⟩)
               | (rw [app_put]; exact ⟨_, _, _, rfl, rfl⟩))
    · rintro δ' m' ⟨x7, x8, x9, rfl, rfl⟩
      rw [ezAt_len (by rw [sgD_len, sgD_len, la, lb]), sgD_len, la]
      refine dss_nil ?_
      exact ⟨_, _, _, _, _, _, _, rfl, rfl⟩
  · rintro δ' m' ⟨x3, x4, x5, x6, x7, x8, x9, rfl, rfl⟩
    rw [ezAt_len (by rw [List.length_map, List.length_map, da.1, db.1]), List.length_map, da.1]
    refine dss_cons (ds_ret ?_)
    refine de_var 2 rfl (.inl rfl) rfl ?_
    exact hq p hp

abbrev s__law_puts : Stmt := topS 10
theorem sc__law_puts : FnScope ["_law_old", "_law_new", "_law_found", "_law_v", "_law_odd", "_law_u"] ["_law_old", "_law_new"] (defScope s__law_puts) := ⟨rfl, rfl, rfl, by decide +kernel, rfl, by decide +kernel, by decide +kernel⟩
set_option maxHeartbeats 4000000 in
theorem kn__law_puts {f : Addr} {fd : FuncData} (Fn : FnP K "_law_puts" s__law_puts f fd) (g : mg "_law_puts" = some (.ref f)) (m_range : mg "range" = none) (m_len : mg "len" = none)  : Kn P w K mg base "_law_puts" 1 (FPutsL) := by
  have b : Binds K fd ["_law_old", "_law_new"] [] := FunD.bindsN Fn fun _ _ _ _ _ _ us hl => match us, hl with | [_, _], _ => rfl
  refine ⟨f, fd, ["_law_old", "_law_new"], ?_, g, Fn.kp, b⟩
  refine def_ok (N := ["_law_old", "_law_new", "_law_found", "_law_v", "_law_odd", "_law_u"]) Fn sc__law_puts FPutsL.len ?_
  rintro ds m Q E ⟨h, w, a, b, rfl, h1, hh, hw, da, db, hq⟩
  refine dss_cons (ds_set 2 rfl (.inl rfl) ?_)
  refine de_lstM ?_
  refine da_nil ?_
  refine ⟨sz_lit rfl, ?_⟩
  intro p hp
  refine dss_cons (ds_for ?_)
  refine di_rng1 rfl m_range ?_
  refine de_callB cd_len rfl m_len bt_len ?_
  refine da_cons ?_
  refine de_var 1 rfl (.inr (.inl rfl)) rfl ?_
  refine da_nil ?_
  (refine len_l ?_; intro _)
  rw [List.length_map, db.1]
  refine ⟨_, rfl, ?_, ?_, ?_⟩
  · walk_at "side"
  · walk_at "side"
  refine ⟨fun i δ' m' => ∃ x3 x4 x5, δ' = [some (.lst (a.map D.str)), some (.lst (b.map D.str)), some (.ref p), x3, x4, x5] ∧ m' = sput m p (.lst ((allQ a b w i).map Stp.D)), ?_, ?_, ?_⟩
  · exact ⟨_, _, _, rfl, rfl⟩
  · rintro i dd δ' m' hi ⟨x3, x4, x5, rfl, rfl⟩
    obtain ⟨hit, rfl⟩ := rngD_get hi
    have hiH : i < h := by omega
    rw [Int.zero_add]
    have pi := allQ_inv da db (v := i) (Nat.le_of_lt hiH)
    obtain ⟨za, hza, -, la, -⟩ := da.row hiH
    obtain ⟨zb, hzb, -, lb, -⟩ := db.row hiH
    have ga : a.getD i "" = za := by rw [List.getD_eq_getElem?_getD, hza]; rfl
    have gb : b.getD i "" = zb := by rw [List.getD_eq_getElem?_getD, hzb]; rfl
    refine dg_name 3 rfl (.inr rfl) ?_
    refine dss_cons (ds_setLc 4 [("_law_u", 5)] (show blkC ["_law_old", "_law_new", "_law_found", "_law_v", "_law_odd", "_law_u"] (defScope s__law_puts) _ [("_law_u", 5)] = true from by decide +kernel) rfl rfl rfl (by decide +kernel) ?_)
    refine di_rng1 rfl m_range ?_
    refine de_callB cd_len rfl m_len bt_len ?_
    refine da_cons ?_
    refine de_ix ?_
    refine de_var 1 rfl (.inr (.inl rfl)) rfl ?_
    refine de_var 3 rfl (.inr (.inl rfl)) rfl ?_
    refine ixLi (d := .str zb) (by omega) (d_at (by rw [Int.toNat_natCast]; exact hzb)) ?_
    refine da_nil ?_
    refine len_s (by have hz := sizeLine_eq; omega) ?_
    rw [lb]
    refine ⟨_, rfl, ?_, ?_, ?_⟩
    · walk_at "side"
    · walk_at "side"
    refine ⟨fun j acc m' => acc = ((oddsQ a b i j).map (fun n : Nat => (n : Int))).map D.int ∧ m' = sput m p (.lst ((allQ a b w i).map Stp.D)), ?_, ?_, ?_⟩
    · exact ⟨rfl, rfl⟩
    · rintro j dd acc m' hj ⟨rfl, rfl⟩
      obtain ⟨hjt, rfl⟩ := rngD_get hj
      have hjw : j < w := by omega
      rw [Int.zero_add]
      have ca := sgn_at da hiH hjw
      have cb := sgn_at db hiH hjw
      rw [ga] at ca
      rw [gb] at cb
      refine dgv_name 5 (by decide) rfl (.inl rfl) ?_
      refine dts_one ?_
      refine dt_cmp od_neF ?_
      refine de_ix ?_
      refine de_ix ?_
      refine de_var 0 rfl (by first | exact .inl rfl | exact .inr (.inl rfl) | exact .inr (.inr rfl)) rfl ?_
      refine de_var 3 rfl (by first | exact .inl rfl | exact .inr (.inl rfl) | exact .inr (.inr rfl)) rfl ?_
      refine ixLi (d := .str za) (by omega) (d_at (by rw [Int.toNat_natCast]; exact hza)) ?_
      refine de_var 5 rfl (.inl rfl) rfl ?_
      refine ix_at (by omega) ca (by omega) ?_
      refine de_ix ?_
      refine de_ix ?_
      refine de_var 1 rfl (by first | exact .inl rfl | exact .inr (.inl rfl) | exact .inr (.inr rfl)) rfl ?_
      refine de_var 3 rfl (by first | exact .inl rfl | exact .inr (.inl rfl) | exact .inr (.inr rfl)) rfl ?_
      refine ixLi (d := .str zb) (by omega) (d_at (by rw [Int.toNat_natCast]; exact hzb)) ?_
      refine de_var 5 rfl (.inl rfl) rfl ?_
      refine ix_at (by omega) cb (by omega) ?_
      refine ne_ss ?_
      refine tb ?_
      refine br.any (fun h149 => ?_) (fun h149 => ?_)
      · (try simp only [decide_eq_true_eq, decide_eq_false_iff_not, Bool.and_eq_true, Bool.or_eq_true, Bool.not_eq_true', Bool.and_eq_false_iff, Bool.or_eq_false_iff, Bool.not_eq_false', Bool.not_eq_true, Bool.not_eq_false, Int.not_lt, Int.not_le] at h149)
        have ho : oddS a b i j = true := odd_of h149
        refine de_var 5 rfl (.inl rfl) rfl ?_
        refine ⟨?_, ?_, rfl⟩
        · rw [List.length_map, List.length_map]
          have e1 := List.length_filter_le (oddS a b i) (List.range j)
          rw [List.length_range] at e1
          have hz := sizeLine_eq
          show (oddsQ a b i j).length < sizeLine
          unfold oddsQ
          omega
        · rw [odds_succ, if_pos ho, List.map_append, List.map_append]
          rfl
      · (try simp only [decide_eq_true_eq, decide_eq_false_iff_not, Bool.and_eq_true, Bool.or_eq_true, Bool.not_eq_true', Bool.and_eq_false_iff, Bool.or_eq_false_iff, Bool.not_eq_false', Bool.not_eq_true, Bool.not_eq_false, Int.not_lt, Int.not_le] at h149)
        have ho : oddS a b i j = false := even_of h149
        refine ⟨?_, rfl⟩
        rw [odds_succ, if_neg (by rw [ho]; exact Bool.false_ne_true), List.append_nil]
    · rintro acc m' ⟨rfl, rfl⟩
      rw [rngD_len, Int.toNat_natCast]
      refine dss_cons (ds_for ?_)
      refine di_lst ?_
      refine de_var 4 rfl (.inl rfl) rfl ?_
      refine ⟨_, rfl, ?_⟩
      refine ⟨fun k δ' m' => ∃ x5, δ' = [some (.lst (a.map D.str)), some (.lst (b.map D.str)), some (.ref p), some (.int (i : Nat)), some (.lst (((oddsQ a b i w).map (fun n : Nat => (n : Int))).map D.int)), x5] ∧ m' = sput m p (.lst ((rowQ a b i (allQ a b w i) ((oddsQ a b i w).take k)).map Stp.D)), ?_, ?_, ?_⟩
      · exact ⟨_, rfl, rfl⟩
      · rintro k dd δ' m' hk0 ⟨x5, rfl, rfl⟩
        rw [List.getElem?_map, List.getElem?_map] at hk0
        obtain ⟨n0, hk1, rfl⟩ := Option.map_eq_some_iff.mp hk0
        obtain ⟨u, hk, rfl⟩ := Option.map_eq_some_iff.mp hk1
        obtain ⟨t1, t2, huw, ho⟩ := odds_take hk
        have pj := pi.upto da db hiH (Nat.le_of_lt huw)
        have hs := rowQ_odd (acc := (allQ a b w i)) ho
        have hlen := small_len hh hw (Nat.le_of_lt hiH) (Nat.le_of_lt huw) pj.len
        rw [← t2] at hs
        rw [t1]
        have ca := sgn_at da hiH huw
        have cb := sgn_at db hiH huw
        rw [ga] at ca
        rw [gb] at cb
        refine dg_name 5 rfl (.inl rfl) ?_
        refine dss_cons (ds_if ?_)
        refine dt_cmp od_in ?_
        refine de_bin od_sub ?_
        refine de_var 5 rfl (.inl rfl) rfl ?_
        refine de_int ?_
        walk_at "op"
        refine de_var 4 rfl (.inl rfl) rfl ?_
        refine in_intsQ ?_
        refine tb ?_
        refine br.any (fun h150 => ?_) (fun h150 => ?_)
        · (try simp only [decide_eq_true_eq, decide_eq_false_iff_not, Bool.and_eq_true, Bool.or_eq_true, Bool.not_eq_true', Bool.and_eq_false_iff, Bool.or_eq_false_iff, Bool.not_eq_false', Bool.not_eq_true, Bool.not_eq_false, Int.not_lt, Int.not_le] at h150)
          have hg := (mem_odds huw).mp h150
          rw [step_t hg] at hs
          obtain ⟨L', u', t', eL, eu⟩ := pj.end_ hg
          generalize (rowQ a b i (allQ a b w i) (oddsQ a b i u)) = L at pj hs eL hlen ⊢
          subst eL
          have okp := pj.ok (.put i u' t') (by simp)
          obtain ⟨_, _, _, hput, _⟩ := okp
          refine dss_cons (ds_setitem ?_)
          refine de_bin od_add ?_
          refine de_sl01 ?_
          refine de_ix ?_
          refine de_var 2 rfl (.inl rfl) rfl ?_
          refine de_neg ?_
          refine de_int ?_
          refine ⟨_, rfl, ?_⟩
          refine ixOn sput_same last_put ?_
          refine de_int ?_
          refine ⟨_, rfl, ?_⟩
          refine cut_t ?_
          rw [cut_three]
          refine de_tup ?_
          refine da_cons ?_
          refine de_bin od_add ?_
          refine de_ix ?_
          refine de_ix ?_
          refine de_var 2 rfl (.inl rfl) rfl ?_
          refine de_neg ?_
          refine de_int ?_
          refine ⟨_, rfl, ?_⟩
          refine ixOn sput_same last_put ?_
          refine de_int ?_
          refine ixT 3 rfl ?_
          refine de_ix ?_
          refine de_ix ?_
          refine de_var 1 rfl (.inr (.inl rfl)) rfl ?_
          refine de_var 3 rfl (.inr (.inl rfl)) rfl ?_
          refine ixLi (d := .str zb) (by omega) (d_at (by rw [Int.toNat_natCast]; exact hzb)) ?_
          refine de_var 5 rfl (.inl rfl) rfl ?_
          refine ix_at (by omega) cb (by omega) ?_
          refine add_ss (by have hz := sizeLine_eq; rw [sg1_len]; omega) ?_
          refine da_nil ?_
          refine ⟨sz_lit rfl, ?_⟩
          refine add_tt (by have hz := sizeLine_eq; simp only [List.length_cons, List.length_nil]; omega) ?_
          refine de_var 2 rfl (.inl rfl) rfl ?_
          refine de_neg ?_
          refine de_int ?_
          refine ⟨_, rfl, ?_⟩
          refine ⟨p, _, _, (L' ++ [Stp.put i u' t']).length - 1, rfl, rfl, sput_same, (by rw [List.length_map]; exact ixN_neg (by rw [List.length_append]; exact Nat.le_add_left 1 _)), ?_⟩
          refine dss_nil ?_
          refine dss_nil ?_
          show ∃ (x5 : Option D), _
          rw [hs, sput_sput]
          first
            | (rw [set_put]; exact ⟨_, rfl, rfl⟩)
            | (rw [app_put]; exact ⟨_, rfl, rfl⟩)
        · (try simp only [decide_eq_true_eq, decide_eq_false_iff_not, Bool.and_eq_true, Bool.or_eq_true, Bool.not_eq_true', Bool.and_eq_false_iff, Bool.or_eq_false_iff, Bool.not_eq_false', Bool.not_eq_true, Bool.not_eq_false, Int.not_lt, Int.not_le] at h150)
          have hg := fun e => h150 ((mem_odds huw).mpr e)
          rw [step_f hg] at hs
          generalize (rowQ a b i (allQ a b w i) (oddsQ a b i u)) = L at pj hs hlen ⊢
          refine dss_cons (ds_expr ?_)
          refine de_bm md_append PySem.F.plainAttrs_list PySem.F.slot_list_append PySem.F.type_list_append ?_
          refine de_var 2 rfl (.inl rfl) rfl ?_
          refine ⟨(by first | exact rfl | exact ⟨rfl, _, by walk_at "st"⟩ | exact ⟨rfl, _, by first | exact sput_same | assumption | exact (sput_ne (by assumption)).trans sput_same⟩), ?_⟩
          refine da_cons ?_
          refine de_tup ?_
          refine da_cons ?_
          refine de_str ?_
          refine da_cons ?_
          refine de_var 3 rfl (.inr (.inl rfl)) rfl ?_
          refine da_cons ?_
          refine de_var 5 rfl (.inl rfl) rfl ?_
          refine da_cons ?_
          refine de_ix ?_
          refine de_ix ?_
          refine de_var 1 rfl (.inr (.inl rfl)) rfl ?_
          refine de_var 3 rfl (.inr (.inl rfl)) rfl ?_
          refine ixLi (d := .str zb) (by omega) (d_at (by rw [Int.toNat_natCast]; exact hzb)) ?_
          refine de_var 5 rfl (.inl rfl) rfl ?_
          refine ix_at (by omega) cb (by omega) ?_
          refine da_nil ?_
          refine ⟨sz_lit rfl, ?_⟩
          refine da_nil ?_
          refine ⟨_, _, _, rfl, rfl, sput_same, (by have hz := sizeLine_eq; rw [List.length_map]; omega), ?_⟩
          refine dss_nil ?_
          refine dss_nil ?_
          show ∃ (x5 : Option D), _
          rw [hs, sput_sput]
          first
            | (rw [set_put]; exact ⟨_, rfl, rfl⟩)
            | (rw [app_put]; exact ⟨_, rfl, rfl⟩)
      · rintro δ' m' ⟨x5, rfl, rfl⟩
        rw [List.length_map, List.length_map, List.take_length]
        refine dss_nil ?_
        exact ⟨_, _, _, rfl, rfl⟩
  · rintro δ' m' ⟨x3, x4, x5, rfl, rfl⟩
    rw [rngD_len, Int.toNat_natCast]
    refine dss_cons (ds_ret ?_)
    refine de_freeze ?_
    refine de_var 2 rfl (.inl rfl) rfl ?_
    refine ⟨_, _, rfl, sput_same, ?_⟩
    rw [sdel_new hp]
    exact hq
end
end K26

namespace K26
open PySem PySem.Spec PyProof.Rows L2 G
local macro_rules | `(tactic| walk_at "op") => `(tactic| first | with_reducible refine add_ii ?_ | with_reducible refine sub_ii ?_ | with_reducible refine cmp_ii ?_ | with_reducible refine is_n ?_ | with_reducible refine isnt_n ?_ | with_reducible refine max_ii ?_ | with_reducible refine min_ii ?_ | with_reducible refine int_i ?_ | with_reducible refine int_b ?_ | refine len_l ?_ | refine len_t ?_ | refine isi rfl (by walk_at "kit") ?_)
local macro_rules | `(tactic| walk_at "kit") => `(tactic| first | exact kit_NoneType_bool | exact kit_NoneType_int | exact kit_NoneType_str | exact kit_NoneType_list | exact kit_NoneType_tuple | exact kit_NoneType_dict | exact kit_bool_bool | exact kit_bool_int | exact kit_bool_str | exact kit_bool_list | exact kit_bool_tuple | exact kit_bool_dict | exact kit_int_bool | exact kit_int_int | exact kit_int_str | exact kit_int_list | exact kit_int_tuple | exact kit_int_dict | exact kit_str_bool | exact kit_str_int | exact kit_str_str | exact kit_str_list | exact kit_str_tuple | exact kit_str_dict | exact kit_tuple_bool | exact kit_tuple_int | exact kit_tuple_str | exact kit_tuple_list | exact kit_tuple_tuple | exact kit_tuple_dict | exact kit_list_bool | exact kit_list_int | exact kit_list_str | exact kit_list_list | exact kit_list_tuple | exact kit_list_dict | exact kit_dict_bool | exact kit_dict_int | exact kit_dict_str | exact kit_dict_list | exact kit_dict_tuple | exact kit_dict_dict | exact kit2_NoneType_int_str | exact kit2_bool_int_str | exact kit2_int_int_str | exact kit2_str_int_str | exact kit2_tuple_int_str | exact kit2_list_int_str | exact kit2_dict_int_str)
local macro_rules | `(tactic| walk_at "side") => `(tactic| first | omega | (have hz := sizeLine_eq; omega))

local macro_rules | `(tactic| walk_at "ezlen") => `(tactic| first | (rw [la, lb]) | (rw [List.length_map, List.length_map, da.1, db.1]))
local macro_rules | `(tactic| walk_at "st") => `(tactic| first | exact sput_same | assumption | exact (sput_ne (by assumption)).trans sput_same)
section
variable {P : Program} {w : World} {K : PySem.W.Frag} {mg : Str → Option Value} {base : Heap}

abbrev s_law : Stmt := topS 12
theorem sc_law : FnScope ["_law_script", "_law_draw", "_law_turn", "_law_tall", "_law_room", "_law_old", "_law_new", "_law_k", "_law_v", "_law_u", "_law_handed", "_law_again", "_law_found"] ["_law_script"] (defScope s_law) := ⟨rfl, rfl, rfl, by decide +kernel, rfl, by decide +kernel, by decide +kernel⟩
set_option maxHeartbeats 4000000 in
theorem ok_law {f : Addr} {fd : FuncData} (Fn : FnP K "law" s_law f fd) (m_range : mg "range" = none) (m_list : mg "list" = none) (kn__law_begin : Kn P w K mg base "_law_begin" 1 (FBegin)) (kn__law_pick : Kn P w K mg base "_law_pick" 1 (FPick)) (kn__law_rows : Kn P w K mg base "_law_rows" 3 (FRows)) (kn__law_same : Kn P w K mg base "_law_same" 3 (FSame 2)) (kn__law_sameO : Kn P w K mg base "_law_same" 3 (FSameO 2)) (kn_behind_steps : Kn P w K mg base "behind_steps" 2 (FBehindO)) (kn_puts : Kn P w K mg base "puts" 1 (FPutsP)) (kn__law_puts : Kn P w K mg base "_law_puts" 1 (FPutsL)) : FnOk P w K mg base (L2.CX P w) 5 f fd ["_law_script"] (spD K (FLaw)) := by
  refine def_ok (N := ["_law_script", "_law_draw", "_law_turn", "_law_tall", "_law_room", "_law_old", "_law_new", "_law_k", "_law_v", "_law_u", "_law_handed", "_law_again", "_law_found"]) Fn sc_law FLaw.len ?_
  rintro ds m Q E ⟨ns, rfl, hl, hm0, hq⟩
  refine dss_cons (ds_set 1 rfl (.inl rfl) ?_)
  refine de_call kn__law_begin rfl rfl ?_
  refine da_cons ?_
  refine de_var 0 rfl (.inl rfl) rfl ?_
  refine da_nil ?_
  refine use_begin (fun p o hp hd => ?_)
  refine dss_cons (ds_for ?_)
  refine di_rng1 rfl m_range ?_
  refine de_int ?_
  refine ⟨_, rfl, ?_, ?_, ?_⟩
  · walk_at "side"
  · walk_at "side"
  refine ⟨fun _ δ' m' => ∃ x2 x3 x4 x5 x6 x7 x8 x9 x10 x11 x12 o, δ' = [some (.frz (ns.map D.int)), some (.ref p), x2, x3, x4, x5, x6, x7, x8, x9, x10, x11, x12] ∧ m' = sput m p o ∧ IsDraw o, ?_, ?_, ?_⟩
  · exact ⟨_, _, _, _, _, _, _, _, _, _, _, _, rfl, rfl, by assumption⟩
  · clear hd
    rintro i d δ' m' hi' ⟨x2, x3, x4, x5, x6, x7, x8, x9, x10, x11, x12, o, rfl, rfl, hd⟩
    obtain ⟨hlt, rfl⟩ := rngD_get hi'
    generalize (0 : Int) + (i : Nat) = turn
    refine dg_name 2 rfl (.inl rfl) ?_
    refine dss_cons (ds_par 3 4 rfl rfl (by decide) rfl rfl ?_ ?_)
    · refine da_cons ?_
      refine de_bin od_add ?_
      refine de_int ?_
      refine de_call kn__law_pick rfl rfl ?_
      refine da_cons ?_
      refine de_var 1 rfl (.inl rfl) rfl ?_
      refine da_cons ?_
      refine de_int ?_
      refine da_nil ?_
      refine use_pick (by assumption) (by walk_at "side") (by walk_at "side") (fun r0 o0 r0a r0b d0 => ?_)
      walk_at "op"
      refine da_cons ?_
      refine de_bin od_add ?_
      refine de_int ?_
      refine de_call kn__law_pick rfl rfl ?_
      refine da_cons ?_
      refine de_var 1 rfl (.inl rfl) rfl ?_
      refine da_cons ?_
      refine de_int ?_
      refine da_nil ?_
      refine use_pick (by assumption) (by walk_at "side") (by walk_at "side") (fun r1 o1 r1a r1b d1 => ?_)
      walk_at "op"
      refine da_nil ?_
      refine ⟨_, _, rfl, ?_⟩
      obtain ⟨T, hT⟩ : ∃ T : Nat, 1 + r0 = (T : Int) := ⟨(1 + r0).toNat, by omega⟩
      obtain ⟨R, hR⟩ : ∃ R : Nat, 1 + r1 = (R : Int) := ⟨(1 + r1).toNat, by omega⟩
      rw [hT, hR]
      have hT2 : 1 ≤ T ∧ T ≤ 8 := by omega
      have hR2 : 1 ≤ R ∧ R ≤ 12 := by omega
      clear hT hR r0a r0b r1a r1b
      refine dss_cons (ds_set 5 rfl (.inl rfl) ?_)
      refine de_call kn__law_rows rfl rfl ?_
      refine da_cons ?_
      refine de_var 1 rfl (.inl rfl) rfl ?_
      refine da_cons ?_
      refine de_var 3 rfl (.inl rfl) rfl ?_
      refine da_cons ?_
      refine de_var 4 rfl (.inl rfl) rfl ?_
      refine da_nil ?_
      refine use_rows (by assumption) (by omega) (by omega) (fun rs q1 o1 dr hd1 hq1p hq1 => ?_)
      refine dss_frzS 5 rfl ((sput_ne hq1p).trans sput_same) ?_
      rw [sdel_mid (Ne.symm hq1p) hq1]
      refine dss_cut (fun δ' m' => ∃ (rs2 : List Str) (q : Addr) (o : O) (x7 x8 x9 x10 x11 x12 : Option D), δ' = [some (.frz (ns.map D.int)), some (.ref p), some (.int turn), some (.int (T : Nat)), some (.int (R : Nat)), some (.lst (rs.map D.str)), some (.ref q), x7, x8, x9, x10, x11, x12] ∧ Draw T R rs2 ∧ IsDraw o ∧ q ≠ p ∧ m q = none ∧ m' = sput (sput m q (.lst (rs2.map D.str))) p o) ?_ ?_
      · refine ds_set 6 rfl (.inl rfl) ?_
        refine de_if ?_
        refine dt_cmp od_eqF ?_
        refine de_call kn__law_pick rfl rfl ?_
        refine da_cons ?_
        refine de_var 1 rfl (.inl rfl) rfl ?_
        refine da_cons ?_
        refine de_int ?_
        refine da_nil ?_
        refine use_pick (by assumption) (by walk_at "side") (by walk_at "side") (fun r2 o2 r2a r2b d2 => ?_)
        refine de_int ?_
        (first | refine eq_ss ?_ | refine eq_ii ?_)
        refine tb ?_
        refine br.any (fun h151 => ?_) (fun h151 => ?_)
        · (try simp only [decide_eq_true_eq, decide_eq_false_iff_not, Bool.and_eq_true, Bool.or_eq_true, Bool.not_eq_true', Bool.and_eq_false_iff, Bool.or_eq_false_iff, Bool.not_eq_false', Bool.not_eq_true, Bool.not_eq_false, Int.not_lt, Int.not_le] at h151)
          refine de_call kn__law_rows rfl rfl ?_
          refine da_cons ?_
          refine de_var 1 rfl (.inl rfl) rfl ?_
          refine da_cons ?_
          refine de_var 3 rfl (.inl rfl) rfl ?_
          refine da_cons ?_
          refine de_var 4 rfl (.inl rfl) rfl ?_
          refine da_nil ?_
          refine use_rows (by assumption) (by omega) (by omega) (fun rs2 q o7 dr2 hd7 hqp hq0 => ?_)
          first
            | exact ⟨rs2, q, _, _, _, _, _, _, _, rfl, dr2, by assumption, hqp, hq0, rfl⟩
            | exact ⟨rs, q, _, _, _, _, _, _, _, rfl, dr, by assumption, (new_ne hq0).symm, new_put hq0, sput_comm (new_ne hq0)⟩
        · (try simp only [decide_eq_true_eq, decide_eq_false_iff_not, Bool.and_eq_true, Bool.or_eq_true, Bool.not_eq_true', Bool.and_eq_false_iff, Bool.or_eq_false_iff, Bool.not_eq_false', Bool.not_eq_true, Bool.not_eq_false, Int.not_lt, Int.not_le] at h151)
          refine de_callTy cd_listM rfl m_list bt_list ?_
          refine da_cons ?_
          refine de_var 5 rfl (.inl rfl) rfl ?_
          refine da_nil ?_
          refine list_m rfl (fun q hq0 => ?_)
          first
            | exact ⟨rs2, q, _, _, _, _, _, _, _, rfl, dr2, by assumption, hqp, hq0, rfl⟩
            | exact ⟨rs, q, _, _, _, _, _, _, _, rfl, dr, by assumption, (new_ne hq0).symm, new_put hq0, sput_comm (new_ne hq0)⟩
      · clear hd hd1
        rintro δ' m' ⟨rs2, q, o, x7, x8, x9, x10, x11, x12, rfl, dr2, hd, hqp, hq0, rfl⟩
        refine dss_cons (ds_for ?_)
        refine di_rng1 rfl m_range ?_
        refine de_call kn__law_pick rfl rfl ?_
        refine da_cons ?_
        refine de_var 1 rfl (.inl rfl) rfl ?_
        refine da_cons ?_
        refine de_int ?_
        refine da_nil ?_
        refine use_pick (by assumption) (by walk_at "side") (by walk_at "side") (fun r3 o3 r3a r3b d3 => ?_)
        refine ⟨_, rfl, ?_, ?_, ?_⟩
        · walk_at "side"
        · walk_at "side"
        refine ⟨fun _ δ' m' => ∃ (rs2 : List Str) (x7 x8 x9 x10 x11 x12 : Option D) (o : O), δ' = [some (.frz (ns.map D.int)), some (.ref p), some (.int turn), some (.int (T : Nat)), some (.int (R : Nat)), some (.lst (rs.map D.str)), some (.ref q), x7, x8, x9, x10, x11, x12] ∧ Draw T R rs2 ∧ IsDraw o ∧ m' = sput (sput m q (.lst (rs2.map D.str))) p o, ?_, ?_, ?_⟩
        · exact ⟨rs2, _, _, _, _, _, _, _, rfl, dr2, by assumption, rfl⟩
        · clear dr2
          rintro j dd δ' m' hj' ⟨rs2, x7, x8, x9, x10, x11, x12, o9, rfl, dr2, hd9, rfl⟩
          obtain ⟨hjt, rfl⟩ := rngD_get hj'
          refine dg_name 7 rfl (.inl rfl) ?_
          refine dss_cons (ds_par 8 9 rfl rfl (by decide) rfl rfl ?_ ?_)
          · refine da_cons ?_
            refine de_call kn__law_pick rfl rfl ?_
            refine da_cons ?_
            refine de_var 1 rfl (.inl rfl) rfl ?_
            refine da_cons ?_
            refine de_var 3 rfl (.inl rfl) rfl ?_
            refine da_nil ?_
            refine use_pick (by assumption) (by walk_at "side") (by walk_at "side") (fun r4 o4 r4a r4b d4 => ?_)
            refine da_cons ?_
            refine de_call kn__law_pick rfl rfl ?_
            refine da_cons ?_
            refine de_var 1 rfl (.inl rfl) rfl ?_
            refine da_cons ?_
            refine de_var 4 rfl (.inl rfl) rfl ?_
            refine da_nil ?_
            refine use_pick (by assumption) (by walk_at "side") (by walk_at "side") (fun r5 o5 r5a r5b d5 => ?_)
            refine da_nil ?_
            refine ⟨_, _, rfl, ?_⟩
            obtain ⟨V, rfl⟩ : ∃ V : Nat, r4 = V := ⟨r4.toNat, by omega⟩
            obtain ⟨Uu, rfl⟩ : ∃ Uu : Nat, r5 = Uu := ⟨r5.toNat, by omega⟩
            obtain ⟨z, hz, -, hzl, hzo⟩ := dr2.row (v := V) (by omega)
            have zk := zzLine_ok hzl hzo (u := Uu) (by omega)
            refine dss_cons (ds_setitem ?_)
            refine de_sl01 ?_
            refine de_bin od_add ?_
            refine de_bin od_add ?_
            refine de_sl01 ?_
            refine de_ix ?_
            refine de_var 6 rfl (.inl rfl) rfl ?_
            refine de_var 8 rfl (.inl rfl) rfl ?_
            refine ixOi ((sput_ne hqp).trans sput_same) (by omega) (d := .str z) (d_at (by rw [Int.toNat_natCast]; exact hz)) ?_
            refine de_var 9 rfl (.inl rfl) rfl ?_
            refine ⟨_, rfl, ?_⟩
            refine cut_s (by have hz := sizeLine_eq; omega) ?_
            refine de_str ?_
            have c1 := cutS_len z none (some (Uu : Int))
            refine add_ss (by have hz := sizeLine_eq; rw [zz_len]; omega) ?_
            refine de_sl10 ?_
            refine de_ix ?_
            refine de_var 6 rfl (.inl rfl) rfl ?_
            refine de_var 8 rfl (.inl rfl) rfl ?_
            refine ixOi ((sput_ne hqp).trans sput_same) (by omega) (d := .str z) (d_at (by rw [Int.toNat_natCast]; exact hz)) ?_
            refine de_bin od_add ?_
            refine de_var 9 rfl (.inl rfl) rfl ?_
            refine de_int ?_
            walk_at "op"
            refine ⟨_, rfl, ?_⟩
            refine cut_s (by have hz := sizeLine_eq; omega) ?_
            have c2 := cutS_len z (some ((Uu : Int) + 2)) none
            refine add_ss (by have hz := sizeLine_eq; rw [app_len, zz_len]; omega) ?_
            refine de_var 4 rfl (.inl rfl) rfl ?_
            refine ⟨_, rfl, ?_⟩
            refine cut_s (by have hz := sizeLine_eq; rw [app_len, app_len, zz_len]; omega) ?_
            refine de_var 6 rfl (.inl rfl) rfl ?_
            refine de_var 8 rfl (.inl rfl) rfl ?_
            refine set_at V ((sput_ne hqp).trans sput_same) (by rw [List.length_map, dr2.1]; omega) ?_
            rw [sput_mid (Ne.symm hqp)]
            refine dss_nil ?_
            refine ⟨rs2.set V (zzLine z Uu R), _, _, _, _, _, _, _, rfl, set_draw dr2 zk, by assumption, ?_⟩
            rw [List.map_set]
            rfl
          · intro env h
            obtain ⟨_⟩ := env
            cases h
            kernel_rfl
        · clear dr2
          rintro δ' m' ⟨rs2, x7, x8, x9, x10, x11, x12, o9, rfl, dr2, hd9, rfl⟩
          refine dss_frzS 6 rfl ((sput_ne hqp).trans sput_same) ?_
          rw [sdel_mid (Ne.symm hqp) hq0]
          refine dss_cons (ds_set 10 rfl (.inl rfl) ?_)
          refine de_lst ?_
          refine da_cons ?_
          refine de_callTy cd_list rfl m_list bt_list ?_
          refine da_cons ?_
          refine de_var 5 rfl (.inl rfl) rfl ?_
          refine da_nil ?_
          refine list_l rfl ?_
          refine da_cons ?_
          refine de_callTy cd_list rfl m_list bt_list ?_
          refine da_cons ?_
          refine de_var 6 rfl (.inl rfl) rfl ?_
          refine da_nil ?_
          refine list_l rfl ?_
          refine da_nil ?_
          refine ⟨sz_lit rfl, ?_⟩
          refine dss_cons (ds_for ?_)
          refine di_rng1 rfl m_range ?_
          refine de_int ?_
          refine ⟨_, rfl, ?_, ?_, ?_⟩
          · walk_at "side"
          · walk_at "side"
          refine ⟨fun _ δ' m' => ∃ (x7 x8 x9 x11 x12 : Option D), δ' = [some (.frz (ns.map D.int)), some (.ref p), some (.int turn), some (.int (T : Nat)), some (.int (R : Nat)), some (.lst (rs.map D.str)), some (.lst (rs2.map D.str)), x7, x8, x9, some (.lst [.lst (rs.map D.str), .lst (rs2.map D.str)]), x11, x12] ∧ m' = sput m p o9, ?_, ?_, ?_⟩
          · exact ⟨_, _, _, _, _, rfl, rfl⟩
          · rintro j dd δ' m' hj' ⟨x7, x8, x9, x11, x12, rfl, rfl⟩
            obtain ⟨hjt, rfl⟩ := rngD_get hj'
            refine dg_name 11 rfl (.inl rfl) ?_
            refine dss_cons (ds_set 12 rfl (.inl rfl) ?_)
            refine de_call kn_puts rfl rfl ?_
            refine da_cons ?_
            refine de_ix ?_
            refine de_var 10 rfl (.inl rfl) rfl ?_
            refine de_int ?_
            (first | refine ixT 0 rfl ?_ | refine ixL 0 rfl ?_ | refine ixO 0 rfl rfl ?_ | walk_at "ix")
            refine da_cons ?_
            refine de_ix ?_
            refine de_var 10 rfl (.inl rfl) rfl ?_
            refine de_int ?_
            (first | refine ixT 1 rfl ?_ | refine ixL 1 rfl ?_ | refine ixO 1 rfl rfl ?_ | walk_at "ix")
            refine da_nil ?_
            refine ⟨T, R, _, _, rfl, by omega, by omega, dr, dr2, fun q hq9 => ?_⟩
            refine dss_cons (ds_if ?_)
            refine dt_pt (pt_or2 (k0 := ?k153) (k1 := ?k154) (fun W B q => ?a155) (fun h157 W B q => ?a156)) ?b152
            case a155 =>
              refine dt_not ?_
              refine dt_val ?_
              refine de_call kn__law_sameO rfl rfl ?_
              refine da_cons ?_
              refine de_var 12 rfl (.inl rfl) rfl ?_
              refine da_cons ?_
              refine de_call kn__law_puts rfl rfl ?_
              refine da_cons ?_
              refine de_var 5 rfl (.inl rfl) rfl ?_
              refine da_cons ?_
              refine de_var 6 rfl (.inl rfl) rfl ?_
              refine da_nil ?_
              refine ⟨T, R, _, _, rfl, by omega, by omega, by omega, dr, dr2, ?_⟩
              refine da_nil ?_
              refine ⟨_, _, rfl, sput_same, ok_puts dr dr2, ?_⟩
              refine tb ?_
              exact q
            case a156 =>
              (try simp only [decide_eq_true_eq, decide_eq_false_iff_not, Bool.and_eq_true, Bool.or_eq_true, Bool.not_eq_true', Bool.and_eq_false_iff, Bool.or_eq_false_iff, Bool.not_eq_false', Bool.not_eq_true, Bool.not_eq_false, Int.not_lt, Int.not_le] at h157)
              refine dt_cmp od_ne ?_
              refine de_var 10 rfl (.inl rfl) rfl ?_
              refine de_lst ?_
              refine da_cons ?_
              refine de_var 5 rfl (.inl rfl) rfl ?_
              refine da_cons ?_
              refine de_var 6 rfl (.inl rfl) rfl ?_
              refine da_nil ?_
              refine ⟨sz_lit rfl, ?_⟩
              refine ⟨3, by omega, ok_two dr dr2, ok_two dr dr2, ?_⟩
              rw [eqvD_refl (ok_two dr dr2)]
              refine tb ?_
              exact q
            case b152 =>
              refine br.f ?_
              refine dss_nil ?_
              refine dss_cons (ds_if ?_)
              refine dt_pt (pt_or2 (k0 := ?k160) (k1 := ?k161) (fun W B q => ?a162) (fun h164 W B q => ?a163)) ?b159
              case a162 =>
                refine dt_not ?_
                refine dt_val ?_
                refine de_call kn__law_same rfl rfl ?_
                refine da_cons ?_
                refine de_call kn_behind_steps rfl rfl ?_
                refine da_cons ?_
                refine de_ix ?_
                refine de_var 10 rfl (.inl rfl) rfl ?_
                refine de_int ?_
                (first | refine ixT 0 rfl ?_ | refine ixL 0 rfl ?_ | refine ixO 0 rfl rfl ?_ | walk_at "ix")
                refine da_cons ?_
                refine de_var 12 rfl (.inl rfl) rfl ?_
                refine da_nil ?_
                refine ⟨T, R, _, _, _, rfl, sput_same, by omega, by omega, dr, (allQ_inv dr dr2 (Nat.le_refl T)).ok, ?_⟩
                rw [allQ_done dr dr2]
                refine da_cons ?_
                refine de_var 6 rfl (.inl rfl) rfl ?_
                refine da_nil ?_
                refine use_same rfl (ok_rows dr2) ?_
                refine tb ?_
                exact q
              case a163 =>
                (try simp only [decide_eq_true_eq, decide_eq_false_iff_not, Bool.and_eq_true, Bool.or_eq_true, Bool.not_eq_true', Bool.and_eq_false_iff, Bool.or_eq_false_iff, Bool.not_eq_false', Bool.not_eq_true, Bool.not_eq_false, Int.not_lt, Int.not_le] at h164)
                refine dt_cmp od_ne ?_
                refine de_ix ?_
                refine de_var 10 rfl (.inl rfl) rfl ?_
                refine de_int ?_
                (first | refine ixT 0 rfl ?_ | refine ixL 0 rfl ?_ | refine ixO 0 rfl rfl ?_ | walk_at "ix")
                refine de_var 5 rfl (.inl rfl) rfl ?_
                refine ⟨2, by omega, ok_rows dr, ok_rows dr, ?_⟩
                rw [eqvD_refl (ok_rows dr)]
                refine tb ?_
                exact q
              case b159 =>
                refine br.f ?_
                refine dss_nil ?_
                refine dss_cons (ds_expr ?_)
                refine de_bm md_append PySem.F.plainAttrs_list PySem.F.slot_list_append PySem.F.type_list_append ?_
                refine de_var 12 rfl (.inl rfl) rfl ?_
                refine ⟨(by first | exact rfl | exact ⟨rfl, _, by walk_at "st"⟩ | exact ⟨rfl, _, by first | exact sput_same | assumption | exact (sput_ne (by assumption)).trans sput_same⟩), ?_⟩
                refine da_cons ?_
                refine de_tup ?_
                refine da_cons ?_
                refine de_str ?_
                refine da_cons ?_
                refine de_int ?_
                refine da_cons ?_
                refine de_int ?_
                refine da_cons ?_
                refine de_str ?_
                refine da_nil ?_
                refine ⟨sz_lit rfl, ?_⟩
                refine da_nil ?_
                have hlen := small_len (by omega) (by omega) (Nat.le_refl T) (Nat.zero_le R) (allQ_inv dr dr2 (Nat.le_refl T)).len
                refine ⟨_, _, _, rfl, rfl, sput_same, (by have hz := sizeLine_eq; rw [List.length_map]; omega), ?_⟩
                rw [sput_sput]
                refine dss_drop q ?_
                rw [sdel_new hq9]
                refine dss_nil ?_
                exact ⟨_, _, _, _, _, rfl, rfl⟩
          · rintro δ' m' ⟨x7, x8, x9, x11, x12, rfl, rfl⟩
            refine dss_cons (ds_if ?_)
            refine dt_W ?_
            refine dw_or ?_
            refine dt_cmp od_neM ?_
            refine de_call kn_puts rfl rfl ?_
            refine da_cons ?_
            refine de_var 5 rfl (.inl rfl) rfl ?_
            refine da_cons ?_
            refine de_var 5 rfl (.inl rfl) rfl ?_
            refine da_nil ?_
            refine ⟨T, R, _, _, rfl, by omega, by omega, dr, dr, fun q1 hq1 => ?_⟩
            refine de_lst ?_
            refine da_nil ?_
            refine ⟨sz_lit rfl, ?_⟩
            rw [allQ_same, List.map_nil]
            refine ⟨_, _, 2, rfl, sput_same, by omega, by decide +kernel, by decide +kernel, ?_⟩
            rw [if_pos rfl, eqvD_refl (n := 2) (d := .lst []) (by decide +kernel)]
            refine tb ?_
            refine br.f ?_
            refine dw_one_or ?_
            refine dt_cmp od_ne ?_
            refine de_call kn_behind_steps rfl rfl ?_
            refine da_cons ?_
            refine de_var 6 rfl (.inl rfl) rfl ?_
            refine da_cons ?_
            refine de_call kn_puts rfl rfl ?_
            refine da_cons ?_
            refine de_var 6 rfl (.inl rfl) rfl ?_
            refine da_cons ?_
            refine de_var 5 rfl (.inl rfl) rfl ?_
            refine da_nil ?_
            refine ⟨T, R, _, _, rfl, by omega, by omega, dr2, dr, fun q2 hq2 => ?_⟩
            refine da_nil ?_
            refine ⟨T, R, _, _, _, rfl, sput_same, by omega, by omega, dr2, (allQ_inv dr2 dr (Nat.le_refl T)).ok, ?_⟩
            rw [allQ_done dr2 dr]
            refine de_var 5 rfl (.inl rfl) rfl ?_
            refine ⟨2, by omega, ok_rows dr, ok_rows dr, ?_⟩
            rw [eqvD_refl (ok_rows dr)]
            refine tb ?_
            refine br.f ?_
            refine dss_nil ?_
            refine dss_drop q2 ?_
            rw [sdel_new hq2]
            refine dss_drop q1 ?_
            rw [sdel_new hq1]
            refine dss_nil ?_
            exact ⟨_, _, _, _, _, _, _, _, _, _, _, _, rfl, rfl, by assumption⟩
    · intro env h
      obtain ⟨_⟩ := env
      cases h
      kernel_rfl
  · rintro δ' m' ⟨x2, x3, x4, x5, x6, x7, x8, x9, x10, x11, x12, o, rfl, rfl, hd⟩
    refine dss_cons (ds_ret ?_)
    refine de_bl ?_
    exact hq _
end
end K26

/-! The law's end, over the data layer. -/
namespace G
open PySem PySem.Spec PyProof.Rows L2
theorem walk_w {l : PySem.W.OpenLaw} {k : Nat} {q : Program} {loose : List Str} {XP : (Str → Option Value) → Heap → Prop} {YP : World → Heap → Prop} {d : DefRec} {x : Str}
    (most : l.most = some 63) (plain : d.params.defaults = []) (room : Room k callerA)
    (F : ∀ (w : World) (g : Str → Option Value) (a : Addr) (h : Heap), YP w h → h.Ns mainGlobals g → g d.name = some (.ref a) →
      ∃ (K : PySem.W.Frag) (fd : FuncData), K.In h ∧ (∀ (s : Shared) (u : Value), BindsTo s fd ⟨[u], []⟩ [(x, u)]) ∧
        ∀ base : Heap, K.In base → base.Ns mainGlobals g → FnOk l.prog w K g base (L2.CX l.prog w) k a fd [x] (spD K FLaw)) :
    PySem.W.WalkO q loose XP YP l.row.toRowW d [] (fun f vs => PySem.call f vs) :=
  Att.attach_call most plain fun w s₀ s₁ g mb fa o pm cd doc a vs ns G Y own hd hcd at_ ob isI len gens => by
    obtain ⟨K, fd, KX, bind, ok⟩ := F w g fa _ Y G.T.g at_
    have len2 : ns.length ≤ sizeLine := Nat.le_trans len (by decide)
    exact law_call KX G.T.g G.T.b G.T.builtins G.T.nolimit gens ob isI len2 room ok bind (fun H _ hS => law_sp len hS) fun H e s' => cx_never
end G

/-! The head's facts beyond the hook's own: tuples of texts, classes of errors. -/
namespace G
open PySem PySem.Spec PyProof.Rows L2
def strsB : List Value → List Str → Bool
  | [], [] => true
  | .str y _ :: vs, z :: zs => decide (y = z) && strsB vs zs
  | _, _ => false
theorem strsB_ok : ∀ {vs : List Value} {zs : List Str}, strsB vs zs = true → Vals (zs.map V.str) vs
  | [], [], _ => .nil
  | .str y t :: vs, z :: zs, h => by
    have h2 : (decide (y = z) && strsB vs zs) = true := h
    obtain ⟨h3, h4⟩ := He.ba h2
    have e : y = z := of_decide_eq_true h3
    subst e
    exact .cons ⟨t, rfl⟩ (strsB_ok h4)
  | [], _ :: _, h => by cases h
  | .none :: _, [], h => by cases h
  | .str _ _ :: _, [], h => by cases h
  | .none :: _, _ :: _, h => by cases h
  | .bool _ :: _, [], h => by cases h
  | .bool _ :: _, _ :: _, h => by cases h
  | .int _ _ :: _, [], h => by cases h
  | .int _ _ :: _, _ :: _, h => by cases h
  | .ref _ :: _, [], h => by cases h
  | .ref _ :: _, _ :: _, h => by cases h
  | .type _ :: _, [], h => by cases h
  | .type _ :: _, _ :: _, h => by cases h
  | .builtin _ :: _, [], h => by cases h
  | .builtin _ :: _, _ :: _, h => by cases h
def tupB (K : PySem.W.Frag) (x : Str) (zs : List Str) : Bool := match K.lookup (He.ga K x) with
  | some ⟨.type c, none, .seq its _, _⟩ => decide (c = "tuple") && (decide (its.size ≤ sizeLine) && strsB its.toList zs)
  | _ => false
theorem tupB_ok {K : PySem.W.Frag} {mg : Str → Option Value} {x : Str} {zs : List Str} (h : tupB K x zs = true) (hm : mg x = some (.ref (He.ga K x))) : TupK K mg x zs := by
  unfold tupB at h
  cases q : K.lookup (He.ga K x) with
  | none =>
    rw [q] at h
    cases h
  | some o =>
    obtain ⟨oc, od, dt, osl⟩ := o
    rw [q] at h
    cases oc with
    | type c =>
      cases od with
      | none =>
        cases dt with
        | seq its n =>
          obtain ⟨h1, h2⟩ := He.ba h
          obtain ⟨h3, h4⟩ := He.ba h2
          have e : c = "tuple" := of_decide_eq_true h1
          exact ⟨_, _, its, n, hm, q, congrArg Value.type e, rfl, rfl, of_decide_eq_true h3, strsB_ok h4⟩
        | _ => cases h
      | some d => cases dt <;> cases h
    | _ => cases od <;> cases dt <;> cases h
theorem ec_of {K : PySem.W.Frag} {mg : Str → Option Value} {x : Str} (c : (He.Fa.exc x).ok K = true) (hm : mg x = some (.ref (He.ga K x))) : Ec K mg x (He.ga K x) := by
  obtain ⟨h1, h2, h3, h4⟩ := He.exc_ok c
  exact ⟨hm, h2, h1, h3, h4⟩
end G

/-! Facts at the head: classes of errors, as isinstance asks for them. -/
namespace G
open PySem PySem.Spec PyProof.Rows L2
def exIsB (K : PySem.W.Frag) (x : Str) : Bool :=
  He.eqO (PySem.W.findIn K (.ref (He.ga K x)) "__getattribute__") (some (some (.builtin "BaseException.__getattribute__"))) &&
  (He.eqO (PySem.W.findIn K (.ref (He.ga K x)) "__getattr__") (some none) &&
  (decide (PySem.W.subIn K (.ref (He.ga K x)) (.type "BaseException") = some true) &&
  (PySem.W.hasDictIn K (He.ga K x) &&
  (He.eqO (PySem.W.findIn K (.ref (He.ga K x)) "__class__") (some (some (.builtin "object.__class__"))) &&
  (He.eqO (PySem.W.specialIn K (.builtin "object.__class__") "__get__") (some (some (.builtin "getset_descriptor.__get__"))) &&
  (decide (PySem.W.takesIn K (.builtin "object.__class__") = some true) &&
  decide (PySem.W.mroIn K (He.ga K x) (.type "object") = some true)))))))
theorem exIsB_ok {K : PySem.W.Frag} {x : Str} (h : exIsB K x = true) : ExcC K (He.ga K x) := by
  unfold exIsB at h
  obtain ⟨h1, h⟩ := He.ba h
  obtain ⟨h2, h⟩ := He.ba h
  obtain ⟨h3, h⟩ := He.ba h
  obtain ⟨h4, h⟩ := He.ba h
  obtain ⟨h5, h⟩ := He.ba h
  obtain ⟨h6, h⟩ := He.ba h
  obtain ⟨h7, h8⟩ := He.ba h
  exact ⟨He.eqO_ok h1, He.eqO_ok h2, of_decide_eq_true h3, h4, He.eqO_ok h5, He.eqO_ok h6, of_decide_eq_true h7, of_decide_eq_true h8⟩
end G

/-! Laying a set's table anew: it always succeeds at the masks that come. -/
namespace G
open PySem PySem.Spec PyProof.Rows L2

def orb (m : Nat) : Nat → Nat → List Nat
  | 0, _ => []
  | n + 1, x => x :: orb m n ((x * 5 + 1) % (m + 1))
theorem orb_mem (m : Nat) : ∀ (n a : Nat) {j : Nat}, j ∈ orb m n (lcgN m a) → ∃ b, b < n ∧ lcgN m (a + b) = j
  | 0, _, _, h => nomatch h
  | n + 1, a, j, h => by
    rcases List.mem_cons.mp h with e | e
    · exact ⟨0, Nat.succ_pos _, e.symm⟩
    · obtain ⟨b, hb, q⟩ := orb_mem m n (a + 1) (j := j) e
      exact ⟨b + 1, Nat.succ_lt_succ hb, by rw [← q]; congr 1; omega⟩
structure FullM (m : Nat) : Prop where
  all : ∀ j, j ≤ m → ∃ b, b ≤ m ∧ lcgN m b = j
  rnd : lcgN m (m + 1) = 0
def chk (m : Nat) : Bool := ((List.range (m + 1)).all fun j => (orb m (m + 1) 0).contains j) && (lcgN m (m + 1) == 0)
theorem FullM.of {m : Nat} (h : chk m = true) : FullM m := by
  unfold chk at h
  obtain ⟨h1, h2⟩ := Bool.and_eq_true_iff.mp h
  refine ⟨fun j hj => ?_, beq_iff_eq.mp h2⟩
  have q := List.all_eq_true.mp h1 j (List.mem_range.mpr (Nat.lt_succ_of_le hj))
  have q2 : j ∈ orb m (m + 1) (lcgN m 0) := by
    show j ∈ orb m (m + 1) 0
    simpa using q
  obtain ⟨b, hb, e⟩ := orb_mem m (m + 1) 0 q2
  exact ⟨b, Nat.le_of_lt_succ hb, by rw [← e, Nat.zero_add]⟩
theorem chk7 : chk 7 = true := by decide +kernel
theorem chk15 : chk 15 = true := by decide +kernel
theorem chk31 : chk 31 = true := by decide +kernel
theorem chk63 : chk 63 = true := by decide +kernel
theorem chk127 : chk 127 = true := by decide +kernel
theorem chk255 : chk 255 = true := by decide +kernel
theorem FullM.turn {m : Nat} (F : FullM m) : ∀ k, lcgN m (m + 1 + k) = lcgN m k
  | 0 => F.rnd
  | k + 1 => by
    show (lcgN m (m + 1 + k) * 5 + 1) % (m + 1) = (lcgN m k * 5 + 1) % (m + 1)
    rw [F.turn k]
theorem FullM.from_ {m : Nat} (F : FullM m) {i j : Nat} (hi : i ≤ m) (hj : j ≤ m) : ∃ k, k ≤ m ∧ lcgI m i k = j := by
  obtain ⟨a, ha, rfl⟩ := F.all i hi
  obtain ⟨b, hb, rfl⟩ := F.all j hj
  by_cases c : a ≤ b
  · exact ⟨b - a, by omega, by rw [lcgN_add]; congr 1; omega⟩
  · exact ⟨m + 1 + b - a, by omega, by rw [lcgN_add, show a + (m + 1 + b - a) = m + 1 + b by omega, F.turn]⟩
theorem FullM.meets {m : Nat} (F : FullM m) (h : Int) {j : Nat} (hj : j ≤ m) : ∃ n, n ≤ m + 12 ∧ runI m (SetTable.bits h) n = j := by
  obtain ⟨k, hk, e⟩ := F.from_ (runI_le m (SetTable.bits h) 12) hj
  exact ⟨12 + k, by omega, by rw [runI_tail (bits_lt h), e]⟩
/-- a free slot is found if a run begins at one -/
theorem free_some (m : Nat) (owner : Array (Option Nat)) (hs : owner.size = m + 1) : ∀ (f n i b : Nat), n < f → i ≤ m → oAt owner (itL m i b n).1 = none →
    ∃ j, SetTable.layClean.free m owner f i b = some j ∧ j ≤ m ∧ oAt owner j = none
  | 0, _, _, _, h, _, _ => absurd h (Nat.not_lt_zero _)
  | f + 1, n, i, b, h, hi, hf => by
    rw [free_succ]
    cases e : (List.range (SetTable.runEnd m i + 1 - i)).find? fun k => (oAt owner (i + k)).isNone with
    | some k =>
      have q := List.find?_some e
      have q1 := List.mem_range.mp (List.mem_of_find?_eq_some e)
      have rb := runEnd_bd hi
      refine ⟨i + k, rfl, by omega, ?_⟩
      cases z : oAt owner (i + k) with
      | none => rfl
      | some y => rw [z] at q; cases q
    | none =>
      show ∃ j, SetTable.layClean.free m owner f (SetTable.leap m i b).1 (SetTable.leap m i b).2 = some j ∧ _
      cases n with
      | zero =>
        exfalso
        have hf' : oAt owner i = none := hf
        have rb := runEnd_bd hi
        have q := List.find?_eq_none.mp e 0 (List.mem_range.mpr (by omega))
        rw [Nat.add_zero, hf'] at q
        exact q rfl
      | succ n => exact free_some m owner hs f n _ _ (by omega) (Nat.le_of_lt_succ (Nat.mod_lt _ (Nat.succ_pos _))) hf
/-- who sits where, n of them -/
structure OwnL (m n : Nat) (owner : Array (Option Nat)) : Prop where
  sz : owner.size = m + 1
  all : ∀ k, k < n → ∃ j, j ≤ m ∧ oAt owner j = some k
  ps : ∃ ps : List Nat, ps.length = n ∧ ∀ j, j ≤ m → oAt owner j ≠ none → j ∈ ps
theorem OwnL.step {m n : Nat} (F : FullM m) {owner : Array (Option Nat)} (O : OwnL m n owner) (hl : n ≤ m) (h : Int) :
    ∃ j, SetTable.layClean.free m owner (SetTable.turns m) (SetTable.bits h % (m + 1)) (SetTable.bits h) = some j ∧ OwnL m (n + 1) (owner.setIfInBounds j (some n)) := by
  obtain ⟨ps, hp, hin⟩ := O.ps
  obtain ⟨j0, h0, hn0⟩ := st_missing ps (m + 1) (by omega)
  have hj0 : oAt owner j0 = none := by
    cases z : oAt owner j0 with
    | none => rfl
    | some k => exact absurd (hin j0 (by omega) (by rw [z]; simp)) hn0
  obtain ⟨q, hq, e⟩ := F.meets h (j := j0) (by omega)
  obtain ⟨j, f1, f2, f3⟩ := free_some m owner O.sz (SetTable.turns m) q (SetTable.bits h % (m + 1)) (SetTable.bits h) (by unfold SetTable.turns; omega)
    (Nat.le_of_lt_succ (Nat.mod_lt _ (Nat.succ_pos _))) (by rw [itL_run]; show oAt owner (runI m (SetTable.bits h) q) = none; rw [e]; exact hj0)
  have hjs : j < owner.size := by rw [O.sz]; omega
  refine ⟨j, f1, by rw [Array.size_setIfInBounds]; exact O.sz, fun k hk => ?_, j :: ps, by rw [List.length_cons, hp], fun i hi hne => ?_⟩
  · by_cases c : k < n
    · obtain ⟨i, hi, z⟩ := O.all k c
      exact ⟨i, hi, by rw [oAt_set_ne _ (fun y => by rw [y, f3] at z; cases z)]; exact z⟩
    · exact ⟨j, f2, by rw [oAt_set_self _ hjs]; congr 1; omega⟩
  · by_cases c : i = j
    · rw [c]; exact List.mem_cons_self
    · rw [oAt_set_ne _ c] at hne
      exact List.mem_cons_of_mem _ (hin i hi hne)
theorem lay_fold {m : Nat} (F : FullM m) : ∀ (l : List Int) (n : Nat) (owner : Array (Option Nat)), OwnL m n owner → n + l.length ≤ m →
    ∃ o2, l.foldl (stepF m) (some (owner, n)) = some (o2, n + l.length) ∧ OwnL m (n + l.length) o2
  | [], n, owner, O, _ => ⟨owner, rfl, O⟩
  | h :: l, n, owner, O, hl => by
    rw [List.length_cons] at hl ⊢
    obtain ⟨j, e, O2⟩ := O.step F (by omega) h
    obtain ⟨o2, q, O3⟩ := lay_fold F l (n + 1) _ O2 (by omega)
    refine ⟨o2, ?_, by rw [show n + (l.length + 1) = n + 1 + l.length by omega]; exact O3⟩
    rw [List.foldl_cons, stepF_some e, q, show n + (l.length + 1) = n + 1 + l.length by omega]
theorem lay_ok {m : Nat} (F : FullM m) {hs : Array Int} (hn : hs.size ≤ m) : ∃ owner, SetTable.layClean m hs = some owner ∧ OwnL m hs.size owner := by
  have O0 : OwnL m 0 (Array.replicate (m + 1) none) := ⟨by simp, fun k hk => absurd hk (Nat.not_lt_zero _), [], rfl, fun j hj e => absurd (oAt_init hj) e⟩
  obtain ⟨o, e, O⟩ := lay_fold F hs.toList 0 _ O0 (by rw [Array.length_toList]; omega)
  rw [Array.length_toList, Nat.zero_add] at O
  exact ⟨o, by rw [layClean_eq, e]; rfl, O⟩
theorem laid_ok {m f mv : Nat} {ld pl : Bool} (F : FullM m) {hs : Array Int} (hn : hs.size ≤ m) : ∃ t order, SetTable.laid m f mv ld pl hs = some (t, order) ∧ order.toList.Perm (List.range hs.size) ∧ Ris t.place.toList ∧
    t.place.size = hs.size ∧ t.mask = m ∧ t.led = ld ∧ t.plain = pl ∧ t.dummies = #[] := by
  obtain ⟨owner, e, O⟩ := lay_ok F hn
  have hr : SetTable.laid m f mv ld pl hs = some ({ mask := m, place := ((liveOf m owner).map (·.1)).toArray, dummies := #[], finger := f, led := ld, moves := mv, plain := pl }, ((liveOf m owner).map (·.2)).toArray) := by
    show (SetTable.layClean m hs).bind _ = _
    rw [e] <;> rfl
  have r1 : Ris ((liveOf m owner).map (·.1)) := (ris_live (fun j => owner.getD j none) (List.range (m + 1)) (by unfold Ris; first | exact List.pairwise_lt_range | exact List.pairwise_lt_range _)).1
  have nd : ((liveOf m owner).map (·.1)).Nodup := List.Pairwise.imp (fun h => Nat.ne_of_lt h) r1
  have cov : ∀ k, k < hs.size → k ∈ (liveOf m owner).map (·.2) := fun k hk => by
    obtain ⟨j, b1, b2⟩ := O.all k hk
    exact List.mem_map.mpr ⟨(j, k), (mem_live O.sz).2 ⟨b1, b2⟩, rfl⟩
  have len : (liveOf m owner).length = hs.size := by
    obtain ⟨ps, p1, p2⟩ := O.ps
    have a := nat_nodup_len ((liveOf m owner).map (·.1)) ps nd fun x hx => by
      obtain ⟨⟨y, k⟩, hq, rfl⟩ := List.mem_map.mp hx
      obtain ⟨b1, b2⟩ := (mem_live O.sz).1 hq
      exact p2 y b1 (by rw [b2]; simp)
    have b := nat_nodup_len (List.range hs.size) ((liveOf m owner).map (·.2)) List.nodup_range fun k hk => cov k (List.mem_range.mp hk)
    rw [List.length_map, p1] at a
    rw [List.length_map, List.length_range] at b
    omega
  exact ⟨_, _, hr, perm_range hs.size _ (by simp [len]) cov, r1, by simp [len], rfl, rfl, rfl, rfl⟩
theorem mask_ok {n : Nat} (h : n < 256) : FullM (SetTable.sizeAbove n - 1) ∧ n ≤ SetTable.sizeAbove n - 1 := by
  have key : ∀ n, n < 256 → (SetTable.sizeAbove n = 8 ∨ SetTable.sizeAbove n = 16 ∨ SetTable.sizeAbove n = 32 ∨ SetTable.sizeAbove n = 64 ∨ SetTable.sizeAbove n = 128 ∨ SetTable.sizeAbove n = 256) ∧ n ≤ SetTable.sizeAbove n - 1 := by decide +kernel
  obtain ⟨k, k2⟩ := key n h
  refine ⟨?_, k2⟩
  rcases k with k | k | k | k | k | k <;> rw [k] <;> apply FullM.of <;> first | exact chk7 | exact chk15 | exact chk31 | exact chk63 | exact chk127 | exact chk255
end G

/-! One set of numbers poured into another. -/
namespace G
open PySem PySem.Spec PyProof.Rows L2

theorem setRoomFor_eq (a : Addr) (more : Nat) : setRoomFor a more = (do
    if let some wanted := (← setState a).2.2.roomFor more then setRelay a wanted) := by rfl
theorem setMerge_eq (s o : Addr) (each : Sem Unit) : setMerge s o each = (do
  if s == o then return
  let (eo, epoch, to) ← setState o
  if eo.isEmpty then return
  setRoomFor s eo.size
  let (_, _, ts) ← setState s
  match ts.road to with
  | .slotForSlot => storeSet s eo { to with finger := ts.finger, led := ts.led && to.led, moves := ts.moves, plain := ts.plain && to.plain }
  | .clean =>
    let (es, t) ← (do
      let some (t, order) := (SetTable.laid ts.mask ts.finger ts.moves (led := ts.led && to.led) (plain := ts.plain && to.plain) (eo.map (·.1))) | unsupported "internal:set-table-without-room"
      let es' := order.filterMap (eo[·]?)
      if es'.size != eo.size then unsupported "internal:set-table-lost-an-element"
      pure (es', t) : Sem (Array (Int × Value) × SetTable))
    storeSet s es t
  | .oneByOne =>
    for (h, x) in ← setWalkUnseen o [s] (some s) do
      let _ ← holding [x] (setAddHashed s x h)
      each
      if (← setState o).2.1 != epoch then unsupported "set.changed-during-merge") := by rfl
theorem setWalk_eq (a : Addr) : setWalk a = (do
  let (es, epoch, t) ← setState a
  if ← setsByText then return pickOrder ((← ask).params.setOrder a epoch) es
  if (!t.plain && es.size > 1) then return (← drawOrder es.size es.toList).toArray
  (do if !t.led && es.size > 1 then unsupported "set:maker-not-led" : Sem Unit)
  return es) := by rfl
section
variable {P : Program} {w : World} {A : Around} {E : Value → Shared → Prop} {s : Shared} {a b : Addr} {S : Int → Bool} {n : Nat}
theorem order_perm {es : Array (Int × Value)} {order : Array Nat} (h : order.toList.Perm (List.range es.size)) : (order.filterMap (es[·]?)).toList.Perm es.toList := by
  rw [Array.toList_filterMap]
  exact (h.filterMap _).trans (by rw [filterMap_getElem?_range])
theorem relay_raw {o : Obj} {es : Array (Int × Value)} {ep : Nat} {t : SetTable} (ho : s.heap.get? a = some o) (hd : o.data = .set es ep t) (hf : t.fits es.size = true) {wanted : Nat} (h256 : wanted < 256) (hn : es.size ≤ wanted) {Q : Unit → Shared → Prop}
    (hQ : ∀ es' t', es'.toList.Perm es.toList → Ris t'.place.toList → t'.place.size = es'.size → t'.dummies = #[] → t'.mask = SetTable.sizeAbove wanted - 1 → es'.size ≤ t'.mask → t'.led = t.led → Q () { s with heap := s.heap.update a (Obj.putSet es' t') }) :
    wpAny (model P w) A (setRelay a wanted) Q E s := by
  obtain ⟨F, hm⟩ := mask_ok h256
  obtain ⟨t', order, e, pm, rs, sz, mk, ld, _, dm⟩ := laid_ok (f := t.finger) (mv := t.movedTo (SetTable.sizeAbove wanted - 1)) (ld := t.led) (pl := t.plain) F (hs := es.map (·.1)) (by rw [Array.size_map]; omega)
  rw [Array.size_map] at pm sz
  have e' : t.relaid (es.map (·.1)) wanted = some (t', order) := e
  have pm2 := order_perm pm
  have hs2 : (order.filterMap (es[·]?)).size = es.size := by rw [← Array.length_toList, pm2.length_eq, Array.length_toList]
  have hline : ¬ SetTable.sizeAbove wanted > sizeLine := by
    have key : ∀ n, n < 256 → SetTable.sizeAbove n ≤ 256 := by decide +kernel
    have := key wanted h256
    rw [sizeLine_eq]
    omega
  rw [setRelay_eq]
  refine wpAny_bind (wpAny_setState_of ho hd hf ?_)
  dsimp only
  refine wp_if_neg hline ?_
  rw [e']
  dsimp only
  refine wpAny_bind ?_
  refine wp_if_neg (by rw [hs2]; simp) ?_
  refine wpAny_pure ?_
  dsimp only
  refine wpAny_storeSet_of ho hd ?_ (by rw [hs2, sizeLine_eq]; omega)
  exact hQ _ _ pm2 rs (by rw [sz, hs2]) dm mk (by rw [hs2, mk]; omega) ld
/-- a set without members and its mask -/
def Emp (w : World) (h : Heap) (a : Addr) (m : Nat) : Prop := ∃ o ep t, h.get? a = some o ∧ o.ExactSet ∧ o.data = .set #[] ep t ∧ t.place = #[] ∧ t.dummies = #[] ∧ t.mask = m ∧ (w.params.followText "set-order" = true ∨ t.led = true)
theorem fits_of {t : SetTable} {n : Nat} (h1 : t.place.size = n) (h2 : t.dummies = #[]) (h3 : n ≤ t.mask) : t.fits n = true := by
  unfold SetTable.fits SetTable.fill
  rw [h2, Bool.and_eq_true, beq_iff_eq, decide_eq_true_eq]
  exact ⟨h1, by rw [h1]; exact h3⟩
/-- room for more, in one that has none -/
theorem room_emp (R : Emp w s.heap a 7) {k : Nat} (hk : k < 128) {Q : Unit → Shared → Prop}
    (hQ : ∀ h' m, Heap.SameBut a s.heap h' → Emp w h' a m → FullM m → k ≤ m → Q () { s with heap := h' }) : wpAny (model P w) A (setRoomFor a k) Q E s := by
  obtain ⟨o, ep, t, ho, hex, hd, hp, hdm, hm, hl⟩ := R
  have hf : t.fits (#[] : Array (Int × Value)).size = true := fits_of (by rw [hp]; rfl) hdm (Nat.zero_le _)
  rw [setRoomFor_eq]
  refine wpAny_bind (wpAny_setState_of ho hd hf ?_)
  dsimp only
  have hr : t.roomFor k = if k * 5 ≥ 21 then some (k * 2) else none := by
    unfold SetTable.roomFor SetTable.fill
    rw [hp, hdm, hm]
    show (if (0 + 0 + k) * 5 ≥ 7 * 3 then some ((0 + k) * 2) else none) = _
    simp only [Nat.zero_add, Nat.add_zero]
  rw [hr]
  split
  · rename_i c e
    split at e
    · cases e
      refine relay_raw ho hd hf (by omega) (Nat.zero_le _) fun es' t' pm rs sz dm mk le ld => ?_
      have he : es' = #[] := Array.toList_eq_nil_iff.mp (List.Perm.eq_nil pm)
      subst he
      obtain ⟨F, hm2⟩ := mask_ok (n := k * 2) (by omega)
      exact hQ _ _ (Heap.SameBut.update s.heap a _) ⟨_, _, t', store_at ho hd, ⟨hex.1, hex.2.1, hex.2.2⟩, rfl, Array.size_eq_zero_iff.mp sz, dm, mk, hl.imp id fun z => by rw [ld]; exact z⟩ F (by omega)
    · cases e
  · rename_i e
    split at e
    · exact absurd rfl (e _)
    · exact wpAny_pure (hQ s.heap 7 (Heap.SameBut.refl a s.heap) ⟨o, ep, t, ho, hex, hd, hp, hdm, hm, hl⟩ (FullM.of chk7) (by omega))
/-- room for more, in one that has some -/
theorem room_more (R : SetR w s.heap a S n) {k : Nat} (hk : n + k < 128) {Q : Unit → Shared → Prop}
    (hQ : ∀ h', Heap.SameBut a s.heap h' → SetR w h' a S n → Q () { s with heap := h' }) : wpAny (model P w) A (setRoomFor a k) Q E s := by
  obtain ⟨o, es, ep, t, ho, hex, hd, g, nd, hm, hb, hf, hn, hr, hl⟩ := R
  have hps : t.place.size = n := by
    unfold SetTable.fits at hf
    rw [Bool.and_eq_true, beq_iff_eq] at hf
    rw [hf.1, hn]
  rw [setRoomFor_eq]
  refine wpAny_bind (wpAny_setState_of ho hd hf ?_)
  dsimp only
  split
  · rename_i c e
    unfold SetTable.roomFor at e
    split at e
    · cases e
      rw [hps]
      refine relay_raw ho hd hf (by omega) (by omega) fun es' t' pm rs sz dm mk le ld => ?_
      have hs2 : es'.size = es.size := by rw [← Array.length_toList, pm.length_eq, Array.length_toList]
      exact hQ _ (Heap.SameBut.update s.heap a _) ⟨_, es', _, t', store_at ho hd, ⟨hex.1, hex.2.1, hex.2.2⟩, rfl, fun e he => g e (pm.mem_iff.mp he), (pm.map keyOf).nodup_iff.mpr nd, fun k => (hm k).trans (pm.map keyOf).mem_iff.symm,
        by rw [hs2]; exact hb, fits_of sz dm le, by rw [hs2, hn], rs, hl.imp id fun z => by rw [ld]; exact z⟩
    · cases e
  · exact wpAny_pure (hQ s.heap (Heap.SameBut.refl a s.heap) ⟨o, es, ep, t, ho, hex, hd, g, nd, hm, hb, hf, hn, hr, hl⟩)
/-- poured into one without members -/
theorem merge_emp {each : Sem Unit} (R : Emp w s.heap a 7) (R2 : SetR w s.heap b S n) (hab : a ≠ b) (hn : n < 128) {Q : Unit → Shared → Prop}
    (hQ : ∀ h', 0 < n → Heap.SameBut a s.heap h' → SetR w h' a S n → Q () { s with heap := h' }) (hQ0 : n = 0 → Q () s) : wpAny (model P w) A (setMerge a b each) Q E s := by
  obtain ⟨o, es, ep, t, ho, hex, hd, g, nd, hm, hb, hf, hn2, hr, hl⟩ := R2
  rw [setMerge_eq]
  refine wp_if_neg (by simp [hab]) ?_
  refine wpAny_bind (wpAny_setState_of ho hd hf ?_)
  dsimp only
  by_cases he : es.size = 0
  · refine wp_if_pos (by simp [Array.isEmpty, he]) (wpAny_pure (hQ0 (by omega)))
  refine wp_if_neg (by simp [Array.isEmpty, he]) ?_
  refine wpAny_bind (room_emp R (by omega) fun h' m sb R' F hle => ?_)
  obtain ⟨oa, epa, ta, hoa, hexa, hda, hpa, hdma, hma, hla⟩ := R'
  have hfa : ta.fits (#[] : Array (Int × Value)).size = true := fits_of (by rw [hpa]; rfl) hdma (Nat.zero_le _)
  refine wpAny_bind (wpAny_setState_of (s := { s with heap := h' }) hoa hda hfa ?_)
  dsimp only
  have hled : w.params.followText "set-order" = true ∨ (ta.led && t.led) = true := by
    rcases hl with l | l
    · exact .inl l
    · rcases hla with l2 | l2
      · exact .inl l2
      · exact .inr (by rw [l, l2]; rfl)
  have hroad : ta.road t ≠ .oneByOne := by
    unfold SetTable.road SetTable.fill
    rw [hpa, hdma]
    split
    · rename_i c; simp at c
    · split <;> simp
  split
  · refine wpAny_storeSet_of (s := { s with heap := h' }) hoa hda ?_ (fits_of_scanBound hb)
    exact hQ _ (by omega) (sb.trans (Heap.SameBut.update _ a _)) ⟨_, es, _, _, store_at hoa hda, ⟨hexa.1, hexa.2.1, hexa.2.2⟩, rfl, g, nd, hm, hb, hf, hn2, hr, hled⟩
  · obtain ⟨t', order, e, pm, rs, sz, mk, ld, _, dm⟩ := laid_ok (f := ta.finger) (mv := ta.moves) (ld := ta.led && t.led) (pl := ta.plain && t.plain) F (hs := es.map (·.1)) (by rw [Array.size_map]; omega)
    rw [Array.size_map] at pm sz
    have pm2 := order_perm pm
    have hs2 : (order.filterMap (es[·]?)).size = es.size := by rw [← Array.length_toList, pm2.length_eq, Array.length_toList]
    rw [hma, e]
    dsimp only
    refine wpAny_bind ?_
    refine wp_if_neg (by rw [hs2]; simp) ?_
    refine wpAny_pure ?_
    dsimp only
    refine wpAny_storeSet_of (s := { s with heap := h' }) hoa hda ?_ (by rw [hs2]; exact fits_of_scanBound hb)
    exact hQ _ (by omega) (sb.trans (Heap.SameBut.update _ a _)) ⟨_, _, _, t', store_at hoa hda, ⟨hexa.1, hexa.2.1, hexa.2.2⟩, rfl, fun e he => g e (pm2.mem_iff.mp he), (pm2.map keyOf).nodup_iff.mpr nd, fun k => (hm k).trans (pm2.map keyOf).mem_iff.symm,
      by rw [hs2]; exact hb, fits_of (by rw [sz, hs2]) dm (by rw [hs2, mk]; omega), by rw [hs2, hn2], rs, by rw [ld]; exact hled⟩
  · rename_i c
    exact absurd c hroad
end
end G

/-! One set of numbers poured into another that has members; set(d), a | b. -/
namespace G
open PySem PySem.Spec PyProof.Rows L2
section
variable {P : Program} {w : World} {A : Around} {E : Value → Shared → Prop} {s : Shared} {a b : Addr} {S S2 : Int → Bool} {n n2 : Nat}
theorem walk_raw {o : Obj} {es : Array (Int × Value)} {ep : Nat} {t : SetTable} (ho : s.heap.get? a = some o) (hd : o.data = .set es ep t) (hf : t.fits es.size = true) (hl : w.params.followText "set-order" = true ∨ t.led = true)
    {Q : Array (Int × Value) → Shared → Prop} (hQ : ∀ es' d, es'.toList.Perm es.toList → Q es' { s with drawn := d }) : wpAny (model P w) A (setWalk a) Q E s := by
  have h0 : s = { s with drawn := s.drawn } := rfl
  rw [setWalk_eq]
  refine wpAny_bind (wpAny_setState_of ho hd hf ?_)
  dsimp only
  refine wpAny_bind (wpAny_byText ?_)
  split
  · refine wpAny_bind (wpAny_askSetting ?_)
    exact wpAny_pure (hQ _ s.drawn (pick_perm _ _))
  · rename_i c
    split
    · refine wpAny_bind (drawOrder_at _ _ _ _ (by rw [Array.length_toList]; exact Nat.le_refl _) fun ys d pm => ?_)
      exact wpAny_pure (hQ _ d (by simpa using pm))
    · have l : t.led = true := hl.resolve_left c
      refine wpAny_bind (wp_if_neg (by rw [l]; simp) (wpAny_pure ?_))
      exact wpAny_pure (hQ _ s.drawn (List.Perm.refl _))
theorem quiet_two (R : SetR w s.heap a S n) (R2 : SetR w s.heap b S2 n2) {Q : Bool → Shared → Prop} (hQ : Q true s) : wpAny (model P w) A (setsQuiet [b, a]) Q E s := by
  obtain ⟨o, es, ep, t, ho, hex, hd, g, nd, hm, hb, hf, hn, hr, hl⟩ := R
  obtain ⟨o2, es2, ep2, t2, ho2, hex2, hd2, g2, nd2, hm2, hb2, hf2, hn2, hr2, hl2⟩ := R2
  unfold setsQuiet setEntries
  simp only [List.forIn_cons, List.forIn_nil, bind_assoc]
  refine wpAny_bind (wpAny_setState_of ho2 hd2 hf2 ?_)
  dsimp only
  try refine wpAny_bind (wpAny_pure ?_)
  refine wpAny_bind ?_
  rw [← Array.forIn_toList]
  refine wpAny_forIn_list _ (fun rest r s' => r.1 = none ∧ s' = s ∧ ∀ e ∈ rest, GoodE e) _ ?_ ?_ _ _ ⟨rfl, rfl, g2⟩
  · rintro ⟨h, x⟩ rest r s' ⟨hr0, rfl, gg⟩
    obtain ⟨k, tk, hx, _⟩ := gg _ List.mem_cons_self
    simp only at hx
    subst hx
    exact wpAny_pure ⟨rfl, rfl, fun e he => gg e (List.mem_cons_of_mem _ he)⟩
  rintro r s' ⟨hr0, rfl, _⟩
  rw [hr0]
  refine wpAny_bind (wpAny_pure (wpAny_bind ?_))
  refine wpAny_bind (wpAny_setState_of ho hd hf (wpAny_bind (wpAny_pure (wpAny_bind ?_))))
  rw [← Array.forIn_toList]
  refine wpAny_forIn_list _ (fun rest r s'' => r.1 = none ∧ s'' = s' ∧ ∀ e ∈ rest, GoodE e) _ ?_ ?_ _ _ ⟨rfl, rfl, g⟩
  · rintro ⟨h, x⟩ rest r s'' ⟨hr0, rfl, gg⟩
    obtain ⟨k, tk, hx, _⟩ := gg _ List.mem_cons_self
    simp only at hx
    subst hx
    exact wpAny_pure ⟨rfl, rfl, fun e he => gg e (List.mem_cons_of_mem _ he)⟩
  rintro r2 s'' ⟨hr2, rfl, _⟩
  rw [hr2]
  exact wpAny_bind (wpAny_pure (wpAny_pure (wpAny_pure hQ)))
/-- the walk of the one poured in: its members in some order; the other may lose a mark -/
theorem unseen_at (R : SetR w s.heap a S n) (R2 : SetR w s.heap b S2 n2) (hab : a ≠ b) {Q : Array (Int × Value) → Shared → Prop}
    (hQ : ∀ es' h' d, (∀ e ∈ es'.toList, GoodE e) → (∀ k, S2 k = true ↔ k ∈ es'.toList.map keyOf) → es'.size = n2 → Heap.SameBut a s.heap h' → SetR w h' a S n → Q es' { s with heap := h', drawn := d }) :
    wpAny (model P w) A (setWalkUnseen b [a] (some a)) Q E s := by
  have R0 := R
  have R20 := R2
  obtain ⟨o, es, ep, t, ho, hex, hd, g, nd, hm, hb, hf, hn, hr, hl⟩ := R
  obtain ⟨o2, es2, ep2, t2, ho2, hex2, hd2, g2, nd2, hm2, hb2, hf2, hn2, hr2, hl2⟩ := R2
  have walk : wpAny (model P w) A (setWalk b) Q E s := walk_raw ho2 hd2 hf2 hl2 fun es' d pm => hQ es' s.heap d (fun e he => g2 e (pm.mem_iff.mp he)) (fun k => (hm2 k).trans (pm.map keyOf).mem_iff.symm)
    (by rw [← Array.length_toList, pm.length_eq, Array.length_toList, hn2]) (Heap.SameBut.refl a s.heap) R0
  unfold setWalkUnseen
  refine wpAny_bind (wpAny_setState_of ho2 hd2 hf2 ?_)
  dsimp only
  refine wpAny_bind (wpAny_byText ?_)
  split
  · exact walk
  rename_i c
  refine wpAny_bind (quiet_two R0 R20 ?_)
  refine wp_if_neg (by simp) ?_
  try refine wpAny_bind (wpAny_pure ?_)
  refine wpAny_bind (wpAny_rule ?_)
  refine wpAny_bind (wpAny_setState_of ho hd hf ?_)
  try dsimp only
  have h0 : s = { s with heap := s.heap, drawn := s.drawn } := rfl
  split
  · refine wpAny_bind (wpAny_storeSet_of ho hd ?_ (fits_of_scanBound hb))
    refine wpAny_pure (hQ es2 _ s.drawn g2 hm2 hn2 (Heap.SameBut.update s.heap a _) ⟨_, es, _, _, store_at ho hd, ⟨hex.1, hex.2.1, hex.2.2⟩, rfl, g, nd, hm, hb, hf, hn, hr, ?_⟩)
    rcases hl with l | l
    · exact .inl l
    · rcases hl2 with l2 | l2
      · exact .inl l2
      · exact .inr (by rw [l, l2]; rfl)
  · exact wpAny_pure (hQ es2 s.heap s.drawn g2 hm2 hn2 (Heap.SameBut.refl a s.heap) R0)
/-- poured into one with members -/
theorem merge_more {each : Sem Unit} (hE : ∀ (s1 : Shared) (Q' : Unit → Shared → Prop), s1.heap.get? b = s.heap.get? b → Q' () s1 → wpAny (model P w) A each Q' E s1) (R : SetR w s.heap a S n) (R2 : SetR w s.heap b S2 n2) (hab : a ≠ b) (hn0 : 0 < n) (hn : n + n2 < 128) {Q : Unit → Shared → Prop}
    (hQ : ∀ h' d n', Heap.SameBut a s.heap h' → SetR w h' a (fun k => S k || S2 k) n' → Q () { s with heap := h', drawn := d }) : wpAny (model P w) A (setMerge a b each) Q E s := by
  have R20 := R2
  obtain ⟨o2, es2, ep2, t2, ho2, hex2, hd2, g2, nd2, hm2, hb2, hf2, hn2, hr2, hl2⟩ := R2
  rw [setMerge_eq]
  refine wp_if_neg (by simp [hab]) ?_
  refine wpAny_bind (wpAny_setState_of ho2 hd2 hf2 ?_)
  dsimp only
  by_cases he : es2.size = 0
  · refine wp_if_pos (by simp [Array.isEmpty, he]) (wpAny_pure (hQ s.heap s.drawn n (Heap.SameBut.refl a s.heap) (R.congr fun k => ?_)))
    have : S2 k = false := by
      cases z : S2 k with
      | false => rfl
      | true =>
        have q := (hm2 k).1 z
        rw [Array.size_eq_zero_iff.mp he] at q
        simp at q
    rw [this, Bool.or_false]
  refine wp_if_neg (by simp [Array.isEmpty, he]) ?_
  refine wpAny_bind (room_more R (by omega) fun h' sb R' => ?_)
  have R2' : SetR w h' b S2 n2 := R20.at fun o e => (sb.2 b (Ne.symm hab)).trans e
  have R'0 := R'
  obtain ⟨o, es, ep, t, ho, hex, hd, g, nd, hm, hb, hf, hn3, hr, hl⟩ := R'
  refine wpAny_bind (wpAny_setState_of (s := { s with heap := h' }) ho hd hf ?_)
  dsimp only
  have hps : t.place.size = n := by
    unfold SetTable.fits at hf
    rw [Bool.and_eq_true, beq_iff_eq] at hf
    rw [hf.1, hn3]
  have hroad : t.road t2 = .oneByOne := by
    unfold SetTable.road SetTable.fill
    rw [if_pos (by simp only [bne_iff_ne, ne_eq]; omega)]
  rw [hroad]
  dsimp only
  refine wpAny_bind (unseen_at (s := { s with heap := h' }) R'0 R2' hab fun es' h2 d ge me se sb2 R3 => ?_)
  have sbA : Heap.SameBut a s.heap h2 := sb.trans sb2
  try refine wpAny_bind ?_
  rw [← Array.forIn_toList]
  refine wpAny_forIn_list _ (fun rest _ s' => ∃ hx, ∃ dx, ∃ nx : Nat, ∃ Sx : Int → Bool, ∃ done : List (Int × Value), s' = { s with heap := hx, drawn := dx } ∧ Heap.SameBut a s.heap hx ∧ SetR w hx a Sx nx ∧ es'.toList = done ++ rest ∧ (∀ k, Sx k = true ↔ S k = true ∨ k ∈ done.map keyOf) ∧ nx ≤ n + done.length) _ ?_ ?_ _ _
    ⟨h2, d, n, S, [], rfl, sbA, R3, rfl, fun k => by simp, Nat.le_refl _⟩
  · rintro ⟨hh, x⟩ rest r s' ⟨hx, dx, nx, Sx, dn, rfl, sbx, Rx, eq, mx, lx⟩
    obtain ⟨k, tk, e1, e2⟩ := ge (hh, x) (by rw [eq]; simp)
    simp only at e1 e2
    subst e1 e2
    dsimp only
    have hlen : dn.length + (rest.length + 1) = n2 := by
      rw [← se, ← Array.length_toList, eq, List.length_append, List.length_cons]
    refine wpAny_bind (wpAny_holding (setR_add_hashed (s := { s with heap := hx, drawn := dx }) Rx (by unfold scanBound; omega) fun hy sby Ry => ?_))
    have sbz : Heap.SameBut a s.heap hy := sbx.trans sby
    refine wpAny_bind (hE { s with heap := hy, drawn := dx } _ (sbz.2 b (Ne.symm hab)) ?_)
    have ho2' : hy.get? b = some o2 := (sbz.2 b (Ne.symm hab)).trans ho2
    refine wpAny_bind (wpAny_setState_of (s := { s with heap := hy, drawn := dx }) ho2' hd2 hf2 ?_)
    dsimp only
    refine wp_if_neg (by simp) ?_
    refine wpAny_pure ⟨hy, dx, _, _, dn ++ [(hashInt k, .int k tk)], rfl, sbz, Ry, by rw [eq, List.append_assoc]; rfl, fun j => ?_, ?_⟩
    · rw [Bool.or_eq_true, decide_eq_true_eq, mx j, List.map_append, List.mem_append]
      simp [keyOf, or_assoc]
    · rw [List.length_append, List.length_singleton]
      split <;> omega
  · rintro r s' ⟨hx, dx, nx, Sx, dn, rfl, sbx, Rx, eq, mx, lx⟩
    rw [List.append_nil] at eq
    refine wpAny_pure (hQ hx dx nx sbx (Rx.congr fun k => ?_))
    rw [Bool.eq_iff_iff, Bool.or_eq_true, mx k, me k, eq]
end
end G

/-! set(d) of a dict with numbers as keys. -/
namespace G
open PySem PySem.Spec PyProof.Rows L2
abbrev freshSet (w : World) : Obj := { cls := .type "set", dict := none, data := .set #[] 0 (.fresh 0 0 (!w.params.followText "set-order")) }
section
variable {P : Program} {w : World} {A : Around} {E : Value → Shared → Prop} {s : Shared} {a b : Addr}
theorem fresh_led : w.params.followText "set-order" = true ∨ (!w.params.followText "set-order") = true := by
  cases w.params.followText "set-order"
  · exact .inr rfl
  · exact .inl rfl
theorem fresh_emp {h : Heap} (ho : h.get? a = some (freshSet w)) : Emp w h a 7 := ⟨_, 0, _, ho, ⟨rfl, rfl, rfl⟩, rfl, rfl, rfl, rfl, fresh_led⟩
theorem emp_setR {h : Heap} {m : Nat} (R : Emp w h a m) : SetR w h a (fun _ => false) 0 := by
  obtain ⟨o, ep, t, ho, hex, hd, hp, hdm, hm, hl⟩ := R
  exact ⟨o, #[], ep, t, ho, hex, hd, fun e he => by simp at he, by simp, fun k => by simp, by decide, fits_of (by rw [hp]; rfl) hdm (Nat.zero_le _), rfl, by rw [hp]; exact List.Pairwise.nil, hl⟩
/-- a dict with numbers as keys -/
structure IntD (h : Heap) (d : Addr) (o : Obj) (es : Array DictEntry) (ep : Nat) (ks : List Int) : Prop where
  ho : h.get? d = some o
  hd : o.data = .dict es ep
  len : es.size = ks.length
  key : ∀ (i : Nat) (k : Int), ks[i]? = some k → ∃ e : DictEntry, ∃ tk, es[i]? = some e ∧ e.key = Value.int k tk ∧ e.hash = hashInt k
theorem code_set_led1 (a : Value) {Q₁ : Value → Shared → Prop}
    (h : Q₁ (.ref s.heap.objs.size) { s with heap := s.heap.push (freshSet w) }) :
    codeAny (model P w) A (.call (.builtin "set.__new__") ⟨[.type "set", a], []⟩) (wants Q₁ E) s := by
  refine codeAny_of_tree ?_
  show wpAny _ A.in1 (do checkBuiltinCall "set.__new__" ⟨[.type "set", a], []⟩; again (.builtin "set.__new__" ⟨[.type "set", a], []⟩)) _ _ s
  refine wpAny_bind (wpAny_of_eq (PySem.F.newCall_set_1 a) (wpAny_pure ⟨plainId_quiet PySem.F.plain_set_new _, codeAny_builtin PySem.F.entry_set_new ?_⟩))
  rw [Around.under_plainId PySem.F.plain_set_new _]
  unfold Builtin.«set.__new__» Builtin.Frozenset.newClass
  have hsub := sub_set_self
  obtain ⟨hp, g, d, tk, os⟩ := s
  dsimp only
  wp_walk
  refine wpAny_askSetting (wpAny_pure ?_)
  dsimp only
  simp only [newObj]
  refine wpAny_bind (wpAny_alloc (wpAny_pure ?_))
  exact wpAny_pure h
theorem call_set_dict {d : Addr} {ob : Obj} {es : Array DictEntry} {ep : Nat} {ks : List Int} {Q : Value → Shared → Prop} (D : IntD s.heap d ob es ep ks) (hc : ob.cls = .type "dict") (hdn : ob.dict = none) (hsys : (d == sysModules) = false) (hfew : ks.length < 128)
    (h : ∀ h' tk n', (∀ c o, s.heap.get? c = some o → h'.get? c = some o) → SetR w h' s.heap.objs.size (fun k => decide (k ∈ ks)) n' → n' ≤ ks.length → Q (.ref s.heap.objs.size) { s with heap := h', toks := tk }) : wpAny (model P w) A (call (.type "set") [.ref d]) Q E s := by
  obtain ⟨c, tl, hmro⟩ := PySem.F.called_set.mro
  have hmade := PySem.F.called_set.made
  have hsub := PySem.F.called_set.sub
  refine wpAny_call (codeAny_of_tree ?_)
  show wpAny _ _ (callAny (.type "set") _) _ _ _
  refine wpAny_pure ⟨Code.quiet_builtin _ (by decide +kernel), codeAny_builtin PySem.F.entry_type_call ?_⟩
  rw [Around.under_plain (weight_type_call_type "set" [.ref d] []) rfl]
  have h1 := PySem.F.called_set.notType
  have h2 := PySem.F.called_set.canCreate
  have hct := PySem.F.typeCall_set_1 (.ref d)
  repeat (any_goals (first | assumption | wp_step))
  refine codeAny_mono (code_set_led1 (.ref d) (E := E) (Q₁ := fun obj s₁ => obj = .ref s.heap.objs.size ∧ s₁ = { s with heap := s.heap.push (freshSet w) }) ⟨rfl, rfl⟩) fun r s₁ hr => ?_
  cases r with
  | error e => exact hr
  | ok fl =>
    cases fl with
    | ret obj =>
      obtain ⟨rfl, rfl⟩ := hr
      have hS : (s.heap.push (freshSet w)).get? s.heap.objs.size = some (freshSet w) := Heap.get?_push_size _ rfl
      have hT : Shared.TypeIs { s with heap := s.heap.push (freshSet w) } (.ref s.heap.objs.size) "set" := ⟨_, hS, rfl⟩
      have hli := PySem.F.called_set.init.lookup
      have hbi := PySem.F.called_set.init.bind (.ref s.heap.objs.size)
      repeat (any_goals (first | assumption | wp_step))
      refine codeAny_mono (codeAny_call_builtin (R := wants (fun r s₂ => r = .none ∧ Q (.ref s.heap.objs.size) s₂) E) PySem.F.called_set.init.plain PySem.F.entry_set_init (check_set_init_1 hT ?_)) fun r₂ s₂ hr₂ => ?_
      · obtain ⟨ho, hd, hlen, hkey⟩ := D
        have hne : s.heap.objs.size ≠ d := Nat.ne_of_gt (Heap.lt_size ho)
        obtain ⟨ocls, odict, odata, oslots⟩ := ob
        simp only at hc hdn hd
        subst hc hdn hd
        have ho' : (s.heap.push (freshSet w)).get? d = some { cls := .type "dict", dict := none, data := .dict es ep, slots := oslots } := Heap.get?_push_of_some _ ho
        have hs1 := PySem.F.sub_dict_set
        have hs2 := PySem.F.sub_dict_frozenset
        unfold Builtin.«set.__init__» noKeywords Builtin.Frozenset.updateFrom
        generalize hSR : setRoomFor = SR
        generalize hFI : @forIn Sem Std.Legacy.Range Nat _ PUnit = FI
        wp_walk
        subst hSR
        refine room_emp (s := { s with heap := s.heap.push (freshSet w) }) (fresh_emp hS) (by rw [hlen]; exact hfew) fun h' m sb R F hle => ?_
        have ho2 : h'.get? d = some { cls := .type "dict", dict := none, data := .dict es ep, slots := oslots } := (sb.2 d (Ne.symm hne)).trans ho'
        wp_walk
        subst hFI
        rw [Std.Legacy.Range.forIn_eq_forIn_range']
        simp only [Std.Legacy.Range.size, Nat.sub_zero, Nat.add_sub_cancel, Nat.div_one]
        refine wpAny_forIn_list _ (fun rest _ s' => ∃ hx, ∃ nx : Nat, ∃ i, s' = { s with heap := hx } ∧ Heap.SameBut s.heap.objs.size (s.heap.push (freshSet w)) hx ∧ rest = List.range' i (es.size - i) ∧ i ≤ es.size ∧ SetR w hx s.heap.objs.size (fun k => decide (k ∈ ks.take i)) nx ∧ nx ≤ i) _ ?_ ?_ _ _
          ⟨h', 0, 0, rfl, sb, by simp, Nat.zero_le _, (emp_setR R).congr fun k => by simp, Nat.le_refl _⟩
        · rintro x rest r s' ⟨hx, nx, i, rfl, sbx, hr, hi, Rx, lx⟩
          have hlt : i < es.size := by
            rcases Nat.lt_or_ge i es.size with h | h
            · exact h
            · rw [Nat.sub_eq_zero_of_le h] at hr; simp at hr
          obtain ⟨rfl, hrest⟩ : x = i ∧ rest = List.range' (i + 1) (es.size - (i + 1)) := by
            have e : es.size - i = (es.size - (i + 1)) + 1 := by omega
            rw [e, List.range'_succ] at hr
            injection hr with h1 h2
            exact ⟨h1, h2⟩
          have hxl : x < ks.length := by rw [← hlen]; exact hlt
          obtain ⟨e, tk, q1, q2, q3⟩ := hkey x ks[x] (List.getElem?_eq_getElem hxl)
          have hox : hx.get? d = some { cls := .type "dict", dict := none, data := .dict es ep, slots := oslots } := (sbx.2 d (Ne.symm hne)).trans ho'
          refine wpAny_bind (wpAny_dictEntries (s := { s with heap := hx }) hox rfl ?_)
          rw [q1]
          dsimp only
          rw [q2, q3]
          refine wpAny_bind (wpAny_holding (setR_add_hashed (s := { s with heap := hx }) Rx (by unfold scanBound; omega) fun hy sby Ry => ?_))
          have hoy : hy.get? d = some { cls := .type "dict", dict := none, data := .dict es ep, slots := oslots } := (sby.2 d (Ne.symm hne)).trans hox
          refine wpAny_bind (wpAny_dictEpoch (s := { s with heap := hy }) hoy rfl ?_)
          refine wp_if_neg (by simp) ?_
          refine wpAny_pure ⟨hy, _, x + 1, rfl, sbx.trans sby, hrest, hlt, Ry.congr fun k => ?_, ?_⟩
          · rw [Bool.eq_iff_iff, Bool.or_eq_true, decide_eq_true_eq, decide_eq_true_eq, decide_eq_true_eq, List.take_succ, List.getElem?_eq_getElem hxl, List.mem_append]
            simp
          · split <;> omega
        · rintro r s' ⟨hx, nx, i, rfl, sbx, hr, hi, Rx, lx⟩
          have hie : i = es.size := by
            rcases Nat.lt_or_ge i es.size with h | h
            · have e : es.size - i = (es.size - (i + 1)) + 1 := by omega
              rw [e, List.range'_succ] at hr
              cases hr
            · omega
          rw [hie, hlen, List.take_length] at Rx
          refine wpAny_pure ?_
          refine wpAny_pure ⟨rfl, h hx s.toks nx (fun c o e => ?_) Rx (by omega)⟩
          exact (sbx.2 c (Nat.ne_of_lt (Heap.lt_size e))).trans (Heap.get?_push_of_some _ e)
      · cases r₂ with
        | error e => exact hr₂
        | ok fl₂ =>
          cases fl₂ with
          | ret r =>
            obtain ⟨rfl, hq⟩ := hr₂
            repeat (any_goals (first | assumption | wp_step))
          | _ => exact hr₂.elim
    | _ => exact hr.elim
end
end G

/-! a | b of two sets of numbers. -/
namespace G
open PySem PySem.Spec PyProof.Rows L2
theorem entry_set_or : entryFor table "set.__or__" = some Builtin.«frozenset.__or__» := entryFor_alias (id' := "frozenset.__or__") (by kernel_rfl) rfl (by decide +kernel) (by kernel_rfl)
section
variable {P : Program} {w : World} {A : Around} {E : Value → Shared → Prop} {s : Shared} {a b : Addr} {S S2 : Int → Bool} {n n2 : Nat}
theorem unchanged_at {id : String} {o : Obj} {es : Array (Int × Value)} {ep : Nat} {t : SetTable} (ho : s.heap.get? b = some o) (hd : o.data = .set es ep t) (hf : t.fits es.size = true) {Q : Unit → Shared → Prop} (hQ : Q () s) :
    wpAny (model P w) A (Builtin.Frozenset.unchanged id b ep) Q E s := by
  unfold Builtin.Frozenset.unchanged
  refine wpAny_bind (wpAny_setEpoch_of ho hd hf ?_)
  exact wp_if_neg (by simp) (wpAny_pure hQ)
theorem setR_none {h : Heap} (R : SetR w h a S 0) (k : Int) : S k = false := by
  obtain ⟨o1, es1, ep1, t1, ho1, hex1, hd1, g1, nd1, hm1, hb1, hf1, hn1, hr1, hl1⟩ := R
  cases z : S k with
  | false => rfl
  | true =>
    have q := (hm1 k).1 z
    rw [Array.size_eq_zero_iff.mp hn1] at q
    simp at q
/-- what a set of either kind is behind the pouring -/
def Tgt (w : World) (h : Heap) (p : Addr) (S : Int → Bool) (n : Nat) : Prop := (SetR w h p S n ∧ 0 < n) ∨ (Emp w h p 7 ∧ n = 0 ∧ ∀ k, S k = false)
theorem update_any {id : String} {p : Addr} (R : Tgt w s.heap p S n) (R2 : SetR w s.heap b S2 n2) (hpb : p ≠ b) (hn : n + n2 < 128) {Q : Unit → Shared → Prop}
    (hQ : ∀ h' d n', Heap.SameBut p s.heap h' → SetR w h' p (fun k => S k || S2 k) n' → Q () { s with heap := h', drawn := d }) : wpAny (model P w) A (Builtin.Frozenset.updateFrom id p (.ref b)) Q E s := by
  have R20 := R2
  obtain ⟨o2, es2, ep2, t2, ho2, hex2, hd2, g2, nd2, hm2, hb2, hf2, hn2, hr2, hl2⟩ := R2
  have hsub := sub_set_self
  have cb := hex2.1
  unfold Builtin.Frozenset.updateFrom
  refine wpAny_bind ?_
  refine wpAny_mono (Q := fun r s' => r = true ∧ s' = s) ?_ (fun r s' hr => ?_) (fun _ _ h => h)
  · obtain ⟨pcls, pdict, pdata, pslots⟩ := o2
    simp only at cb hd2
    subst cb hd2
    unfold Builtin.Frozenset.isAnySet
    wp_walk
    exact ⟨rfl, rfl⟩
  obtain ⟨rfl, rfl⟩ := hr
  refine wp_if_pos rfl ?_
  refine wpAny_bind (wpAny_pure ?_)
  unfold Builtin.Frozenset.merge
  refine wpAny_bind (wpAny_setEpoch_of ho2 hd2 hf2 ?_)
  have hE : ∀ (s1 : Shared) (Q' : Unit → Shared → Prop), s1.heap.get? b = s'.heap.get? b → Q' () s1 → wpAny (model P w) A (Builtin.Frozenset.unchanged id b ep2) Q' E s1 :=
    fun s1 Q' e q => unchanged_at (s := s1) (e.trans ho2) hd2 hf2 q
  rcases R with ⟨R, h0⟩ | ⟨R, h0, hS⟩
  · exact merge_more hE R R20 hpb h0 hn hQ
  · refine merge_emp R R20 hpb (by omega) (fun h' _ sb R' => ?_) fun e => ?_
    · exact hQ h' s'.drawn n2 sb (R'.congr fun k => by rw [hS k]; rfl)
    · rw [e] at R20
      refine hQ s'.heap s'.drawn 0 (Heap.SameBut.refl p s'.heap) ((emp_setR R).congr fun k => ?_)
      rw [hS k, setR_none R20 k]; rfl
theorem or_sets (R : SetR w s.heap a S n) (R2 : SetR w s.heap b S2 n2) (hab : a ≠ b) (hn : n + n2 < 128) {Q : Value → Shared → Prop}
    (h : ∀ h' d tk n', (∀ c o, s.heap.get? c = some o → h'.get? c = some o) → SetR w h' s.heap.objs.size (fun k => S k || S2 k) n' → Q (.ref s.heap.objs.size) { s with heap := h', drawn := d, toks := tk }) :
    wpAny (model P w) A (binaryOp .BitOr (.ref a) (.ref b)) Q E s := by
  have R0 := R
  have R20 := R2
  obtain ⟨o1, es1, ep1, t1, ho1, hex1, hd1, g1, nd1, hm1, hb1, hf1, hn1, hr1, hl1⟩ := R
  obtain ⟨o2, es2, ep2, t2, ho2, hex2, hd2, g2, nd2, hm2, hb2, hf2, hn2, hr2, hl2⟩ := R2
  have hTa : s.TypeIs (.ref a) "set" := ⟨_, ho1, hex1.1⟩
  have hTb : s.TypeIs (.ref b) "set" := ⟨_, ho2, hex2.1⟩
  refine wpAny_binaryOp_same hTa hTb PySem.F.fills_set_or PySem.F.slot_set_or (wpAny_call_entry PySem.F.slot_set_or hTa entry_set_or ?_ (PySem.F.args_set_or_2 _ _))
  have hsub := sub_set_self
  have ca := hex1.1
  have cb := hex2.1
  have hpa : s.heap.objs.size ≠ a := Nat.ne_of_gt (Heap.lt_size ho1)
  have hpb : s.heap.objs.size ≠ b := Nat.ne_of_gt (Heap.lt_size ho2)
  have keep : ∀ c o, s.heap.get? c = some o → (s.heap.push (freshSet w)).get? c = some o := fun c o e => Heap.get?_push_of_some _ e
  have hn2' : (s.heap.push (freshSet w)).get? s.heap.objs.size = some (freshSet w) := Heap.get?_push_size _ rfl
  obtain ⟨ocls, odict, odata, oslots⟩ := o1
  obtain ⟨pcls, pdict, pdata, pslots⟩ := o2
  simp only at ca cb hd1 hd2
  subst ca cb hd1 hd2
  unfold Builtin.«frozenset.__or__»
  wp_delta
  generalize hIA : @andM = IA
  wp_walk
  subst hIA
  refine wpAny_mono (Q := fun r s' => r = true ∧ s' = s) ?_ (fun r s' hr => ?_) (fun _ _ h => h)
  · wp_walk
    exact ⟨rfl, rfl⟩
  obtain ⟨rfl, rfl⟩ := hr
  refine wp_if_neg (by simp) ?_
  refine wpAny_bind (wpAny_pure ?_)
  refine wpAny_bind ?_
  wp_delta
  refine wpAny_bind ?_
  unfold Builtin.Frozenset.copyOf
  generalize hSM : @setMerge = SM
  generalize hUF : Builtin.Frozenset.updateFrom = UF
  wp_walk
  refine wpAny_askSetting (wpAny_pure ?_)
  dsimp only
  simp only [newObj, if_true]
  refine wpAny_bind (wpAny_alloc (wpAny_pure ?_))
  wp_walk
  subst hSM
  subst hUF
  have fin : ∀ (h1 : Heap), Heap.SameBut s'.heap.objs.size (s'.heap.push (freshSet w)) h1 → Tgt w h1 s'.heap.objs.size S n →
      wpAny (model P w) A.in1 (if (Value.ref b != Value.ref a) = true then do
        let __do_lift ← Builtin.Frozenset.addrOf (Value.ref s'.heap.objs.size)
        holding [Value.ref s'.heap.objs.size] (Builtin.Frozenset.updateFrom (toString "frozenset." ++ toString "__or__") __do_lift (Value.ref b))
        pure (Value.ref s'.heap.objs.size)
      else pure (Value.ref s'.heap.objs.size)) (fun a s' => wpAny (model P w) A.in1 (ret a) (fun fin s' => ∃ v, fin = Fin.done (Flow.ret v) ∧ v ≠ Value.notImplemented ∧ Q v s') E s') E { s' with heap := h1 } := by
    intro h1 sb T
    refine wp_if_pos (by simp [Ne.symm hab]) ?_
    refine wpAny_bind (wpAny_pure ?_)
    have R2' : SetR w h1 b S2 n2 := R20.at fun o e => (sb.2 b (Ne.symm hpb)).trans (keep b o e)
    refine wpAny_bind (wpAny_holding (update_any (s := { s' with heap := h1 }) T R2' hpb hn fun h2 d n' sb2 R3 => ?_))
    refine wpAny_pure ?_
    exact wpAny_pure ⟨_, rfl, by simp, h h2 d s'.toks n' (fun c o e => (sb2.2 c (Nat.ne_of_lt (Heap.lt_size e))).trans ((sb.2 c (Nat.ne_of_lt (Heap.lt_size e))).trans (keep c o e))) R3⟩
  have Ra : SetR w (s'.heap.push (freshSet w)) a S n := R0.at fun o e => keep a o e
  refine merge_emp (s := { s' with heap := s'.heap.push (freshSet w) }) (fresh_emp hn2') Ra hpa (by omega) (fun h1 hn0 sb R1 => ?_) fun e => ?_
  · exact wpAny_pure (fin h1 sb (.inl ⟨R1, hn0⟩))
  · refine wpAny_pure (fin _ (Heap.SameBut.refl _ _) (.inr ⟨fresh_emp hn2', e, fun k => ?_⟩))
    subst e
    exact setR_none R0 k
end
end G

/-! sorted(set(d) | set(e)). -/
namespace G
open PySem PySem.Spec PyProof.Rows L2
theorem nodup_len : ∀ (l U : List Int), l.Nodup → (∀ x ∈ l, x ∈ U) → l.length ≤ U.length
  | [], _, _, _ => Nat.zero_le _
  | x :: l, U, nd, h => by
    obtain ⟨n1, n2⟩ := List.nodup_cons.mp nd
    have hx := h x List.mem_cons_self
    have q := nodup_len l (U.erase x) n2 fun y hy => (List.mem_erase_of_ne (fun e : y = x => n1 (by rw [← e]; exact hy))).2 (h y (List.mem_cons_of_mem _ hy))
    rw [List.length_erase_of_mem hx] at q
    have : 0 < U.length := List.length_pos_of_mem hx
    rw [List.length_cons]
    omega
theorem setR_few {w : World} {h : Heap} {a : Addr} {S : Int → Bool} {n : Nat} (R : SetR w h a S n) (U : List Int) (hU : ∀ k, S k = true → k ∈ U) : n ≤ U.length := by
  obtain ⟨o1, es1, ep1, t1, ho1, hex1, hd1, g1, nd1, hm1, hb1, hf1, hn1, hr1, hl1⟩ := R
  have q := nodup_len _ U nd1 fun k hk => hU k ((hm1 k).2 hk)
  rw [List.length_map, Array.length_toList, hn1] at q
  exact q
theorem kv_key {κ : Type} : ∀ {kvs : List (κ × V)} {vs : List (κ × Value)}, KV kvs vs → vs.map (·.1) = kvs.map (·.1)
  | _, _, .nil => rfl
  | _, _, .cons h r => by rw [List.map_cons, List.map_cons, kv_key r, h.1]
theorem intD_of {P : Program} {w : World} {H : Hp} {h : Heap} {d : Addr} {kvs : List (Key × V)} {ns : List Int} (ok : HOk P w H h) (e : Rd H d (.dK kvs)) (hk : kvs.map (·.1) = ns.map Sum.inl) :
    ∃ o es ep, IntD h d o es ep ns ∧ o.cls = .type "dict" ∧ o.dict = none ∧ (d == sysModules) = false := by
  obtain ⟨_, hsys, vs, kv, o, es, ep, ho, hex, hdt, hks, hp, _⟩ := dk_rd ok e
  have hkk := kv_key kv
  refine ⟨o, es, ep, ⟨ho, hdt, ?_, fun i k hi => ?_⟩, hex.1, hex.2.1, hsys⟩
  · rw [← Array.length_toList, hp.length]
    have := congrArg List.length (hkk.trans hk)
    simpa using this
  · have hv : (vs.map (·.1))[i]? = some (Sum.inl k) := by
      rw [hkk, hk, List.getElem?_map, hi]; rfl
    rw [List.getElem?_map] at hv
    obtain ⟨⟨k0, v⟩, hv1, hv2⟩ := Option.map_eq_some_iff.mp hv
    simp only at hv2
    subst hv2
    have hi2 : i < es.toList.length := by rw [hp.length]; exact (List.getElem?_eq_some_iff.mp hv1).1
    have he := List.getElem?_eq_getElem hi2
    obtain ⟨q1, q2⟩ := hp.get? he hv1
    have q1' : keyIs (.inl k) es.toList[i].key = true := q1
    rcases keyIs_shape q1' with ⟨j, t, e1, e2⟩ | ⟨x, t, e1, e2⟩
    · cases e1
      have hm : es.toList[i] ∈ es := by rw [← Array.mem_toList_iff]; exact List.getElem_mem hi2
      obtain ⟨k', z1, z2⟩ := hks _ hm
      have ek := (mixKind P w).inj _ _ _ z1 q1
      subst ek
      exact ⟨es.toList[i], t, by rw [← Array.getElem?_toList]; exact he, e2, z2⟩
    · cases e1
section
variable {X : Cx}
def rSetD (w : World) : List V → Hp → VK → Prop := fun xs H Q => ∃ (d : Addr) (kvs : List (Key × V)) (ns : List Int), xs = [V.ref d] ∧ Rd H d (.dK kvs) ∧ kvs.map (·.1) = ns.map Sum.inl ∧ ns.length < 64 ∧ ∀ p n', H p = none → n' ≤ ns.length → Q (.ref p) (upd H p (SetO w p (fun k => decide (k ∈ ns)) n'))
theorem cr_setD : CallR X (.type "set") (rSetD X.w) := by
  intro pins s σ H xs us Q I r h
  obtain ⟨d, kvs, ns, rfl, hd, hk, hl, q⟩ := h
  cases r with
  | cons r rr =>
    cases rr
    cases r
    obtain ⟨o, es, ep, D, hc, hdn, hsys⟩ := intD_of I.hok hd hk
    refine call_set_dict D hc hdn hsys (by omega) fun h' tk n' k R hn => ?_
    exact ⟨.ref _, _, I.laid (t' := tk) k (Nat.le_refl _) (setO_new R), rfl, q _ n' (I.hok.fresh (Nat.le_refl _)) hn⟩
def rOrD (w : World) : V → V → Hp → VK → Prop := fun x y H Q => ∃ (a b : Addr) (S : Int → Bool) (n : Nat) (S2 : Int → Bool) (n2 : Nat), x = V.ref a ∧ y = V.ref b ∧ H a = some (SetO w a S n) ∧ H b = some (SetO w b S2 n2) ∧ a ≠ b ∧ n + n2 < 128 ∧
  ∀ (p : Addr) (n' : Nat), H p = none → (∀ (U : List Int), (∀ k, (S k || S2 k) = true → k ∈ U) → n' ≤ U.length) → Q (.ref p) (upd H p (SetO w p (fun k => S k || S2 k) n'))
theorem or_setD : OpR X (binaryOp .BitOr) (rOrD X.w) := by
  intro pins s σ H x y v u Q I rx ry h
  obtain ⟨a, b, S, n, S2, n2, rfl, rfl, ha, hb, hab, hn, q⟩ := h
  cases rx
  cases ry
  refine or_sets (setO_get I ha) (setO_get I hb) hab hn fun h' d tk n' k R => ?_
  have hp := I.hok.fresh (Nat.le_refl s.heap.objs.size)
  have J : Inv X pins σ (upd H s.heap.objs.size (SetO X.w s.heap.objs.size (fun k => S k || S2 k) n')) { s with heap := h', gens := s.gens, drawn := d, toks := tk } :=
    I.call (ch := []) (Un.laid k (Nat.le_refl _) hp) (I.hok.laid k (Nat.le_refl _) (setO_new R)) I.bare (fun _ z => nomatch z)
  exact ⟨.ref _, _, J, rfl, q _ n' hp fun U hU => setR_few R U hU⟩
end
section
variable {C : Ct} {W : DW} {δ : Sl} {m : Sto} {pos p p1 p2 p3 p4 p5 q1 q2 q3 q4 : Pos} {Q : D → Sto → Prop} {f1 f2 x : Str}
/-- sorted(set(o.f1) | set(o.f2)) of dicts with numbers as keys -/
theorem de_odd (i : Nat) {a cA a1 a2 : Addr} {fs : List (Str × G.D)} {ns1 ns2 U : List Int} {ds1 ds2 : List G.D} (hN : C.N[i]? = some x) (hv : Vis C.sc x) (hd : δ[i]? = some (some (.ref a))) (hm : m a = some (.ins cA fs)) (hc : Cls C.K cA) (n1 : NoAttr C.K cA f1) (n2 : NoAttr C.K cA f2)
    (l1 : fs.lookup f1 = some (.ref a1)) (l2 : fs.lookup f2 = some (.ref a2)) (t1 : DicAt m a1 (ns1.map Sum.inl) ds1) (t2 : DicAt m a2 (ns2.map Sum.inl) ds2) (hU : U.length < 64) (k1 : ns1.length < 64) (k2 : ns2.length < 64) (hk : ∀ k, k ∈ ns1 ∨ k ∈ ns2 → k ∈ U)
    (q : ∀ u : List Int, u.Pairwise (· < ·) → (∀ k, k ∈ u ↔ k ∈ ns1 ∨ k ∈ ns2) → Q (.lst (u.map G.D.int)) m)
    (g1 : GlC C "sorted") (m1 : C.mg "sorted" = none) (g2 : GlC C "set") (m2 : C.mg "set" = none) (hcm : C.cm = true := by rfl)
    (hdb : (x == ("__debug__" : Str)) = false := by decide) (hcd : (x == ("__classdict__" : Str)) = false := by decide)
    (hb1 : ∀ env, attributeBase (.Name x q1) f1 env (eval (.Name x q1) env) = eval (.Name x q1) env := by intro _; rfl) (hb2 : ∀ env, attributeBase (.Name x q3) f2 env (eval (.Name x q3) env) = eval (.Name x q3) env := by intro _; rfl)
    (he1 : ∀ env, starEach [.Attribute (.Name x q1) f1 q2] env = [(false, eval (.Attribute (.Name x q1) f1 q2) env)] := by intro _; rfl) (he2 : ∀ env, starEach [.Attribute (.Name x q3) f2 q4] env = [(false, eval (.Attribute (.Name x q3) f2 q4) env)] := by intro _; rfl) :
    DE C W (.Call (.Name "sorted" p) [.BinOp (.Call (.Name "set" p1) [.Attribute (.Name x q1) f1 q2] [] p2) .BitOr (.Call (.Name "set" p3) [.Attribute (.Name x q3) f2 q4] [] p4) p5] [] pos) δ m Q := by
  intro X S fx tk σ H T le sl hh
  have hs2 : X.mg "set" = none := by rw [fx.mg]; exact m2
  have hv1 : ∀ pq, PE X (.Name x pq) _ := fun pq => pe_var (i := i) (by rw [fx.N]; exact hN) (by rw [fx.sc]; exact hv) hdb hcd
  refine WE.of (pe_callB (cr_sortedSet (fx.calm hcm)) (fx.gl g1) (by rw [fx.mg]; exact m1) (by decide +kernel) (pa_cons (pe_op or_setD
    (pe_callTy cr_setD (fx.gl g2) hs2 (by decide +kernel) (pa_cons (pe_fld (hv1 q1) (hb1 _)) pa_nil (by rw [he1]; rfl)) (by decide) (by decide) (by rw [he1]; rfl) (by rfl))
    (pe_callTy cr_setD (fx.gl g2) hs2 (by decide +kernel) (pa_cons (pe_fld (hv1 q3) (hb2 _)) pa_nil (by rw [he2]; rfl)) (by decide) (by decide) (by rw [he2]; rfl) (by rfl))) pa_nil)) ?_
  obtain ⟨v, ev, tv⟩ := sl.2 i _ hd
  have r := hh.rep tv
  cases r
  obtain ⟨dx, gs, hu, hn, hl, h2⟩ := hh.insO hm
  have rl := RepL.of_zip hl fun v d z => h2.rep (.inr z)
  obtain ⟨v1, e1, z1⟩ := lookup_rep hn rl l1
  obtain ⟨v2, e2, z2⟩ := lookup_rep hn rl l2
  have r1 := h2.rep (.inr z1)
  cases r1
  have r2 := h2.rep (.inr z2)
  cases r2
  obtain ⟨kvs1, w1, ek1, _, _⟩ := hh.dicR t1
  obtain ⟨kvs2, w2, ek2, _, _⟩ := hh.dicR t2
  refine ⟨_, ev, a, cA, dx, gs, _, rfl, hu, by rw [fx.K]; exact hc, by rw [fx.K]; exact n1, e1, a1, kvs1, ns1, rfl, w1, ek1, k1, fun p1 n1' f1' b1 => ?_⟩
  have sm1 : Same H (upd H p1 (SetO X.w p1 (fun k => decide (k ∈ ns1)) n1')) := same_upd f1'
  refine ⟨_, ev, a, cA, dx, gs, _, rfl, sm1 _ _ hu, by rw [fx.K]; exact hc, by rw [fx.K]; exact n2, e2, a2, kvs2, ns2, rfl, rd_mono sm1 w2, ek2, k2, fun p2 n2' f2' b2 => ?_⟩
  have hp12 : p1 ≠ p2 := fun e => by subst e; rw [upd_same] at f2'; cases f2'
  refine ⟨p1, p2, _, _, _, _, rfl, rfl, by rw [upd_ne hp12]; exact upd_same, upd_same, hp12, by omega, fun p3 n3 f3 b3 => ?_⟩
  refine ⟨p3, _, _, rfl, upd_same, ?_, fun u p4 su mu lu f4 => ?_⟩
  · refine Nat.lt_of_le_of_lt (b3 U fun k hk' => ?_) hU
    rw [Bool.or_eq_true, decide_eq_true_eq, decide_eq_true_eq] at hk'
    exact hk k hk'
  · have g3 := ((hh.grow f1').grow f2').grow (u := SetO X.w p3 (fun k => decide (k ∈ ns1) || decide (k ∈ ns2)) n3) f3
    refine dk_lst g3 f4 (fun Hi _ => ?_) (q u su fun k => ?_)
    · have : ∀ l : List Int, RepL C.K Hi (l.map V.int) (l.map G.D.int) := fun l => by
        induction l with
        | nil => exact .nil
        | cons y l ih => exact .cons (.int y) ih
      exact this u
    · rw [mu k, Bool.or_eq_true, decide_eq_true_eq, decide_eq_true_eq]
end
end G

/-! The data layer: repr and == of instances by their own methods; texts with fields; dicts with text keys. -/
namespace G
open PySem PySem.Spec PyProof.Rows L2
/-- a def run from within a built-in -/
theorem own_call {X : Cx} {CX : CXT} {n : Nat} {f : Addr} {fd : FuncData} {ps : List Str} {sp : Sp} {E : XK} {A : Around} {pins : List (Addr × Obj)} {σ : L2.St} {H : Hp} {s : Shared} {Q : VK} {us : List Value} {vs : List V}
    (F : FnOk X.prog X.w X.K X.mg X.base CX n f fd ps sp) (sb : Sub X n A) (hb : Binds X.K fd ps []) (hx : PassesAt CX X σ E) (I : Inv X pins σ H s) (r : Vals vs us) (h : sp vs H Q E) :
    wpAny (model X.prog X.w) A (call (.ref f) us) (EP X pins σ Q) X.xe s := by
  have e0 : Env0 X.prog X.w X.K X.mg X.base A X.stack s H := by
    have e := I.env0
    exact ⟨by rw [sb.fr]; exact e.frames, e.mod, e.bs, e.bsz, e.funs, e.frf, e.hok, e.bare⟩
  have hl : us.length = ps.length := by rw [← r.length]; exact F.len _ _ _ _ h
  have b := hb s us I.kIn (by rw [List.append_nil]; exact hl)
  rw [List.append_nil] at b
  refine wpAny_call (codeAny_mono (F.run A X.stack s H ⟨us, []⟩ us vs Q E sb.room e0 b r h) fun r s' hq => ?_)
  cases r with
  | error e => exact hx pins H s e s' I hq
  | ok fl =>
    cases fl with
    | ret u => exact I.after hq
    | next => exact False.elim hq
    | brk => exact False.elim hq
    | cont => exact False.elim hq
section
variable {C : Ct} {W : DW} {δ : Sl} {m : Sto} {a b c e o : Expr} {es : List Expr} {pos pos' apos p : Pos} {Q : D → Sto → Prop} {D : DEn} {cA : Addr} {f x : Str}
/-- repr(o), o an instance with an own __repr__ -/
theorem de_repr {k : Nat} {F : DF} (kn : KnM C.P C.w C.K C.mg C.base cA "__repr__" k F) (hk : Nat.ble (k + 1) C.k = true) (hg : GlC C "repr") (hmg : C.mg "repr" = none)
    (h : DA C W [e] δ m fun ds m1 => ∃ a fs, ds = [.ref a] ∧ m1 a = some (.ins cA fs) ∧ F [.ref a] m1 (fun d m2 => ∃ z, d = .str z ∧ Q (.str z) m2) fun cls fs m' => W cls fs δ m') (hcm : C.cm = true := by rfl)
    (he : ∀ env, starEach [e] env = (false, eval e env) :: starEach [] env := by intro _; rfl) : DE C W (.Call (.Name "repr" p) [e] [] pos) δ m Q := by
  intro X S fX tk σ H T le sl hh pins s I
  obtain ⟨f, fd, ps, ok, hm, hb⟩ := kn.ex
  obtain ⟨j, hj⟩ : ∃ j, C.k = j + 1 := ⟨C.k - 1, by have := Nat.le_of_ble_eq_true hk; omega⟩
  have hkj : k ≤ j := by have := Nat.le_of_ble_eq_true hk; omega
  rw [← fX.prog, ← fX.w, ← fX.K, ← fX.mg, ← fX.base] at ok
  rw [← fX.K] at hm hb
  refine wpAny_Call_Name_kw (ld_blt I (fX.gl hg) (by rw [fX.mg]; exact hmg) (show bootBuiltins "repr" = some (.builtin "repr") by decide +kernel) ?_ (by decide) (by decide))
  refine PyProof.Rows.callWith_builtin1 (thn (h X S fX tk σ H T le sl hh pos pins s I) fun us s1 ⟨vs, H1, I1, rx, ds, m1, hl1, h1, a, fs, ed, hma, q⟩ => ?_) (he _) rfl
  subst ed
  obtain ⟨v, rfl⟩ := one_of hl1
  have r := h1.rep (PlL.at (i := 0) (v := v) (d := .ref a) rfl rfl)
  cases r
  cases rx with
  | cons rx rr =>
  cases rr
  cases rx
  obtain ⟨dx, gs, hu, hn, hl, _⟩ := h1.insO hma
  obtain ⟨mA, J, _⟩ := ins_get I1.hok hu
  obtain ⟨od, J, _⟩ := J.look
  have X1 := I1.kIn
  have hr : Room (j + 1) X.A := by rw [← hj]; exact fX.room hcm
  have sb : Sub X j X.A.in1 := (⟨hr, rfl⟩ : Sub X (j + 1) X.A).in1
  have z : spD X.K F [.ref a] H1 (fun v H' => ∃ d m', Hd C.K S.r H' m' (Pl T v d) ∧ ∃ z, d = .str z ∧ Q (.str z) m') (L2.WE (liftW C.K W S) σ) := by
    rw [fX.K]
    exact spD_at (X := X) (S := S) (σ := σ) (Q := fun d m2 => ∃ z, d = .str z ∧ Q (.str z) m2) (W := W) (δ := δ) le sl (vs := [.ref a]) (ds := [.ref a]) rfl h1 q
  refine PySem.Calls.call_function_entry PySem.F.kind_repr PySem.F.plain_repr PySem.F.entry_repr (PySem.F.args_repr1 _) ?_
  unfold Builtin.«repr»
  refine wpAny_bind (m := oneArg "repr" _) (wpAny_pure ?_)
  refine wpAny_bind (wpAny_cRoomFor sb.room.units0 ?_)
  unfold specialOf
  refine wpAny_bind (wpAny_bind (J.type.here ((PySem.W.looks_findIn X1 hm.at_).here ?_)))
  refine wp_if_neg (by simp) ?_
  refine wpAny_bind (PySem.W.ifBound_K X1 J hm.at_ hm.fn ?_)
  refine wpAny_mono (own_call (ok.mono hkj) sb hb (passAt tk σ) I1 (show Vals [V.ref a] [Value.ref a] from .cons rfl .nil) z) (fun u s2 hv => ?_) fun _ _ y => y
  obtain ⟨v, H2, I2, rv, d, m2, h2, y, ed, q2⟩ := hv
  subst ed
  have r2 := h2.rep Pl.it
  cases r2
  obtain ⟨t, rfl⟩ := rv
  refine wpAny_bind (wpAny_isInstance (typeIs_str _ _ _) isSubtype_str_str ?_)
  first
    | exact wpAny_pure ⟨_, rfl, V.str y, H2, I2, ⟨t, rfl⟩, .str y, m2, h2, q2⟩
    | (rw [if_pos rfl]; exact wpAny_pure ⟨_, rfl, V.str y, H2, I2, ⟨t, rfl⟩, .str y, m2, h2, q2⟩)
/-- a == b, two instances of one class with an own __eq__ that raises nothing -/
theorem od_eqI {k : Nat} {F : DF} (kn : KnM C.P C.w C.K C.mg C.base cA "__eq__" k F) (hk : Nat.ble k C.k = true) (hcm : C.cm = true := by rfl) :
    OpD C (compareOp .Eq) (fun d e m Q => ∃ a b fs gs, d = .ref a ∧ e = .ref b ∧ m a = some (.ins cA fs) ∧ m b = some (.ins cA gs) ∧ F [d, e] m (fun z m' => ∃ v, z = .bl v ∧ Q z m') fun _ _ _ => False) := by
  rintro X fX fr H m T x y d e Q hh tx ty ⟨a, b, fs, gs, rfl, rfl, ha, hb2, q⟩ pins s σ v u I rx ry
  obtain ⟨f, fd, ps, ok, hm, hb⟩ := kn.ex
  rw [← fX.prog, ← fX.w, ← fX.K, ← fX.mg, ← fX.base] at ok
  rw [← fX.K] at hm hb
  have r := hh.rep tx
  cases r
  have r := hh.rep ty
  cases r
  obtain rfl : v = Value.ref a := rx
  obtain rfl : u = Value.ref b := ry
  obtain ⟨dx, gs1, hu1, _, _, _⟩ := hh.insO ha
  obtain ⟨dy, gs2, hu2, _, _, _⟩ := hh.insO hb2
  obtain ⟨mA, J, _⟩ := ins_get I.hok hu1
  obtain ⟨mB, J', _⟩ := ins_get I.hok hu2
  obtain ⟨od, J, _⟩ := J.look
  obtain ⟨od', J', _⟩ := J'.look
  have hr : Room k X.A := (fX.room hcm).mono (Nat.le_of_ble_eq_true hk)
  have sb : Sub X k X.A := ⟨hr, rfl⟩
  obtain ⟨mm, hF⟩ := I.fr
  have hl2 : Hd C.K fr H m (PlL T [.ref a, .ref b] [.ref a, .ref b]) := hh.le fun y z t => by
    rcases t with t | t
    · exact t
    · rw [List.zip_cons_cons, List.zip_cons_cons] at t
      rcases List.mem_cons.mp t with t | t
      · cases t; exact tx
      · rcases List.mem_cons.mp t with t | t
        · cases t; exact ty
        · cases t
  have z : spD X.K F [.ref a, .ref b] H (fun v H' => ∃ d m', Hd C.K fr H' m' (Pl T v d) ∧ ∃ z, d = .bl z ∧ Q d m') (fun _ _ _ => False) := by
    rw [fX.K]
    exact ⟨[.ref a, .ref b], m, T, fr, _, _, rfl, hl2, q, fun d m' q' v H' h' => ⟨d, m', h', q'⟩, fun cls fs m' w => w.elim⟩
  show wpAny (model X.prog X.w) X.A (richCompare .Eq (.ref a) (.ref b)) _ X.xe s
  refine PySem.W.cmp_K (op := .Eq) (tb := .ref cA) sb.room.units0 hF I.ok.mod.kin J J'.type (by simp [PySem.W.notFirst]) hm.at_ hm.fn ?_
  refine wpAny_mono (own_call (E := fun _ _ _ => False) ok sb hb ?_ I (show Vals [V.ref a, V.ref b] [Value.ref a, Value.ref b] from .cons rfl (.cons rfl .nil)) z) (fun u s2 hv => ?_) fun _ _ y => y
  · rintro pins H s e s' I ⟨a, B, H', cls, d, _, _, _, _, _, _, _, w⟩
    exact w.elim
  · obtain ⟨v, H2, I2, rv, d, m2, h2, y, ed, q2⟩ := hv
    subst ed
    have r2 := h2.rep Pl.it
    cases r2
    cases rv
    exact ⟨V.bl y, H2, I2, rfl, .bl y, m2, h2, q2⟩
end
end G

/-! The data layer: errors over other bases, texts with fields, dict displays, sorted numbers, str(n), isinstance of instances. -/
namespace G
open PySem PySem.Spec PyProof.Rows L2
/-- a class of errors over a built-in one -/
structure EcB (K : PySem.W.Frag) (mg : Str → Option Value) (x : Str) (c : Addr) (bm : List Value) (nw : String) : Prop where
  g : mg x = some (.ref c)
  kp : PySem.W.keepIn K (.ref c) = true
  ex : PySem.W.excIn K c bm nw = true
  sub : PySem.W.subIn K (.ref c) (.type "BaseException") = some true
  ty : PySem.W.typeIn K (.ref c) = some (.type "type")
abbrev bmI : List Value := [.type "IndexError", .type "LookupError", .type "Exception", .type "BaseException", .type "object"]
abbrev bmL : List Value := [.type "LookupError", .type "Exception", .type "BaseException", .type "object"]
abbrev EcI (K : PySem.W.Frag) (mg : Str → Option Value) (x : Str) (c : Addr) : Prop := EcB K mg x c bmI "IndexError.__new__"
abbrev EcL (K : PySem.W.Frag) (mg : Str → Option Value) (x : Str) (c : Addr) : Prop := EcB K mg x c bmL "LookupError.__new__"
section
variable {C : Ct} {W : DW} {δ : Sl} {m : Sto} {a b c e o : Expr} {es : List Expr} {pos pos' p : Pos} {Q : D → Sto → Prop} {D : DEn} {cA : Addr} {f x : Str}
theorem ds_raiseB {B newId initId : String} {bm : List Value} {x z : Str} {j : Nat} {p p2 : Pos} {k : Addr} (F : ExcBaseFacts B newId initId bm) (E : EcB C.K C.mg x k bm newId) (hg : GlC C x) (w : W (.ref k) [] δ m) (hdb : (x == ("__debug__" : Str)) = false := by decide) (hcm : C.cm = true := by rfl) :
    DS C W (.Raise (some (.Call (.Name x p) [.Constant (.str z) j p2] [] pos)) none pos') δ m D := by
  intro X S f tk σ H T le sl hh
  refine WS.of (ps_raise (f.calm hcm) tk (pmk_own F (by rw [f.K]; exact E.ex) (by rw [f.mg]; exact E.g) (by rw [f.K]; exact E.kp) (raises_own (by rw [f.K]; exact E.sub) (by rw [f.K]; exact E.ty)) (f.gl hg) hdb)) ?_
  exact ⟨δ, m, T, [], le, sl, hh, .inl ⟨rfl, rfl⟩, w⟩
/-! ### texts with fields -/
theorem de_fmt {pos : Pos} (h : DE C W e δ m fun d m1 => (∃ y : Str, d = .str y ∧ y.length ≤ sizeLine ∧ Q (.str y) m1) ∨ ∃ i : Int, d = .int i ∧ i.natAbs.log2 < 1920 ∧ Q (.str (toString i)) m1) : DE C W (.FormattedValue e (-1) none pos) δ m Q := by
  intro X S fx tk σ H T le sl hh
  refine WE.of (pe_fmt we) ((h X S fx tk σ H T le sl hh).mono fun v H1 ⟨d, m1, h1, q⟩ => ?_)
  have r := h1.rep Pl.it
  rcases q with ⟨y, rfl, hy, q⟩ | ⟨i, rfl, hi, q⟩
  · cases r
    exact .inl ⟨y, rfl, hy, dK.le (dk_str h1 q) Pl.le⟩
  · cases r
    exact .inr ⟨i, rfl, hi, dK.le (dk_str h1 q) Pl.le⟩
def DJ (C : Ct) (W : DW) (δ : Sl) : List Expr → Str → Sto → (Str → Sto → Prop) → Prop
  | [], acc, m, Q => Q acc m
  | e :: es, acc, m, Q => DE C W e δ m fun d m1 => ∃ y : Str, d = .str y ∧ (acc ++ y).length ≤ sizeLine ∧ DJ C W δ es (acc ++ y) m1 Q
theorem dj_nil {acc : Str} {Q : Str → Sto → Prop} (q : Q acc m) : DJ C W δ [] acc m Q := q
theorem dj_cons {acc : Str} {Q : Str → Sto → Prop} (h : DE C W e δ m fun d m1 => ∃ y : Str, d = .str y ∧ (acc ++ y).length ≤ sizeLine ∧ DJ C W δ es (acc ++ y) m1 Q) : DJ C W δ (e :: es) acc m Q := h
theorem pj_we {X : Cx} : ∀ es : List Expr, PJ X es (es.map (WE X))
  | [] => .nil
  | e :: es => .cons we (pj_we es)
theorem dj_run {X : Cx} {S : Fr} {σ : L2.St} (fx : Fits C X) (tk : Takes X (liftW C.K W S)) : ∀ (es : List Expr) (acc : Str) (m : Sto) (Q : Str → Sto → Prop) (H : Hp) (T : RT), Le S.t T → SlotsIn σ δ T → Hd C.K S.r H m T → DJ C W δ es acc m Q →
    tJs (es.map (WE X)) acc σ H fun out H1 => ∃ m1, Hd C.K S.r H1 m1 T ∧ Q out m1
  | [], acc, m, Q, H, T, le, sl, hh, h => ⟨m, hh, h⟩
  | e :: es, acc, m, Q, H, T, le, sl, hh, h => by
    have h' : DE C W e δ m fun d m1 => ∃ y : Str, d = .str y ∧ (acc ++ y).length ≤ sizeLine ∧ DJ C W δ es (acc ++ y) m1 Q := h
    refine (h' X S fx tk σ H T le sl hh).mono fun v H1 ⟨d, m1, h1, y, ed, hl, q⟩ => ?_
    subst ed
    have r := h1.rep Pl.it
    cases r
    exact ⟨y, rfl, hl, dj_run fx tk es (acc ++ y) m1 Q H1 T le sl (h1.le Pl.le) q⟩
theorem de_joined {v1 v2 : Expr} {rest : List Expr} (h : DJ C W δ (v1 :: v2 :: rest) Str.empty m fun out m1 => Q (.str out) m1) : DE C W (.JoinedStr (v1 :: v2 :: rest) pos) δ m Q := by
  intro X S fx tk σ H T le sl hh
  refine WE.of (pe_joined (pj_we _)) ?_
  have z := dj_run fx tk (v1 :: v2 :: rest) Str.empty m _ H T le sl hh h
  have mono : ∀ (ts : List TE) (acc : Str) (H : Hp) (Q1 Q2 : Str → Hp → Prop), (∀ s H, Q1 s H → Q2 s H) → (∀ t ∈ ts, ∃ e, t = WE X e) → tJs ts acc σ H Q1 → tJs ts acc σ H Q2 := by
    intro ts
    induction ts with
    | nil => exact fun acc H Q1 Q2 k _ h => k _ _ h
    | cons t ts ih =>
      intro acc H Q1 Q2 k hw h
      obtain ⟨e, rfl⟩ := hw t List.mem_cons_self
      have h' : WE X e σ H fun x H1 => ∃ y : Str, x = .str y ∧ (acc ++ y).length ≤ sizeLine ∧ tJs ts (acc ++ y) σ H1 Q1 := h
      exact h'.mono fun x H1 ⟨y, e1, e2, q⟩ => ⟨y, e1, e2, ih _ _ Q1 Q2 k (fun t ht => hw t (List.mem_cons_of_mem _ ht)) q⟩
  refine mono _ _ _ _ _ (fun out H1 ⟨m1, h1, q⟩ => dk_str h1 q) (fun t ht => ?_) z
  obtain ⟨e, _, rfl⟩ := List.mem_map.mp ht
  exact ⟨e, rfl⟩
/-! ### dict displays -/
inductive KeyEs : List (Option Expr) → List Str → Prop where
  | nil : KeyEs [] []
  | cons {x : Str} {j : Nat} {p : Pos} {es : List (Option Expr)} {xs : List Str} (h : KeyEs es xs) : KeyEs (some (.Constant (.str x) j p) :: es) (x :: xs)
def DVs (C : Ct) (W : DW) (δ : Sl) : List Expr → Sto → (List G.D → Sto → Prop) → Prop
  | [], m, Q => Q [] m
  | e :: es, m, Q => DE C W e δ m fun d m1 => DVs C W δ es m1 fun ds m2 => Q (d :: ds) m2
theorem dvs_nil {Q : List G.D → Sto → Prop} (q : Q [] m) : DVs C W δ [] m Q := q
theorem dvs_cons {Q : List G.D → Sto → Prop} (h : DE C W e δ m fun d m1 => DVs C W δ es m1 fun ds m2 => Q (d :: ds) m2) : DVs C W δ (e :: es) m Q := h
def dispT (X : Cx) : List Str → List Expr → List (TE × TE)
  | x :: xs, e :: es => (tC (.str x), WE X e) :: dispT X xs es
  | _, _ => []
theorem disp_ok {X : Cx} : ∀ {keys : List (Option Expr)} {xs : List Str} {vs : List Expr}, KeyEs keys xs → vs.length = xs.length → PPs X pos keys vs (dispT X xs vs)
  | _, _, [], .nil, _ => pps_nil
  | _, _, v :: vs, .cons h, hl => pps_cons pe_str we (disp_ok h (by simpa using hl))
  | _, _, _ :: _, .nil, hl => by simp at hl
  | _, _, [], .cons _, hl => by simp at hl
theorem disp_run {X : Cx} {S : Fr} {σ : L2.St} (fx : Fits C X) (tk : Takes X (liftW C.K W S)) : ∀ (xs : List Str) (vs : List Expr) (m : Sto) (Q : List G.D → Sto → Prop) (H : Hp) (T : RT), vs.length = xs.length → Le S.t T → SlotsIn σ δ T → Hd C.K S.r H m T → DVs C W δ vs m Q →
    tPairs (dispT X xs vs) σ H fun ps H1 => ∃ (ds : List G.D) (us : List V) (m1 : Sto), us.length = ds.length ∧ us.length = xs.length ∧ ps = (xs.zip us).map (fun q => (V.str q.1, q.2)) ∧ Hd C.K S.r H1 m1 (PlL T us ds) ∧ Q ds m1
  | [], [], m, Q, H, T, _, le, sl, hh, h => ⟨[], [], m, rfl, rfl, rfl, hh.le fun v d t => t.elim id fun z => by simp at z, h⟩
  | [], _ :: _, m, Q, H, T, hl, _, _, _, _ => by simp at hl
  | _ :: _, [], m, Q, H, T, hl, _, _, _, _ => by simp at hl
  | x :: xs, e :: vs, m, Q, H, T, hl, le, sl, hh, h => by
    have h' : DE C W e δ m fun d m1 => DVs C W δ vs m1 fun ds m2 => Q (d :: ds) m2 := h
    show WE X e σ H _
    refine (h' X S fx tk σ H T le sl hh).mono fun v H1 ⟨d, m1, h1, q⟩ => ?_
    have z := disp_run fx tk xs vs m1 (fun ds m2 => Q (d :: ds) m2) H1 (Pl T v d) (by simpa using hl) (le.trans Pl.le) (sl.le Pl.le) h1 q
    have mono : ∀ (ts : List (TE × TE)) (H : Hp) (Q1 Q2 : List (V × V) → Hp → Prop), (∀ s H, Q1 s H → Q2 s H) → (∀ t ∈ ts, ∃ x e, t = (tC (.str x), WE X e)) → tPairs ts σ H Q1 → tPairs ts σ H Q2 := by
      intro ts
      induction ts with
      | nil => exact fun H Q1 Q2 k _ h => k _ _ h
      | cons t ts ih =>
        intro H Q1 Q2 k hw h
        obtain ⟨x, e, rfl⟩ := hw t List.mem_cons_self
        have h' : WE X e σ H fun y H2 => tPairs ts σ H2 fun ps H3 => Q1 ((V.str x, y) :: ps) H3 := h
        exact h'.mono fun y H2 q => ih H2 _ _ (fun ps H3 z => k _ _ z) (fun t ht => hw t (List.mem_cons_of_mem _ ht)) q
    have allw : ∀ (xs : List Str) (vs : List Expr), ∀ t ∈ dispT X xs vs, ∃ x e, t = (tC (.str x), WE X e) := by
      intro xs
      induction xs with
      | nil => intro vs t ht; cases vs <;> cases ht
      | cons x xs ih =>
        intro vs t ht
        cases vs with
        | nil => cases ht
        | cons v vs =>
          rcases List.mem_cons.mp ht with e | e
          · exact ⟨x, v, e⟩
          · exact ih vs t e
    refine mono _ _ _ _ (fun ps H3 ⟨ds, us, m3, l1, l2, e, h3, q3⟩ => ?_) (allw xs vs) z
    refine ⟨d :: ds, v :: us, m3, by rw [List.length_cons, List.length_cons, l1], by rw [List.length_cons, List.length_cons, l2], by rw [e]; rfl, h3.le fun y z t => ?_, q3⟩
    rcases t with t | t
    · exact .inl (.inl t)
    · rw [List.zip_cons_cons] at t
      rcases List.mem_cons.mp t with t | t
      · cases t; exact .inl Pl.it
      · exact .inr t
theorem merge_new : ∀ (more kvs : List (Key × V)), ((kvs ++ more).map (·.1)).Nodup → mergeK kvs more = kvs ++ more
  | [], kvs, _ => by rw [List.append_nil]; rfl
  | p :: more, kvs, nd => by
    have h1 : putK kvs p.1 p.2 = kvs ++ [p] := by
      unfold putK
      rw [if_neg]
      intro z
      obtain ⟨q, hq, e⟩ := List.any_eq_true.mp z
      rw [List.map_append, List.nodup_append] at nd
      exact nd.2.2 q.1 (List.mem_map.mpr ⟨q, hq, rfl⟩) p.1 (by rw [List.map_cons]; exact List.mem_cons_self) (of_decide_eq_true e)
    show mergeK (putK kvs p.1 p.2) more = _
    rw [h1, merge_new more (kvs ++ [p]) (by rw [List.append_assoc]; exact nd), List.append_assoc]
    rfl
/-- {"k": e, ..}: the new dict stands empty while the values are made -/
theorem de_disp {keys : List (Option Expr)} {values : List Expr} {xs : List Str} (hk : KeyEs keys xs) (hl : values.length = xs.length) (nd : xs.Nodup) (h0 : keys ≠ []) (hall : keys.all (·.isSome) = true) (hkl : keys.length = values.length) (h15 : keys.length ≤ 15)
    (h : ∀ p, m p = none → DVs C W δ values (sput m p (.dic [] [])) fun ds m1 => m1 p = some (.dic [] []) ∧ Q (.ref p) (sput m1 p (.dic (xs.map Sum.inr) ds))) : DE C W (.Dict keys values pos) δ m Q := by
  intro X S fx tk σ H T le sl hh
  refine WE.of (pe_disp (disp_ok hk hl) hall hkl h0 h15) fun p hp => ?_
  have hm := hh.free hp
  have h1 := hh.newM (o := .dic [] []) (u := .dK []) hp fun _ _ => ⟨rfl, .nil⟩
  have z := disp_run fx tk xs values (sput m p (.dic [] [])) (fun ds m1 => m1 p = some (.dic [] []) ∧ Q (.ref p) (sput m1 p (.dic (xs.map Sum.inr) ds))) (upd H p (.dK [])) (Pl T (.ref p) (.ref p)) hl (le.trans Pl.le) (sl.le Pl.le) h1 (h p hm)
  have mono : ∀ (ts : List (TE × TE)) (H : Hp) (Q1 Q2 : List (V × V) → Hp → Prop), (∀ s H, Q1 s H → Q2 s H) → (∀ t ∈ ts, ∃ x e, t = (tC (.str x), WE X e)) → tPairs ts σ H Q1 → tPairs ts σ H Q2 := by
    intro ts
    induction ts with
    | nil => exact fun H Q1 Q2 k _ h => k _ _ h
    | cons t ts ih =>
      intro H Q1 Q2 k hw h
      obtain ⟨x, e, rfl⟩ := hw t List.mem_cons_self
      have h' : WE X e σ H fun y H2 => tPairs ts σ H2 fun ps H3 => Q1 ((V.str x, y) :: ps) H3 := h
      exact h'.mono fun y H2 q => ih H2 _ _ (fun ps H3 z => k _ _ z) (fun t ht => hw t (List.mem_cons_of_mem _ ht)) q
  have allw : ∀ (xs : List Str) (vs : List Expr), ∀ t ∈ dispT X xs vs, ∃ x e, t = (tC (.str x), WE X e) := by
    intro xs
    induction xs with
    | nil => intro vs t ht; cases vs <;> cases ht
    | cons x xs ih =>
      intro vs t ht
      cases vs with
      | nil => cases ht
      | cons v vs =>
        rcases List.mem_cons.mp ht with e | e
        · exact ⟨x, v, e⟩
        · exact ih vs t e
  refine mono _ _ _ _ (fun ps H2 ⟨ds, us, m2, l1, l2, e, h2, hm2, q⟩ => ?_) (allw xs values) z
  obtain ⟨kvs0, hu, ek, hl0, _⟩ := h2.dicO hm2
  have hk0 : kvs0 = [] := by simpa using ek
  subst hk0
  have xl : xs.length ≤ 15 := by rw [← hl, ← hkl]; exact h15
  refine ⟨hu, (xs.zip us).map (fun q => ((Sum.inr q.1 : Key), q.2)), ?_, ?_, .ref p, _, ?_, q⟩
  · rw [e, List.map_map]; rfl
  · rw [List.length_map, List.length_zip]; omega
  · have kf : ((xs.zip us).map (fun q => ((Sum.inr q.1 : Key), q.2))).map (·.1) = xs.map Sum.inr := by
      rw [List.map_map]
      show (xs.zip us).map (fun q => (Sum.inr q.1 : Key)) = _
      rw [show (fun q : Str × V => (Sum.inr q.1 : Key)) = Sum.inr ∘ Prod.fst from rfl, ← List.map_map, List.map_fst_zip (by omega)]
    have vf : ((xs.zip us).map (fun q => ((Sum.inr q.1 : Key), q.2))).map (·.2) = us := by
      rw [List.map_map]
      show (xs.zip us).map Prod.snd = _
      rw [List.map_snd_zip (by omega)]
    have ndk : (((xs.zip us).map (fun q => ((Sum.inr q.1 : Key), q.2))).map (·.1)).Nodup := by
      rw [kf]
      exact List.pairwise_map.mpr (List.Pairwise.imp (fun h e => h (Sum.inr.inj e)) nd)
    rw [merge_new _ [] (by rw [List.nil_append]; exact ndk), List.nil_append]
    have h5 := h2.mut (u' := .dK ((xs.zip us).map (fun q => ((Sum.inr q.1 : Key), q.2)))) (o' := .dic (xs.map Sum.inr) ds) hm2 hu fun Hi r kk => ⟨kf, by rw [vf]; exact RepL.of_zip l1 fun v d z => kk v d (.inr z)⟩
    exact h5.le fun y z t => by
      rcases t with t | ⟨rfl, rfl⟩
      · exact .inl (.inl t)
      · exact .inl Pl.it
/-! ### calls of built-ins -/
/-- sorted of a list of numbers that is data -/
theorem cd_sortedI : CallD C (.builtin "sorted") sortedD := by
  rintro X f fr H m T vs ds Q hl hh ⟨ns, rfl, q⟩
  obtain ⟨v, rfl⟩ := one_of hl
  obtain ⟨a, xs, rfl, hq, r⟩ := hh.repsL (PlL.at (i := 0) (v := v) (d := .lst (ns.map G.D.int)) rfl rfl)
  have e := ints_of r
  subst e
  refine wc_of cr_sortedI ⟨a, ns, rfl, SqL.of hq, fun ns' p pm so hp => dK.le (dk_lst hh hp (fun Hi _ => ?_) (q ns' pm so)) PlL.le⟩
  have : ∀ l : List Int, RepL C.K Hi (l.map V.int) (l.map G.D.int) := fun l => by
    induction l with
    | nil => exact .nil
    | cons y l ih => exact .cons (.int y) ih
  exact this ns'
/-- str of a number -/
def strI : RLD := fun ds m Q => ∃ i : Int, ds = [.int i] ∧ i.natAbs.log2 < 1920 ∧ Q (.str (toString i)) m
theorem cd_strI : CallD C (.type "str") strI := by
  rintro X f fr H m T vs ds Q hl hh ⟨i, rfl, hi, q⟩
  obtain ⟨v, rfl⟩ := one_of hl
  have r := hh.rep (PlL.at (i := 0) (v := v) (d := .int i) rfl rfl)
  cases r
  exact wc_of call_str_int ⟨i, rfl, hi, dK.le (dk_str hh q) PlL.le⟩
/-- what isinstance asks of an instance's class -/
structure InsC (K : PySem.W.Frag) (cA : Addr) : Prop where
  cl : Cls K cA
  ha : PySem.W.findIn K (.ref cA) "__class__" = some (some (.builtin "object.__class__"))
  hn : PySem.W.specialIn K (.builtin "object.__class__") "__get__" = some (some (.builtin "getset_descriptor.__get__"))
  htk : PySem.W.takesIn K (.builtin "object.__class__") = some true
  hm : PySem.W.mroIn K cA (.type "object") = some true
def isiI (C : Ct) : RLD := fun ds m Q => ∃ a k cA fs b, ds = [.ref a, .ref k] ∧ m a = some (.ins cA fs) ∧ InsC C.K cA ∧ PySem.W.kitOne C.K (.ref cA) (.ref k) = some b ∧ Q (.bl b) m
theorem cd_isiI : CallD C (.builtin "isinstance") (isiI C) := by
  rintro X f fr H m T vs ds Q hl hh ⟨a, k, cA, fs, b, rfl, hm, ic, hk, q⟩
  obtain ⟨v, u, rfl⟩ := two_of hl
  have r1 := hh.rep (PlL.at (i := 0) (v := v) (d := .ref a) rfl rfl)
  have r2 := hh.rep (PlL.at (i := 1) (v := u) (d := .ref k) rfl rfl)
  cases r1
  cases r2
  obtain ⟨dx, gs, hu, _, _, _⟩ := hh.insO hm
  exact wc_of call_isi ⟨.ref a, .ref k, .ref cA, .ref k, b, rfl, .own k, by rw [f.K]; exact .base (.ins hu ic.cl ic.ha ic.hn ic.htk ic.hm), by rw [f.K]; exact hk, dK.le (dk_bl hh q) PlL.le⟩
end
end G

/-! The data layer: == of dicts whose values are numbers (or truths). -/
namespace G
open PySem PySem.Spec PyProof.Rows L2
def feqD : G.D → G.D → Bool
  | .int i, .int j => i == j
  | .bl a, .bl b => a == b
  | _, _ => false
def SameK (d e : G.D) : Prop := (∃ i j, d = .int i ∧ e = .int j) ∨ ∃ a b, d = .bl a ∧ e = .bl b
def dicEq : List Key → List G.D → List Key → List G.D → Bool
  | k :: ks, d :: ds, ls, es => match valD ls es k with
    | none => false
    | some e => feqD d e && dicEq ks ds ls es
  | _, _, _, _ => true
theorem valD_mem : ∀ {ks : List Key} {ds : List G.D} {k : Key} {d : G.D}, valD ks ds k = some d → d ∈ ds
  | [], ds, k, d, h => by cases ds <;> cases h
  | x :: ks, [], k, d, h => by cases h
  | x :: ks, e :: ds, k, d, h => by
    have h' : (if x = k then some e else valD ks ds k) = some d := h
    split at h'
    · cases h'; exact List.mem_cons_self
    · exact List.mem_cons_of_mem _ (valD_mem h')
theorem flat_eqP {P : Program} {w : World} {A : Around} {s : Shared} {K : PySem.W.Frag} {H : Hp} {v u : V} {x y : Value} {d e : G.D} (h : SameK d e) (r1 : Rep K H v d) (r2 : Rep K H u e) (q1 : RelV v x) (q2 : RelV u y) : SeqAt.EqP P w A s x y (feqD d e) := by
  rcases h with ⟨i, j, rfl, rfl⟩ | ⟨a, b, rfl, rfl⟩
  · cases r1
    cases r2
    obtain ⟨t, rfl⟩ := q1
    obtain ⟨t', rfl⟩ := q2
    exact (SeqAt.EqAt.int_int i t j t').eqP
  · cases r1
    cases r2
    cases q1
    cases q2
    exact (SeqAt.EqAt.bool_bool a b).eqP
theorem hits_dic {P : Program} {w : World} {A : Around} {s : Shared} {K : PySem.W.Frag} {H : Hp} {kvs2 : List (Key × V)} {vb : List (Key × Value)} {ds2 : List G.D} (rb : KV kvs2 vb) (r2 : RepL K H (kvs2.map (·.2)) ds2) :
    ∀ {kvs1 : List (Key × V)} {va : List (Key × Value)} {ds1 : List G.D}, KV kvs1 va → RepL K H (kvs1.map (·.2)) ds1 → (∀ d ∈ ds1, ∀ e ∈ ds2, SameK d e) → PySem.W.KeqHitsP P w A s vb va (dicEq (kvs1.map (·.1)) ds1 (kvs2.map (·.1)) ds2)
  | [], _, ds1, ra, r1, _ => by
    cases ra
    have e : ds1 = [] := by
      have r1' : RepL K H [] ds1 := r1
      cases r1'
      rfl
    subst e
    exact .nil
  | (k, v) :: kvs1, _, [], ra, r1, _ => by cases r1
  | (k, v) :: kvs1, va, d :: ds1, ra, r1, hs => by
    cases ra with
    | @cons p q ps qs h t =>
      obtain ⟨h1, h2⟩ := h
      obtain ⟨key, x⟩ := q
      have h1' : k = key := h1
      subst h1'
      cases r1 with
      | cons rv rr =>
        obtain ⟨z1, z2⟩ := val_rep r2 (k := k)
        have rval := rb.val k
        show PySem.W.KeqHitsP P w A s vb ((k, x) :: qs) (match valD (kvs2.map (·.1)) ds2 k with
          | none => false
          | some e => feqD d e && dicEq (kvs1.map (·.1)) ds1 (kvs2.map (·.1)) ds2)
        cases hv : valD (kvs2.map (·.1)) ds2 k with
        | none =>
          rw [z1 hv] at rval
          refine .miss ?_
          cases hq : valueAt vb k with
          | none => rfl
          | some y => rw [hq] at rval; exact rval.elim
        | some e =>
          obtain ⟨u, e1, e2⟩ := z2 hv
          rw [e1] at rval
          obtain ⟨y, hy, ry⟩ := rval.some_of
          have ru : Rep K H u e := r2.mem_zip e2
          exact .hit hy (flat_eqP (hs d List.mem_cons_self e (valD_mem hv)) rv ru h2 ry) (hits_dic rb r2 t rr fun d' hd e' he => hs d' (List.mem_cons_of_mem _ hd) e' he)
section
variable {C : Ct}
/-- a == b of two dicts -/
theorem od_eqDic : OpD C (compareOp .Eq) (fun d e m Q => ∃ a b ks1 ds1 ks2 ds2, d = .ref a ∧ e = .ref b ∧ DicAt m a ks1 ds1 ∧ DicAt m b ks2 ds2 ∧ (∀ d ∈ ds1, ∀ e ∈ ds2, SameK d e) ∧ Q (.bl (ks1.length == ks2.length && dicEq ks1 ds1 ks2 ds2)) m) := by
  rintro X fX fr H m T x y d e Q hh tx ty ⟨a, b, ks1, ds1, ks2, ds2, rfl, rfl, ha, hb, hs, q⟩ pins s σ v u I rx ry
  have r := hh.rep tx
  cases r
  have r := hh.rep ty
  cases r
  obtain rfl : v = Value.ref a := rx
  obtain rfl : u = Value.ref b := ry
  obtain ⟨kvs1, w1, e1, l1, h1⟩ := hh.dicR ha
  obtain ⟨kvs2, w2, e2, l2, h2⟩ := hh.dicR hb
  subst e1 e2
  have r1 := RepL.of_zip l1 fun v d z => h1.rep (.inr z)
  have r2 := RepL.of_zip l2 fun v d z => h2.rep (.inr z)
  obtain ⟨_, ya, va, ra, da⟩ := dk_rd I.hok w1
  obtain ⟨_, yb, vb, rb, db⟩ := dk_rd I.hok w2
  show wpAny (model X.prog X.w) X.A (richCompare .Eq (.ref a) (.ref b)) _ X.xe s
  refine PySem.W.rcP_dicts (knd := mixKind X.prog X.w) (r := dicEq (kvs1.map (·.1)) ds1 (kvs2.map (·.1)) ds2) ya yb da db (by have := fX.un; omega) (fun _ => hits_dic rb r2 ra r1 hs) _ _ ?_
  refine ⟨V.bl (va.length == vb.length && dicEq (kvs1.map (·.1)) ds1 (kvs2.map (·.1)) ds2), H, I, by exact rfl, ?_⟩
  rw [show va.length = (kvs1.map (·.1)).length by rw [List.length_map, ra.length], show vb.length = (kvs2.map (·.1)).length by rw [List.length_map, rb.length]]
  exact dk_bl hh q
end
end G

/-! Rows of sizes: what they are, what is read of them. -/
namespace G
open PySem PySem.Spec PyProof.Rows L2
/-- a row of sizes: how many, the common size, those given, those gone -/
structure Sz where
  n : Int
  c : Int
  gv : List (Int × Int)
  gn : List Int
def insS (k : Int) : List Int → List Int
  | [] => [k]
  | x :: l => if k < x then k :: x :: l else if k = x then x :: l else x :: insS k l
def sortU : List Int → List Int
  | [] => []
  | k :: l => insS k (sortU l)
theorem mem_insS {k j : Int} : ∀ {l : List Int}, j ∈ insS k l ↔ j = k ∨ j ∈ l
  | [] => by simp [insS]
  | x :: l => by
    unfold insS
    split
    · simp
    · split
      · rename_i h; subst h; simp
      · rw [List.mem_cons, mem_insS (l := l), List.mem_cons]
        constructor
        · rintro (h | h | h)
          · exact .inr (.inl h)
          · exact .inl h
          · exact .inr (.inr h)
        · rintro (h | h | h)
          · exact .inr (.inl h)
          · exact .inl h
          · exact .inr (.inr h)
theorem inc_insS {k : Int} : ∀ {l : List Int}, l.Pairwise (· < ·) → (insS k l).Pairwise (· < ·)
  | [], _ => by simp [insS]
  | x :: l, h => by
    obtain ⟨h1, h2⟩ := List.pairwise_cons.mp h
    unfold insS
    split
    · rename_i c
      refine List.pairwise_cons.mpr ⟨fun y hy => ?_, h⟩
      rcases List.mem_cons.mp hy with e | e
      · omega
      · have := h1 y e; omega
    · split
      · exact h
      · rename_i c1 c2
        refine List.pairwise_cons.mpr ⟨fun y hy => ?_, inc_insS h2⟩
        rcases mem_insS.mp hy with e | e
        · omega
        · exact h1 y e
theorem mem_sortU {j : Int} : ∀ {l : List Int}, j ∈ sortU l ↔ j ∈ l
  | [] => by simp [sortU]
  | k :: l => by rw [sortU, mem_insS, mem_sortU (l := l), List.mem_cons]
theorem inc_sortU : ∀ l : List Int, (sortU l).Pairwise (· < ·)
  | [] => List.Pairwise.nil
  | k :: l => inc_insS (inc_sortU l)
theorem inc_uniq : ∀ {l u : List Int}, l.Pairwise (· < ·) → u.Pairwise (· < ·) → (∀ k, k ∈ l ↔ k ∈ u) → l = u
  | [], [], _, _, _ => rfl
  | [], y :: u, _, _, h => by have := (h y).2 List.mem_cons_self; cases this
  | x :: l, [], _, _, h => by have := (h x).1 List.mem_cons_self; cases this
  | x :: l, y :: u, h1, h2, h => by
    obtain ⟨a1, a2⟩ := List.pairwise_cons.mp h1
    obtain ⟨b1, b2⟩ := List.pairwise_cons.mp h2
    have e : x = y := by
      rcases List.mem_cons.mp ((h x).1 List.mem_cons_self) with e | e
      · exact e
      · rcases List.mem_cons.mp ((h y).2 List.mem_cons_self) with e' | e'
        · exact e'.symm
        · have := b1 x e; have := a1 y e'; omega
    subst e
    congr 1
    refine inc_uniq a2 b2 fun k => ?_
    have q := h k
    constructor
    · intro hk
      rcases List.mem_cons.mp (q.1 (List.mem_cons_of_mem _ hk)) with e | e
      · have := a1 k hk; omega
      · exact e
    · intro hk
      rcases List.mem_cons.mp (q.2 (List.mem_cons_of_mem _ hk)) with e | e
      · have := b1 k hk; omega
      · exact e
/-- numbers in order, some twice or not -/
theorem le_uniq {l u : List Int} (h1 : l.Pairwise (· ≤ ·)) (nd : l.Nodup) (h2 : u.Pairwise (· < ·)) (h : ∀ k, k ∈ l ↔ k ∈ u) : l = u :=
  inc_uniq (lt_of_le_nodup l h1 nd) h2 h
namespace Sz
def odd (z : Sz) : List Int := sortU (z.gv.map (·.1) ++ z.gn)
def own (z : Sz) (k : Int) : Int := (z.gv.lookup k).getD z.c
def hid (z : Sz) (k : Int) : Bool := decide (k ∈ z.gn)
def size (z : Sz) (k : Int) : Int := if z.hid k = true then 0 else z.own k
def ahead (z : Sz) (k : Int) : Int := k * z.c + (((z.odd).filter fun j => decide (j < k)).map fun j => z.size j - z.c).sum
def total (z : Sz) : Int := z.ahead z.n
def exc (z : Sz) : List G.D := z.odd.map fun k => .tup [.int k, .int (z.own k), .bl (z.hid k)]
structure Ok (z : Sz) : Prop where
  n1 : 1 ≤ z.n
  n2 : z.n ≤ 1000000000
  c1 : 1 ≤ z.c
  c2 : z.c ≤ 60
  kv : ∀ q ∈ z.gv, 0 ≤ q.1 ∧ q.1 < z.n ∧ 1 ≤ q.2 ∧ q.2 ≤ 60
  kn : ∀ k ∈ z.gn, 0 ≤ k ∧ k < z.n
  dv : (z.gv.map (·.1)).Nodup
  dn : z.gn.Nodup
  few : z.odd.length ≤ 60
  ne : ∀ q ∈ z.gv, q.2 ≠ z.c
end Sz
def keysV (gv : List (Int × Int)) : List Key := (gv.map (·.1)).map Sum.inl
def valsV (gv : List (Int × Int)) : List G.D := gv.map fun q => .int q.2
def keysN (gn : List Int) : List Key := gn.map Sum.inl
def valsN (gn : List Int) : List G.D := gn.map fun _ => .bl true
theorem val_given {k : Int} : ∀ gv : List (Int × Int), valD (keysV gv) (valsV gv) (.inl k) = (gv.lookup k).map G.D.int
  | [] => rfl
  | (j, v) :: gv => by
    show (if (Sum.inl j : Key) = Sum.inl k then some (G.D.int v) else valD (keysV gv) (valsV gv) (.inl k)) = _
    rw [val_given gv, List.lookup_cons]
    by_cases h : j = k
    · subst h; simp
    · rw [if_neg (fun e => h (Sum.inl.inj e)), show (k == j) = false from by simpa using Ne.symm h]
theorem val_gone {k : Int} : ∀ gn : List Int, (valD (keysN gn) (valsN gn) (.inl k)).isSome = decide (k ∈ gn)
  | [] => rfl
  | j :: gn => by
    show (if (Sum.inl j : Key) = Sum.inl k then some (G.D.bl true) else valD (keysN gn) (valsN gn) (.inl k)).isSome = _
    by_cases h : j = k
    · subst h; simp
    · rw [if_neg (fun e => h (Sum.inl.inj e)), val_gone gn]
      simp [Ne.symm h]
theorem val_own {k c : Int} (gv : List (Int × Int)) : ((valD (keysV gv) (valsV gv) (.inl k)).getD (.int c)) = .int ((gv.lookup k).getD c) := by
  rw [val_given]
  cases gv.lookup k <;> rfl
def szF (z : Sz) (a1 a2 : Addr) : List (Str × G.D) := [("many", .int z.n), ("common", .int z.c), ("given", .ref a1), ("gone", .ref a2)]
/-- it stands at p -/
structure SzA (cA : Addr) (m : Sto) (p a1 a2 : Addr) (z : Sz) : Prop where
  at_ : m p = some (.ins cA (szF z a1 a2))
  gv : m a1 = some (.dic (keysV z.gv) (valsV z.gv))
  gn : m a2 = some (.dic (keysN z.gn) (valsN z.gn))
  ne : a1 ≠ a2
def SzAt (cA : Addr) (m : Sto) (p : Addr) (z : Sz) : Prop := ∃ a1 a2, SzA cA m p a1 a2 z
/-- nothing of the store is lost -/
def Grow (m m' : Sto) : Prop := ∀ b o, m b = some o → m' b = some o
theorem Grow.refl (m : Sto) : Grow m m := fun _ _ h => h
theorem Grow.trans {a b c : Sto} (h : Grow a b) (k : Grow b c) : Grow a c := fun x o e => k x o (h x o e)
theorem Grow.put {m : Sto} {p : Addr} {o : O} (h : m p = none) : Grow m (sput m p o) := fun b u e => by rw [sput_ne (fun z => by rw [z, h] at e; cases e)]; exact e
theorem SzAt.grow {cA p : Addr} {m m' : Sto} {z : Sz} (h : SzAt cA m p z) (g : Grow m m') : SzAt cA m' p z := by
  obtain ⟨a1, a2, h1, h2, h3, hn⟩ := h
  exact ⟨a1, a2, g _ _ h1, g _ _ h2, g _ _ h3, hn⟩
theorem SzAt.draw {cA p pd : Addr} {m : Sto} {z : Sz} {l : List G.D} {o : O} (h : SzAt cA m p z) (hd : m pd = some (.lst l)) : SzAt cA (sput m pd o) p z := by
  obtain ⟨a1, a2, h1, h2, h3, hn⟩ := h
  refine ⟨a1, a2, ?_, ?_, ?_, hn⟩
  · rw [sput_ne (fun e => by rw [e, hd] at h1; cases h1)]; exact h1
  · rw [sput_ne (fun e => by rw [e, hd] at h2; cases h2)]; exact h2
  · rw [sput_ne (fun e => by rw [e, hd] at h3; cases h3)]; exact h3
/-! ### what the class does -/
abbrev Er := Value → List (Str × G.D) → Sto → Prop
def FNeedSize (cS : Addr) : DF := fun ds m Q E => ∃ s, ds = [.int s] ∧ (1 ≤ s → s ≤ 60 → Q .non m) ∧ (s < 1 ∨ s > 60 → E (.ref cS) [] m)
def FNeed (cA cI : Addr) : DF := fun ds m Q E => ∃ p k z, ds = [.ref p, .int k] ∧ SzAt cA m p z ∧ (0 ≤ k → k < z.n → Q .non m) ∧ (k < 0 ∨ k ≥ z.n → E (.ref cI) [] m)
def FOdd (cA : Addr) : DF := fun ds m Q _ => ∃ p z, ds = [.ref p] ∧ SzAt cA m p z ∧ z.Ok ∧ Q (.lst (z.odd.map G.D.int)) m
def FOwn (cA cI : Addr) : DF := fun ds m Q E => ∃ p k z, ds = [.ref p, .int k] ∧ SzAt cA m p z ∧ (0 ≤ k → k < z.n → Q (.int (z.own k)) m) ∧ (k < 0 ∨ k ≥ z.n → E (.ref cI) [] m)
def FHid (cA cI : Addr) : DF := fun ds m Q E => ∃ p k z, ds = [.ref p, .int k] ∧ SzAt cA m p z ∧ (0 ≤ k → k < z.n → Q (.bl (z.hid k)) m) ∧ (k < 0 ∨ k ≥ z.n → E (.ref cI) [] m)
def FSize (cA cI : Addr) : DF := fun ds m Q E => ∃ p k z, ds = [.ref p, .int k] ∧ SzAt cA m p z ∧ (0 ≤ k → k < z.n → Q (.int (z.size k)) m) ∧ (k < 0 ∨ k ≥ z.n → E (.ref cI) [] m)
def FAhead (cA cI : Addr) : DF := fun ds m Q E => ∃ p k z, ds = [.ref p, .int k] ∧ SzAt cA m p z ∧ z.Ok ∧ (0 ≤ k → k ≤ z.n → Q (.int (z.ahead k)) m) ∧ (k < 0 ∨ k > z.n → E (.ref cI) [] m)
def FTotal (cA : Addr) : DF := fun ds m Q _ => ∃ p z, ds = [.ref p] ∧ SzAt cA m p z ∧ z.Ok ∧ Q (.int z.total) m
def FExc (cA : Addr) : DF := fun ds m Q _ => ∃ p z, ds = [.ref p] ∧ SzAt cA m p z ∧ z.Ok ∧ Q (.lst z.exc) m
def szText (z : Sz) : Str := ((Str.ofString "Sizes ") ++ (toString z.n : Str)) ++ (Str.ofString " ") ++ (toString z.c : Str)
def FRepr (cA : Addr) : DF := fun ds m Q _ => ∃ p z, ds = [.ref p] ∧ SzAt cA m p z ∧ z.Ok ∧ Q (.str (szText z)) m
def FInit (cA cM cS : Addr) : DF := fun ds m Q E => ∃ p n c, ds = [.ref p, .int n, .int c] ∧ m p = some (.ins cA []) ∧ (n < 1 ∨ n > 1000000 → E (.ref cM) [] m) ∧ (1 ≤ n → n ≤ 1000000 → (c < 1 ∨ c > 60) → E (.ref cS) [] m) ∧
  (1 ≤ n → n ≤ 1000000 → 1 ≤ c → c ≤ 60 → ∀ m', (∀ b o, b ≠ p → m b = some o → m' b = some o) → SzAt cA m' p ⟨n, c, [], []⟩ → Q .non m')
def FEq (cA : Addr) : DF := fun ds m Q _ => ∃ p q z y, ds = [.ref p, .ref q] ∧ SzAt cA m p z ∧ SzAt cA m q y ∧ Q (.bl (decide (z.n = y.n) && decide (z.c = y.c) && ((keysV z.gv).length == (keysV y.gv).length && dicEq (keysV z.gv) (valsV z.gv) (keysV y.gv) (valsV y.gv)) && ((keysN z.gn).length == (keysN y.gn).length && dicEq (keysN z.gn) (valsN z.gn) (keysN y.gn) (valsN y.gn)))) m
theorem Sz.Ok.new {n c : Int} (h1 : 1 ≤ n) (h2 : n ≤ 1000000) (h3 : 1 ≤ c) (h4 : c ≤ 60) : Sz.Ok ⟨n, c, [], []⟩ := ⟨h1, by show n ≤ 1000000000; omega, h3, h4, (fun _ h => nomatch h), (fun _ h => nomatch h), List.nodup_nil, List.nodup_nil, Nat.zero_le _, (fun _ h => nomatch h)⟩
end G
namespace G
open PySem PySem.Spec PyProof.Rows L2
theorem de_gint {C : Ct} {W : DW} {δ : Sl} {m : Sto} {pos : Pos} {Q : D → Sto → Prop} {x : Str} {v : Int} (h : ∃ t, C.mg x = some (.int v t)) (hg : GlC C x) (q : Q (.int v) m) (hdb : (x == ("__debug__" : Str)) = false := by decide) : DE C W (.Name x pos) δ m Q := by
  obtain ⟨t, ht⟩ := h
  exact de_glob hg ht (v := .int v) ⟨t, rfl⟩ (fun H => .int v) q hdb
theorem FNeedSize.len {cS : Addr} : ∀ ds m Q E, FNeedSize cS ds m Q E → ds.length = (["size"] : List Str).length := by
  rintro ds m Q E ⟨s, rfl, _⟩
  rfl
theorem FNeed.len {cA cI : Addr} : ∀ ds m Q E, FNeed cA cI ds m Q E → ds.length = (["self", "number"] : List Str).length := by
  rintro ds m Q E ⟨p, k, z, rfl, _⟩
  rfl
theorem FOwn.len {cA cI : Addr} : ∀ ds m Q E, FOwn cA cI ds m Q E → ds.length = (["self", "number"] : List Str).length := by
  rintro ds m Q E ⟨p, k, z, rfl, _⟩
  rfl
theorem FHid.len {cA cI : Addr} : ∀ ds m Q E, FHid cA cI ds m Q E → ds.length = (["self", "number"] : List Str).length := by
  rintro ds m Q E ⟨p, k, z, rfl, _⟩
  rfl
theorem FSize.len {cA cI : Addr} : ∀ ds m Q E, FSize cA cI ds m Q E → ds.length = (["self", "number"] : List Str).length := by
  rintro ds m Q E ⟨p, k, z, rfl, _⟩
  rfl
theorem FAhead.len {cA cI : Addr} : ∀ ds m Q E, FAhead cA cI ds m Q E → ds.length = (["self", "number"] : List Str).length := by
  rintro ds m Q E ⟨p, k, z, rfl, _⟩
  rfl
theorem FOdd.len {cA : Addr} : ∀ ds m Q E, FOdd cA ds m Q E → ds.length = (["self"] : List Str).length := by
  rintro ds m Q E ⟨p, z, rfl, _⟩
  rfl
theorem FTotal.len {cA : Addr} : ∀ ds m Q E, FTotal cA ds m Q E → ds.length = (["self"] : List Str).length := by
  rintro ds m Q E ⟨p, z, rfl, _⟩
  rfl
theorem FExc.len {cA : Addr} : ∀ ds m Q E, FExc cA ds m Q E → ds.length = (["self"] : List Str).length := by
  rintro ds m Q E ⟨p, z, rfl, _⟩
  rfl
theorem FRepr.len {cA : Addr} : ∀ ds m Q E, FRepr cA ds m Q E → ds.length = (["self"] : List Str).length := by
  rintro ds m Q E ⟨p, z, rfl, _⟩
  rfl
theorem FInit.len {cA cM cS : Addr} : ∀ ds m Q E, FInit cA cM cS ds m Q E → ds.length = (["self", "many", "common"] : List Str).length := by
  rintro ds m Q E ⟨p, n, c, rfl, _⟩
  rfl
theorem FEq.len {cA : Addr} : ∀ ds m Q E, FEq cA ds m Q E → ds.length = (["self", "other"] : List Str).length := by
  rintro ds m Q E ⟨p, q, z, y, rfl, _⟩
  rfl
end G

/-! Rows of sizes: short lemmas for the walk. -/
namespace G
open PySem PySem.Spec PyProof.Rows L2
namespace Sz
theorem mem_odd {z : Sz} {k : Int} : k ∈ z.odd ↔ k ∈ z.gv.map (·.1) ∨ k ∈ z.gn := by
  unfold odd
  rw [mem_sortU, List.mem_append]
theorem inc_odd (z : Sz) : z.odd.Pairwise (· < ·) := inc_sortU _
theorem Ok.odd_in {z : Sz} (h : z.Ok) {k : Int} (hk : k ∈ z.odd) : 0 ≤ k ∧ k < z.n := by
  rcases mem_odd.mp hk with e | e
  · obtain ⟨q, hq, rfl⟩ := List.mem_map.mp e
    have := h.kv q hq
    exact ⟨this.1, this.2.1⟩
  · exact h.kn k e
theorem Ok.fewV {z : Sz} (h : z.Ok) : (z.gv.map (·.1)).length < 64 := by
  have q := nodup_len (z.gv.map (·.1)) z.odd h.dv fun k hk => mem_odd.mpr (.inl hk)
  have := h.few
  omega
theorem Ok.fewN {z : Sz} (h : z.Ok) : z.gn.length < 64 := by
  have q := nodup_len z.gn z.odd h.dn fun k hk => mem_odd.mpr (.inr hk)
  have := h.few
  omega
theorem Ok.few64 {z : Sz} (h : z.Ok) : z.odd.length < 64 := by have := h.few; omega
theorem odd_of {z : Sz} {u : List Int} (h1 : u.Pairwise (· < ·)) (h2 : ∀ k, k ∈ u ↔ k ∈ z.gv.map (·.1) ∨ k ∈ z.gn) : u = z.odd := inc_uniq h1 z.inc_odd fun k => (h2 k).trans mem_odd.symm
theorem size_gone {z : Sz} {k : Int} (h : k ∈ z.gn) : z.size k = 0 := if_pos (decide_eq_true h)
theorem size_own {z : Sz} {k : Int} (h : ¬ k ∈ z.gn) : z.size k = z.own k := if_neg (by unfold hid; simp [h])
end Sz
theorem odd_get {z : Sz} {i : Nat} {d : G.D} (h : (z.odd.map G.D.int)[i]? = some d) : ∃ j, z.odd[i]? = some j ∧ d = .int j ∧ j ∈ z.odd := by
  rw [List.getElem?_map] at h
  obtain ⟨j, hj, rfl⟩ := Option.map_eq_some_iff.mp h
  exact ⟨j, hj, rfl, List.mem_of_getElem? hj⟩
section
variable {C : Ct} {m : Sto} {Q : D → Sto → Prop}
theorem fldx {a cA : Addr} {fs : List (Str × G.D)} {f : Str} {v : G.D} {K : PySem.W.Frag} (hm : m a = some (.ins cA fs)) (c : Cls K cA) (n : NoAttr K cA f) (l : fs.lookup f = some v) (q : Q v m) :
    ∃ a' cA' fs' v', G.D.ref a = .ref a' ∧ m a' = some (.ins cA' fs') ∧ Cls K cA' ∧ NoAttr K cA' f ∧ fs'.lookup f = some v' ∧ Q v' m := ⟨a, cA, fs, v, rfl, hm, c, n, l, q⟩
theorem methx {a cA : Addr} {fs : List (Str × G.D)} {x : Str} {R : Prop} (hm : m a = some (.ins cA fs)) (l : fs.lookup x = none) (q : R) :
    ∃ a' fs', G.D.ref a = .ref a' ∧ m a' = some (.ins cA fs') ∧ fs'.lookup x = none ∧ R := ⟨a, fs, rfl, hm, l, q⟩
theorem dgetx {a : Addr} {ks : List Key} {ds : List G.D} {k : Key} {v : G.D} (hm : m a = some (.dic ks ds)) (l : valD ks ds k = some v) (q : Q v m) :
    ∃ a' ks' ds' k' v', G.D.ref a = .ref a' ∧ kD k = kD k' ∧ DicAt m a' ks' ds' ∧ valD ks' ds' k' = some v' ∧ Q v' m := ⟨a, ks, ds, k, v, rfl, rfl, .inl hm, l, q⟩
end
theorem eqvD_pair {a b c d : Int} : eqvD (.tup [.int a, .int b]) (.tup [.int c, .int d]) = (decide (a = c) && decide (b = d)) := by
  rw [Bool.eq_iff_iff]
  simp [eqvD, toPy, toPyL, PyData.eqv, PyData.eqvAll]
theorem sameI {l u : List (Int × Int)} : ∀ d ∈ valsV l, ∀ e ∈ valsV u, SameK d e := fun d hd e he => by
  obtain ⟨q, _, rfl⟩ := List.mem_map.mp hd
  obtain ⟨r, _, rfl⟩ := List.mem_map.mp he
  exact .inl ⟨_, _, rfl, rfl⟩
theorem sameB {l u : List Int} : ∀ d ∈ valsN l, ∀ e ∈ valsN u, SameK d e := fun d hd e he => by
  obtain ⟨q, _, rfl⟩ := List.mem_map.mp hd
  obtain ⟨r, _, rfl⟩ := List.mem_map.mp he
  exact .inr ⟨_, _, rfl, rfl⟩
theorem num_len {n : Int} (h0 : 0 ≤ n) (h : n ≤ 1000000000) : ((toString n : Str)).length ≤ 10 := toString_length_le h0 (by decide) (by omega)
theorem num_log {n : Int} (h0 : 0 ≤ n) (h : n ≤ 1000000000) : n.natAbs.log2 < 1920 := by
  have h1 : n.natAbs < 2 ^ 30 := by omega
  by_cases e : n.natAbs = 0
  · rw [e]; decide
  · exact Nat.lt_of_lt_of_le ((Nat.log2_lt e).mpr h1) (by decide)
theorem sput_id {m : Sto} {p : Addr} {o : O} (h : m p = some o) : sput m p o = m := by
  funext a
  unfold sput
  split
  · rename_i e; rw [e, h]
  · rfl
theorem gone_get {l : List Int} {i : Nat} {d : G.D} (h : ((keysN l).map kD)[i]? = some d) : ∃ j, l[i]? = some j ∧ d = .int j := by
  unfold keysN at h
  rw [List.map_map, List.getElem?_map] at h
  obtain ⟨j, hj, rfl⟩ := Option.map_eq_some_iff.mp h
  exact ⟨j, hj, rfl⟩
theorem gone_len (l : List Int) : ((keysN l).map kD).length = l.length := by simp [keysN]
theorem init_sz {cA p a1 a2 : Addr} {m : Sto} {n c : Int} {f1 f2 f3 : List (Str × G.D)} (hm : ∃ o, m p = some o) (h1 : (sput (sput m p (.ins cA f1)) p (.ins cA f2)) a1 = none)
    (h2 : (sput (sput (sput (sput m p (.ins cA f1)) p (.ins cA f2)) a1 (.dic [] [])) p (.ins cA f3)) a2 = none) :
    (∀ b o, b ≠ p → m b = some o → (sput (sput (sput (sput (sput (sput m p (.ins cA f1)) p (.ins cA f2)) a1 (.dic [] [])) p (.ins cA f3)) a2 (.dic [] [])) p (.ins cA (szF ⟨n, c, [], []⟩ a1 a2))) b = some o) ∧
    SzAt cA (sput (sput (sput (sput (sput (sput m p (.ins cA f1)) p (.ins cA f2)) a1 (.dic [] [])) p (.ins cA f3)) a2 (.dic [] [])) p (.ins cA (szF ⟨n, c, [], []⟩ a1 a2))) p ⟨n, c, [], []⟩ := by
  have p1 : a1 ≠ p := fun e => by rw [e, sput_same] at h1; cases h1
  have p2 : a2 ≠ p := fun e => by rw [e, sput_same] at h2; cases h2
  have p12 : a1 ≠ a2 := fun e => by
    rw [← e, sput_ne p1, sput_same] at h2
    cases h2
  refine ⟨fun b o hb e => ?_, a1, a2, sput_same, ?_, ?_, p12⟩
  · have b1 : b ≠ a1 := fun z => by
      rw [← z, sput_ne hb, sput_ne hb, e] at h1
      cases h1
    have b2 : b ≠ a2 := fun z => by
      rw [← z, sput_ne hb, sput_ne b1, sput_ne hb, sput_ne hb, e] at h2
      cases h2
    rw [sput_ne hb, sput_ne b2, sput_ne hb, sput_ne b1, sput_ne hb, sput_ne hb, e]
  · rw [sput_ne p1, sput_ne p12, sput_ne p1, sput_same]; rfl
  · rw [sput_ne p2, sput_same]; rfl
theorem init_szH {cA p a1 a2 : Addr} {m : Sto} {n c : Int} {f1 f2 f3 : List (Str × G.D)} (hm : ∃ o, m p = some o) (h1 : (sput (sput m p (.ins cA f1)) p (.ins cA f2)) a1 = none)
    (h2 : (sput (sput (sput (sput m p (.ins cA f1)) p (.ins cA f2)) a1 (.dic [] [])) p (.ins cA f3)) a2 = none) :
    (∀ b o, b ≠ p → m b = some o → (sput (sput (sput (sput (sput (sput m p (.ins cA f1)) p (.ins cA f2)) a1 (.dic [] [])) p (.ins cA f3)) a2 (.dic [] [])) p (.ins cA (szF ⟨n, c, [], []⟩ a1 a2))) b = some o) ∧
    SzA cA (sput (sput (sput (sput (sput (sput m p (.ins cA f1)) p (.ins cA f2)) a1 (.dic [] [])) p (.ins cA f3)) a2 (.dic [] [])) p (.ins cA (szF ⟨n, c, [], []⟩ a1 a2))) p a1 a2 ⟨n, c, [], []⟩ ∧ m a1 = none ∧ m a2 = none := by
  have p1 : a1 ≠ p := fun e => by rw [e, sput_same] at h1; cases h1
  have p2 : a2 ≠ p := fun e => by rw [e, sput_same] at h2; cases h2
  have p12 : a1 ≠ a2 := fun e => by
    rw [← e, sput_ne p1, sput_same] at h2
    cases h2
  refine ⟨fun b o hb e => ?_, ⟨sput_same, ?_, ?_, p12⟩, ?_, ?_⟩
  · have b1 : b ≠ a1 := fun z => by
      rw [← z, sput_ne hb, sput_ne hb, e] at h1
      cases h1
    have b2 : b ≠ a2 := fun z => by
      rw [← z, sput_ne hb, sput_ne b1, sput_ne hb, sput_ne hb, e] at h2
      cases h2
    rw [sput_ne hb, sput_ne b2, sput_ne hb, sput_ne b1, sput_ne hb, sput_ne hb, e]
  · rw [sput_ne p1, sput_ne p12, sput_ne p1, sput_same]; rfl
  · rw [sput_ne p2, sput_same]; rfl
  · rw [sput_ne p1, sput_ne p1] at h1; exact h1
  · rw [sput_ne p2, sput_ne p12.symm, sput_ne p2, sput_ne p2] at h2; exact h2
end G
namespace G
open PySem PySem.Spec PyProof.Rows L2
section
variable {C : Ct} {W : DW} {δ : Sl} {m : Sto} {o i : Expr} {pos : Pos} {Q : Bool → Sto → Prop}
/-- k in d, k not in d, as tests -/
theorem dt_din (h : DE C W i δ m fun y m1 => DE C W o δ m1 fun d m2 => ∃ a ks ds k, y = kD k ∧ d = .ref a ∧ DicAt m2 a ks ds ∧ Q (valD ks ds k).isSome m2) (hb : behindInMarks .In o = false := by with_unfolding_all rfl) : DT C W (.Compare i [.In] [o] pos) δ m Q := by
  intro X S fx tk σ H T le sl hh
  refine WT.of (L2.pt_cmp (pc_din (units1 fx) we we) hb) ((h X S fx tk σ H T le sl hh).mono fun u H1 ⟨y, m1, h1, q⟩ => ?_)
  refine (q X S fx tk σ H1 _ (le.trans Pl.le) (sl.le Pl.le) h1).mono fun v H2 ⟨d, m2, h2, a, ks, ds, k, ey, ed, hm, q2⟩ => ?_
  subst ed ey
  have r := h2.rep Pl.it
  cases r
  obtain ⟨g1, g2⟩ := h2.dget (k := k) (v := u) hm (.inl Pl.it)
  cases hv : valD ks ds k with
  | none =>
    rw [hv] at q2
    exact ⟨a, none, rfl, g1 hv, _, rfl, m2, h2.le (Pl.le.trans Pl.le), q2⟩
  | some z =>
    rw [hv] at q2
    obtain ⟨w2, g, _⟩ := g2 z hv
    exact ⟨a, some w2, rfl, g, _, rfl, m2, h2.le (Pl.le.trans Pl.le), q2⟩
theorem dt_dnotin (h : DE C W i δ m fun y m1 => DE C W o δ m1 fun d m2 => ∃ a ks ds k, y = kD k ∧ d = .ref a ∧ DicAt m2 a ks ds ∧ Q (!(valD ks ds k).isSome) m2) (hb : behindInMarks .NotIn o = false := by with_unfolding_all rfl) : DT C W (.Compare i [.NotIn] [o] pos) δ m Q := by
  intro X S fx tk σ H T le sl hh
  refine WT.of (L2.pt_cmp (pc_dnotin (units1 fx) we we) hb) ((h X S fx tk σ H T le sl hh).mono fun u H1 ⟨y, m1, h1, q⟩ => ?_)
  refine (q X S fx tk σ H1 _ (le.trans Pl.le) (sl.le Pl.le) h1).mono fun v H2 ⟨d, m2, h2, a, ks, ds, k, ey, ed, hm, q2⟩ => ?_
  subst ed ey
  have r := h2.rep Pl.it
  cases r
  obtain ⟨g1, g2⟩ := h2.dget (k := k) (v := u) hm (.inl Pl.it)
  cases hv : valD ks ds k with
  | none =>
    rw [hv] at q2
    exact ⟨a, none, rfl, g1 hv, _, rfl, m2, h2.le (Pl.le.trans Pl.le), q2⟩
  | some z =>
    rw [hv] at q2
    obtain ⟨w2, g, _⟩ := g2 z hv
    exact ⟨a, some w2, rfl, g, _, rfl, m2, h2.le (Pl.le.trans Pl.le), q2⟩
end
end G

/-! Rows of sizes: what the laws' own defs over them do. -/
namespace G
open PySem PySem.Spec PyProof.Rows L2
theorem strOk_of (s : String) : PyData.strOk (Str.ofString s) = true := by
  rw [Str.ofString_eq_toList]
  unfold PyData.strOk
  rw [List.all_toArray, List.all_map, List.all_eq_true]
  intro c _
  have h := c.valid
  have h2 : c.toNat < 1114112 := by
    rcases h with h | ⟨_, h⟩
    · exact Nat.lt_trans h (by decide)
    · exact h
  simpa using h2
theorem strOk_app {a b : Str} : PyData.strOk (a ++ b) = (PyData.strOk a && PyData.strOk b) := by
  show (a.cps ++ b.cps).all _ = _
  rw [Array.all_append]
  rfl
/-- the law's own row of sizes, a dict -/
def zK : List Key := [Sum.inr "many", Sum.inr "common", Sum.inr "own", Sum.inr "gone"]
structure LzA (m : Sto) (p a1 a2 : Addr) (z : Sz) : Prop where
  at_ : m p = some (.dic zK [.int z.n, .int z.c, .ref a1, .ref a2])
  gv : m a1 = some (.dic (keysV z.gv) (valsV z.gv))
  gn : m a2 = some (.dic (keysN z.gn) (valsN z.gn))
  ne : a1 ≠ a2
def LzAt (m : Sto) (p : Addr) (z : Sz) : Prop := ∃ a1 a2, LzA m p a1 a2 z
theorem LzAt.grow {p : Addr} {m m' : Sto} {z : Sz} (h : LzAt m p z) (g : Grow m m') : LzAt m' p z := by
  obtain ⟨a1, a2, h1, h2, h3, hn⟩ := h
  exact ⟨a1, a2, g _ _ h1, g _ _ h2, g _ _ h3, hn⟩
def FFar : DF := fun ds m Q _ => ∃ p o, ds = [.ref p] ∧ m p = some o ∧ IsDraw o ∧ ∀ r o', (r < -1000000 ∨ 1000001 < r) → IsDraw o' → Q (.int r) (sput m p o')
def FLz : DF := fun ds m Q _ => ∃ n c, ds = [.int n, .int c] ∧ ∀ m' p, Grow m m' → LzAt m' p ⟨n, c, [], []⟩ → Q (.ref p) m'
def FLzOdd : DF := fun ds m Q _ => ∃ p z, ds = [.ref p] ∧ LzAt m p z ∧ z.Ok ∧ Q (.lst (z.odd.map G.D.int)) m
def FLzSize : DF := fun ds m Q _ => ∃ p k z, ds = [.ref p, .int k] ∧ LzAt m p z ∧ Q (.int (z.size k)) m
def FLzAhead : DF := fun ds m Q _ => ∃ p k z, ds = [.ref p, .int k] ∧ LzAt m p z ∧ z.Ok ∧ Q (.int (z.ahead k)) m
def FStands (cA : Addr) : DF := fun ds m Q _ => ∃ (ps pz : Addr) (ks : List Int) (z : Sz), ds = [.ref ps, .ref pz, .lst (ks.map G.D.int)] ∧ ks.length ≤ 1000 ∧ SzAt cA m ps z ∧ LzAt m pz z ∧ z.Ok ∧ Q (.bl true) m
def FMade (cA : Addr) : DF := fun ds m Q _ => ∃ n c, ds = [.int n, .int c] ∧ ((n < 1 ∨ n > 1000000) → ∀ m', Grow m m' → Q (.lst [.bl true, .bl false, .bl true]) m') ∧
  (1 ≤ n → n ≤ 1000000 → (c < 1 ∨ c > 60) → ∀ m', Grow m m' → Q (.lst [.bl false, .bl true, .bl true]) m') ∧ (1 ≤ n → n ≤ 1000000 → 1 ≤ c → c ≤ 60 → ∀ m' p, Grow m m' → SzAt cA m' p ⟨n, c, [], []⟩ → Q (.ref p) m')
def FRefused (cA : Addr) : DF := fun ds m Q _ => ∃ p k y z, ds = [.ref p, .int k, .int y] ∧ SzAt cA m p z ∧ z.Ok ∧ (k < 0 ∨ k > z.n ∨ k = z.n ∧ y ≠ 3) ∧ 0 ≤ y ∧ y < 4 ∧ Q (.bl true) m
theorem FFar.len : ∀ ds m Q E, FFar ds m Q E → ds.length = (["_law_draw"] : List Str).length := by
  rintro ds m Q E ⟨p, o, rfl, _⟩
  rfl
theorem FLz.len : ∀ ds m Q E, FLz ds m Q E → ds.length = (["_law_many", "_law_usual"] : List Str).length := by
  rintro ds m Q E ⟨p, o, rfl, _⟩
  rfl
theorem FLzOdd.len : ∀ ds m Q E, FLzOdd ds m Q E → ds.length = (["_law_z_here"] : List Str).length := by
  rintro ds m Q E ⟨p, o, rfl, _⟩
  rfl
theorem FLzSize.len : ∀ ds m Q E, FLzSize ds m Q E → ds.length = (["_law_z_here", "_law_k"] : List Str).length := by
  rintro ds m Q E ⟨p, k, z, rfl, _⟩
  rfl
theorem FLzAhead.len : ∀ ds m Q E, FLzAhead ds m Q E → ds.length = (["_law_z_here", "_law_k"] : List Str).length := by
  rintro ds m Q E ⟨p, k, z, rfl, _⟩
  rfl
theorem FStands.len {cA : Addr} : ∀ ds m Q E, FStands cA ds m Q E → ds.length = (["_law_sizes", "_law_z_here", "_law_some"] : List Str).length := by
  rintro ds m Q E ⟨p, k, z, y, rfl, _⟩
  rfl
theorem FMade.len {cA : Addr} : ∀ ds m Q E, FMade cA ds m Q E → ds.length = (["_law_many", "_law_usual"] : List Str).length := by
  rintro ds m Q E ⟨p, o, rfl, _⟩
  rfl
theorem FRefused.len {cA : Addr} : ∀ ds m Q E, FRefused cA ds m Q E → ds.length = (["_law_sizes", "_law_number", "_law_way"] : List Str).length := by
  rintro ds m Q E ⟨p, k, y, z, rfl, _⟩
  rfl
/-- the law's new row -/
theorem new_lz {p b1 b2 : Addr} {m : Sto} {n c : Int} (h0 : m p = none) (h1 : (sput m p (.dic [] [])) b1 = none) (h2 : (sput (sput m p (.dic [] [])) b1 (.dic [] [])) b2 = none) :
    Grow m (sput (sput (sput (sput m p (.dic [] [])) b1 (.dic [] [])) b2 (.dic [] [])) p (.dic zK [.int n, .int c, .ref b1, .ref b2])) ∧
    LzAt (sput (sput (sput (sput m p (.dic [] [])) b1 (.dic [] [])) b2 (.dic [] [])) p (.dic zK [.int n, .int c, .ref b1, .ref b2])) p ⟨n, c, [], []⟩ := by
  have p1 : b1 ≠ p := fun e => by rw [e, sput_same] at h1; cases h1
  have p12 : b1 ≠ b2 := fun e => by rw [← e, sput_same] at h2; cases h2
  have p2 : b2 ≠ p := fun e => by rw [e, sput_ne (Ne.symm p1), sput_same] at h2; cases h2
  refine ⟨fun b o e => ?_, b1, b2, sput_same, ?_, ?_, p12⟩
  · have hb : b ≠ p := fun z => by rw [z, h0] at e; cases e
    have hb1 : b ≠ b1 := fun z => by rw [← z, sput_ne hb, e] at h1; cases h1
    have hb2 : b ≠ b2 := fun z => by rw [← z, sput_ne hb1, sput_ne hb, e] at h2; cases h2
    rw [sput_ne hb, sput_ne hb2, sput_ne hb1, sput_ne hb, e]
  · rw [sput_ne p1, sput_ne p12, sput_same]; rfl
  · rw [sput_ne p2, sput_same]; rfl
/-- behind i of the odd ones -/
def Sz.aheadTo (z : Sz) (k : Int) (i : Nat) : Int := k * z.c + (((z.odd.take i).filter fun j => decide (j < k)).map fun j => z.size j - z.c).sum
theorem Sz.ahead_0 (z : Sz) (k : Int) : k * z.c = z.aheadTo k 0 := by simp [Sz.aheadTo]
theorem Sz.ahead_all (z : Sz) (k : Int) : z.aheadTo k z.odd.length = z.ahead k := by simp [Sz.aheadTo, Sz.ahead]
theorem Sz.ahead_y {z : Sz} {k j : Int} {i : Nat} (h : z.odd[i]? = some j) (hx : j < k) : z.aheadTo k i + z.size j - z.c = z.aheadTo k (i + 1) := by
  unfold Sz.aheadTo
  rw [List.take_succ, h, List.filter_append, List.map_append, List.sum_append]
  simp [hx]
  omega
theorem Sz.ahead_n {z : Sz} {k j : Int} {i : Nat} (h : z.odd[i]? = some j) (hx : ¬ j < k) : z.aheadTo k i = z.aheadTo k (i + 1) := by
  unfold Sz.aheadTo
  rw [List.take_succ, h, List.filter_append, List.map_append, List.sum_append]
  simp [hx]
/-- the numbers, as the law puts them in order -/
theorem Sz.law_odd {z : Sz} (ok : z.Ok) {u : List Int} (h1 : u.Perm (z.gv.map (·.1) ++ z.gn.filter fun k => decide (¬ k ∈ z.gv.map (·.1)))) (h2 : u.Pairwise (· ≤ ·)) : u = z.odd := by
  have nd : (z.gv.map (·.1) ++ z.gn.filter fun k => decide (¬ k ∈ z.gv.map (·.1))).Nodup := by
    refine List.nodup_append.mpr ⟨ok.dv, ok.dn.filter _, fun a ha b hb e => ?_⟩
    subst e
    have := (List.mem_filter.mp hb).2
    exact (of_decide_eq_true this) ha
  refine le_uniq h2 (h1.nodup_iff.mpr nd) z.inc_odd fun k => ?_
  rw [h1.mem_iff, Sz.mem_odd, List.mem_append, List.mem_filter]
  constructor
  · rintro (h | h)
    · exact .inl h
    · exact .inr h.1
  · rintro (h | h)
    · exact .inl h
    · by_cases e : k ∈ z.gv.map (·.1)
      · exact .inl e
      · exact .inr ⟨h, decide_eq_true e⟩
theorem ok_bls : okD 1 (.lst [.bl true, .bl false, .bl true]) = true := rfl
theorem szText_ok (z : Sz) : PyData.strOk (szText z) = true := by
  unfold szText
  simp only [strOk_app, strOk_of, Bool.and_self]
theorem isSome_map {α β : Type} {f : α → β} {o : Option α} : (o.map f).isSome = o.isSome := by cases o <;> rfl
theorem lookup_in {k : Int} : ∀ gv : List (Int × Int), (gv.lookup k).isSome = decide (k ∈ gv.map Prod.fst)
  | [] => rfl
  | (j, v) :: gv => by
    rw [List.lookup_cons, List.map_cons]
    by_cases h : k = j
    · subst h; simp
    · rw [show (k == j) = false from by simpa using h]
      show (gv.lookup k).isSome = _
      rw [lookup_in gv]
      simp [h]
theorem val_has {k : Int} (gv : List (Int × Int)) : (valD (keysV gv) (valsV gv) (.inl k)).isSome = decide (k ∈ gv.map Prod.fst) := by rw [val_given, isSome_map, lookup_in]
theorem lz_ne {m : Sto} {p b : Addr} {l : List Int} {ds es : List G.D} (g1 : m p = some (.dic zK ds)) (g3 : m b = some (.dic (keysN l) es)) : p ≠ b := fun e => by
  rw [e, g3] at g1
  have h := O.dic.inj (Option.some.inj g1)
  cases l with
  | nil => have h1 := h.1; simp [keysN, zK] at h1
  | cons x l => have h1 := h.1; simp [keysN, zK] at h1
theorem bt_ValueError : bootBuiltins "ValueError" = some (.type "ValueError") := by decide +kernel
theorem bt_IndexError : bootBuiltins "IndexError" = some (.type "IndexError") := by decide +kernel
theorem exc_ok (z : Sz) : okDL 1 z.exc = true := okDL_map fun k => by simp [okD, okDL]
theorem stand_ok (z : Sz) {a b c : Int} {t : Str} (h : t = szText z) : okD 3 (.lst [.lst z.exc, .int a, .int b, .int c, .str t]) = true := by
  subst h
  simp only [okDL, okD, exc_ok, szText_ok, Bool.and_self, Bool.and_true]
end G

/-! Rows of sizes: short lemmas for the laws' own end. -/
namespace G
open PySem PySem.Spec PyProof.Rows L2
section
variable {m : Sto} {Q : D → Sto → Prop} {E : Value → List (Str × D) → Sto → Prop}
theorem use_pickG {p : Addr} {n : Int} {o : O} (hm : m p = some o) (hd : IsDraw o) (h0 : 0 < n) (h1 : n < 1073741824) (h : ∀ r o', 0 ≤ r → r < n → IsDraw o' → Q (.int r) (sput m p o')) : FPick [.ref p, .int n] m Q E := ⟨p, n, o, rfl, hm, hd, h0, h1, h⟩
theorem use_farG {p : Addr} {o : O} (hm : m p = some o) (hd : IsDraw o) (h : ∀ r o', (r < -1000000 ∨ 1000001 < r) → IsDraw o' → Q (.int r) (sput m p o')) : FFar [.ref p] m Q E := ⟨p, o, rfl, hm, hd, h⟩
theorem SzAt.pick {cA p pd : Addr} {z : Sz} {o o' : O} (h : SzAt cA m p z) (hm : m pd = some o) (hd : IsDraw o) : SzAt cA (sput m pd o') p z := by
  obtain ⟨ns, i, b, s, c, rfl, _⟩ := hd
  exact h.draw hm
theorem neS {x y : Str} (e : x = y) (ok : PyData.strOk y = true) (q : Q (.bl false) m) : neD (.str x) (.str y) m Q := by
  subst e
  refine ⟨0, by omega, ok, ok, ?_⟩
  rw [eqvD_str]
  simpa using q
theorem neI {x y : Int} (e : x = y) (q : Q (.bl false) m) : neD (.int x) (.int y) m Q := by
  subst e
  refine ⟨0, by omega, rfl, rfl, ?_⟩
  rw [eqvD_int]
  simpa using q
end
theorem Sz.ahead_new {n c k : Int} : (⟨n, c, [], []⟩ : Sz).ahead k = k * c := by simp [Sz.ahead, Sz.odd, sortU]
theorem Sz.total_new {n c : Int} : (⟨n, c, [], []⟩ : Sz).total = n * c := Sz.ahead_new
end G

/-! Facts at the head: classes of instances, errors over IndexError. -/
namespace G
open PySem PySem.Spec PyProof.Rows L2
def insIsB (K : PySem.W.Frag) (x : Str) : Bool :=
  He.eqO (PySem.W.findIn K (.ref (He.ga K x)) "__class__") (some (some (.builtin "object.__class__"))) &&
  (He.eqO (PySem.W.specialIn K (.builtin "object.__class__") "__get__") (some (some (.builtin "getset_descriptor.__get__"))) &&
  (decide (PySem.W.takesIn K (.builtin "object.__class__") = some true) &&
  decide (PySem.W.mroIn K (He.ga K x) (.type "object") = some true)))
theorem insIsB_ok {K : PySem.W.Frag} {x : Str} (h : insIsB K x = true) (cl : Cls K (He.ga K x)) : InsC K (He.ga K x) := by
  unfold insIsB at h
  obtain ⟨h1, h⟩ := He.ba h
  obtain ⟨h2, h⟩ := He.ba h
  obtain ⟨h3, h4⟩ := He.ba h
  exact ⟨cl, He.eqO_ok h1, He.eqO_ok h2, of_decide_eq_true h3, of_decide_eq_true h4⟩
def ecBB (K : PySem.W.Frag) (x : Str) (bm : List Value) (nw : String) : Bool := PySem.W.excIn K (He.ga K x) bm nw && (PySem.W.keepIn K (.ref (He.ga K x)) && (decide (PySem.W.subIn K (.ref (He.ga K x)) (.type "BaseException") = some true) && decide (PySem.W.typeIn K (.ref (He.ga K x)) = some (.type "type"))))
theorem ecBB_ok {K : PySem.W.Frag} {mg : Str → Option Value} {x : Str} {bm : List Value} {nw : String} (h : ecBB K x bm nw = true) (hm : mg x = some (.ref (He.ga K x))) : EcB K mg x (He.ga K x) bm nw := by
  unfold ecBB at h
  obtain ⟨h1, h⟩ := He.ba h
  obtain ⟨h2, h⟩ := He.ba h
  obtain ⟨h3, h4⟩ := He.ba h
  exact ⟨hm, h2, h1, of_decide_eq_true h3, of_decide_eq_true h4⟩
end G

/-! The data layer: dicts that are data (locked for good), dicts written, dict comprehensions. -/
namespace G
open PySem PySem.Spec PyProof.Rows L2
/-- a dict that is data, or one of the store -/
def DicV (m : Sto) (d : D) (ks : List Key) (ds : List D) : Prop := (∃ a, d = .ref a ∧ DicAt m a ks ds) ∨ d = .dic ks ds
section
variable {K : PySem.W.Frag} {r : Sto} {H : Hp} {m : Sto} {T : RT} {a : Addr} {ks : List Key} {ds : List D}
theorem Hd.dicV {v : V} {d : D} (h : Hd K r H m T) (tv : T v d) (t : DicV m d ks ds) : ∃ a kvs, v = .ref a ∧ Rd H a (.dK kvs) ∧ kvs.map (·.1) = ks ∧ (kvs.map (·.2)).length = ds.length ∧ Hd K r H m (PlL T (kvs.map (·.2)) ds) := by
  rcases t with ⟨a, rfl, t⟩ | rfl
  · have rr := h.rep tv
    cases rr
    obtain ⟨kvs, q⟩ := h.dicR t
    exact ⟨a, kvs, rfl, q⟩
  · obtain ⟨h0, Hi, h1, h2, h3⟩ := h
    have rr := h3 _ _ tv
    cases rr with
    | dic e1 e2 e3 => exact ⟨_, _, rfl, .inr ⟨_, h1 _ _ e1⟩, e2, e3.length, h0, Hi, h1, h2, fun v d x => x.elim (h3 v d) fun hm => RepL.mem_zip e3 hm⟩
theorem Hd.dgetV {v u : V} {d : D} {k : Key} (h : Hd K r H m T) (tv : T v d) (t : DicV m d ks ds) (tu : T u (kD k)) : ∃ a, v = .ref a ∧ (∃ kvs, Rd H a (.dK kvs)) ∧ (valD ks ds k = none → DGet H a u none) ∧ ∀ z, valD ks ds k = some z → ∃ y, DGet H a u (some y) ∧ Hd K r H m (Pl T y z) := by
  obtain ⟨a, kvs, ev, hr, e, hl, h2⟩ := h.dicV tv t
  subst e
  have ek := kV_of (h.rep tu)
  subst ek
  obtain ⟨z1, z2⟩ := val_rep (RepL.of_zip hl fun v d z => h2.rep (.inr z)) (k := k)
  refine ⟨a, ev, ⟨kvs, hr⟩, fun e => .inl ⟨kvs, k, hr, rfl, (z1 e).symm⟩, fun d e => ?_⟩
  obtain ⟨u, e1, e2⟩ := z2 e
  exact ⟨u, .inl ⟨kvs, k, hr, rfl, e1.symm⟩, h2.le fun x y t => by
    rcases t with t | ⟨rfl, rfl⟩
    · exact .inl t
    · exact .inr e2⟩
/-- a dict of the store becomes data: H is the heap ahead, the lock is laid for good -/
theorem Hd.frzD (h : Hd K r H m T) (t : m a = some (.dic ks ds)) : ∃ kvs, H a = some (.dK kvs) ∧ ∀ ob, Hd K r (upd H a (.frz ob (.dK kvs))) (sdel m a) (Pl T (.ref a) (.dic ks ds)) := by
  have t' := t
  obtain ⟨h0, Hi, h1, h2, h3⟩ := h
  obtain ⟨q0, u, q, rr⟩ := h2 _ _ (sun_l t)
  cases u with
  | dK kvs =>
    obtain ⟨e1, e2⟩ := rr
    refine ⟨kvs, q, fun ob => ⟨fun b x e => ?_, upd Hi a (.frz ob (.dK kvs)), fun b o e => ?_, fun b o e => ?_, fun x y q => ?_⟩⟩
    · by_cases hb : b = a
      · subst hb; unfold sdel at e; rw [if_pos rfl] at e; cases e
      · rw [sdel_ne hb] at e; exact h0 b x e
    · by_cases hb : b = a
      · subst hb; rw [upd_same] at e ⊢; exact e
      · rw [upd_ne hb] at e ⊢; exact h1 _ _ e
    · rw [sun_del (h0 a _ t)] at e
      by_cases hb : b = a
      · subst hb; unfold sdel at e; rw [if_pos rfl] at e; cases e
      · rw [sdel_ne hb] at e
        obtain ⟨p1, u1, p2, p3⟩ := h2 b o e
        exact ⟨by rw [upd_ne hb]; exact p1, u1, by rw [upd_ne hb]; exact p2, p3.mono (same_upd q0)⟩
    · rcases q with q | ⟨rfl, rfl⟩
      · exact Rep.mono (same_upd q0) (h3 x y q)
      · exact .dic upd_same e1 (RepL.mono (same_upd q0) e2)
  | _ => exact False.elim rr
theorem Rep.ref_eq {v : V} {a : Addr} (h : Rep K H v (.ref a)) : v = .ref a := by cases h; rfl
theorem RepL.set_at : ∀ {vs : List V} {es : List D} {i : Nat} {a : Addr} {d : D}, RepL K H vs es → es[i]? = some (.ref a) → Rep K H (.ref a) d → RepL K H vs (es.set i d)
  | _, _, _, _, _, .nil, e, _ => by simp at e
  | _, _, 0, a, d, .cons r1 r2, e, rr => by
    simp only [List.getElem?_cons_zero, Option.some.injEq] at e
    subst e
    have := r1.ref_eq
    subst this
    exact .cons rr r2
  | _, _, i + 1, a, d, .cons r1 r2, e, rr => .cons r1 (RepL.set_at r2 (by simpa using e) rr)
/-- what stands in a dict of the store is told anew -/
theorem Hd.tellD {b : Addr} {i : Nat} {d : D} (h : Hd K r H m T) (t : m b = some (.dic ks ds)) (hi : ds[i]? = some (.ref a)) (td : T (.ref a) d) : Hd K r H (sput m b (.dic ks (ds.set i d))) T := by
  obtain ⟨kvs, hu, ek, hl, _⟩ := h.dicO t
  have e : upd H b (.dK kvs) = H := by
    funext x
    unfold upd
    split
    · rename_i z; subst z; exact hu.symm
    · rfl
  have q := h.mut (u' := .dK kvs) (o' := .dic ks (ds.set i d)) t hu fun Hi rr k => ⟨rr.1, RepL.set_at rr.2 hi (k _ _ td)⟩
  rw [e] at q
  exact q
end
/-! ### the lists of a dict written -/
def hasK {κ : Type} [DecidableEq κ] (ks : List κ) (k : κ) : Bool := ks.any fun j => decide (j = k)
def putKs {κ : Type} [DecidableEq κ] (ks : List κ) (k : κ) : List κ := if hasK ks k = true then ks else ks ++ [k]
def repK {κ : Type} [DecidableEq κ] : List κ → List D → κ → D → List D
  | j :: ks, d :: ds, k, v => (if j = k then v else d) :: repK ks ds k v
  | _, _, _, _ => []
def putDs {κ : Type} [DecidableEq κ] (ks : List κ) (ds : List D) (k : κ) (v : D) : List D := if hasK ks k = true then repK ks ds k v else ds ++ [v]
def dropKs {κ : Type} [DecidableEq κ] (ks : List κ) (k : κ) : List κ := ks.filter fun j => decide (j ≠ k)
def dropDs {κ : Type} [DecidableEq κ] : List κ → List D → κ → List D
  | j :: ks, d :: ds, k => if j = k then dropDs ks ds k else d :: dropDs ks ds k
  | _, _, _ => []
section
variable {K : PySem.W.Frag} {H : Hp}
theorem hasK_map {κ : Type} [DecidableEq κ] (kvs : List (κ × V)) (k : κ) : (kvs.any fun kv => decide (kv.1 = k)) = hasK (kvs.map (·.1)) k := by
  unfold hasK
  rw [List.any_map]
  rfl
theorem repK_rep {κ : Type} [DecidableEq κ] {k : κ} {v : V} {d : D} (rv : Rep K H v d) : ∀ {kvs : List (κ × V)} {ds : List D}, RepL K H (kvs.map (·.2)) ds → RepL K H ((kvs.map fun kv => if kv.1 = k then (kv.1, v) else kv).map (·.2)) (repK (kvs.map (·.1)) ds k d)
  | [], [], _ => .nil
  | [], _ :: _, r => by cases r
  | _ :: _, [], r => by cases r
  | (j, u) :: kvs, e :: ds, .cons r1 r2 => by
    show RepL K H ((if j = k then (j, v) else (j, u)).2 :: _) ((if j = k then d else e) :: repK (kvs.map (·.1)) ds k d)
    refine .cons ?_ (repK_rep rv r2)
    by_cases hj : j = k
    · rw [if_pos hj, if_pos hj]; exact rv
    · rw [if_neg hj, if_neg hj]; exact r1
theorem put_rep {κ : Type} [DecidableEq κ] {k : κ} {v : V} {d : D} (rv : Rep K H v d) {kvs : List (κ × V)} {ds : List D} (r : RepL K H (kvs.map (·.2)) ds) : (putK kvs k v).map (·.1) = putKs (kvs.map (·.1)) k ∧ RepL K H ((putK kvs k v).map (·.2)) (putDs (kvs.map (·.1)) ds k d) := by
  unfold putK putKs putDs
  rw [hasK_map]
  split
  · refine ⟨?_, repK_rep rv r⟩
    rw [List.map_map]
    refine List.map_congr_left fun kv _ => ?_
    show (if kv.1 = k then (kv.1, v) else kv).1 = kv.1
    split <;> rfl
  · rw [List.map_append, List.map_append]
    exact ⟨rfl, r.append (.cons rv .nil)⟩
theorem drop_rep {κ : Type} [DecidableEq κ] {k : κ} : ∀ {kvs : List (κ × V)} {ds : List D}, RepL K H (kvs.map (·.2)) ds → (dropK kvs k).map (·.1) = dropKs (kvs.map (·.1)) k ∧ RepL K H ((dropK kvs k).map (·.2)) (dropDs (kvs.map (·.1)) ds k)
  | [], [], _ => ⟨rfl, .nil⟩
  | [], _ :: _, r => by cases r
  | _ :: _, [], r => by cases r
  | (j, u) :: kvs, e :: ds, .cons r1 r2 => by
    obtain ⟨h1, h2⟩ := drop_rep (k := k) r2
    unfold dropK dropKs at h1 ⊢
    unfold dropK at h2
    show _ ∧ RepL K H _ (if j = k then dropDs (kvs.map (·.1)) ds k else e :: dropDs (kvs.map (·.1)) ds k)
    by_cases hj : j = k
    · rw [if_pos hj, List.filter_cons_of_neg (by simp [hj]), List.map_cons, List.filter_cons_of_neg (by simp [hj])]
      exact ⟨h1, h2⟩
    · rw [if_neg hj, List.filter_cons_of_pos (by simp [hj]), List.map_cons, List.map_cons, List.filter_cons_of_pos (by simp [hj]), List.map_cons]
      exact ⟨by rw [h1], .cons r1 h2⟩
end
section
variable {C : Ct} {W : DW} {δ : Sl} {m : Sto} {b c e o i f : Expr} {es : List Expr} {pos pos' apos cpos : Pos} {Q : D → Sto → Prop} {D : DEn}
/-- d[k] -/
theorem de_dgetV (h : DE C W o δ m fun d m1 => DE C W i δ m1 fun y m2 => ∃ ks ds k v, y = kD k ∧ DicV m2 d ks ds ∧ valD ks ds k = some v ∧ Q v m2) (hs : NoSl i := by intro _ _; rfl) : DE C W (.Subscript o i pos) δ m Q := by
  intro X S fx tk σ H T le sl hh
  refine WE.of (pe_dget (units1 fx) we we hs) ((h X S fx tk σ H T le sl hh).mono fun v H1 ⟨d, m1, h1, q⟩ => ?_)
  refine (q X S fx tk σ H1 _ (le.trans Pl.le) (sl.le Pl.le) h1).mono fun u H2 ⟨y, m2, h2, ks, ds, k, z, ey, hm, hv, q2⟩ => ?_
  subst ey
  obtain ⟨a, ev, _, _, g2⟩ := h2.dgetV (v := v) (u := u) (.inl Pl.it) hm Pl.it
  obtain ⟨w, g, h3⟩ := g2 z hv
  exact ⟨a, w, ev, g, z, m2, h3.le (Pl.mono (Pl.le.trans Pl.le)), q2⟩
/-- d.get(k, x) -/
theorem de_dget2V (h : DE C W o δ m fun d m1 => (∃ ks0 ds0, DicV m1 d ks0 ds0) ∧ DE C W e δ m1 fun y m2 => DE C W f δ m2 fun x m3 => ∃ ks ds k, y = kD k ∧ DicV m3 d ks ds ∧ Q ((valD ks ds k).getD x) m3)
    (hm : ∀ X : Cx, M2 X o "get" apos e f cpos := by intro _; exact ⟨rfl, rfl, rfl, rfl⟩) : DE C W (.Call (.Attribute o "get" apos) [e, f] [] cpos) δ m Q := by
  intro X S fx tk σ H T le sl hh
  refine WE.of (pe_dget2 (units1 fx) we we we (hm X)) ((h X S fx tk σ H T le sl hh).mono fun v H1 ⟨d, m1, h1, ⟨ks0, ds0, hm0⟩, q⟩ => ?_)
  obtain ⟨a, kvs0, ev, hr0, _⟩ := h1.dicV Pl.it hm0
  refine ⟨a, ev, .inl ⟨kvs0, hr0⟩, (q X S fx tk σ H1 _ (le.trans Pl.le) (sl.le Pl.le) h1).mono fun u H2 ⟨y, m2, h2, q2⟩ => ?_⟩
  refine (q2 X S fx tk σ H2 _ (le.trans (Pl.le.trans Pl.le)) (sl.le (Pl.le.trans Pl.le)) h2).mono fun w H3 ⟨x, m3, h3, ks, ds, k, ey, hm3, q3⟩ => ?_
  subst ey
  obtain ⟨a', ev', _, g1, g2⟩ := h3.dgetV (v := v) (u := u) (.inl (.inl Pl.it)) hm3 (.inl Pl.it)
  rw [ev] at ev'
  cases ev'
  cases hv : valD ks ds k with
  | none =>
    rw [hv] at q3
    exact ⟨none, g1 hv, x, m3, h3.le (Pl.mono (Pl.le.trans Pl.le)), q3⟩
  | some z =>
    rw [hv] at q3
    obtain ⟨w2, g, h4⟩ := g2 z hv
    exact ⟨some w2, g, z, m3, h4.le (Pl.mono (Pl.le.trans (Pl.le.trans Pl.le))), q3⟩
/-- k in d, k not in d -/
theorem de_dinV (h : DE C W i δ m fun y m1 => DE C W o δ m1 fun d m2 => ∃ ks ds k, y = kD k ∧ DicV m2 d ks ds ∧ Q (.bl (valD ks ds k).isSome) m2) (hb : behindInMarks .In o = false := by with_unfolding_all rfl) : DE C W (.Compare i [.In] [o] pos) δ m Q := by
  intro X S fx tk σ H T le sl hh
  refine WE.of (L2.pe_cmp (pc_din (units1 fx) we we) hb) ((h X S fx tk σ H T le sl hh).mono fun u H1 ⟨y, m1, h1, q⟩ => ?_)
  refine (q X S fx tk σ H1 _ (le.trans Pl.le) (sl.le Pl.le) h1).mono fun v H2 ⟨d, m2, h2, ks, ds, k, ey, hm, q2⟩ => ?_
  subst ey
  obtain ⟨a, ev, _, g1, g2⟩ := h2.dgetV (v := v) (u := u) Pl.it hm (.inl Pl.it)
  cases hv : valD ks ds k with
  | none =>
    rw [hv] at q2
    exact ⟨a, none, ev, g1 hv, dK.le (dk_bl h2 q2) (Pl.le.trans Pl.le)⟩
  | some z =>
    rw [hv] at q2
    obtain ⟨w2, g, _⟩ := g2 z hv
    exact ⟨a, some w2, ev, g, dK.le (dk_bl h2 q2) (Pl.le.trans Pl.le)⟩
theorem de_dnotinV (h : DE C W i δ m fun y m1 => DE C W o δ m1 fun d m2 => ∃ ks ds k, y = kD k ∧ DicV m2 d ks ds ∧ Q (.bl (!(valD ks ds k).isSome)) m2) (hb : behindInMarks .NotIn o = false := by with_unfolding_all rfl) : DE C W (.Compare i [.NotIn] [o] pos) δ m Q := by
  intro X S fx tk σ H T le sl hh
  refine WE.of (L2.pe_cmp (pc_dnotin (units1 fx) we we) hb) ((h X S fx tk σ H T le sl hh).mono fun u H1 ⟨y, m1, h1, q⟩ => ?_)
  refine (q X S fx tk σ H1 _ (le.trans Pl.le) (sl.le Pl.le) h1).mono fun v H2 ⟨d, m2, h2, ks, ds, k, ey, hm, q2⟩ => ?_
  subst ey
  obtain ⟨a, ev, _, g1, g2⟩ := h2.dgetV (v := v) (u := u) Pl.it hm (.inl Pl.it)
  cases hv : valD ks ds k with
  | none =>
    rw [hv] at q2
    exact ⟨a, none, ev, g1 hv, dK.le (dk_bl h2 q2) (Pl.le.trans Pl.le)⟩
  | some z =>
    rw [hv] at q2
    obtain ⟨w2, g, _⟩ := g2 z hv
    exact ⟨a, some w2, ev, g, dK.le (dk_bl h2 q2) (Pl.le.trans Pl.le)⟩
theorem dt_dinV {Q : Bool → Sto → Prop} (h : DE C W i δ m fun y m1 => DE C W o δ m1 fun d m2 => ∃ ks ds k, y = kD k ∧ DicV m2 d ks ds ∧ Q ((valD ks ds k).isSome) m2) (hb : behindInMarks .In o = false := by with_unfolding_all rfl) : DT C W (.Compare i [.In] [o] pos) δ m Q := by
  intro X S fx tk σ H T le sl hh
  refine WT.of (L2.pt_cmp (pc_din (units1 fx) we we) hb) ((h X S fx tk σ H T le sl hh).mono fun u H1 ⟨y, m1, h1, q⟩ => ?_)
  refine (q X S fx tk σ H1 _ (le.trans Pl.le) (sl.le Pl.le) h1).mono fun v H2 ⟨d, m2, h2, ks, ds, k, ey, hm, q2⟩ => ?_
  subst ey
  obtain ⟨a, ev, _, g1, g2⟩ := h2.dgetV (v := v) (u := u) Pl.it hm (.inl Pl.it)
  cases hv : valD ks ds k with
  | none =>
    rw [hv] at q2
    exact ⟨a, none, ev, g1 hv, _, rfl, m2, h2.le (Pl.le.trans Pl.le), q2⟩
  | some z =>
    rw [hv] at q2
    obtain ⟨w2, g, _⟩ := g2 z hv
    exact ⟨a, some w2, ev, g, _, rfl, m2, h2.le (Pl.le.trans Pl.le), q2⟩
theorem dt_dnotinV {Q : Bool → Sto → Prop} (h : DE C W i δ m fun y m1 => DE C W o δ m1 fun d m2 => ∃ ks ds k, y = kD k ∧ DicV m2 d ks ds ∧ Q (!(valD ks ds k).isSome) m2) (hb : behindInMarks .NotIn o = false := by with_unfolding_all rfl) : DT C W (.Compare i [.NotIn] [o] pos) δ m Q := by
  intro X S fx tk σ H T le sl hh
  refine WT.of (L2.pt_cmp (pc_dnotin (units1 fx) we we) hb) ((h X S fx tk σ H T le sl hh).mono fun u H1 ⟨y, m1, h1, q⟩ => ?_)
  refine (q X S fx tk σ H1 _ (le.trans Pl.le) (sl.le Pl.le) h1).mono fun v H2 ⟨d, m2, h2, ks, ds, k, ey, hm, q2⟩ => ?_
  subst ey
  obtain ⟨a, ev, _, g1, g2⟩ := h2.dgetV (v := v) (u := u) Pl.it hm (.inl Pl.it)
  cases hv : valD ks ds k with
  | none =>
    rw [hv] at q2
    exact ⟨a, none, ev, g1 hv, _, rfl, m2, h2.le (Pl.le.trans Pl.le), q2⟩
  | some z =>
    rw [hv] at q2
    obtain ⟨w2, g, _⟩ := g2 z hv
    exact ⟨a, some w2, ev, g, _, rfl, m2, h2.le (Pl.le.trans Pl.le), q2⟩
/-- list(d), dict(d) -/
def listKV : RLD := fun ds m Q => ∃ d ks es, ds = [d] ∧ DicV m d ks es ∧ Q (.lst (ks.map kD)) m
theorem cd_listKV (hcm : C.cm = true := by rfl) : CallD C (.type "list") listKV := by
  rintro X fx fr H m T vs ds Q hl hh ⟨d, ks, es, rfl, hm, q⟩
  obtain ⟨v, rfl⟩ := one_of hl
  obtain ⟨a, kvs, rfl, hr, e, _, h2⟩ := hh.dicV (PlL.at (i := 0) (v := v) (d := d) rfl rfl) hm
  subst e
  refine wc_of (call_listD (fx.calm hcm)) ⟨a, kvs, rfl, hr, fun p hp => dK.le (dk_lst hh hp (fun Hi k => ?_) q) PlL.le⟩
  have : ∀ kvs : List (Key × V), RepL C.K Hi (kvs.map fun kv => kV kv.1) ((kvs.map (·.1)).map kD) := fun kvs => by
    induction kvs with
    | nil => exact .nil
    | cons p l ih => exact .cons (kV_rep p.1) ih
  exact this kvs
def dictCV : RLD := fun ds m Q => ∃ d ks es, ds = [d] ∧ DicV m d ks es ∧ ∀ p, m p = none → Q (.ref p) (sput m p (.dic ks es))
theorem cd_dictCV : CallD C (.type "dict") dictCV := by
  rintro X fx fr H m T vs ds Q hl hh ⟨d, ks, es, rfl, hm, q⟩
  obtain ⟨v, rfl⟩ := one_of hl
  obtain ⟨a, kvs, rfl, hr, e, hz, h2⟩ := hh.dicV (PlL.at (i := 0) (v := v) (d := d) rfl rfl) hm
  subst e
  refine wc_of call_dictD ⟨a, kvs, rfl, hr, fun p hp => ⟨.ref p, _, (h2.newM (u := .dK kvs) (o := .dic (kvs.map (·.1)) es) hp fun Hi k => ⟨rfl, RepL.of_zip hz fun v d z => k v d (.inr z)⟩).le (Pl.mono (PlL.le.trans PlL.le)), q p (hh.free hp)⟩⟩
def lenDV : RLD := fun ds m Q => ∃ d ks es, ds = [d] ∧ DicV m d ks es ∧ Q (.int ks.length) m
/-- d[k] = v -/
theorem set_dictK {X : Cx} (hu : X.A.units + 1 < cLine) : PSet X (fun o i v H Q => ∃ a H', o = .ref a ∧ DPut H a i v H' ∧ Q H') := by
  rintro pins s σ H x y v ov iv u Q I r1 r2 r3 ⟨a, H', rfl, g, q⟩
  obtain rfl : ov = Value.ref a := r1
  exact d_setItem hu I g r2 r3 fun s3 I3 => ⟨H', I3, q⟩
theorem Hd.dput {K : PySem.W.Frag} {r : Sto} {H : Hp} {T : RT} {a : Addr} {ks : List Key} {ds : List G.D} {u v : V} {k : Key} {d : G.D} (h : Hd K r H m T) (t : m a = some (.dic ks ds)) (tu : T u (kD k)) (tv : T v d) (hz : ks.length < sizeLine) :
    ∃ H', DPut H a u v H' ∧ Hd K r H' (sput m a (.dic (putKs ks k) (putDs ks ds k d))) T := by
  obtain ⟨kvs, hu, ek, hl, _⟩ := h.dicO t
  have e1 := kV_of (h.rep tu)
  subst e1 ek
  refine ⟨_, .inl ⟨kvs, k, hu, rfl, by simpa using hz, rfl⟩, h.mut t hu fun Hi rr kk => ?_⟩
  obtain ⟨g1, g2⟩ := put_rep (k := k) (kk _ _ tv) rr.2
  exact ⟨g1, g2⟩
theorem ds_dput {o i : Expr} (h : DE C W e δ m fun d m1 => DE C W o δ m1 fun x m2 => DE C W i δ m2 fun y m3 => ∃ a ks ds k, x = .ref a ∧ y = kD k ∧ m3 a = some (.dic ks ds) ∧ ks.length < sizeLine ∧ D.nx δ (sput m3 a (.dic (putKs ks k) (putDs ks ds k d))))
    (hs : ∀ env, swapsWithSole [.Subscript o i pos'] e pos.line env = pure false := by intro _; rfl) (hw : ∀ env, swappedStores [.Subscript o i pos'] e env = pure none := by intro _; rfl)
    (h1 : ∀ env, (assignEach [.Subscript o i pos'] env).map (·.2) = [assign (.Subscript o i pos') env] := by intro _; rfl)
    (ha : ∀ env v, assign (.Subscript o i pos') env v = (do
      let ov ← holding [v] (eval o env)
      let iv ← holding [v, ov] (eval i env)
      standAt pos'
      holding [v, ov, iv] (setItem ov iv v)
      release [v, ov, iv] []) := by intro _ _; rfl) : DS C W (.Assign [.Subscript o i pos'] e pos) δ m D := by
  intro X S f tk σ H T le sl hh
  refine WS.of (ps_asg we (pg_sub we we (set_dictK (units1 f)) (ha _)) (hs _) (hw _) (h1 _)) ((h X S f tk σ H T le sl hh).mono fun v H1 ⟨d, m1, h1, q⟩ => ?_)
  refine (q X S f tk σ H1 _ (le.trans Pl.le) (sl.le Pl.le) h1).mono fun u H2 ⟨x, m2, h2, q2⟩ => ?_
  refine (q2 X S f tk σ H2 _ (le.trans (Pl.le.trans Pl.le)) (sl.le (Pl.le.trans Pl.le)) h2).mono fun w H3 ⟨y, m3, h3, a, ks, ds, k, ex, ey, hm, hz, q3⟩ => ?_
  subst ex ey
  have rx := h3.rep (.inl Pl.it : Pl (Pl (Pl T v d) u (.ref a)) w (kD k) u (.ref a))
  cases rx
  obtain ⟨H4, g, h4⟩ := h3.dput (u := w) (v := v) hm Pl.it (.inl (.inl Pl.it)) hz
  exact ⟨a, H4, rfl, g, lift_nx (le.trans (Pl.le.trans (Pl.le.trans Pl.le))) (sl.le (Pl.le.trans (Pl.le.trans Pl.le))) h4 q3⟩
/-- d[k]: t = v -/
theorem ds_dputA {o i ann : Expr} {simple : Int} (h : DE C W e δ m fun d m1 => DE C W o δ m1 fun x m2 => DE C W i δ m2 fun y m3 => ∃ a ks ds k, x = .ref a ∧ y = kD k ∧ m3 a = some (.dic ks ds) ∧ ks.length < sizeLine ∧ D.nx δ (sput m3 a (.dic (putKs ks k) (putDs ks ds k d))))
    (hs : ∀ env, swapsWith e (some (.Subscript o i pos')) pos.line env = pure false := by intro _; rfl)
    (ha : ∀ env v, assign (.Subscript o i pos') env v = (do
      let ov ← holding [v] (eval o env)
      let iv ← holding [v, ov] (eval i env)
      standAt pos'
      holding [v, ov, iv] (setItem ov iv v)
      release [v, ov, iv] []) := by intro _ _; rfl) : DS C W (.AnnAssign (.Subscript o i pos') ann (some e) simple pos) δ m D := by
  intro X S f tk σ H T le sl hh
  refine WS.of (ps_ann we (pg_sub we we (set_dictK (units1 f)) (ha _)) (hs _)) ((h X S f tk σ H T le sl hh).mono fun v H1 ⟨d, m1, h1, q⟩ => ?_)
  refine (q X S f tk σ H1 _ (le.trans Pl.le) (sl.le Pl.le) h1).mono fun u H2 ⟨x, m2, h2, q2⟩ => ?_
  refine (q2 X S f tk σ H2 _ (le.trans (Pl.le.trans Pl.le)) (sl.le (Pl.le.trans Pl.le)) h2).mono fun w H3 ⟨y, m3, h3, a, ks, ds, k, ex, ey, hm, hz, q3⟩ => ?_
  subst ex ey
  have rx := h3.rep (.inl Pl.it : Pl (Pl (Pl T v d) u (.ref a)) w (kD k) u (.ref a))
  cases rx
  obtain ⟨H4, g, h4⟩ := h3.dput (u := w) (v := v) hm Pl.it (.inl (.inl Pl.it)) hz
  exact ⟨a, H4, rfl, g, lift_nx (le.trans (Pl.le.trans (Pl.le.trans Pl.le))) (sl.le (Pl.le.trans (Pl.le.trans Pl.le))) h4 q3⟩
/-- d.pop(k, x) -/
theorem de_dpop2 (h : DE C W o δ m fun d m1 => ∃ a ks0 ds0, d = .ref a ∧ m1 a = some (.dic ks0 ds0) ∧ DE C W e δ m1 fun y m2 => DE C W f δ m2 fun x m3 => ∃ ks ds k, y = kD k ∧ m3 a = some (.dic ks ds) ∧
      (∀ z, valD ks ds k = some z → Q z (sput m3 a (.dic (dropKs ks k) (dropDs ks ds k)))) ∧ (valD ks ds k = none → Q x m3))
    (hm : ∀ X : Cx, M2 X o "pop" apos e f cpos := by intro _; exact ⟨rfl, rfl, rfl, rfl⟩) : DE C W (.Call (.Attribute o "pop" apos) [e, f] [] cpos) δ m Q := by
  intro X S fx tk σ H T le sl hh
  refine WE.of (pe_dpop2 we we we (hm X)) ((h X S fx tk σ H T le sl hh).mono fun v H1 ⟨d, m1, h1, a, ks0, ds0, ed, hm0, q⟩ => ?_)
  subst ed
  have rr := h1.rep Pl.it
  cases rr
  obtain ⟨kvs0, hr0, _⟩ := h1.dicO hm0
  refine ⟨a, rfl, .inl ⟨kvs0, .inl hr0⟩, (q X S fx tk σ H1 _ (le.trans Pl.le) (sl.le Pl.le) h1).mono fun u H2 ⟨y, m2, h2, q2⟩ => ?_⟩
  refine (q2 X S fx tk σ H2 _ (le.trans (Pl.le.trans Pl.le)) (sl.le (Pl.le.trans Pl.le)) h2).mono fun w H3 ⟨x, m3, h3, ks, ds, k, ey, hm3, qs, qn⟩ => ?_
  subst ey
  obtain ⟨kvs, hu, ek, hl, h4⟩ := h3.dicO hm3
  have e1 := kV_of (h3.rep (.inl Pl.it : Pl (Pl (Pl T (.ref a) (.ref a)) u (kD k)) w x u (kD k)))
  subst e1 ek
  obtain ⟨z1, z2⟩ := val_rep (RepL.of_zip hl fun v d z => h4.rep (.inr z)) (k := k)
  refine ⟨kvs, k, hu, rfl, fun y hy => ?_, fun hn => ?_⟩
  · cases hv : valD (kvs.map (·.1)) ds k with
    | none => rw [z1 hv] at hy; cases hy
    | some z =>
      obtain ⟨y', g1, g2⟩ := z2 hv
      rw [hy] at g1
      cases g1
      have h5 := h4.mut (u' := .dK (dropK kvs k)) (o' := .dic (dropKs (kvs.map fun kv => kv.1) k) (dropDs (kvs.map fun kv => kv.1) ds k)) hm3 hu fun Hi rr kk => by
        obtain ⟨g1, g2⟩ := drop_rep (k := k) rr.2
        exact ⟨g1, g2⟩
      exact ⟨z, _, h5.le fun p q t => by
        rcases t with t | ⟨rfl, rfl⟩
        · exact .inl (.inl (.inl (.inl t)))
        · exact .inr g2, qs z hv⟩
  · cases hv : valD (kvs.map (·.1)) ds k with
    | none => exact ⟨x, _, h3.le (Pl.mono (Pl.le.trans Pl.le)), qn hv⟩
    | some z =>
      obtain ⟨y', g1, g2⟩ := z2 hv
      rw [hn] at g1
      cases g1
/-- o.f op= e -/
theorem ds_fldaug {fl : Str} {op : Operator} {rd : R2D} (ho : OpDi C op rd) (h : DE C W o δ m fun x m1 => ∃ a cA fs v, x = .ref a ∧ m1 a = some (.ins cA fs) ∧ Cls C.K cA ∧ NoAttr C.K cA fl ∧ fs.lookup fl = some v ∧ DE C W e δ m1 fun y m2 => rd v y m2 fun z m3 => ∃ fs', m3 a = some (.ins cA fs') ∧ fs'.length < 1000 ∧ D.nx δ (sput m3 a (.ins cA (putD fl z fs')))) :
    DS C W (.AugAssign (.Attribute o fl pos') op e pos) δ m D := by
  intro X S fx tk σ H T le sl hh
  refine WS.of (ps_fldaug (rd := fun x y H Q => WB X (inplaceOp op) x y H Q) we we (fun pins s σ H x y v u Q I rx ry w => w pins s σ v u I rx ry)) ((h X S fx tk σ H T le sl hh).mono fun v H1 ⟨x, m1, h1, a, cA, fs, z, ex, hm, c, n, l, q⟩ => ?_)
  subst ex
  have r := h1.rep Pl.it
  cases r
  obtain ⟨dx, gs, hu, hn, hl, h2⟩ := h1.insO hm
  obtain ⟨v', e1, e2⟩ := lookup_rep hn (RepL.of_zip hl fun v d z => h2.rep (.inr z)) l
  refine ⟨a, cA, dx, gs, v', rfl, hu, by rw [fx.K]; exact c, by rw [fx.K]; exact n, e1, (q X S fx tk σ H1 _ (le.trans (Pl.le.trans PlL.le)) (sl.le (Pl.le.trans PlL.le)) h2).mono fun u H2 ⟨y, m2, h3, q2⟩ => ?_⟩
  have w := ho X fx S.r H2 m2 _ v' u z y _ h3 (.inl (.inr e2)) Pl.it q2
  refine fun pins s σ' v u I rx ry => thn (w pins s σ' v u I rx ry) fun zz s' ⟨zv, H3, I3, r3, d3, m3, h4, fs', hm3, hl3, q3⟩ => ?_
  obtain ⟨dx', gs', hu', hn', hl', _⟩ := h4.insO hm3
  have hlen : gs'.length = fs'.length := by simpa using hl'
  have h5 := h4.mut (u' := .ins cA dx' (putF fl zv gs')) (o' := .ins cA (putD fl d3 fs')) hm3 hu' fun Hi r kk => ⟨rfl, putD_rep (kk zv d3 Pl.it) r.2.1 r.2.2⟩
  exact ⟨zv, H3, I3, r3, dx', gs', hu', by rw [hlen]; exact hl3, lift_nx (le.trans (Pl.le.trans (PlL.le.trans (Pl.le.trans Pl.le)))) (sl.le (Pl.le.trans (PlL.le.trans (Pl.le.trans Pl.le)))) h5 q3⟩
end
end G

/-! The data layer: dicts become data, walks over dicts, dict comprehensions. -/
namespace G
open PySem PySem.Spec PyProof.Rows L2
section
variable {C : Ct} {W : DW} {δ : Sl} {m : Sto} {e tg iter : Expr} {sts : List Stmt} {pos pos' apos cpos : Pos} {Q : D → Sto → Prop} {D : DEn}
theorem slot_same {σ : L2.St} {i : Nat} {v : V} (hv : σ[i]? = some (some v)) : σ.set i (some v) = σ := by
  refine List.ext_getElem? fun j => ?_
  by_cases hj : i = j
  · subst hj
    rw [List.getElem?_set_self (List.getElem?_eq_some_iff.mp hv).1, hv]
  · rw [List.getElem?_set_ne hj]
/-- a slot's dict is data from now on -/
theorem dss_frzD (i : Nat) {p : Addr} {ks : List Key} {ds : List G.D} (hd : δ[i]? = some (some (.ref p))) (hm : m p = some (.dic ks ds)) (h : DSs C W sts (δ.set i (some (.dic ks ds))) (sdel m p) D) : DSs C W sts δ m D := by
  intro X S f tk σ H T le sl hh pins s I
  obtain ⟨v, hv, tv⟩ := sl.2 i _ hd
  have r := hh.rep tv
  cases r
  obtain ⟨kvs, hu, hf⟩ := hh.frzD hm
  obtain ⟨od, I2⟩ := I.lock hu trivial
  have sl2 := (sl.le (Pl.le (v := .ref p) (d := .dic ks ds))).set (i := i) (Pl.it (T := T) (v := .ref p) (d := .dic ks ds))
  rw [slot_same hv] at sl2
  exact h X S f tk σ _ _ (le.trans Pl.le) sl2 (hf od) pins s I2
/-- what stands in a dict of the store is data from now on -/
theorem dss_frzIn (b : Addr) (i : Nat) {p : Addr} {kb ks : List Key} {db ds : List G.D} (hb : m b = some (.dic kb db)) (hi : db[i]? = some (.ref p)) (hm : m p = some (.dic ks ds)) (hne : b ≠ p) (h : DSs C W sts δ (sput (sdel m p) b (.dic kb (db.set i (.dic ks ds)))) D) : DSs C W sts δ m D := by
  intro X S f tk σ H T le sl hh pins s I
  obtain ⟨kvs, hu, hf⟩ := hh.frzD hm
  obtain ⟨od, I2⟩ := I.lock hu trivial
  have h2 := (hf od).tellD (b := b) (i := i) (by rw [sdel_ne hne]; exact hb) hi Pl.it
  exact h X S f tk σ _ _ (le.trans Pl.le) (sl.le Pl.le) h2 pins s I2
/-- a list within a dict of the store is data from now on -/
theorem dss_frzInL (b : Addr) (i : Nat) {p : Addr} {kb : List Key} {db ds : List G.D} (hb : m b = some (.dic kb db)) (hi : db[i]? = some (.ref p)) (hm : m p = some (.lst ds)) (hne : b ≠ p) (h : DSs C W sts δ (sput (sdel m p) b (.dic kb (db.set i (.lst ds)))) D) : DSs C W sts δ m D := by
  intro X S f tk σ H T le sl hh
  have h1 := hh.freezeL hm
  have h2 := h1.tellD (b := b) (i := i) (by rw [sdel_ne hne]; exact hb) hi Pl.it
  exact h X S f tk σ _ _ (le.trans Pl.le) (sl.le Pl.le) h2
/-- an expression's dict is data -/
theorem de_freezeD (h : DE C W e δ m fun d m1 => ∃ p ks ds, d = .ref p ∧ m1 p = some (.dic ks ds) ∧ Q (.dic ks ds) (sdel m1 p)) : DE C W e δ m Q := by
  intro X S f tk σ H T le sl hh pins s I
  refine thn (h X S f tk σ H T le sl hh pins s I) fun u s1 ⟨v, H1, I1, r, d, m1, h1, p, ks, ds, ed, hm, q⟩ => ?_
  subst ed
  have rr := h1.rep Pl.it
  cases rr
  obtain ⟨kvs, hu, hf⟩ := h1.frzD hm
  obtain ⟨od, I2⟩ := I1.lock hu trivial
  exact ⟨.ref p, _, I2, r, .dic ks ds, _, (hf od).le (Pl.mono Pl.le), q⟩
/-- the keys of a dict that is data -/
theorem di_keysV {R : List G.D → Sto → Prop} (h : DE C W e δ m fun d m1 => ∃ ks ds, d = .dic ks ds ∧ R (ks.map kD) m1) : DI C W tg e δ m R := by
  intro X S f tk σ H T le sl hh
  refine WI.of (pi_keys we) ((h X S f tk σ H T le sl hh).mono fun v H1 ⟨d, m1, h1, ks, ds, ed, q⟩ => ?_)
  subst ed
  obtain ⟨h0, Hi, g1, g2, g3⟩ := h1
  have rr := g3 _ _ Pl.it
  cases rr with
  | @dic a ob kvs _ _ e1 e2 e3 =>
    subst e2
    have h3 : Hd C.K S.r H1 m1 (Pl T (.ref a) (.dit (.pin (.frz ob (.dK kvs))) [])) := ⟨h0, Hi, g1, g2, fun x y t => t.elim (fun z => g3 _ _ (.inl z)) fun ⟨ex, ey⟩ => by subst ex ey; exact .pin e1⟩
    have at_ : ∀ (r : Sto) (H : Hp) (m : Sto) (T' : RT), Le (Pl T (.ref a) (.dit (.pin (.frz ob (.dK kvs))) [])) T' → Hd C.K r H m T' → H a = some (.frz ob (.dK kvs)) := fun r H m T' l hd => by
      have q := hd.rep (l _ _ Pl.it)
      cases q with
      | pin q => exact q
    refine ⟨a, ob, rfl, .inl ⟨kvs, g1 _ _ e1, _, m1, _, Pl.le, h3, ?_, q⟩⟩
    refine ⟨fun i r H m T' hi l hd => ⟨at_ r H m T' l hd, by simpa using hi⟩, fun i r H H' m T' x d hi l hd y => ?_, fun i r H m T' hi l hd => ⟨at_ r H m T' l hd, by simpa using hi⟩⟩
    obtain ⟨e, k, v, hk, ex⟩ := y
    subst e ex
    rw [List.map_map, List.getElem?_map, hk] at hi
    have hi2 : kD k = d := Option.some.inj hi
    subst hi2
    exact hd.pl fun _ _ => kV_rep k
/-! ### walks with a guard -/
structure WalksW (K : PySem.W.Frag) (J : It) (ds : List G.D) (T' : RT) (ok : Sto → Prop) : Prop where
  go : ∀ (i : Nat) (r : Sto) (H : Hp) (m : Sto) (T : RT), i < ds.length → Le T' T → ok m → Hd K r H m T → J.go i H
  yld : ∀ (i : Nat) (r : Sto) (H H' : Hp) (m : Sto) (T : RT) (x : V) (d : G.D), ds[i]? = some d → Le T' T → ok m → Hd K r H m T → J.yld i H x H' → Hd K r H' m (Pl T x d)
  stop : ∀ (i : Nat) (r : Sto) (H : Hp) (m : Sto) (T : RT), ds.length ≤ i → Le T' T → ok m → Hd K r H m T → J.stop i H
/-- the guard asks one place of the store at most -/
inductive Gd where | no | at_ (a : Addr) (o : O)
def Gd.ok : Gd → Sto → Prop
  | .no, _ => True
  | .at_ a o, m => m a = some o
theorem Gd.put {g : Gd} {m : Sto} {p : Addr} {o : O} (h : g.ok m) (hp : m p = none) : g.ok (sput m p o) := by
  cases g with
  | no => trivial
  | at_ a u =>
    have h' : m a = some u := h
    show sput m p o a = some u
    rw [sput_ne (fun e => by rw [e, hp] at h'; cases h')]
    exact h'
def DIw (C : Ct) (W : DW) (tg iter : Expr) (δ : Sl) (m : Sto) (R : List G.D → Gd → Sto → Prop) : Prop :=
  ∀ (X : Cx) (S : Fr), Fits C X → Takes X (liftW C.K W S) → ∀ (σ : L2.St) (H : Hp) (T : RT), Le S.t T → SlotsIn σ δ T → Hd C.K S.r H m T → WI X tg iter σ H fun J H' => ∃ ds g m' T', Le T T' ∧ Hd C.K S.r H' m' T' ∧ WalksW C.K J ds T' g.ok ∧ R ds g m'
theorem diw_di {R : List G.D → Gd → Sto → Prop} (h : DI C W tg iter δ m fun ds m1 => R ds .no m1) : DIw C W tg iter δ m R := by
  intro X S f tk σ H T le sl hh
  refine WI.mono (h X S f tk σ H T le sl hh) fun J H1 ⟨ds, m1, T1, le1, h1, wk, r⟩ => ⟨ds, .no, m1, T1, le1, h1, ⟨fun i r H m T a b _ => wk.go i r H m T a b, fun i r H H' m T x d a b _ => wk.yld i r H H' m T x d a b, fun i r H m T a b _ => wk.stop i r H m T a b⟩, r⟩
theorem diw_dig {R : List G.D → Gd → Sto → Prop} (h : DIg C W tg iter δ m fun ds a o m1 => R ds (.at_ a o) m1) : DIw C W tg iter δ m R := by
  intro X S f tk σ H T le sl hh
  refine WI.mono (h X S f tk σ H T le sl hh) fun J H1 ⟨ds, a, o, m1, T1, le1, h1, wk, r⟩ => ⟨ds, .at_ a o, m1, T1, le1, h1, ⟨fun i r H m T a b c => wk.go i r H m T a b c, fun i r H H' m T x d a b c => wk.yld i r H H' m T x d a b c, fun i r H m T a b c => wk.stop i r H m T a b c⟩, r⟩
/-- the pairs of a locked dict of the store -/
def itemsL : List Key → List G.D → List G.D
  | k :: ks, d :: ds => .tup [kD k, d] :: itemsL ks ds
  | _, _ => []
theorem items_get : ∀ {kvs : List (Key × V)} {ds : List G.D} {i : Nat} {k : Key} {v : V} {d : G.D}, kvs[i]? = some (k, v) → (itemsL (kvs.map (·.1)) ds)[i]? = some d → ∃ z, d = .tup [kD k, z] ∧ (v, z) ∈ (kvs.map (·.2)).zip ds
  | [], _, _, _, _, _, h, _ => by simp at h
  | _ :: _, [], _, _, _, _, _, h => by simp [itemsL] at h
  | (j, u) :: kvs, e :: ds, 0, k, v, d, h, g => by
    simp only [List.getElem?_cons_zero, Option.some.injEq] at h
    cases h
    simp only [List.map_cons, itemsL, List.getElem?_cons_zero, Option.some.injEq] at g
    exact ⟨e, g.symm, by simp⟩
  | (j, u) :: kvs, e :: ds, i + 1, k, v, d, h, g => by
    simp only [List.getElem?_cons_succ] at h
    simp only [List.map_cons, itemsL, List.getElem?_cons_succ] at g
    obtain ⟨z, h1, h2⟩ := items_get h g
    exact ⟨z, h1, by rw [List.map_cons, List.zip_cons_cons]; exact List.mem_cons_of_mem _ h2⟩
theorem items_len : ∀ {ks : List Key} {ds : List G.D}, ks.length = ds.length → (itemsL ks ds).length = ks.length
  | [], [], _ => rfl
  | [], _ :: _, h => by simp at h
  | _ :: _, [], h => by simp at h
  | k :: ks, d :: ds, h => by simp [itemsL, items_len (by simpa using h : ks.length = ds.length)]
theorem di_items {elts : List Expr} {kk : Nat} {tpos : Pos} {R : List G.D → Gd → Sto → Prop} (h : DE C W e δ m fun d m1 => ∃ a od kvs ks ds, d = .ref a ∧ m1 a = some (.lk od kvs ks ds) ∧ R (itemsL ks ds) (.at_ a (.lk od kvs ks ds)) m1)
    (hbase : ∀ env, attributeBase e "items" env (eval e env) = eval e env := by intro _; rfl) (hline : (apos.endLine == cpos.line) = true := by rfl) : DIw C W (.Tuple elts kk tpos) (.Call (.Attribute e "items" apos) [] [] cpos) δ m R := by
  intro X S f tk σ H T le sl hh
  refine WI.of (pi_items we (hbase _) hline) ((h X S f tk σ H T le sl hh).mono fun v H1 ⟨d, m1, h1, a, od, kvs, ks, ds, ed, hm, q⟩ => ?_)
  subst ed
  have r := h1.rep Pl.it
  cases r
  obtain ⟨hu, ek, hl0, _⟩ := h1.lkO hm
  subst ek
  have hlen : (itemsL (kvs.map (·.1)) ds).length = kvs.length := by rw [items_len (by simpa using hl0)]; simp
  refine ⟨a, od, kvs, rfl, hu, _, _, m1, _, Pl.le, h1, ?_, q⟩
  refine ⟨fun i r H m T' hi l hg hd => ⟨(hd.lkO hg).1, by rw [← hlen]; exact hi⟩, fun i r H H' m T' x d hi l hg hd y => ?_, fun i r H m T' hi l hg hd => ⟨(hd.lkO hg).1, by rw [← hlen]; exact hi⟩⟩
  obtain ⟨p, k, v, hk, ex, hp, eH⟩ := y
  subst ex eH
  obtain ⟨z, e1, e2⟩ := items_get hk hi
  subst e1
  obtain ⟨_, _, _, h2⟩ := hd.lkO hg
  refine (h2.newI (d := .tup [kD k, z]) hp fun Hi hi kk => ?_).le (Pl.mono PlL.le)
  exact .tup (.inl (.inl upd_same)) (fun _ _ => upd_same) (.cons (kV_rep k) (.cons (Rep.mono (same_upd hi) (kk _ _ (.inr e2))) .nil))
end
section
variable {C : Ct} {W : DW} {δ : Sl} {m : Sto} {a b c e : Expr} {es : List Expr} {pos pos' : Pos}
/-- {kx: vx for tg in iter if ..} -/
def DcI (C : Ct) (W : DW) (kx vx tg iter : Expr) (ifs : List Expr) (scope : Scope) (own : List (Str × Nat)) (δ : Sl) (m : Sto) (Q : D → Sto → Prop) : Prop :=
  DIw C W tg iter δ m fun ds g m1 => ∃ I : Nat → List Key → List D → Sto → Prop, I 0 [] [] m1 ∧ (∀ (i : Nat) (d : D) (ks : List Key) (es : List D) (m' : Sto), ds[i]? = some d → I i ks es m' →
      DGv (C.blk scope) (own.map (·.2)) tg d (wipeS δ (own.map (·.2))) m' fun δ2 m2 => DTs (C.blk scope) W0 ifs δ2 m2 fun b m3 => br b (DE (C.blk scope) W0 kx δ2 m3 fun y m4 => DE (C.blk scope) W0 vx δ2 m4 fun z m5 => ∃ k, y = kD k ∧ ks.length < sizeLine ∧ I (i + 1) (putKs ks k) (putDs ks es k z) m5) (I (i + 1) ks es m3)) ∧
      (∀ i ks es m', I i ks es m' → g.ok m') ∧ ∀ ks es m', I ds.length ks es m' → ∀ p, m' p = none → Q (.ref p) (sput m' p (.dic ks es))
theorem dc_read {kx vx tg iter : Expr} {ifs : List Expr} {scope : Scope} {own : List (Str × Nat)} {Q : D → Sto → Prop} (h : DcI C W kx vx tg iter ifs scope own δ m Q)
    {X : Cx} {S : Fr} (f : Fits C X) (tk : Takes X (liftW C.K W S)) {σ : L2.St} {H : Hp} {T : RT} (le : Le S.t T) (sl : SlotsIn σ δ T) (hh : Hd C.K S.r H m T) {Qv : VK} (fin : ∀ p H' ks es m' T', Le T T' → m' p = none → Hd C.K S.r H' (sput m' p (.dic ks es)) T' → T' (.ref p) (.ref p) → Q (.ref p) (sput m' p (.dic ks es)) → Qv (.ref p) H') :
    tDc (WI X tg iter) (rdG X scope tg) (rdT X scope ifs) (rdE X scope kx) (rdE X scope vx) (own.map (·.2)) σ H Qv := by
  refine WI.mono (h X S f tk σ H T le sl hh) fun J H1 ⟨ds, g, m1, T1, le1, h1, wk, I, i0, istep, ig, iend⟩ Dp hD => ?_
  have hm1 := h1.free hD
  have h0 : Hd C.K S.r (upd H1 Dp (.dK [])) (sput m1 Dp (.dic [] [])) (Pl T1 (.ref Dp) (.ref Dp)) := h1.newM (o := .dic [] []) hD fun _ _ => ⟨rfl, RepL.nil⟩
  show ∃ W : Nat → Nat → Hp → Prop, _
  refine Exists.intro (fun (i n : Nat) (H' : Hp) => n = ds.length - i ∧ i ≤ ds.length ∧ ∃ (ks : List Key) (es : List D) (m' : Sto) (T' : RT), Le (Pl T1 (.ref Dp) (.ref Dp)) T' ∧ m' Dp = none ∧ Hd C.K S.r H' (sput m' Dp (.dic ks es)) T' ∧ I i ks es m') (And.intro (Exists.intro ds.length ?_) ?_)
  · exact ⟨rfl, Nat.zero_le _, [], [], m1, _, Le.refl _, hm1, h0, i0⟩
  rintro i n H' ⟨rfl, hi, ks, es, m', T', le', hm', hh', ih⟩
  have drop : Hd C.K S.r H' (sput m' Dp (.dic ks es)) T' → Hd C.K (sun (sone Dp (.dic ks es)) S.r) H' m' T' := fun z => by
    rw [← sun_one hm'] at z
    exact z.push (sdj_one hm')
  have hga := ig i ks es m' ih
  have hgp : g.ok (sput m' Dp (.dic ks es)) := Gd.put hga hm'
  have le1' : Le T1 T' := Pl.le.trans le'
  by_cases hlt : i < ds.length
  · refine .inr ⟨wk.go i S.r H' _ T' hlt le1' hgp hh', fun H2 => i + 1 ≤ ds.length ∧ ∃ ks es m' T', Le (Pl T1 (.ref Dp) (.ref Dp)) T' ∧ m' Dp = none ∧ Hd C.K S.r H2 (sput m' Dp (.dic ks es)) T' ∧ I (i + 1) ks es m', fun H2 ⟨u, v⟩ => ⟨ds.length - (i + 1), by omega, rfl, u, v⟩, fun x H2 y => ?_⟩
    have hd := List.getElem?_eq_getElem hlt
    have h2 := drop hh'
    have h2 : Hd C.K (sun (sone Dp (.dic ks es)) S.r) H2 m' (Pl T' x _) := wk.yld i _ H' H2 m' T' x _ hd le1' hga h2 y
    have dj1 : sdj (sone Dp (.dic ks es)) S.r := fun b u eb => by
      unfold sone at eb
      split at eb
      · rename_i e
        subst e
        exact hh'.1 b _ sput_same
      · cases eb
    have slw := (sl.le (le1.trans le1')).wipe (own.map (·.2))
    have st := istep i _ ks es m' hd ih
    have leS : Le S.t (Pl T' x ds[i]) := le.trans (le1.trans (le1'.trans Pl.le))
    intro s H0 cc cl fp
    have fb : Fits (C.blk scope) (X.blk s H0 scope (compEnvC scope cl cc X.env) fp) := f.blk
    refine WG.mono (st (X.blk s H0 scope (compEnvC scope cl cc X.env) fp) ⟨S.t, sun (sone Dp (.dic ks es)) S.r⟩ fb x (wipe σ (own.map (·.2))) H2 _ leS (slw.le Pl.le) Pl.it h2) ?_
    rintro σ3 H3 ⟨w3, δ3, m3, T3, le3, sl3, h3, q3⟩
    refine ⟨w3.trans wipe_idem, ?_⟩
    intro s' H0' cc' cl' fp'
    have fb' : Fits (C.blk scope) (X.blk s' H0' scope (compEnvC scope cl' cc' X.env) fp') := f.blk
    refine WTs.mono (q3 (X.blk s' H0' scope (compEnvC scope cl' cc' X.env) fp') ⟨S.t, sun (sone Dp (.dic ks es)) S.r⟩ fb' takes_W0 σ3 H3 T3 (leS.trans le3) sl3 h3) fun k H4 ⟨m4, h4, q4⟩ => ?_
    cases k with
    | true =>
      rw [if_pos rfl]
      intro s'' H0'' cc'' cl'' fp''
      have fb'' : Fits (C.blk scope) (X.blk s'' H0'' scope (compEnvC scope cl'' cc'' X.env) fp'') := f.blk
      refine (q4.1 rfl (X.blk s'' H0'' scope (compEnvC scope cl'' cc'' X.env) fp'') ⟨S.t, sun (sone Dp (.dic ks es)) S.r⟩ fb'' takes_W0 σ3 H4 T3 (leS.trans le3) sl3 h4).mono fun kv H5 ⟨y, m5, h5, q5⟩ => ?_
      intro s3 H03 cc3 cl3 fp3
      have fb3 : Fits (C.blk scope) (X.blk s3 H03 scope (compEnvC scope cl3 cc3 X.env) fp3) := f.blk
      refine (q5 (X.blk s3 H03 scope (compEnvC scope cl3 cc3 X.env) fp3) ⟨S.t, sun (sone Dp (.dic ks es)) S.r⟩ fb3 takes_W0 σ3 H5 _ (leS.trans (le3.trans Pl.le)) (sl3.le Pl.le) h5).mono fun zv H6 ⟨z, m6, h6, kk, ey, hz, q6⟩ => ?_
      subst ey
      obtain ⟨dj6, h7⟩ := Hd.pop h6 dj1
      have hm6 : m6 Dp = none := dj6.sym Dp _ (if_pos rfl)
      rw [sun_one hm6] at h7
      have ek := kV_of (h7.rep (.inl Pl.it : Pl (Pl T3 kv (kD kk)) zv z kv (kD kk)))
      obtain ⟨kvs, hu, e1, hl, _⟩ := h7.dicO sput_same
      have hlen : kvs.length = ks.length := by rw [← e1]; simp
      refine ⟨kvs, kk, ek, hu, by rw [hlen]; exact hz, hlt, putKs ks kk, putDs ks es kk z, m6, Pl (Pl T3 kv (kD kk)) zv z, le'.trans (Pl.le.trans (le3.trans (Pl.le.trans Pl.le))), hm6, ?_, q6⟩
      have h8 := h7.mut (u' := .dK (putK kvs kk zv)) (o' := .dic (putKs ks kk) (putDs ks es kk z)) sput_same hu fun Hi rr k2 => by
        obtain ⟨g1, g2⟩ := put_rep (k := kk) (k2 zv z Pl.it) rr.2
        rw [e1] at g1 g2
        exact ⟨g1, g2⟩
      rw [sput_sput] at h8
      exact h8
    | false =>
      rw [if_neg Bool.false_ne_true]
      obtain ⟨dj4, h6⟩ := Hd.pop h4 dj1
      have hm4 : m4 Dp = none := dj4.sym Dp _ (if_pos rfl)
      rw [sun_one hm4] at h6
      exact ⟨hlt, ks, es, m4, T3, le'.trans (Pl.le.trans le3), hm4, h6, q4.2 rfl⟩
  · have ei : i = ds.length := by omega
    subst ei
    exact .inl ⟨wk.stop _ S.r H' _ T' (Nat.le_refl _) le1' hgp hh', fin _ _ _ _ _ _ (le1.trans le1') hm' hh' (le' _ _ Pl.it) (iend ks es m' ih Dp hm')⟩
theorem de_dc {kx vx tg iter : Expr} {ifs : List Expr} {scope : Scope} (own : List (Str × Nat)) {Q : D → Sto → Prop} (ok : blkC C.N C.sc scope own = true)
    (h : DcI C W kx vx tg iter ifs scope own δ m Q) (hs : ∀ env x, foldedSetIterable iter env x = pure x := by intro _ _; rfl) (hcm : C.cm = true := by rfl) : DE C W (.DictComp kx vx [⟨tg, iter, ifs, 0⟩] scope pos) δ m Q := by
  intro X S f tk σ H T le sl hh
  have okB : BlkOk X.N X.env.scope scope own := by rw [f.N, f.sc]; exact blkOk_by ok
  exact WE.of (pe_dc (tk := rdE X scope kx) (tv := rdE X scope vx) (tt := rdT X scope ifs) (g := rdG X scope tg) (f.calm hcm) f.nd wi okB (fun s H c cl fp => ⟨fun pins t σ H v u Q I r q => q s _ c cl fp pins t u I r⟩) (fun s H c cl fp => ⟨fun pins t σ H Q I q => q s _ c cl fp pins t I⟩) (fun s H c cl fp => ⟨fun pins t σ H Q I q => q s _ c cl fp pins t I⟩) (fun s H c cl fp => ⟨fun pins t σ H Q I q => q s _ c cl fp pins t I⟩) (hs _))
    (dc_read h f tk le sl hh fun p H' ks es m' T' l hm hd tp q => ⟨.ref p, _, hd.le fun x y t => by
      rcases t with t | ⟨rfl, rfl⟩
      · exact l _ _ t
      · exact tp, q⟩)
end
end G

/-! The data layer: except (A, B, ..) as e. -/
namespace G
open PySem PySem.Spec PyProof.Rows L2
theorem fly_push {B h : Heap} {l : List Env} {a : Addr} {Z : Obj → Prop} (f : HandSPX.FlyingZ B l a Z h) (o : Obj) : HandSPX.FlyingZ B l a Z (h.push o) := by
  obtain ⟨k1, k2, k3, oe, vs, T, oT, ts, g1, g2, g3, g4, g5, g6, g7, g8, g9⟩ := f
  refine ⟨fun b u e => Heap.get?_push_of_some _ (k1 b u e), k2, Heap.FunFrames.of_keeps (fun b u e _ => ⟨u, Heap.get?_push_of_some _ e, rfl⟩) k3, oe, vs, T, oT, ts, Heap.get?_push_of_some _ g1, g2, g3, g4, g5, g6, Heap.get?_push_of_some _ g7, g8, g9⟩
theorem up_push {h h' : Heap} (u : h.UpToSlots h') (o : Obj) : h.UpToSlots (h'.push o) := fun b x e d => by
  obtain ⟨sl, q⟩ := u b x e d
  exact ⟨sl, Heap.get?_push_of_some _ q⟩
def tupObj (cs : List Value) : Obj := { cls := .type "tuple", data := .seq cs.toArray }
/-- a clause's written tuple of classes -/
def NamesT (X : Cx) (ty : Expr) (cs : List Value) : Prop := ∀ (a : Addr) (pn pins : List (Addr × Obj)) (s : Shared) (σ : L2.St) (H : Hp) (Q E : Value → Shared → Prop), Inv (X.suite a pn) pins σ H s → Q (.ref s.heap.objs.size) { s with heap := s.heap.push (tupObj cs) } →
  wpAny (model X.prog X.w) (X.A.mark (some (.ref a))) (eval ty X.env) Q E s
def MatchT (M : Model) (cs : List Value) : Prop := ∀ (K : PySem.W.Frag) (h : Heap) (tp e : Addr) (cls : Value) (b : Bool), K.In h → PySem.W.Looks M h (typeOf (.ref e)) cls → h.get? tp = some (tupObj cs) → PySem.W.exmAny K cls cs = some b → PySem.W.Looks M h (excMatches (.ref e) (.ref tp)) b
theorem match2 {M : Model} {c1 c2 : Value} : MatchT M [c1, c2] := fun K h tp e cls b x y z w => PySem.W.exm_tup2 x y z w
theorem match3 {M : Model} {c1 c2 c3 : Value} : MatchT M [c1, c2, c3] := fun K h tp e cls b x y z w => PySem.W.exm_tup3 x y z w
theorem names2 {X : Cx} {x1 x2 : Str} {p1 p2 pos : Pos} {k : Nat} {c1 c2 : Value} (h1 : Gl X x1) (m1 : X.mg x1 = some c1) (h2 : Gl X x2) (m2 : X.mg x2 = some c2) (d1 : (x1 == ("__debug__" : Str)) = false := by decide) (d2 : (x2 == ("__debug__" : Str)) = false := by decide) :
    NamesT X (.Tuple [.Name x1 p1, .Name x2 p2] k pos) [c1, c2] := fun a pn pins s σ H Q E I q => by
  refine Tuple_ (spliced_more (ld_glob (X := X.suite a pn) I h1 m1 ?_ d1))
  refine spliced_more (ld_glob (X := X.suite a pn) I h2 m2 ?_ d2)
  exact spliced_none (wpAny_newObj_type q)
theorem names3 {X : Cx} {x1 x2 x3 : Str} {p1 p2 p3 pos : Pos} {k : Nat} {c1 c2 c3 : Value} (h1 : Gl X x1) (m1 : X.mg x1 = some c1) (h2 : Gl X x2) (m2 : X.mg x2 = some c2) (h3 : Gl X x3) (m3 : X.mg x3 = some c3)
    (d1 : (x1 == ("__debug__" : Str)) = false := by decide) (d2 : (x2 == ("__debug__" : Str)) = false := by decide) (d3 : (x3 == ("__debug__" : Str)) = false := by decide) :
    NamesT X (.Tuple [.Name x1 p1, .Name x2 p2, .Name x3 p3] k pos) [c1, c2, c3] := fun a pn pins s σ H Q E I q => by
  refine Tuple_ (spliced_more (ld_glob (X := X.suite a pn) I h1 m1 ?_ d1))
  refine spliced_more (ld_glob (X := X.suite a pn) I h2 m2 ?_ d2)
  refine spliced_more (ld_glob (X := X.suite a pn) I h3 m3 ?_ d3)
  exact spliced_none (wpAny_newObj_type q)
/-- what such a clause wishes of an error of the body -/
def wAsT (K : PySem.W.Frag) (cs : List Value) (i : Nat) (ts : Addr → Value → Option Addr → TS) (Wo : WX) (D : Ends) : WX := fun cls d σ H =>
  ∃ b, PySem.W.exmAny K cls cs = some b ∧ (b = true → ∀ a, H a = none → ts a cls d { nx := fun σ' H' => D.nx (σ'.set i none) H', rt := D.rt, bk := fun σ' H' => D.bk (σ'.set i none) H', ct := fun σ' H' => D.ct (σ'.set i none) H' } (σ.set i (some (.ref a))) H) ∧ (b = false → Wo cls d σ H)
section
variable {X : Cx} {n : Str} {ty : Expr} {cs : List Value} {i : Nat} {body suite : List Stmt} {b₀ : Stmt} {pos pos' : Pos} {tb : WX → TS} {ts : Addr → Value → Option Addr → TS} {Wo : WX}
theorem ps_try_asT (st : X.stack = X.env :: X.outer) (fr : X.env.frame = some X.env.locals) (ndN : X.N.Nodup) (at_i : X.N[i]? = some n) (loc_n : X.env.kindOf n = some .local) (nm : NamesT X ty cs) (mt : MatchT (model X.prog X.w) cs) (tk : Takes X Wo)
    (bd : ∀ (W : WX) (pn : List (Addr × Obj)) (xe : Value → Shared → Prop), (∀ q ∈ X.pn, q ∈ pn) → Takes (X.tr pn xe) W → PassesOwn (model X.prog X.w) X.A X.env xe → PSs (X.tr pn xe) body (tb W))
    (su : ∀ (a : Addr) (oe : Obj) (cls : Value) (d : Option Addr) (pn : List (Addr × Obj)), Zc cls d oe → (∃ vs, oe.data = .fields vs) → PSs (X.suite a ((a, oe) :: pn)) (b₀ :: suite) (ts a cls d)) :
    PS X (.Try body [.ExceptHandler (some ty) (some n) (b₀ :: suite) pos'] [] [] pos) (fun D σ H => tb (wAsT X.K cs i ts Wo D) D σ H) := by
  refine ⟨fun pins s σ H D inv wish => ?_⟩
  have okX := inv.ok
  have frames : X.A.frames = some (X.env :: X.outer) := by rw [okX.frames, st]
  have locN : Loc X.env.scope n := .inl loc_n
  refine wpAny_Try_except ?_
  have run := (bd (wAsT X.K cs i ts Wo D) (X.pn ++ pins) (fun e s₁ => wpAny (model X.prog X.w) X.A (noteFrame e X.env) (fun _ s₂ => wpAny (model X.prog X.w) X.A (setFlight e none) (fun _ s₃ => wpAny (model X.prog X.w) X.A
    (handleBy e X.env [.ExceptHandler (some ty) (some n) (b₀ :: suite) pos']) (SP X pins D) X.xe s₃) X.xe s₂) X.xe s₁) (fun q hq => List.mem_append_left _ hq) ?take PassesOwn.looking).run [] s σ H D (inv.toTry _) wish
  · refine wpAny_mono run (fun f s1 q => ?_) fun _ _ q => q
    cases f with
    | next => obtain ⟨σ1, H1, J1, q1⟩ := q; exact wpAny_execs_nil ⟨σ1, H1, J1.ofTry okX, q1⟩
    | brk => obtain ⟨σ1, H1, J1, q1⟩ := q; exact ⟨σ1, H1, J1.ofTry okX, q1⟩
    | cont => obtain ⟨σ1, H1, J1, q1⟩ := q; exact ⟨σ1, H1, J1.ofTry okX, q1⟩
    | ret u => obtain ⟨v1, σ1, H1, J1, r1, q1⟩ := q; exact ⟨v1, σ1, H1, J1.ofTry okX, r1, q1⟩
  rintro u s1 ⟨a, B, sI, pins1, σ1, H1, cls, d, rfl, J0, nb, up1, sky0, na, os, ag, b, em, yes, no⟩
  have J : Inv X pins σ1 H1 sI := J0.ofTry okX
  have sky : Sky B (X.env :: X.outer) a (Zc cls d) X.env.locals s1.heap := by rw [← st]; exact sky0
  refine Sky.land Zc.steady frames fr sky fun h2 fl2 up2 => ?_
  have far : ∀ {h : Heap} {o : Obj} {vs : Array Value}, h.FunFrames B (X.env :: X.outer) → h.get? a = some o → o.data = .fields vs → a ∉ frs (X.env :: X.outer) := fun {h o vs} ff e dd hm => by
    obtain ⟨_, o2, e2, k⟩ := ff.mem hm
    rw [e] at e2
    cases e2
    exact k _ dd
  have J2 : Inv X pins σ1 H1 { s1 with heap := h2 } := J.landed nb fl2.1 (up1.trans up2) os ag
  obtain ⟨oe2, vs2, at2, z2, dat2⟩ := fl2.there
  have fa := far fl2.2.2.1 at2 dat2
  have nLoc : a ≠ X.env.locals := fun z => fa (List.mem_filterMap.mpr ⟨X.env, List.mem_cons_self, by rw [fr, z]⟩)
  have nFs : a ∉ X.fs := fun hm => by
    obtain ⟨en, m1, m2⟩ := List.mem_filterMap.mp hm
    exact fa (List.mem_filterMap.mpr ⟨en, List.mem_cons_of_mem _ m1, m2⟩)
  refine wpAny_handleBy_cons (codeAny_handlers_test ?_) (by intro q; cases q)
  -- the tuple of the classes is laid
  refine nm a _ _ { s1 with heap := h2 } σ1 H1 _ _ (J2.suite at2 dat2 na nLoc nFs) ?_
  have fl3 := fly_push fl2 (tupObj cs)
  have up3 := up_push up2 (tupObj cs)
  have J3 : Inv X pins σ1 H1 { s1 with heap := h2.push (tupObj cs) } := J.landed nb fl3.1 (up1.trans up3) os ag
  have at3 : (h2.push (tupObj cs)).get? a = some oe2 := Heap.get?_push_of_some _ at2
  have LT : PySem.W.Looks (model X.prog X.w) (h2.push (tupObj cs)) (typeOf (.ref a)) cls := fun A Q E s k q => wpAny_typeOf_ref (k _ _ at3) (by rw [z2.1]; exact q)
  refine (mt X.K _ _ _ _ _ J3.kIn LT (Heap.get?_push_size _ rfl) em).here ?_
  cases b with
  | false =>
    show wpAny _ X.A (handleBy (.ref a) X.env []) _ _ _
    refine wpAny_handleBy_nil ?_
    obtain ⟨_, _, _, oe, vs, T, oT, ts', g1, g2, g3, g4, _⟩ := id fl3
    unfold PySem.passOn
    refine wpAny_bind (wpAny_field g1 g3 g4 ?_)
    rw [if_neg (show ¬ ((Value.ref T == Value.none) = true) from by simp)]
    have last : wpAny (model X.prog X.w) X.A (setFlight (.ref a) X.env.frame) (fun _ s4 => wpAny (model X.prog X.w) X.A (throw (.ref a) : Sem Flow) (SP X pins D) X.xe s4) X.xe { s1 with heap := h2.push (tupObj cs) } := by
      rw [fr]
      refine HandSPX.setFlight_upZ fl3 fun h4 hh4 up4 => wpAny_throw (tk _ _ ?_)
      exact ⟨a, B, sI, pins, σ1, H1, cls, d, rfl, J, nb, (up1.trans up3).trans up4, .inr (.inr (by rw [st]; exact hh4)), na, os, ag, no rfl⟩
    first
      | exact wpAny_bind (wpAny_pure (wpAny_bind last))
      | exact wpAny_bind last
  | true =>
    refine codeAny_handlers_suite_as (HandSPX.lands_againZ fl3 fun h4 fl4 up4 => ?_)
    have J4 : Inv X pins σ1 H1 { s1 with heap := h4 } := J.landed nb fl4.1 ((up1.trans up3).trans up4) os ag
    obtain ⟨oe4, vs4, at4, z4, dat4⟩ := fl4.there
    refine store_ok (X := X.suite a ((a, oe4) :: (X.pn ++ pins))) (v := .ref a) (J4.suite at4 dat4 na nLoc nFs) ndN at_i locN rfl (fun s5 S5 => ?_) (.inr loc_n)
    refine wpAny_mono ((su a oe4 cls d (X.pn ++ pins) z4 ⟨_, dat4⟩).run [] s5 _ H1 _ S5 (yes rfl a na)) (fun f s6 q => ?_) (fun _ _ z => False.elim z)
    have bye : ∀ {σ6 : L2.St} {H6 : Hp} {Q : Shared → Prop}, Inv (X.suite a ((a, oe4) :: (X.pn ++ pins))) [] σ6 H6 s6 → (∀ s7, Inv X pins (σ6.set i none) H6 s7 → Q s7) →
        wpAny (model X.prog X.w) X.A (do bindName X.env n .none; unbindBehindTheSuite X.env n pos') (fun _ s7 => Q s7) X.xe s6 := fun {σ6 H6 Q} S6 k => gone_ok (S6.unsuite okX) ndN at_i loc_n k
    cases f with
    | next => obtain ⟨σ6, H6, S6, q6⟩ := q; exact bye S6 fun s7 J7 => ⟨_, _, J7, q6⟩
    | brk => obtain ⟨σ6, H6, S6, q6⟩ := q; exact bye S6 fun s7 J7 => ⟨_, _, J7, q6⟩
    | cont => obtain ⟨σ6, H6, S6, q6⟩ := q; exact bye S6 fun s7 J7 => ⟨_, _, J7, q6⟩
    | ret u => obtain ⟨v6, σ6, H6, S6, r6, q6⟩ := q; exact bye S6 fun s7 J7 => ⟨_, _, _, J7, r6, q6⟩
end
section
variable {C : Ct} {W : DW} {δ : Sl} {m : Sto} {a b c e : Expr} {es : List Expr} {pos pos' np : Pos} {Q : D → Sto → Prop} {D : DEn}
theorem ds_tryAsT (i : Nat) {n : Str} {ty : Expr} {body suite : List Stmt} {b₀ : Stmt} {cs : List Value} (nm : ∀ X, Fits C X → NamesT X ty cs) (mt : ∀ M, MatchT M cs) (hN : C.N[i]? = some n) (hl : C.sc.names.lookup n = some .local)
    (h : DSs C (fun cls fs δ' m' => ∃ cA b, cls = .ref cA ∧ fs = [] ∧ PySem.W.exmAny C.K cls cs = some b ∧ (b = true → ExcC C.K cA ∧ ∀ a, DSs (C.hotE a cA) W0 (b₀ :: suite) (δ'.set i (some (.ref a))) m' (D.un i)) ∧ (b = false → W cls fs δ' m')) body δ m D)
    (htr : C.tr = true := by rfl) (hex : C.ex = none := by rfl) : DS C W (.Try body [.ExceptHandler (some ty) (some n) (b₀ :: suite) pos'] [] [] pos) δ m D := by
  intro X S f tk σ H T le sl hh
  refine WS.of (ps_try_asT (cs := cs) (i := i)
    (tb := fun W' D' σ H => ∀ (pn : List (Addr × Obj)) (xe : Value → Shared → Prop), Takes (X.tr pn xe) W' → PassesOwn (model X.prog X.w) X.A X.env xe → WSs (X.tr pn xe) body D' σ H)
    (ts := fun a cls d D' σ H => ∀ (oe : Obj) (pn : List (Addr × Obj)), Zc cls d oe → (∃ vs, oe.data = .fields vs) → WSs (X.suite a ((a, oe) :: pn)) (b₀ :: suite) D' σ H)
    (f.tr htr).1 (f.tr htr).2 f.nd (by rw [f.N]; exact hN) (by show X.env.scope.names.lookup n = _; rw [f.sc]; exact hl) (nm X f) (mt _) tk
    (fun W' pn xe _ t p => ⟨fun pins s σ H D I r => r pn xe t p pins s I⟩) (fun a oe cls d pn hz hv => ⟨fun pins s σ H D I r => r oe pn hz hv pins s I⟩)) ?_
  intro pn xe tk' po
  have fit : Fits C (X.tr pn xe) := ⟨f.prog, f.w, f.K, f.mg, f.base, f.N, f.sc, f.fn, f.nd, f.un, f.room, f.calm, po, f.tr, (fun _ _ _ e => by rw [hex] at e; cases e), f.rh⟩
  refine h (X.tr pn xe) S fit (tk'.imp ?_) σ H T le sl hh
  rintro cls d σ' H' ⟨δ', m', T', fs, le', sl', hh', xd, cA, k', rfl, rfl, hk', h1, h2⟩
  refine ⟨k', by rw [f.K]; exact hk', fun e a ha oe pn2 hz hv => ?_, fun e => ⟨δ', m', T', [], le', sl', hh', xd, h2 e⟩⟩
  obtain ⟨hc, h3⟩ := h1 e
  have hd : d = none := by
    rcases xd with ⟨e, _⟩ | ⟨_, _, q, _⟩
    · exact e
    · exact absurd rfl q
  subst hd
  have fit2 : Fits (C.hotE a cA) (X.suite a ((a, oe) :: pn2)) := ⟨f.prog, f.w, f.K, f.mg, f.base, f.N, f.sc, f.fn, f.nd, f.un, (fun z => nomatch z), (fun z => nomatch z), PassesOwn.never, f.tr, (fun a' D' d' e => by
    cases e
    exact ⟨by show ExcC X.K cA; rw [f.K]; exact hc, oe, List.mem_cons_self, hz, hv⟩), ⟨f.rh.dp, f.rh.un⟩⟩
  have hh2 : Hd C.K S.r H' m' (Pl T' (.ref a) (.ref a)) := hh'.pl fun _ _ => .ref a
  refine WSs.mono (h3 a (X.suite a ((a, oe) :: pn2)) S fit2 takes_W0 (σ'.set i (some (.ref a))) H' _ (le'.trans Pl.le) ((sl'.le Pl.le).set Pl.it) hh2) ?_ (fun _ _ q => q) ?_ ?_
  all_goals
    rintro σ2 H2 ⟨δ2, m2, T2, l2, s2, hd2, q2⟩
    exact ⟨δ2.set i none, m2, T2, l2, s2.unset, hd2, q2⟩
theorem nmT2 {x1 x2 : Str} {p1 p2 pos : Pos} {k : Nat} {c1 c2 : Addr} (h1 : GlC C x1) (m1 : C.mg x1 = some (.ref c1)) (h2 : GlC C x2) (m2 : C.mg x2 = some (.ref c2)) (d1 : (x1 == ("__debug__" : Str)) = false := by decide) (d2 : (x2 == ("__debug__" : Str)) = false := by decide) :
    ∀ X, Fits C X → NamesT X (.Tuple [.Name x1 p1, .Name x2 p2] k pos) [.ref c1, .ref c2] := fun X f => names2 (f.gl h1) (by rw [f.mg]; exact m1) (f.gl h2) (by rw [f.mg]; exact m2) d1 d2
theorem nmT3 {x1 x2 x3 : Str} {p1 p2 p3 pos : Pos} {k : Nat} {c1 c2 c3 : Addr} (h1 : GlC C x1) (m1 : C.mg x1 = some (.ref c1)) (h2 : GlC C x2) (m2 : C.mg x2 = some (.ref c2)) (h3 : GlC C x3) (m3 : C.mg x3 = some (.ref c3))
    (d1 : (x1 == ("__debug__" : Str)) = false := by decide) (d2 : (x2 == ("__debug__" : Str)) = false := by decide) (d3 : (x3 == ("__debug__" : Str)) = false := by decide) :
    ∀ X, Fits C X → NamesT X (.Tuple [.Name x1 p1, .Name x2 p2, .Name x3 p3] k pos) [.ref c1, .ref c2, .ref c3] := fun X f => names3 (f.gl h1) (by rw [f.mg]; exact m1) (f.gl h2) (by rw [f.mg]; exact m2) (f.gl h3) (by rw [f.mg]; exact m3) d1 d2 d3
theorem exa2 {K : PySem.W.Frag} {cls c1 c2 : Value} {b1 b2 b : Bool} (h1 : PySem.W.exmOne K cls c1 = some b1) (h2 : PySem.W.exmOne K cls c2 = some b2) (e : (b1 || (b2 || false)) = b) : PySem.W.exmAny K cls [c1, c2] = some b := by
  simp only [PySem.W.exmAny, h1, h2, e]
theorem exa3 {K : PySem.W.Frag} {cls c1 c2 c3 : Value} {b1 b2 b3 b : Bool} (h1 : PySem.W.exmOne K cls c1 = some b1) (h2 : PySem.W.exmOne K cls c2 = some b2) (h3 : PySem.W.exmOne K cls c3 = some b3) (e : (b1 || (b2 || (b3 || false))) = b) : PySem.W.exmAny K cls [c1, c2, c3] = some b := by
  simp only [PySem.W.exmAny, h1, h2, h3, e]
/-- list.index of truth values -/
def indexB : RMD := fun d ds m Q => ∃ bs b j, d = .lst (List.map G.D.bl bs) ∧ ds = [.bl b] ∧ bs[j]? = some b ∧ (∀ i, i < j → bs[i]? ≠ some b) ∧ Q (.int (j : Nat)) m
theorem bls_of {K : PySem.W.Frag} {H : Hp} : ∀ {xs : List V} {bs : List Bool}, RepL K H xs (bs.map G.D.bl) → xs = bs.map V.bl
  | [], [], _ => rfl
  | [], _ :: _, r => by cases r
  | _ :: _, [], r => by cases r
  | x :: xs, b :: bs, r => by
    cases r with
    | cons r1 r2 => cases r1; rw [bls_of r2]; rfl
theorem md_indexB : MtD C "list.index" indexB := by
  rintro X f fr H m T v d vs ds Q hl hh ⟨bs, b, j, rfl, rfl, hj, hn, q⟩
  obtain ⟨u, rfl⟩ := one_of hl
  obtain ⟨a, xs, rfl, hq, r⟩ := hh.repsL pl0
  have r2 := hh.rep (PlL.at (i := 0) (v := u) (d := .bl b) rfl rfl)
  cases r2
  have e := bls_of r
  subst e
  refine wm_of mt_index ⟨a, bs.map V.bl, .bl b, j, .bl b, rfl, rfl, by rw [f.K]; exact SqL.of hq, rfl, ?_, by rw [List.getElem?_map, hj]; rfl, ?_, fun i z' hi hz => ?_, dK.le (dk_int hh q) (Pl.le.trans PlL.le)⟩
  · rw [List.all_map]; exact List.all_eq_true.mpr fun _ _ => rfl
  · show eqV (.bl b) (.bl b) = true
    simp [eqV]
  · rw [List.getElem?_map] at hz
    cases e2 : bs[i]? with
    | none => rw [e2] at hz; cases hz
    | some b' =>
      rw [e2] at hz
      cases hz
      have : b' ≠ b := fun z => hn i hi (by rw [e2, z])
      simp [eqV, this]
end
end G

/-! The data layer: d.pop(k, x) whose answer is not looked at; freezing at an expression's end. -/
namespace G
open PySem PySem.Spec PyProof.Rows L2
theorem dropKs_none : ∀ {ks : List Key} {ds : List G.D} {k : Key}, ks.length = ds.length → valD ks ds k = none → dropKs ks k = ks ∧ dropDs ks ds k = ds
  | [], [], _, _, _ => ⟨rfl, rfl⟩
  | [], _ :: _, _, h, _ => by simp at h
  | _ :: _, [], _, h, _ => by simp at h
  | j :: ks, d :: ds, k, h, e => by
    have e' : (if j = k then some d else valD ks ds k) = none := e
    by_cases hj : j = k
    · rw [if_pos hj] at e'; cases e'
    · rw [if_neg hj] at e'
      obtain ⟨h1, h2⟩ := dropKs_none (by simpa using h) e'
      refine ⟨?_, ?_⟩
      · unfold dropKs at h1 ⊢
        rw [List.filter_cons_of_pos (by simpa using hj), h1]
      · show (if j = k then dropDs ks ds k else d :: dropDs ks ds k) = _
        rw [if_neg hj, h2]
theorem sput_idG {m : Sto} {p : Addr} {o : O} (h : m p = some o) : sput m p o = m := by
  funext a
  unfold sput
  split
  · rename_i e; rw [e, h]
  · rfl
section
variable {C : Ct} {W : DW} {δ : Sl} {m : Sto} {b c e o i f : Expr} {es : List Expr} {pos pos' apos cpos : Pos} {Q : D → Sto → Prop} {D : DEn}
/-- d.pop(k, x), whatever it answers -/
theorem de_dpopN (h : DE C W o δ m fun d m1 => ∃ a ks0 ds0, d = .ref a ∧ m1 a = some (.dic ks0 ds0) ∧ DE C W e δ m1 fun y m2 => DE C W f δ m2 fun x m3 => ∃ ks ds k, y = kD k ∧ m3 a = some (.dic ks ds) ∧ ks.length = ds.length ∧ ∀ z, Q z (sput m3 a (.dic (dropKs ks k) (dropDs ks ds k))))
    (hm : ∀ X : Cx, M2 X o "pop" apos e f cpos := by intro _; exact ⟨rfl, rfl, rfl, rfl⟩) : DE C W (.Call (.Attribute o "pop" apos) [e, f] [] cpos) δ m Q := by
  refine de_dpop2 (h.mono fun d m1 ⟨a, ks0, ds0, e1, e2, q⟩ => ⟨a, ks0, ds0, e1, e2, q.mono fun y m2 q2 => q2.mono fun x m3 ⟨ks, ds, k, e3, e4, e5, q3⟩ => ⟨ks, ds, k, e3, e4, fun z _ => q3 z, fun hn => ?_⟩⟩) hm
  obtain ⟨g1, g2⟩ := dropKs_none e5 hn
  have w := q3 x
  rw [g1, g2, sput_idG e4] at w
  exact w
/-- what stands in a dict of the store becomes data, behind an expression -/
theorem de_fzIn (h : DE C W e δ m fun d m1 => ∃ b i p kb db ks ds, m1 b = some (.dic kb db) ∧ db[i]? = some (.ref p) ∧ m1 p = some (.dic ks ds) ∧ b ≠ p ∧ Q d (sput (sdel m1 p) b (.dic kb (db.set i (.dic ks ds))))) : DE C W e δ m Q := by
  intro X S f tk σ H T le sl hh pins s I
  refine thn (h X S f tk σ H T le sl hh pins s I) fun u s1 ⟨v, H1, I1, r, d, m1, h1, b, i, p, kb, db, ks, ds, hb, hi, hm, hne, q⟩ => ?_
  obtain ⟨kvs, hu, hf⟩ := h1.frzD hm
  obtain ⟨od, I2⟩ := I1.lock hu trivial
  have h2 := (hf od).tellD (b := b) (i := i) (by rw [sdel_ne hne]; exact hb) hi Pl.it
  exact ⟨v, _, I2, r, d, _, h2.le Pl.le, q⟩
end
section
variable {C : Ct} {m : Sto}
def addIi : R2D := fun x y m Q => ∃ i j, x = .int i ∧ y = .int j ∧ Q (.int (i + j)) m
def subIi : R2D := fun x y m Q => ∃ i j, x = .int i ∧ y = .int j ∧ Q (.int (i - j)) m
theorem od_addi : OpDi C .Add addIi := by
  rintro X f fr H m T x y d e Q hh tx ty ⟨i, j, rfl, rfl, q⟩
  have rx := hh.rep tx
  have ry := hh.rep ty
  cases rx
  cases ry
  exact fun pins s σ u v I r1 r2 => in_add pins s σ H _ _ u v _ I r1 r2 ⟨i, j, rfl, rfl, dk_int hh q⟩
theorem od_subi : OpDi C .Sub subIi := by
  rintro X f fr H m T x y d e Q hh tx ty ⟨i, j, rfl, rfl, q⟩
  have rx := hh.rep tx
  have ry := hh.rep ty
  cases rx
  cases ry
  exact fun pins s σ u v I r1 r2 => in_sub pins s σ H _ _ u v _ I r1 r2 ⟨i, j, rfl, rfl, dk_int hh q⟩
end
section
variable {C : Ct} {W : DW} {δ : Sl} {m : Sto} {pos pos' : Pos}
/-- x = [elt for tg in iter if ..], an object -/
theorem ds_setLcM {D : DEn} (j : Nat) {y : Str} {py : Pos} {elt tg iter : Expr} {ifs : List Expr} {scope : Scope} (own : List (Str × Nat)) (ok : blkC C.N C.sc scope own = true) (hN : C.N[j]? = some y) (hy : C.sc.names.lookup y = some .local)
    (hl : (py.line == pos.line) = true) (hna : (scope.names.any fun (n, k) => n == y && (k == .local || k == .cell)) = false)
    (h : LcI C W elt tg iter ifs scope own δ m fun d m1 => ∀ p acc, d = .lst acc → m1 p = none → D.nx (δ.set j (some (.ref p))) (sput m1 p (.lst acc))) (hs : ∀ env x, foldedSetIterable iter env x = pure x := by intro _ _; rfl) (hk : C.sc.kind = .function := by rfl) (hcm : C.cm = true := by rfl) :
    DS C W (.Assign [.Name y py] (.ListComp elt [⟨tg, iter, ifs, 0⟩] scope pos) pos') δ m D := by
  intro X S f tk σ H T le sl hh
  have okB : BlkOk X.N X.env.scope scope own := by rw [f.N, f.sc]; exact blkOk_by ok
  have hyl : X.env.scope.names.lookup y = some .local := by rw [f.sc]; exact hy
  refine WS.of (ps_setLc (te := rdE X scope elt) (tt := rdT X scope ifs) (g := rdG X scope tg) (f.calm hcm) f.nd (i := j) (by rw [f.N]; exact hN) hyl (sw_true (by rw [f.sc]; exact hk) hyl hl hna) wi okB (fun s H c cl fp => ⟨fun pins t σ H v u Q I r q => q s _ c cl fp pins t u I r⟩) (fun s H c cl fp => ⟨fun pins t σ H Q I q => q s _ c cl fp pins t I⟩) (fun s H c cl fp => ⟨fun pins t σ H Q I q => q s _ c cl fp pins t I⟩) (hs _)) ?_
  exact lc_read h f tk le sl hh fun p H' acc m' T' l hm hd q => ⟨_, _, _, le.trans Pl.le, (sl.le Pl.le).set Pl.it, (hd.pl fun _ _ => .ref p).le (Pl.mono l), q p acc rfl hm⟩
end
section
variable {C : Ct} {W : DW} {δ : Sl} {m : Sto} {pos : Pos} {e t1 t2 : Expr}
/-- t1 = t2 = e -/
theorem ds_asg2 {D : DEn} (h : DE C W e δ m fun d m1 => DG C W t1 d δ m1 fun δ1 m2 => DG C W t2 d δ1 m2 D.nx) (ha : ∀ env, (assignEach [t1, t2] env).map (·.2) = [assign t1 env, assign t2 env] := by intro _; rfl) (hw : ∀ env, swappedStores [t1, t2] e env = pure none := by intro _; rfl) :
    DS C W (.Assign [t1, t2] e pos) δ m D := by
  intro X S f tk σ H T le sl hh
  refine WS.of (ps_asg2 we wg wg (ha _) (hw _)) ((h X S f tk σ H T le sl hh).mono fun v H1 ⟨d, m1, h1, q⟩ => ?_)
  refine (q X S f tk v σ H1 _ (le.trans Pl.le) (sl.le Pl.le) Pl.it h1).mono fun σ2 H2 ⟨δ2, m2, T2, le2, sl2, h2, q2⟩ => ?_
  refine (q2 X S f tk v σ2 H2 T2 (le.trans (Pl.le.trans le2)) sl2 (le2 _ _ Pl.it) h2).mono fun σ3 H3 ⟨δ3, m3, T3, le3, sl3, h3, q3⟩ => ?_
  exact lift_nx (le.trans (Pl.le.trans (le2.trans le3))) sl3 h3 q3
end
end G

/-! The data layer: dicts with tuples of whole numbers as keys: reads, writes. -/
namespace G
open PySem PySem.Spec PyProof.Rows L2
def kT (k : List Int) : D := .tup (k.map D.int)
theorem keyT_inj {a b : List Int} (h : keyT a = keyT b) : a = b := by
  unfold keyT at h
  induction a generalizing b with
  | nil => cases b with
    | nil => rfl
    | cons y b => cases h
  | cons x a ih => cases b with
    | nil => cases h
    | cons y b =>
      simp only [List.map_cons, List.cons.injEq, Sum.inl.injEq] at h
      rw [h.1, ih h.2]
theorem keyT_dec {a b : List Int} : decide (keyT a = keyT b) = decide (a = b) := by
  rw [decide_eq_decide]
  exact ⟨keyT_inj, fun e => by rw [e]⟩
theorem keyT_kV (k : List Int) : (keyT k).map kV = k.map V.int := by
  unfold keyT
  rw [List.map_map]
  rfl
theorem repLi {K : PySem.W.Frag} {H : Hp} : ∀ k : List Int, RepL K H (k.map V.int) (k.map D.int)
  | [] => .nil
  | i :: k => .cons (.int i) (repLi k)
theorem intsRof {K : PySem.W.Frag} {H : Hp} : ∀ {k : List Int} {xs : List V}, RepL K H xs (k.map D.int) → xs = k.map V.int
  | [], [], _ => rfl
  | [], _ :: _, r => by cases r
  | i :: k, [], r => by cases r
  | i :: k, x :: xs, r => by
    have r' : RepL K H (x :: xs) (D.int i :: k.map D.int) := r
    cases r' with
    | cons r1 r2 =>
      cases r1
      rw [intsRof r2]
      rfl
theorem kT_of {K : PySem.W.Frag} {H : Hp} {v : V} {k : List Int} (r : Rep K H v (kT k)) : ∃ b, v = .ref b ∧ H b = some (.tup ((keyT k).map kV)) := by
  have r' : Rep K H v (.tup (k.map D.int)) := r
  cases r' with
  | tup q t rr =>
    have e := intsRof rr
    have h := t k rfl
    rw [e, ← keyT_kV] at h
    exact ⟨_, rfl, h⟩
theorem kT_rep {K : PySem.W.Frag} {H : Hp} {b : Addr} {k : List Int} (h : H b = some (.tup ((keyT k).map kV))) : Rep K H (.ref b) (kT k) := by
  rw [keyT_kV] at h
  exact .tup (SqT.of h) (fun _ _ => h) (repLi k)
/-! the lists of the library's dict -/
theorem up_val (ws : List (List Int × V)) (k : List Int) : valV (upT ws) (keyT k) = valV ws k := by
  induction ws with
  | nil => rfl
  | cons p ws ih =>
    show valV ((keyT p.1, p.2) :: upT ws) (keyT k) = _
    by_cases e : p.1 = k
    · rw [valV_pos e, valV_pos (by rw [e])]
    · rw [valV_neg e, valV_neg (fun z => e (keyT_inj z))]
      exact ih
theorem up_len (ws : List (List Int × V)) : (upT ws).length = ws.length := List.length_map ..
theorem up_any (ws : List (List Int × V)) (k : List Int) : ((upT ws).any fun kv => decide (kv.1 = keyT k)) = ws.any fun kv => decide (kv.1 = k) := by
  unfold upT
  rw [List.any_map]
  refine congrArg (fun f => List.any ws f) (funext fun p => ?_)
  exact keyT_dec
theorem up_put (ws : List (List Int × V)) (k : List Int) (v : V) : putK (upT ws) (keyT k) v = upT (putK ws k v) := by
  unfold putK
  rw [up_any]
  split
  · unfold upT
    rw [List.map_map, List.map_map]
    refine List.map_congr_left fun p _ => ?_
    show (if keyT p.1 = keyT k then (keyT p.1, v) else (keyT p.1, p.2)) = (keyT (if p.1 = k then (p.1, v) else p).1, (if p.1 = k then (p.1, v) else p).2)
    by_cases e : p.1 = k
    · rw [if_pos e, if_pos (by rw [e])]
    · rw [if_neg e, if_neg fun z => e (keyT_inj z)]
  · unfold upT
    rw [List.map_append]
    rfl
theorem up_drop (ws : List (List Int × V)) (k : List Int) : dropK (upT ws) (keyT k) = upT (dropK ws k) := by
  unfold dropK upT
  rw [List.filter_map]
  refine congrArg (List.map _) (List.filter_congr fun p _ => ?_)
  show decide (keyT p.1 ≠ keyT k) = decide (p.1 ≠ k)
  rw [decide_eq_decide]
  exact ⟨fun h e => h (by rw [e]), fun h e => h (keyT_inj e)⟩
def DitAt (m : Sto) (a : Addr) (ks : List (List Int)) (ds : List D) : Prop := m a = some (.dit ks ds) ∨ ∃ od ws, m a = some (.lkT od ws ks ds)
def DitV (m : Sto) (d : D) (ks : List (List Int)) (ds : List D) : Prop := (∃ a, d = .ref a ∧ DitAt m a ks ds) ∨ d = .dit (.t ks) ds
section
variable {K : PySem.W.Frag} {r : Sto} {H : Hp} {m : Sto} {T : RT} {a : Addr} {ks : List (List Int)} {ds : List D}
theorem Hd.ditO (h : Hd K r H m T) (t : m a = some (.dit ks ds)) : ∃ ws, H a = some (.dT (upT ws)) ∧ ws.map (·.1) = ks ∧ (ws.map (·.2)).length = ds.length ∧ Hd K r H m (PlL T (ws.map (·.2)) ds) := by
  obtain ⟨g0, Hi, g1, g2, g3⟩ := h
  obtain ⟨_, u, q, rr⟩ := g2 _ _ (sun_l t)
  cases u with
  | dT kvs =>
    obtain ⟨ws, rfl, e1, e2⟩ := rr
    exact ⟨ws, q, e1, e2.length, g0, Hi, g1, g2, fun v d x => x.elim (g3 v d) fun hm => RepL.mem_zip e2 hm⟩
  | _ => exact False.elim rr
theorem Hd.lkT {od : Obj} {ws : List (List Int × V)} (h : Hd K r H m T) (t : m a = some (.lkT od ws ks ds)) : H a = some (.frz od (.dT (upT ws))) ∧ ws.map (·.1) = ks ∧ (ws.map (·.2)).length = ds.length ∧ Hd K r H m (PlL T (ws.map (·.2)) ds) := by
  obtain ⟨g0, Hi, g1, g2, g3⟩ := h
  obtain ⟨_, u, q, rr⟩ := g2 _ _ (sun_l t)
  cases u with
  | frz ob u =>
    obtain ⟨rfl, rfl, e1, e2⟩ := rr
    exact ⟨q, e1, e2.length, g0, Hi, g1, g2, fun v d x => x.elim (g3 v d) fun hm => RepL.mem_zip e2 hm⟩
  | _ => exact False.elim rr
theorem Hd.ditV {v : V} {d : D} (h : Hd K r H m T) (tv : T v d) (t : DitV m d ks ds) : ∃ a ws, v = .ref a ∧ Rd H a (.dT (upT ws)) ∧ ws.map (·.1) = ks ∧ (ws.map (·.2)).length = ds.length ∧ Hd K r H m (PlL T (ws.map (·.2)) ds) := by
  rcases t with ⟨a, rfl, t⟩ | rfl
  · have rr := h.rep tv
    cases rr
    rcases t with t | ⟨od, ws, t⟩
    · obtain ⟨ws, q, rest⟩ := h.ditO t
      exact ⟨a, ws, rfl, .inl q, rest⟩
    · obtain ⟨q, rest⟩ := h.lkT t
      exact ⟨a, ws, rfl, .inr ⟨od, q⟩, rest⟩
  · obtain ⟨g0, Hi, g1, g2, g3⟩ := h
    have rr := g3 _ _ tv
    cases rr with
    | dit e1 e2 e3 => exact ⟨_, _, rfl, .inr ⟨_, g1 _ _ e1⟩, e2, e3.length, g0, Hi, g1, g2, fun v d x => x.elim (g3 v d) fun hm => RepL.mem_zip e3 hm⟩
theorem Hd.dgetT {v u : V} {d : D} {k : List Int} (h : Hd K r H m T) (tv : T v d) (t : DitV m d ks ds) (tu : T u (kT k)) : ∃ a, v = .ref a ∧ IsD H a ∧ (valD ks ds k = none → DGet H a u none) ∧ ∀ z, valD ks ds k = some z → ∃ y, DGet H a u (some y) ∧ Hd K r H m (Pl T y z) := by
  obtain ⟨a, ws, ev, hr, e, hl, h2⟩ := h.ditV tv t
  subst e
  obtain ⟨b, eb, hb⟩ := kT_of (h.rep tu)
  subst eb
  obtain ⟨z1, z2⟩ := val_rep (RepL.of_zip hl fun v d z => h2.rep (.inr z)) (k := k)
  refine ⟨a, ev, .inr ⟨_, hr⟩, fun e => .inr ⟨upT ws, keyT k, b, hr, rfl, hb, by rw [up_val]; exact (z1 e).symm⟩, fun d e => ?_⟩
  obtain ⟨u, e1, e2⟩ := z2 e
  exact ⟨u, .inr ⟨upT ws, keyT k, b, hr, rfl, hb, by rw [up_val]; exact e1.symm⟩, h2.le fun x y t => by
    rcases t with t | ⟨rfl, rfl⟩
    · exact .inl t
    · exact .inr e2⟩
theorem Hd.dputT {u v : V} {k : List Int} {d : D} (h : Hd K r H m T) (t : m a = some (.dit ks ds)) (tu : T u (kT k)) (tv : T v d) (hz : ks.length < sizeLine) :
    ∃ H', DPut H a u v H' ∧ Hd K r H' (sput m a (.dit (putKs ks k) (putDs ks ds k d))) T := by
  obtain ⟨ws, hu, ek, hl, _⟩ := h.ditO t
  obtain ⟨b, eb, hb⟩ := kT_of (h.rep tu)
  subst eb ek
  refine ⟨_, .inr ⟨upT ws, keyT k, b, hu, rfl, hb, by rw [up_len]; simpa using hz, rfl⟩, h.mut t hu fun Hi rr kk => ?_⟩
  obtain ⟨ws', e0, e1, e2⟩ := rr
  have ew : ws' = ws := by
    have := e0
    unfold upT at this
    have inj : Function.Injective fun q : List Int × V => (keyT q.1, q.2) := fun x y z => by
      obtain ⟨z1, z2⟩ := Prod.mk.inj z
      exact Prod.ext (keyT_inj z1) z2
    exact ((List.map_inj_right fun x y z => inj z).mp this).symm
  subst ew
  obtain ⟨g1, g2⟩ := put_rep (k := k) (kk _ _ tv) e2
  exact ⟨putK ws' k v, up_put _ _ _, g1, g2⟩
/-- a dict of the store becomes data -/
theorem Hd.frzT (h : Hd K r H m T) (t : m a = some (.dit ks ds)) : ∃ ws, H a = some (.dT (upT ws)) ∧ ∀ ob, Hd K r (upd H a (.frz ob (.dT (upT ws)))) (sdel m a) (Pl T (.ref a) (.dit (.t ks) ds)) := by
  have t' := t
  obtain ⟨g0, Hi, g1, g2, g3⟩ := h
  obtain ⟨q0, u, q, rr⟩ := g2 _ _ (sun_l t)
  cases u with
  | dT kvs =>
    obtain ⟨ws, rfl, e1, e2⟩ := rr
    refine ⟨ws, q, fun ob => ⟨fun b x e => ?_, upd Hi a (.frz ob (.dT (upT ws))), fun b o e => ?_, fun b o e => ?_, fun x y q => ?_⟩⟩
    · by_cases hb : b = a
      · subst hb; unfold sdel at e; rw [if_pos rfl] at e; cases e
      · rw [sdel_ne hb] at e; exact g0 b x e
    · by_cases hb : b = a
      · subst hb; rw [upd_same] at e ⊢; exact e
      · rw [upd_ne hb] at e ⊢; exact g1 _ _ e
    · rw [sun_del (g0 a _ t)] at e
      by_cases hb : b = a
      · subst hb; unfold sdel at e; rw [if_pos rfl] at e; cases e
      · rw [sdel_ne hb] at e
        obtain ⟨p1, u1, p2, p3⟩ := g2 b o e
        exact ⟨by rw [upd_ne hb]; exact p1, u1, by rw [upd_ne hb]; exact p2, p3.mono (same_upd q0)⟩
    · rcases q with q | ⟨rfl, rfl⟩
      · exact Rep.mono (same_upd q0) (g3 x y q)
      · exact .dit upd_same e1 (RepL.mono (same_upd q0) e2)
  | _ => exact False.elim rr
end
section
variable {C : Ct} {W : DW} {δ : Sl} {m : Sto} {b c e o i f : Expr} {es : List Expr} {sts : List Stmt} {pos pos' apos cpos : Pos} {Q : D → Sto → Prop} {D : DEn}
/-- {} that will hold tuples -/
theorem de_dict0T (q : ∀ p, m p = none → Q (.ref p) (sput m p (.dit [] []))) : DE C W (.Dict [] [] pos) δ m Q := fun X S fx tk σ H T le sl hh => WE.of pe_dnewT fun p hp => ⟨.ref p, sput m p (.dit [] []), hh.newM hp fun _ _ => ⟨[], rfl, rfl, .nil⟩, q p (hh.free hp)⟩
/-- d[k] -/
theorem de_dgetT (h : DE C W o δ m fun d m1 => DE C W i δ m1 fun y m2 => ∃ ks ds k v, y = kT k ∧ DitV m2 d ks ds ∧ valD ks ds k = some v ∧ Q v m2) (hs : NoSl i := by intro _ _; rfl) : DE C W (.Subscript o i pos) δ m Q := by
  intro X S fx tk σ H T le sl hh
  refine WE.of (pe_dget (units1 fx) we we hs) ((h X S fx tk σ H T le sl hh).mono fun v H1 ⟨d, m1, h1, q⟩ => ?_)
  refine (q X S fx tk σ H1 _ (le.trans Pl.le) (sl.le Pl.le) h1).mono fun u H2 ⟨y, m2, h2, ks, ds, k, z, ey, hm, hv, q2⟩ => ?_
  subst ey
  obtain ⟨a, ev, _, _, g2⟩ := h2.dgetT (v := v) (u := u) (.inl Pl.it) hm Pl.it
  obtain ⟨w, g, h3⟩ := g2 z hv
  exact ⟨a, w, ev, g, z, m2, h3.le (Pl.mono (Pl.le.trans Pl.le)), q2⟩
/-- d.get(k, x) -/
theorem de_dget2T (h : DE C W o δ m fun d m1 => (∃ ks0 ds0, DitV m1 d ks0 ds0) ∧ DE C W e δ m1 fun y m2 => DE C W f δ m2 fun x m3 => ∃ ks ds k, y = kT k ∧ DitV m3 d ks ds ∧ Q ((valD ks ds k).getD x) m3)
    (hm : ∀ X : Cx, M2 X o "get" apos e f cpos := by intro _; exact ⟨rfl, rfl, rfl, rfl⟩) : DE C W (.Call (.Attribute o "get" apos) [e, f] [] cpos) δ m Q := by
  intro X S fx tk σ H T le sl hh
  refine WE.of (pe_dget2 (units1 fx) we we we (hm X)) ((h X S fx tk σ H T le sl hh).mono fun v H1 ⟨d, m1, h1, ⟨ks0, ds0, hm0⟩, q⟩ => ?_)
  obtain ⟨a, ws0, ev, hr0, _⟩ := h1.ditV Pl.it hm0
  refine ⟨a, ev, .inr ⟨_, hr0⟩, (q X S fx tk σ H1 _ (le.trans Pl.le) (sl.le Pl.le) h1).mono fun u H2 ⟨y, m2, h2, q2⟩ => ?_⟩
  refine (q2 X S fx tk σ H2 _ (le.trans (Pl.le.trans Pl.le)) (sl.le (Pl.le.trans Pl.le)) h2).mono fun w H3 ⟨x, m3, h3, ks, ds, k, ey, hm3, q3⟩ => ?_
  subst ey
  obtain ⟨a', ev', _, g1, g2⟩ := h3.dgetT (v := v) (u := u) (.inl (.inl Pl.it)) hm3 (.inl Pl.it)
  rw [ev] at ev'
  cases ev'
  cases hv : valD ks ds k with
  | none =>
    rw [hv] at q3
    exact ⟨none, g1 hv, x, m3, h3.le (Pl.mono (Pl.le.trans Pl.le)), q3⟩
  | some z =>
    rw [hv] at q3
    obtain ⟨w2, g, h4⟩ := g2 z hv
    exact ⟨some w2, g, z, m3, h4.le (Pl.mono (Pl.le.trans (Pl.le.trans Pl.le))), q3⟩
/-- k in d, k not in d -/
theorem de_dinT (h : DE C W i δ m fun y m1 => DE C W o δ m1 fun d m2 => ∃ ks ds k, y = kT k ∧ DitV m2 d ks ds ∧ Q (.bl (valD ks ds k).isSome) m2) (hb : behindInMarks .In o = false := by with_unfolding_all rfl) : DE C W (.Compare i [.In] [o] pos) δ m Q := by
  intro X S fx tk σ H T le sl hh
  refine WE.of (L2.pe_cmp (pc_din (units1 fx) we we) hb) ((h X S fx tk σ H T le sl hh).mono fun u H1 ⟨y, m1, h1, q⟩ => ?_)
  refine (q X S fx tk σ H1 _ (le.trans Pl.le) (sl.le Pl.le) h1).mono fun v H2 ⟨d, m2, h2, ks, ds, k, ey, hm, q2⟩ => ?_
  subst ey
  obtain ⟨a, ev, _, g1, g2⟩ := h2.dgetT (v := v) (u := u) Pl.it hm (.inl Pl.it)
  cases hv : valD ks ds k with
  | none =>
    rw [hv] at q2
    exact ⟨a, none, ev, g1 hv, dK.le (dk_bl h2 q2) (Pl.le.trans Pl.le)⟩
  | some z =>
    rw [hv] at q2
    obtain ⟨w2, g, _⟩ := g2 z hv
    exact ⟨a, some w2, ev, g, dK.le (dk_bl h2 q2) (Pl.le.trans Pl.le)⟩
theorem de_dnotinT (h : DE C W i δ m fun y m1 => DE C W o δ m1 fun d m2 => ∃ ks ds k, y = kT k ∧ DitV m2 d ks ds ∧ Q (.bl (!(valD ks ds k).isSome)) m2) (hb : behindInMarks .NotIn o = false := by with_unfolding_all rfl) : DE C W (.Compare i [.NotIn] [o] pos) δ m Q := by
  intro X S fx tk σ H T le sl hh
  refine WE.of (L2.pe_cmp (pc_dnotin (units1 fx) we we) hb) ((h X S fx tk σ H T le sl hh).mono fun u H1 ⟨y, m1, h1, q⟩ => ?_)
  refine (q X S fx tk σ H1 _ (le.trans Pl.le) (sl.le Pl.le) h1).mono fun v H2 ⟨d, m2, h2, ks, ds, k, ey, hm, q2⟩ => ?_
  subst ey
  obtain ⟨a, ev, _, g1, g2⟩ := h2.dgetT (v := v) (u := u) Pl.it hm (.inl Pl.it)
  cases hv : valD ks ds k with
  | none =>
    rw [hv] at q2
    exact ⟨a, none, ev, g1 hv, dK.le (dk_bl h2 q2) (Pl.le.trans Pl.le)⟩
  | some z =>
    rw [hv] at q2
    obtain ⟨w2, g, _⟩ := g2 z hv
    exact ⟨a, some w2, ev, g, dK.le (dk_bl h2 q2) (Pl.le.trans Pl.le)⟩
theorem dt_dinT {Q : Bool → Sto → Prop} (h : DE C W i δ m fun y m1 => DE C W o δ m1 fun d m2 => ∃ ks ds k, y = kT k ∧ DitV m2 d ks ds ∧ Q ((valD ks ds k).isSome) m2) (hb : behindInMarks .In o = false := by with_unfolding_all rfl) : DT C W (.Compare i [.In] [o] pos) δ m Q := by
  intro X S fx tk σ H T le sl hh
  refine WT.of (L2.pt_cmp (pc_din (units1 fx) we we) hb) ((h X S fx tk σ H T le sl hh).mono fun u H1 ⟨y, m1, h1, q⟩ => ?_)
  refine (q X S fx tk σ H1 _ (le.trans Pl.le) (sl.le Pl.le) h1).mono fun v H2 ⟨d, m2, h2, ks, ds, k, ey, hm, q2⟩ => ?_
  subst ey
  obtain ⟨a, ev, _, g1, g2⟩ := h2.dgetT (v := v) (u := u) Pl.it hm (.inl Pl.it)
  cases hv : valD ks ds k with
  | none =>
    rw [hv] at q2
    exact ⟨a, none, ev, g1 hv, _, rfl, m2, h2.le (Pl.le.trans Pl.le), q2⟩
  | some z =>
    rw [hv] at q2
    obtain ⟨w2, g, _⟩ := g2 z hv
    exact ⟨a, some w2, ev, g, _, rfl, m2, h2.le (Pl.le.trans Pl.le), q2⟩
theorem dt_dnotinT {Q : Bool → Sto → Prop} (h : DE C W i δ m fun y m1 => DE C W o δ m1 fun d m2 => ∃ ks ds k, y = kT k ∧ DitV m2 d ks ds ∧ Q (!(valD ks ds k).isSome) m2) (hb : behindInMarks .NotIn o = false := by with_unfolding_all rfl) : DT C W (.Compare i [.NotIn] [o] pos) δ m Q := by
  intro X S fx tk σ H T le sl hh
  refine WT.of (L2.pt_cmp (pc_dnotin (units1 fx) we we) hb) ((h X S fx tk σ H T le sl hh).mono fun u H1 ⟨y, m1, h1, q⟩ => ?_)
  refine (q X S fx tk σ H1 _ (le.trans Pl.le) (sl.le Pl.le) h1).mono fun v H2 ⟨d, m2, h2, ks, ds, k, ey, hm, q2⟩ => ?_
  subst ey
  obtain ⟨a, ev, _, g1, g2⟩ := h2.dgetT (v := v) (u := u) Pl.it hm (.inl Pl.it)
  cases hv : valD ks ds k with
  | none =>
    rw [hv] at q2
    exact ⟨a, none, ev, g1 hv, _, rfl, m2, h2.le (Pl.le.trans Pl.le), q2⟩
  | some z =>
    rw [hv] at q2
    obtain ⟨w2, g, _⟩ := g2 z hv
    exact ⟨a, some w2, ev, g, _, rfl, m2, h2.le (Pl.le.trans Pl.le), q2⟩
/-- len(d), list(d) -/
def lenDT : RLD := fun ds m Q => ∃ d ks es, ds = [d] ∧ DitV m d ks es ∧ Q (.int ks.length) m
def listDT : RLD := fun ds m Q => ∃ d ks es, ds = [d] ∧ DitV m d ks es ∧ Q (.lst (ks.map kT)) m
theorem keys_rep {K : PySem.W.Frag} {Hi H : Hp} (hs : ∀ b xs, H b = some (.tup xs) → Hi b = some (.tup xs)) : ∀ {ws : List (List Int × V)} {bs : List Addr}, IsKeys H (upT ws) bs → RepL K Hi (bs.map V.ref) ((ws.map (·.1)).map kT)
  | [], [], _ => .nil
  | [], _ :: _, r => by cases r
  | _ :: _, [], r => by cases r
  | w :: ws, b :: bs, r => by
    have r' : Paired (fun (p : List Key × V) b => H b = some (.tup (p.1.map kV))) ((keyT w.1, w.2) :: upT ws) (b :: bs) := r
    cases r' with
    | cons r1 r2 => exact .cons (kT_rep (hs _ _ r1)) (keys_rep hs r2)
/-- d[k] = v -/
theorem ds_dputT {o i : Expr} (h : DE C W e δ m fun d m1 => DE C W o δ m1 fun x m2 => DE C W i δ m2 fun y m3 => ∃ a ks ds k, x = .ref a ∧ y = kT k ∧ m3 a = some (.dit ks ds) ∧ ks.length < sizeLine ∧ D.nx δ (sput m3 a (.dit (putKs ks k) (putDs ks ds k d))))
    (hs : ∀ env, swapsWithSole [.Subscript o i pos'] e pos.line env = pure false := by intro _; rfl) (hw : ∀ env, swappedStores [.Subscript o i pos'] e env = pure none := by intro _; rfl)
    (h1 : ∀ env, (assignEach [.Subscript o i pos'] env).map (·.2) = [assign (.Subscript o i pos') env] := by intro _; rfl)
    (ha : ∀ env v, assign (.Subscript o i pos') env v = (do
      let ov ← holding [v] (eval o env)
      let iv ← holding [v, ov] (eval i env)
      standAt pos'
      holding [v, ov, iv] (setItem ov iv v)
      release [v, ov, iv] []) := by intro _ _; rfl) : DS C W (.Assign [.Subscript o i pos'] e pos) δ m D := by
  intro X S f tk σ H T le sl hh
  refine WS.of (ps_asg we (pg_sub we we (set_dictK (units1 f)) (ha _)) (hs _) (hw _) (h1 _)) ((h X S f tk σ H T le sl hh).mono fun v H1 ⟨d, m1, h1, q⟩ => ?_)
  refine (q X S f tk σ H1 _ (le.trans Pl.le) (sl.le Pl.le) h1).mono fun u H2 ⟨x, m2, h2, q2⟩ => ?_
  refine (q2 X S f tk σ H2 _ (le.trans (Pl.le.trans Pl.le)) (sl.le (Pl.le.trans Pl.le)) h2).mono fun w H3 ⟨y, m3, h3, a, ks, ds, k, ex, ey, hm, hz, q3⟩ => ?_
  subst ex ey
  have rx := h3.rep (.inl Pl.it : Pl (Pl (Pl T v d) u (.ref a)) w (kT k) u (.ref a))
  cases rx
  obtain ⟨H4, g, h4⟩ := h3.dputT (u := w) (v := v) hm Pl.it (.inl (.inl Pl.it)) hz
  exact ⟨a, H4, rfl, g, lift_nx (le.trans (Pl.le.trans (Pl.le.trans Pl.le))) (sl.le (Pl.le.trans (Pl.le.trans Pl.le))) h4 q3⟩
/-- d[k]: t = v -/
theorem ds_dputAT {o i ann : Expr} {simple : Int} (h : DE C W e δ m fun d m1 => DE C W o δ m1 fun x m2 => DE C W i δ m2 fun y m3 => ∃ a ks ds k, x = .ref a ∧ y = kT k ∧ m3 a = some (.dit ks ds) ∧ ks.length < sizeLine ∧ D.nx δ (sput m3 a (.dit (putKs ks k) (putDs ks ds k d))))
    (hs : ∀ env, swapsWith e (some (.Subscript o i pos')) pos.line env = pure false := by intro _; rfl)
    (ha : ∀ env v, assign (.Subscript o i pos') env v = (do
      let ov ← holding [v] (eval o env)
      let iv ← holding [v, ov] (eval i env)
      standAt pos'
      holding [v, ov, iv] (setItem ov iv v)
      release [v, ov, iv] []) := by intro _ _; rfl) : DS C W (.AnnAssign (.Subscript o i pos') ann (some e) simple pos) δ m D := by
  intro X S f tk σ H T le sl hh
  refine WS.of (ps_ann we (pg_sub we we (set_dictK (units1 f)) (ha _)) (hs _)) ((h X S f tk σ H T le sl hh).mono fun v H1 ⟨d, m1, h1, q⟩ => ?_)
  refine (q X S f tk σ H1 _ (le.trans Pl.le) (sl.le Pl.le) h1).mono fun u H2 ⟨x, m2, h2, q2⟩ => ?_
  refine (q2 X S f tk σ H2 _ (le.trans (Pl.le.trans Pl.le)) (sl.le (Pl.le.trans Pl.le)) h2).mono fun w H3 ⟨y, m3, h3, a, ks, ds, k, ex, ey, hm, hz, q3⟩ => ?_
  subst ex ey
  have rx := h3.rep (.inl Pl.it : Pl (Pl (Pl T v d) u (.ref a)) w (kT k) u (.ref a))
  cases rx
  obtain ⟨H4, g, h4⟩ := h3.dputT (u := w) (v := v) hm Pl.it (.inl (.inl Pl.it)) hz
  exact ⟨a, H4, rfl, g, lift_nx (le.trans (Pl.le.trans (Pl.le.trans Pl.le))) (sl.le (Pl.le.trans (Pl.le.trans Pl.le))) h4 q3⟩
/-- a slot's dict is data from now on -/
theorem dss_frzT (i : Nat) {p : Addr} {ks : List (List Int)} {ds : List G.D} (hd : δ[i]? = some (some (.ref p))) (hm : m p = some (.dit ks ds)) (h : DSs C W sts (δ.set i (some (.dit (.t ks) ds))) (sdel m p) D) : DSs C W sts δ m D := by
  intro X S f tk σ H T le sl hh pins s I
  obtain ⟨v, hv, tv⟩ := sl.2 i _ hd
  have r := hh.rep tv
  cases r
  obtain ⟨ws, hu, hf⟩ := hh.frzT hm
  obtain ⟨od, I2⟩ := I.lock hu trivial
  have sl2 := (sl.le (Pl.le (v := .ref p) (d := .dit (.t ks) ds))).set (i := i) (Pl.it (T := T) (v := .ref p) (d := .dit (.t ks) ds))
  rw [slot_same hv] at sl2
  exact h X S f tk σ _ _ (le.trans Pl.le) sl2 (hf od) pins s I2
/-- what stands in a dict of the store is data from now on -/
theorem dss_frzInT (b : Addr) (i : Nat) {p : Addr} {kb : List Key} {db ds : List G.D} {ks : List (List Int)} (hb : m b = some (.dic kb db)) (hi : db[i]? = some (.ref p)) (hm : m p = some (.dit ks ds)) (hne : b ≠ p) (h : DSs C W sts δ (sput (sdel m p) b (.dic kb (db.set i (.dit (.t ks) ds)))) D) : DSs C W sts δ m D := by
  intro X S f tk σ H T le sl hh pins s I
  obtain ⟨ws, hu, hf⟩ := hh.frzT hm
  obtain ⟨od, I2⟩ := I.lock hu trivial
  have h2 := (hf od).tellD (b := b) (i := i) (by rw [sdel_ne hne]; exact hb) hi Pl.it
  exact h X S f tk σ _ _ (le.trans Pl.le) (sl.le Pl.le) h2 pins s I2
/-- an expression's dict is data -/
theorem de_freezeT (h : DE C W e δ m fun d m1 => ∃ p ks ds, d = .ref p ∧ m1 p = some (.dit ks ds) ∧ Q (.dit (.t ks) ds) (sdel m1 p)) : DE C W e δ m Q := by
  intro X S f tk σ H T le sl hh pins s I
  refine thn (h X S f tk σ H T le sl hh pins s I) fun u s1 ⟨v, H1, I1, r, d, m1, h1, p, ks, ds, ed, hm, q⟩ => ?_
  subst ed
  have rr := h1.rep Pl.it
  cases rr
  obtain ⟨ws, hu, hf⟩ := h1.frzT hm
  obtain ⟨od, I2⟩ := I1.lock hu trivial
  exact ⟨.ref p, _, I2, r, .dit (.t ks) ds, _, (hf od).le (Pl.mono Pl.le), q⟩
/-- an expression while a dict is locked -/
theorem de_lockT (a : Addr) {ks : List (List Int)} {ds : List G.D} (hm : m a = some (.dit ks ds)) (h : ∀ od ws, DE C W e δ (sput m a (.lkT od ws ks ds)) fun d m1 => m1 a = some (.lkT od ws ks ds) ∧ Q d (sput m1 a (.dit ks ds))) : DE C W e δ m Q := by
  intro X S fx tk σ H T le sl hh
  obtain ⟨ws, hu, ek, hl, _⟩ := hh.ditO hm
  refine WE.of (pe_lock we) ⟨a, .dT (upT ws), hu, trivial, fun od => ?_⟩
  have h1 := hh.mut (u' := .frz od (.dT (upT ws))) (o' := .lkT od ws ks ds) hm hu fun Hi r _ => by
    obtain ⟨ws', e0, e1, e2⟩ := r
    have ew : ws = ws' := by
      unfold upT at e0
      refine (List.map_inj_right fun x y z => ?_).mp e0
      obtain ⟨z1, z2⟩ := Prod.mk.inj z
      exact Prod.ext (keyT_inj z1) z2
    subst ew
    exact ⟨rfl, rfl, e1, e2⟩
  refine (h od ws X S fx tk σ _ T le sl h1).mono fun v H2 ⟨d, m2, h2, hm2, q⟩ => ?_
  obtain ⟨hu2, _⟩ := h2.lkT hm2
  exact ⟨hu2, d, _, h2.mut (u' := .dT (upT ws)) (o' := .dit ks ds) hm2 hu2 fun Hi r _ => ⟨ws, rfl, r.2.2.1, r.2.2.2⟩, q⟩
end
end G
namespace G
open PySem PySem.Spec PyProof.Rows L2
/-- a dict within a dict that is being frozen is data from now on -/
theorem de_fzInT {C : Ct} {W : DW} {δ : Sl} {m : Sto} {e : Expr} {Q : D → Sto → Prop} (h : DE C W e δ m fun d m1 => ∃ b i p kb db ks ds, m1 b = some (.dic kb db) ∧ db[i]? = some (.ref p) ∧ m1 p = some (.dit ks ds) ∧ b ≠ p ∧ Q d (sput (sdel m1 p) b (.dic kb (db.set i (.dit (.t ks) ds))))) : DE C W e δ m Q := by
  intro X S f tk σ H T le sl hh pins s I
  refine thn (h X S f tk σ H T le sl hh pins s I) fun u s1 ⟨v, H1, I1, r, d, m1, h1, b, i, p, kb, db, ks, ds, hb, hi, hm, hne, q⟩ => ?_
  obtain ⟨ws, hu, hf⟩ := h1.frzT hm
  obtain ⟨od, I2⟩ := I1.lock hu trivial
  have h2 := (hf od).tellD (b := b) (i := i) (by rw [sdel_ne hne]; exact hb) hi Pl.it
  exact ⟨v, _, I2, r, d, _, h2.le Pl.le, q⟩
end G

/-! The data layer: dicts with tuple keys: their length, their keys, in order; pairs in order. -/
namespace G
open PySem PySem.Spec PyProof.Rows L2
/-! ### raw: sorted(d), len(d) -/
theorem keysGet {H : Hp} : ∀ {kvs : List (List Key × V)} {bs : List Addr} {n : Nat} {b : Addr}, IsKeys H kvs bs → bs[n]? = some b → ∃ w, kvs[n]? = some w ∧ H b = some (.tup (w.1.map kV))
  | [], [], _, _, _, e => by simp at e
  | [], _ :: _, _, _, r, _ => by cases r
  | _ :: _, [], _, _, r, _ => by cases r
  | w :: kvs, c :: bs, n, b, r, e => by
    have r' : Paired (fun (p : List Key × V) b => H b = some (.tup (p.1.map kV))) (w :: kvs) (c :: bs) := r
    cases r' with
    | cons r1 r2 =>
      cases n with
      | zero =>
        simp only [List.getElem?_cons_zero, Option.some.injEq] at e
        subst e
        exact ⟨w, rfl, r1⟩
      | succ n => exact keysGet (n := n) r2 (by simpa using e)
section
variable {X : Cx}
def kPair (v : V) (H : Hp) : Int × Int := match v with
  | .ref a => match H a with
    | some (.tup [.int i, .int j]) => (i, j)
    | _ => (0, 0)
  | _ => (0, 0)
theorem kPair_at {H : Hp} {a : Addr} {i j : Int} (h : H a = some (.tup [.int i, .int j])) : kPair (.ref a) H = (i, j) := by
  unfold kPair
  simp only [h]
theorem raw_sortedT (hcalm : X.calm = true) : CallR X (.builtin "sorted") (fun xs H Q => ∃ (d : Addr) (kvs : List (List Key × V)), xs = [V.ref d] ∧ Rd H d (.dT kvs) ∧ (∀ w ∈ kvs, ∃ i j : Int, w.1 = [Sum.inl i, Sum.inl j]) ∧
    ∀ (bs : List Addr) (ys : List V) (p : Addr), IsKeys H kvs bs → SrtO.Srtd (ltP fun v => kPair v H) ys → SrtO.Stb (ltP fun v => kPair v H) ys (bs.map V.ref) → H p = none → Q (.ref p) (upd H p (.lst ys))) := by
  intro pins s σ H xs us Q I r h
  obtain ⟨d, kvs, rfl, hd, hpair, q⟩ := h
  obtain ⟨u, rfl, rx⟩ := r.one
  cases rx
  obtain ⟨z, hs, ks, pr, o, es, ep, ho, hx, hdt, he, hn⟩ := (show ObjOk X.prog X.w H s.heap d (.dT kvs) from hd.ok I.hok)
  have l1 : es.size = ks.length := size_of_entries he
  have l2 : kvs.length = ks.length := Paired.length pr
  refine Calls.call_function_entry PyProof.Rows.kind_sorted PyProof.Rows.plain_sorted PyProof.Rows.entry_sorted (PyProof.Rows.args_sorted1 _) ?_
  unfold Builtin.«sorted»
  refine wpAny_bind (m := checkCount "sorted" 1 1 _) (wpAny_pure ?_)
  refine wpAny_bind (PySem.W.kdu_collect (A := X.A.in1) (kdl_raw hs hx hdt) (I.ok.hd hcalm) ho (by omega) fun h' tk acc kp it => ?_)
  have ea : acc.toList = (ks.map fun y => y.2.1).map Value.ref := by
    have hl : acc.toList.length = ks.length := by rw [Array.length_toList, it.1]; exact l1
    refine List.ext_getElem? fun j => ?_
    rw [List.map_map, List.getElem?_map]
    cases hj : acc.toList[j]? with
    | none =>
      have g := List.getElem?_eq_none_iff.mp hj
      rw [List.getElem?_eq_none (by omega)]
      all_goals rfl
    | some v =>
      obtain ⟨en, hen, hv⟩ := it.2 j v (by rw [← Array.getElem?_toList]; exact hj)
      have qe := entry_at he j
      rw [hen] at qe
      cases hb : ks[j]? with
      | none => rw [hb] at qe; exact nomatch (show some en = none from qe)
      | some b =>
        rw [hb] at qe
        have e2 : en = entryOfKey (tupleKind (mixKind X.prog X.w)) b := Option.some.inj qe
        rw [hv, e2]
        all_goals rfl
  have ik : IsKeys H kvs (ks.map fun y => y.2.1) := isKeys_of pr
  generalize hbs : (ks.map fun y => y.2.1) = bs at ea ik
  have hlb : bs.length = kvs.length := by rw [← hbs, List.length_map]; omega
  have hpr : ∀ b ∈ bs, ∃ i j : Int, H b = some (.tup [.int i, .int j]) := fun b hb => by
    obtain ⟨n, hn⟩ := List.mem_iff_getElem?.mp hb
    obtain ⟨w, hw, e⟩ := keysGet ik hn
    obtain ⟨i, j, ew⟩ := hpair w (List.mem_of_getElem? hw)
    rw [ew] at e
    exact ⟨i, j, e⟩
  have I1 : Inv X pins σ H { s with heap := h', toks := tk } := I.kept kp
  have hlen : acc.toList.length ≤ sizeLine := by rw [ea, List.length_map, hlb]; exact z
  refine wpAny_bind (wpAny_newList ?_ hlen)
  have hoL : (h'.push (seqObj "list" acc.toList.toArray 0)).get? h'.objs.size = some (seqObj "list" acc.toList.toArray 0) := Heap.get?_push_size _ rfl
  show wpAny _ _ _ _ _ { s with heap := h'.push (seqObj "list" acc.toList.toArray 0), toks := tk }
  have isP : ∀ v ∈ acc.toList, Srt.IsPair (h'.push (seqObj "list" acc.toList.toArray 0)) v (kPair (backV v) H).1 (kPair (backV v) H).2 := fun v hv => by
    rw [ea] at hv
    obtain ⟨b, hb, rfl⟩ := List.mem_map.mp hv
    obtain ⟨i, j, ht⟩ := hpr b hb
    obtain ⟨_, its2, r2, ob, hob, hc, n, hdd⟩ := I1.hok _ _ ht
    obtain ⟨u1, u2, rfl, ri, rj⟩ := vals2 r2
    obtain ⟨t1, rfl⟩ := ri
    obtain ⟨t2, rfl⟩ := rj
    show Srt.IsPair _ _ (kPair (.ref b) H).1 (kPair (.ref b) H).2
    rw [kPair_at ht]
    exact ⟨b, ob, t1, t2, n, rfl, Heap.get?_push_of_some _ hob, hc, hdd⟩
  refine wpAny_bind (wpAny_holding (wpAny_call_entry PyProof.Rows.slot_list_sort ⟨_, hoL, rfl⟩ PyProof.Rows.entry_list_sort
    (SrtO.list_sort_ord (s := { s with heap := h'.push (seqObj "list" acc.toList.toArray 0), toks := tk }) (SrtO.swo_lex fun v => kPair (backV v) H) hoL hlen (fun h2 => SrtO.pairs_sortableO (by omega) isP fun o e => ?_) fun out g1 g2 => ⟨_, rfl, ?_⟩) (PyProof.Rows.args_list_sort _)))
  · have e' : some o = some (seqObj "list" acc.toList.toArray 0) := e.symm.trans hoL
    cases e'
    intro c
    exact absurd (Value.type.inj c) (by decide)
  · obtain ⟨e', he'⟩ := PyProof.Rows.sortedHeap_at (vs := acc.toList) (out := out.toArray) hoL
    have hr : ∀ v ∈ out, ∃ a, v = Value.ref a := fun v hv => by
      have hv2 := g2.perm.mem_iff.mp hv
      rw [ea] at hv2
      obtain ⟨b, _, rfl⟩ := List.mem_map.mp hv2
      exact ⟨b, rfl⟩
    have hb : SrtO.Stb (ltP fun v => kPair v H) (out.map backV) (bs.map V.ref) := by
      have w := SrtO.Stb.map (ltP_swo fun v => kPair v H) backV g2
      rw [ea, List.map_map] at w
      exact w
    have hz2 : (out.map backV).length ≤ sizeLine := by
      rw [hb.len, List.length_map, hlb]
      exact z
    refine wpAny_pure ⟨_, rfl, .ref h'.objs.size, upd H h'.objs.size (.lst (out.map backV)), I1.laid (t' := tk) (fun b u e => ?_) (Nat.le_refl _) ⟨hz2, out, e', vals_back hr, he'⟩, rfl, q bs _ _ ik (SrtO.srtd_map g1) hb (I1.hok.fresh (Nat.le_refl _))⟩
    have hlt : b < h'.objs.size := Heap.lt_size e
    rw [PyProof.Rows.sortedHeap_old (Nat.ne_of_lt hlt) (by rw [size_push']; exact Nat.lt_succ_of_lt hlt)]
    exact Heap.get?_push_of_some _ e
theorem raw_lenT : CallR X (.builtin "len") (fun xs H Q => ∃ (d : Addr) (kvs : List (List Key × V)), xs = [V.ref d] ∧ Rd H d (.dT kvs) ∧ Q (.int kvs.length) H) := by
  intro pins s σ H xs us Q I r h
  obtain ⟨d, kvs, rfl, hd, q⟩ := h
  obtain ⟨u, rfl, rx⟩ := r.one
  cases rx
  obtain ⟨z, hs, ys, rel, dd⟩ := dt_rd I.hok hd
  have hl : kvs.length = ys.length := Paired.length rel
  refine call_len_dictH hs dd (by rw [← hl]; rw [sizeLine_eq] at z; omega) ?_
  rw [← hl]
  exact ⟨.int ((kvs.length : Nat) : Int), H, I.tok _, ⟨_, rfl⟩, q⟩
end
/-! ### pairs in order -/
def clD (q : Int × Int) : D := .tup [.int q.1, .int q.2]
/-- before, by the first, then by the second -/
def LexLt (p q : Int × Int) : Prop := p.1 < q.1 ∨ p.1 = q.1 ∧ p.2 < q.2
def LexLe (p q : Int × Int) : Prop := p.1 < q.1 ∨ p.1 = q.1 ∧ p.2 ≤ q.2
def isCl (q : Int × Int) : List Int := [q.1, q.2]
theorem kT_cl (q : Int × Int) : kT (isCl q) = clD q := rfl
theorem pair_of {K : PySem.W.Frag} {H : Hp} {v : V} {q : Int × Int} (r : Rep K H v (clD q)) : ∃ b, v = .ref b ∧ H b = some (.tup [.int q.1, .int q.2]) := kT_of (k := isCl q) r
theorem pair_rep {K : PySem.W.Frag} {H : Hp} {b : Addr} {q : Int × Int} (h : H b = some (.tup [.int q.1, .int q.2])) : Rep K H (.ref b) (clD q) := kT_rep (k := isCl q) h
/-- from the library's order to the plain one -/
theorem srt_pairs {K : PySem.W.Frag} {H : Hp} {ys xs : List V} {qs : List (Int × Int)} (h1 : SrtO.Srtd (ltP fun v => kPair v H) ys) (h2 : SrtO.Stb (ltP fun v => kPair v H) ys xs) (r : RepL K H xs (qs.map clD)) :
    ∃ us : List (Int × Int), us.Perm qs ∧ us.Pairwise LexLe ∧ RepL K H ys (us.map clD) := by
  have hk : ∀ {xs : List V} {qs : List (Int × Int)}, RepL K H xs (qs.map clD) → (xs.map fun v => kPair v H) = qs := by
    intro xs qs
    induction qs generalizing xs with
    | nil => intro r; cases r; rfl
    | cons p qs ih =>
      intro r
      cases xs with
      | nil => cases r
      | cons x xs =>
        have r' : RepL K H (x :: xs) (clD p :: qs.map clD) := r
        cases r' with
        | cons r1 r2 =>
          obtain ⟨b, rfl, hb⟩ := pair_of r1
          rw [List.map_cons, ih r2, kPair_at hb]
  have hm : ∀ x ∈ xs, Rep K H x (clD (kPair x H)) := by
    intro x hx
    obtain ⟨n, hn⟩ := List.mem_iff_getElem?.mp hx
    obtain ⟨d, hd, rr⟩ := r.getV hn
    rw [List.getElem?_map] at hd
    obtain ⟨p, _, rfl⟩ := Option.map_eq_some_iff.mp hd
    obtain ⟨b, rfl, hb⟩ := pair_of rr
    rw [kPair_at hb]
    exact rr
  refine ⟨ys.map fun v => kPair v H, ?_, ?_, ?_⟩
  · have := h2.perm.map fun v => kPair v H
    rw [hk r] at this
    exact this
  · rw [List.pairwise_map]
    refine h1.imp fun {x y} h => ?_
    have a : ¬ ((kPair y H).1 < (kPair x H).1 ∨ ((kPair y H).1 = (kPair x H).1 ∧ (kPair y H).2 < (kPair x H).2)) := SrtO.lexB_no.mp h
    show (kPair x H).1 < (kPair y H).1 ∨ (kPair x H).1 = (kPair y H).1 ∧ (kPair x H).2 ≤ (kPair y H).2
    omega
  · have hy : ∀ y ∈ ys, Rep K H y (clD (kPair y H)) := fun y hy => hm y (h2.perm.mem_iff.mp hy)
    clear h1 h2 hm r
    induction ys with
    | nil => exact .nil
    | cons y ys ih => exact .cons (hy y (List.mem_cons_self ..)) (ih fun z hz => hy z (List.mem_cons_of_mem _ hz))
/-- tuples of the heap are facts -/
theorem Hd.plT {K : PySem.W.Frag} {r : Sto} {H : Hp} {m : Sto} {T : RT} {vs : List V} {ds : List D} (h : Hd K r H m T) (k : ∀ Hi : Hp, (∀ b xs, H b = some (.tup xs) → Hi b = some (.tup xs)) → RepL K Hi vs ds) : Hd K r H m (PlL T vs ds) := by
  obtain ⟨g0, Hi, g1, g2, g3⟩ := h
  have old : Same Hi (fun a => match Hi a with
    | some u => some u
    | none => match H a with
      | some (.tup xs) => some (.tup xs)
      | _ => none) := fun a u e => by
    show (match Hi a with
      | some u => some u
      | none => match H a with
        | some (.tup xs) => some (.tup xs)
        | _ => none) = some u
    rw [e]
  generalize hG : (fun a => match Hi a with
    | some u => some u
    | none => match H a with
      | some (.tup xs) => some (.tup xs)
      | _ => none : Hp) = G at old
  have at_ : ∀ a, G a = match Hi a with
    | some u => some u
    | none => match H a with
      | some (.tup xs) => some (.tup xs)
      | _ => none := fun a => by rw [← hG]
  refine ⟨g0, G, fun a u e => ?_, fun a o e => ?_, fun v d x => x.elim (fun x => Rep.mono old (g3 v d x)) fun hm => ?_⟩
  · rw [at_] at e
    cases hi : Hi a with
    | some w => rw [hi] at e; cases e; exact g1 _ _ hi
    | none =>
      rw [hi] at e
      cases hh : H a with
      | none => rw [hh] at e; cases e
      | some w =>
        rw [hh] at e
        cases w <;> first | exact e | cases e
  · obtain ⟨q1, u, q2, q3⟩ := g2 a o e
    refine ⟨?_, u, q2, q3.mono old⟩
    rw [at_, q1, q2]
    cases u <;> first | rfl | exact False.elim q3
  · refine (k G fun b xs hb => ?_).mem_zip hm
    rw [at_]
    cases hi : Hi b with
    | some w => rw [g1 _ _ hi] at hb; exact hb
    | none => rw [hb]
theorem Hd.keysD {K : PySem.W.Frag} {r : Sto} {H : Hp} {m : Sto} {T : RT} {ws : List (List Int × V)} {bs : List Addr} (h : Hd K r H m T) (ik : IsKeys H (upT ws) bs) : Hd K r H m (PlL T (bs.map V.ref) ((ws.map (·.1)).map kT)) ∧ (bs.map V.ref).length = ((ws.map (·.1)).map kT).length :=
  ⟨h.plT fun Hi k => keys_rep k ik, by
    have e : (upT ws).length = bs.length := Paired.length ik
    rw [up_len] at e
    simp [e]⟩
section
variable {C : Ct} {W : DW} {δ : Sl} {m : Sto} {e : Expr} {pos : Pos} {Q : D → Sto → Prop}
def sortDT : RLD := fun ds m Q => ∃ d qs es, ds = [d] ∧ DitV m d (qs.map isCl) es ∧ ∀ us : List (Int × Int), us.Perm qs → us.Pairwise LexLe → Q (.lst (us.map clD)) m
def sortPD : RLD := fun ds m Q => ∃ qs : List (Int × Int), ds = [.lst (qs.map clD)] ∧ ∀ us : List (Int × Int), us.Perm qs → us.Pairwise LexLe → Q (.lst (us.map clD)) m
theorem cd_lenDT : CallD C (.builtin "len") lenDT := by
  rintro X fx fr H m T vs ds Q hl hh ⟨d, ks, es, rfl, hm, q⟩
  obtain ⟨v, rfl⟩ := one_of hl
  obtain ⟨a, ws, rfl, hr, e, _, h2⟩ := hh.ditV (PlL.at (i := 0) (v := v) (d := d) rfl rfl) hm
  subst e
  refine wc_of raw_lenT ⟨a, _, rfl, hr, ?_⟩
  rw [up_len]
  rw [List.length_map] at q
  exact dK.le (dk_int hh q) PlL.le
theorem cd_listDT (hcm : C.cm = true := by rfl) : CallD C (.type "list") listDT := by
  rintro X fx fr H m T vs ds Q hl hh ⟨d, ks, es, rfl, hm, q⟩
  obtain ⟨v, rfl⟩ := one_of hl
  obtain ⟨a, ws, rfl, hr, e, _, h2⟩ := hh.ditV (PlL.at (i := 0) (v := v) (d := d) rfl rfl) hm
  subst e
  refine wc_of (call_list_dT (fx.calm hcm)) ⟨a, _, rfl, hr, fun p bs hp ik => ?_⟩
  obtain ⟨h3, dl⟩ := hh.keysD ik
  exact dK.le (dk_lst h3 hp (fun Hi k => PlL.rep dl k) q) (PlL.le.trans PlL.le)
theorem cd_sortDT (hcm : C.cm = true := by rfl) : CallD C (.builtin "sorted") sortDT := by
  rintro X fx fr H m T vs ds Q hl hh ⟨d, qs, es, rfl, hm, q⟩
  obtain ⟨v, rfl⟩ := one_of hl
  obtain ⟨a, ws, rfl, hr, e, _, h2⟩ := hh.ditV (PlL.at (i := 0) (v := v) (d := d) rfl rfl) hm
  refine wc_of (raw_sortedT (fx.calm hcm)) ⟨a, _, rfl, hr, fun w hw => ?_, fun bs ys p ik g1 g2 hp => ?_⟩
  · obtain ⟨w', hw', rfl⟩ := List.mem_map.mp hw
    have hk : w'.1 ∈ qs.map isCl := by rw [← e]; exact List.mem_map.mpr ⟨w', hw', rfl⟩
    obtain ⟨p, _, ep⟩ := List.mem_map.mp hk
    exact ⟨p.1, p.2, by show keyT w'.1 = _; rw [← ep]; rfl⟩
  · have rk : ∀ Hi : Hp, (∀ b xs, H b = some (.tup xs) → Hi b = some (.tup xs)) → RepL C.K Hi (bs.map V.ref) (qs.map clD) := fun Hi k => by
      have := keys_rep (K := C.K) k ik
      rw [e, List.map_map] at this
      exact this
    obtain ⟨us, u1, u2, u3⟩ := srt_pairs (K := C.K) g1 g2 (rk H fun _ _ x => x)
    have h3 := hh.plT (vs := ys) (ds := us.map clD) fun Hi k => by
      have all : ∀ {ys : List V} {us : List (Int × Int)}, RepL C.K H ys (us.map clD) → RepL C.K Hi ys (us.map clD) := by
        intro ys us
        induction us generalizing ys with
        | nil => intro r; cases r; exact .nil
        | cons p us ih =>
          intro r
          cases ys with
          | nil => cases r
          | cons y ys =>
            have r' : RepL C.K H (y :: ys) (clD p :: us.map clD) := r
            cases r' with
            | cons r1 r2 =>
              obtain ⟨b, rfl, hb⟩ := pair_of r1
              exact .cons (pair_rep (k _ _ hb)) (ih r2)
      exact all u3
    exact dK.le (dk_lst h3 hp (fun Hi k => PlL.rep u3.length k) (q us u1 u2)) (PlL.le.trans PlL.le)
theorem cd_sortPD : CallD C (.builtin "sorted") sortPD := by
  rintro X fx fr H m T vs ds Q hl hh ⟨qs, rfl, q⟩
  obtain ⟨v, rfl⟩ := one_of hl
  obtain ⟨a, xs, rfl, hq, hl2, h4⟩ := hh.itemsL (PlL.at (i := 0) (v := v) rfl rfl)
  have rx : RepL C.K H xs (qs.map clD) := RepL.of_zip hl2 fun v d z => h4.rep (.inr z)
  have hk : ∀ x ∈ xs, ∃ t, x = V.ref t ∧ H t = some (.tup [.int (kPair x H).1, .int (kPair x H).2]) := fun x hx => by
    obtain ⟨n, hn⟩ := List.mem_iff_getElem?.mp hx
    obtain ⟨d, hd, rr⟩ := rx.getV hn
    rw [List.getElem?_map] at hd
    obtain ⟨p, _, rfl⟩ := Option.map_eq_some_iff.mp hd
    obtain ⟨b, rfl, hb⟩ := pair_of rr
    rw [kPair_at hb]
    exact ⟨b, rfl, hb⟩
  refine wc_of cr_sortedPO ⟨a, xs, fun v => kPair v H, rfl, SqL.of hq, hk, fun ys p g1 g2 hp => ?_⟩
  obtain ⟨us, u1, u2, u3⟩ := srt_pairs (K := C.K) g1 g2 rx
  have h3 := hh.plT (vs := ys) (ds := us.map clD) fun Hi k => by
    have all : ∀ {ys : List V} {us : List (Int × Int)}, RepL C.K H ys (us.map clD) → RepL C.K Hi ys (us.map clD) := by
      intro ys us
      induction us generalizing ys with
      | nil => intro r; cases r; exact .nil
      | cons p us ih =>
        intro r
        cases ys with
        | nil => cases r
        | cons y ys =>
          have r' : RepL C.K H (y :: ys) (clD p :: us.map clD) := r
          cases r' with
          | cons r1 r2 =>
            obtain ⟨b, rfl, hb⟩ := pair_of r1
            exact .cons (pair_rep (k _ _ hb)) (ih r2)
    exact all u3
  exact dK.le (dk_lst h3 hp (fun Hi k => PlL.rep u3.length k) (q us u1 u2)) (PlL.le.trans PlL.le)
end
end G

/-! The data layer: len of instances by their own methods. -/
namespace G
open PySem PySem.Spec PyProof.Rows L2
section
variable {C : Ct} {W : DW} {δ : Sl} {m : Sto} {a b c e o : Expr} {es : List Expr} {pos pos' apos p : Pos} {Q : D → Sto → Prop} {D : DEn} {cA : Addr} {f x : Str}
/-- len(o), o an instance with an own __len__ -/
theorem de_lenI {k : Nat} {F : DF} (kn : KnM C.P C.w C.K C.mg C.base cA "__len__" k F) (hk : Nat.ble (k + 1) C.k = true) (hg : GlC C "len") (hmg : C.mg "len" = none)
    (h : DA C W [e] δ m fun ds m1 => ∃ a fs, ds = [.ref a] ∧ m1 a = some (.ins cA fs) ∧ F [.ref a] m1 (fun d m2 => ∃ n : Nat, d = .int (n : Nat) ∧ n ≤ sizeLine ∧ Q (.int (n : Nat)) m2) fun cls fs m' => W cls fs δ m') (hcm : C.cm = true := by rfl)
    (he : ∀ env, starEach [e] env = (false, eval e env) :: starEach [] env := by intro _; rfl) : DE C W (.Call (.Name "len" p) [e] [] pos) δ m Q := by
  intro X S fX tk σ H T le sl hh pins s I
  obtain ⟨f, fd, ps, ok, hm, hb⟩ := kn.ex
  obtain ⟨j, hj⟩ : ∃ j, C.k = j + 1 := ⟨C.k - 1, by have := Nat.le_of_ble_eq_true hk; omega⟩
  have hkj : k ≤ j := by have := Nat.le_of_ble_eq_true hk; omega
  rw [← fX.prog, ← fX.w, ← fX.K, ← fX.mg, ← fX.base] at ok
  rw [← fX.K] at hm hb
  refine wpAny_Call_Name_kw (ld_blt I (fX.gl hg) (by rw [fX.mg]; exact hmg) (show bootBuiltins "len" = some (.builtin "len") by decide +kernel) ?_ (by decide) (by decide))
  refine PyProof.Rows.callWith_builtin1 (thn (h X S fX tk σ H T le sl hh pos pins s I) fun us s1 ⟨vs, H1, I1, rx, ds, m1, hl1, h1, a, fs, ed, hma, q⟩ => ?_) (he _) rfl
  subst ed
  obtain ⟨v, rfl⟩ := one_of hl1
  have r := h1.rep (PlL.at (i := 0) (v := v) (d := .ref a) rfl rfl)
  cases r
  cases rx with
  | cons rx rr =>
  cases rr
  cases rx
  obtain ⟨dx, gs, hu, hn, hl, _⟩ := h1.insO hma
  obtain ⟨mA, J, _⟩ := ins_get I1.hok hu
  obtain ⟨od, J, _⟩ := J.look
  have X1 := I1.kIn
  have hr : Room (j + 1) X.A := by rw [← hj]; exact fX.room hcm
  have sb : Sub X j X.A.in1 := (⟨hr, rfl⟩ : Sub X (j + 1) X.A).in1
  have z : spD X.K F [.ref a] H1 (fun v H' => ∃ d m', Hd C.K S.r H' m' (Pl T v d) ∧ ∃ n : Nat, d = .int (n : Nat) ∧ n ≤ sizeLine ∧ Q (.int (n : Nat)) m') (L2.WE (liftW C.K W S) σ) := by
    rw [fX.K]
    exact spD_at (X := X) (S := S) (σ := σ) (Q := fun d m2 => ∃ n : Nat, d = .int (n : Nat) ∧ n ≤ sizeLine ∧ Q (.int (n : Nat)) m2) (W := W) (δ := δ) le sl (vs := [.ref a]) (ds := [.ref a]) rfl h1 q
  refine PySem.Calls.call_function_entry kind_len plain_len entry_len (args_len1 _) ?_
  unfold Builtin.«len»
  refine wpAny_bind (m := oneArg "len" _) (wpAny_pure ?_)
  unfold callSpecial? specialOf
  refine wpAny_bind (wpAny_bind (wpAny_bind (J.type.here ((PySem.W.looks_findIn X1 hm.at_).here ?_))))
  refine wpAny_holding ?_
  refine wpAny_bind ((PySem.W.bind_fn X1 _ (beq_iff_eq.mp hm.fn)).here ?_)
  refine wpAny_bind (wpAny_mono (own_call (ok.mono hkj) sb hb (passAt tk σ) I1 (show Vals [V.ref a] [Value.ref a] from .cons rfl .nil) z) (fun u s2 hv => ?_) fun _ _ y => y)
  obtain ⟨v, H2, I2, rv, d, m2, h2, n, ed, hn3, q2⟩ := hv
  subst ed
  have r2 := h2.rep Pl.it
  cases r2
  obtain ⟨t, rfl⟩ := rv
  have hz := sizeLine_eq
  refine wpAny_pure ?_
  refine wpAny_bind (wpAny_holding (wpAny_pure ?_))
  refine wpAny_bind (wpAny_letGo ?_)
  show wpAny _ _ (if ((n : Nat) : Int) < 0 then _ else _) _ _ _
  rw [if_neg (by omega)]
  show wpAny _ _ (if ((n : Nat) : Int) ≥ 2 ^ 63 then _ else _) _ _ _
  rw [if_neg (by omega)]
  exact wpAny_bind (wpAny_mkInt (wpAny_pure ⟨_, rfl, V.int n, H2, I2.tok _, ⟨_, rfl⟩, .int n, m2, h2, q2⟩))
end
end G

/-! The data layer: an instance made without positional arguments; a constant tuple of the program's top. -/
namespace G
open PySem PySem.Spec PyProof.Rows L2
section
variable {C : Ct} {W : DW} {δ : Sl} {m : Sto} {a b c e o i f : Expr} {es : List Expr} {pos pos' apos cpos : Pos} {Q : D → Sto → Prop} {D : DEn} {cA : Addr} {x : Str}
/-- C(k = v, ..), C() -/
theorem de_make0 {p : Pos} {k : Nat} {F : DF} {kws : List Keyword} {ks : List Str} {gD : List G.D → List G.D → List G.D} (kn : KnI C.P C.w C.K C.mg C.base x cA k F 0 ks gD) (hk : Nat.ble (k + 1) C.k = true) (hg : GlC C x)
    (h : DKs C W δ kws m fun zs m2 => ∀ a, m2 a = none → F (gD [.ref a] zs) (sput m2 a (.ins cA [])) (fun d m3 => d = .non ∧ Q (.ref a) m3) fun cls fs m' => W cls fs δ m') (hkl : kws.length = ks.length := by rfl) (hdb : (x == ("__debug__" : Str)) = false := by decide) (hcm : C.cm = true := by rfl)
    (hall : ∀ env, (backToKw pos (keywordEach kws env)).all (·.1.isSome) = true := by intro _; rfl) (hks : ∀ env, (backToKw pos (keywordEach kws env)).filterMap (·.1) = ks := by intro _; rfl)
    (hpl : ∀ env, ((backTo pos (starEach [] env)).any (·.1) || (backToKw pos (keywordEach kws env)).any (·.1.isNone)) = false := by intro _; rfl) : DE C W (.Call (.Name x p) [] kws pos) δ m Q := by
  intro X S fX tk σ H T le sl hh pins s I
  obtain ⟨f, fd, ps, g, gV, M, hm, ok, hb, hrep⟩ := kn.ex
  obtain ⟨j, hj⟩ : ∃ j, C.k = j + 1 := ⟨C.k - 1, by have := Nat.le_of_ble_eq_true hk; omega⟩
  have hkj : k ≤ j := by have := Nat.le_of_ble_eq_true hk; omega
  rw [← fX.prog, ← fX.w, ← fX.K, ← fX.mg, ← fX.base] at ok
  rw [← fX.K] at M hb
  refine wpAny_Call_Name_kw (ld_glob I (fX.gl hg) (by rw [fX.mg]; exact hm) ?_ hdb)
  refine PySem.W.callWith_KW0 (h₀ := X.base) I.ok.mod.kin M.kp (hall _) ?_ (hpl _)
  refine thn ((pkT_ok kws).run pos pins s σ H _ I (pkT_run fX tk kws le sl hh h)) fun ws s2 ⟨zs, H2, I2, rz, es2, m2, hl2, hlk2, h2, q2⟩ => ⟨I2.kIn, ?_⟩
  have hlz : zs.length = ks.length := hl2.trans (hlk2.trans hkl)
  rw [hks]
  have hr : Room (j + 1) X.A := by rw [← hj]; exact fX.room hcm
  refine run_makeS (E := L2.WE (liftW C.K W S) σ) (us := []) (vs := []) M (ok.mono hkj) hr hb (passAt tk σ) I2 .nil rz rfl hlz fun x dx hx hdx hne => ?_
  have h4 : Hd C.K S.r (upd (upd H2 dx (.own x)) x (.ins cA dx [])) (sput m2 x (.ins cA [])) (Pl (PlL T zs es2) (.ref x) (.ref x)) := (h2.grow hdx).newM (by rw [upd_ne (Ne.symm hne)]; exact hx) fun _ _ => ⟨rfl, rfl, .nil⟩
  have reps : ∀ Hi, (∀ v d, Pl (PlL T zs es2) (.ref x) (.ref x) v d → Rep C.K Hi v d) → RepL C.K Hi (gV [.ref x] zs) (gD [.ref x] es2) := fun Hi f => hrep Hi _ _ _ _ (.cons (.ref x) .nil) (RepL.of_zip hl2 fun v d q => f v d (.inl (.inr q)))
  have h5 : Hd C.K S.r (upd (upd H2 dx (.own x)) x (.ins cA dx [])) (sput m2 x (.ins cA [])) (PlL T (gV [.ref x] zs) (gD [.ref x] es2)) := h4.more fun Hi f v d t => by
    rcases t with t | t
    · exact f v d (.inl (.inl t))
    · exact RepL.zip (reps Hi f) v d t
  have len : (gV [.ref x] zs).length = (gD [.ref x] es2).length := by
    obtain ⟨_, Hi, _, _, h6⟩ := h4
    exact (reps Hi h6).length
  have z : spD C.K F (gV [.ref x] zs) (upd (upd H2 dx (.own x)) x (.ins cA dx [])) (fun v H' => v = .non ∧ ∃ d m', Hd C.K S.r H' m' (Pl T (.ref x) d) ∧ Q d m') (L2.WE (liftW C.K W S) σ) :=
    ⟨_, _, T, S.r, _, _, len, h5, q2 x (h2.free hx), fun d m' ⟨e, q'⟩ v H' h' => by
      subst e
      have rv := h'.rep Pl.it
      cases rv
      exact ⟨rfl, .ref x, m', (h'.le Pl.le).pl fun _ _ => .ref x, q'⟩, fun cls fs m' w' dd H' T' l' h' xd => ⟨δ, m', T', fs, le.trans l', sl.le l', h', xd, w'⟩⟩
  rw [← fX.K] at z ⊢
  exact z
end
/-! ### a constant tuple of texts and truths -/
/-- a text, a truth -/
inductive Cst where | s (z : Str) | b (v : Bool)
def Cst.V : Cst → L2.V
  | .s z => .str z
  | .b v => .bl v
def Cst.D : Cst → G.D
  | .s z => .str z
  | .b v => .bl v
def TupC (K : PySem.W.Frag) (mg : Str → Option Value) (x : Str) (zs : List Cst) : Prop := ∃ a o its n, mg x = some (.ref a) ∧ K.lookup a = some o ∧ o.cls = .type "tuple" ∧ o.data = .seq its n ∧ its.size ≤ sizeLine ∧ Vals (zs.map Cst.V) its.toList
theorem repL_cst {K : PySem.W.Frag} {H : Hp} : ∀ zs : List Cst, RepL K H (zs.map Cst.V) (zs.map Cst.D)
  | [] => .nil
  | .s z :: zs => .cons (.str z) (repL_cst zs)
  | .b v :: zs => .cons (.bl v) (repL_cst zs)
theorem cst_ints {zs : List Cst} (h : zs ≠ []) {ns : List Int} : ¬ zs.map Cst.D = ns.map G.D.int := by
  cases zs with
  | nil => exact absurd rfl h
  | cons z zs => cases ns <;> cases z <;> simp [Cst.D]
theorem de_tupC {C : Ct} {W : DW} {δ : Sl} {m : Sto} {pos : Pos} {Q : G.D → Sto → Prop} {x : Str} {zs : List Cst} (hk : TupC C.K C.mg x zs) (hg : GlC C x) (q : Q (.tup (zs.map Cst.D)) m) (hz : zs ≠ [] := by simp) (hd : (x == ("__debug__" : Str)) = false := by decide) : DE C W (.Name x pos) δ m Q := by
  obtain ⟨a, o, its, n, h1, h2, h3, h5, h6, h7⟩ := hk
  intro X S f tk σ H T0 le sl hh
  refine WE.of (pe_glob (v := .ref a) (f.gl hg) (by rw [f.mg]; exact h1) rfl hd) ?_
  exact dk hh (fun Hi _ => Rep.tup (.inr ⟨o, its, n, h2, h3, h5, h6, h7⟩) (fun ns e => absurd e (cst_ints hz)) (repL_cst zs)) q
def cstsB : List Value → List Cst → Bool
  | [], [] => true
  | .str y _ :: vs, .s z :: zs => decide (y = z) && cstsB vs zs
  | .bool y :: vs, .b z :: zs => decide (y = z) && cstsB vs zs
  | _, _ => false
theorem cstsB_ok : ∀ {zs : List Cst} {vs : List Value}, cstsB vs zs = true → Vals (zs.map Cst.V) vs
  | [], vs, h => by
    cases vs with
    | nil => exact .nil
    | cons v vs => cases v <;> simp [cstsB] at h
  | .s z :: zs, vs, h => by
    cases vs with
    | nil => simp [cstsB] at h
    | cons v vs =>
      cases v with
      | str y t =>
        simp only [cstsB, Bool.and_eq_true, decide_eq_true_eq] at h
        obtain ⟨rfl, h⟩ := h
        exact .cons ⟨t, rfl⟩ (cstsB_ok h)
      | _ => simp [cstsB] at h
  | .b z :: zs, vs, h => by
    cases vs with
    | nil => simp [cstsB] at h
    | cons v vs =>
      cases v with
      | bool y =>
        simp only [cstsB, Bool.and_eq_true, decide_eq_true_eq] at h
        obtain ⟨rfl, h⟩ := h
        exact .cons rfl (cstsB_ok h)
      | _ => simp [cstsB] at h
end G

/-! Facts at the head: constant tuples of texts and truths. -/
namespace G
open PySem PySem.Spec PyProof.Rows L2
def tupcB (K : PySem.W.Frag) (x : Str) (zs : List Cst) : Bool := match K.lookup (He.ga K x) with
  | some ⟨.type c, _, .seq its _, _⟩ => decide (c = "tuple") && (decide (its.size ≤ sizeLine) && cstsB its.toList zs)
  | _ => false
theorem tupcB_ok {K : PySem.W.Frag} {mg : Str → Option Value} {x : Str} {zs : List Cst} (h : tupcB K x zs = true) (hm : mg x = some (.ref (He.ga K x))) : TupC K mg x zs := by
  unfold tupcB at h
  cases q : K.lookup (He.ga K x) with
  | none =>
    rw [q] at h
    cases h
  | some o =>
    obtain ⟨oc, od, dt, osl⟩ := o
    rw [q] at h
    cases oc with
    | type c =>
      cases dt with
      | seq its n =>
        obtain ⟨h1, h2⟩ := He.ba h
        obtain ⟨h3, h4⟩ := He.ba h2
        have e : c = "tuple" := of_decide_eq_true h1
        exact ⟨_, _, its, n, hm, q, congrArg Value.type e, rfl, of_decide_eq_true h3, cstsB_ok h4⟩
      | _ => cases h
    | _ => cases dt <;> cases h
end G

set_option maxHeartbeats 0
namespace K26
open PySem PySem.Spec PyProof.Rows L2 G
def d__law_begin : He.DefD := ⟨("_law_begin", none), "_law_begin", "_law_begin", defArgs s__law_begin, defBody s__law_begin, defScope s__law_begin, [], []⟩
def d__law_pick : He.DefD := ⟨("_law_pick", none), "_law_pick", "_law_pick", defArgs s__law_pick, defBody s__law_pick, defScope s__law_pick, [], []⟩
def d__law_same : He.DefD := ⟨("_law_same", none), "_law_same", "_law_same", defArgs s__law_same, defBody s__law_same, defScope s__law_same, [], []⟩
def d__law_one : He.DefD := ⟨("_law_one", none), "_law_one", "_law_one", defArgs s__law_one, defBody s__law_one, defScope s__law_one, [], []⟩
def d__law_rows : He.DefD := ⟨("_law_rows", none), "_law_rows", "_law_rows", defArgs s__law_rows, defBody s__law_rows, defScope s__law_rows, [], []⟩
def d_with_text : He.DefD := ⟨("with_text", none), "with_text", "with_text", defArgs s_with_text, defBody s_with_text, defScope s_with_text, [], []⟩
def d_with_shift : He.DefD := ⟨("with_shift", none), "with_shift", "with_shift", defArgs s_with_shift, defBody s_with_shift, defScope s_with_shift, [], []⟩
def d_behind_steps : He.DefD := ⟨("behind_steps", none), "behind_steps", "behind_steps", defArgs s_behind_steps, defBody s_behind_steps, defScope s_behind_steps, [], []⟩
def d_puts : He.DefD := ⟨("puts", none), "puts", "puts", defArgs s_puts, defBody s_puts, defScope s_puts, [], []⟩
def d__law_puts : He.DefD := ⟨("_law_puts", none), "_law_puts", "_law_puts", defArgs s__law_puts, defBody s__law_puts, defScope s__law_puts, [], []⟩
def d_law : He.DefD := ⟨("law", none), "law", "law", defArgs s_law, defBody s_law, defScope s_law, [], []⟩
def fn : List He.DefD := [d__law_begin, d__law_pick, d__law_same, d__law_one, d__law_rows, d_with_text, d_with_shift, d_behind_steps, d_puts, d__law_puts, d_law]
def fa0 : List He.Fa := [.glo "_law_begin", .glo "_law_pick", .glo "_law_same", .glo "_law_one", .glo "_law_rows", .glo "with_text", .glo "with_shift", .glo "behind_steps", .glo "puts", .glo "_law_puts", .glo "law", .free "list", .free "len", .free "isinstance", .free "bool", .free "int", .free "str", .free "tuple", .free "all", .free "range"]
def fa1 : List He.Fa := [.free "enumerate", .free "zip"]
def fa : List He.Fa := fa0 ++ fa1
def ex (K : PySem.W.Frag) : Bool := true
abbrev R : PySem.W.OpenRow := PySem.W.OpenLaw.row PySem.Challenge.rw_gridscope_k26_puts_between_drawings
abbrev hk : PySem.W.Hook := He.hookX 4 fa fn [] [] ex
def ob (s : PySem.W.SharedT) : He.AlX := He.obsX 4 fa fn [] [] ex (HandSHeadRun.getT s)
theorem ob_eq (s : PySem.W.SharedT) : ob s = hk.obs s.abs := He.obsX_eq (HandSHeadRun.getT_eq s)
def loose : List Str := ["puts", "with_text", "with_shift", "behind_steps", "_law_pick", "_law_one", "_law_begin", "_law_same", "_law_puts", "_law_rows"]
theorem run (w : World) : HandSHeadRun.RunEq R (PySem.W.view R.prog [12]) hk ob 20000 loose w := by
  intro os
  kernel_rfl
theorem facts {P : Program} {w : World} {K : PySem.W.Frag} {h : Heap} {mg : Str → Option Value} {f : Addr} (X : K.In h) (G : h.Ns mainGlobals mg) (hfa : mg ("law" : Str) = some (.ref f)) (cx : He.SaysX fa fn [] [] ex w h K) :
    ∃ fd : FuncData, (∀ (s : Shared) (v : Value), BindsTo s fd ⟨[v], []⟩ [("_law_script", v)]) ∧ ∀ base : Heap, K.In base → base.Ns mainGlobals mg → FnOk P w K mg base (L2.CX P w) 5 f fd ["_law_script"] (spD K FLaw) := by
  have c := cx.t.d
  obtain ⟨fd__law_begin, F__law_begin⟩ := c.def_ 0 (d := d__law_begin) rfl
  obtain ⟨fd__law_pick, F__law_pick⟩ := c.def_ 1 (d := d__law_pick) rfl
  obtain ⟨fd__law_same, F__law_same⟩ := c.def_ 2 (d := d__law_same) rfl
  obtain ⟨fd__law_one, F__law_one⟩ := c.def_ 3 (d := d__law_one) rfl
  obtain ⟨fd__law_rows, F__law_rows⟩ := c.def_ 4 (d := d__law_rows) rfl
  obtain ⟨fd_with_text, F_with_text⟩ := c.def_ 5 (d := d_with_text) rfl
  obtain ⟨fd_with_shift, F_with_shift⟩ := c.def_ 6 (d := d_with_shift) rfl
  obtain ⟨fd_behind_steps, F_behind_steps⟩ := c.def_ 7 (d := d_behind_steps) rfl
  obtain ⟨fd_puts, F_puts⟩ := c.def_ 8 (d := d_puts) rfl
  obtain ⟨fd__law_puts, F__law_puts⟩ := c.def_ 9 (d := d__law_puts) rfl
  obtain ⟨fd_law, F_law⟩ := c.def_ 10 (d := d_law) rfl
  have g__law_begin := He.glo_ok X G (c.fact 0 (f := .glo "_law_begin") rfl)
  have g__law_pick := He.glo_ok X G (c.fact 1 (f := .glo "_law_pick") rfl)
  have g__law_same := He.glo_ok X G (c.fact 2 (f := .glo "_law_same") rfl)
  have g__law_one := He.glo_ok X G (c.fact 3 (f := .glo "_law_one") rfl)
  have g__law_rows := He.glo_ok X G (c.fact 4 (f := .glo "_law_rows") rfl)
  have g_with_text := He.glo_ok X G (c.fact 5 (f := .glo "with_text") rfl)
  have g_with_shift := He.glo_ok X G (c.fact 6 (f := .glo "with_shift") rfl)
  have g_behind_steps := He.glo_ok X G (c.fact 7 (f := .glo "behind_steps") rfl)
  have g_puts := He.glo_ok X G (c.fact 8 (f := .glo "puts") rfl)
  have g__law_puts := He.glo_ok X G (c.fact 9 (f := .glo "_law_puts") rfl)
  have g_law := He.glo_ok X G (c.fact 10 (f := .glo "law") rfl)
  have m_list : mg "list" = none := He.free_ok X G (c.fact 11 (f := .free "list") rfl)
  have m_len : mg "len" = none := He.free_ok X G (c.fact 12 (f := .free "len") rfl)
  have m_isinstance : mg "isinstance" = none := He.free_ok X G (c.fact 13 (f := .free "isinstance") rfl)
  have m_bool : mg "bool" = none := He.free_ok X G (c.fact 14 (f := .free "bool") rfl)
  have m_int : mg "int" = none := He.free_ok X G (c.fact 15 (f := .free "int") rfl)
  have m_str : mg "str" = none := He.free_ok X G (c.fact 16 (f := .free "str") rfl)
  have m_tuple : mg "tuple" = none := He.free_ok X G (c.fact 17 (f := .free "tuple") rfl)
  have m_all : mg "all" = none := He.free_ok X G (c.fact 18 (f := .free "all") rfl)
  have m_range : mg "range" = none := He.free_ok X G (c.fact 19 (f := .free "range") rfl)
  have m_enumerate : mg "enumerate" = none := He.free_ok X G (c.fact 20 (f := .free "enumerate") rfl)
  have m_zip : mg "zip" = none := He.free_ok X G (c.fact 21 (f := .free "zip") rfl)
  have e := hfa.symm.trans g_law
  cases e
  have b := FunD.bindsA (ps := ["_law_script"]) F_law fun _ _ _ _ _ _ us hl => match us, hl with | [_], _ => rfl
  refine ⟨fd_law, fun s v => b s [v] rfl, fun base _ _ => ?_⟩
  have k__law_begin := kn__law_begin (P := P) (w := w) (mg := mg) (base := base) F__law_begin g__law_begin m_list
  have k__law_pick := kn__law_pick (P := P) (w := w) (mg := mg) (base := base) F__law_pick g__law_pick m_len
  have k__law_same_FSame_1 := kn__law_same (P := P) (w := w) (mg := mg) (base := base) F__law_same g__law_same m_isinstance m_bool m_int m_str m_list m_tuple m_len m_all m_range 1 (by decide)
  have k__law_same_FSame_2 := kn__law_same (P := P) (w := w) (mg := mg) (base := base) F__law_same g__law_same m_isinstance m_bool m_int m_str m_list m_tuple m_len m_all m_range 2 (by decide)
  have k__law_sameO := kn__law_sameO (P := P) (w := w) (mg := mg) (base := base) F__law_same g__law_same m_isinstance m_bool m_int m_str m_list m_tuple m_len m_all m_range 1 k__law_same_FSame_1
  have k__law_one := kn__law_one (P := P) (w := w) (mg := mg) (base := base) F__law_one g__law_one m_len k__law_pick
  have k__law_rows := kn__law_rows (P := P) (w := w) (mg := mg) (base := base) F__law_rows g__law_rows m_range k__law_one
  have k_with_text := kn_with_text (P := P) (w := w) (mg := mg) (base := base) F_with_text g_with_text m_len
  have k_with_shift := kn_with_shift (P := P) (w := w) (mg := mg) (base := base) F_with_shift g_with_shift m_range m_list
  have k_behind_steps := kn_behind_steps (P := P) (w := w) (mg := mg) (base := base) F_behind_steps g_behind_steps m_list m_tuple k_with_text k_with_shift
  have k_puts := kn_puts (P := P) (w := w) (mg := mg) (base := base) F_puts g_puts m_enumerate m_zip
  have k__law_puts := kn__law_puts (P := P) (w := w) (mg := mg) (base := base) F__law_puts g__law_puts m_range m_len
  exact ok_law F_law m_range m_list k__law_begin k__law_pick k__law_rows k__law_same_FSame_2 k__law_sameO k_behind_steps k_puts k__law_puts
end K26
open PySem PySem.W PySem.Calls PyProof.Rows
theorem PySem.Challenge.cw_gridscope_k26_puts_between_drawings_holds : PySem.Challenge.rw_gridscope_k26_puts_between_drawings.Holds := by
  w_on; o_law
  refine HandSHeadRun.head_any (r := K26.R) (q := view K26.R.prog [12]) (H := K26.hk) (ob := K26.ob) (M := 20000) (loose := K26.loose) (d := HandSHeadRun.topDef K26.R.prog 12) (kwd := []) K26.ob_eq
    (by kernel_rfl) (fun s => by kernel_rfl) K26.run (by kernel_rfl) (by kernel_rfl) (by kernel_rfl) (by rfl) (by first | assumption | decide +kernel) (by decide +kernel) ⟨rfl, rfl, rfl, rfl, rfl, by decide +kernel⟩ ?hw ?hc
  case hw => w_witness2
  case hc =>
    refine G.walk_w (l := PySem.Challenge.rw_gridscope_k26_puts_between_drawings) (k := 5) (x := "_law_script") rfl (by kernel_rfl) ⟨rfl, by decide, by decide⟩ ?F
    intro w mg fa h Y gns at0
    obtain ⟨K, KX, c⟩ := Y
    have at1 : mg ("law" : PySem.Str) = some (.ref fa) := by
      have e : (HandSHeadRun.topDef K26.R.prog 12).name = ("law" : PySem.Str) := by kernel_rfl
      rw [← e]
      exact at0
    obtain ⟨fd, bind, ok⟩ := K26.facts (P := (PySem.Challenge.rw_gridscope_k26_puts_between_drawings).prog) (w := w) KX gns at1 c
    exact ⟨K, fd, KX, bind, ok⟩

